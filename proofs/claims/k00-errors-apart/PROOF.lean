import PyProof.Rows.All
import Wide.All
import OpenK.AllK
import Wide.FinOn
import KE.SortData
import HandS.ForMost
import HandS.Wide
import HandS.Deep
import HandS.Exc
import HandS.TryMany
import HandS.Conv
import HandS.TupLe
import HandS.Style
import HandS.Zip
import HandS.IsInst
import HandS.SetFor
import HandS.Strs
import HandS.Defaults
import HandS.HeadHook2
import HandS.SetBool
import HandS.Ends
import HandS.EndBits
import HandS.Head0
import HandS.Head1
import HandS.Head2
import HandS.HeadEnd
import HandS.HeadHook1
import KE.KExcSuper
import HandS.ExcField
import HandS.ExcInit
import HandS.TupSets
import KE.KSortTupG
import HandS.ExcValue
import HandS.DictComp
import HandS.TryOnly
import HandS.Sort
import KE.SortKeyHeap
import ObjForm.LawKit
import HandS.ExcIs
import PySem.Challenge.RW_causeway_k00_errors_are_apart
set_option Elab.async false
set_option linter.all false
set_option maxRecDepth 100000
/-! VL, part 1: a small core language over plain data, and what it computes. -/
namespace VL
open PySem

abbrev Val := PyData

/-- an end: a value, an error of the program (its class, its one argument), or nothing that is known -/
inductive Res (α : Type) where
  | ok (a : α)
  | exc (c : Str) (v : Val)
  | bad

namespace Res
variable {α β : Type}
def bind (r : Res α) (f : α → Res β) : Res β := match r with
  | .ok a => f a
  | .exc c v => .exc c v
  | .bad => .bad
/-- no error may leave: where the layer has no rule for it -/
def quiet (r : Res α) : Res α := match r with
  | .exc _ _ => .bad
  | r => r
@[simp] theorem bind_ok (a : α) (f : α → Res β) : (Res.ok a).bind f = f a := rfl
theorem bind_eq_ok {r : Res α} {f : α → Res β} {b : β} (h : r.bind f = .ok b) : ∃ a, r = .ok a ∧ f a = .ok b := by
  cases r with
  | ok a => exact ⟨a, rfl, h⟩
  | exc c v => cases h
  | bad => cases h
theorem quiet_eq_ok {r : Res α} {b : α} (h : r.quiet = .ok b) : r = .ok b := by
  cases r with
  | ok a => exact h
  | exc c v => cases h
  | bad => cases h
theorem quiet_ne_exc {r : Res α} {c : Str} {v : Val} : r.quiet ≠ .exc c v := by
  cases r <;> intro h <;> cases h
def guard (c : Bool) (r : Res α) : Res α := match c with
  | true => r
  | false => .bad
theorem guard_ok {c : Bool} {r : Res α} {a : α} (h : guard c r = .ok a) : c = true ∧ r = .ok a := by
  cases c with
  | true => exact ⟨rfl, h⟩
  | false => cases h
end Res

/-- the operations on values -/
inductive Op where
  | add | sub | mul | fdiv | mod | pow | shl | shr | band | bor | neg | not
  | eq | ne | lt | le | gt | ge | isin | notin | isNone | notNone | isB (b : Bool) | notB (b : Bool)
  | idx | slice (lo hi : Bool) | rev
  | tup (stars : List Bool) | lst (d : Nat) (stars : List Bool)
  | len | list | range | sorted | sortedSet | min | max | abs | int | all | any | sum | repr | isT (t : Nat) | enum | zip | count | index | sortSetT | sortSetI
  | didx | din | dnotin | lenSetI | sortLen | sortSetD | toTup | tailT
  | mkErr (c : Str) | errAt (ns : List Str) | isErr (ns : List Str) (c : Str)
  deriving DecidableEq

def seqOf : Val → Option (List Val)
  | .list xs => some xs
  | .tuple xs => some xs
  | _ => none

def intsOf : List Val → Option (List Int)
  | [] => some []
  | .int i :: r => (intsOf r).map (i :: ·)
  | _ :: _ => none
def boolsOf : List Val → Option (List Bool)
  | [] => some []
  | .bool b :: r => (boolsOf r).map (b :: ·)
  | _ :: _ => none

/-- lo, lo + 1, .. below hi -/
def rng (lo hi : Int) : List Val := (List.range (hi - lo).toNat).map fun i => .int (lo + (i : Nat))

def small (i : Int) : Bool := decide (-(2 ^ 62) ≤ i) && decide (i < 2 ^ 62)
def sizeOk (n : Nat) : Bool := decide (n ≤ sizeLine)
def shapedB (v : Val) : Bool := SeqAt.shaped v

def vAdd : Val → Val → Res Val
  | .int a, .int b => .ok (.int (a + b))
  | .list xs, .list ys => Res.guard (sizeOk (xs.length + ys.length)) (.ok (.list (xs ++ ys)))
  | _, _ => .bad
def vSub : Val → Val → Res Val
  | .int a, .int b => .ok (.int (a - b))
  | _, _ => .bad
def mulOk (a b : Int) : Bool := decide (a.natAbs.log2 + b.natAbs.log2 < 900000)
def vMul : Val → Val → Res Val
  | .int a, .int b => Res.guard (mulOk a b) (.ok (.int (a * b)))
  | _, _ => .bad
def divOk (b : Int) : Bool := decide (0 < b) && decide (b < 1073741824)
def vDiv : Val → Val → Res Val
  | .int a, .int b => Res.guard (divOk b) (.ok (.int (a / b)))
  | _, _ => .bad
def vMod : Val → Val → Res Val
  | .int a, .int b => Res.guard (decide (0 < b)) (.ok (.int (a % b)))
  | _, _ => .bad
def expOk (a b : Int) : Bool := decide (0 ≤ b) && (decide (b ≤ 1000000) && decide (a.natAbs < 2 ^ 64))
def vPow : Val → Val → Res Val
  | .int a, .int b => Res.guard (expOk a b) (.ok (.int (a ^ b.toNat)))
  | _, _ => .bad
def vShl : Val → Val → Res Val
  | .int a, .int b => Res.guard (expOk a b) (.ok (.int (a * 2 ^ b.toNat)))
  | _, _ => .bad
def vShr : Val → Val → Res Val
  | .int a, .int b => Res.guard (decide (0 ≤ b)) (.ok (.int (a / 2 ^ b.toNat)))
  | _, _ => .bad
def vAnd : Val → Val → Res Val
  | .int a, .int b => .ok (.int (Builtin.bitAnd a b))
  | _, _ => .bad
def vOr : Val → Val → Res Val
  | .int a, .int b => .ok (.int (Builtin.bitOr a b))
  | _, _ => .bad
def vEq (a b : Val) : Res Val := Res.guard (shapedB a && shapedB b) (.ok (.bool (PyData.eqv a b)))
def vNe (a b : Val) : Res Val := Res.guard (shapedB a && shapedB b) (.ok (.bool (!PyData.eqv a b)))
/-- lists of ints by their order -/
abbrev lexLt : List Int → List Int → Bool := HT.lexLt
def vCmp (p : Int → Int → Bool) (q : List Int → List Int → Bool) : Val → Val → Res Val
  | .int a, .int b => .ok (.bool (p a b))
  | .tuple xs, .tuple ys => match intsOf xs, intsOf ys with
    | some is, some js => .ok (.bool (q is js))
    | _, _ => .bad
  | _, _ => .bad
def vLt : Val → Val → Res Val := vCmp (fun a b => decide (a < b)) lexLt
def vGt : Val → Val → Res Val
  | .int a, .int b => .ok (.bool (decide (b < a)))
  | _, _ => .bad
def vLe : Val → Val → Res Val
  | .int a, .int b => .ok (.bool (decide (a ≤ b)))
  | _, _ => .bad
def vGe : Val → Val → Res Val := vCmp (fun a b => decide (b ≤ a)) fun x y => !lexLt x y
def memB (x : Val) (ys : List Val) : Bool := ys.any fun y => PyData.eqv y x
def vIn (x : Val) : Val → Res Val
  | .list ys => Res.guard (shapedB x && shapedB (.list ys)) (.ok (.bool (memB x ys)))
  | .tuple ys => Res.guard (shapedB x && shapedB (.tuple ys)) (.ok (.bool (memB x ys)))
  | _ => .bad
def vNotIn (x : Val) : Val → Res Val
  | .list ys => Res.guard (shapedB x && shapedB (.list ys)) (.ok (.bool (!memB x ys)))
  | .tuple ys => Res.guard (shapedB x && shapedB (.tuple ys)) (.ok (.bool (!memB x ys)))
  | _ => .bad
def isNoneB : Val → Bool
  | .none => true
  | _ => false
def vIs (b : Bool) : Val → Res Val
  | .bool c => .ok (.bool (c == b))
  | _ => .bad
def vIsNot (b : Bool) : Val → Res Val
  | .bool c => .ok (.bool (!(c == b)))
  | _ => .bad
/-- xs[i], i of any sign -/
def atV (xs : List Val) (i : Int) : Option Val := L2.atI xs i
def ofOpt : Option Val → Res Val
  | some v => .ok v
  | none => .bad
def vIdx : Val → Val → Res Val
  | .list xs, .int i => ofOpt (atV xs i)
  | .tuple xs, .int i => ofOpt (atV xs i)
  | _, _ => .bad
def cut (xs : List Val) (lo hi : Option Int) : List Val :=
  (xs.drop (HT.sIx xs.length 0 lo)).take (HT.sIx xs.length xs.length hi - HT.sIx xs.length 0 lo)
def vSlice : Bool → Bool → List Val → Res Val
  | true, true, [.list xs, .int i, .int j] => .ok (.list (cut xs (some i) (some j)))
  | true, false, [.list xs, .int i] => .ok (.list (cut xs (some i) none))
  | false, true, [.list xs, .int j] => .ok (.list (cut xs none (some j)))
  | false, false, [.list xs] => .ok (.list (cut xs none none))
  | _, _, _ => .bad
def starred : List Bool → List Val → Option (List Val)
  | [], [] => some []
  | false :: ss, v :: vs => (starred ss vs).map (v :: ·)
  | true :: ss, .list xs :: vs => (starred ss vs).map (xs ++ ·)
  | true :: ss, .tuple xs :: vs => (starred ss vs).map (xs ++ ·)
  | _, _ => none
def vLst (stars : List Bool) (vs : List Val) : Res Val := match starred stars vs with
  | some xs => Res.guard (sizeOk xs.length) (.ok (.list xs))
  | none => .bad
def vTup (stars : List Bool) (vs : List Val) : Res Val := match starred stars vs with
  | some xs => Res.guard (sizeOk xs.length) (.ok (.tuple xs))
  | none => .bad
def vLen : Val → Res Val
  | .list xs => .ok (.int xs.length)
  | .tuple xs => .ok (.int xs.length)
  | _ => .bad
def alikesB (xs : List Val) : Bool := xs.all fun a => xs.all fun b => PySem.W.alike a b
def isTupC : Val → Bool
  | .tuple (_ :: _) => true
  | _ => false
def notTupNone : Val → Bool
  | .none => false
  | .tuple _ => false
  | _ => true
def sortableB (xs : List Val) : Bool := alikesB xs && (shapedB (.list xs) && (xs.all isTupC || xs.all notTupNone))
def sortV (xs : List Val) : List Val := xs.mergeSort (PySem.W.dataLe false fun d : Val => d)
def vSorted : Val → Res Val
  | .list xs => Res.guard (sortableB xs) (.ok (.list (sortV xs)))
  | _ => .bad
/-- sorted(xs, key=len), xs lists -/
def isLstV : Val → Bool
  | .list _ => true
  | _ => false
def lenV : Val → Int
  | .list xs => (xs.length : Nat)
  | _ => 0
def sortLenV (xs : List Val) : List Val := xs.mergeSort fun a b => decide (lenV a ≤ lenV b)
def vSortLen : Val → Res Val
  | .list xs => Res.guard (xs.all isLstV) (.ok (.list (sortLenV xs)))
  | _ => .bad
/-- k put into a strictly ascending list -/
def insS (k : Int) : List Int → List Int
  | [] => [k]
  | x :: r => if k < x then k :: x :: r else if k = x then x :: r else x :: insS k r
/-- the ints of a list, each once, ascending -/
def intsOnce (is : List Int) : List Int := is.foldl (fun acc k => insS k acc) []
def vSortedSet : Val → Res Val
  | .list xs => match intsOf xs with
    | some is => Res.guard (decide ((intsOnce is).length < 64)) (.ok (.list ((intsOnce is).map .int)))
    | none => .bad
  | _ => .bad
def isType : Nat → Val → Bool
  | 0, .list _ => true
  | 1, .bool _ => true
  | 2, .int _ => true
  | 2, .bool _ => true
  | 3, .tuple _ => true
  | _, _ => false
def notD : Val → Bool
  | .dict _ => false
  | _ => true
def enumV : Nat → List Val → List Val
  | _, [] => []
  | n, x :: r => .tuple [.int (n : Nat), x] :: enumV (n + 1) r
def zipV : List Val → List Val → List Val
  | x :: xs, y :: ys => .tuple [x, y] :: zipV xs ys
  | _, _ => []
def reprable : Val → Bool
  | .none => false
  | .str _ => false
  | .dict _ => false
  | _ => true
def reprOk (v : Val) : Bool := reprable v && v.showable && (!v.hasDict && (sizeOk v.shown.length && decide (v.depth ≤ 60)))

/-- the first place of y in a list -/
def vIndex : Val → Val → Res Val
  | .list xs, y => Res.guard (shapedB (.list xs) && shapedB y) (match xs.findIdx? fun z => PyData.eqv z y with
    | some j => .ok (.int (j : Nat))
    | none => .bad)
  | _, _ => .bad

/-! sorted(set(xs)) of tuples of ints -/
def tupI : Val → Option (List Int)
  | .tuple (x :: vs) => intsOf (x :: vs)
  | _ => none
def tupsI : List Val → Option (List (List Int))
  | [] => some []
  | v :: r => (tupI v).bind fun k => (tupsI r).map fun ks => k :: ks
def onceK : List (List Int) → List (List Int)
  | [] => []
  | k :: r => if k ∈ onceK r then onceK r else k :: onceK r
def tupV (k : List Int) : Val := .tuple (k.map .int)
def sortK (ks : List (List Int)) : List (List Int) := (onceK ks).mergeSort fun p q => decide (p ≤ q)
def vSortSetD : Val → Res Val
  | .list xs => match tupsI xs with
    | some ks => Res.guard (decide ((onceK ks).length ≤ 200)) (.ok (.list ((sortK ks).map tupV)))
    | none => .bad
  | _ => .bad
/-! sorted(set(xs)) of pairs -/
def pairV : Val → Option (Int × Int)
  | .tuple [.int a, .int b] => some (a, b)
  | _ => none
def pairsL : List Val → Option (List (Int × Int))
  | [] => some []
  | v :: r => match pairV v, pairsL r with
    | some p, some ps => some (p :: ps)
    | _, _ => none
/-- the pairs of numbers below 64 that are among ps, ascending -/
def canonP (ps : List (Int × Int)) : List (Nat × Nat) := (List.range 64).flatMap fun (a : Nat) => ((List.range 64).filter fun (b : Nat) => ps.contains ((a : Int), (b : Int))).map fun (b : Nat) => (a, b)
def pairOk (p : Int × Int) : Bool := decide (0 ≤ p.1) && (decide (p.1 < 64) && (decide (0 ≤ p.2) && decide (p.2 < 64)))
def vSortSetT : Val → Res Val
  | .list xs => match pairsL xs with
    | some ps => Res.guard (ps.all pairOk && decide ((canonP ps).length ≤ 150)) (.ok (.list ((canonP ps).map fun p => .tuple [.int p.1, .int p.2])))
    | none => .bad
  | _ => .bad
def vSortSetI : Val → Res Val
  | .list xs => match intsOf xs with
    | some is => Res.guard (decide (xs.length < 4000) && decide ((intsOnce is).length < 64)) (.ok (.list ((intsOnce is).map .int)))
    | none => .bad
  | _ => .bad
/-! dicts: .dict ((.bool t, .none) :: rows); t: the keys are tuples of numbers and texts; otherwise numbers and texts -/
def keyK : Val → Option L2.Key
  | .int i => some (.inl i)
  | .str z => some (.inr z)
  | _ => none
def keysL : List Val → Option (List L2.Key)
  | [] => some []
  | x :: r => match keyK x, keysL r with
    | some a, some b => some (a :: b)
    | _, _ => none
def keyT : Val → Option (List L2.Key)
  | .tuple xs => keysL xs
  | _ => none
def dkOk (t : Bool) (k : Val) : Bool := match t with
  | true => (keyT k).isSome
  | false => (keyK k).isSome
def sameKey (t : Bool) (x k : Val) : Bool := match t with
  | true => decide (keyT x = keyT k)
  | false => decide (keyK x = keyK k)
/-- what stands at a key -/
def dget (t : Bool) (kvs : List (Val × Val)) (k : Val) : Option Val := (kvs.find? fun p => sameKey t p.1 k).map (·.2)
def dput (t : Bool) (kvs : List (Val × Val)) (k v : Val) : List (Val × Val) :=
  if (kvs.any fun p => sameKey t p.1 k) = true then kvs.map (fun p => if sameKey t p.1 k = true then (p.1, v) else p) else kvs ++ [(k, v)]
def vDidx : Val → Val → Res Val
  | .dict ((.bool t, _) :: kvs), k => Res.guard (dkOk t k) (ofOpt (dget t kvs k))
  | _, _ => .bad
def vDin : Val → Val → Res Val
  | k, .dict ((.bool t, _) :: kvs) => Res.guard (dkOk t k) (.ok (.bool (dget t kvs k).isSome))
  | _, _ => .bad
def vDnotin : Val → Val → Res Val
  | k, .dict ((.bool t, _) :: kvs) => Res.guard (dkOk t k) (.ok (.bool (!(dget t kvs k).isSome)))
  | _, _ => .bad
def vLenSetI : Val → Res Val
  | .list xs => match intsOf xs with
    | some is => Res.guard (decide (xs.length < 64)) (.ok (.int ((intsOnce is).length : Nat)))
    | none => .bad
  | _ => .bad
/-- c is c' or below it -/
def isA (c c' : Str) : Bool := c == c' || c' == ("WayError" : Str)
def den : Op → List Val → Res Val
  | .add, [a, b] => vAdd a b
  | .sub, [a, b] => vSub a b
  | .mul, [a, b] => vMul a b
  | .fdiv, [a, b] => vDiv a b
  | .mod, [a, b] => vMod a b
  | .pow, [a, b] => vPow a b
  | .shl, [a, b] => vShl a b
  | .shr, [a, b] => vShr a b
  | .band, [a, b] => vAnd a b
  | .bor, [a, b] => vOr a b
  | .neg, [.int a] => .ok (.int (-a))
  | .not, [.bool a] => .ok (.bool (!a))
  | .eq, [a, b] => vEq a b
  | .ne, [a, b] => vNe a b
  | .lt, [a, b] => vLt a b
  | .le, [a, b] => vLe a b
  | .gt, [a, b] => vGt a b
  | .ge, [a, b] => vGe a b
  | .isin, [a, b] => vIn a b
  | .notin, [a, b] => vNotIn a b
  | .isNone, [a] => .ok (.bool (isNoneB a))
  | .notNone, [a] => .ok (.bool (!isNoneB a))
  | .isB b, [a] => vIs b a
  | .notB b, [a] => vIsNot b a
  | .idx, [a, b] => vIdx a b
  | .slice lo hi, vs => vSlice lo hi vs
  | .rev, [.list xs] => .ok (.list xs.reverse)
  | .tup ss, vs => vTup ss vs
  | .lst _ ss, vs => vLst ss vs
  | .len, [a] => vLen a
  | .list, [.list xs] => .ok (.list xs)
  | .list, [.tuple xs] => .ok (.list xs)
  | .range, [.int n] => Res.guard (small n && sizeOk n.toNat) (.ok (.list (rng 0 n)))
  | .range, [.int m, .int n] => Res.guard (small m && (small n && sizeOk (n - m).toNat)) (.ok (.list (rng m n)))
  | .sorted, [a] => vSorted a
  | .sortedSet, [a] => vSortedSet a
  | .min, [.int a, .int b] => .ok (.int (if b < a then b else a))
  | .max, [.int a, .int b] => .ok (.int (if b > a then b else a))
  | .abs, [.int a] => .ok (.int (if a < 0 then -a else a))
  | .int, [.int a] => .ok (.int a)
  | .int, [.bool b] => .ok (.int (if b then 1 else 0))
  | .all, [.list xs] => match boolsOf xs with
    | some bs => .ok (.bool (bs.all id))
    | none => .bad
  | .any, [.list xs] => match boolsOf xs with
    | some bs => .ok (.bool (bs.any id))
    | none => .bad
  | .sum, [.list xs] => match intsOf xs with
    | some is => .ok (.int is.sum)
    | none => .bad
  | .repr, [v] => Res.guard (reprOk v) (.ok (.str v.shown))
  | .sortSetT, [a] => vSortSetT a
  | .sortSetI, [a] => vSortSetI a
  | .sortLen, [a] => vSortLen a
  | .sortSetD, [a] => vSortSetD a
  | .toTup, [.list xs] => .ok (.tuple xs)
  | .toTup, [.tuple xs] => .ok (.tuple xs)
  | .tailT, [.tuple (_ :: xs)] => .ok (.tuple xs)
  | .mkErr c, [.int i] => .ok (.dict [(.str c, .int i)])
  | .errAt ns, [.dict [(.str c, .int i)]] => Res.guard (ns.contains c) (.ok (.int i))
  | .isErr ns c', [.dict [(.str c, .int _)]] => Res.guard (ns.contains c) (.ok (.bool (isA c c' || c' == ("ValueError" : Str))))
  | .isT t, [v] => Res.guard (notD v) (.ok (.bool (isType t v)))
  | .enum, [.list xs] => .ok (.list (enumV 0 xs))
  | .zip, [.list xs, .list ys] => .ok (.list (zipV xs ys))
  | .count, [.list xs, .int k] => match intsOf xs with
    | some is => .ok (.int (is.count k : Nat))
    | none => .bad
  | .index, [a, b] => vIndex a b
  | .didx, [a, b] => vDidx a b
  | .din, [a, b] => vDin a b
  | .dnotin, [a, b] => vDnotin a b
  | .lenSetI, [a] => vLenSetI a
  | _, _ => .bad

/-- how deep below an operand nothing is kept of it by the result (k: below the result) -/
def octx : Op → Nat → Nat
  | .idx, k => k + 1
  | .didx, k => k + 1
  | .slice _ _, _ => 1
  | .rev, _ => 1
  | .add, _ => 1
  | .list, _ => 1
  | .enum, k => k
  | .zip, k => k
  | .sorted, _ => 1
  | .sortLen, _ => 1
  | .toTup, _ => 1
  | .tailT, _ => 1
  | .tup _, _ => 0
  | .lst _ _, _ => 0
  | _, _ => 9
inductive Pat where
  | slot (i : Nat)
  | tup (ps : List Pat)

inductive E where
  | var (i : Nat)
  | cst (v : Val)
  | op (o : Op) (es : List E)
  | chain (o o' : Op) (a b c : E)
  | and (a b : E)
  | or (a b : E)
  | ite (c a b : E)
  | call (f : Nat) (es : List E)
  | comp (w : List Nat) (d : Nat) (elt : E) (t : Pat) (it : E) (ifs : Option E)
  | comp2 (w w2 : List Nat) (elt : E) (t : Pat) (it : E) (ifs : Option E) (t2 : Pat) (it2 : E) (ifs2 : Option E)
  | lend (l : List (Nat × Nat)) (e : E)
  | dict0 (t : Bool)
  | dictc (w : List Nat) (kes : List E) (ve : E) (t : Pat) (it : E)

abbrev Env := List (Option (Val × Nat))

def getV (ρ : Env) (i k : Nat) : Res Val := match ρ[i]? with
  | some (some (v, d)) => Res.guard (Nat.ble d k) (.ok v)
  | _ => .bad

mutual
def bindP : Pat → Val → Env → Res Env
  | .slot i, v, ρ => Res.guard (Nat.blt i ρ.length) (.ok (ρ.set i (some (v, 0))))
  | .tup ps, .tuple vs, ρ => bindPs ps vs ρ
  | .tup _, _, _ => .bad
def bindPs : List Pat → List Val → Env → Res Env
  | [], [], ρ => .ok ρ
  | p :: ps, v :: vs, ρ => (bindP p v ρ).bind fun ρ' => bindPs ps vs ρ'
  | _, _, _ => .bad
end


def drop1 (i k : Nat) (ρ : Env) : Env := match ρ[i]? with
  | some (some (v, d)) => ρ.set i (some (v, min d k))
  | _ => ρ
def dropL : List (Nat × Nat) → Env → Env
  | [], ρ => ρ
  | (i, k) :: r, ρ => dropL r (drop1 i k ρ)

def killL : List Nat → Env → Env
  | [], ρ => ρ
  | i :: r, ρ => killL r (ρ.set i none)

def atomV : Val → Bool
  | .list _ => false
  | .tuple _ => false
  | .dict _ => false
  | _ => true
def asBool : Val → Res Bool
  | .bool b => .ok b
  | _ => .bad
def asSeq (v : Val) : Res (List Val) := match seqOf v with
  | some xs => .ok xs
  | none => .bad
/-- a comprehension's turns -/
def compL (f : Val → Res (Option Val)) : List Val → Res (List Val)
  | [] => .ok []
  | v :: vs => (f v).bind fun o => (compL f vs).bind fun r => .ok (match o with
    | some x => x :: r
    | none => r)
/-- two turns, one in another -/
def compLL (f : Val → Res (List Val)) : List Val → Res (List Val)
  | [] => .ok []
  | v :: vs => (f v).bind fun o => (compLL f vs).bind fun r => .ok (o ++ r)

/-- a dict comprehension's turns, keys that are tuples -/
def dictL (f : Val → Res (Val × Val)) : List Val → List (Val × Val) → Res (List (Val × Val))
  | [], acc => .ok acc
  | v :: vs, acc => (f v).bind fun q => Res.guard (dkOk true q.1 && sizeOk (acc.length + 1)) (dictL f vs (dput true acc q.1 q.2))

section
variable (cf : Nat → List Val → Res Val)
mutual
def evalE : Nat → E → Env → Res Val
  | k, .var i, ρ => getV ρ i k
  | _, .cst v, _ => .ok v
  | k, .op o es, ρ => (evalEs (octx o k) es ρ).bind fun vs => den o vs
  | _, .chain o o' a b c, ρ => (evalE 9 a ρ).bind fun x => (evalE 9 b ρ).bind fun y => (den o [x, y]).bind fun r => (asBool r).bind fun t =>
      match t with
      | true => (evalE 9 c ρ).bind fun z => den o' [y, z]
      | false => .ok (.bool false)
  | k, .and a b, ρ => (evalE 9 a ρ).bind fun x => (asBool x).bind fun t =>
      match t with
      | true => evalE k b ρ
      | false => .ok (.bool false)
  | k, .or a b, ρ => (evalE 9 a ρ).bind fun x => (asBool x).bind fun t =>
      match t with
      | true => .ok (.bool true)
      | false => evalE k b ρ
  | k, .ite c a b, ρ => (evalE 9 c ρ).bind fun x => (asBool x).bind fun t =>
      match t with
      | true => evalE k a ρ
      | false => evalE k b ρ
  | _, .call f es, ρ => (evalEs 0 es ρ).bind fun vs => (cf f vs).quiet
  | _, .comp w _ elt t it ifs, ρ => (evalE 1 it ρ).bind fun s => (asSeq s).bind fun xs =>
      (compL (fun v => (bindP t v (killL w ρ)).bind fun ρ' => (evalO ifs ρ').bind fun c => match c with
        | true => ((evalE 0 elt ρ').quiet).bind fun x => .ok (some x)
        | false => .ok none) xs).bind fun r => Res.guard (sizeOk r.length) (.ok (.list r))
  | _, .comp2 w w2 elt t it ifs t2 it2 ifs2, ρ => (evalE 1 it ρ).bind fun s => (asSeq s).bind fun xs =>
      (compLL (fun v => (bindP t v (killL w ρ)).bind fun ρ' => (evalO ifs ρ').bind fun c => match c with
        | true => ((evalE 0 it2 ρ').quiet).bind fun s2 => (asSeq s2).bind fun ys =>
          compL (fun y => (bindP t2 y (killL w2 ρ')).bind fun ρ'' => (evalO ifs2 ρ'').bind fun c2 => match c2 with
            | true => ((evalE 0 elt ρ'').quiet).bind fun x => .ok (some x)
            | false => .ok none) ys
        | false => .ok []) xs).bind fun r => Res.guard (sizeOk r.length) (.ok (.list r))
  | _, .lend l e, ρ => (evalE 9 e (dropL l ρ)).bind fun v => Res.guard (atomV v) (.ok v)
  | _, .dict0 t, _ => .ok (.dict [(.bool t, .none)])
  | _, .dictc w kes ve t it, ρ => (evalE 1 it ρ).bind fun s => (asSeq s).bind fun xs =>
      (dictL (fun v => (bindP t v (killL w ρ)).bind fun ρ' => ((evalEs 0 kes ρ').quiet).bind fun kx => ((evalE 0 ve ρ').quiet).bind fun vx => .ok (.tuple kx, vx)) xs []).bind fun r => .ok (.dict ((.bool true, .none) :: r))
def evalEs : Nat → List E → Env → Res (List Val)
  | _, [], _ => .ok []
  | k, e :: es, ρ => (evalE k e ρ).bind fun v => (evalEs k es ρ).bind fun vs => .ok (v :: vs)
def evalO : Option E → Env → Res Bool
  | none, _ => .ok true
  | some c, ρ => ((evalE 9 c ρ).quiet).bind fun x => asBool x
end
end

inductive S where
  | frz (l : List (Nat × Nat))
  | kill (l : List Nat)
  | set (i : Nat) (e : E) (d : Nat)
  | asg (p : Pat) (e : E)
  | app (i : Nat) (e : E) (d : Nat)
  | app2 (i : Nat) (ix e : E)
  | ext (i : Nat) (e : E)
  | extv (i j : Nat)
  | sto (i : Nat) (ix e : E) (d : Nat)
  | sto2 (i : Nat) (ix jx e : E)
  | popP (p : Pat) (i : Nat) (ix : Option E)
  | expr (e : E)
  | iff (c : E) (a b : List S)
  | for (t : Pat) (it : E) (body : List S)
  | whl (c : E) (body : List S)
  | ret (e : E)
  | retv (i k : Nat)
  | rett (is : List Nat) (k : Nat)
  | rettE (is : List Nat) (k : Nat) (c : E)
  | retN
  | tapp (i j : Nat) (e : E)
  | par (i j : Nat) (a b : E)
  | asgt (is : List Nat) (e : E) (d : Nat)
  | forN (kl : List Nat) (a : E) (h : Nat) (es : List E) (g : Nat) (t : Pat) (body : List S)
  | brk
  | cont
  | pass
  | raise (c : String) (e : E)
  | dsto (i : Nat) (kes : List E) (ve : E)
  | dstoK (i : Nat) (ke ve : E)
  | dead

inductive Out where
  | nx (ρ : Env)
  | rt (v : Val)
  | bk (ρ : Env)
  | ct (ρ : Env)

/-- the list that slot i alone holds, at least d deep its own -/
def getOwn (ρ : Env) (i d : Nat) : Res (List Val × Nat) := match ρ[i]? with
  | some (some (.list xs, t)) => Res.guard (Nat.ble d t) (.ok (xs, t))
  | _ => .bad
/-- the values of slots, each of its own k deep or an atom -/
def slotsV (ρ : Env) (k : Nat) : List Nat → Res (List Val)
  | [] => .ok []
  | i :: is => (match ρ[i]? with
    | some (some (v, d)) => Res.guard (Nat.ble k d || atomV v) (.ok v)
    | _ => .bad).bind fun v => (slotsV ρ k is).bind fun vs => .ok (v :: vs)
def nodupB : List Nat → Bool
  | [] => true
  | i :: is => !(is.contains i) && nodupB is
def ixOf (n : Nat) (v : Val) : Res Nat := match v with
  | .int i => match L2.ixN n i with
    | some j => .ok j
    | none => .bad
  | _ => .bad
def asList : Val → Res (List Val)
  | .list xs => .ok xs
  | _ => .bad

def asTup : Val → Res (List Val)
  | .tuple xs => .ok xs
  | _ => .bad
/-- slots take values, each its own d deep -/
def setAll : List Nat → List Val → Nat → Env → Env
  | i :: is, v :: vs, d, ρ => setAll is vs d (ρ.set i (some (v, d)))
  | _, _, _, ρ => ρ

mutual
/-- no list within holds a number -/
def noIL : Val → Bool
  | .list xs => noIA xs && noILs xs
  | .tuple xs => noILs xs
  | .dict _ => false
  | _ => true
def noILs : List Val → Bool
  | [] => true
  | x :: xs => noIL x && noILs xs
def noIA : List Val → Bool
  | [] => true
  | .int _ :: _ => false
  | _ :: xs => noIA xs
end
def envNoIL : Env → Bool
  | [] => true
  | none :: r => envNoIL r
  | some (v, d) :: r => Nat.beq d 0 && noIL v && envNoIL r
def intsB : Val → Bool
  | .list xs => (intsOf xs).isSome
  | _ => false
/-- two unlike lists of numbers, not empty -/
def okPair : Val → Bool
  | .tuple [.list xs, .list ys] => match intsOf xs, intsOf ys with
    | some a, some b => !(a.isEmpty) && (!(b.isEmpty) && decide (a ≠ b))
    | _, _ => false
  | _ => false

def whileL (c : Env → Res Bool) (b : Env → Res Out) : Nat → Env → Res Out
  | 0, _ => .bad
  | n + 1, ρ => (c ρ).bind fun t => match t with
    | false => .ok (.nx ρ)
    | true => (b ρ).bind fun o => match o with
      | .nx ρ' => whileL c b n ρ'
      | .ct ρ' => whileL c b n ρ'
      | .bk ρ' => .ok (.nx ρ')
      | .rt v => .ok (.rt v)
def forL (b : Val → Env → Res Out) : List Val → Env → Res Out
  | [], ρ => .ok (.nx ρ)
  | v :: vs, ρ => (b v ρ).bind fun o => match o with
    | .nx ρ' => forL b vs ρ'
    | .ct ρ' => forL b vs ρ'
    | .bk ρ' => .ok (.nx ρ')
    | .rt v => .ok (.rt v)
/-- how many turns a while may have -/
def LIM : Nat := 1000000

section
variable (cf : Nat → List Val → Res Val)
mutual
def evalS : S → Env → Res Out
  | .frz l, ρ => .ok (.nx (dropL l ρ))
  | .kill l, ρ => .ok (.nx (killL l ρ))
  | .set i e d, ρ => (evalE cf 0 e ρ).bind fun v => Res.guard (Nat.blt i ρ.length) (.ok (.nx (ρ.set i (some (v, d)))))
  | .asg p e, ρ => (evalE cf 0 e ρ).bind fun v => (bindP p v ρ).bind fun ρ' => .ok (.nx ρ')
  | .app i e d, ρ => (evalE cf 0 e ρ).bind fun v => (getOwn ρ i (d + 1)).bind fun (xs, _) =>
      Res.guard (sizeOk (xs.length + 1)) (.ok (.nx (ρ.set i (some (.list (xs ++ [v]), d + 1)))))
  | .app2 i ix e, ρ => (getOwn ρ i 2).bind fun (xs, _) => (evalE cf 9 ix ρ).bind fun j => (ixOf xs.length j).bind fun j =>
      (evalE cf 0 e ρ).bind fun v => (ofOpt xs[j]?).bind fun l => (asList l).bind fun ys =>
      Res.guard (sizeOk (ys.length + 1)) (.ok (.nx (ρ.set i (some (.list (xs.set j (.list (ys ++ [v]))), 2)))))
  | .ext i e, ρ => (evalE cf 0 e ρ).bind fun v => (asList v).bind fun ys => (getOwn ρ i 1).bind fun (xs, _) =>
      Res.guard (sizeOk (xs.length + ys.length)) (.ok (.nx (ρ.set i (some (.list (xs ++ ys), 1)))))
  | .extv i j, ρ => (getOwn ρ j 1).bind fun (ys, _) => (getOwn ρ i 1).bind fun (xs, _) => Res.guard (!(i == j) && sizeOk (xs.length + ys.length))
      (.ok (.nx ((ρ.set j (some (.list ys, 1))).set i (some (.list (xs ++ ys), 1)))))
  | .sto i ix e d, ρ => (evalE cf 0 e ρ).bind fun v => (getOwn ρ i (d + 1)).bind fun (xs, _) => (evalE cf 9 ix ρ).bind fun j => (ixOf xs.length j).bind fun j =>
      .ok (.nx (ρ.set i (some (.list (xs.set j v), d + 1))))
  | .sto2 i ix jx e, ρ => (evalE cf 0 e ρ).bind fun v => (getOwn ρ i 2).bind fun (xs, _) => (evalE cf 9 ix ρ).bind fun j => (ixOf xs.length j).bind fun j =>
      (ofOpt xs[j]?).bind fun l => (asList l).bind fun ys => (evalE cf 9 jx ρ).bind fun k => (ixOf ys.length k).bind fun k =>
      .ok (.nx (ρ.set i (some (.list (xs.set j (.list (ys.set k v))), 2))))
  | .popP p i ix, ρ => (getOwn ρ i 1).bind fun (xs, _) => (match ix with
      | none => ixOf xs.length (.int (-1))
      | some e => (evalE cf 9 e ρ).bind fun j => ixOf xs.length j).bind fun j => (ofOpt xs[j]?).bind fun v =>
      (bindP p v (ρ.set i (some (.list (xs.eraseIdx j), 1)))).bind fun ρ' => .ok (.nx ρ')
  | .expr e, ρ => (evalE cf 0 e ρ).bind fun _ => .ok (.nx ρ)
  | .iff c a b, ρ => (evalE cf 9 c ρ).bind fun x => (asBool x).bind fun t => match t with
      | true => evalSs a ρ
      | false => evalSs b ρ
  | .for t it body, ρ => (evalE cf 0 it ρ).bind fun s => (asSeq s).bind fun xs => forL (fun v ρ => (bindP t v ρ).bind fun ρ' => evalSs body ρ') xs ρ
  | .whl c body, ρ => whileL (fun ρ => (evalE cf 9 c ρ).bind fun x => asBool x) (fun ρ => evalSs body ρ) LIM ρ
  | .ret e, ρ => (evalE cf 0 e ρ).bind fun v => .ok (.rt v)
  | .retv i k, ρ => match ρ[i]? with
      | some (some (v, d)) => Res.guard (Nat.ble k d) (.ok (.rt v))
      | _ => .bad
  | .rett is k, ρ => Res.guard (sizeOk is.length && nodupB is) ((slotsV ρ k is).bind fun vs => .ok (.rt (.tuple vs)))
  | .rettE is k c, ρ => Res.guard (sizeOk (is.length + 1) && nodupB is) ((slotsV ρ k is).bind fun vs => (evalE cf 0 c ρ).bind fun v => .ok (.rt (.tuple (vs ++ [v]))))
  | .retN, _ => .ok (.rt .none)
  | .par i j a b, ρ => (evalE cf 0 a ρ).bind fun v => (evalE cf 0 b ρ).bind fun w =>
      Res.guard (Nat.blt i ρ.length && (Nat.blt j ρ.length && !(i == j))) (.ok (.nx ((ρ.set i (some (v, 0))).set j (some (w, 0)))))
  | .tapp i j e, ρ => (evalE cf 0 e ρ).bind fun v => match ρ[i]? with
      | some (some (.tuple vs, t)) => Res.guard (Nat.beq t 2) ((ofOpt vs[j]?).bind fun l => (asList l).bind fun ys =>
          Res.guard (sizeOk (ys.length + 1)) (.ok (.nx (ρ.set i (some (.tuple (vs.set j (.list (ys ++ [v]))), 2))))))
      | _ => .bad
  | .asgt is e d, ρ => (evalE cf 0 e ρ).bind fun v => (asTup v).bind fun vs =>
      Res.guard (decide (vs.length = is.length) && (nodupB is && is.all fun i => Nat.blt i ρ.length)) (.ok (.nx (setAll is vs d ρ)))
  | .forN kl a h es g t body, ρ => (evalE cf 0 a ρ).bind fun dv => (evalEs cf 0 es ρ).bind fun vs => (cf h vs).quiet.bind fun x => (cf g [dv, x]).quiet.bind fun s => (asList s).bind fun xs =>
      Res.guard (noIL dv && (intsB x && envNoIL (killL kl ρ))) ((forL (fun v ρ => (bindP t v ρ).bind fun ρ' => evalSs body ρ') xs (killL kl ρ)).bind fun o => match o with
        | .nx _ => .ok (.rt .none)
        | .rt v => Res.guard (okPair v) (.ok (.rt v))
        | _ => .bad)
  | .brk, ρ => .ok (.bk ρ)
  | .cont, ρ => .ok (.ct ρ)
  | .pass, ρ => .ok (.nx ρ)
  | .raise _ _, _ => .bad
  | .dsto i kes ve, ρ => (evalE cf 0 ve ρ).bind fun v => (evalEs cf 0 kes ρ).bind fun ks => match ρ[i]? with
      | some (some (.dict ((.bool true, h) :: kvs), d)) => Res.guard (Nat.ble 1 d && (dkOk true (.tuple ks) && sizeOk (kvs.length + 1))) (.ok (.nx (ρ.set i (some (.dict ((.bool true, h) :: dput true kvs (.tuple ks) v), 1)))))
      | _ => .bad
  | .dstoK i ke ve, ρ => (evalE cf 0 ve ρ).bind fun v => (evalE cf 9 ke ρ).bind fun kx => match ρ[i]? with
      | some (some (.dict ((.bool false, h) :: kvs), d)) => Res.guard (Nat.ble 1 d && (dkOk false kx && sizeOk (kvs.length + 1))) (.ok (.nx (ρ.set i (some (.dict ((.bool false, h) :: dput false kvs kx v), 1)))))
      | _ => .bad
  | .dead, _ => .bad
def evalSs : List S → Env → Res Out
  | [], ρ => .ok (.nx ρ)
  | s :: ss, ρ => (evalS s ρ).bind fun o => match o with
    | .nx ρ' => evalSs ss ρ'
    | o => .ok o
end
end

/-- a def: its parameters' number, its slots' number, how deep its answer is new, its body -/
structure Def where
  np : Nat
  ns : Nat
  fr : Nat
  body : List S

abbrev Prog := Nat → Option Def

def fin : Out → Res Val
  | .nx _ => .ok .none
  | .rt v => .ok v
  | _ => .bad
def startE (d : Def) (vs : List Val) : Env := vs.map (fun v => some (v, 0)) ++ List.replicate (d.ns - d.np) none
def evalD (P : Prog) : Nat → Nat → List Val → Res Val
  | 0, _, _ => .bad
  | n + 1, f, vs => match P f with
    | some d => Res.guard (decide (vs.length = d.np)) ((evalSs (evalD P n) d.body (startE d vs)).bind fin)
    | none => .bad
end VL

/-! VL, part 2: how values stand in the abstract heap, and who owns the lists. -/
namespace VL
open PySem PySem.Spec L2
open PyProof.Rows hiding St

/-- what a def of the text may change -/
def isM : HO → Bool
  | .lst _ => true
  | .dK _ => true
  | .dT _ => true
  | _ => false
/-- what may be changed: a list, a dict of the two kinds -/
inductive MW where
  | l (ws : List V)
  | t (ks : List (List Key × V))
  | k (ks : List (Key × V))
def mo : MW → HO
  | .l ws => .lst ws
  | .t ks => .dT ks
  | .k ks => .dK ks
theorem isM_mo (w : MW) : isM (mo w) = true := by cases w <;> rfl

/-- a made error: its class, its dict at dd, itself at a -/
def errO (cls : Value) (dd a : Addr) : HO := .ext fun h => ∃ (oe : Obj) (vs : Array Value), h.get? a = some oe ∧ Zc cls (some dd) oe ∧ oe.data = .fields vs
/-- u is an error; its value: .dict [(its class, its number)] -/
def ErrV (K : PySem.W.Frag) (H : Hp) (u : V) (kvs : List (Val × Val)) : Prop := ∃ a dd c i, u = .ref a ∧ kvs = [(.str c, .int i)] ∧ H a = some (errO (.ref (He.ga K c)) dd a) ∧ H dd = some (.xd [(("at" : Str), V.int i)])
section
variable (K : PySem.W.Frag) (H : Hp) (F : Addr → Prop)
mutual
/-- u stands for v; each list that lies k deep or deeper is in F -/
def Rep : Nat → V → Val → Prop
  | _, u, .none => u = .non
  | _, u, .bool b => u = .bl b
  | _, u, .int i => u = .int i
  | _, u, .str z => u = .str z
  | k, u, .list xs => ∃ a ws, u = .ref a ∧ SqL K H a ws ∧ (k = 0 → F a ∨ ∀ H' : Hp, SqL K H' a ws) ∧ RepA (k - 1) ws xs
  | k, u, .tuple xs => ∃ a ws, u = .ref a ∧ SqT K H a ws ∧ RepA (k - 1) ws xs
  | k, u, .dict kvs => (∃ a ho, u = .ref a ∧ H a = some ho ∧ (k = 0 → F a) ∧ RepD (k - 1) ho kvs) ∨ ErrV K H u kvs
def RepA : Nat → List V → List Val → Prop
  | _, ws, [] => ws = []
  | k, ws, x :: xs => ∃ w r, ws = w :: r ∧ Rep k w x ∧ RepA k r xs
def RepD : Nat → HO → List (Val × Val) → Prop
  | k, ho, (.bool true, _) :: r => ∃ ks, ho = .dT ks ∧ RepT k ks r
  | k, ho, (.bool false, _) :: r => ∃ ks, ho = .dK ks ∧ RepK k ks r
  | _, _, _ => False
def RepT : Nat → List (List Key × V) → List (Val × Val) → Prop
  | _, ks, [] => ks = []
  | k, ks, (x, y) :: r => ∃ c w ks', ks = (c, w) :: ks' ∧ keyT x = some c ∧ Rep k w y ∧ RepT k ks' r
def RepK : Nat → List (Key × V) → List (Val × Val) → Prop
  | _, ks, [] => ks = []
  | k, ks, (x, y) :: r => ∃ c w ks', ks = (c, w) :: ks' ∧ keyK x = some c ∧ Rep k w y ∧ RepK k ks' r
end
mutual
/-- u stands for v; the lists less than d deep are those at S, and nobody else's; all others are in F -/
def Own : Nat → List Addr → V → Val → Prop
  | 0, S, u, v => S = [] ∧ Rep K H F 0 u v
  | d + 1, S, u, .list xs => ∃ a ws S', u = .ref a ∧ H a = some (.lst ws) ∧ S = a :: S' ∧ a ∉ S' ∧ OwnA d S' ws xs
  | d + 1, S, u, .tuple xs => ∃ a ws, u = .ref a ∧ SqT K H a ws ∧ OwnA d S ws xs
  | _ + 1, S, u, .dict kvs => (∃ a ho, u = .ref a ∧ H a = some ho ∧ S = [a] ∧ RepD K H F 0 ho kvs) ∨ (S = [] ∧ ErrV K H u kvs)
  | _ + 1, S, u, v => S = [] ∧ Rep K H F 0 u v
def OwnA : Nat → List Addr → List V → List Val → Prop
  | _, S, ws, [] => S = [] ∧ ws = []
  | d, S, ws, x :: xs => ∃ w r S1 S2, ws = w :: r ∧ S = S1 ++ S2 ∧ (∀ a ∈ S1, a ∉ S2) ∧ Own d S1 w x ∧ OwnA d S2 r xs
end
end

theorem rep_list {K : PySem.W.Frag} {H : Hp} {F : Addr → Prop} {k : Nat} {u : V} {xs : List Val} : Rep K H F k u (.list xs) ↔ ∃ a ws, u = .ref a ∧ SqL K H a ws ∧ (k = 0 → F a ∨ ∀ H' : Hp, SqL K H' a ws) ∧ RepA K H F (k - 1) ws xs := by
  rw [Rep]
theorem rep_tuple {K : PySem.W.Frag} {H : Hp} {F : Addr → Prop} {k : Nat} {u : V} {xs : List Val} : Rep K H F k u (.tuple xs) ↔ ∃ a ws, u = .ref a ∧ SqT K H a ws ∧ RepA K H F (k - 1) ws xs := by
  rw [Rep]

theorem rep_dict {K : PySem.W.Frag} {H : Hp} {F : Addr → Prop} {k : Nat} {u : V} {kvs : List (Val × Val)} : Rep K H F k u (.dict kvs) ↔ (∃ a ho, u = .ref a ∧ H a = some ho ∧ (k = 0 → F a) ∧ RepD K H F (k - 1) ho kvs) ∨ ErrV K H u kvs := by
  rw [Rep]
theorem ErrV.keep {K : PySem.W.Frag} {H H' : Hp} {u : V} {kvs : List (Val × Val)} (h : ErrV K H u kvs) (k : ∀ b o, H b = some o → isM o = false → H' b = some o) : ErrV K H' u kvs := by
  obtain ⟨a, dd, c, i, e1, e2, h1, h2⟩ := h
  exact ⟨a, dd, c, i, e1, e2, k a _ h1 rfl, k dd _ h2 rfl⟩
/-- the two kinds of dicts -/
theorem repD_cases {K : PySem.W.Frag} {H : Hp} {F : Addr → Prop} {k : Nat} {ho : HO} {kvs : List (Val × Val)} (h : RepD K H F k ho kvs) : (∃ z r ks, kvs = (.bool true, z) :: r ∧ ho = .dT ks ∧ RepT K H F k ks r) ∨ ∃ z r ks, kvs = (.bool false, z) :: r ∧ ho = .dK ks ∧ RepK K H F k ks r := by
  match kvs, h with
  | (.bool true, z) :: r, h =>
    simp only [RepD] at h
    obtain ⟨ks, e, h⟩ := h
    exact .inl ⟨z, r, ks, rfl, e, h⟩
  | (.bool false, z) :: r, h =>
    simp only [RepD] at h
    obtain ⟨ks, e, h⟩ := h
    exact .inr ⟨z, r, ks, rfl, e, h⟩
  | [], h => simp [RepD] at h
  | (.none, _) :: _, h => simp [RepD] at h
  | (.int _, _) :: _, h => simp [RepD] at h
  | (.str _, _) :: _, h => simp [RepD] at h
  | (.list _, _) :: _, h => simp [RepD] at h
  | (.tuple _, _) :: _, h => simp [RepD] at h
  | (.dict _, _) :: _, h => simp [RepD] at h
theorem repD_t {K : PySem.W.Frag} {H : Hp} {F : Addr → Prop} {k : Nat} {ks : List (List Key × V)} {z : Val} {r : List (Val × Val)} (h : RepT K H F k ks r) : RepD K H F k (.dT ks) ((.bool true, z) :: r) := by
  simp only [RepD]
  exact ⟨ks, rfl, h⟩
theorem repD_k {K : PySem.W.Frag} {H : Hp} {F : Addr → Prop} {k : Nat} {ks : List (Key × V)} {z : Val} {r : List (Val × Val)} (h : RepK K H F k ks r) : RepD K H F k (.dK ks) ((.bool false, z) :: r) := by
  simp only [RepD]
  exact ⟨ks, rfl, h⟩
theorem repD_mo {K : PySem.W.Frag} {H : Hp} {F : Addr → Prop} {k : Nat} {ho : HO} {kvs : List (Val × Val)} (h : RepD K H F k ho kvs) : ∃ w, ho = mo w := by
  rcases repD_cases h with ⟨_, _, ks, _, e, _⟩ | ⟨_, _, ks, _, e, _⟩
  · exact ⟨.t ks, e⟩
  · exact ⟨.k ks, e⟩

def atomB : Val → Bool
  | .list _ => false
  | .tuple _ => false
  | .dict _ => false
  | _ => true

section
variable {K : PySem.W.Frag} {H H' : Hp} {F F' : Addr → Prop}

def Keep (H H' : Hp) (F : Addr → Prop) : Prop := ∀ b o, H b = some o → (F b ∨ isM o = false) → H' b = some o
theorem Keep.same (h : Same H H') : Keep H H' F := fun b o e _ => h b o e

theorem sqT_keep {a : Addr} {ws : List V} (k : Keep H H' F) (h : SqT K H a ws) : SqT K H' a ws := by
  rcases h with (h | ⟨o, h⟩) | h
  · exact .inl (.inl (k a _ h (.inr rfl)))
  · exact .inl (.inr ⟨o, k a _ h (.inr rfl)⟩)
  · exact .inr h
theorem sqT_same {a : Addr} {ws : List V} (k : Same H H') (h : SqT K H a ws) : SqT K H' a ws := sqT_keep (F := fun _ => True) (Keep.same k) h
theorem sqL_keep {a : Addr} {ws : List V} (k : Keep H H' F) (f : F a ∨ ∀ H' : Hp, SqL K H' a ws) (h : SqL K H a ws) : SqL K H' a ws := by
  rcases f with f | f
  case inr => exact f H'
  rcases h with (h | ⟨o, h⟩) | h
  · exact .inl (.inl (k a _ h (.inl f)))
  · exact .inl (.inr ⟨o, k a _ h (.inl f)⟩)
  · exact .inr h

mutual
theorem rep_keep (k : Keep H H' F) (f : ∀ a, F a → F' a) : ∀ (v : Val) (u : V), Rep K H F 0 u v → Rep K H' F' 0 u v
  | .none, _, h => by simpa only [Rep] using h
  | .bool _, _, h => by simpa only [Rep] using h
  | .int _, _, h => by simpa only [Rep] using h
  | .str _, _, h => by simpa only [Rep] using h
  | .list xs, _, h => by
    obtain ⟨a, ws, e, h1, h2, h3⟩ := rep_list.mp h
    exact rep_list.mpr ⟨a, ws, e, sqL_keep k (h2 rfl) h1, fun z => (h2 z).imp (f a) id, repA_keep k f xs ws h3⟩
  | .tuple xs, _, h => by
    obtain ⟨a, ws, e, h1, h3⟩ := rep_tuple.mp h
    exact rep_tuple.mpr ⟨a, ws, e, sqT_keep k h1, repA_keep k f xs ws h3⟩
  | .dict kvs, _, h => by
    rcases rep_dict.mp h with ⟨a, ho, e, h1, h2, h3⟩ | h
    · exact rep_dict.mpr (.inl ⟨a, ho, e, k a _ h1 (.inl (h2 rfl)), fun z => f a (h2 z), repD_keep k f kvs ho h3⟩)
    · exact rep_dict.mpr (.inr (h.keep fun b o e m => k b o e (.inr m)))
theorem repA_keep (k : Keep H H' F) (f : ∀ a, F a → F' a) : ∀ (xs : List Val) (ws : List V), RepA K H F 0 ws xs → RepA K H' F' 0 ws xs
  | [], _, h => by simpa only [RepA] using h
  | x :: xs, _, h => by
    simp only [RepA] at h ⊢
    obtain ⟨w, r, e, h1, h2⟩ := h
    exact ⟨w, r, e, rep_keep k f x w h1, repA_keep k f xs r h2⟩
theorem repD_keep (k : Keep H H' F) (f : ∀ a, F a → F' a) : ∀ (kvs : List (Val × Val)) (ho : HO), RepD K H F 0 ho kvs → RepD K H' F' 0 ho kvs
  | [], _, h => by simp [RepD] at h
  | (x, z) :: r, ho, h => by
    rcases repD_cases h with ⟨z', r', ks, e, rfl, q⟩ | ⟨z', r', ks, e, rfl, q⟩
    · injection e with e1 e2
      injection e1 with e1 e3
      rw [e1]
      rw [← e2] at q
      exact repD_t (repT_keep k f r ks q)
    · injection e with e1 e2
      injection e1 with e1 e3
      rw [e1]
      rw [← e2] at q
      exact repD_k (repK_keep k f r ks q)
theorem repT_keep (k : Keep H H' F) (f : ∀ a, F a → F' a) : ∀ (kvs : List (Val × Val)) (ks : List (List Key × V)), RepT K H F 0 ks kvs → RepT K H' F' 0 ks kvs
  | [], _, h => by simpa only [RepT] using h
  | (x, y) :: r, ks, h => by
    simp only [RepT] at h ⊢
    obtain ⟨c, w, ks', e, e1, h1, h2⟩ := h
    exact ⟨c, w, ks', e, e1, rep_keep k f y w h1, repT_keep k f r ks' h2⟩
theorem repK_keep (k : Keep H H' F) (f : ∀ a, F a → F' a) : ∀ (kvs : List (Val × Val)) (ks : List (Key × V)), RepK K H F 0 ks kvs → RepK K H' F' 0 ks kvs
  | [], _, h => by simpa only [RepK] using h
  | (x, y) :: r, ks, h => by
    simp only [RepK] at h ⊢
    obtain ⟨c, w, ks', e, e1, h1, h2⟩ := h
    exact ⟨c, w, ks', e, e1, rep_keep k f y w h1, repK_keep k f r ks' h2⟩
end
mutual
theorem rep_same (s : Same H H') (f : ∀ a, F a → F' a) : ∀ (v : Val) (k k' : Nat) (u : V), k ≤ k' → Rep K H F k u v → Rep K H' F' k' u v
  | .none, _, _, _, _, h => by simpa only [Rep] using h
  | .bool _, _, _, _, _, h => by simpa only [Rep] using h
  | .int _, _, _, _, _, h => by simpa only [Rep] using h
  | .str _, _, _, _, _, h => by simpa only [Rep] using h
  | .list xs, k, k', _, hk, h => by
    obtain ⟨a, ws, e, h1, h2, h3⟩ := rep_list.mp h
    exact rep_list.mpr ⟨a, ws, e, s.seq h1, fun z => (h2 (by omega)).imp (f a) id, repA_same s f xs (k - 1) (k' - 1) ws (by omega) h3⟩
  | .tuple xs, k, k', _, hk, h => by
    obtain ⟨a, ws, e, h1, h3⟩ := rep_tuple.mp h
    exact rep_tuple.mpr ⟨a, ws, e, sqT_same s h1, repA_same s f xs (k - 1) (k' - 1) ws (by omega) h3⟩
  | .dict kvs, k, k', _, hk, h => by
    rcases rep_dict.mp h with ⟨a, ho, e, h1, h2, h3⟩ | h
    · exact rep_dict.mpr (.inl ⟨a, ho, e, s a _ h1, fun z => f a (h2 (by omega)), repD_same s f kvs (k - 1) (k' - 1) ho (by omega) h3⟩)
    · exact rep_dict.mpr (.inr (h.keep fun b o e _ => s b o e))
theorem repA_same (s : Same H H') (f : ∀ a, F a → F' a) : ∀ (xs : List Val) (k k' : Nat) (ws : List V), k ≤ k' → RepA K H F k ws xs → RepA K H' F' k' ws xs
  | [], _, _, _, _, h => by simpa only [RepA] using h
  | x :: xs, k, k', _, hk, h => by
    simp only [RepA] at h ⊢
    obtain ⟨w, r, e, h1, h2⟩ := h
    exact ⟨w, r, e, rep_same s f x k k' w hk h1, repA_same s f xs k k' r hk h2⟩
theorem repD_same (s : Same H H') (f : ∀ a, F a → F' a) : ∀ (kvs : List (Val × Val)) (k k' : Nat) (ho : HO), k ≤ k' → RepD K H F k ho kvs → RepD K H' F' k' ho kvs
  | [], _, _, _, _, h => by simp [RepD] at h
  | (x, z) :: r, k, k', ho, hk, h => by
    rcases repD_cases h with ⟨z', r', ks, e, rfl, q⟩ | ⟨z', r', ks, e, rfl, q⟩
    · injection e with e1 e2
      injection e1 with e1 e3
      rw [e1]
      rw [← e2] at q
      exact repD_t (repT_same s f r k k' ks hk q)
    · injection e with e1 e2
      injection e1 with e1 e3
      rw [e1]
      rw [← e2] at q
      exact repD_k (repK_same s f r k k' ks hk q)
theorem repT_same (s : Same H H') (f : ∀ a, F a → F' a) : ∀ (kvs : List (Val × Val)) (k k' : Nat) (ks : List (List Key × V)), k ≤ k' → RepT K H F k ks kvs → RepT K H' F' k' ks kvs
  | [], _, _, _, _, h => by simpa only [RepT] using h
  | (x, y) :: r, k, k', ks, hk, h => by
    simp only [RepT] at h ⊢
    obtain ⟨c, w, ks', e, e1, h1, h2⟩ := h
    exact ⟨c, w, ks', e, e1, rep_same s f y k k' w hk h1, repT_same s f r k k' ks' hk h2⟩
theorem repK_same (s : Same H H') (f : ∀ a, F a → F' a) : ∀ (kvs : List (Val × Val)) (k k' : Nat) (ks : List (Key × V)), k ≤ k' → RepK K H F k ks kvs → RepK K H' F' k' ks kvs
  | [], _, _, _, _, h => by simpa only [RepK] using h
  | (x, y) :: r, k, k', ks, hk, h => by
    simp only [RepK] at h ⊢
    obtain ⟨c, w, ks', e, e1, h1, h2⟩ := h
    exact ⟨c, w, ks', e, e1, rep_same s f y k k' w hk h1, repK_same s f r k k' ks' hk h2⟩
end
theorem rep_up {k k' : Nat} {u : V} {v : Val} (hk : k ≤ k') (h : Rep K H F k u v) : Rep K H F k' u v := rep_same (fun _ _ e => e) (fun _ z => z) v k k' u hk h
theorem repA_length : ∀ {xs : List Val} {k : Nat} {ws : List V}, RepA K H F k ws xs → ws.length = xs.length
  | [], _, _, h => by
    simp only [RepA] at h
    subst h
    rfl
  | x :: xs, _, _, h => by
    simp only [RepA] at h
    obtain ⟨w, r, rfl, _, h2⟩ := h
    simp only [List.length_cons, repA_length h2]
theorem repA_get : ∀ {xs : List Val} {k : Nat} {ws : List V} {i : Nat} {x : Val}, RepA K H F k ws xs → xs[i]? = some x → ∃ w, ws[i]? = some w ∧ Rep K H F k w x
  | [], _, _, _, _, _, e => by simp at e
  | y :: xs, _, _, 0, x, h, e => by
    simp only [RepA] at h
    obtain ⟨w, r, rfl, h1, _⟩ := h
    simp at e
    subst e
    exact ⟨w, rfl, h1⟩
  | y :: xs, _, _, i + 1, x, h, e => by
    simp only [RepA] at h
    obtain ⟨w, r, rfl, _, h2⟩ := h
    obtain ⟨z, e1, e2⟩ := repA_get (i := i) h2 (by simpa using e)
    exact ⟨z, by simpa using e1, e2⟩
theorem repA_app : ∀ {xs ys : List Val} {k : Nat} {ws zs : List V}, RepA K H F k ws xs → RepA K H F k zs ys → RepA K H F k (ws ++ zs) (xs ++ ys)
  | [], _, _, _, _, h, h' => by
    simp only [RepA] at h
    subst h
    exact h'
  | x :: xs, _, _, _, _, h, h' => by
    simp only [RepA] at h
    obtain ⟨w, r, rfl, h1, h2⟩ := h
    simp only [List.cons_append, RepA]
    exact ⟨w, _, rfl, h1, repA_app h2 h'⟩
theorem repA_nil {k : Nat} : RepA K H F k [] [] := by simp only [RepA]
theorem repA_cons {k : Nat} {w : V} {ws : List V} {x : Val} {xs : List Val} (h : Rep K H F k w x) (h' : RepA K H F k ws xs) : RepA K H F k (w :: ws) (x :: xs) := by
  simp only [RepA]
  exact ⟨w, ws, rfl, h, h'⟩
theorem repA_one {k : Nat} {ws : List V} {x : Val} (h : RepA K H F k ws [x]) : ∃ w, ws = [w] ∧ Rep K H F k w x := by
  simp only [RepA] at h
  obtain ⟨w, r, rfl, h1, rfl⟩ := h
  exact ⟨w, rfl, h1⟩
theorem repA_two {k : Nat} {ws : List V} {x y : Val} (h : RepA K H F k ws [x, y]) : ∃ w z, ws = [w, z] ∧ Rep K H F k w x ∧ Rep K H F k z y := by
  simp only [RepA] at h
  obtain ⟨w, r, rfl, h1, z, r2, rfl, h2, rfl⟩ := h
  exact ⟨w, z, rfl, h1, h2⟩
theorem rep_atom {k k' : Nat} {u : V} {v : Val} (a : atomB v = true) (h : Rep K H F k u v) : Rep K H' F' k' u v := by
  cases v with
  | list _ => cases a
  | tuple _ => cases a
  | dict _ => cases a
  | _ => simpa only [Rep] using h

/-! ### reading -/
mutual
theorem rep_dp : ∀ (v : Val) (k : Nat) (u : V), v.hasDict = false → Rep K H F k u v → Dp K H u v
  | .none, _, _, _, h => by
    simp only [Rep] at h
    subst h
    exact .non
  | .bool b, _, _, _, h => by
    simp only [Rep] at h
    subst h
    exact .bl b
  | .int i, _, _, _, h => by
    simp only [Rep] at h
    subst h
    exact .int i
  | .str z, _, _, _, h => by
    simp only [Rep] at h
    subst h
    exact .str z
  | .list xs, k, _, c, h => by
    obtain ⟨a, ws, rfl, h1, _, h3⟩ := rep_list.mp h
    exact .lst h1 (repA_dp xs _ ws (by simpa only [PyData.hasDict] using c) h3)
  | .tuple xs, k, _, c, h => by
    obtain ⟨a, ws, rfl, h1, h3⟩ := rep_tuple.mp h
    exact .tup h1 (repA_dp xs _ ws (by simpa only [PyData.hasDict] using c) h3)
  | .dict _, _, _, c, h => by
    simp only [PyData.hasDict] at c
    cases c
theorem repA_dp : ∀ (xs : List Val) (k : Nat) (ws : List V), PyData.hasDictAll xs = false → RepA K H F k ws xs → DpAll K H ws xs
  | [], _, _, _, h => by
    simp only [RepA] at h
    subst h
    exact .nil
  | x :: xs, k, _, c, h => by
    simp only [RepA] at h
    obtain ⟨w, r, rfl, h1, h2⟩ := h
    simp only [PyData.hasDictAll, Bool.or_eq_false_iff] at c
    exact .cons (rep_dp x k w c.1 h1) (repA_dp xs k r c.2 h2)
end

/-! ### owning -/
theorem own_zero {S : List Addr} {u : V} {v : Val} : Own K H F 0 S u v ↔ S = [] ∧ Rep K H F 0 u v := by
  cases v <;> simp only [Own]
theorem own_atom {d : Nat} {S : List Addr} {u : V} {v : Val} (a : atomB v = true) : Own K H F d S u v ↔ S = [] ∧ Rep K H F 0 u v := by
  cases d with
  | zero => exact own_zero
  | succ d =>
    cases v with
    | list _ => cases a
    | tuple _ => cases a
    | dict _ => cases a
    | _ => simp only [Own]
mutual
theorem own_frame : ∀ (v : Val) (d : Nat) (S : List Addr) (u : V), Own K H F d S u v → (∀ b o, H b = some o → (F b ∨ isM o = false ∨ b ∈ S) → H' b = some o) → (∀ a, F a → F' a) → Own K H' F' d S u v
  | v, 0, S, u, h, k, f => by
    rw [own_zero] at h ⊢
    exact ⟨h.1, rep_keep (fun b o e c => k b o e (c.imp id .inl)) f v u h.2⟩
  | .list xs, d + 1, S, u, h, k, f => by
    simp only [Own] at h ⊢
    obtain ⟨a, ws, S', e, h1, rfl, h2, h3⟩ := h
    exact ⟨a, ws, S', e, k a _ h1 (.inr (.inr List.mem_cons_self)), rfl, h2, ownA_frame xs d S' ws h3 (fun b o e c => k b o e (c.imp id fun c => c.imp id fun c => List.mem_cons_of_mem _ c)) f⟩
  | .tuple xs, d + 1, S, u, h, k, f => by
    simp only [Own] at h ⊢
    obtain ⟨a, ws, e, h1, h3⟩ := h
    exact ⟨a, ws, e, sqT_keep (fun b o e c => k b o e (c.imp id .inl)) h1, ownA_frame xs d S ws h3 k f⟩
  | .none, d + 1, S, u, h, k, f => by
    rw [own_atom rfl] at h ⊢
    exact ⟨h.1, rep_atom rfl h.2⟩
  | .bool _, d + 1, S, u, h, k, f => by
    rw [own_atom rfl] at h ⊢
    exact ⟨h.1, rep_atom rfl h.2⟩
  | .int _, d + 1, S, u, h, k, f => by
    rw [own_atom rfl] at h ⊢
    exact ⟨h.1, rep_atom rfl h.2⟩
  | .str _, d + 1, S, u, h, k, f => by
    rw [own_atom rfl] at h ⊢
    exact ⟨h.1, rep_atom rfl h.2⟩
  | .dict kvs, d + 1, S, u, h, k, f => by
    simp only [Own] at h ⊢
    rcases h with ⟨a, ho, e, h1, rfl, h2⟩ | ⟨rfl, h⟩
    · exact .inl ⟨a, ho, e, k a _ h1 (.inr (.inr List.mem_cons_self)), rfl, repD_keep (fun b o e c => k b o e (c.imp id .inl)) f kvs ho h2⟩
    · exact .inr ⟨rfl, h.keep fun b o e m => k b o e (.inr (.inl m))⟩
theorem ownA_frame : ∀ (xs : List Val) (d : Nat) (S : List Addr) (ws : List V), OwnA K H F d S ws xs → (∀ b o, H b = some o → (F b ∨ isM o = false ∨ b ∈ S) → H' b = some o) → (∀ a, F a → F' a) → OwnA K H' F' d S ws xs
  | [], _, _, _, h, _, _ => by simpa only [OwnA] using h
  | x :: xs, d, S, ws, h, k, f => by
    simp only [OwnA] at h ⊢
    obtain ⟨w, r, S1, S2, e, rfl, hd, h1, h2⟩ := h
    exact ⟨w, r, S1, S2, e, rfl, hd, own_frame x d S1 w h1 (fun b o e c => k b o e (c.imp id fun c => c.imp id fun c => List.mem_append_left _ c)) f,
      ownA_frame xs d S2 r h2 (fun b o e c => k b o e (c.imp id fun c => c.imp id fun c => List.mem_append_right _ c)) f⟩
end
mutual
theorem own_dom : ∀ (v : Val) (d : Nat) (S : List Addr) (u : V), Own K H F d S u v → ∀ a ∈ S, ∃ ws, H a = some (mo ws)
  | v, 0, S, u, h => by
    rw [own_zero] at h
    rw [h.1]
    intro a ha
    cases ha
  | .list xs, d + 1, S, u, h => by
    simp only [Own] at h
    obtain ⟨a, ws, S', e, h1, rfl, h2, h3⟩ := h
    intro b hb
    rcases List.mem_cons.mp hb with rfl | hb
    · exact ⟨.l ws, h1⟩
    · exact ownA_dom xs d S' ws h3 b hb
  | .tuple xs, d + 1, S, u, h => by
    simp only [Own] at h
    obtain ⟨a, ws, e, h1, h3⟩ := h
    exact ownA_dom xs d S ws h3
  | .none, d + 1, S, u, h => by
    rw [own_atom rfl] at h
    rw [h.1]
    intro a ha
    cases ha
  | .bool _, d + 1, S, u, h => by
    rw [own_atom rfl] at h
    rw [h.1]
    intro a ha
    cases ha
  | .int _, d + 1, S, u, h => by
    rw [own_atom rfl] at h
    rw [h.1]
    intro a ha
    cases ha
  | .str _, d + 1, S, u, h => by
    rw [own_atom rfl] at h
    rw [h.1]
    intro a ha
    cases ha
  | .dict kvs, d + 1, S, u, h => by
    simp only [Own] at h
    rcases h with ⟨a, ho, e, h1, rfl, h2⟩ | ⟨rfl, _⟩
    · obtain ⟨w, rfl⟩ := repD_mo h2
      intro b hb
      rw [List.mem_singleton.mp hb]
      exact ⟨w, h1⟩
    · intro b hb
      cases hb
theorem ownA_dom : ∀ (xs : List Val) (d : Nat) (S : List Addr) (ws : List V), OwnA K H F d S ws xs → ∀ a ∈ S, ∃ ws, H a = some (mo ws)
  | [], _, _, _, h => by
    simp only [OwnA] at h
    rw [h.1]
    intro a ha
    cases ha
  | x :: xs, d, S, ws, h => by
    simp only [OwnA] at h
    obtain ⟨w, r, S1, S2, e, rfl, hd, h1, h2⟩ := h
    intro a ha
    rcases List.mem_append.mp ha with ha | ha
    · exact own_dom x d S1 w h1 a ha
    · exact ownA_dom xs d S2 r h2 a ha
end
mutual
theorem own_rep : ∀ (v : Val) (d : Nat) (S : List Addr) (u : V), Own K H F d S u v → Rep K H F d u v
  | v, 0, S, u, h => (own_zero.mp h).2
  | .list xs, d + 1, S, u, h => by
    simp only [Own] at h
    obtain ⟨a, ws, S', e, h1, rfl, h2, h3⟩ := h
    exact rep_list.mpr ⟨a, ws, e, SqL.of h1, fun z => (nomatch z), ownA_rep xs d S' ws h3⟩
  | .tuple xs, d + 1, S, u, h => by
    simp only [Own] at h
    obtain ⟨a, ws, e, h1, h3⟩ := h
    exact rep_tuple.mpr ⟨a, ws, e, h1, ownA_rep xs d S ws h3⟩
  | .none, d + 1, S, u, h => rep_atom rfl ((own_atom rfl).mp h).2
  | .bool _, d + 1, S, u, h => rep_atom rfl ((own_atom rfl).mp h).2
  | .int _, d + 1, S, u, h => rep_atom rfl ((own_atom rfl).mp h).2
  | .str _, d + 1, S, u, h => rep_atom rfl ((own_atom rfl).mp h).2
  | .dict kvs, d + 1, S, u, h => by
    simp only [Own] at h
    rcases h with ⟨a, ho, e, h1, rfl, h2⟩ | ⟨_, h⟩
    · exact rep_dict.mpr (.inl ⟨a, ho, e, h1, fun z => (nomatch z), repD_same (fun _ _ e => e) (fun _ z => z) kvs 0 _ ho (Nat.zero_le _) h2⟩)
    · exact rep_dict.mpr (.inr h)
theorem ownA_rep : ∀ (xs : List Val) (d : Nat) (S : List Addr) (ws : List V), OwnA K H F d S ws xs → RepA K H F d ws xs
  | [], _, _, _, h => by
    simp only [OwnA] at h
    simp only [RepA]
    exact h.2
  | x :: xs, d, S, ws, h => by
    simp only [OwnA, RepA] at h ⊢
    obtain ⟨w, r, S1, S2, e, rfl, hd, h1, h2⟩ := h
    exact ⟨w, r, e, own_rep x d S1 w h1, ownA_rep xs d S2 r h2⟩
end
mutual
/-- less is owned: the rest goes to F -/
theorem own_lower : ∀ (v : Val) (d k : Nat) (S : List Addr) (u : V), Own K H F d S u v → k ≤ d →
    ∃ S1, (∀ a ∈ S1, a ∈ S) ∧ ∀ F' : Addr → Prop, (∀ a, F a → F' a) → (∀ a ∈ S, a ∉ S1 → F' a) → Own K H F' k S1 u v
  | v, 0, k, S, u, h, hk => by
    have e : k = 0 := by omega
    subst e
    rw [own_zero] at h
    exact ⟨[], fun a ha => (nomatch ha), fun F' f _ => own_zero.mpr ⟨rfl, rep_keep (Keep.same fun _ _ e => e) f v u h.2⟩⟩
  | .list xs, d + 1, 0, S, u, h, hk => by
    simp only [Own] at h
    obtain ⟨a, ws, S', e, h1, rfl, h2, h3⟩ := h
    obtain ⟨T, t1, t2⟩ := ownA_lower xs d 0 S' ws h3 (Nat.zero_le _)
    refine ⟨[], fun a ha => (nomatch ha), fun F' f g => own_zero.mpr ⟨rfl, ?_⟩⟩
    have e0 : T = [] := by
      have q := t2 (fun _ => True) (fun _ _ => trivial) fun _ _ _ => trivial
      have q2 : ∀ (ys : List Val) (T : List Addr) (zs : List V), OwnA K H (fun _ => True) 0 T zs ys → T = [] := by
        intro ys
        induction ys with
        | nil =>
          intro T zs q
          simp only [OwnA] at q
          exact q.1
        | cons y ys ih =>
          intro T zs q
          simp only [OwnA] at q
          obtain ⟨w, r, S1, S2, e, rfl, hd, h1, h2⟩ := q
          rw [(own_zero.mp h1).1, ih _ _ h2]
          rfl
      exact q2 xs T ws q
    subst e0
    have q := t2 F' f fun a ha _ => g a (List.mem_cons_of_mem _ ha) (fun z => nomatch z)
    exact rep_list.mpr ⟨a, ws, e, SqL.of h1, fun _ => .inl (g a List.mem_cons_self (fun z => nomatch z)), ownA_rep xs 0 [] ws q⟩
  | .tuple xs, d + 1, 0, S, u, h, hk => by
    simp only [Own] at h
    obtain ⟨a, ws, e, h1, h3⟩ := h
    obtain ⟨T, t1, t2⟩ := ownA_lower xs d 0 S ws h3 (Nat.zero_le _)
    refine ⟨[], fun a ha => (nomatch ha), fun F' f g => own_zero.mpr ⟨rfl, ?_⟩⟩
    have e0 : T = [] := by
      have q := t2 (fun _ => True) (fun _ _ => trivial) fun _ _ _ => trivial
      have q2 : ∀ (ys : List Val) (T : List Addr) (zs : List V), OwnA K H (fun _ => True) 0 T zs ys → T = [] := by
        intro ys
        induction ys with
        | nil =>
          intro T zs q
          simp only [OwnA] at q
          exact q.1
        | cons y ys ih =>
          intro T zs q
          simp only [OwnA] at q
          obtain ⟨w, r, S1, S2, e, rfl, hd, h1, h2⟩ := q
          rw [(own_zero.mp h1).1, ih _ _ h2]
          rfl
      exact q2 xs T ws q
    subst e0
    have q := t2 F' f fun a ha _ => g a ha (fun z => nomatch z)
    exact rep_tuple.mpr ⟨a, ws, e, h1, ownA_rep xs 0 [] ws q⟩
  | .list xs, d + 1, k + 1, S, u, h, hk => by
    simp only [Own] at h
    obtain ⟨a, ws, S', e, h1, rfl, h2, h3⟩ := h
    obtain ⟨T, t1, t2⟩ := ownA_lower xs d k S' ws h3 (Nat.le_of_succ_le_succ hk)
    refine ⟨a :: T, fun b hb => ?_, fun F' f g => ?_⟩
    · rcases List.mem_cons.mp hb with rfl | hb
      · exact List.mem_cons_self
      · exact List.mem_cons_of_mem _ (t1 b hb)
    · simp only [Own]
      refine ⟨a, ws, T, e, h1, rfl, fun z => h2 (t1 a z), t2 F' f fun b hb hn => g b (List.mem_cons_of_mem _ hb) fun z => ?_⟩
      rcases List.mem_cons.mp z with rfl | z
      · exact h2 hb
      · exact hn z
  | .tuple xs, d + 1, k + 1, S, u, h, hk => by
    simp only [Own] at h
    obtain ⟨a, ws, e, h1, h3⟩ := h
    obtain ⟨T, t1, t2⟩ := ownA_lower xs d k S ws h3 (Nat.le_of_succ_le_succ hk)
    exact ⟨T, t1, fun F' f g => by
      simp only [Own]
      exact ⟨a, ws, e, h1, t2 F' f g⟩⟩
  | .none, d + 1, k, S, u, h, hk => ⟨[], fun a ha => (nomatch ha), fun F' _ _ => (own_atom rfl).mpr ⟨rfl, rep_atom rfl ((own_atom rfl).mp h).2⟩⟩
  | .bool _, d + 1, k, S, u, h, hk => ⟨[], fun a ha => (nomatch ha), fun F' _ _ => (own_atom rfl).mpr ⟨rfl, rep_atom rfl ((own_atom rfl).mp h).2⟩⟩
  | .int _, d + 1, k, S, u, h, hk => ⟨[], fun a ha => (nomatch ha), fun F' _ _ => (own_atom rfl).mpr ⟨rfl, rep_atom rfl ((own_atom rfl).mp h).2⟩⟩
  | .str _, d + 1, k, S, u, h, hk => ⟨[], fun a ha => (nomatch ha), fun F' _ _ => (own_atom rfl).mpr ⟨rfl, rep_atom rfl ((own_atom rfl).mp h).2⟩⟩
  | .dict kvs, d + 1, 0, S, u, h, hk => by
    simp only [Own] at h
    rcases h with ⟨a, ho, e, h1, rfl, h2⟩ | ⟨_, h⟩
    · exact ⟨[], fun a ha => (nomatch ha), fun F' f g => own_zero.mpr ⟨rfl, rep_dict.mpr (.inl ⟨a, ho, e, h1, fun _ => g a List.mem_cons_self (fun z => nomatch z), repD_keep (Keep.same fun _ _ e => e) f kvs ho h2⟩)⟩⟩
    · exact ⟨[], fun a ha => (nomatch ha), fun F' f g => own_zero.mpr ⟨rfl, rep_dict.mpr (.inr h)⟩⟩
  | .dict kvs, d + 1, k + 1, S, u, h, hk => by
    simp only [Own] at h
    rcases h with ⟨a, ho, e, h1, rfl, h2⟩ | ⟨rfl, h⟩
    · exact ⟨[a], fun b hb => hb, fun F' f g => by
        simp only [Own]
        exact .inl ⟨a, ho, e, h1, rfl, repD_keep (Keep.same fun _ _ e => e) f kvs ho h2⟩⟩
    · exact ⟨[], fun b hb => hb, fun F' f g => by
        simp only [Own]
        exact .inr ⟨trivial, h⟩⟩
theorem ownA_lower : ∀ (xs : List Val) (d k : Nat) (S : List Addr) (ws : List V), OwnA K H F d S ws xs → k ≤ d →
    ∃ S1, (∀ a ∈ S1, a ∈ S) ∧ ∀ F' : Addr → Prop, (∀ a, F a → F' a) → (∀ a ∈ S, a ∉ S1 → F' a) → OwnA K H F' k S1 ws xs
  | [], _, _, _, _, h, _ => by
    simp only [OwnA] at h
    exact ⟨[], fun a ha => (nomatch ha), fun F' _ _ => by
      simp only [OwnA]
      exact ⟨trivial, h.2⟩⟩
  | x :: xs, d, k, S, ws, h, hk => by
    simp only [OwnA] at h
    obtain ⟨w, r, S1, S2, e, rfl, hd, h1, h2⟩ := h
    obtain ⟨T1, a1, a2⟩ := own_lower x d k S1 w h1 hk
    obtain ⟨T2, b1, b2⟩ := ownA_lower xs d k S2 r h2 hk
    refine ⟨T1 ++ T2, fun a ha => ?_, fun F' f g => ?_⟩
    · rcases List.mem_append.mp ha with ha | ha
      · exact List.mem_append_left _ (a1 a ha)
      · exact List.mem_append_right _ (b1 a ha)
    · simp only [OwnA]
      refine ⟨w, r, T1, T2, e, rfl, fun a ha hb => hd a (a1 a ha) (b1 a hb), a2 F' f fun a ha hn => g a (List.mem_append_left _ ha) fun z => ?_, b2 F' f fun a ha hn => g a (List.mem_append_right _ ha) fun z => ?_⟩
      · rcases List.mem_append.mp z with z | z
        · exact hn z
        · exact hd a ha (b1 a z)
      · rcases List.mem_append.mp z with z | z
        · exact hd a (a1 a z) ha
        · exact hn z
end
/-- nothing is owned any more -/
theorem own_freeze {d : Nat} {S : List Addr} {u : V} {v : Val} (h : Own K H F d S u v) (f : ∀ a, F a → F' a) (g : ∀ a ∈ S, F' a) : Rep K H F' 0 u v := by
  obtain ⟨S1, h1, h2⟩ := own_lower v d 0 S u h (Nat.zero_le _)
  have q := h2 F' f fun a ha _ => g a ha
  exact (own_zero.mp q).2
end
end VL

/-! VL, part 3: the frame's values, readings, and rules for expressions. -/
namespace VL
open PySem PySem.Spec L2
open PyProof.Rows hiding St

/-- the heap has grown: all that was tracked stands; what is new may be in F' -/
structure Grow (H : Hp) (F : Addr → Prop) (H' : Hp) (F' : Addr → Prop) : Prop where
  same : Same H H'
  sub : ∀ a, F a → F' a
  new : ∀ a, F' a → F a ∨ H a = none
  dom : ∀ a, F' a → H' a ≠ none
  lst : ∀ a, F' a → F a ∨ ∃ ws, H' a = some (mo ws)
  dm : ∀ a, F a → H a ≠ none
theorem Grow.trans {H H1 H2 : Hp} {F F1 F2 : Addr → Prop} (g : Grow H F H1 F1) (g' : Grow H1 F1 H2 F2) : Grow H F H2 F2 :=
  ⟨g.same.trans g'.same, fun a h => g'.sub a (g.sub a h), fun a h => by
    rcases g'.new a h with h | h
    · exact g.new a h
    · exact .inr (g.same.free h), g'.dom, fun a h => by
    rcases g'.lst a h with h | h
    · exact (g.lst a h).imp id fun ⟨ws, e⟩ => ⟨ws, g'.same a _ e⟩
    · exact .inr h, g.dm⟩
theorem Grow.refl {H : Hp} {F : Addr → Prop} (d : ∀ a, F a → H a ≠ none) : Grow H F H F := ⟨Same.refl H, fun _ h => h, fun _ h => .inl h, d, fun _ h => .inl h, d⟩
/-- a new object, not in F -/
theorem Grow.put {H : Hp} {F : Addr → Prop} (d : ∀ a, F a → H a ≠ none) {p : Addr} {o : HO} (np : H p = none) : Grow H F (upd H p o) F :=
  ⟨fun b o' e => by rw [upd_ne (ne_of_none e np)]; exact e, fun _ h => h, fun _ h => .inl h, fun a h => by
    have := d a h
    by_cases e : a = p
    · subst e; exact absurd np this
    · rw [upd_ne e]; exact this, fun _ h => .inl h, d⟩

structure Rel (K : PySem.W.Frag) (ρ : Env) (F : Addr → Prop) (O : Nat → List Addr) (σ : St) (H : Hp) : Prop where
  len : σ.length = ρ.length
  slot : ∀ (i : Nat) (v : Val) (d : Nat), ρ[i]? = some (some (v, d)) → ∃ u, σ[i]? = some (some u) ∧ Own K H F d (O i) u v
  empty : ∀ i : Nat, (∀ v d, ρ[i]? ≠ some (some (v, d))) → O i = []
  disj : ∀ i j a, i ≠ j → a ∈ O i → a ∉ O j
  notF : ∀ i a, a ∈ O i → ¬ F a
  dom : ∀ a, F a → H a ≠ none
section
variable {K : PySem.W.Frag} {ρ : Env} {F F' : Addr → Prop} {O : Nat → List Addr} {σ : St} {H H' : Hp}
theorem Rel.there (R : Rel K ρ F O σ H) {i : Nat} {a : Addr} (h : a ∈ O i) : ∃ ws, H a = some (mo ws) := by
  cases e : ρ[i]? with
  | none =>
    rw [R.empty i fun v d => by rw [e]; simp] at h
    cases h
  | some x =>
    cases x with
    | none =>
      rw [R.empty i fun v d => by rw [e]; simp] at h
      cases h
    | some y =>
      obtain ⟨v, d⟩ := y
      obtain ⟨u, _, q⟩ := R.slot i v d e
      exact own_dom v d _ u q a h
theorem Rel.grow (R : Rel K ρ F O σ H) (g : Grow H F H' F') : Rel K ρ F' O σ H' where
  len := R.len
  slot := fun i v d e => by
    obtain ⟨u, e1, q⟩ := R.slot i v d e
    exact ⟨u, e1, own_frame v d _ u q (fun b o e _ => g.same b o e) g.sub⟩
  empty := R.empty
  disj := R.disj
  notF := fun i a h f => by
    rcases g.new a f with f | f
    · exact R.notF i a h f
    · obtain ⟨ws, e⟩ := R.there h
      rw [f] at e
      cases e
  dom := g.dom
end

structure Par where
  cf : Nat → List Val → Res Val
  ca : Str → Addr
  W : WX
/-- an error of the program, as it lies -/
def XR (ca : Str → Addr) (c : Str) (v : Val) (cls : Value) (d : Option Addr) (H : Hp) : Prop :=
  cls = .ref (ca c) ∧ ∃ dx i, v = .int i ∧ d = some dx ∧ H dx = some (.xd [("at", V.int i)])

def Run (p : Par) {α : Type} (r : Res α) (σ : St) (H : Hp) (good : α → Prop) : Prop := match r with
  | .ok v => good v
  | .exc x v => ∀ cls d H', Same H H' → XR p.ca x v cls d H' → p.W cls d σ H'
  | .bad => False
section
variable {p : Par} {α β : Type} {σ : St} {H H' : Hp}
theorem Run.bind {r : Res α} {f : α → Res β} {good : β → Prop} (h : Run p (r.bind f) σ H good) : Run p r σ H fun a => Run p (f a) σ H good := by
  cases r with
  | ok a => exact h
  | exc x v => exact h
  | bad => exact h
theorem Run.imp {r : Res α} {good good' : α → Prop} (h : Run p r σ H good) (s : Same H H') (g : ∀ a, r = .ok a → good a → good' a) : Run p r σ H' good' := by
  cases r with
  | ok a => exact g a rfl h
  | exc x v => exact fun cls d H1 s1 x1 => h cls d H1 (s.trans s1) x1
  | bad => exact h
theorem Run.at {r : Res α} {good : α → Prop} (h : Run p r σ H good) (s : Same H H') : Run p r σ H' good := h.imp s fun _ _ z => z
theorem Run.ok {r : Res α} {good : α → Prop} (h : Run p r σ H good) (n : ∀ c v, r ≠ .exc c v) : ∃ a, r = .ok a ∧ good a := by
  cases r with
  | ok a => exact ⟨a, rfl, h⟩
  | exc x v => exact absurd rfl (n x v)
  | bad => exact h.elim
theorem Run.map {r : Res α} {f : α → β} {good : β → Prop} (h : Run p (r.bind fun a => .ok (f a)) σ H good) : Run p r σ H fun a => good (f a) := h.bind
end

/-! ### readings -/
section
variable (K : PySem.W.Frag) (p : Par)
def tE (k : Nat) (c : E) : TE := fun σ H Q => ∃ ρ F O, Rel K ρ F O σ H ∧ Run p (evalE p.cf k c ρ) σ H fun v => ∀ u H' F', Grow H F H' F' → Rep K H' F' k u v → Q u H'
def tO (d : Nat) (c : E) : TE := fun σ H Q => ∃ ρ F O, Rel K ρ F O σ H ∧ Run p (evalE p.cf 0 c ρ) σ H fun v => ∀ u H' F' S, Grow H F H' F' → Own K H' F' d S u v → (∀ a ∈ S, H a = none ∧ ¬ F' a) → Q u H'
def tT (c : E) : TT := fun σ H Q => ∃ ρ F O, Rel K ρ F O σ H ∧ Run p ((evalE p.cf 9 c ρ).bind asBool) σ H fun b => ∀ H' F', Grow H F H' F' → Q b H'
def tA (k : Nat) (cs : List E) : TA := fun σ H Q => ∃ ρ F O, Rel K ρ F O σ H ∧ Run p (evalEs p.cf k cs ρ) σ H fun vs => ∀ us H' F', Grow H F H' F' → RepA K H' F' k us vs → Q us H'
end
structure VE (X : Cx) (p : Par) (e : Expr) (c : E) : Prop where
  run : ∀ k, PE X e (tE X.K p k c)
structure VO (X : Cx) (p : Par) (e : Expr) (c : E) (d : Nat) : Prop where
  run : PE X e (tO X.K p d c)
structure VT (X : Cx) (p : Par) (e : Expr) (c : E) : Prop where
  run : PT X e (tT X.K p c)
structure VA (X : Cx) (p : Par) (es : List Expr) (cs : List E) : Prop where
  run : ∀ k, PA X es (tA X.K p k cs)
theorem PE.imp {X : Cx} {e : Expr} {t t' : TE} (h : PE X e t) (i : ∀ σ H Q, t' σ H Q → t σ H Q) : PE X e t' := ⟨fun pins s σ H Q I q => h.run pins s σ H Q I (i σ H Q q)⟩
theorem PT.imp {X : Cx} {e : Expr} {t t' : TT} (h : PT X e t) (i : ∀ σ H Q, t' σ H Q → t σ H Q) : PT X e t' := ⟨fun pins s σ H Q I q => h.run pins s σ H Q I (i σ H Q q)⟩
theorem PA.imp {X : Cx} {es : List Expr} {t t' : TA} (h : PA X es t) (i : ∀ σ H Q, t' σ H Q → t σ H Q) : PA X es t' := ⟨fun pos pins s σ H Q I q => h.run pos pins s σ H Q I (i σ H Q q)⟩
theorem PSs.imp {X : Cx} {st : List Stmt} {t t' : TS} (h : PSs X st t) (i : ∀ D σ H, t' D σ H → t D σ H) : PSs X st t' := ⟨fun pins s σ H D I q => h.run pins s σ H D I (i D σ H q)⟩
theorem PS.imp {X : Cx} {st : Stmt} {t t' : TS} (h : PS X st t) (i : ∀ D σ H, t' D σ H → t D σ H) : PS X st t' := ⟨fun pins s σ H D I q => h.run pins s σ H D I (i D σ H q)⟩

section
variable {X : Cx} {p : Par} {e : Expr} {c : E} {σ : St} {H : Hp} {pos : Pos}

/-! ### between the readings -/
/-- what is new may be handed on to F -/
theorem Grow.take {K : PySem.W.Frag} {H H' : Hp} {F F' : Addr → Prop} {d : Nat} {S : List Addr} {u : V} {v : Val} (g : Grow H F H' F') (o : Own K H' F' d S u v) (n : ∀ a ∈ S, H a = none ∧ ¬ F' a) :
    Grow H F H' (fun a => F' a ∨ a ∈ S) ∧ Rep K H' (fun a => F' a ∨ a ∈ S) 0 u v :=
  ⟨⟨g.same, fun a h => .inl (g.sub a h), fun a h => h.elim (g.new a) fun h => .inr (n a h).1, fun a h => h.elim (g.dom a) fun h => by
    obtain ⟨ws, e⟩ := own_dom v d S u o a h
    rw [e]
    simp, fun a h => h.elim (g.lst a) fun h => .inr (own_dom v d S u o a h), g.dm⟩, own_freeze o (fun a h => .inl h) fun a h => .inr h⟩
theorem VO.ve {d : Nat} (h : VO X p e c d) (hk : ∀ k ρ, evalE p.cf k c ρ = evalE p.cf 0 c ρ := by intros; rfl) : VE X p e c := ⟨fun k => PE.imp h.run fun σ H Q ⟨ρ, F, O, R, r⟩ => ⟨ρ, F, O, R, by
  rw [hk k ρ] at r
  exact r.imp (Same.refl H) fun v _ q u H' F' S g o n => q u H' _ (g.take o n).1 (rep_up (Nat.zero_le _) (g.take o n).2)⟩⟩
theorem VE.vo (h : VE X p e c) : VO X p e c 0 := ⟨PE.imp (h.run 0) fun σ H Q ⟨ρ, F, O, R, r⟩ => ⟨ρ, F, O, R, r.imp (Same.refl H) fun v _ q u H' F' g rp => q u H' F' [] g (own_zero.mpr ⟨rfl, rp⟩) fun _ z => (nomatch z)⟩⟩
theorem VE.vt (h : VE X p e c) (he : ∀ whole, isTrue e X.env whole = (do let v ← whole; standAt e.pos; holding [v] (truthy v)) := by intro _; rfl) : VT X p e c :=
  ⟨PT.imp (pt_val (h.run 9) he) fun σ H Q ⟨ρ, F, O, R, r⟩ => ⟨ρ, F, O, R, r.bind.imp (Same.refl H) fun v _ q u H' F' g rp => by
    cases v with
    | bool b =>
      simp only [Rep] at rp
      exact ⟨b, rp, q H' F' g⟩
    | _ => exact q.elim⟩⟩

/-! ### names and constants -/
theorem ve_var (i : Nat) {x : Str} (hN : X.N[i]? = some x := by rfl) (hv : Vis X.env.scope x := by first | exact Or.inl rfl | exact Or.inr (Or.inl rfl) | exact Or.inr (Or.inr rfl)) (hd : (x == ("__debug__" : Str)) = false := by decide)
    (hcd : (x == ("__classdict__" : Str)) = false := by decide) : VE X p (.Name x pos) (.var i) := by
  refine ⟨fun k => PE.imp (pe_var hN hv hd hcd) fun σ H Q ⟨ρ, F, O, R, r⟩ => ?_⟩
  show ∃ v, σ[i]? = some (some v) ∧ Q v H
  have r' : Run p (getV ρ i k) σ H _ := r
  unfold getV at r'
  cases q : ρ[i]? with
  | none =>
    rw [q] at r'
    exact r'.elim
  | some y =>
    rw [q] at r'
    cases y with
    | none => exact r'.elim
    | some z =>
      obtain ⟨v, d⟩ := z
      cases hb : Nat.ble d k with
      | false =>
        simp only [hb, Res.guard] at r'
        exact r'.elim
      | true =>
        simp only [hb, Res.guard] at r'
        obtain ⟨u, e1, o⟩ := R.slot i v d q
        exact ⟨u, e1, r' u H F (Grow.refl R.dom) (rep_up (Nat.le_of_ble_eq_true hb) (own_rep v d _ u o))⟩
theorem tC_of {v : Val} {u : V} {k : Nat} (hr : ∀ (K : PySem.W.Frag) (H : Hp) (F : Addr → Prop) (k : Nat), Rep K H F k u v) {K : PySem.W.Frag} {Q : VK} (h : tE K p k (.cst v) σ H Q) : tC u σ H Q := by
  obtain ⟨ρ, F, O, R, r⟩ := h
  exact r u H F (Grow.refl R.dom) (hr _ _ _ _)
theorem ve_int {i : Int} {j : Nat} : VE X p (.Constant (.int i) j pos) (.cst (.int i)) := ⟨fun k => PE.imp pe_int fun _ _ _ h => tC_of (fun _ _ _ _ => by simp only [Rep]) h⟩
theorem ve_bl {b : Bool} {j : Nat} : VE X p (.Constant (.bool b) j pos) (.cst (.bool b)) := ⟨fun k => PE.imp pe_bl fun _ _ _ h => tC_of (fun _ _ _ _ => by simp only [Rep]) h⟩
theorem ve_non {j : Nat} : VE X p (.Constant .none j pos) (.cst .none) := ⟨fun k => PE.imp pe_non fun _ _ _ h => tC_of (fun _ _ _ _ => by simp only [Rep]) h⟩
theorem ve_gint {x : Str} {i : Int} (hm : ∃ t, X.mg x = some (.int i t)) (hg : Gl X x := by rfl) (hd : (x == ("__debug__" : Str)) = false := by decide) : VE X p (.Name x pos) (.cst (.int i)) := by
  obtain ⟨t, hm⟩ := hm
  exact ⟨fun k => PE.imp (pe_glob (v := V.int i) hg hm ⟨t, rfl⟩ hd) fun _ _ _ h => tC_of (fun _ _ _ _ => by simp only [Rep]) h⟩

/-! ### argument lists -/
theorem va_nil : VA X p [] [] := ⟨fun k => PA.imp pa_nil fun σ H Q ⟨ρ, F, O, R, r⟩ => r [] H F (Grow.refl R.dom) repA_nil⟩
theorem va_cons {es : List Expr} {cs : List E} (h : VE X p e c) (hs : VA X p es cs) (hse : starEach (e :: es) X.env = (false, eval e X.env) :: starEach es X.env := by rfl) : VA X p (e :: es) (c :: cs) := by
  refine ⟨fun k => PA.imp (pa_cons (h.run k) (hs.run k) hse) fun σ H Q ⟨ρ, F, O, R, r⟩ => ?_⟩
  have r1 : Run p ((evalE p.cf k c ρ).bind fun v => (evalEs p.cf k cs ρ).bind fun vs => .ok (v :: vs)) σ H _ := r
  refine ⟨ρ, F, O, R, r1.bind.imp (Same.refl H) fun x _ q u H1 F1 g1 h1 => ⟨ρ, F1, O, R.grow g1, q.bind.imp g1.same fun vs _ q2 us H2 F2 g2 h2 => ?_⟩⟩
  exact q2 (u :: us) H2 F2 (g1.trans g2) (repA_cons (rep_same g2.same g2.sub x k k u (Nat.le_refl _) h1) h2)
/-! ### operators -/
/-- what an operator's rule asks, from what its operands stand for -/
def Sp2 (K : PySem.W.Frag) (o : Op) (r : R2) : Prop := ∀ (k : Nat) (H : Hp) (F : Addr → Prop) (u w : V) (x y v : Val) (Q : VK), (∀ a, F a → H a ≠ none) → Rep K H F (octx o k) u x → Rep K H F (octx o k) w y → den o [x, y] = .ok v →
  (∀ z H' F', Grow H F H' F' → Rep K H' F' k z v → Q z H') → r u w H Q
def Sp2O (K : PySem.W.Frag) (o : Op) (r : R2) (d : Nat) : Prop := ∀ (H : Hp) (F : Addr → Prop) (u w : V) (x y v : Val) (Q : VK), (∀ a, F a → H a ≠ none) → Rep K H F (octx o 0) u x → Rep K H F (octx o 0) w y → den o [x, y] = .ok v →
  (∀ z H' F' S, Grow H F H' F' → Own K H' F' d S z v → (∀ a ∈ S, H a = none ∧ ¬ F' a) → Q z H') → r u w H Q
def NoX {α : Type} (r : Res α) : Prop := ∀ c v, r ≠ .exc c v
theorem tE_op2 {o : Op} {r : R2} {ca cb : E} {k : Nat} {Q : VK} {K : PySem.W.Frag} (sp : Sp2 K o r) (nx : ∀ vs, NoX (den o vs)) (h : tE K p k (.op o [ca, cb]) σ H Q) : tOp r (tE K p (octx o k) ca) (tE K p (octx o k) cb) σ H Q := by
  obtain ⟨ρ, F, O, R, h⟩ := h
  have h1 : Run p (((evalE p.cf (octx o k) ca ρ).bind fun x => ((evalE p.cf (octx o k) cb ρ).bind fun y => Res.ok [y]).bind fun ys => .ok (x :: ys)).bind fun vs => den o vs) σ H _ := h
  have h2 := h1.bind.bind
  refine ⟨ρ, F, O, R, h2.imp (Same.refl H) fun x _ q u H1 F1 g1 r1 => ⟨ρ, F1, O, R.grow g1, q.bind.bind.imp g1.same fun y _ q2 w H2 F2 g2 r2 => ?_⟩⟩
  have q3 : Run p (den o [x, y]) σ H _ := q2
  obtain ⟨v, e, q4⟩ := q3.ok (nx _)
  exact sp k H2 F2 u w x y v Q g2.dom (rep_same g2.same g2.sub x _ _ u (Nat.le_refl _) r1) r2 e fun z H' F' g3 r3 => q4 z H' F' (g1.trans (g2.trans g3)) r3
theorem tO_op2 {o : Op} {r : R2} {ca cb : E} {d : Nat} {Q : VK} {K : PySem.W.Frag} (sp : Sp2O K o r d) (nx : ∀ vs, NoX (den o vs)) (h : tO K p d (.op o [ca, cb]) σ H Q) : tOp r (tE K p (octx o 0) ca) (tE K p (octx o 0) cb) σ H Q := by
  obtain ⟨ρ, F, O, R, h⟩ := h
  have h1 : Run p (((evalE p.cf (octx o 0) ca ρ).bind fun x => ((evalE p.cf (octx o 0) cb ρ).bind fun y => Res.ok [y]).bind fun ys => .ok (x :: ys)).bind fun vs => den o vs) σ H _ := h
  have h2 := h1.bind.bind
  refine ⟨ρ, F, O, R, h2.imp (Same.refl H) fun x _ q u H1 F1 g1 r1 => ⟨ρ, F1, O, R.grow g1, q.bind.bind.imp g1.same fun y _ q2 w H2 F2 g2 r2 => ?_⟩⟩
  have q3 : Run p (den o [x, y]) σ H _ := q2
  obtain ⟨v, e, q4⟩ := q3.ok (nx _)
  refine sp H2 F2 u w x y v Q g2.dom (rep_same g2.same g2.sub x _ _ u (Nat.le_refl _) r1) r2 e fun z H' F' S g3 r3 n3 => q4 z H' F' S (g1.trans (g2.trans g3)) r3 fun a ha => ⟨(g1.trans g2).same.free (n3 a ha).1, (n3 a ha).2⟩
end
end VL

/-! VL, part 4: rules for operators. -/
namespace VL
open PySem PySem.Spec L2
open PyProof.Rows hiding St

theorem nx_ok {α : Type} {a : α} : NoX (Res.ok a) := fun _ _ h => nomatch h
theorem nx_bad {α : Type} : NoX (Res.bad : Res α) := fun _ _ h => nomatch h
theorem nx_guard {α : Type} {c : Bool} {r : Res α} (h : NoX r) : NoX (Res.guard c r) := by
  cases c with
  | true => exact h
  | false => exact nx_bad
theorem nx_opt {o : Option Val} : NoX (ofOpt o) := by
  cases o with
  | some v => exact nx_ok
  | none => exact nx_bad
theorem den_nx (o : Op) (vs : List Val) : NoX (den o vs) := by
  unfold den
  split
  all_goals first
    | exact nx_ok
    | exact nx_bad
    | exact nx_guard nx_ok
    | (unfold vAdd; split <;> first | exact nx_ok | exact nx_bad | exact nx_guard nx_ok)
    | (unfold vSub; split <;> first | exact nx_ok | exact nx_bad | exact nx_guard nx_ok)
    | (unfold vMul; split <;> first | exact nx_ok | exact nx_bad | exact nx_guard nx_ok)
    | (unfold vDiv; split <;> first | exact nx_ok | exact nx_bad | exact nx_guard nx_ok)
    | (unfold vMod; split <;> first | exact nx_ok | exact nx_bad | exact nx_guard nx_ok)
    | (unfold vPow; split <;> first | exact nx_ok | exact nx_bad | exact nx_guard nx_ok)
    | (unfold vShl; split <;> first | exact nx_ok | exact nx_bad | exact nx_guard nx_ok)
    | (unfold vShr; split <;> first | exact nx_ok | exact nx_bad | exact nx_guard nx_ok)
    | (unfold vAnd; split <;> first | exact nx_ok | exact nx_bad | exact nx_guard nx_ok)
    | (unfold vOr; split <;> first | exact nx_ok | exact nx_bad | exact nx_guard nx_ok)
    | (unfold vEq; exact nx_guard nx_ok)
    | (unfold vNe; exact nx_guard nx_ok)
    | (unfold vLt vCmp; split <;> first | exact nx_ok | exact nx_bad | (split <;> first | exact nx_ok | exact nx_bad))
    | (unfold vLe; split <;> first | exact nx_ok | exact nx_bad)
    | (unfold vGt; split <;> first | exact nx_ok | exact nx_bad)
    | (unfold vGe vCmp; split <;> first | exact nx_ok | exact nx_bad | (split <;> first | exact nx_ok | exact nx_bad))
    | (unfold vIn; split <;> first | exact nx_bad | exact nx_guard nx_ok)
    | (unfold vNotIn; split <;> first | exact nx_bad | exact nx_guard nx_ok)
    | (unfold vIs; split <;> first | exact nx_ok | exact nx_bad)
    | (unfold vIsNot; split <;> first | exact nx_ok | exact nx_bad)
    | (unfold vIdx; split <;> first | exact nx_opt | exact nx_bad)
    | (unfold vSlice; split <;> first | exact nx_ok | exact nx_bad)
    | (unfold vLst; split <;> first | exact nx_bad | exact nx_guard nx_ok)
    | (unfold vTup; split <;> first | exact nx_bad | exact nx_guard nx_ok)
    | (unfold vLen; split <;> first | exact nx_ok | exact nx_bad)
    | (unfold vSorted; split <;> first | exact nx_bad | exact nx_guard nx_ok)
    | (unfold vSortLen; split <;> first | exact nx_bad | exact nx_guard nx_ok)
    | (unfold vIndex; split <;> first | exact nx_bad | exact nx_guard (by split <;> first | exact nx_ok | exact nx_bad))
    | (unfold vSortSetD; split <;> first | exact nx_bad | (split <;> first | exact nx_bad | exact nx_guard nx_ok))
    | (unfold vSortSetT; split <;> first | exact nx_bad | (split <;> first | exact nx_bad | exact nx_guard nx_ok))
    | (unfold vSortSetI; split <;> first | exact nx_bad | (split <;> first | exact nx_bad | exact nx_guard nx_ok))
    | (unfold vSortedSet; split <;> first | exact nx_bad | (split <;> first | exact nx_bad | exact nx_guard nx_ok))
    | exact nx_guard nx_ok
    | (unfold vDidx; split <;> first | exact nx_bad | exact nx_guard nx_opt)
    | (unfold vDin; split <;> first | exact nx_bad | exact nx_guard nx_ok)
    | (unfold vDnotin; split <;> first | exact nx_bad | exact nx_guard nx_ok)
    | (unfold vLenSetI; split <;> first | exact nx_bad | (split <;> first | exact nx_bad | exact nx_guard nx_ok))
    | (split <;> first | exact nx_ok | exact nx_bad)

/-- two rules for one operator -/
theorem OpR.or {X : Cx} {f : Value → Value → Sem Value} {r r' : R2} (h : OpR X f r) (h' : OpR X f r') : OpR X f (fun x y H Q => r x y H Q ∨ r' x y H Q) := by
  intro pins s σ H x y v u Q I rx ry q
  rcases q with q | q
  · exact h pins s σ H x y v u Q I rx ry q
  · exact h' pins s σ H x y v u Q I rx ry q

section
variable {K : PySem.W.Frag} {H H' : Hp} {F F' : Addr → Prop} {k : Nat} {u w : V}
theorem rep_int {i : Int} : Rep K H F k u (.int i) ↔ u = .int i := by simp only [Rep]
theorem rep_bool {b : Bool} : Rep K H F k u (.bool b) ↔ u = .bl b := by simp only [Rep]
theorem rep_none : Rep K H F k u .none ↔ u = .non := by simp only [Rep]
theorem rep_str {z : Str} : Rep K H F k u (.str z) ↔ u = .str z := by simp only [Rep]
/-- a new list, all of whose items lie in F -/
theorem own_new {p : Addr} {ws : List V} {xs : List Val} (d : ∀ a, F a → H a ≠ none) (np : H p = none) (h : RepA K H F 0 ws xs) :
    Grow H F (upd H p (.lst ws)) F ∧ Own K (upd H p (.lst ws)) F 1 [p] (.ref p) (.list xs) ∧ ∀ a ∈ [p], H a = none ∧ ¬ F a := by
  refine ⟨Grow.put d np, ?_, fun a ha => ?_⟩
  · simp only [Own]
    refine ⟨p, ws, [], rfl, upd_same, rfl, fun z => (nomatch z), ?_⟩
    have q : RepA K (upd H p (.lst ws)) F 0 ws xs := repA_same (Grow.put d np).same (fun _ z => z) xs 0 0 ws (Nat.le_refl _) h
    clear h np
    induction xs generalizing ws with
    | nil =>
      simp only [RepA] at q
      simp only [OwnA]
      exact ⟨trivial, q⟩
    | cons x xs ih => exact ownA_of_repA q
  · have e : a = p := by simpa using ha
    subst e
    exact ⟨np, fun f => d a f np⟩
where
  ownA_of_repA {K : PySem.W.Frag} {H : Hp} {F : Addr → Prop} : ∀ {xs : List Val} {ws : List V}, RepA K H F 0 ws xs → OwnA K H F 0 [] ws xs
  | [], ws, h => by
    simp only [RepA] at h
    simp only [OwnA]
    exact ⟨trivial, h⟩
  | x :: xs, ws, h => by
    simp only [RepA] at h
    obtain ⟨w, r, e, h1, h2⟩ := h
    simp only [OwnA]
    exact ⟨w, r, [], [], e, rfl, fun a ha => (nomatch ha), own_zero.mpr ⟨rfl, h1⟩, ownA_of_repA h2⟩
end

section
variable {X : Cx} {p : Par} {a b c : Expr} {ca cb cc : E} {pos : Pos}

/-! ### operators of two ints -/
theorem ve_bin {op : Operator} {o : Op} {r : R2} (hr : OpR X (binaryOp op) r) (sp : Sp2 X.K o r) (ha : VE X p a ca) (hb : VE X p b cb) : VE X p (.BinOp a op b pos) (.op o [ca, cb]) :=
  ⟨fun k => PE.imp (pe_op hr (ha.run _) (hb.run _)) fun σ H Q h => tE_op2 sp (den_nx o) h⟩
theorem vo_bin {op : Operator} {o : Op} {r : R2} {d : Nat} (hr : OpR X (binaryOp op) r) (sp : Sp2O X.K o r d) (ha : VE X p a ca) (hb : VE X p b cb) : VO X p (.BinOp a op b pos) (.op o [ca, cb]) d :=
  ⟨PE.imp (pe_op hr (ha.run _) (hb.run _)) fun σ H Q h => tO_op2 sp (den_nx o) h⟩
theorem ve_cmp {op : CmpOp} {o : Op} {r : R2} (hr : OpR X (compareOp op) r) (sp : Sp2 X.K o r) (ha : VE X p a ca) (hb : VE X p b cb) (hm : behindInMarks op b = false) : VE X p (.Compare a [op] [b] pos) (.op o [ca, cb]) :=
  ⟨fun k => PE.imp (pe_cmpR hr (ha.run _) (hb.run _) hm) fun σ H Q h => tE_op2 sp (den_nx o) h⟩
theorem vt_cmp {op : CmpOp} {o : Op} {r : R2} (hr : OpR X (compareOp op) r) (sp : Sp2 X.K o r) (ha : VE X p a ca) (hb : VE X p b cb) (hm : behindInMarks op b = false) : VT X p (.Compare a [op] [b] pos) (.op o [ca, cb]) :=
  ⟨PT.imp (pt_cmpR hr (ha.run _) (hb.run _) hm) fun σ H Q ⟨ρ, F, O, R, h⟩ => by
    refine tE_op2 (k := 9) sp (den_nx o) ⟨ρ, F, O, R, h.bind.imp (Same.refl H) fun v _ q u H' F' g rp => ?_⟩
    cases v with
    | bool t => exact ⟨t, rep_bool.mp rp, q H' F' g⟩
    | _ => exact q.elim⟩

theorem sp_ints {K : PySem.W.Frag} {o : Op} {C : Int → Int → Prop} {g : Int → Int → V} {f : Int → Int → Val} (hd : ∀ x y v, den o [x, y] = .ok v → ∃ i j, x = .int i ∧ y = .int j ∧ C i j ∧ v = f i j)
    (hg : ∀ K H F k i j, Rep K H F k (g i j) (f i j)) : Sp2 K o (rI C g) := by
  intro k H F u w x y v Q d hu hw e q
  obtain ⟨i, j, rfl, rfl, hc, rfl⟩ := hd x y v e
  exact ⟨i, j, rep_int.mp hu, rep_int.mp hw, hc, q _ H F (Grow.refl d) (hg _ _ _ _ i j)⟩
theorem sp_ints0 {K : PySem.W.Frag} {o : Op} {g : Int → Int → V} {f : Int → Int → Val} (hd : ∀ x y v, den o [x, y] = .ok v → ∃ i j, x = .int i ∧ y = .int j ∧ v = f i j)
    (hg : ∀ K H F k i j, Rep K H F k (g i j) (f i j)) : Sp2 K o (rI0 g) := by
  intro k H F u w x y v Q d hu hw e q
  obtain ⟨i, j, rfl, rfl, rfl⟩ := hd x y v e
  exact ⟨i, j, rep_int.mp hu, rep_int.mp hw, q _ H F (Grow.refl d) (hg _ _ _ _ i j)⟩
theorem ve_sub (ha : VE X p a ca) (hb : VE X p b cb) : VE X p (.BinOp a .Sub b pos) (.op .sub [ca, cb]) :=
  ve_bin op_sub (sp_ints0 (f := fun i j => .int (i - j)) (fun x y v h => by
    simp only [den] at h
    unfold vSub at h
    split at h
    · cases h
      exact ⟨_, _, rfl, rfl, rfl⟩
    · cases h) fun _ _ _ _ _ _ => rep_int.mpr rfl) ha hb
theorem ve_mul (ha : VE X p a ca) (hb : VE X p b cb) : VE X p (.BinOp a .Mult b pos) (.op .mul [ca, cb]) :=
  ve_bin op_mulW (sp_ints (f := fun i j => .int (i * j)) (fun x y v h => by
    simp only [den] at h
    unfold vMul at h
    split at h
    · obtain ⟨h1, h2⟩ := Res.guard_ok h
      cases h2
      have h3 := of_decide_eq_true h1
      exact ⟨_, _, rfl, rfl, Nat.lt_trans h3 (by decide), rfl⟩
    · cases h) fun _ _ _ _ _ _ => rep_int.mpr rfl) ha hb
theorem ve_fdiv (ha : VE X p a ca) (hb : VE X p b cb) : VE X p (.BinOp a .FloorDiv b pos) (.op .fdiv [ca, cb]) :=
  ve_bin op_fdiv (sp_ints (f := fun i j => .int (i / j)) (fun x y v h => by
    simp only [den] at h
    unfold vDiv at h
    split at h
    · obtain ⟨h1, h2⟩ := Res.guard_ok h
      cases h2
      have h3 := Bool.and_eq_true_iff.mp h1
      exact ⟨_, _, rfl, rfl, ⟨of_decide_eq_true h3.1, of_decide_eq_true h3.2⟩, rfl⟩
    · cases h) fun _ _ _ _ _ _ => rep_int.mpr rfl) ha hb
theorem ve_mod (ha : VE X p a ca) (hb : VE X p b cb) : VE X p (.BinOp a .Mod b pos) (.op .mod [ca, cb]) :=
  ve_bin op_mod (sp_ints (f := fun i j => .int (i % j)) (fun x y v h => by
    simp only [den] at h
    unfold vMod at h
    split at h
    · obtain ⟨h1, h2⟩ := Res.guard_ok h
      cases h2
      exact ⟨_, _, rfl, rfl, of_decide_eq_true h1, rfl⟩
    · cases h) fun _ _ _ _ _ _ => rep_int.mpr rfl) ha hb
theorem expOk_of {i j : Int} (h : expOk i j = true) : CPow i j := by
  obtain ⟨h1, h2⟩ := Bool.and_eq_true_iff.mp h
  obtain ⟨h3, h4⟩ := Bool.and_eq_true_iff.mp h2
  exact ⟨of_decide_eq_true h1, of_decide_eq_true h3, of_decide_eq_true h4⟩
theorem ve_pow (ha : VE X p a ca) (hb : VE X p b cb) : VE X p (.BinOp a .Pow b pos) (.op .pow [ca, cb]) :=
  ve_bin op_pow (sp_ints (f := fun i j => .int (i ^ j.toNat)) (fun x y v h => by
    simp only [den] at h
    unfold vPow at h
    split at h
    · obtain ⟨h1, h2⟩ := Res.guard_ok h
      cases h2
      exact ⟨_, _, rfl, rfl, expOk_of h1, rfl⟩
    · cases h) fun _ _ _ _ _ _ => rep_int.mpr rfl) ha hb
/-! ### + of ints, of lists -/
def rCatL (K : PySem.W.Frag) : R2 := fun x y H Q => ∃ l m ws zs, x = .ref l ∧ y = .ref m ∧ SqL K H l ws ∧ SqL K H m zs ∧ ws.length + zs.length ≤ sizeLine ∧ ∀ P, H P = none → Q (.ref P) (upd H P (.lst (ws ++ zs)))
theorem op_catL : OpR X (binaryOp .Add) (rCatL X.K) := by
  intro pins s σ H x y v u Q I rx ry h
  obtain ⟨l, m, ws, zs, rfl, rfl, sl, sm, hz, q⟩ := h
  cases rx
  cases ry
  obtain ⟨its, r, ⟨⟨c1, d1, t1, s1⟩, n1, o1, k1, _, e1⟩, _⟩ := I.list sl
  obtain ⟨jts, r2, ⟨⟨c2, d2, t2, s2⟩, n2, o2, k2, _, e2⟩, _⟩ := I.list sm
  simp only at k1 e1 k2 e2
  subst k1 e1 k2 e2
  have a1 := r.length
  have a2 := r2.length
  refine concat_meets ⟨_, o1, rfl⟩ ⟨_, o2, rfl⟩ noFill_list_add seq_list_add PySem.F.slot_list_add PySem.F.entry_list_add (PySem.F.args_list_add_2 _ _)
    (PyProof.Rows.list_addW l m its.toArray jts.toArray n1 n2 d1 d2 s1 s2 (by rw [List.size_toArray, List.size_toArray]; omega)) ⟨o1, o2, ?_⟩
  have ea : its.toArray ++ jts.toArray = (its ++ jts).toArray := by simp
  rw [ea]
  exact ⟨.ref _, _, I.lnew (t' := s.toks) (r.append r2) (by rw [List.length_append]; omega), rfl, q _ I.fresh⟩
theorem sizeOk_of {n : Nat} (h : sizeOk n = true) : n ≤ sizeLine := of_decide_eq_true h
theorem vo_add (ha : VE X p a ca) (hb : VE X p b cb) : VO X p (.BinOp a .Add b pos) (.op .add [ca, cb]) 1 :=
  vo_bin (op_add.or op_catL) (fun H F u w x y v Q d hu hw e q => by
    simp only [den] at e
    unfold vAdd at e
    split at e
    · cases e
      exact .inl ⟨_, _, rep_int.mp hu, rep_int.mp hw, q _ H F [] (Grow.refl d) ((own_atom rfl).mpr ⟨rfl, rep_int.mpr rfl⟩) fun _ z => (nomatch z)⟩
    · obtain ⟨h1, h2⟩ := Res.guard_ok e
      cases h2
      obtain ⟨l, ws, rfl, sl, _, rl⟩ := rep_list.mp hu
      obtain ⟨m, zs, rfl, sm, _, rm⟩ := rep_list.mp hw
      refine .inr ?_
      have r1 : RepA X.K H F 0 ws _ := rl
      have r2 : RepA X.K H F 0 zs _ := rm
      have hn := sizeOk_of h1
      have l1 := repA_length r1
      have l2 := repA_length r2
      refine ⟨l, m, ws, zs, rfl, rfl, sl, sm, by omega, fun P nP => ?_⟩
      obtain ⟨g, o, n⟩ := own_new d nP (repA_app r1 r2)
      exact q _ _ F [P] g o n
    · cases e) ha hb
end
end VL

/-! VL, part 5: comparisons, items, slices, and, or, displays. -/
namespace VL
open PySem PySem.Spec L2
open PyProof.Rows hiding St

theorem intsOf_eq : ∀ {xs : List Val} {is : List Int}, intsOf xs = some is → xs = is.map .int
  | [], _, h => by
    cases h
    rfl
  | .int i :: r, is, h => by
    simp only [intsOf] at h
    cases e : intsOf r with
    | none =>
      rw [e] at h
      cases h
    | some js =>
      rw [e] at h
      cases h
      rw [intsOf_eq e]
      rfl
  | .none :: _, _, h => by simp [intsOf] at h
  | .bool _ :: _, _, h => by simp [intsOf] at h
  | .str _ :: _, _, h => by simp [intsOf] at h
  | .list _ :: _, _, h => by simp [intsOf] at h
  | .tuple _ :: _, _, h => by simp [intsOf] at h
  | .dict _ :: _, _, h => by simp [intsOf] at h
section
variable {K : PySem.W.Frag} {H H' : Hp} {F F' : Addr → Prop} {k : Nat} {u w : V}
theorem repA_ints : ∀ {is : List Int} {ws : List V}, RepA K H F k ws (is.map .int) → ws = is.map V.int
  | [], _, h => by
    simpa only [List.map_nil, RepA] using h
  | i :: is, _, h => by
    simp only [List.map_cons, RepA] at h
    obtain ⟨w, r, rfl, h1, h2⟩ := h
    rw [rep_int.mp h1, repA_ints h2]
    rfl
theorem repA_of_ints : ∀ {is : List Int}, RepA K H F k (is.map V.int) (is.map .int)
  | [] => repA_nil
  | i :: is => repA_cons (rep_int.mpr rfl) repA_of_ints
theorem repA_at {xs : List Val} {ws : List V} {i : Int} {v : Val} (h : RepA K H F k ws xs) (e : atV xs i = some v) : ∃ w, atI ws i = some w ∧ Rep K H F k w v := by
  unfold atV L2.atI at e
  unfold L2.atI
  rw [repA_length h]
  cases q : L2.ixN xs.length i with
  | none =>
    rw [q] at e
    cases e
  | some j =>
    rw [q] at e
    obtain ⟨w, e1, e2⟩ := repA_get h (show xs[j]? = some v from e)
    exact ⟨w, e1, e2⟩
end

/-! ### two int tuples by >= -/
theorem lexAt_ge : ∀ (k i : Nat) (ns ms : List Int), min (ns.length - i) (ms.length - i) = k → i ≤ ns.length → i ≤ ms.length →
    Ob.lexAt (fun j => decide (ns.getD j 0 = ms.getD j 0)) (fun j => decide (ms.getD j 0 ≤ ns.getD j 0)) (decide (ns.length ≥ ms.length)) i k = !HT.lexLt (ns.drop i) (ms.drop i)
  | 0, i, ns, ms, hk, h1, h2 => by
    rw [Ob.lexAt_zero]
    by_cases e : ns.length ≤ i
    · rw [List.drop_eq_nil_of_le e]
      by_cases e2 : ms.length ≤ i
      · rw [List.drop_eq_nil_of_le e2, HT.lexLt_nil_nil, decide_eq_true (by omega)]
        rfl
      · obtain ⟨y, r, q⟩ : ∃ y r, ms.drop i = y :: r := by
          cases q : ms.drop i with
          | nil =>
            have := congrArg List.length q
            rw [List.length_drop, List.length_nil] at this
            omega
          | cons y r => exact ⟨y, r, rfl⟩
        rw [q, HT.lexLt_nil_cons, decide_eq_false (by omega)]
        rfl
    · have e2 : ms.length ≤ i := by omega
      rw [List.drop_eq_nil_of_le e2]
      obtain ⟨y, r, q⟩ : ∃ y r, ns.drop i = y :: r := by
        cases q : ns.drop i with
        | nil =>
          have := congrArg List.length q
          rw [List.length_drop, List.length_nil] at this
          omega
        | cons y r => exact ⟨y, r, rfl⟩
      rw [q, HT.lexLt_cons_nil, decide_eq_true (by omega)]
      rfl
  | k + 1, i, ns, ms, hk, h1, h2 => by
    have a1 : i < ns.length := by omega
    have a2 : i < ms.length := by omega
    have g1 : ns.getD i 0 = ns[i] := by simp [a1]
    have g2 : ms.getD i 0 = ms[i] := by simp [a2]
    rw [Ob.lexAt_succ, List.drop_eq_getElem_cons a1, List.drop_eq_getElem_cons a2, HT.lexLt_cons, g1, g2]
    by_cases e : ns[i] = ms[i]
    · rw [if_pos e, decide_eq_true e, if_pos rfl]
      exact lexAt_ge k (i + 1) ns ms (by omega) (by omega) (by omega)
    · rw [if_neg e, decide_eq_false e, if_neg Bool.false_ne_true]
      by_cases l : ns[i] < ms[i]
      · rw [decide_eq_true l, decide_eq_false (by omega)]
        rfl
      · rw [decide_eq_false l, decide_eq_true (by omega)]
        rfl
def rGeT (K : PySem.W.Frag) : R2 := fun x y H Q => ∃ a b ns ms, x = .ref a ∧ y = .ref b ∧ SqT K H a (ns.map V.int) ∧ SqT K H b (ms.map V.int) ∧ Q (.bl (!HT.lexLt ns ms)) H
theorem op_geT {X : Cx} (hu : X.A.units < cLine) : OpR X (compareOp .GtE) (rGeT X.K) := by
  intro pins s σ H x y v u Q I rx ry h
  obtain ⟨a, b, ns, ms, rfl, rfl, ha, hb, q⟩ := h
  cases rx
  cases ry
  obtain ⟨its, r1, p1, _⟩ := I.tuple ha
  obtain ⟨jts, r2, p2, _⟩ := I.tuple hb
  have i1 := Vals.ints r1
  have i2 := Vals.ints r2
  have n1 := i1.length
  have n2 := i2.length
  have c1 : ∀ (j : Nat) (hj : j < its.toArray.size), ∃ t, its.toArray[j] = .int (ns.getD j 0) t := fun j hj => PyProof.Rows.IntsAre.int_at i1 _ _ (by simp at hj; simp [hj])
  have c2 : ∀ (j : Nat) (hj : j < jts.toArray.size), ∃ t, jts.toArray[j] = .int (ms.getD j 0) t := fun j hj => PyProof.Rows.IntsAre.int_at i2 _ _ (by simp at hj; simp [hj])
  have key := Ob.RcOp.tuples_ge (A := X.A) (s := s) (e := fun j => decide (ns.getD j 0 = ms.getD j 0)) (r := fun j => decide (ms.getD j 0 ≤ ns.getD j 0)) p1 p2 hu
    (fun j h1 h2 => by
      obtain ⟨t1, z1⟩ := c1 j h1
      obtain ⟨t2, z2⟩ := c2 j h2
      rw [z1, z2, ← Bool.beq_eq_decide_eq]
      exact SeqAt.EqAt.int_int _ _ _ _)
    (fun j h1 h2 _ => by
      obtain ⟨t1, z1⟩ := c1 j h1
      obtain ⟨t2, z2⟩ := c2 j h2
      rw [z1, z2]
      exact Ob.RcOp.ge_int _ _ _ _)
  have e0 : (decide (its.toArray.size ≥ jts.toArray.size)) = decide (ns.length ≥ ms.length) := by
    rw [List.size_toArray, List.size_toArray, n1, n2]
  have e1 : min its.toArray.size jts.toArray.size = min ns.length ms.length := by
    rw [List.size_toArray, List.size_toArray, n1, n2]
  rw [e0, e1, lexAt_ge _ 0 ns ms (by simp) (Nat.zero_le _) (Nat.zero_le _)] at key
  exact key X.prog X.w X.xe (EP X pins σ Q) ⟨.bl _, H, I, rfl, q⟩

section
variable {X : Cx} {p : Par} {a b c e : Expr} {ca cb cc ce : E} {pos : Pos}

/-! ### comparisons -/
theorem sp_cmpI {K : PySem.W.Frag} {o : Op} {f : Int → Int → Bool} (hd : ∀ x y v, den o [x, y] = .ok v → ∃ i j, x = .int i ∧ y = .int j ∧ v = .bool (f i j)) : Sp2 K o (rI0 fun i j => .bl (f i j)) :=
  sp_ints0 (f := fun i j => .bool (f i j)) hd fun _ _ _ _ _ _ => rep_bool.mpr rfl
theorem sp_le {K : PySem.W.Frag} : Sp2 K .le (rI0 fun i j => .bl (decide (i ≤ j))) := sp_cmpI fun x y v h => by
  simp only [den] at h
  unfold vLe at h
  split at h
  · cases h
    exact ⟨_, _, rfl, rfl, rfl⟩
  · cases h
theorem sp_gt {K : PySem.W.Frag} : Sp2 K .gt (rI0 fun i j => .bl (decide (j < i))) := sp_cmpI fun x y v h => by
  simp only [den] at h
  unfold vGt at h
  split at h
  · cases h
    exact ⟨_, _, rfl, rfl, rfl⟩
  · cases h
theorem sp_lt {K : PySem.W.Frag} : Sp2 K .lt (fun x y H Q => rI0 (fun i j => .bl (decide (i < j))) x y H Q ∨ rLtT K x y H Q) := by
  intro k H F u w x y v Q d hu hw h q
  simp only [den] at h
  unfold vLt vCmp at h
  split at h
  · cases h
    exact .inl ⟨_, _, rep_int.mp hu, rep_int.mp hw, q _ H F (Grow.refl d) (rep_bool.mpr rfl)⟩
  · split at h
    · rename_i e1 e2
      cases h
      obtain ⟨l, ws, rfl, s1, r1⟩ := rep_tuple.mp hu
      obtain ⟨m, zs, rfl, s2, r2⟩ := rep_tuple.mp hw
      rw [intsOf_eq e1] at r1
      rw [intsOf_eq e2] at r2
      rw [repA_ints r1] at s1
      rw [repA_ints r2] at s2
      exact .inr ⟨l, m, _, _, rfl, rfl, s1, s2, q _ H F (Grow.refl d) (rep_bool.mpr rfl)⟩
    · cases h
  · cases h
theorem sp_ge {K : PySem.W.Frag} : Sp2 K .ge (fun x y H Q => rI0 (fun i j => .bl (decide (j ≤ i))) x y H Q ∨ rGeT K x y H Q) := by
  intro k H F u w x y v Q d hu hw h q
  simp only [den] at h
  unfold vGe vCmp at h
  split at h
  · cases h
    exact .inl ⟨_, _, rep_int.mp hu, rep_int.mp hw, q _ H F (Grow.refl d) (rep_bool.mpr rfl)⟩
  · split at h
    · rename_i e1 e2
      cases h
      obtain ⟨l, ws, rfl, s1, r1⟩ := rep_tuple.mp hu
      obtain ⟨m, zs, rfl, s2, r2⟩ := rep_tuple.mp hw
      rw [intsOf_eq e1] at r1
      rw [intsOf_eq e2] at r2
      rw [repA_ints r1] at s1
      rw [repA_ints r2] at s2
      exact .inr ⟨l, m, _, _, rfl, rfl, s1, s2, q _ H F (Grow.refl d) (rep_bool.mpr rfl)⟩
    · cases h
  · cases h
theorem shaped_two {x y : Val} (h : (shapedB x && shapedB y) = true) : SeqAt.shaped x = true ∧ SeqAt.shaped y = true := Bool.and_eq_true_iff.mp h
theorem sp_eq {K : PySem.W.Frag} : Sp2 K .eq (rEqD K) := by
  intro k H F u w x y v Q d hu hw h q
  simp only [den] at h
  obtain ⟨h1, h2⟩ := Res.guard_ok h
  cases h2
  obtain ⟨s1, s2⟩ := shaped_two h1
  exact ⟨x, y, rep_dp x _ u (PyData.hasDict_of_canLay _ (SeqAt.canLay_of_shaped s1)) hu, rep_dp y _ w (PyData.hasDict_of_canLay _ (SeqAt.canLay_of_shaped s2)) hw, s1, s2, q _ H F (Grow.refl d) (rep_bool.mpr rfl)⟩
theorem sp_ne {K : PySem.W.Frag} : Sp2 K .ne (rNeD K) := by
  intro k H F u w x y v Q d hu hw h q
  simp only [den] at h
  obtain ⟨h1, h2⟩ := Res.guard_ok h
  cases h2
  obtain ⟨s1, s2⟩ := shaped_two h1
  exact ⟨x, y, rep_dp x _ u (PyData.hasDict_of_canLay _ (SeqAt.canLay_of_shaped s1)) hu, rep_dp y _ w (PyData.hasDict_of_canLay _ (SeqAt.canLay_of_shaped s2)) hw, s1, s2, q _ H F (Grow.refl d) (rep_bool.mpr rfl)⟩
def rInT (K : PySem.W.Frag) (neg : Bool) : R2 := fun x y H Q => ∃ d ds, Dp K H x d ∧ Dp K H y (.tuple ds) ∧ SeqAt.shaped d = true ∧ SeqAt.shaped (.tuple ds) = true ∧ Q (.bl (if neg then !memB d ds else memB d ds)) H
theorem op_inT (hu : X.A.units + 65 < cLine) : OpR X (compareOp .In) (rInT X.K false) := by
  intro pins s σ H x y v u Q I rx ry h
  obtain ⟨d, ds, hd, he, sd, se, q⟩ := h
  obtain ⟨as, r1⟩ := hd.reads I d x v rx
  obtain ⟨bs, r2⟩ := he.reads I (.tuple ds) y u ry
  have lay : PyData.canLayAll0 ds = true := by
    have z := SeqAt.canLay_of_shaped se
    simpa only [PyData.canLay0] using z
  exact SeqAt.in_tuple_reads r2 r1 lay (SeqAt.canLay_of_shaped sd) (room_in_shaped sd hu) ⟨.bl _, H, I, rfl, q⟩
theorem op_notInT (hu : X.A.units + 65 < cLine) : OpR X (compareOp .NotIn) (rInT X.K true) := by
  intro pins s σ H x y v u Q I rx ry h
  obtain ⟨d, ds, hd, he, sd, se, q⟩ := h
  obtain ⟨as, r1⟩ := hd.reads I d x v rx
  obtain ⟨bs, r2⟩ := he.reads I (.tuple ds) y u ry
  have lay : PyData.canLayAll0 ds = true := by
    have z := SeqAt.canLay_of_shaped se
    simpa only [PyData.canLay0] using z
  exact SeqAt.notIn_tuple_reads r2 r1 lay (SeqAt.canLay_of_shaped sd) (room_in_shaped sd hu) ⟨.bl _, H, I, rfl, q⟩
theorem sp_in {K : PySem.W.Frag} : Sp2 K .isin (fun x y H Q => rInD K x y H Q ∨ rInT K false x y H Q) := by
  intro k H F u w x y v Q d hu hw h q
  simp only [den] at h
  unfold vIn at h
  split at h
  · obtain ⟨h1, h2⟩ := Res.guard_ok h
    cases h2
    obtain ⟨s1, s2⟩ := shaped_two h1
    exact .inl ⟨x, _, rep_dp x _ u (PyData.hasDict_of_canLay _ (SeqAt.canLay_of_shaped s1)) hu, rep_dp _ _ w (PyData.hasDict_of_canLay _ (SeqAt.canLay_of_shaped s2)) hw, s1, s2, q _ H F (Grow.refl d) (rep_bool.mpr rfl)⟩
  · obtain ⟨h1, h2⟩ := Res.guard_ok h
    cases h2
    obtain ⟨s1, s2⟩ := shaped_two h1
    exact .inr ⟨x, _, rep_dp x _ u (PyData.hasDict_of_canLay _ (SeqAt.canLay_of_shaped s1)) hu, rep_dp _ _ w (PyData.hasDict_of_canLay _ (SeqAt.canLay_of_shaped s2)) hw, s1, s2, q _ H F (Grow.refl d) (rep_bool.mpr rfl)⟩
  · cases h
theorem sp_notin {K : PySem.W.Frag} : Sp2 K .notin (fun x y H Q => rNotInD K x y H Q ∨ rInT K true x y H Q) := by
  intro k H F u w x y v Q d hu hw h q
  simp only [den] at h
  unfold vNotIn at h
  split at h
  · obtain ⟨h1, h2⟩ := Res.guard_ok h
    cases h2
    obtain ⟨s1, s2⟩ := shaped_two h1
    exact .inl ⟨x, _, rep_dp x _ u (PyData.hasDict_of_canLay _ (SeqAt.canLay_of_shaped s1)) hu, rep_dp _ _ w (PyData.hasDict_of_canLay _ (SeqAt.canLay_of_shaped s2)) hw, s1, s2, q _ H F (Grow.refl d) (rep_bool.mpr rfl)⟩
  · obtain ⟨h1, h2⟩ := Res.guard_ok h
    cases h2
    obtain ⟨s1, s2⟩ := shaped_two h1
    exact .inr ⟨x, _, rep_dp x _ u (PyData.hasDict_of_canLay _ (SeqAt.canLay_of_shaped s1)) hu, rep_dp _ _ w (PyData.hasDict_of_canLay _ (SeqAt.canLay_of_shaped s2)) hw, s1, s2, q _ H F (Grow.refl d) (rep_bool.mpr rfl)⟩
  · cases h
end
/-- a comparison's rule, whole -/
structure Cmp (X : Cx) (op : CmpOp) (o : Op) : Prop where
  ex : ∃ r : R2, OpR X (compareOp op) r ∧ Sp2 X.K o r
section
variable {X : Cx} {p : Par} {a b c e : Expr} {ca cb cc ce : E} {pos : Pos}
theorem c_eq (hu : X.A.units + 65 < cLine) : Cmp X .Eq .eq := ⟨_, op_eqD (by omega), sp_eq⟩
theorem c_ne (hu : X.A.units + 65 < cLine) : Cmp X .NotEq .ne := ⟨_, op_neD (by omega), sp_ne⟩
theorem c_lt (hu : X.A.units + 65 < cLine) : Cmp X .Lt .lt := ⟨_, op_lt.or (op_ltT (by omega)), sp_lt⟩
theorem c_ge (hu : X.A.units + 65 < cLine) : Cmp X .GtE .ge := ⟨_, op_ge.or (op_geT (by omega)), sp_ge⟩
theorem c_le : Cmp X .LtE .le := ⟨_, op_le, sp_le⟩
theorem c_gt : Cmp X .Gt .gt := ⟨_, op_gt, sp_gt⟩
theorem c_in (hu : X.A.units + 65 < cLine) : Cmp X .In .isin := ⟨_, (op_inD hu).or (op_inT hu), sp_in⟩
theorem c_notin (hu : X.A.units + 65 < cLine) : Cmp X .NotIn .notin := ⟨_, (op_notInD hu).or (op_notInT hu), sp_notin⟩
theorem ve_c {op : CmpOp} {o : Op} (h : Cmp X op o) (ha : VE X p a ca) (hb : VE X p b cb) (hm : behindInMarks op b = false := by first | exact nobehind _ (by decide) (by decide) | rfl) : VE X p (.Compare a [op] [b] pos) (.op o [ca, cb]) :=
  let ⟨_, h1, h2⟩ := h.ex
  ve_cmp h1 h2 ha hb hm
theorem vt_c {op : CmpOp} {o : Op} (h : Cmp X op o) (ha : VE X p a ca) (hb : VE X p b cb) (hm : behindInMarks op b = false := by first | exact nobehind _ (by decide) (by decide) | rfl) : VT X p (.Compare a [op] [b] pos) (.op o [ca, cb]) :=
  let ⟨_, h1, h2⟩ := h.ex
  vt_cmp h1 h2 ha hb hm
end
end VL

/-! VL, part 6: one operand, and, or, if, items, slices, displays, built-ins by name. -/
namespace VL
open PySem PySem.Spec L2
open PyProof.Rows hiding St

section
variable {X : Cx} {p : Par} {a b c e : Expr} {ca cb cc ce : E} {pos : Pos} {σ : St} {H : Hp}

def Sp1 (K : PySem.W.Frag) (o : Op) (r : V → Hp → VK → Prop) : Prop := ∀ (k : Nat) (H : Hp) (F : Addr → Prop) (u : V) (x v : Val) (Q : VK), (∀ a, F a → H a ≠ none) → Rep K H F (octx o k) u x → den o [x] = .ok v →
  (∀ z H' F', Grow H F H' F' → Rep K H' F' k z v → Q z H') → r u H Q
theorem tE_op1 {K : PySem.W.Frag} {o : Op} {r : V → Hp → VK → Prop} {k : Nat} {Q : VK} (sp : Sp1 K o r) (h : tE K p k (.op o [ca]) σ H Q) : tE K p (octx o k) ca σ H fun u H1 => r u H1 Q := by
  obtain ⟨ρ, F, O, R, h⟩ := h
  have h1 : Run p (((evalE p.cf (octx o k) ca ρ).bind fun x => Res.ok [x]).bind fun vs => den o vs) σ H _ := h
  refine ⟨ρ, F, O, R, h1.bind.bind.imp (Same.refl H) fun x _ q u H1 F1 g1 r1 => ?_⟩
  have q1 : Run p (den o [x]) σ H _ := q
  obtain ⟨v, e, q2⟩ := q1.ok (den_nx o _)
  exact sp k H1 F1 u x v Q g1.dom r1 e fun z H' F' g r => q2 z H' F' (g1.trans g) r
theorem ve_neg (ha : VE X p a ca) : VE X p (.UnaryOp .USub a pos) (.op .neg [ca]) :=
  ⟨fun k => PE.imp (pe_un un_neg (ha.run 9)) fun σ H Q h => tE_op1 (o := .neg) (r := rU fun i => .int (-i)) (fun k H F u x v Q d hu h q => by
    cases x with
    | int i =>
      cases h
      exact ⟨_, rep_int.mp hu, q _ H F (Grow.refl d) (rep_int.mpr rfl)⟩
    | _ => cases h) h⟩
theorem ve_isN {j : Nat} {p2 : Pos} (ha : VE X p a ca) : VE X p (.Compare a [.Is] [.Constant .none j p2] pos) (.op .isNone [ca]) :=
  ⟨fun k => PE.imp (pe_cmp (pc_isN (ha.run 9))) fun σ H Q h => tE_op1 (o := .isNone) (r := fun x H1 Q => Q (.bl (decide (x = .non))) H1) (fun k H F u x v Q d hu h q => by
    simp only [den] at h
    cases h
    refine q _ H F (Grow.refl d) (rep_bool.mpr ?_)
    exact congrArg V.bl (isN_of hu)) h⟩
where
  isN_of {K : PySem.W.Frag} {H : Hp} {F : Addr → Prop} {k : Nat} {u : V} {x : Val} (h : Rep K H F k u x) : decide (u = .non) = isNoneB x := by
    cases x with
    | none => rw [rep_none.mp h]; rfl
    | bool b => rw [rep_bool.mp h]; rfl
    | int b => rw [rep_int.mp h]; rfl
    | str b => rw [rep_str.mp h]; rfl
    | list xs =>
      obtain ⟨a, ws, rfl, _⟩ := rep_list.mp h
      rfl
    | tuple xs =>
      obtain ⟨a, ws, rfl, _⟩ := rep_tuple.mp h
      rfl
    | dict _ =>
      rcases rep_dict.mp h with ⟨a, ho, rfl, _⟩ | ⟨a, dd, c, i, rfl, _⟩
      · rfl
      · rfl
theorem ve_notN {j : Nat} {p2 : Pos} (ha : VE X p a ca) : VE X p (.Compare a [.IsNot] [.Constant .none j p2] pos) (.op .notNone [ca]) :=
  ⟨fun k => PE.imp (pe_cmp (pc_notN (ha.run 9))) fun σ H Q h => tE_op1 (o := .notNone) (r := fun x H1 Q => Q (.bl (!decide (x = .non))) H1) (fun k H F u x v Q d hu h q => by
    simp only [den] at h
    cases h
    refine q _ H F (Grow.refl d) (rep_bool.mpr ?_)
    rw [ve_isN.isN_of hu]) h⟩
/-! ### tests -/
theorem vt_not (ha : VT X p a ca) : VT X p (.UnaryOp .Not a pos) (.op .not [ca]) := by
  refine ⟨PT.imp (pt_not ha.run) fun σ H Q ⟨ρ, F, O, R, h⟩ => ⟨ρ, F, O, R, ?_⟩⟩
  have h1 : Run p ((((evalE p.cf 9 ca ρ).bind fun x => Res.ok [x]).bind fun vs => den .not vs).bind asBool) σ H _ := h
  cases e : evalE p.cf 9 ca ρ with
  | ok x =>
    rw [e] at h1
    cases x with
    | bool t => exact h1
    | _ => exact h1.elim
  | exc x v =>
    rw [e] at h1
    exact h1
  | bad =>
    rw [e] at h1
    exact h1.elim
/-- a test whatever its whole is (and, or) -/
structure VW (X : Cx) (p : Par) (e : Expr) (c : E) : Prop where
  run : PW X e (tT X.K p c)
theorem PW.imp {X : Cx} {e : Expr} {t t' : TT} (h : PW X e t) (i : ∀ σ H Q, t' σ H Q → t σ H Q) : PW X e t' := ⟨fun w pins s σ H Q I q => h.run w pins s σ H Q I (i σ H Q q)⟩
theorem VW.vt (h : VW X p e ce) : VT X p e ce := ⟨h.run.pt⟩
theorem vw_and1 (ha : VT X p a ca) : VW X p (.BoolOp .And [a] pos) ca := ⟨pw_and1 ha.run⟩
theorem vw_or1 (ha : VT X p a ca) : VW X p (.BoolOp .Or [a] pos) ca := ⟨pw_or1 ha.run⟩
theorem run_and {ρ : Env} {k : Nat} {good : Val → Prop} (h : Run p (evalE p.cf k (.and ca cb) ρ) σ H good) : Run p ((evalE p.cf 9 ca ρ).bind asBool) σ H fun t => if t = true then Run p (evalE p.cf k cb ρ) σ H good else good (.bool false) := by
  have h1 : Run p ((evalE p.cf 9 ca ρ).bind fun x => (asBool x).bind fun t => match t with
      | true => evalE p.cf k cb ρ
      | false => .ok (.bool false)) σ H good := h
  cases e : evalE p.cf 9 ca ρ with
  | ok x =>
    rw [e] at h1
    cases x with
    | bool t =>
      cases t with
      | true => exact (show if true = true then Run p (evalE p.cf k cb ρ) σ H good else good (.bool false) from by rw [if_pos rfl]; exact h1)
      | false => exact (show if false = true then Run p (evalE p.cf k cb ρ) σ H good else good (.bool false) from by rw [if_neg Bool.false_ne_true]; exact h1)
    | _ => exact h1.elim
  | exc x v =>
    rw [e] at h1
    exact h1
  | bad =>
    rw [e] at h1
    exact h1.elim
theorem run_or {ρ : Env} {k : Nat} {good : Val → Prop} (h : Run p (evalE p.cf k (.or ca cb) ρ) σ H good) : Run p ((evalE p.cf 9 ca ρ).bind asBool) σ H fun t => if t = true then good (.bool true) else Run p (evalE p.cf k cb ρ) σ H good := by
  have h1 : Run p ((evalE p.cf 9 ca ρ).bind fun x => (asBool x).bind fun t => match t with
      | true => .ok (.bool true)
      | false => evalE p.cf k cb ρ) σ H good := h
  cases e : evalE p.cf 9 ca ρ with
  | ok x =>
    rw [e] at h1
    cases x with
    | bool t =>
      cases t with
      | true => exact (show if true = true then good (.bool true) else Run p (evalE p.cf k cb ρ) σ H good from by rw [if_pos rfl]; exact h1)
      | false => exact (show if false = true then good (.bool true) else Run p (evalE p.cf k cb ρ) σ H good from by rw [if_neg Bool.false_ne_true]; exact h1)
    | _ => exact h1.elim
  | exc x v =>
    rw [e] at h1
    exact h1
  | bad =>
    rw [e] at h1
    exact h1.elim
theorem Run.bind' {α β : Type} {r : Res α} {f : α → Res β} {good : β → Prop} (h : Run p r σ H fun a => Run p (f a) σ H good) : Run p (r.bind f) σ H good := by
  cases r with
  | ok a => exact h
  | exc x v => exact h
  | bad => exact h
theorem vw_and {rest : List Expr} (ha : VT X p a ca) (hb : VW X p (.BoolOp .And (b :: rest) pos) cb) : VW X p (.BoolOp .And (a :: b :: rest) pos) (.and ca cb) := by
  refine ⟨PW.imp (pw_and ha.run hb.run) fun σ H Q ⟨ρ, F, O, R, h⟩ => ⟨ρ, F, O, R, (run_and h.bind).imp (Same.refl H) fun t _ q H1 F1 g1 => ?_⟩⟩
  cases t with
  | true =>
    rw [if_pos rfl] at q ⊢
    exact ⟨ρ, F1, O, R.grow g1, (Run.bind' q).imp g1.same fun b _ q H2 F2 g2 => q H2 F2 (g1.trans g2)⟩
  | false =>
    rw [if_neg Bool.false_ne_true] at q ⊢
    exact q H1 F1 g1
theorem vw_or {rest : List Expr} (ha : VT X p a ca) (hb : VW X p (.BoolOp .Or (b :: rest) pos) cb) : VW X p (.BoolOp .Or (a :: b :: rest) pos) (.or ca cb) := by
  refine ⟨PW.imp (pw_or ha.run hb.run) fun σ H Q ⟨ρ, F, O, R, h⟩ => ⟨ρ, F, O, R, (run_or h.bind).imp (Same.refl H) fun t _ q H1 F1 g1 => ?_⟩⟩
  cases t with
  | true =>
    rw [if_pos rfl] at q ⊢
    exact q H1 F1 g1
  | false =>
    rw [if_neg Bool.false_ne_true] at q ⊢
    exact ⟨ρ, F1, O, R.grow g1, (Run.bind' q).imp g1.same fun b _ q H2 F2 g2 => q H2 F2 (g1.trans g2)⟩
/-- as values -/
theorem ve_one {op : BoolOp} (ha : VE X p a ca) : VE X p (.BoolOp op [a] pos) ca := ⟨fun k => pe_one (ha.run k)⟩
theorem tE9 {K : PySem.W.Frag} {F : Addr → Prop} {t : St → Hp → Prop} {ρ : Env} {P : Bool → Hp → (Addr → Prop) → Prop} {u : V} {v : Val} {H' : Hp} {F' : Addr → Prop} (rp : Rep K H' F' 9 u v) {good : Bool → Prop} (q : Run p (asBool v) σ H good) : ∃ t, v = .bool t ∧ u = .bl t ∧ good t := by
  cases v with
  | bool t => exact ⟨t, rfl, rep_bool.mp rp, q⟩
  | _ => exact q.elim
theorem ve_and {rest : List Expr} (ha : VE X p a ca) (hb : VE X p (.BoolOp .And (b :: rest) pos) cb) : VE X p (.BoolOp .And (a :: b :: rest) pos) (.and ca cb) := by
  refine ⟨fun k => PE.imp (pe_and (ha.run 9) (hb.run k)) fun σ H Q ⟨ρ, F, O, R, h⟩ => ⟨ρ, F, O, R, (run_and h).bind.imp (Same.refl H) fun v _ q u H1 F1 g1 rp => ?_⟩⟩
  obtain ⟨t, rfl, rfl, q⟩ := tE9 (t := fun _ _ => True) (F := F) (ρ := ρ) (P := fun _ _ _ => True) rp q
  refine ⟨t, rfl, ?_⟩
  cases t with
  | true =>
    rw [if_pos rfl] at q ⊢
    exact ⟨ρ, F1, O, R.grow g1, q.imp g1.same fun b _ q u H2 F2 g2 r2 => q u H2 F2 (g1.trans g2) r2⟩
  | false =>
    rw [if_neg Bool.false_ne_true] at q ⊢
    exact q (.bl false) H1 F1 g1 (rep_bool.mpr rfl)
/-! ### items, slices -/
theorem sp_idx {K : PySem.W.Frag} : Sp2 K .idx (fun x y H Q => rIxL K x y H Q ∨ rIxT K x y H Q) := by
  intro k H F u w x y v Q d hu hw h q
  have h1 : vIdx x y = .ok v := h
  unfold vIdx at h1
  split at h1
  · rename_i xs i
    obtain ⟨l, ws, rfl, s1, _, r1⟩ := rep_list.mp hu
    cases e : atV xs i with
    | none =>
      rw [e] at h1
      cases h1
    | some z =>
      rw [e] at h1
      cases h1
      obtain ⟨w2, e2, r2⟩ := repA_at r1 e
      exact .inl ⟨l, ws, i, w2, rfl, rep_int.mp hw, s1, e2, q w2 H F (Grow.refl d) r2⟩
  · rename_i xs i
    obtain ⟨l, ws, rfl, s1, r1⟩ := rep_tuple.mp hu
    cases e : atV xs i with
    | none =>
      rw [e] at h1
      cases h1
    | some z =>
      rw [e] at h1
      cases h1
      obtain ⟨w2, e2, r2⟩ := repA_at r1 e
      exact .inr ⟨l, ws, i, w2, rfl, rep_int.mp hw, s1, e2, q w2 H F (Grow.refl d) r2⟩
  · cases h1
theorem ve_idx (ha : VE X p a ca) (hb : VE X p b cb) (hs : PlainIx b := by exact fun _ _ => rfl) : VE X p (.Subscript a b pos) (.op .idx [ca, cb]) :=
  ⟨fun k => PE.imp (pe_ix (ix_list.or ix_tup) (ha.run _) (hb.run _) hs) fun σ H Q h => tE_op2 sp_idx (den_nx _) h⟩
/-- it raises nothing -/
def NX (p : Par) (c : E) : Prop := ∀ k ρ, NoX (evalE p.cf k c ρ)
theorem nx_bind {α β : Type} {r : Res α} {f : α → Res β} (h : NoX r) (g : ∀ a, NoX (f a)) : NoX (r.bind f) := by
  cases r with
  | ok a => exact g a
  | exc c v => exact absurd rfl (h c v)
  | bad => exact nx_bad
theorem nx_var {i : Nat} : NX p (.var i) := fun k ρ => by
  show NoX (getV ρ i k)
  unfold getV
  split
  · exact nx_guard nx_ok
  · exact nx_bad
where
  repA_rev {K : PySem.W.Frag} {H : Hp} {F : Addr → Prop} {k : Nat} : ∀ {xs : List Val} {ws : List V}, RepA K H F k ws xs → RepA K H F k ws.reverse xs.reverse
    | [], _, h => by
      simp only [RepA] at h
      subst h
      exact repA_nil
    | x :: xs, _, h => by
      simp only [RepA] at h
      obtain ⟨w, r, rfl, h1, h2⟩ := h
      rw [List.reverse_cons, List.reverse_cons]
      exact repA_app (repA_rev h2) (repA_cons h1 repA_nil)
end
end VL

/-! VL, part 7: displays, built-ins. -/
namespace VL
open PySem PySem.Spec L2 PySem.W
open PyProof.Rows hiding St

section
variable {X : Cx} {p : Par} {a b c e : Expr} {ca cb cc ce : E} {pos : Pos} {σ : St} {H : Hp} {es : List Expr} {cs : List E}

/-! ### stars -/
theorem star_list {l : Addr} {ws : List V} {pins : List (Addr × Obj)} {s : Shared} {E : Value → Shared → Prop} {Q : List Value → Shared → Prop} (I : Inv X pins σ H s) (h : SqL X.K H l ws) (hQ : ∀ us s', Inv X pins σ H s' → Vals ws us → Q us s') :
    PySem.W.StarOf (model X.prog X.w) X.A E (.ref l) Q s := by
  obtain ⟨its, r, ⟨o, n, ho, hc, _, hd⟩, hz⟩ := I.list h
  have ln := r.length
  have body : wpAny (model X.prog X.w) X.A (collect (.ref l)) Q E s := by
    refine wpAny_collect_seq l (.inl rfl) ho hc hd (fun h' hk => ?_) (by rw [List.size_toArray]; omega)
    have same : its.toArray.toList = its := by simp
    rw [same]
    exact hQ its _ (I.kept (t' := s.toks) hk) r
  unfold PySem.W.StarOf notIterableAtAll
  exact wpAny_bind (wpAny_specialOf (⟨o, ho, hc⟩ : s.TypeIs (.ref l) "list") PySem.F.slot_list_iter.lookup (wpAny_pure ⟨rfl, body⟩))
def tStar (K : PySem.W.Frag) (te : TE) (tr : TA) : TA := fun σ H Q => te σ H fun u H1 => ∃ a ws, u = .ref a ∧ (SqL K H1 a ws ∨ SqT K H1 a ws) ∧ tr σ H1 fun zs H2 => Q (ws ++ zs) H2
theorem pa_star {te : TE} {tr : TA} {p0 : Pos} (he : PE X e te) (hr : PA X es tr) : PA X (.Starred e p0 :: es) (tStar X.K te tr) := by
  refine ⟨fun pos pins s σ H Q I h => ?_⟩
  refine PySem.W.items_star (thn (he.run pins s σ H _ I h) fun v s1 ⟨u, H1, I1, r1, q1⟩ => ?_)
  obtain ⟨l, ws, rfl, sq, q1⟩ := q1
  cases r1
  rcases sq with sq | sq
  · exact star_list I1 sq fun us s2 I2 r2 => thn (hr.run pos pins s2 σ H1 _ I2 q1) fun vs s3 ⟨zs, H3, I3, r3, q3⟩ => ⟨ws ++ zs, H3, I3, r2.append r3, q3⟩
  · exact star_tup I1 sq fun us s2 I2 r2 => thn (hr.run pos pins s2 σ H1 _ I2 q1) fun vs s3 ⟨zs, H3, I3, r3, q3⟩ => ⟨ws ++ zs, H3, I3, r2.append r3, q3⟩
def tAS (K : PySem.W.Frag) (p : Par) (ss : List Bool) (cs : List E) : TA := fun σ H Q => ∃ ρ F O, Rel K ρ F O σ H ∧ Run p (evalEs p.cf 0 cs ρ) σ H fun vs => ∃ xs, starred ss vs = some xs ∧ ∀ us H' F', Grow H F H' F' → RepA K H' F' 0 us xs → Q us H'
structure VAS (X : Cx) (p : Par) (es : List Expr) (cs : List E) (ss : List Bool) : Prop where
  run : PA X es (tAS X.K p ss cs)
theorem vas_nil : VAS X p [] [] [] := ⟨PA.imp pa_nil fun σ H Q ⟨ρ, F, O, R, r⟩ => by
  obtain ⟨xs, e, q⟩ := r
  cases e
  exact q [] H F (Grow.refl R.dom) repA_nil⟩
theorem vas_cons {ss : List Bool} (h : VE X p e ce) (hs : VAS X p es cs ss) (hse : starEach (e :: es) X.env = (false, eval e X.env) :: starEach es X.env := by rfl) : VAS X p (e :: es) (ce :: cs) (false :: ss) := by
  refine ⟨PA.imp (pa_cons (h.run 0) hs.run hse) fun σ H Q ⟨ρ, F, O, R, r⟩ => ?_⟩
  have r1 : Run p ((evalE p.cf 0 ce ρ).bind fun v => (evalEs p.cf 0 cs ρ).bind fun vs => .ok (v :: vs)) σ H _ := r
  refine ⟨ρ, F, O, R, r1.bind.imp (Same.refl H) fun x _ q u H1 F1 g1 h1 => ⟨ρ, F1, O, R.grow g1, q.bind.imp g1.same fun vs _ q2 => ?_⟩⟩
  obtain ⟨xs, e1, q2⟩ := q2
  have e2 : (starred ss vs).map (x :: ·) = some xs := e1
  cases e3 : starred ss vs with
  | none =>
    rw [e3] at e2
    cases e2
  | some ys =>
    rw [e3] at e2
    cases e2
    exact ⟨ys, rfl, fun us H2 F2 g2 h2 => q2 (u :: us) H2 F2 (g1.trans g2) (repA_cons (rep_same g2.same g2.sub x 0 0 u (Nat.le_refl _) h1) h2)⟩
def NXs (p : Par) (cs : List E) : Prop := ∀ k ρ, NoX (evalEs p.cf k cs ρ)
theorem nxs_nil : NXs p [] := fun _ _ => nx_ok
theorem nxs_cons (h : NX p ce) (hs : NXs p cs) : NXs p (ce :: cs) := fun k ρ => nx_bind (h k ρ) fun _ => nx_bind (hs k ρ) fun _ => nx_ok
theorem nx_bindP : ∀ (t : Pat) (v : Val) (ρ : Env), NoX (bindP t v ρ)
  | .slot i, v, ρ => by
    unfold bindP
    exact nx_guard nx_ok
  | .tup ps, .tuple vs, ρ => by
    unfold bindP
    exact nx_bindPs ps vs ρ
  | .tup ps, .list vs, ρ => by
    unfold bindP
    exact nx_bad
  | .tup ps, .none, ρ => by
    unfold bindP
    exact nx_bad
  | .tup ps, .bool _, ρ => by
    unfold bindP
    exact nx_bad
  | .tup ps, .int _, ρ => by
    unfold bindP
    exact nx_bad
  | .tup ps, .str _, ρ => by
    unfold bindP
    exact nx_bad
  | .tup ps, .dict _, ρ => by
    unfold bindP
    exact nx_bad
where
  nx_bindPs : ∀ (ps : List Pat) (vs : List Val) (ρ : Env), NoX (bindPs ps vs ρ)
    | [], [], ρ => by
      unfold bindPs
      exact nx_ok
    | t :: ps, v :: vs, ρ => by
      unfold bindPs
      exact nx_bind (nx_bindP t v ρ) fun ρ' => nx_bindPs ps vs ρ'
    | [], _ :: _, ρ => by
      unfold bindPs
      exact nx_bad
    | _ :: _, [], ρ => by
      unfold bindPs
      exact nx_bad
theorem nx_quiet {α : Type} {r : Res α} : NoX r.quiet := fun _ _ => Res.quiet_ne_exc
theorem nx_asBool {v : Val} : NoX (asBool v) := by
  cases v <;> first | exact nx_ok | exact nx_bad
theorem nx_asSeq {v : Val} : NoX (asSeq v) := by
  cases v <;> first | exact nx_ok | exact nx_bad
theorem nx_evalO (ifs : Option E) (ρ : Env) : NoX (evalO p.cf ifs ρ) := by
  cases ifs with
  | none => exact nx_ok
  | some c => exact nx_bind nx_quiet fun _ => nx_asBool
theorem nx_compL {f : Val → Res (Option Val)} (h : ∀ v, NoX (f v)) : ∀ xs, NoX (compL f xs)
  | [] => nx_ok
  | x :: xs => nx_bind (h x) fun _ => nx_bind (nx_compL h xs) fun _ => nx_ok
theorem vas_star {ss : List Bool} {p0 : Pos} (h : VE X p e ce) (hs : VAS X p es cs ss) (nx : NXs p cs) : VAS X p (.Starred e p0 :: es) (ce :: cs) (true :: ss) := by
  refine ⟨PA.imp (pa_star (h.run 0) hs.run) fun σ H Q ⟨ρ, F, O, R, r⟩ => ?_⟩
  have r1 : Run p ((evalE p.cf 0 ce ρ).bind fun v => (evalEs p.cf 0 cs ρ).bind fun vs => .ok (v :: vs)) σ H _ := r
  refine ⟨ρ, F, O, R, r1.bind.imp (Same.refl H) fun x _ q u H1 F1 g1 h1 => ?_⟩
  have st : ∀ vs, starred (true :: ss) (x :: vs) = (seqOf x).bind fun xs => (starred ss vs).map (xs ++ ·) := fun vs => by
    cases x <;> rfl
  have sq : (∃ xs, seqOf x = some xs ∧ ∃ a ws, u = .ref a ∧ (SqL X.K H1 a ws ∨ SqT X.K H1 a ws) ∧ RepA X.K H1 F1 0 ws xs) ∨ seqOf x = none := by
    cases x with
    | list xs =>
      obtain ⟨l, ws, rfl, s1, _, ra⟩ := rep_list.mp h1
      exact .inl ⟨xs, rfl, l, ws, rfl, .inl s1, ra⟩
    | tuple xs =>
      obtain ⟨l, ws, rfl, s1, ra⟩ := rep_tuple.mp h1
      exact .inl ⟨xs, rfl, l, ws, rfl, .inr s1, ra⟩
    | _ => exact .inr rfl
  rcases sq with ⟨xs, ex, l, ws, rfl, sq, ra⟩ | ex
  · refine ⟨l, ws, rfl, sq, ρ, F1, O, R.grow g1, q.bind.imp g1.same fun vs _ q2 => ?_⟩
    obtain ⟨ys, e1, q2⟩ := q2
    rw [st, ex] at e1
    have e2 : (starred ss vs).map (xs ++ ·) = some ys := e1
    cases e3 : starred ss vs with
    | none =>
      rw [e3] at e2
      cases e2
    | some zs =>
      rw [e3] at e2
      cases e2
      exact ⟨zs, rfl, fun us H2 F2 g2 h2 => q2 (ws ++ us) H2 F2 (g1.trans g2) (repA_app (repA_same g2.same g2.sub xs 0 0 ws (Nat.le_refl _) ra) h2)⟩
  · obtain ⟨vs, _, ys, e1, _⟩ := q.bind.ok (nx 0 ρ)
    rw [st, ex] at e1
    cases e1

/-! ### displays -/
theorem evalEs_length {cf : Nat → List Val → Res Val} {k : Nat} {ρ : Env} : ∀ {cs : List E} {vs : List Val}, evalEs cf k cs ρ = .ok vs → vs.length = cs.length
  | [], vs, h => by
    cases h
    rfl
  | c :: cs, vs, h => by
    have h1 : ((evalE cf k c ρ).bind fun v => (evalEs cf k cs ρ).bind fun vs => Res.ok (v :: vs)) = .ok vs := h
    obtain ⟨v, _, h2⟩ := Res.bind_eq_ok h1
    obtain ⟨ws, h3, h4⟩ := Res.bind_eq_ok h2
    cases h4
    simp only [List.length_cons, evalEs_length h3]
theorem ve_tup {x1 : Nat} {ss : List Bool} (h : VAS X p es cs ss) : VE X p (.Tuple es x1 pos) (.op (.tup ss) cs) := by
  refine ⟨fun k => PE.imp (pe_tup h.run) fun σ H Q ⟨ρ, F, O, R, r⟩ => ?_⟩
  have r1 : Run p ((evalEs p.cf 0 cs ρ).bind fun vs => vTup ss vs) σ H _ := r
  refine ⟨ρ, F, O, R, r1.bind.imp (Same.refl H) fun vs _ q => ?_⟩
  unfold vTup at q
  cases e : starred ss vs with
  | none =>
    rw [e] at q
    exact q.elim
  | some xs =>
    rw [e] at q
    refine ⟨xs, rfl, fun us H1 F1 g1 r1 => ?_⟩
    cases hz : sizeOk xs.length with
    | false =>
      simp only [hz, Res.guard] at q
      exact q.elim
    | true =>
      simp only [hz, Res.guard] at q
      refine ⟨by rw [repA_length r1]; exact sizeOk_of hz, fun P nP => q (.ref P) _ F1 (g1.trans (Grow.put g1.dom nP)) (rep_tuple.mpr ⟨P, us, rfl, SqT.of upd_same, ?_⟩)⟩
      exact repA_same (Grow.put (o := .tup us) g1.dom nP).same (fun _ z => z) xs 0 _ us (Nat.zero_le _) r1
theorem vo_lst {ss : List Bool} (h : VAS X p es cs ss) : VO X p (.List es pos) (.op (.lst 0 ss) cs) 1 := by
  refine ⟨PE.imp (pe_lst h.run) fun σ H Q ⟨ρ, F, O, R, r⟩ => ?_⟩
  have r1 : Run p ((evalEs p.cf 0 cs ρ).bind fun vs => vLst ss vs) σ H _ := r
  refine ⟨ρ, F, O, R, r1.bind.imp (Same.refl H) fun vs _ q => ?_⟩
  unfold vLst at q
  cases e : starred ss vs with
  | none =>
    rw [e] at q
    exact q.elim
  | some xs =>
    rw [e] at q
    refine ⟨xs, rfl, fun us H1 F1 g1 r1 => ?_⟩
    cases hz : sizeOk xs.length with
    | false =>
      simp only [hz, Res.guard] at q
      exact q.elim
    | true =>
      simp only [hz, Res.guard] at q
      refine ⟨by rw [repA_length r1]; exact sizeOk_of hz, fun P nP => ?_⟩
      obtain ⟨g, o, n⟩ := own_new g1.dom nP r1
      exact q (.ref P) _ F1 [P] (g1.trans g) o fun a h => ⟨g1.same.free (n a h).1, (n a h).2⟩
/-! ### built-ins by name -/
def SpN (K : PySem.W.Frag) (o : Op) (r : List V → Hp → VK → Prop) : Prop := ∀ (k : Nat) (H : Hp) (F : Addr → Prop) (us : List V) (xs : List Val) (v : Val) (Q : VK), (∀ a, F a → H a ≠ none) → RepA K H F (octx o k) us xs → den o xs = .ok v →
  (∀ z H' F', Grow H F H' F' → Rep K H' F' k z v → Q z H') → r us H Q
theorem tE_opN {K : PySem.W.Frag} {o : Op} {r : List V → Hp → VK → Prop} {k : Nat} {Q : VK} (sp : SpN K o r) (h : tE K p k (.op o cs) σ H Q) : tCB r (tA K p (octx o k) cs) σ H Q := by
  obtain ⟨ρ, F, O, R, h⟩ := h
  have h1 : Run p ((evalEs p.cf (octx o k) cs ρ).bind fun vs => den o vs) σ H _ := h
  refine ⟨ρ, F, O, R, h1.bind.imp (Same.refl H) fun xs _ q us H1 F1 g1 r1 => ?_⟩
  obtain ⟨v, e, q2⟩ := q.ok (den_nx o _)
  exact sp k H1 F1 us xs v Q g1.dom r1 e fun z H' F' g r => q2 z H' F' (g1.trans g) r
variable {x : Str} {q0 : Pos} {id T : String} {o : Op} {r : List V → Hp → VK → Prop}
theorem ve_callB (hc : CallR X (.builtin id) r) (sp : SpN X.K o r) (hm : X.mg x = none) (hv : bootBuiltins x = some (.builtin id)) (ha : VA X p (e :: es) cs) (hg : Gl X x := by rfl) (hn : x ≠ "__name__" := by decide) (hdb : (x == ("__debug__" : Str)) = false := by decide)
    (he : starEach (e :: es) X.env = (false, eval e X.env) :: starEach es X.env := by rfl) (hpl : (backTo pos (starEach es X.env)).any (·.1) = false := by rfl) : VE X p (.Call (.Name x q0) (e :: es) [] pos) (.op o cs) :=
  ⟨fun k => PE.imp (pe_callB hc hg hm hv (ha.run _) hn hdb he hpl) fun σ H Q h => tE_opN sp h⟩
theorem ve_callTy (hc : CallR X (.type T) r) (sp : SpN X.K o r) (hm : X.mg x = none) (hv : bootBuiltins x = some (.type T)) (ha : VA X p (e :: es) cs) (hg : Gl X x := by rfl) (hn : x ≠ "__name__" := by decide) (hdb : (x == ("__debug__" : Str)) = false := by decide)
    (he : starEach (e :: es) X.env = (false, eval e X.env) :: starEach es X.env := by rfl) (hpl : (backTo pos (starEach es X.env)).any (·.1) = false := by rfl) : VE X p (.Call (.Name x q0) (e :: es) [] pos) (.op o cs) :=
  ⟨fun k => PE.imp (pe_callTy hc hg hm hv (ha.run _) hn hdb he hpl) fun σ H Q h => tE_opN sp h⟩
end
end VL

/-! VL, part 8: the built-ins one by one. -/
namespace VL
open PySem PySem.Spec L2 PySem.W
open PyProof.Rows hiding St

theorem den_one {o : Op} {xs : List Val} {v : Val} (h : den o xs = .ok v) (h0 : den o [] = .bad) (h2 : ∀ x y r, den o (x :: y :: r) = .bad) : ∃ x, xs = [x] := by
  cases xs with
  | nil =>
    rw [h0] at h
    cases h
  | cons x t =>
    cases t with
    | nil => exact ⟨x, rfl⟩
    | cons y r =>
      rw [h2] at h
      cases h
theorem den_two {o : Op} {xs : List Val} {v : Val} (h : den o xs = .ok v) (h0 : den o [] = .bad) (h1 : ∀ x, den o [x] = .bad) (h3 : ∀ x y z r, den o (x :: y :: z :: r) = .bad) : ∃ x y, xs = [x, y] := by
  cases xs with
  | nil =>
    rw [h0] at h
    cases h
  | cons x t =>
    cases t with
    | nil =>
      rw [h1] at h
      cases h
    | cons y t =>
      cases t with
      | nil => exact ⟨x, y, rfl⟩
      | cons z r =>
        rw [h3] at h
        cases h

section
variable {X : Cx} {p : Par} {a b c e : Expr} {ca cb cc ce : E} {pos : Pos} {σ : St} {H : Hp} {es : List Expr} {cs : List E} {q0 : Pos}

theorem sp_len {K : PySem.W.Frag} : SpN K .len (fun xs H Q => ∃ p ys, xs = [.ref p] ∧ (SqL K H p ys ∨ SqT K H p ys) ∧ Q (.int ys.length) H) := by
  intro k H F us xs v Q d hu h q
  obtain ⟨x, rfl⟩ := den_one h rfl fun x _ _ => by cases x <;> rfl
  obtain ⟨u, rfl, r1⟩ := repA_one hu
  have h1 : vLen x = .ok v := h
  cases x with
  | list xs =>
    cases h1
    obtain ⟨l, ws, rfl, s1, _, ra⟩ := rep_list.mp r1
    exact ⟨l, ws, rfl, .inl s1, q _ H F (Grow.refl d) (rep_int.mpr (by rw [repA_length ra]))⟩
  | tuple xs =>
    cases h1
    obtain ⟨l, ws, rfl, s1, ra⟩ := rep_tuple.mp r1
    exact ⟨l, ws, rfl, .inr s1, q _ H F (Grow.refl d) (rep_int.mpr (by rw [repA_length ra]))⟩
  | _ => cases h1
theorem ve_len (hm : X.mg "len" = none) (ha : VE X p e ce) (hg : Gl X "len" := by rfl) (he : starEach [e] X.env = (false, eval e X.env) :: starEach [] X.env := by rfl) : VE X p (.Call (.Name "len" q0) [e] [] pos) (.op .len [ce]) :=
  ve_callB call_len_seq sp_len hm boot_len (va_cons ha va_nil he) hg (by decide) (by decide) he rfl
theorem sp_abs {K : PySem.W.Frag} : SpN K .abs (fun xs H Q => ∃ i, xs = [.int i] ∧ Q (.int (if i < 0 then -i else i)) H) := by
  intro k H F us xs v Q d hu h q
  obtain ⟨x, rfl⟩ := den_one h rfl fun x _ _ => by cases x <;> rfl
  obtain ⟨u, rfl, r1⟩ := repA_one hu
  cases x with
  | int i =>
    cases h
    exact ⟨i, by rw [rep_int.mp r1], q _ H F (Grow.refl d) (rep_int.mpr rfl)⟩
  | _ => cases h
theorem ve_abs (hm : X.mg "abs" = none) (ha : VE X p e ce) (hg : Gl X "abs" := by rfl) (he : starEach [e] X.env = (false, eval e X.env) :: starEach [] X.env := by rfl) : VE X p (.Call (.Name "abs" q0) [e] [] pos) (.op .abs [ce]) :=
  ve_callB call_abs sp_abs hm boot_abs (va_cons ha va_nil he) hg (by decide) (by decide) he rfl
theorem sp_int {K : PySem.W.Frag} : SpN K .int (fun xs H Q => (∃ i, xs = [.int i] ∧ Q (.int i) H) ∨ ∃ k, xs = [.bl k] ∧ Q (.int (if k then 1 else 0)) H) := by
  intro k H F us xs v Q d hu h q
  obtain ⟨x, rfl⟩ := den_one h rfl fun x _ _ => by cases x <;> rfl
  obtain ⟨u, rfl, r1⟩ := repA_one hu
  cases x with
  | int i =>
    cases h
    exact .inl ⟨i, by rw [rep_int.mp r1], q _ H F (Grow.refl d) (rep_int.mpr rfl)⟩
  | bool t =>
    cases h
    exact .inr ⟨t, by rw [rep_bool.mp r1], q _ H F (Grow.refl d) (rep_int.mpr rfl)⟩
  | _ => cases h
theorem ve_intc (hm : X.mg "int" = none) (ha : VE X p e ce) (hg : Gl X "int" := by rfl) (he : starEach [e] X.env = (false, eval e X.env) :: starEach [] X.env := by rfl) : VE X p (.Call (.Name "int" q0) [e] [] pos) (.op .int [ce]) :=
  ve_callTy call_int1 sp_int hm (by decide +kernel) (va_cons ha va_nil he) hg (by decide) (by decide) he rfl
theorem sp_min {K : PySem.W.Frag} : SpN K .min (fun xs H Q => ∃ i j, xs = [.int i, .int j] ∧ Q (.int (if j < i then j else i)) H) := by
  intro k H F us xs v Q d hu h q
  obtain ⟨x, y, rfl⟩ := den_two h rfl (fun x => by cases x <;> rfl) fun x y _ _ => by cases x <;> cases y <;> rfl
  obtain ⟨u, w, rfl, r1, r2⟩ := repA_two hu
  cases x with
  | int i =>
    cases y with
    | int j =>
      cases h
      exact ⟨i, j, by rw [rep_int.mp r1, rep_int.mp r2], q _ H F (Grow.refl d) (rep_int.mpr rfl)⟩
    | _ => cases h
  | _ => cases h
theorem ve_min (hm : X.mg "min" = none) (ha : VE X p a ca) (hb : VE X p b cb) (hc : X.calm = true := by rfl) (hg : Gl X "min" := by rfl) (he : starEach [a, b] X.env = (false, eval a X.env) :: starEach [b] X.env := by rfl)
    (he2 : starEach [b] X.env = (false, eval b X.env) :: starEach [] X.env := by rfl) (hpl : (backTo pos (starEach [b] X.env)).any (·.1) = false := by rfl) : VE X p (.Call (.Name "min" q0) [a, b] [] pos) (.op .min [ca, cb]) :=
  ve_callB (call_min2 hc) sp_min hm boot_min (va_cons ha (va_cons hb va_nil he2) he) hg (by decide) (by decide) he hpl
/-! ### list(range(..)) -/
theorem repA_rng {K : PySem.W.Frag} {F : Addr → Prop} {k : Nat} {lo hi : Int} : RepA K H F k (rgV lo hi) (rng lo hi) := by
  have e1 : rgV lo hi = ((List.range (hi - lo).toNat).map fun i => lo + ((i : Nat) : Int)).map V.int := by
    unfold rgV
    rw [List.map_map]
    rfl
  have e2 : rng lo hi = ((List.range (hi - lo).toNat).map fun i => lo + ((i : Nat) : Int)).map PyData.int := by
    unfold rng
    rw [List.map_map]
    rfl
  rw [e1, e2]
  exact repA_of_ints
theorem small_of {i : Int} (h : small i = true) : -(2 ^ 62) ≤ i ∧ i < 2 ^ 62 := by
  obtain ⟨h1, h2⟩ := Bool.and_eq_true_iff.mp h
  exact ⟨of_decide_eq_true h1, of_decide_eq_true h2⟩
theorem vo_listR1 {q1 pos1 : Pos} (hm : X.mg "list" = none) (hm2 : X.mg "range" = none) (ha : VE X p a ca) (hc : X.calm = true := by rfl) (hg : Gl X "list" := by rfl) (hg2 : Gl X "range" := by rfl) (na : starEach [a] X.env = (false, eval a X.env) :: starEach [] X.env := by rfl) :
    VO X p (.Call (.Name "list" q0) [.Call (.Name "range" q1) [a] [] pos1] [] pos) (.op .list [.op .range [ca]]) 1 := by
  refine ⟨PE.imp (pe_listRg hc hg hm (prg_1 hg2 hm2 (ha.run 9) na) rfl) fun σ H Q ⟨ρ, F, O, R, r⟩ => ?_⟩
  have r1 : Run p (((((evalE p.cf 9 ca ρ).bind fun x => Res.ok [x]).bind fun vs => den .range vs).bind fun y => Res.ok [y]).bind fun vs => den .list vs) σ H _ := r
  refine ⟨ρ, F, O, R, r1.bind.bind.bind.bind.imp (Same.refl H) fun x _ q u H1 F1 g1 rx => ?_⟩
  cases x with
  | int n =>
    refine ⟨n, rep_int.mp rx, ?_⟩
    have q1 : Run p (Res.guard (small n && sizeOk n.toNat) (Res.ok (PyData.list (rng 0 n)))) σ H _ := q
    obtain ⟨y, e1, q2⟩ := q1.ok (nx_guard nx_ok)
    obtain ⟨h1, h2⟩ := Res.guard_ok e1
    cases h2
    obtain ⟨h3, h4⟩ := Bool.and_eq_true_iff.mp h1
    obtain ⟨h5, h6⟩ := small_of h3
    have h7 := sizeOk_of h4
    rw [sizeLine_eq] at h7
    refine ⟨⟨by omega, by omega, h5, h6, by omega⟩, fun P nP => ?_⟩
    obtain ⟨g, o, n⟩ := own_new g1.dom nP (repA_rng (K := X.K) (F := F1) (lo := 0) (hi := n))
    exact q2 _ _ F1 [P] (g1.trans g) o fun a h => ⟨g1.same.free (n a h).1, (n a h).2⟩
  | _ => exact q.elim
/-! ### sorted -/
/-! ### repr -/
/-! ### isinstance -/
def tyName : Val → String
  | .none => "NoneType"
  | .bool _ => "bool"
  | .int _ => "int"
  | .str _ => "str"
  | .list _ => "list"
  | .tuple _ => "tuple"
  | .dict _ => "dict"
def tyOf : Nat → String
  | 0 => "list"
  | 1 => "bool"
  | 2 => "int"
  | _ => "tuple"
theorem kit_is (t : Nat) (ht : t < 4) (v : Val) (hv : ∀ kvs, v ≠ .dict kvs) : kitB (tyName v) (tyOf t) = some (isType t v) := by
  have h : t = 0 ∨ t = 1 ∨ t = 2 ∨ t = 3 := by omega
  rcases h with rfl | rfl | rfl | rfl
  all_goals
    cases v with
    | dict kvs => exact absurd rfl (hv kvs)
    | _ => (show kitB _ _ = _; simp only [tyName, tyOf, isType]; decide +kernel)
theorem tyX_of {K : PySem.W.Frag} {F : Addr → Prop} {k : Nat} {u : V} {v : Val} (hv : ∀ kvs, v ≠ .dict kvs) (h : Rep K H F k u v) : TyX K H u (.type (tyName v)) := by
  cases v with
  | none => rw [rep_none.mp h]; exact .base .non
  | bool b => rw [rep_bool.mp h]; exact .base (.bl b)
  | int i => rw [rep_int.mp h]; exact .base (.int i)
  | str z => rw [rep_str.mp h]; exact .base (.str z)
  | list xs =>
    obtain ⟨l, ws, rfl, s1, _⟩ := rep_list.mp h
    rcases s1 with (s1 | ⟨o, s1⟩) | ⟨o, its, n, s1, s2, _⟩
    · exact .base (.lst s1)
    · exact .base (.frz s1)
    · exact .kList s1 s2
  | tuple xs =>
    obtain ⟨l, ws, rfl, s1, _⟩ := rep_tuple.mp h
    rcases s1 with (s1 | ⟨o, s1⟩) | ⟨o, its, n, s1, s2, _⟩
    · exact .base (.tup s1)
    · exact .fTuple s1
    · exact .kTuple s1 s2
  | dict kvs => exact absurd rfl (hv kvs)
theorem ve_isT (t : Nat) {T : Str} {q1 : Pos} (hm : X.mg "isinstance" = none) (hm2 : X.mg T = none) (ha : VE X p a ca) (ht : t < 4 := by decide) (hv : bootBuiltins T = some (.type (tyOf t)) := by decide +kernel) (hn : T ≠ "__name__" := by decide) (hd : (T == ("__debug__" : Str)) = false := by decide) (hg2 : Gl X T := by rfl)
    (hg : Gl X "isinstance" := by rfl) (he : starEach [a, .Name T q1] X.env = (false, eval a X.env) :: starEach [.Name T q1] X.env := by rfl) : VE X p (.Call (.Name "isinstance" q0) [a, .Name T q1] [] pos) (.op (.isT t) [ca]) := by
  refine ⟨fun k => PE.imp (pe_callB call_isi hg hm boot_isinstance (pa_cons (ha.run 9) (pa_cons (pe_bltn (v := .ty (tyOf t)) hg2 hm2 hv rfl hn hd) pa_nil rfl) he) (by decide) (by decide) he rfl) fun σ H Q h => tE_op1 (o := .isT t) (r := fun x H1 Q => rIsi X.K [x, .ty (tyOf t)] H1 Q) (fun k H F u x v Q d hu h q => ?_) h⟩
  obtain ⟨hnd, h⟩ := Res.guard_ok (show Res.guard (notD x) (Res.ok (PyData.bool (isType t x))) = _ from h)
  cases h
  have nd : ∀ kvs, x ≠ .dict kvs := by
    rintro kvs rfl
    cases hnd
  exact ⟨u, .ty (tyOf t), .type (tyName x), .type (tyOf t), isType t x, rfl, .ty _, tyX_of nd hu, kit_ty (kit_is t ht x nd), q _ H F (Grow.refl d) (rep_bool.mpr rfl)⟩

/-! ### xs.count(k) -/
end
end VL

/-! VL, part 9: slots, patterns, iterators. -/
namespace VL
open PySem PySem.Spec L2 PySem.W
open PyProof.Rows hiding St

/-! ### slots -/
theorem wipe_get (σ : St) (j : Nat) : ∀ w : List Nat, (L2.wipe σ w)[j]? = if j ∈ w then (if j < σ.length then some none else none) else σ[j]?
  | [] => by simp [L2.wipe]
  | v :: vs => by
    unfold L2.wipe
    rw [List.getElem?_set, wipe_length, wipe_get σ j vs]
    by_cases e : v = j
    · subst e
      simp
    · have e' : ¬ j = v := fun z => e z.symm
      simp only [e, if_false, List.mem_cons, e', false_or]
theorem killL_length : ∀ (w : List Nat) (ρ : Env), (killL w ρ).length = ρ.length
  | [], _ => rfl
  | i :: r, ρ => by
    unfold killL
    rw [killL_length r, List.length_set]
theorem killL_get (j : Nat) : ∀ (w : List Nat) (ρ : Env), (killL w ρ)[j]? = if j ∈ w then (if j < ρ.length then some none else none) else ρ[j]?
  | [], ρ => by simp [killL]
  | i :: r, ρ => by
    unfold killL
    rw [killL_get j r, List.length_set, List.getElem?_set]
    by_cases e : i = j
    · subst e
      by_cases h : i ∈ r <;> simp [h]
    · have e' : ¬ j = i := fun z => e z.symm
      simp only [e, if_false, List.mem_cons, e', false_or]
theorem wipe_same {σ σ' : St} {w : List Nat} (hl : σ'.length = σ.length) (h : ∀ j, j ∉ w → σ'[j]? = (L2.wipe σ w)[j]?) : L2.wipe σ' w = L2.wipe σ w := by
  refine List.ext_getElem? fun j => ?_
  rw [wipe_get, wipe_get, hl]
  by_cases e : j ∈ w
  · simp [e]
  · have := h j e
    rw [wipe_get] at this
    simpa only [e, if_false] using this

section
variable {K : PySem.W.Frag} {ρ : Env} {F F' : Addr → Prop} {O : Nat → List Addr} {σ : St} {H H' : Hp}
theorem Rel.wipe (R : Rel K ρ F O σ H) (w : List Nat) : Rel K (killL w ρ) F (fun j => if j ∈ w then [] else O j) (L2.wipe σ w) H where
  len := by rw [wipe_length, killL_length, R.len]
  slot := fun i v d e => by
    rw [killL_get] at e
    by_cases h : i ∈ w
    · rw [if_pos h] at e
      split at e <;> cases e
    · rw [if_neg h] at e
      rw [wipe_get, if_neg h]
      obtain ⟨u, e1, q⟩ := R.slot i v d e
      exact ⟨u, e1, by simpa only [h, if_false] using q⟩
  empty := fun i h => by
    by_cases hi : i ∈ w
    · simp [hi]
    · simp only [hi, if_false]
      exact R.empty i fun v d e => h v d (by rw [killL_get, if_neg hi]; exact e)
  disj := fun i j a n h => by
    by_cases hi : i ∈ w
    · simp [hi] at h
    · simp only [hi, if_false] at h
      by_cases hj : j ∈ w
      · simp [hj]
      · simp only [hj, if_false]
        exact R.disj i j a n h
  notF := fun i a h => by
    by_cases hi : i ∈ w
    · simp [hi] at h
    · simp only [hi, if_false] at h
      exact R.notF i a h
  dom := R.dom
/-- slot i now holds x, whose own lists are at S -/
theorem Rel.set (R : Rel K ρ F O σ H) {i d : Nat} {S : List Addr} {u : V} {x : Val} (hi : i < ρ.length) (o : Own K H F d S u x) (hS : ∀ a ∈ S, ¬ F a ∧ ∀ j, j ≠ i → a ∉ O j) :
    Rel K (ρ.set i (some (x, d))) F (fun j => if j = i then S else O j) (σ.set i (some u)) H where
  len := by rw [List.length_set, List.length_set, R.len]
  slot := fun j v k e => by
    rw [List.getElem?_set] at e ⊢
    by_cases h : i = j
    · subst h
      have hs : i < σ.length := by rw [R.len]; exact hi
      simp only [if_true, hi, hs, Option.some.injEq, Prod.mk.injEq] at e ⊢
      obtain ⟨rfl, rfl⟩ := e
      exact ⟨u, rfl, o⟩
    · rw [if_neg h] at e ⊢
      obtain ⟨w, e1, q⟩ := R.slot j v k e
      exact ⟨w, e1, by rw [if_neg fun z => h z.symm]; exact q⟩
  empty := fun j h => by
    by_cases e : j = i
    · subst e
      exact absurd (by rw [List.getElem?_set_self hi]) (h x d)
    · simp only [e, if_false]
      exact R.empty j fun v k q => h v k (by rw [List.getElem?_set_ne fun z => e z.symm]; exact q)
  disj := fun j k a n h => by
    by_cases e : j = i
    · subst e
      simp only [if_true] at h
      have : ¬ k = j := fun z => n z.symm
      simp only [this, if_false]
      exact (hS a h).2 k this
    · simp only [e, if_false] at h
      by_cases e2 : k = i
      · subst e2
        simp only [if_true]
        exact fun z => (hS a z).2 j e h
      · simp only [e2, if_false]
        exact R.disj j k a n h
  notF := fun j a h => by
    by_cases e : j = i
    · subst e
      simp only [if_true] at h
      exact (hS a h).1
    · simp only [e, if_false] at h
      exact R.notF j a h
  dom := R.dom
theorem Rel.put (R : Rel K ρ F O σ H) {i : Nat} {u : V} {x : Val} (hi : i < ρ.length) (o : Rep K H F 0 u x) :
    Rel K (ρ.set i (some (x, 0))) F (fun j => if j = i then [] else O j) (σ.set i (some u)) H := R.set hi (own_zero.mpr ⟨rfl, o⟩) fun _ z => (nomatch z)
end

/-! ### patterns -/
mutual
def patS : Pat → List Nat
  | .slot i => [i]
  | .tup ps => patSs ps
def patSs : List Pat → List Nat
  | [] => []
  | p :: ps => patS p ++ patSs ps
end
mutual
theorem bindP_length : ∀ (t : Pat) (v : Val) (ρ ρ' : Env), bindP t v ρ = .ok ρ' → ρ'.length = ρ.length
  | .slot i, v, ρ, ρ', h => by
    unfold bindP at h
    cases (Res.guard_ok h).2
    rw [List.length_set]
  | .tup ps, .tuple vs, ρ, ρ', h => by
    unfold bindP at h
    exact bindPs_length ps vs ρ ρ' h
  | .tup _, .list _, _, _, h => by unfold bindP at h; cases h
  | .tup _, .none, _, _, h => by unfold bindP at h; cases h
  | .tup _, .bool _, _, _, h => by unfold bindP at h; cases h
  | .tup _, .int _, _, _, h => by unfold bindP at h; cases h
  | .tup _, .str _, _, _, h => by unfold bindP at h; cases h
  | .tup _, .dict _, _, _, h => by unfold bindP at h; cases h
theorem bindPs_length : ∀ (ts : List Pat) (vs : List Val) (ρ ρ' : Env), bindPs ts vs ρ = .ok ρ' → ρ'.length = ρ.length
  | [], [], _, _, h => by unfold bindPs at h; cases h; rfl
  | t :: ts, v :: vs, ρ, ρ', h => by
    unfold bindPs at h
    obtain ⟨ρ1, h1, h2⟩ := Res.bind_eq_ok h
    rw [bindPs_length ts vs ρ1 ρ' h2, bindP_length t v ρ ρ1 h1]
  | [], _ :: _, _, _, h => by unfold bindPs at h; cases h
  | _ :: _, [], _, _, h => by unfold bindPs at h; cases h
end
def OSub (O' O : Nat → List Addr) : Prop := ∀ j, O' j = [] ∨ O' j = O j
theorem OSub.refl {O : Nat → List Addr} : OSub O O := fun _ => .inr rfl
theorem OSub.trans {O O' O'' : Nat → List Addr} (h : OSub O'' O') (h' : OSub O' O) : OSub O'' O := fun j => by
  rcases h j with e | e
  · exact .inl e
  · rw [e]; exact h' j
def tG (K : PySem.W.Frag) (t : Pat) : TG := fun v σ H Q => ∃ ρ F O x ρ', Rel K ρ F O σ H ∧ Rep K H F 0 v x ∧ bindP t x ρ = .ok ρ' ∧ ∀ σ' O', Rel K ρ' F O' σ' H → OSub O' O → (∀ j, j ∉ patS t → σ'[j]? = σ[j]?) → Q σ' H
def tGs (K : PySem.W.Frag) (ts : List Pat) : TGs := fun vs σ H Q => ∃ ρ F O xs ρ', Rel K ρ F O σ H ∧ RepA K H F 0 vs xs ∧ bindPs ts xs ρ = .ok ρ' ∧ ∀ σ' O', Rel K ρ' F O' σ' H → OSub O' O → (∀ j, j ∉ patSs ts → σ'[j]? = σ[j]?) → Q σ' H
structure VG (X : Cx) (tg : Expr) (t : Pat) : Prop where
  run : PG X tg (tG X.K t)
structure VGs (X : Cx) (tgs : List Expr) (ts : List Pat) : Prop where
  run : PGs X tgs (tGs X.K ts)
theorem PG.imp {X : Cx} {e : Expr} {t t' : TG} (h : PG X e t) (i : ∀ v σ H Q, t' v σ H Q → t v σ H Q) : PG X e t' := ⟨fun pins s σ H v u Q I r q => h.run pins s σ H v u Q I r (i v σ H Q q)⟩
theorem PGs.imp {X : Cx} {e : List Expr} {t t' : TGs} (h : PGs X e t) (i : ∀ v σ H Q, t' v σ H Q → t v σ H Q) : PGs X e t' := ⟨fun pins s σ H v u Q I r q => h.run pins s σ H v u Q I r (i v σ H Q q)⟩
section
variable {X : Cx} {pos : Pos} {e : Expr} {es : List Expr} {t : Pat} {ts : List Pat}
theorem vg_name (i : Nat) {x : Str} (hN : X.N.Nodup) (hi : X.N[i]? = some x := by rfl) (hx : Loc X.env.scope x := by first | exact Or.inl rfl | exact Or.inr rfl) (hf : X.fn x = true ∨ X.env.scope.names.lookup x = some .local := by first | exact Or.inl rfl | exact Or.inr rfl) : VG X (.Name x pos) (.slot i) := by
  refine ⟨PG.imp (pg_name hN hi hx hf) fun v σ H Q ⟨ρ, F, O, x, ρ', R, r, b, q⟩ => ?_⟩
  unfold bindP at b
  obtain ⟨hl, hb⟩ := Res.guard_ok b
  cases hb
  have hl' : i < ρ.length := by simpa [Nat.blt_eq] using hl
  refine q _ _ (R.put hl' r) (fun j => ?_) fun j hj => ?_
  · by_cases e : j = i
    · exact .inl (if_pos e)
    · exact .inr (if_neg e)
  · simp only [patS, List.mem_singleton] at hj
    exact List.getElem?_set_ne fun z => hj z.symm
theorem vgs_nil : VGs X [] [] := ⟨PGs.imp pgs_nil fun vs σ H Q ⟨ρ, F, O, xs, ρ', R, r, b, q⟩ => by
  cases xs with
  | nil =>
    unfold bindPs at b
    cases b
    simp only [RepA] at r
    exact ⟨r, q σ O R OSub.refl fun _ _ => rfl⟩
  | cons x xs =>
    unfold bindPs at b
    cases b⟩
theorem vgs_cons (h : VG X e t) (h2 : VGs X es ts) (hs : (assignEach (e :: es) X.env).map (·.2) = assign e X.env :: (assignEach es X.env).map (·.2) := by rfl) : VGs X (e :: es) (t :: ts) := by
  refine ⟨PGs.imp (pgs_cons h.run h2.run hs) fun vs σ H Q ⟨ρ, F, O, xs, ρ', R, r, b, q⟩ => ?_⟩
  cases xs with
  | nil =>
    unfold bindPs at b
    cases b
  | cons x xs =>
    unfold bindPs at b
    obtain ⟨ρ1, b1, b2⟩ := Res.bind_eq_ok b
    simp only [RepA] at r
    obtain ⟨w, ws, rfl, r1, r2⟩ := r
    refine ⟨w, ws, rfl, ρ, F, O, x, ρ1, R, r1, b1, fun σ1 O1 R1 s1 d1 => ⟨ρ1, F, O1, xs, ρ', R1, r2, b2, fun σ2 O2 R2 s2 d2 => q σ2 O2 R2 (s2.trans s1) fun j hj => ?_⟩⟩
    simp only [patSs, List.mem_append, not_or] at hj
    rw [d2 j hj.2, d1 j hj.1]
theorem bindPs_len : ∀ {ts : List Pat} {xs : List Val} {ρ ρ' : Env}, bindPs ts xs ρ = .ok ρ' → xs.length = ts.length
  | [], [], _, _, _ => rfl
  | _ :: _, _ :: _, _, _, h => by
    unfold bindPs at h
    obtain ⟨_, _, h2⟩ := Res.bind_eq_ok h
    simp only [List.length_cons, bindPs_len h2]
  | [], _ :: _, _, _, h => by unfold bindPs at h; cases h
  | _ :: _, [], _, _, h => by unfold bindPs at h; cases h
theorem vg_tup {k : Nat} (hc : X.calm = true) (h : VGs X es ts) (hn : (assignEach es X.env).length = ts.length := by rfl) (hst : (assignEach es X.env).findIdx? (·.1) = none := by rfl) : VG X (.Tuple es k pos) (.tup ts) := by
  refine ⟨PG.imp (pg_tup hc h.run hn hst) fun v σ H Q ⟨ρ, F, O, x, ρ', R, r, b, q⟩ => ?_⟩
  cases x with
  | tuple xs =>
    unfold bindP at b
    obtain ⟨a, ws, rfl, s, ra⟩ := rep_tuple.mp r
    exact ⟨a, ws, rfl, s, by rw [repA_length ra, bindPs_len b], ρ, F, O, xs, ρ', R, ra, b, fun σ' O' R' s' d' => q σ' O' R' s' (by simpa only [patS] using d')⟩
  | _ => unfold bindP at b; cases b
end

/-! ### iterators -/
def Stay (k : Nat) (H H1 : Hp) (F : Addr → Prop) : Prop := Keep H H1 F ∧ (k ≠ 0 → Same H H1)
/-- J tells the items xs, one by one, as long as what it leans on stays -/
structure Walk (K : PySem.W.Frag) (k : Nat) (J : It) (xs : List Val) (H : Hp) (F : Addr → Prop) : Prop where
  go : ∀ (H1 : Hp) (F1 : Addr → Prop), Stay k H H1 F → (∀ a, F a → F1 a) → (∀ a, F1 a → H1 a ≠ none) → ∀ (i : Nat) (v : Val), xs[i]? = some v → J.go i H1 ∧ ∀ x H2, J.yld i H1 x H2 → Grow H1 F1 H2 F1 ∧ Rep K H2 F1 0 x v
  stop : ∀ (H1 : Hp), Stay k H H1 F → ∀ i : Nat, xs.length ≤ i → J.stop i H1
def tI (K : PySem.W.Frag) (p : Par) (k : Nat) (c : E) : TI := fun σ H R => ∃ ρ F O, Rel K ρ F O σ H ∧ Run p ((evalE p.cf k c ρ).bind asSeq) σ H fun xs => ∀ J H' F', Grow H F H' F' → Walk K k J xs H' F' → R J H'
structure VI (X : Cx) (p : Par) (k : Nat) (tg iter : Expr) (c : E) : Prop where
  run : PI X tg iter (tI X.K p k c)
theorem PI.imp {X : Cx} {tg e : Expr} {t t' : TI} (h : PI X tg e t) (i : ∀ σ H R, t' σ H R → t σ H R) : PI X tg e t' := ⟨fun pins s σ H R I q => h.run pins s σ H R I (i σ H R q)⟩
section
variable {K : PySem.W.Frag} {H : Hp} {F : Addr → Prop} {a : Addr} {ws : List V} {xs : List Val} {k : Nat}
theorem stay_list {H1 : Hp} (st : Stay k H H1 F) (sq : SqL K H a ws) (hF : k = 0 → F a ∨ ∀ H' : Hp, SqL K H' a ws) : SqL K H1 a ws := by
  by_cases e : k = 0
  · exact sqL_keep st.1 (hF e) sq
  · exact (st.2 e).seq sq
theorem walk_list (hk : k ≤ 1) (r : Rep K H F k (.ref a) (.list xs)) : (∃ ws, SqL K H a ws) ∧ Walk K k (Itl K a) xs H F := by
  obtain ⟨b, ws, e, sq, hF, ra⟩ := rep_list.mp r
  cases e
  have e0 : k - 1 = 0 := by omega
  rw [e0] at ra
  refine ⟨⟨ws, sq⟩, fun H1 F1 st f d i v e => ?_, fun H1 st i hi => ⟨ws, stay_list st sq hF, by rw [repA_length ra]; exact hi⟩⟩
  obtain ⟨w, e1, rw1⟩ := repA_get ra e
  refine ⟨⟨ws, w, stay_list st sq hF, e1⟩, fun x H2 y => ?_⟩
  obtain ⟨rfl, y⟩ := y
  have e2 := y ws (stay_list st sq hF)
  rw [e1] at e2
  cases e2
  exact ⟨Grow.refl d, rep_keep st.1 f v w rw1⟩
theorem walk_tup (hk : k ≤ 1) (r : Rep K H F k (.ref a) (.tuple xs)) : (∃ ws, SqT K H a ws) ∧ Walk K k (Itt K a) xs H F := by
  obtain ⟨b, ws, e, sq, ra⟩ := rep_tuple.mp r
  cases e
  have e0 : k - 1 = 0 := by omega
  rw [e0] at ra
  refine ⟨⟨ws, sq⟩, fun H1 F1 st f d i v e => ?_, fun H1 st i hi => ⟨ws, sqT_keep st.1 sq, by rw [repA_length ra]; exact hi⟩⟩
  obtain ⟨w, e1, rw1⟩ := repA_get ra e
  refine ⟨⟨ws, w, sqT_keep st.1 sq, e1⟩, fun x H2 y => ?_⟩
  obtain ⟨rfl, y⟩ := y
  have e2 := y ws (sqT_keep st.1 sq)
  rw [e1] at e2
  cases e2
  exact ⟨Grow.refl d, rep_keep st.1 f v w rw1⟩
theorem rng_get {lo hi : Int} {i : Nat} {v : Val} (h : (rng lo hi)[i]? = some v) : i < (hi - lo).toNat ∧ v = .int (lo + (i : Nat)) := by
  unfold rng at h
  rw [List.getElem?_map] at h
  by_cases hi' : i < (hi - lo).toNat
  · rw [List.getElem?_range hi'] at h
    cases h
    exact ⟨hi', rfl⟩
  · rw [List.getElem?_eq_none (by simpa using hi')] at h
    cases h
theorem rng_length {lo hi : Int} : (rng lo hi).length = (hi - lo).toNat := by
  unfold rng
  simp
theorem walk_rng {lo hi : Int} : Walk K k (Itr lo (hi - lo).toNat) (rng lo hi) H F := by
  refine ⟨fun H1 F1 st f d i v e => ?_, fun H1 st i hi => by rw [rng_length] at hi; exact hi⟩
  obtain ⟨h1, rfl⟩ := rng_get e
  refine ⟨h1, fun x H2 y => ?_⟩
  obtain ⟨rfl, rfl⟩ := y
  exact ⟨Grow.refl d, by simp only [Rep]⟩
theorem enumV_get : ∀ {xs : List Val} {n i : Nat} {v : Val}, (enumV n xs)[i]? = some v → ∃ x, xs[i]? = some x ∧ v = .tuple [.int ((n + i : Nat) : Int), x]
  | [], _, _, _, h => by simp [enumV] at h
  | y :: xs, n, 0, v, h => by
    simp [enumV] at h
    exact ⟨y, rfl, h.symm⟩
  | y :: xs, n, i + 1, v, h => by
    simp only [enumV, List.getElem?_cons_succ] at h
    obtain ⟨x, h1, h2⟩ := enumV_get h
    exact ⟨x, by simpa using h1, by rw [h2]; congr 2; congr 1; omega⟩
theorem enumV_length : ∀ {xs : List Val} {n : Nat}, (enumV n xs).length = xs.length
  | [], _ => rfl
  | _ :: xs, n => by simp only [enumV, List.length_cons, enumV_length]
theorem walk_enum (hk : k ≤ 1) (r : Rep K H F k (.ref a) (.list xs)) : (∃ ws, SqL K H a ws) ∧ Walk K k (Ite K a) (enumV 0 xs) H F := by
  obtain ⟨b, ws, e, sq, hF, ra⟩ := rep_list.mp r
  cases e
  have e0 : k - 1 = 0 := by omega
  rw [e0] at ra
  refine ⟨⟨ws, sq⟩, fun H1 F1 st f d i v e => ?_, fun H1 st i hi => ⟨ws, stay_list st sq hF, by rw [repA_length ra]; rw [enumV_length] at hi; exact hi⟩⟩
  obtain ⟨x0, e0, rfl⟩ := enumV_get e
  obtain ⟨w, e1, rw1⟩ := repA_get ra e0
  refine ⟨⟨ws, w, stay_list st sq hF, e1⟩, fun x H2 y => ?_⟩
  obtain ⟨T, z, rfl, nT, rfl, y⟩ := y
  have e2 := y ws (stay_list st sq hF)
  rw [e1] at e2
  cases e2
  have g : Grow H1 F1 (upd H1 T (.tup [.int ((i : Nat) : Int), w])) F1 := Grow.put d nT
  refine ⟨g, rep_tuple.mpr ⟨T, _, rfl, SqT.of upd_same, ?_⟩⟩
  refine repA_cons (by simp only [Rep]; congr 1; omega) (repA_cons ?_ repA_nil)
  exact rep_same g.same (fun _ z => z) x0 0 _ w (Nat.zero_le _) (rep_keep st.1 f x0 w rw1)
end

theorem run_join {p : Par} {α β : Type} {σ : St} {H : Hp} {r : Res α} {f : α → Res β} {good : β → Prop} (h : Run p r σ H fun a => Run p (f a) σ H good) : Run p (r.bind f) σ H good := by
  cases r with
  | ok a => exact h
  | exc x v => exact h
  | bad => exact h
section
variable {X : Cx} {p : Par} {e e2 tg : Expr} {c c2 : E} {pos q0 : Pos} {k : Nat} {es : List Expr} {cs : List E}
theorem vi_seq (h : VE X p e c) (hk : k ≤ 1 := by decide) : VI X p k tg e c := by
  refine ⟨⟨fun pins s σ H R I q => ?_⟩⟩
  obtain ⟨ρ, F, O, Re, r⟩ := q
  cases ev : evalE p.cf k c ρ with
  | bad =>
    rw [ev] at r
    exact r.elim
  | exc x v =>
    rw [ev] at r
    refine (pi_list (h.run k)).run pins s σ H R I ⟨ρ, F, O, Re, ?_⟩
    rw [ev]
    exact r
  | ok v =>
    rw [ev] at r
    cases v with
    | list xs =>
      refine (pi_list (h.run k)).run pins s σ H R I ⟨ρ, F, O, Re, ?_⟩
      rw [ev]
      intro u H1 F1 g r1
      have r2 : ∀ J H' F', Grow H F H' F' → Walk X.K k J xs H' F' → R J H' := r
      obtain ⟨a, ws, rfl, _⟩ := rep_list.mp r1
      obtain ⟨sq, wk⟩ := walk_list hk r1
      exact ⟨a, rfl, sq, r2 _ H1 F1 g wk⟩
    | tuple xs =>
      refine (pi_tup (h.run k)).run pins s σ H R I ⟨ρ, F, O, Re, ?_⟩
      rw [ev]
      intro u H1 F1 g r1
      have r2 : ∀ J H' F', Grow H F H' F' → Walk X.K k J xs H' F' → R J H' := r
      obtain ⟨a, ws, rfl, _⟩ := rep_tuple.mp r1
      obtain ⟨sq, wk⟩ := walk_tup hk r1
      exact ⟨a, rfl, sq, r2 _ H1 F1 g wk⟩
    | _ => exact r.elim
/-- from what an operation tells of its operands -/
theorem tI_op {K : PySem.W.Frag} {o : Op} {σ : St} {H : Hp} {R : It → Hp → Prop} {Q : List V → Hp → Prop} (h : tI K p k (.op o cs) σ H R)
    (sp : ∀ us H1 F1 vs v xs, vs.length = cs.length → RepA K H1 F1 (octx o k) us vs → den o vs = .ok v → asSeq v = .ok xs → (∀ J, Walk K k J xs H1 F1 → R J H1) → Q us H1) : tA K p (octx o k) cs σ H Q := by
  obtain ⟨ρ, F, O, Re, r⟩ := h
  have r1 : Run p (((evalEs p.cf (octx o k) cs ρ).bind fun vs => den o vs).bind asSeq) σ H _ := r
  refine ⟨ρ, F, O, Re, r1.bind.bind.imp (Same.refl H) fun vs ev q us H1 F1 g r2 => ?_⟩
  obtain ⟨v, e1, q2⟩ := q.ok (den_nx o _)
  obtain ⟨xs, e2, q3⟩ := q2.ok nx_asSeq
  exact sp us H1 F1 vs v xs (evalEs_length ev) r2 e1 e2 fun J w => q3 J H1 F1 g w
theorem den_range1 {x v : Val} (h : den .range [x] = .ok v) : ∃ n, x = .int n ∧ small n = true ∧ v = .list (rng 0 n) := by
  cases x with
  | int n =>
    obtain ⟨g, e3⟩ := Res.guard_ok (show Res.guard (small n && sizeOk n.toNat) (.ok (.list (rng 0 n))) = .ok v from h)
    simp only [Bool.and_eq_true] at g
    cases e3
    exact ⟨n, rfl, g.1, rfl⟩
  | _ => exact (nomatch (show (Res.bad : Res Val) = Res.ok v from h))
theorem den_enum {x v : Val} (h : den .enum [x] = .ok v) : ∃ ys, x = .list ys ∧ v = .list (enumV 0 ys) := by
  cases x with
  | list ys => exact ⟨ys, rfl, by cases (show Res.ok (PyData.list (enumV 0 ys)) = .ok v from h); rfl⟩
  | _ => exact (nomatch (show (Res.bad : Res Val) = Res.ok v from h))
theorem len1 {α : Type} {l : List α} (h : l.length = 1) : ∃ x, l = [x] := by
  match l, h with
  | [x], _ => exact ⟨x, rfl⟩
theorem len2 {α : Type} {l : List α} (h : l.length = 2) : ∃ x y, l = [x, y] := by
  match l, h with
  | [x, y], _ => exact ⟨x, y, rfl⟩
theorem vi_range1 (hg : Gl X "range" := by rfl) (hm : X.mg "range" = none) (ha : VA X p [e] [c]) (hs : starEach [e] X.env = [(false, eval e X.env)] := by rfl) : VI X p k tg (.Call (.Name "range" q0) [e] [] pos) (.op .range [c]) := by
  refine ⟨PI.imp (pi_range1 hg hm (ha.run 9) hs) fun σ H R q => tI_op (o := .range) q fun us H1 F1 vs v xs ln r e1 e2 wk => ?_⟩
  obtain ⟨x, rfl⟩ := len1 ln
  obtain ⟨n, rfl, g, rfl⟩ := den_range1 e1
  cases e2
  obtain ⟨w, rfl, rw1⟩ := repA_one r
  have wk2 := wk (Itr 0 (n - 0).toNat) walk_rng
  rw [Int.sub_zero] at wk2
  rw [rep_int.mp rw1]
  exact ⟨n, rfl, (small_of g).1, (small_of g).2, wk2⟩
theorem vi_enum {elts : List Expr} {kk : Nat} {tpos : Pos} (hg : Gl X "enumerate" := by rfl) (hm : X.mg "enumerate" = none) (ha : VA X p [e] [c]) (hk : k ≤ 1 := by decide) (hs : starEach [e] X.env = [(false, eval e X.env)] := by rfl) :
    VI X p k (.Tuple elts kk tpos) (.Call (.Name "enumerate" q0) [e] [] pos) (.op .enum [c]) := by
  refine ⟨PI.imp (pi_enum hg hm (ha.run k) hs) fun σ H R q => tI_op (o := .enum) q fun us H1 F1 vs v xs ln r e1 e2 wk => ?_⟩
  obtain ⟨x, rfl⟩ := len1 ln
  obtain ⟨ys, rfl, rfl⟩ := den_enum e1
  cases e2
  obtain ⟨w, rfl, rw1⟩ := repA_one r
  obtain ⟨a, ws, rfl, _⟩ := rep_list.mp rw1
  obtain ⟨⟨zs, sq⟩, wl⟩ := walk_enum hk rw1
  exact ⟨a, zs, rfl, sq, wk _ wl⟩
end
end VL

/-! VL, part 10: comprehensions of lists. -/
namespace VL
open PySem PySem.Spec L2 PySem.W
open PyProof.Rows hiding St

/-- the same program, where no error may leave -/
abbrev Par.nox (p : Par) : Par := { p with W := fun _ _ _ _ => False }

def tTs (K : PySem.W.Frag) (p : Par) (co : Option E) : TT := fun σ H Q => ∃ ρ F O, Rel K ρ F O σ H ∧ Run p (evalO p.cf co ρ) σ H fun b => ∀ H' F', Grow H F H' F' → Q b H'
structure VTs (X : Cx) (p : Par) (ifs : List Expr) (co : Option E) : Prop where
  run : PTs X ifs (tTs X.K p co)
theorem PTs.imp {X : Cx} {e : List Expr} {t t' : TT} (h : PTs X e t) (i : ∀ σ H Q, t' σ H Q → t σ H Q) : PTs X e t' := ⟨fun pins s σ H Q I q => h.run pins s σ H Q I (i σ H Q q)⟩
section
variable {X : Cx} {p : Par} {e : Expr} {c : E}
theorem vts_nil : VTs X p [] none := ⟨PTs.imp pts_nil fun σ H Q ⟨ρ, F, O, R, r⟩ => r H F (Grow.refl R.dom)⟩
theorem run_quiet {α β : Type} {σ : St} {H : Hp} {r : Res α} {f : α → Res β} {good : β → Prop} (h : Run p (r.quiet.bind f) σ H good) : Run p (r.bind f) σ H good := by
  cases r with
  | ok a => exact h
  | exc x v => exact h.elim
  | bad => exact h
theorem vts_one (h : VT X p e c) : VTs X p [e] (some c) := ⟨PTs.imp (pts_one h.run) fun σ H Q ⟨ρ, F, O, R, r⟩ => ⟨ρ, F, O, R, run_quiet (by
  have r1 : Run p (((evalE p.cf 9 c ρ).quiet).bind fun x => asBool x) σ H _ := r
  exact r1)⟩⟩
end

/-! ### one more at the end -/
theorem ownA_snoc {K : PySem.W.Frag} {H : Hp} {F : Addr → Prop} {d : Nat} : ∀ {xs : List Val} {S S' : List Addr} {ws : List V} {u : V} {x : Val}, OwnA K H F d S ws xs → Own K H F d S' u x → (∀ a ∈ S, a ∉ S') → OwnA K H F d (S ++ S') (ws ++ [u]) (xs ++ [x])
  | [], S, S', ws, u, x, h, o, n => by
    simp only [OwnA] at h
    obtain ⟨rfl, rfl⟩ := h
    simp only [List.nil_append, OwnA]
    exact ⟨u, [], S', [], rfl, by simp, fun _ _ z => (nomatch z), o, rfl, rfl⟩
  | y :: xs, S, S', ws, u, x, h, o, n => by
    simp only [OwnA] at h
    obtain ⟨w, r, S1, S2, rfl, rfl, hd, h1, h2⟩ := h
    simp only [List.cons_append, OwnA]
    refine ⟨w, r ++ [u], S1, S2 ++ S', rfl, by rw [List.append_assoc], fun a ha hb => ?_, h1, ownA_snoc h2 o fun a ha => n a (List.mem_append_right _ ha)⟩
    rcases List.mem_append.mp hb with hb | hb
    · exact hd a ha hb
    · exact n a (List.mem_append_left _ ha) hb
theorem ownA_length {K : PySem.W.Frag} {H : Hp} {F : Addr → Prop} {d : Nat} {S : List Addr} {ws : List V} {xs : List Val} (h : OwnA K H F d S ws xs) : ws.length = xs.length := repA_length (ownA_rep xs d S ws h)

/-- the new list at D holds r0 so far; H0, F0: how it stood before the block -/
structure Acc (K : PySem.W.Frag) (d : Nat) (D : Addr) (H0 : Hp) (F0 : Addr → Prop) (r0 : List Val) (H : Hp) (F1 : Addr → Prop) (ws : List V) (S : List Addr) : Prop where
  grow : Grow H0 F0 H F1
  notD : ¬ F1 D
  at_ : H D = some (.lst ws)
  own : OwnA K H F1 d S ws r0
  new : ∀ a ∈ S, H0 a = none ∧ ¬ F1 a ∧ a ≠ D
section
variable {K : PySem.W.Frag} {d : Nat} {D : Addr} {H0 : Hp} {F0 : Addr → Prop} {r0 : List Val} {H : Hp} {F1 : Addr → Prop} {ws : List V} {S : List Addr}
theorem Acc.start (dm : ∀ a, F0 a → H0 a ≠ none) (nD : H0 D = none) : Acc K d D H0 F0 [] (upd H0 D (.lst [])) F0 [] [] :=
  ⟨Grow.put dm nD, fun f => dm D f nD, upd_same, by simp only [OwnA]; exact ⟨trivial, trivial⟩, fun _ z => (nomatch z)⟩
theorem Acc.more (A : Acc K d D H0 F0 r0 H F1 ws S) {H' : Hp} {F' : Addr → Prop} (g : Grow H F1 H' F') : Acc K d D H0 F0 r0 H' F' ws S := by
  refine ⟨A.grow.trans g, fun f => ?_, g.same _ _ A.at_, ownA_frame r0 d S ws A.own (fun b o e _ => g.same b o e) g.sub, fun a ha => ⟨(A.new a ha).1, fun f => ?_, (A.new a ha).2.2⟩⟩
  · rcases g.new D f with f | f
    · exact A.notD f
    · rw [A.at_] at f
      cases f
  · rcases g.new a f with f | f
    · exact (A.new a ha).2.1 f
    · obtain ⟨zs, e⟩ := ownA_dom r0 d S ws A.own a ha
      rw [e] at f
      cases f
theorem Acc.add (nD : H0 D = none) (A : Acc K d D H0 F0 r0 H F1 ws S) {H' : Hp} {F' : Addr → Prop} (g : Grow H F1 H' F') {S' : List Addr} {y : V} {x : Val} (o : Own K H' F' d S' y x) (n : ∀ a ∈ S', H a = none ∧ ¬ F' a) :
    H' D = some (.lst ws) ∧ Acc K d D H0 F0 (r0 ++ [x]) (upd H' D (.lst (ws ++ [y]))) F' (ws ++ [y]) (S ++ S') := by
  have B := A.more g
  have nS' : ∀ a ∈ S', a ≠ D := fun a ha e => by
    have := (n a ha).1
    rw [e, A.at_] at this
    cases this
  refine ⟨B.at_, ⟨fun b o' e => ?_, B.grow.sub, B.grow.new, fun a f => ?_, fun a f => (B.grow.lst a f).imp id fun ⟨zs, e⟩ => ⟨zs, by rw [upd_ne (show a ≠ D from fun z => B.notD (by rw [← z]; exact f))]; exact e⟩, B.grow.dm⟩, B.notD, upd_same, ?_, fun a ha => ?_⟩
  · rw [upd_ne (ne_of_none e nD)]
    exact B.grow.same b o' e
  · by_cases e : a = D
    · rw [e, upd_same]
      simp
    · rw [upd_ne e]
      exact B.grow.dom a f
  · refine ownA_snoc (ownA_frame r0 d S ws B.own (fun b o' e c => ?_) fun _ z => z) (own_frame x d S' y o (fun b o' e c => ?_) fun _ z => z) fun a ha hb => ?_
    · have : b ≠ D := fun z => by
        subst z
        rcases c with c | c | c
        · exact B.notD c
        · rw [B.at_] at e
          cases e
          cases c
        · exact (B.new _ c).2.2 rfl
      rw [upd_ne this]
      exact e
    · have : b ≠ D := fun z => by
        subst z
        rcases c with c | c | c
        · exact B.notD c
        · rw [B.at_] at e
          cases e
          cases c
        · exact nS' _ c rfl
      rw [upd_ne this]
      exact e
    · obtain ⟨zs, e⟩ := ownA_dom r0 d S ws A.own a ha
      rw [(n a hb).1] at e
      cases e
  · rcases List.mem_append.mp ha with ha | ha
    · exact B.new a ha
    · exact ⟨A.grow.same.free (n a ha).1, (n a ha).2, nS' a ha⟩
theorem Acc.done (nD : H0 D = none) (A : Acc K d D H0 F0 r0 H F1 ws S) : Own K H F1 (d + 1) (D :: S) (.ref D) (.list r0) ∧ ∀ a ∈ D :: S, H0 a = none ∧ ¬ F1 a := by
  refine ⟨?_, fun a ha => ?_⟩
  · simp only [Own]
    exact ⟨D, ws, S, rfl, A.at_, rfl, fun z => (A.new D z).2.2 rfl, A.own⟩
  · rcases List.mem_cons.mp ha with rfl | ha
    · exact ⟨nD, A.notD⟩
    · exact ⟨(A.new a ha).1, (A.new a ha).2.1⟩
end

/-- all but the list at D stands -/
structure Near (D : Addr) (H : Hp) (F : Addr → Prop) (H' : Hp) (F' : Addr → Prop) : Prop where
  keep : ∀ b o, H b = some o → b ≠ D → H' b = some o
  sub : ∀ a, F a → F' a
  new : ∀ a, F' a → F a ∨ H a = none
  dom : ∀ a, F' a → H' a ≠ none
theorem Near.of {D : Addr} {H H' : Hp} {F F' : Addr → Prop} (g : Grow H F H' F') : Near D H F H' F' := ⟨fun b o e _ => g.same b o e, g.sub, g.new, g.dom⟩
theorem Near.trans {D : Addr} {H H1 H2 : Hp} {F F1 F2 : Addr → Prop} (h : Near D H F H1 F1) (h' : Near D H1 F1 H2 F2) (nF : ¬ F2 D) : Near D H F H2 F2 :=
  ⟨fun b o e n => h'.keep b o (h.keep b o e n) n, fun a f => h'.sub a (h.sub a f), fun a f => by
    rcases h'.new a f with z | z
    · exact h.new a z
    · cases e : H a with
      | none => exact .inr rfl
      | some o =>
        have : a ≠ D := fun q => nF (q ▸ f)
        rw [h.keep a o e this] at z
        exact (nomatch z), h'.dom⟩
theorem Near.upd {D : Addr} {H H' : Hp} {F F' : Addr → Prop} {o : HO} (h : Near D H F H' F') : Near D H F (upd H' D o) F' :=
  ⟨fun b o e n => by rw [upd_ne n]; exact h.keep b o e n, h.sub, h.new, fun a f => by
    by_cases e : a = D
    · rw [e, upd_same]
      simp
    · rw [upd_ne e]
      exact h.dom a f⟩
theorem Rel.near {K : PySem.W.Frag} {ρ : Env} {F F' : Addr → Prop} {O : Nat → List Addr} {σ : St} {H H' : Hp} {D : Addr} {zs : List V} (R : Rel K ρ F O σ H) (h : Near D H F H' F') (hD : H D = some (.lst zs)) (nF : ¬ F D) (nO : ∀ i, D ∉ O i) : Rel K ρ F' O σ H' where
  len := R.len
  slot := fun i v d e => by
    obtain ⟨u, e1, q⟩ := R.slot i v d e
    refine ⟨u, e1, own_frame v d _ u q (fun b o e c => h.keep b o e fun z => ?_) h.sub⟩
    subst z
    rcases c with c | c | c
    · exact nF c
    · rw [hD] at e
      cases e
      cases c
    · exact nO i c
  empty := R.empty
  disj := R.disj
  notF := fun i a ha f => by
    rcases h.new a f with f | f
    · exact R.notF i a ha f
    · obtain ⟨ws, e⟩ := R.there ha
      rw [e] at f
      cases f
  dom := h.dom
theorem Near.stay {D : Addr} {H H' : Hp} {F F' : Addr → Prop} {zs : List V} (h : Near D H F H' F') (hD : H D = some (.lst zs)) (nF : ¬ F D) : Stay 0 H H' F := by
  refine ⟨fun b o e c => h.keep b o e fun z => ?_, fun z => absurd rfl z⟩
  subst z
  rcases c with c | c
  · exact nF c
  · rw [hD] at e
    cases e
    cases c

section
variable {X : Cx} {p : Par}
/-- one turn's body: binds, tests, tells -/
abbrev turn1 (cf : Nat → List Val → Res Val) (w : List Nat) (ce : E) (t : Pat) (co : Option E) (ρ : Env) (v : Val) : Res (Option Val) :=
  (bindP t v (killL w ρ)).bind fun ρ' => (evalO cf co ρ').bind fun c => match c with
    | true => ((evalE cf 0 ce ρ').quiet).bind fun x => .ok (some x)
    | false => .ok none
def addO (r : List Val) : Option Val → List Val
  | some x => r ++ [x]
  | none => r
theorem compL_cons {f : Val → Res (Option Val)} {v : Val} {vs r : List Val} (h : compL f (v :: vs) = .ok r) : ∃ o r2, f v = .ok o ∧ compL f vs = .ok r2 ∧ ∀ r0, r0 ++ r = addO r0 o ++ r2 := by
  have h1 : ((f v).bind fun o => (compL f vs).bind fun r => Res.ok (match o with
    | some x => x :: r
    | none => r)) = .ok r := h
  obtain ⟨o, e1, h2⟩ := Res.bind_eq_ok h1
  obtain ⟨r2, e2, h3⟩ := Res.bind_eq_ok h2
  cases h3
  refine ⟨o, r2, e1, e2, fun r0 => ?_⟩
  cases o with
  | some x => simp [addO]
  | none => rfl
theorem wipe_turn {σ σ' : St} {w : List Nat} {t : Pat} (ht : ∀ j ∈ patS t, j ∈ w) (hl : σ'.length = σ.length) (h : ∀ j, j ∉ patS t → σ'[j]? = (L2.wipe σ w)[j]?) : L2.wipe σ' w = L2.wipe σ w :=
  wipe_same hl fun j hj => h j fun z => hj (ht j z)
/-- a turn as the block's rule asks for it -/
theorem turn_go {K : PySem.W.Frag} {d : Nat} {D : Addr} {H0 H H2 : Hp} {F0 F1 : Addr → Prop} {O : Nat → List Addr} {r0 : List Val} {ws : List V} {S : List Addr} {ρ : Env} {σ : St} {w : List Nat} {ce : E} {t : Pat} {co : Option E} {v : Val} {o : Option Val} {x : V} {Nx : Hp → Prop}
    (nD : H0 D = none) (A : Acc K d D H0 F0 r0 H F1 ws S) (R : Rel K ρ F1 O σ H) (ht : ∀ j ∈ patS t, j ∈ w) (ev : turn1 p.cf w ce t co ρ v = .ok o) (g : Grow H F1 H2 F1) (rx : Rep K H2 F1 0 x v) (hz : (addO r0 o).length ≤ sizeLine)
    (nx : ∀ H' F' ws' S', Acc K d D H0 F0 (addO r0 o) H' F' ws' S' → Near D H F1 H' F' → Nx H') :
    tG K t x (L2.wipe σ w) H2 fun σ2 H3 => L2.wipe σ2 w = L2.wipe σ w ∧ tTs K p.nox co σ2 H3 fun b H4 =>
      if b = true then tO K p.nox d ce σ2 H4 fun y H5 => ∃ acc, H5 D = some (.lst acc) ∧ acc.length < sizeLine ∧ Nx (upd H5 D (.lst (acc ++ [y]))) else Nx H4 := by
  obtain ⟨ρ', e1, h1⟩ := Res.bind_eq_ok ev
  obtain ⟨c, e2, h2⟩ := Res.bind_eq_ok h1
  have Rb := (R.grow g).wipe w
  refine ⟨_, F1, _, v, ρ', Rb, rx, e1, fun σ2 O2 R2 _ df => ⟨?_, ρ', F1, O2, R2, ?_⟩⟩
  · refine wipe_turn ht ?_ df
    rw [R2.len, bindP_length t v _ _ e1, killL_length, R.len]
  · show Run p.nox (evalO p.cf co ρ') σ2 H2 _
    rw [e2]
    intro H3 F3 g3
    cases c with
    | false =>
      cases h2
      exact nx H3 F3 ws S (A.more (g.trans g3)) (Near.of (g.trans g3))
    | true =>
      obtain ⟨y, e3, h3⟩ := Res.bind_eq_ok h2
      cases h3
      refine ⟨ρ', F3, O2, R2.grow g3, ?_⟩
      show Run p.nox (evalE p.cf 0 ce ρ') σ2 H3 _
      rw [Res.quiet_eq_ok e3]
      intro u H5 F5 S5 g5 o5 n5
      obtain ⟨a1, a2⟩ := (A.more (g.trans g3)).add nD g5 o5 n5
      refine ⟨ws, a1, ?_, nx _ F5 _ _ a2 (Near.of (g.trans (g3.trans g5))).upd⟩
      have := ownA_length A.own
      simp only [addO, List.length_append, List.length_cons, List.length_nil] at hz
      omega
theorem drop_cons {α : Type} {xs : List α} {i : Nat} (h : i < xs.length) : ∃ v, xs[i]? = some v ∧ xs.drop i = v :: xs.drop (i + 1) :=
  ⟨xs[i], List.getElem?_eq_getElem h, List.drop_eq_getElem_cons h⟩
variable {elt tg iter : Expr} {ifs : List Expr} {scope : Scope} {own : List (Str × Nat)} {pos : Pos} {t : Pat} {w : List Nat} {ci ce : E} {co : Option E} {d : Nat}
theorem lc_of {K : PySem.W.Frag} {σ : St} {H : Hp} {Q : VK} (ht : ∀ j ∈ patS t, j ∈ w) (h : tO K p (d + 1) (.comp w d ce t ci co) σ H Q) :
    tLc (tI K p 1 ci) (tG K t) (tTs K p.nox co) (tO K p.nox d ce) w σ H Q := by
  obtain ⟨ρ, F, O, R, r⟩ := h
  have r1 : Run p ((evalE p.cf 1 ci ρ).bind fun s => (asSeq s).bind fun xs => (compL (turn1 p.cf w ce t co ρ) xs).bind fun r => Res.guard (sizeOk r.length) (Res.ok (PyData.list r))) σ H _ := r
  refine ⟨ρ, F, O, R, run_join (r1.bind.imp (Same.refl H) fun s _ q => q.bind.imp (Same.refl H) fun xs _ q2 J H1 F1 g1 wk D nD => ?_)⟩
  obtain ⟨rs, e1, q3⟩ := q2.bind.ok (nx_compL (fun v => nx_bind (nx_bindP _ _ _) fun _ => nx_bind (nx_evalO _ _) fun c => by
    cases c with
    | true => exact nx_bind nx_quiet fun _ => nx_ok
    | false => exact nx_ok) xs)
  cases hz : sizeOk rs.length with
  | false =>
    simp only [hz, Res.guard] at q3
    exact q3.elim
  | true =>
    simp only [hz, Res.guard] at q3
    have hz' := sizeOk_of hz
    refine ⟨fun i m H' => m = xs.length - i ∧ i ≤ xs.length ∧ ∃ r0 r1 ws F' S, rs = r0 ++ r1 ∧ compL (turn1 p.cf w ce t co ρ) (xs.drop i) = .ok r1 ∧ Acc K d D H1 F1 r0 H' F' ws S,
      ⟨xs.length, by simp, Nat.zero_le _, [], rs, [], F1, [], rfl, e1, Acc.start g1.dom nD⟩, ?_⟩
    rintro i m H' ⟨rfl, hi, r0, r1, ws, F', S, rfl, e2, A⟩
    have st : Stay 1 H1 H' F1 := ⟨Keep.same A.grow.same, fun _ => A.grow.same⟩
    by_cases hlt : i < xs.length
    · obtain ⟨v, hv, hd⟩ := drop_cons hlt
      rw [hd] at e2
      obtain ⟨o, r2, e3, e4, e5⟩ := compL_cons e2
      obtain ⟨go, yl⟩ := wk.go H' F' st A.grow.sub A.grow.dom i v hv
      refine .inr ⟨go, fun H'' => ∃ F'' ws' S', Acc K d D H1 F1 (addO r0 o) H'' F'' ws' S', fun H'' ⟨F'', ws', S', A'⟩ => ⟨xs.length - (i + 1), by omega, rfl, hlt, addO r0 o, r2, ws', F'', S', e5 r0, e4, A'⟩, fun x H2 y => ?_⟩
      obtain ⟨g, rx⟩ := yl x H2 y
      refine turn_go nD A ((R.grow g1).grow A.grow) ht e3 g rx ?_ fun H'' F'' ws' S' A' _ => ⟨F'', ws', S', A'⟩
      have := congrArg List.length (e5 r0)
      simp only [List.length_append] at this hz'
      omega
    · have e : i = xs.length := by omega
      subst e
      rw [List.drop_length] at e2
      cases e2
      refine .inl ⟨wk.stop H' st _ (Nat.le_refl _), ?_⟩
      obtain ⟨o, n⟩ := A.done nD
      rw [List.append_nil] at q3
      exact q3 _ H' F' (D :: S) (g1.trans A.grow) o fun a ha => ⟨g1.same.free (n a ha).1, (n a ha).2⟩
theorem vo_comp (hc : X.calm = true) (hN : X.N.Nodup) (hi : VI X p 1 tg iter ci) (ok : BlkOk X.N X.env.scope scope own) (hw : own.map (·.2) = w) (hp : ∀ j ∈ patS t, j ∈ w)
    (hg : ∀ (s : Shared) (H : Hp) (C : Addr) (cl : List (Str × Addr)) (fp : List Addr), VG (X.blk s H scope (compEnvC scope cl C X.env) fp) tg t) (ht : ∀ (s : Shared) (H : Hp) (C : Addr) (cl : List (Str × Addr)) (fp : List Addr), VTs (X.blk s H scope (compEnvC scope cl C X.env) fp) p.nox ifs co)
    (he : ∀ (s : Shared) (H : Hp) (C : Addr) (cl : List (Str × Addr)) (fp : List Addr), VO (X.blk s H scope (compEnvC scope cl C X.env) fp) p.nox elt ce d) (hs : ∀ x, foldedSetIterable iter X.env x = pure x := by intro _; rfl) :
    VO X p (.ListComp elt [⟨tg, iter, ifs, 0⟩] scope pos) (.comp w d ce t ci co) (d + 1) := by
  subst hw
  exact ⟨PE.imp (pe_lc hc hN hi.run ok (fun s H C cl fp => (hg s H C cl fp).run) (fun s H C cl fp => (ht s H C cl fp).run) (fun s H C cl fp => (he s H C cl fp).run) hs) fun σ H Q h => lc_of hp h⟩

/-! ### two clauses -/
variable {tg1 iter1 : Expr} {ifs1 : List Expr} {t2 : Pat} {w2 : List Nat} {ci2 : E} {co2 : Option E}
theorem nx_turn1 {w : List Nat} {ρ : Env} (v : Val) : NoX (turn1 p.cf w ce t co ρ v) := nx_bind (nx_bindP _ _ _) fun _ => nx_bind (nx_evalO _ _) fun c => by
    cases c with
    | true => exact nx_bind nx_quiet fun _ => nx_ok
    | false => exact nx_ok
end
end VL

/-! VL, part 11: sorted({.. for .. in ..}) of ints. -/
namespace VL
open PySem PySem.Spec L2 PySem.W
open PyProof.Rows hiding St

section
variable {X : Cx}
/-- a block that fills a new set of ints at D -/
def tSi (w : World) (wi : TI) (g : TG) (tt : TT) (te : TE) (vs : List Nat) : TE := fun σ H Q => wi σ H fun J H1 => ∀ D, H1 D = none →
  ∃ W : Nat → Nat → Hp → Prop, (∃ m, W 0 m (upd H1 D (SetO w D (fun _ => false) 0))) ∧ ∀ i m H, W i m H →
    (J.stop i H ∧ Q (.ref D) H) ∨
    (J.go i H ∧ ∃ Nx : Hp → Prop, (∀ H', Nx H' → ∃ m', m' < m ∧ W (i + 1) m' H') ∧ ∀ x H', J.yld i H x H' → g x (L2.wipe σ vs) H' fun σ2 H2 => L2.wipe σ2 vs = L2.wipe σ vs ∧
      tt σ2 H2 fun b H3 => if b = true then te σ2 H3 fun y H4 => ∃ (c : Int) (S : Int → Bool) (n : Nat), y = .int c ∧ H4 D = some (SetO w D S n) ∧ n + 1 < scanBound ∧
        Nx (upd H4 D (SetO w D (fun j => S j || decide (j = c)) (if S c = true then n else n + 1))) else Nx H3)
theorem empty_set (w : World) (h : Heap) : SetR w (h.push { cls := .type "set", dict := none, data := .set #[] 0 (.fresh 0 0 (!w.params.followText "set-order")) }) h.objs.size (fun _ => false) 0 := by
  have q := setR_new_at (w := w) (ns := []) (Heap.get?_push_size h (o := { cls := .type "set", dict := none, data := .set #[] 0 (.fresh 0 0 (!w.params.followText "set-order")) }) rfl)
  simpa using q
variable {elt tg iter : Expr} {ifs : List Expr} {scope : Scope} {own : List (PySem.Str × Nat)} {pos : Pos} {wi : TI} {g : TG} {tt : TT} {te : TE}
theorem pe_si (calm : X.calm = true) (nd : X.N.Nodup) (pi : PI X tg iter wi) (ok : BlkOk X.N X.env.scope scope own)
    (hg : ∀ (s : Shared) (H : Hp) (C : Addr) (cl : List (PySem.Str × Addr)) (fp : List Addr), PG (X.blk s H scope (compEnvC scope cl C X.env) fp) tg g)
    (ht : ∀ (s : Shared) (H : Hp) (C : Addr) (cl : List (PySem.Str × Addr)) (fp : List Addr), PTs (X.blk s H scope (compEnvC scope cl C X.env) fp) ifs tt)
    (he : ∀ (s : Shared) (H : Hp) (C : Addr) (cl : List (PySem.Str × Addr)) (fp : List Addr), PE (X.blk s H scope (compEnvC scope cl C X.env) fp) elt te) (hs : ∀ x, foldedSetIterable iter X.env x = pure x := by intro _; rfl) :
    PE X (.SetComp elt [⟨tg, iter, ifs, 0⟩] scope pos) (tSi X.w wi g tt te (own.map (·.2))) := by
  refine ⟨fun pins s σ H Q I0 rd => ?_⟩
  rw [PpSet.eval_SetComp]
  have seen : ∀ y ∈ scope.names, y.2 = .free → ∃ c, X.env.cells.lookup y.1 = some c := fun y hy e => I0.ok.has _ (ok.free y hy e)
  refine wpAny_comprehension_free (use := none) rfl hs (closure_ok seen) ok.kind (fun y hy e => by rw [ok.uniq y hy, e]) (thn (pi.run pins s σ H _ I0 rd) fun _ sa ha => thn ha fun _ sb hb => ?_)
  obtain ⟨it, fp, tn, J, Hb, rfl, Ib, T, tn0, fb, rd⟩ := hb
  refine PpSet.newSet_ok (newEnv_comp ?_)
  obtain ⟨D, eD⟩ : ∃ D, D = sb.heap.objs.size := ⟨_, rfl⟩
  rw [← eD]
  have nD : Hb D = none := Ib.hok.fresh (Nat.le_of_eq eD.symm)
  obtain ⟨W, ⟨m0, w0⟩, turn⟩ := rd D nD
  obtain ⟨sc, esc⟩ : ∃ sc : Shared, sc = { sb with heap := sb.heap.push { cls := .type "set", dict := none, data := .set #[] 0 (.fresh 0 0 (!X.w.params.followText "set-order")) } } := ⟨_, rfl⟩
  obtain ⟨Hc, eHc⟩ : ∃ Hc : Hp, Hc = upd Hb D (SetO X.w D (fun _ => false) 0) := ⟨_, rfl⟩
  have Ic : Inv X pins σ Hc sc := by
    rw [esc, eHc]
    exact Ib.laid (t' := sb.toks) (fun b o e => Heap.get?_push_of_some _ e) (Nat.le_of_eq eD.symm) (by rw [eD]; exact setO_new (empty_set X.w sb.heap))
  have hc : sc.heap = sb.heap.push { cls := .type "set", dict := none, data := .set #[] 0 (.fresh 0 0 (!X.w.params.followText "set-order")) } := by rw [esc]
  have below : ∀ b ∈ fp, b < sb.heap.objs.size := fun b hb => let ⟨_, e, _⟩ := T.obj _ _ tn0 b hb; Heap.lt_size e
  have fc : ∀ b ∈ fp, FpOk X pins Hc b ∧ b < sc.heap.objs.size := fun b hb =>
    ⟨⟨by rw [eHc, upd_ne (by rw [eD]; exact Nat.ne_of_lt (below b hb))]; exact (fb b hb).1, (fb b hb).2⟩, by rw [hc, Heap.size_push]; exact Nat.lt_succ_of_lt (below b hb)⟩
  have tnc : tn 0 sc.heap := T.keep _ _ _ tn0 fun b _ o e => by rw [hc]; exact Heap.get?_push_of_some _ e
  have Id := block_start Ic ok nd fc
  obtain ⟨cl, ecl⟩ : ∃ cl, cl = cellsFrom (sc.heap.objs.size + 1) scope.names (cloFrom X.env.cells scope.names []) := ⟨_, rfl⟩
  obtain ⟨ce, ece⟩ : ∃ ce, ce = compEnvC scope cl sc.heap.objs.size X.env := ⟨_, rfl⟩
  have pg := hg sc Hc sc.heap.objs.size cl fp
  have pt := ht sc Hc sc.heap.objs.size cl fp
  have pe := he sc Hc sc.heap.objs.size cl fp
  rw [← ecl, ← ece] at Id
  rw [← ece] at pg pt pe
  rw [← eHc] at w0
  have eL : ce.locals = sc.heap.objs.size := by rw [ece]; rfl
  obtain ⟨sd, esd⟩ : ∃ sd : Shared, sd = { sc with heap := pushCells (sc.heap.push { cls := .type "dict", data := .dict #[] }) scope.names } := ⟨_, rfl⟩
  rw [← esd] at Id
  have goal : codeAny (model X.prog X.w) X.A (.compStart (.SetComp elt [⟨tg, iter, ifs, 0⟩] scope pos) 0 (.ref it) (.ref D) ce)
      (compPost (model X.prog X.w) X.A X.xe none (EP X pins σ Q) (.ref D) sc.heap.objs.size) sd := by
    have tnd : tn 0 sd.heap := T.keep _ _ _ tnc fun b _ o e => by rw [esd]; exact pushCells_keeps _ _ _ _ (Heap.get?_push_of_some _ e)
    have mine : ∀ {σ' : L2.St} {H' : Hp} {s' : Shared}, Inv (X.blk sc Hc scope ce fp) [] σ' H' s' → (∀ b ∈ fp, H' b = none) → ∀ b ∈ fp, FpOk (X.blk sc Hc scope ce fp) [] H' b := fun {σ' H' s'} I' hn b hb =>
      ⟨hn b hb, (I'.ok.exf b hb).1, I'.ok.exfs b hb, .inl hb, fun x c e => (I'.ok.exf b hb).2 x c e, fun q hq => by cases hq⟩
    have loop : codeAny (model X.prog X.w) X.A (.compLoop (.SetComp elt [⟨tg, iter, ifs, 0⟩] scope pos) 0 (.ref it) (.ref D) ce)
        (compPost (model X.prog X.w) X.A X.xe none (EP X pins σ Q) (.ref D) sc.heap.objs.size) sd := by
      refine PpSet.compLoopS_any (fun n s' => ∃ i H', Inv (X.blk sc Hc scope ce fp) [] (L2.wipe σ (own.map (·.2))) H' s' ∧ tn i s'.heap ∧ (∀ b ∈ fp, H' b = none) ∧ W i n H') ?_ m0 ⟨0, Hc, Id, tnd, fun b hb => (fc b hb).1.1, w0⟩
      rintro n se ⟨i, He, Ie, tne, ne, we⟩
      rcases turn i n He we with ⟨stop, fin⟩ | ⟨go, Nx, less, step⟩
      · refine thnF (T.done (X.blk sc Hc scope ce fp) rfl rfl rfl calm i [] se _ He (fun _ _ => False) Ie (mine Ie ne) tne stop) fun r sf ⟨er, If⟩ => ?_
        subst er
        have Ig : Inv X pins σ He sf := Ic.call' (ch := fp) If.os If.base If.hok If.bare fun b hb => ⟨(fc b hb).1.2.2.2.1, (fc b hb).1.2.1, (fc b hb).1.2.2.2.2.1, (fc b hb).1.2.2.2.2.2⟩
        have nC : He sc.heap.objs.size = none := eL ▸ (show He ce.locals = none from If.free)
        obtain ⟨m, hm, _⟩ := If.loc
        have hm' : sf.heap.Ns sc.heap.objs.size m := eL ▸ (show sf.heap.Ns ce.locals m from hm)
        obtain ⟨f0, f1, f2, f3, f4, f5⟩ := Ic.fpOk (H' := He) (Nat.le_refl _) nC
        exact ⟨m, hm', fun h'' sb'' => ⟨.ref D, He, Ig.turned (t' := sf.toks) (fun b o hb e => (sb''.2 b hb).trans e) f0 f1 f3 f4 f5, rfl, fin⟩⟩
      · refine thnF (T.item (X.blk sc Hc scope ce fp) rfl rfl rfl calm i [] se _ He (fun _ _ => False) Ie (mine Ie ne) tne go) fun r sf ⟨u, er, hf⟩ => ?_
        subst er
        refine thnF hf fun _ sg ⟨x, Hg, Ig, rg, yg, tng, ng⟩ => ?_
        have Ip := Ig.pinned (mine Ig ng) (T.obj _ _ tng)
        refine thnF (pg.run _ sg _ Hg x u _ Ip rg (step x Hg yg)) fun _ sh ⟨σh, Hh, Ih, wh, qh⟩ => thnF (pt.run _ sh σh Hh _ Ih qh) fun b si ⟨Hi, Ii, qi⟩ => ?_
        have close : ∀ {s' : Shared} {H' : Hp}, Inv (X.blk sc Hc scope ce fp) ([] ++ pinsAt fp sg.heap) σh H' s' → Nx H' →
            ∃ m, m < n ∧ ∃ i H', Inv (X.blk sc Hc scope ce fp) [] (L2.wipe σ (own.map (·.2))) H' s' ∧ tn i s'.heap ∧ (∀ b ∈ fp, H' b = none) ∧ W i m H' := fun {s' H'} I' nx => by
          obtain ⟨m', hm, w'⟩ := less H' nx
          have still : ∀ b ∈ fp, ∀ o, sg.heap.get? b = some o → s'.heap.get? b = some o ∧ H' b = none := fun b hb o e =>
            let z := I'.pin (b, o) (List.mem_append_right _ (List.mem_append_right _ (mem_pinsAt hb e)))
            ⟨z.1, z.2.1⟩
          exact ⟨m', hm, i + 1, H', (I'.unpinned (pins := [])).weak (by rw [← wh, wipe_length]) (fun j v e => (wipe_some (wh.symm ▸ e)).1), T.keep _ _ _ tng fun b hb o e => (still b hb o e).1,
            fun b hb => let ⟨o, e, _⟩ := T.obj _ _ tng b hb; (still b hb o e).2, w'⟩
        cases b with
        | false => exact close Ii (by simpa using qi)
        | true =>
          have qi' : te σh Hi fun y H4 => ∃ (c : Int) (S : Int → Bool) (n : Nat), y = .int c ∧ H4 D = some (SetO X.w D S n) ∧ n + 1 < scanBound ∧ Nx (upd H4 D (SetO X.w D (fun j => S j || decide (j = c)) (if S c = true then n else n + 1))) := by simpa using qi
          refine thnF (pe.run _ si σh Hi _ Ii qi') fun z sj hz => ?_
          obtain ⟨yv, Hj, Ij, rj, c, S, n0, ey, hD, room, nx⟩ := hz
          subst ey
          have ad := mt_sadd (X := X.blk sc Hc scope ce fp) _ sj σh Hj (.ref D) [.int c] (.ref D) [z] (fun v H' => H' = upd Hj D (SetO X.w D (fun j => S j || decide (j = c)) (if S c = true then n0 else n0 + 1))) Ij rfl (.cons rj .nil) ⟨D, c, S, n0, rfl, rfl, hD, room, rfl⟩
          refine thnF ad fun _ sk hk => ?_
          obtain ⟨_, Hk, Ik, _, eHk⟩ := hk
          subst eHk
          exact close Ik nx
    exact PpSet.codeAny_compStart_set loop (T.self X.A 0 _ _ _ tnd loop)
  rw [esd, ece, ecl, esc] at goal
  rw [eD] at goal ⊢
  exact goal
end

theorem insS_mem {k j : Int} : ∀ {l : List Int}, j ∈ insS k l ↔ j = k ∨ j ∈ l
  | [] => by simp [insS]
  | x :: r => by
    unfold insS
    split
    · simp
    · split
      · rename_i h
        subst h
        simp
      · simp only [List.mem_cons, insS_mem (l := r)]
        constructor
        · rintro (h | h | h)
          · exact .inr (.inl h)
          · exact .inl h
          · exact .inr (.inr h)
        · rintro (h | h | h)
          · exact .inr (.inl h)
          · exact .inl h
          · exact .inr (.inr h)
theorem insS_sorted {k : Int} : ∀ {l : List Int}, l.Pairwise (· < ·) → (insS k l).Pairwise (· < ·)
  | [], _ => List.pairwise_singleton _ _
  | x :: r, h => by
    obtain ⟨h1, h2⟩ := List.pairwise_cons.mp h
    unfold insS
    split
    · refine List.pairwise_cons.mpr ⟨fun y hy => ?_, h⟩
      rcases List.mem_cons.mp hy with e | hy
      · omega
      · have := h1 y hy
        omega
    · split
      · exact h
      · refine List.pairwise_cons.mpr ⟨fun y hy => ?_, insS_sorted h2⟩
        rcases insS_mem.mp hy with e | hy
        · omega
        · exact h1 y hy
theorem insS_length {k : Int} : ∀ {l : List Int}, l.Pairwise (· < ·) → (insS k l).length = if k ∈ l then l.length else l.length + 1
  | [], _ => by simp [insS]
  | x :: r, h => by
    obtain ⟨h1, h2⟩ := List.pairwise_cons.mp h
    unfold insS
    split
    · rename_i hk
      have : ¬ k ∈ x :: r := fun z => by
        rcases List.mem_cons.mp z with e | z
        · omega
        · have := h1 k z
          omega
      rw [if_neg this]
      rfl
    · split
      · rename_i e
        rw [if_pos (by rw [e]; exact List.mem_cons_self)]
      · rename_i h3
        rw [List.length_cons, insS_length h2]
        by_cases hk : k ∈ r
        · rw [if_pos hk, if_pos (List.mem_cons_of_mem _ hk)]
          rfl
        · rw [if_neg hk, if_neg fun z => (List.mem_cons.mp z).elim h3 hk]
          rfl
theorem sorted_ext : ∀ {l m : List Int}, l.Pairwise (· < ·) → m.Pairwise (· < ·) → (∀ k, k ∈ l ↔ k ∈ m) → l = m
  | [], [], _, _, _ => rfl
  | [], y :: m, _, _, h => absurd ((h y).mpr List.mem_cons_self) (by simp)
  | x :: l, [], _, _, h => absurd ((h x).mp List.mem_cons_self) (by simp)
  | x :: l, y :: m, hl, hm, h => by
    obtain ⟨l1, l2⟩ := List.pairwise_cons.mp hl
    obtain ⟨m1, m2⟩ := List.pairwise_cons.mp hm
    have e : x = y := by
      have a := (h x).mp List.mem_cons_self
      have b := (h y).mpr List.mem_cons_self
      rcases List.mem_cons.mp a with a | a
      · exact a
      · rcases List.mem_cons.mp b with b | b
        · exact b.symm
        · have := m1 x a
          have := l1 y b
          omega
    subst e
    rw [sorted_ext l2 m2 fun k => ⟨fun hk => by
      rcases List.mem_cons.mp ((h k).mp (List.mem_cons_of_mem _ hk)) with e | z
      · have := l1 k hk
        omega
      · exact z, fun hk => by
      rcases List.mem_cons.mp ((h k).mpr (List.mem_cons_of_mem _ hk)) with e | z
      · have := m1 k hk
        omega
      · exact z⟩]
theorem once_le (is : List Int) : ∀ {acc : List Int}, acc.Pairwise (· < ·) → acc.length ≤ (is.foldl (fun acc k => insS k acc) acc).length ∧ (is.foldl (fun acc k => insS k acc) acc).Pairwise (· < ·) := by
  induction is with
  | nil => exact fun h => ⟨Nat.le_refl _, h⟩
  | cons k is ih =>
    intro acc h
    obtain ⟨h1, h2⟩ := ih (insS_sorted (k := k) h)
    refine ⟨Nat.le_trans ?_ h1, h2⟩
    rw [insS_length h]
    split <;> omega
/-- the set at D has the members of acc -/
abbrev SetI (w : World) (D : Addr) (acc : List Int) : HO := SetO w D (fun k => decide (k ∈ acc)) acc.length
theorem setI_add {w : World} {D : Addr} {acc : List Int} {c : Int} (h : acc.Pairwise (· < ·)) : SetO w D (fun j => decide (j ∈ acc) || decide (j = c)) (if decide (c ∈ acc) = true then acc.length else acc.length + 1) = SetI w D (insS c acc) := by
  unfold SetI
  congr 1
  · funext j
    rw [← Bool.decide_or]
    congr 1
    rw [insS_mem, or_comm]
  · rw [insS_length h]
    by_cases e : c ∈ acc <;> simp [e]

section
variable {X : Cx} {p : Par} {t : Pat} {w : List Nat} {ci ce : E} {co : Option E}
theorem si_of {K : PySem.W.Frag} {w0 : World} {σ : St} {H : Hp} {Q : VK} {ρ : Env} {F : Addr → Prop} {O : Nat → List Addr} {good : Val → Prop} (ht : ∀ j ∈ patS t, j ∈ w) (R : Rel K ρ F O σ H)
    (r : Run p ((evalE p.cf 9 (.comp w 0 ce t ci co) ρ).bind fun v => vSortedSet v) σ H good)
    (hq : ∀ D H' F' is, good (.list ((intsOnce is).map .int)) → (intsOnce is).length < 64 → Grow H F H' F' → H' D = some (SetI w0 D (intsOnce is)) → Q (.ref D) H') :
    tSi w0 (tI K p 1 ci) (tG K t) (tTs K p.nox co) (tO K p.nox 0 ce) w σ H Q := by
  have r1 : Run p (((evalE p.cf 1 ci ρ).bind fun s => (asSeq s).bind fun xs => (compL (turn1 p.cf w ce t co ρ) xs).bind fun r => Res.guard (sizeOk r.length) (Res.ok (PyData.list r))).bind fun v => vSortedSet v) σ H good := r
  refine ⟨ρ, F, O, R, run_join (r1.bind.bind.imp (Same.refl H) fun s _ q => q.bind.imp (Same.refl H) fun xs _ q2 J H1 F1 g1 wk D nD => ?_)⟩
  obtain ⟨rs, e1, q3⟩ := q2.bind.ok (nx_compL (fun v => nx_turn1 v) xs)
  cases hz : sizeOk rs.length with
  | false =>
    simp only [hz, Res.guard] at q3
    exact q3.elim
  | true =>
    simp only [hz, Res.guard] at q3
    have q4 : Run p (vSortedSet (.list rs)) σ H good := q3
    unfold vSortedSet at q4
    cases hi : intsOf rs with
    | none =>
      simp only [hi] at q4
      exact q4.elim
    | some is =>
      simp only [hi] at q4
      have ers := intsOf_eq hi
      subst ers
      by_cases h64 : (intsOnce is).length < 64
      · simp only [h64, decide_true, Res.guard] at q4
        have q5 : good (.list ((intsOnce is).map .int)) := q4
        refine ⟨fun i m H' => m = xs.length - i ∧ i ≤ xs.length ∧ ∃ acc is1 F', compL (turn1 p.cf w ce t co ρ) (xs.drop i) = .ok (is1.map .int) ∧ is1.foldl (fun acc k => insS k acc) acc = intsOnce is ∧ acc.Pairwise (· < ·) ∧ Grow H1 F1 H' F' ∧ ¬ F' D ∧ H' D = some (SetI w0 D acc),
          ⟨xs.length, by simp, Nat.zero_le _, [], is, F1, by rw [List.drop_zero]; exact e1, rfl, List.Pairwise.nil, Grow.put g1.dom nD, fun f => g1.dom D f nD, by rw [upd_same]; unfold SetI; simp⟩, ?_⟩
        rintro i m H' ⟨rfl, hi, acc, is1, F', e2, e3, srt, g2, nF, hD⟩
        have st : Stay 1 H1 H' F1 := ⟨Keep.same g2.same, fun _ => g2.same⟩
        by_cases hlt : i < xs.length
        · obtain ⟨v, hv, hd⟩ := drop_cons hlt
          rw [hd] at e2
          obtain ⟨o, r2, e4, e5, e6⟩ := compL_cons e2
          obtain ⟨go, yl⟩ := wk.go H' F' st g2.sub g2.dom i v hv
          refine .inr ⟨go, fun H'' => ∃ acc is2 F'', r2 = is2.map .int ∧ is2.foldl (fun acc k => insS k acc) acc = intsOnce is ∧ acc.Pairwise (· < ·) ∧ Grow H1 F1 H'' F'' ∧ ¬ F'' D ∧ H'' D = some (SetI w0 D acc),
            fun H'' ⟨acc', is2, F'', h1, h2, h3, h4, h5, h6⟩ => ⟨xs.length - (i + 1), by omega, rfl, hlt, acc', is2, F'', by rw [e5, h1], h2, h3, h4, h5, h6⟩, fun x H2 y => ?_⟩
          obtain ⟨g, rx⟩ := yl x H2 y
          obtain ⟨ρ', b1, h1⟩ := Res.bind_eq_ok e4
          obtain ⟨c, b2, h2⟩ := Res.bind_eq_ok h1
          have Rb := (((R.grow g1).grow g2).grow g).wipe w
          have nF2 : ∀ {H' F''}, Grow H2 F' H' F'' → ¬ F'' D ∧ H' D = some (SetI w0 D acc) := fun {H' F''} gg => ⟨fun f => by
            rcases (g.trans gg).new D f with f | f
            · exact nF f
            · rw [hD] at f
              exact (nomatch f), (g.trans gg).same _ _ hD⟩
          refine ⟨_, F', _, v, ρ', Rb, rx, b1, fun σ2 O2 R2 _ df => ⟨?_, ρ', F', O2, R2, ?_⟩⟩
          · refine wipe_turn ht ?_ df
            rw [R2.len, bindP_length t v _ _ b1, killL_length, R.len]
          · show Run p.nox (evalO p.cf co ρ') σ2 H2 _
            rw [b2]
            intro H3 F3 g3
            cases c with
            | false =>
              cases h2
              have e7 := e6 []
              simp only [addO, List.nil_append] at e7
              exact ⟨acc, is1, F3, e7.symm, e3, srt, g2.trans (g.trans g3), (nF2 g3).1, (nF2 g3).2⟩
            | true =>
              obtain ⟨y, b3, h3⟩ := Res.bind_eq_ok h2
              cases h3
              have e7 := e6 []
              simp only [addO, List.nil_append, List.cons_append] at e7
              cases is1 with
              | nil => cases e7
              | cons k is2 =>
                simp only [List.map_cons, List.cons.injEq] at e7
                obtain ⟨e8, e9⟩ := e7
                subst e8
                refine ⟨ρ', F3, O2, R2.grow g3, ?_⟩
                show Run p.nox (evalE p.cf 0 ce ρ') σ2 H3 _
                rw [Res.quiet_eq_ok b3]
                intro u H5 F5 S5 g5 o5 n5
                obtain ⟨a1, a2⟩ := nF2 (g3.trans g5)
                have rk : Rep K H5 F5 0 u (.int k) := (own_zero.mp o5).2
                have le := (once_le is2 (insS_sorted (k := k) srt)).1
                have e3' : is2.foldl (fun acc k => insS k acc) (insS k acc) = intsOnce is := e3
                have le2 : acc.length ≤ (insS k acc).length := by
                  rw [insS_length srt]
                  split <;> omega
                rw [e3'] at le
                have gA : Grow H1 F1 H5 F5 := g2.trans (g.trans (g3.trans g5))
                refine ⟨k, _, _, rep_int.mp rk, a2, by show acc.length + 1 < 4096; omega, insS k acc, is2, F5, e9.symm, e3', insS_sorted srt, ⟨fun b o e => ?_, gA.sub, gA.new, fun a f => ?_, fun a f => (gA.lst a f).imp id fun ⟨zs, e⟩ => ⟨zs, by rw [upd_ne (show a ≠ D from fun z => a1 (by rw [← z]; exact f))]; exact e⟩, gA.dm⟩, a1, ?_⟩
                · rw [upd_ne (ne_of_none e nD)]
                  exact gA.same b o e
                · by_cases e : a = D
                  · rw [e, upd_same]
                    simp
                  · rw [upd_ne e]
                    exact gA.dom a f
                · rw [upd_same, setI_add srt]
        · have e : i = xs.length := by omega
          subst e
          rw [List.drop_length] at e2
          have e4 : is1 = [] := by
            cases is1 with
            | nil => rfl
            | cons _ _ => cases e2
          subst e4
          have e5 : acc = intsOnce is := e3
          subst e5
          exact .inl ⟨wk.stop H' st _ (Nat.le_refl _), hq D H' F' is q5 h64 (g1.trans g2) hD⟩
      · simp only [h64, decide_false, Res.guard] at q4
        exact q4.elim
variable {elt tg iter : Expr} {ifs : List Expr} {scope : Scope} {own : List (PySem.Str × Nat)} {pos q0 pos1 : Pos}
theorem vo_sortedSc (hc : X.calm = true) (hN : X.N.Nodup) (hm : X.mg "sorted" = none) (hi : VI X p 1 tg iter ci) (ok : BlkOk X.N X.env.scope scope own) (hw : own.map (·.2) = w) (hp : ∀ j ∈ patS t, j ∈ w)
    (hg : ∀ (s : Shared) (H : Hp) (C : Addr) (cl : List (PySem.Str × Addr)) (fp : List Addr), VG (X.blk s H scope (compEnvC scope cl C X.env) fp) tg t) (ht : ∀ (s : Shared) (H : Hp) (C : Addr) (cl : List (PySem.Str × Addr)) (fp : List Addr), VTs (X.blk s H scope (compEnvC scope cl C X.env) fp) p.nox ifs co)
    (he : ∀ (s : Shared) (H : Hp) (C : Addr) (cl : List (PySem.Str × Addr)) (fp : List Addr), VO (X.blk s H scope (compEnvC scope cl C X.env) fp) p.nox elt ce 0) (hgl : Gl X "sorted" := by rfl) (hs : ∀ x, foldedSetIterable iter X.env x = pure x := by intro _; rfl)
    (hse : starEach [.SetComp elt [⟨tg, iter, ifs, 0⟩] scope pos1] X.env = (false, eval (.SetComp elt [⟨tg, iter, ifs, 0⟩] scope pos1) X.env) :: starEach [] X.env := by rfl) :
    VO X p (.Call (.Name "sorted" q0) [.SetComp elt [⟨tg, iter, ifs, 0⟩] scope pos1] [] pos) (.op .sortedSet [.comp w 0 ce t ci co]) 1 := by
  subst hw
  refine ⟨PE.imp (pe_callB (cr_sortedSet hc) hgl hm (by decide +kernel) (pa_cons (pe_si (wi := tI X.K p 1 ci) (g := tG X.K t) (tt := tTs X.K p.nox co) (te := tO X.K p.nox 0 ce) hc hN hi.run ok (fun s H C cl fp => (hg s H C cl fp).run) (fun s H C cl fp => (ht s H C cl fp).run) (fun s H C cl fp => (he s H C cl fp).run) hs) pa_nil hse) (by decide) (by decide) hse rfl) fun σ H Q ⟨ρ, F, O, R, r⟩ => ?_⟩
  have r1 : Run p ((((evalE p.cf 9 (.comp (own.map (·.2)) 0 ce t ci co) ρ).bind fun v => Res.ok [v])).bind fun vs => den .sortedSet vs) σ H _ := r
  have r2 : Run p ((evalE p.cf 9 (.comp (own.map (·.2)) 0 ce t ci co) ρ).bind fun v => vSortedSet v) σ H _ := run_join (r1.bind.bind.imp (Same.refl H) fun v _ q => q)
  show tSi X.w (tI X.K p 1 ci) (tG X.K t) (tTs X.K p.nox co) (tO X.K p.nox 0 ce) (own.map (·.2)) σ H (fun u H1 => tNil σ H1 fun vs H2 => rSortedSet X.w (u :: vs) H2 Q)
  refine si_of hp R r2 fun D H1 F1 is good lt g hD => ⟨D, _, _, rfl, hD, lt, fun ns P srt mem len nP => ?_⟩
  have e : ns = intsOnce is := sorted_ext srt (once_le is List.Pairwise.nil).2 fun k => by rw [mem k, decide_eq_true_eq]
  subst e
  obtain ⟨g2, o, n⟩ := own_new g.dom nP (repA_of_ints (K := X.K) (F := F1) (H := H1) (is := intsOnce is))
  exact good (.ref P) _ F1 [P] (g.trans g2) o fun a h => ⟨g.same.free (n a h).1, (n a h).2⟩
end
end VL

/-! VL, part 12: statements. -/
namespace VL
open PySem PySem.Spec L2 PySem.W
open PyProof.Rows hiding St

/-- a def under way: the frame's values; what stood at its start stands; what it owns is new -/
structure SRel (K : PySem.W.Frag) (H0 : Hp) (F0 : Addr → Prop) (ρ : Env) (F : Addr → Prop) (O : Nat → List Addr) (σ : St) (H : Hp) : Prop where
  rel : Rel K ρ F O σ H
  grow : Grow H0 F0 H F
  new : ∀ i a, a ∈ O i → H0 a = none
/-- from one statement to another: what is frozen stays -/
structure Step (H : Hp) (F : Addr → Prop) (H' : Hp) (F' : Addr → Prop) : Prop where
  keep : Keep H H' F
  sub : ∀ a, F a → F' a
theorem Step.refl {H : Hp} {F : Addr → Prop} : Step H F H F := ⟨fun _ _ e _ => e, fun _ h => h⟩
theorem Step.trans {H H1 H2 : Hp} {F F1 F2 : Addr → Prop} (h : Step H F H1 F1) (h' : Step H1 F1 H2 F2) : Step H F H2 F2 :=
  ⟨fun b o e c => h'.keep b o (h.keep b o e c) (c.imp (h.sub b) id), fun a f => h'.sub a (h.sub a f)⟩
theorem Step.of {H H1 : Hp} {F F1 : Addr → Prop} (g : Grow H F H1 F1) : Step H F H1 F1 := ⟨Keep.same g.same, g.sub⟩

def After (K : PySem.W.Frag) (fr : Nat) (H0 : Hp) (F0 : Addr → Prop) (H : Hp) (F : Addr → Prop) (D : Ends) : Out → Prop
  | .nx ρ' => ∀ σ' H' F' O', SRel K H0 F0 ρ' F' O' σ' H' → Step H F H' F' → D.nx σ' H'
  | .ct ρ' => ∀ σ' H' F' O', SRel K H0 F0 ρ' F' O' σ' H' → Step H F H' F' → D.ct σ' H'
  | .bk ρ' => ∀ σ' H' F' O', SRel K H0 F0 ρ' F' O' σ' H' → Step H F H' F' → D.bk σ' H'
  | .rt v => ∀ u H' F' S, Grow H0 F0 H' F' → Own K H' F' fr S u v → (∀ a ∈ S, H0 a = none ∧ ¬ F' a) → D.rt u H'
theorem After.step {K : PySem.W.Frag} {fr : Nat} {H0 H H1 : Hp} {F0 F F1 : Addr → Prop} {D : Ends} {o : Out} (h : After K fr H0 F0 H F D o) (s : Step H F H1 F1) : After K fr H0 F0 H1 F1 D o := by
  cases o with
  | nx ρ => exact fun σ' H' F' O' r s' => h σ' H' F' O' r (s.trans s')
  | ct ρ => exact fun σ' H' F' O' r s' => h σ' H' F' O' r (s.trans s')
  | bk ρ => exact fun σ' H' F' O' r s' => h σ' H' F' O' r (s.trans s')
  | rt v => exact h

def tS (K : PySem.W.Frag) (p : Par) (fr : Nat) (s : S) : TS := fun D σ H => ∃ H0 F0 ρ F O o, SRel K H0 F0 ρ F O σ H ∧ evalS p.cf s ρ = .ok o ∧ After K fr H0 F0 H F D o
def tSs (K : PySem.W.Frag) (p : Par) (fr : Nat) (ss : List S) : TS := fun D σ H => ∃ H0 F0 ρ F O o, SRel K H0 F0 ρ F O σ H ∧ evalSs p.cf ss ρ = .ok o ∧ After K fr H0 F0 H F D o
structure VS (X : Cx) (p : Par) (fr : Nat) (st : Stmt) (s : S) : Prop where
  run : PS X st (tS X.K p fr s)
structure VSs (X : Cx) (p : Par) (fr : Nat) (sts : List Stmt) (ss : List S) : Prop where
  run : PSs X sts (tSs X.K p fr ss)

/-! ### how the frame moves -/
section
variable {K : PySem.W.Frag} {ρ : Env} {F F' F0 : Addr → Prop} {O : Nat → List Addr} {σ : St} {H H' H0 : Hp}
theorem SRel.grow' (R : SRel K H0 F0 ρ F O σ H) (g : Grow H F H' F') : SRel K H0 F0 ρ F' O σ H' := ⟨R.rel.grow g, R.grow.trans g, R.new⟩
/-- slot i's thing has changed, and nothing else -/
theorem Rel.mut (R : Rel K ρ F O σ H) {i k : Nat} {S : List Addr} {u : V} {v : Val} (hi : i < ρ.length) (hu : σ[i]? = some (some u)) (keep : ∀ b o, H b = some o → b ∉ O i → H' b = some o) (sub : ∀ a, F a → F' a)
    (new : ∀ a, F' a → F a ∨ a ∈ O i ∨ H a = none) (dom : ∀ a, F' a → H' a ≠ none) (own : Own K H' F' k S u v) (hS : ∀ a ∈ S, ¬ F' a ∧ ∀ j, j ≠ i → a ∉ O j) : Rel K (ρ.set i (some (v, k))) F' (fun j => if j = i then S else O j) σ H' where
  len := by rw [List.length_set, R.len]
  slot := fun j w d e => by
    rw [List.getElem?_set] at e
    by_cases h : i = j
    · subst h
      simp only [if_true, hi, Option.some.injEq, Prod.mk.injEq] at e ⊢
      obtain ⟨rfl, rfl⟩ := e
      exact ⟨u, hu, own⟩
    · rw [if_neg h] at e
      obtain ⟨z, e1, q⟩ := R.slot j w d e
      refine ⟨z, e1, ?_⟩
      rw [if_neg fun q => h q.symm]
      refine own_frame w d _ z q (fun b o eb c => keep b o eb fun m => ?_) sub
      rcases c with c | c | c
      · exact R.notF i b m c
      · obtain ⟨ws, e2⟩ := R.there m
        rw [e2] at eb
        cases eb
        rw [isM_mo] at c
        cases c
      · exact R.disj j i b (fun q => h q.symm) c m
  empty := fun j h => by
    by_cases e : j = i
    · subst e
      exact absurd (by rw [List.getElem?_set_self hi]) (h v k)
    · simp only [e, if_false]
      exact R.empty j fun w d q => h w d (by rw [List.getElem?_set_ne fun z => e z.symm]; exact q)
  disj := fun j l a n h => by
    by_cases e : j = i
    · subst e
      simp only [if_true] at h
      have : ¬ l = j := fun z => n z.symm
      simp only [this, if_false]
      exact (hS a h).2 l this
    · simp only [e, if_false] at h
      by_cases e2 : l = i
      · subst e2
        simp only [if_true]
        exact fun m => (hS a m).2 j e h
      · simp only [e2, if_false]
        exact R.disj j l a n h
  notF := fun j a h => by
    by_cases e : j = i
    · subst e
      simp only [if_true] at h
      exact (hS a h).1
    · simp only [e, if_false] at h
      intro f
      rcases new a f with q | q | q
      · exact R.notF j a h q
      · exact R.disj j i a e h q
      · obtain ⟨ws, e2⟩ := R.there h
        rw [q] at e2
        cases e2
  dom := dom
theorem SRel.mut (R : SRel K H0 F0 ρ F O σ H) {i k : Nat} {S : List Addr} {u : V} {v : Val} (hi : i < ρ.length) (hu : σ[i]? = some (some u)) (keep : ∀ b o, H b = some o → b ∉ O i → H' b = some o) (sub : ∀ a, F a → F' a)
    (new : ∀ a, F' a → F a ∨ a ∈ O i ∨ H a = none) (dom : ∀ a, F' a → H' a ≠ none) (own : Own K H' F' k S u v) (hS : ∀ a ∈ S, ¬ F' a ∧ (∀ j, j ≠ i → a ∉ O j) ∧ H0 a = none) (lst : ∀ a, F' a → F a ∨ ∃ ws, H' a = some (mo ws) := by exact fun _ f => .inl f) :
    SRel K H0 F0 (ρ.set i (some (v, k))) F' (fun j => if j = i then S else O j) σ H' ∧ Step H F H' F' := by
  refine ⟨⟨R.rel.mut hi hu keep sub new dom own fun a m => ⟨(hS a m).1, (hS a m).2.1⟩, ⟨fun b o e => keep b o (R.grow.same b o e) fun m => ?_, fun a f => sub a (R.grow.sub a f), fun a f => ?_, dom, fun a f => (lst a f).elim (fun f => (R.grow.lst a f).imp id fun ⟨ws, e⟩ => ⟨ws, keep a _ e fun m => R.rel.notF i a m f⟩) .inr, R.grow.dm⟩, fun j a h => ?_⟩, fun b o e c => keep b o e fun m => ?_, sub⟩
  · rw [R.new i b m] at e
    cases e
  · rcases new a f with q | q | q
    · exact R.grow.new a q
    · exact .inr (R.new i a q)
    · exact .inr (R.grow.same.free q)
  · by_cases e : j = i
    · subst e
      simp only [if_true] at h
      exact (hS a h).2.2
    · simp only [e, if_false] at h
      exact R.new j a h
  · rcases c with c | c
    · exact R.rel.notF i b m c
    · obtain ⟨ws, e2⟩ := R.rel.there m
      rw [e2] at e
      cases e
      rw [isM_mo] at c
      cases c
theorem getElem_lt {α : Type} {l : List α} {i : Nat} {x : α} (h : l[i]? = some x) : i < l.length := by
  by_cases e : i < l.length
  · exact e
  · rw [List.getElem?_eq_none (Nat.not_lt.mp e)] at h
    cases h
/-- slot i is less its own -/
theorem SRel.drop1 (R : SRel K H0 F0 ρ F O σ H) {i d k : Nat} {v : Val} (h : ρ[i]? = some (some (v, d))) (hk : k ≤ d) : ∃ F' O', SRel K H0 F0 (ρ.set i (some (v, k))) F' O' σ H ∧ Step H F H F' ∧ (∀ a, F' a → F a ∨ a ∈ O i) ∧ (∀ j, j ≠ i → O' j = O j) ∧ ∀ a ∈ O' i, a ∈ O i := by
  obtain ⟨u, hu, o⟩ := R.rel.slot i v d h
  obtain ⟨S1, s1, s2⟩ := own_lower v d k (O i) u o hk
  have o1 := s2 (fun a => F a ∨ (a ∈ O i ∧ a ∉ S1)) (fun a f => .inl f) fun a m n => .inr ⟨m, n⟩
  obtain ⟨R', st⟩ := R.mut (F' := fun a => F a ∨ (a ∈ O i ∧ a ∉ S1)) (getElem_lt h) hu (fun b o e _ => e) (fun a f => .inl f) (fun a f => f.elim .inl fun z => .inr (.inl z.1)) (fun a f => f.elim (R.rel.dom a) fun z => by
    obtain ⟨ws, e⟩ := R.rel.there z.1
    rw [e]
    simp) o1 (fun a m => ⟨fun f => f.elim (R.rel.notF i a (s1 a m)) fun z => z.2 m, fun j hj => R.rel.disj i j a (fun z => hj z.symm) (s1 a m), R.new i a (s1 a m)⟩) fun a f => f.imp id fun z => R.rel.there z.1
  exact ⟨_, _, R', st, fun a f => f.elim .inl fun z => .inr z.1, fun j hj => if_neg hj, fun a m => s1 a (by simpa using m)⟩
theorem SRel.dropL : ∀ (l : List (Nat × Nat)) {ρ : Env} {F : Addr → Prop} {O : Nat → List Addr}, SRel K H0 F0 ρ F O σ H → ∃ F' O', SRel K H0 F0 (dropL l ρ) F' O' σ H ∧ Step H F H F'
  | [], ρ, F, O, R => ⟨F, O, R, Step.refl⟩
  | (i, k) :: r, ρ, F, O, R => by
    unfold VL.dropL
    have one : ∃ F' O', SRel K H0 F0 (VL.drop1 i k ρ) F' O' σ H ∧ Step H F H F' := by
      unfold VL.drop1
      cases e : ρ[i]? with
      | none => exact ⟨F, O, R, Step.refl⟩
      | some x =>
        cases x with
        | none => exact ⟨F, O, R, Step.refl⟩
        | some y =>
          obtain ⟨F1, O1, R1, s1, _⟩ := R.drop1 e (Nat.min_le_left _ k)
          exact ⟨F1, O1, R1, s1⟩
    obtain ⟨F1, O1, R1, s1⟩ := one
    obtain ⟨F2, O2, R2, s2⟩ := SRel.dropL r R1
    exact ⟨F2, O2, R2, s1.trans s2⟩
theorem Rel.killL (R : Rel K ρ F O σ H) (w : List Nat) : Rel K (killL w ρ) F (fun j => if j ∈ w then [] else O j) σ H := by
  have W := R.wipe w
  refine ⟨by rw [killL_length, R.len], fun i v d e => ?_, W.empty, W.disj, W.notF, W.dom⟩
  obtain ⟨u, e1, q⟩ := W.slot i v d e
  exact ⟨u, (wipe_some e1).1, q⟩
theorem SRel.killL (R : SRel K H0 F0 ρ F O σ H) (w : List Nat) : SRel K H0 F0 (killL w ρ) F (fun j => if j ∈ w then [] else O j) σ H :=
  ⟨R.rel.killL w, R.grow, fun i a h => by
    by_cases e : i ∈ w
    · simp [e] at h
    · simp only [e, if_false] at h
      exact R.new i a h⟩
/-- slot i takes a new thing -/
theorem SRel.set (R : SRel K H0 F0 ρ F O σ H) {i d : Nat} {S : List Addr} {u : V} {x : Val} (hi : i < ρ.length) (g : Grow H F H' F') (o : Own K H' F' d S u x) (hS : ∀ a ∈ S, H a = none ∧ ¬ F' a) :
    SRel K H0 F0 (ρ.set i (some (x, d))) F' (fun j => if j = i then S else O j) (σ.set i (some u)) H' := by
  refine ⟨(R.rel.grow g).set hi o fun a m => ⟨(hS a m).2, fun j _ z => ?_⟩, R.grow.trans g, fun j a h => ?_⟩
  · obtain ⟨ws, e⟩ := R.rel.there z
    rw [(hS a m).1] at e
    cases e
  · by_cases e : j = i
    · subst e
      simp only [if_true] at h
      exact R.grow.same.free (hS a h).1
    · simp only [e, if_false] at h
      exact R.new j a h
/-- the list in slot i, its own k + 1 deep -/
theorem SRel.own (R : SRel K H0 F0 ρ F O σ H) {i k t : Nat} {xs : List Val} (h : getOwn ρ i (k + 1) = .ok (xs, t)) :
    ∃ F' O' a ws S', SRel K H0 F0 (ρ.set i (some (.list xs, k + 1))) F' O' σ H ∧ Step H F H F' ∧ i < ρ.length ∧ σ[i]? = some (some (.ref a)) ∧ H a = some (.lst ws) ∧ O' i = a :: S' ∧ a ∉ S' ∧ OwnA K H F' k S' ws xs ∧ (∀ a, F' a → F a ∨ a ∈ O i) ∧ (∀ j, j ≠ i → O' j = O j) ∧ ∀ a ∈ O' i, a ∈ O i := by
  unfold getOwn at h
  cases e : ρ[i]? with
  | none =>
    rw [e] at h
    cases h
  | some x =>
    cases x with
    | none =>
      rw [e] at h
      cases h
    | some y =>
      obtain ⟨v, d⟩ := y
      rw [e] at h
      cases v with
      | list ys =>
        obtain ⟨hk, h2⟩ := Res.guard_ok h
        cases h2
        obtain ⟨F', O', R', s', f', o'⟩ := R.drop1 e (Nat.le_of_ble_eq_true hk)
        have hi := getElem_lt e
        obtain ⟨u, hu, o⟩ := R'.rel.slot i (.list xs) (k + 1) (List.getElem?_set_self hi)
        simp only [Own] at o
        obtain ⟨a, ws, S', rfl, ha, hS, nS, oa⟩ := o
        exact ⟨F', O', a, ws, S', R', s', hi, hu, ha, hS, nS, oa, f', o'⟩
      | _ => cases h
end

/-! ### rules -/
section
variable {X : Cx} {p : Par} {fr : Nat} {st : Stmt} {sts : List Stmt} {s : S} {ss : List S} {pos : Pos} {e tg : Expr} {c : E} {t : Pat}
theorem tE_ok {K : PySem.W.Frag} {σ : St} {H : Hp} {Q : VK} {k : Nat} {ρ : Env} {F : Addr → Prop} {O : Nat → List Addr} {v : Val} (R : Rel K ρ F O σ H) (e : evalE p.cf k c ρ = .ok v) (q : ∀ u H' F', Grow H F H' F' → Rep K H' F' k u v → Q u H') : tE K p.nox k c σ H Q := by
  refine ⟨ρ, F, O, R, ?_⟩
  show Run p.nox (evalE p.cf k c ρ) σ H _
  rw [e]
  exact q
theorem tO_ok {K : PySem.W.Frag} {σ : St} {H : Hp} {Q : VK} {d : Nat} {ρ : Env} {F : Addr → Prop} {O : Nat → List Addr} {v : Val} (R : Rel K ρ F O σ H) (e : evalE p.cf 0 c ρ = .ok v) (q : ∀ u H' F' S, Grow H F H' F' → Own K H' F' d S u v → (∀ a ∈ S, H a = none ∧ ¬ F' a) → Q u H') : tO K p.nox d c σ H Q := by
  refine ⟨ρ, F, O, R, ?_⟩
  show Run p.nox (evalE p.cf 0 c ρ) σ H _
  rw [e]
  exact q
theorem vss_nil : VSs X p fr [] [] := ⟨PSs.imp pss_nil fun D σ H ⟨H0, F0, ρ, F, O, o, R, e, a⟩ => by
  cases e
  exact a σ H F O R Step.refl⟩
theorem vss_cons (h : VS X p fr st s) (hs : VSs X p fr sts ss) : VSs X p fr (st :: sts) (s :: ss) := ⟨PSs.imp (pss_cons h.run hs.run) fun D σ H ⟨H0, F0, ρ, F, O, o, R, e, a⟩ => by
  have e' : ((evalS p.cf s ρ).bind fun o => match o with
    | .nx ρ' => evalSs p.cf ss ρ'
    | o => .ok o) = .ok o := e
  obtain ⟨o1, e1, e2⟩ := Res.bind_eq_ok e'
  refine ⟨H0, F0, ρ, F, O, o1, R, e1, ?_⟩
  cases o1 with
  | nx ρ' => exact fun σ' H' F' O' R' s' => ⟨H0, F0, ρ', F', O', o, R', e2, a.step s'⟩
  | ct ρ' =>
    cases e2
    exact a
  | bk ρ' =>
    cases e2
    exact a
  | rt v =>
    cases e2
    exact a⟩
theorem vss_frz (l : List (Nat × Nat)) (hs : VSs X p fr sts ss) : VSs X p fr sts (.frz l :: ss) := ⟨PSs.imp hs.run fun D σ H ⟨H0, F0, ρ, F, O, o, R, e, a⟩ => by
  obtain ⟨F1, O1, R1, s1⟩ := SRel.dropL l R
  exact ⟨H0, F0, _, F1, O1, o, R1, e, a.step s1⟩⟩
theorem set_of {K : PySem.W.Frag} {D : Ends} {σ : St} {H : Hp} {i d : Nat} (h : tS K p fr (.set i c d) D σ H) : tO K p.nox d c σ H fun x H1 => D.nx (σ.set i (some x)) H1 := by
  obtain ⟨H0, F0, ρ, F, O, o, R, e, a⟩ := h
  have e' : ((evalE p.cf 0 c ρ).bind fun v => Res.guard (Nat.blt i ρ.length) (Res.ok (Out.nx (ρ.set i (some (v, d)))))) = .ok o := e
  obtain ⟨v, e1, e2⟩ := Res.bind_eq_ok e'
  obtain ⟨hl, e3⟩ := Res.guard_ok e2
  cases e3
  exact tO_ok R.rel e1 fun u H' F' S g o n => a _ H' F' _ (R.set (by simpa [Nat.blt_eq] using hl) g o n) (Step.of g)
theorem vs_set {d : Nat} (i : Nat) {x : Str} {pos' : Pos} (hN : X.N.Nodup) (he : VO X p.nox e c d) (hi : X.N[i]? = some x := by rfl) (hx : Loc X.env.scope x := by first | exact Or.inl rfl | exact Or.inr rfl) (hs : swapsWith e (some (.Name x pos')) pos.line X.env = pure false := by rfl)
    (hf : X.fn x = true ∨ X.env.scope.names.lookup x = some .local := by first | exact Or.inl rfl | exact Or.inr rfl) : VS X p fr (.Assign [.Name x pos'] e pos) (.set i c d) :=
  ⟨PS.imp (ps_set hN hi hx he.run hs hf) fun D σ H h => set_of h⟩
theorem vs_asg (he : VE X p.nox e c) (hg : VG X tg t) (hs : swapsWithSole [tg] e pos.line X.env = pure false := by rfl) (hw : swappedStores [tg] e X.env = pure none := by rfl) (h1 : (assignEach [tg] X.env).map (·.2) = [assign tg X.env] := by rfl) :
    VS X p fr (.Assign [tg] e pos) (.asg t c) := ⟨PS.imp (ps_asg (he.run 0) hg.run hs hw h1) fun D σ H ⟨H0, F0, ρ, F, O, o, R, e, a⟩ => by
  have e' : ((evalE p.cf 0 c ρ).bind fun v => (bindP t v ρ).bind fun ρ' => Res.ok (Out.nx ρ')) = .ok o := e
  obtain ⟨v, e1, e2⟩ := Res.bind_eq_ok e'
  obtain ⟨ρ', e3, e4⟩ := Res.bind_eq_ok e2
  cases e4
  exact tE_ok R.rel e1 fun u H' F' g r => ⟨ρ, F', O, v, ρ', R.rel.grow g, r, e3, fun σ' O' R' sub _ => a σ' H' F' O' ⟨R', R.grow.trans g, fun j b m => by
    rcases sub j with z | z
    · rw [z] at m
      cases m
    · rw [z] at m
      exact R.new j b m⟩ (Step.of g)⟩⟩
theorem vs_if {a b : List Stmt} {ca cb : List S} (hc : VT X p.nox e c) (ha : VSs X p fr a ca) (hb : VSs X p fr b cb) : VS X p fr (.If e a b pos) (.iff c ca cb) := ⟨PS.imp (ps_if hc.run ha.run hb.run) fun D σ H ⟨H0, F0, ρ, F, O, o, R, ev, af⟩ => by
  have e' : ((evalE p.cf 9 c ρ).bind fun x => (asBool x).bind fun t => match t with
    | true => evalSs p.cf ca ρ
    | false => evalSs p.cf cb ρ) = .ok o := ev
  obtain ⟨x, e1, e2⟩ := Res.bind_eq_ok e'
  obtain ⟨t, e3, e4⟩ := Res.bind_eq_ok e2
  refine ⟨ρ, F, O, R.rel, ?_⟩
  show Run p.nox ((evalE p.cf 9 c ρ).bind asBool) σ H _
  rw [e1, Res.bind_ok, e3]
  intro H' F' g
  cases t with
  | true => exact ⟨H0, F0, ρ, F', O, o, R.grow' g, e4, af.step (Step.of g)⟩
  | false => exact ⟨H0, F0, ρ, F', O, o, R.grow' g, e4, af.step (Step.of g)⟩⟩
theorem vs_ret (he : VO X p.nox e c fr) : VS X p fr (.Return (some e) pos) (.ret c) := ⟨PS.imp (ps_ret he.run) fun D σ H ⟨H0, F0, ρ, F, O, o, R, ev, af⟩ => by
  have e' : ((evalE p.cf 0 c ρ).bind fun v => Res.ok (Out.rt v)) = .ok o := ev
  obtain ⟨v, e1, e2⟩ := Res.bind_eq_ok e'
  cases e2
  exact tO_ok R.rel e1 fun u H' F' S g o n => af u H' F' S (R.grow.trans g) o fun a m => ⟨R.grow.same.free (n a m).1, (n a m).2⟩⟩
theorem vs_retv (i : Nat) {x : Str} {pos' : Pos} (hN : X.N[i]? = some x := by rfl) (hv : Vis X.env.scope x := by first | exact Or.inl rfl | exact Or.inr (Or.inl rfl) | exact Or.inr (Or.inr rfl)) (hd : (x == ("__debug__" : Str)) = false := by decide)
    (hcd : (x == ("__classdict__" : Str)) = false := by decide) : VS X p fr (.Return (some (.Name x pos')) pos) (.retv i fr) := ⟨PS.imp (ps_ret (pe_var hN hv hd hcd)) fun D σ H ⟨H0, F0, ρ, F, O, o, R, ev, af⟩ => by
  have e' : (match ρ[i]? with
      | some (some (v, d)) => Res.guard (Nat.ble fr d) (Res.ok (Out.rt v))
      | _ => .bad) = .ok o := ev
  cases q : ρ[i]? with
  | none =>
    rw [q] at e'
    cases e'
  | some y =>
    cases y with
    | none =>
      rw [q] at e'
      cases e'
    | some z =>
      obtain ⟨v, d⟩ := z
      rw [q] at e'
      obtain ⟨hk, h2⟩ := Res.guard_ok e'
      cases h2
      obtain ⟨F', O', R', s', _⟩ := R.drop1 q (Nat.le_of_ble_eq_true hk)
      obtain ⟨u, hu, ow⟩ := R'.rel.slot i v fr (List.getElem?_set_self (getElem_lt q))
      exact ⟨u, hu, af u H F' (O' i) R'.grow ow fun a m => ⟨R'.new i a m, R'.rel.notF i a m⟩⟩⟩
theorem own_none {K : PySem.W.Frag} {H : Hp} {F : Addr → Prop} {d : Nat} : Own K H F d [] .non .none := (own_atom rfl).mpr ⟨rfl, by simp only [Rep]⟩
/-- a raise: the core has no answer there -/
theorem vs_raise {n : String} : VS X p fr st (.raise n c) := ⟨PS.imp ps_never fun D σ H ⟨H0, F0, ρ, F, O, o, R, ev, af⟩ => by
  cases ev⟩
/-! ### loops -/
theorem vs_for {iter : Expr} {body : List Stmt} {ci : E} {cb : List S} (hc : X.calm = true) (hp : PassesOwn (model X.prog X.w) X.A X.env X.xe) (hi : VI X p.nox 0 tg iter ci) (hg : VG X tg t) (hb : VSs X p fr body cb) (hs : ∀ x, foldedSetIterable iter X.env x = pure x := by intro _; rfl) :
    VS X p fr (.For tg iter body [] pos) (.for t ci cb) := ⟨PS.imp (ps_for hp hc hi.run hg.run hb.run hs) fun D σ H ⟨H0, F0, ρ, F, O, o, R, ev, af⟩ => by
  have e' : ((evalE p.cf 0 ci ρ).bind fun s => (asSeq s).bind fun xs => forL (fun v ρ => (bindP t v ρ).bind fun ρ' => evalSs p.cf cb ρ') xs ρ) = .ok o := ev
  obtain ⟨s, e1, e2⟩ := Res.bind_eq_ok e'
  obtain ⟨xs, e3, e4⟩ := Res.bind_eq_ok e2
  refine ⟨ρ, F, O, R.rel, ?_⟩
  show Run p.nox ((evalE p.cf 0 ci ρ).bind asSeq) σ H _
  rw [e1, Res.bind_ok, e3]
  intro J H1 F1 g1 wk
  refine ⟨fun i m σ H => m = xs.length - i ∧ i ≤ xs.length ∧ ∃ ρ F O, SRel X.K H0 F0 ρ F O σ H ∧ Step H1 F1 H F ∧ forL (fun v ρ => (bindP t v ρ).bind fun ρ' => evalSs p.cf cb ρ') (xs.drop i) ρ = .ok o,
    ⟨xs.length, by simp, Nat.zero_le _, ρ, F1, O, R.grow' g1, Step.refl, e4⟩, ?_⟩
  rintro i m σ2 H2 ⟨rfl, hi, ρ2, F2, O2, R2, s2, e5⟩
  have stay : Stay 0 H1 H2 F1 := ⟨s2.keep, fun z => absurd rfl z⟩
  by_cases hlt : i < xs.length
  · obtain ⟨v, hv, hd⟩ := drop_cons hlt
    rw [hd] at e5
    have e6 : (((bindP t v ρ2).bind fun ρ' => evalSs p.cf cb ρ').bind fun o => match o with
      | .nx ρ' => forL (fun v ρ => (bindP t v ρ).bind fun ρ' => evalSs p.cf cb ρ') (xs.drop (i + 1)) ρ'
      | .ct ρ' => forL (fun v ρ => (bindP t v ρ).bind fun ρ' => evalSs p.cf cb ρ') (xs.drop (i + 1)) ρ'
      | .bk ρ' => .ok (.nx ρ')
      | .rt v => .ok (.rt v)) = .ok o := e5
    obtain ⟨o1, e7, e8⟩ := Res.bind_eq_ok e6
    obtain ⟨ρ3, e9, e10⟩ := Res.bind_eq_ok e7
    obtain ⟨go, yl⟩ := wk.go H2 F2 stay s2.sub R2.rel.dom i v hv
    refine .inr ⟨go, fun σ' H' => ∃ ρ F O, SRel X.K H0 F0 ρ F O σ' H' ∧ Step H1 F1 H' F ∧ forL (fun v ρ => (bindP t v ρ).bind fun ρ' => evalSs p.cf cb ρ') (xs.drop (i + 1)) ρ = .ok o,
      fun σ' H' h => ⟨xs.length - (i + 1), by omega, rfl, hlt, h⟩, fun x H3 y => ?_⟩
    obtain ⟨g3, rx⟩ := yl x H3 y
    refine ⟨ρ2, F2, O2, v, ρ3, R2.rel.grow g3, rx, e9, fun σ4 O4 R4 sub _ => ?_⟩
    have R5 : SRel X.K H0 F0 ρ3 F2 O4 σ4 H3 := ⟨R4, R2.grow.trans g3, fun j b m => by
      rcases sub j with z | z
      · rw [z] at m
        cases m
      · rw [z] at m
        exact R2.new j b m⟩
    have s5 := s2.trans (Step.of g3)
    refine ⟨H0, F0, ρ3, F2, O4, o1, R5, e10, ?_⟩
    cases o1 with
    | nx ρ' => exact fun σ' H' F' O' R' s' => ⟨ρ', F', O', R', s5.trans s', e8⟩
    | ct ρ' => exact fun σ' H' F' O' R' s' => ⟨ρ', F', O', R', s5.trans s', e8⟩
    | bk ρ' =>
      cases e8
      exact fun σ' H' F' O' R' s' => af σ' H' F' O' R' ((Step.of g1).trans (s5.trans s'))
    | rt v =>
      cases e8
      exact af
  · have e : i = xs.length := by omega
    subst e
    rw [List.drop_length] at e5
    cases e5
    exact .inl ⟨wk.stop H2 stay _ (Nat.le_refl _), af σ2 H2 F2 O2 R2 ((Step.of g1).trans s2)⟩⟩
theorem vs_whl {body : List Stmt} {cb : List S} (hp : PassesOwn (model X.prog X.w) X.A X.env X.xe) (hc : VT X p.nox e c) (hb : VSs X p fr body cb) : VS X p fr (.While e body [] pos) (.whl c cb) := ⟨PS.imp (ps_while hp hc.run hb.run) fun D σ H ⟨H0, F0, ρ, F, O, o, R, ev, af⟩ => by
  have e' : whileL (fun ρ => (evalE p.cf 9 c ρ).bind fun x => asBool x) (fun ρ => evalSs p.cf cb ρ) LIM ρ = .ok o := ev
  refine ⟨fun m σ1 H1 => ∃ ρ1 F1 O1, SRel X.K H0 F0 ρ1 F1 O1 σ1 H1 ∧ Step H F H1 F1 ∧ whileL (fun ρ => (evalE p.cf 9 c ρ).bind fun x => asBool x) (fun ρ => evalSs p.cf cb ρ) m ρ1 = .ok o, ⟨LIM, ρ, F, O, R, Step.refl, e'⟩, ?_⟩
  rintro m σ1 H1 ⟨ρ1, F1, O1, R1, s1, e1⟩
  cases m with
  | zero => cases e1
  | succ n =>
    have e2 : (((evalE p.cf 9 c ρ1).bind fun x => asBool x).bind fun t => match t with
      | false => Res.ok (Out.nx ρ1)
      | true => (evalSs p.cf cb ρ1).bind fun o => match o with
        | .nx ρ' => whileL (fun ρ => (evalE p.cf 9 c ρ).bind fun x => asBool x) (fun ρ => evalSs p.cf cb ρ) n ρ'
        | .ct ρ' => whileL (fun ρ => (evalE p.cf 9 c ρ).bind fun x => asBool x) (fun ρ => evalSs p.cf cb ρ) n ρ'
        | .bk ρ' => .ok (.nx ρ')
        | .rt v => .ok (.rt v)) = .ok o := e1
    obtain ⟨t, e3, e4⟩ := Res.bind_eq_ok e2
    refine ⟨ρ1, F1, O1, R1.rel, ?_⟩
    show Run p.nox ((evalE p.cf 9 c ρ1).bind asBool) σ1 H1 _
    rw [show (evalE p.cf 9 c ρ1).bind asBool = .ok t from e3]
    intro H2 F2 g2
    have s2 := s1.trans (Step.of g2)
    cases t with
    | false =>
      cases e4
      exact af σ1 H2 F2 O1 (R1.grow' g2) s2
    | true =>
      obtain ⟨o1, e5, e6⟩ := Res.bind_eq_ok e4
      refine ⟨fun σ' H' => ∃ ρ' F' O', SRel X.K H0 F0 ρ' F' O' σ' H' ∧ Step H F H' F' ∧ whileL (fun ρ => (evalE p.cf 9 c ρ).bind fun x => asBool x) (fun ρ => evalSs p.cf cb ρ) n ρ' = .ok o, fun σ' H' h => ⟨n, Nat.lt_succ_self n, h⟩, H0, F0, ρ1, F2, O1, o1, R1.grow' g2, e5, ?_⟩
      cases o1 with
      | nx ρ' => exact fun σ' H' F' O' R' s' => ⟨ρ', F', O', R', s2.trans s', e6⟩
      | ct ρ' => exact fun σ' H' F' O' R' s' => ⟨ρ', F', O', R', s2.trans s', e6⟩
      | bk ρ' =>
        cases e6
        exact fun σ' H' F' O' R' s' => af σ' H' F' O' R' (s2.trans s')
      | rt v =>
        cases e6
        exact af⟩
end
end VL

/-! VL, part 13: statements that change a list. -/
namespace VL
open PySem PySem.Spec L2 PySem.W
open PyProof.Rows hiding St

section
variable {K : PySem.W.Frag} {ρ : Env} {F F' F0 : Addr → Prop} {O : Nat → List Addr} {σ : St} {H H' H0 : Hp}
/-- the list at a, alone in slot i, has new items -/
theorem SRel.updl (R : SRel K H0 F0 ρ F O σ H) {i k : Nat} {a : Addr} {ws zs : List V} {ys : List Val} {S' S2 : List Addr} (hi : i < ρ.length) (hu : σ[i]? = some (some (.ref a))) (ha : H a = some (.lst ws)) (hO : O i = a :: S') (oa : OwnA K H F k S2 zs ys) (na : a ∉ S2)
    (hS : ∀ b ∈ S2, ¬ F b ∧ (∀ j, j ≠ i → b ∉ O j) ∧ H0 b = none) : SRel K H0 F0 (ρ.set i (some (.list ys, k + 1))) F (fun j => if j = i then a :: S2 else O j) σ (upd H a (.lst zs)) ∧ Step H F (upd H a (.lst zs)) F := by
  have aO : a ∈ O i := by rw [hO]; exact List.mem_cons_self
  have nF : ¬ F a := R.rel.notF i a aO
  refine R.mut hi hu (fun b o e m => ?_) (fun _ f => f) (fun _ f => .inl f) (fun b f => ?_) ?_ fun b m => ?_
  · rw [upd_ne fun z => m (by rw [z]; exact aO)]
    exact e
  · by_cases e : b = a
    · rw [e, upd_same]
      simp
    · rw [upd_ne e]
      exact R.rel.dom b f
  · simp only [Own]
    refine ⟨a, zs, S2, rfl, upd_same, rfl, na, ownA_frame ys k S2 zs oa (fun b o e c => ?_) fun _ f => f⟩
    have : b ≠ a := fun z => by
      subst z
      rcases c with c | c | c
      · exact nF c
      · rw [ha] at e
        cases e
        cases c
      · exact na c
    rw [upd_ne this]
    exact e
  · rcases List.mem_cons.mp m with rfl | m
    · exact ⟨nF, fun j hj => R.rel.disj i j b (fun z => hj z.symm) aO, R.new i b aO⟩
    · exact hS b m
end

section
variable {X : Cx} {p : Par} {fr : Nat} {pos q0 q1 q2 : Pos} {e ex : Expr} {c cx : E} {x : Str}
/-- something new is put at the list's end -/
theorem SRel.app {K : PySem.W.Frag} {ρ : Env} {F F1 F0 : Addr → Prop} {O : Nat → List Addr} {σ : St} {H H1 H0 : Hp} {i d t : Nat} {xs : List Val} {a : Addr} {y : V} {v : Val} {S : List Addr} (R : SRel K H0 F0 ρ F O σ H) (h : getOwn ρ i (d + 1) = .ok (xs, t)) (hu : σ[i]? = some (some (.ref a)))
    (g : Grow H F H1 F1) (ow : Own K H1 F1 d S y v) (n : ∀ b ∈ S, H b = none ∧ ¬ F1 b) : ∃ ws F' O', H1 a = some (.lst ws) ∧ ws.length = xs.length ∧
      SRel K H0 F0 (ρ.set i (some (.list (xs ++ [v]), d + 1))) F' O' σ (upd H1 a (.lst (ws ++ [y]))) ∧ Step H F (upd H1 a (.lst (ws ++ [y]))) F' := by
  obtain ⟨F2, O2, a2, ws, S', R2, s2, hi, hu2, ha, hO, nS, oa, f2, o2, o3⟩ := (R.grow' g).own h
  rw [hu] at hu2
  cases hu2
  have out : ∀ b ∈ S, ∀ j, b ∉ O j := fun b m j z => by
    obtain ⟨zs, q⟩ := R.rel.there z
    rw [(n b m).1] at q
    cases q
  have outF : ∀ b ∈ S, ¬ F2 b := fun b m f => (f2 b f).elim (n b m).2 (out b m i)
  have outS : ∀ b, b ∈ a :: S' → b ∉ S := fun b m z => out b z i (o3 b (by rw [hO]; exact m))
  have mine : ∀ b ∈ S', ¬ F2 b ∧ (∀ j, j ≠ i → b ∉ O2 j) ∧ H0 b = none := fun b m => by
    have mb : b ∈ O2 i := by rw [hO]; exact List.mem_cons_of_mem _ m
    exact ⟨R2.rel.notF i b mb, fun j hj => R2.rel.disj i j b (fun z => hj z.symm) mb, R2.new i b mb⟩
  obtain ⟨R3, s3⟩ := R2.updl (zs := ws ++ [y]) (ys := xs ++ [v]) (S2 := S' ++ S) (by rw [List.length_set]; exact hi) hu ha hO (ownA_snoc oa (own_frame v d S y ow (fun b o q _ => q) s2.sub) fun b m => outS b (List.mem_cons_of_mem _ m))
    (fun z => (List.mem_append.mp z).elim nS fun z => outS a List.mem_cons_self z) fun b m => (List.mem_append.mp m).elim (mine b) fun m => ⟨outF b m, fun j hj => by
      rw [o2 j hj]
      exact out b m j, R.grow.same.free (n b m).1⟩
  rw [List.set_set] at R3
  exact ⟨ws, F2, _, ha, ownA_length oa, R3, (Step.of g).trans (s2.trans s3)⟩
/-- xs.append(e) -/
theorem vs_app {d : Nat} (i : Nat) (he : VO X p.nox e c d) (hN : X.N[i]? = some x := by rfl) (hv : Vis X.env.scope x := by first | exact Or.inl rfl | exact Or.inr (Or.inl rfl) | exact Or.inr (Or.inr rfl)) (hd : (x == ("__debug__" : Str)) = false := by decide) (hcd : (x == ("__classdict__" : Str)) = false := by decide)
    (hs : swapsWith (.Call (.Attribute (.Name x q0) "append" q1) [e] [] q2) none pos.line X.env = pure false := by rfl) (hb : attributeBase (.Name x q0) "append" X.env (eval (.Name x q0) X.env) = eval (.Name x q0) X.env := by rfl)
    (hf : ((backTo q2 (starEach [e] X.env)).all (fun x => !x.1) && (backToKw q2 (keywordEach [] X.env)).all (fun x => x.1.isSome) && decide ([e].length + ([] : List Keyword).length + (if ([] : List Keyword).isEmpty then 0 else 1) < 30)) = true := by rfl)
    (hl : (q1.endLine == q2.line) = true := by rfl) (h1 : starEach [e] X.env = (false, eval e X.env) :: starEach [] X.env := by rfl) (h2 : (backTo q2 (starEach [] X.env)).any (·.1) = false := by rfl) :
    VS X p fr (.Expr (.Call (.Attribute (.Name x q0) "append" q1) [e] [] q2) pos) (.app i c d) := by
  refine ⟨PS.imp (ps_expr (pe_bm PySem.F.plainAttrs_list PySem.F.slot_list_append PySem.F.type_list_append mt_append (pe_var hN hv hd hcd) (pa_cons he.run pa_nil h1) hb hf hl h1 h2) hs) fun D σ H ⟨H0, F0, ρ, F, O, o, R, ev, af⟩ => ?_⟩
  have e' : ((evalE p.cf 0 c ρ).bind fun v => (getOwn ρ i (d + 1)).bind fun y => Res.guard (sizeOk (y.1.length + 1)) (Res.ok (Out.nx (ρ.set i (some (.list (y.1 ++ [v]), d + 1)))))) = .ok o := ev
  obtain ⟨v, e1, e2⟩ := Res.bind_eq_ok e'
  obtain ⟨⟨xs, t⟩, e3, e4⟩ := Res.bind_eq_ok e2
  obtain ⟨hz, e5⟩ := Res.guard_ok e4
  cases e5
  obtain ⟨_, _, a, ws0, _, _, _, _, hu, ha0, _⟩ := R.own e3
  refine ⟨.ref a, hu, .inl ⟨rfl, ws0, SqL.of ha0⟩, tO_ok R.rel e1 fun y H1 F1 S g ow n => ?_⟩
  obtain ⟨ws, F', O', ha, hlen, R', s'⟩ := R.app e3 hu g ow n
  have hz' := sizeOk_of hz
  exact ⟨a, ws, y, rfl, rfl, ha, by show ws.length < sizeLine; simp only at hz'; omega, af _ _ _ _ R' s'⟩
end
end VL

/-! VL, part 14: defs and calls. -/
namespace VL
open PySem PySem.Spec L2 PySem.W
open PyProof.Rows hiding St

/-- a def's promise: its values and its heap in, an answer and a heap out -/
abbrev SpV := List V → Hp → VK → Prop
/-- the def at f keeps sp, wherever it is called with room and known guards; nothing leaves it but its answer -/
structure FnG (P : Program) (w : World) (K : PySem.W.Frag) (mg : Str → Option Value) (base : Heap) (k : Nat) (f : Addr) (fd : FuncData) (ps : List Str) (sp : SpV) : Prop where
  len : ∀ vs H Q, sp vs H Q → vs.length = ps.length
  run : ∀ (A : Around) (outer : List PySem.Env) (s : Shared) (H : Hp) (args : Args) (us : List Value) (vs : List V) (Q : VK), Room k A → A.guards = some [] → Env0 P w K mg base A outer s H → BindsTo s fd args (ps.zip us) → Vals vs us → sp vs H Q →
    codeAny (model P w) A (.call (.ref f) args) (CR CX0 outer P w H s Q fun _ _ _ => False) s
/-- the context of a body -/
abbrev bodyCx (P : Program) (w : World) (K : PySem.W.Frag) (mg : Str → Option Value) (base : Heap) (N : List Str) (qual : Str) (scope : Scope) (f : Addr) (cd : Value) (A : Around) (outer : List PySem.Env) (s : Shared) (H : Hp) : Cx :=
  cxOf CX0 P w K mg base N qual scope f cd A outer s H fun _ _ _ => False
section
variable {P : Program} {w : World} {K : PySem.W.Frag} {mg : Str → Option Value} {base : Heap} {k : Nat} {f : Addr} {fd : FuncData} {x qual : Str} {params : Arguments} {body : List Stmt} {scope : Scope} {N ps : List Str} {sp : SpV}
theorem fn_g (F : FunD K x qual params body scope [] [] f fd) (S : FnScope N ps scope) (len : ∀ vs H Q, sp vs H Q → vs.length = ps.length)
    (hb : ∀ (cdv : Value) (A : Around) (outer : List PySem.Env) (s : Shared) (H : Hp) (vs : List V) (Q : VK), Room k (A.deeper (envOfC qual scope s.heap.objs.size f cdv)) → A.guards = some [] → sp vs H Q →
      ∃ t, PSs (bodyCx P w K mg base N qual scope f cdv A outer s H) body t ∧ t { nx := fun _ H' => Q .non H', rt := Q } (L2.start N vs) H) : FnG P w K mg base (k + 1) f fd ps sp := by
  obtain ⟨oc, od, dV, kV, doc, pm, an, cdv, ct, osl, rfl, at_, code, _, _⟩ := F.ex
  refine ⟨len, fun A outer s H args us vs Q room gd e0 bd rv pr => ?_⟩
  have old : ∀ b o, base.get? b = some o → s.heap.get? b = some o := fun b o e => (e0.bs b o e).1
  have inK : K.In s.heap := e0.mod.kin.keeps old
  have kinds : ∀ y ∈ ps.zip us, scope.names.lookup y.1 = some .local ∨ (scope.names.lookup y.1 = some .cell ∧ ((cellsFrom (s.heap.objs.size + 1) scope.names []).lookup y.1).isSome = true) := fun ⟨n, v⟩ hy =>
    (S.par n (List.of_mem_zip hy).1).imp id fun q => ⟨q, PySem.W.cellsFrom_some _ _ _ (.inl q)⟩
  refine codeAny_call_function room.depth (inK _ _ at_) rfl S.co S.gen rfl (PySem.W.codeRec_of inK code) (bd _ _ _ _ (wpAny_newFunctionEnv_cells S.kind kinds fun env he sn xn => ?_))
  subst he
  refine ⟨(e0.mod.nolimit.keeps old).keeps xn.toInCall.keep, codeAny_func ?_⟩
  obtain ⟨t, pt, qt⟩ := hb cdv A outer s H vs Q (room.deeper _) gd pr
  refine wpAny_mono (pt.run [] sn (L2.start N vs) H _ (inv_start S room.hd e0 (len _ _ _ pr) rv xn) qt) (fun fl s' hs => ?_) fun e s' hs => hs
  cases fl with
  | next => exact let ⟨_, H', J, q⟩ := hs; ⟨.non, H', J.os, J.bare, J.base, J.hok, rfl, q⟩
  | ret u => exact let ⟨v, _, H', J, r, q⟩ := hs; ⟨v, H', J.os, J.bare, J.base, J.hok, r, q⟩
  | brk => exact hs.elim fun _ h => h.elim fun _ h => h.2.elim
  | cont => exact hs.elim fun _ h => h.elim fun _ h => h.2.elim
/-- a def that a body may call by its global name -/
def Cal (P : Program) (w : World) (K : PySem.W.Frag) (mg : Str → Option Value) (base : Heap) (k : Nat) (x : Str) (ps : List Str) (sp : SpV) : Prop :=
  ∃ f fd, mg x = some (.ref f) ∧ PySem.W.keepIn K (.ref f) = true ∧ Binds K fd ps [] ∧ FnG P w K mg base k f fd ps sp
end

section
variable {X : Cx} {k : Nat} {x : Str} {ps : List Str} {sp : SpV} {q0 pos : Pos} {e : Expr} {es : List Expr} {t : TA}
def tCallG (sp : SpV) (t : TA) : TE := fun σ H Q => t σ H fun vs H1 => sp vs H1 Q
theorem pe_callG (C : Cal X.prog X.w X.K X.mg X.base k x ps sp) (hr : Room k X.A) (gd : X.A.guards = some []) (ha : PA X (e :: es) t) (hg : Gl X x := by rfl) (hdb : (x == ("__debug__" : Str)) = false := by decide)
    (he : starEach (e :: es) X.env = (false, eval e X.env) :: starEach es X.env := by rfl) (hpl : (backTo pos (starEach es X.env)).any (·.1) = false := by rfl) : PE X (.Call (.Name x q0) (e :: es) [] pos) (tCallG sp t) := by
  obtain ⟨f, fd, hm, hk, hb, F⟩ := C
  refine ⟨fun pins s σ H Q I h => wpAny_Call_Name_kw (ld_glob I hg hm ?_ hdb)⟩
  refine PySem.W.callWith_K (h₀ := X.base) I.ok.mod.kin hk (thn (ha.run pos pins s σ H _ I h) fun us s1 h1 => ?_) he hpl
  obtain ⟨vs, H1, I1, r, q⟩ := h1
  refine ⟨I1.kIn, ?_⟩
  have hl : us.length = ps.length := r.length.symm.trans (F.len _ _ _ q)
  have bd := hb s1 us I1.kIn (by rw [List.append_nil]; exact hl)
  rw [List.append_nil] at bd
  refine wpAny_call (codeAny_mono (F.run X.A X.stack s1 H1 ⟨us, []⟩ us vs Q hr gd I1.env0 bd r q) fun r s' hq => ?_)
  cases r with
  | error e => exact False.elim hq
  | ok fl =>
    cases fl with
    | ret u => exact I1.after hq
    | next => exact False.elim hq
    | brk => exact False.elim hq
    | cont => exact False.elim hq
end

/-! ### the promise of a def that has a core -/
def spF (Pr : Prog) (n : Nat) (f : Nat) (fr : Nat) (K : PySem.W.Frag) : SpV := fun vs H Q => ∃ (F : Addr → Prop) (xs : List Val) (v : Val), (∀ a, F a → H a ≠ none) ∧ RepA K H F 0 vs xs ∧ evalD Pr n f xs = .ok v ∧
  ∀ u H' F' S, Grow H F H' F' → Own K H' F' fr S u v → (∀ a ∈ S, H a = none ∧ ¬ F' a) → Q u H'
theorem evalD_eq {Pr : Prog} {n : Nat} {f : Nat} {d : Def} {xs : List Val} {v : Val} (hd : Pr f = some d) (h : evalD Pr (n + 1) f xs = .ok v) : xs.length = d.np ∧ (evalSs (evalD Pr n) d.body (startE d xs)).bind fin = .ok v := by
  unfold evalD at h
  rw [hd] at h
  obtain ⟨h1, h2⟩ := Res.guard_ok h
  exact ⟨of_decide_eq_true h1, h2⟩
theorem start_rel {K : PySem.W.Frag} {H : Hp} {F : Addr → Prop} {d : Def} {N : List Str} {vs : List V} {xs : List Val} (dm : ∀ a, F a → H a ≠ none) (r : RepA K H F 0 vs xs) (hl : xs.length = d.np) (hN : N.length = d.ns) : Rel K (startE d xs) F (fun _ => []) (L2.start N vs) H where
  len := by
    unfold L2.start startE
    simp only [List.length_append, List.length_map, List.length_replicate, repA_length r, hN, hl]
  slot := fun i v e h => by
    unfold startE at h
    by_cases hi : i < xs.length
    · rw [List.getElem?_append_left (by simpa using hi), List.getElem?_map] at h
      cases q : xs[i]? with
      | none =>
        rw [q] at h
        cases h
      | some x =>
        rw [q] at h
        cases h
        obtain ⟨u, h1, h2⟩ := repA_get r q
        refine ⟨u, ?_, own_zero.mpr ⟨rfl, h2⟩⟩
        unfold L2.start
        rw [List.getElem?_append_left (by rw [List.length_map, repA_length r]; exact hi), List.getElem?_map, h1]
        rfl
    · rw [List.getElem?_append_right (by simpa using hi), List.getElem?_replicate] at h
      split at h <;> cases h
  empty := fun _ _ => rfl
  disj := fun _ _ _ _ h => (nomatch h)
  notF := fun _ _ h => (nomatch h)
  dom := dm
section
variable {P : Program} {w : World} {K : PySem.W.Frag} {mg : Str → Option Value} {base : Heap} {n : Nat} {f : Addr} {fd : FuncData} {x qual : Str} {params : Arguments} {body : List Stmt} {scope : Scope} {N ps : List Str} {Pr : Prog} {d : Def} {g : Nat} {ca : Str → Addr}
/-- the core of a program's defs, run n deep; no error is known -/
abbrev pp (Pr : Prog) (n : Nat) : Par := ⟨evalD Pr n, fun _ => 0, fun _ _ _ _ => False⟩
theorem cal_step (F : FunD K x qual params body scope [] [] f fd) (S : FnScope N ps scope) (hd : Pr g = some d) (hN : N.length = d.ns) (hp : ps.length = d.np)
    (hb : ∀ (cdv : Value) (A : Around) (outer : List PySem.Env) (s : Shared) (H : Hp), Room n (A.deeper (envOfC qual scope s.heap.objs.size f cdv)) → A.guards = some [] → VSs (bodyCx P w K mg base N qual scope f cdv A outer s H) (pp Pr n) d.fr body d.body) :
    FnG P w K mg base (n + 1) f fd ps (spF Pr (n + 1) g d.fr K) := by
  refine fn_g F S (fun vs H Q h => ?_) fun cdv A outer s H vs Q hr gd h => ⟨_, (hb cdv A outer s H hr gd).run, ?_⟩
  · obtain ⟨_, xs, v, _, r, ev, _⟩ := h
    rw [repA_length r, (evalD_eq hd ev).1, hp]
  · obtain ⟨F0, xs, v, dm, r, ev, q⟩ := h
    obtain ⟨hl, e⟩ := evalD_eq hd ev
    obtain ⟨o, e1, e2⟩ := Res.bind_eq_ok e
    refine ⟨H, F0, startE d xs, F0, fun _ => [], o, ⟨start_rel dm r hl hN, Grow.refl dm, fun _ _ h => (nomatch h)⟩, e1, ?_⟩
    cases o with
    | nx ρ =>
      cases e2
      exact fun σ' H' F' O' R' _ => q .non H' F' [] R'.grow own_none fun _ h => (nomatch h)
    | rt v' =>
      cases e2
      exact fun u H' F' S' g' o' n' => q u H' F' S' g' o' n'
    | bk ρ => cases e2
    | ct ρ => cases e2
end
section
variable {X : Cx} {p : Par} {x : Str} {ps : List Str} {q0 pos : Pos} {e : Expr} {es : List Expr} {cs : List E} {Pr : Prog} {n fr : Nat} {g : Nat}
/-- a call of a def of the text -/
theorem vo_call (C : Cal X.prog X.w X.K X.mg X.base n x ps (spF Pr n g fr X.K)) (hr : Room n X.A) (gd : X.A.guards = some []) (hcf : p.cf = evalD Pr n) (ha : VA X p (e :: es) cs) (hg : Gl X x := by rfl) (hdb : (x == ("__debug__" : Str)) = false := by decide)
    (he : starEach (e :: es) X.env = (false, eval e X.env) :: starEach es X.env := by rfl) (hpl : (backTo pos (starEach es X.env)).any (·.1) = false := by rfl) : VO X p (.Call (.Name x q0) (e :: es) [] pos) (.call g cs) fr := by
  refine ⟨PE.imp (pe_callG C hr gd (ha.run 0) hg hdb he hpl) fun σ H Q ⟨ρ, F, O, R, r⟩ => ?_⟩
  have r1 : Run p ((evalEs p.cf 0 cs ρ).bind fun vs => (p.cf g vs).quiet) σ H _ := r
  refine ⟨ρ, F, O, R, r1.bind.imp (Same.refl H) fun xs _ q us H1 F1 g1 ra => ?_⟩
  rw [hcf] at q
  obtain ⟨v, e1, q2⟩ := q.ok nx_quiet
  exact ⟨F1, xs, v, g1.dom, ra, Res.quiet_eq_ok e1, fun u H' F' S g2 o n2 => q2 u H' F' S (g1.trans g2) o fun a m => ⟨g1.same.free (n2 a m).1, (n2 a m).2⟩⟩
end
end VL

/-! VL, part 15: names set to comprehensions; the law's own call. -/
namespace VL
open PySem PySem.Spec L2 PySem.W
open PyProof.Rows hiding St

section
variable {X : Cx} {p : Par} {fr : Nat} {t t2 : Pat} {w w2 : List Nat} {ci ce ci2 : E} {co co2 : Option E} {d : Nat} {elt tg iter tg1 iter1 : Expr} {ifs ifs1 : List Expr} {scope : Scope} {own : List (PySem.Str × Nat)} {pos py spos : Pos} {y : PySem.Str}
theorem vs_setLc (i : Nat) (hc : X.calm = true) (hN : X.N.Nodup) (hi : VI X p.nox 1 tg iter ci) (ok : BlkOk X.N X.env.scope scope own) (hw : own.map (·.2) = w) (hp : ∀ j ∈ patS t, j ∈ w)
    (hg : ∀ (s : Shared) (H : Hp) (C : Addr) (cl : List (PySem.Str × Addr)) (fp : List Addr), VG (X.blk s H scope (compEnvC scope cl C X.env) fp) tg t) (ht : ∀ (s : Shared) (H : Hp) (C : Addr) (cl : List (PySem.Str × Addr)) (fp : List Addr), VTs (X.blk s H scope (compEnvC scope cl C X.env) fp) p.nox ifs co)
    (he : ∀ (s : Shared) (H : Hp) (C : Addr) (cl : List (PySem.Str × Addr)) (fp : List Addr), VO (X.blk s H scope (compEnvC scope cl C X.env) fp) p.nox elt ce d)
    (hsw : swapsWith (.ListComp elt [⟨tg, iter, ifs, 0⟩] scope pos) (some (.Name y py)) spos.line X.env = pure true) (hy : X.N[i]? = some y := by rfl) (hyl : X.env.scope.names.lookup y = some .local := by rfl) (hs : ∀ x, foldedSetIterable iter X.env x = pure x := by intro _; rfl) :
    VS X p fr (.Assign [.Name y py] (.ListComp elt [⟨tg, iter, ifs, 0⟩] scope pos) spos) (.set i (.comp w d ce t ci co) (d + 1)) := by
  subst hw
  exact ⟨PS.imp (ps_setLc hc hN hy hyl hsw hi.run ok (fun s H C cl fp => (hg s H C cl fp).run) (fun s H C cl fp => (ht s H C cl fp).run) (fun s H C cl fp => (he s H C cl fp).run) hs) fun D σ H h => lc_of hp (set_of h)⟩
end

/-! ### more tests -/
section
variable {X : Cx} {p : Par} {a b c : Expr} {ca cb cc ce : E} {pos : Pos}
theorem tT_E {K : PySem.W.Frag} {σ : St} {H : Hp} {Q : Bool → Hp → Prop} (h : tT K p ce σ H Q) : tE K p 9 ce σ H fun v H' => ∃ b, v = .bl b ∧ Q b H' := by
  obtain ⟨ρ, F, O, R, r⟩ := h
  refine ⟨ρ, F, O, R, r.bind.imp (Same.refl H) fun v _ q u H' F' g rp => ?_⟩
  cases v with
  | bool b =>
    simp only [Rep] at rp
    exact ⟨b, rp, q H' F' g⟩
  | _ => exact q.elim
theorem vt_notN {j : Nat} {p2 : Pos} (ha : VE X p a ca) : VT X p (.Compare a [.IsNot] [.Constant .none j p2] pos) (.op .notNone [ca]) :=
  ⟨PT.imp (pt_cmp (pc_notN (ha.run 9))) fun σ H Q h => tE_op1 (o := .notNone) (r := fun x H1 Q => Q (.bl (!decide (x = .non))) H1) (fun k H F u x v Q d hu h q => by
    simp only [den] at h
    cases h
    refine q _ H F (Grow.refl d) (rep_bool.mpr ?_)
    rw [ve_isN.isN_of hu]) (tT_E h)⟩
theorem chain_of {K : PySem.W.Frag} {o o' : Op} {r r' : R2} {σ : St} {H : Hp} {Q : VK} {k : Nat} (s1 : Sp2 K o r) (s2 : Sp2 K o' r') (h9 : octx o 9 = 9) (ho : ∀ k, octx o' k = 9) (h : tE K p k (.chain o o' ca cb cc) σ H Q) :
    tChain r r' (tE K p 9 ca) (tE K p 9 cb) (tE K p 9 cc) σ H Q := by
  obtain ⟨ρ, F, O, R, q⟩ := h
  refine ⟨ρ, F, O, R, q.bind.imp (Same.refl H) fun x _ q u H1 F1 g1 r1 => ⟨ρ, F1, O, R.grow g1, q.bind.imp g1.same fun y _ q w H2 F2 g2 r2 => ?_⟩⟩
  obtain ⟨v, ev, q⟩ := q.bind.ok (den_nx o _)
  refine s1 9 H2 F2 u w x y v _ g2.dom ?_ ?_ ev fun z H3 F3 g3 r3 => ?_
  · rw [h9]
    exact rep_same g2.same g2.sub x _ _ u (Nat.le_refl _) r1
  · rw [h9]
    exact r2
  · cases v with
    | bool t =>
      refine ⟨t, rep_bool.mp r3, ?_⟩
      cases t with
      | true =>
        rw [if_pos rfl]
        have q3 : Run p ((evalE p.cf 9 cc ρ).bind fun z => den o' [y, z]) σ H _ := q
        refine ⟨ρ, F3, O, ((R.grow g1).grow g2).grow g3, q3.bind.imp (g1.trans (g2.trans g3)).same fun z _ q w2 H4 F4 g4 r4 => ?_⟩
        obtain ⟨v, ev, q⟩ := q.ok (den_nx o' _)
        refine s2 k H4 F4 w w2 y z v Q g4.dom ?_ ?_ ev fun t H5 F5 g5 r5 => q t H5 F5 (g1.trans (g2.trans (g3.trans (g4.trans g5)))) r5
        · rw [ho]
          exact rep_same g4.same g4.sub y _ _ w (Nat.le_refl _) (rep_same g3.same g3.sub y _ _ w (Nat.le_refl _) r2)
        · rw [ho]
          exact r4
      | false =>
        rw [if_neg Bool.false_ne_true]
        exact q (.bl false) H3 F3 (g1.trans (g2.trans g3)) (rep_bool.mpr rfl)
    | _ => exact q.elim
theorem vt_chain {op op' : CmpOp} {o o' : Op} (h : Cmp X op o) (h' : Cmp X op' o') (ha : VE X p a ca) (hb : VE X p b cb) (hc : VE X p c cc) (h9 : octx o 9 = 9 := by rfl) (ho : ∀ k, octx o' k = 9 := by intro _; rfl)
    (hm : lastMarks [op, op'] [b, c] = false := by with_unfolding_all rfl) : VT X p (.Compare a [op, op'] [b, c] pos) (.chain o o' ca cb cc) := by
  obtain ⟨r, h1, s1⟩ := h.ex
  obtain ⟨r', h2, s2⟩ := h'.ex
  exact ⟨PT.imp (pt_chain h1 h2 (ha.run 9) (hb.run 9) (hc.run 9) hm) fun σ H Q q => chain_of s1 s2 h9 ho (tT_E q)⟩
theorem Room_u {n : Nat} {A : Around} (h : Room n A) : A.units + 70 < cLine := by
  have := h.un
  omega
theorem Room_v {n : Nat} {A : Around} (h : Room n A) : A.units + 65 < cLine := by
  have := h.un
  omega
end

/-! ### the law's call -/
theorem law_g {P : Program} {w : World} {K : PySem.W.Frag} {mg mb : PySem.Str → Option Value} {k : Nat} {fa a : Addr} {fd : FuncData} {x : PySem.Str} {sp : SpV} {s : Shared} {vs : List Value} {ns : List Int} (inK : K.In s.heap) (gl : s.heap.Ns mainGlobals mg) (bl : s.heap.Ns builtinsNs mb)
    (bb : ∀ x : PySem.Str, x ≠ "__name__" → mb x = bootBuiltins x) (nl : s.heap.NoLimit) (g0 : s.gens = #[]) (at_ : s.heap.get? a = some { cls := .type "list", data := .seq vs.toArray }) (iv : IntsAre vs ns) (le : ns.length ≤ sizeLine) (room : Room k callerA)
    (F : ∀ base : Heap, K.In base → base.Ns mainGlobals mg → FnG P w K mg base k fa fd [x] sp) (bd : ∀ (s : Shared) (u : Value), BindsTo s fd ⟨[u], []⟩ [(x, u)]) (pr : ∀ H : Hp, Only H → SqL K H a (ns.map V.int) → sp [.ref a] H fun v _ => v = .bl true) :
    codeAny (model P w) callerA (.call (.ref fa) ⟨[.ref a], []⟩) (fun r s' => r = .ok (.ret (.bool true)) ∧ OldK s.heap s'.heap ∧ s'.os = s.os ∧ AllBare s'.gens) s := by
  have rv : Vals (ns.map V.int) vs := vals_ints iv
  have main : ∀ H : Hp, Only H → SqL K H a (ns.map V.int) → HOk P w H s.heap → (∀ b, H b ≠ none → b = a) → (H a ≠ none → K.lookup a = none) →
      codeAny (model P w) callerA (.call (.ref fa) ⟨[.ref a], []⟩) (fun r s' => r = .ok (.ret (.bool true)) ∧ OldK s.heap s'.heap ∧ s'.os = s.os ∧ AllBare s'.gens) s := by
    intro H only sq ok one two
    have hid : ∀ {b : Addr} {m : PySem.Str → Option Value}, s.heap.Ns b m → (hidT s.heap H).Ns b m := fun {b m} h => by
      obtain ⟨o, es, ep, e, d, r⟩ := h
      refine ⟨o, es, ep, hidT_get e ?_, d, r⟩
      cases q : H b with
      | none => rfl
      | some u =>
        rw [one b (by rw [q]; simp), at_] at e
        cases e
        cases d
    have kb : K.In (hidT s.heap H) := fun b o e => hidT_get (inK b o e) (by
      cases q : H b with
      | none => rfl
      | some u =>
        have eb := one b (by rw [q]; simp)
        subst eb
        rw [two (by rw [q]; simp)] at e
        cases e)
    obtain ⟨mc, l1, l2⟩ := nl
    have e0 : Env0 P w K mg (hidT s.heap H) callerA [] s H := ⟨rfl, ⟨kb, hid gl, ⟨mb, hid bl, bb⟩, ⟨mc, hid l1, l2⟩⟩, fun b o e => of_hidT e, Nat.le_of_eq (hidT_size _ _), trivial, fun b hb => (nomatch hb), ok, .of_eq g0⟩
    refine codeAny_mono ((F _ kb (hid gl)).run callerA [] s H ⟨[.ref a], []⟩ [.ref a] [.ref a] _ room rfl e0 (bd s (.ref a)) (.cons rfl .nil) (pr H only sq)) fun r s' h => ?_
    cases r with
    | error e => exact False.elim h
    | ok fl =>
      cases fl with
      | next => exact False.elim h
      | brk => exact False.elim h
      | cont => exact False.elim h
      | ret u =>
        obtain ⟨v, H', os, bare, un, ok', rl, q⟩ := h
        obtain rfl : v = .bl true := q
        obtain rfl : u = Value.bool true := rl
        refine ⟨rfl, OldK.of_keep fun b o e => ?_, os, bare⟩
        rcases only b with z | ⟨ob, xs, z⟩
        · exact un.keep b o e z (fun z => nomatch z) (fun z => nomatch z)
        · obtain ⟨e1, _⟩ := ok b _ z
          obtain ⟨e2, _⟩ := ok' b _ (un.frzs b ob _ z)
          rw [e] at e1
          cases e1
          exact e2
  cases hk : K.lookup a with
  | some o =>
    have e := inK a o hk
    rw [at_] at e
    cases e
    exact main (fun _ => none) (fun _ => .inl rfl) (.inr ⟨_, vs.toArray, _, hk, rfl, rfl, rfl, by rw [List.size_toArray, iv.length]; exact le, by simpa using rv⟩) (fun b u z => (nomatch z)) (fun b z => absurd rfl z) fun z => absurd rfl z
  | none =>
    have self : (fun b => if b = a then some (HO.frz { cls := .type "list", data := .seq vs.toArray } (.lst (ns.map V.int))) else none : Hp) a = some (HO.frz { cls := .type "list", data := .seq vs.toArray } (.lst (ns.map V.int))) := if_pos rfl
    have other : ∀ b, b ≠ a → (fun b => if b = a then some (HO.frz { cls := .type "list", data := .seq vs.toArray } (.lst (ns.map V.int))) else none : Hp) b = none := fun b h => if_neg h
    refine main (fun b => if b = a then some (.frz { cls := .type "list", data := .seq vs.toArray } (.lst (ns.map V.int))) else none) (fun b => ?_) (.inl (.inr ⟨_, self⟩)) (fun b u z => ?_) (fun b z => ?_) fun _ => hk
    · by_cases e : b = a
      · subst e
        exact .inr ⟨_, _, self⟩
      · exact .inl (other b e)
    · by_cases e : b = a
      · subst e
        rw [self] at z
        cases z
        exact ⟨at_, by rw [List.length_map]; exact le, vs, _, rv, at_⟩
      · rw [other b e] at z
        cases z
    · by_cases e : b = a
      · exact e
      · exact absurd (other b e) z
/-- what the head leaves open, from the law's own promise -/
theorem walk_g {l : PySem.W.OpenLaw} {n k : Nat} {q : Program} {loose : List PySem.Str} {XP : (PySem.Str → Option Value) → Heap → Prop} {YP : World → Heap → Prop} {d : DefRec} {x : PySem.Str}
    (hn : l.most = some n) (hn2 : n ≤ sizeLine) (hdf : d.params.defaults = []) (hr : Room k callerA)
    (F : ∀ (w : World) (mg : PySem.Str → Option Value) (fa : Addr) (h : Heap), YP w h → h.Ns mainGlobals mg → mg d.name = some (.ref fa) →
      ∃ (K : PySem.W.Frag) (fd : FuncData) (sp : SpV), K.In h ∧ (∀ (s : Shared) (u : Value), BindsTo s fd ⟨[u], []⟩ [(x, u)]) ∧
        (∀ (H : Hp) (a : Addr) (ns : List Int), ns.length ≤ n → (∀ z ∈ ns, Builtin.Int.intBits z ≤ 1048576) → Only H → SqL K H a (ns.map V.int) → sp [.ref a] H fun v _ => v = .bl true) ∧
        ∀ base : Heap, K.In base → base.Ns mainGlobals mg → FnG l.prog w K mg base k fa fd [x] sp) :
    PySem.W.WalkO q loose XP YP l.row.toRowW d [] (fun f vs => PySem.call f vs) := by
  refine Att.attach_callB hn hdf fun w s₀ s₁ mg mb fa o pm cd doc a vs ns G Y ho hd hcd hmg hobj hints hlen hbits hg => ?_
  obtain ⟨K, fd, sp, KX, hb, hsp, hF⟩ := F w mg fa _ Y G.T.g hmg
  exact law_g KX G.T.g G.T.b G.T.builtins G.T.nolimit hg hobj hints (Nat.le_trans hlen hn2) hr hF hb fun H hO hS => hsp H a ns hlen hbits hO hS
theorem VSs.nox {X : Cx} {p : Par} {fr : Nat} {sts : List Stmt} {ss : List S} (h : VSs X.nox p fr sts ss) : VSs X p fr sts ss := ⟨PSs.nox h.run⟩
end VL

/-! VL, part 16: xs.index(y); a, b = c, d; new things in a tuple. -/
namespace VL
open PySem PySem.Spec L2 PySem.W
open PyProof.Rows hiding St

section
variable {X : Cx} {p : Par} {a b : Expr} {ca cb : E} {pos : Pos}
end

/-! ### a tuple of names that are new -/
section
variable {K : PySem.W.Frag} {ρ : Env} {F F' F0 : Addr → Prop} {O : Nat → List Addr} {σ : St} {H H' H0 : Hp}
end
section
variable {X : Cx} {p : Par} {fr : Nat} {pos q0 q1 q2 : Pos} {e ex : Expr} {c cx : E} {x : Str} {es : List Expr}
end
/-! ### lent for a test -/
section
variable {K : PySem.W.Frag} {ρ : Env} {F F' F0 : Addr → Prop} {O : Nat → List Addr} {σ : St} {H H' H0 : Hp}
theorem Rel.drop1 (R : Rel K ρ F O σ H) (i k : Nat) : ∃ F' O', Rel K (VL.drop1 i k ρ) F' O' σ H ∧ (∀ a, F a → F' a) ∧ (∀ a, F' a → F a ∨ ∃ j, a ∈ O j) ∧ ∀ j, ∀ a ∈ O' j, a ∈ O j := by
  unfold VL.drop1
  split
  · rename_i v d e
    classical
    obtain ⟨F1, O1, R1, st, h1, h2, h3⟩ := (SRel.mk (H0 := fun a => if F a then H a else none) (F0 := F) R ⟨fun b o z => (by
      by_cases f : F b
      · simpa only [f, if_true] using z
      · simp only [f, if_false] at z
        cases z), fun _ z => z, fun a f => .inl f, R.dom, fun _ f => .inl f, fun a f => by
      simp only [f, if_true]
      exact R.dom a f⟩ fun i a m => by simp only [R.notF i a m, if_false]).drop1 e (Nat.min_le_left d k)
    have sub : ∀ a, F a → F1 a := st.sub
    exact ⟨F1, O1, R1.rel, sub, fun a f => (h1 a f).imp id fun m => ⟨i, m⟩, fun j a m => by
      by_cases q : j = i
      · subst q
        exact h3 a m
      · rw [h2 j q] at m
        exact m⟩
  · exact ⟨F, O, R, fun _ f => f, fun _ f => .inl f, fun _ _ m => m⟩
theorem Rel.dropL : ∀ (l : List (Nat × Nat)) {ρ : Env} {F : Addr → Prop} {O : Nat → List Addr}, Rel K ρ F O σ H → ∃ F' O', Rel K (VL.dropL l ρ) F' O' σ H ∧ (∀ a, F a → F' a) ∧ (∀ a, F' a → F a ∨ ∃ j, a ∈ O j) ∧ ∀ j, ∀ a ∈ O' j, a ∈ O j
  | [], ρ, F, O, R => ⟨F, O, R, fun _ f => f, fun _ f => .inl f, fun _ _ m => m⟩
  | (i, k) :: r, ρ, F, O, R => by
    obtain ⟨F1, O1, R1, a1, b1, c1⟩ := R.drop1 i k
    obtain ⟨F2, O2, R2, a2, b2, c2⟩ := Rel.dropL r R1
    exact ⟨F2, O2, R2, fun a f => a2 a (a1 a f), fun a f => (b2 a f).elim (b1 a) fun ⟨j, m⟩ => .inr ⟨j, c1 j a m⟩, fun j a m => c1 j a (c2 j a m)⟩
/-- what was lent comes back -/
theorem Rel.back (R : Rel K ρ F O σ H) {F1 : Addr → Prop} (h1 : ∀ a, F a → F1 a) (h2 : ∀ a, F1 a → F a ∨ ∃ j, a ∈ O j) (g : Grow H F1 H' F') : Grow H F H' (fun a => F' a ∧ ∀ j, a ∉ O j) where
  same := g.same
  sub := fun a f => ⟨g.sub a (h1 a f), fun j m => R.notF j a m f⟩
  new := fun a f => (g.new a f.1).elim (fun z => (h2 a z).elim .inl fun ⟨j, m⟩ => absurd m (f.2 j)) .inr
  dom := fun a f => g.dom a f.1
  dm := R.dom
  lst := fun a f => (g.lst a f.1).elim (fun z => (h2 a z).elim .inl fun ⟨j, m⟩ => absurd m (f.2 j)) .inr
end
section
variable {X : Cx} {p : Par} {e : Expr} {c : E}
end
end VL

/-! VL, part 17: the errors' own class: super().__init__(at); self.at = at. -/
namespace VL.EX
open PySem PySem.W PySem.Calls PyProof.Rows PySem.HandSPX

def wA (n : Nat) : Arguments := { posonlyargs := [], args := [{ arg := "self", annotation := none, pos := ⟨n + 2, 17, n + 2, 21⟩ }, { arg := "at", annotation := none, pos := ⟨n + 2, 23, n + 2, 25⟩ }], vararg := none, kwonlyargs := [], kw_defaults := [], kwarg := none, defaults := [] }
def wSup (n : Nat) : Expr := .Call (.Name "super" ⟨n + 3, 8, n + 3, 13⟩) [] [] ⟨n + 3, 8, n + 3, 15⟩
def wE (n : Nat) : Expr := .Call (.Attribute (wSup n) "__init__" ⟨n + 3, 8, n + 3, 24⟩) [.Name "at" ⟨n + 3, 25, n + 3, 27⟩] [] ⟨n + 3, 8, n + 3, 28⟩
def wB (n : Nat) : List Stmt := [.Expr (wE n) ⟨n + 3, 8, n + 3, 28⟩, .Assign [.Attribute (.Name "self" ⟨n + 4, 8, n + 4, 12⟩) "at" ⟨n + 4, 8, n + 4, 15⟩] (.Name "at" ⟨n + 4, 18, n + 4, 20⟩) ⟨n + 4, 8, n + 4, 20⟩]
def wS : Scope := { kind := .function, names := [("self", .local), ("at", .local), ("__class__", .free), ("super", .globalImplicit)], isGenerator := false, isCoroutine := false }
/-- what the written part says of the root of the errors, at D, and of its __init__, at fI -/
structure WayT (P : Program) (K : Frag) (n : Nat) (D fI : Addr) : Prop where
  fn : ∃ (oc : Value) (od : Option Addr) (doc pm dV kV : Value) (an : Option Addr) (cda cc : Addr) (ct : Value) (osl : Array (Option Value)),
    K.lookup fI = some ⟨oc, od, .func (ksFn "__init__" "WayError.__init__" (wA n) (wB n) wS dV kV doc pm an (.ref cda) ct cc), osl⟩ ∧ codeIn K (.ref cda) "WayError.__init__" = true ∧ dV = .none ∧
    (∃ ccl cdd vs ccs file tf, K.lookup cda = some ⟨ccl, cdd, .fields vs, ccs⟩ ∧ vs[2]? = some (.str file tf) ∧ ((P.main.file : Str) == file) = true) ∧ (∃ cl cld csl, K.lookup cc = some ⟨cl, cld, .cell (some (.ref D)), csl⟩)
  ev : ∀ (L a cc : Addr) (cd : Value), ∃ pl : Sem Bool, eval (wE n) (ksEnv "WayError.__init__" wS L a cd cc) = (do
      let ov ← attributeBase (wSup n) "__init__" (ksEnv "WayError.__init__" wS L a cd cc) (eval (wSup n) (ksEnv "WayError.__init__" wS L a cd cc))
      standAt (Pos.atName ⟨n + 3, 8, n + 3, 24⟩)
      let (f, first) ← holding [ov] (getMethod ov "__init__" pl)
      callWith ⟨n + 3, 8, n + 3, 28⟩ f first (backTo ⟨n + 3, 8, n + 3, 28⟩ (starEach [.Name "at" ⟨n + 3, 25, n + 3, 27⟩] (ksEnv "WayError.__init__" wS L a cd cc))) [])
  cls : (clsIn K D).isSome = true
  fun_ : typeIn K (.ref fI) = some (.type "function")
  opq : nsIn K cStatics "thirdparty.any" = some none
  nsup : nsIn K mainGlobals "super" = some none
  top : (P.main.scope.names.lookup ("super" : Str)).isSome = false
/-- .. of one of them, at C -/
structure WayC (K : Frag) (D fI C : Addr) : Prop where
  cls : ∃ nm q N bs bm sn sub ab col dd k0 k1 k2 k3 k5, K.lookup C = some (excClassObj nm q C N bs bm true sn sub ab col dd k0 k1 k2 k3 k5 "ValueError.__new__") ∧ refsVE bm = true
  sa : findIn K (.ref C) "__setattr__" = some (some (.builtin "object.__setattr__"))
  ga : findIn K (.ref C) "__getattribute__" = some (some (.builtin "BaseException.__getattribute__"))
  gg : findIn K (.ref C) "__getattr__" = some none
  noN : findIn K (.ref C) "at" = some none
  iC : findIn K (.ref C) "__init__" = some (some (.ref fI))
  kC : keepIn K (.ref C) = true
  exC : subIn K (.ref C) (.type "BaseException") = some true
  veC : subIn K (.ref C) (.type "ValueError") = some true
  tyC : typeIn K (.ref C) = some (.type "type")
  hdC : hasDictIn K C = true
  mD : mroIn K C (.ref D) = some true
  sup : ks_superIn K C D "__init__" = some (some (.builtin "ValueError.__init__"))
/-- what __init__ leaves of a fresh exception at x -/
structure InitEnd (h h' : Heap) (x C dx t1 : Addr) (v : Value) : Prop where
  keep : ∀ b o, b ≠ x → h.get? b = some o → h'.get? b = some o
  obj : h'.get? x = some { cls := .ref C, dict := some dx, data := .fields #[.ref t1, .none, .none, .none, .bool false, .none] }
  dbig : h.objs.size ≤ dx
  dne : dx ≠ x
  ns : h'.Ns1 dx (fun y => if y = "at" then some v else none)
theorem wlookup_self (v x : Value) : ([("self", x), ("at", v)] : List (Str × Value)).reverse.lookup ("self" : Str) = some x := rfl
theorem wlookup_at (v x : Value) : ([("self", x), ("at", v)] : List (Str × Value)).reverse.lookup ("at" : Str) = some v := rfl
section
variable {prog : Program} {w : World} {A : Around} {E : Value → Shared → Prop} {R : Result → Shared → Prop} {s : Shared} {K : Frag} {n : Nat} {D fI C : Addr} {mg mb : Str → Option Value}
/-- the bound ValueError.__init__, called -/
theorem mw_call {x u t0 : Addr} {v : Value} {h : Heap} {g : Array GenState} {d : Drawn} {tk : Nat} {os : OsState} {Q : Value → Shared → Prop} {nm q : Str} {N : Addr} {bs bm : List Value} {sn : List Str} {sub : List Value} {ab : Bool} {col : Option Bool} {dd : Option Addr} {k0 k1 k2 k3 k5 : Option Value}
    (hC : h.get? C = some (excClassObj nm q C N bs bm true sn sub ab col dd k0 k1 k2 k3 k5 "ValueError.__new__")) (he : h.get? x = some (excO C t0)) (hu : h.get? u = some (kxs_mw "ValueError.__init__" x))
    (hq : ∀ h' t1, (∀ b o, b ≠ x → h.get? b = some o → h'.get? b = some o) → h'.get? x = some (excO C t1) → Q .none ⟨h', g, d, tk, os⟩) :
    wpAny (model prog w) A (call (.ref u) [v]) Q E ⟨h, g, d, tk, os⟩ := by
  refine wpAny_call (codeAny_of_tree ?_)
  show wpAny _ A.in1 (callAny (.ref u) ⟨[v], []⟩) _ _ _
  simp only [callAny]
  refine wpAny_bind (wpAny_load hu ?_)
  simp only [kxs_mw, show (Value.type "method-wrapper" == Value.type "method" || Value.type "method-wrapper" == Value.type "builtin_function_or_method" || Value.type "method-wrapper" == Value.type "method-wrapper") = true by decide, if_true]
  refine KFB.if_so (by decide) ?_
  refine wpAny_bind (check_bound_init F.excBase_ValueError.toExcCallFacts hC he rfl ?_)
  refine wpAny_bind (wpAny_pure (wpAny_pure ?_))
  refine ⟨plainId_quiet F.excBase_ValueError.init.plain _, codeAny_builtin F.excBase_ValueError.initEntry ?_⟩
  refine exc_init_tree (cls := .ref C) (t0 := t0) (dv := none) (c2 := .none) (c3 := .none) (b4 := .bool false) he (by rw [sizeLine_eq]; exact (by decide : 1 ≤ 16777216)) fun h' k e' _ => hq h' h.objs.size k e'
theorem way_init (T : WayT prog K n D fI) (Y : WayC K D fI C) {x t0 : Addr} {v : Value} (X : K.In s.heap) (G : s.heap.Ns mainGlobals mg) (B : s.heap.Ns builtinsNs mb) (hmg : mg "super" = none) (hmb : mb "super" = some (.type "super")) (hlim : s.heap.NoLimit) (hx : s.heap.get? x = some (excO C t0)) (hnx : K.lookup x = none) (hroom : A.depth < recursionLimit)
    (hq : ∀ h' tk dx t1, InitEnd s.heap h' x C dx t1 v → R (.ok (.ret .none)) { s with heap := h', toks := tk }) :
    codeAny (model prog w) A (.call (.ref fI) ⟨[.ref x, v], []⟩) R s := by
  obtain ⟨oc, od, doc, pm, dV, kV, an, cda, cc, ct, osl, ho, hcd, hdV, ⟨ccl, cdd, vs, ccs, file, tf, hcode, hvs, hfile⟩, ⟨cl, cld, csl, hcell⟩⟩ := T.fn
  obtain ⟨nm, q, N, bs, bm, sn, sub, ab, col, dd, k0, k1, k2, k3, k5, hC, hbm⟩ := Y.cls
  obtain ⟨cdD, hD⟩ := Option.isSome_iff_exists.mp T.cls
  have hcl : clsIn K C = some { name := nm, bases := bs, mro := .ref C :: bm, ns := N, qualname := q, hasDict := true, slotNames := sn, subclasses := sub, abstract := ab, collection := col, hasDel := false } := by unfold clsIn; rw [hC] <;> rfl
  refine ks_codeAny_call_defAt (fd := ksFn "__init__" "WayError.__init__" (wA n) (wB n) wS dV kV doc pm an (.ref cda) ct cc) (body := wB n) (binds := [("self", .ref x), ("at", v)]) hroom (X _ _ ho) rfl hlim (codeRec_of X hcd) rfl ?hb (show ∀ x ∈ wS.names, x.2 ≠ .cell by decide) ?hl (fun h₁ hn k => ?_) rfl rfl rfl
  case hb => subst hdV; exact BindsTo.of_eq (by first | rfl | with_unfolding_all rfl)
  case hl =>
    intro y hy
    rcases List.mem_cons.mp hy with rfl | hy
    · rfl
    · rcases List.mem_cons.mp hy with rfl | hy
      · rfl
      · cases hy
  have X₁ : K.In h₁ := X.keeps k
  have hx₁ := k _ _ hx
  have hxL : s.heap.objs.size ≠ x := Nat.ne_of_gt (Heap.lt_size hx)
  obtain ⟨pl, he⟩ := T.ev s.heap.objs.size fI cc (.ref cda)
  refine ks_wpAt_execs_cons (ks_wpAt_Expr_any (ks_wpAt_MethodCall (pl := pl) ?_ he))
  obtain ⟨oD, hD1, hD2⟩ : ∃ oD, h₁.get? D = some oD ∧ oD.data = .cls cdD := by
    unfold clsIn at hD
    split at hD
    · rename_i c d cd' sl ho
      cases hD
      exact ⟨_, X₁ _ _ ho, rfl⟩
    · cases hD
  refine ks_wpAt_super_base rfl rfl rfl rfl (X₁ _ _ ho) rfl rfl rfl (X₁ _ _ hcode) rfl hvs hfile T.top ?_
  refine ks_loadName_global rfl rfl (loadGlobal_builtin (G.keeps k) hmg (B.keeps k) hmb ⟨rfl, ?_⟩)
  refine wpAny_loadName_free rfl rfl rfl ⟨_, X₁ _ _ hcell, rfl⟩ ?_
  refine wpAny_loadName_local rfl rfl hn (wlookup_self v (.ref x)) ?_
  refine ks_wpAny_isType_cls hD1 hD2 ⟨rfl, ?_⟩
  have iVE := X₁
  refine ks_wpAny_call_super hD1 hD2 hx₁ rfl (fun c e => nomatch e) (looks_mroIn X₁ Y.mD) fun h₂ hso k₂ => ?_
  have X₂ : K.In h₂ := X₁.keeps k₂
  have hx₂ := k₂ _ _ hx₁
  have hxC : x ≠ C := fun z => by rw [← z, hnx] at hC; cases hC
  have I₂ : InstAt h₂ x (excO C t0) C none := ⟨hx₂, rfl, rfl, trivial⟩
  have hsup := Y.sup
  unfold ks_superIn at hsup
  rw [hcl] at hsup
  refine kxs_getMethod kxs_ValueError hso (looks_opaque X₂ T.opq) (l₀ := .ref C :: bm) (fun A Q E s k q => wpAny_bind ((looks_clsIn X₂ hcl) A _ E s k (wpAny_pure q))) rfl X₂ hsup (I₂.type.andThen (looks_subIn X₂ Y.veC)) hxC (by decide) ?_
  have k₃ : ∀ b o, h₂.get? b = some o → (h₂.push (kxs_mw "ValueError.__init__" x)).get? b = some o := fun b o e => Heap.get?_push_of_some _ e
  have hu : (h₂.push (kxs_mw "ValueError.__init__" x)).get? h₂.objs.size = some (kxs_mw "ValueError.__init__" x) := Heap.get?_push_at rfl rfl
  have hn₃ := (hn.keeps k₂).keeps k₃
  refine kxs_callWith (i := "ValueError.__init__") (u := h₂.objs.size) (x := x) (by rfl) ?_
  refine evalArgs_plain (spliced_cons ?_)
  refine wpAny_Name (wpAny_loadName_local (v := v) rfl rfl hn₃ (wlookup_at v (.ref x)) ?_) rfl
  refine spliced_nil ⟨hu, ?_⟩
  refine mw_call (C := C) (t0 := t0) (X₂.keeps k₃ _ _ hC) (k₃ _ _ hx₂) hu fun h₄ t1 k₄ hx₄ => ?_
  -- self.at = at
  have X₄ : K.In h₄ := fun a o e => k₄ a o (fun z => by rw [z, hnx] at e; cases e) (X₂.keeps k₃ a o e)
  have xL : s.heap.objs.size ≠ x := hxL
  have hn₄ : h₄.Ns s.heap.objs.size (fun y => ([("self", .ref x), ("at", v)] : List (Str × Value)).reverse.lookup y) := hn₃.at fun o q => k₄ _ _ xL q
  refine ks_wpAt_execs_cons (wpAt_of_wpAny ?_)
  refine plainObj_wpAny_Assign_Attribute ?_ 
  refine wpAny_Name (wpAny_loadName_local (v := v) rfl rfl hn₄ (wlookup_at v (.ref x)) ?_) rfl
  refine wpAny_Name (wpAny_loadName_local (v := .ref x) rfl rfl hn₄ (wlookup_self v (.ref x)) ?_) rfl
  refine set_plain X₄ (ox := excO C t1) (od := none) ⟨hx₄, rfl, rfl, trivial⟩ Y.sa ?_
  refine exc_osa X₄ hx₄ hcl (show refsVE (.ref C :: bm) = true from hbm) rfl Y.noN fun h₅ tk₅ dx k₅ dn dne hx₅ hn₅ => ?_
  refine wpAt_of_wpAny (wpAny_execs_nil ?_)
  have old : ∀ b o, b ≠ x → s.heap.get? b = some o → h₅.get? b = some o := fun b o hb e => k₅ b o hb (k₄ b o hb (k₃ _ _ (k₂ _ _ (k b o e))))
  have z1 : s.heap.objs.size < h₄.objs.size := hn₄.lt
  exact hq h₅ tk₅ dx t1 ⟨old, hx₅, Nat.le_of_lt (Nat.lt_of_lt_of_le z1 dn), dne, hn₅⟩
/-- a made error -/
structure Made (h h' : Heap) (e C d : Addr) (v : Value) : Prop where
  keep : ∀ b o, h.get? b = some o → h'.get? b = some o
  new : h.objs.size ≤ e
  obj : ∃ oe vs, h'.get? e = some oe ∧ oe.cls = .ref C ∧ oe.dict = some d ∧ oe.data = .fields vs ∧ vs[1]? = some .none
  dbig : h.objs.size ≤ d
  dne : d ≠ e
  ns : h'.Ns1 d (fun y => if y = "at" then some v else none)
theorem way_made (T : WayT prog K n D fI) (Y : WayC K D fI C) {v : Value} (X : K.In s.heap) (G : s.heap.Ns mainGlobals mg) (B : s.heap.Ns builtinsNs mb) (hmg : mg "super" = none) (hmb : mb "super" = some (.type "super")) (hlim : s.heap.NoLimit) (hroom : A.depth + 1 < recursionLimit)
    (hq : ∀ h' tk e d, Made s.heap h' e C d v → R (.ok (.ret (.ref e))) { s with heap := h', toks := tk }) :
    codeAny (model prog w) A (.call (.ref C) ⟨[v], []⟩) R s := by
  obtain ⟨nm, q, N, bs, bm, sn, sub, ab, col, dd, k0, k1, k2, k3, k5, hC, hbm⟩ := Y.cls
  obtain ⟨hp, g, dr, tk, os⟩ := s
  have k : ∀ b o, hp.get? b = some o → ((hp.push (kdv_tup [v])).push (excO C hp.objs.size)).get? b = some o := fun b o e => Heap.get?_push_of_some _ (Heap.get?_push_of_some _ e)
  have hget : ((hp.push (kdv_tup [v])).push (excO C hp.objs.size)).get? (hp.objs.size + 1) = some (excO C hp.objs.size) := by heap_get
  have hnx : K.lookup (hp.objs.size + 1) = none := by
    cases e : K.lookup (hp.objs.size + 1) with
    | none => rfl
    | some o =>
      have z : hp.get? (hp.objs.size + 1) = some o := X _ _ e
      exact absurd (Nat.lt_of_succ_lt (Heap.lt_size z)) (Nat.lt_irrefl _)
  refine call_own F.excBase_ValueError (fun X => refsVE_contains X bm hbm) (X _ _ hC) (looks_findIn X Y.iC) (fun self => bind_fn X self T.fun_) (by rw [sizeLine_eq]; exact (by decide : 1 ≤ 16777216)) ?_
  refine way_init (s := ⟨(hp.push (kdv_tup [v])).push (excO C hp.objs.size), g, dr, tk, os⟩) T Y (X.keeps k) (G.keeps k) (B.keeps k) hmg hmb (hlim.keeps k) hget hnx ?_ fun h' tk' dx t1 ⟨k', hx, dn, dne, hns⟩ => ?_
  · show A.depth + 1 < recursionLimit
    exact hroom
  · have old : ∀ b o, hp.get? b = some o → h'.get? b = some o := fun b o e => k' b o (Nat.ne_of_lt (Nat.lt_succ_of_lt (Heap.lt_size e))) (k b o e)
    have z : hp.objs.size + 1 + 1 ≤ dx := by
      first
        | (simpa only [Heap.size_push] using dn)
        | exact dn
        | (have q := dn; rw [Heap.size_push, Heap.size_push] at q; exact q)
    exact ⟨rfl, hq h' tk' (hp.objs.size + 1) dx ⟨old, Nat.le_succ _, ⟨_, _, hx, rfl, rfl, rfl, rfl⟩, Nat.le_trans (Nat.le_trans (Nat.le_succ _) (Nat.le_succ _)) z, dne, hns⟩⟩
end
end VL.EX
namespace VL
open PySem PySem.Spec L2
open PyProof.Rows hiding St
theorem relO_at {v : V} {v' : Value} (r : RelV v v') (f : Str) : RelO (List.lookup f [(("at" : Str), v)]) (if f = "at" then some v' else none) := by
  by_cases hw : f = "at"
  · subst hw
    rw [if_pos rfl]
    have q : List.lookup ("at" : Str) [(("at" : Str), v)] = some v := by simp [List.lookup]
    rw [q]
    exact r
  · rw [if_neg hw]
    have qw : (f == ("at" : Str)) = false := by simpa using hw
    have q2 : List.lookup f [(("at" : Str), v)] = none := by simp [List.lookup, qw]
    rw [q2]
    trivial
section
variable {X : Cx} {n : Nat} {D fI C : Addr}
/-- an error of the class at C, made of one argument -/
def tMkW (C : Addr) (ta : TA) : L2.St → Hp → XK → Prop := fun σ H Q => ta σ H fun vs H1 => ∃ v, vs = [v] ∧ ∀ d, H1 d = none → Q (.ref C) (some d) (upd H1 d (.xd [(("at" : Str), v)]))
theorem pmk_way {a : Expr} {ta : TA} {x : Str} {p pos : Pos} {k : Nat} (T : EX.WayT X.prog X.K n D fI) (Y : EX.WayC X.K D fI C) (hm : X.mg x = some (.ref C)) (hs : X.mg "super" = none) (hr : Room k X.A) (ha : PA X [a] ta) (hg : Gl X x := by rfl) (hdb : (x == ("__debug__" : Str)) = false := by decide)
    (he : starEach (a :: []) X.env = (false, eval a X.env) :: starEach [] X.env := by rfl) (hpl : (backTo pos (starEach [] X.env)).any (·.1) = false := by rfl) :
    PMk X (.Call (.Name x p) [a] [] pos) (tMkW C ta) := by
  intro pins s σ H Q I h
  refine wpAny_Call_Name_kw (ld_glob I hg hm ?_ hdb)
  refine PySem.W.callWith_K (h₀ := X.base) I.ok.mod.kin Y.kC (thn (ha.run pos pins s σ H _ I h) fun us s1 hh => ?_) he hpl
  obtain ⟨vs, H1, I1, r1, v, ev, q1⟩ := hh
  subst ev
  refine ⟨I1.kIn, ?_⟩
  cases r1 with
  | cons rv rn =>
    rename_i v' us'
    cases rn
    show wpAny _ _ (call (.ref C) [v']) _ _ _
    have hlim := I1.nolimit
    obtain ⟨mb, b1, b2⟩ := I1.mod.blt
    have G1 := I1.mod.glob.keeps I1.bk
    have B1 := b1.keeps I1.bk
    have hmb : mb "super" = some (.type "super") := (b2 "super" (by decide)).trans (by first | rfl | kernel_rfl)
    obtain ⟨hp, g, dr, tk, os⟩ := s1
    refine wpAny_call (EX.way_made T Y I1.kIn G1 B1 hs hmb hlim (by have := hr.dp; omega) fun h' tk' e d M => ?_)
    show MkP X pins σ Q (.ref e) ⟨h', g, dr, tk', os⟩
    obtain ⟨oe, fv, hoe, hc, hd, hdat, h1⟩ := M.obj
    have hns := M.ns
    obtain ⟨G', g1, g2⟩ := restrict h' fun b => decide (b ≠ e)
    have gk : ∀ b, b ≠ e → G'.get? b = h'.get? b := fun b hb => g1 b (decide_eq_true hb)
    have ge : G'.get? e = none := g2 e (by simp)
    have old : ∀ b o, hp.get? b = some o → G'.get? b = some o := fun b o q => (gk b (Nat.ne_of_lt (Nat.lt_of_lt_of_le (Heap.lt_size q) M.new))).trans (M.keep b o q)
    have ob : ObjOk X.prog X.w (upd H1 d (.xd [(("at" : Str), v)])) G' d (.xd [(("at" : Str), v)]) :=
      ⟨_, hns.at (fun o q => (gk d M.dne).trans q), fun f => relO_at rv f⟩
    have J : Inv X pins σ (upd H1 d (.xd [(("at" : Str), v)])) ⟨G', g, dr, tk', os⟩ := I1.laid (t' := tk') old M.dbig ob
    refine ⟨e, oe, fv, ⟨G', g, dr, tk', os⟩, _, .ref C, some d, rfl, J, fun b o q => ?_, ge, hoe, ⟨hc, hd⟩, hdat, h1, ?_, rfl, I1.bare, raises_own Y.exC Y.tyC, q1 d (I1.hok.fresh M.dbig)⟩
    · by_cases hb : b = e
      · have q' : G'.get? b = some o := q
        rw [hb, ge] at q'; cases q'
      · exact (gk b hb).symm.trans q
    · rw [upd_ne (Ne.symm M.dne)]
      exact I1.hok.fresh M.new
end
end VL

/-! VL, part 18: tables of any mask of which each slot is met (511, too); sets of tuples of ints, up to 200 members. -/
namespace VL.TW
open PySem PySem.Spec L2
open PyProof.Rows hiding St

/-- each slot begins a run in time -/
def Met (m : Nat) : Prop := m % 2 = 1 ∧ ∀ (h : Int) (j : Nat), j ≤ m → ∃ n, n ≤ m + 12 ∧ runI m (SetTable.bits h) n = j
theorem met_of {m : Nat} (h : MaskOk m) : Met m := ⟨mask_odd h, fun x j hj => run_meets h x hj⟩
/-- the way stays within the table -/
theorem way_in {m : Nat} {h : Int} {k : Nat} : way m h k ≤ m := by
  have lo : SetTable.bits h % (m + 1) ≤ m := Nat.le_of_lt_succ (Nat.mod_lt _ (Nat.succ_pos _))
  have bd := runEnd_bd lo
  have st : (runAt m (SetTable.bits h % (m + 1)) (SetTable.bits h)).j + (runAt m (SetTable.bits h % (m + 1)) (SetTable.bits h)).more ≤ m := by
    show SetTable.bits h % (m + 1) + (SetTable.runEnd m (SetTable.bits h % (m + 1)) - SetTable.bits h % (m + 1)) ≤ m
    omega
  exact Nat.le_trans (Nat.le_add_right _ _) (nth_in (m := m) k _ st)
/-- a slot is met within a search's bound -/
theorem Met.nth {m : Nat} (M : Met m) (h : Int) {j : Nat} (hj : j ≤ m) : ∃ k, k < 10 * SetTable.turns m ∧ way m h k = j := by
  obtain ⟨n, n1, n2⟩ := M.2 h j hj
  obtain ⟨k, k1, k2⟩ := run_nth m (SetTable.bits h) n
  exact ⟨k, by unfold SetTable.turns; omega, (congrArg SetTable.Probe.j k2).trans n2⟩
/-- a table of which every place is found again -/
structure Tb (t : SetTable) (hs : List Int) : Prop where
  up : Ris t.place.toList
  dm : t.dummies = #[]
  sz : t.place.size = hs.length
  met : Met t.mask
  bd : ∀ x ∈ t.place.toList, x ≤ t.mask
  find : ∀ (i : Nat) (h : Int) (j : Nat), hs[i]? = some h → t.place.toList[i]? = some j → ∃ k, way t.mask h k = j ∧ ∀ q, q < k → way t.mask h q ∈ t.place.toList
theorem Tb.of {t : SetTable} {hs : List Int} (T : TabOk t hs) : Tb t hs := ⟨T.ris, T.dm, T.sz, met_of T.mok, T.bd, T.reach⟩
theorem Tb.low {t : SetTable} {hs : List Int} (T : Tb t hs) (m : MaskOk t.mask) : TabOk t hs := ⟨T.up, T.dm, T.sz, m, T.bd, T.find⟩
section
variable {t : SetTable} {hs : List Int}
theorem Tb.ahead (T : Tb t hs) {h : Int} {K i j : Nat} (no : way t.mask h K ∉ t.place.toList) (hi : hs[i]? = some h) (hj : t.place.toList[i]? = some j) : ∃ k, k < K ∧ way t.mask h k = j := by
  obtain ⟨k, k1, k2⟩ := T.find i h j hi hj
  refine ⟨k, Classical.byContradiction fun c => ?_, k1⟩
  by_cases e : K = k
  · rw [e, k1] at no
    exact no (List.mem_of_getElem? hj)
  · exact no (k2 K (by omega))
/-- one put in where the way has its first empty slot -/
theorem Tb.put (T : Tb t hs) {h : Int} {K : Nat} (no : way t.mask h K ∉ t.place.toList) (all : ∀ k, k < K → way t.mask h k ∈ t.place.toList) :
    (t.put (way t.mask h K)).2 = SetTable.below t.place (way t.mask h K) ∧ SetTable.below t.place (way t.mask h K) ≤ hs.length ∧
    Tb (t.put (way t.mask h K)).1 (hs.take (SetTable.below t.place (way t.mask h K)) ++ h :: hs.drop (SetTable.below t.place (way t.mask h K))) ∧
    (t.put (way t.mask h K)).1.mask = t.mask ∧ (t.put (way t.mask h K)).1.led = t.led ∧ (t.put (way t.mask h K)).1.plain = t.plain ∧ (t.put (way t.mask h K)).1.fill = hs.length + 1 := by
  have inn : way t.mask h K ≤ t.mask := way_in
  generalize ej : way t.mask h K = j at *
  obtain ⟨cut, _, _⟩ := below_cut T.up j
  have sz : t.place.toList.length = hs.length := T.sz
  have pl : SetTable.below t.place j ≤ t.place.toList.length := cut
  have ph : SetTable.below t.place j ≤ hs.length := by omega
  have np : t.place[SetTable.below t.place j]? ≠ some j := fun e => no (List.mem_of_getElem? (by rw [Array.getElem?_toList]; exact e))
  have pp := put_place t j
  have size : (t.put j).1.place.size = hs.length + 1 := by
    rw [← Array.length_toList, pp, len_ins _ pl, sz]
  have more : ∀ x, x ∈ t.place.toList → x ∈ (t.put j).1.place.toList := fun x hx => by
    rw [pp]
    exact mem_ins.mpr (.inr hx)
  refine ⟨rfl, ph, ⟨ris_insert T.up np, put_dm T.dm j, by rw [len_ins _ ph]; exact size, T.met, fun x hx => ?_, fun i h' j' e1 e2 => ?_⟩, rfl, rfl, rfl, ?_⟩
  · rw [pp] at hx
    exact (mem_ins.mp hx).elim (fun e => e ▸ inn) (T.bd x)
  · rw [tins_get hs ph] at e1
    rw [pp, tins_get _ pl] at e2
    have old : ∀ i', hs[i']? = some h' → t.place.toList[i']? = some j' → ∃ k, way t.mask h' k = j' ∧ ∀ q, q < k → way t.mask h' q ∈ (t.put j).1.place.toList := fun i' a b => by
      obtain ⟨k, k1, k2⟩ := T.find i' h' j' a b
      exact ⟨k, k1, fun q hq => more _ (k2 q hq)⟩
    by_cases c : i < SetTable.below t.place j
    · rw [if_pos c] at e1 e2
      exact old i e1 e2
    · rw [if_neg c] at e1 e2
      by_cases d : i = SetTable.below t.place j
      · rw [if_pos d] at e1 e2
        injection e1 with e1
        injection e2 with e2
        subst e1 e2
        exact ⟨K, ej, fun q hq => more _ (all q hq)⟩
      · rw [if_neg d] at e1 e2
        exact old (i - 1) e1 e2
  · show (t.put j).1.place.size + (t.put j).1.dummies.size = hs.length + 1
    rw [size, put_dm T.dm j]
    rfl
end
/-! ### laying all anew -/
theorem spot {m : Nat} (M : Met m) (owner : Array (Option Nat)) (h : Int) {j : Nat} (hj : j ≤ m) (free : oAt owner j = none) :
    ∃ K, SetTable.layClean.free m owner (SetTable.turns m) (SetTable.bits h % (m + 1)) (SetTable.bits h) = some (way m h K) ∧ oAt owner (way m h K) = none ∧ ∀ k, k < K → oAt owner (way m h k) ≠ none := by
  obtain ⟨n, n1, n2⟩ := M.2 h j hj
  have e1 := nth_off m n (SetTable.bits h % (m + 1)) (SetTable.bits h)
  rw [itL_run] at e1
  have e2 : way m h (off m (SetTable.bits h % (m + 1)) (SetTable.bits h) n) = j := (congrArg SetTable.Probe.j e1).trans n2
  obtain ⟨K, a1, a2, a3⟩ := st_least (p := fun k => oAt owner (way m h k) = none) _ (show oAt owner (way m h (off m (SetTable.bits h % (m + 1)) (SetTable.bits h) n)) = none by rw [e2]; exact free)
  have some_ : ∀ k, k < K → (oAt owner (way m h k)).isNone = false := fun k hk => by
    cases z : oAt owner (way m h k) with
    | none => exact absurd z (a3 k hk)
    | some _ => rfl
  exact ⟨K, free_spec m owner (SetTable.turns m) n _ _ K (by unfold SetTable.turns; omega) a1 some_ (by rw [show oAt owner (nth m (runAt m (SetTable.bits h % (m + 1)) (SetTable.bits h)) K).j = none from a2]; rfl), a2, a3⟩
theorem own_more {m : Nat} (M : Met m) {done : List Int} {owner : Array (Option Nat)} (W : L2.Own m done owner) (room : done.length ≤ m) (h : Int) :
    ∃ j, SetTable.layClean.free m owner (SetTable.turns m) (SetTable.bits h % (m + 1)) (SetTable.bits h) = some j ∧ L2.Own m (done ++ [h]) (owner.setIfInBounds j (some done.length)) := by
  obtain ⟨ps, ps1, ps2⟩ := W.ps
  obtain ⟨j0, lt, nin⟩ := st_missing ps (m + 1) (by omega)
  have vac : oAt owner j0 = none := Classical.byContradiction fun z => nin (ps2 j0 (Nat.le_of_lt_succ lt) z)
  obtain ⟨K, e1, e2, e3⟩ := spot M owner h (Nat.le_of_lt_succ lt) vac
  have le : way m h K ≤ m := way_in
  generalize ej : way m h K = j at *
  have inb : j < owner.size := by rw [W.sz]; omega
  have me := oAt_set_self (some done.length) inb
  have keep : ∀ i, oAt owner i ≠ none → oAt (owner.setIfInBounds j (some done.length)) i ≠ none := fun i hi => by
    by_cases c : i = j
    · rw [c, me]
      simp
    · rw [oAt_set_ne _ c]
      exact hi
  refine ⟨j, e1, by rw [Array.size_setIfInBounds]; exact W.sz, fun i k hi e => ?_, fun k hk => ?_, j :: ps, by simp [ps1], fun i hi e => ?_⟩
  · by_cases c : i = j
    · rw [c, me] at e
      injection e with e
      subst e
      exact ⟨h, K, by simp, ej.trans c.symm, fun q hq => keep _ (e3 q hq)⟩
    · rw [oAt_set_ne _ c] at e
      obtain ⟨h', K', a1, a2, a3⟩ := W.at_ i k hi e
      have lt := (List.getElem?_eq_some_iff.mp a1).1
      exact ⟨h', K', by rw [List.getElem?_append_left lt]; exact a1, a2, fun q hq => keep _ (a3 q hq)⟩
  · rw [List.length_append, List.length_singleton] at hk
    by_cases c : k = done.length
    · subst c
      exact ⟨j, le, me⟩
    · obtain ⟨i, i1, i2⟩ := W.all k (by omega)
      have ne : i ≠ j := fun z => by
        rw [z, e2] at i2
        cases i2
      exact ⟨i, i1, by rw [oAt_set_ne _ ne]; exact i2⟩
  · by_cases c : i = j
    · rw [c]
      exact List.mem_cons_self
    · rw [oAt_set_ne _ c] at e
      exact List.mem_cons_of_mem _ (ps2 i hi e)
theorem own_all {m : Nat} (M : Met m) : ∀ (rest done : List Int) (owner : Array (Option Nat)), L2.Own m done owner → done.length + rest.length ≤ m →
    ∃ o2, rest.foldl (stepF m) (some (owner, done.length)) = some (o2, (done ++ rest).length) ∧ L2.Own m (done ++ rest) o2
  | [], done, owner, W, _ => ⟨owner, by rw [List.append_nil]; rfl, by rw [List.append_nil]; exact W⟩
  | h :: rest, done, owner, W, room => by
    rw [List.length_cons] at room
    obtain ⟨j, e, W2⟩ := own_more M W (by omega) h
    have l1 : (done ++ [h]).length = done.length + 1 := by simp
    obtain ⟨o2, f, W3⟩ := own_all M rest (done ++ [h]) _ W2 (by omega)
    rw [List.append_assoc, List.singleton_append] at f W3
    refine ⟨o2, ?_, W3⟩
    rw [List.foldl_cons, stepF_some e, ← l1]
    exact f
/-- the table laid anew, with the mask M -/
theorem laid (t : SetTable) {hs : Array Int} {wanted M : Nat} (hw : SetTable.sizeAbove wanted - 1 = M) (met : Met M) (room : hs.size ≤ M) :
    ∃ t2 order, t.relaid hs wanted = some (t2, order) ∧ order.toList.Perm (List.range hs.size) ∧ Tb t2 (order.toList.map fun i => hs.getD i 0) ∧ t2.mask = M ∧ t2.led = t.led ∧ t2.plain = t.plain := by
  obtain ⟨owner, f, W⟩ := own_all met hs.toList [] _ (L2.Own.init M) (by rw [List.length_nil, Array.length_toList]; omega)
  rw [List.nil_append] at W
  have lay : SetTable.layClean M hs = some owner := by
    rw [layClean_eq, show hs.toList.foldl (stepF M) (some (Array.replicate (M + 1) none, 0)) = some (owner, ([] ++ hs.toList).length) from f]
    rfl
  have rl : t.relaid hs wanted = some (tabOf t M owner, ((liveOf M owner).map (·.2)).toArray) := by
    rw [relaid_eq, hw, lay]
    rfl
  have mem := fun {j k : Nat} => mem_live (m := M) (owner := owner) W.sz (j := j) (k := k)
  obtain ⟨up, sub⟩ : Ris ((liveOf M owner).map (·.1)) ∧ ∀ x ∈ (liveOf M owner).map (·.1), x ∈ List.range (M + 1) := ris_live (fun j => owner.getD j none) (List.range (M + 1)) List.pairwise_lt_range
  have nd : ((liveOf M owner).map (·.1)).Nodup := up.imp fun h => Nat.ne_of_lt h
  have hlen : (liveOf M owner).length = hs.size := by
    obtain ⟨ps, p1, p2⟩ := W.ps
    have a := nat_nodup_len _ ps nd fun x hx => by
      obtain ⟨q, hq, rfl⟩ := List.mem_map.mp hx
      obtain ⟨b1, b2⟩ := mem.mp hq
      exact p2 _ b1 (by rw [b2]; simp)
    have b := nat_nodup_len (List.range hs.size) ((liveOf M owner).map (·.2)) List.nodup_range fun k hk => by
      obtain ⟨j, b1, b2⟩ := W.all k (List.mem_range.mp hk)
      exact List.mem_map.mpr ⟨(j, k), mem.mpr ⟨b1, b2⟩, rfl⟩
    simp only [List.length_map, List.length_range] at a b
    have c : ps.length = hs.size := p1
    omega
  refine ⟨_, _, rl, ?_, ⟨up, rfl, ?_, met, fun x hx => Nat.le_of_lt_succ (List.mem_range.mp (sub x hx)), fun i h j e1 e2 => ?_⟩, rfl, rfl, rfl⟩
  · refine perm_range hs.size _ (by rw [List.length_map]; exact hlen) fun k hk => ?_
    obtain ⟨j, b1, b2⟩ := W.all k hk
    exact List.mem_map.mpr ⟨(j, k), mem.mpr ⟨b1, b2⟩, rfl⟩
  · show ((liveOf M owner).map (·.1)).toArray.size = (((liveOf M owner).map (·.2)).map fun i => hs.getD i 0).length
    simp
  · have e1' : (((liveOf M owner).map (·.2)).map fun i => hs.getD i 0)[i]? = some h := e1
    have e2' : ((liveOf M owner).map (·.1))[i]? = some j := e2
    simp only [List.getElem?_map] at e1' e2'
    cases hq : (liveOf M owner)[i]? with
    | none =>
      rw [hq] at e2'
      cases e2'
    | some q =>
      rw [hq] at e1' e2'
      injection e1' with e1'
      injection e2' with e2'
      subst e2'
      obtain ⟨b1, b2⟩ := mem.mp (List.mem_of_getElem? hq)
      obtain ⟨h0, K, a1, a2, a3⟩ := W.at_ _ _ b1 b2
      have eh : h0 = h := by
        rw [← e1']
        show h0 = hs.getD q.2 0
        rw [Array.getD_eq_getD_getElem?, ← Array.getElem?_toList, a1]
        rfl
      subst eh
      refine ⟨K, a2, fun q2 hq2 => ?_⟩
      show way M h0 q2 ∈ (liveOf M owner).map (·.1)
      cases z : oAt owner (way M h0 q2) with
      | none => exact absurd z (a3 q2 hq2)
      | some k2 => exact List.mem_map.mpr ⟨(_, k2), mem.mpr ⟨way_in, z⟩, rfl⟩
end VL.TW
namespace VL.TB
open PySem PySem.Spec L2
open PyProof.Rows hiding St

/-- a set of tuples: its rows, its table -/
structure SB (P : Program) (w : World) (h : Heap) (a : Addr) (L : List (Addr × List Int)) (es : Array (Int × Value)) (ep : Nat) (t : SetTable) : Prop where
  ob : ∃ o, h.get? a = some o ∧ o.ExactSet ∧ o.data = .set es ep t
  rows : es.toList = rowsOf P w L
  tab : TW.Tb t (L.map fun p => thash P w p.2)
  nd : (L.map (·.2)).Nodup
  tup : ∀ p ∈ L, IsT P w h p.2 p.1
  plain : t.plain = true
  led : w.params.followText "set-order" = true ∨ t.led = true
  room : L.length * 5 < t.mask * 3
  msk : MaskOk t.mask ∨ (t.mask = 511 ∧ 77 ≤ L.length)
theorem SB.of {P : Program} {w : World} {h : Heap} {a : Addr} {L : List (Addr × List Int)} {es : Array (Int × Value)} {ep : Nat} {t : SetTable} (R : SetTR P w h a L es ep t) : SB P w h a L es ep t :=
  ⟨R.ob, R.rows, TW.Tb.of R.tab, R.nd, R.tup, R.plain, R.led, R.room, .inl R.tab.mok⟩
theorem SB.low {P : Program} {w : World} {h : Heap} {a : Addr} {L : List (Addr × List Int)} {es : Array (Int × Value)} {ep : Nat} {t : SetTable} (B : SB P w h a L es ep t) (f : L.length < 64) : SetTR P w h a L es ep t :=
  ⟨B.ob, B.rows, B.tab.low (B.msk.resolve_right fun z => by omega), B.nd, B.tup, B.plain, B.led, B.room, f⟩
section
variable {P : Program} {w : World} {A : Around} {E : Value → Shared → Prop} {s : Shared} {a : Addr} {L : List (Addr × List Int)} {es : Array (Int × Value)} {ep : Nat} {t : SetTable}
theorem SB.top (B : SB P w s.heap a L es ep t) : t.mask ≤ 511 := by
  rcases B.msk with (e | e | e) | ⟨e, _⟩ <;> omega
theorem SB.most (B : SB P w s.heap a L es ep t) : L.length ≤ 306 := by
  have := B.room
  have := B.top
  omega
theorem SB.size (B : SB P w s.heap a L es ep t) : es.size = L.length := by
  rw [← Array.length_toList, B.rows]
  simp [rowsOf]
theorem SB.at (B : SB P w s.heap a L es ep t) {i : Nat} {p : Addr × List Int} (h : L[i]? = some p) : es[i]? = some (thash P w p.2, Value.ref p.1) := by
  rw [← Array.getElem?_toList, B.rows, rowsOf, List.getElem?_map, h]
  rfl
theorem SB.stays (B : SB P w s.heap a L es ep t) : ¬ t.gaveWay = true := by
  rw [SetTable.gaveWay, B.tab.met.1]
  decide
/-- the c-th stand on the way of a hash -/
abbrev stand (t : SetTable) (h : Int) (c : Nat) : SetTable.Probe := nth t.mask (runAt t.mask (SetTable.bits h % (t.mask + 1)) (SetTable.bits h)) c
/-- what the set holds behind i items -/
structure Has (ks : List (Addr × List Int)) (i : Nat) (L : List (Addr × List Int)) : Prop where
  sub : ∀ p ∈ L, p ∈ ks
  all : ∀ p ∈ ks.take i, p.2 ∈ L.map (·.2)
theorem Has.next {ks L L' : List (Addr × List Int)} {i : Nat} {p : Addr × List Int} (g : Has ks i L) (e : ks[i]? = some p) (same : p.2 ∈ L.map (·.2) → L' = L) (more : p.2 ∉ L.map (·.2) → L'.Perm (p :: L)) : Has ks (i + 1) L' := by
  have cut : ks.take (i + 1) = ks.take i ++ [p] := by rw [List.take_succ, e]; rfl
  by_cases c : p.2 ∈ L.map (·.2)
  · rw [same c]
    refine ⟨g.sub, fun q hq => ?_⟩
    rw [cut] at hq
    rcases List.mem_append.mp hq with hq | hq
    · exact g.all q hq
    · rw [List.mem_singleton.mp hq]; exact c
  · have pm := more c
    refine ⟨fun q hq => ?_, fun q hq => ?_⟩
    · rcases List.mem_cons.mp (pm.mem_iff.mp hq) with e2 | m
      · rw [e2]; exact List.mem_of_getElem? e
      · exact g.sub q m
    · rw [(pm.map (·.2)).mem_iff, List.map_cons]
      rw [cut] at hq
      rcases List.mem_append.mp hq with hq | hq
      · exact List.mem_cons_of_mem _ (g.all q hq)
      · rw [List.mem_singleton.mp hq]; exact List.mem_cons_self
/-- there are never more than 200 -/
def Few (ks : List (Addr × List Int)) : Prop := ∀ L : List (Addr × List Int), (L.map (·.2)).Nodup → (∀ p ∈ L, p ∈ ks) → L.length ≤ 200
theorem SB.stay {h h' : Heap} {a : Addr} {L : List (Addr × List Int)} {es : Array (Int × Value)} {ep : Nat} {t : SetTable} (B : SB P w h a L es ep t) (ha : ∀ o, h.get? a = some o → h'.get? a = some o) (ht : ∀ p ∈ L, IsT P w h' p.2 p.1) : SB P w h' a L es ep t := by
  obtain ⟨o, ho, r⟩ := B.ob
  exact ⟨⟨o, ha o ho, r⟩, B.rows, B.tab, B.nd, ht, B.plain, B.led, B.room, B.msk⟩
abbrev bare (w : World) : Obj := { cls := .type "set", dict := none, data := .set #[] 0 (.fresh 0 0 (!w.params.followText "set-order")) }
/-! ### sorting any number of them -/
end
/-! ### the rules over abstract heaps -/
/-- the set at a, the tuples themselves apart -/
def SB0 (P : Program) (w : World) (h : Heap) (a : Addr) (L : List (Addr × List Int)) : Prop :=
  ∃ (es : Array (Int × Value)) (ep : Nat) (t : SetTable), (∃ o, h.get? a = some o ∧ o.ExactSet ∧ o.data = .set es ep t) ∧ es.toList = rowsOf P w L ∧ TW.Tb t (L.map fun p => thash P w p.2) ∧ (L.map (·.2)).Nodup ∧ t.plain = true ∧
    (w.params.followText "set-order" = true ∨ t.led = true) ∧ L.length * 5 < t.mask * 3 ∧ (MaskOk t.mask ∨ (t.mask = 511 ∧ 77 ≤ L.length))
def SetO (P : Program) (w : World) (a : Addr) (L : List (Addr × List Int)) : HO := .ext fun h => SB0 P w h a L
section
variable {X : Cx}
theorem setO_new {P : Program} {w : World} {H : Hp} {h : Heap} {a : Addr} {L : List (Addr × List Int)} {es : Array (Int × Value)} {ep : Nat} {t : SetTable} (B : SB P w h a L es ep t) : ObjOk P w H h a (SetO P w a L) := by
  have b0 : SB0 P w h a L := ⟨es, ep, t, B.ob, B.rows, B.tab, B.nd, B.plain, B.led, B.room, B.msk⟩
  obtain ⟨o, ho, _⟩ := B.ob
  refine ⟨b0, ⟨o, ho⟩, fun h1 h2 p k => ?_⟩
  obtain ⟨es', ep', t', ⟨o', ho', r'⟩, q'⟩ := (p : SB0 P w h1 a L)
  exact ⟨es', ep', t', ⟨o', k o' ho', r'⟩, q'⟩
end
end VL.TB

/-! VL, part 19: sorted(set(xs)) of pairs; own lists out of a tuple. -/
namespace VL
open PySem PySem.Spec L2 PySem.W
open PyProof.Rows hiding St

/-! ### pairs -/
def keyP (p : Int × Int) : List Int := [p.1, p.2]
theorem pairOk_iff {p : Int × Int} (h : pairOk p = true) : (0 ≤ p.1 ∧ p.1 < 64) ∧ 0 ≤ p.2 ∧ p.2 < 64 := by
  simp only [pairOk, Bool.and_eq_true, decide_eq_true_eq] at h
  exact ⟨⟨h.1, h.2.1⟩, h.2.2.1, h.2.2.2⟩
theorem canon_mem {ps : List (Int × Int)} {q : Nat × Nat} : q ∈ canonP ps ↔ q.1 < 64 ∧ q.2 < 64 ∧ ((q.1 : Int), (q.2 : Int)) ∈ ps := by
  unfold canonP
  simp only [List.mem_flatMap, List.mem_range, List.mem_map, List.mem_filter, List.contains_iff_mem]
  constructor
  · rintro ⟨a, ha, b, ⟨hb, hm⟩, e⟩
    subst e
    exact ⟨ha, hb, hm⟩
  · rintro ⟨ha, hb, hm⟩
    exact ⟨q.1, ha, q.2, ⟨hb, hm⟩, rfl⟩
/-- no set of them has more -/
theorem few_of {ps : List (Int × Int)} (ok : ps.all pairOk = true) (hl : (canonP ps).length ≤ 150) {ks : List (Addr × List Int)} (hk : ks.map (·.2) = ps.map keyP) : TB.Few ks := by
  intro L nd sub
  have to : ∀ k ∈ L.map (·.2), ∃ q ∈ canonP ps, k = [(q.1 : Int), (q.2 : Int)] := fun k hm => by
    obtain ⟨p, pm, rfl⟩ := List.mem_map.mp hm
    have h1 : p.2 ∈ ks.map (·.2) := List.mem_map.mpr ⟨p, sub p pm, rfl⟩
    rw [hk] at h1
    obtain ⟨q, qm, e⟩ := List.mem_map.mp h1
    obtain ⟨⟨a1, a2⟩, b1, b2⟩ := pairOk_iff (List.all_eq_true.mp ok q qm)
    refine ⟨(q.1.toNat, q.2.toNat), canon_mem.mpr ⟨by omega, by omega, ?_⟩, ?_⟩
    · show ((q.1.toNat : Int), (q.2.toNat : Int)) ∈ ps
      rw [Int.toNat_of_nonneg a1, Int.toNat_of_nonneg b1]
      exact qm
    · rw [← e]
      show [q.1, q.2] = [(q.1.toNat : Int), (q.2.toNat : Int)]
      rw [Int.toNat_of_nonneg a1, Int.toNat_of_nonneg b1]
  have h2 : (L.map (·.2)).Nodup := nd
  have h3 : ∀ k ∈ L.map (·.2), k ∈ (canonP ps).map fun q => [(q.1 : Int), (q.2 : Int)] := fun k hm => by
    obtain ⟨q, qm, e⟩ := to k hm
    exact List.mem_map.mpr ⟨q, qm, e.symm⟩
  have key : ∀ (l D : List (List Int)), l.Nodup → (∀ x ∈ l, x ∈ D) → l.length ≤ D.length := by
    intro l
    induction l with
    | nil => exact fun _ _ _ => Nat.zero_le _
    | cons x l ih =>
      intro D hn hs
      obtain ⟨n1, n2⟩ := List.nodup_cons.mp hn
      have hx : x ∈ D := hs x List.mem_cons_self
      have := ih (D.erase x) n2 fun y hy => (List.mem_erase_of_ne fun (e : y = x) => n1 (e ▸ hy)).2 (hs y (List.mem_cons_of_mem _ hy))
      have e := List.length_erase_of_mem hx
      have hp : 0 < D.length := List.length_pos_of_mem hx
      rw [List.length_cons]
      omega
  have := key _ _ h2 h3
  rw [List.length_map, List.length_map] at this
  omega
section
variable {X : Cx} {p : Par} {e : Expr} {c : E} {q0 q1 pos pos1 : Pos}
end
/-! ### own things out of a tuple -/
def setS : List Nat → List V → L2.St → L2.St
  | i :: is, w :: ws, σ => setS is ws (σ.set i (some w))
  | _, _, σ => σ
section
variable {X : Cx} {p : Par} {e : Expr} {c : E} {pos : Pos} {es : List Expr} {is : List Nat}
theorem SRel.setAll {K : PySem.W.Frag} {H0 H : Hp} {F0 F : Addr → Prop} {d : Nat} : ∀ {is : List Nat} {vs : List Val} {ws : List V} {S : List Addr} {ρ : Env} {O : Nat → List Addr} {σ : L2.St}, SRel K H0 F0 ρ F O σ H → OwnA K H F d S ws vs → vs.length = is.length → nodupB is = true → (∀ i ∈ is, i < ρ.length) →
    (∀ a ∈ S, ¬ F a ∧ (∀ j, a ∉ O j) ∧ H0 a = none) → ∃ O', SRel K H0 F0 (VL.setAll is vs d ρ) F O' (setS is ws σ) H
  | [], [], ws, S, ρ, O, σ, R, o, _, _, _, _ => by
    simp only [OwnA] at o
    obtain ⟨_, rfl⟩ := o
    exact ⟨O, R⟩
  | [], _ :: _, _, _, _, _, _, _, _, e, _, _, _ => by cases e
  | _ :: _, [], _, _, _, _, _, _, _, e, _, _, _ => by cases e
  | i :: is, v :: vs, ws, S, ρ, O, σ, R, o, hl, nd, hi, hS => by
    simp only [OwnA] at o
    obtain ⟨w, r, S1, S2, rfl, rfl, dj, o1, o2⟩ := o
    unfold nodupB at nd
    rw [Bool.and_eq_true] at nd
    have R1 : SRel K H0 F0 (ρ.set i (some (v, d))) F (fun j => if j = i then S1 else O j) (σ.set i (some w)) H := by
      refine ⟨R.rel.set (hi i List.mem_cons_self) o1 fun a m => ⟨(hS a (List.mem_append_left _ m)).1, fun j _ => (hS a (List.mem_append_left _ m)).2.1 j⟩, R.grow, fun j a h => ?_⟩
      by_cases e : j = i
      · rw [if_pos e] at h
        exact (hS a (List.mem_append_left _ h)).2.2
      · rw [if_neg e] at h
        exact R.new j a h
    have := R1.setAll (is := is) (vs := vs) (d := d) o2 (by simpa using hl) nd.2 (fun j hj => by rw [List.length_set]; exact hi j (List.mem_cons_of_mem _ hj)) fun a m => ⟨(hS a (List.mem_append_right _ m)).1, fun j h => ?_, (hS a (List.mem_append_right _ m)).2.2⟩
    · obtain ⟨O', R'⟩ := this
      exact ⟨O', R'⟩
    · by_cases e : j = i
      · rw [if_pos e] at h
        exact dj a h m
      · rw [if_neg e] at h
        exact (hS a (List.mem_append_right _ m)).2.1 j h
end
end VL

/-! VL, part 20: what is told is new, by what it holds. -/
namespace VL
open PySem PySem.Spec L2 PySem.W
open PyProof.Rows hiding St

/-- no list stands in K -/
def NoL (K : PySem.W.Frag) : Prop := ∀ (H : Hp) (a : Addr) (ws : List V), SqL K H a ws → Rd H a (.lst ws)
section
variable {K : PySem.W.Frag} {H H' : Hp} {F F' : Addr → Prop}
end

section
variable {X : Cx} {p : Par} {n hh g frg : Nat} {xh xg : Str} {psh psg : List Str} {Pr : Prog} {tg a e ex : Expr} {es : List Expr} {ca : E} {cs : List E} {t : Pat} {body : List Stmt} {cb : List S} {q0 q1 p1 p2 pos pos2 : Pos} {kl : List Nat}
end

/-! ### K without its lists -/
def isLst (o : Obj) : Bool := match o.data with
  | .seq _ _ => (match o.cls with
    | .type n => n == "list"
    | _ => false)
  | _ => false
def keyOk (K : PySem.W.Frag) (a : Addr) : Bool := match K.lookup a with
  | some o => !isLst o
  | none => true
def noLK (K : PySem.W.Frag) : PySem.W.Frag := K.filter fun q => keyOk K q.1
theorem lookup_filter_key {f : Addr → Bool} {a : Addr} : ∀ l : List (Addr × Obj), (l.filter fun q => f q.1).lookup a = if f a then l.lookup a else none
  | [] => by simp
  | (b, o) :: r => by
    have ih := lookup_filter_key (f := f) (a := a) r
    by_cases e : a = b
    · subst e
      cases h : f a with
      | true => simp [List.filter, h, List.lookup]
      | false => simp [List.filter, h, ih]
    · have e2 : (a == b) = false := by simpa using e
      cases h : f b with
      | true => simp [List.filter, h, List.lookup, e2, ih]
      | false => simp [List.filter, h, List.lookup, e2, ih]
theorem noLK_to {K : PySem.W.Frag} {a : Addr} {o : Obj} (h : (noLK K).lookup a = some o) : K.lookup a = some o ∧ isLst o = false := by
  have e : (noLK K).lookup a = if keyOk K a then K.lookup a else none := lookup_filter_key (f := keyOk K) K
  rw [e] at h
  split at h
  · rename_i k
    refine ⟨h, ?_⟩
    unfold keyOk at k
    rw [h] at k
    simpa using k
  · cases h
theorem noLK_in {K : PySem.W.Frag} {h : Heap} (X : K.In h) : (noLK K).In h := fun a o e => X a o (noLK_to e).1
theorem noLK_NoL (K : PySem.W.Frag) : NoL (noLK K) := fun H a ws s => by
  rcases s with s | ⟨o, its, n, hk, hc, hd, hs, _⟩
  · exact s
  · have := (noLK_to hk).2
    unfold isLst at this
    rw [hs, hc] at this
    simp at this
end VL

/-! VL, part 21: {f(..) for .. in .. if ..} of pairs of numbers, sorted. -/
namespace VL.TB
open PySem PySem.Spec L2 PySem.W
open PyProof.Rows hiding St

section
variable {X : Cx} {pins : List (Addr × Obj)} {σ : St} {H : Hp} {s : Shared} {E : Value → Shared → Prop}
end
end VL.TB

/-! VL, part 22: sorted({(x, y) for .. in .. if ..}). -/
namespace VL
open PySem PySem.Spec L2 PySem.W
open PyProof.Rows hiding St

/-- what the set at D holds of the rows ks -/
structure Hold (K : PySem.W.Frag) (P : Program) (w : World) (D : Addr) (H : Hp) (ks : List (Addr × List Int)) (L : List (Addr × List Int)) : Prop where
  at_ : H D = some (TB.SetO P w D L)
  rows : ∀ p ∈ ks, SqT K H p.1 (p.2.map V.int)
  sub : ∀ p ∈ L, p ∈ ks
  all : ∀ p ∈ ks, p.2 ∈ L.map (·.2)
  nd : (L.map (·.2)).Nodup
theorem Hold.up {K : PySem.W.Frag} {P : Program} {w : World} {D : Addr} {H H' : Hp} {ks L : List (Addr × List Int)} (h : Hold K P w D H ks L) (s : Same H H') : Hold K P w D H' ks L := ⟨s _ _ h.at_, fun p hp => sqT_same s (h.rows p hp), h.sub, h.all, h.nd⟩
theorem Hold.room {K : PySem.W.Frag} {P : Program} {w : World} {D a : Addr} {H : Hp} {ks L : List (Addr × List Int)} {k : List Int} {ps : List (Int × Int)} {rest : List (List Int)} (h : Hold K P w D H ks L) (ok : ps.all pairOk = true) (hl : (canonP ps).length ≤ 150) (e : ks.map (·.2) ++ k :: rest = ps.map keyP) (n : k ∉ L.map (·.2)) : L.length < 200 := by
  have few := few_of ok hl (ks := ks ++ (a, k) :: rest.map fun r => (a, r)) (by
    rw [List.map_append, List.map_cons, List.map_map, ← e]
    congr 2
    exact List.map_id' _)
  have := few ((a, k) :: L) (by rw [List.map_cons]; exact List.nodup_cons.mpr ⟨n, h.nd⟩) fun q hq => by
    rcases List.mem_cons.mp hq with z | z
    · rw [z]
      exact List.mem_append_right _ List.mem_cons_self
    · exact List.mem_append_left _ (h.sub q z)
  rw [List.length_cons] at this
  omega
theorem Hold.add {K : PySem.W.Frag} {P : Program} {w : World} {D a : Addr} {H : Hp} {ks L L' : List (Addr × List Int)} {k : List Int} (h : Hold K P w D H ks L) (ha : SqT K H a (k.map V.int)) (c1 : k ∈ L.map (·.2) → L' = L) (c2 : k ∉ L.map (·.2) → L'.Perm ((a, k) :: L)) (nD : ∀ b xs, SqT K H b xs → SqT K (upd H D (TB.SetO P w D L')) b xs) :
    Hold K P w D (upd H D (TB.SetO P w D L')) (ks ++ [(a, k)]) L' := by
  refine ⟨upd_same, fun p hp => ?_, fun p hp => ?_, fun p hp => ?_, ?_⟩
  · rcases List.mem_append.mp hp with z | z
    · exact nD _ _ (h.rows p z)
    · rw [List.mem_singleton.mp z]
      exact nD _ _ ha
  · by_cases c : k ∈ L.map (·.2)
    · rw [c1 c] at hp
      exact List.mem_append_left _ (h.sub p hp)
    · rcases List.mem_cons.mp ((c2 c).mem_iff.mp hp) with z | z
      · rw [z]
        exact List.mem_append_right _ List.mem_cons_self
      · exact List.mem_append_left _ (h.sub p z)
  · by_cases c : k ∈ L.map (·.2)
    · rw [c1 c]
      rcases List.mem_append.mp hp with z | z
      · exact h.all p z
      · rw [List.mem_singleton.mp z]
        exact c
    · rw [((c2 c).map (·.2)).mem_iff, List.map_cons]
      rcases List.mem_append.mp hp with z | z
      · exact List.mem_cons_of_mem _ (h.all p z)
      · rw [List.mem_singleton.mp z]
        exact List.mem_cons_self
  · by_cases c : k ∈ L.map (·.2)
    · rw [c1 c]
      exact h.nd
    · rw [((c2 c).map (·.2)).nodup_iff, List.map_cons]
      exact List.nodup_cons.mpr ⟨c, h.nd⟩
section
variable {X : Cx} {p : Par} {t : Pat} {w : List Nat} {ci ce : E} {co : Option E}
variable {elt tg iter : Expr} {ifs : List Expr} {scope : Scope} {own : List (PySem.Str × Nat)} {pos q0 pos1 : Pos}
end
end VL

/-! VL, part 23: sorted(set(xs)), xs a list of ints. -/
namespace VL.IB
open PySem PySem.Spec L2
open PyProof.Rows hiding St

section
variable {P : Program} {w : World} {A : Around} {E : Value → Shared → Prop} {s : Shared}
abbrev bare (w : World) : Obj := { cls := .type "set", dict := none, data := .set #[] 0 (.fresh 0 0 (!w.params.followText "set-order")) }
end
section
variable {X : Cx}
end
end VL.IB
namespace VL
open PySem PySem.Spec L2 PySem.W
open PyProof.Rows hiding St
section
variable {X : Cx} {p : Par} {e : Expr} {c : E} {q0 q1 pos pos1 : Pos}
end
end VL

/-! VL, part 24: a new list out of a tuple, lent for tests; tuples of new things; four compared. -/
namespace VL
open PySem PySem.Spec L2 PySem.W
open PyProof.Rows hiding St

/-! ### atoms and tuples -/
section
variable {X : Cx} {p : Par} {e a b c4 d4 : Expr} {c ca cb cc cd : E} {es : List Expr} {cs : List E} {pos : Pos}
end
end VL

/-! VL, part 25: a, b, xs = t; two tests; xs.append(e): t's new list, lent for the tests. -/
namespace VL
open PySem PySem.Spec L2 PySem.W
open PyProof.Rows hiding St

section
variable {K : PySem.W.Frag} {F : Addr → Prop} {H : Hp}
end
end VL

/-! VL, part 26: the statements a, b, xs = t; if ..: return False; if ..: return False; xs.append(n) -/
namespace VL
open PySem PySem.Spec L2 PySem.W
open PyProof.Rows hiding St

section
variable {X : Cx} {p : Par} {fr : Nat} {e1 e2 : Expr} {c1 c2 : E} {x y : Str} {es : List Expr} {is : List Nat} {rest : List Stmt} {crest : List S} {z : Int} {kt j1 j2 jz : Nat} {pt qx pos qr1 qr2 pr1 pr2 p1 p2 q0 q1 q2 qz pos5 : Pos}
end
end VL

/-! VL, part 27: a second core, for defs that raise, and try. -/
namespace VL
open PySem PySem.Spec L2 PySem.W
open PyProof.Rows hiding St

/-- what is made of a caught error's number -/
inductive XA where
  | at
  | strAt (pre : Str)
  | pair (lit : Str)
/-- what an except clause does -/
inductive HX where
  | app (j : Nat) (x : XA)
  | ret (x : XA)
  | retE
inductive SX where
  | base (s : S)
  | callx (f : Nat) (es : List E)
  | callv (fs : List Nat) (ix : E) (es : List E)
  | setx (i f : Nat) (es : List E)
  | seteqx (i f : Nat) (es : List E) (b : E)
  | retx (f : Nat) (es : List E)
  | raisex (c : Str) (e : E)
  | ifx (c : E) (a b : List SX)
  | forx (t : Pat) (it : E) (body : List SX)
  | tryx (cl : List Str) (body : List SX) (hs : List (Str × Nat × HX))
/-- an end; ex: with the slots as they then stand -/
inductive OX where
  | nx (ρ : Env)
  | rt (v : Val)
  | bk (ρ : Env)
  | ct (ρ : Env)
  | ex (ρ : Env) (c : Str) (i : Int)
def Out.x : Out → OX
  | .nx ρ => .nx ρ
  | .rt v => .rt v
  | .bk ρ => .bk ρ
  | .ct ρ => .ct ρ
def xaV : XA → Int → Val
  | .at, i => .int i
  | .strAt pre, i => .str (pre ++ (toString i : Str))
  | .pair lit, i => .tuple [.str lit, .int i]
def xaOk : XA → Int → Bool
  | .strAt pre, i => decide (i.natAbs.log2 < 1920) && sizeOk (pre.length + (toString i : Str).length)
  | _, _ => true
def intRes : Val → Res Int
  | .int i => .ok i
  | _ => .bad
/-- the effect of a clause on the slots -/
def actX (h : HX) (k : Nat) (c : Str) (i : Int) (ρ : Env) : Res OX := match h with
  | .app j x => (getOwn (ρ.set k none) j 1).bind fun (xs, _) => Res.guard (xaOk x i && (!(j == k) && sizeOk (xs.length + 1))) (.ok (.nx ((ρ.set k none).set j (some (.list (xs ++ [xaV x i]), 1)))))
  | .ret x => Res.guard (xaOk x i) (.ok (.rt (xaV x i)))
  | .retE => .ok (.rt (.dict [(.str c, .int i)]))
def handleX : List (Str × Nat × HX) → Str → Int → Env → Res OX
  | [], c, i, ρ => .ok (.ex ρ c i)
  | (c', k, h) :: hs, c, i, ρ => match isA c c' with
    | true => Res.guard (Nat.blt k ρ.length) (actX h k c i ρ)
    | false => handleX hs c i ρ
def callRes : Res Val → Env → Res OX
  | .ok _, ρ => .ok (.nx ρ)
  | .exc c v, ρ => (intRes v).bind fun i => .ok (.ex ρ c i)
  | .bad, _ => .bad
/-- x = f(..) -/
def setRes (i : Nat) : Res Val → Env → Res OX
  | .ok v, ρ => Res.guard (Nat.blt i ρ.length) (.ok (.nx (ρ.set i (some (v, 0)))))
  | .exc c v, ρ => (intRes v).bind fun n => .ok (.ex ρ c n)
  | .bad, _ => .bad
/-- return f(..) -/
def retRes : Res Val → Env → Res OX
  | .ok v, _ => .ok (.rt v)
  | .exc c v, ρ => (intRes v).bind fun n => .ok (.ex ρ c n)
  | .bad, _ => .bad
def forLX (b : Val → Env → Res OX) : List Val → Env → Res OX
  | [], ρ => .ok (.nx ρ)
  | v :: vs, ρ => (b v ρ).bind fun o => match o with
    | .nx ρ' => forLX b vs ρ'
    | .ct ρ' => forLX b vs ρ'
    | .bk ρ' => .ok (.nx ρ')
    | .rt v => .ok (.rt v)
    | .ex ρ' c i => .ok (.ex ρ' c i)
section
variable (cf : Nat → List Val → Res Val)
mutual
def evalX : SX → Env → Res OX
  | .base s, ρ => (evalS cf s ρ).bind fun o => .ok o.x
  | .callx f es, ρ => (evalEs cf 0 es ρ).bind fun vs => callRes (cf f vs) ρ
  | .callv fs ix es, ρ => (evalE cf 9 ix ρ).bind fun j => (ixOf fs.length j).bind fun j => match fs[j]? with
    | some f => (evalEs cf 0 es ρ).bind fun vs => callRes (cf f vs) ρ
    | none => .bad
  | .setx i f es, ρ => (evalEs cf 0 es ρ).bind fun vs => setRes i (cf f vs) ρ
  | .seteqx i f es b, ρ => (evalEs cf 0 es ρ).bind fun vs => match cf f vs with
    | .ok v => (evalE cf 9 b ρ).bind fun w => (vEq v w).bind fun r => setRes i (.ok r) ρ
    | r => setRes i r ρ
  | .retx f es, ρ => (evalEs cf 0 es ρ).bind fun vs => retRes (cf f vs) ρ
  | .raisex c e, ρ => (evalE cf 9 e ρ).bind fun v => (intRes v).bind fun i => .ok (.ex ρ c i)
  | .ifx c a b, ρ => (evalE cf 9 c ρ).bind fun x => (asBool x).bind fun t => match t with
      | true => evalXs a ρ
      | false => evalXs b ρ
  | .forx t it body, ρ => (evalE cf 0 it ρ).bind fun s => (asSeq s).bind fun xs => forLX (fun v ρ => (bindP t v ρ).bind fun ρ' => evalXs body ρ') xs ρ
  | .tryx cl body hs, ρ => (evalXs body ρ).bind fun o => match o with
      | .ex ρ' c i => Res.guard (cl.contains c) (handleX hs c i ρ')
      | o => .ok o
def evalXs : List SX → Env → Res OX
  | [], ρ => .ok (.nx ρ)
  | s :: ss, ρ => (evalX s ρ).bind fun o => match o with
      | .nx ρ' => evalXs ss ρ'
      | o => .ok o
end
end
def finX : OX → Res Val
  | .nx _ => .ok .none
  | .rt v => .ok v
  | .ex _ c i => .exc c (.int i)
  | _ => .bad
structure DefX where
  np : Nat
  ns : Nat
  fr : Nat
  body : List SX
abbrev ProgX := Nat → Option DefX
/-- what is built in: a number's text, texts joined -/
def primV : Nat → List Val → Option (Res Val)
  | 90001, [.int i] => some (Res.guard (decide (i.natAbs.log2 < 1920)) (.ok (.str (toString i : Str))))
  | 90001, _ => some .bad
  | 90002, [.str a, .str b] => some (Res.guard (sizeOk (a.length + b.length)) (.ok (.str (a ++ b))))
  | 90002, _ => some .bad
  | 90003, [.list xs, .int k] => some (Res.guard (decide (0 ≤ k) && (decide (k < 1000000) && sizeOk (xs.length * k.toNat))) (.ok (.list (List.replicate k.toNat xs).flatten)))
  | 90003, _ => some .bad
  | _, _ => none
/-- the two programs: XP's defs by the second core, all others by the first -/
def evalDX (Pr : Prog) (XP : ProgX) : Nat → Nat → List Val → Res Val
  | n, f, vs => match primV f vs with
    | some r => r
    | none => match XP f with
      | none => evalD Pr n f vs
      | some d => match n with
        | 0 => .bad
        | n + 1 => Res.guard (decide (vs.length = d.np)) ((evalXs (evalDX Pr XP n) d.body (startE ⟨d.np, d.ns, d.fr, []⟩ vs)).quiet.bind finX)
end VL

/-! VL, part 28: the second core's statements. -/
namespace VL
open PySem PySem.Spec L2 PySem.W
open PyProof.Rows hiding St

def AfterX (K : PySem.W.Frag) (p : Par) (fr : Nat) (H0 : Hp) (F0 : Addr → Prop) (H : Hp) (F : Addr → Prop) (D : Ends) : OX → Prop
  | .nx ρ' => ∀ σ' H' F' O', SRel K H0 F0 ρ' F' O' σ' H' → Step H F H' F' → D.nx σ' H'
  | .ct ρ' => ∀ σ' H' F' O', SRel K H0 F0 ρ' F' O' σ' H' → Step H F H' F' → D.ct σ' H'
  | .bk ρ' => ∀ σ' H' F' O', SRel K H0 F0 ρ' F' O' σ' H' → Step H F H' F' → D.bk σ' H'
  | .rt v => ∀ u H' F' S, Grow H0 F0 H' F' → Own K H' F' fr S u v → (∀ a ∈ S, H0 a = none ∧ ¬ F' a) → D.rt u H'
  | .ex ρ' c i => ∀ σ' H' F' O' cls d, SRel K H0 F0 ρ' F' O' σ' H' → Step H F H' F' → XR p.ca c (.int i) cls d H' → p.W cls d σ' H'
theorem AfterX.step {K : PySem.W.Frag} {p : Par} {fr : Nat} {H0 H H1 : Hp} {F0 F F1 : Addr → Prop} {D : Ends} {o : OX} (h : AfterX K p fr H0 F0 H F D o) (s : Step H F H1 F1) : AfterX K p fr H0 F0 H1 F1 D o := by
  cases o with
  | nx ρ => exact fun σ' H' F' O' r s' => h σ' H' F' O' r (s.trans s')
  | ct ρ => exact fun σ' H' F' O' r s' => h σ' H' F' O' r (s.trans s')
  | bk ρ => exact fun σ' H' F' O' r s' => h σ' H' F' O' r (s.trans s')
  | rt v => exact h
  | ex ρ c i => exact fun σ' H' F' O' cls d r s' x => h σ' H' F' O' cls d r (s.trans s') x
def tX (K : PySem.W.Frag) (p : Par) (fr : Nat) (s : SX) : TS := fun D σ H => ∃ H0 F0 ρ F O o, SRel K H0 F0 ρ F O σ H ∧ evalX p.cf s ρ = .ok o ∧ AfterX K p fr H0 F0 H F D o
def tXs (K : PySem.W.Frag) (p : Par) (fr : Nat) (ss : List SX) : TS := fun D σ H => ∃ H0 F0 ρ F O o, SRel K H0 F0 ρ F O σ H ∧ evalXs p.cf ss ρ = .ok o ∧ AfterX K p fr H0 F0 H F D o
structure VX (X : Cx) (p : Par) (fr : Nat) (st : Stmt) (s : SX) : Prop where
  run : PS X st (tX X.K p fr s)
structure VXs (X : Cx) (p : Par) (fr : Nat) (sts : List Stmt) (ss : List SX) : Prop where
  run : PSs X sts (tXs X.K p fr ss)
section
variable {X : Cx} {p : Par} {fr : Nat} {e tg : Expr} {c : E} {t : Pat} {pos : Pos} {st : Stmt} {sts : List Stmt} {s : S} {sx : SX} {ss : List SX}
theorem vx_base (h : VS X p fr st s) : VX X p fr st (.base s) := ⟨PS.imp h.run fun D σ H ⟨H0, F0, ρ, F, O, o, R, ev, af⟩ => by
  have e' : ((evalS p.cf s ρ).bind fun o => Res.ok o.x) = .ok o := ev
  obtain ⟨o1, e1, e2⟩ := Res.bind_eq_ok e'
  cases e2
  refine ⟨H0, F0, ρ, F, O, o1, R, e1, ?_⟩
  cases o1 <;> exact af⟩
theorem vxs_nil : VXs X p fr [] [] := ⟨PSs.imp pss_nil fun D σ H ⟨H0, F0, ρ, F, O, o, R, e, a⟩ => by
  cases e
  exact a σ H F O R Step.refl⟩
theorem vxs_cons (h : VX X p fr st sx) (hs : VXs X p fr sts ss) : VXs X p fr (st :: sts) (sx :: ss) := ⟨PSs.imp (pss_cons h.run hs.run) fun D σ H ⟨H0, F0, ρ, F, O, o, R, e, a⟩ => by
  have e' : ((evalX p.cf sx ρ).bind fun o => match o with
    | .nx ρ' => evalXs p.cf ss ρ'
    | o => .ok o) = .ok o := e
  obtain ⟨o1, e1, e2⟩ := Res.bind_eq_ok e'
  refine ⟨H0, F0, ρ, F, O, o1, R, e1, ?_⟩
  cases o1 with
  | nx ρ' => exact fun σ' H' F' O' R' s' => ⟨H0, F0, ρ', F', O', o, R', e2, a.step s'⟩
  | ct ρ' => cases e2; exact a
  | bk ρ' => cases e2; exact a
  | rt v => cases e2; exact a
  | ex ρ' c i => cases e2; exact a⟩
theorem vx_if {a b : List Stmt} {ca cb : List SX} (hc : VT X p.nox e c) (ha : VXs X p fr a ca) (hb : VXs X p fr b cb) : VX X p fr (.If e a b pos) (.ifx c ca cb) := ⟨PS.imp (ps_if hc.run ha.run hb.run) fun D σ H ⟨H0, F0, ρ, F, O, o, R, ev, af⟩ => by
  have e' : ((evalE p.cf 9 c ρ).bind fun x => (asBool x).bind fun t => match t with
    | true => evalXs p.cf ca ρ
    | false => evalXs p.cf cb ρ) = .ok o := ev
  obtain ⟨x, e1, e2⟩ := Res.bind_eq_ok e'
  obtain ⟨t, e3, e4⟩ := Res.bind_eq_ok e2
  refine ⟨ρ, F, O, R.rel, ?_⟩
  show Run p.nox ((evalE p.cf 9 c ρ).bind asBool) σ H _
  rw [e1, Res.bind_ok, e3]
  intro H' F' g
  cases t with
  | true => exact ⟨H0, F0, ρ, F', O, o, R.grow' g, e4, af.step (Step.of g)⟩
  | false => exact ⟨H0, F0, ρ, F', O, o, R.grow' g, e4, af.step (Step.of g)⟩⟩
/-- raise C(e) -/
theorem vx_raise {n k : Nat} {Dd fI C : Addr} {x : Str} {ex : Expr} {ce : E} {q0 pos2 : Pos} {cn : Str} (hc : X.calm = true) (tk : Takes X p.W) (T : EX.WayT X.prog X.K n Dd fI) (Y : EX.WayC X.K Dd fI C) (hm : X.mg x = some (.ref C)) (hs : X.mg "super" = none) (hr : Room k X.A) (hca : p.ca cn = C) (ha : VE X p.nox ex ce)
    (hg : Gl X x := by rfl) (hdb : (x == ("__debug__" : Str)) = false := by decide) (he : starEach (ex :: []) X.env = (false, eval ex X.env) :: starEach [] X.env := by rfl) (hpl : (backTo pos2 (starEach [] X.env)).any (·.1) = false := by rfl) :
    VX X p fr (.Raise (some (.Call (.Name x q0) [ex] [] pos2)) none pos) (.raisex cn ce) := ⟨PS.imp (ps_raise hc tk (pmk_way T Y hm hs hr (pa_cons (ha.run 9) pa_nil he) hg hdb he hpl)) fun D σ H ⟨H0, F0, ρ, F, O, o, R, ev, af⟩ => by
  have e' : ((evalE p.cf 9 ce ρ).bind fun v => (intRes v).bind fun i => Res.ok (OX.ex ρ cn i)) = .ok o := ev
  obtain ⟨v, e1, e2⟩ := Res.bind_eq_ok e'
  obtain ⟨i, e3, e4⟩ := Res.bind_eq_ok e2
  cases e4
  have ei : v = .int i := by
    cases v with
    | int j => cases e3; rfl
    | _ => cases e3
  subst ei
  refine tE_ok R.rel e1 fun u H1 F1 g1 r1 => ⟨u, rfl, fun d hd => ?_⟩
  have eu := rep_int.mp r1
  subst eu
  have g2 := g1.trans (Grow.put (o := .xd [(("at" : Str), V.int i)]) g1.dom hd)
  exact af σ _ F1 O (.ref C) (some d) (R.grow' g2) (Step.of g2) ⟨by rw [hca], d, i, rfl, rfl, upd_same⟩⟩
end
end VL

/-! VL, part 29: defs that raise, and calls of them. -/
namespace VL
open PySem PySem.Spec L2 PySem.W
open PyProof.Rows hiding St

/-- the def at f keeps sp, wherever it is called with room and known guards; errors may leave it -/
structure FnE (P : Program) (w : World) (K : PySem.W.Frag) (mg : Str → Option Value) (base : Heap) (k : Nat) (f : Addr) (fd : FuncData) (ps : List Str) (sp : Sp) : Prop where
  len : ∀ vs H Q E, sp vs H Q E → vs.length = ps.length
  run : ∀ (A : Around) (outer : List PySem.Env) (s : Shared) (H : Hp) (args : Args) (us : List Value) (vs : List V) (Q : VK) (E : XK), Room k A → A.guards = some [] → Env0 P w K mg base A outer s H → BindsTo s fd args (ps.zip us) → Vals vs us → sp vs H Q E →
    codeAny (model P w) A (.call (.ref f) args) (CR (L2.CX P w) outer P w H s Q E) s
abbrev bodyCxE (P : Program) (w : World) (K : PySem.W.Frag) (mg : Str → Option Value) (base : Heap) (N : List Str) (qual : Str) (scope : Scope) (f : Addr) (cd : Value) (A : Around) (outer : List PySem.Env) (s : Shared) (H : Hp) (E : XK) : Cx :=
  cxOf (L2.CX P w) P w K mg base N qual scope f cd A outer s H E
section
variable {P : Program} {w : World} {K : PySem.W.Frag} {mg : Str → Option Value} {base : Heap} {k : Nat} {f : Addr} {fd : FuncData} {x qual : Str} {params : Arguments} {body : List Stmt} {scope : Scope} {N ps : List Str} {sp : Sp}
theorem fn_e (F : FunD K x qual params body scope [] [] f fd) (S : FnScope N ps scope) (len : ∀ vs H Q E, sp vs H Q E → vs.length = ps.length)
    (hb : ∀ (cdv : Value) (A : Around) (outer : List PySem.Env) (s : Shared) (H : Hp) (vs : List V) (Q : VK) (E : XK), Room k (A.deeper (envOfC qual scope s.heap.objs.size f cdv)) → A.guards = some [] → sp vs H Q E →
      ∃ t, PSs (bodyCxE P w K mg base N qual scope f cdv A outer s H E) body t ∧ t { nx := fun _ H' => Q .non H', rt := Q } (L2.start N vs) H) : FnE P w K mg base (k + 1) f fd ps sp := by
  obtain ⟨oc, od, dV, kV, doc, pm, an, cdv, ct, osl, rfl, at_, code, _, _⟩ := F.ex
  refine ⟨len, fun A outer s H args us vs Q E room gd e0 bd rv pr => ?_⟩
  have old : ∀ b o, base.get? b = some o → s.heap.get? b = some o := fun b o e => (e0.bs b o e).1
  have inK : K.In s.heap := e0.mod.kin.keeps old
  have kinds : ∀ y ∈ ps.zip us, scope.names.lookup y.1 = some .local ∨ (scope.names.lookup y.1 = some .cell ∧ ((cellsFrom (s.heap.objs.size + 1) scope.names []).lookup y.1).isSome = true) := fun ⟨n, v⟩ hy =>
    (S.par n (List.of_mem_zip hy).1).imp id fun q => ⟨q, PySem.W.cellsFrom_some _ _ _ (.inl q)⟩
  refine codeAny_call_function room.depth (inK _ _ at_) rfl S.co S.gen rfl (PySem.W.codeRec_of inK code) (bd _ _ _ _ (wpAny_newFunctionEnv_cells S.kind kinds fun env he sn xn => ?_))
  subst he
  refine ⟨(e0.mod.nolimit.keeps old).keeps xn.toInCall.keep, codeAny_func ?_⟩
  obtain ⟨t, pt, qt⟩ := hb cdv A outer s H vs Q E (room.deeper _) gd pr
  refine wpAny_mono (pt.run [] sn (L2.start N vs) H _ (inv_start S room.hd e0 (len _ _ _ _ pr) rv xn) qt) (fun fl s' hs => ?_) fun e s' hs => hs
  cases fl with
  | next => exact let ⟨_, H', J, q⟩ := hs; ⟨.non, H', J.os, J.bare, J.base, J.hok, rfl, q⟩
  | ret u => exact let ⟨v, _, H', J, r, q⟩ := hs; ⟨v, H', J.os, J.bare, J.base, J.hok, r, q⟩
  | brk => exact hs.elim fun _ h => h.elim fun _ h => h.2.elim
  | cont => exact hs.elim fun _ h => h.elim fun _ h => h.2.elim
/-- a def that raises, by its global name -/
def CalE (P : Program) (w : World) (K : PySem.W.Frag) (mg : Str → Option Value) (base : Heap) (k : Nat) (x : Str) (ps : List Str) (sp : Sp) : Prop :=
  ∃ f fd, mg x = some (.ref f) ∧ PySem.W.keepIn K (.ref f) = true ∧ Binds K fd ps [] ∧ FnE P w K mg base k f fd ps sp
/-- the promise by a core: a value, or an error -/
def spE (ca : Str → Addr) (cf : Nat → List Val → Res Val) (f fr : Nat) (K : PySem.W.Frag) : Sp := fun vs H Q E => ∃ (F : Addr → Prop) (xs : List Val), (∀ a, F a → H a ≠ none) ∧ RepA K H F 0 vs xs ∧
  ((∃ v, cf f xs = .ok v ∧ ∀ u H' F' S, Grow H F H' F' → Own K H' F' fr S u v → (∀ a ∈ S, H a = none ∧ ¬ F' a) → Q u H') ∨
   (∃ c i, cf f xs = .exc c (.int i) ∧ ∀ cls d H' F', Grow H F H' F' → XR ca c (.int i) cls d H' → E cls d H'))
/-- .. where no error is -/
def spC (cf : Nat → List Val → Res Val) (f fr : Nat) (K : PySem.W.Frag) : SpV := fun vs H Q => ∃ (F : Addr → Prop) (xs : List Val) (v : Val), (∀ a, F a → H a ≠ none) ∧ RepA K H F 0 vs xs ∧ cf f xs = .ok v ∧
  ∀ u H' F' S, Grow H F H' F' → Own K H' F' fr S u v → (∀ a ∈ S, H a = none ∧ ¬ F' a) → Q u H'
theorem CalE.quiet {ca : Str → Addr} {cf : Nat → List Val → Res Val} {g fr : Nat} (C : CalE P w K mg base k x ps (spE ca cf g fr K)) : Cal P w K mg base k x ps (spC cf g fr K) := by
  obtain ⟨f, fd, hm, hk, hb, F⟩ := C
  refine ⟨f, fd, hm, hk, hb, fun vs H Q ⟨F0, xs, v, dm, r, e, q⟩ => F.len vs H Q (fun _ _ _ => False) ⟨F0, xs, dm, r, .inl ⟨v, e, q⟩⟩, fun A outer s H args us vs Q hr gd e0 bd rv ⟨F0, xs, v, dm, r, e, q⟩ => ?_⟩
  refine codeAny_mono (F.run A outer s H args us vs Q (fun _ _ _ => False) hr gd e0 bd rv ⟨F0, xs, dm, r, .inl ⟨v, e, q⟩⟩) fun r s' hq => ?_
  cases r with
  | error e =>
    obtain ⟨_, _, _, _, _, _, _, _, _, _, _, _, w⟩ := (show L2.CX P w outer H s (fun _ _ _ => False) e s' from hq)
    exact w
  | ok fl => cases fl <;> exact hq
end
section
variable {X : Cx} {p : Par} {k fr : Nat} {x : Str} {ps : List Str} {sp : Sp} {q0 pos pos2 : Pos} {e : Expr} {es : List Expr} {cs : List E} {t : TA} {g gr : Nat} {W : WX}
def tCallE (sp : Sp) (W : WX) (t : TA) : TE := fun σ H Q => t σ H fun vs H1 => sp vs H1 Q fun cls d H' => W cls d σ H'
theorem pe_callE (C : CalE X.prog X.w X.K X.mg X.base k x ps sp) (tk : Takes X W) (hr : Room k X.A) (gd : X.A.guards = some []) (ha : PA X (e :: es) t) (hg : Gl X x := by rfl) (hdb : (x == ("__debug__" : Str)) = false := by decide)
    (he : starEach (e :: es) X.env = (false, eval e X.env) :: starEach es X.env := by rfl) (hpl : (backTo pos (starEach es X.env)).any (·.1) = false := by rfl) : PE X (.Call (.Name x q0) (e :: es) [] pos) (tCallE sp W t) := by
  obtain ⟨f, fd, hm, hk, hb, F⟩ := C
  refine ⟨fun pins s σ H Q I h => wpAny_Call_Name_kw (ld_glob I hg hm ?_ hdb)⟩
  refine PySem.W.callWith_K (h₀ := X.base) I.ok.mod.kin hk (thn (ha.run pos pins s σ H _ I h) fun us s1 h1 => ?_) he hpl
  obtain ⟨vs, H1, I1, r, q⟩ := h1
  refine ⟨I1.kIn, ?_⟩
  have hl : us.length = ps.length := r.length.symm.trans (F.len _ _ _ _ q)
  have bd := hb s1 us I1.kIn (by rw [List.append_nil]; exact hl)
  rw [List.append_nil] at bd
  refine wpAny_call (codeAny_mono (F.run X.A X.stack s1 H1 ⟨us, []⟩ us vs Q _ hr gd I1.env0 bd r q) fun r s' hq => ?_)
  cases r with
  | error e => exact tk _ _ (XE.of_call I1 (fun _ _ _ h => h) hq)
  | ok fl =>
    cases fl with
    | ret u => exact I1.after hq
    | next => exact False.elim hq
    | brk => exact False.elim hq
    | cont => exact False.elim hq
/-- the call's end, dropped -/
theorem callx_of {K : PySem.W.Frag} {H0 H : Hp} {F0 F : Addr → Prop} {ρ : Env} {O : Nat → List Addr} {σ : L2.St} {D : Ends} {o : OX} {xs : List Val} {us : List V} {H1 : Hp} {F1 : Addr → Prop} (R : SRel K H0 F0 ρ F O σ H) (g1 : Grow H F H1 F1) (ra : RepA K H1 F1 0 us xs)
    (e : callRes (p.cf g xs) ρ = .ok o) (af : AfterX K p fr H0 F0 H F D o) : spE p.ca p.cf g gr K us H1 (fun _ H' => D.nx σ H') fun cls d H' => p.W cls d σ H' := by
  refine ⟨F1, xs, g1.dom, ra, ?_⟩
  cases q : p.cf g xs with
  | ok v =>
    rw [q] at e
    cases e
    exact .inl ⟨v, rfl, fun u H' F' S g2 _ _ => af σ H' F' O (R.grow' (g1.trans g2)) (Step.of (g1.trans g2))⟩
  | exc c v =>
    rw [q] at e
    obtain ⟨i, e1, e2⟩ := Res.bind_eq_ok (show (intRes v).bind (fun i => Res.ok (OX.ex ρ c i)) = .ok o from e)
    cases e2
    have ei : v = .int i := by
      cases v with
      | int j => cases e1; rfl
      | _ => cases e1
    subst ei
    exact .inr ⟨c, i, rfl, fun cls d H' F' g2 xr => af σ H' F' O cls d (R.grow' (g1.trans g2)) (Step.of (g1.trans g2)) xr⟩
  | bad =>
    rw [q] at e
    cases e
/-- f(..) as a statement -/
theorem vx_callx (C : CalE X.prog X.w X.K X.mg X.base k x ps (spE p.ca p.cf g gr X.K)) (tk : Takes X p.W) (hr : Room k X.A) (gd : X.A.guards = some []) (ha : VA X p.nox (e :: es) cs) (hg : Gl X x := by rfl) (hdb : (x == ("__debug__" : Str)) = false := by decide)
    (he : starEach (e :: es) X.env = (false, eval e X.env) :: starEach es X.env := by rfl) (hpl : (backTo pos (starEach es X.env)).any (·.1) = false := by rfl) (hs : swapsWith (.Call (.Name x q0) (e :: es) [] pos) none pos2.line X.env = pure false := by rfl) :
    VX X p fr (.Expr (.Call (.Name x q0) (e :: es) [] pos) pos2) (.callx g cs) := ⟨PS.imp (ps_expr (pe_callE C tk hr gd (ha.run 0) hg hdb he hpl) hs) fun D σ H ⟨H0, F0, ρ, F, O, o, R, ev, af⟩ => by
  have e' : ((evalEs p.cf 0 cs ρ).bind fun vs => callRes (p.cf g vs) ρ) = .ok o := ev
  obtain ⟨xs, e1, e2⟩ := Res.bind_eq_ok e'
  refine ⟨ρ, F, O, R.rel, ?_⟩
  show Run p.nox (evalEs p.cf 0 cs ρ) σ H _
  rw [e1]
  exact fun us H1 F1 g1 ra => callx_of R g1 ra e2 af⟩
/-- a call, as an expression, of a def by any core -/
theorem vo_callC {cf : Nat → List Val → Res Val} (C : Cal X.prog X.w X.K X.mg X.base k x ps (spC cf g fr X.K)) (hr : Room k X.A) (gd : X.A.guards = some []) (hcf : ∀ vs, p.cf g vs = cf g vs) (ha : VA X p (e :: es) cs) (hg : Gl X x := by rfl) (hdb : (x == ("__debug__" : Str)) = false := by decide)
    (he : starEach (e :: es) X.env = (false, eval e X.env) :: starEach es X.env := by rfl) (hpl : (backTo pos (starEach es X.env)).any (·.1) = false := by rfl) : VO X p (.Call (.Name x q0) (e :: es) [] pos) (.call g cs) fr := by
  refine ⟨PE.imp (pe_callG C hr gd (ha.run 0) hg hdb he hpl) fun σ H Q ⟨ρ, F, O, R, r⟩ => ?_⟩
  have r1 : Run p ((evalEs p.cf 0 cs ρ).bind fun vs => (p.cf g vs).quiet) σ H _ := r
  refine ⟨ρ, F, O, R, r1.bind.imp (Same.refl H) fun xs _ q us H1 F1 g1 ra => ?_⟩
  rw [hcf] at q
  obtain ⟨v, e1, q2⟩ := q.ok nx_quiet
  exact ⟨F1, xs, v, g1.dom, ra, Res.quiet_eq_ok e1, fun u H' F' S g2 o n2 => q2 u H' F' S (g1.trans g2) o fun a m => ⟨g1.same.free (n2 a m).1, (n2 a m).2⟩⟩
end
/-! ### a def by the second core -/
section
variable {P : Program} {w : World} {K : PySem.W.Frag} {mg : Str → Option Value} {base : Heap} {n : Nat} {f : Addr} {fd : FuncData} {x qual : Str} {params : Arguments} {body : List Stmt} {scope : Scope} {N ps : List Str} {Pr : Prog} {XP : ProgX} {d : DefX} {g : Nat} {ca : Str → Addr}
abbrev ppX (Pr : Prog) (XP : ProgX) (n : Nat) (ca : Str → Addr) (E : XK) : Par := ⟨evalDX Pr XP n, ca, fun cls d _ H => E cls d H⟩
theorem evalDX_x {xs : List Val} (hp : ∀ xs, primV g xs = none) (hd : XP g = some d) : evalDX Pr XP (n + 1) g xs = Res.guard (decide (xs.length = d.np)) ((evalXs (evalDX Pr XP n) d.body (startE ⟨d.np, d.ns, d.fr, []⟩ xs)).quiet.bind finX) := by
  rw [evalDX, hp, hd]
theorem evalDX_n {xs : List Val} (hp : ∀ xs, primV g xs = none) (hd : XP g = none) : evalDX Pr XP n g xs = evalD Pr n g xs := by
  cases n <;> rw [evalDX, hp, hd]
theorem cal_stepX (F : FunD K x qual params body scope [] [] f fd) (S : FnScope N ps scope) (hpr : ∀ xs, primV g xs = none) (hd : XP g = some d) (hN : N.length = d.ns) (hp : ps.length = d.np)
    (hb : ∀ (cdv : Value) (A : Around) (outer : List PySem.Env) (s : Shared) (H : Hp) (E : XK), Room n (A.deeper (envOfC qual scope s.heap.objs.size f cdv)) → A.guards = some [] → VXs (bodyCxE P w K mg base N qual scope f cdv A outer s H E) (ppX Pr XP n ca E) d.fr body d.body) :
    FnE P w K mg base (n + 1) f fd ps (spE ca (evalDX Pr XP (n + 1)) g d.fr K) := by
  have len : ∀ {xs : List Val} {r : Res Val}, evalDX Pr XP (n + 1) g xs = r → (∀ a, r = .ok a ∨ r ≠ .bad) → True := fun _ _ => trivial
  have lenOk : ∀ {xs : List Val}, evalDX Pr XP (n + 1) g xs ≠ .bad → xs.length = d.np ∧ evalDX Pr XP (n + 1) g xs = (evalXs (evalDX Pr XP n) d.body (startE ⟨d.np, d.ns, d.fr, []⟩ xs)).quiet.bind finX := fun {xs} h => by
    rw [evalDX_x hpr hd] at h ⊢
    by_cases q : xs.length = d.np
    · exact ⟨q, by rw [decide_eq_true q]; rfl⟩
    · rw [decide_eq_false q] at h
      exact absurd rfl h
  refine fn_e F S (fun vs H Q E h => ?_) fun cdv A outer s H vs Q E hr gd h => ⟨_, (hb cdv A outer s H E hr gd).run, ?_⟩
  · obtain ⟨_, xs, _, r, h⟩ := h
    rw [repA_length r, hp]
    rcases h with ⟨v, e, _⟩ | ⟨c, i, e, _⟩
    · exact (lenOk (by rw [e]; intro z; cases z)).1
    · exact (lenOk (by rw [e]; intro z; cases z)).1
  · obtain ⟨F0, xs, dm, r, h⟩ := h
    have nb : evalDX Pr XP (n + 1) g xs ≠ .bad := by
      rcases h with ⟨v, e, _⟩ | ⟨c, i, e, _⟩ <;> rw [e] <;> intro z <;> cases z
    obtain ⟨hl, ee⟩ := lenOk nb
    rw [ee] at h nb
    cases q : evalXs (evalDX Pr XP n) d.body (startE ⟨d.np, d.ns, d.fr, []⟩ xs) with
    | bad =>
      rw [q] at nb
      exact absurd rfl nb
    | exc c v =>
      rw [q] at nb
      exact absurd rfl nb
    | ok o =>
      rw [q] at h
      refine ⟨H, F0, startE ⟨d.np, d.ns, d.fr, []⟩ xs, F0, fun _ => [], o, ⟨start_rel (d := ⟨d.np, d.ns, d.fr, []⟩) dm r hl hN, Grow.refl dm, fun _ _ h => (nomatch h)⟩, q, ?_⟩
      have h' : (∃ v, finX o = .ok v ∧ ∀ u H' F' S, Grow H F0 H' F' → Own K H' F' d.fr S u v → (∀ a ∈ S, H a = none ∧ ¬ F' a) → Q u H') ∨ (∃ c i, finX o = .exc c (.int i) ∧ ∀ cls d H' F', Grow H F0 H' F' → XR ca c (.int i) cls d H' → E cls d H') := h
      cases o with
      | nx ρ =>
        rcases h' with ⟨v, e, k⟩ | ⟨c, i, e, _⟩
        · cases e
          exact fun σ' H' F' O' R' _ => k .non H' F' [] R'.grow own_none fun _ h => (nomatch h)
        · cases e
      | rt v' =>
        rcases h' with ⟨v, e, k⟩ | ⟨c, i, e, _⟩
        · cases e
          exact fun u H' F' S' g' o' n' => k u H' F' S' g' o' n'
        · cases e
      | bk ρ => rcases h' with ⟨v, e, k⟩ | ⟨c, i, e, _⟩ <;> cases e
      | ct ρ => rcases h' with ⟨v, e, k⟩ | ⟨c, i, e, _⟩ <;> cases e
      | ex ρ c i =>
        rcases h' with ⟨v, e, k⟩ | ⟨c', i', e, k⟩
        · cases e
        · cases e
          exact fun σ' H' F' O' cls dd R' _ xr => k cls dd H' F' R'.grow xr
end
end VL

/-! VL, part 30: try with several clauses `except C as e`. -/
namespace VL.TA
open PySem PySem.Spec PyProof.Rows L2

/-- a clause's suite -/
abbrev SuT := Addr → Value → Option Addr → TS
/-- the ends of a suite: the name goes; the error itself may be told -/
def goneD (i : Nat) (a : Addr) (cls : Value) (d : Option Addr) (D : Ends) : Ends := { nx := fun σ' H' => D.nx (σ'.set i none) H', rt := fun v H' => D.rt v H' ∨ (v = .ref a ∧ H' a = none ∧ ∃ dd, d = some dd ∧ D.rt v (upd H' a (errO cls dd a))), bk := fun σ' H' => D.bk (σ'.set i none) H', ct := fun σ' H' => D.ct (σ'.set i none) H' }
/-- what the clauses wish, one after the other -/
def wAll (K : PySem.W.Frag) (Wout : WX) (D : Ends) : List (Value × Nat × SuT) → WX
  | [] => Wout
  | (c, i, ts) :: r => fun cls d σ H => ∃ b, PySem.W.exmOne K cls c = some b ∧ (b = true → ∀ a, H a = none → ts a cls d (goneD i a cls d D) (σ.set i (some (.ref a))) H) ∧ (b = false → wAll K Wout D r cls d σ H)
inductive Hds (X : Cx) : List ExceptHandler → List (Value × Nat × SuT) → Prop
  | nil : Hds X [] []
  | cons {x n : Str} {c : Value} {i : Nat} {ts : SuT} {b₀ : Stmt} {suite : List Stmt} {np pos' : Pos} {hds : List ExceptHandler} {l : List (Value × Nat × SuT)} (hc : Names X x c) (hi : X.N[i]? = some n) (hln : X.env.kindOf n = some .local)
      (hsu : ∀ (a : Addr) (oe : Obj) (cls : Value) (d : Option Addr) (pn : List (Addr × Obj)), Zc cls d oe → (∃ vs, oe.data = .fields vs) → PSs (X.suite a ((a, oe) :: pn)) (b₀ :: suite) (ts a cls d)) (r : Hds X hds l) :
      Hds X (.ExceptHandler (some (.Name x np)) (some n) (b₀ :: suite) pos' :: hds) ((c, i, ts) :: l)
/-- an error that lies beside what is tracked, and is new, may be tracked -/
theorem adopt {X : Cx} {pins : List (Addr × Obj)} {σ : L2.St} {H : Hp} {s : Shared} {a dd : Addr} {oe : Obj} {vs : Array Value} {cls : Value} (I : Inv X ((a, oe) :: pins) σ H s) (n0 : X.s_0.heap.get? a = none) (np : ∀ p ∈ X.pn ++ pins, p.1 ≠ a) (hz : Zc cls (some dd) oe) (hd : oe.data = .fields vs) :
    Inv X pins σ (upd H a (errO cls dd a)) s := by
  obtain ⟨he, na, nL, nF, nc⟩ := I.pin (a, oe) (List.mem_append_right _ List.mem_cons_self)
  have ne0 : ∀ b o, X.s_0.heap.get? b = some o → b ≠ a := fun b o e z => by
    rw [z, n0] at e
    cases e
  refine ⟨I.ok, I.os, I.bare, ⟨I.base.keep, I.base.slot, fun b o e n hx => ?_, I.base.there, fun b xs e => ?_, fun b o u e => ?_, fun b ps e => ?_⟩, I.loc, I.cell, ?_, fun x c e => ?_, fun p hp => ?_, I.hok.laidN (fun _ _ e => e) na ⟨⟨oe, vs, he, hz, hd⟩, ⟨oe, he⟩, fun h1 h2 ⟨o, v, q, r⟩ k => ⟨o, v, k o q, r⟩⟩, I.len⟩
  · rw [upd_ne (ne0 b o e)]
    exact I.base.free b o e n hx
  · have q := I.base.tups b xs e
    rw [upd_ne (ne_of_none q na)]
    exact q
  · have q := I.base.frzs b o u e
    rw [upd_ne (ne_of_none q na)]
    exact q
  · obtain ⟨m, q⟩ := I.base.tbls b ps e
    exact ⟨m, by rw [upd_ne (ne_of_none q na)]; exact q⟩
  · rw [upd_ne (Ne.symm nL)]
    exact I.free
  · have q : c ≠ a := fun z => by
      obtain ⟨v, o, h1, h2⟩ := I.cell x c e
      rw [z, he] at h1
      cases h1
      exact nc v h2
    rw [upd_ne q]
    exact I.freeC x c e
  · obtain ⟨e, n, ne, nf, d⟩ := I.pin p ((List.mem_append.mp hp).elim (List.mem_append_left _) fun z => List.mem_append_right _ (List.mem_cons_of_mem _ z))
    exact ⟨e, by rw [upd_ne (np p hp)]; exact n, ne, nf, d⟩
section
variable {X : Cx} {body : List Stmt} {h₀ : ExceptHandler} {hds : List ExceptHandler} {l : List (Value × Nat × SuT)} {pos : Pos} {tb : WX → TS} {Wout : WX}
theorem ps_try (hx : X.ex = []) (hs : X.stack = X.env :: X.outer) (hf : X.env.frame = some X.env.locals) (hN : X.N.Nodup) (tk : Takes X Wout)
    (hb : ∀ (W : WX) (pn : List (Addr × Obj)) (xe : Value → Shared → Prop), Takes (X.tr pn xe) W → PassesOwn (model X.prog X.w) X.A X.env xe → PSs (X.tr pn xe) body (tb W))
    (hh : Hds X (h₀ :: hds) l) : PS X (.Try body (h₀ :: hds) [] [] pos) (fun D σ H => tb (wAll X.K Wout D l) D σ H) := by
  refine ⟨fun pins s σ H D I h => ?_⟩
  have ok := I.ok
  have hfr : X.A.frames = some (X.env :: X.outer) := by rw [ok.frames, hs]
  refine wpAny_Try_except ?_
  have run := (hb (wAll X.K Wout D l) (X.pn ++ pins) (fun e s₁ => wpAny (model X.prog X.w) X.A (noteFrame e X.env) (fun _ s₂ => wpAny (model X.prog X.w) X.A (setFlight e none) (fun _ s₃ =>
    wpAny (model X.prog X.w) X.A (handleBy e X.env (h₀ :: hds)) (SP X pins D) X.xe s₃) X.xe s₂) X.xe s₁) (fun u s' xx => ?_) PassesOwn.looking).run [] s σ H D (I.toTry _) h
  · refine wpAny_mono run (fun f s1 q => ?_) fun _ _ he => he
    cases f with
    | next =>
      obtain ⟨σ', H', J, q⟩ := q
      exact wpAny_execs_nil ⟨σ', H', J.ofTry ok, q⟩
    | brk =>
      obtain ⟨σ', H', J, q⟩ := q
      exact ⟨σ', H', J.ofTry ok, q⟩
    | cont =>
      obtain ⟨σ', H', J, q⟩ := q
      exact ⟨σ', H', J.ofTry ok, q⟩
    | ret u =>
      obtain ⟨v, σ', H', J, r, q⟩ := q
      exact ⟨v, σ', H', J.ofTry ok, r, q⟩
  · obtain ⟨a, B, sI, pins', σ', H', cls, d, rfl, J', nb, up, sky, na, os, ag, w⟩ := xx
    have J : Inv X pins σ' H' sI := J'.ofTry ok
    have sky' : Sky B (X.env :: X.outer) a (Zc cls d) X.env.locals s'.heap := by rw [← hs]; exact sky
    show wpAny (model X.prog X.w) X.A (noteFrame (.ref a) X.env) _ _ _
    refine Sky.land Zc.steady hfr hf sky' fun h3 fl3 up3 => ?_
    have J3 : Inv X pins σ' H' { s' with heap := h3 } := J.landed nb fl3.1 (up.trans up3) os ag
    obtain ⟨oe3, vs3, he3, hz3, hd3⟩ := fl3.there
    -- the error is no frame
    have nfr : a ∉ frs (X.env :: X.outer) := fun hm => by
      obtain ⟨_, o', e', hnf⟩ := fl3.2.2.1.mem hm
      rw [he3] at e'
      cases e'
      exact hnf _ hd3
    have nL : a ≠ X.env.locals := fun z => nfr (List.mem_filterMap.mpr ⟨X.env, List.mem_cons_self, by rw [hf, z]⟩)
    have nF : a ∉ X.fs := fun hm => by
      obtain ⟨e, he, q⟩ := List.mem_filterMap.mp hm
      exact nfr (List.mem_filterMap.mpr ⟨e, List.mem_cons_of_mem _ he, q⟩)
    have S3 := J3.suite he3 hd3 na nL nF
    have LT : PySem.W.Looks (model X.prog X.w) h3 (typeOf (.ref a)) cls := fun A Q E s k q => wpAny_typeOf_ref (k _ _ he3) (by rw [hz3.1]; exact q)
    -- no clause left
    have out : Wout cls d σ' H' → wpAny (model X.prog X.w) X.A (handleBy (.ref a) X.env []) (SP X pins D) X.xe { s' with heap := h3 } := fun w => by
      refine wpAny_handleBy_nil ?_
      obtain ⟨k1, k2, k3, oe, vs, T, oT, ts', he, hz, hd, h1, hr⟩ := id fl3
      unfold PySem.passOn
      refine wpAny_bind (wpAny_field he hd h1 ?_)
      rw [if_neg (show ¬ ((Value.ref T == Value.none) = true) from by simp)]
      have fin : wpAny (model X.prog X.w) X.A (setFlight (.ref a) X.env.frame) (fun _ s4 => wpAny (model X.prog X.w) X.A (throw (.ref a) : Sem Flow) (SP X pins D) X.xe s4) X.xe { s' with heap := h3 } := by
        rw [hf]
        exact HandSPX.setFlight_upZ fl3 fun h4 hh4 up4 => wpAny_throw (tk _ _ ⟨a, B, sI, pins, σ', H', cls, d, rfl, J, nb, (up.trans up3).trans up4, .inr (.inr (by rw [hs]; exact hh4)), na, os, ag, w⟩)
      first
        | exact wpAny_bind (wpAny_pure (wpAny_bind fin))
        | exact wpAny_bind fin
    have go : ∀ {hs' : List ExceptHandler} {l' : List (Value × Nat × SuT)}, Hds X hs' l' → wAll X.K Wout D l' cls d σ' H' → wpAny (model X.prog X.w) X.A (handleBy (.ref a) X.env hs') (SP X pins D) X.xe { s' with heap := h3 } := by
      intro hs' l' hk
      induction hk with
      | nil => exact out
      | @cons x n c i ts b₀ suite np pos' hds2 l2 hc hi hln hsu r ih =>
        rintro ⟨b, hb1, hyes, hno⟩
        refine wpAny_handleBy_cons (codeAny_handlers_test ?_) (by intro q; cases q)
        have LM := PySem.W.exm_one (M := model X.prog X.w) J3.kIn LT hb1
        have test : ∀ {Q E : Value → Shared → Prop}, Q c { s' with heap := h3 } → wpAny (model X.prog X.w) (X.A.mark (some (.ref a))) (eval (.Name x np) X.env) Q E { s' with heap := h3 } := fun {Q E} q => by
          obtain ⟨hg, hdbg, hm | ⟨hm, hv, hnn⟩⟩ := hc
          · exact ld_glob (X := X.suite a ((a, oe3) :: (X.pn ++ pins))) S3 hg hm q hdbg
          · exact ld_blt (X := X.suite a ((a, oe3) :: (X.pn ++ pins))) S3 hg hm hv q hnn hdbg
        refine test (LM.here ?_)
        cases b with
        | false => exact ih (hno rfl)
        | true =>
          refine codeAny_handlers_suite_as ?_
          refine HandSPX.lands_againZ fl3 fun h4 fl4 up4 => ?_
          have J4 : Inv X pins σ' H' { s' with heap := h4 } := J.landed nb fl4.1 ((up.trans up3).trans up4) os ag
          obtain ⟨oe4, vs4, he4, hz4, hd4⟩ := fl4.there
          have S4 := J4.suite he4 hd4 na nL nF
          refine store_ok (X := X.suite a ((a, oe4) :: (X.pn ++ pins))) (v := .ref a) S4 hN hi (.inl hln) rfl (fun s5 S5 => ?_) (.inr hln)
          refine wpAny_mono ((hsu a oe4 cls d (X.pn ++ pins) hz4 ⟨_, hd4⟩).run [] s5 _ H' _ S5 (hyes rfl a na)) (fun f s6 q => ?_) (fun _ _ z => False.elim z)
          have end_ : ∀ {σ6 : L2.St} {H6 : Hp} {Q : Shared → Prop}, Inv (X.suite a ((a, oe4) :: (X.pn ++ pins))) [] σ6 H6 s6 → (∀ s7, Inv X pins (σ6.set i none) H6 s7 → Q s7) →
              wpAny (model X.prog X.w) X.A (do bindName X.env n .none; unbindBehindTheSuite X.env n pos') (fun _ s7 => Q s7) X.xe s6 := fun {σ6 H6 Q} S6 hq => gone_ok (S6.unsuite ok) hN hi hln hq
          cases f with
          | next =>
            obtain ⟨σ6, H6, S6, q⟩ := q
            exact end_ S6 fun s7 J7 => ⟨_, _, J7, q⟩
          | brk =>
            obtain ⟨σ6, H6, S6, q⟩ := q
            exact end_ S6 fun s7 J7 => ⟨_, _, J7, q⟩
          | cont =>
            obtain ⟨σ6, H6, S6, q⟩ := q
            exact end_ S6 fun s7 J7 => ⟨_, _, J7, q⟩
          | ret u =>
            obtain ⟨v6, σ6, H6, S6, r6, q⟩ := q
            rcases q with q | ⟨ev, hn6, dd, ed, q⟩
            · exact end_ S6 fun s7 J7 => ⟨_, _, _, J7, r6, q⟩
            · have nI : sI.heap.get? a = none := by
                cases e : sI.heap.get? a with
                | none => rfl
                | some o =>
                  have z := nb a o e (by rw [hs]; exact nfr)
                  have zB : B.get? a = none := fl3.2.1
                  rw [zB] at z
                  cases z
              have n0 : X.s_0.heap.get? a = none := by
                cases e : X.s_0.heap.get? a with
                | none => rfl
                | some o =>
                  obtain ⟨o', z⟩ := J.base.there a o e (by rw [hx]; exact fun z => nomatch z)
                  rw [nI] at z
                  cases z
              have np : ∀ p ∈ X.pn ++ pins, p.1 ≠ a := fun p hp z => by
                have e := (J.pin p hp).1
                rw [z, nI] at e
                cases e
              have S7 : Inv X ((a, oe4) :: pins) σ6 H6 s6 := ⟨ok, S6.os, S6.bare, S6.base, S6.loc, S6.cell, S6.free, S6.freeC, fun p hp => S6.pin p (by
                rw [List.append_nil]
                rcases List.mem_append.mp hp with z | z
                · exact List.mem_cons_of_mem _ (List.mem_append_left _ z)
                · rcases List.mem_cons.mp z with z | z
                  · rw [z]; exact List.mem_cons_self
                  · exact List.mem_cons_of_mem _ (List.mem_append_right _ z)), S6.hok, S6.len⟩
              subst ed
              exact gone_ok S7 hN hi hln fun s7 J7 => ⟨_, _, _, adopt J7 n0 np hz4 hd4, r6, q⟩
    exact go hh w
end
end VL.TA

/-! VL, part 31: what clauses do; try. -/
namespace VL
open PySem PySem.Spec L2 PySem.W
open PyProof.Rows hiding St

theorem pss_ex {X : Cx} {α : Type} {P : α → Prop} {t : α → TS} {st : List Stmt} (h : ∀ a, P a → PSs X st (t a)) : PSs X st (fun D σ H => ∃ a, P a ∧ t a D σ H) := ⟨fun pins s σ H D I ⟨a, p, q⟩ => (h a p).run pins s σ H D I q⟩
/-- a caught error's class, as its field is read -/
def CatC (K : PySem.W.Frag) (C : Addr) : Prop := XfC K C ∧ PySem.W.findIn K (.ref C) "at" = some none
section
variable {X : Cx} {a C : Addr} {oe : Obj} {cls : Value} {d : Option Addr} {pn : List (Addr × Obj)} {k : Nat} {n : Str} {q0 q1 q2 q3 q4 pos : Pos} {j : Nat}
end
section
variable {X : Cx} {k : Nat} {n : Str} {q0 q1 q2 q3 q4 pos : Pos} {j : Nat}
end

/-! ### what a clause does -/
theorem handleX_cons {c' c : Str} {k : Nat} {h : HX} {hs : List (Str × Nat × HX)} {i : Int} {ρ : Env} : handleX ((c', k, h) :: hs) c i ρ = match isA c c' with
    | true => Res.guard (Nat.blt k ρ.length) (actX h k c i ρ)
    | false => handleX hs c i ρ := rfl
/-- a clause's suite, and that it does what its core says -/
structure Act (X : Cx) (p : Par) (fr k : Nat) (suite : List Stmt) (h : HX) (ts : Addr → Addr → Option Addr → TS) : Prop where
  run : ∀ (a C : Addr) (oe : Obj) (cls : Value) (d : Option Addr) (pn : List (Addr × Obj)), CatC X.K C → cls = .ref C → Zc cls d oe → (∃ vs, oe.data = .fields vs) → PSs (X.suite a ((a, oe) :: pn)) suite (ts a C d)
  does : ∀ (H0 : Hp) (F0 : Addr → Prop) (ρ : Env) (F : Addr → Prop) (O : Nat → List Addr) (σ : L2.St) (H H2 : Hp) (F2 : Addr → Prop) (D : Ends) (o : OX) (a C dd : Addr) (c : Str) (i : Int), C = p.ca c → SRel X.K H0 F0 ρ F O σ H → H a = none → H dd = some (.xd [(("at" : Str), V.int i)]) → actX h k c i ρ = .ok o → Step H2 F2 H F → k < ρ.length →
    AfterX X.K p fr H0 F0 H2 F2 D o → ts a C (some dd) (TA.goneD k a (.ref C) (some dd) D) (σ.set k (some (.ref a))) H
section
variable {X : Cx} {p : Par} {fr k : Nat} {x : Str} {ex : Expr} {xa : XA} {q0 q1 q2 pos : Pos}
/-- return e -/
theorem act_retE {n : Str} (hca : ∀ c, p.ca c = He.ga X.K c) (hN : X.N[k]? = some n := by rfl) (hv : Vis X.env.scope n := by first | exact Or.inl rfl | exact Or.inr (Or.inl rfl) | exact Or.inr (Or.inr rfl)) (hd : (n == ("__debug__" : Str)) = false := by decide) (hcd : (n == ("__classdict__" : Str)) = false := by decide) :
    Act X p fr k [.Return (some (.Name n q0)) pos] .retE (fun a C d => tSeq (tRet (tVar k)) tNext) where
  run := fun a C oe cls d pn T hc hz hfl => pss_cons (ps_ret (pe_var (X := X.suite a ((a, oe) :: pn)) hN hv hd hcd)) pss_nil
  does := fun H0 F0 ρ F O σ H H2 F2 D o a C dd c i hC R na hdd ev st hk af => by
    cases ev
    have lk : k < σ.length := by rw [R.rel.len]; exact hk
    have ne : dd ≠ a := fun z => by rw [z, na] at hdd; cases hdd
    have ev : ErrV X.K (upd H a (errO (.ref C) dd a)) (.ref a) [(.str c, .int i)] := ⟨a, dd, c, i, rfl, rfl, by rw [upd_same, hC, hca], by rw [upd_ne ne]; exact hdd⟩
    refine ⟨.ref a, List.getElem?_set_self lk, .inr ⟨rfl, na, dd, rfl, af (.ref a) (upd H a (errO (.ref C) dd a)) F [] (R.grow.trans (Grow.put R.rel.dom na)) ?_ fun _ z => (nomatch z)⟩⟩
    cases fr with
    | zero => exact own_zero.mpr ⟨rfl, rep_dict.mpr (.inr ev)⟩
    | succ fr =>
      simp only [Own]
      exact .inr ⟨trivial, ev⟩
end
end VL

/-! VL, part 32: try; [f, g][i](..); str(i), texts joined. -/
namespace VL
open PySem PySem.Spec L2 PySem.W
open PyProof.Rows hiding St

/-- the clauses of a try, and their cores -/
inductive HdsX (X : Cx) (p : Par) (fr : Nat) (cl : List Str) : List ExceptHandler → List (Str × Nat × HX) → Prop
  | nil : HdsX X p fr cl [] []
  | cons {x n c' : Str} {c : Value} {k : Nat} {h : HX} {b₀ : Stmt} {suite : List Stmt} {np pos' : Pos} {hds : List ExceptHandler} {hs : List (Str × Nat × HX)} {ts : Addr → Addr → Option Addr → TS} (hc : Names X x c) (hex : ∀ cn ∈ cl, PySem.W.exmOne X.K (.ref (p.ca cn)) c = some (isA cn c'))
      (hi : X.N[k]? = some n) (hln : X.env.kindOf n = some .local) (ha : Act X p fr k (b₀ :: suite) h ts) (r : HdsX X p fr cl hds hs) : HdsX X p fr cl (.ExceptHandler (some (.Name x np)) (some n) (b₀ :: suite) pos' :: hds) ((c', k, h) :: hs)
section
variable {X : Cx} {p : Par} {fr : Nat} {cl : List Str} {pos : Pos}
theorem hdsX {hds : List ExceptHandler} {hs : List (Str × Nat × HX)} (h : HdsX X p fr cl hds hs) (hcat : ∀ cn ∈ cl, CatC X.K (p.ca cn)) : ∃ l, TA.Hds X hds l ∧ ∀ (H0 : Hp) (F0 : Addr → Prop) (ρ : Env) (F : Addr → Prop) (O : Nat → List Addr) (σ : L2.St) (H H2 : Hp) (F2 : Addr → Prop) (D : Ends) (o : OX) (c : Str) (i : Int) (cls : Value) (d : Option Addr),
    c ∈ cl → handleX hs c i ρ = .ok o → SRel X.K H0 F0 ρ F O σ H → Step H2 F2 H F → XR p.ca c (.int i) cls d H → AfterX X.K p fr H0 F0 H2 F2 D o → TA.wAll X.K p.W D l cls d σ H := by
  induction h with
  | nil =>
    refine ⟨[], .nil, fun H0 F0 ρ F O σ H H2 F2 D o c i cls d hc ev R st xr af => ?_⟩
    cases ev
    exact af σ H F O cls d R st xr
  | @cons x n c' c k h b₀ suite np pos' hds hs ts hc hex hi hln ha r ih =>
    obtain ⟨l, hl, hw⟩ := ih
    refine ⟨(c, k, fun a cls d D σ H => ∃ C, (CatC X.K C ∧ cls = .ref C) ∧ ts a C d D σ H) :: l, .cons hc hi hln (fun a oe cls d pn hz hf => pss_ex fun C ⟨h1, h2⟩ => ha.run a C oe cls d pn h1 h2 hz hf) hl, fun H0 F0 ρ F O σ H H2 F2 D o cn i cls d hcn ev R st xr af => ?_⟩
    obtain ⟨hcls, dx, i', ei, rfl, hdx⟩ := xr
    cases ei
    subst hcls
    refine ⟨isA cn c', hex cn hcn, fun hb a na => ?_, fun hb => ?_⟩
    · rw [handleX_cons, hb] at ev
      obtain ⟨hk, ev⟩ := Res.guard_ok ev
      exact ⟨p.ca cn, ⟨hcat cn hcn, rfl⟩, ha.does H0 F0 ρ F O σ H H2 F2 D o a (p.ca cn) dx cn i rfl R na hdx ev st (by simpa [Nat.blt_eq] using hk) af⟩
    · rw [handleX_cons, hb] at ev
      exact hw H0 F0 ρ F O σ H H2 F2 D o cn i _ _ hcn ev R st ⟨rfl, dx, i, rfl, rfl, hdx⟩ af
theorem vx_try {body : List Stmt} {cb : List SX} {h₀ : ExceptHandler} {hds : List ExceptHandler} {hs : List (Str × Nat × HX)} (hs_ : X.stack = X.env :: X.outer) (hf : X.env.frame = some X.env.locals) (hN : X.N.Nodup) (tk : Takes X p.W)
    (hb : ∀ (W : WX) (pn : List (Addr × Obj)) (xe : Value → Shared → Prop), Takes (X.tr pn xe) W → PassesOwn (model X.prog X.w) X.A X.env xe → VXs (X.tr pn xe) { p with W := W } fr body cb)
    (hh : HdsX X p fr cl (h₀ :: hds) hs) (hcat : ∀ cn ∈ cl, CatC X.K (p.ca cn)) (hx : X.ex = [] := by rfl) : VX X p fr (.Try body (h₀ :: hds) [] [] pos) (.tryx cl cb hs) := by
  obtain ⟨l, hl, hw⟩ := hdsX hh hcat
  refine ⟨PS.imp (TA.ps_try (tb := fun W => tXs X.K { p with W := W } fr cb) hx hs_ hf hN tk (fun W pn xe t1 t2 => (hb W pn xe t1 t2).run) hl) fun D σ H ⟨H0, F0, ρ, F, O, o, R, ev, af⟩ => ?_⟩
  have ev' : ((evalXs p.cf cb ρ).bind fun o => match o with
      | .ex ρ' c i => Res.guard (cl.contains c) (handleX hs c i ρ')
      | o => .ok o) = .ok o := ev
  obtain ⟨o1, e1, e2⟩ := Res.bind_eq_ok ev'
  refine ⟨H0, F0, ρ, F, O, o1, R, e1, ?_⟩
  cases o1 with
  | nx ρ' => cases e2; exact af
  | ct ρ' => cases e2; exact af
  | bk ρ' => cases e2; exact af
  | rt v => cases e2; exact af
  | ex ρ' c i =>
    obtain ⟨hc, e3⟩ := Res.guard_ok e2
    exact fun σ' H' F' O' cls d R' s' xr => hw H0 F0 ρ' F' O' σ' H' H F D o c i cls d (List.contains_iff_mem.mp hc) e3 R' s' xr af
end
/-! ### [f, g][i](..) -/
section
variable {X : Cx} {p : Par} {fr k : Nat} {q0 q1 pos pos2 : Pos} {e ix : Expr} {es fs : List Expr} {cs : List E} {ci : E} {gs : List Nat}
end
end VL

/-! VL, part 33: what the head tells of the errors' classes. -/
namespace VL.EX
open PySem PySem.W PySem.Calls PyProof.Rows PySem.HandSPX

/-- the root's address, its __init__'s -/
abbrev rootA (K : Frag) : Addr := He.ga K "WayError"
abbrev initA (K : Frag) : Addr := He.ma K (rootA K) "__init__"
/-- what the hook looks at: the module's names in four steps, the root's __init__'s cells, what is known statically -/
def cellsA (g : Addr → Option Obj) (f : Addr) : List Addr := match g f with
  | some ⟨_, _, .func fd, _⟩ => fd.closure.map (·.2)
  | _ => []
def asX (g : Addr → Option Obj) : List Addr := (He.asG g 4 ++ (cellsA g (initA (He.frG g (He.asG g 4))) ++ [cStatics])).eraseDups
abbrev FnX : Type := Option (Str × Str × Arguments × FuncBody × Scope × Addr × List Str × Value × Addr)
def fnX' (K : Frag) (f : Addr) : FnX := match K.lookup f with
  | some ⟨_, _, .func fd, _⟩ => some (fd.name, fd.qualname, fd.params, fd.body, fd.scope, fd.globals, fd.closure.map (·.1), fd.defaults, fd.builtins)
  | _ => none
def valX : FnX := some ("__init__", "WayError.__init__", wA 2, .stmts (wB 2), wS, mainGlobals, ["__class__"], .none, builtinsNs)
def innerB (file : Str) (K : Frag) : Value → List (Str × Addr) → Bool
  | .ref cda, [(_, cc)] => codeIn K (.ref cda) "WayError.__init__" && ((match K.lookup cda with
        | some ⟨_, _, .fields vs, _⟩ => (match (vs : Array Value)[2]? with
          | some (Value.str f _) => file == f
          | _ => false)
        | _ => false) && (match K.lookup cc with
        | some ⟨_, _, .cell (some (.ref D)), _⟩ => decide (D = rootA K)
        | _ => false))
  | _, _ => false
theorem innerB_ok {file : Str} {K : Frag} {cd : Value} {cl : List (Str × Addr)} (h : innerB file K cd cl = true) : ∃ cda x cc, cd = .ref cda ∧ cl = [(x, cc)] ∧ codeIn K (.ref cda) "WayError.__init__" = true ∧
    (∃ ccl cdd vs ccs f tf, K.lookup cda = some ⟨ccl, cdd, .fields vs, ccs⟩ ∧ vs[2]? = some (.str f tf) ∧ (file == f) = true) ∧ ∃ cl cld csl, K.lookup cc = some ⟨cl, cld, .cell (some (.ref (rootA K))), csl⟩ := by
  unfold innerB at h
  split at h
  · rename_i cda x cc
    obtain ⟨k1, k2⟩ := He.ba h
    obtain ⟨k2, k3⟩ := He.ba k2
    refine ⟨cda, x, cc, rfl, rfl, k1, ?_, ?_⟩
    · split at k2
      · rename_i a1 a2 vs a3 ho
        split at k2
        · rename_i f t hv
          exact ⟨a1, a2, vs, a3, f, t, ho, hv, k2⟩
        · cases k2
      · cases k2
    · split at k3
      · rename_i a1 a2 D a3 ho
        rw [of_decide_eq_true k3] at ho
        exact ⟨a1, a2, a3, ho⟩
      · cases k3
  · cases h
def initB (file : Str) (K : Frag) : Bool := match K.lookup (initA K) with
  | some ⟨_, _, .func fd, _⟩ => innerB file K fd.code fd.closure
  | _ => false
def rootB (file : Str) (K : Frag) : Bool := initB file K && ((clsIn K (rootA K)).isSome && (decide (typeIn K (.ref (initA K)) = some (.type "function")) && (decide (nsIn K cStatics "thirdparty.any" = some none) && decide (nsIn K mainGlobals "super" = some none))))
theorem wayT_of {P : Program} {K : Frag} (e : fnX' K (initA K) = valX) (h : rootB P.main.file K = true) (top : (P.main.scope.names.lookup ("super" : Str)).isSome = false) : WayT P K 2 (rootA K) (initA K) := by
  obtain ⟨h1, h⟩ := He.ba h
  obtain ⟨h2, h⟩ := He.ba h
  obtain ⟨h3, h⟩ := He.ba h
  obtain ⟨h4, h5⟩ := He.ba h
  refine ⟨?_, fun L a cc cd => ⟨_, rfl⟩, h2, of_decide_eq_true h3, of_decide_eq_true h4, of_decide_eq_true h5, top⟩
  unfold initB at h1
  unfold fnX' at e
  cases q : K.lookup (initA K) with
  | none =>
    rw [q] at h1
    cases h1
  | some o =>
    obtain ⟨oc, od, dt, osl⟩ := o
    rw [q] at h1 e
    cases dt with
    | func fd =>
      obtain ⟨n1, n2, n3, n4, n5, n6, n7, n8, n9, n10, n11, n12, n13, n14, n15⟩ := fd
      have e2 : (some (n1, n2, n3, n4, n5, n6, n7.map (·.1), n8, n15) : FnX) = (some ("__init__", "WayError.__init__", wA 2, .stmts (wB 2), wS, mainGlobals, ["__class__"], .none, builtinsNs) : FnX) := e
      simp only [Option.some.injEq, Prod.mk.injEq] at e2
      obtain ⟨h1', h2', h3', h4', h5', h6', h7', h8', h9'⟩ := e2
      subst h1' h2' h3' h4' h5' h6' h8' h9'
      have h1b : innerB P.main.file K n13 n7 = true := h1
      obtain ⟨cda, x, cc, rfl, rfl, k1, k2, k3⟩ := innerB_ok h1b
      have ex : x = ("__class__" : Str) := by simpa using h7'
      subst ex
      exact ⟨oc, od, n10, n11, .none, n9, n12, cda, cc, n14, osl, rfl, k1, rfl, k2, k3⟩
    | _ => cases h1
def clsB (K : Frag) (C : Addr) : Bool := match K.lookup C with
  | some ⟨.type "type", _, .cls cd, sl⟩ => (match cd.mro, sl.toList with
    | .ref C' :: bm, [_, _, _, _, some (.builtin n), _] => C' == C && (n == "ValueError.__new__" && (!cd.hasDel && (cd.hasDict && refsVE bm)))
    | _, _ => false)
  | _ => false
def wayCB (K : Frag) (x : Str) : Bool := clsB K (He.ga K x) && (decide (findIn K (.ref (He.ga K x)) "__setattr__" = some (some (.builtin "object.__setattr__"))) && (decide (findIn K (.ref (He.ga K x)) "__getattribute__" = some (some (.builtin "BaseException.__getattribute__"))) && (decide (findIn K (.ref (He.ga K x)) "__getattr__" = some none) &&
  (decide (findIn K (.ref (He.ga K x)) "at" = some none) && (decide (findIn K (.ref (He.ga K x)) "__init__" = some (some (.ref (initA K)))) && (keepIn K (.ref (He.ga K x)) && (decide (subIn K (.ref (He.ga K x)) (.type "BaseException") = some true) && (decide (subIn K (.ref (He.ga K x)) (.type "ValueError") = some true) &&
  (decide (typeIn K (.ref (He.ga K x)) = some (.type "type")) && (hasDictIn K (He.ga K x) && (decide (mroIn K (He.ga K x) (.ref (rootA K)) = some true) && decide (ks_superIn K (He.ga K x) (rootA K) "__init__" = some (some (.builtin "ValueError.__init__"))))))))))))))
theorem wayC_of {K : Frag} {x : Str} (h : wayCB K x = true) : WayC K (rootA K) (initA K) (He.ga K x) := by
  obtain ⟨h0, h⟩ := He.ba h
  obtain ⟨h1, h⟩ := He.ba h
  obtain ⟨h2, h⟩ := He.ba h
  obtain ⟨h3, h⟩ := He.ba h
  obtain ⟨h4, h⟩ := He.ba h
  obtain ⟨h5, h⟩ := He.ba h
  obtain ⟨h6, h⟩ := He.ba h
  obtain ⟨h7, h⟩ := He.ba h
  obtain ⟨h8, h⟩ := He.ba h
  obtain ⟨h9, h⟩ := He.ba h
  obtain ⟨h10, h⟩ := He.ba h
  obtain ⟨h11, h12⟩ := He.ba h
  refine ⟨?_, of_decide_eq_true h1, of_decide_eq_true h2, of_decide_eq_true h3, of_decide_eq_true h4, of_decide_eq_true h5, h6, of_decide_eq_true h7, of_decide_eq_true h8, of_decide_eq_true h9, h10, of_decide_eq_true h11, of_decide_eq_true h12⟩
  unfold clsB at h0
  split at h0
  · rename_i dd cd sl ho
    split at h0
    · rename_i C' bm k0 k1 k2 k3 n k5 hm hs
      simp only [Bool.and_eq_true, beq_iff_eq, Bool.not_eq_true'] at h0
      obtain ⟨e1, e2, e3, e4, e5⟩ := h0
      obtain ⟨c1, c2, c3, c4, c5, c6, c7, c8, c9, c10, c11⟩ := cd
      simp only at hm e3 e4
      subst e1 e2 e3 e4 hm
      have es : sl = #[k0, k1, k2, k3, some (.builtin "ValueError.__new__"), k5] := by
        rw [← Array.toArray_toList (xs := sl), hs]
      subst es
      exact ⟨_, _, _, _, bm, _, _, _, _, _, k0, k1, k2, k3, k5, ho, e5⟩
    · cases h0
  · cases h0
/-- what the class says of __class__ -/
structure IsC (K : Frag) (D : Addr) : Prop where
  ha : findIn K (.ref D) "__class__" = some (some (.builtin "object.__class__"))
  hn : specialIn K (.builtin "object.__class__") "__get__" = some (some (.builtin "getset_descriptor.__get__"))
  ht : takesIn K (.builtin "object.__class__") = some true
  hm : mroIn K D (.type "object") = some true
  ve : kitOne K (.ref D) (.type "ValueError") = some true
def isCB (K : Frag) (D : Addr) : Bool := decide (findIn K (.ref D) "__class__" = some (some (.builtin "object.__class__"))) && (decide (specialIn K (.builtin "object.__class__") "__get__" = some (some (.builtin "getset_descriptor.__get__"))) && (decide (takesIn K (.builtin "object.__class__") = some true) &&
  (decide (mroIn K D (.type "object") = some true) && decide (kitOne K (.ref D) (.type "ValueError") = some true))))
theorem isC_of {K : Frag} {D : Addr} (h : isCB K D = true) : IsC K D := by
  obtain ⟨h1, h⟩ := He.ba h
  obtain ⟨h2, h⟩ := He.ba h
  obtain ⟨h3, h⟩ := He.ba h
  obtain ⟨h4, h5⟩ := He.ba h
  exact ⟨of_decide_eq_true h1, of_decide_eq_true h2, of_decide_eq_true h3, of_decide_eq_true h4, of_decide_eq_true h5⟩
end VL.EX
namespace VL
open PySem PySem.W L2
theorem catC_of {K : PySem.W.Frag} {D fI C : Addr} (Y : EX.WayC K D fI C) : CatC K C := ⟨⟨Y.ga, Y.gg, Y.exC, Y.hdC⟩, Y.noN⟩
/-- which error is caught by which clause -/
def exmB (K : PySem.W.Frag) (cl : List Str) (y : Str) : Bool := cl.all fun x => decide (PySem.W.exmOne K (.ref (He.ga K x)) (.ref (He.ga K y)) = some (isA x y)) && decide (PySem.W.kitOne K (.ref (He.ga K x)) (.ref (He.ga K y)) = some (isA x y))
theorem exm_of {K : PySem.W.Frag} {cl : List Str} {y : Str} (h : exmB K cl y = true) : ∀ cn ∈ cl, PySem.W.exmOne K (.ref (He.ga K cn)) (.ref (He.ga K y)) = some (isA cn y) := fun cn hm => of_decide_eq_true (He.ba (List.all_eq_true.mp h cn hm)).1
theorem kit_of' {K : PySem.W.Frag} {cl : List Str} {y : Str} (h : exmB K cl y = true) : ∀ cn ∈ cl, PySem.W.kitOne K (.ref (He.ga K cn)) (.ref (He.ga K y)) = some (isA cn y) := fun cn hm => of_decide_eq_true (He.ba (List.all_eq_true.mp h cn hm)).2
/-! ### the hook -/
abbrev AlX : Type := He.AlD × EX.FnX × Bool
def errB (file : Str) (cl ys : List Str) (K : PySem.W.Frag) : Bool := EX.rootB file K && ((cl.all fun x => EX.wayCB K x && EX.isCB K (He.ga K x)) && ys.all fun y => exmB K cl y)
def obsXK (file : Str) (cl ys : List Str) (fa : List He.Fa) (fn : List He.DefD) (K : PySem.W.Frag) : AlX := (He.obsD fa fn K, EX.fnX' K (EX.initA K), errB file cl ys K)
def SaysX (file : Str) (cl ys : List Str) (fa : List He.Fa) (fn : List He.DefD) (K : PySem.W.Frag) : Prop := obsXK file cl ys fa fn K = (He.valD fn, EX.valX, true)
def obsXG (file : Str) (cl ys : List Str) (fa : List He.Fa) (fn : List He.DefD) (g : Addr → Option Obj) : AlX := obsXK file cl ys fa fn (noLK (He.frG g (EX.asX g)))
def hookX (file : Str) (cl ys : List Str) (fa : List He.Fa) (fn : List He.DefD) : PySem.W.Hook where
  α := AlX
  obs := fun s => obsXG file cl ys fa fn s.heap.get?
  val := fun _ => (He.valD fn, EX.valX, true)
  says := fun _ h => ∃ K : PySem.W.Frag, K.In h ∧ NoL K ∧ SaysX file cl ys fa fn K
  of := fun _ _ e => ⟨_, noLK_in He.frG_in, noLK_NoL _, e⟩
  keeps := fun _ _ _ ⟨K, hK, nl, c⟩ k => ⟨K, PySem.W.Frag.In.keeps hK k, nl, c⟩
theorem obsXG_eq {file : Str} {cl ys : List Str} {fa : List He.Fa} {fn : List He.DefD} {g : Addr → Option Obj} {s : Shared} (h : ∀ a, g a = s.heap.get? a) : obsXG file cl ys fa fn g = (hookX file cl ys fa fn).obs s := by
  have e : g = s.heap.get? := funext h
  rw [e]
  rfl
section
variable {file : Str} {cl ys : List Str} {fa : List He.Fa} {fn : List He.DefD} {K : PySem.W.Frag}
theorem SaysX.d (c : SaysX file cl ys fa fn K) : He.SaysD fa fn K := congrArg (fun z : AlX => z.1) c
theorem SaysX.err (c : SaysX file cl ys fa fn K) : errB file cl ys K = true := congrArg (fun z : AlX => z.2.2) c
theorem SaysX.root {P : Program} (c : SaysX P.main.file cl ys fa fn K) (top : (P.main.scope.names.lookup ("super" : Str)).isSome = false) : EX.WayT P K 2 (EX.rootA K) (EX.initA K) := EX.wayT_of (congrArg (fun z : AlX => z.2.1) c) (He.ba c.err).1 top
theorem SaysX.cls (c : SaysX file cl ys fa fn K) {x : Str} (h : x ∈ cl) : EX.WayC K (EX.rootA K) (EX.initA K) (He.ga K x) := EX.wayC_of (He.ba (List.all_eq_true.mp (He.ba (He.ba c.err).2).1 x h)).1
theorem SaysX.isc (c : SaysX file cl ys fa fn K) {x : Str} (h : x ∈ cl) : EX.IsC K (He.ga K x) := EX.isC_of (He.ba (List.all_eq_true.mp (He.ba (He.ba c.err).2).1 x h)).2
theorem SaysX.kit (c : SaysX file cl ys fa fn K) {y : Str} (h : y ∈ ys) : ∀ cn ∈ cl, PySem.W.kitOne K (.ref (He.ga K cn)) (.ref (He.ga K y)) = some (isA cn y) := kit_of' (List.all_eq_true.mp (He.ba (He.ba c.err).2).2 y h)
theorem SaysX.exm (c : SaysX file cl ys fa fn K) {y : Str} (h : y ∈ ys) : ∀ cn ∈ cl, PySem.W.exmOne K (.ref (He.ga K cn)) (.ref (He.ga K y)) = some (isA cn y) := exm_of (List.all_eq_true.mp (He.ba (He.ba c.err).2).2 y h)
end
end VL

/-! VL, part 34: a number's text, texts joined; the law by the second core. -/
namespace VL
open PySem PySem.Spec L2 PySem.W
open PyProof.Rows hiding St

section
variable {X : Cx} {p : Par} {e a b : Expr} {c ca cb : E} {q0 pos : Pos}
end
/-! ### the law -/
section
variable {P : Program} {w : World} {K : PySem.W.Frag} {mg : Str → Option Value} {base : Heap} {k : Nat} {f : Addr} {fd : FuncData} {ps : List Str}
theorem FnE.quiet {ca : Str → Addr} {cf : Nat → List Val → Res Val} {g fr : Nat} (F : FnE P w K mg base k f fd ps (spE ca cf g fr K)) : FnG P w K mg base k f fd ps (spC cf g fr K) := by
  refine ⟨fun vs H Q ⟨F0, xs, v, dm, r, e, q⟩ => F.len vs H Q (fun _ _ _ => False) ⟨F0, xs, dm, r, .inl ⟨v, e, q⟩⟩, fun A outer s H args us vs Q hr gd e0 bd rv ⟨F0, xs, v, dm, r, e, q⟩ => ?_⟩
  refine codeAny_mono (F.run A outer s H args us vs Q (fun _ _ _ => False) hr gd e0 bd rv ⟨F0, xs, dm, r, .inl ⟨v, e, q⟩⟩) fun r s' hq => ?_
  cases r with
  | error e =>
    obtain ⟨_, _, _, _, _, _, _, _, _, _, _, _, w⟩ := (show L2.CX P w outer H s (fun _ _ _ => False) e s' from hq)
    exact w
  | ok fl => cases fl <;> exact hq
theorem evalDX_zero {Pr : Prog} {XP : ProgX} {g : Nat} {xs : List Val} {d : DefX} (hp : ∀ xs, primV g xs = none) (hd : XP g = some d) : evalDX Pr XP 0 g xs = .bad := by
  rw [evalDX, hp, hd]
theorem fnE_zero {Pr : Prog} {XP : ProgX} {g fr : Nat} {d : DefX} {ca : Str → Addr} (hp : ∀ xs, primV g xs = none) (hd : XP g = some d) : FnE P w K mg base 0 f fd ps (spE ca (evalDX Pr XP 0) g fr K) := by
  have no : ∀ {vs H Q E}, spE ca (evalDX Pr XP 0) g fr K vs H Q E → False := fun {vs H Q E} ⟨_, xs, _, _, h⟩ => by
    rcases h with ⟨v, e, _⟩ | ⟨c, i, e, _⟩ <;> rw [evalDX_zero hp hd] at e <;> cases e
  exact ⟨fun vs H Q E h => (no h).elim, fun A outer s H args us vs Q E _ _ _ _ _ h => (no h).elim⟩
theorem law_prC {cf : Nat → List Val → Res Val} {g : Nat} {K : PySem.W.Frag} {H : Hp} {a : Addr} {ns : List Int} (sq : SqL K H a (ns.map V.int)) (ev : cf g [.list (ns.map .int)] = .ok (.bool true)) : spC cf g 0 K [.ref a] H fun v _ => v = .bl true := by
  refine ⟨fun b => b = a ∧ H b ≠ none, [.list (ns.map .int)], .bool true, fun b h => h.2, repA_cons (rep_list.mpr ⟨a, _, rfl, sq, fun _ => ?_, repA_of_ints⟩) repA_nil, ev, fun u H' F' S _ o _ => rep_bool.mp (own_zero.mp o).2⟩
  by_cases h : H a = none
  · refine .inr fun H' => ?_
    rcases sq with (z | ⟨_, z⟩) | z
    · rw [h] at z
      cases z
    · rw [h] at z
      cases z
    · exact .inr z
  · exact .inl ⟨rfl, h⟩
end
end VL

/-! VL, part 35: dicts: keys, reading, storing. -/
namespace VL
open PySem PySem.Spec L2 PySem.W
open PyProof.Rows hiding St

section
variable {K : PySem.W.Frag} {H : Hp} {F : Addr → Prop}
/-- what stands at a key: there or not, in both -/
def Both (K : PySem.W.Frag) (H : Hp) (F : Addr → Prop) (k : Nat) : Option V → Option Val → Prop
  | none, none => True
  | some w, some y => Rep K H F k w y
  | _, _ => False
theorem Both.isSome {k : Nat} : ∀ {a : Option V} {b : Option Val}, Both K H F k a b → a.isSome = b.isSome
  | none, none, _ => rfl
  | some _, some _, _ => rfl
  | none, some _, h => h.elim
  | some _, none, h => h.elim
/-! storing -/
end
/-! ### reading -/
section
variable {X : Cx} {pins : List (Addr × Obj)} {σ : L2.St} {H : Hp} {s : Shared}
end

/-! ### rules -/
section
variable {X : Cx} {p : Par} {a b c e : Expr} {ca cb cc ce : E} {pos : Pos} {K : PySem.W.Frag}
end
end VL

/-! VL, part 36: a dict stored in; {(..): .. for .. in ..}. -/
namespace VL
open PySem PySem.Spec L2 PySem.W
open PyProof.Rows hiding St

section
variable {X : Cx} {p : Par} {fr : Nat} {x : Str} {e : Expr} {es : List Expr} {c : E} {cs : List E} {q0 q1 q2 pos : Pos} {x1 : Nat}
end
end VL

/-! VL, part 37: {(..): .. for .. in ..}. -/
namespace VL.TD
open PySem PySem.Spec L2 PySem.W
open PyProof.Rows hiding St

section
variable {X : Cx} {pins : List (Addr × Obj)} {σ : St} {H : Hp} {s : Shared} {E : Value → Shared → Prop}
end
end VL.TD

/-! VL, part 38: {(..): .. for .. in ..}, by its core. -/
namespace VL
open PySem PySem.Spec L2 PySem.W
open PyProof.Rows hiding St

section
variable {X : Cx} {p : Par} {t : Pat} {w : List Nat} {ci ve : E} {kes : List E} {d : Nat}
variable {tg iter vx : Expr} {kxs : List Expr} {scope : Scope} {own : List (PySem.Str × Nat)} {pos pos1 : Pos} {x1 : Nat}
end
end VL

/-! VL, part 39: len(set(xs)), xs a list of ints. -/
namespace VL
open PySem PySem.Spec L2 PySem.W
open PyProof.Rows hiding St

section
variable {X : Cx} {p : Par} {a : Expr} {ca : E} {ta : TE} {q0 q1 pos pos1 : Pos}
end
end VL

/-! VL, part 40: t = xs.pop(0), t a pattern. -/
namespace VL
open PySem PySem.Spec L2 PySem.W
open PyProof.Rows hiding St

section
variable {X : Cx} {p : Par} {fr : Nat} {pos q0 q1 q2 q3 : Pos} {tg : Expr} {t : Pat} {x : Str} {k1 : Nat}
end
end VL

/-! VL, part 41: a, b = [e, f] of new things. -/
namespace VL
open PySem PySem.Spec L2 PySem.W
open PyProof.Rows hiding St

section
variable {X : Cx} {p : Par} {pos pl : Pos} {es tgs : List Expr} {cs : List E} {is : List Nat}
end
end VL

/-! VL, part 42: name = {(..): .. for .. in ..} on one line. -/
namespace VL
open PySem PySem.Spec L2 PySem.W
open PyProof.Rows hiding St

section
variable {X : Cx} {p : Par} {fr : Nat} {t : Pat} {w : List Nat} {ci ve : E} {kes : List E} {kxs : List Expr} {tg iter vx kx : Expr} {scope : Scope} {own : List (PySem.Str × Nat)} {pos py spos pos1 : Pos} {x1 : Nat} {y : PySem.Str}
end
end VL

/-! VL, part 43: x not in range(n); t[j].clear(), the tuple forgotten. -/
namespace VL
open PySem PySem.Spec L2 PySem.W
open PyProof.Rows hiding St

section
variable {X : Cx} {p : Par} {fr : Nat}
variable {a n : Expr} {ca cn : E} {q0 q1 pos : Pos}
end
section
variable {X : Cx} {p : Par} {fr : Nat} {pos q0 q1 q2 q3 q4 : Pos} {x : Str} {sts : List Stmt} {ss : List S}
end
end VL

/-! VL, part 44: sorted(xs, key=len), xs lists. -/
namespace VL
open PySem PySem.Spec L2 PySem.W
open PyProof.Rows hiding St

section
variable {X : Cx}
variable {p : Par} {e : Expr} {ce : E} {ta : TA} {q0 q1 pos kp : Pos}
end
end VL

/-! VL, part 45: xs[j][k] = e, xs a new list of new lists. -/
namespace VL
open PySem PySem.Spec L2 PySem.W
open PyProof.Rows hiding St

section
variable {X : Cx} {p : Par} {fr : Nat} {pos q0 q1 q2 : Pos} {e ei ej : Expr} {c ci cj : E} {x : Str}
end
end VL

/-! VL, part 46: sorted(set(xs)), xs tuples of ints of any length. -/
namespace VL
open PySem PySem.Spec L2 PySem.W
open PyProof.Rows hiding St

/-! ### the order -/
namespace TB
section
variable {P : Program} {w : World} {A : Around} {E : Value → Shared → Prop} {s : Shared} {a : Addr} {L : List (Addr × List Int)} {es : Array (Int × Value)} {ep : Nat} {t : SetTable}
end
section
variable {X : Cx}
end
end TB
/-! ### the op -/
section
variable {X : Cx} {p : Par} {e : Expr} {c : E} {q0 q1 pos pos1 : Pos}
end
end VL

/-! VL, part 47: tuple(xs); x = f(..), x = f(..) == b, return f(..), where f may raise. -/
namespace VL
open PySem PySem.Spec L2 PySem.W
open PyProof.Rows hiding St

section
variable {X : Cx} {p : Par} {e : Expr} {ce : E} {q0 pos : Pos}
end
section
variable {X : Cx} {p : Par} {k fr i : Nat} {x y : Str} {ps : List Str} {q0 q1 pos pos2 : Pos} {e b : Expr} {es : List Expr} {cs : List E} {cb : E} {g gr : Nat}
end
end VL

/-! VL, part 48: f(..).append(m), f(..)[k].append(m), what f tells is new. -/
namespace VL
open PySem PySem.Spec L2 PySem.W
open PyProof.Rows hiding St

section
variable {X : Cx} {p : Par} {fr : Nat} {pos q1 q2 q3 q4 q5 : Pos} {e : Expr} {c : E} {m k : Int} {j j2 : Nat}
end
end VL

/-! VL, part 49: return (x, y, e), x and y own names, e new. -/
namespace VL
open PySem PySem.Spec L2 PySem.W
open PyProof.Rows hiding St

section
variable {X : Cx} {p : Par} {fr : Nat} {pos q0 : Pos} {e : Expr} {c : E} {x : Str} {es : List Expr} {te : TE}
end
end VL

/-! VL, part 50: t[1:] of a tuple. -/
namespace VL
open PySem PySem.Spec L2 PySem.W
open PyProof.Rows hiding St

section
variable {X : Cx} {p : Par} {a : Expr} {ca : E} {pos p2 q : Pos} {j : Nat}
end
end VL

/-! VL, part 51: errors as values: C(e), e.at, isinstance(e, C). -/
namespace VL.EX
open PySem PySem.W PySem.Calls PyProof.Rows

section
variable {prog : Program} {w : World} {A : Around} {E : Value → Shared → Prop} {s : Shared} {K : Frag} {x D : Addr} {ox : Obj} {od : Option Obj}
theorem find_class (hd : hasDictIn K D = true) (c : IsC K D) : findObj K D od "__class__" = some (.bind (.builtin "getset_descriptor.__get__") (.builtin "object.__class__")) := by
  obtain ⟨cd, hc, _⟩ := any_some hd
  unfold findObj
  rw [hc, Option.bind_some, c.ha, Option.bind_some]
  simp [c.hn, c.ht]
/-- the class of an error is asked, whatever its dict -/
theorem ask_class {Q : Option Value → Shared → Prop} (T : L2.XfC K D) (c : IsC K D) (X : K.In s.heap) (I : InstAt s.heap x ox D od) (h : Q (some (.ref D)) { s with toks := s.toks + 1 }) : wpAny (model prog w) A (getAttr? (.ref x) "__class__") Q E s := by
  have hf := find_class (od := od) T.hdC c
  obtain ⟨hp, g, d, t, os⟩ := s
  have L0 := I.type (M := model prog w)
  have L1 := looks_findIn (M := model prog w) X T.ga
  have L2 := looks_findIn (M := model prog w) X T.gg
  have L3 := looks_find (M := model prog w) X I hf
  have sub : Looks (model prog w) hp (isInstance (.ref x) (.type "BaseException")) true := L0.andThen (looks_subIn X T.exC)
  unfold getAttr? getAttrBy? getAttrBy
  refine wpAny_bind (wpAny_mkText (wpAny_bind (wpAny_attempt (wpAny_holding (wpAny_bind (L0.at (wpAny_bind (L1.at ?_))))))))
  show wpAny _ _ (if (onTheHeap (Value.ref D) && Value.builtin "BaseException.__getattribute__" == Value.builtin "object.__getattribute__") = true then _ else _) _ _ _
  have e1' : (onTheHeap (Value.ref D) && Value.builtin "BaseException.__getattribute__" == Value.builtin "object.__getattribute__") = false := by
    rw [show (Value.builtin "BaseException.__getattribute__" == Value.builtin "object.__getattribute__") = false by decide +kernel]
    rfl
  rw [e1', if_neg Bool.false_ne_true]
  unfold getAttrByItsOwn hookBefore
  refine wpAny_bind ?_
  rw [if_pos (show onTheHeap (Value.ref D) = true from rfl)]
  refine L2.at ?_
  refine wpAny_bind (wpAny_attempt (wpAny_holding ?_))
  unfold callGetattribute
  rw [show (false && onTheHeap (Value.builtin "BaseException.__getattribute__")) = false from rfl, if_neg Bool.false_ne_true]
  unfold boundAndCalled
  rw [PySem.F.excAttr_ValueError.ga.bind (.ref x)]
  refine wpAny_bind (wpAny_pure ?_)
  show wpAny _ _ (call (.builtin "BaseException.__getattribute__") [.ref x, .str "__class__" t]) _ _ _
  refine wpAny_call (codeAny_call_builtin PySem.F.excAttr_ValueError.ga.plain PySem.F.entry_bexc_ga ?_)
  refine @check_slot (model prog w) _ _ ⟨hp, g, d, t + 1, os⟩ "BaseException.__getattribute__" "BaseException" "__getattribute__" (.ref x) [.str "__class__" t] [] _ (by decide +kernel) (by decide +kernel) sub (PySem.F.args_bexc_ga (.ref x) (.str "__class__" t)) ?_
  unfold Builtin.«object.__getattribute__»
  refine wpAny_bind (wpAny_of_eq (a := ((Value.ref x : Value), [Value.str "__class__" t])) (by first | rfl | (simp only [slotArgs]; rfl)) ?_)
  refine wpAny_bind (wpAny_pure (wpAny_bind (L0.at (wpAny_bind (L3.at ?_)))))
  show wpAny _ _ (holding [Value.builtin "object.__class__"] (call (.builtin "getset_descriptor.__get__") [.builtin "object.__class__", .ref x, .ref D]) >>= ret) _ _ _
  refine wpAny_bind (wpAny_holding (wpAny_call (class_get (s := ⟨hp, g, d, t + 1, os⟩) (ox := ox) (od := od) X I c.hm ?_)))
  refine wpAny_pure ?_
  show wpAny _ _ (handedOut (.ref D)) _ _ _
  rw [handedOut_of (v := .ref D) rfl]
  first
    | exact wpAny_pure (wpAny_pure h)
    | exact wpAny_pure h
    | exact wpAny_pure (wpAny_bind (wpAny_pure (wpAny_pure h)))
theorem kit_err (T : L2.XfC K D) (c : IsC K D) : KitX K (.ref x) (.ref D) (fun h => ∃ ox od, InstAt h x ox D od) where
  ty := fun _ _ _ ⟨_, _, I⟩ => I.type
  it := fun _ _ X _ => by
    obtain ⟨cd, hc, _⟩ := any_some T.hdC
    unfold clsIn at hc
    split at hc
    · rename_i c' d' cd' sl' ho
      intro A' Q' E' s' k q
      unfold PySem.isType loadHead
      exact wpAny_bind (wpAny_loadPart (k _ _ (X _ _ ho)) (wpAny_pure q))
    · cases hc
  ne := fun h tp dd its n sl X htp => by
    obtain ⟨cd, hc, _⟩ := any_some T.hdC
    refine Bool.eq_false_iff.mpr fun q => ?_
    have e : D = tp := Value.ref.inj (beq_iff_eq.mp q)
    subst e
    unfold clsIn at hc
    split at hc
    · rename_i c' d' cd' sl' ho
      have z := (X _ _ ho).symm.trans htp
      cases z
    · cases hc
  ca := fun X ⟨_, _, I⟩ q => ask_class T c X I q
end
end VL.EX
namespace VL
open PySem PySem.Spec L2 PySem.W
open PyProof.Rows hiding St

section
variable {X : Cx} {pins : List (Addr × Obj)} {σ : L2.St} {H : Hp} {s : Shared}
/-- a tracked error, as it lies -/
theorem err_at {a dd C : Addr} {fs : List (Str × V)} (I : Inv X pins σ H s) (h1 : H a = some (errO (.ref C) dd a)) (h2 : H dd = some (.xd fs)) : ∃ oe od, PySem.W.InstAt s.heap a oe C (some od) ∧ ∃ mA : Str → Option Value, (∀ n, PySem.W.lookIn n od = some (mA n)) ∧ ∀ f, RelO (fs.lookup f) (mA f) := by
  obtain ⟨⟨oe, vs, ha, hz, hd⟩, _, _⟩ := I.hok a _ h1
  have hx : ObjOk X.prog X.w H s.heap dd (.xd fs) := I.hok dd _ h2
  obtain ⟨mA, hns, hr⟩ := hx
  obtain ⟨od, ho, hl⟩ := lookIn_ns hns
  exact ⟨oe, od, ⟨ha, hz.1, by unfold PySem.W.notCls; rw [hd] <;> rfl, by rw [hz.2]; exact ho⟩, mA, hl, hr⟩
end
section
variable {X : Cx} {pos : Pos}
/-- e.at -/
theorem pe_errAt {e : Expr} {te : TE} (he : PE X e te) (hb : attributeBase e "at" X.env (eval e X.env) = eval e X.env := by rfl) :
    PE X (.Attribute e "at" pos) (fun σ H Q => te σ H fun x H1 => ∃ (a dd C : Addr) (i : Int), x = .ref a ∧ CatC X.K C ∧ H1 a = some (errO (.ref C) dd a) ∧ H1 dd = some (.xd [(("at" : Str), V.int i)]) ∧ Q (.int i) H1) := by
  refine ⟨fun pins s σ H Q I h => ?_⟩
  refine attr_of hb (thn (he.run pins s σ H _ I h) fun u s1 hh => ?_)
  obtain ⟨x, H1, I1, rx, a, dd, C, i, ex, T, h1, h2, q⟩ := hh
  subst ex
  obtain rfl : u = Value.ref a := rx
  obtain ⟨oe, od, J, mA, hl, hr⟩ := err_at I1 h1 h2
  obtain ⟨u, hu, ru⟩ := RelO.some_of (v := V.int i) (o := mA "at") (by
    have := hr "at"
    simpa [List.lookup] using this)
  exact HandSPX.exc_get I1.kIn J T.1.ga T.1.gg T.1.exC (PySem.W.findObj_own T.1.hdC T.2 rfl (by rw [hl, hu])) (handed_of ru) ⟨_, H1, I1.tok _, ru, q⟩
/-- isinstance(e, C) -/
def rIsD (K : PySem.W.Frag) : List V → Hp → VK → Prop := fun xs H Q => ∃ (a dd C : Addr) (fs : List (Str × V)) (c : V) (cv : Value) (b : Bool), xs = [.ref a, c] ∧ XfC K C ∧ EX.IsC K C ∧ H a = some (errO (.ref C) dd a) ∧ H dd = some (.xd fs) ∧ (∀ u, RelV c u → u = cv) ∧ PySem.W.kitOne K (.ref C) cv = some b ∧ Q (.bl b) H
theorem call_isD : CallR X (.builtin "isinstance") (rIsD X.K) := by
  intro pins s σ H xs us Q I r h
  obtain ⟨a, dd, C, fs, c, cv, b, rfl, T, D, h1, h2, hcv, e, q⟩ := h
  cases r with
  | cons rx rr =>
    cases rr with
    | cons rt rr =>
      cases rr
      cases rx
      have ec := hcv _ rt
      subst ec
      obtain ⟨oe, od, J, _⟩ := err_at I h1 h2
      exact PySem.W.kia_one (EX.kit_err T D) I.kIn ⟨oe, some od, J⟩ e (fun z => nomatch z) fun tk => ⟨.bl b, H, I.kept (t' := tk) fun _ _ z => z, rfl, q⟩
/-- C(e), as a value -/
theorem pe_mkErr {n : Nat} {D fI C : Addr} {a : Expr} {ta : TA} {x : Str} {p : Pos} {k : Nat} (T : EX.WayT X.prog X.K n D fI) (Y : EX.WayC X.K D fI C) (hm : X.mg x = some (.ref C)) (hs : X.mg "super" = none) (hr : Room k X.A) (ha : PA X [a] ta) (hg : Gl X x := by rfl) (hdb : (x == ("__debug__" : Str)) = false := by decide)
    (he : starEach (a :: []) X.env = (false, eval a X.env) :: starEach [] X.env := by rfl) (hpl : (backTo pos (starEach [] X.env)).any (·.1) = false := by rfl) :
    PE X (.Call (.Name x p) [a] [] pos) (fun σ H Q => ta σ H fun vs H1 => ∃ v, vs = [v] ∧ ∀ dd e, H1 dd = none → upd H1 dd (.xd [(("at" : Str), v)]) e = none → Q (.ref e) (upd (upd H1 dd (.xd [(("at" : Str), v)])) e (errO (.ref C) dd e))) := by
  refine ⟨fun pins s σ H Q I h => ?_⟩
  refine wpAny_Call_Name_kw (ld_glob I hg hm ?_ hdb)
  refine PySem.W.callWith_K (h₀ := X.base) I.ok.mod.kin Y.kC (thn (ha.run pos pins s σ H _ I h) fun us s1 hh => ?_) he hpl
  obtain ⟨vs, H1, I1, r1, v, ev, q1⟩ := hh
  subst ev
  refine ⟨I1.kIn, ?_⟩
  cases r1 with
  | cons rv rn =>
    rename_i v' us'
    cases rn
    show wpAny _ _ (call (.ref C) [v']) _ _ _
    have hlim := I1.nolimit
    obtain ⟨mb, b1, b2⟩ := I1.mod.blt
    have G1 := I1.mod.glob.keeps I1.bk
    have B1 := b1.keeps I1.bk
    have hmb : mb "super" = some (.type "super") := (b2 "super" (by decide)).trans (by first | rfl | kernel_rfl)
    obtain ⟨hp, g, dr, tk, os⟩ := s1
    refine wpAny_call (EX.way_made T Y I1.kIn G1 B1 hs hmb hlim (by have := hr.dp; omega) fun h' tk' e d M => ?_)
    obtain ⟨oe, fv, hoe, hc, hd, hdat, h1⟩ := M.obj
    have hns := M.ns
    obtain ⟨G', g1, g2⟩ := restrict h' fun b => decide (b ≠ e)
    have gk : ∀ b, b ≠ e → G'.get? b = h'.get? b := fun b hb => g1 b (decide_eq_true hb)
    have ge : G'.get? e = none := g2 e (by simp)
    have old : ∀ b o, hp.get? b = some o → G'.get? b = some o := fun b o q => (gk b (Nat.ne_of_lt (Nat.lt_of_lt_of_le (Heap.lt_size q) M.new))).trans (M.keep b o q)
    have ob : ObjOk X.prog X.w (upd H1 d (.xd [(("at" : Str), v)])) G' d (.xd [(("at" : Str), v)]) :=
      ⟨_, hns.at (fun o q => (gk d M.dne).trans q), fun f => relO_at rv f⟩
    have J : Inv X pins σ (upd H1 d (.xd [(("at" : Str), v)])) ⟨G', g, dr, tk', os⟩ := I1.laid (t' := tk') old M.dbig ob
    have ne : upd H1 d (.xd [(("at" : Str), v)]) e = none := by
      rw [upd_ne (Ne.symm M.dne)]
      exact I1.hok.fresh M.new
    have J2 : Inv X pins σ (upd (upd H1 d (.xd [(("at" : Str), v)])) e (errO (.ref C) d e)) ⟨h', g, dr, tk', os⟩ := J.laidN (h' := h') (t' := tk') (fun b o q => by
      by_cases hb : b = e
      · have q' : G'.get? b = some o := q
        rw [hb, ge] at q'
        cases q'
      · exact (gk b hb).symm.trans q) ge ne ⟨⟨oe, fv, hoe, ⟨hc, hd⟩, hdat⟩, ⟨oe, hoe⟩, fun h1 h2 ⟨o, v, q, r⟩ k => ⟨o, v, k o q, r⟩⟩
    exact ⟨.ref e, _, J2, rfl, q1 d e (I1.hok.fresh M.dbig) ne⟩
end
/-! ### the operations -/
section
variable {X : Cx} {p : Par} {a : Expr} {ca : E} {pos p0 q0 q1 : Pos} {x : Str} {j : Nat}
theorem ve_mkErr {n k : Nat} {D fI : Addr} (T : EX.WayT X.prog X.K n D fI) (Y : EX.WayC X.K D fI (He.ga X.K x)) (hm : X.mg x = some (.ref (He.ga X.K x))) (hs : X.mg "super" = none) (hr : Room k X.A) (ha : VE X p a ca) (hg : Gl X x := by rfl) (hdb : (x == ("__debug__" : Str)) = false := by decide)
    (he : starEach (a :: []) X.env = (false, eval a X.env) :: starEach [] X.env := by rfl) (hpl : (backTo pos (starEach [] X.env)).any (·.1) = false := by rfl) : VE X p (.Call (.Name x p0) [a] [] pos) (.op (.mkErr x) [ca]) :=
  ⟨fun k => PE.imp (pe_mkErr T Y hm hs hr (pa_cons (ha.run 9) pa_nil he) hg hdb he hpl) fun σ H Q h => tE_op1 (o := .mkErr x) (r := fun v H1 Q => ∃ w, [v] = [w] ∧ ∀ dd e, H1 dd = none → upd H1 dd (.xd [(("at" : Str), w)]) e = none → Q (.ref e) (upd (upd H1 dd (.xd [(("at" : Str), w)])) e (errO (.ref (He.ga X.K x)) dd e))) (fun k H F u y v Q d hu h q => by
    have ei : ∃ i, y = .int i ∧ v = .dict [(.str x, .int i)] := by
      cases y with
      | int i => cases h; exact ⟨i, rfl, rfl⟩
      | _ => cases h
    obtain ⟨i, rfl, rfl⟩ := ei
    obtain rfl := rep_int.mp hu
    refine ⟨_, rfl, fun dd e n1 n2 => ?_⟩
    have g1 : Grow H F (upd H dd (.xd [(("at" : Str), V.int i)])) F := Grow.put d n1
    have g2 : Grow (upd H dd (.xd [(("at" : Str), V.int i)])) F (upd (upd H dd (.xd [(("at" : Str), V.int i)])) e (errO (.ref (He.ga X.K x)) dd e)) F := Grow.put g1.dom n2
    refine q _ _ F (g1.trans g2) (rep_dict.mpr (.inr ⟨e, dd, x, i, rfl, rfl, upd_same, ?_⟩))
    rw [upd_ne (fun z => by rw [← z, upd_same] at n2; cases n2)]
    exact upd_same) h⟩
theorem errAt_inv {ns : List Str} {y v : Val} (h : den (.errAt ns) [y] = .ok v) : ∃ c i, y = .dict [(.str c, .int i)] ∧ v = .int i ∧ c ∈ ns := by
  cases y with
  | dict kvs =>
    cases kvs with
    | nil => cases h
    | cons p r =>
      obtain ⟨x, z⟩ := p
      cases r with
      | cons _ _ => cases x <;> cases z <;> cases h
      | nil =>
        cases x with
        | str c =>
          cases z with
          | int i =>
            obtain ⟨hc, e⟩ := Res.guard_ok (show Res.guard (ns.contains c) (Res.ok (PyData.int i)) = .ok v from h)
            cases e
            exact ⟨c, i, rfl, rfl, List.contains_iff_mem.mp hc⟩
          | _ => cases h
        | _ => cases z <;> cases h
  | _ => cases h
theorem isErr_inv {ns : List Str} {c' : Str} {y v : Val} (h : den (.isErr ns c') [y] = .ok v) : ∃ c i, y = .dict [(.str c, .int i)] ∧ v = .bool (isA c c' || c' == ("ValueError" : Str)) ∧ c ∈ ns := by
  cases y with
  | dict kvs =>
    cases kvs with
    | nil => cases h
    | cons p r =>
      obtain ⟨x, z⟩ := p
      cases r with
      | cons _ _ => cases x <;> cases z <;> cases h
      | nil =>
        cases x with
        | str c =>
          cases z with
          | int i =>
            obtain ⟨hc, e⟩ := Res.guard_ok (show Res.guard (ns.contains c) (Res.ok (PyData.bool (isA c c' || c' == ("ValueError" : Str)))) = .ok v from h)
            cases e
            exact ⟨c, i, rfl, rfl, List.contains_iff_mem.mp hc⟩
          | _ => cases h
        | _ => cases z <;> cases h
  | _ => cases h
theorem ve_errAt {ns : List Str} (T : ∀ c ∈ ns, CatC X.K (He.ga X.K c)) (ha : VE X p a ca) (hb : attributeBase a "at" X.env (eval a X.env) = eval a X.env := by rfl) : VE X p (.Attribute a "at" pos) (.op (.errAt ns) [ca]) :=
  ⟨fun k => PE.imp (pe_errAt (ha.run 9) hb) fun σ H Q h => tE_op1 (o := .errAt ns) (r := fun v H1 Q => ∃ (a dd C : Addr) (i : Int), v = .ref a ∧ CatC X.K C ∧ H1 a = some (errO (.ref C) dd a) ∧ H1 dd = some (.xd [(("at" : Str), V.int i)]) ∧ Q (.int i) H1) (fun k H F u y v Q d hu h q => by
    obtain ⟨c, i, rfl, rfl, hc⟩ := errAt_inv h
    rcases rep_dict.mp hu with ⟨_, _, _, _, _, z⟩ | ⟨a, dd, c', i', rfl, e, h1, h2⟩
    · simp [RepD] at z
    · cases e
      exact ⟨a, dd, _, i, rfl, T c hc, h1, h2, q _ H F (Grow.refl d) (rep_int.mpr rfl)⟩) h⟩
theorem isErr_does {K : PySem.W.Frag} {ns : List Str} {c : V} {cv : Value} {x : Str} (T : ∀ n ∈ ns, CatC K (He.ga K n) ∧ EX.IsC K (He.ga K n)) (hk : ∀ n ∈ ns, PySem.W.kitOne K (.ref (He.ga K n)) cv = some (isA n x || x == ("ValueError" : Str))) (hc : ∀ u, RelV c u → u = cv)
    {k : Nat} {H : Hp} {F : Addr → Prop} {u : V} {y v : Val} {Q : VK} (d : ∀ a, F a → H a ≠ none) (hu : Rep K H F 9 u y) (h : den (.isErr ns x) [y] = .ok v) (q : ∀ u' H' F', Grow H F H' F' → Rep K H' F' k u' v → Q u' H') : rIsD K [u, c] H Q := by
  obtain ⟨n, i, rfl, rfl, hn⟩ := isErr_inv h
  rcases rep_dict.mp hu with ⟨_, _, _, _, _, z⟩ | ⟨a, dd, c', i', rfl, e, h1, h2⟩
  · simp [RepD] at z
  · cases e
    exact ⟨a, dd, _, _, c, cv, _, rfl, (T n hn).1.1, (T n hn).2, h1, h2, hc, hk n hn, q _ H F (Grow.refl d) (rep_bool.mpr rfl)⟩
theorem ve_isErr {ns : List Str} (x : Str) (hm : X.mg "isinstance" = none) (hm2 : X.mg x = some (.ref (He.ga X.K x))) (T : ∀ n ∈ ns, CatC X.K (He.ga X.K n) ∧ EX.IsC X.K (He.ga X.K n)) (hk : ∀ n ∈ ns, PySem.W.kitOne X.K (.ref (He.ga X.K n)) (.ref (He.ga X.K x)) = some (isA n x)) (ha : VE X p a ca)
    (hx : (x == ("ValueError" : Str)) = false := by decide) (hg2 : Gl X x := by rfl) (hd : (x == ("__debug__" : Str)) = false := by decide) (hg : Gl X "isinstance" := by rfl) (he : starEach [a, .Name x q1] X.env = (false, eval a X.env) :: starEach [.Name x q1] X.env := by rfl) : VE X p (.Call (.Name "isinstance" q0) [a, .Name x q1] [] pos) (.op (.isErr ns x) [ca]) :=
  ⟨fun k => PE.imp (pe_callB call_isD hg hm boot_isinstance (pa_cons (ha.run 9) (pa_cons (pe_glob (v := .ref (He.ga X.K x)) hg2 hm2 rfl hd) pa_nil rfl) he) (by decide) (by decide) he rfl) fun σ H Q h => tE_op1 (o := .isErr ns x) (r := fun v H1 Q => rIsD X.K [v, .ref (He.ga X.K x)] H1 Q) (fun k H F u y v Q d hu h q => isErr_does T (fun n hn => by rw [hk n hn, hx, Bool.or_false]) (fun u r => by cases r; rfl) d hu h q) h⟩
theorem ve_isVE {ns : List Str} (hm : X.mg "isinstance" = none) (hm2 : X.mg "ValueError" = none) (T : ∀ n ∈ ns, CatC X.K (He.ga X.K n) ∧ EX.IsC X.K (He.ga X.K n)) (ha : VE X p a ca) (hg2 : Gl X "ValueError" := by rfl) (hg : Gl X "isinstance" := by rfl) (he : starEach [a, .Name "ValueError" q1] X.env = (false, eval a X.env) :: starEach [.Name "ValueError" q1] X.env := by rfl) :
    VE X p (.Call (.Name "isinstance" q0) [a, .Name "ValueError" q1] [] pos) (.op (.isErr ns "ValueError") [ca]) :=
  ⟨fun k => PE.imp (pe_callB call_isD hg hm boot_isinstance (pa_cons (ha.run 9) (pa_cons (pe_bltn (v := .ty "ValueError") hg2 hm2 (by decide +kernel) rfl (by decide) (by decide)) pa_nil rfl) he) (by decide) (by decide) he rfl) fun σ H Q h => tE_op1 (o := .isErr ns "ValueError") (r := fun v H1 Q => rIsD X.K [v, .ty "ValueError"] H1 Q) (fun k H F u y v Q d hu h q => isErr_does T (fun n hn => by rw [(T n hn).2.ve]; simp) (fun u r => by cases r; rfl) d hu h q) h⟩
end
end VL

/-! VL, the plain side, part 0: typed values, and what the core tells of them. -/
namespace VL
open PySem

class Enc (α : Type) where
  enc : α → Val
  dep : Nat
  eqv : ∀ a b : α, PyData.eqv (enc a) (enc b) = true ↔ a = b
  lay : ∀ a : α, (enc a).canLay0 = true
  depth : ∀ a : α, (enc a).depth ≤ dep
open Enc
/-- a tuple of three -/
structure Tr (α β γ : Type) where
  a : α
  b : β
  c : γ
  deriving DecidableEq

instance : Enc Int where
  enc := .int
  dep := 0
  eqv := fun a b => by simp [PyData.eqv]
  lay := fun a => by simp [PyData.canLay0]
  depth := fun a => by simp [PyData.depth]
theorem eqvAll_map {α : Type} [Enc α] : ∀ (xs ys : List α), PyData.eqvAll (xs.map enc) (ys.map enc) = true ↔ xs = ys
  | [], [] => by simp [PyData.eqvAll]
  | [], y :: ys => by simp [PyData.eqvAll]
  | x :: xs, [] => by simp [PyData.eqvAll]
  | x :: xs, y :: ys => by
    simp only [List.map_cons, PyData.eqvAll, Bool.and_eq_true, eqv, eqvAll_map xs ys, List.cons.injEq]
theorem layAll_map {α : Type} [Enc α] : ∀ xs : List α, PyData.canLayAll0 (xs.map enc) = true
  | [] => by simp [PyData.canLayAll0]
  | x :: xs => by simp only [List.map_cons, PyData.canLayAll0, lay, layAll_map xs, Bool.and_self]
theorem depAll_map {α : Type} [Enc α] : ∀ xs : List α, PyData.depthAll (xs.map enc) ≤ dep α
  | [] => by simp [PyData.depthAll]
  | x :: xs => by
    simp only [List.map_cons, PyData.depthAll]
    exact Nat.max_le.mpr ⟨depth x, depAll_map xs⟩
instance {α : Type} [Enc α] : Enc (List α) where
  enc := fun xs => .list (xs.map enc)
  dep := dep α + 1
  eqv := fun a b => by simp only [PyData.eqv]; exact eqvAll_map a b
  lay := fun a => by simp only [PyData.canLay0]; exact layAll_map a
  depth := fun a => by simp only [PyData.depth]; exact Nat.succ_le_succ (depAll_map a)
instance {α β : Type} [Enc α] [Enc β] : Enc (α × β) where
  enc := fun p => .tuple [enc p.1, enc p.2]
  dep := dep α + dep β + 1
  eqv := fun a b => by
    simp only [PyData.eqv, PyData.eqvAll, Bool.and_true, Bool.and_eq_true, eqv]
    exact ⟨fun h => Prod.ext h.1 h.2, fun h => by rw [h]; exact ⟨rfl, rfl⟩⟩
  lay := fun a => by simp only [PyData.canLay0, PyData.canLayAll0, lay, Bool.and_self]
  depth := fun a => by
    simp only [PyData.depth, PyData.depthAll]
    have h1 := depth a.1
    have h2 := depth a.2
    omega
instance {α β γ : Type} [Enc α] [Enc β] [Enc γ] : Enc (Tr α β γ) where
  enc := fun p => .tuple [enc p.a, enc p.b, enc p.c]
  dep := dep α + dep β + dep γ + 1
  eqv := fun a b => by
    cases a
    cases b
    simp only [PyData.eqv, PyData.eqvAll, Bool.and_true, Bool.and_eq_true, eqv, Tr.mk.injEq]
  lay := fun a => by simp only [PyData.canLay0, PyData.canLayAll0, lay, Bool.and_self]
  depth := fun a => by
    simp only [PyData.depth, PyData.depthAll]
    have h1 := depth a.a
    have h2 := depth a.b
    have h3 := depth a.c
    omega
theorem shaped_enc {α : Type} [Enc α] (h : dep α ≤ 64) (a : α) : shapedB (enc a) = true := by
  unfold shapedB SeqAt.shaped
  rw [lay, Bool.true_and, decide_eq_true_eq]
  exact Nat.le_trans (depth a) h
theorem eqv_enc {α : Type} [Enc α] [DecidableEq α] (a b : α) : PyData.eqv (enc a) (enc b) = decide (a = b) := by
  by_cases h : a = b
  · rw [decide_eq_true h]
    exact (eqv a b).mpr h
  · rw [decide_eq_false h]
    exact Bool.eq_false_iff.mpr fun z => h ((eqv a b).mp z)
section
variable {α : Type} [Enc α] [DecidableEq α]
theorem den_eq (h : dep α ≤ 64) (a b : α) : den .eq [enc a, enc b] = .ok (.bool (decide (a = b))) := by
  show vEq (enc a) (enc b) = _
  unfold vEq
  rw [shaped_enc h, shaped_enc h, eqv_enc]
  rfl
theorem den_ne (h : dep α ≤ 64) (a b : α) : den .ne [enc a, enc b] = .ok (.bool (!decide (a = b))) := by
  show vNe (enc a) (enc b) = _
  unfold vNe
  rw [shaped_enc h, shaped_enc h, eqv_enc]
  rfl
theorem memB_enc (x : α) : ∀ ys : List α, memB (enc x) (ys.map enc) = decide (x ∈ ys)
  | [] => by simp [memB]
  | y :: ys => by
    have := memB_enc x ys
    unfold memB at this ⊢
    rw [List.map_cons, List.any_cons, this, eqv_enc]
    by_cases h : y = x
    · simp [h]
    · have h' : ¬ x = y := fun z => h z.symm
      simp [h, h']
theorem den_in (h : dep α + 1 ≤ 64) (x : α) (ys : List α) : den .isin [enc x, .list (ys.map enc)] = .ok (.bool (decide (x ∈ ys))) := by
  show Res.guard (shapedB (enc x) && shapedB (enc ys)) (Res.ok (PyData.bool (memB (enc x) (ys.map enc)))) = _
  rw [shaped_enc (by omega), shaped_enc (α := List α) h, memB_enc]
  rfl
theorem den_notin (h : dep α + 1 ≤ 64) (x : α) (ys : List α) : den .notin [enc x, .list (ys.map enc)] = .ok (.bool (!decide (x ∈ ys))) := by
  show Res.guard (shapedB (enc x) && shapedB (enc ys)) (Res.ok (PyData.bool (!memB (enc x) (ys.map enc)))) = _
  rw [shaped_enc (by omega), shaped_enc (α := List α) h, memB_enc]
  rfl
end
theorem sizeOk_iff {n : Nat} : sizeOk n = true ↔ n ≤ 16777216 := by
  unfold sizeOk sizeLine
  rw [decide_eq_true_eq]
theorem sizeOk_le {n : Nat} (h : n ≤ 16777216) : sizeOk n = true := sizeOk_iff.mpr h
theorem den_addL {xs ys : List Val} (h : xs.length + ys.length ≤ 16777216) : den .add [.list xs, .list ys] = .ok (.list (xs ++ ys)) := by
  show Res.guard (sizeOk (xs.length + ys.length)) _ = _
  rw [sizeOk_le h]
  rfl
theorem den_lst {ss : List Bool} {vs xs : List Val} {d : Nat} (e : starred ss vs = some xs) (h : xs.length ≤ 16777216) : den (.lst d ss) vs = .ok (.list xs) := by
  show vLst ss vs = _
  unfold vLst
  rw [e]
  show Res.guard (sizeOk xs.length) _ = _
  rw [sizeOk_le h]
  rfl
theorem den_sset {is : List Int} (h : (intsOnce is).length < 64) : den .sortedSet [(PyData.list (is.map PyData.int))] = .ok (.list ((intsOnce is).map .int)) := by
  show vSortedSet (.list (is.map .int)) = _
  unfold vSortedSet
  have e : intsOf (is.map .int) = some is := by
    clear h
    induction is with
    | nil => rfl
    | cons i is ih =>
      show (intsOf (is.map .int)).map (i :: ·) = _
      rw [ih]
      rfl
  dsimp only
  rw [e]
  show Res.guard (decide ((intsOnce is).length < 64)) _ = _
  rw [decide_eq_true h]
  rfl

/-! ### comprehensions -/
section
variable {cf : Nat → List Val → Res Val} {k d : Nat} {w w2 : List Nat} {elt it it2 : E} {t t2 : Pat} {ifs ifs2 : Option E} {ρ : Env} {α β : Type}
theorem compL_map {f : Val → Res (Option Val)} {e : α → Val} {e2 : β → Val} {g : α → Option β} : ∀ {l : List α}, (∀ x ∈ l, f (e x) = .ok ((g x).map e2)) → compL f (l.map e) = .ok ((l.filterMap g).map e2)
  | [], _ => rfl
  | x :: l, h => by
    show (f (e x)).bind _ = _
    rw [h x List.mem_cons_self]
    show (compL f (l.map e)).bind _ = _
    rw [compL_map fun y hy => h y (List.mem_cons_of_mem _ hy)]
    cases q : g x with
    | none => simp [q]
    | some y => simp [q]
/-- with a test p, and h told -/
theorem comp_eq (e : α → Val) (e2 : β → Val) (p : α → Bool) (h : α → β) (ρ' : α → Env) {l : List α} (hi : (evalE cf 1 it ρ).bind asSeq = .ok (l.map e)) (hb : ∀ x ∈ l, bindP t (e x) (killL w ρ) = .ok (ρ' x)) (hc : ∀ x ∈ l, evalO cf ifs (ρ' x) = .ok (p x))
    (he : ∀ x ∈ l, p x = true → evalE cf 0 elt (ρ' x) = .ok (e2 (h x))) (hz : l.length ≤ 16777216) : evalE cf k (.comp w d elt t it ifs) ρ = .ok (.list (((l.filter p).map h).map e2)) := by
  have hx : ∀ x ∈ l, turn1 cf w elt t ifs ρ (e x) = .ok ((if p x then some (h x) else none).map e2) := fun x m => by
    unfold turn1
    rw [hb x m, Res.bind_ok, hc x m, Res.bind_ok]
    cases q : p x with
    | true =>
      show ((evalE cf 0 elt (ρ' x)).quiet).bind _ = _
      rw [he x m q]
      rfl
    | false => rfl
  obtain ⟨v, e1, e3⟩ := Res.bind_eq_ok hi
  show ((evalE cf 1 it ρ).bind fun s => (asSeq s).bind fun xs => (compL (turn1 cf w elt t ifs ρ) xs).bind fun r => Res.guard (sizeOk r.length) (Res.ok (PyData.list r))) = _
  rw [e1, Res.bind_ok, e3, Res.bind_ok, compL_map hx, Res.bind_ok]
  have e4 : l.filterMap (fun x => if p x then some (h x) else none) = (l.filter p).map h := by
    clear hi hb hc he hz hx e3 e1
    induction l with
    | nil => rfl
    | cons x l ih =>
      rw [List.filterMap_cons, List.filter_cons]
      cases q : p x with
      | true => simp [ih]
      | false => simp [ih]
  rw [e4, sizeOk_le]
  · rfl
  · rw [List.length_map, List.length_map]
    exact Nat.le_trans (List.length_filter_le _ _) hz
end

/-! ### statements -/
section
variable {cf : Nat → List Val → Res Val} {ρ : Env} {ss : List S} {r : Res Out} {c : E} {v : Val} {i d : Nat}
theorem evalD_rt {Pr : Prog} {n f : Nat} {d : Def} {vs : List Val} {v : Val} (h : Pr f = some d) (hl : vs.length = d.np) (e : evalSs (evalD Pr n) d.body (startE d vs) = .ok (.rt v)) : evalD Pr (n + 1) f vs = .ok v := by
  unfold evalD
  rw [h]
  show Res.guard (decide (vs.length = d.np)) _ = _
  rw [decide_eq_true hl, e]
  rfl
theorem evalD_nx {Pr : Prog} {n f : Nat} {d : Def} {vs : List Val} {ρ : Env} (h : Pr f = some d) (hl : vs.length = d.np) (e : evalSs (evalD Pr n) d.body (startE d vs) = .ok (.nx ρ)) : evalD Pr (n + 1) f vs = .ok .none := by
  unfold evalD
  rw [h]
  show Res.guard (decide (vs.length = d.np)) _ = _
  rw [decide_eq_true hl, e]
  rfl
theorem ss_cons {s : S} {ρ' : Env} (h : evalS cf s ρ = .ok (.nx ρ')) (h2 : evalSs cf ss ρ' = r) : evalSs cf (s :: ss) ρ = r := by
  show (evalS cf s ρ).bind _ = _
  rw [h]
  exact h2
theorem ss_end {s : S} {o : Out} (h : evalS cf s ρ = .ok o) (hn : ∀ ρ', o ≠ .nx ρ') : evalSs cf (s :: ss) ρ = .ok o := by
  show (evalS cf s ρ).bind _ = _
  rw [h]
  cases o with
  | nx ρ' => exact absurd rfl (hn ρ')
  | _ => rfl
theorem ss_set (e : evalE cf 0 c ρ = .ok v) (h2 : evalSs cf ss (ρ.set i (some (v, d))) = r) (hl : Nat.blt i ρ.length = true := by rfl) : evalSs cf (.set i c d :: ss) ρ = r := by
  refine ss_cons ?_ h2
  show (evalE cf 0 c ρ).bind _ = _
  rw [e]
  show Res.guard (Nat.blt i ρ.length) _ = _
  rw [hl]
  rfl
theorem ss_ret (e : evalE cf 0 c ρ = .ok v) : evalSs cf (.ret c :: ss) ρ = .ok (.rt v) := by
  refine ss_end (o := .rt v) ?_ fun _ h => nomatch h
  show (evalE cf 0 c ρ).bind _ = _
  rw [e]
  rfl
theorem ss_asg {p : Pat} {ρ' : Env} (e : evalE cf 0 c ρ = .ok v) (hb : bindP p v ρ = .ok ρ') (h2 : evalSs cf ss ρ' = r) : evalSs cf (.asg p c :: ss) ρ = r := by
  refine ss_cons ?_ h2
  show (evalE cf 0 c ρ).bind _ = _
  rw [e]
  show (bindP p v ρ).bind _ = _
  rw [hb]
  rfl
theorem s_if {a b : List S} {t : Bool} {o : Res Out} (e : evalE cf 9 c ρ = .ok (.bool t)) (h : (if t then evalSs cf a ρ else evalSs cf b ρ) = o) : evalS cf (.iff c a b) ρ = o := by
  show (evalE cf 9 c ρ).bind _ = _
  rw [e]
  cases t with
  | true => exact h
  | false => exact h
theorem ss_ifT {a b : List S} (e : evalE cf 9 c ρ = .ok (.bool true)) (h2 : (evalSs cf a ρ).bind (fun o => match o with
    | .nx ρ' => evalSs cf ss ρ'
    | o => .ok o) = r) : evalSs cf (.iff c a b :: ss) ρ = r := by
  show (evalS cf (.iff c a b) ρ).bind _ = _
  rw [s_if (o := evalSs cf a ρ) e rfl]
  exact h2
theorem ss_ifF {a b : List S} (e : evalE cf 9 c ρ = .ok (.bool false)) (h2 : (evalSs cf b ρ).bind (fun o => match o with
    | .nx ρ' => evalSs cf ss ρ'
    | o => .ok o) = r) : evalSs cf (.iff c a b :: ss) ρ = r := by
  show (evalS cf (.iff c a b) ρ).bind _ = _
  rw [s_if (o := evalSs cf b ρ) e rfl]
  exact h2
theorem ss_app {xs : List Val} {t : Nat} (e : evalE cf 0 c ρ = .ok v) (ho : getOwn ρ i (d + 1) = .ok (xs, t)) (hz : xs.length + 1 ≤ 16777216) (h2 : evalSs cf ss (ρ.set i (some (.list (xs ++ [v]), d + 1))) = r) : evalSs cf (.app i c d :: ss) ρ = r := by
  refine ss_cons ?_ h2
  show (evalE cf 0 c ρ).bind _ = _
  rw [e]
  show (getOwn ρ i (d + 1)).bind _ = _
  rw [ho]
  show Res.guard (sizeOk (xs.length + 1)) _ = _
  rw [sizeOk_le hz]
  rfl
/-- for: the invariant I by what is done; J: slots that do not matter -/
theorem forL_inv {α σ J : Type} {b : Val → Env → Res Out} {e : α → Val} (E : σ → J → Env) (I : List α → σ → Prop) {l : List α} (hb : ∀ pre x post s j, l = pre ++ x :: post → I pre s → ∃ s' j', b (e x) (E s j) = .ok (.nx (E s' j')) ∧ I (pre ++ [x]) s') :
    ∀ (post pre : List α) (s : σ) (j : J), l = pre ++ post → I pre s → ∃ s' j', forL b (post.map e) (E s j) = .ok (.nx (E s' j')) ∧ I l s'
  | [], pre, s, j, hl, hs => ⟨s, j, rfl, by rw [hl, List.append_nil]; exact hs⟩
  | x :: post, pre, s, j, hl, hs => by
    obtain ⟨s1, j1, h1, h2⟩ := hb pre x post s j hl hs
    obtain ⟨s2, j2, h3, h4⟩ := forL_inv E I hb post (pre ++ [x]) s1 j1 (by rw [hl]; simp) h2
    refine ⟨s2, j2, ?_, h4⟩
    show (b (e x) (E s j)).bind _ = _
    rw [h1]
    exact h3
theorem ss_for {α σ J : Type} {t : Pat} {it : E} {body : List S} {l : List α} (e : α → Val) (hi : (evalE cf 0 it ρ).bind asSeq = .ok (l.map e)) (E : σ → J → Env) (I : List α → σ → Prop) (s0 : σ) (j0 : J) (hρ : ρ = E s0 j0) (h0 : I [] s0)
    (hb : ∀ pre x post s j, l = pre ++ x :: post → I pre s → ∃ s' j' ρ', bindP t (e x) (E s j) = .ok ρ' ∧ evalSs cf body ρ' = .ok (.nx (E s' j')) ∧ I (pre ++ [x]) s') (h2 : ∀ s j, I l s → evalSs cf ss (E s j) = r) : evalSs cf (.for t it body :: ss) ρ = r := by
  obtain ⟨s1, j1, h3, h4⟩ := forL_inv (b := fun v ρ => (bindP t v ρ).bind fun ρ' => evalSs cf body ρ') (e := e) E I (l := l) (fun pre x post s j hl hs => by
    obtain ⟨s', j', ρ', e1, e2, e3⟩ := hb pre x post s j hl hs
    refine ⟨s', j', ?_, e3⟩
    show (bindP t (e x) (E s j)).bind _ = _
    rw [e1]
    exact e2) l [] s0 j0 rfl h0
  refine ss_cons ?_ (h2 s1 j1 h4)
  obtain ⟨v, e1, e2⟩ := Res.bind_eq_ok hi
  show (evalE cf 0 it ρ).bind _ = _
  rw [e1]
  show (asSeq v).bind _ = _
  rw [e2, hρ]
  exact h3
/-- while: by a measure -/
theorem whileL_inv {σ J : Type} {c : Env → Res Bool} {b : Env → Res Out} (E : σ → J → Env) (go : σ → Bool) (I : σ → Prop) (μ : σ → Nat) (hc : ∀ s j, I s → c (E s j) = .ok (go s)) (hb : ∀ s j, I s → go s = true → ∃ s' j', b (E s j) = .ok (.nx (E s' j')) ∧ I s' ∧ μ s' < μ s) :
    ∀ (n : Nat) (s : σ) (j : J), I s → μ s < n → ∃ s' j', whileL c b n (E s j) = .ok (.nx (E s' j')) ∧ I s' ∧ go s' = false
  | 0, s, _, _, h => absurd h (Nat.not_lt_zero _)
  | n + 1, s, j, hs, hn => by
    cases q : go s with
    | false =>
      refine ⟨s, j, ?_, hs, q⟩
      show (c (E s j)).bind _ = _
      rw [hc s j hs, q]
      rfl
    | true =>
      obtain ⟨s1, j1, h1, h2, h3⟩ := hb s j hs q
      obtain ⟨s', j', h4, h5, h6⟩ := whileL_inv E go I μ hc hb n s1 j1 h2 (by omega)
      refine ⟨s', j', ?_, h5, h6⟩
      show (c (E s j)).bind _ = _
      rw [hc s j hs, q]
      show (b (E s j)).bind _ = _
      rw [h1]
      exact h4
end

/-! ### tests, operations -/
section
variable {cf : Nat → List Val → Res Val} {ρ : Env} {a b c : E} {x y z v : Val} {k : Nat} {o : Op} {p q : Bool}
theorem ev1 (h : evalE cf (octx o k) a ρ = .ok x) {r : Res Val} (hd : den o [x] = r) : evalE cf k (.op o [a]) ρ = r := by
  show (((evalE cf (octx o k) a ρ).bind fun v => Res.ok [v]).bind fun vs => den o vs) = r
  rw [h]
  exact hd
theorem ev2 (h : evalE cf (octx o k) a ρ = .ok x) (h2 : evalE cf (octx o k) b ρ = .ok y) {r : Res Val} (hd : den o [x, y] = r) : evalE cf k (.op o [a, b]) ρ = r := by
  show (((evalE cf (octx o k) a ρ).bind fun v => ((evalE cf (octx o k) b ρ).bind fun w => Res.ok [w]).bind fun vs => Res.ok (v :: vs)).bind fun vs => den o vs) = r
  rw [h]
  show ((((evalE cf (octx o k) b ρ).bind fun w => Res.ok [w]).bind fun vs => Res.ok (x :: vs)).bind fun vs => den o vs) = r
  rw [h2]
  exact hd
theorem evs_cons {e : E} {es : List E} {vs : List Val} (h : evalE cf k e ρ = .ok v) (h2 : evalEs cf k es ρ = .ok vs) : evalEs cf k (e :: es) ρ = .ok (v :: vs) := by
  show ((evalE cf k e ρ).bind fun v => (evalEs cf k es ρ).bind fun vs => Res.ok (v :: vs)) = _
  rw [h, Res.bind_ok, h2]
  rfl
theorem evs_nil : evalEs cf k [] ρ = .ok [] := rfl
theorem ev_op {es : List E} {vs : List Val} (h : evalEs cf (octx o k) es ρ = .ok vs) {r : Res Val} (hd : den o vs = r) : evalE cf k (.op o es) ρ = r := by
  show ((evalEs cf (octx o k) es ρ).bind fun vs => den o vs) = r
  rw [h]
  exact hd
theorem ev_call {f : Nat} {es : List E} {vs : List Val} (h : evalEs cf 0 es ρ = .ok vs) (hc : cf f vs = .ok v) : evalE cf k (.call f es) ρ = .ok v := by
  show ((evalEs cf 0 es ρ).bind fun vs => (cf f vs).quiet) = _
  rw [h, Res.bind_ok, hc]
  rfl
/-- a test -/
abbrev CB (cf : Nat → List Val → Res Val) (c : E) (ρ : Env) (p : Bool) : Prop := evalE cf 9 c ρ = .ok (.bool p)
theorem cb_and (h : CB cf a ρ p) (h2 : p = true → CB cf b ρ q) : CB cf (.and a b) ρ (p && q) := by
  show ((evalE cf 9 a ρ).bind fun x => (asBool x).bind fun t => match t with
    | true => evalE cf 9 b ρ
    | false => Res.ok (PyData.bool false)) = _
  rw [h]
  cases p with
  | true => exact h2 rfl
  | false => rfl
theorem cb_in {α : Type} [Enc α] [DecidableEq α] {x : α} {ys : List α} {dc : Decidable (x ∈ ys)} (h : evalE cf 9 a ρ = .ok (enc x)) (h2 : evalE cf 9 b ρ = .ok (enc ys)) (hd : dep α + 1 ≤ 64 := by decide) : CB cf (.op .isin [a, b]) ρ (@decide (x ∈ ys) dc) := by
  cases Subsingleton.elim dc (@List.instDecidableMemOfLawfulBEq α instBEqOfDecidableEq _ x ys)
  exact ev2 h h2 (den_in hd x ys)
theorem cb_notin {α : Type} [Enc α] [DecidableEq α] {x : α} {ys : List α} {dc : Decidable (x ∈ ys)} (h : evalE cf 9 a ρ = .ok (enc x)) (h2 : evalE cf 9 b ρ = .ok (enc ys)) (hd : dep α + 1 ≤ 64 := by decide) : CB cf (.op .notin [a, b]) ρ (!@decide (x ∈ ys) dc) := by
  cases Subsingleton.elim dc (@List.instDecidableMemOfLawfulBEq α instBEqOfDecidableEq _ x ys)
  exact ev2 h h2 (den_notin hd x ys)
theorem cb_gt {i j : Int} (h : evalE cf 9 a ρ = .ok (.int i)) (h2 : evalE cf 9 b ρ = .ok (.int j)) : CB cf (.op .gt [a, b]) ρ (decide (j < i)) := ev2 h h2 rfl
theorem cb_lt {i j : Int} (h : evalE cf 9 a ρ = .ok (.int i)) (h2 : evalE cf 9 b ρ = .ok (.int j)) : CB cf (.op .lt [a, b]) ρ (decide (i < j)) := ev2 h h2 rfl
theorem cb_ge {i j : Int} (h : evalE cf 9 a ρ = .ok (.int i)) (h2 : evalE cf 9 b ρ = .ok (.int j)) : CB cf (.op .ge [a, b]) ρ (decide (j ≤ i)) := ev2 h h2 rfl
theorem evalO_of (h : CB cf c ρ p) : evalO cf (some c) ρ = .ok p := by
  show ((evalE cf 9 c ρ).quiet).bind _ = _
  rw [h]
  rfl
theorem seq_of {l : List Val} (h : evalE cf k a ρ = .ok (.list l)) : (evalE cf k a ρ).bind asSeq = .ok l := by
  rw [h]
  rfl
theorem ev_len {l : List Val} (h : evalE cf 9 a ρ = .ok (.list l)) : evalE cf k (.op .len [a]) ρ = .ok (.int l.length) := ev1 (o := .len) h rfl
end

/-! ### lists -/
theorem nodup_le {α : Type} [DecidableEq α] : ∀ {l m : List α}, l.Nodup → (∀ x ∈ l, x ∈ m) → l.length ≤ m.length
  | [], _, _, _ => Nat.zero_le _
  | x :: l, m, h, s => by
    obtain ⟨h1, h2⟩ := List.nodup_cons.mp h
    have mx := s x List.mem_cons_self
    have := nodup_le (m := m.erase x) h2 fun y hy => (List.mem_erase_of_ne (fun z => h1 (by rw [← z]; exact hy))).mpr (s y (List.mem_cons_of_mem _ hy))
    rw [List.length_erase_of_mem mx] at this
    have pos := List.length_pos_of_mem mx
    rw [List.length_cons]
    omega
theorem nodup_lt {α : Type} [DecidableEq α] {l m : List α} {y : α} (h : l.Nodup) (s : ∀ x ∈ l, x ∈ m) (hy : y ∈ m) (ny : y ∉ l) : l.length < m.length := by
  have := nodup_le (l := y :: l) (m := m) (List.nodup_cons.mpr ⟨ny, h⟩) fun x hx => by
    rcases List.mem_cons.mp hx with e | e
    · rw [e]
      exact hy
    · exact s x e
  exact this
theorem nodup_of_sorted {l : List Int} (h : l.Pairwise (· < ·)) : l.Nodup := h.imp fun h => by omega
/-- 0, 1, .. below m -/
def upto (m : Int) : List Int := (List.range m.toNat).map fun i => ((i : Nat) : Int)
theorem mem_upto {m x : Int} : x ∈ upto m ↔ 0 ≤ x ∧ x < m := by
  unfold upto
  rw [List.mem_map]
  constructor
  · rintro ⟨i, hi, rfl⟩
    have := List.mem_range.mp hi
    omega
  · rintro ⟨h1, h2⟩
    exact ⟨x.toNat, List.mem_range.mpr (by omega), by omega⟩
theorem upto_length {m : Int} : (upto m).length = m.toNat := by simp [upto]
theorem below_len {l : List Int} {m : Int} (h : l.Nodup) (hb : ∀ x ∈ l, 0 ≤ x ∧ x < m) : l.length ≤ m.toNat := by
  have := nodup_le (m := upto m) h fun x hx => mem_upto.mpr (hb x hx)
  rwa [upto_length] at this
theorem once_mem {x : Int} (l : List Int) : x ∈ intsOnce l ↔ x ∈ l := by
  have gen : ∀ (l acc : List Int), x ∈ l.foldl (fun acc k => insS k acc) acc ↔ x ∈ l ∨ x ∈ acc := by
    intro l
    induction l with
    | nil => simp
    | cons k l ih =>
      intro acc
      rw [List.foldl_cons, ih, insS_mem, List.mem_cons]
      constructor
      · rintro (h | h | h)
        · exact .inl (.inr h)
        · exact .inl (.inl h)
        · exact .inr h
      · rintro ((h | h) | h)
        · exact .inr (.inl h)
        · exact .inl h
        · exact .inr (.inr h)
  have := gen l []
  simpa [intsOnce] using this
theorem once_sorted (l : List Int) : (intsOnce l).Pairwise (· < ·) := (once_le l List.Pairwise.nil).2
theorem once_len {l : List Int} {m : Int} (hb : ∀ x ∈ l, 0 ≤ x ∧ x < m) : (intsOnce l).length ≤ m.toNat := below_len (nodup_of_sorted (once_sorted l)) fun x hx => hb x ((once_mem l).mp hx)
end VL

namespace VL
open PySem
abbrev ecl_k00 : List Str := ["WayError", "OutOfRange", "TooMany", "TooLarge", "WrongSize", "NoVariable", "NotASet", "BadArrow", "BadTie", "Round", "BadValues", "BadUnseen", "BadTable", "BadDeed", "BadWeight", "Overlap", "Ties", "BadAnswer", "BadStep", "NothingToUndo"]
def k_first_bad : Def := ⟨3, 6, 0, [.for (.tup [(.slot 3), (.tup [(.slot 4), (.slot 5)])]) (.op .enum [(.var 1)]) [.iff (.or (.op .not [(.chain .le .lt (.cst (.int 0)) (.var 4) (.var 0))]) (.or (.op .not [(.chain .le .lt (.cst (.int 0)) (.var 5) (.var 0))]) (.or (.op .eq [(.var 4), (.var 5)]) (.and (.var 2) (.op .gt [(.var 4), (.var 5)]))))) [.retv 3 0] [], .iff (.and (.op .gt [(.var 3), (.cst (.int 0))]) (.op .ge [(.op .idx [(.var 1), (.op .sub [(.var 3), (.cst (.int 1))])]), (.op (.tup [false, false]) [(.var 4), (.var 5)])])) [.retv 3 0] []], .ret (.cst .none)]⟩
def k_rest_of : Def := ⟨2, 8, 0, [.set 2 (.op .list [.op .range [(.var 0)]]) 0, .set 3 (.cst (.bool true)) 0, .whl (.var 3) [.set 4 (.comp [5] 0 (.var 5) (.slot 5) (.var 2) (some (.op .eq [(.op .len [(.comp [6, 7] 0 (.var 6) (.tup [(.slot 6), (.slot 7)]) (.var 1) (some (.and (.op .eq [(.var 7), (.var 5)]) (.op .isin [(.var 6), (.var 2)]))))]), (.cst (.int 0))]))) 0, .set 2 (.comp [5] 0 (.var 5) (.slot 5) (.var 2) (some (.op .notin [(.var 5), (.var 4)]))) 0, .set 3 (.op .gt [(.op .len [(.var 4)]), (.cst (.int 0))]) 0], .retv 2 0]⟩
def k_on_rounds : Def := ⟨2, 7, 0, [.set 2 (.call 1 [(.var 0), (.var 1)]) 0, .set 3 (.call 1 [(.var 0), (.comp [5, 6] 0 (.op (.tup [false, false]) [(.var 6), (.var 5)]) (.tup [(.slot 5), (.slot 6)]) (.var 1) none)]) 0, .ret (.comp [4] 0 (.var 4) (.slot 4) (.var 2) (some (.and (.op .isin [(.var 4), (.var 3)]) (.op .isin [(.var 4), (.call 4 [(.var 1), (.comp [5, 6] 0 (.var 6) (.tup [(.slot 5), (.slot 6)]) (.var 1) (some (.op .eq [(.var 5), (.var 4)])))])]))))]⟩
def k_check_drawing : Def := ⟨1, 6, 0, [.asg (.tup [(.slot 3), (.slot 4), (.slot 5)]) (.var 0), .iff (.op .not [(.chain .le .le (.cst (.int 1)) (.var 3) (.cst (.int 12)))]) [.raise "e" (.cst .none)] [], .set 1 (.call 0 [(.var 3), (.var 4), (.cst (.bool false))]) 0, .iff (.op .notNone [(.var 1)]) [.raise "e" (.cst .none)] [], .set 1 (.call 0 [(.var 3), (.var 5), (.cst (.bool true))]) 0, .iff (.op .notNone [(.var 1)]) [.raise "e" (.cst .none)] [], .set 2 (.call 2 [(.var 3), (.var 4)]) 0, .iff (.op .gt [(.op .len [(.var 2)]), (.cst (.int 0))]) [.raise "e" (.cst .none)] []]⟩
def k_reached : Def := ⟨2, 8, 1, [.set 2 (.op .sortedSet [(.comp [5] 0 (.var 5) (.slot 5) (.var 1) none)]) 1, .set 3 (.cst (.bool true)) 0, .whl (.var 3) [.set 4 (.comp [6, 7] 0 (.var 7) (.tup [(.slot 6), (.slot 7)]) (.var 0) (some (.and (.op .isin [(.var 6), (.var 2)]) (.op .notin [(.var 7), (.var 2)])))) 1, .frz [(4, 0)], .frz [(2, 0)], .set 2 (.op .sortedSet [(.comp [5] 0 (.var 5) (.slot 5) (.op (.lst 0 [true, true]) [(.var 2), (.var 4)]) none)]) 1, .set 3 (.op .gt [(.op .len [(.var 4)]), (.cst (.int 0))]) 0], .retv 2 1]⟩
def k__law_draws : Def := ⟨1, 6, 0, [.set 1 (.op (.lst 0 []) []) 1, .for (.slot 2) (.op .range [(.op .min [(.cst (.int 63)), (.op .len [(.var 0)])])]) [.set 3 (.op .abs [(.op .idx [(.var 0), (.var 2)])]) 0, .iff (.op .ge [(.var 3), (.op .pow [(.cst (.int 10)), (.cst (.int 18))])]) [.for (.slot 4) (.op .range [(.cst (.int 60))]) [.iff (.op .gt [(.var 3), (.cst (.int 0))]) [.app 1 (.op .mod [(.op .int [(.var 3)]), (.cst (.int 65536))]) 0, .set 3 (.op .fdiv [(.var 3), (.cst (.int 65536))]) 0] []]] [.set 5 (.op .mod [(.op .int [(.op .add [(.op .mul [(.var 3), (.cst (.int 48271))]), (.op .mul [(.op .add [(.var 2), (.cst (.int 1))]), (.cst (.int 69621))])])]), (.cst (.int 2147483647))]) 0, .set 5 (.op .mod [(.op .int [(.op .add [(.op .add [(.op .mul [(.var 5), (.cst (.int 16807))]), (.op .mul [(.cst (.int 11)), (.var 2)])]), (.cst (.int 5))])]), (.cst (.int 2147483629))]) 0, .app 1 (.op .mod [(.op .int [(.var 5)]), (.cst (.int 65536))]) 0, .app 1 (.op .mod [(.op .int [(.op .fdiv [(.var 5), (.cst (.int 65536))])]), (.cst (.int 32768))]) 0]], .retv 1 0]⟩
def k__law_mix : Def := ⟨3, 4, 0, [.set 3 (.cst (.int 0)) 0, .iff (.op .gt [(.op .len [(.var 0)]), (.cst (.int 0))]) [.set 3 (.op .idx [(.var 0), (.op .mod [(.op .int [(.var 1)]), (.op .len [(.var 0)])])]) 0] [], .iff (.op .lt [(.var 1), (.op .len [(.var 0)])]) [.ret (.op .mod [(.op .int [(.var 3)]), (.var 2)])] [], .ret (.op .mod [(.op .int [(.op .fdiv [(.op .int [(.op .add [(.op .mul [(.var 3), (.cst (.int 7919))]), (.op .mul [(.var 1), (.cst (.int 104729))])])]), (.cst (.int 3))])]), (.var 2)])]⟩
def kx_check_drawing : DefX := ⟨1, 6, 0, [.base (.asg (.tup [(.slot 3), (.slot 4), (.slot 5)]) (.var 0)), .ifx (.op .not [(.chain .le .le (.cst (.int 1)) (.var 3) (.cst (.int 12)))]) [.raisex "OutOfRange" (.var 3)] [], .base (.set 1 (.call 0 [(.var 3), (.var 4), (.cst (.bool false))]) 0), .ifx (.op .notNone [(.var 1)]) [.raisex "BadArrow" (.var 1)] [], .base (.set 1 (.call 0 [(.var 3), (.var 5), (.cst (.bool true))]) 0), .ifx (.op .notNone [(.var 1)]) [.raisex "BadTie" (.var 1)] [], .base (.set 2 (.call 2 [(.var 3), (.var 4)]) 0), .ifx (.op .gt [(.op .len [(.var 2)]), (.cst (.int 0))]) [.raisex "Round" (.op .idx [(.var 2), (.cst (.int 0))])] []]⟩
def kx__law_kinds : DefX := ⟨1, 1, 0, [.base (.ret (.op (.lst 0 [false, false, false, false, false, false, false, false, false, false, false, false, false, false, false, false, false, false, false]) [(.op (.isErr ecl_k00 "OutOfRange") [(.var 0)]), (.op (.isErr ecl_k00 "TooMany") [(.var 0)]), (.op (.isErr ecl_k00 "TooLarge") [(.var 0)]), (.op (.isErr ecl_k00 "WrongSize") [(.var 0)]), (.op (.isErr ecl_k00 "NoVariable") [(.var 0)]), (.op (.isErr ecl_k00 "NotASet") [(.var 0)]), (.op (.isErr ecl_k00 "BadArrow") [(.var 0)]), (.op (.isErr ecl_k00 "BadTie") [(.var 0)]), (.op (.isErr ecl_k00 "Round") [(.var 0)]), (.op (.isErr ecl_k00 "BadValues") [(.var 0)]), (.op (.isErr ecl_k00 "BadUnseen") [(.var 0)]), (.op (.isErr ecl_k00 "BadTable") [(.var 0)]), (.op (.isErr ecl_k00 "BadDeed") [(.var 0)]), (.op (.isErr ecl_k00 "BadWeight") [(.var 0)]), (.op (.isErr ecl_k00 "Overlap") [(.var 0)]), (.op (.isErr ecl_k00 "Ties") [(.var 0)]), (.op (.isErr ecl_k00 "BadAnswer") [(.var 0)]), (.op (.isErr ecl_k00 "BadStep") [(.var 0)]), (.op (.isErr ecl_k00 "NothingToUndo") [(.var 0)])]))]⟩
def kx__law_made : DefX := ⟨1, 1, 0, [.base (.ret (.op (.lst 0 [false, false, false, false, false, false, false, false, false, false, false, false, false, false, false, false, false, false, false]) [(.op (.mkErr "OutOfRange") [(.op .add [(.var 0), (.cst (.int 0))])]), (.op (.mkErr "TooMany") [(.op .add [(.var 0), (.cst (.int 1))])]), (.op (.mkErr "TooLarge") [(.op .add [(.var 0), (.cst (.int 2))])]), (.op (.mkErr "WrongSize") [(.op .add [(.var 0), (.cst (.int 3))])]), (.op (.mkErr "NoVariable") [(.op .add [(.var 0), (.cst (.int 4))])]), (.op (.mkErr "NotASet") [(.op .add [(.var 0), (.cst (.int 5))])]), (.op (.mkErr "BadArrow") [(.op .add [(.var 0), (.cst (.int 6))])]), (.op (.mkErr "BadTie") [(.op .add [(.var 0), (.cst (.int 7))])]), (.op (.mkErr "Round") [(.op .add [(.var 0), (.cst (.int 8))])]), (.op (.mkErr "BadValues") [(.op .add [(.var 0), (.cst (.int 9))])]), (.op (.mkErr "BadUnseen") [(.op .add [(.var 0), (.cst (.int 10))])]), (.op (.mkErr "BadTable") [(.op .add [(.var 0), (.cst (.int 11))])]), (.op (.mkErr "BadDeed") [(.op .add [(.var 0), (.cst (.int 12))])]), (.op (.mkErr "BadWeight") [(.op .add [(.var 0), (.cst (.int 13))])]), (.op (.mkErr "Overlap") [(.op .add [(.var 0), (.cst (.int 14))])]), (.op (.mkErr "Ties") [(.op .add [(.var 0), (.cst (.int 15))])]), (.op (.mkErr "BadAnswer") [(.op .add [(.var 0), (.cst (.int 16))])]), (.op (.mkErr "BadStep") [(.op .add [(.var 0), (.cst (.int 17))])]), (.op (.mkErr "NothingToUndo") [(.op .add [(.var 0), (.cst (.int 18))])])]))]⟩
def kx__law_raised : DefX := ⟨1, 2, 0, [.tryx ["WayError", "OutOfRange", "TooMany", "TooLarge", "WrongSize", "NoVariable", "NotASet", "BadArrow", "BadTie", "Round", "BadValues", "BadUnseen", "BadTable", "BadDeed", "BadWeight", "Overlap", "Ties", "BadAnswer", "BadStep", "NothingToUndo"] [.callx 50003 [(.op (.tup [false, false, false]) [(.var 0), (.op (.lst 0 []) []), (.op (.lst 0 []) [])])]] [("WayError", 1, .retE)], .base (.ret (.cst .none))]⟩
def kx_law : DefX := ⟨1, 9, 0, [.base (.set 1 (.call 5 [(.var 0)]) 0), .base (.set 2 (.op .sub [(.call 6 [(.var 1), (.cst (.int 0)), (.cst (.int 60000))]), (.cst (.int 30000))]) 0), .base (.set 3 (.call 8 [(.var 2)]) 0), .base (.for (.slot 4) (.op .range [(.op .len [(.var 3)])]) [.iff (.or (.op .not [(.op (.isErr ecl_k00 "WayError") [(.op .idx [(.var 3), (.var 4)])])]) (.or (.op .not [(.op (.isErr ecl_k00 "ValueError") [(.op .idx [(.var 3), (.var 4)])])]) (.op .ne [(.op (.errAt ecl_k00) [(.op .idx [(.var 3), (.var 4)])]), (.op .add [(.var 2), (.var 4)])]))) [.ret (.cst (.bool false))] [], .iff (.op .ne [(.call 7 [(.op .idx [(.var 3), (.var 4)])]), (.comp [8] 0 (.op .eq [(.var 8), (.var 4)]) (.slot 8) (.op .range [(.op .len [(.var 3)])]) none)]) [.ret (.cst (.bool false))] [], .iff (.or (.op (.isT 1) [(.op (.errAt ecl_k00) [(.op .idx [(.var 3), (.var 4)])])]) (.op .not [(.op (.isT 2) [(.op (.errAt ecl_k00) [(.op .idx [(.var 3), (.var 4)])])])])) [.ret (.cst (.bool false))] []]), .base (.set 5 (.op (.mkErr "WayError") [(.var 2)]) 0), .base (.iff (.or (.op .ne [(.op (.errAt ecl_k00) [(.var 5)]), (.var 2)]) (.or (.op .isin [(.cst (.bool true)), (.call 7 [(.var 5)])]) (.op .not [(.op (.isErr ecl_k00 "ValueError") [(.var 5)])]))) [.ret (.cst (.bool false))] []), .base (.set 6 (.op .idx [(.op (.lst 0 [false, false, false, false]) [(.cst (.int 0)), (.cst (.int 13)), (.op .neg [(.cst (.int 1))]), (.cst (.int 99))]), (.call 6 [(.var 1), (.cst (.int 1)), (.cst (.int 4))])]) 0), .base (.set 7 (.call 9 [(.var 6)]) 0), .base (.ret (.and (.op .notNone [(.var 7)]) (.and (.op .eq [(.op (.errAt ecl_k00) [(.var 7)]), (.var 6)]) (.op .eq [(.call 7 [(.var 7)]), (.comp [8] 0 (.op .eq [(.var 8), (.cst (.int 0))]) (.slot 8) (.op .range [(.op .len [(.var 3)])]) none)]))))]⟩
def k_check_set : Def := ⟨2, 4, 0, [.for (.tup [(.slot 2), (.slot 3)]) (.op .enum [(.var 1)]) [.iff (.or (.op .not [(.chain .le .lt (.cst (.int 0)) (.var 3) (.var 0))]) (.and (.op .gt [(.var 2), (.cst (.int 0))]) (.op .ge [(.op .idx [(.var 1), (.op .sub [(.var 2), (.cst (.int 1))])]), (.var 3)]))) [.raise "e" (.cst .none)] []]]⟩
def k_parents_of : Def := ⟨2, 4, 1, [.ret (.comp [2, 3] 0 (.var 2) (.tup [(.slot 2), (.slot 3)]) (.op .idx [(.var 0), (.cst (.int 1))]) (some (.op .eq [(.var 3), (.var 1)])))]⟩
def k_ancestors_of : Def := ⟨2, 4, 1, [.ret (.call 4 [(.comp [2, 3] 0 (.op (.tup [false, false]) [(.var 3), (.var 2)]) (.tup [(.slot 2), (.slot 3)]) (.op .idx [(.var 0), (.cst (.int 1))]) none), (.var 1)])]⟩
def k_districts_of : Def := ⟨2, 9, 0, [.set 2 (.comp [6, 7] 0 (.op (.tup [false, false]) [(.var 6), (.var 7)]) (.tup [(.slot 6), (.slot 7)]) (.op .idx [(.var 0), (.cst (.int 2))]) (some (.and (.op .isin [(.var 6), (.var 1)]) (.op .isin [(.var 7), (.var 1)])))) 1, .frz [(2, 0)], .set 3 (.op .add [(.var 2), (.comp [6, 7] 0 (.op (.tup [false, false]) [(.var 7), (.var 6)]) (.tup [(.slot 6), (.slot 7)]) (.var 2) none)]) 0, .set 4 (.op (.lst 0 []) []) 1, .for (.slot 5) (.var 1) [.iff (.op .eq [(.op .len [(.comp [8] 0 (.var 8) (.slot 8) (.var 4) (some (.op .isin [(.var 5), (.var 8)])))]), (.cst (.int 0))]) [.app 4 (.call 4 [(.var 3), (.op (.lst 0 [false]) [(.var 5)])]) 0] []], .ret (.op .sorted [(.var 4)])]⟩
def k_part_of : Def := ⟨2, 8, 0, [.asg (.tup [(.slot 3), (.slot 4), (.slot 5)]) (.var 0), .set 2 (.comp [6, 7] 0 (.op (.tup [false, false]) [(.var 6), (.var 7)]) (.tup [(.slot 6), (.slot 7)]) (.var 4) (some (.and (.op .isin [(.var 6), (.var 1)]) (.op .isin [(.var 7), (.var 1)])))) 1, .frz [(2, 0)], .ret (.op (.tup [false, false, false]) [(.var 3), (.var 2), (.comp [6, 7] 0 (.op (.tup [false, false]) [(.var 6), (.var 7)]) (.tup [(.slot 6), (.slot 7)]) (.var 5) (some (.and (.op .isin [(.var 6), (.var 1)]) (.op .isin [(.var 7), (.var 1)]))))])]⟩
def k_check_question : Def := ⟨3, 5, 0, [.expr (.call 3 [(.var 0)]), .expr (.call 12 [(.op .idx [(.var 0), (.cst (.int 0))]), (.var 1)]), .expr (.call 12 [(.op .idx [(.var 0), (.cst (.int 0))]), (.var 2)]), .set 3 (.comp [4] 0 (.var 4) (.slot 4) (.var 1) (some (.op .isin [(.var 4), (.var 2)]))) 1, .frz [(3, 0)], .iff (.op .gt [(.op .len [(.var 3)]), (.cst (.int 0))]) [.raise "e" (.cst .none)] [], .iff (.op .eq [(.op .len [(.var 2)]), (.cst (.int 0))]) [.raise "e" (.cst .none)] []]⟩
def k_inner_of : Def := ⟨3, 5, 1, [.set 3 (.comp [4] 0 (.var 4) (.slot 4) (.op .range [(.op .idx [(.var 0), (.cst (.int 0))])]) (some (.op .notin [(.var 4), (.var 1)]))) 1, .frz [(3, 0)], .ret (.call 28 [(.call 16 [(.var 0), (.var 3)]), (.var 2)])]⟩
def k_home_of : Def := ⟨3, 4, 0, [.ret (.op .idx [(.comp [3] 0 (.var 3) (.slot 3) (.call 32 [(.var 0), (.var 1)]) (some (.op .isin [(.op .idx [(.var 2), (.cst (.int 0))]), (.var 3)]))), (.cst (.int 0))])]⟩
def k_led_to : Def := ⟨2, 6, 0, [.set 2 (.op (.lst 0 [false]) [(.op (.tup [false, false, false]) [(.cst (.str "seen")), (.op .neg [(.cst (.int 1))]), (.op .list [.op .range [(.op .idx [(.var 0), (.cst (.int 0))])]])])]) 1, .whl (.cst (.bool true)) [.set 3 (.op .idx [(.op .idx [(.var 2), (.op .neg [(.cst (.int 1))])]), (.cst (.int 2))]) 0, .set 4 (.call 164 [(.var 0), (.var 3), (.var 1)]) 0, .iff (.op .ne [(.var 4), (.var 3)]) [.app 2 (.op (.tup [false, false, false]) [(.cst (.str "cut")), (.op .sub [(.op .len [(.var 2)]), (.cst (.int 1))]), (.var 4)]) 0] [], .set 5 (.call 28 [(.call 16 [(.var 0), (.var 4)]), (.var 1)]) 0, .iff (.op .eq [(.var 5), (.var 4)]) [.frz [(2, 0)], .ret (.op (.tup [false, false]) [(.var 2), (.var 4)])] [], .app 2 (.op (.tup [false, false, false]) [(.cst (.str "sum")), (.op .sub [(.op .len [(.var 2)]), (.cst (.int 1))]), (.var 5)]) 0]]⟩
def k_joined : Def := ⟨1, 8, 2, [.set 1 (.op (.slice false true) [(.op .idx [(.var 0), (.cst (.int 0))]), (.cst (.int 1))]) 1, .set 2 (.op (.lst 0 []) []) 1, .for (.slot 3) (.var 0) [.set 4 (.cst (.int 0)) 0, .for (.tup [(.slot 5), (.slot 6), (.slot 7)]) (.op (.slice true false) [(.var 3), (.cst (.int 1))]) [.iff (.op .notin [(.op (.tup [false, false, false]) [(.var 5), (.var 4), (.var 7)]), (.var 1)]) [.app 1 (.op (.tup [false, false, false]) [(.var 5), (.var 4), (.var 7)]) 0] [], .set 4 (.op .index [(.var 1), (.op (.tup [false, false, false]) [(.var 5), (.var 4), (.var 7)])]) 0], .app 2 (.var 4) 0], .rett [1, 2] 1]⟩
def k_derivation_of : Def := ⟨3, 7, 2, [.set 3 (.op (.lst 0 []) []) 1, .for (.slot 4) (.call 32 [(.var 0), (.call 163 [(.var 0), (.var 1), (.var 2)])]) [.asg (.tup [(.slot 5), (.slot 6)]) (.call 165 [(.var 0), (.var 4)]), .iff (.op .ne [(.var 6), (.var 4)]) [.ret (.cst .none)] [], .app 3 (.var 5) 0], .frz [(3, 0)], .ret (.call 166 [(.var 3)])]⟩
def k_derivation_v2 : Def := ⟨3, 3, 2, [.expr (.call 162 [(.var 0), (.var 1), (.var 2)]), .ret (.call 167 [(.var 0), (.var 1), (.var 2)])]⟩
def k_is_told : Def := ⟨3, 3, 0, [.expr (.call 162 [(.var 0), (.var 1), (.var 2)]), .ret (.op .notNone [(.call 167 [(.var 0), (.var 1), (.var 2)])])]⟩
def k_web_of : Def := ⟨2, 11, 0, [.set 2 (.call 28 [(.var 0), (.var 1)]) 0, .set 3 (.call 16 [(.var 0), (.var 2)]) 0, .set 4 (.op (.lst 0 []) []) 1, .for (.slot 5) (.call 32 [(.var 3), (.var 2)]) [.set 6 (.op .sortedSet [(.comp [8] 0 (.var 8) (.slot 8) (.op (.lst 0 [true, true]) [(.var 5), (.comp2 [10, 9] [9] (.var 9) (.slot 10) (.var 5) none (.slot 9) (.call 13 [(.var 3), (.var 10)]) none)]) none)]) 0, .ext 4 (.comp2 [9, 10] [10] (.op (.tup [false, false]) [(.var 9), (.var 10)]) (.slot 9) (.var 6) none (.slot 10) (.var 6) (some (.op .ne [(.var 9), (.var 10)])))], .ret (.op .sortSetT [(.comp [7] 0 (.var 7) (.slot 7) (.var 4) none)])]⟩
def k_side_of : Def := ⟨4, 7, 0, [.set 4 (.call 131 [(.var 0), (.op (.lst 0 [true, true, true]) [(.var 1), (.var 2), (.var 3)])]) 0, .ret (.call 4 [(.comp [5, 6] 0 (.op (.tup [false, false]) [(.var 5), (.var 6)]) (.tup [(.slot 5), (.slot 6)]) (.var 4) (some (.op .notin [(.var 6), (.var 3)]))), (.var 1)])]⟩
def k_blocked_by : Def := ⟨4, 6, 0, [.set 4 (.call 132 [(.var 0), (.var 1), (.var 2), (.var 3)]) 0, .ret (.op .eq [(.op .len [(.comp [5] 0 (.var 5) (.slot 5) (.var 2) (some (.op .isin [(.var 5), (.var 4)])))]), (.cst (.int 0))])]⟩
end VL
/-! plain side, part 1: parents, closures -/
namespace VL
open PySem
open Enc
abbrev Pt := Int × Int
/-- a drawing: how many, arrows, ties -/
abbrev Dr := Tr Int (List Pt) (List Pt)
def parents (d : Dr) (v : Int) : List Int := (d.b.filter fun p => decide (p.2 = v)).map fun p => p.1
/-- what is reached along the pairs -/
inductive Clo (R : List Pt) (S : List Int) : Int → Prop
  | base {x : Int} : x ∈ S → Clo R S x
  | step {x y : Int} : Clo R S x → (x, y) ∈ R → Clo R S y
def InR (m : Int) (l : List Int) : Prop := ∀ x ∈ l, 0 ≤ x ∧ x < m
def InP (m : Int) (l : List Pt) : Prop := ∀ p ∈ l, (0 ≤ p.1 ∧ p.1 < m) ∧ 0 ≤ p.2 ∧ p.2 < m
theorem Clo.inR {R : List Pt} {S : List Int} {m x : Int} (hR : InP m R) (hS : InR m S) (h : Clo R S x) : 0 ≤ x ∧ x < m := by
  induction h with
  | base h => exact hS _ h
  | step _ h _ => exact (hR _ h).2
section
variable {Pr : Prog} {n : Nat}
theorem mem_parents {d : Dr} {v a : Int} : a ∈ parents d v ↔ (a, v) ∈ d.b := by
  unfold parents
  rw [List.mem_map]
  constructor
  · rintro ⟨p, hp, rfl⟩
    obtain ⟨h1, h2⟩ := List.mem_filter.mp hp
    have : p.2 = v := of_decide_eq_true h2
    rw [← this]
    exact h1
  · intro h
    exact ⟨(a, v), List.mem_filter.mpr ⟨h, decide_eq_true rfl⟩, rfl⟩

/-- the slots of reached -/
def eR (R : List Pt) (S : List Int) (s : List Int × Bool) (j : Option (Val × Nat)) : Env := [some (enc R, 0), some (enc S, 0), some (enc s.1, 1), some (.bool s.2, 0), j, none, none, none]
def more (R : List Pt) (f : List Int) : List Int := (R.filter fun q => decide (q.1 ∈ f) && !decide (q.2 ∈ f)).map fun q => q.2
theorem mem_more {R : List Pt} {f : List Int} {y : Int} : y ∈ more R f ↔ y ∉ f ∧ ∃ x ∈ f, (x, y) ∈ R := by
  unfold more
  rw [List.mem_map]
  constructor
  · rintro ⟨q, hq, rfl⟩
    obtain ⟨h1, h2⟩ := List.mem_filter.mp hq
    rw [Bool.and_eq_true, decide_eq_true_eq, Bool.not_eq_true', decide_eq_false_iff_not] at h2
    exact ⟨h2.2, q.1, h2.1, h1⟩
  · rintro ⟨h1, x, h2, h3⟩
    exact ⟨(x, y), List.mem_filter.mpr ⟨h3, by simp [h1, h2]⟩, rfl⟩
theorem ev_reached (h : Pr 4 = some k_reached) {R : List Pt} {S : List Int} {m : Int} (hm : m ≤ 60) (hR : InP m R) (hS : InR m S) (zR : R.length ≤ 100000) (zS : S.length ≤ 100000) :
    ∃ f : List Int, evalD Pr (n + 1) 4 [enc R, enc S] = .ok (enc f) ∧ f.Pairwise (· < ·) ∧ ∀ x, x ∈ f ↔ Clo R S x := by
  have once64 : ∀ {l : List Int}, InR m l → (intsOnce l).length < 64 := fun hl => by
    have := once_len hl
    omega
  suffices hh : ∃ f : List Int, evalSs (evalD Pr n) k_reached.body (startE k_reached [enc R, enc S]) = .ok (.rt (enc f)) ∧ f.Pairwise (· < ·) ∧ ∀ x, x ∈ f ↔ Clo R S x by
    obtain ⟨f, h1, h2⟩ := hh
    exact ⟨f, evalD_rt h rfl h1, h2⟩
  let I : List Int × Bool → Prop := fun s => s.1.Pairwise (· < ·) ∧ (∀ x ∈ s.1, Clo R S x) ∧ (∀ x ∈ S, x ∈ s.1) ∧ (s.2 = false → ∀ x y, x ∈ s.1 → (x, y) ∈ R → y ∈ s.1)
  have inI : ∀ s, I s → InR m s.1 := fun s hs x hx => (hs.2.1 x hx).inR hR hS
  have e1 : evalE (evalD Pr n) 0 (.op .sortedSet [(.comp [5] 0 (.var 5) (.slot 5) (.var 1) none)]) (startE k_reached [enc R, enc S]) = .ok (enc (intsOnce S)) := by
    refine ev1 (comp_eq (l := S) (enc : Int → Val) (enc : Int → Val) (fun _ => true) (fun x => x) (fun x => [some (enc R, 0), some (enc S, 0), none, none, none, some (enc x, 0), none, none]) rfl (fun _ _ => rfl) (fun _ _ => rfl) (fun _ _ _ => rfl) (by omega)) ?_
    rw [List.filter_eq_self.mpr fun _ _ => rfl, List.map_id']
    exact den_sset (once64 hS)
  have fin : ∃ f j, whileL (fun ρ => (evalE (evalD Pr n) 9 (.var 3) ρ).bind fun x => asBool x) (fun ρ => evalSs (evalD Pr n) [.set 4 (.comp [6, 7] 0 (.var 7) (.tup [(.slot 6), (.slot 7)]) (.var 0) (some (.and (.op .isin [(.var 6), (.var 2)]) (.op .notin [(.var 7), (.var 2)])))) 1, .frz [(4, 0)], .frz [(2, 0)], .set 2 (.op .sortedSet [(.comp [5] 0 (.var 5) (.slot 5) (.op (.lst 0 [true, true]) [(.var 2), (.var 4)]) none)]) 1, .set 3 (.op .gt [(.op .len [(.var 4)]), (.cst (.int 0))]) 0] ρ) LIM (eR R S (intsOnce S, true) none) = .ok (.nx (eR R S f j)) ∧ I f ∧ f.2 = false := by
    refine whileL_inv (eR R S) (fun s => s.2) I (fun s => 2 * (64 - s.1.length) + (if s.2 then 1 else 0)) (fun s j _ => rfl) (fun s j hs go => ?_) LIM (intsOnce S, true) none ⟨once_sorted S, fun x hx => .base ((once_mem S).mp hx), fun x hx => (once_mem S).mpr hx, fun z => (nomatch z)⟩ (by unfold LIM; simp; omega)
    obtain ⟨f, b⟩ := s
    have hb : b = true := go
    subst hb
    have hf := inI _ hs
    have zf : f.length ≤ 64 := by
      have := below_len (nodup_of_sorted hs.1) hf
      simp only at this
      omega
    have zm : (more R f).length ≤ 100000 := by
      unfold more
      rw [List.length_map]
      exact Nat.le_trans (List.length_filter_le _ _) zR
    have hm2 : InR m (more R f) := fun y hy => by
      obtain ⟨_, x, _, h3⟩ := mem_more.mp hy
      exact (hR _ h3).2
    have hfm : InR m (f ++ more R f) := fun y hy => (List.mem_append.mp hy).elim (hf y) (hm2 y)
    refine ⟨(intsOnce (f ++ more R f), decide (0 < (((more R f).length : Nat) : Int))), some (enc (more R f), 0), ?_, ⟨once_sorted _, fun x hx => ?_, fun x hx => (once_mem _).mpr (List.mem_append_left _ (hs.2.2.1 x hx)), fun z x y hx hxy => ?_⟩, ?_⟩
    · refine ss_set (comp_eq (l := R) (enc : Pt → Val) (enc : Int → Val) (fun q => decide (q.1 ∈ f) && !decide (q.2 ∈ f)) (fun q => q.2) (fun q => [some (enc R, 0), some (enc S, 0), some (enc f, 1), some (.bool true, 0), j, none, some (enc q.1, 0), some (enc q.2, 0)]) rfl (fun _ _ => rfl)
        (fun q _ => evalO_of (cb_and (cb_in (α := Int) (x := q.1) (ys := f) rfl rfl) fun _ => cb_notin (α := Int) (x := q.2) (ys := f) rfl rfl)) (fun _ _ _ => rfl) (by omega)) ?_
      refine ss_set (v := enc (intsOnce (f ++ more R f))) (ev1 (comp_eq (l := f ++ more R f) (enc : Int → Val) (enc : Int → Val) (fun _ => true) (fun x => x) (fun x => [some (enc R, 0), some (enc S, 0), some (enc f, 0), some (.bool true, 0), some (enc (more R f), 0), some (enc x, 0), none, none]) (seq_of (ev_op (evs_cons (v := enc f) rfl (evs_cons (v := enc (more R f)) rfl evs_nil)) (den_lst (xs := (f ++ more R f).map enc) (by
          show some (f.map enc ++ ((more R f).map enc ++ [])) = _
          rw [List.append_nil, List.map_append]) (by rw [List.length_map, List.length_append]; omega)))) (fun _ _ => rfl) (fun _ _ => rfl) (fun _ _ _ => rfl) (by rw [List.length_append]; omega)) ?_) ?_
      · rw [List.filter_eq_self.mpr fun _ _ => rfl, List.map_id']
        exact den_sset (once64 hfm)
      · refine ss_set (cb_gt (i := (((more R f).length : Nat) : Int)) (j := 0) (by
          have := ev_len (cf := evalD Pr n) (k := 9) (a := .var 4) (ρ := [some (enc R, 0), some (enc S, 0), some (enc (intsOnce (f ++ more R f)), 1), some (.bool true, 0), some (enc (more R f), 0), none, none, none]) (l := (more R f).map enc) rfl
          rw [List.length_map] at this
          exact this) rfl) ?_
        rfl
    · rcases List.mem_append.mp ((once_mem _).mp hx) with hx | hx
      · exact hs.2.1 x hx
      · obtain ⟨_, a, h2, h3⟩ := mem_more.mp hx
        exact .step (hs.2.1 a h2) h3
    · have e0 : more R f = [] := by
        have := of_decide_eq_false z
        exact List.length_eq_zero_iff.mp (by omega)
      simp only [e0, List.append_nil] at hx ⊢
      have hx' := (once_mem _).mp hx
      refine (once_mem _).mpr ?_
      by_cases hy : y ∈ f
      · exact hy
      · have : y ∈ more R f := mem_more.mpr ⟨hy, x, hx', hxy⟩
        rw [e0] at this
        cases this
    · have l2 := once_len hfm
      have sub : ∀ x ∈ f, x ∈ intsOnce (f ++ more R f) := fun x hx => (once_mem _).mpr (List.mem_append_left _ hx)
      by_cases e0 : more R f = []
      · have this : f.length ≤ (intsOnce (f ++ more R f)).length := nodup_le (nodup_of_sorted hs.1) sub
        rw [e0, List.append_nil] at this ⊢
        simp only [List.length_nil]
        simp
        omega
      · obtain ⟨y, hy⟩ := List.exists_mem_of_ne_nil _ e0
        have := nodup_lt (nodup_of_sorted hs.1) sub ((once_mem _).mpr (List.mem_append_right _ hy)) (mem_more.mp hy).1
        simp only [if_true] at this ⊢
        have h3 : (intsOnce (f ++ more R f)).length ≤ 60 := by omega
        have h4 : f.length < (intsOnce (f ++ more R f)).length := this
        split <;> omega
  obtain ⟨s, j, w1, hs, hf⟩ := fin
  refine ⟨s.1, ?_, hs.1, fun x => ⟨hs.2.1 x, fun hx => ?_⟩⟩
  · refine ss_set e1 (ss_set (v := .bool true) rfl (ss_cons w1 ?_))
    rfl
  · induction hx with
    | base hx => exact hs.2.2.1 _ hx
    | step _ hxy ih => exact hs.2.2.2 hf _ _ ih hxy
end
end VL

/-! plain side, part 2: sorting, ancestors, cuts, districts -/
namespace VL
open PySem
open Enc

/-- what sorted takes -/
class Srt (α : Type) [Enc α] : Prop where
  alk : ∀ a b : α, PySem.W.alike (enc a) (enc b) = true
  kind : (∀ a : α, isTupC (enc a) = true) ∨ (∀ a : α, notTupNone (enc a) = true)
  dep : dep α + 1 ≤ 64
theorem alkAll {α : Type} [Enc α] (h : ∀ a b : α, PySem.W.alike (enc a) (enc b) = true) : ∀ xs ys : List α, PySem.W.alikeAll (xs.map enc) (ys.map enc) = true
  | [], ys => by cases ys <;> simp [PySem.W.alikeAll]
  | x :: xs, [] => by simp [PySem.W.alikeAll]
  | x :: xs, y :: ys => by simp only [List.map_cons, PySem.W.alikeAll, h, alkAll h xs ys, Bool.and_self]
theorem alk_int (a b : Int) : PySem.W.alike (enc a) (enc b) = true := by simp [enc, PySem.W.alike]
theorem alk_ints (a b : List Int) : PySem.W.alike (enc a) (enc b) = true := by
  show PySem.W.alike (.list (a.map enc)) (.list (b.map enc)) = true
  simp only [PySem.W.alike]
  exact alkAll alk_int a b
theorem alk_pt (a b : Pt) : PySem.W.alike (enc a) (enc b) = true := by
  show PySem.W.alike (.tuple [enc a.1, enc a.2]) (.tuple [enc b.1, enc b.2]) = true
  simp only [PySem.W.alike, PySem.W.alikeAll, alk_int, Bool.and_self]
instance : Srt Int := ⟨alk_int, .inr fun _ => rfl, by decide⟩
instance : Srt (List Int) := ⟨alk_ints, .inr fun _ => rfl, by decide⟩
instance : Srt Pt := ⟨alk_pt, .inl fun _ => rfl, by decide⟩
def leD {α : Type} [Enc α] (a b : α) : Bool := PySem.W.dataLe false (fun d : Val => d) (enc a) (enc b)
def srt {α : Type} [Enc α] (xs : List α) : List α := xs.mergeSort leD
theorem den_sorted {α : Type} [Enc α] [Srt α] (xs : List α) : den .sorted [enc xs] = .ok (enc (srt xs)) := by
  have h1 : sortableB (xs.map enc) = true := by
    unfold sortableB
    rw [Bool.and_eq_true, Bool.and_eq_true, Bool.or_eq_true]
    refine ⟨?_, shaped_enc (α := List α) Srt.dep xs, ?_⟩
    · unfold alikesB
      rw [List.all_eq_true]
      intro a ha
      rw [List.all_eq_true]
      intro b hb
      obtain ⟨x, _, rfl⟩ := List.mem_map.mp ha
      obtain ⟨y, _, rfl⟩ := List.mem_map.mp hb
      exact Srt.alk x y
    · rcases Srt.kind (α := α) with k | k
      · refine .inl (List.all_eq_true.mpr fun a ha => ?_)
        obtain ⟨x, _, rfl⟩ := List.mem_map.mp ha
        exact k x
      · refine .inr (List.all_eq_true.mpr fun a ha => ?_)
        obtain ⟨x, _, rfl⟩ := List.mem_map.mp ha
        exact k x
  show Res.guard (sortableB (xs.map enc)) (Res.ok (PyData.list (sortV (xs.map enc)))) = _
  rw [h1]
  show Res.ok (PyData.list (sortV (xs.map enc))) = _
  have h2 : sortV (xs.map enc) = (srt xs).map enc := (List.map_mergeSort (f := (enc : α → Val)) (r := leD) (s := PySem.W.dataLe false fun d : Val => d) (l := xs) fun _ _ _ _ => rfl).symm
  rw [h2]
  rfl
theorem srt_perm {α : Type} [Enc α] (xs : List α) : (srt xs).Perm xs := List.mergeSort_perm xs leD
theorem mem_srt {α : Type} [Enc α] {xs : List α} {x : α} : x ∈ srt xs ↔ x ∈ xs := (srt_perm xs).mem_iff
theorem srt_length {α : Type} [Enc α] (xs : List α) : (srt xs).length = xs.length := (srt_perm xs).length_eq

def flip (R : List Pt) : List Pt := R.map fun p => (p.2, p.1)
theorem mem_flip {R : List Pt} {x y : Int} : (x, y) ∈ flip R ↔ (y, x) ∈ R := by
  unfold flip
  rw [List.mem_map]
  constructor
  · rintro ⟨p, hp, e⟩
    cases e
    exact hp
  · intro h
    exact ⟨(y, x), h, rfl⟩
theorem inP_flip {m : Int} {R : List Pt} (h : InP m R) : InP m (flip R) := fun p hp => by
  obtain ⟨q, hq, rfl⟩ := List.mem_map.mp hp
  exact ⟨(h q hq).2, (h q hq).1⟩
/-- a drawing of at most sixty, of tame size -/
structure Tame (d : Dr) : Prop where
  m : d.a ≤ 60
  arr : InP d.a d.b
  tie : InP d.a d.c
  zb : d.b.length ≤ 1000
  zc : d.c.length ≤ 1000
section
variable {Pr : Prog} {n : Nat}
theorem ev_ancestors (h4 : Pr 4 = some k_reached) (h : Pr 28 = some k_ancestors_of) {d : Dr} (T : Tame d) {S : List Int} (hS : InR d.a S) (zS : S.length ≤ 100000) :
    ∃ f : List Int, evalD Pr (n + 2) 28 [enc d, enc S] = .ok (enc f) ∧ f.Pairwise (· < ·) ∧ ∀ x, x ∈ f ↔ Clo (flip d.b) S x := by
  have zf : (flip d.b).length = d.b.length := by simp [flip]
  have zb := T.zb
  obtain ⟨f, e1, e2, e3⟩ := ev_reached (n := n) h4 T.m (inP_flip T.arr) hS (by omega) zS
  refine ⟨f, evalD_rt h rfl (ss_ret (ev_call (evs_cons (v := enc (flip d.b)) ?_ (evs_cons (v := enc S) rfl evs_nil)) e1)), e2, e3⟩
  have := comp_eq (cf := evalD Pr (n + 1)) (k := 0) (d := 0) (w := [2, 3]) (elt := .op (.tup [false, false]) [.var 3, .var 2]) (t := .tup [.slot 2, .slot 3]) (it := .op .idx [.var 0, .cst (.int 1)]) (ifs := none) (ρ := startE k_ancestors_of [enc d, enc S]) (l := d.b) (enc : Pt → Val) (enc : Pt → Val) (fun _ => true) (fun p => (p.2, p.1)) (fun p => [some (enc d, 0), some (enc S, 0), some (enc p.1, 0), some (enc p.2, 0)]) rfl (fun _ _ => rfl) (fun _ _ => rfl) (fun _ _ _ => rfl) (by omega)
  rw [List.filter_eq_self.mpr fun _ _ => rfl] at this
  exact this

/-- arrows into the set and ties at it are gone -/
def cutD (d : Dr) (S : List Int) : Dr := ⟨d.a, d.b.filter fun p => !decide (p.2 ∈ S), d.c.filter fun p => !decide (p.1 ∈ S) && !decide (p.2 ∈ S)⟩
theorem Tame.cut {d : Dr} (T : Tame d) (S : List Int) : Tame (cutD d S) where
  m := T.m
  arr := fun p hp => T.arr p (List.mem_filter.mp hp).1
  tie := fun p hp => T.tie p (List.mem_filter.mp hp).1
  zb := Nat.le_trans (List.length_filter_le _ _) T.zb
  zc := Nat.le_trans (List.length_filter_le _ _) T.zc

/-- the ties among told, both ways -/
def tiesIn (d : Dr) (A : List Int) : List Pt := d.c.filter fun p => decide (p.1 ∈ A) && decide (p.2 ∈ A)
def bothIn (d : Dr) (A : List Int) : List Pt := tiesIn d A ++ flip (tiesIn d A)
theorem mem_bothIn {d : Dr} {A : List Int} {x y : Int} : (x, y) ∈ bothIn d A ↔ (x ∈ A ∧ y ∈ A) ∧ ((x, y) ∈ d.c ∨ (y, x) ∈ d.c) := by
  unfold bothIn
  rw [List.mem_append, mem_flip]
  unfold tiesIn
  simp only [List.mem_filter, Bool.and_eq_true, decide_eq_true_eq]
  constructor
  · rintro (⟨h1, h2, h3⟩ | ⟨h1, h2, h3⟩)
    · exact ⟨⟨h2, h3⟩, .inl h1⟩
    · exact ⟨⟨h3, h2⟩, .inr h1⟩
  · rintro ⟨⟨h2, h3⟩, h1 | h1⟩
    · exact .inl ⟨h1, h2, h3⟩
    · exact .inr ⟨h1, h3, h2⟩
end
end VL

/-! plain side, part 3: are_apart -/
namespace VL
open PySem
open Enc
theorem den_idx {xs : List Val} {i : Nat} {v : Val} (h : xs[i]? = some v) : den .idx [.list xs, .int (i : Nat)] = .ok v := by
  show ofOpt (L2.atI xs ((i : Nat) : Int)) = _
  have hi : i < xs.length := by
    by_cases q : i < xs.length
    · exact q
    · rw [List.getElem?_eq_none (by omega)] at h
      cases h
  unfold L2.atI L2.ixN
  rw [if_pos (by omega), if_pos (by omega)]
  show ofOpt xs[((i : Nat) : Int).toNat]? = _
  rw [Int.toNat_natCast, h]
  rfl
theorem boolsOf_bools : ∀ bs : List Bool, boolsOf (bs.map .bool) = some bs
  | [] => rfl
  | b :: bs => by
    show (boolsOf (bs.map .bool)).map (b :: ·) = _
    rw [boolsOf_bools bs]
    rfl
theorem den_all (bs : List Bool) : den .all [.list (bs.map .bool)] = .ok (.bool (bs.all id)) := by
  show (match boolsOf (bs.map .bool) with
    | some bs => Res.ok (PyData.bool (bs.all id))
    | none => Res.bad) = _
  rw [boolsOf_bools]
/-- a district with its members' parents -/
def grp (d : Dr) (D : List Int) : List Int := D ++ D.flatMap (parents d)
theorem mem_grp {d : Dr} {D : List Int} {x : Int} : x ∈ grp d D ↔ x ∈ D ∨ ∃ c ∈ D, (x, c) ∈ d.b := by
  unfold grp
  rw [List.mem_append, List.mem_flatMap]
  simp only [mem_parents]
def AdjG (G : List (List Int)) (x y : Int) : Prop := ∃ g ∈ G, x ∈ g ∧ y ∈ g
/-- reached from one, never into known -/
inductive Bf (G : List (List Int)) (one known : List Int) : Int → Prop
  | base {x : Int} : x ∈ one → Bf G one known x
  | step {x y : Int} : Bf G one known x → AdjG G x y → y ∉ known → Bf G one known y
def fresh (f known g : List Int) : List Int := g.filter fun a => !decide (a ∈ f) && !decide (a ∈ known)
section
variable {Pr : Prog} {n : Nat}
end
end VL

/-! plain side, part 4: the law's own walk over states -/
namespace VL
open PySem
open Enc
/-- an edge: from, to, an arrowhead here, an arrowhead there -/
structure Qd where
  a : Int
  b : Int
  h : Int
  t : Int
  deriving DecidableEq
instance : Enc Qd where
  enc := fun p => .tuple [.int p.a, .int p.b, .int p.h, .int p.t]
  dep := 1
  eqv := fun a b => by
    cases a
    cases b
    simp [PyData.eqv, PyData.eqvAll]
  lay := fun a => by simp [PyData.canLay0, PyData.canLayAll0]
  depth := fun a => by simp [PyData.depth, PyData.depthAll]
def edges (d : Dr) : List Qd := (d.b.map fun p => ⟨p.1, p.2, 0, 1⟩) ++ (d.b.map fun p => ⟨p.2, p.1, 1, 0⟩) ++ (d.c.map fun p => ⟨p.1, p.2, 1, 1⟩) ++ d.c.map fun p => ⟨p.2, p.1, 1, 1⟩
theorem mem_edges {d : Dr} {e : Qd} : e ∈ edges d ↔ ((e.a, e.b) ∈ d.b ∧ e.h = 0 ∧ e.t = 1) ∨ ((e.b, e.a) ∈ d.b ∧ e.h = 1 ∧ e.t = 0) ∨ (((e.a, e.b) ∈ d.c ∨ (e.b, e.a) ∈ d.c) ∧ e.h = 1 ∧ e.t = 1) := by
  obtain ⟨a, b, h, t⟩ := e
  unfold edges
  simp only [List.mem_append, List.mem_map, Qd.mk.injEq]
  constructor
  · rintro (((⟨p, hp, rfl, rfl, rfl, rfl⟩ | ⟨p, hp, rfl, rfl, rfl, rfl⟩) | ⟨p, hp, rfl, rfl, rfl, rfl⟩) | ⟨p, hp, rfl, rfl, rfl, rfl⟩)
    · exact .inl ⟨hp, rfl, rfl⟩
    · exact .inr (.inl ⟨hp, rfl, rfl⟩)
    · exact .inr (.inr ⟨.inl hp, rfl, rfl⟩)
    · exact .inr (.inr ⟨.inr hp, rfl, rfl⟩)
  · rintro (⟨hp, h1, h2⟩ | ⟨hp, h1, h2⟩ | ⟨hp | hp, h1, h2⟩)
    · exact .inl (.inl (.inl ⟨_, hp, rfl, rfl, h1.symm, h2.symm⟩))
    · exact .inl (.inl (.inr ⟨_, hp, rfl, rfl, h1.symm, h2.symm⟩))
    · exact .inl (.inr ⟨_, hp, rfl, rfl, h1.symm, h2.symm⟩)
    · exact .inr ⟨_, hp, rfl, rfl, h1.symm, h2.symm⟩
def meetB (h : Int) (e : Qd) : Bool := decide (h = 1) && decide (e.h = 1)
def okB (ahead known : List Int) (v h : Int) (e : Qd) : Bool := decide (e.a = v) && ((meetB h e && decide (v ∈ ahead)) || (!meetB h e && !decide (v ∈ known)))
/-- the states that the walk reaches -/
inductive Ws (d : Dr) (one ahead known : List Int) : Int → Int → Prop
  | base {e : Qd} : e ∈ edges d → e.a ∈ one → Ws d one ahead known e.b e.t
  | step {v h : Int} {e : Qd} : Ws d one ahead known v h → e ∈ edges d → okB ahead known v h e = true → Ws d one ahead known e.b e.t
structure J7 where
  a : Option (Val × Nat)
  b : Option (Val × Nat)
  c : Option (Val × Nat)
  d : Option (Val × Nat)
  e : Option (Val × Nat)
  f : Option (Val × Nat)
  g : Option (Val × Nat)
end VL

/-! plain side, part 5: the law's reached, apart -/
namespace VL
open PySem
open Enc
theorem rng_upto (m : Int) : rng 0 m = (upto m).map enc := by
  unfold rng upto
  rw [Int.sub_zero, List.map_map]
  refine List.map_congr_left fun i _ => ?_
  show PyData.int (0 + (i : Int)) = .int (i : Int)
  rw [Int.zero_add]
theorem den_range1' {m : Int} (h1 : -(2 ^ 62) ≤ m) (h : m ≤ 16777216) : den .range [.int m] = .ok (.list ((upto m).map enc)) := by
  show Res.guard (small m && sizeOk m.toNat) (Res.ok (PyData.list (rng 0 m))) = _
  have e1 : small m = true := by
    unfold small
    rw [Bool.and_eq_true, decide_eq_true_eq, decide_eq_true_eq]
    constructor <;> omega
  rw [e1, sizeOk_le (by omega), rng_upto]
  rfl
theorem ev_range1 {cf : Nat → List Val → Res Val} {a : E} {ρ : Env} {k : Nat} {m : Int} (h : evalE cf 9 a ρ = .ok (.int m)) (h1 : -(2 ^ 62) ≤ m) (h2 : m ≤ 16777216) : (evalE cf k (.op .range [a]) ρ).bind asSeq = .ok ((upto m).map enc) := seq_of (ev1 (o := .range) h (den_range1' h1 h2))
section
variable {Pr : Prog} {n : Nat}
end
end VL

/-! plain side, part 6: the law's reached and apart, whole -/
namespace VL
open PySem
open Enc
section
variable {Pr : Prog} {n : Nat}
end
end VL

/-! plain side, part 7: the walk over states and the walk over groups tell the same -/
namespace VL
open PySem
section
variable {d : Dr} {v : Int} {W K1 K2 A ahead : List Int} {ds : List (List Int)}
/-- what the two ways have in common -/
structure Sep (d : Dr) (v : Int) (W K1 K2 A ahead : List Int) (ds : List (List Int)) : Prop where
  vK : v ∉ K2
  vW : v ∉ W
  WK : ∀ w ∈ W, w ∉ K2
  KK : ∀ x, x ∈ K1 ↔ x ∈ K2
  mA : ∀ x, x ∈ A ↔ Clo (flip d.b) (W ++ [v] ++ K1) x
  mH : ∀ x, x ∈ ahead ↔ Clo (flip d.b) K2 x
  mD : ∀ D ∈ ds, ∃ u ∈ A, ∀ x, x ∈ D ↔ Clo (bothIn d A) [u] x
  cD : ∀ u ∈ A, ∃ D ∈ ds, u ∈ D
theorem Clo.mono {R : List Pt} {S S' : List Int} {x : Int} (h : Clo R S x) (s : ∀ y ∈ S, Clo R S' y) : Clo R S' x := by
  induction h with
  | base h => exact s _ h
  | step _ h ih => exact .step ih h
theorem Clo.sub {R : List Pt} {S S' : List Int} {x : Int} (h : Clo R S x) (s : ∀ y ∈ S, y ∈ S') : Clo R S' x := h.mono fun y hy => .base (s y hy)
theorem Clo.one {R : List Pt} {u x : Int} {S : List Int} (h : Clo R [u] x) (hu : Clo R S u) : Clo R S x := h.mono fun y hy => by
  rcases List.mem_cons.mp hy with e | e
  · rw [e]
    exact hu
  · cases e
theorem Clo.parts {R : List Pt} {S S' : List Int} {x : Int} (h : Clo R (S ++ S') x) : Clo R S x ∨ Clo R S' x := by
  induction h with
  | base h => exact (List.mem_append.mp h).elim (fun h => .inl (.base h)) fun h => .inr (.base h)
  | step _ h ih => exact ih.elim (fun i => .inl (.step i h)) fun i => .inr (.step i h)
theorem Clo.back {R : List Pt} (sym : ∀ x y, (x, y) ∈ R → (y, x) ∈ R) {u x : Int} (h : Clo R [u] x) : Clo R [x] u := by
  induction h with
  | base h =>
    rcases List.mem_cons.mp h with e | e
    · rw [e]
      exact .base List.mem_cons_self
    · cases e
  | @step a b _ h ih => exact ih.one (.step (.base List.mem_cons_self) (sym _ _ h))
theorem both_sym (x y : Int) (h : (x, y) ∈ bothIn d A) : (y, x) ∈ bothIn d A := by
  rw [mem_bothIn] at h ⊢
  exact ⟨⟨h.1.2, h.1.1⟩, h.2.symm⟩
variable (S : Sep d v W K1 K2 A ahead ds)
include S
theorem Sep.parent {x y : Int} (h : (x, y) ∈ d.b) (hy : y ∈ A) : x ∈ A := (S.mA x).mpr (.step ((S.mA y).mp hy) (mem_flip.mpr h))
theorem Sep.parentH {x y : Int} (h : (x, y) ∈ d.b) (hy : y ∈ ahead) : x ∈ ahead := (S.mH x).mpr (.step ((S.mH y).mp hy) (mem_flip.mpr h))
theorem Sep.aheadA {x : Int} (h : x ∈ ahead) : x ∈ A := (S.mA x).mpr (((S.mH x).mp h).sub fun y hy => List.mem_append_right _ ((S.KK y).mpr hy))
theorem Sep.KH {x : Int} (h : x ∈ K2) : x ∈ ahead := (S.mH x).mpr (.base h)
theorem Sep.vA : v ∈ A := (S.mA v).mpr (.base (by simp))
theorem Sep.DA {D : List Int} (hD : D ∈ ds) {x : Int} (hx : x ∈ D) : x ∈ A := by
  obtain ⟨u, hu, e⟩ := S.mD D hD
  have := (e x).mp hx
  induction this with
  | base h =>
    rcases List.mem_cons.mp h with e | e
    · rw [e]
      exact hu
    · cases e
  | step _ h _ => exact (mem_bothIn.mp h).1.2
theorem Sep.tieD {D : List Int} (hD : D ∈ ds) {x y : Int} (hx : x ∈ D) (h : (x, y) ∈ bothIn d A) : y ∈ D := by
  obtain ⟨u, _, e⟩ := S.mD D hD
  exact (e y).mpr (.step ((e x).mp hx) h)
theorem Sep.cloD {D : List Int} (hD : D ∈ ds) {x y : Int} (hx : x ∈ D) (hy : y ∈ D) : Clo (bothIn d A) [x] y := by
  obtain ⟨u, _, e⟩ := S.mD D hD
  exact ((e y).mp hy).one (((e x).mp hx).back both_sym)
theorem Sep.adj {D : List Int} (hD : D ∈ ds) {x z : Int} (hx : x ∈ grp d D) (hz : z ∈ grp d D) (b : Bf (ds.map (grp d)) W K1 z) (hk : x ∉ K2) : Bf (ds.map (grp d)) W K1 x :=
  .step b ⟨grp d D, List.mem_map.mpr ⟨D, hD, rfl⟩, hz, hx⟩ fun h => hk ((S.KK x).mp h)

/-! ### from states to groups -/
omit S in
theorem okB_iff {h : Int} {x : Int} {e : Qd} : okB ahead K2 x h e = true ↔ e.a = x ∧ (((h = 1 ∧ e.h = 1) ∧ x ∈ ahead) ∨ (¬ (h = 1 ∧ e.h = 1) ∧ x ∉ K2)) := by
  unfold okB meetB
  simp only [Bool.and_eq_true, Bool.or_eq_true, decide_eq_true_eq, Bool.not_eq_true', Bool.and_eq_false_iff, decide_eq_false_iff_not]
  refine and_congr_right fun _ => or_congr Iff.rfl (and_congr_left fun _ => ?_)
  constructor
  · rintro (g | g) z
    · exact g z.1
    · exact g z.2
  · intro g
    by_cases q : h = 1
    · exact .inr fun z => g ⟨q, z⟩
    · exact .inl q
/-- from where the walk may still come to W -/
inductive Tz (d : Dr) (ahead K2 W : List Int) : Int → Int → Prop
  | fin {w h : Int} : w ∈ W → Tz d ahead K2 W w h
  | go {x h : Int} {e : Qd} : e ∈ edges d → okB ahead K2 x h e = true → Tz d ahead K2 W e.b e.t → Tz d ahead K2 W x h
theorem Sep.back {x h : Int} (T : Tz d ahead K2 W x h) : (h = 0 ∨ h = 1) → (h = 0 → x ∈ A) →
    (h = 0 → Bf (ds.map (grp d)) W K1 x) ∧ (h = 1 → x ∈ A ∧ ∃ D ∈ ds, x ∈ D ∧ ∃ z ∈ grp d D, Bf (ds.map (grp d)) W K1 z) := by
  induction T with
  | @fin w h hw =>
    intro _ _
    have wA : w ∈ A := (S.mA w).mpr (.base (List.mem_append_left _ (List.mem_append_left _ hw)))
    obtain ⟨D, hD, hu⟩ := S.cD w wA
    exact ⟨fun _ => .base hw, fun _ => ⟨wA, D, hD, hu, w, mem_grp.mpr (.inl hu), .base hw⟩⟩
  | @go x h e he ok _ ih =>
    intro h01 hA
    obtain ⟨ea, ok2⟩ := okB_iff.mp ok
    clear ok
    obtain ⟨a, b, eh, et⟩ := e
    simp only at ea ok2 ih
    subst ea
    rcases mem_edges.mp he with ⟨m, e1, e2⟩ | ⟨m, e1, e2⟩ | ⟨m, e1, e2⟩
    · -- an arrow out
      simp only at m e1 e2
      subst e1 e2
      have xK : a ∉ K2 := by
        rcases ok2 with ⟨⟨_, z⟩, _⟩ | ⟨_, z⟩
        · exact absurd z (by decide)
        · exact z
      obtain ⟨bA, D, hD, bD, z, hz, bz⟩ := (ih (.inr rfl) fun z => absurd z (by decide)).2 rfl
      have aA := S.parent m bA
      have ba := S.adj hD (mem_grp.mpr (.inr ⟨b, bD, m⟩)) hz bz xK
      obtain ⟨D', hD', aD⟩ := S.cD a aA
      exact ⟨fun _ => ba, fun _ => ⟨aA, D', hD', aD, a, mem_grp.mpr (.inl aD), ba⟩⟩
    · -- an arrow in
      simp only at m e1 e2
      subst e1 e2
      have aA : a ∈ A := by
        rcases h01 with z | z
        · exact hA z
        · rcases ok2 with ⟨_, q⟩ | ⟨q, _⟩
          · exact S.aheadA q
          · exact absurd ⟨z, rfl⟩ q
      have bA := S.parent m aA
      have bb := (ih (.inl rfl) fun _ => bA).1 rfl
      obtain ⟨D, hD, aD⟩ := S.cD a aA
      have gb : b ∈ grp d D := mem_grp.mpr (.inr ⟨a, aD, m⟩)
      refine ⟨fun z => ?_, fun _ => ⟨aA, D, hD, aD, b, gb, bb⟩⟩
      have xK : a ∉ K2 := by
        rcases ok2 with ⟨⟨q, _⟩, _⟩ | ⟨_, q⟩
        · rw [z] at q
          exact absurd q (by decide)
        · exact q
      exact S.adj hD (mem_grp.mpr (.inl aD)) gb bb xK
    · -- a tie
      simp only at m e1 e2
      subst e1 e2
      have aA : a ∈ A := by
        rcases h01 with z | z
        · exact hA z
        · rcases ok2 with ⟨_, q⟩ | ⟨q, _⟩
          · exact S.aheadA q
          · exact absurd ⟨z, rfl⟩ q
      obtain ⟨bA, D, hD, bD, z, hz, bz⟩ := (ih (.inr rfl) fun z => absurd z (by decide)).2 rfl
      have aD : a ∈ D := S.tieD hD bD (mem_bothIn.mpr ⟨⟨bA, aA⟩, m.symm⟩)
      refine ⟨fun q => ?_, fun _ => ⟨aA, D, hD, aD, z, hz, bz⟩⟩
      have xK : a ∉ K2 := by
        rcases ok2 with ⟨⟨r, _⟩, _⟩ | ⟨_, r⟩
        · rw [q] at r
          exact absurd r (by decide)
        · exact r
      exact S.adj hD (mem_grp.mpr (.inl aD)) hz bz xK
omit S in
theorem start_of {x h : Int} (R : Ws d [v] ahead K2 x h) : Tz d ahead K2 W x h → ∃ e ∈ edges d, e.a = v ∧ Tz d ahead K2 W e.b e.t := by
  induction R with
  | base he h1 =>
    intro t
    rcases List.mem_cons.mp h1 with z | z
    · exact ⟨_, he, z, t⟩
    · cases z
  | step _ he ok ih => exact fun t => ih (.go he ok t)
theorem Sep.to_groups {w h : Int} (hw : w ∈ W) (R : Ws d [v] ahead K2 w h) : Bf (ds.map (grp d)) W K1 v := by
  obtain ⟨e, he, ea, t⟩ := start_of R (.fin hw)
  have ok : okB ahead K2 v 0 e = true := okB_iff.mpr ⟨ea, .inr ⟨fun z => absurd z.1 (by decide), S.vK⟩⟩
  exact (S.back (.go he ok t) (.inl rfl) fun _ => S.vA).1 rfl

/-! ### from groups to states -/
def Done (d : Dr) (v : Int) (W ahead K2 : List Int) : Prop := ∃ w ∈ W, Ws d [v] ahead K2 w 0 ∨ Ws d [v] ahead K2 w 1
def Rv (d : Dr) (v : Int) (ahead K2 : List Int) (x : Int) : Prop := x = v ∨ ∃ h, (h = 0 ∨ h = 1) ∧ Ws d [v] ahead K2 x h
omit S in
theorem edge_to {a b : Int} (h : (a, b) ∈ d.b) : (⟨a, b, 0, 1⟩ : Qd) ∈ edges d := mem_edges.mpr (.inl ⟨h, rfl, rfl⟩)
omit S in
theorem edge_from {a b : Int} (h : (b, a) ∈ d.b) : (⟨a, b, 1, 0⟩ : Qd) ∈ edges d := mem_edges.mpr (.inr (.inl ⟨h, rfl, rfl⟩))
omit S in
theorem edge_tie {a b : Int} (h : (a, b) ∈ bothIn d A) : (⟨a, b, 1, 1⟩ : Qd) ∈ edges d := mem_edges.mpr (.inr (.inr ⟨(mem_bothIn.mp h).2, rfl, rfl⟩))
omit S in
theorem ws_start {e : Qd} (he : e ∈ edges d) (h : e.a = v) : Ws d [v] ahead K2 e.b e.t := .base he (by rw [h]; exact List.mem_cons_self)
/-- against the arrows, from v -/
theorem Sep.up {x : Int} (h : Clo (flip d.b) [v] x) : x ∉ ahead → x = v ∨ Ws d [v] ahead K2 x 0 := by
  induction h with
  | base h =>
    intro _
    rcases List.mem_cons.mp h with e | e
    · exact .inl e
    · cases e
  | @step a x _ h ih =>
    intro hx
    have m := mem_flip.mp h
    have ha : a ∉ ahead := fun z => hx (S.parentH m z)
    right
    rcases ih ha with e | e
    · exact ws_start (edge_from m) e
    · exact .step e (edge_from m) (okB_iff.mpr ⟨rfl, .inr ⟨fun z => absurd z.1 (by decide), fun z => ha (S.KH z)⟩⟩)
/-- along the arrows, to W -/
theorem Sep.down {x : Int} (h : Clo (flip d.b) W x) : x ∉ ahead → Rv d v ahead K2 x → Done d v W ahead K2 := by
  induction h with
  | @base x h =>
    intro _ r
    rcases r with e | ⟨k, hk, r⟩
    · exact absurd (e ▸ h) S.vW
    · refine ⟨x, h, ?_⟩
      rcases hk with rfl | rfl
      · exact .inl r
      · exact .inr r
  | @step a x _ h ih =>
    intro hx r
    have m := mem_flip.mp h
    refine ih (fun z => hx (S.parentH m z)) (.inr ⟨1, .inr rfl, ?_⟩)
    rcases r with e | ⟨k, _, r⟩
    · exact ws_start (edge_to m) e
    · exact .step r (edge_to m) (okB_iff.mpr ⟨rfl, .inr ⟨fun z => absurd z.2 (show ¬ ((0 : Int) = 1) by decide), fun z => hx (S.KH z)⟩⟩)
/-- on from x along e, or at an end -/
theorem Sep.pass {x h : Int} {e : Qd} (xA : x ∈ A) (R : Ws d [v] ahead K2 x h) (h01 : h = 0 ∨ h = 1) (he : e ∈ edges d) (ea : e.a = x) (c : x ∉ K2 ∨ (h = 1 ∧ e.h = 1)) : Ws d [v] ahead K2 e.b e.t ∨ Done d v W ahead K2 := by
  by_cases m : h = 1 ∧ e.h = 1
  · by_cases hx : x ∈ ahead
    · exact .inl (.step R he (okB_iff.mpr ⟨ea, .inl ⟨m, hx⟩⟩))
    · rcases ((S.mA x).mp xA).parts with q | q
      · rcases q.parts with q | q
        · exact .inr (S.down q hx (.inr ⟨h, h01, R⟩))
        · left
          rcases S.up q hx with z | z
          · exact ws_start he (ea.trans z)
          · exact .step z he (okB_iff.mpr ⟨ea, .inr ⟨fun r => absurd r.1 (by decide), fun r => hx (S.KH r)⟩⟩)
      · exact absurd ((S.mH x).mpr (q.sub fun y hy => (S.KK y).mp hy)) hx
  · exact .inl (.step R he (okB_iff.mpr ⟨ea, .inr ⟨m, c.elim id fun z => absurd z m⟩⟩))
theorem Sep.passR {x : Int} {e : Qd} (xA : x ∈ A) (R : Rv d v ahead K2 x) (he : e ∈ edges d) (ea : e.a = x) (xK : x ∉ K2) : Ws d [v] ahead K2 e.b e.t ∨ Done d v W ahead K2 := by
  rcases R with z | ⟨h, h01, R⟩
  · exact .inl (ws_start he (ea.trans z))
  · exact S.pass xA R h01 he ea (.inl xK)
/-- along the ties -/
theorem Sep.ties {x y : Int} (h : Clo (bothIn d A) [x] y) (st : ∀ z, (x, z) ∈ bothIn d A → Ws d [v] ahead K2 z 1 ∨ Done d v W ahead K2) : y = x ∨ Ws d [v] ahead K2 y 1 ∨ Done d v W ahead K2 := by
  induction h with
  | base h =>
    rcases List.mem_cons.mp h with e | e
    · exact .inl e
    · cases e
  | @step a b _ h ih =>
    right
    rcases ih with e | e | e
    · rw [e] at h
      exact st b h
    · exact S.pass (mem_bothIn.mp h).1.1 e (.inr rfl) (edge_tie h) rfl (.inr ⟨rfl, rfl⟩)
    · exact .inr e
/-- from one of a group to any other -/
theorem Sep.cross {D : List Int} (hD : D ∈ ds) {x y : Int} (hy : y ∈ grp d D) (hx : x ∈ grp d D) (R : Rv d v ahead K2 y) (yK : y ∉ K2) : Rv d v ahead K2 x ∨ Done d v W ahead K2 := by
  -- to a member c of the district
  have to : ∀ c ∈ D, (c = y ∧ y ∈ D) ∨ Ws d [v] ahead K2 c 1 ∨ Done d v W ahead K2 := fun c hc => by
    rcases mem_grp.mp hy with yD | ⟨c0, c0D, m⟩
    · rcases S.ties (S.cloD hD yD hc) fun z hz => S.passR (S.DA hD yD) R (edge_tie hz) rfl yK with e | e | e
      · exact .inl ⟨e, yD⟩
      · exact .inr (.inl e)
      · exact .inr (.inr e)
    · rcases S.passR (S.parent m (S.DA hD c0D)) R (edge_to m) rfl yK with e0 | e0
      · have e0 : Ws d [v] ahead K2 c0 1 := e0
        rcases S.ties (S.cloD hD c0D hc) fun z hz => S.pass (S.DA hD c0D) e0 (.inr rfl) (edge_tie hz) rfl (.inr ⟨rfl, rfl⟩) with e | e | e
        · rw [e]
          exact .inr (.inl e0)
        · exact .inr (.inl e)
        · exact .inr (.inr e)
      · exact .inr (.inr e0)
  rcases mem_grp.mp hx with xD | ⟨c, cD, m⟩
  · rcases to x xD with ⟨e, _⟩ | e | e
    · rw [e]
      exact .inl R
    · exact .inl (.inr ⟨1, .inr rfl, e⟩)
    · exact .inr e
  · have fin : Ws d [v] ahead K2 x 0 ∨ Done d v W ahead K2 → Rv d v ahead K2 x ∨ Done d v W ahead K2 := fun h => h.imp (fun h => .inr ⟨0, .inl rfl, h⟩) id
    rcases to c cD with ⟨e, yD⟩ | e | e
    · subst e
      exact fin (S.passR (S.DA hD yD) R (edge_from m) rfl yK)
    · exact fin (S.pass (S.DA hD cD) e (.inr rfl) (edge_from m) rfl (.inr ⟨rfl, rfl⟩))
    · exact .inr e
theorem Sep.to_states (h : Bf (ds.map (grp d)) W K1 v) : Done d v W ahead K2 := by
  have gen : ∀ y, Bf (ds.map (grp d)) W K1 y → Rv d v ahead K2 y → Done d v W ahead K2 := fun y hy => by
    induction hy with
    | @base x hx =>
      intro r
      rcases r with e | ⟨k, hk, r⟩
      · exact absurd (e ▸ hx) S.vW
      · refine ⟨x, hx, ?_⟩
        rcases hk with rfl | rfl
        · exact .inl r
        · exact .inr r
    | @step x y _ a yK ih =>
      intro r
      obtain ⟨g, hg, hx, hy⟩ := a
      obtain ⟨D, hD, rfl⟩ := List.mem_map.mp hg
      exact (S.cross hD hy hx r fun z => yK ((S.KK y).mpr z)).elim ih id
  exact gen v h (.inl rfl)
theorem Sep.same : Bf (ds.map (grp d)) W K1 v ↔ ∃ w ∈ W, Ws d [v] ahead K2 w 0 ∨ Ws d [v] ahead K2 w 1 :=
  ⟨S.to_states, fun ⟨w, hw, h⟩ => h.elim (S.to_groups hw) (S.to_groups hw)⟩
end
end VL

/-! plain side, part 8: the checks -/
namespace VL
open PySem
open Enc
def ltP (p q : Pt) : Prop := p.1 < q.1 ∨ (p.1 = q.1 ∧ p.2 < q.2)
theorem s_for {cf : Nat → List Val → Res Val} {ρ : Env} {α σ J : Type} {t : Pat} {it : E} {body : List S} {l : List α} (e : α → Val) (hi : (evalE cf 0 it ρ).bind asSeq = .ok (l.map e)) (E : σ → J → Env) (I : List α → σ → Prop) (s0 : σ) (j0 : J) (hρ : ρ = E s0 j0) (h0 : I [] s0)
    (hb : ∀ pre x post s j, l = pre ++ x :: post → I pre s → ∃ s' j' ρ', bindP t (e x) (E s j) = .ok ρ' ∧ evalSs cf body ρ' = .ok (.nx (E s' j')) ∧ I (pre ++ [x]) s') : ∃ s j, evalS cf (.for t it body) ρ = .ok (.nx (E s j)) ∧ I l s := by
  obtain ⟨s1, j1, h3, h4⟩ := forL_inv (b := fun v ρ => (bindP t v ρ).bind fun ρ' => evalSs cf body ρ') (e := e) E I (l := l) (fun pre x post s j hl hs => by
    obtain ⟨s', j', ρ', e1, e2, e3⟩ := hb pre x post s j hl hs
    refine ⟨s', j', ?_, e3⟩
    show (bindP t (e x) (E s j)).bind _ = _
    rw [e1]
    exact e2) l [] s0 j0 rfl h0
  refine ⟨s1, j1, ?_, h4⟩
  obtain ⟨v, e1, e2⟩ := Res.bind_eq_ok hi
  show (evalE cf 0 it ρ).bind _ = _
  rw [e1]
  show (asSeq v).bind _ = _
  rw [e2, hρ]
  exact h3
section
variable {Pr : Prog} {n : Nat}
end
end VL

/-! plain side, part 9: no rounds, the drawing's check, all checks -/
namespace VL
open PySem
open Enc
def into (R : List Pt) (l : List Int) (v : Int) : List Int := (R.filter fun p => decide (p.2 = v) && decide (p.1 ∈ l)).map fun p => p.1
section
variable {Pr : Prog} {n : Nat}
/-- a drawing as it is asked: sorted, no rounds -/
structure Good (d : Dr) : Prop where
  m1 : 1 ≤ d.a
  m12 : d.a ≤ 12
  arr : InP d.a d.b
  tie : InP d.a d.c
  arrS : d.b.Pairwise ltP
  tieS : d.c.Pairwise ltP
  tieU : ∀ p ∈ d.c, p.1 < p.2
  rank : ∃ (rank : Int → Nat) (top : Nat), ∀ p ∈ d.b, rank p.1 < rank p.2 ∧ rank p.2 ≤ top
  zb : d.b.length ≤ 1000
  zc : d.c.length ≤ 1000
theorem Good.tame {d : Dr} (g : Good d) : Tame d := ⟨by have := g.m12; omega, g.arr, g.tie, g.zb, g.zc⟩
end
end VL

/-! plain side, part 10: needless and the law's needless -/
namespace VL
open PySem
open Enc
/-- a question as it is asked -/
structure Ask (d : Dr) (deed asked known : List Int) : Prop where
  good : Good d
  i1 : InR d.a deed
  i2 : InR d.a asked
  i3 : InR d.a known
  s1 : deed.Pairwise (· < ·)
  s2 : asked.Pairwise (· < ·)
  s3 : known.Pairwise (· < ·)
  d12 : ∀ x ∈ deed, x ∉ asked
  d13 : ∀ x ∈ deed, x ∉ known
  d23 : ∀ x ∈ asked, x ∉ known
  ne : asked ≠ []
section
variable {Pr : Prog} {n : Nat} {d : Dr} {deed asked known : List Int}
theorem Ask.len (q : Ask d deed asked known) : deed.length ≤ 12 ∧ asked.length ≤ 12 ∧ known.length ≤ 12 := by
  have h1 := below_len (nodup_of_sorted q.s1) q.i1
  have h2 := below_len (nodup_of_sorted q.s2) q.i2
  have h3 := below_len (nodup_of_sorted q.s3) q.i3
  have := q.good.m12
  omega
theorem Ask.every (q : Ask d deed asked known) : (deed ++ asked ++ known).Nodup :=
  List.nodup_append.mpr ⟨List.nodup_append.mpr ⟨nodup_of_sorted q.s1, nodup_of_sorted q.s2, fun x hx y hy e => q.d12 x hx (e ▸ hy)⟩, nodup_of_sorted q.s3, fun x hx y hy e => (List.mem_append.mp hx).elim (fun h => q.d13 x h (e ▸ hy)) fun h => q.d23 x h (e ▸ hy)⟩
def rest (known : List Int) (v : Int) : List Int := known.filter fun w => !decide (w = v)
end
end VL

/-! plain side, part 11: the law's draws, mixes, orders -/
namespace VL
open PySem
open Enc
theorem log2_small {n : Nat} (h : n < 2 ^ 64) : n.log2 < 64 := by
  by_cases q : n = 0
  · rw [q]
    decide
  · exact (Nat.log2_lt q).mpr h
theorem mulOk_small {a b : Int} (ha : a.natAbs < 2 ^ 64) (hb : b.natAbs < 2 ^ 64) : mulOk a b = true := by
  unfold mulOk
  rw [decide_eq_true_eq]
  have := log2_small ha
  have := log2_small hb
  omega
theorem den_mul {a b : Int} (ha : a.natAbs < 2 ^ 64) (hb : b.natAbs < 2 ^ 64) : den .mul [.int a, .int b] = .ok (.int (a * b)) := by
  show Res.guard (mulOk a b) _ = _
  rw [mulOk_small ha hb]
  rfl
theorem den_mod {a b : Int} (hb : 0 < b) : den .mod [.int a, .int b] = .ok (.int (a % b)) := by
  show Res.guard (decide (0 < b)) _ = _
  rw [decide_eq_true hb]
  rfl
theorem den_fdiv {a b : Int} (hb : 0 < b) (h2 : b < 1073741824) : den .fdiv [.int a, .int b] = .ok (.int (a / b)) := by
  show Res.guard (decide (0 < b) && decide (b < 1073741824)) _ = _
  rw [decide_eq_true hb, decide_eq_true h2]
  rfl
def Byt (l : List Int) : Prop := ∀ x ∈ l, 0 ≤ x ∧ x < 65536
theorem s_if' {cf : Nat → List Val → Res Val} {ρ ρ' : Env} {c : E} {a b ss : List S} {t : Bool} {r : Res Out} (e : evalE cf 9 c ρ = .ok (.bool t)) (h : (if t then evalSs cf a ρ else evalSs cf b ρ) = .ok (.nx ρ')) (h2 : evalSs cf ss ρ' = r) : evalSs cf (.iff c a b :: ss) ρ = r := ss_cons (s_if e h) h2
section
variable {Pr : Prog} {n : Nat}
theorem ev_draws (h : Pr 5 = some k__law_draws) {ns : List Int} (hl : ns.length ≤ 63) : ∃ ds : List Int, evalD Pr (n + 1) 5 [enc ns] = .ok (enc ds) ∧ Byt ds ∧ ds.length ≤ 4000 := by
  let cf := evalD Pr n
  let J := Option (Val × Nat) × Option (Val × Nat) × Option (Val × Nat) × Option (Val × Nat)
  let E : List Int → J → Env := fun s j => [some (enc ns, 0), some (enc s, 1), j.1, j.2.1, j.2.2.1, j.2.2.2]
  have hm : den .min [.int 63, .int ((ns.length : Nat) : Int)] = .ok (.int ((ns.length : Nat) : Int)) := by
    show Res.ok (PyData.int (if ((ns.length : Nat) : Int) < 63 then ((ns.length : Nat) : Int) else 63)) = _
    congr 2
    split <;> omega
  obtain ⟨s, j, w, ⟨hb, hlen⟩⟩ := s_for (cf := cf) (ρ := E [] (none, none, none, none)) (t := .slot 2) (it := .op .range [(.op .min [(.cst (.int 63)), (.op .len [(.var 0)])])]) (body := [.set 3 (.op .abs [(.op .idx [(.var 0), (.var 2)])]) 0, .iff (.op .ge [(.var 3), (.op .pow [(.cst (.int 10)), (.cst (.int 18))])]) [.for (.slot 4) (.op .range [(.cst (.int 60))]) [.iff (.op .gt [(.var 3), (.cst (.int 0))]) [.app 1 (.op .mod [(.op .int [(.var 3)]), (.cst (.int 65536))]) 0, .set 3 (.op .fdiv [(.var 3), (.cst (.int 65536))]) 0] []]] [.set 5 (.op .mod [(.op .int [(.op .add [(.op .mul [(.var 3), (.cst (.int 48271))]), (.op .mul [(.op .add [(.var 2), (.cst (.int 1))]), (.cst (.int 69621))])])]), (.cst (.int 2147483647))]) 0, .set 5 (.op .mod [(.op .int [(.op .add [(.op .add [(.op .mul [(.var 5), (.cst (.int 16807))]), (.op .mul [(.cst (.int 11)), (.var 2)])]), (.cst (.int 5))])]), (.cst (.int 2147483629))]) 0, .app 1 (.op .mod [(.op .int [(.var 5)]), (.cst (.int 65536))]) 0, .app 1 (.op .mod [(.op .int [(.op .fdiv [(.var 5), (.cst (.int 65536))])]), (.cst (.int 32768))]) 0]])
    (l := upto ((ns.length : Nat) : Int)) (enc : Int → Val) (ev_range1 (ev2 (x := .int 63) (y := .int ((ns.length : Nat) : Int)) rfl (by
      have := ev_len (cf := cf) (k := 9) (a := .var 0) (ρ := E [] (none, none, none, none)) (l := ns.map enc) rfl
      rw [List.length_map] at this
      exact this) hm) (by omega) (by omega)) E (fun pre s => Byt s ∧ s.length ≤ pre.length * 60) [] (none, none, none, none) rfl ⟨fun _ z => (nomatch z), by simp⟩ (fun pre k post s j hl2 hs => by
      obtain ⟨hb, hlen⟩ := hs
      have kU : k ∈ upto ((ns.length : Nat) : Int) := by rw [hl2]; exact List.mem_append_right _ List.mem_cons_self
      obtain ⟨k0, k1⟩ := mem_upto.mp kU
      have lpre : pre.length ≤ 63 := by
        have := congrArg List.length hl2
        rw [upto_length, List.length_append, List.length_cons] at this
        omega
      obtain ⟨kn, rfl⟩ : ∃ kn : Nat, k = (kn : Int) := ⟨k.toNat, by omega⟩
      have hk : kn < ns.length := by omega
      have hi : evalE cf 9 (.op .idx [(.var 0), (.var 2)]) (E s (some (enc ((kn : Nat) : Int), 0), j.2.1, j.2.2.1, j.2.2.2)) = .ok (.int ns[kn]) := ev2 (x := enc ns) (y := .int ((kn : Nat) : Int)) rfl rfl (den_idx (by
        rw [List.getElem?_map, List.getElem?_eq_getElem hk]
        rfl))
      let r : Int := if ns[kn] < 0 then -ns[kn] else ns[kn]
      have r0 : 0 ≤ r := by
        show 0 ≤ (if ns[kn] < 0 then -ns[kn] else ns[kn])
        split <;> omega
      have hpow : evalE cf 9 (.op .pow [(.cst (.int 10)), (.cst (.int 18))]) (E s (some (enc ((kn : Nat) : Int), 0), some (.int r, 0), j.2.2.1, j.2.2.2)) = .ok (.int 1000000000000000000) := by
        refine ev2 (x := .int 10) (y := .int 18) rfl rfl ?_
        show Res.guard (expOk 10 18) (Res.ok (PyData.int ((10 : Int) ^ (18 : Int).toNat))) = _
        have : expOk 10 18 = true := by decide
        rw [this]
        rfl
      have hc := cb_ge (cf := cf) (ρ := E s (some (enc ((kn : Nat) : Int), 0), some (.int r, 0), j.2.2.1, j.2.2.2)) (a := .var 3) (b := .op .pow [(.cst (.int 10)), (.cst (.int 18))]) (i := r) (j := 1000000000000000000) rfl hpow
      by_cases big : (1000000000000000000 : Int) ≤ r
      · rw [decide_eq_true big] at hc
        let E2 : List Int × Int → Option (Val × Nat) → Env := fun q j4 => E q.1 (some (enc ((kn : Nat) : Int), 0), some (.int q.2, 0), j4, j.2.2.2)
        obtain ⟨q, j4, w2, ⟨b2, n2⟩⟩ := s_for (cf := cf) (ρ := E2 (s, r) j.2.2.1) (t := .slot 4) (it := .op .range [(.cst (.int 60))]) (body := [.iff (.op .gt [(.var 3), (.cst (.int 0))]) [.app 1 (.op .mod [(.op .int [(.var 3)]), (.cst (.int 65536))]) 0, .set 3 (.op .fdiv [(.var 3), (.cst (.int 65536))]) 0] []]) (l := upto 60) (enc : Int → Val) (ev_range1 rfl (by decide) (by decide)) E2 (fun pre q => Byt q.1 ∧ q.1.length ≤ s.length + pre.length) (s, r) j.2.2.1 rfl ⟨hb, by simp⟩ (fun pre2 t post2 q j4 hl3 hs2 => by
          obtain ⟨b2, n2⟩ := hs2
          have lp2 : pre2.length ≤ 60 := by
            have := congrArg List.length hl3
            rw [upto_length, List.length_append, List.length_cons] at this
            omega
          have hc2 := cb_gt (cf := cf) (ρ := E2 q (some (enc t, 0))) (a := .var 3) (b := .cst (.int 0)) (i := q.2) (j := 0) rfl rfl
          by_cases pos : 0 < q.2
          · rw [decide_eq_true pos] at hc2
            refine ⟨(q.1 ++ [q.2 % 65536], q.2 / 65536), some (enc t, 0), E2 q (some (enc t, 0)), rfl, s_if' hc2 (ρ' := E2 (q.1 ++ [q.2 % 65536], q.2 / 65536) (some (enc t, 0))) ?_ rfl, fun x hx => (List.mem_append.mp hx).elim (b2 x) fun hx => ?_, by simp only [List.length_append, List.length_cons, List.length_nil]; omega⟩
            · rw [if_pos rfl]
              refine ss_app (v := .int (q.2 % 65536)) (xs := q.1.map enc) (t := 1) (ev2 (x := .int q.2) (y := .int 65536) (ev1 (o := .int) (x := .int q.2) rfl rfl) rfl (den_mod (by decide))) rfl (by rw [List.length_map]; omega) (ss_set (v := .int (q.2 / 65536)) (ev2 (x := .int q.2) (y := .int 65536) rfl rfl (den_fdiv (by decide) (by decide))) ?_)
              show Res.ok (Out.nx [some (enc ns, 0), some (.list (q.1.map enc ++ [.int (q.2 % 65536)]), 1), some (enc ((kn : Nat) : Int), 0), some (.int (q.2 / 65536), 0), some (enc t, 0), j.2.2.2]) = Res.ok (Out.nx [some (enc ns, 0), some (.list ((q.1 ++ [q.2 % 65536]).map enc), 1), some (enc ((kn : Nat) : Int), 0), some (.int (q.2 / 65536), 0), some (enc t, 0), j.2.2.2])
              rw [List.map_append]
              rfl
            · rcases List.mem_cons.mp hx with z | z
              · rw [z]
                omega
              · cases z
          · rw [decide_eq_false pos] at hc2
            exact ⟨q, some (enc t, 0), E2 q (some (enc t, 0)), rfl, s_if' hc2 (ρ' := E2 q (some (enc t, 0))) rfl rfl, b2, by rw [List.length_append]; omega⟩)
        refine ⟨q.1, (some (enc ((kn : Nat) : Int), 0), some (.int q.2, 0), j4, j.2.2.2), E s (some (enc ((kn : Nat) : Int), 0), j.2.1, j.2.2.1, j.2.2.2), rfl, ss_set (v := .int r) (ev1 (o := .abs) hi rfl) (s_if' hc (ρ' := E2 q j4) ?_ rfl), b2, ?_⟩
        · rw [if_pos rfl]
          exact ss_cons w2 rfl
        · rw [upto_length] at n2
          rw [List.length_append, List.length_cons, List.length_nil]
          have : (60 : Int).toNat = 60 := rfl
          omega
      · rw [decide_eq_false big] at hc
        let m1 : Int := (r * 48271 + ((kn : Int) + 1) * 69621) % 2147483647
        let m2 : Int := (m1 * 16807 + 11 * (kn : Int) + 5) % 2147483629
        have b1 : 0 ≤ m1 ∧ m1 < 2147483647 := ⟨Int.emod_nonneg _ (by decide), Int.emod_lt_of_pos _ (by decide)⟩
        have b2 : 0 ≤ m2 ∧ m2 < 2147483629 := ⟨Int.emod_nonneg _ (by decide), Int.emod_lt_of_pos _ (by decide)⟩
        refine ⟨s ++ [m2 % 65536] ++ [m2 / 65536 % 32768], (some (enc ((kn : Nat) : Int), 0), some (.int r, 0), j.2.2.1, some (.int m2, 0)), E s (some (enc ((kn : Nat) : Int), 0), j.2.1, j.2.2.1, j.2.2.2), rfl, ss_set (v := .int r) (ev1 (o := .abs) hi rfl) (s_if' hc (ρ' := E (s ++ [m2 % 65536] ++ [m2 / 65536 % 32768]) (some (enc ((kn : Nat) : Int), 0), some (.int r, 0), j.2.2.1, some (.int m2, 0))) ?_ rfl), fun x hx => ?_, ?_⟩
        · rw [if_neg Bool.false_ne_true]
          refine ss_set (v := .int m1) (ev2 (x := .int (r * 48271 + ((kn : Int) + 1) * 69621)) (y := .int 2147483647) (ev1 (o := .int) (x := .int (r * 48271 + ((kn : Int) + 1) * 69621)) (ev2 (x := .int (r * 48271)) (y := .int (((kn : Int) + 1) * 69621)) (ev2 (x := .int r) (y := .int 48271) rfl rfl (den_mul (by omega) (by decide))) (ev2 (x := .int ((kn : Int) + 1)) (y := .int 69621) (ev2 (x := .int (kn : Int)) (y := .int 1) rfl rfl rfl) rfl (den_mul (by omega) (by decide))) rfl) rfl) rfl (den_mod (by decide))) ?_
          refine ss_set (v := .int m2) (ev2 (x := .int (m1 * 16807 + 11 * (kn : Int) + 5)) (y := .int 2147483629) (ev1 (o := .int) (x := .int (m1 * 16807 + 11 * (kn : Int) + 5)) (ev2 (x := .int (m1 * 16807 + 11 * (kn : Int))) (y := .int 5) (ev2 (x := .int (m1 * 16807)) (y := .int (11 * (kn : Int))) (ev2 (x := .int m1) (y := .int 16807) rfl rfl (den_mul (by omega) (by decide))) (ev2 (x := .int 11) (y := .int (kn : Int)) rfl rfl (den_mul (by decide) (by omega))) rfl) rfl rfl) rfl) rfl (den_mod (by decide))) ?_
          refine ss_app (v := .int (m2 % 65536)) (xs := s.map enc) (t := 1) (ev2 (x := .int m2) (y := .int 65536) (ev1 (o := .int) (x := .int m2) rfl rfl) rfl (den_mod (by decide))) rfl (by rw [List.length_map]; omega) ?_
          refine ss_app (v := .int (m2 / 65536 % 32768)) (xs := s.map enc ++ [.int (m2 % 65536)]) (t := 1) (ev2 (x := .int (m2 / 65536)) (y := .int 32768) (ev1 (o := .int) (x := .int (m2 / 65536)) (ev2 (x := .int m2) (y := .int 65536) rfl rfl (den_fdiv (by decide) (by decide))) rfl) rfl (den_mod (by decide))) rfl (by rw [List.length_append, List.length_map]; simp only [List.length_cons, List.length_nil]; omega) ?_
          show Res.ok (Out.nx [some (enc ns, 0), some (.list (s.map enc ++ [.int (m2 % 65536)] ++ [.int (m2 / 65536 % 32768)]), 1), some (enc ((kn : Nat) : Int), 0), some (.int r, 0), j.2.2.1, some (.int m2, 0)]) = Res.ok (Out.nx [some (enc ns, 0), some (.list ((s ++ [m2 % 65536] ++ [m2 / 65536 % 32768]).map enc), 1), some (enc ((kn : Nat) : Int), 0), some (.int r, 0), j.2.2.1, some (.int m2, 0)])
          rw [List.map_append, List.map_append]
          rfl
        · rcases List.mem_append.mp hx with hx | hx
          · rcases List.mem_append.mp hx with hx | hx
            · exact hb x hx
            · rcases List.mem_cons.mp hx with z | z
              · rw [z]
                omega
              · cases z
          · rcases List.mem_cons.mp hx with z | z
            · rw [z]
              omega
            · cases z
        · simp only [List.length_append, List.length_cons, List.length_nil]
          omega)
  refine ⟨s, evalD_rt h rfl (ss_set (v := enc ([] : List Int)) rfl (ss_cons w rfl)), hb, ?_⟩
  rw [upto_length] at hlen
  omega
end
end VL

/-! plain side, part 12: mixes, orders, three sets -/
namespace VL
open PySem
open Enc
/-- the draws, as they come out -/
structure Drawn (ds : List Int) : Prop where
  byt : Byt ds
  len : ds.length ≤ 4000
section
variable {Pr : Prog} {n : Nat}
theorem ev_mix (h : Pr 6 = some k__law_mix) {ds : List Int} (D : Drawn ds) {k m : Int} (k0 : 0 ≤ k) (k1 : k ≤ 1000000) (m0 : 0 < m) : ∃ x : Int, evalD Pr (n + 1) 6 [enc ds, .int k, .int m] = .ok (.int x) ∧ 0 ≤ x ∧ x < m := by
  let cf := evalD Pr n
  let L : Int := ((ds.length : Nat) : Int)
  have L0 : 0 ≤ L := by omega
  have L1 : L ≤ 4000 := by have := D.len; omega
  have lenv : ∀ (v : Option (Val × Nat)) (q : Nat), evalE cf q (.op .len [.var 0]) [some (enc ds, 0), some (.int k, 0), some (.int m, 0), v] = .ok (.int L) := fun v q => by
    have := ev_len (cf := cf) (k := q) (a := .var 0) (ρ := [some (enc ds, 0), some (.int k, 0), some (.int m, 0), v]) (l := ds.map enc) rfl
    rw [List.length_map] at this
    exact this
  have hmod : ∀ x : Int, 0 ≤ x % m ∧ x % m < m := fun x => ⟨Int.emod_nonneg _ (by omega), Int.emod_lt_of_pos _ m0⟩
  -- the value told
  have step : ∃ v : Int, (0 ≤ v ∧ v < 65536) ∧ ∀ {ss : List S} {r : Res Out}, evalSs cf ss [some (enc ds, 0), some (.int k, 0), some (.int m, 0), some (.int v, 0)] = r →
      evalSs cf (.set 3 (.cst (.int 0)) 0 :: .iff (.op .gt [(.op .len [(.var 0)]), (.cst (.int 0))]) [.set 3 (.op .idx [(.var 0), (.op .mod [(.op .int [(.var 1)]), (.op .len [(.var 0)])])]) 0] [] :: ss) (startE k__law_mix [enc ds, .int k, .int m]) = r := by
    by_cases q : 0 < L
    · let i : Int := k % L
      have i0 : 0 ≤ i := Int.emod_nonneg _ (by omega)
      have i1 : i < L := Int.emod_lt_of_pos _ q
      obtain ⟨j, hj⟩ : ∃ j : Nat, i = (j : Int) := ⟨i.toNat, by omega⟩
      have hjl : j < ds.length := by omega
      refine ⟨ds[j], D.byt _ (List.getElem_mem hjl), fun {ss r} hh => ss_set (v := .int 0) rfl (s_if' (t := true) (ρ' := [some (enc ds, 0), some (.int k, 0), some (.int m, 0), some (.int ds[j], 0)]) ?_ ?_ hh)⟩
      · have := cb_gt (lenv (some (.int 0, 0)) 9) (b := .cst (.int 0)) (j := 0) rfl
        rw [decide_eq_true q] at this
        exact this
      · rw [if_pos rfl]
        refine ss_set (v := .int ds[j]) (ev2 (x := enc ds) (y := .int ((j : Nat) : Int)) rfl ?_ (den_idx (by
          rw [List.getElem?_map, List.getElem?_eq_getElem hjl]
          rfl))) rfl
        rw [← hj]
        exact ev2 (x := .int k) (y := .int L) (ev1 (o := .int) (x := .int k) rfl rfl) (lenv _ _) (den_mod q)
    · refine ⟨0, by decide, fun {ss r} hh => ss_set (v := .int 0) rfl (s_if' (t := false) (ρ' := [some (enc ds, 0), some (.int k, 0), some (.int m, 0), some (.int 0, 0)]) ?_ rfl hh)⟩
      have := cb_gt (lenv (some (.int 0, 0)) 9) (b := .cst (.int 0)) (j := 0) rfl
      rw [decide_eq_false q] at this
      exact this
  obtain ⟨v, ⟨v0, v1⟩, go⟩ := step
  let ρ1 : Env := [some (enc ds, 0), some (.int k, 0), some (.int m, 0), some (.int v, 0)]
  have hc := cb_lt (cf := cf) (ρ := ρ1) (a := .var 1) (i := k) rfl (lenv (some (.int v, 0)) 9)
  by_cases q : k < L
  · rw [decide_eq_true q] at hc
    refine ⟨v % m, evalD_rt h rfl (go (ss_ifT hc ?_)), hmod v⟩
    have : evalSs cf [.ret (.op .mod [(.op .int [(.var 3)]), (.var 2)])] ρ1 = .ok (.rt (.int (v % m))) := ss_ret (ev2 (x := .int v) (y := .int m) (ev1 (o := .int) (x := .int v) rfl rfl) rfl (den_mod m0))
    rw [this]
    rfl
  · rw [decide_eq_false q] at hc
    let z : Int := (v * 7919 + k * 104729) / 3
    refine ⟨z % m, evalD_rt h rfl (go (ss_ifF hc ?_)), hmod z⟩
    show evalSs cf [.ret _] ρ1 = _
    refine ss_ret (ev2 (x := .int z) (y := .int m) (ev1 (o := .int) (x := .int z) (ev2 (x := .int (v * 7919 + k * 104729)) (y := .int 3) (ev1 (o := .int) (x := .int (v * 7919 + k * 104729)) (ev2 (x := .int (v * 7919)) (y := .int (k * 104729)) (ev2 (x := .int v) (y := .int 7919) rfl rfl (den_mul (by omega) (by decide))) (ev2 (x := .int k) (y := .int 104729) rfl rfl (den_mul (by omega) (by decide))) rfl) rfl) rfl (den_fdiv (by decide) (by decide))) rfl) rfl (den_mod m0))
end
end VL

/-! plain side, part 13: the law's drawing -/
namespace VL
open PySem
open Enc
def fromto (lo m : Int) : List Int := (List.range (m - lo).toNat).map fun t => lo + ((t : Nat) : Int)
def mn (a b : Int) : Int := if b < a then b else a
def mx (a b : Int) : Int := if b > a then b else a
theorem mn_in {m a b : Int} (ha : 0 ≤ a ∧ a < m) (hb : 0 ≤ b ∧ b < m) : (0 ≤ mn a b ∧ mn a b < m) ∧ 0 ≤ mx a b ∧ mx a b < m := by
  unfold mn mx
  split <;> split <;> omega
theorem nodup_ix {α : Type} {o : List α} (h : o.Nodup) {i j : Nat} {x : α} (hi : o[i]? = some x) (hj : o[j]? = some x) : i = j := by
  obtain ⟨h1, e1⟩ := List.getElem?_eq_some_iff.mp hi
  obtain ⟨h2, e2⟩ := List.getElem?_eq_some_iff.mp hj
  have pw := List.pairwise_iff_getElem.mp h
  rcases Nat.lt_trichotomy i j with l | l | l
  · exact absurd (e1.trans e2.symm) (pw i j h1 h2 l)
  · exact l
  · exact absurd (e2.trans e1.symm) (pw j i h2 h1 l)
/-- what the two lists hold: pairs of the order, each told once -/
structure Fnd (o : List Int) (P0 P1 : Nat → Nat → Prop) (f0 f1 : List Pt) : Prop where
  a0 : ∀ p ∈ f0, ∃ i j : Nat, i < j ∧ P0 i j ∧ o[i]? = some p.1 ∧ o[j]? = some p.2
  n0 : f0.Nodup
  a1 : ∀ p ∈ f1, ∃ (i j : Nat) (a b : Int), i < j ∧ P1 i j ∧ o[i]? = some a ∧ o[j]? = some b ∧ p = (mn a b, mx a b)
  n1 : f1.Nodup
def pairsU (m : Int) : List Pt := (upto m).flatMap fun a => (upto m).map fun b => (a, b)
theorem pairsU_length {m : Int} : (pairsU m).length = m.toNat * m.toNat := by
  unfold pairsU
  have : ∀ l : List Int, (l.flatMap fun a => (upto m).map fun b => (a, b)).length = l.length * m.toNat := fun l => by
    induction l with
    | nil => simp
    | cons x l ih =>
      rw [List.flatMap_cons, List.length_append, ih, List.length_map, upto_length, List.length_cons, Nat.succ_mul]
      omega
  rw [this, upto_length]
theorem mem_pairsU {m : Int} {p : Pt} (h1 : 0 ≤ p.1 ∧ p.1 < m) (h2 : 0 ≤ p.2 ∧ p.2 < m) : p ∈ pairsU m := by
  unfold pairsU
  exact List.mem_flatMap.mpr ⟨p.1, mem_upto.mpr h1, List.mem_map.mpr ⟨p.2, mem_upto.mpr h2, rfl⟩⟩
section
variable {o : List Int} {P0 P1 Q0 Q1 : Nat → Nat → Prop} {f0 f1 : List Pt} {m : Int}
theorem Fnd.mono (F : Fnd o P0 P1 f0 f1) (h0 : ∀ i j, P0 i j → Q0 i j) (h1 : ∀ i j, P1 i j → Q1 i j) : Fnd o Q0 Q1 f0 f1 :=
  ⟨fun p hp => let ⟨i, j, a, b, c⟩ := F.a0 p hp; ⟨i, j, a, h0 _ _ b, c⟩, F.n0, fun p hp => let ⟨i, j, a, b, c, e, f⟩ := F.a1 p hp; ⟨i, j, a, b, c, h1 _ _ e, f⟩, F.n1⟩
theorem Fnd.inP (F : Fnd o P0 P1 f0 f1) (ho : InR m o) : InP m f0 ∧ InP m f1 := by
  have at_ : ∀ {i : Nat} {x : Int}, o[i]? = some x → 0 ≤ x ∧ x < m := fun h => ho _ (List.mem_of_getElem? h)
  refine ⟨fun p hp => ?_, fun p hp => ?_⟩
  · obtain ⟨i, j, _, _, h1, h2⟩ := F.a0 p hp
    exact ⟨at_ h1, at_ h2⟩
  · obtain ⟨i, j, a, b, _, _, h1, h2, rfl⟩ := F.a1 p hp
    exact mn_in (at_ h1) (at_ h2)
theorem Fnd.len (F : Fnd o P0 P1 f0 f1) (ho : InR m o) (hm : m ≤ 12) : f0.length ≤ 144 ∧ f1.length ≤ 144 := by
  obtain ⟨i0, i1⟩ := F.inP ho
  have h0 := nodup_le (m := pairsU m) F.n0 fun p hp => mem_pairsU (i0 p hp).1 (i0 p hp).2
  have h1 := nodup_le (m := pairsU m) F.n1 fun p hp => mem_pairsU (i1 p hp).1 (i1 p hp).2
  rw [pairsU_length] at h0 h1
  have : m.toNat ≤ 12 := by omega
  have := Nat.mul_le_mul this this
  omega
end
section
variable {Pr : Prog} {n : Nat}
end
end VL

/-! plain side, part 14: what repr tells of small data -/
namespace VL
open PySem
open Enc
mutual
/-- made of small numbers -/
def sm : Val → Bool
  | .int i => decide (0 ≤ i) && decide (i < 13)
  | .list xs => smAll xs
  | .tuple xs => smAll xs
  | _ => false
def smAll : List Val → Bool
  | [] => true
  | x :: xs => sm x && smAll xs
end
theorem strOk_of (s : String) : PyData.strOk (Str.ofString s) = true := by
  rw [Str.ofString_eq_toList]
  unfold PyData.strOk
  rw [Array.all_eq_true_iff_forall_mem]
  intro c hc
  have hc' : c ∈ s.toList.map Char.toNat := by simpa using hc
  obtain ⟨ch, _, rfl⟩ := List.mem_map.mp hc'
  have := ch.valid
  rw [decide_eq_true_eq]
  show ch.val.toNat < 0x110000
  rcases this with h | ⟨_, h⟩
  · have : ch.val.toNat < 0xd800 := h
    omega
  · exact h
end VL

/-! plain side, rules by which a core is read off: walk_at "ev" finds what an expression tells -/
namespace VL
open PySem
open Enc

instance encBool : Enc Bool where
  enc := .bool
  dep := 0
  eqv := fun a b => by cases a <;> cases b <;> simp [PyData.eqv]
  lay := fun a => by simp [PyData.canLay0]
  depth := fun a => by simp [PyData.depth]
abbrev encL {α : Type} (i : Enc α) (xs : List α) : Val := @enc (List α) (@instEncList α i) xs
abbrev encP {α β : Type} (i : Enc α) (j : Enc β) (x : α × β) : Val := @enc (α × β) (@instEncProd α β i j) x
abbrev encT {α β γ : Type} (i : Enc α) (j : Enc β) (l : Enc γ) (x : Tr α β γ) : Val := @enc (Tr α β γ) (@instEncTr α β γ i j l) x

/-- a proposition's truth -/
noncomputable def tr (p : Prop) : Bool := @decide p (Classical.propDecidable p)
theorem tr_iff {p : Prop} : tr p = true ↔ p := @decide_eq_true_iff p (Classical.propDecidable p)
theorem tr_dec {p : Prop} [i : Decidable p] : tr p = decide p := by
  unfold tr
  congr
theorem tr_not {p : Prop} : tr p = false ↔ ¬ p := @decide_eq_false_iff_not p (Classical.propDecidable p)
theorem tr_true {p : Prop} (h : p) : tr p = true := tr_iff.mpr h
theorem tr_false {p : Prop} (h : ¬ p) : tr p = false := tr_not.mpr h
theorem not_tr {p : Prop} : (!tr p) = tr (¬ p) := by
  by_cases h : p
  · rw [tr_true h, tr_false (fun z => z h)]; rfl
  · rw [tr_false h, tr_true h]; rfl

section
variable {cf : Nat → List Val → Res Val} {ρ : Env} {a b c e : E} {es : List E} {v w : Val} {vs : List Val} {k i j d f : Nat} {p q : Bool}
theorem ev_var (h : getV ρ i k = .ok v) : evalE cf k (.var i) ρ = .ok v := h
theorem ev_ci {i : Int} : evalE cf k (.cst (.int i)) ρ = .ok (enc i) := rfl
theorem ev_cb {i : Bool} : evalE cf k (.cst (.bool i)) ρ = .ok (.bool i) := rfl
theorem ev_cst : evalE cf k (.cst v) ρ = .ok v := rfl
/-! tests -/
theorem eb_eq {α : Type} {i : Enc α} {x y : α} (h : evalE cf 9 a ρ = .ok (i.enc x)) (h2 : evalE cf 9 b ρ = .ok (i.enc y)) (hd : i.dep ≤ 64) : evalE cf k (.op .eq [a, b]) ρ = .ok (.bool (tr (x = y))) := by
  refine ev2 (o := .eq) h h2 ?_
  have := @den_eq α i (fun a b => Classical.propDecidable _) hd x y
  rw [this]
  rfl
theorem eb_ne {α : Type} {i : Enc α} {x y : α} (h : evalE cf 9 a ρ = .ok (i.enc x)) (h2 : evalE cf 9 b ρ = .ok (i.enc y)) (hd : i.dep ≤ 64) : evalE cf k (.op .ne [a, b]) ρ = .ok (.bool (tr (¬ x = y))) := by
  refine ev2 (o := .ne) h h2 ?_
  have := @den_ne α i (fun a b => Classical.propDecidable _) hd x y
  rw [this, ← not_tr]
  rfl
theorem eb_in {α : Type} {i : Enc α} {x : α} {ys : List α} (h : evalE cf 9 a ρ = .ok (i.enc x)) (h2 : evalE cf 9 b ρ = .ok (encL i ys)) (hd : i.dep + 1 ≤ 64) : evalE cf k (.op .isin [a, b]) ρ = .ok (.bool (tr (x ∈ ys))) := by
  refine ev2 (o := .isin) h h2 ?_
  have := @den_in α i (fun a b => Classical.propDecidable _) hd x ys
  rw [tr_dec (p := x ∈ ys) (i := @List.instDecidableMemOfLawfulBEq α (@instBEqOfDecidableEq α fun a b => Classical.propDecidable _) _ x ys)]
  exact this
theorem eb_notin {α : Type} {i : Enc α} {x : α} {ys : List α} (h : evalE cf 9 a ρ = .ok (i.enc x)) (h2 : evalE cf 9 b ρ = .ok (encL i ys)) (hd : i.dep + 1 ≤ 64) : evalE cf k (.op .notin [a, b]) ρ = .ok (.bool (tr (x ∉ ys))) := by
  refine ev2 (o := .notin) h h2 ?_
  have := @den_notin α i (fun a b => Classical.propDecidable _) hd x ys
  rw [← not_tr, tr_dec (p := x ∈ ys) (i := @List.instDecidableMemOfLawfulBEq α (@instBEqOfDecidableEq α fun a b => Classical.propDecidable _) _ x ys)]
  exact this
theorem eb_lt {x y : Int} (h : evalE cf 9 a ρ = .ok (enc x)) (h2 : evalE cf 9 b ρ = .ok (enc y)) : evalE cf k (.op .lt [a, b]) ρ = .ok (.bool (tr (x < y))) := by
  rw [tr_dec]; exact ev2 (o := .lt) h h2 rfl
theorem eb_le {x y : Int} (h : evalE cf 9 a ρ = .ok (enc x)) (h2 : evalE cf 9 b ρ = .ok (enc y)) : evalE cf k (.op .le [a, b]) ρ = .ok (.bool (tr (x ≤ y))) := by
  rw [tr_dec]; exact ev2 (o := .le) h h2 rfl
theorem eb_gt {x y : Int} (h : evalE cf 9 a ρ = .ok (enc x)) (h2 : evalE cf 9 b ρ = .ok (enc y)) : evalE cf k (.op .gt [a, b]) ρ = .ok (.bool (tr (x > y))) := by
  rw [tr_dec]; exact ev2 (o := .gt) h h2 rfl
theorem eb_ge {x y : Int} (h : evalE cf 9 a ρ = .ok (enc x)) (h2 : evalE cf 9 b ρ = .ok (enc y)) : evalE cf k (.op .ge [a, b]) ρ = .ok (.bool (tr (x ≥ y))) := by
  rw [tr_dec]; exact ev2 (o := .ge) h h2 rfl
theorem eb_not (h : evalE cf 9 a ρ = .ok (.bool p)) : evalE cf k (.op .not [a]) ρ = .ok (.bool (!p)) := ev1 h rfl
theorem eb_and (h : evalE cf 9 a ρ = .ok (.bool p)) (h2 : p = true → evalE cf k b ρ = .ok (.bool q)) : evalE cf k (.and a b) ρ = .ok (.bool (p && q)) := by
  show ((evalE cf 9 a ρ).bind fun x => (asBool x).bind fun t => match t with
    | true => evalE cf k b ρ
    | false => Res.ok (PyData.bool false)) = _
  rw [h]
  cases p with
  | true => exact h2 rfl
  | false => rfl
theorem eb_or (h : evalE cf 9 a ρ = .ok (.bool p)) (h2 : p = false → evalE cf k b ρ = .ok (.bool q)) : evalE cf k (.or a b) ρ = .ok (.bool (p || q)) := by
  show ((evalE cf 9 a ρ).bind fun x => (asBool x).bind fun t => match t with
    | true => Res.ok (PyData.bool true)
    | false => evalE cf k b ρ) = _
  rw [h]
  cases p with
  | true => rfl
  | false => exact h2 rfl
theorem eb_chain_lt {x y z : Int} (h : evalE cf 9 a ρ = .ok (enc x)) (h2 : evalE cf 9 b ρ = .ok (enc y)) (h3 : evalE cf 9 c ρ = .ok (enc z)) : evalE cf k (.chain .le .lt a b c) ρ = .ok (.bool (tr (x ≤ y ∧ y < z))) := by
  have q : tr (x ≤ y ∧ y < z) = (decide (x ≤ y) && decide (y < z)) := by
    rw [tr_dec]
    simp
  rw [q]
  show ((evalE cf 9 a ρ).bind fun x => (evalE cf 9 b ρ).bind fun y => (den .le [x, y]).bind fun r => (asBool r).bind fun t => match t with
    | true => (evalE cf 9 c ρ).bind fun z => den .lt [y, z]
    | false => Res.ok (PyData.bool false)) = _
  rw [h, Res.bind_ok, h2, Res.bind_ok]
  show (match decide (x ≤ y) with
    | true => (evalE cf 9 c ρ).bind fun z => den .lt [enc y, z]
    | false => Res.ok (PyData.bool false)) = _
  cases decide (x ≤ y) with
  | true =>
    show ((evalE cf 9 c ρ).bind fun z => den .lt [enc y, z]) = _
    rw [h3]
    rfl
  | false => rfl
theorem eb_isN (h : evalE cf 9 a ρ = .ok v) : evalE cf k (.op .isNone [a]) ρ = .ok (.bool (isNoneB v)) := ev1 (o := .isNone) h rfl
theorem eb_notN (h : evalE cf 9 a ρ = .ok v) : evalE cf k (.op .notNone [a]) ρ = .ok (.bool (!isNoneB v)) := ev1 (o := .notNone) h rfl
theorem eb_isB {t : Bool} (h : evalE cf 9 a ρ = .ok (.bool p)) : evalE cf k (.op (.isB t) [a]) ρ = .ok (.bool (p == t)) := ev1 (o := .isB t) h rfl
theorem eb_notB {t : Bool} (h : evalE cf 9 a ρ = .ok (.bool p)) : evalE cf k (.op (.notB t) [a]) ρ = .ok (.bool (!(p == t))) := ev1 (o := .notB t) h rfl
theorem eb_enc (h : evalE cf k a ρ = .ok (.bool p)) : evalE cf k a ρ = .ok (encBool.enc p) := h
theorem eb_lend {l : List (Nat × Nat)} (h : evalE cf 9 a (dropL l ρ) = .ok (.bool p)) : evalE cf k (.lend l a) ρ = .ok (.bool p) := by
  show ((evalE cf 9 a (dropL l ρ)).bind fun v => Res.guard (atomV v) (.ok v)) = _
  rw [h]
  rfl
/-! numbers -/
theorem ev_addI {x y : Int} (h : evalE cf 1 a ρ = .ok (enc x)) (h2 : evalE cf 1 b ρ = .ok (enc y)) : evalE cf k (.op .add [a, b]) ρ = .ok (enc (x + y)) := ev2 (o := .add) h h2 rfl
theorem ev_sub {x y : Int} (h : evalE cf 9 a ρ = .ok (enc x)) (h2 : evalE cf 9 b ρ = .ok (enc y)) : evalE cf k (.op .sub [a, b]) ρ = .ok (enc (x - y)) := ev2 (o := .sub) h h2 rfl
theorem ev_mul {x y : Int} (h : evalE cf 9 a ρ = .ok (enc x)) (h2 : evalE cf 9 b ρ = .ok (enc y)) (hx : x.natAbs < 2 ^ 64) (hy : y.natAbs < 2 ^ 64) : evalE cf k (.op .mul [a, b]) ρ = .ok (enc (x * y)) := ev2 (o := .mul) h h2 (den_mul hx hy)
theorem ev_neg {x : Int} (h : evalE cf 9 a ρ = .ok (enc x)) : evalE cf k (.op .neg [a]) ρ = .ok (enc (-x)) := ev1 (o := .neg) h rfl
theorem ev_int {x : Int} (h : evalE cf 9 a ρ = .ok (enc x)) : evalE cf k (.op .int [a]) ρ = .ok (enc x) := ev1 (o := .int) h rfl
theorem ev_intb (h : evalE cf 9 a ρ = .ok (.bool p)) : evalE cf k (.op .int [a]) ρ = .ok (enc (if p then (1 : Int) else 0)) := ev1 (o := .int) h rfl
theorem ev_max {x y : Int} (h : evalE cf 9 a ρ = .ok (enc x)) (h2 : evalE cf 9 b ρ = .ok (enc y)) : evalE cf k (.op .max [a, b]) ρ = .ok (enc (mx x y)) := ev2 (o := .max) h h2 rfl
theorem ev_min {x y : Int} (h : evalE cf 9 a ρ = .ok (enc x)) (h2 : evalE cf 9 b ρ = .ok (enc y)) : evalE cf k (.op .min [a, b]) ρ = .ok (enc (mn x y)) := ev2 (o := .min) h h2 rfl
theorem ev_lenL {α : Type} {i : Enc α} {xs : List α} (h : evalE cf 9 a ρ = .ok (encL i xs)) : evalE cf k (.op .len [a]) ρ = .ok (enc ((xs.length : Nat) : Int)) := by
  have := ev_len (k := k) (l := xs.map i.enc) h
  rw [List.length_map] at this
  exact this
/-! parts of things -/
section
variable {α β γ : Type} {i1 : Enc α} {i2 : Enc β} {i3 : Enc γ}
theorem ev_ta {x : Tr α β γ} (h : evalE cf (k + 1) a ρ = .ok (encT i1 i2 i3 x)) : evalE cf k (.op .idx [a, .cst (.int 0)]) ρ = .ok (i1.enc x.a) := ev2 (o := .idx) h rfl rfl
theorem ev_tb {x : Tr α β γ} (h : evalE cf (k + 1) a ρ = .ok (encT i1 i2 i3 x)) : evalE cf k (.op .idx [a, .cst (.int 1)]) ρ = .ok (i2.enc x.b) := ev2 (o := .idx) h rfl rfl
theorem ev_tc {x : Tr α β γ} (h : evalE cf (k + 1) a ρ = .ok (encT i1 i2 i3 x)) : evalE cf k (.op .idx [a, .cst (.int 2)]) ρ = .ok (i3.enc x.c) := ev2 (o := .idx) h rfl rfl
theorem ev_pa {x : α × β} (h : evalE cf (k + 1) a ρ = .ok (encP i1 i2 x)) : evalE cf k (.op .idx [a, .cst (.int 0)]) ρ = .ok (i1.enc x.1) := ev2 (o := .idx) h rfl rfl
theorem ev_pb {x : α × β} (h : evalE cf (k + 1) a ρ = .ok (encP i1 i2 x)) : evalE cf k (.op .idx [a, .cst (.int 1)]) ρ = .ok (i2.enc x.2) := ev2 (o := .idx) h rfl rfl
theorem ev_ix {xs : List α} {y : Int} {x : α} (h : evalE cf (k + 1) a ρ = .ok (encL i1 xs)) (h2 : evalE cf (k + 1) b ρ = .ok (enc y)) (hx : L2.atI xs y = some x) : evalE cf k (.op .idx [a, b]) ρ = .ok (i1.enc x) := by
  refine ev2 (o := .idx) h h2 ?_
  show ofOpt (L2.atI (xs.map i1.enc) y) = _
  unfold L2.atI at hx ⊢
  rw [List.length_map]
  cases e : L2.ixN xs.length y with
  | none =>
    rw [e] at hx
    cases hx
  | some j =>
    rw [e] at hx
    have hx' : xs[j]? = some x := hx
    show ofOpt ((xs.map i1.enc)[j]?) = _
    rw [List.getElem?_map, hx']
    rfl
theorem ev_pair {x : α} {y : β} (h : evalE cf 0 a ρ = .ok (i1.enc x)) (h2 : evalE cf 0 b ρ = .ok (i2.enc y)) : evalE cf k (.op (.tup [false, false]) [a, b]) ρ = .ok (encP i1 i2 (x, y)) :=
  ev_op (o := .tup [false, false]) (vs := [i1.enc x, i2.enc y]) (evs_cons h (evs_cons h2 evs_nil)) rfl
theorem ev_trip {x : α} {y : β} {z : γ} (h : evalE cf 0 a ρ = .ok (i1.enc x)) (h2 : evalE cf 0 b ρ = .ok (i2.enc y)) (h3 : evalE cf 0 c ρ = .ok (i3.enc z)) : evalE cf k (.op (.tup [false, false, false]) [a, b, c]) ρ = .ok (encT i1 i2 i3 ⟨x, y, z⟩) :=
  ev_op (o := .tup [false, false, false]) (vs := [i1.enc x, i2.enc y, i3.enc z]) (evs_cons h (evs_cons h2 (evs_cons h3 evs_nil))) rfl
theorem ev_l0 : evalE cf k (.op (.lst d []) []) ρ = .ok (encL i1 []) := rfl
theorem ev_l1 {x : α} (h : evalE cf 0 a ρ = .ok (i1.enc x)) : evalE cf k (.op (.lst d [false]) [a]) ρ = .ok (encL i1 [x]) := ev_op (o := .lst d [false]) (vs := [i1.enc x]) (evs_cons h evs_nil) rfl
theorem ev_l2 {x y : α} (h : evalE cf 0 a ρ = .ok (i1.enc x)) (h2 : evalE cf 0 b ρ = .ok (i1.enc y)) : evalE cf k (.op (.lst d [false, false]) [a, b]) ρ = .ok (encL i1 [x, y]) := ev_op (o := .lst d [false, false]) (vs := [i1.enc x, i1.enc y]) (evs_cons h (evs_cons h2 evs_nil)) rfl
theorem ev_addL {xs ys : List α} (h : evalE cf 1 a ρ = .ok (encL i1 xs)) (h2 : evalE cf 1 b ρ = .ok (encL i1 ys)) (hz : xs.length + ys.length ≤ 16777216) : evalE cf k (.op .add [a, b]) ρ = .ok (encL i1 (xs ++ ys)) := by
  refine ev2 (o := .add) h h2 ?_
  have := den_addL (xs := xs.map i1.enc) (ys := ys.map i1.enc) (by simpa using hz)
  rw [← List.map_append] at this
  exact this
theorem ev_listof {xs : List α} (h : evalE cf 1 a ρ = .ok (encL i1 xs)) : evalE cf k (.op .list [a]) ρ = .ok (encL i1 xs) := ev1 (o := .list) h rfl
theorem ev_rev {xs : List α} (h : evalE cf 1 a ρ = .ok (encL i1 xs)) : evalE cf k (.op .rev [a]) ρ = .ok (encL i1 xs.reverse) := by
  refine ev1 (o := .rev) h ?_
  show Res.ok (PyData.list (xs.map i1.enc).reverse) = Res.ok (PyData.list (xs.reverse.map i1.enc))
  rw [List.map_reverse]
theorem ev_sorted {xs : List α} (h : evalE cf 1 a ρ = .ok (encL i1 xs)) (s : Srt α) : evalE cf k (.op .sorted [a]) ρ = .ok (encL i1 (srt xs)) := ev1 (o := .sorted) h (den_sorted xs)
theorem ev_ite {x y : α} (h : evalE cf 9 c ρ = .ok (.bool p)) (h1 : p = true → evalE cf k a ρ = .ok (i1.enc x)) (h2 : p = false → evalE cf k b ρ = .ok (i1.enc y)) : evalE cf k (.ite c a b) ρ = .ok (i1.enc (if p then x else y)) := by
  show ((evalE cf 9 c ρ).bind fun x => (asBool x).bind fun t => match t with
    | true => evalE cf k a ρ
    | false => evalE cf k b ρ) = _
  rw [h]
  cases p with
  | true => exact h1 rfl
  | false => exact h2 rfl
end
/-! ranges -/
theorem rng_eq (lo m : Int) : rng lo m = (fromto lo m).map .int := by
  unfold rng fromto
  rw [List.map_map]
  rfl
theorem den_rng {m : Int} (h0 : -1000000 ≤ m) (hm : m ≤ 1000000) : den .range [.int m] = .ok (.list ((upto m).map .int)) := by
  show Res.guard (small m && sizeOk m.toNat) (Res.ok (PyData.list (rng 0 m))) = _
  have h1 : small m = true := by
    unfold small
    rw [Bool.and_eq_true, decide_eq_true_eq, decide_eq_true_eq]
    constructor <;> omega
  rw [h1, sizeOk_le (by omega), rng_eq]
  have : fromto 0 m = upto m := by
    unfold fromto upto
    simp
  rw [this]
  rfl
theorem den_rng2 {lo m : Int} (h0 : -1000000 ≤ lo) (h1 : lo ≤ 1000000) (h2 : -1000000 ≤ m) (h3 : m ≤ 1000000) : den .range [.int lo, .int m] = .ok (.list ((fromto lo m).map .int)) := by
  show Res.guard (small lo && (small m && sizeOk (m - lo).toNat)) (Res.ok (PyData.list (rng lo m))) = _
  have e1 : small lo = true := by
    unfold small
    rw [Bool.and_eq_true, decide_eq_true_eq, decide_eq_true_eq]
    constructor <;> omega
  have e2 : small m = true := by
    unfold small
    rw [Bool.and_eq_true, decide_eq_true_eq, decide_eq_true_eq]
    constructor <;> omega
  rw [e1, e2, sizeOk_le (by omega), rng_eq]
  rfl
theorem ev_rng {m : Int} (h : evalE cf 9 a ρ = .ok (enc m)) (h0 : -1000000 ≤ m) (hm : m ≤ 1000000) : evalE cf k (.op .range [a]) ρ = .ok (encL instEncInt (upto m)) := ev1 (o := .range) h (den_rng h0 hm)
theorem ev_rng2 {lo m : Int} (h : evalE cf 9 a ρ = .ok (enc lo)) (h' : evalE cf 9 b ρ = .ok (enc m)) (h0 : -1000000 ≤ lo) (h1 : lo ≤ 1000000) (h2 : -1000000 ≤ m) (h3 : m ≤ 1000000) : evalE cf k (.op .range [a, b]) ρ = .ok (encL instEncInt (fromto lo m)) := ev2 (o := .range) h h' (den_rng2 h0 h1 h2 h3)
/-! slices -/
theorem cut_dropN (xs : List Val) (p : Nat) : cut xs (some (p : Int)) none = xs.drop p := by
  unfold cut
  rw [HT.sIx_nat, HT.sIx_none]
  by_cases h : p ≤ xs.length
  · rw [Nat.min_eq_left h]
    exact List.take_of_length_le (by rw [List.length_drop]; omega)
  · rw [Nat.min_eq_right (by omega), List.drop_of_length_le (Nat.le_refl _), List.drop_of_length_le (by omega), List.take_nil]
theorem cut_takeN (xs : List Val) (p : Nat) : cut xs none (some (p : Int)) = xs.take p := by
  unfold cut
  rw [HT.sIx_nat, HT.sIx_none, List.drop_zero, Nat.sub_zero]
  by_cases h : p ≤ xs.length
  · rw [Nat.min_eq_left h]
  · rw [Nat.min_eq_right (by omega), List.take_of_length_le (Nat.le_refl _), List.take_of_length_le (by omega)]
theorem ev_drop {α : Type} {i : Enc α} {xs : List α} {y : Int} (h : evalE cf 1 a ρ = .ok (encL i xs)) (h2 : evalE cf 1 b ρ = .ok (enc y)) (h0 : 0 ≤ y) : evalE cf k (.op (.slice true false) [a, b]) ρ = .ok (encL i (xs.drop y.toNat)) := by
  refine ev2 (o := .slice true false) h h2 ?_
  show Res.ok (PyData.list (cut (xs.map i.enc) (some y) none)) = Res.ok (PyData.list ((xs.drop y.toNat).map i.enc))
  rw [show y = ((y.toNat : Nat) : Int) by omega, cut_dropN, Int.toNat_natCast, List.map_drop]
theorem ev_take {α : Type} {i : Enc α} {xs : List α} {y : Int} (h : evalE cf 1 a ρ = .ok (encL i xs)) (h2 : evalE cf 1 b ρ = .ok (enc y)) (h0 : 0 ≤ y) : evalE cf k (.op (.slice false true) [a, b]) ρ = .ok (encL i (xs.take y.toNat)) := by
  refine ev2 (o := .slice false true) h h2 ?_
  show Res.ok (PyData.list (cut (xs.map i.enc) none (some y))) = Res.ok (PyData.list ((xs.take y.toNat).map i.enc))
  rw [show y = ((y.toNat : Nat) : Int) by omega, cut_takeN, Int.toNat_natCast, List.map_take]
/-! calls -/
theorem ev_call' {es : List E} (h : evalEs cf 0 es ρ = .ok vs) (hc : cf f vs = .ok v) : evalE cf k (.call f es) ρ = .ok v := ev_call h hc
/-! comprehensions: over x, over pairs; without a test, with one; what stays, what is told of it -/
section
variable {α β γ : Type} {i1 : Enc α} {i2 : Enc β} {i3 : Enc γ} {it elt : E} {l : List α} {l2 : List (α × β)} {P : α → Bool} {P2 : α × β → Bool} {h : α → γ} {h2 : α × β → γ} {z z2 : Nat} {ws : List Nat}
theorem ec_filter (hi : evalE cf 1 it ρ = .ok (encL i1 l)) (hz : Nat.blt z (killL ws ρ).length = true) (hc : ∀ x ∈ l, evalE cf 9 c ((killL ws ρ).set z (some (i1.enc x, 0))) = .ok (.bool (P x))) (hl : l.length ≤ 16777216) : evalE cf k (.comp ws d (.var z) (.slot z) it (some c)) ρ = .ok (encL i1 (l.filter P)) := by
  have := comp_eq (cf := cf) (k := k) (d := d) (w := ws) (elt := .var z) (t := .slot z) (it := it) (ifs := some c) (ρ := ρ) (l := l) i1.enc i1.enc P (fun x => x) (fun x => (killL ws ρ).set z (some (i1.enc x, 0))) (seq_of hi) (fun x _ => by
    show Res.guard (Nat.blt z (killL ws ρ).length) _ = _
    rw [hz]
    rfl) (fun x m => evalO_of (hc x m)) (fun x _ _ => by
    show getV ((killL ws ρ).set z (some (i1.enc x, 0))) z 0 = _
    unfold getV
    rw [List.getElem?_set_self (by simpa [Nat.blt_eq] using hz)]
    rfl) hl
  rw [List.map_id'] at this
  exact this
theorem ec_map (hi : evalE cf 1 it ρ = .ok (encL i1 l)) (hz : Nat.blt z (killL ws ρ).length = true) (he : ∀ x ∈ l, evalE cf 0 elt ((killL ws ρ).set z (some (i1.enc x, 0))) = .ok (i3.enc (h x))) (hl : l.length ≤ 16777216) : evalE cf k (.comp ws d elt (.slot z) it none) ρ = .ok (encL i3 (l.map h)) := by
  have := comp_eq (cf := cf) (k := k) (d := d) (w := ws) (elt := elt) (t := .slot z) (it := it) (ifs := none) (ρ := ρ) (l := l) i1.enc i3.enc (fun _ => true) h (fun x => (killL ws ρ).set z (some (i1.enc x, 0))) (seq_of hi) (fun x _ => by
    show Res.guard (Nat.blt z (killL ws ρ).length) _ = _
    rw [hz]
    rfl) (fun x m => rfl) (fun x m _ => he x m) hl
  rw [List.filter_eq_self.mpr fun _ _ => rfl] at this
  exact this
theorem ec_both (hi : evalE cf 1 it ρ = .ok (encL i1 l)) (hz : Nat.blt z (killL ws ρ).length = true) (hc : ∀ x ∈ l, evalE cf 9 c ((killL ws ρ).set z (some (i1.enc x, 0))) = .ok (.bool (P x))) (he : ∀ x ∈ l, P x = true → evalE cf 0 elt ((killL ws ρ).set z (some (i1.enc x, 0))) = .ok (i3.enc (h x))) (hl : l.length ≤ 16777216) : evalE cf k (.comp ws d elt (.slot z) it (some c)) ρ = .ok (encL i3 ((l.filter P).map h)) :=
  comp_eq (cf := cf) (k := k) (d := d) (w := ws) (elt := elt) (t := .slot z) (it := it) (ifs := some c) (ρ := ρ) (l := l) i1.enc i3.enc P h (fun x => (killL ws ρ).set z (some (i1.enc x, 0))) (seq_of hi) (fun x _ => by
    show Res.guard (Nat.blt z (killL ws ρ).length) _ = _
    rw [hz]
    rfl) (fun x m => evalO_of (hc x m)) he hl
theorem bind2 {r : Env} {u v : Val} (hz : Nat.blt z r.length = true) (hz2 : Nat.blt z2 r.length = true) : bindP (.tup [.slot z, .slot z2]) (.tuple [u, v]) r = .ok ((r.set z (some (u, 0))).set z2 (some (v, 0))) := by
  show (Res.guard (Nat.blt z r.length) (Res.ok (r.set z (some (u, 0))))).bind (fun ρ' => (Res.guard (Nat.blt z2 ρ'.length) (Res.ok (ρ'.set z2 (some (v, 0))))).bind fun ρ' => Res.ok ρ') = _
  rw [hz]
  show (Res.guard (Nat.blt z2 (r.set z (some (u, 0))).length) (Res.ok ((r.set z (some (u, 0))).set z2 (some (v, 0))))).bind (fun ρ' => Res.ok ρ') = _
  rw [List.length_set, hz2]
  rfl
theorem ec_map2 (hi : evalE cf 1 it ρ = .ok (encL (instEncProd (α := α) (β := β)) l2)) (hz : Nat.blt z (killL ws ρ).length = true) (hz2 : Nat.blt z2 (killL ws ρ).length = true) (he : ∀ x ∈ l2, evalE cf 0 elt (((killL ws ρ).set z (some (i1.enc x.1, 0))).set z2 (some (i2.enc x.2, 0))) = .ok (i3.enc (h2 x))) (hl : l2.length ≤ 16777216) : evalE cf k (.comp ws d elt (.tup [.slot z, .slot z2]) it none) ρ = .ok (encL i3 (l2.map h2)) := by
  have := comp_eq (cf := cf) (k := k) (d := d) (w := ws) (elt := elt) (t := .tup [.slot z, .slot z2]) (it := it) (ifs := none) (ρ := ρ) (l := l2) (encP i1 i2) i3.enc (fun _ => true) h2 (fun x => ((killL ws ρ).set z (some (i1.enc x.1, 0))).set z2 (some (i2.enc x.2, 0))) (seq_of hi) (fun x _ => bind2 hz hz2) (fun x m => rfl) (fun x m _ => he x m) hl
  rw [List.filter_eq_self.mpr fun _ _ => rfl] at this
  exact this
theorem ec_both2 (hi : evalE cf 1 it ρ = .ok (encL (instEncProd (α := α) (β := β)) l2)) (hz : Nat.blt z (killL ws ρ).length = true) (hz2 : Nat.blt z2 (killL ws ρ).length = true) (hc : ∀ x ∈ l2, evalE cf 9 c (((killL ws ρ).set z (some (i1.enc x.1, 0))).set z2 (some (i2.enc x.2, 0))) = .ok (.bool (P2 x)))
    (he : ∀ x ∈ l2, P2 x = true → evalE cf 0 elt (((killL ws ρ).set z (some (i1.enc x.1, 0))).set z2 (some (i2.enc x.2, 0))) = .ok (i3.enc (h2 x))) (hl : l2.length ≤ 16777216) : evalE cf k (.comp ws d elt (.tup [.slot z, .slot z2]) it (some c)) ρ = .ok (encL i3 ((l2.filter P2).map h2)) :=
  comp_eq (cf := cf) (k := k) (d := d) (w := ws) (elt := elt) (t := .tup [.slot z, .slot z2]) (it := it) (ifs := some c) (ρ := ρ) (l := l2) (encP i1 i2) i3.enc P2 h2 (fun x => ((killL ws ρ).set z (some (i1.enc x.1, 0))).set z2 (some (i2.enc x.2, 0))) (seq_of hi) (fun x _ => bind2 hz hz2) (fun x m => evalO_of (hc x m)) he hl
/-- all([test for x in xs]) -/
theorem boolsOf_enc : ∀ bs : List Bool, boolsOf (bs.map encBool.enc) = some bs := boolsOf_bools
theorem eb_all {bs : List Bool} (hi : evalE cf 9 a ρ = .ok (encL encBool bs)) : evalE cf k (.op .all [a]) ρ = .ok (.bool (bs.all id)) := ev1 (o := .all) hi (den_all bs)
theorem eb_any {bs : List Bool} (hi : evalE cf 9 a ρ = .ok (encL encBool bs)) : evalE cf k (.op .any [a]) ρ = .ok (.bool (bs.any id)) := by
  refine ev1 (o := .any) hi ?_
  show (match boolsOf (bs.map encBool.enc) with
    | some bs => Res.ok (PyData.bool (bs.any id))
    | none => .bad) = _
  rw [boolsOf_enc]
end
end

/-! how long a list may be -/
theorem len_filter {α : Type} {P : α → Bool} {l : List α} {n : Nat} (h : l.length ≤ n) : (l.filter P).length ≤ n := Nat.le_trans (List.length_filter_le _ _) h
theorem len_map {α β : Type} {f : α → β} {l : List α} {n : Nat} (h : l.length ≤ n) : (l.map f).length ≤ n := by rw [List.length_map]; exact h
theorem len_srt {α : Type} [Enc α] {l : List α} {n : Nat} (h : l.length ≤ n) : (srt l).length ≤ n := by rw [srt_length]; exact h
theorem len_upto {m : Int} {n : Nat} (h : m ≤ n) : (upto m).length ≤ n := by rw [upto_length]; omega
theorem len_fromto {lo m : Int} {n : Nat} (h : m - lo ≤ n) : (fromto lo m).length ≤ n := by unfold fromto; rw [List.length_map, List.length_range]; omega
theorem len_app {α : Type} {l m : List α} {n : Nat} (h : l.length ≤ n / 2) (h2 : m.length ≤ n / 2) : (l ++ m).length ≤ n := by rw [List.length_append]; omega
theorem len_sum {a b n : Nat} (h : a ≤ n / 2) (h2 : b ≤ n / 2) : a + b ≤ n := by omega
theorem len_drop {α : Type} {l : List α} {k n : Nat} (h : l.length ≤ n) : (l.drop k).length ≤ n := by rw [List.length_drop]; omega
theorem len_take {α : Type} {l : List α} {k n : Nat} (h : l.length ≤ n) : (l.take k).length ≤ n := by rw [List.length_take]; omega
theorem len_rev {α : Type} {l : List α} {n : Nat} (h : l.length ≤ n) : l.reverse.length ≤ n := by rw [List.length_reverse]; exact h
theorem len_nil {α : Type} {n : Nat} : ([] : List α).length ≤ n := Nat.zero_le _
theorem len_cons {α : Type} {x : α} {l : List α} {n : Nat} (h : l.length ≤ n - 1) (h0 : 0 < n) : (x :: l).length ≤ n := by rw [List.length_cons]; omega

end VL

/-! plain side: sets as ascending lists; statements -/
namespace VL
open PySem
open Enc
local macro_rules | `(tactic| walk_at "sz") => `(tactic| (first
  | assumption
  | omega
  | exact len_nil
  | ((with_reducible apply len_filter); walk_at "sz")
  | ((with_reducible apply len_map); walk_at "sz")
  | ((with_reducible apply len_srt); walk_at "sz")
  | ((with_reducible apply len_asc); omega)
  | ((with_reducible apply len_upto); omega)
  | ((with_reducible apply len_fromto); omega)
  | ((with_reducible apply len_app); (walk_at "sz"); (walk_at "sz"))
  | ((with_reducible apply len_sum); (walk_at "sz"); (walk_at "sz"))
  | ((with_reducible apply len_drop); walk_at "sz")
  | ((with_reducible apply len_take); walk_at "sz")
  | ((with_reducible apply len_rev); walk_at "sz")
  | ((with_reducible apply len_cons); (walk_at "sz"); (omega))))
local macro_rules | `(tactic| walk_at "call") => `(tactic| (first | assumption | solve_by_elim))
local macro_rules | `(tactic| walk_at "args") => `(tactic| (first
  | exact evs_nil
  | ((with_reducible apply evs_cons); (walk_at "ev"); (walk_at "args"))))
local macro_rules | `(tactic| walk_at "ev") => `(tactic| (first
  | ((with_reducible apply ev_var); rfl)
  | (with_reducible exact ev_ci)
  | (with_reducible exact ev_cb)
  | (with_reducible exact ev_cst)
  | ((with_reducible apply ev_call'); (walk_at "args"); (walk_at "call"))
  | ((with_reducible apply eb_and); (walk_at "ev"); (intro _; walk_at "ev"))
  | ((with_reducible apply eb_or); (walk_at "ev"); (intro _; walk_at "ev"))
  | ((with_reducible apply eb_not); (walk_at "ev"))
  | ((with_reducible apply eb_in); (walk_at "ev"); (walk_at "ev"); decide)
  | ((with_reducible apply eb_notin); (walk_at "ev"); (walk_at "ev"); decide)
  | ((with_reducible apply eb_eq); (walk_at "ev"); (walk_at "ev"); decide)
  | ((with_reducible apply eb_ne); (walk_at "ev"); (walk_at "ev"); decide)
  | ((with_reducible apply eb_lt); (walk_at "ev"); (walk_at "ev"))
  | ((with_reducible apply eb_le); (walk_at "ev"); (walk_at "ev"))
  | ((with_reducible apply eb_gt); (walk_at "ev"); (walk_at "ev"))
  | ((with_reducible apply eb_ge); (walk_at "ev"); (walk_at "ev"))
  | ((with_reducible apply eb_chain_lt); (walk_at "ev"); (walk_at "ev"); (walk_at "ev"))
  | ((with_reducible apply eb_isN); (walk_at "ev"))
  | ((with_reducible apply eb_notN); (walk_at "ev"))
  | ((with_reducible apply eb_isB); (walk_at "ev"))
  | ((with_reducible apply eb_notB); (walk_at "ev"))
  | ((with_reducible apply eb_lend); (walk_at "ev"))
  | ((with_reducible apply eb_all); (walk_at "ev"))
  | ((with_reducible apply eb_any); (walk_at "ev"))
  | ((with_reducible apply ev_lenL); (walk_at "ev"))
  | ((with_reducible apply ev_neg); (walk_at "ev"))
  | ((with_reducible apply ev_sub); (walk_at "ev"); (walk_at "ev"))
  | ((with_reducible apply ev_addI); (walk_at "ev"); (walk_at "ev"))
  | ((with_reducible apply ev_addL); (walk_at "ev"); (walk_at "ev"); (walk_at "sz"))
  | ((with_reducible apply ev_mul); (walk_at "ev"); (walk_at "ev"); omega; omega)
  | ((with_reducible apply ev_int); (walk_at "ev"))
  | ((with_reducible apply ev_intb); (walk_at "ev"))
  | ((with_reducible apply ev_max); (walk_at "ev"); (walk_at "ev"))
  | ((with_reducible apply ev_min); (walk_at "ev"); (walk_at "ev"))
  | ((with_reducible apply ev_ta); (walk_at "ev"))
  | ((with_reducible apply ev_tb); (walk_at "ev"))
  | ((with_reducible apply ev_tc); (walk_at "ev"))
  | ((with_reducible apply ev_pa); (walk_at "ev"))
  | ((with_reducible apply ev_pb); (walk_at "ev"))
  | ((with_reducible apply ev_ix); (walk_at "ev"); (walk_at "ev"); (assumption))
  | ((with_reducible apply ev_pair); (walk_at "ev"); (walk_at "ev"))
  | ((with_reducible apply ev_trip); (walk_at "ev"); (walk_at "ev"); (walk_at "ev"))
  | ((with_reducible apply ev_l1); (walk_at "ev"))
  | ((with_reducible apply ev_l2); (walk_at "ev"); (walk_at "ev"))
  | ((with_reducible apply ev_rng); (walk_at "ev"); omega; omega)
  | ((with_reducible apply ev_rng2); (walk_at "ev"); (walk_at "ev"); omega; omega; omega; omega)
  | ((with_reducible apply ev_listof); (walk_at "ev"))
  | ((with_reducible apply ev_rev); (walk_at "ev"))
  | ((with_reducible apply ev_drop); (walk_at "ev"); (walk_at "ev"); omega)
  | ((with_reducible apply ev_take); (walk_at "ev"); (walk_at "ev"); omega)
  | ((with_reducible apply ev_sorted); (walk_at "ev"); (first | infer_instance | assumption))
  | ((with_reducible apply ec_filter); (walk_at "ev"); rfl; (intro _ _; walk_at "ev"); (walk_at "sz"))
  | ((with_reducible apply ec_map2); (walk_at "ev"); rfl; rfl; (intro _ _; walk_at "ev"); (walk_at "sz"))
  | ((with_reducible apply ec_both2); (walk_at "ev"); rfl; rfl; (intro _ _; walk_at "ev"); (intro _ _ _; walk_at "ev"); (walk_at "sz"))
  | ((with_reducible apply ec_map); (walk_at "ev"); rfl; (intro _ _; walk_at "ev"); (walk_at "sz"))
  | ((with_reducible apply ec_both); (walk_at "ev"); rfl; (intro _ _; walk_at "ev"); (intro _ _ _; walk_at "ev"); (walk_at "sz"))
  | (with_reducible exact ev_l0)
  | ((with_reducible apply ev_ite); (walk_at "ev"); (intro _; walk_at "ev"); (intro _; walk_at "ev"))))

/-- the ascending list of all below m with P -/
noncomputable def asc (m : Int) (P : Int → Prop) : List Int := (upto m).filter fun x => tr (P x)
theorem upto_sorted (m : Int) : (upto m).Pairwise (· < ·) := by
  unfold upto
  refine List.Pairwise.map (R := fun a b => a < b) _ (fun a b h => ?_) List.pairwise_lt_range
  omega
section
variable {m : Int} {P Q : Int → Prop} {x : Int} {l : List Int}
theorem mem_asc : x ∈ asc m P ↔ (0 ≤ x ∧ x < m) ∧ P x := by
  unfold asc
  rw [List.mem_filter, mem_upto, tr_iff]
theorem asc_sorted : (asc m P).Pairwise (· < ·) := (upto_sorted m).filter _
theorem asc_inR : InR m (asc m P) := fun x h => (mem_asc.mp h).1
theorem asc_len : (asc m P).length ≤ m.toNat := below_len (nodup_of_sorted asc_sorted) asc_inR
theorem len_asc {n : Nat} (h : m ≤ n) : (asc m P).length ≤ n := Nat.le_trans asc_len (by omega)
theorem asc_ext {l l' : List Int} (h : l.Pairwise (· < ·)) (h' : l'.Pairwise (· < ·)) (e : ∀ x, x ∈ l ↔ x ∈ l') : l = l' := by
  induction l generalizing l' with
  | nil =>
    cases l' with
    | nil => rfl
    | cons y l' => exact absurd ((e y).mpr List.mem_cons_self) (by simp)
  | cons a l ih =>
    cases l' with
    | nil => exact absurd ((e a).mp List.mem_cons_self) (by simp)
    | cons b l' =>
      obtain ⟨h1, h2⟩ := List.pairwise_cons.mp h
      obtain ⟨h3, h4⟩ := List.pairwise_cons.mp h'
      have hab : a = b := by
        rcases List.mem_cons.mp ((e a).mp List.mem_cons_self) with q | q
        · exact q
        · rcases List.mem_cons.mp ((e b).mpr List.mem_cons_self) with r | r
          · exact r.symm
          · have := h3 a q
            have := h1 b r
            omega
      subst hab
      refine congrArg _ (ih h2 h4 fun x => ?_)
      constructor
      · intro hx
        rcases List.mem_cons.mp ((e x).mp (List.mem_cons_of_mem _ hx)) with q | q
        · have := h1 x hx
          omega
        · exact q
      · intro hx
        rcases List.mem_cons.mp ((e x).mpr (List.mem_cons_of_mem _ hx)) with q | q
        · have := h3 x hx
          omega
        · exact q
theorem asc_eq (h : l.Pairwise (· < ·)) (hm : ∀ x, x ∈ l ↔ (0 ≤ x ∧ x < m) ∧ P x) : l = asc m P := asc_ext h asc_sorted fun x => (hm x).trans mem_asc.symm
theorem asc_congr (h : ∀ x, 0 ≤ x → x < m → (P x ↔ Q x)) : asc m P = asc m Q := asc_ext asc_sorted asc_sorted fun x => by
  rw [mem_asc, mem_asc]
  constructor
  · exact fun q => ⟨q.1, (h x q.1.1 q.1.2).mp q.2⟩
  · exact fun q => ⟨q.1, (h x q.1.1 q.1.2).mpr q.2⟩
end

/-! ### statements -/
section
variable {cf : Nat → List Val → Res Val} {ρ ρ' : Env} {ss a b : List S} {r : Res Out} {c : E} {v w : Val} {i d : Nat} {p : Bool}
theorem st_set (e : evalE cf 0 c ρ = .ok v) (hl : Nat.blt i ρ.length = true) (hρ : ρ.set i (some (v, d)) = ρ') (h2 : evalSs cf ss ρ' = r) : evalSs cf (.set i c d :: ss) ρ = r := by
  subst hρ
  exact ss_set e h2 hl
theorem st_frz {l : List (Nat × Nat)} (hρ : dropL l ρ = ρ') (h2 : evalSs cf ss ρ' = r) : evalSs cf (.frz l :: ss) ρ = r := by
  subst hρ
  exact ss_cons (ρ' := dropL l ρ) rfl h2
theorem st_asg {q : Pat} (e : evalE cf 0 c ρ = .ok v) (hb : bindP q v ρ = .ok ρ') (h2 : evalSs cf ss ρ' = r) : evalSs cf (.asg q c :: ss) ρ = r := ss_asg e hb h2
theorem st_ifn (e : evalE cf 9 c ρ = .ok (.bool p)) (h1 : p = true → evalSs cf a ρ = .ok (.nx ρ')) (h2 : p = false → evalSs cf b ρ = .ok (.nx ρ')) (h3 : evalSs cf ss ρ' = r) : evalSs cf (.iff c a b :: ss) ρ = r := by
  cases p with
  | true =>
    refine ss_ifT e ?_
    rw [h1 rfl]
    exact h3
  | false =>
    refine ss_ifF e ?_
    rw [h2 rfl]
    exact h3
theorem st_app {α : Type} {i1 : Enc α} {xs : List α} {x : α} {t : Nat} (he : evalE cf 0 c ρ = .ok (i1.enc x)) (ho : getOwn ρ i (d + 1) = .ok (xs.map i1.enc, t)) (hz : xs.length + 1 ≤ 16777216) (hρ : ρ.set i (some (encL i1 (xs ++ [x]), d + 1)) = ρ') (h2 : evalSs cf ss ρ' = r) : evalSs cf (.app i c d :: ss) ρ = r := by
  subst hρ
  refine ss_app he ho (by rw [List.length_map]; exact hz) ?_
  rw [← h2]
  congr 4
  show PyData.list (xs.map i1.enc ++ [i1.enc x]) = PyData.list ((xs ++ [x]).map i1.enc)
  rw [List.map_append]
  rfl
theorem st_fold {α σ J : Type} {t : Pat} {it : E} {body : List S} {l : List α} (i1 : Enc α) (hi : evalE cf 0 it ρ = .ok (encL i1 l)) (E : σ → J → Env) (f : σ → α → σ) (s0 : σ) (j0 : J) (hρ : ρ = E s0 j0)
    (hb : ∀ pre x post j, l = pre ++ x :: post → ∃ j' ρ', bindP t (i1.enc x) (E (pre.foldl f s0) j) = .ok ρ' ∧ evalSs cf body ρ' = .ok (.nx (E (f (pre.foldl f s0) x) j'))) (h2 : ∀ j, evalSs cf ss (E (l.foldl f s0) j) = r) : evalSs cf (.for t it body :: ss) ρ = r :=
  ss_for i1.enc (seq_of hi) E (fun pre s => s = pre.foldl f s0) s0 j0 hρ rfl (fun pre x post s j hl hs => by
    subst hs
    obtain ⟨j', ρ', h1, h3⟩ := hb pre x post j hl
    exact ⟨_, j', ρ', h1, h3, by rw [List.foldl_append]; rfl⟩) fun s j hs => by
    subst hs
    exact h2 j
end
end VL

/-! plain side: parts, ancestors, districts, as functions -/
namespace VL
open PySem
open Enc
local macro_rules | `(tactic| walk_at "sz") => `(tactic| (first
  | assumption
  | omega
  | exact len_nil
  | ((with_reducible apply len_filter); walk_at "sz")
  | ((with_reducible apply len_map); walk_at "sz")
  | ((with_reducible apply len_srt); walk_at "sz")
  | ((with_reducible apply len_asc); omega)
  | ((with_reducible apply len_upto); omega)
  | ((with_reducible apply len_fromto); omega)
  | ((with_reducible apply len_app); (walk_at "sz"); (walk_at "sz"))
  | ((with_reducible apply len_sum); (walk_at "sz"); (walk_at "sz"))
  | ((with_reducible apply len_drop); walk_at "sz")
  | ((with_reducible apply len_take); walk_at "sz")
  | ((with_reducible apply len_rev); walk_at "sz")
  | ((with_reducible apply len_cons); (walk_at "sz"); (omega))))
local macro_rules | `(tactic| walk_at "call") => `(tactic| (first | assumption | solve_by_elim))
local macro_rules | `(tactic| walk_at "args") => `(tactic| (first
  | exact evs_nil
  | ((with_reducible apply evs_cons); (walk_at "ev"); (walk_at "args"))))
local macro_rules | `(tactic| walk_at "ev") => `(tactic| (first
  | ((with_reducible apply ev_var); rfl)
  | (with_reducible exact ev_ci)
  | (with_reducible exact ev_cb)
  | (with_reducible exact ev_cst)
  | ((with_reducible apply ev_call'); (walk_at "args"); (walk_at "call"))
  | ((with_reducible apply eb_and); (walk_at "ev"); (intro _; walk_at "ev"))
  | ((with_reducible apply eb_or); (walk_at "ev"); (intro _; walk_at "ev"))
  | ((with_reducible apply eb_not); (walk_at "ev"))
  | ((with_reducible apply eb_in); (walk_at "ev"); (walk_at "ev"); decide)
  | ((with_reducible apply eb_notin); (walk_at "ev"); (walk_at "ev"); decide)
  | ((with_reducible apply eb_eq); (walk_at "ev"); (walk_at "ev"); decide)
  | ((with_reducible apply eb_ne); (walk_at "ev"); (walk_at "ev"); decide)
  | ((with_reducible apply eb_lt); (walk_at "ev"); (walk_at "ev"))
  | ((with_reducible apply eb_le); (walk_at "ev"); (walk_at "ev"))
  | ((with_reducible apply eb_gt); (walk_at "ev"); (walk_at "ev"))
  | ((with_reducible apply eb_ge); (walk_at "ev"); (walk_at "ev"))
  | ((with_reducible apply eb_chain_lt); (walk_at "ev"); (walk_at "ev"); (walk_at "ev"))
  | ((with_reducible apply eb_isN); (walk_at "ev"))
  | ((with_reducible apply eb_notN); (walk_at "ev"))
  | ((with_reducible apply eb_isB); (walk_at "ev"))
  | ((with_reducible apply eb_notB); (walk_at "ev"))
  | ((with_reducible apply eb_lend); (walk_at "ev"))
  | ((with_reducible apply eb_all); (walk_at "ev"))
  | ((with_reducible apply eb_any); (walk_at "ev"))
  | ((with_reducible apply ev_lenL); (walk_at "ev"))
  | ((with_reducible apply ev_neg); (walk_at "ev"))
  | ((with_reducible apply ev_sub); (walk_at "ev"); (walk_at "ev"))
  | ((with_reducible apply ev_addI); (walk_at "ev"); (walk_at "ev"))
  | ((with_reducible apply ev_addL); (walk_at "ev"); (walk_at "ev"); (walk_at "sz"))
  | ((with_reducible apply ev_mul); (walk_at "ev"); (walk_at "ev"); omega; omega)
  | ((with_reducible apply ev_int); (walk_at "ev"))
  | ((with_reducible apply ev_intb); (walk_at "ev"))
  | ((with_reducible apply ev_max); (walk_at "ev"); (walk_at "ev"))
  | ((with_reducible apply ev_min); (walk_at "ev"); (walk_at "ev"))
  | ((with_reducible apply ev_ta); (walk_at "ev"))
  | ((with_reducible apply ev_tb); (walk_at "ev"))
  | ((with_reducible apply ev_tc); (walk_at "ev"))
  | ((with_reducible apply ev_pa); (walk_at "ev"))
  | ((with_reducible apply ev_pb); (walk_at "ev"))
  | ((with_reducible apply ev_ix); (walk_at "ev"); (walk_at "ev"); (assumption))
  | ((with_reducible apply ev_pair); (walk_at "ev"); (walk_at "ev"))
  | ((with_reducible apply ev_trip); (walk_at "ev"); (walk_at "ev"); (walk_at "ev"))
  | ((with_reducible apply ev_l1); (walk_at "ev"))
  | ((with_reducible apply ev_l2); (walk_at "ev"); (walk_at "ev"))
  | ((with_reducible apply ev_rng); (walk_at "ev"); omega; omega)
  | ((with_reducible apply ev_rng2); (walk_at "ev"); (walk_at "ev"); omega; omega; omega; omega)
  | ((with_reducible apply ev_listof); (walk_at "ev"))
  | ((with_reducible apply ev_rev); (walk_at "ev"))
  | ((with_reducible apply ev_drop); (walk_at "ev"); (walk_at "ev"); omega)
  | ((with_reducible apply ev_take); (walk_at "ev"); (walk_at "ev"); omega)
  | ((with_reducible apply ev_sorted); (walk_at "ev"); (first | infer_instance | assumption))
  | ((with_reducible apply ec_filter); (walk_at "ev"); rfl; (intro _ _; walk_at "ev"); (walk_at "sz"))
  | ((with_reducible apply ec_map2); (walk_at "ev"); rfl; rfl; (intro _ _; walk_at "ev"); (walk_at "sz"))
  | ((with_reducible apply ec_both2); (walk_at "ev"); rfl; rfl; (intro _ _; walk_at "ev"); (intro _ _ _; walk_at "ev"); (walk_at "sz"))
  | ((with_reducible apply ec_map); (walk_at "ev"); rfl; (intro _ _; walk_at "ev"); (walk_at "sz"))
  | ((with_reducible apply ec_both); (walk_at "ev"); rfl; (intro _ _; walk_at "ev"); (intro _ _ _; walk_at "ev"); (walk_at "sz"))
  | (with_reducible exact ev_l0)
  | ((with_reducible apply ev_ite); (walk_at "ev"); (intro _; walk_at "ev"); (intro _; walk_at "ev"))))

section
variable {Pr : Prog} {n : Nat} {d : Dr} {A S : List Int} {v x y : Int}
noncomputable def arrIn (d : Dr) (A : List Int) : List Pt := d.b.filter fun p => tr (p.1 ∈ A) && tr (p.2 ∈ A)
noncomputable def partD (d : Dr) (A : List Int) : Dr := ⟨d.a, arrIn d A, d.c.filter fun p => tr (p.1 ∈ A) && tr (p.2 ∈ A)⟩
theorem mem_arrIn {p : Pt} : p ∈ arrIn d A ↔ p ∈ d.b ∧ p.1 ∈ A ∧ p.2 ∈ A := by
  unfold arrIn
  rw [List.mem_filter, Bool.and_eq_true, tr_iff, tr_iff]
theorem Tame.part (T : Tame d) (A : List Int) : Tame (partD d A) where
  m := T.m
  arr := fun p hp => T.arr p (List.mem_filter.mp hp).1
  tie := fun p hp => T.tie p (List.mem_filter.mp hp).1
  zb := Nat.le_trans (List.length_filter_le _ _) T.zb
  zc := Nat.le_trans (List.length_filter_le _ _) T.zc
theorem ev_part_of (h : Pr 16 = some k_part_of) (T : Tame d) : evalD Pr (n + 1) 16 [enc d, enc A] = .ok (enc (partD d A)) := by
  have zb := T.zb
  have zc := T.zc
  refine evalD_rt h rfl ?_
  refine st_asg (v := enc d) rfl rfl ?_
  refine st_set (v := enc (arrIn d A)) ?_ rfl rfl (st_frz rfl (ss_ret ?_))
  · have : evalE (evalD Pr n) 0 (.comp [6, 7] 0 (.op (.tup [false, false]) [(.var 6), (.var 7)]) (.tup [(.slot 6), (.slot 7)]) (.var 4) (some (.and (.op .isin [(.var 6), (.var 1)]) (.op .isin [(.var 7), (.var 1)])))) [some (enc d, 0), some (enc A, 0), none, some (enc d.a, 0), some (enc d.b, 0), some (enc d.c, 0), none, none] = .ok (encL instEncProd ((d.b.filter fun p => tr (p.1 ∈ A) && tr (p.2 ∈ A)).map fun p => (p.1, p.2))) := by
      walk_at "ev"
    rw [List.map_id'' fun _ => rfl] at this
    exact this
  · have : evalE (evalD Pr n) 0 (.comp [6, 7] 0 (.op (.tup [false, false]) [(.var 6), (.var 7)]) (.tup [(.slot 6), (.slot 7)]) (.var 5) (some (.and (.op .isin [(.var 6), (.var 1)]) (.op .isin [(.var 7), (.var 1)])))) [some (enc d, 0), some (enc A, 0), some (enc (arrIn d A), 0), some (enc d.a, 0), some (enc d.b, 0), some (enc d.c, 0), none, none] = .ok (encL instEncProd ((d.c.filter fun p => tr (p.1 ∈ A) && tr (p.2 ∈ A)).map fun p => (p.1, p.2))) := by
      walk_at "ev"
    rw [List.map_id'' fun _ => rfl] at this
    exact ev_trip (i1 := instEncInt) (x := d.a) rfl (i2 := instEncList) (y := arrIn d A) rfl this
/-- what is reached, as a set -/
theorem ev_reached' (h4 : Pr 4 = some k_reached) {R : List Pt} {m : Int} (hm : m ≤ 60) (hR : InP m R) (hS : InR m S) (zR : R.length ≤ 100000) (zS : S.length ≤ 100000) : evalD Pr (n + 1) 4 [enc R, enc S] = .ok (enc (asc m (Clo R S))) := by
  obtain ⟨f, e1, e2, e3⟩ := ev_reached (n := n) h4 hm hR hS zR zS
  rw [e1]
  rw [asc_eq (m := m) (P := Clo R S) e2 fun x => ⟨fun q => ⟨((e3 x).mp q).inR hR hS, (e3 x).mp q⟩, fun q => (e3 x).mpr q.2⟩]
noncomputable def ancF (d : Dr) (S : List Int) : List Int := asc d.a (Clo (flip d.b) S)
theorem ev_anc (h4 : Pr 4 = some k_reached) (h : Pr 28 = some k_ancestors_of) (T : Tame d) (hS : InR d.a S) (zS : S.length ≤ 100000) : evalD Pr (n + 2) 28 [enc d, enc S] = .ok (enc (ancF d S)) := by
  obtain ⟨f, e1, e2, e3⟩ := ev_ancestors (n := n) h4 h T hS zS
  rw [e1]
  unfold ancF
  rw [asc_eq (m := d.a) (P := Clo (flip d.b) S) e2 fun x => ⟨fun q => ⟨((e3 x).mp q).inR (inP_flip T.arr) hS, (e3 x).mp q⟩, fun q => (e3 x).mpr q.2⟩]
/-- the district of v in the part on A -/
noncomputable def dist (d : Dr) (A : List Int) (v : Int) : List Int := asc d.a (Clo (bothIn d A) [v])
open Classical in
noncomputable def blk (D : Int → List Int) (acc : List (List Int)) (v : Int) : List (List Int) := if acc.filter (fun b => tr (v ∈ b)) = [] then acc ++ [D v] else acc
noncomputable def distr (d : Dr) (A : List Int) : List (List Int) := srt (A.foldl (blk (dist d A)) [])
theorem blk_len {D : Int → List Int} : ∀ (l : List Int) (acc : List (List Int)), (l.foldl (blk D) acc).length ≤ acc.length + l.length
  | [], acc => Nat.le_refl _
  | v :: l, acc => by
    have := blk_len (D := D) l (blk D acc v)
    have h2 : (blk D acc v).length ≤ acc.length + 1 := by
      unfold blk
      split
      · rw [List.length_append]; exact Nat.le_refl _
      · omega
    rw [List.foldl_cons, List.length_cons]
    omega
theorem Tame.both (T : Tame d) (A : List Int) : InP d.a (bothIn d A) ∧ (bothIn d A).length ≤ 100000 := by
  have zt : (tiesIn d A).length ≤ 1000 := Nat.le_trans (List.length_filter_le _ _) T.zc
  have zf : (flip (tiesIn d A)).length ≤ 1000 := by simpa [flip] using zt
  refine ⟨fun p hp => ?_, ?_⟩
  · rcases List.mem_append.mp hp with hp | hp
    · exact T.tie p (List.mem_filter.mp hp).1
    · exact inP_flip (R := tiesIn d A) (fun q hq => T.tie q (List.mem_filter.mp hq).1) p hp
  · unfold bothIn
    rw [List.length_append]
    omega
theorem inR_one (hv : 0 ≤ v ∧ v < d.a) : InR d.a [v] := fun x hx => by
  rcases List.mem_cons.mp hx with e | e
  · rw [e]
    exact hv
  · cases e
theorem tiesIn_tr : tiesIn d A = d.c.filter fun p => tr (p.1 ∈ A) && tr (p.2 ∈ A) := List.filter_congr fun p _ => by rw [tr_dec, tr_dec]
theorem ev_distr (h4 : Pr 4 = some k_reached) (h : Pr 32 = some k_districts_of) (T : Tame d) (hA : InR d.a A) (zA : A.length ≤ 1000) : evalD Pr (n + 2) 32 [enc d, enc A] = .ok (enc (distr d A)) := by
  have zb := T.zb
  have zc := T.zc
  have zt : (tiesIn d A).length ≤ 1000 := Nat.le_trans (List.length_filter_le _ _) T.zc
  obtain ⟨iB, zB⟩ := T.both A
  have fD : ∀ v ∈ A, evalD Pr (n + 1) 4 [enc (bothIn d A), enc [v]] = .ok (enc (dist d A v)) := fun v hv => ev_reached' h4 T.m iB (inR_one (hA v hv)) zB (by simp)
  refine evalD_rt h rfl ?_
  refine st_set (v := enc (tiesIn d A)) ?_ rfl rfl (st_frz rfl (st_set (v := enc (bothIn d A)) ?_ rfl rfl (st_set (v := enc ([] : List (List Int))) rfl rfl rfl ?_)))
  · rw [tiesIn_tr]
    have : evalE (evalD Pr (n + 1)) 0 (.comp [6, 7] 0 (.op (.tup [false, false]) [(.var 6), (.var 7)]) (.tup [(.slot 6), (.slot 7)]) (.op .idx [(.var 0), (.cst (.int 2))]) (some (.and (.op .isin [(.var 6), (.var 1)]) (.op .isin [(.var 7), (.var 1)])))) (startE k_districts_of [enc d, enc A]) = .ok (encL instEncProd ((d.c.filter fun p => tr (p.1 ∈ A) && tr (p.2 ∈ A)).map fun p => (p.1, p.2))) := by
      walk_at "ev"
    rw [List.map_id'' fun _ => rfl] at this
    exact this
  · show evalE _ _ _ [some (enc d, 0), some (enc A, 0), some (enc (tiesIn d A), 0), none, none, none, none, none, none] = .ok (enc (tiesIn d A ++ flip (tiesIn d A)))
    unfold flip
    walk_at "ev"
  · refine st_fold (cf := evalD Pr (n + 1)) (t := .slot 5) (it := .var 1) (l := A) instEncInt rfl (fun (f : List (List Int)) (j : Option (Val × Nat)) => [some (enc d, 0), some (enc A, 0), some (enc (tiesIn d A), 0), some (enc (bothIn d A), 0), some (enc f, 1), j, none, none, none]) (blk (dist d A)) [] none rfl (fun pre v post j hl => ?_) fun j => ?_
    · have vA : v ∈ A := by rw [hl]; exact List.mem_append_right _ List.mem_cons_self
      have zp : pre.length ≤ A.length := by rw [hl, List.length_append]; omega
      have zf := blk_len (D := dist d A) pre []
      simp only [List.length_nil, Nat.zero_add] at zf
      generalize hf : pre.foldl (blk (dist d A)) [] = f at zf ⊢
      have zf' : f.length ≤ 1000 := by omega
      have e1 := fD v vA
      refine ⟨some (enc v, 0), _, rfl, st_ifn (p := tr (f.filter (fun b => tr (v ∈ b)) = [])) ?_ (fun q => ?_) (fun q => ?_) rfl⟩
      · have : evalE (evalD Pr (n + 1)) 9 (.op .eq [(.op .len [(.comp [8] 0 (.var 8) (.slot 8) (.var 4) (some (.op .isin [(.var 5), (.var 8)])))]), (.cst (.int 0))]) [some (enc d, 0), some (enc A, 0), some (enc (tiesIn d A), 0), some (enc (bothIn d A), 0), some (enc f, 1), some (enc v, 0), none, none, none] = .ok (.bool (tr ((((f.filter (fun b => tr (v ∈ b))).length : Nat) : Int) = 0))) := by
          walk_at "ev"
        rw [show tr (f.filter (fun b => tr (v ∈ b)) = []) = tr ((((f.filter (fun b => tr (v ∈ b))).length : Nat) : Int) = 0) by
          congr 1
          rw [← List.length_eq_zero_iff]
          apply propext
          omega]
        exact this
      · have b1 : blk (dist d A) f v = f ++ [dist d A v] := by
          unfold blk
          rw [if_pos (tr_iff.mp q)]
        rw [b1]
        refine st_app (i1 := instEncList) (x := dist d A v) (xs := f) ?_ rfl (by omega) rfl rfl
        walk_at "ev"
      · have b1 : blk (dist d A) f v = f := by
          unfold blk
          rw [if_neg (tr_not.mp q)]
        rw [b1]
        rfl
    · refine ss_ret ?_
      unfold distr
      walk_at "ev"
end
end VL

/-! plain side: what holds behind statements -/
namespace VL
open PySem
open Enc
local macro_rules | `(tactic| walk_at "sz") => `(tactic| (first
  | assumption
  | omega
  | exact len_nil
  | ((with_reducible apply len_filter); walk_at "sz")
  | ((with_reducible apply len_map); walk_at "sz")
  | ((with_reducible apply len_srt); walk_at "sz")
  | ((with_reducible apply len_asc); omega)
  | ((with_reducible apply len_upto); omega)
  | ((with_reducible apply len_fromto); omega)
  | ((with_reducible apply len_app); (walk_at "sz"); (walk_at "sz"))
  | ((with_reducible apply len_sum); (walk_at "sz"); (walk_at "sz"))
  | ((with_reducible apply len_drop); walk_at "sz")
  | ((with_reducible apply len_take); walk_at "sz")
  | ((with_reducible apply len_rev); walk_at "sz")
  | ((with_reducible apply len_cons); (walk_at "sz"); (omega))))
local macro_rules | `(tactic| walk_at "call") => `(tactic| (first | assumption | solve_by_elim))
local macro_rules | `(tactic| walk_at "args") => `(tactic| (first
  | exact evs_nil
  | ((with_reducible apply evs_cons); (walk_at "ev"); (walk_at "args"))))
local macro_rules | `(tactic| walk_at "ev") => `(tactic| (first
  | ((with_reducible apply ev_var); rfl)
  | (with_reducible exact ev_ci)
  | (with_reducible exact ev_cb)
  | (with_reducible exact ev_cst)
  | ((with_reducible apply ev_call'); (walk_at "args"); (walk_at "call"))
  | ((with_reducible apply eb_and); (walk_at "ev"); (intro _; walk_at "ev"))
  | ((with_reducible apply eb_or); (walk_at "ev"); (intro _; walk_at "ev"))
  | ((with_reducible apply eb_not); (walk_at "ev"))
  | ((with_reducible apply eb_in); (walk_at "ev"); (walk_at "ev"); decide)
  | ((with_reducible apply eb_notin); (walk_at "ev"); (walk_at "ev"); decide)
  | ((with_reducible apply eb_eq); (walk_at "ev"); (walk_at "ev"); decide)
  | ((with_reducible apply eb_ne); (walk_at "ev"); (walk_at "ev"); decide)
  | ((with_reducible apply eb_lt); (walk_at "ev"); (walk_at "ev"))
  | ((with_reducible apply eb_le); (walk_at "ev"); (walk_at "ev"))
  | ((with_reducible apply eb_gt); (walk_at "ev"); (walk_at "ev"))
  | ((with_reducible apply eb_ge); (walk_at "ev"); (walk_at "ev"))
  | ((with_reducible apply eb_chain_lt); (walk_at "ev"); (walk_at "ev"); (walk_at "ev"))
  | ((with_reducible apply eb_isN); (walk_at "ev"))
  | ((with_reducible apply eb_notN); (walk_at "ev"))
  | ((with_reducible apply eb_isB); (walk_at "ev"))
  | ((with_reducible apply eb_notB); (walk_at "ev"))
  | ((with_reducible apply eb_lend); (walk_at "ev"))
  | ((with_reducible apply eb_all); (walk_at "ev"))
  | ((with_reducible apply eb_any); (walk_at "ev"))
  | ((with_reducible apply ev_lenL); (walk_at "ev"))
  | ((with_reducible apply ev_neg); (walk_at "ev"))
  | ((with_reducible apply ev_sub); (walk_at "ev"); (walk_at "ev"))
  | ((with_reducible apply ev_addI); (walk_at "ev"); (walk_at "ev"))
  | ((with_reducible apply ev_addL); (walk_at "ev"); (walk_at "ev"); (walk_at "sz"))
  | ((with_reducible apply ev_mul); (walk_at "ev"); (walk_at "ev"); omega; omega)
  | ((with_reducible apply ev_int); (walk_at "ev"))
  | ((with_reducible apply ev_intb); (walk_at "ev"))
  | ((with_reducible apply ev_max); (walk_at "ev"); (walk_at "ev"))
  | ((with_reducible apply ev_min); (walk_at "ev"); (walk_at "ev"))
  | ((with_reducible apply ev_ta); (walk_at "ev"))
  | ((with_reducible apply ev_tb); (walk_at "ev"))
  | ((with_reducible apply ev_tc); (walk_at "ev"))
  | ((with_reducible apply ev_pa); (walk_at "ev"))
  | ((with_reducible apply ev_pb); (walk_at "ev"))
  | ((with_reducible apply ev_ix); (walk_at "ev"); (walk_at "ev"); (assumption))
  | ((with_reducible apply ev_pair); (walk_at "ev"); (walk_at "ev"))
  | ((with_reducible apply ev_trip); (walk_at "ev"); (walk_at "ev"); (walk_at "ev"))
  | ((with_reducible apply ev_l1); (walk_at "ev"))
  | ((with_reducible apply ev_l2); (walk_at "ev"); (walk_at "ev"))
  | ((with_reducible apply ev_rng); (walk_at "ev"); omega; omega)
  | ((with_reducible apply ev_rng2); (walk_at "ev"); (walk_at "ev"); omega; omega; omega; omega)
  | ((with_reducible apply ev_listof); (walk_at "ev"))
  | ((with_reducible apply ev_rev); (walk_at "ev"))
  | ((with_reducible apply ev_drop); (walk_at "ev"); (walk_at "ev"); omega)
  | ((with_reducible apply ev_take); (walk_at "ev"); (walk_at "ev"); omega)
  | ((with_reducible apply ev_sorted); (walk_at "ev"); (first | infer_instance | assumption))
  | ((with_reducible apply ec_filter); (walk_at "ev"); rfl; (intro _ _; walk_at "ev"); (walk_at "sz"))
  | ((with_reducible apply ec_map2); (walk_at "ev"); rfl; rfl; (intro _ _; walk_at "ev"); (walk_at "sz"))
  | ((with_reducible apply ec_both2); (walk_at "ev"); rfl; rfl; (intro _ _; walk_at "ev"); (intro _ _ _; walk_at "ev"); (walk_at "sz"))
  | ((with_reducible apply ec_map); (walk_at "ev"); rfl; (intro _ _; walk_at "ev"); (walk_at "sz"))
  | ((with_reducible apply ec_both); (walk_at "ev"); rfl; (intro _ _; walk_at "ev"); (intro _ _ _; walk_at "ev"); (walk_at "sz"))
  | (with_reducible exact ev_l0)
  | ((with_reducible apply ev_ite); (walk_at "ev"); (intro _; walk_at "ev"); (intro _; walk_at "ev"))))

def WP (cf : Nat → List Val → Res Val) (ss : List S) (ρ : Env) (G : Out → Prop) : Prop := ∃ o, evalSs cf ss ρ = .ok o ∧ G o
/-- behind a block, the rest -/
def thn' (cf : Nat → List Val → Res Val) (ss : List S) (G : Out → Prop) : Out → Prop
  | .nx ρ => WP cf ss ρ G
  | o => G o
section
variable {cf : Nat → List Val → Res Val} {ρ ρ' : Env} {ss a b : List S} {c : E} {v w : Val} {i d : Nat} {p : Bool} {G G' : Out → Prop}
theorem WP.mono (h : WP cf ss ρ G) (m : ∀ o, G o → G' o) : WP cf ss ρ G' := h.imp fun o q => ⟨q.1, m o q.2⟩
theorem wp_nil (h : G (.nx ρ)) : WP cf [] ρ G := ⟨_, rfl, h⟩
theorem wp_step {s : S} {o : Out} (e : evalS cf s ρ = .ok o) (h : thn' cf ss G o) : WP cf (s :: ss) ρ G := by
  cases o with
  | nx ρ' =>
    obtain ⟨o', e2, g⟩ := h
    exact ⟨o', ss_cons e e2, g⟩
  | rt v => exact ⟨_, ss_end e (fun _ z => nomatch z), h⟩
  | bk ρ' => exact ⟨_, ss_end e (fun _ z => nomatch z), h⟩
  | ct ρ' => exact ⟨_, ss_end e (fun _ z => nomatch z), h⟩
theorem wp_ret (e : evalE cf 0 c ρ = .ok v) (h : G (.rt v)) : WP cf (.ret c :: ss) ρ G := ⟨_, ss_ret e, h⟩
theorem wp_set (e : evalE cf 0 c ρ = .ok v) (hl : Nat.blt i ρ.length = true) (hρ : ρ.set i (some (v, d)) = ρ') (h : WP cf ss ρ' G) : WP cf (.set i c d :: ss) ρ G := by
  obtain ⟨o, e2, g⟩ := h
  exact ⟨o, st_set e hl hρ e2, g⟩
theorem wp_frz {l : List (Nat × Nat)} (hρ : dropL l ρ = ρ') (h : WP cf ss ρ' G) : WP cf (.frz l :: ss) ρ G := by
  obtain ⟨o, e2, g⟩ := h
  exact ⟨o, st_frz hρ e2, g⟩
theorem wp_asg {q : Pat} (e : evalE cf 0 c ρ = .ok v) (hb : bindP q v ρ = .ok ρ') (h : WP cf ss ρ' G) : WP cf (.asg q c :: ss) ρ G := by
  obtain ⟨o, e2, g⟩ := h
  exact ⟨o, st_asg e hb e2, g⟩
theorem wp_app {α : Type} {i1 : Enc α} {xs : List α} {x : α} {t : Nat} (he : evalE cf 0 c ρ = .ok (i1.enc x)) (ho : getOwn ρ i (d + 1) = .ok (xs.map i1.enc, t)) (hz : xs.length + 1 ≤ 16777216) (hρ : ρ.set i (some (encL i1 (xs ++ [x]), d + 1)) = ρ') (h : WP cf ss ρ' G) : WP cf (.app i c d :: ss) ρ G := by
  obtain ⟨o, e2, g⟩ := h
  exact ⟨o, st_app he ho hz hρ e2, g⟩
theorem wp_if (e : evalE cf 9 c ρ = .ok (.bool p)) (h1 : p = true → WP cf a ρ (thn' cf ss G)) (h2 : p = false → WP cf b ρ (thn' cf ss G)) : WP cf (.iff c a b :: ss) ρ G := by
  cases p with
  | true =>
    obtain ⟨o, e1, g⟩ := h1 rfl
    exact wp_step (s_if e e1) g
  | false =>
    obtain ⟨o, e1, g⟩ := h2 rfl
    exact wp_step (s_if e e1) g
theorem wp_ifn (e : evalE cf 9 c ρ = .ok (.bool p)) (h1 : p = true → evalSs cf a ρ = .ok (.nx ρ')) (h2 : p = false → evalSs cf b ρ = .ok (.nx ρ')) (h : WP cf ss ρ' G) : WP cf (.iff c a b :: ss) ρ G := by
  obtain ⟨o, e2, g⟩ := h
  exact ⟨o, st_ifn e h1 h2 e2, g⟩
/-- for: the invariant by what is done -/
theorem forL_wp {α σ J : Type} {b : Val → Env → Res Out} {e : α → Val} (E : σ → J → Env) (I : List α → σ → Prop) (G : Out → Prop) {l : List α} (hb : ∀ pre x post s j, l = pre ++ x :: post → I pre s → ∃ o, b (e x) (E s j) = .ok o ∧ ((∃ s' j', (o = .nx (E s' j') ∨ o = .ct (E s' j')) ∧ I (pre ++ [x]) s') ∨ (∃ v, o = .rt v ∧ G (.rt v)) ∨ ∃ ρ', o = .bk ρ' ∧ G (.nx ρ'))) (hn : ∀ s j, I l s → G (.nx (E s j))) :
    ∀ (post pre : List α) (s : σ) (j : J), l = pre ++ post → I pre s → ∃ o, forL b (post.map e) (E s j) = .ok o ∧ G o
  | [], pre, s, j, hl, hs => ⟨_, rfl, hn s j (by rw [hl, List.append_nil]; exact hs)⟩
  | x :: post, pre, s, j, hl, hs => by
    obtain ⟨o, h1, h2⟩ := hb pre x post s j hl hs
    rcases h2 with ⟨s1, j1, h3, h4⟩ | ⟨v, rfl, g⟩ | ⟨ρ', rfl, g⟩
    · obtain ⟨o2, h5, g⟩ := forL_wp E I G hb hn post (pre ++ [x]) s1 j1 (by rw [hl]; simp) h4
      refine ⟨o2, ?_, g⟩
      show (b (e x) (E s j)).bind _ = _
      rw [h1]
      rcases h3 with rfl | rfl
      · exact h5
      · exact h5
    · refine ⟨.rt v, ?_, g⟩
      show (b (e x) (E s j)).bind _ = _
      rw [h1]
      rfl
    · refine ⟨.nx ρ', ?_, g⟩
      show (b (e x) (E s j)).bind _ = _
      rw [h1]
      rfl
theorem wp_for {α σ J : Type} {t : Pat} {it : E} {body : List S} {l : List α} (i1 : Enc α) (hi : evalE cf 0 it ρ = .ok (encL i1 l)) (E : σ → J → Env) (I : List α → σ → Prop) (s0 : σ) (j0 : J) (hρ : ρ = E s0 j0) (h0 : I [] s0)
    (hb : ∀ pre x post s j, l = pre ++ x :: post → I pre s → ∃ ρ', bindP t (i1.enc x) (E s j) = .ok ρ' ∧ WP cf body ρ' fun o => (∃ s' j', (o = .nx (E s' j') ∨ o = .ct (E s' j')) ∧ I (pre ++ [x]) s') ∨ (∃ v, o = .rt v ∧ G (.rt v)) ∨ ∃ ρ', o = .bk ρ' ∧ WP cf ss ρ' G)
    (hn : ∀ s j, I l s → WP cf ss (E s j) G) : WP cf (.for t it body :: ss) ρ G := by
  obtain ⟨o, h1, h2⟩ := forL_wp (b := fun v ρ => (bindP t v ρ).bind fun ρ' => evalSs cf body ρ') (e := i1.enc) E I (thn' cf ss G) (l := l) (fun pre x post s j hl hs => by
    obtain ⟨ρ', e1, o, e2, g⟩ := hb pre x post s j hl hs
    refine ⟨o, ?_, g⟩
    show (bindP t (i1.enc x) (E s j)).bind _ = _
    rw [e1]
    exact e2) hn l [] s0 j0 rfl h0
  refine wp_step (o := o) ?_ h2
  show (evalE cf 0 it ρ).bind _ = _
  rw [hi, hρ]
  exact h1
theorem whileL_wp {σ J : Type} {c : Env → Res Bool} {b : Env → Res Out} (E : σ → J → Env) (I : σ → Prop) (μ : σ → Nat) (G : Out → Prop) (go : σ → Bool) (hc : ∀ s j, I s → c (E s j) = .ok (go s))
    (hb : ∀ s j, I s → go s = true → ∃ o, b (E s j) = .ok o ∧ ((∃ s' j', (o = .nx (E s' j') ∨ o = .ct (E s' j')) ∧ I s' ∧ μ s' < μ s) ∨ (∃ v, o = .rt v ∧ G (.rt v)) ∨ ∃ ρ', o = .bk ρ' ∧ G (.nx ρ'))) (hn : ∀ s j, I s → go s = false → G (.nx (E s j))) :
    ∀ (n : Nat) (s : σ) (j : J), I s → μ s < n → ∃ o, whileL c b n (E s j) = .ok o ∧ G o
  | 0, s, _, _, h => absurd h (Nat.not_lt_zero _)
  | n + 1, s, j, hs, hm => by
    cases q : go s with
    | false =>
      refine ⟨_, ?_, hn s j hs q⟩
      show (c (E s j)).bind _ = _
      rw [hc s j hs, q]
      rfl
    | true =>
      obtain ⟨o, h1, h2⟩ := hb s j hs q
      rcases h2 with ⟨s1, j1, h3, h4, h5⟩ | ⟨v, rfl, g⟩ | ⟨ρ', rfl, g⟩
      · obtain ⟨o2, h6, g⟩ := whileL_wp E I μ G go hc hb hn n s1 j1 h4 (by omega)
        refine ⟨o2, ?_, g⟩
        show (c (E s j)).bind _ = _
        rw [hc s j hs, q]
        show (b (E s j)).bind _ = _
        rw [h1]
        rcases h3 with rfl | rfl
        · exact h6
        · exact h6
      · refine ⟨.rt v, ?_, g⟩
        show (c (E s j)).bind _ = _
        rw [hc s j hs, q]
        show (b (E s j)).bind _ = _
        rw [h1]
        rfl
      · refine ⟨.nx ρ', ?_, g⟩
        show (c (E s j)).bind _ = _
        rw [hc s j hs, q]
        show (b (E s j)).bind _ = _
        rw [h1]
        rfl
theorem wp_whl {σ J : Type} {body : List S} (E : σ → J → Env) (I : σ → Prop) (μ : σ → Nat) (go : σ → Bool) (s0 : σ) (j0 : J) (hρ : ρ = E s0 j0) (h0 : I s0) (hm : μ s0 < 1000000) (hc : ∀ s j, I s → evalE cf 9 c (E s j) = .ok (.bool (go s)))
    (hb : ∀ s j, I s → go s = true → WP cf body (E s j) fun o => (∃ s' j', (o = .nx (E s' j') ∨ o = .ct (E s' j')) ∧ I s' ∧ μ s' < μ s) ∨ (∃ v, o = .rt v ∧ G (.rt v)) ∨ ∃ ρ', o = .bk ρ' ∧ WP cf ss ρ' G)
    (hn : ∀ s j, I s → go s = false → WP cf ss (E s j) G) : WP cf (.whl c body :: ss) ρ G := by
  obtain ⟨o, h1, h2⟩ := whileL_wp (c := fun ρ => (evalE cf 9 c ρ).bind fun x => asBool x) (b := fun ρ => evalSs cf body ρ) E I μ (thn' cf ss G) go (fun s j hs => by
    show (evalE cf 9 c (E s j)).bind _ = _
    rw [hc s j hs]
    rfl) hb hn LIM s0 j0 h0 hm
  refine wp_step (o := o) ?_ h2
  rw [hρ]
  exact h1
/-- a def's answer -/
theorem wp_def {Pr : Prog} {n f : Nat} {D : Def} {vs : List Val} {Q : Val → Prop} (h : Pr f = some D) (hl : vs.length = D.np) (e : WP (evalD Pr n) D.body (startE D vs) fun o => (∃ v, o = .rt v ∧ Q v) ∨ ∃ ρ, o = .nx ρ ∧ Q .none) : ∃ v, evalD Pr (n + 1) f vs = .ok v ∧ Q v := by
  obtain ⟨o, e1, ⟨v, rfl, q⟩ | ⟨ρ, rfl, q⟩⟩ := e
  · exact ⟨v, evalD_rt h hl e1, q⟩
  · exact ⟨.none, evalD_nx h hl e1, q⟩
theorem rt_of {Q : Val → Prop} {v : Val} (h : Q v) : (∃ w, Out.rt v = .rt w ∧ Q w) ∨ ∃ ρ, Out.rt v = .nx ρ ∧ Q .none := .inl ⟨v, rfl, h⟩
end
end VL

/-! plain side: the second core -/
namespace VL
open PySem
section
variable {cf : Nat → List Val → Res Val} {ρ ρ' : Env} {ss : List SX} {G : OX → Prop}
def WX (cf : Nat → List Val → Res Val) (ss : List SX) (ρ : Env) (G : OX → Prop) : Prop := ∃ o, evalXs cf ss ρ = .ok o ∧ G o
def thnX (cf : Nat → List Val → Res Val) (ss : List SX) (G : OX → Prop) : OX → Prop
  | .nx ρ => WX cf ss ρ G
  | o => G o
theorem wx_step {s : SX} {o : OX} (e : evalX cf s ρ = .ok o) (h : thnX cf ss G o) : WX cf (s :: ss) ρ G := by
  have e1 : evalXs cf (s :: ss) ρ = ((evalX cf s ρ).bind fun o => match o with
    | .nx ρ' => evalXs cf ss ρ'
    | o => .ok o) := rfl
  unfold WX
  rw [e1, e]
  cases o with
  | nx ρ' => exact h
  | ct ρ' => exact ⟨_, rfl, h⟩
  | bk ρ' => exact ⟨_, rfl, h⟩
  | rt v => exact ⟨_, rfl, h⟩
  | ex ρ' c i => exact ⟨_, rfl, h⟩
theorem wx_base {s : S} (h : WP cf [s] ρ fun o => thnX cf ss G o.x) : WX cf (.base s :: ss) ρ G := by
  obtain ⟨o, e, g⟩ := h
  have e1 : ((evalS cf s ρ).bind fun o => match o with
    | .nx ρ' => Res.ok (Out.nx ρ')
    | o => .ok o) = .ok o := e
  obtain ⟨o1, e2, e3⟩ := Res.bind_eq_ok e1
  have eo : o1 = o := by
    cases o1 <;> cases e3 <;> rfl
  subst eo
  refine wx_step (o := o1.x) ?_ g
  show (evalS cf s ρ).bind _ = _
  rw [e2]
  rfl
theorem wx_callx_ex {f : Nat} {es : List E} {vs : List Val} {c : Str} {i : Int} (e : evalEs cf 0 es ρ = .ok vs) (hc : cf f vs = .exc c (.int i)) (h : G (.ex ρ c i)) : WX cf (.callx f es :: ss) ρ G := by
  refine wx_step (o := .ex ρ c i) ?_ h
  show (evalEs cf 0 es ρ).bind _ = _
  rw [e]
  show callRes (cf f vs) ρ = _
  rw [hc]
  rfl
theorem wx_raise {c : Str} {a : E} {i : Int} (e : evalE cf 9 a ρ = .ok (.int i)) (h : G (.ex ρ c i)) : WX cf (.raisex c a :: ss) ρ G := by
  refine wx_step (o := .ex ρ c i) ?_ h
  show (evalE cf 9 a ρ).bind _ = _
  rw [e]
  rfl
theorem wx_if {c : E} {a b : List SX} {p : Bool} (e : evalE cf 9 c ρ = .ok (.bool p)) (h1 : p = true → WX cf a ρ (thnX cf ss G)) (h2 : p = false → WX cf b ρ (thnX cf ss G)) : WX cf (.ifx c a b :: ss) ρ G := by
  have go : ∀ l : List SX, WX cf l ρ (thnX cf ss G) → evalX cf (.ifx c a b) ρ = evalXs cf l ρ → WX cf (.ifx c a b :: ss) ρ G := fun l ⟨o, e1, g⟩ e2 => wx_step (e2.trans e1) g
  cases p with
  | true => exact go a (h1 rfl) (by show (evalE cf 9 c ρ).bind _ = _; rw [e]; rfl)
  | false => exact go b (h2 rfl) (by show (evalE cf 9 c ρ).bind _ = _; rw [e]; rfl)
theorem wx_try {cl : List Str} {body : List SX} {hs : List (Str × Nat × HX)} (h : WX cf body ρ fun o => match o with
    | .ex ρ' c i => cl.contains c = true ∧ ∃ o', handleX hs c i ρ' = .ok o' ∧ thnX cf ss G o'
    | o => thnX cf ss G o) : WX cf (.tryx cl body hs :: ss) ρ G := by
  obtain ⟨o, e, g⟩ := h
  have e1 : evalX cf (.tryx cl body hs) ρ = ((evalXs cf body ρ).bind fun o => match o with
      | .ex ρ' c i => Res.guard (cl.contains c) (handleX hs c i ρ')
      | o => .ok o) := rfl
  rw [e] at e1
  cases o with
  | nx ρ' => exact wx_step e1 g
  | ct ρ' => exact wx_step e1 g
  | bk ρ' => exact wx_step e1 g
  | rt v => exact wx_step e1 g
  | ex ρ' c i =>
    obtain ⟨hc, o', h1, h2⟩ := g
    refine wx_step (o := o') ?_ h2
    rw [e1]
    show Res.guard (cl.contains c) (handleX hs c i ρ') = _
    rw [hc]
    exact h1
/-- a def's end -/
theorem wx_def {Pr : Prog} {XP : ProgX} {n f : Nat} {d : DefX} {vs : List Val} {Q : Res Val → Prop} (hp : ∀ xs, primV f xs = none) (h : XP f = some d) (hl : vs.length = d.np) (e : WX (evalDX Pr XP n) d.body (startE ⟨d.np, d.ns, d.fr, []⟩ vs) fun o => Q (finX o)) : ∃ r, evalDX Pr XP (n + 1) f vs = r ∧ Q r := by
  obtain ⟨o, e1, g⟩ := e
  refine ⟨finX o, ?_, g⟩
  rw [evalDX_x hp h, decide_eq_true hl, e1]
  rfl
end
end VL

/-! plain side: the walk over states and the walk over groups, from several -/
namespace VL
open PySem
section
variable {d : Dr} {V W K1 K2 A ahead : List Int} {ds : List (List Int)}
structure SepV (d : Dr) (V W K1 K2 A ahead : List Int) (ds : List (List Int)) : Prop where
  vK : ∀ v ∈ V, v ∉ K2
  vW : ∀ v ∈ V, v ∉ W
  WK : ∀ w ∈ W, w ∉ K2
  KK : ∀ x, x ∈ K1 ↔ x ∈ K2
  mA : ∀ x, x ∈ A ↔ Clo (flip d.b) (W ++ V ++ K1) x
  mH : ∀ x, x ∈ ahead ↔ Clo (flip d.b) K2 x
  mD : ∀ D ∈ ds, ∃ u ∈ A, ∀ x, x ∈ D ↔ Clo (bothIn d A) [u] x
  cD : ∀ u ∈ A, ∃ D ∈ ds, u ∈ D
variable (S : SepV d V W K1 K2 A ahead ds)
include S
theorem SepV.parent {x y : Int} (h : (x, y) ∈ d.b) (hy : y ∈ A) : x ∈ A := (S.mA x).mpr (.step ((S.mA y).mp hy) (mem_flip.mpr h))
theorem SepV.parentH {x y : Int} (h : (x, y) ∈ d.b) (hy : y ∈ ahead) : x ∈ ahead := (S.mH x).mpr (.step ((S.mH y).mp hy) (mem_flip.mpr h))
theorem SepV.aheadA {x : Int} (h : x ∈ ahead) : x ∈ A := (S.mA x).mpr (((S.mH x).mp h).sub fun y hy => List.mem_append_right _ ((S.KK y).mpr hy))
theorem SepV.KH {x : Int} (h : x ∈ K2) : x ∈ ahead := (S.mH x).mpr (.base h)
theorem SepV.vA {v : Int} (hv : v ∈ V) : v ∈ A := (S.mA v).mpr (.base (by simp [hv]))
theorem SepV.DA {D : List Int} (hD : D ∈ ds) {x : Int} (hx : x ∈ D) : x ∈ A := by
  obtain ⟨u, hu, e⟩ := S.mD D hD
  have := (e x).mp hx
  induction this with
  | base h =>
    rcases List.mem_cons.mp h with e | e
    · rw [e]
      exact hu
    · cases e
  | step _ h _ => exact (mem_bothIn.mp h).1.2
theorem SepV.tieD {D : List Int} (hD : D ∈ ds) {x y : Int} (hx : x ∈ D) (h : (x, y) ∈ bothIn d A) : y ∈ D := by
  obtain ⟨u, _, e⟩ := S.mD D hD
  exact (e y).mpr (.step ((e x).mp hx) h)
theorem SepV.cloD {D : List Int} (hD : D ∈ ds) {x y : Int} (hx : x ∈ D) (hy : y ∈ D) : Clo (bothIn d A) [x] y := by
  obtain ⟨u, _, e⟩ := S.mD D hD
  exact ((e y).mp hy).one (((e x).mp hx).back both_sym)
theorem SepV.adj {D : List Int} (hD : D ∈ ds) {x z : Int} (hx : x ∈ grp d D) (hz : z ∈ grp d D) (b : Bf (ds.map (grp d)) W K1 z) (hk : x ∉ K2) : Bf (ds.map (grp d)) W K1 x :=
  .step b ⟨grp d D, List.mem_map.mpr ⟨D, hD, rfl⟩, hz, hx⟩ fun h => hk ((S.KK x).mp h)

/-! ### from states to groups -/
theorem SepV.back {x h : Int} (T : Tz d ahead K2 W x h) : (h = 0 ∨ h = 1) → (h = 0 → x ∈ A) →
    (h = 0 → Bf (ds.map (grp d)) W K1 x) ∧ (h = 1 → x ∈ A ∧ ∃ D ∈ ds, x ∈ D ∧ ∃ z ∈ grp d D, Bf (ds.map (grp d)) W K1 z) := by
  induction T with
  | @fin w h hw =>
    intro _ _
    have wA : w ∈ A := (S.mA w).mpr (.base (List.mem_append_left _ (List.mem_append_left _ hw)))
    obtain ⟨D, hD, hu⟩ := S.cD w wA
    exact ⟨fun _ => .base hw, fun _ => ⟨wA, D, hD, hu, w, mem_grp.mpr (.inl hu), .base hw⟩⟩
  | @go x h e he ok _ ih =>
    intro h01 hA
    obtain ⟨ea, ok2⟩ := okB_iff.mp ok
    clear ok
    obtain ⟨a, b, eh, et⟩ := e
    simp only at ea ok2 ih
    subst ea
    rcases mem_edges.mp he with ⟨m, e1, e2⟩ | ⟨m, e1, e2⟩ | ⟨m, e1, e2⟩
    · -- an arrow out
      simp only at m e1 e2
      subst e1 e2
      have xK : a ∉ K2 := by
        rcases ok2 with ⟨⟨_, z⟩, _⟩ | ⟨_, z⟩
        · exact absurd z (by decide)
        · exact z
      obtain ⟨bA, D, hD, bD, z, hz, bz⟩ := (ih (.inr rfl) fun z => absurd z (by decide)).2 rfl
      have aA := S.parent m bA
      have ba := S.adj hD (mem_grp.mpr (.inr ⟨b, bD, m⟩)) hz bz xK
      obtain ⟨D', hD', aD⟩ := S.cD a aA
      exact ⟨fun _ => ba, fun _ => ⟨aA, D', hD', aD, a, mem_grp.mpr (.inl aD), ba⟩⟩
    · -- an arrow in
      simp only at m e1 e2
      subst e1 e2
      have aA : a ∈ A := by
        rcases h01 with z | z
        · exact hA z
        · rcases ok2 with ⟨_, q⟩ | ⟨q, _⟩
          · exact S.aheadA q
          · exact absurd ⟨z, rfl⟩ q
      have bA := S.parent m aA
      have bb := (ih (.inl rfl) fun _ => bA).1 rfl
      obtain ⟨D, hD, aD⟩ := S.cD a aA
      have gb : b ∈ grp d D := mem_grp.mpr (.inr ⟨a, aD, m⟩)
      refine ⟨fun z => ?_, fun _ => ⟨aA, D, hD, aD, b, gb, bb⟩⟩
      have xK : a ∉ K2 := by
        rcases ok2 with ⟨⟨q, _⟩, _⟩ | ⟨_, q⟩
        · rw [z] at q
          exact absurd q (by decide)
        · exact q
      exact S.adj hD (mem_grp.mpr (.inl aD)) gb bb xK
    · -- a tie
      simp only at m e1 e2
      subst e1 e2
      have aA : a ∈ A := by
        rcases h01 with z | z
        · exact hA z
        · rcases ok2 with ⟨_, q⟩ | ⟨q, _⟩
          · exact S.aheadA q
          · exact absurd ⟨z, rfl⟩ q
      obtain ⟨bA, D, hD, bD, z, hz, bz⟩ := (ih (.inr rfl) fun z => absurd z (by decide)).2 rfl
      have aD : a ∈ D := S.tieD hD bD (mem_bothIn.mpr ⟨⟨bA, aA⟩, m.symm⟩)
      refine ⟨fun q => ?_, fun _ => ⟨aA, D, hD, aD, z, hz, bz⟩⟩
      have xK : a ∉ K2 := by
        rcases ok2 with ⟨⟨r, _⟩, _⟩ | ⟨_, r⟩
        · rw [q] at r
          exact absurd r (by decide)
        · exact r
      exact S.adj hD (mem_grp.mpr (.inl aD)) hz bz xK
omit S in
theorem startV_of {x h : Int} (R : Ws d V ahead K2 x h) : Tz d ahead K2 W x h → ∃ e ∈ edges d, e.a ∈ V ∧ Tz d ahead K2 W e.b e.t := by
  induction R with
  | base he h1 => exact fun t => ⟨_, he, h1, t⟩
  | step _ he ok ih => exact fun t => ih (.go he ok t)
theorem SepV.to_groups {w h : Int} (hw : w ∈ W) (R : Ws d V ahead K2 w h) : ∃ v ∈ V, Bf (ds.map (grp d)) W K1 v := by
  obtain ⟨e, he, ea, t⟩ := startV_of R (.fin hw)
  have ok : okB ahead K2 e.a 0 e = true := okB_iff.mpr ⟨rfl, .inr ⟨fun z => absurd z.1 (by decide), S.vK _ ea⟩⟩
  exact ⟨e.a, ea, (S.back (.go he ok t) (.inl rfl) fun _ => S.vA ea).1 rfl⟩

/-! ### from groups to states -/
def DoneV (d : Dr) (V W ahead K2 : List Int) : Prop := ∃ w ∈ W, Ws d V ahead K2 w 0 ∨ Ws d V ahead K2 w 1
def RvV (d : Dr) (V ahead K2 : List Int) (x : Int) : Prop := x ∈ V ∨ ∃ h, (h = 0 ∨ h = 1) ∧ Ws d V ahead K2 x h
omit S in
theorem wsV_start {e : Qd} (he : e ∈ edges d) (h : e.a ∈ V) : Ws d V ahead K2 e.b e.t := .base he h
/-- against the arrows, from V -/
theorem SepV.up {x : Int} (h : Clo (flip d.b) V x) : x ∉ ahead → x ∈ V ∨ Ws d V ahead K2 x 0 := by
  induction h with
  | base h => exact fun _ => .inl h
  | @step a x _ h ih =>
    intro hx
    have m := mem_flip.mp h
    have ha : a ∉ ahead := fun z => hx (S.parentH m z)
    right
    rcases ih ha with e | e
    · exact wsV_start (edge_from m) e
    · exact .step e (edge_from m) (okB_iff.mpr ⟨rfl, .inr ⟨fun z => absurd z.1 (by decide), fun z => ha (S.KH z)⟩⟩)
/-- along the arrows, to W -/
theorem SepV.down {x : Int} (h : Clo (flip d.b) W x) : x ∉ ahead → RvV d V ahead K2 x → DoneV d V W ahead K2 := by
  induction h with
  | @base x h =>
    intro _ r
    rcases r with e | ⟨k, hk, r⟩
    · exact absurd h (S.vW x e)
    · refine ⟨x, h, ?_⟩
      rcases hk with rfl | rfl
      · exact .inl r
      · exact .inr r
  | @step a x _ h ih =>
    intro hx r
    have m := mem_flip.mp h
    refine ih (fun z => hx (S.parentH m z)) (.inr ⟨1, .inr rfl, ?_⟩)
    rcases r with e | ⟨k, _, r⟩
    · exact wsV_start (edge_to m) e
    · exact .step r (edge_to m) (okB_iff.mpr ⟨rfl, .inr ⟨fun z => absurd z.2 (show ¬ ((0 : Int) = 1) by decide), fun z => hx (S.KH z)⟩⟩)
/-- on from x along e, or at an end -/
theorem SepV.pass {x h : Int} {e : Qd} (xA : x ∈ A) (R : Ws d V ahead K2 x h) (h01 : h = 0 ∨ h = 1) (he : e ∈ edges d) (ea : e.a = x) (c : x ∉ K2 ∨ (h = 1 ∧ e.h = 1)) : Ws d V ahead K2 e.b e.t ∨ DoneV d V W ahead K2 := by
  by_cases m : h = 1 ∧ e.h = 1
  · by_cases hx : x ∈ ahead
    · exact .inl (.step R he (okB_iff.mpr ⟨ea, .inl ⟨m, hx⟩⟩))
    · rcases ((S.mA x).mp xA).parts with q | q
      · rcases q.parts with q | q
        · exact .inr (S.down q hx (.inr ⟨h, h01, R⟩))
        · left
          rcases S.up q hx with z | z
          · exact wsV_start he (by rw [ea]; exact z)
          · exact .step z he (okB_iff.mpr ⟨ea, .inr ⟨fun r => absurd r.1 (by decide), fun r => hx (S.KH r)⟩⟩)
      · exact absurd ((S.mH x).mpr (q.sub fun y hy => (S.KK y).mp hy)) hx
  · exact .inl (.step R he (okB_iff.mpr ⟨ea, .inr ⟨m, c.elim id fun z => absurd z m⟩⟩))
theorem SepV.passR {x : Int} {e : Qd} (xA : x ∈ A) (R : RvV d V ahead K2 x) (he : e ∈ edges d) (ea : e.a = x) (xK : x ∉ K2) : Ws d V ahead K2 e.b e.t ∨ DoneV d V W ahead K2 := by
  rcases R with z | ⟨h, h01, R⟩
  · exact .inl (wsV_start he (by rw [ea]; exact z))
  · exact S.pass xA R h01 he ea (.inl xK)
/-- along the ties -/
theorem SepV.ties {x y : Int} (h : Clo (bothIn d A) [x] y) (st : ∀ z, (x, z) ∈ bothIn d A → Ws d V ahead K2 z 1 ∨ DoneV d V W ahead K2) : y = x ∨ Ws d V ahead K2 y 1 ∨ DoneV d V W ahead K2 := by
  induction h with
  | base h =>
    rcases List.mem_cons.mp h with e | e
    · exact .inl e
    · cases e
  | @step a b _ h ih =>
    right
    rcases ih with e | e | e
    · rw [e] at h
      exact st b h
    · exact S.pass (mem_bothIn.mp h).1.1 e (.inr rfl) (edge_tie h) rfl (.inr ⟨rfl, rfl⟩)
    · exact .inr e
/-- from one of a group to any other -/
theorem SepV.cross {D : List Int} (hD : D ∈ ds) {x y : Int} (hy : y ∈ grp d D) (hx : x ∈ grp d D) (R : RvV d V ahead K2 y) (yK : y ∉ K2) : RvV d V ahead K2 x ∨ DoneV d V W ahead K2 := by
  -- to a member c of the district
  have to : ∀ c ∈ D, (c = y ∧ y ∈ D) ∨ Ws d V ahead K2 c 1 ∨ DoneV d V W ahead K2 := fun c hc => by
    rcases mem_grp.mp hy with yD | ⟨c0, c0D, m⟩
    · rcases S.ties (S.cloD hD yD hc) fun z hz => S.passR (S.DA hD yD) R (edge_tie hz) rfl yK with e | e | e
      · exact .inl ⟨e, yD⟩
      · exact .inr (.inl e)
      · exact .inr (.inr e)
    · rcases S.passR (S.parent m (S.DA hD c0D)) R (edge_to m) rfl yK with e0 | e0
      · have e0 : Ws d V ahead K2 c0 1 := e0
        rcases S.ties (S.cloD hD c0D hc) fun z hz => S.pass (S.DA hD c0D) e0 (.inr rfl) (edge_tie hz) rfl (.inr ⟨rfl, rfl⟩) with e | e | e
        · rw [e]
          exact .inr (.inl e0)
        · exact .inr (.inl e)
        · exact .inr (.inr e)
      · exact .inr (.inr e0)
  rcases mem_grp.mp hx with xD | ⟨c, cD, m⟩
  · rcases to x xD with ⟨e, _⟩ | e | e
    · rw [e]
      exact .inl R
    · exact .inl (.inr ⟨1, .inr rfl, e⟩)
    · exact .inr e
  · have fin : Ws d V ahead K2 x 0 ∨ DoneV d V W ahead K2 → RvV d V ahead K2 x ∨ DoneV d V W ahead K2 := fun h => h.imp (fun h => .inr ⟨0, .inl rfl, h⟩) id
    rcases to c cD with ⟨e, yD⟩ | e | e
    · subst e
      exact fin (S.passR (S.DA hD yD) R (edge_from m) rfl yK)
    · exact fin (S.pass (S.DA hD cD) e (.inr rfl) (edge_from m) rfl (.inr ⟨rfl, rfl⟩))
    · exact .inr e
theorem SepV.to_states {v : Int} (hv : v ∈ V) (h : Bf (ds.map (grp d)) W K1 v) : DoneV d V W ahead K2 := by
  have gen : ∀ y, Bf (ds.map (grp d)) W K1 y → RvV d V ahead K2 y → DoneV d V W ahead K2 := fun y hy => by
    induction hy with
    | @base x hx =>
      intro r
      rcases r with e | ⟨k, hk, r⟩
      · exact absurd hx (S.vW x e)
      · refine ⟨x, hx, ?_⟩
        rcases hk with rfl | rfl
        · exact .inl r
        · exact .inr r
    | @step x y _ a yK ih =>
      intro r
      obtain ⟨g, hg, hx, hy⟩ := a
      obtain ⟨D, hD, rfl⟩ := List.mem_map.mp hg
      exact (S.cross hD hy hx r fun z => yK ((S.KK y).mpr z)).elim ih id
  exact gen v h (.inl hv)
theorem SepV.same : (∃ v ∈ V, Bf (ds.map (grp d)) W K1 v) ↔ ∃ w ∈ W, Ws d V ahead K2 w 0 ∨ Ws d V ahead K2 w 1 :=
  ⟨fun ⟨_, hv, h⟩ => S.to_states hv h, fun ⟨w, hw, h⟩ => h.elim (S.to_groups hw) (S.to_groups hw)⟩
end
end VL

/-! plain side: districts and ancestors in parts -/
namespace VL
open PySem
open Enc
section
variable {d : Dr} {A B S : List Int} {v w x y : Int} {R R' : List Pt}
theorem Clo.up {S' : List Int} (hR : ∀ p ∈ R, p ∈ R') (hS : ∀ x ∈ S, x ∈ S') (h : Clo R S x) : Clo R' S' x := by
  induction h with
  | base h => exact .base (hS _ h)
  | step _ h ih => exact .step ih (hR _ h)
theorem Clo.trans {S' : List Int} (hS : ∀ x ∈ S, Clo R S' x) (h : Clo R S x) : Clo R S' x := by
  induction h with
  | base h => exact hS _ h
  | step _ h ih => exact .step ih h
theorem one_in : v ∈ [v] := List.mem_cons_self
theorem clo_self : Clo R [v] v := .base one_in
theorem clo_cat (h : Clo R [v] w) (h2 : Clo R [w] x) : Clo R [v] x := h2.trans fun y hy => by
  rcases List.mem_cons.mp hy with e | e
  · rw [e]
    exact h
  · cases e
/-- v and w hang together in A -/
abbrev Con (d : Dr) (A : List Int) (v w : Int) : Prop := Clo (bothIn d A) [v] w
theorem bothIn_symm (h : (x, y) ∈ bothIn d A) : (y, x) ∈ bothIn d A := by
  rw [mem_bothIn] at h ⊢
  exact ⟨h.1.symm, h.2.symm⟩
theorem Con.symm (h : Con d A v w) : Con d A w v := by
  induction h with
  | base h =>
    rcases List.mem_cons.mp h with e | e
    · rw [e]
      exact clo_self
    · cases e
  | step h1 h2 ih => exact clo_cat (.step clo_self (bothIn_symm h2)) ih
theorem Con.mem (h : Con d A v w) (hv : v ∈ A) : w ∈ A := by
  cases h with
  | base h =>
    rcases List.mem_cons.mp h with e | e
    · rw [e]
      exact hv
    · cases e
  | step h1 h2 => exact (mem_bothIn.mp h2).1.2
theorem bothIn_mono (hs : ∀ x ∈ A, x ∈ B) : ∀ p ∈ bothIn d A, p ∈ bothIn d B := fun p hp => by
  have := mem_bothIn.mp (show (p.1, p.2) ∈ bothIn d A from hp)
  exact mem_bothIn.mpr ⟨⟨hs _ this.1.1, hs _ this.1.2⟩, this.2⟩
theorem Con.mono (hs : ∀ x ∈ A, x ∈ B) (h : Con d A v w) : Con d B v w := Clo.up (bothIn_mono hs) (fun _ h => h) h
/-- .. within what hangs together with v -/
theorem Con.within {D : List Int} (hD : ∀ x, Con d A v x → x ∈ D) (h : Con d A v w) : Con d D v w := by
  induction h with
  | base h => exact .base h
  | step h1 h2 ih => exact .step ih (mem_bothIn.mpr ⟨⟨hD _ h1, hD _ (.step h1 h2)⟩, (mem_bothIn.mp h2).2⟩)
variable (T : Tame d)
section
include T
theorem mem_dist (hv : 0 ≤ v ∧ v < d.a) : x ∈ dist d A v ↔ Con d A v x := by
  unfold dist
  rw [mem_asc]
  exact ⟨fun h => h.2, fun h => ⟨Clo.inR (T.both A).1 (inR_one hv) h, h⟩⟩
theorem dist_self (hv : 0 ≤ v ∧ v < d.a) : v ∈ dist d A v := (mem_dist T hv).mpr clo_self
theorem dist_sub (hA : InR d.a A) (hv : v ∈ A) (h : x ∈ dist d A v) : x ∈ A := ((mem_dist T (hA v hv)).mp h).mem hv
theorem dist_eq (hA : InR d.a A) (hv : v ∈ A) (h : w ∈ dist d A v) : dist d A w = dist d A v := by
  have c := (mem_dist T (hA v hv)).mp h
  refine asc_congr fun x _ _ => ⟨fun q => clo_cat c q, fun q => clo_cat (Con.symm c) q⟩
theorem dist_dist (hA : InR d.a A) (hv : v ∈ A) : dist d (dist d A v) v = dist d A v := by
  refine asc_congr fun x _ _ => ⟨fun q => Con.mono (fun y hy => dist_sub T hA hv hy) q, fun q => Con.within (fun y hy => (mem_dist T (hA v hv)).mpr hy) q⟩
end
theorem dist_sorted : (dist d A v).Pairwise (· < ·) := asc_sorted
theorem dist_inR : InR d.a (dist d A v) := asc_inR
theorem dist_len (hm : d.a ≤ 60) : (dist d A v).length ≤ 60 := by
  have := asc_len (m := d.a) (P := Clo (bothIn d A) [v])
  unfold dist
  omega
/-- the blocks that the loop finds -/
theorem blk_in {D : Int → List Int} {acc : List (List Int)} {b : List Int} (h : b ∈ blk D acc v) : b ∈ acc ∨ b = D v := by
  unfold blk at h
  split at h
  · rcases List.mem_append.mp h with q | q
    · exact .inl q
    · exact .inr (by simpa using q)
  · exact .inl h
theorem blk_of {D : Int → List Int} {acc : List (List Int)} {b : List Int} (h : b ∈ acc) : b ∈ blk D acc v := by
  unfold blk
  split
  · exact List.mem_append_left _ h
  · exact h
theorem blk_cov {D : Int → List Int} {acc : List (List Int)} (hv : v ∈ D v) : ∃ b ∈ blk D acc v, v ∈ b := by
  unfold blk
  split
  · exact ⟨D v, List.mem_append_right _ List.mem_cons_self, hv⟩
  · rename_i h
    obtain ⟨b, hb⟩ := List.exists_mem_of_ne_nil _ h
    obtain ⟨h1, h2⟩ := List.mem_filter.mp hb
    exact ⟨b, h1, tr_iff.mp h2⟩
theorem blks_in {D : Int → List Int} {b : List Int} : ∀ (l : List Int) (acc : List (List Int)), b ∈ l.foldl (blk D) acc → b ∈ acc ∨ ∃ v ∈ l, b = D v
  | [], acc, h => .inl h
  | v :: l, acc, h => by
    rcases blks_in l (blk D acc v) h with q | ⟨w, hw, e⟩
    · rcases blk_in q with q | q
      · exact .inl q
      · exact .inr ⟨v, List.mem_cons_self, q⟩
    · exact .inr ⟨w, List.mem_cons_of_mem _ hw, e⟩
theorem blks_of {D : Int → List Int} {b : List Int} : ∀ (l : List Int) (acc : List (List Int)), b ∈ acc → b ∈ l.foldl (blk D) acc
  | [], acc, h => h
  | v :: l, acc, h => blks_of l (blk D acc v) (blk_of h)
theorem blks_cov {D : Int → List Int} (hD : ∀ v ∈ B, v ∈ D v) : ∀ (l : List Int) (acc : List (List Int)), (∀ v ∈ l, v ∈ B) → ∀ v ∈ l, ∃ b ∈ l.foldl (blk D) acc, v ∈ b
  | [], _, _, v, h => nomatch h
  | u :: l, acc, hl, v, h => by
    rcases List.mem_cons.mp h with e | e
    · subst e
      obtain ⟨b, h1, h2⟩ := blk_cov (acc := acc) (hD v (hl v List.mem_cons_self))
      exact ⟨b, blks_of l _ h1, h2⟩
    · exact blks_cov hD l _ (fun w hw => hl w (List.mem_cons_of_mem _ hw)) v e
include T
theorem mem_distr (hA : InR d.a A) {b : List Int} : b ∈ distr d A ↔ ∃ v ∈ A, b = dist d A v := by
  unfold distr
  rw [mem_srt]
  constructor
  · intro h
    exact (blks_in A [] h).elim (fun z => nomatch z) id
  · rintro ⟨v, hv, rfl⟩
    obtain ⟨b, h1, h2⟩ := blks_cov (D := dist d A) (B := A) (fun w hw => dist_self T (hA w hw)) A [] (fun _ h => h) v hv
    obtain ⟨u, hu, rfl⟩ := (blks_in A [] h1).elim (fun z => nomatch z) id
    rw [dist_eq T hA hu h2]
    exact h1
theorem distr_len (hA : InR d.a A) : (distr d A).length ≤ A.length := by
  unfold distr
  rw [srt_length]
  have := blk_len (D := dist d A) A []
  simpa using this
end
section
variable {d : Dr} {A B S S' H : List Int} {v w x y : Int}
/-- the ancestors of S within A -/
abbrev Anc (d : Dr) (A S : List Int) (x : Int) : Prop := Clo (flip (arrIn d A)) S x
theorem mem_flipIn : (x, y) ∈ flip (arrIn d A) ↔ (y, x) ∈ d.b ∧ y ∈ A ∧ x ∈ A := by
  rw [mem_flip, mem_arrIn]
theorem Anc.mono (hA : ∀ x ∈ A, x ∈ B) (hS : ∀ x ∈ S, x ∈ S') (h : Anc d A S x) : Anc d B S' x := Clo.up (fun p hp => by
  have := mem_flipIn.mp (show (p.1, p.2) ∈ flip (arrIn d A) from hp)
  exact mem_flipIn.mpr ⟨this.1, hA _ this.2.1, hA _ this.2.2⟩) hS h
theorem Anc.mem (hS : ∀ x ∈ S, x ∈ A) (h : Anc d A S x) : x ∈ A := by
  cases h with
  | base h => exact hS _ h
  | step _ h => exact (mem_flipIn.mp h).2.1
theorem Anc.within (hH : ∀ x, Anc d A S x → x ∈ H) (h : Anc d A S x) : Anc d H S x := by
  induction h with
  | base h => exact .base h
  | step h1 h2 ih => exact .step ih (mem_flipIn.mpr ⟨(mem_flipIn.mp h2).1, hH _ (.step h1 h2), hH _ h1⟩)
theorem mem_anc (T : Tame d) (hS : InR d.a S) : x ∈ ancF (partD d A) S ↔ Anc d A S x := by
  unfold ancF
  rw [mem_asc]
  exact ⟨fun h => h.2, fun h => ⟨Clo.inR (inP_flip (T.part A).arr) hS h, h⟩⟩
/-- a district of its own -/
def Conn (d : Dr) (A : List Int) : Prop := ∀ x ∈ A, ∀ y ∈ A, Con d A x y
theorem conn_dist (T : Tame d) (hA : InR d.a A) (hv : v ∈ A) : Conn d (dist d A v) := fun x hx y hy => by
  have hv' := hA v hv
  have cx := (mem_dist T hv').mp (by rw [dist_dist T hA hv]; exact hx)
  have cy := (mem_dist T hv').mp (by rw [dist_dist T hA hv]; exact hy)
  exact clo_cat (Con.symm cx) cy
/-- the near variables -/
noncomputable def nearF (d : Dr) (X Y : List Int) : List Int := ancF (partD d ((upto d.a).filter fun v => tr (v ∉ X))) Y
structure Hedge (d : Dr) (X Y O I : List Int) : Prop where
  ne : I ≠ []
  sub : ∀ x ∈ I, x ∈ O
  hit : ∃ x ∈ O, x ∈ X
  near : ∀ x ∈ I, x ∈ nearF d X Y
  cI : Conn d I
  cO : Conn d O
  anc : ∀ x ∈ O, Anc d O I x
theorem near_inR {X Y : List Int} : InR d.a (nearF d X Y) := asc_inR
/-- what a set of a way to the share of D keeps -/
structure Keeps (d : Dr) (D H : List Int) : Prop where
  srt : H.Pairwise (· < ·)
  inR : InR d.a H
  sub : ∀ x ∈ D, x ∈ H
  all : ∀ O I : List Int, I ≠ [] → (∀ x ∈ I, x ∈ O) → (∀ x ∈ I, x ∈ D) → InR d.a O → Conn d O → (∀ x ∈ O, Anc d O I x) → ∀ x ∈ O, x ∈ H
/-- the last set of the way -/
structure Last (d : Dr) (D H : List Int) : Prop extends Keeps d D H where
  conn : Conn d H
  anc : ∀ x ∈ H, Anc d H D x
theorem keeps_all {D : List Int} (hD : InR d.a D) : Keeps d D (upto d.a) := ⟨upto_sorted _, fun x h => mem_upto.mp h, fun x h => mem_upto.mpr (hD x h), fun O I _ _ _ hO _ _ x hx => mem_upto.mpr (hO x hx)⟩
theorem keeps_cut (T : Tame d) {D : List Int} {t : Int} (k : Keeps d D H) (ht : t ∈ D) (cD : Conn d D) : Keeps d D (dist d H t) := by
  have t' := k.inR t (k.sub t ht)
  refine ⟨dist_sorted, dist_inR, fun x hx => (mem_dist T t').mpr ((cD t ht x hx).mono k.sub), fun O I hn h1 h2 h3 h4 h5 x hx => ?_⟩
  have sO := k.all O I hn h1 h2 h3 h4 h5
  obtain ⟨i, hi⟩ := List.exists_mem_of_ne_nil _ hn
  exact (mem_dist T t').mpr (clo_cat ((cD t ht i (h2 i hi)).mono k.sub) ((h4 i (h1 i hi) x hx).mono sO))
theorem keeps_sum (T : Tame d) {D : List Int} (k : Keeps d D H) : Keeps d D (ancF (partD d H) D) := by
  have hD : InR d.a D := fun x h => k.inR x (k.sub x h)
  refine ⟨asc_sorted, asc_inR, fun x hx => (mem_anc T hD).mpr (.base hx), fun O I hn h1 h2 h3 h4 h5 x hx => ?_⟩
  exact (mem_anc T hD).mpr ((h5 x hx).mono (k.all O I hn h1 h2 h3 h4 h5) h2)
theorem last_of (T : Tame d) {D : List Int} {t : Int} (k : Keeps d D H) (ht : t ∈ D) (cD : Conn d D) (e : ancF (partD d (dist d H t)) D = dist d H t) : Last d D (dist d H t) := by
  have hD : InR d.a D := fun x h => k.inR x (k.sub x h)
  refine ⟨keeps_cut T k ht cD, conn_dist T k.inR (k.sub t ht), fun x hx => ?_⟩
  rw [← e] at hx
  exact (mem_anc T hD).mp hx
/-- a question's sets -/
structure Qu (d : Dr) (X Y : List Int) : Prop where
  good : Good d
  iX : InR d.a X
  iY : InR d.a Y
  sX : X.Pairwise (· < ·)
  sY : Y.Pairwise (· < ·)
  off : ∀ x ∈ X, x ∉ Y
  ne : Y ≠ []
theorem Qu.dist_near {X Y : List Int} (q : Qu d X Y) {D : List Int} (hD : D ∈ distr d (nearF d X Y)) : ∃ v ∈ nearF d X Y, D = dist d (nearF d X Y) v ∧ v ∈ D ∧ Conn d D ∧ (∀ x ∈ D, x ∈ nearF d X Y) ∧ InR d.a D := by
  obtain ⟨v, hv, rfl⟩ := (mem_distr q.good.tame near_inR).mp hD
  exact ⟨v, hv, rfl, dist_self q.good.tame (near_inR v hv), conn_dist q.good.tame near_inR hv, fun x hx => dist_sub q.good.tame near_inR hv hx, dist_inR⟩
def Told (d : Dr) (X Y : List Int) : Prop := ¬ ∃ O I : List Int, InR d.a O ∧ Hedge d X Y O I
end
end VL

/-! plain side: questions, ways to shares -/
namespace VL
open PySem
open Enc
local macro_rules | `(tactic| walk_at "sz") => `(tactic| (first
  | assumption
  | omega
  | exact len_nil
  | ((with_reducible apply len_filter); walk_at "sz")
  | ((with_reducible apply len_map); walk_at "sz")
  | ((with_reducible apply len_srt); walk_at "sz")
  | ((with_reducible apply len_asc); omega)
  | ((with_reducible apply len_upto); omega)
  | ((with_reducible apply len_fromto); omega)
  | ((with_reducible apply len_app); (walk_at "sz"); (walk_at "sz"))
  | ((with_reducible apply len_sum); (walk_at "sz"); (walk_at "sz"))
  | ((with_reducible apply len_drop); walk_at "sz")
  | ((with_reducible apply len_take); walk_at "sz")
  | ((with_reducible apply len_rev); walk_at "sz")
  | ((with_reducible apply len_cons); (walk_at "sz"); (omega))))
local macro_rules | `(tactic| walk_at "call") => `(tactic| (first | assumption | solve_by_elim))
local macro_rules | `(tactic| walk_at "args") => `(tactic| (first
  | exact evs_nil
  | ((with_reducible apply evs_cons); (walk_at "ev"); (walk_at "args"))))
local macro_rules | `(tactic| walk_at "ev") => `(tactic| (first
  | ((with_reducible apply ev_var); rfl)
  | (with_reducible exact ev_ci)
  | (with_reducible exact ev_cb)
  | (with_reducible exact ev_cst)
  | ((with_reducible apply ev_call'); (walk_at "args"); (walk_at "call"))
  | ((with_reducible apply eb_and); (walk_at "ev"); (intro _; walk_at "ev"))
  | ((with_reducible apply eb_or); (walk_at "ev"); (intro _; walk_at "ev"))
  | ((with_reducible apply eb_not); (walk_at "ev"))
  | ((with_reducible apply eb_in); (walk_at "ev"); (walk_at "ev"); decide)
  | ((with_reducible apply eb_notin); (walk_at "ev"); (walk_at "ev"); decide)
  | ((with_reducible apply eb_eq); (walk_at "ev"); (walk_at "ev"); decide)
  | ((with_reducible apply eb_ne); (walk_at "ev"); (walk_at "ev"); decide)
  | ((with_reducible apply eb_lt); (walk_at "ev"); (walk_at "ev"))
  | ((with_reducible apply eb_le); (walk_at "ev"); (walk_at "ev"))
  | ((with_reducible apply eb_gt); (walk_at "ev"); (walk_at "ev"))
  | ((with_reducible apply eb_ge); (walk_at "ev"); (walk_at "ev"))
  | ((with_reducible apply eb_chain_lt); (walk_at "ev"); (walk_at "ev"); (walk_at "ev"))
  | ((with_reducible apply eb_isN); (walk_at "ev"))
  | ((with_reducible apply eb_notN); (walk_at "ev"))
  | ((with_reducible apply eb_isB); (walk_at "ev"))
  | ((with_reducible apply eb_notB); (walk_at "ev"))
  | ((with_reducible apply eb_lend); (walk_at "ev"))
  | ((with_reducible apply eb_all); (walk_at "ev"))
  | ((with_reducible apply eb_any); (walk_at "ev"))
  | ((with_reducible apply ev_lenL); (walk_at "ev"))
  | ((with_reducible apply ev_neg); (walk_at "ev"))
  | ((with_reducible apply ev_sub); (walk_at "ev"); (walk_at "ev"))
  | ((with_reducible apply ev_addI); (walk_at "ev"); (walk_at "ev"))
  | ((with_reducible apply ev_addL); (walk_at "ev"); (walk_at "ev"); (walk_at "sz"))
  | ((with_reducible apply ev_mul); (walk_at "ev"); (walk_at "ev"); omega; omega)
  | ((with_reducible apply ev_int); (walk_at "ev"))
  | ((with_reducible apply ev_intb); (walk_at "ev"))
  | ((with_reducible apply ev_max); (walk_at "ev"); (walk_at "ev"))
  | ((with_reducible apply ev_min); (walk_at "ev"); (walk_at "ev"))
  | ((with_reducible apply ev_ta); (walk_at "ev"))
  | ((with_reducible apply ev_tb); (walk_at "ev"))
  | ((with_reducible apply ev_tc); (walk_at "ev"))
  | ((with_reducible apply ev_pa); (walk_at "ev"))
  | ((with_reducible apply ev_pb); (walk_at "ev"))
  | ((with_reducible apply ev_ix); (walk_at "ev"); (walk_at "ev"); (assumption))
  | ((with_reducible apply ev_pair); (walk_at "ev"); (walk_at "ev"))
  | ((with_reducible apply ev_trip); (walk_at "ev"); (walk_at "ev"); (walk_at "ev"))
  | ((with_reducible apply ev_l1); (walk_at "ev"))
  | ((with_reducible apply ev_l2); (walk_at "ev"); (walk_at "ev"))
  | ((with_reducible apply ev_rng); (walk_at "ev"); omega; omega)
  | ((with_reducible apply ev_rng2); (walk_at "ev"); (walk_at "ev"); omega; omega; omega; omega)
  | ((with_reducible apply ev_listof); (walk_at "ev"))
  | ((with_reducible apply ev_rev); (walk_at "ev"))
  | ((with_reducible apply ev_drop); (walk_at "ev"); (walk_at "ev"); omega)
  | ((with_reducible apply ev_take); (walk_at "ev"); (walk_at "ev"); omega)
  | ((with_reducible apply ev_sorted); (walk_at "ev"); (first | infer_instance | assumption))
  | ((with_reducible apply ec_filter); (walk_at "ev"); rfl; (intro _ _; walk_at "ev"); (walk_at "sz"))
  | ((with_reducible apply ec_map2); (walk_at "ev"); rfl; rfl; (intro _ _; walk_at "ev"); (walk_at "sz"))
  | ((with_reducible apply ec_both2); (walk_at "ev"); rfl; rfl; (intro _ _; walk_at "ev"); (intro _ _ _; walk_at "ev"); (walk_at "sz"))
  | ((with_reducible apply ec_map); (walk_at "ev"); rfl; (intro _ _; walk_at "ev"); (walk_at "sz"))
  | ((with_reducible apply ec_both); (walk_at "ev"); rfl; (intro _ _; walk_at "ev"); (intro _ _ _; walk_at "ev"); (walk_at "sz"))
  | (with_reducible exact ev_l0)
  | ((with_reducible apply ev_ite); (walk_at "ev"); (intro _; walk_at "ev"); (intro _; walk_at "ev"))))

/-- the words of steps -/
inductive Kd where
  | seen | sum | cut | big | no
  deriving DecidableEq
def Kd.word : Kd → Str
  | .seen => "seen"
  | .sum => "sum"
  | .cut => "cut"
  | .big => "Sum"
  | .no => ""
instance encKd : Enc Kd where
  enc := fun k => .str k.word
  dep := 0
  eqv := fun a b => by cases a <;> cases b <;> decide
  lay := fun a => by
    simp only [PyData.canLay0]
    cases a <;> exact strOk_of _
  depth := fun a => by simp [PyData.depth]
abbrev Step' := Tr Kd Int (List Int)
theorem atI_nat {α : Type} {xs : List α} {j : Nat} {x : α} (h : xs[j]? = some x) : L2.atI xs (j : Int) = some x := by
  have hj := getElem_lt h
  unfold L2.atI L2.ixN
  rw [if_pos (by omega), if_pos (by omega)]
  exact h
theorem atI_zero {α : Type} {l : List α} {x : α} : L2.atI (x :: l) 0 = some x := atI_nat (j := 0) rfl
theorem atI_last {α : Type} {l : List α} {x : α} : L2.atI (l ++ [x]) (-1) = some x := by
  unfold L2.atI L2.ixN
  rw [if_neg (by omega), if_pos (by rw [List.length_append, List.length_singleton]; omega)]
  show (l ++ [x])[_]? = some x
  rw [show ((-1 : Int) + ((l ++ [x]).length : Nat)).toNat = l.length by rw [List.length_append, List.length_singleton]; omega]
  simp
/-- the program's own defs -/
structure P0 (Pr : Prog) : Prop where
  p0 : Pr 0 = some k_first_bad
  p1 : Pr 1 = some k_rest_of
  p2 : Pr 2 = some k_on_rounds
  p3 : Pr 3 = some k_check_drawing
  p4 : Pr 4 = some k_reached
  p12 : Pr 12 = some k_check_set
  p16 : Pr 16 = some k_part_of
  p28 : Pr 28 = some k_ancestors_of
  p32 : Pr 32 = some k_districts_of
structure P1 (Pr : Prog) : Prop extends P0 Pr where
  p162 : Pr 162 = some k_check_question
  p163 : Pr 163 = some k_inner_of
  p164 : Pr 164 = some k_home_of
  p165 : Pr 165 = some k_led_to
  p166 : Pr 166 = some k_joined
  p167 : Pr 167 = some k_derivation_of
  p168 : Pr 168 = some k_is_told
  p516 : Pr 516 = some k_derivation_v2
section
variable {cf : Nat → List Val → Res Val} {ρ : Env} {k d : Nat}
theorem ev_kseen : evalE cf k (.cst (.str "seen")) ρ = .ok (encKd.enc .seen) := rfl
theorem ev_ksum : evalE cf k (.cst (.str "sum")) ρ = .ok (encKd.enc .sum) := rfl
theorem ev_kcut : evalE cf k (.cst (.str "cut")) ρ = .ok (encKd.enc .cut) := rfl
end
section
variable {Pr : Prog} {n : Nat} {d : Dr} {A X Y D : List Int} {v : Int}
theorem ev_home_of (P : P0 Pr) (h : Pr 164 = some k_home_of) (T : Tame d) (hA : InR d.a A) (lA : A.length ≤ 1000) {t : Int} {D' : List Int} (ht : t ∈ A) : evalD Pr (n + 3) 164 [enc d, enc A, enc (t :: D')] = .ok (enc (dist d A t)) := by
  have f1 : evalD Pr (n + 2) 32 [enc d, enc A] = .ok (enc (distr d A)) := ev_distr P.p4 P.p32 T hA lA
  have ld := distr_len T hA
  have hx : L2.atI ((distr d A).filter fun D => tr (t ∈ D)) (0 : Int) = some (dist d A t) := by
    cases e : (distr d A).filter fun D => tr (t ∈ D) with
    | nil =>
      have : dist d A t ∈ (distr d A).filter fun D => tr (t ∈ D) := List.mem_filter.mpr ⟨(mem_distr T hA).mpr ⟨t, ht, rfl⟩, tr_true (dist_self T (hA t ht))⟩
      rw [e] at this
      cases this
    | cons b r =>
      have hb : b ∈ (distr d A).filter fun D => tr (t ∈ D) := by rw [e]; exact List.mem_cons_self
      obtain ⟨h1, h2⟩ := List.mem_filter.mp hb
      obtain ⟨v, hv, rfl⟩ := (mem_distr T hA).mp h1
      rw [← dist_eq T hA hv (tr_iff.mp h2)]
      exact atI_zero
  have hx0 : L2.atI (t :: D') (0 : Int) = some t := atI_zero
  refine evalD_rt h rfl (ss_ret ?_)
  walk_at "ev"
end
end VL

/-! plain side: the way to a district's share -/
namespace VL
open PySem
open Enc
local macro_rules | `(tactic| walk_at "sz") => `(tactic| (first
  | assumption
  | omega
  | exact len_nil
  | ((with_reducible apply len_filter); walk_at "sz")
  | ((with_reducible apply len_map); walk_at "sz")
  | ((with_reducible apply len_srt); walk_at "sz")
  | ((with_reducible apply len_asc); omega)
  | ((with_reducible apply len_upto); omega)
  | ((with_reducible apply len_fromto); omega)
  | ((with_reducible apply len_app); (walk_at "sz"); (walk_at "sz"))
  | ((with_reducible apply len_sum); (walk_at "sz"); (walk_at "sz"))
  | ((with_reducible apply len_drop); walk_at "sz")
  | ((with_reducible apply len_take); walk_at "sz")
  | ((with_reducible apply len_rev); walk_at "sz")
  | ((with_reducible apply len_cons); (walk_at "sz"); (omega))))
local macro_rules | `(tactic| walk_at "call") => `(tactic| (first | assumption | solve_by_elim))
local macro_rules | `(tactic| walk_at "args") => `(tactic| (first
  | exact evs_nil
  | ((with_reducible apply evs_cons); (walk_at "ev"); (walk_at "args"))))
local macro_rules | `(tactic| walk_at "ev") => `(tactic| (first
  | ((with_reducible apply ev_var); rfl)
  | (with_reducible exact ev_ci)
  | (with_reducible exact ev_cb)
  | (with_reducible exact ev_cst)
  | ((with_reducible apply ev_call'); (walk_at "args"); (walk_at "call"))
  | ((with_reducible apply eb_and); (walk_at "ev"); (intro _; walk_at "ev"))
  | ((with_reducible apply eb_or); (walk_at "ev"); (intro _; walk_at "ev"))
  | ((with_reducible apply eb_not); (walk_at "ev"))
  | ((with_reducible apply eb_in); (walk_at "ev"); (walk_at "ev"); decide)
  | ((with_reducible apply eb_notin); (walk_at "ev"); (walk_at "ev"); decide)
  | ((with_reducible apply eb_eq); (walk_at "ev"); (walk_at "ev"); decide)
  | ((with_reducible apply eb_ne); (walk_at "ev"); (walk_at "ev"); decide)
  | ((with_reducible apply eb_lt); (walk_at "ev"); (walk_at "ev"))
  | ((with_reducible apply eb_le); (walk_at "ev"); (walk_at "ev"))
  | ((with_reducible apply eb_gt); (walk_at "ev"); (walk_at "ev"))
  | ((with_reducible apply eb_ge); (walk_at "ev"); (walk_at "ev"))
  | ((with_reducible apply eb_chain_lt); (walk_at "ev"); (walk_at "ev"); (walk_at "ev"))
  | ((with_reducible apply eb_isN); (walk_at "ev"))
  | ((with_reducible apply eb_notN); (walk_at "ev"))
  | ((with_reducible apply eb_isB); (walk_at "ev"))
  | ((with_reducible apply eb_notB); (walk_at "ev"))
  | ((with_reducible apply eb_lend); (walk_at "ev"))
  | ((with_reducible apply eb_all); (walk_at "ev"))
  | ((with_reducible apply eb_any); (walk_at "ev"))
  | ((with_reducible apply ev_lenL); (walk_at "ev"))
  | ((with_reducible apply ev_neg); (walk_at "ev"))
  | ((with_reducible apply ev_sub); (walk_at "ev"); (walk_at "ev"))
  | ((with_reducible apply ev_addI); (walk_at "ev"); (walk_at "ev"))
  | ((with_reducible apply ev_addL); (walk_at "ev"); (walk_at "ev"); (walk_at "sz"))
  | ((with_reducible apply ev_mul); (walk_at "ev"); (walk_at "ev"); omega; omega)
  | ((with_reducible apply ev_int); (walk_at "ev"))
  | ((with_reducible apply ev_intb); (walk_at "ev"))
  | ((with_reducible apply ev_max); (walk_at "ev"); (walk_at "ev"))
  | ((with_reducible apply ev_min); (walk_at "ev"); (walk_at "ev"))
  | ((with_reducible apply ev_ta); (walk_at "ev"))
  | ((with_reducible apply ev_tb); (walk_at "ev"))
  | ((with_reducible apply ev_tc); (walk_at "ev"))
  | ((with_reducible apply ev_pa); (walk_at "ev"))
  | ((with_reducible apply ev_pb); (walk_at "ev"))
  | ((with_reducible apply ev_ix); (walk_at "ev"); (walk_at "ev"); (assumption))
  | ((with_reducible apply ev_pair); (walk_at "ev"); (walk_at "ev"))
  | ((with_reducible apply ev_trip); (walk_at "ev"); (walk_at "ev"); (walk_at "ev"))
  | ((with_reducible apply ev_l1); (walk_at "ev"))
  | ((with_reducible apply ev_l2); (walk_at "ev"); (walk_at "ev"))
  | ((with_reducible apply ev_rng); (walk_at "ev"); omega; omega)
  | ((with_reducible apply ev_rng2); (walk_at "ev"); (walk_at "ev"); omega; omega; omega; omega)
  | ((with_reducible apply ev_listof); (walk_at "ev"))
  | ((with_reducible apply ev_rev); (walk_at "ev"))
  | ((with_reducible apply ev_drop); (walk_at "ev"); (walk_at "ev"); omega)
  | ((with_reducible apply ev_take); (walk_at "ev"); (walk_at "ev"); omega)
  | ((with_reducible apply ev_sorted); (walk_at "ev"); (first | infer_instance | assumption))
  | ((with_reducible apply ec_filter); (walk_at "ev"); rfl; (intro _ _; walk_at "ev"); (walk_at "sz"))
  | ((with_reducible apply ec_map2); (walk_at "ev"); rfl; rfl; (intro _ _; walk_at "ev"); (walk_at "sz"))
  | ((with_reducible apply ec_both2); (walk_at "ev"); rfl; rfl; (intro _ _; walk_at "ev"); (intro _ _ _; walk_at "ev"); (walk_at "sz"))
  | ((with_reducible apply ec_map); (walk_at "ev"); rfl; (intro _ _; walk_at "ev"); (walk_at "sz"))
  | ((with_reducible apply ec_both); (walk_at "ev"); rfl; (intro _ _; walk_at "ev"); (intro _ _ _; walk_at "ev"); (walk_at "sz"))
  | (with_reducible exact ev_l0)
  | ((with_reducible apply ev_ite); (walk_at "ev"); (intro _; walk_at "ev"); (intro _; walk_at "ev"))))

/-- a step from the share of outer -/
def okSt (d : Dr) (outer : List Int) (k : Kd) (told : List Int) : Prop := match k with
  | .sum => (∀ x ∈ told, x ∈ outer) ∧ told.Pairwise (· < ·) ∧ ancF (partD d outer) told = told
  | .cut => told ∈ distr d outer
  | _ => False
/-- one step behind the other -/
inductive Chain (d : Dr) : List Step' → Prop
  | one : Chain d [⟨.seen, -1, upto d.a⟩]
  | more {pre : List Step'} {l : Step'} {k : Kd} {told : List Int} : Chain d (pre ++ [l]) → okSt d l.c k told → Chain d (pre ++ [l] ++ [⟨k, ((pre.length : Nat) : Int), told⟩])
theorem less_len {l l' : List Int} (h : l.Pairwise (· < ·)) (h' : l'.Pairwise (· < ·)) (s : ∀ x ∈ l, x ∈ l') (ne : l ≠ l') : l.length < l'.length := by
  have : ∃ y ∈ l', y ∉ l := Classical.byContradiction fun no => ne (asc_ext h h' fun x => ⟨s x, fun hx => Classical.byContradiction fun z => no ⟨x, hx, z⟩⟩)
  obtain ⟨y, h1, h2⟩ := this
  exact nodup_lt (nodup_of_sorted h) s h1 h2
theorem sub_len {l l' : List Int} (h : l.Pairwise (· < ·)) (s : ∀ x ∈ l, x ∈ l') : l.length ≤ l'.length := nodup_le (nodup_of_sorted h) s
/-- what led_to tells of the district D -/
structure LedQ (d : Dr) (D : List Int) (r : List Step' × List Int) : Prop where
  chain : Chain d r.1
  last : ∃ pre l, r.1 = pre ++ [l] ∧ l.c = r.2
  ok : Last d D r.2
  len : r.1.length ≤ 27
section
variable {Pr : Prog} {n : Nat} {d : Dr} {D : List Int}
theorem ev_led_to (P : P0 Pr) (h164 : Pr 164 = some k_home_of) (h : Pr 165 = some k_led_to) (g : Good d) (hn : D ≠ []) (hD : InR d.a D) (cD : Conn d D) (lD : D.length ≤ 1000) : ∃ r : List Step' × List Int, evalD Pr (n + 5) 165 [enc d, enc D] = .ok (enc r) ∧ LedQ d D r := by
  have m12 := g.m12
  have m1 := g.m1
  have T := g.tame
  obtain ⟨t, D', eD⟩ := List.exists_cons_of_ne_nil hn
  have tD : t ∈ D := by rw [eD]; exact List.mem_cons_self
  obtain ⟨v, hv, r, hr, q⟩ := wp_def (n := n + 4) (Q := fun v => ∃ r : List Step' × List Int, v = enc r ∧ LedQ d D r) (vs := [enc d, enc D]) h rfl (by
    refine wp_set (v := enc [(⟨.seen, -1, upto d.a⟩ : Step')]) ?_ rfl rfl ?_
    · refine ev_l1 (i1 := instEncTr) (ev_trip (i1 := encKd) (x := Kd.seen) (y := (-1 : Int)) (z := upto d.a) ev_kseen ?_ ?_)
      · walk_at "ev"
      · walk_at "ev"
    refine wp_whl (fun (s : List Step' × List Int) (j : Option (Val × Nat) × Option (Val × Nat) × Option (Val × Nat)) => [some (enc d, 0), some (enc D, 0), some (enc s.1, 1), j.1, j.2.1, j.2.2]) (fun s => (∃ pre l, s.1 = pre ++ [l] ∧ l.c = s.2) ∧ Chain d s.1 ∧ Keeps d D s.2 ∧ s.1.length + 2 * s.2.length ≤ 25) (fun s => s.2.length) (fun _ => true) ([⟨.seen, -1, upto d.a⟩], upto d.a) (none, none, none) rfl ⟨⟨[], _, rfl, rfl⟩, .one, keeps_all hD, by simp [upto_length]; omega⟩ (by simp only [upto_length]; omega) (fun _ _ _ => rfl) ?_ (fun _ _ _ z => nomatch z)
    rintro ⟨steps, outer⟩ ⟨j1, j2, j3⟩ ⟨⟨pre, l, e1, e2⟩, ch, ke, ln⟩ _
    simp only at e1 e2 ch ke ln
    subst e2
    have hl : L2.atI steps (-1) = some l := by rw [e1]; exact atI_last
    have lo : l.c.length ≤ 12 := by
      have := below_len (nodup_of_sorted ke.srt) ke.inR
      omega
    let home := dist d l.c t
    have kh := keeps_cut T ke tD cD
    have lh : home.length ≤ l.c.length := sub_len dist_sorted fun x hx => dist_sub T ke.inR (ke.sub t tD) hx
    have f1 : evalD Pr (n + 4) 164 [enc d, enc l.c, enc D] = .ok (enc home) := by
      rw [eD]
      exact ev_home_of (n := n + 1) P h164 T ke.inR (by omega) (ke.sub t tD)
    have f2 : evalD Pr (n + 4) 16 [enc d, enc home] = .ok (enc (partD d home)) := ev_part_of (n := n + 3) P.p16 T
    have f3 : evalD Pr (n + 4) 28 [enc (partD d home), enc D] = .ok (enc (ancF (partD d home) D)) := ev_anc (n := n + 2) P.p4 P.p28 (T.part home) hD (by omega)
    let ahead := ancF (partD d home) D
    have ka := keeps_sum T kh
    have la : ahead.length ≤ home.length := sub_len asc_sorted fun x hx => ((mem_anc T hD).mp hx).mem kh.sub
    -- the steps behind the cut
    let st1 : List Step' := if home = l.c then steps else steps ++ [⟨.cut, ((pre.length : Nat) : Int), home⟩]
    have c1 : (∃ pre' l', st1 = pre' ++ [l'] ∧ l'.c = home) ∧ Chain d st1 ∧ st1.length ≤ steps.length + 1 := by
      show (∃ pre' l', (if home = l.c then steps else _) = pre' ++ [l'] ∧ l'.c = home) ∧ Chain d (if home = l.c then steps else _) ∧ (if home = l.c then steps else _).length ≤ _
      split
      · rename_i e
        exact ⟨⟨pre, l, e1, e.symm⟩, ch, by omega⟩
      · refine ⟨⟨steps, _, rfl, rfl⟩, ?_, by simp⟩
        rw [e1] at ch ⊢
        exact ch.more ((mem_distr T ke.inR).mpr ⟨t, ke.sub t tD, rfl⟩)
    obtain ⟨⟨pre2, l2, e3, e4⟩, ch2, ln2⟩ := c1
    have ls : steps.length = pre.length + 1 := by rw [e1]; simp
    have ls2 : st1.length = pre2.length + 1 := by rw [e3]; simp
    refine wp_set (v := enc l.c) (by walk_at "ev") rfl rfl (wp_set (v := enc home) (by walk_at "ev") rfl rfl ?_)
    refine wp_ifn (p := tr (¬ home = l.c)) (ρ' := [some (enc d, 0), some (enc D, 0), some (enc st1, 1), some (enc l.c, 0), some (enc home, 0), j3]) (by walk_at "ev") (fun q => ?_) (fun q => ?_) ?_
    · have es : st1 = steps ++ [⟨.cut, ((pre.length : Nat) : Int), home⟩] := if_neg (tr_iff.mp q)
      rw [es]
      refine st_app (i1 := instEncTr) (xs := steps) (x := (⟨.cut, ((pre.length : Nat) : Int), home⟩ : Step')) ?_ rfl (by omega) rfl rfl
      have : ((pre.length : Nat) : Int) = ((steps.length : Nat) : Int) - 1 := by omega
      rw [this]
      refine ev_trip (i1 := encKd) ev_kcut ?_ ?_
      · walk_at "ev"
      · walk_at "ev"
    · have es : st1 = steps := if_pos (Classical.byContradiction fun z => tr_not.mp q z)
      rw [es]
      rfl
    refine wp_set (v := enc ahead) (by walk_at "ev") rfl rfl ?_
    refine wp_if (p := tr (ahead = home)) (by walk_at "ev") (fun q => ?_) (fun q => ?_)
    · refine wp_frz rfl (wp_ret (v := enc (st1, home)) (ev_pair (i1 := instEncList) (i2 := instEncList) (x := st1) (y := home) rfl rfl) ?_)
      exact .inr (.inl ⟨_, rfl, rt_of ⟨(st1, home), rfl, ch2, ⟨pre2, l2, e3, e4⟩, last_of T ke tD cD (tr_iff.mp q), by show st1.length ≤ 27; omega⟩⟩)
    · have q' := tr_not.mp q
      refine wp_nil ?_
      refine wp_app (i1 := instEncTr) (xs := st1) (x := (⟨.sum, ((pre2.length : Nat) : Int), ahead⟩ : Step')) ?_ rfl (by omega) rfl (wp_nil ?_)
      · have : ((pre2.length : Nat) : Int) = ((st1.length : Nat) : Int) - 1 := by omega
        rw [this]
        refine ev_trip (i1 := encKd) ev_ksum ?_ ?_
        · walk_at "ev"
        · walk_at "ev"
      have lt := less_len asc_sorted dist_sorted (fun x hx => ((mem_anc T hD).mp hx).mem kh.sub) q'
      refine .inl ⟨(st1 ++ [⟨.sum, ((pre2.length : Nat) : Int), ahead⟩], ahead), (some (enc l.c, 0), some (enc home, 0), some (enc ahead, 0)), .inl rfl, ⟨⟨st1, _, rfl, rfl⟩, ?_, ka, ?_⟩, ?_⟩
      · rw [e3] at ch2 ⊢
        refine ch2.more ⟨fun x hx => ?_, asc_sorted, ?_⟩
        · rw [e4]
          exact ((mem_anc T hD).mp hx).mem kh.sub
        · rw [e4]
          refine asc_ext asc_sorted asc_sorted fun x => (mem_anc T (S := ahead) asc_inR).trans ?_
          exact ⟨fun h => (mem_anc T hD).mpr (Clo.trans (fun y hy => (mem_anc T hD).mp hy) h), fun h => .base h⟩
      · have lt' : ahead.length < home.length := lt
        simp only [List.length_append, List.length_singleton]
        omega
      · show ahead.length < l.c.length
        have lt' : ahead.length < home.length := lt
        omega)
  exact ⟨r, by rw [hv, hr], q⟩
end
end VL

/-! plain side: ways joined; derivations; hedges that are told -/
namespace VL
open PySem
open Enc
local macro_rules | `(tactic| walk_at "sz") => `(tactic| (first
  | assumption
  | omega
  | exact len_nil
  | ((with_reducible apply len_filter); walk_at "sz")
  | ((with_reducible apply len_map); walk_at "sz")
  | ((with_reducible apply len_srt); walk_at "sz")
  | ((with_reducible apply len_asc); omega)
  | ((with_reducible apply len_upto); omega)
  | ((with_reducible apply len_fromto); omega)
  | ((with_reducible apply len_app); (walk_at "sz"); (walk_at "sz"))
  | ((with_reducible apply len_sum); (walk_at "sz"); (walk_at "sz"))
  | ((with_reducible apply len_drop); walk_at "sz")
  | ((with_reducible apply len_take); walk_at "sz")
  | ((with_reducible apply len_rev); walk_at "sz")
  | ((with_reducible apply len_cons); (walk_at "sz"); (omega))))
local macro_rules | `(tactic| walk_at "call") => `(tactic| (first | assumption | solve_by_elim))
local macro_rules | `(tactic| walk_at "args") => `(tactic| (first
  | exact evs_nil
  | ((with_reducible apply evs_cons); (walk_at "ev"); (walk_at "args"))))
local macro_rules | `(tactic| walk_at "ev") => `(tactic| (first
  | ((with_reducible apply ev_var); rfl)
  | (with_reducible exact ev_ci)
  | (with_reducible exact ev_cb)
  | (with_reducible exact ev_cst)
  | ((with_reducible apply ev_call'); (walk_at "args"); (walk_at "call"))
  | ((with_reducible apply eb_and); (walk_at "ev"); (intro _; walk_at "ev"))
  | ((with_reducible apply eb_or); (walk_at "ev"); (intro _; walk_at "ev"))
  | ((with_reducible apply eb_not); (walk_at "ev"))
  | ((with_reducible apply eb_in); (walk_at "ev"); (walk_at "ev"); decide)
  | ((with_reducible apply eb_notin); (walk_at "ev"); (walk_at "ev"); decide)
  | ((with_reducible apply eb_eq); (walk_at "ev"); (walk_at "ev"); decide)
  | ((with_reducible apply eb_ne); (walk_at "ev"); (walk_at "ev"); decide)
  | ((with_reducible apply eb_lt); (walk_at "ev"); (walk_at "ev"))
  | ((with_reducible apply eb_le); (walk_at "ev"); (walk_at "ev"))
  | ((with_reducible apply eb_gt); (walk_at "ev"); (walk_at "ev"))
  | ((with_reducible apply eb_ge); (walk_at "ev"); (walk_at "ev"))
  | ((with_reducible apply eb_chain_lt); (walk_at "ev"); (walk_at "ev"); (walk_at "ev"))
  | ((with_reducible apply eb_isN); (walk_at "ev"))
  | ((with_reducible apply eb_notN); (walk_at "ev"))
  | ((with_reducible apply eb_isB); (walk_at "ev"))
  | ((with_reducible apply eb_notB); (walk_at "ev"))
  | ((with_reducible apply eb_lend); (walk_at "ev"))
  | ((with_reducible apply eb_all); (walk_at "ev"))
  | ((with_reducible apply eb_any); (walk_at "ev"))
  | ((with_reducible apply ev_lenL); (walk_at "ev"))
  | ((with_reducible apply ev_neg); (walk_at "ev"))
  | ((with_reducible apply ev_sub); (walk_at "ev"); (walk_at "ev"))
  | ((with_reducible apply ev_addI); (walk_at "ev"); (walk_at "ev"))
  | ((with_reducible apply ev_addL); (walk_at "ev"); (walk_at "ev"); (walk_at "sz"))
  | ((with_reducible apply ev_mul); (walk_at "ev"); (walk_at "ev"); omega; omega)
  | ((with_reducible apply ev_int); (walk_at "ev"))
  | ((with_reducible apply ev_intb); (walk_at "ev"))
  | ((with_reducible apply ev_max); (walk_at "ev"); (walk_at "ev"))
  | ((with_reducible apply ev_min); (walk_at "ev"); (walk_at "ev"))
  | ((with_reducible apply ev_ta); (walk_at "ev"))
  | ((with_reducible apply ev_tb); (walk_at "ev"))
  | ((with_reducible apply ev_tc); (walk_at "ev"))
  | ((with_reducible apply ev_pa); (walk_at "ev"))
  | ((with_reducible apply ev_pb); (walk_at "ev"))
  | ((with_reducible apply ev_ix); (walk_at "ev"); (walk_at "ev"); (assumption))
  | ((with_reducible apply ev_pair); (walk_at "ev"); (walk_at "ev"))
  | ((with_reducible apply ev_trip); (walk_at "ev"); (walk_at "ev"); (walk_at "ev"))
  | ((with_reducible apply ev_l1); (walk_at "ev"))
  | ((with_reducible apply ev_l2); (walk_at "ev"); (walk_at "ev"))
  | ((with_reducible apply ev_rng); (walk_at "ev"); omega; omega)
  | ((with_reducible apply ev_rng2); (walk_at "ev"); (walk_at "ev"); omega; omega; omega; omega)
  | ((with_reducible apply ev_listof); (walk_at "ev"))
  | ((with_reducible apply ev_rev); (walk_at "ev"))
  | ((with_reducible apply ev_drop); (walk_at "ev"); (walk_at "ev"); omega)
  | ((with_reducible apply ev_take); (walk_at "ev"); (walk_at "ev"); omega)
  | ((with_reducible apply ev_sorted); (walk_at "ev"); (first | infer_instance | assumption))
  | ((with_reducible apply ec_filter); (walk_at "ev"); rfl; (intro _ _; walk_at "ev"); (walk_at "sz"))
  | ((with_reducible apply ec_map2); (walk_at "ev"); rfl; rfl; (intro _ _; walk_at "ev"); (walk_at "sz"))
  | ((with_reducible apply ec_both2); (walk_at "ev"); rfl; rfl; (intro _ _; walk_at "ev"); (intro _ _ _; walk_at "ev"); (walk_at "sz"))
  | ((with_reducible apply ec_map); (walk_at "ev"); rfl; (intro _ _; walk_at "ev"); (walk_at "sz"))
  | ((with_reducible apply ec_both); (walk_at "ev"); rfl; (intro _ _; walk_at "ev"); (intro _ _ _; walk_at "ev"); (walk_at "sz"))
  | (with_reducible exact ev_l0)
  | ((with_reducible apply ev_ite); (walk_at "ev"); (intro _; walk_at "ev"); (intro _; walk_at "ev"))))

noncomputable def idxF {α : Type} (xs : List α) (x : α) : Nat := xs.findIdx fun z => tr (z = x)
section
variable {cf : Nat → List Val → Res Val} {ρ : Env} {a b : E} {k : Nat}
end
/-- steps that are steps -/
structure SV (d : Dr) (steps : List Step') : Prop where
  first : steps[0]? = some ⟨.seen, -1, upto d.a⟩
  next : ∀ (k : Nat) (x : Step'), 0 < k → steps[k]? = some x → ∃ (s : Nat) (o : Step'), x.b = ((s : Nat) : Int) ∧ s < k ∧ steps[s]? = some o ∧ okSt d o.c x.a x.c
theorem SV.add {d : Dr} {steps : List Step'} (h : SV d steps) {s : Nat} {o : Step'} {k : Kd} {told : List Int} (hs : steps[s]? = some o) (ok : okSt d o.c k told) : SV d (steps ++ [⟨k, ((s : Nat) : Int), told⟩]) where
  first := by
    rw [List.getElem?_append_left (getElem_lt h.first)]
    exact h.first
  next := fun j x hj e => by
    have hl := getElem_lt e
    rw [List.length_append, List.length_singleton] at hl
    by_cases q : j < steps.length
    · rw [List.getElem?_append_left q] at e
      obtain ⟨s', o', h1, h2, h3, h4⟩ := h.next j x hj e
      exact ⟨s', o', h1, h2, by rw [List.getElem?_append_left (by omega)]; exact h3, h4⟩
    · have ej : j = steps.length := by omega
      subst ej
      rw [List.getElem?_append_right (Nat.le_refl _)] at e
      simp at e
      subst e
      exact ⟨s, o, rfl, getElem_lt hs, by rw [List.getElem?_append_left (getElem_lt hs)]; exact hs, ok⟩
section
variable {Pr : Prog} {n : Nat} {d : Dr}
end
end VL

/-! plain side: derivations and hedges -/
namespace VL
open PySem
open Enc
local macro_rules | `(tactic| walk_at "sz") => `(tactic| (first
  | assumption
  | omega
  | exact len_nil
  | ((with_reducible apply len_filter); walk_at "sz")
  | ((with_reducible apply len_map); walk_at "sz")
  | ((with_reducible apply len_srt); walk_at "sz")
  | ((with_reducible apply len_asc); omega)
  | ((with_reducible apply len_upto); omega)
  | ((with_reducible apply len_fromto); omega)
  | ((with_reducible apply len_app); (walk_at "sz"); (walk_at "sz"))
  | ((with_reducible apply len_sum); (walk_at "sz"); (walk_at "sz"))
  | ((with_reducible apply len_drop); walk_at "sz")
  | ((with_reducible apply len_take); walk_at "sz")
  | ((with_reducible apply len_rev); walk_at "sz")
  | ((with_reducible apply len_cons); (walk_at "sz"); (omega))))
local macro_rules | `(tactic| walk_at "call") => `(tactic| (first | assumption | solve_by_elim))
local macro_rules | `(tactic| walk_at "args") => `(tactic| (first
  | exact evs_nil
  | ((with_reducible apply evs_cons); (walk_at "ev"); (walk_at "args"))))
local macro_rules | `(tactic| walk_at "ev") => `(tactic| (first
  | ((with_reducible apply ev_var); rfl)
  | (with_reducible exact ev_ci)
  | (with_reducible exact ev_cb)
  | (with_reducible exact ev_cst)
  | ((with_reducible apply ev_call'); (walk_at "args"); (walk_at "call"))
  | ((with_reducible apply eb_and); (walk_at "ev"); (intro _; walk_at "ev"))
  | ((with_reducible apply eb_or); (walk_at "ev"); (intro _; walk_at "ev"))
  | ((with_reducible apply eb_not); (walk_at "ev"))
  | ((with_reducible apply eb_in); (walk_at "ev"); (walk_at "ev"); decide)
  | ((with_reducible apply eb_notin); (walk_at "ev"); (walk_at "ev"); decide)
  | ((with_reducible apply eb_eq); (walk_at "ev"); (walk_at "ev"); decide)
  | ((with_reducible apply eb_ne); (walk_at "ev"); (walk_at "ev"); decide)
  | ((with_reducible apply eb_lt); (walk_at "ev"); (walk_at "ev"))
  | ((with_reducible apply eb_le); (walk_at "ev"); (walk_at "ev"))
  | ((with_reducible apply eb_gt); (walk_at "ev"); (walk_at "ev"))
  | ((with_reducible apply eb_ge); (walk_at "ev"); (walk_at "ev"))
  | ((with_reducible apply eb_chain_lt); (walk_at "ev"); (walk_at "ev"); (walk_at "ev"))
  | ((with_reducible apply eb_isN); (walk_at "ev"))
  | ((with_reducible apply eb_notN); (walk_at "ev"))
  | ((with_reducible apply eb_isB); (walk_at "ev"))
  | ((with_reducible apply eb_notB); (walk_at "ev"))
  | ((with_reducible apply eb_lend); (walk_at "ev"))
  | ((with_reducible apply eb_all); (walk_at "ev"))
  | ((with_reducible apply eb_any); (walk_at "ev"))
  | ((with_reducible apply ev_lenL); (walk_at "ev"))
  | ((with_reducible apply ev_neg); (walk_at "ev"))
  | ((with_reducible apply ev_sub); (walk_at "ev"); (walk_at "ev"))
  | ((with_reducible apply ev_addI); (walk_at "ev"); (walk_at "ev"))
  | ((with_reducible apply ev_addL); (walk_at "ev"); (walk_at "ev"); (walk_at "sz"))
  | ((with_reducible apply ev_mul); (walk_at "ev"); (walk_at "ev"); omega; omega)
  | ((with_reducible apply ev_int); (walk_at "ev"))
  | ((with_reducible apply ev_intb); (walk_at "ev"))
  | ((with_reducible apply ev_max); (walk_at "ev"); (walk_at "ev"))
  | ((with_reducible apply ev_min); (walk_at "ev"); (walk_at "ev"))
  | ((with_reducible apply ev_ta); (walk_at "ev"))
  | ((with_reducible apply ev_tb); (walk_at "ev"))
  | ((with_reducible apply ev_tc); (walk_at "ev"))
  | ((with_reducible apply ev_pa); (walk_at "ev"))
  | ((with_reducible apply ev_pb); (walk_at "ev"))
  | ((with_reducible apply ev_ix); (walk_at "ev"); (walk_at "ev"); (assumption))
  | ((with_reducible apply ev_pair); (walk_at "ev"); (walk_at "ev"))
  | ((with_reducible apply ev_trip); (walk_at "ev"); (walk_at "ev"); (walk_at "ev"))
  | ((with_reducible apply ev_l1); (walk_at "ev"))
  | ((with_reducible apply ev_l2); (walk_at "ev"); (walk_at "ev"))
  | ((with_reducible apply ev_rng); (walk_at "ev"); omega; omega)
  | ((with_reducible apply ev_rng2); (walk_at "ev"); (walk_at "ev"); omega; omega; omega; omega)
  | ((with_reducible apply ev_listof); (walk_at "ev"))
  | ((with_reducible apply ev_rev); (walk_at "ev"))
  | ((with_reducible apply ev_drop); (walk_at "ev"); (walk_at "ev"); omega)
  | ((with_reducible apply ev_take); (walk_at "ev"); (walk_at "ev"); omega)
  | ((with_reducible apply ev_sorted); (walk_at "ev"); (first | infer_instance | assumption))
  | ((with_reducible apply ec_filter); (walk_at "ev"); rfl; (intro _ _; walk_at "ev"); (walk_at "sz"))
  | ((with_reducible apply ec_map2); (walk_at "ev"); rfl; rfl; (intro _ _; walk_at "ev"); (walk_at "sz"))
  | ((with_reducible apply ec_both2); (walk_at "ev"); rfl; rfl; (intro _ _; walk_at "ev"); (intro _ _ _; walk_at "ev"); (walk_at "sz"))
  | ((with_reducible apply ec_map); (walk_at "ev"); rfl; (intro _ _; walk_at "ev"); (walk_at "sz"))
  | ((with_reducible apply ec_both); (walk_at "ev"); rfl; (intro _ _; walk_at "ev"); (intro _ _ _; walk_at "ev"); (walk_at "sz"))
  | (with_reducible exact ev_l0)
  | ((with_reducible apply ev_ite); (walk_at "ev"); (intro _; walk_at "ev"); (intro _; walk_at "ev"))))

/-- what derivation tells -/
structure DerivQ (d : Dr) (X Y : List Int) (r : List Step' × List Int) : Prop where
  sv : SV d r.1
  len : r.1.length ≤ 400
  len2 : r.2.length = (distr d (nearF d X Y)).length
  ends : ∀ (i : Nat) (D : List Int), (distr d (nearF d X Y))[i]? = some D → ∃ (e : Nat) (o : Step'), r.2[i]? = some ((e : Nat) : Int) ∧ r.1[e]? = some o ∧ o.c = D
/-- what hedge tells -/
structure HedgeQ (d : Dr) (X Y : List Int) (r : List Int × List Int) : Prop where
  hedge : Hedge d X Y r.1 r.2
  s1 : r.1.Pairwise (· < ·)
  s2 : r.2.Pairwise (· < ·)
  i1 : InR d.a r.1
  i2 : InR d.a r.2
section
variable {Pr : Prog} {n : Nat} {d : Dr} {X Y : List Int}
theorem Qu.led (P : P0 Pr) (h164 : Pr 164 = some k_home_of) (h165 : Pr 165 = some k_led_to) (q : Qu d X Y) : ∀ D ∈ distr d (nearF d X Y), ∃ r : List Step' × List Int, evalD Pr (n + 5) 165 [enc d, enc D] = .ok (enc r) ∧ LedQ d D r := fun D hD => by
  obtain ⟨v, hv, eD, vD, cD, sD, iD⟩ := q.dist_near hD
  refine ev_led_to P h164 h165 q.good (fun z => by rw [z] at vD; cases vD) iD cD ?_
  rw [eD]
  have := dist_len (d := d) (A := nearF d X Y) (v := v) (by have := q.good.m12; omega)
  omega
structure PDv (Pr : Prog) : Prop extends P0 Pr where
  p163 : Pr 163 = some k_inner_of
  p164 : Pr 164 = some k_home_of
  p165 : Pr 165 = some k_led_to
  p166 : Pr 166 = some k_joined
  p167 : Pr 167 = some k_derivation_of
theorem P1.dv (P : P1 Pr) : PDv Pr := ⟨P.toP0, P.p163, P.p164, P.p165, P.p166, P.p167⟩
end
end VL

/-! plain side: the checks of derivations and hedges -/
namespace VL
open PySem
open Enc
local macro_rules | `(tactic| walk_at "sz") => `(tactic| (first
  | assumption
  | omega
  | exact len_nil
  | ((with_reducible apply len_filter); walk_at "sz")
  | ((with_reducible apply len_map); walk_at "sz")
  | ((with_reducible apply len_srt); walk_at "sz")
  | ((with_reducible apply len_asc); omega)
  | ((with_reducible apply len_upto); omega)
  | ((with_reducible apply len_fromto); omega)
  | ((with_reducible apply len_app); (walk_at "sz"); (walk_at "sz"))
  | ((with_reducible apply len_sum); (walk_at "sz"); (walk_at "sz"))
  | ((with_reducible apply len_drop); walk_at "sz")
  | ((with_reducible apply len_take); walk_at "sz")
  | ((with_reducible apply len_rev); walk_at "sz")
  | ((with_reducible apply len_cons); (walk_at "sz"); (omega))))
local macro_rules | `(tactic| walk_at "call") => `(tactic| (first | assumption | solve_by_elim))
local macro_rules | `(tactic| walk_at "args") => `(tactic| (first
  | exact evs_nil
  | ((with_reducible apply evs_cons); (walk_at "ev"); (walk_at "args"))))
local macro_rules | `(tactic| walk_at "ev") => `(tactic| (first
  | ((with_reducible apply ev_var); rfl)
  | (with_reducible exact ev_ci)
  | (with_reducible exact ev_cb)
  | (with_reducible exact ev_cst)
  | ((with_reducible apply ev_call'); (walk_at "args"); (walk_at "call"))
  | ((with_reducible apply eb_and); (walk_at "ev"); (intro _; walk_at "ev"))
  | ((with_reducible apply eb_or); (walk_at "ev"); (intro _; walk_at "ev"))
  | ((with_reducible apply eb_not); (walk_at "ev"))
  | ((with_reducible apply eb_in); (walk_at "ev"); (walk_at "ev"); decide)
  | ((with_reducible apply eb_notin); (walk_at "ev"); (walk_at "ev"); decide)
  | ((with_reducible apply eb_eq); (walk_at "ev"); (walk_at "ev"); decide)
  | ((with_reducible apply eb_ne); (walk_at "ev"); (walk_at "ev"); decide)
  | ((with_reducible apply eb_lt); (walk_at "ev"); (walk_at "ev"))
  | ((with_reducible apply eb_le); (walk_at "ev"); (walk_at "ev"))
  | ((with_reducible apply eb_gt); (walk_at "ev"); (walk_at "ev"))
  | ((with_reducible apply eb_ge); (walk_at "ev"); (walk_at "ev"))
  | ((with_reducible apply eb_chain_lt); (walk_at "ev"); (walk_at "ev"); (walk_at "ev"))
  | ((with_reducible apply eb_isN); (walk_at "ev"))
  | ((with_reducible apply eb_notN); (walk_at "ev"))
  | ((with_reducible apply eb_isB); (walk_at "ev"))
  | ((with_reducible apply eb_notB); (walk_at "ev"))
  | ((with_reducible apply eb_lend); (walk_at "ev"))
  | ((with_reducible apply eb_all); (walk_at "ev"))
  | ((with_reducible apply eb_any); (walk_at "ev"))
  | ((with_reducible apply ev_lenL); (walk_at "ev"))
  | ((with_reducible apply ev_neg); (walk_at "ev"))
  | ((with_reducible apply ev_sub); (walk_at "ev"); (walk_at "ev"))
  | ((with_reducible apply ev_addI); (walk_at "ev"); (walk_at "ev"))
  | ((with_reducible apply ev_addL); (walk_at "ev"); (walk_at "ev"); (walk_at "sz"))
  | ((with_reducible apply ev_mul); (walk_at "ev"); (walk_at "ev"); omega; omega)
  | ((with_reducible apply ev_int); (walk_at "ev"))
  | ((with_reducible apply ev_intb); (walk_at "ev"))
  | ((with_reducible apply ev_max); (walk_at "ev"); (walk_at "ev"))
  | ((with_reducible apply ev_min); (walk_at "ev"); (walk_at "ev"))
  | ((with_reducible apply ev_ta); (walk_at "ev"))
  | ((with_reducible apply ev_tb); (walk_at "ev"))
  | ((with_reducible apply ev_tc); (walk_at "ev"))
  | ((with_reducible apply ev_pa); (walk_at "ev"))
  | ((with_reducible apply ev_pb); (walk_at "ev"))
  | ((with_reducible apply ev_ix); (walk_at "ev"); (walk_at "ev"); (assumption))
  | ((with_reducible apply ev_pair); (walk_at "ev"); (walk_at "ev"))
  | ((with_reducible apply ev_trip); (walk_at "ev"); (walk_at "ev"); (walk_at "ev"))
  | ((with_reducible apply ev_l1); (walk_at "ev"))
  | ((with_reducible apply ev_l2); (walk_at "ev"); (walk_at "ev"))
  | ((with_reducible apply ev_rng); (walk_at "ev"); omega; omega)
  | ((with_reducible apply ev_rng2); (walk_at "ev"); (walk_at "ev"); omega; omega; omega; omega)
  | ((with_reducible apply ev_listof); (walk_at "ev"))
  | ((with_reducible apply ev_rev); (walk_at "ev"))
  | ((with_reducible apply ev_drop); (walk_at "ev"); (walk_at "ev"); omega)
  | ((with_reducible apply ev_take); (walk_at "ev"); (walk_at "ev"); omega)
  | ((with_reducible apply ev_sorted); (walk_at "ev"); (first | infer_instance | assumption))
  | ((with_reducible apply ec_filter); (walk_at "ev"); rfl; (intro _ _; walk_at "ev"); (walk_at "sz"))
  | ((with_reducible apply ec_map2); (walk_at "ev"); rfl; rfl; (intro _ _; walk_at "ev"); (walk_at "sz"))
  | ((with_reducible apply ec_both2); (walk_at "ev"); rfl; rfl; (intro _ _; walk_at "ev"); (intro _ _ _; walk_at "ev"); (walk_at "sz"))
  | ((with_reducible apply ec_map); (walk_at "ev"); rfl; (intro _ _; walk_at "ev"); (walk_at "sz"))
  | ((with_reducible apply ec_both); (walk_at "ev"); rfl; (intro _ _; walk_at "ev"); (intro _ _ _; walk_at "ev"); (walk_at "sz"))
  | (with_reducible exact ev_l0)
  | ((with_reducible apply ev_ite); (walk_at "ev"); (intro _; walk_at "ev"); (intro _; walk_at "ev"))))

theorem getD_at {α : Type} {l : List α} {j : Nat} {dflt : α} (h : j < l.length) : l[j]? = some (l.getD j dflt) := by
  rw [List.getD_eq_getElem?_getD, List.getElem?_eq_getElem h]
  rfl
section
variable {Pr : Prog} {n : Nat} {d : Dr} {X Y : List Int} {steps : List Step'}
end
end VL

/-! plain side: the checks of derivations and hedges, 2 -/
namespace VL
open PySem
open Enc
local macro_rules | `(tactic| walk_at "sz") => `(tactic| (first
  | assumption
  | omega
  | exact len_nil
  | ((with_reducible apply len_filter); walk_at "sz")
  | ((with_reducible apply len_map); walk_at "sz")
  | ((with_reducible apply len_srt); walk_at "sz")
  | ((with_reducible apply len_asc); omega)
  | ((with_reducible apply len_upto); omega)
  | ((with_reducible apply len_fromto); omega)
  | ((with_reducible apply len_app); (walk_at "sz"); (walk_at "sz"))
  | ((with_reducible apply len_sum); (walk_at "sz"); (walk_at "sz"))
  | ((with_reducible apply len_drop); walk_at "sz")
  | ((with_reducible apply len_take); walk_at "sz")
  | ((with_reducible apply len_rev); walk_at "sz")
  | ((with_reducible apply len_cons); (walk_at "sz"); (omega))))
local macro_rules | `(tactic| walk_at "call") => `(tactic| (first | assumption | solve_by_elim))
local macro_rules | `(tactic| walk_at "args") => `(tactic| (first
  | exact evs_nil
  | ((with_reducible apply evs_cons); (walk_at "ev"); (walk_at "args"))))
local macro_rules | `(tactic| walk_at "ev") => `(tactic| (first
  | ((with_reducible apply ev_var); rfl)
  | (with_reducible exact ev_ci)
  | (with_reducible exact ev_cb)
  | (with_reducible exact ev_cst)
  | ((with_reducible apply ev_call'); (walk_at "args"); (walk_at "call"))
  | ((with_reducible apply eb_and); (walk_at "ev"); (intro _; walk_at "ev"))
  | ((with_reducible apply eb_or); (walk_at "ev"); (intro _; walk_at "ev"))
  | ((with_reducible apply eb_not); (walk_at "ev"))
  | ((with_reducible apply eb_in); (walk_at "ev"); (walk_at "ev"); decide)
  | ((with_reducible apply eb_notin); (walk_at "ev"); (walk_at "ev"); decide)
  | ((with_reducible apply eb_eq); (walk_at "ev"); (walk_at "ev"); decide)
  | ((with_reducible apply eb_ne); (walk_at "ev"); (walk_at "ev"); decide)
  | ((with_reducible apply eb_lt); (walk_at "ev"); (walk_at "ev"))
  | ((with_reducible apply eb_le); (walk_at "ev"); (walk_at "ev"))
  | ((with_reducible apply eb_gt); (walk_at "ev"); (walk_at "ev"))
  | ((with_reducible apply eb_ge); (walk_at "ev"); (walk_at "ev"))
  | ((with_reducible apply eb_chain_lt); (walk_at "ev"); (walk_at "ev"); (walk_at "ev"))
  | ((with_reducible apply eb_isN); (walk_at "ev"))
  | ((with_reducible apply eb_notN); (walk_at "ev"))
  | ((with_reducible apply eb_isB); (walk_at "ev"))
  | ((with_reducible apply eb_notB); (walk_at "ev"))
  | ((with_reducible apply eb_lend); (walk_at "ev"))
  | ((with_reducible apply eb_all); (walk_at "ev"))
  | ((with_reducible apply eb_any); (walk_at "ev"))
  | ((with_reducible apply ev_lenL); (walk_at "ev"))
  | ((with_reducible apply ev_neg); (walk_at "ev"))
  | ((with_reducible apply ev_sub); (walk_at "ev"); (walk_at "ev"))
  | ((with_reducible apply ev_addI); (walk_at "ev"); (walk_at "ev"))
  | ((with_reducible apply ev_addL); (walk_at "ev"); (walk_at "ev"); (walk_at "sz"))
  | ((with_reducible apply ev_mul); (walk_at "ev"); (walk_at "ev"); omega; omega)
  | ((with_reducible apply ev_int); (walk_at "ev"))
  | ((with_reducible apply ev_intb); (walk_at "ev"))
  | ((with_reducible apply ev_max); (walk_at "ev"); (walk_at "ev"))
  | ((with_reducible apply ev_min); (walk_at "ev"); (walk_at "ev"))
  | ((with_reducible apply ev_ta); (walk_at "ev"))
  | ((with_reducible apply ev_tb); (walk_at "ev"))
  | ((with_reducible apply ev_tc); (walk_at "ev"))
  | ((with_reducible apply ev_pa); (walk_at "ev"))
  | ((with_reducible apply ev_pb); (walk_at "ev"))
  | ((with_reducible apply ev_ix); (walk_at "ev"); (walk_at "ev"); (assumption))
  | ((with_reducible apply ev_pair); (walk_at "ev"); (walk_at "ev"))
  | ((with_reducible apply ev_trip); (walk_at "ev"); (walk_at "ev"); (walk_at "ev"))
  | ((with_reducible apply ev_l1); (walk_at "ev"))
  | ((with_reducible apply ev_l2); (walk_at "ev"); (walk_at "ev"))
  | ((with_reducible apply ev_rng); (walk_at "ev"); omega; omega)
  | ((with_reducible apply ev_rng2); (walk_at "ev"); (walk_at "ev"); omega; omega; omega; omega)
  | ((with_reducible apply ev_listof); (walk_at "ev"))
  | ((with_reducible apply ev_rev); (walk_at "ev"))
  | ((with_reducible apply ev_drop); (walk_at "ev"); (walk_at "ev"); omega)
  | ((with_reducible apply ev_take); (walk_at "ev"); (walk_at "ev"); omega)
  | ((with_reducible apply ev_sorted); (walk_at "ev"); (first | infer_instance | assumption))
  | ((with_reducible apply ec_filter); (walk_at "ev"); rfl; (intro _ _; walk_at "ev"); (walk_at "sz"))
  | ((with_reducible apply ec_map2); (walk_at "ev"); rfl; rfl; (intro _ _; walk_at "ev"); (walk_at "sz"))
  | ((with_reducible apply ec_both2); (walk_at "ev"); rfl; rfl; (intro _ _; walk_at "ev"); (intro _ _ _; walk_at "ev"); (walk_at "sz"))
  | ((with_reducible apply ec_map); (walk_at "ev"); rfl; (intro _ _; walk_at "ev"); (walk_at "sz"))
  | ((with_reducible apply ec_both); (walk_at "ev"); rfl; (intro _ _; walk_at "ev"); (intro _ _ _; walk_at "ev"); (walk_at "sz"))
  | (with_reducible exact ev_l0)
  | ((with_reducible apply ev_ite); (walk_at "ev"); (intro _; walk_at "ev"); (intro _; walk_at "ev"))))

section
variable {Pr : Prog} {n : Nat} {d : Dr} {X Y : List Int} {steps : List Step'}
/-- what a derivation is -/
def Accp (d : Dr) (X Y : List Int) (steps : List Step') (ends : List Int) : Prop :=
  SV d steps ∧ (∀ k ∈ ends, 0 ≤ k ∧ k < ((steps.length : Nat) : Int)) ∧ ends.map (fun k => (steps.getD k.toNat ⟨.no, 0, []⟩).c) = distr d (nearF d X Y)
theorem DerivQ.acc {r : List Step' × List Int} (h : DerivQ d X Y r) : Accp d X Y r.1 r.2 := by
  have at_ : ∀ (i : Nat) (k : Int), r.2[i]? = some k → ∃ (D : List Int) (e : Nat) (o : Step'), (distr d (nearF d X Y))[i]? = some D ∧ k = ((e : Nat) : Int) ∧ r.1[e]? = some o ∧ o.c = D := fun i k e => by
    have hi := getElem_lt e
    rw [h.len2] at hi
    obtain ⟨e', o, h1, h2, h3⟩ := h.ends i _ (List.getElem?_eq_getElem hi)
    rw [h1] at e
    cases e
    exact ⟨_, e', o, List.getElem?_eq_getElem hi, rfl, h2, h3⟩
  refine ⟨h.sv, fun k hk => ?_, ?_⟩
  · obtain ⟨i, e⟩ := List.getElem?_of_mem hk
    obtain ⟨D, e', o, _, h2, h3, _⟩ := at_ i k e
    have := getElem_lt h3
    omega
  · refine List.ext_getElem? fun i => ?_
    rw [List.getElem?_map]
    cases e : r.2[i]? with
    | none =>
      have : ¬ i < r.2.length := fun z => by
        rw [List.getElem?_eq_getElem z] at e
        cases e
      rw [h.len2] at this
      rw [List.getElem?_eq_none (by omega)]
      rfl
    | some k =>
      obtain ⟨D, e', o, h1, h2, h3, h4⟩ := at_ i k e
      rw [h1, h2]
      show some (r.1.getD ((e' : Nat) : Int).toNat _).c = _
      rw [Int.toNat_natCast, List.getD_eq_getElem?_getD, h3]
      exact congrArg some h4
/-! hedges -/
/-- two lists that are a hedge -/
def HL (d : Dr) (X Y O I : List Int) : Prop := (I.Pairwise (· < ·) ∧ O.Pairwise (· < ·) ∧ InR d.a O) ∧ Hedge d X Y O I
theorem HedgeQ.hl {r : List Int × List Int} (h : HedgeQ d X Y r) : HL d X Y r.1 r.2 := ⟨⟨h.s2, h.s1, h.i1⟩, h.hedge⟩
end
end VL

/-! plain side: the laws' own draws; repr -/
namespace VL
open PySem
open Enc
local macro_rules | `(tactic| walk_at "sz") => `(tactic| (first
  | assumption
  | omega
  | exact len_nil
  | ((with_reducible apply len_filter); walk_at "sz")
  | ((with_reducible apply len_map); walk_at "sz")
  | ((with_reducible apply len_srt); walk_at "sz")
  | ((with_reducible apply len_asc); omega)
  | ((with_reducible apply len_upto); omega)
  | ((with_reducible apply len_fromto); omega)
  | ((with_reducible apply len_app); (walk_at "sz"); (walk_at "sz"))
  | ((with_reducible apply len_sum); (walk_at "sz"); (walk_at "sz"))
  | ((with_reducible apply len_drop); walk_at "sz")
  | ((with_reducible apply len_take); walk_at "sz")
  | ((with_reducible apply len_rev); walk_at "sz")
  | ((with_reducible apply len_cons); (walk_at "sz"); (omega))))
local macro_rules | `(tactic| walk_at "call") => `(tactic| (first | assumption | solve_by_elim))
local macro_rules | `(tactic| walk_at "args") => `(tactic| (first
  | exact evs_nil
  | ((with_reducible apply evs_cons); (walk_at "ev"); (walk_at "args"))))
local macro_rules | `(tactic| walk_at "ev") => `(tactic| (first
  | ((with_reducible apply ev_var); rfl)
  | (with_reducible exact ev_ci)
  | (with_reducible exact ev_cb)
  | (with_reducible exact ev_cst)
  | ((with_reducible apply ev_call'); (walk_at "args"); (walk_at "call"))
  | ((with_reducible apply eb_and); (walk_at "ev"); (intro _; walk_at "ev"))
  | ((with_reducible apply eb_or); (walk_at "ev"); (intro _; walk_at "ev"))
  | ((with_reducible apply eb_not); (walk_at "ev"))
  | ((with_reducible apply eb_in); (walk_at "ev"); (walk_at "ev"); decide)
  | ((with_reducible apply eb_notin); (walk_at "ev"); (walk_at "ev"); decide)
  | ((with_reducible apply eb_eq); (walk_at "ev"); (walk_at "ev"); decide)
  | ((with_reducible apply eb_ne); (walk_at "ev"); (walk_at "ev"); decide)
  | ((with_reducible apply eb_lt); (walk_at "ev"); (walk_at "ev"))
  | ((with_reducible apply eb_le); (walk_at "ev"); (walk_at "ev"))
  | ((with_reducible apply eb_gt); (walk_at "ev"); (walk_at "ev"))
  | ((with_reducible apply eb_ge); (walk_at "ev"); (walk_at "ev"))
  | ((with_reducible apply eb_chain_lt); (walk_at "ev"); (walk_at "ev"); (walk_at "ev"))
  | ((with_reducible apply eb_isN); (walk_at "ev"))
  | ((with_reducible apply eb_notN); (walk_at "ev"))
  | ((with_reducible apply eb_isB); (walk_at "ev"))
  | ((with_reducible apply eb_notB); (walk_at "ev"))
  | ((with_reducible apply eb_lend); (walk_at "ev"))
  | ((with_reducible apply eb_all); (walk_at "ev"))
  | ((with_reducible apply eb_any); (walk_at "ev"))
  | ((with_reducible apply ev_lenL); (walk_at "ev"))
  | ((with_reducible apply ev_neg); (walk_at "ev"))
  | ((with_reducible apply ev_sub); (walk_at "ev"); (walk_at "ev"))
  | ((with_reducible apply ev_addI); (walk_at "ev"); (walk_at "ev"))
  | ((with_reducible apply ev_addL); (walk_at "ev"); (walk_at "ev"); (walk_at "sz"))
  | ((with_reducible apply ev_mul); (walk_at "ev"); (walk_at "ev"); omega; omega)
  | ((with_reducible apply ev_int); (walk_at "ev"))
  | ((with_reducible apply ev_intb); (walk_at "ev"))
  | ((with_reducible apply ev_max); (walk_at "ev"); (walk_at "ev"))
  | ((with_reducible apply ev_min); (walk_at "ev"); (walk_at "ev"))
  | ((with_reducible apply ev_ta); (walk_at "ev"))
  | ((with_reducible apply ev_tb); (walk_at "ev"))
  | ((with_reducible apply ev_tc); (walk_at "ev"))
  | ((with_reducible apply ev_pa); (walk_at "ev"))
  | ((with_reducible apply ev_pb); (walk_at "ev"))
  | ((with_reducible apply ev_ix); (walk_at "ev"); (walk_at "ev"); (assumption))
  | ((with_reducible apply ev_pair); (walk_at "ev"); (walk_at "ev"))
  | ((with_reducible apply ev_trip); (walk_at "ev"); (walk_at "ev"); (walk_at "ev"))
  | ((with_reducible apply ev_l1); (walk_at "ev"))
  | ((with_reducible apply ev_l2); (walk_at "ev"); (walk_at "ev"))
  | ((with_reducible apply ev_rng); (walk_at "ev"); omega; omega)
  | ((with_reducible apply ev_rng2); (walk_at "ev"); (walk_at "ev"); omega; omega; omega; omega)
  | ((with_reducible apply ev_listof); (walk_at "ev"))
  | ((with_reducible apply ev_rev); (walk_at "ev"))
  | ((with_reducible apply ev_drop); (walk_at "ev"); (walk_at "ev"); omega)
  | ((with_reducible apply ev_take); (walk_at "ev"); (walk_at "ev"); omega)
  | ((with_reducible apply ev_sorted); (walk_at "ev"); (first | infer_instance | assumption))
  | ((with_reducible apply ec_filter); (walk_at "ev"); rfl; (intro _ _; walk_at "ev"); (walk_at "sz"))
  | ((with_reducible apply ec_map2); (walk_at "ev"); rfl; rfl; (intro _ _; walk_at "ev"); (walk_at "sz"))
  | ((with_reducible apply ec_both2); (walk_at "ev"); rfl; rfl; (intro _ _; walk_at "ev"); (intro _ _ _; walk_at "ev"); (walk_at "sz"))
  | ((with_reducible apply ec_map); (walk_at "ev"); rfl; (intro _ _; walk_at "ev"); (walk_at "sz"))
  | ((with_reducible apply ec_both); (walk_at "ev"); rfl; (intro _ _; walk_at "ev"); (intro _ _ _; walk_at "ev"); (walk_at "sz"))
  | (with_reducible exact ev_l0)
  | ((with_reducible apply ev_ite); (walk_at "ev"); (intro _; walk_at "ev"); (intro _; walk_at "ev"))))

/-- a number that is told -/
def resI (r : Res Val) : Int := match r with
  | .ok (.int i) => i
  | _ => 0
/-- what the law draws -/
def MX (Pr : Prog) (n : Nat) (ds : List Int) (k m : Int) : Int := resI (evalD Pr n 6 [enc ds, enc k, enc m])
section
variable {Pr : Prog} {n : Nat} {ds : List Int} {k m : Int}
theorem ev_mx (h : Pr 6 = some k__law_mix) (D : Drawn ds) (k0 : 0 ≤ k) (k1 : k ≤ 1000000) (m0 : 0 < m) : evalD Pr (n + 1) 6 [enc ds, enc k, enc m] = .ok (enc (MX Pr (n + 1) ds k m)) ∧ 0 ≤ MX Pr (n + 1) ds k m ∧ MX Pr (n + 1) ds k m < m := by
  obtain ⟨x, e, h1, h2⟩ := ev_mix (n := n) h D k0 k1 m0
  have : MX Pr (n + 1) ds k m = x := by
    show resI (evalD Pr (n + 1) 6 [enc ds, .int k, .int m]) = x
    rw [e]
    rfl
  rw [this]
  exact ⟨e, h1, h2⟩
end
theorem ltP_nodup {l : List Pt} (h : l.Pairwise ltP) : l.Nodup := h.imp fun h e => by
  subst e
  rcases h with h | h <;> omega
section
variable {Pr : Prog} {n : Nat} {ds : List Int} {k m : Int}
end
end VL

/-! plain side: the law of more and fewer, 1 -/
namespace VL
open PySem
open Enc
local macro_rules | `(tactic| walk_at "sz") => `(tactic| (first
  | assumption
  | omega
  | exact len_nil
  | ((with_reducible apply len_filter); walk_at "sz")
  | ((with_reducible apply len_map); walk_at "sz")
  | ((with_reducible apply len_srt); walk_at "sz")
  | ((with_reducible apply len_asc); omega)
  | ((with_reducible apply len_upto); omega)
  | ((with_reducible apply len_fromto); omega)
  | ((with_reducible apply len_app); (walk_at "sz"); (walk_at "sz"))
  | ((with_reducible apply len_sum); (walk_at "sz"); (walk_at "sz"))
  | ((with_reducible apply len_drop); walk_at "sz")
  | ((with_reducible apply len_take); walk_at "sz")
  | ((with_reducible apply len_rev); walk_at "sz")
  | ((with_reducible apply len_cons); (walk_at "sz"); (omega))))
local macro_rules | `(tactic| walk_at "call") => `(tactic| (first | assumption | solve_by_elim))
local macro_rules | `(tactic| walk_at "args") => `(tactic| (first
  | exact evs_nil
  | ((with_reducible apply evs_cons); (walk_at "ev"); (walk_at "args"))))
local macro_rules | `(tactic| walk_at "ev") => `(tactic| (first
  | ((with_reducible apply ev_var); rfl)
  | (with_reducible exact ev_ci)
  | (with_reducible exact ev_cb)
  | (with_reducible exact ev_cst)
  | ((with_reducible apply ev_call'); (walk_at "args"); (walk_at "call"))
  | ((with_reducible apply eb_and); (walk_at "ev"); (intro _; walk_at "ev"))
  | ((with_reducible apply eb_or); (walk_at "ev"); (intro _; walk_at "ev"))
  | ((with_reducible apply eb_not); (walk_at "ev"))
  | ((with_reducible apply eb_in); (walk_at "ev"); (walk_at "ev"); decide)
  | ((with_reducible apply eb_notin); (walk_at "ev"); (walk_at "ev"); decide)
  | ((with_reducible apply eb_eq); (walk_at "ev"); (walk_at "ev"); decide)
  | ((with_reducible apply eb_ne); (walk_at "ev"); (walk_at "ev"); decide)
  | ((with_reducible apply eb_lt); (walk_at "ev"); (walk_at "ev"))
  | ((with_reducible apply eb_le); (walk_at "ev"); (walk_at "ev"))
  | ((with_reducible apply eb_gt); (walk_at "ev"); (walk_at "ev"))
  | ((with_reducible apply eb_ge); (walk_at "ev"); (walk_at "ev"))
  | ((with_reducible apply eb_chain_lt); (walk_at "ev"); (walk_at "ev"); (walk_at "ev"))
  | ((with_reducible apply eb_isN); (walk_at "ev"))
  | ((with_reducible apply eb_notN); (walk_at "ev"))
  | ((with_reducible apply eb_isB); (walk_at "ev"))
  | ((with_reducible apply eb_notB); (walk_at "ev"))
  | ((with_reducible apply eb_lend); (walk_at "ev"))
  | ((with_reducible apply eb_all); (walk_at "ev"))
  | ((with_reducible apply eb_any); (walk_at "ev"))
  | ((with_reducible apply ev_lenL); (walk_at "ev"))
  | ((with_reducible apply ev_neg); (walk_at "ev"))
  | ((with_reducible apply ev_sub); (walk_at "ev"); (walk_at "ev"))
  | ((with_reducible apply ev_addI); (walk_at "ev"); (walk_at "ev"))
  | ((with_reducible apply ev_addL); (walk_at "ev"); (walk_at "ev"); (walk_at "sz"))
  | ((with_reducible apply ev_mul); (walk_at "ev"); (walk_at "ev"); omega; omega)
  | ((with_reducible apply ev_int); (walk_at "ev"))
  | ((with_reducible apply ev_intb); (walk_at "ev"))
  | ((with_reducible apply ev_max); (walk_at "ev"); (walk_at "ev"))
  | ((with_reducible apply ev_min); (walk_at "ev"); (walk_at "ev"))
  | ((with_reducible apply ev_ta); (walk_at "ev"))
  | ((with_reducible apply ev_tb); (walk_at "ev"))
  | ((with_reducible apply ev_tc); (walk_at "ev"))
  | ((with_reducible apply ev_pa); (walk_at "ev"))
  | ((with_reducible apply ev_pb); (walk_at "ev"))
  | ((with_reducible apply ev_ix); (walk_at "ev"); (walk_at "ev"); (assumption))
  | ((with_reducible apply ev_pair); (walk_at "ev"); (walk_at "ev"))
  | ((with_reducible apply ev_trip); (walk_at "ev"); (walk_at "ev"); (walk_at "ev"))
  | ((with_reducible apply ev_l1); (walk_at "ev"))
  | ((with_reducible apply ev_l2); (walk_at "ev"); (walk_at "ev"))
  | ((with_reducible apply ev_rng); (walk_at "ev"); omega; omega)
  | ((with_reducible apply ev_rng2); (walk_at "ev"); (walk_at "ev"); omega; omega; omega; omega)
  | ((with_reducible apply ev_listof); (walk_at "ev"))
  | ((with_reducible apply ev_rev); (walk_at "ev"))
  | ((with_reducible apply ev_drop); (walk_at "ev"); (walk_at "ev"); omega)
  | ((with_reducible apply ev_take); (walk_at "ev"); (walk_at "ev"); omega)
  | ((with_reducible apply ev_sorted); (walk_at "ev"); (first | infer_instance | assumption))
  | ((with_reducible apply ec_filter); (walk_at "ev"); rfl; (intro _ _; walk_at "ev"); (walk_at "sz"))
  | ((with_reducible apply ec_map2); (walk_at "ev"); rfl; rfl; (intro _ _; walk_at "ev"); (walk_at "sz"))
  | ((with_reducible apply ec_both2); (walk_at "ev"); rfl; rfl; (intro _ _; walk_at "ev"); (intro _ _ _; walk_at "ev"); (walk_at "sz"))
  | ((with_reducible apply ec_map); (walk_at "ev"); rfl; (intro _ _; walk_at "ev"); (walk_at "sz"))
  | ((with_reducible apply ec_both); (walk_at "ev"); rfl; (intro _ _; walk_at "ev"); (intro _ _ _; walk_at "ev"); (walk_at "sz"))
  | (with_reducible exact ev_l0)
  | ((with_reducible apply ev_ite); (walk_at "ev"); (intro _; walk_at "ev"); (intro _; walk_at "ev"))))

/-! more asked variables, greater drawings -/
section
variable {d e : Dr} {X Y Y' O I : List Int}
theorem near_mono (T : Tame d) (hY : InR d.a Y) (hY' : InR d.a Y') (s : ∀ y ∈ Y, y ∈ Y') : ∀ x ∈ nearF d X Y, x ∈ nearF d X Y' := fun x hx => (mem_anc T hY').mpr (((mem_anc T hY).mp hx).mono (fun _ h => h) s)
theorem Hedge.more (T : Tame d) (hY : InR d.a Y) (hY' : InR d.a Y') (s : ∀ y ∈ Y, y ∈ Y') (h : Hedge d X Y O I) : Hedge d X Y' O I := { h with near := fun x hx => near_mono T hY hY' s x (h.near x hx) }
/-- fewer arrows, fewer ties -/
structure Less (d e : Dr) : Prop where
  a : d.a = e.a
  b : ∀ p ∈ d.b, p ∈ e.b
  c : ∀ p ∈ d.c, p ∈ e.c
theorem Less.con (l : Less d e) {A : List Int} {v w : Int} (h : Con d A v w) : Con e A v w := Clo.up (fun p hp => by
  have := mem_bothIn.mp (show (p.1, p.2) ∈ bothIn d A from hp)
  exact mem_bothIn.mpr ⟨this.1, this.2.imp (l.c _) (l.c _)⟩) (fun _ h => h) h
theorem Less.anc (l : Less d e) {A S : List Int} {x : Int} (h : Anc d A S x) : Anc e A S x := Clo.up (fun p hp => by
  have := mem_flipIn.mp (show (p.1, p.2) ∈ flip (arrIn d A) from hp)
  exact mem_flipIn.mpr ⟨l.b _ this.1, this.2⟩) (fun _ h => h) h
theorem Less.hedge (l : Less d e) (T : Tame d) (T' : Tame e) (hY : InR d.a Y) (h : Hedge d X Y O I) : Hedge e X Y O I where
  ne := h.ne
  sub := h.sub
  hit := h.hit
  near := fun x hx => (mem_anc T' (by rw [← l.a]; exact hY)).mpr (by
    have := l.anc ((mem_anc T hY).mp (h.near x hx))
    rw [l.a] at this
    exact this)
  cI := fun x hx y hy => l.con (h.cI x hx y hy)
  cO := fun x hx y hy => l.con (h.cO x hx y hy)
  anc := fun x hx => l.anc (h.anc x hx)
theorem Less.told (l : Less d e) (T : Tame d) (T' : Tame e) (hY : InR d.a Y) (h : Told e X Y) : Told d X Y := fun ⟨O, I, hO, hh⟩ => h ⟨O, I, by rw [← l.a]; exact hO, l.hedge T T' hY hh⟩
end
section
variable {Pr : Prog} {n : Nat} {d : Dr} {X Y ds : List Int} {k : Int}
theorem Qu.asked (q : Qu d X Y) {Y' : List Int} (s : Y'.Pairwise (· < ·)) (i : InR d.a Y') (o : ∀ x ∈ X, x ∉ Y') (ne : Y' ≠ []) : Qu d X Y' := ⟨q.good, q.iX, i, q.sX, s, o, ne⟩
end
end VL

/-! plain side: the law of more and fewer, 2: heights, other drawings -/
namespace VL
open PySem
open Enc
local macro_rules | `(tactic| walk_at "sz") => `(tactic| (first
  | assumption
  | omega
  | exact len_nil
  | ((with_reducible apply len_filter); walk_at "sz")
  | ((with_reducible apply len_map); walk_at "sz")
  | ((with_reducible apply len_srt); walk_at "sz")
  | ((with_reducible apply len_asc); omega)
  | ((with_reducible apply len_upto); omega)
  | ((with_reducible apply len_fromto); omega)
  | ((with_reducible apply len_app); (walk_at "sz"); (walk_at "sz"))
  | ((with_reducible apply len_sum); (walk_at "sz"); (walk_at "sz"))
  | ((with_reducible apply len_drop); walk_at "sz")
  | ((with_reducible apply len_take); walk_at "sz")
  | ((with_reducible apply len_rev); walk_at "sz")
  | ((with_reducible apply len_cons); (walk_at "sz"); (omega))))
local macro_rules | `(tactic| walk_at "call") => `(tactic| (first | assumption | solve_by_elim))
local macro_rules | `(tactic| walk_at "args") => `(tactic| (first
  | exact evs_nil
  | ((with_reducible apply evs_cons); (walk_at "ev"); (walk_at "args"))))
local macro_rules | `(tactic| walk_at "ev") => `(tactic| (first
  | ((with_reducible apply ev_var); rfl)
  | (with_reducible exact ev_ci)
  | (with_reducible exact ev_cb)
  | (with_reducible exact ev_cst)
  | ((with_reducible apply ev_call'); (walk_at "args"); (walk_at "call"))
  | ((with_reducible apply eb_and); (walk_at "ev"); (intro _; walk_at "ev"))
  | ((with_reducible apply eb_or); (walk_at "ev"); (intro _; walk_at "ev"))
  | ((with_reducible apply eb_not); (walk_at "ev"))
  | ((with_reducible apply eb_in); (walk_at "ev"); (walk_at "ev"); decide)
  | ((with_reducible apply eb_notin); (walk_at "ev"); (walk_at "ev"); decide)
  | ((with_reducible apply eb_eq); (walk_at "ev"); (walk_at "ev"); decide)
  | ((with_reducible apply eb_ne); (walk_at "ev"); (walk_at "ev"); decide)
  | ((with_reducible apply eb_lt); (walk_at "ev"); (walk_at "ev"))
  | ((with_reducible apply eb_le); (walk_at "ev"); (walk_at "ev"))
  | ((with_reducible apply eb_gt); (walk_at "ev"); (walk_at "ev"))
  | ((with_reducible apply eb_ge); (walk_at "ev"); (walk_at "ev"))
  | ((with_reducible apply eb_chain_lt); (walk_at "ev"); (walk_at "ev"); (walk_at "ev"))
  | ((with_reducible apply eb_isN); (walk_at "ev"))
  | ((with_reducible apply eb_notN); (walk_at "ev"))
  | ((with_reducible apply eb_isB); (walk_at "ev"))
  | ((with_reducible apply eb_notB); (walk_at "ev"))
  | ((with_reducible apply eb_lend); (walk_at "ev"))
  | ((with_reducible apply eb_all); (walk_at "ev"))
  | ((with_reducible apply eb_any); (walk_at "ev"))
  | ((with_reducible apply ev_lenL); (walk_at "ev"))
  | ((with_reducible apply ev_neg); (walk_at "ev"))
  | ((with_reducible apply ev_sub); (walk_at "ev"); (walk_at "ev"))
  | ((with_reducible apply ev_addI); (walk_at "ev"); (walk_at "ev"))
  | ((with_reducible apply ev_addL); (walk_at "ev"); (walk_at "ev"); (walk_at "sz"))
  | ((with_reducible apply ev_mul); (walk_at "ev"); (walk_at "ev"); omega; omega)
  | ((with_reducible apply ev_int); (walk_at "ev"))
  | ((with_reducible apply ev_intb); (walk_at "ev"))
  | ((with_reducible apply ev_max); (walk_at "ev"); (walk_at "ev"))
  | ((with_reducible apply ev_min); (walk_at "ev"); (walk_at "ev"))
  | ((with_reducible apply ev_ta); (walk_at "ev"))
  | ((with_reducible apply ev_tb); (walk_at "ev"))
  | ((with_reducible apply ev_tc); (walk_at "ev"))
  | ((with_reducible apply ev_pa); (walk_at "ev"))
  | ((with_reducible apply ev_pb); (walk_at "ev"))
  | ((with_reducible apply ev_ix); (walk_at "ev"); (walk_at "ev"); (assumption))
  | ((with_reducible apply ev_pair); (walk_at "ev"); (walk_at "ev"))
  | ((with_reducible apply ev_trip); (walk_at "ev"); (walk_at "ev"); (walk_at "ev"))
  | ((with_reducible apply ev_l1); (walk_at "ev"))
  | ((with_reducible apply ev_l2); (walk_at "ev"); (walk_at "ev"))
  | ((with_reducible apply ev_rng); (walk_at "ev"); omega; omega)
  | ((with_reducible apply ev_rng2); (walk_at "ev"); (walk_at "ev"); omega; omega; omega; omega)
  | ((with_reducible apply ev_listof); (walk_at "ev"))
  | ((with_reducible apply ev_rev); (walk_at "ev"))
  | ((with_reducible apply ev_drop); (walk_at "ev"); (walk_at "ev"); omega)
  | ((with_reducible apply ev_take); (walk_at "ev"); (walk_at "ev"); omega)
  | ((with_reducible apply ev_sorted); (walk_at "ev"); (first | infer_instance | assumption))
  | ((with_reducible apply ec_filter); (walk_at "ev"); rfl; (intro _ _; walk_at "ev"); (walk_at "sz"))
  | ((with_reducible apply ec_map2); (walk_at "ev"); rfl; rfl; (intro _ _; walk_at "ev"); (walk_at "sz"))
  | ((with_reducible apply ec_both2); (walk_at "ev"); rfl; rfl; (intro _ _; walk_at "ev"); (intro _ _ _; walk_at "ev"); (walk_at "sz"))
  | ((with_reducible apply ec_map); (walk_at "ev"); rfl; (intro _ _; walk_at "ev"); (walk_at "sz"))
  | ((with_reducible apply ec_both); (walk_at "ev"); rfl; (intro _ _; walk_at "ev"); (intro _ _ _; walk_at "ev"); (walk_at "sz"))
  | (with_reducible exact ev_l0)
  | ((with_reducible apply ev_ite); (walk_at "ev"); (intro _; walk_at "ev"); (intro _; walk_at "ev"))))

section
variable {cf : Nat → List Val → Res Val} {ρ ρ' : Env} {ss : List S} {c ix : E} {i d t j : Nat} {G : Out → Prop}
end
theorem atI_in {α : Type} {xs : List α} {y : Int} {dflt : α} (h0 : 0 ≤ y) (h1 : y < xs.length) : L2.atI xs y = some (xs.getD y.toNat dflt) := by
  have := atI_nat (xs := xs) (j := y.toNat) (getD_at (dflt := dflt) (by omega))
  rw [show ((y.toNat : Nat) : Int) = y by omega] at this
  exact this
/-- a height of v -/
def ht (h : List Int) (v : Int) : Int := h.getD v.toNat 0
section
variable {Pr : Prog} {n : Nat} {d : Dr} {ds : List Int} {k : Int}
end
end VL

/-! plain side: the law of more and fewer, 3 -/
namespace VL
open PySem
open Enc
local macro_rules | `(tactic| walk_at "sz") => `(tactic| (first
  | assumption
  | omega
  | exact len_nil
  | ((with_reducible apply len_filter); walk_at "sz")
  | ((with_reducible apply len_map); walk_at "sz")
  | ((with_reducible apply len_srt); walk_at "sz")
  | ((with_reducible apply len_asc); omega)
  | ((with_reducible apply len_upto); omega)
  | ((with_reducible apply len_fromto); omega)
  | ((with_reducible apply len_app); (walk_at "sz"); (walk_at "sz"))
  | ((with_reducible apply len_sum); (walk_at "sz"); (walk_at "sz"))
  | ((with_reducible apply len_drop); walk_at "sz")
  | ((with_reducible apply len_take); walk_at "sz")
  | ((with_reducible apply len_rev); walk_at "sz")
  | ((with_reducible apply len_cons); (walk_at "sz"); (omega))))
local macro_rules | `(tactic| walk_at "call") => `(tactic| (first | assumption | solve_by_elim))
local macro_rules | `(tactic| walk_at "args") => `(tactic| (first
  | exact evs_nil
  | ((with_reducible apply evs_cons); (walk_at "ev"); (walk_at "args"))))
local macro_rules | `(tactic| walk_at "ev") => `(tactic| (first
  | ((with_reducible apply ev_var); rfl)
  | (with_reducible exact ev_ci)
  | (with_reducible exact ev_cb)
  | (with_reducible exact ev_cst)
  | ((with_reducible apply ev_call'); (walk_at "args"); (walk_at "call"))
  | ((with_reducible apply eb_and); (walk_at "ev"); (intro _; walk_at "ev"))
  | ((with_reducible apply eb_or); (walk_at "ev"); (intro _; walk_at "ev"))
  | ((with_reducible apply eb_not); (walk_at "ev"))
  | ((with_reducible apply eb_in); (walk_at "ev"); (walk_at "ev"); decide)
  | ((with_reducible apply eb_notin); (walk_at "ev"); (walk_at "ev"); decide)
  | ((with_reducible apply eb_eq); (walk_at "ev"); (walk_at "ev"); decide)
  | ((with_reducible apply eb_ne); (walk_at "ev"); (walk_at "ev"); decide)
  | ((with_reducible apply eb_lt); (walk_at "ev"); (walk_at "ev"))
  | ((with_reducible apply eb_le); (walk_at "ev"); (walk_at "ev"))
  | ((with_reducible apply eb_gt); (walk_at "ev"); (walk_at "ev"))
  | ((with_reducible apply eb_ge); (walk_at "ev"); (walk_at "ev"))
  | ((with_reducible apply eb_chain_lt); (walk_at "ev"); (walk_at "ev"); (walk_at "ev"))
  | ((with_reducible apply eb_isN); (walk_at "ev"))
  | ((with_reducible apply eb_notN); (walk_at "ev"))
  | ((with_reducible apply eb_isB); (walk_at "ev"))
  | ((with_reducible apply eb_notB); (walk_at "ev"))
  | ((with_reducible apply eb_lend); (walk_at "ev"))
  | ((with_reducible apply eb_all); (walk_at "ev"))
  | ((with_reducible apply eb_any); (walk_at "ev"))
  | ((with_reducible apply ev_lenL); (walk_at "ev"))
  | ((with_reducible apply ev_neg); (walk_at "ev"))
  | ((with_reducible apply ev_sub); (walk_at "ev"); (walk_at "ev"))
  | ((with_reducible apply ev_addI); (walk_at "ev"); (walk_at "ev"))
  | ((with_reducible apply ev_addL); (walk_at "ev"); (walk_at "ev"); (walk_at "sz"))
  | ((with_reducible apply ev_mul); (walk_at "ev"); (walk_at "ev"); omega; omega)
  | ((with_reducible apply ev_int); (walk_at "ev"))
  | ((with_reducible apply ev_intb); (walk_at "ev"))
  | ((with_reducible apply ev_max); (walk_at "ev"); (walk_at "ev"))
  | ((with_reducible apply ev_min); (walk_at "ev"); (walk_at "ev"))
  | ((with_reducible apply ev_ta); (walk_at "ev"))
  | ((with_reducible apply ev_tb); (walk_at "ev"))
  | ((with_reducible apply ev_tc); (walk_at "ev"))
  | ((with_reducible apply ev_pa); (walk_at "ev"))
  | ((with_reducible apply ev_pb); (walk_at "ev"))
  | ((with_reducible apply ev_ix); (walk_at "ev"); (walk_at "ev"); (assumption))
  | ((with_reducible apply ev_pair); (walk_at "ev"); (walk_at "ev"))
  | ((with_reducible apply ev_trip); (walk_at "ev"); (walk_at "ev"); (walk_at "ev"))
  | ((with_reducible apply ev_l1); (walk_at "ev"))
  | ((with_reducible apply ev_l2); (walk_at "ev"); (walk_at "ev"))
  | ((with_reducible apply ev_rng); (walk_at "ev"); omega; omega)
  | ((with_reducible apply ev_rng2); (walk_at "ev"); (walk_at "ev"); omega; omega; omega; omega)
  | ((with_reducible apply ev_listof); (walk_at "ev"))
  | ((with_reducible apply ev_rev); (walk_at "ev"))
  | ((with_reducible apply ev_drop); (walk_at "ev"); (walk_at "ev"); omega)
  | ((with_reducible apply ev_take); (walk_at "ev"); (walk_at "ev"); omega)
  | ((with_reducible apply ev_sorted); (walk_at "ev"); (first | infer_instance | assumption))
  | ((with_reducible apply ec_filter); (walk_at "ev"); rfl; (intro _ _; walk_at "ev"); (walk_at "sz"))
  | ((with_reducible apply ec_map2); (walk_at "ev"); rfl; rfl; (intro _ _; walk_at "ev"); (walk_at "sz"))
  | ((with_reducible apply ec_both2); (walk_at "ev"); rfl; rfl; (intro _ _; walk_at "ev"); (intro _ _ _; walk_at "ev"); (walk_at "sz"))
  | ((with_reducible apply ec_map); (walk_at "ev"); rfl; (intro _ _; walk_at "ev"); (walk_at "sz"))
  | ((with_reducible apply ec_both); (walk_at "ev"); rfl; (intro _ _; walk_at "ev"); (intro _ _ _; walk_at "ev"); (walk_at "sz"))
  | (with_reducible exact ev_l0)
  | ((with_reducible apply ev_ite); (walk_at "ev"); (intro _; walk_at "ev"); (intro _; walk_at "ev"))))

theorem Good.sub {d : Dr} (g : Good d) {b c : List Pt} (hb : b.Sublist d.b) (hc : c.Sublist d.c) : Good ⟨d.a, b, c⟩ where
  m1 := g.m1
  m12 := g.m12
  arr := fun p hp => g.arr p (hb.subset hp)
  tie := fun p hp => g.tie p (hc.subset hp)
  arrS := g.arrS.sublist hb
  tieS := g.tieS.sublist hc
  tieU := fun p hp => g.tieU p (hc.subset hp)
  rank := by
    obtain ⟨r, t, h⟩ := g.rank
    exact ⟨r, t, fun p hp => h p (hb.subset hp)⟩
  zb := Nat.le_trans hb.length_le g.zb
  zc := Nat.le_trans hc.length_le g.zc
section
variable {Pr : Prog} {n : Nat} {d : Dr} {ds : List Int} {k : Int}
end
end VL

/-! plain side: the laws' own reckoning of ancestors and districts -/
namespace VL
open PySem
open Enc
local macro_rules | `(tactic| walk_at "sz") => `(tactic| (first
  | assumption
  | omega
  | exact len_nil
  | ((with_reducible apply len_filter); walk_at "sz")
  | ((with_reducible apply len_map); walk_at "sz")
  | ((with_reducible apply len_srt); walk_at "sz")
  | ((with_reducible apply len_asc); omega)
  | ((with_reducible apply len_upto); omega)
  | ((with_reducible apply len_fromto); omega)
  | ((with_reducible apply len_app); (walk_at "sz"); (walk_at "sz"))
  | ((with_reducible apply len_sum); (walk_at "sz"); (walk_at "sz"))
  | ((with_reducible apply len_drop); walk_at "sz")
  | ((with_reducible apply len_take); walk_at "sz")
  | ((with_reducible apply len_rev); walk_at "sz")
  | ((with_reducible apply len_cons); (walk_at "sz"); (omega))))
local macro_rules | `(tactic| walk_at "call") => `(tactic| (first | assumption | solve_by_elim))
local macro_rules | `(tactic| walk_at "args") => `(tactic| (first
  | exact evs_nil
  | ((with_reducible apply evs_cons); (walk_at "ev"); (walk_at "args"))))
local macro_rules | `(tactic| walk_at "ev") => `(tactic| (first
  | ((with_reducible apply ev_var); rfl)
  | (with_reducible exact ev_ci)
  | (with_reducible exact ev_cb)
  | (with_reducible exact ev_cst)
  | ((with_reducible apply ev_call'); (walk_at "args"); (walk_at "call"))
  | ((with_reducible apply eb_and); (walk_at "ev"); (intro _; walk_at "ev"))
  | ((with_reducible apply eb_or); (walk_at "ev"); (intro _; walk_at "ev"))
  | ((with_reducible apply eb_not); (walk_at "ev"))
  | ((with_reducible apply eb_in); (walk_at "ev"); (walk_at "ev"); decide)
  | ((with_reducible apply eb_notin); (walk_at "ev"); (walk_at "ev"); decide)
  | ((with_reducible apply eb_eq); (walk_at "ev"); (walk_at "ev"); decide)
  | ((with_reducible apply eb_ne); (walk_at "ev"); (walk_at "ev"); decide)
  | ((with_reducible apply eb_lt); (walk_at "ev"); (walk_at "ev"))
  | ((with_reducible apply eb_le); (walk_at "ev"); (walk_at "ev"))
  | ((with_reducible apply eb_gt); (walk_at "ev"); (walk_at "ev"))
  | ((with_reducible apply eb_ge); (walk_at "ev"); (walk_at "ev"))
  | ((with_reducible apply eb_chain_lt); (walk_at "ev"); (walk_at "ev"); (walk_at "ev"))
  | ((with_reducible apply eb_isN); (walk_at "ev"))
  | ((with_reducible apply eb_notN); (walk_at "ev"))
  | ((with_reducible apply eb_isB); (walk_at "ev"))
  | ((with_reducible apply eb_notB); (walk_at "ev"))
  | ((with_reducible apply eb_lend); (walk_at "ev"))
  | ((with_reducible apply eb_all); (walk_at "ev"))
  | ((with_reducible apply eb_any); (walk_at "ev"))
  | ((with_reducible apply ev_lenL); (walk_at "ev"))
  | ((with_reducible apply ev_neg); (walk_at "ev"))
  | ((with_reducible apply ev_sub); (walk_at "ev"); (walk_at "ev"))
  | ((with_reducible apply ev_addI); (walk_at "ev"); (walk_at "ev"))
  | ((with_reducible apply ev_addL); (walk_at "ev"); (walk_at "ev"); (walk_at "sz"))
  | ((with_reducible apply ev_mul); (walk_at "ev"); (walk_at "ev"); omega; omega)
  | ((with_reducible apply ev_int); (walk_at "ev"))
  | ((with_reducible apply ev_intb); (walk_at "ev"))
  | ((with_reducible apply ev_max); (walk_at "ev"); (walk_at "ev"))
  | ((with_reducible apply ev_min); (walk_at "ev"); (walk_at "ev"))
  | ((with_reducible apply ev_ta); (walk_at "ev"))
  | ((with_reducible apply ev_tb); (walk_at "ev"))
  | ((with_reducible apply ev_tc); (walk_at "ev"))
  | ((with_reducible apply ev_pa); (walk_at "ev"))
  | ((with_reducible apply ev_pb); (walk_at "ev"))
  | ((with_reducible apply ev_ix); (walk_at "ev"); (walk_at "ev"); (assumption))
  | ((with_reducible apply ev_pair); (walk_at "ev"); (walk_at "ev"))
  | ((with_reducible apply ev_trip); (walk_at "ev"); (walk_at "ev"); (walk_at "ev"))
  | ((with_reducible apply ev_l1); (walk_at "ev"))
  | ((with_reducible apply ev_l2); (walk_at "ev"); (walk_at "ev"))
  | ((with_reducible apply ev_rng); (walk_at "ev"); omega; omega)
  | ((with_reducible apply ev_rng2); (walk_at "ev"); (walk_at "ev"); omega; omega; omega; omega)
  | ((with_reducible apply ev_listof); (walk_at "ev"))
  | ((with_reducible apply ev_rev); (walk_at "ev"))
  | ((with_reducible apply ev_drop); (walk_at "ev"); (walk_at "ev"); omega)
  | ((with_reducible apply ev_take); (walk_at "ev"); (walk_at "ev"); omega)
  | ((with_reducible apply ev_sorted); (walk_at "ev"); (first | infer_instance | assumption))
  | ((with_reducible apply ec_filter); (walk_at "ev"); rfl; (intro _ _; walk_at "ev"); (walk_at "sz"))
  | ((with_reducible apply ec_map2); (walk_at "ev"); rfl; rfl; (intro _ _; walk_at "ev"); (walk_at "sz"))
  | ((with_reducible apply ec_both2); (walk_at "ev"); rfl; rfl; (intro _ _; walk_at "ev"); (intro _ _ _; walk_at "ev"); (walk_at "sz"))
  | ((with_reducible apply ec_map); (walk_at "ev"); rfl; (intro _ _; walk_at "ev"); (walk_at "sz"))
  | ((with_reducible apply ec_both); (walk_at "ev"); rfl; (intro _ _; walk_at "ev"); (intro _ _ _; walk_at "ev"); (walk_at "sz"))
  | (with_reducible exact ev_l0)
  | ((with_reducible apply ev_ite); (walk_at "ev"); (intro _; walk_at "ev"); (intro _; walk_at "ev"))))

/-- a list that grows turn by turn is closed in the end -/
theorem grown {grow : List Int → List Int} {m : Int} (hP : ∀ f : List Int, f.Nodup → InR m f → (f ++ grow f).Nodup ∧ InR m (f ++ grow f)) (h0 : grow [] = []) {s : List Int} (hn : s.Nodup) (hi : InR m s) (m0 : 0 ≤ m) :
    ((upto m).foldl (fun f _ => f ++ grow f) s).Nodup ∧ InR m ((upto m).foldl (fun f _ => f ++ grow f) s) ∧ grow ((upto m).foldl (fun f _ => f ++ grow f) s) = [] ∧ ∀ x ∈ s, x ∈ (upto m).foldl (fun f _ => f ++ grow f) s := by
  have key : ∀ (l : List Int) (s : List Int) (r : Nat), s.Nodup → InR m s → (grow s = [] ∨ r + 1 ≤ s.length) → (l.foldl (fun f _ => f ++ grow f) s).Nodup ∧ InR m (l.foldl (fun f _ => f ++ grow f) s) ∧ (grow (l.foldl (fun f _ => f ++ grow f) s) = [] ∨ r + l.length + 1 ≤ (l.foldl (fun f _ => f ++ grow f) s).length) ∧ ∀ x ∈ s, x ∈ l.foldl (fun f _ => f ++ grow f) s := by
    intro l
    induction l with
    | nil => exact fun s r h1 h2 h3 => ⟨h1, h2, h3, fun _ h => h⟩
    | cons y l ih =>
      intro s r h1 h2 h3
      obtain ⟨h4, h5⟩ := hP s h1 h2
      have h6 : grow (s ++ grow s) = [] ∨ (r + 1) + 1 ≤ (s ++ grow s).length := by
        by_cases e : grow s = []
        · left
          rw [e, List.append_nil]
          exact e
        · right
          have := List.length_pos_iff.mpr e
          rcases h3 with z | z
          · exact absurd z e
          · rw [List.length_append]
            omega
      obtain ⟨g1, g2, g3, g4⟩ := ih _ (r + 1) h4 h5 h6
      refine ⟨g1, g2, g3.imp id fun z => ?_, fun x hx => g4 x (List.mem_append_left _ hx)⟩
      rw [List.length_cons, List.foldl_cons]
      omega
  have h3 : grow s = [] ∨ 0 + 1 ≤ s.length := by
    cases s with
    | nil => exact .inl h0
    | cons x s => exact .inr (by simp)
  obtain ⟨g1, g2, g3, g4⟩ := key (upto m) s 0 hn hi h3
  refine ⟨g1, g2, ?_, g4⟩
  rcases g3 with z | z
  · exact z
  · have := below_len g1 g2
    rw [upto_length] at z
    omega
section
variable {d : Dr} {A S f : List Int} {x v : Int}
end
section
variable {Pr : Prog} {n : Nat} {d : Dr} {A S X Y : List Int} {v : Int}
end
end VL

/-! plain side: the laws' own tests of derivations and hedges -/
namespace VL
open PySem
open Enc
local macro_rules | `(tactic| walk_at "sz") => `(tactic| (first
  | assumption
  | omega
  | exact len_nil
  | ((with_reducible apply len_filter); walk_at "sz")
  | ((with_reducible apply len_map); walk_at "sz")
  | ((with_reducible apply len_srt); walk_at "sz")
  | ((with_reducible apply len_asc); omega)
  | ((with_reducible apply len_upto); omega)
  | ((with_reducible apply len_fromto); omega)
  | ((with_reducible apply len_app); (walk_at "sz"); (walk_at "sz"))
  | ((with_reducible apply len_sum); (walk_at "sz"); (walk_at "sz"))
  | ((with_reducible apply len_drop); walk_at "sz")
  | ((with_reducible apply len_take); walk_at "sz")
  | ((with_reducible apply len_rev); walk_at "sz")
  | ((with_reducible apply len_cons); (walk_at "sz"); (omega))))
local macro_rules | `(tactic| walk_at "call") => `(tactic| (first | assumption | solve_by_elim))
local macro_rules | `(tactic| walk_at "args") => `(tactic| (first
  | exact evs_nil
  | ((with_reducible apply evs_cons); (walk_at "ev"); (walk_at "args"))))
local macro_rules | `(tactic| walk_at "ev") => `(tactic| (first
  | ((with_reducible apply ev_var); rfl)
  | (with_reducible exact ev_ci)
  | (with_reducible exact ev_cb)
  | (with_reducible exact ev_cst)
  | ((with_reducible apply ev_call'); (walk_at "args"); (walk_at "call"))
  | ((with_reducible apply eb_and); (walk_at "ev"); (intro _; walk_at "ev"))
  | ((with_reducible apply eb_or); (walk_at "ev"); (intro _; walk_at "ev"))
  | ((with_reducible apply eb_not); (walk_at "ev"))
  | ((with_reducible apply eb_in); (walk_at "ev"); (walk_at "ev"); decide)
  | ((with_reducible apply eb_notin); (walk_at "ev"); (walk_at "ev"); decide)
  | ((with_reducible apply eb_eq); (walk_at "ev"); (walk_at "ev"); decide)
  | ((with_reducible apply eb_ne); (walk_at "ev"); (walk_at "ev"); decide)
  | ((with_reducible apply eb_lt); (walk_at "ev"); (walk_at "ev"))
  | ((with_reducible apply eb_le); (walk_at "ev"); (walk_at "ev"))
  | ((with_reducible apply eb_gt); (walk_at "ev"); (walk_at "ev"))
  | ((with_reducible apply eb_ge); (walk_at "ev"); (walk_at "ev"))
  | ((with_reducible apply eb_chain_lt); (walk_at "ev"); (walk_at "ev"); (walk_at "ev"))
  | ((with_reducible apply eb_isN); (walk_at "ev"))
  | ((with_reducible apply eb_notN); (walk_at "ev"))
  | ((with_reducible apply eb_isB); (walk_at "ev"))
  | ((with_reducible apply eb_notB); (walk_at "ev"))
  | ((with_reducible apply eb_lend); (walk_at "ev"))
  | ((with_reducible apply eb_all); (walk_at "ev"))
  | ((with_reducible apply eb_any); (walk_at "ev"))
  | ((with_reducible apply ev_lenL); (walk_at "ev"))
  | ((with_reducible apply ev_neg); (walk_at "ev"))
  | ((with_reducible apply ev_sub); (walk_at "ev"); (walk_at "ev"))
  | ((with_reducible apply ev_addI); (walk_at "ev"); (walk_at "ev"))
  | ((with_reducible apply ev_addL); (walk_at "ev"); (walk_at "ev"); (walk_at "sz"))
  | ((with_reducible apply ev_mul); (walk_at "ev"); (walk_at "ev"); omega; omega)
  | ((with_reducible apply ev_int); (walk_at "ev"))
  | ((with_reducible apply ev_intb); (walk_at "ev"))
  | ((with_reducible apply ev_max); (walk_at "ev"); (walk_at "ev"))
  | ((with_reducible apply ev_min); (walk_at "ev"); (walk_at "ev"))
  | ((with_reducible apply ev_ta); (walk_at "ev"))
  | ((with_reducible apply ev_tb); (walk_at "ev"))
  | ((with_reducible apply ev_tc); (walk_at "ev"))
  | ((with_reducible apply ev_pa); (walk_at "ev"))
  | ((with_reducible apply ev_pb); (walk_at "ev"))
  | ((with_reducible apply ev_ix); (walk_at "ev"); (walk_at "ev"); (assumption))
  | ((with_reducible apply ev_pair); (walk_at "ev"); (walk_at "ev"))
  | ((with_reducible apply ev_trip); (walk_at "ev"); (walk_at "ev"); (walk_at "ev"))
  | ((with_reducible apply ev_l1); (walk_at "ev"))
  | ((with_reducible apply ev_l2); (walk_at "ev"); (walk_at "ev"))
  | ((with_reducible apply ev_rng); (walk_at "ev"); omega; omega)
  | ((with_reducible apply ev_rng2); (walk_at "ev"); (walk_at "ev"); omega; omega; omega; omega)
  | ((with_reducible apply ev_listof); (walk_at "ev"))
  | ((with_reducible apply ev_rev); (walk_at "ev"))
  | ((with_reducible apply ev_drop); (walk_at "ev"); (walk_at "ev"); omega)
  | ((with_reducible apply ev_take); (walk_at "ev"); (walk_at "ev"); omega)
  | ((with_reducible apply ev_sorted); (walk_at "ev"); (first | infer_instance | assumption))
  | ((with_reducible apply ec_filter); (walk_at "ev"); rfl; (intro _ _; walk_at "ev"); (walk_at "sz"))
  | ((with_reducible apply ec_map2); (walk_at "ev"); rfl; rfl; (intro _ _; walk_at "ev"); (walk_at "sz"))
  | ((with_reducible apply ec_both2); (walk_at "ev"); rfl; rfl; (intro _ _; walk_at "ev"); (intro _ _ _; walk_at "ev"); (walk_at "sz"))
  | ((with_reducible apply ec_map); (walk_at "ev"); rfl; (intro _ _; walk_at "ev"); (walk_at "sz"))
  | ((with_reducible apply ec_both); (walk_at "ev"); rfl; (intro _ _; walk_at "ev"); (intro _ _ _; walk_at "ev"); (walk_at "sz"))
  | (with_reducible exact ev_l0)
  | ((with_reducible apply ev_ite); (walk_at "ev"); (intro _; walk_at "ev"); (intro _; walk_at "ev"))))

section
variable {Pr : Prog} {n : Nat} {d : Dr} {A S X Y O I : List Int} {v : Int} {steps : List Step'}
end
end VL

/-! plain side: the laws' own test of hedges; the law of single deeds -/
namespace VL
open PySem
open Enc
local macro_rules | `(tactic| walk_at "sz") => `(tactic| (first
  | assumption
  | omega
  | exact len_nil
  | ((with_reducible apply len_filter); walk_at "sz")
  | ((with_reducible apply len_map); walk_at "sz")
  | ((with_reducible apply len_srt); walk_at "sz")
  | ((with_reducible apply len_asc); omega)
  | ((with_reducible apply len_upto); omega)
  | ((with_reducible apply len_fromto); omega)
  | ((with_reducible apply len_app); (walk_at "sz"); (walk_at "sz"))
  | ((with_reducible apply len_sum); (walk_at "sz"); (walk_at "sz"))
  | ((with_reducible apply len_drop); walk_at "sz")
  | ((with_reducible apply len_take); walk_at "sz")
  | ((with_reducible apply len_rev); walk_at "sz")
  | ((with_reducible apply len_cons); (walk_at "sz"); (omega))))
local macro_rules | `(tactic| walk_at "call") => `(tactic| (first | assumption | solve_by_elim))
local macro_rules | `(tactic| walk_at "args") => `(tactic| (first
  | exact evs_nil
  | ((with_reducible apply evs_cons); (walk_at "ev"); (walk_at "args"))))
local macro_rules | `(tactic| walk_at "ev") => `(tactic| (first
  | ((with_reducible apply ev_var); rfl)
  | (with_reducible exact ev_ci)
  | (with_reducible exact ev_cb)
  | (with_reducible exact ev_cst)
  | ((with_reducible apply ev_call'); (walk_at "args"); (walk_at "call"))
  | ((with_reducible apply eb_and); (walk_at "ev"); (intro _; walk_at "ev"))
  | ((with_reducible apply eb_or); (walk_at "ev"); (intro _; walk_at "ev"))
  | ((with_reducible apply eb_not); (walk_at "ev"))
  | ((with_reducible apply eb_in); (walk_at "ev"); (walk_at "ev"); decide)
  | ((with_reducible apply eb_notin); (walk_at "ev"); (walk_at "ev"); decide)
  | ((with_reducible apply eb_eq); (walk_at "ev"); (walk_at "ev"); decide)
  | ((with_reducible apply eb_ne); (walk_at "ev"); (walk_at "ev"); decide)
  | ((with_reducible apply eb_lt); (walk_at "ev"); (walk_at "ev"))
  | ((with_reducible apply eb_le); (walk_at "ev"); (walk_at "ev"))
  | ((with_reducible apply eb_gt); (walk_at "ev"); (walk_at "ev"))
  | ((with_reducible apply eb_ge); (walk_at "ev"); (walk_at "ev"))
  | ((with_reducible apply eb_chain_lt); (walk_at "ev"); (walk_at "ev"); (walk_at "ev"))
  | ((with_reducible apply eb_isN); (walk_at "ev"))
  | ((with_reducible apply eb_notN); (walk_at "ev"))
  | ((with_reducible apply eb_isB); (walk_at "ev"))
  | ((with_reducible apply eb_notB); (walk_at "ev"))
  | ((with_reducible apply eb_lend); (walk_at "ev"))
  | ((with_reducible apply eb_all); (walk_at "ev"))
  | ((with_reducible apply eb_any); (walk_at "ev"))
  | ((with_reducible apply ev_lenL); (walk_at "ev"))
  | ((with_reducible apply ev_neg); (walk_at "ev"))
  | ((with_reducible apply ev_sub); (walk_at "ev"); (walk_at "ev"))
  | ((with_reducible apply ev_addI); (walk_at "ev"); (walk_at "ev"))
  | ((with_reducible apply ev_addL); (walk_at "ev"); (walk_at "ev"); (walk_at "sz"))
  | ((with_reducible apply ev_mul); (walk_at "ev"); (walk_at "ev"); omega; omega)
  | ((with_reducible apply ev_int); (walk_at "ev"))
  | ((with_reducible apply ev_intb); (walk_at "ev"))
  | ((with_reducible apply ev_max); (walk_at "ev"); (walk_at "ev"))
  | ((with_reducible apply ev_min); (walk_at "ev"); (walk_at "ev"))
  | ((with_reducible apply ev_ta); (walk_at "ev"))
  | ((with_reducible apply ev_tb); (walk_at "ev"))
  | ((with_reducible apply ev_tc); (walk_at "ev"))
  | ((with_reducible apply ev_pa); (walk_at "ev"))
  | ((with_reducible apply ev_pb); (walk_at "ev"))
  | ((with_reducible apply ev_ix); (walk_at "ev"); (walk_at "ev"); (assumption))
  | ((with_reducible apply ev_pair); (walk_at "ev"); (walk_at "ev"))
  | ((with_reducible apply ev_trip); (walk_at "ev"); (walk_at "ev"); (walk_at "ev"))
  | ((with_reducible apply ev_l1); (walk_at "ev"))
  | ((with_reducible apply ev_l2); (walk_at "ev"); (walk_at "ev"))
  | ((with_reducible apply ev_rng); (walk_at "ev"); omega; omega)
  | ((with_reducible apply ev_rng2); (walk_at "ev"); (walk_at "ev"); omega; omega; omega; omega)
  | ((with_reducible apply ev_listof); (walk_at "ev"))
  | ((with_reducible apply ev_rev); (walk_at "ev"))
  | ((with_reducible apply ev_drop); (walk_at "ev"); (walk_at "ev"); omega)
  | ((with_reducible apply ev_take); (walk_at "ev"); (walk_at "ev"); omega)
  | ((with_reducible apply ev_sorted); (walk_at "ev"); (first | infer_instance | assumption))
  | ((with_reducible apply ec_filter); (walk_at "ev"); rfl; (intro _ _; walk_at "ev"); (walk_at "sz"))
  | ((with_reducible apply ec_map2); (walk_at "ev"); rfl; rfl; (intro _ _; walk_at "ev"); (walk_at "sz"))
  | ((with_reducible apply ec_both2); (walk_at "ev"); rfl; rfl; (intro _ _; walk_at "ev"); (intro _ _ _; walk_at "ev"); (walk_at "sz"))
  | ((with_reducible apply ec_map); (walk_at "ev"); rfl; (intro _ _; walk_at "ev"); (walk_at "sz"))
  | ((with_reducible apply ec_both); (walk_at "ev"); rfl; (intro _ _; walk_at "ev"); (intro _ _ _; walk_at "ev"); (walk_at "sz"))
  | (with_reducible exact ev_l0)
  | ((with_reducible apply ev_ite); (walk_at "ev"); (intro _; walk_at "ev"); (intro _; walk_at "ev"))))

section
variable {Pr : Prog} {n : Nat} {d : Dr} {A S X Y O I : List Int} {v : Int} {steps : List Step'}
/-! what a hedge of one variable is -/
end
end VL

/-! plain side: ways that are open, and the walk over states (no ties) -/
namespace VL
open PySem
section
variable {A : List Pt} {above K : List Int}
def AdjA (A : List Pt) (x y : Int) : Prop := (x, y) ∈ A ∨ (y, x) ∈ A
end
section
variable {d : Dr} {above K : List Int} {a : Int}
/-- no two arrows between the same ones -/
def Anti (A : List Pt) : Prop := ∀ x y, (x, y) ∈ A → (y, x) ∉ A
end
end VL

/-! plain side: is_blocked of drawings without ties -/
namespace VL
open PySem
open Enc
local macro_rules | `(tactic| walk_at "sz") => `(tactic| (first
  | assumption
  | omega
  | exact len_nil
  | ((with_reducible apply len_filter); walk_at "sz")
  | ((with_reducible apply len_map); walk_at "sz")
  | ((with_reducible apply len_srt); walk_at "sz")
  | ((with_reducible apply len_asc); omega)
  | ((with_reducible apply len_upto); omega)
  | ((with_reducible apply len_fromto); omega)
  | ((with_reducible apply len_app); (walk_at "sz"); (walk_at "sz"))
  | ((with_reducible apply len_sum); (walk_at "sz"); (walk_at "sz"))
  | ((with_reducible apply len_drop); walk_at "sz")
  | ((with_reducible apply len_take); walk_at "sz")
  | ((with_reducible apply len_rev); walk_at "sz")
  | ((with_reducible apply len_cons); (walk_at "sz"); (omega))))
local macro_rules | `(tactic| walk_at "call") => `(tactic| (first | assumption | solve_by_elim))
local macro_rules | `(tactic| walk_at "args") => `(tactic| (first
  | exact evs_nil
  | ((with_reducible apply evs_cons); (walk_at "ev"); (walk_at "args"))))
local macro_rules | `(tactic| walk_at "ev") => `(tactic| (first
  | ((with_reducible apply ev_var); rfl)
  | (with_reducible exact ev_ci)
  | (with_reducible exact ev_cb)
  | (with_reducible exact ev_cst)
  | ((with_reducible apply ev_call'); (walk_at "args"); (walk_at "call"))
  | ((with_reducible apply eb_and); (walk_at "ev"); (intro _; walk_at "ev"))
  | ((with_reducible apply eb_or); (walk_at "ev"); (intro _; walk_at "ev"))
  | ((with_reducible apply eb_not); (walk_at "ev"))
  | ((with_reducible apply eb_in); (walk_at "ev"); (walk_at "ev"); decide)
  | ((with_reducible apply eb_notin); (walk_at "ev"); (walk_at "ev"); decide)
  | ((with_reducible apply eb_eq); (walk_at "ev"); (walk_at "ev"); decide)
  | ((with_reducible apply eb_ne); (walk_at "ev"); (walk_at "ev"); decide)
  | ((with_reducible apply eb_lt); (walk_at "ev"); (walk_at "ev"))
  | ((with_reducible apply eb_le); (walk_at "ev"); (walk_at "ev"))
  | ((with_reducible apply eb_gt); (walk_at "ev"); (walk_at "ev"))
  | ((with_reducible apply eb_ge); (walk_at "ev"); (walk_at "ev"))
  | ((with_reducible apply eb_chain_lt); (walk_at "ev"); (walk_at "ev"); (walk_at "ev"))
  | ((with_reducible apply eb_isN); (walk_at "ev"))
  | ((with_reducible apply eb_notN); (walk_at "ev"))
  | ((with_reducible apply eb_isB); (walk_at "ev"))
  | ((with_reducible apply eb_notB); (walk_at "ev"))
  | ((with_reducible apply eb_lend); (walk_at "ev"))
  | ((with_reducible apply eb_all); (walk_at "ev"))
  | ((with_reducible apply eb_any); (walk_at "ev"))
  | ((with_reducible apply ev_lenL); (walk_at "ev"))
  | ((with_reducible apply ev_neg); (walk_at "ev"))
  | ((with_reducible apply ev_sub); (walk_at "ev"); (walk_at "ev"))
  | ((with_reducible apply ev_addI); (walk_at "ev"); (walk_at "ev"))
  | ((with_reducible apply ev_addL); (walk_at "ev"); (walk_at "ev"); (walk_at "sz"))
  | ((with_reducible apply ev_mul); (walk_at "ev"); (walk_at "ev"); omega; omega)
  | ((with_reducible apply ev_int); (walk_at "ev"))
  | ((with_reducible apply ev_intb); (walk_at "ev"))
  | ((with_reducible apply ev_max); (walk_at "ev"); (walk_at "ev"))
  | ((with_reducible apply ev_min); (walk_at "ev"); (walk_at "ev"))
  | ((with_reducible apply ev_ta); (walk_at "ev"))
  | ((with_reducible apply ev_tb); (walk_at "ev"))
  | ((with_reducible apply ev_tc); (walk_at "ev"))
  | ((with_reducible apply ev_pa); (walk_at "ev"))
  | ((with_reducible apply ev_pb); (walk_at "ev"))
  | ((with_reducible apply ev_ix); (walk_at "ev"); (walk_at "ev"); (assumption))
  | ((with_reducible apply ev_pair); (walk_at "ev"); (walk_at "ev"))
  | ((with_reducible apply ev_trip); (walk_at "ev"); (walk_at "ev"); (walk_at "ev"))
  | ((with_reducible apply ev_l1); (walk_at "ev"))
  | ((with_reducible apply ev_l2); (walk_at "ev"); (walk_at "ev"))
  | ((with_reducible apply ev_rng); (walk_at "ev"); omega; omega)
  | ((with_reducible apply ev_rng2); (walk_at "ev"); (walk_at "ev"); omega; omega; omega; omega)
  | ((with_reducible apply ev_listof); (walk_at "ev"))
  | ((with_reducible apply ev_rev); (walk_at "ev"))
  | ((with_reducible apply ev_drop); (walk_at "ev"); (walk_at "ev"); omega)
  | ((with_reducible apply ev_take); (walk_at "ev"); (walk_at "ev"); omega)
  | ((with_reducible apply ev_sorted); (walk_at "ev"); (first | infer_instance | assumption))
  | ((with_reducible apply ec_filter); (walk_at "ev"); rfl; (intro _ _; walk_at "ev"); (walk_at "sz"))
  | ((with_reducible apply ec_map2); (walk_at "ev"); rfl; rfl; (intro _ _; walk_at "ev"); (walk_at "sz"))
  | ((with_reducible apply ec_both2); (walk_at "ev"); rfl; rfl; (intro _ _; walk_at "ev"); (intro _ _ _; walk_at "ev"); (walk_at "sz"))
  | ((with_reducible apply ec_map); (walk_at "ev"); rfl; (intro _ _; walk_at "ev"); (walk_at "sz"))
  | ((with_reducible apply ec_both); (walk_at "ev"); rfl; (intro _ _; walk_at "ev"); (intro _ _ _; walk_at "ev"); (walk_at "sz"))
  | (with_reducible exact ev_l0)
  | ((with_reducible apply ev_ite); (walk_at "ev"); (intro _; walk_at "ev"); (intro _; walk_at "ev"))))

section
variable {d : Dr} {a b : Int} {K own : List Int}
end
end VL

/-! plain side: is_blocked of drawings without ties, as the program tells it -/
namespace VL
open PySem
open Enc
local macro_rules | `(tactic| walk_at "sz") => `(tactic| (first
  | assumption
  | omega
  | exact len_nil
  | ((with_reducible apply len_filter); walk_at "sz")
  | ((with_reducible apply len_map); walk_at "sz")
  | ((with_reducible apply len_srt); walk_at "sz")
  | ((with_reducible apply len_asc); omega)
  | ((with_reducible apply len_upto); omega)
  | ((with_reducible apply len_fromto); omega)
  | ((with_reducible apply len_app); (walk_at "sz"); (walk_at "sz"))
  | ((with_reducible apply len_sum); (walk_at "sz"); (walk_at "sz"))
  | ((with_reducible apply len_drop); walk_at "sz")
  | ((with_reducible apply len_take); walk_at "sz")
  | ((with_reducible apply len_rev); walk_at "sz")
  | ((with_reducible apply len_cons); (walk_at "sz"); (omega))))
local macro_rules | `(tactic| walk_at "call") => `(tactic| (first | assumption | solve_by_elim))
local macro_rules | `(tactic| walk_at "args") => `(tactic| (first
  | exact evs_nil
  | ((with_reducible apply evs_cons); (walk_at "ev"); (walk_at "args"))))
local macro_rules | `(tactic| walk_at "ev") => `(tactic| (first
  | ((with_reducible apply ev_var); rfl)
  | (with_reducible exact ev_ci)
  | (with_reducible exact ev_cb)
  | (with_reducible exact ev_cst)
  | ((with_reducible apply ev_call'); (walk_at "args"); (walk_at "call"))
  | ((with_reducible apply eb_and); (walk_at "ev"); (intro _; walk_at "ev"))
  | ((with_reducible apply eb_or); (walk_at "ev"); (intro _; walk_at "ev"))
  | ((with_reducible apply eb_not); (walk_at "ev"))
  | ((with_reducible apply eb_in); (walk_at "ev"); (walk_at "ev"); decide)
  | ((with_reducible apply eb_notin); (walk_at "ev"); (walk_at "ev"); decide)
  | ((with_reducible apply eb_eq); (walk_at "ev"); (walk_at "ev"); decide)
  | ((with_reducible apply eb_ne); (walk_at "ev"); (walk_at "ev"); decide)
  | ((with_reducible apply eb_lt); (walk_at "ev"); (walk_at "ev"))
  | ((with_reducible apply eb_le); (walk_at "ev"); (walk_at "ev"))
  | ((with_reducible apply eb_gt); (walk_at "ev"); (walk_at "ev"))
  | ((with_reducible apply eb_ge); (walk_at "ev"); (walk_at "ev"))
  | ((with_reducible apply eb_chain_lt); (walk_at "ev"); (walk_at "ev"); (walk_at "ev"))
  | ((with_reducible apply eb_isN); (walk_at "ev"))
  | ((with_reducible apply eb_notN); (walk_at "ev"))
  | ((with_reducible apply eb_isB); (walk_at "ev"))
  | ((with_reducible apply eb_notB); (walk_at "ev"))
  | ((with_reducible apply eb_lend); (walk_at "ev"))
  | ((with_reducible apply eb_all); (walk_at "ev"))
  | ((with_reducible apply eb_any); (walk_at "ev"))
  | ((with_reducible apply ev_lenL); (walk_at "ev"))
  | ((with_reducible apply ev_neg); (walk_at "ev"))
  | ((with_reducible apply ev_sub); (walk_at "ev"); (walk_at "ev"))
  | ((with_reducible apply ev_addI); (walk_at "ev"); (walk_at "ev"))
  | ((with_reducible apply ev_addL); (walk_at "ev"); (walk_at "ev"); (walk_at "sz"))
  | ((with_reducible apply ev_mul); (walk_at "ev"); (walk_at "ev"); omega; omega)
  | ((with_reducible apply ev_int); (walk_at "ev"))
  | ((with_reducible apply ev_intb); (walk_at "ev"))
  | ((with_reducible apply ev_max); (walk_at "ev"); (walk_at "ev"))
  | ((with_reducible apply ev_min); (walk_at "ev"); (walk_at "ev"))
  | ((with_reducible apply ev_ta); (walk_at "ev"))
  | ((with_reducible apply ev_tb); (walk_at "ev"))
  | ((with_reducible apply ev_tc); (walk_at "ev"))
  | ((with_reducible apply ev_pa); (walk_at "ev"))
  | ((with_reducible apply ev_pb); (walk_at "ev"))
  | ((with_reducible apply ev_ix); (walk_at "ev"); (walk_at "ev"); (assumption))
  | ((with_reducible apply ev_pair); (walk_at "ev"); (walk_at "ev"))
  | ((with_reducible apply ev_trip); (walk_at "ev"); (walk_at "ev"); (walk_at "ev"))
  | ((with_reducible apply ev_l1); (walk_at "ev"))
  | ((with_reducible apply ev_l2); (walk_at "ev"); (walk_at "ev"))
  | ((with_reducible apply ev_rng); (walk_at "ev"); omega; omega)
  | ((with_reducible apply ev_rng2); (walk_at "ev"); (walk_at "ev"); omega; omega; omega; omega)
  | ((with_reducible apply ev_listof); (walk_at "ev"))
  | ((with_reducible apply ev_rev); (walk_at "ev"))
  | ((with_reducible apply ev_drop); (walk_at "ev"); (walk_at "ev"); omega)
  | ((with_reducible apply ev_take); (walk_at "ev"); (walk_at "ev"); omega)
  | ((with_reducible apply ev_sorted); (walk_at "ev"); (first | infer_instance | assumption))
  | ((with_reducible apply ec_filter); (walk_at "ev"); rfl; (intro _ _; walk_at "ev"); (walk_at "sz"))
  | ((with_reducible apply ec_map2); (walk_at "ev"); rfl; rfl; (intro _ _; walk_at "ev"); (walk_at "sz"))
  | ((with_reducible apply ec_both2); (walk_at "ev"); rfl; rfl; (intro _ _; walk_at "ev"); (intro _ _ _; walk_at "ev"); (walk_at "sz"))
  | ((with_reducible apply ec_map); (walk_at "ev"); rfl; (intro _ _; walk_at "ev"); (walk_at "sz"))
  | ((with_reducible apply ec_both); (walk_at "ev"); rfl; (intro _ _; walk_at "ev"); (intro _ _ _; walk_at "ev"); (walk_at "sz"))
  | (with_reducible exact ev_l0)
  | ((with_reducible apply ev_ite); (walk_at "ev"); (intro _; walk_at "ev"); (intro _; walk_at "ev"))))

section
variable {cf : Nat → List Val → Res Val} {ρ ρ' : Env} {ss : List S} {G : Out → Prop}
end
section
variable {Pr : Prog} {n : Nat} {d : Dr} {a b : Int} {K own : List Int}
end
end VL

/-! plain side: repr of numbers and words -/
namespace VL
open PySem
open Enc
def isWord (z : Str) : Bool := z == Kd.word .seen || (z == Kd.word .sum || (z == Kd.word .cut || (z == Kd.word .big || (z == Kd.word .no || (z == ("" : Str) || (z == (">" : Str) || (z == ("<" : Str) || z == ("-" : Str))))))))
mutual
/-- numbers within thirteen signs, and the words of steps -/
def rp : Val → Bool
  | .int i => decide (-999999999999 ≤ i) && decide (i ≤ 999999999999)
  | .str z => isWord z
  | .none => true
  | .bool _ => true
  | .list xs => rpAll xs
  | .tuple xs => rpAll xs
  | .dict _ => false
def rpAll : List Val → Bool
  | [] => true
  | x :: xs => rp x && rpAll xs
end
end VL

/-! plain side: sorted(set(..)) of pairs -/
namespace VL
open PySem
open Enc
/-- the pairs, once each, ascending -/
def sp (l : List Pt) : List Pt := (canonP l).map fun q => ((q.1 : Int), (q.2 : Int))
end VL
namespace VL
open PySem
open Enc
end VL

/-! plain side: webs, sides -/
namespace VL
open PySem
open Enc
local macro_rules | `(tactic| walk_at "sz") => `(tactic| (first
  | assumption
  | omega
  | exact len_nil
  | ((with_reducible apply len_filter); walk_at "sz")
  | ((with_reducible apply len_map); walk_at "sz")
  | ((with_reducible apply len_srt); walk_at "sz")
  | ((with_reducible apply len_asc); omega)
  | ((with_reducible apply len_upto); omega)
  | ((with_reducible apply len_fromto); omega)
  | ((with_reducible apply len_app); (walk_at "sz"); (walk_at "sz"))
  | ((with_reducible apply len_sum); (walk_at "sz"); (walk_at "sz"))
  | ((with_reducible apply len_drop); walk_at "sz")
  | ((with_reducible apply len_take); walk_at "sz")
  | ((with_reducible apply len_rev); walk_at "sz")
  | ((with_reducible apply len_cons); (walk_at "sz"); (omega))))
local macro_rules | `(tactic| walk_at "call") => `(tactic| (first | assumption | solve_by_elim))
local macro_rules | `(tactic| walk_at "args") => `(tactic| (first
  | exact evs_nil
  | ((with_reducible apply evs_cons); (walk_at "ev"); (walk_at "args"))))
local macro_rules | `(tactic| walk_at "ev") => `(tactic| (first
  | ((with_reducible apply ev_var); rfl)
  | (with_reducible exact ev_ci)
  | (with_reducible exact ev_cb)
  | (with_reducible exact ev_cst)
  | ((with_reducible apply ev_call'); (walk_at "args"); (walk_at "call"))
  | ((with_reducible apply eb_and); (walk_at "ev"); (intro _; walk_at "ev"))
  | ((with_reducible apply eb_or); (walk_at "ev"); (intro _; walk_at "ev"))
  | ((with_reducible apply eb_not); (walk_at "ev"))
  | ((with_reducible apply eb_in); (walk_at "ev"); (walk_at "ev"); decide)
  | ((with_reducible apply eb_notin); (walk_at "ev"); (walk_at "ev"); decide)
  | ((with_reducible apply eb_eq); (walk_at "ev"); (walk_at "ev"); decide)
  | ((with_reducible apply eb_ne); (walk_at "ev"); (walk_at "ev"); decide)
  | ((with_reducible apply eb_lt); (walk_at "ev"); (walk_at "ev"))
  | ((with_reducible apply eb_le); (walk_at "ev"); (walk_at "ev"))
  | ((with_reducible apply eb_gt); (walk_at "ev"); (walk_at "ev"))
  | ((with_reducible apply eb_ge); (walk_at "ev"); (walk_at "ev"))
  | ((with_reducible apply eb_chain_lt); (walk_at "ev"); (walk_at "ev"); (walk_at "ev"))
  | ((with_reducible apply eb_isN); (walk_at "ev"))
  | ((with_reducible apply eb_notN); (walk_at "ev"))
  | ((with_reducible apply eb_isB); (walk_at "ev"))
  | ((with_reducible apply eb_notB); (walk_at "ev"))
  | ((with_reducible apply eb_lend); (walk_at "ev"))
  | ((with_reducible apply eb_all); (walk_at "ev"))
  | ((with_reducible apply eb_any); (walk_at "ev"))
  | ((with_reducible apply ev_lenL); (walk_at "ev"))
  | ((with_reducible apply ev_neg); (walk_at "ev"))
  | ((with_reducible apply ev_sub); (walk_at "ev"); (walk_at "ev"))
  | ((with_reducible apply ev_addI); (walk_at "ev"); (walk_at "ev"))
  | ((with_reducible apply ev_addL); (walk_at "ev"); (walk_at "ev"); (walk_at "sz"))
  | ((with_reducible apply ev_mul); (walk_at "ev"); (walk_at "ev"); omega; omega)
  | ((with_reducible apply ev_int); (walk_at "ev"))
  | ((with_reducible apply ev_intb); (walk_at "ev"))
  | ((with_reducible apply ev_max); (walk_at "ev"); (walk_at "ev"))
  | ((with_reducible apply ev_min); (walk_at "ev"); (walk_at "ev"))
  | ((with_reducible apply ev_ta); (walk_at "ev"))
  | ((with_reducible apply ev_tb); (walk_at "ev"))
  | ((with_reducible apply ev_tc); (walk_at "ev"))
  | ((with_reducible apply ev_pa); (walk_at "ev"))
  | ((with_reducible apply ev_pb); (walk_at "ev"))
  | ((with_reducible apply ev_ix); (walk_at "ev"); (walk_at "ev"); (assumption))
  | ((with_reducible apply ev_pair); (walk_at "ev"); (walk_at "ev"))
  | ((with_reducible apply ev_trip); (walk_at "ev"); (walk_at "ev"); (walk_at "ev"))
  | ((with_reducible apply ev_l1); (walk_at "ev"))
  | ((with_reducible apply ev_l2); (walk_at "ev"); (walk_at "ev"))
  | ((with_reducible apply ev_rng); (walk_at "ev"); omega; omega)
  | ((with_reducible apply ev_rng2); (walk_at "ev"); (walk_at "ev"); omega; omega; omega; omega)
  | ((with_reducible apply ev_listof); (walk_at "ev"))
  | ((with_reducible apply ev_rev); (walk_at "ev"))
  | ((with_reducible apply ev_drop); (walk_at "ev"); (walk_at "ev"); omega)
  | ((with_reducible apply ev_take); (walk_at "ev"); (walk_at "ev"); omega)
  | ((with_reducible apply ev_sorted); (walk_at "ev"); (first | infer_instance | assumption))
  | ((with_reducible apply ec_filter); (walk_at "ev"); rfl; (intro _ _; walk_at "ev"); (walk_at "sz"))
  | ((with_reducible apply ec_map2); (walk_at "ev"); rfl; rfl; (intro _ _; walk_at "ev"); (walk_at "sz"))
  | ((with_reducible apply ec_both2); (walk_at "ev"); rfl; rfl; (intro _ _; walk_at "ev"); (intro _ _ _; walk_at "ev"); (walk_at "sz"))
  | ((with_reducible apply ec_map); (walk_at "ev"); rfl; (intro _ _; walk_at "ev"); (walk_at "sz"))
  | ((with_reducible apply ec_both); (walk_at "ev"); rfl; (intro _ _; walk_at "ev"); (intro _ _ _; walk_at "ev"); (walk_at "sz"))
  | (with_reducible exact ev_l0)
  | ((with_reducible apply ev_ite); (walk_at "ev"); (intro _; walk_at "ev"); (intro _; walk_at "ev"))))

section
variable {cf : Nat → List Val → Res Val} {ρ : Env} {it a b c : E} {k z : Nat} {xs ys zs : List Int} {ws : List Nat}
end
section
variable {Pr : Prog} {n : Nat} {d : Dr} {A S one two known : List Int} {v x y : Int}
/-- the defs of webs -/
structure PW0 (Pr : Prog) : Prop where
  p4 : Pr 4 = some k_reached
  p13 : Pr 13 = some k_parents_of
  p16 : Pr 16 = some k_part_of
  p28 : Pr 28 = some k_ancestors_of
  p32 : Pr 32 = some k_districts_of
  p131 : Pr 131 = some k_web_of
  p132 : Pr 132 = some k_side_of
structure PW (Pr : Prog) : Prop extends PW0 Pr where
  p133 : Pr 133 = some k_blocked_by
end
end VL

/-! plain side: closures by rounds; the law's walk along steps with marks -/
namespace VL
open PySem
open Enc
local macro_rules | `(tactic| walk_at "sz") => `(tactic| (first
  | assumption
  | omega
  | exact len_nil
  | ((with_reducible apply len_filter); walk_at "sz")
  | ((with_reducible apply len_map); walk_at "sz")
  | ((with_reducible apply len_srt); walk_at "sz")
  | ((with_reducible apply len_asc); omega)
  | ((with_reducible apply len_upto); omega)
  | ((with_reducible apply len_fromto); omega)
  | ((with_reducible apply len_app); (walk_at "sz"); (walk_at "sz"))
  | ((with_reducible apply len_sum); (walk_at "sz"); (walk_at "sz"))
  | ((with_reducible apply len_drop); walk_at "sz")
  | ((with_reducible apply len_take); walk_at "sz")
  | ((with_reducible apply len_rev); walk_at "sz")
  | ((with_reducible apply len_cons); (walk_at "sz"); (omega))))
local macro_rules | `(tactic| walk_at "call") => `(tactic| (first | assumption | solve_by_elim))
local macro_rules | `(tactic| walk_at "args") => `(tactic| (first
  | exact evs_nil
  | ((with_reducible apply evs_cons); (walk_at "ev"); (walk_at "args"))))
local macro_rules | `(tactic| walk_at "ev") => `(tactic| (first
  | ((with_reducible apply ev_var); rfl)
  | (with_reducible exact ev_ci)
  | (with_reducible exact ev_cb)
  | (with_reducible exact ev_cst)
  | ((with_reducible apply ev_call'); (walk_at "args"); (walk_at "call"))
  | ((with_reducible apply eb_and); (walk_at "ev"); (intro _; walk_at "ev"))
  | ((with_reducible apply eb_or); (walk_at "ev"); (intro _; walk_at "ev"))
  | ((with_reducible apply eb_not); (walk_at "ev"))
  | ((with_reducible apply eb_in); (walk_at "ev"); (walk_at "ev"); decide)
  | ((with_reducible apply eb_notin); (walk_at "ev"); (walk_at "ev"); decide)
  | ((with_reducible apply eb_eq); (walk_at "ev"); (walk_at "ev"); decide)
  | ((with_reducible apply eb_ne); (walk_at "ev"); (walk_at "ev"); decide)
  | ((with_reducible apply eb_lt); (walk_at "ev"); (walk_at "ev"))
  | ((with_reducible apply eb_le); (walk_at "ev"); (walk_at "ev"))
  | ((with_reducible apply eb_gt); (walk_at "ev"); (walk_at "ev"))
  | ((with_reducible apply eb_ge); (walk_at "ev"); (walk_at "ev"))
  | ((with_reducible apply eb_chain_lt); (walk_at "ev"); (walk_at "ev"); (walk_at "ev"))
  | ((with_reducible apply eb_isN); (walk_at "ev"))
  | ((with_reducible apply eb_notN); (walk_at "ev"))
  | ((with_reducible apply eb_isB); (walk_at "ev"))
  | ((with_reducible apply eb_notB); (walk_at "ev"))
  | ((with_reducible apply eb_lend); (walk_at "ev"))
  | ((with_reducible apply eb_all); (walk_at "ev"))
  | ((with_reducible apply eb_any); (walk_at "ev"))
  | ((with_reducible apply ev_lenL); (walk_at "ev"))
  | ((with_reducible apply ev_neg); (walk_at "ev"))
  | ((with_reducible apply ev_sub); (walk_at "ev"); (walk_at "ev"))
  | ((with_reducible apply ev_addI); (walk_at "ev"); (walk_at "ev"))
  | ((with_reducible apply ev_addL); (walk_at "ev"); (walk_at "ev"); (walk_at "sz"))
  | ((with_reducible apply ev_mul); (walk_at "ev"); (walk_at "ev"); omega; omega)
  | ((with_reducible apply ev_int); (walk_at "ev"))
  | ((with_reducible apply ev_intb); (walk_at "ev"))
  | ((with_reducible apply ev_max); (walk_at "ev"); (walk_at "ev"))
  | ((with_reducible apply ev_min); (walk_at "ev"); (walk_at "ev"))
  | ((with_reducible apply ev_ta); (walk_at "ev"))
  | ((with_reducible apply ev_tb); (walk_at "ev"))
  | ((with_reducible apply ev_tc); (walk_at "ev"))
  | ((with_reducible apply ev_pa); (walk_at "ev"))
  | ((with_reducible apply ev_pb); (walk_at "ev"))
  | ((with_reducible apply ev_ix); (walk_at "ev"); (walk_at "ev"); (assumption))
  | ((with_reducible apply ev_pair); (walk_at "ev"); (walk_at "ev"))
  | ((with_reducible apply ev_trip); (walk_at "ev"); (walk_at "ev"); (walk_at "ev"))
  | ((with_reducible apply ev_l1); (walk_at "ev"))
  | ((with_reducible apply ev_l2); (walk_at "ev"); (walk_at "ev"))
  | ((with_reducible apply ev_rng); (walk_at "ev"); omega; omega)
  | ((with_reducible apply ev_rng2); (walk_at "ev"); (walk_at "ev"); omega; omega; omega; omega)
  | ((with_reducible apply ev_listof); (walk_at "ev"))
  | ((with_reducible apply ev_rev); (walk_at "ev"))
  | ((with_reducible apply ev_drop); (walk_at "ev"); (walk_at "ev"); omega)
  | ((with_reducible apply ev_take); (walk_at "ev"); (walk_at "ev"); omega)
  | ((with_reducible apply ev_sorted); (walk_at "ev"); (first | infer_instance | assumption))
  | ((with_reducible apply ec_filter); (walk_at "ev"); rfl; (intro _ _; walk_at "ev"); (walk_at "sz"))
  | ((with_reducible apply ec_map2); (walk_at "ev"); rfl; rfl; (intro _ _; walk_at "ev"); (walk_at "sz"))
  | ((with_reducible apply ec_both2); (walk_at "ev"); rfl; rfl; (intro _ _; walk_at "ev"); (intro _ _ _; walk_at "ev"); (walk_at "sz"))
  | ((with_reducible apply ec_map); (walk_at "ev"); rfl; (intro _ _; walk_at "ev"); (walk_at "sz"))
  | ((with_reducible apply ec_both); (walk_at "ev"); rfl; (intro _ _; walk_at "ev"); (intro _ _ _; walk_at "ev"); (walk_at "sz"))
  | (with_reducible exact ev_l0)
  | ((with_reducible apply ev_ite); (walk_at "ev"); (intro _; walk_at "ev"); (intro _; walk_at "ev"))))

/-! ### rounds -/
/-! ### marks -/
inductive Mk where
  | no | to | fr | tie
  deriving DecidableEq
def Mk.word : Mk → Str
  | .no => ""
  | .to => ">"
  | .fr => "<"
  | .tie => "-"
instance encMk : Enc Mk where
  enc := fun k => .str k.word
  dep := 0
  eqv := fun a b => by cases a <;> cases b <;> decide
  lay := fun a => by
    simp only [PyData.canLay0]
    cases a <;> exact strOk_of _
  depth := fun a => by simp [PyData.depth]
abbrev Sp := Mk × Int
def s1 (d : Dr) (v : Int) : List Sp := (d.b.filter fun p => decide (p.1 = v)).map fun p => (Mk.to, p.2)
def s2 (d : Dr) (v : Int) : List Sp := (d.b.filter fun p => decide (p.2 = v)).map fun p => (Mk.fr, p.1)
def s3 (d : Dr) (v : Int) : List Sp := (d.c.filter fun p => decide (p.1 = v)).map fun p => (Mk.tie, p.2)
def s4 (d : Dr) (v : Int) : List Sp := (d.c.filter fun p => decide (p.2 = v)).map fun p => (Mk.tie, p.1)
def stepsL (d : Dr) (v : Int) : List Sp := s1 d v ++ s2 d v ++ s3 d v ++ s4 d v
section
variable {Pr : Prog} {n : Nat} {d : Dr} {one two K H S f : List Int} {v w x : Int} {a b : Mk}
def PassB (b a : Mk) (v : Int) (K H : List Int) : Prop := (b ≠ .fr ∧ a ≠ .to ∧ v ∈ H) ∨ (¬ (b ≠ .fr ∧ a ≠ .to) ∧ v ∉ K)
/-! ### states by marks -/
inductive St3 (d : Dr) (one K H : List Int) : Int → Mk → Prop
  | base {v : Int} : v ∈ one → St3 d one K H v .no
  | step {v : Int} {b : Mk} {q : Sp} : St3 d one K H v b → q ∈ stepsL d v → (b = .no ∨ PassB b q.1 v K H) → St3 d one K H q.2 q.1
def Mk.hd : Mk → Int
  | .fr => 0
  | _ => 1
theorem PassB.congr {H H' : List Int} (h : ∀ x, x ∈ H ↔ x ∈ H') (p : PassB b a v K H) : PassB b a v K H' := p.imp (fun z => ⟨z.1, z.2.1, (h v).mp z.2.2⟩) id
theorem St3.congr {H H' : List Int} (h : ∀ x, x ∈ H ↔ x ∈ H') (s : St3 d one K H v b) : St3 d one K H' v b := by
  induction s with
  | base h => exact .base h
  | step _ h2 h3 ih => exact .step ih h2 (h3.imp id (PassB.congr h))
end
end VL

/-! plain side: proper ways -/
namespace VL
open PySem
open Enc
local macro_rules | `(tactic| walk_at "sz") => `(tactic| (first
  | assumption
  | omega
  | exact len_nil
  | ((with_reducible apply len_filter); walk_at "sz")
  | ((with_reducible apply len_map); walk_at "sz")
  | ((with_reducible apply len_srt); walk_at "sz")
  | ((with_reducible apply len_asc); omega)
  | ((with_reducible apply len_upto); omega)
  | ((with_reducible apply len_fromto); omega)
  | ((with_reducible apply len_app); (walk_at "sz"); (walk_at "sz"))
  | ((with_reducible apply len_sum); (walk_at "sz"); (walk_at "sz"))
  | ((with_reducible apply len_drop); walk_at "sz")
  | ((with_reducible apply len_take); walk_at "sz")
  | ((with_reducible apply len_rev); walk_at "sz")
  | ((with_reducible apply len_cons); (walk_at "sz"); (omega))))
local macro_rules | `(tactic| walk_at "call") => `(tactic| (first | assumption | solve_by_elim))
local macro_rules | `(tactic| walk_at "args") => `(tactic| (first
  | exact evs_nil
  | ((with_reducible apply evs_cons); (walk_at "ev"); (walk_at "args"))))
local macro_rules | `(tactic| walk_at "ev") => `(tactic| (first
  | ((with_reducible apply ev_var); rfl)
  | (with_reducible exact ev_ci)
  | (with_reducible exact ev_cb)
  | (with_reducible exact ev_cst)
  | ((with_reducible apply ev_call'); (walk_at "args"); (walk_at "call"))
  | ((with_reducible apply eb_and); (walk_at "ev"); (intro _; walk_at "ev"))
  | ((with_reducible apply eb_or); (walk_at "ev"); (intro _; walk_at "ev"))
  | ((with_reducible apply eb_not); (walk_at "ev"))
  | ((with_reducible apply eb_in); (walk_at "ev"); (walk_at "ev"); decide)
  | ((with_reducible apply eb_notin); (walk_at "ev"); (walk_at "ev"); decide)
  | ((with_reducible apply eb_eq); (walk_at "ev"); (walk_at "ev"); decide)
  | ((with_reducible apply eb_ne); (walk_at "ev"); (walk_at "ev"); decide)
  | ((with_reducible apply eb_lt); (walk_at "ev"); (walk_at "ev"))
  | ((with_reducible apply eb_le); (walk_at "ev"); (walk_at "ev"))
  | ((with_reducible apply eb_gt); (walk_at "ev"); (walk_at "ev"))
  | ((with_reducible apply eb_ge); (walk_at "ev"); (walk_at "ev"))
  | ((with_reducible apply eb_chain_lt); (walk_at "ev"); (walk_at "ev"); (walk_at "ev"))
  | ((with_reducible apply eb_isN); (walk_at "ev"))
  | ((with_reducible apply eb_notN); (walk_at "ev"))
  | ((with_reducible apply eb_isB); (walk_at "ev"))
  | ((with_reducible apply eb_notB); (walk_at "ev"))
  | ((with_reducible apply eb_lend); (walk_at "ev"))
  | ((with_reducible apply eb_all); (walk_at "ev"))
  | ((with_reducible apply eb_any); (walk_at "ev"))
  | ((with_reducible apply ev_lenL); (walk_at "ev"))
  | ((with_reducible apply ev_neg); (walk_at "ev"))
  | ((with_reducible apply ev_sub); (walk_at "ev"); (walk_at "ev"))
  | ((with_reducible apply ev_addI); (walk_at "ev"); (walk_at "ev"))
  | ((with_reducible apply ev_addL); (walk_at "ev"); (walk_at "ev"); (walk_at "sz"))
  | ((with_reducible apply ev_mul); (walk_at "ev"); (walk_at "ev"); omega; omega)
  | ((with_reducible apply ev_int); (walk_at "ev"))
  | ((with_reducible apply ev_intb); (walk_at "ev"))
  | ((with_reducible apply ev_max); (walk_at "ev"); (walk_at "ev"))
  | ((with_reducible apply ev_min); (walk_at "ev"); (walk_at "ev"))
  | ((with_reducible apply ev_ta); (walk_at "ev"))
  | ((with_reducible apply ev_tb); (walk_at "ev"))
  | ((with_reducible apply ev_tc); (walk_at "ev"))
  | ((with_reducible apply ev_pa); (walk_at "ev"))
  | ((with_reducible apply ev_pb); (walk_at "ev"))
  | ((with_reducible apply ev_ix); (walk_at "ev"); (walk_at "ev"); (assumption))
  | ((with_reducible apply ev_pair); (walk_at "ev"); (walk_at "ev"))
  | ((with_reducible apply ev_trip); (walk_at "ev"); (walk_at "ev"); (walk_at "ev"))
  | ((with_reducible apply ev_l1); (walk_at "ev"))
  | ((with_reducible apply ev_l2); (walk_at "ev"); (walk_at "ev"))
  | ((with_reducible apply ev_rng); (walk_at "ev"); omega; omega)
  | ((with_reducible apply ev_rng2); (walk_at "ev"); (walk_at "ev"); omega; omega; omega; omega)
  | ((with_reducible apply ev_listof); (walk_at "ev"))
  | ((with_reducible apply ev_rev); (walk_at "ev"))
  | ((with_reducible apply ev_drop); (walk_at "ev"); (walk_at "ev"); omega)
  | ((with_reducible apply ev_take); (walk_at "ev"); (walk_at "ev"); omega)
  | ((with_reducible apply ev_sorted); (walk_at "ev"); (first | infer_instance | assumption))
  | ((with_reducible apply ec_filter); (walk_at "ev"); rfl; (intro _ _; walk_at "ev"); (walk_at "sz"))
  | ((with_reducible apply ec_map2); (walk_at "ev"); rfl; rfl; (intro _ _; walk_at "ev"); (walk_at "sz"))
  | ((with_reducible apply ec_both2); (walk_at "ev"); rfl; rfl; (intro _ _; walk_at "ev"); (intro _ _ _; walk_at "ev"); (walk_at "sz"))
  | ((with_reducible apply ec_map); (walk_at "ev"); rfl; (intro _ _; walk_at "ev"); (walk_at "sz"))
  | ((with_reducible apply ec_both); (walk_at "ev"); rfl; (intro _ _; walk_at "ev"); (intro _ _ _; walk_at "ev"); (walk_at "sz"))
  | (with_reducible exact ev_l0)
  | ((with_reducible apply ev_ite); (walk_at "ev"); (intro _; walk_at "ev"); (intro _; walk_at "ev"))))

/-- a way that leaves the one set at its first step: all but the last, the last -/
inductive PWy (d : Dr) (one : List Int) : List Int → Int → Prop
  | one {x : Int} : x ∈ one → PWy d one [] x
  | more {w : List Int} {a b : Int} : PWy d one w a → (a, b) ∈ d.b → b ∉ one → PWy d one (w ++ [a]) b
abbrev Wy := List Int × Int
def full (q : Wy) : List Int := q.1 ++ [q.2]
section
variable {Pr : Prog} {n : Nat} {d : Dr} {one two known : List Int} {w : List Int} {a b x y : Int}
theorem PWy.inR (g : Good d) (i1 : InR d.a one) (h : PWy d one w a) : InR d.a (w ++ [a]) := by
  induction h with
  | one h => exact fun y hy => by rw [List.mem_singleton.mp hy]; exact i1 _ h
  | more _ h _ ih => exact fun y hy => (List.mem_append.mp hy).elim (ih y) fun z => by rw [List.mem_singleton.mp z]; exact (g.arr _ h).2
theorem PWy.up {r : Int → Nat} (hr : ∀ p ∈ d.b, r p.1 < r p.2) (h : PWy d one w a) : (w ++ [a]).Pairwise fun x y => r x < r y := by
  induction h with
  | one h => exact List.pairwise_singleton _ _
  | @more w a b _ h _ ih =>
    refine List.pairwise_append.mpr ⟨ih, List.pairwise_singleton _ _, fun x hx y hy => ?_⟩
    rw [List.mem_singleton.mp hy]
    have hab := hr _ h
    simp only at hab
    rcases List.mem_append.mp hx with z | z
    · have := (List.pairwise_append.mp ih).2.2 x z a (List.mem_singleton.mpr rfl)
      omega
    · rw [List.mem_singleton.mp z]
      exact hab
theorem full_inj {q q' : Wy} (h : full q = full q') : q = q' := by
  have := List.append_inj' h rfl
  exact Prod.ext this.1 (by have := this.2; simpa using this)
noncomputable def kids (d : Dr) (one : List Int) (q : Wy) : List Wy := (d.b.filter fun p => tr (p.1 = q.2) && tr (p.2 ∉ one)).map fun p => (full q, p.2)
theorem mem_kids {q k : Wy} : k ∈ kids d one q ↔ k.1 = full q ∧ (q.2, k.2) ∈ d.b ∧ k.2 ∉ one := by
  unfold kids
  rw [List.mem_map]
  constructor
  · rintro ⟨p, hp, rfl⟩
    obtain ⟨h1, h2⟩ := List.mem_filter.mp hp
    rw [Bool.and_eq_true, tr_iff, tr_iff] at h2
    exact ⟨rfl, by rw [← h2.1]; exact h1, h2.2⟩
  · rintro ⟨h1, h2, h3⟩
    exact ⟨(q.2, k.2), List.mem_filter.mpr ⟨h2, by rw [Bool.and_eq_true, tr_iff, tr_iff]; exact ⟨rfl, h3⟩⟩, by rw [← h1]⟩
theorem kids_nodup (g : Good d) (q : Wy) : (kids d one q).Nodup := by
  unfold kids
  rw [List.Nodup, List.pairwise_map]
  refine List.Pairwise.imp_of_mem (fun {p p'} hp hp' hne e => hne ?_) ((ltP_nodup g.arrS).filter _)
  have h1 := (List.mem_filter.mp hp).2
  have h2 := (List.mem_filter.mp hp').2
  rw [Bool.and_eq_true, tr_iff, tr_iff] at h1 h2
  injection e with e1 e2
  exact Prod.ext (h1.1.trans h2.1.symm) e2
structure PS4 where
  ws : List Wy
  at_ : Nat
structure Prop4 (d : Dr) (one : List Int) (s : PS4) : Prop where
  nd : s.ws.Nodup
  al : ∀ q ∈ s.ws, PWy d one q.1 q.2
  base : ∀ x ∈ one, (([], x) : Wy) ∈ s.ws
  closed : ∀ i q, i < s.at_ → s.ws[i]? = some q → ∀ k ∈ kids d one q, k ∈ s.ws
  old : ∀ k ∈ s.ws, k.1 ≠ [] → ∃ i q, i < s.at_ ∧ s.ws[i]? = some q ∧ k.1 = full q
  le : s.at_ ≤ s.ws.length
theorem Prop4.next (g : Good d) {s : PS4} (P : Prop4 d one s) {q : Wy} (hq : s.ws[s.at_]? = some q) : Prop4 d one ⟨s.ws ++ kids d one q, s.at_ + 1⟩ := by
  have hlt := getElem_lt hq
  have pre : ∀ i x, s.ws[i]? = some x → (s.ws ++ kids d one q)[i]? = some x := fun i x h => by rw [List.getElem?_append_left (getElem_lt h)]; exact h
  refine ⟨?_, ?_, ?_, ?_, ?_, ?_⟩
  · refine List.nodup_append.mpr ⟨P.nd, kids_nodup g q, fun k hk k' hk' e => ?_⟩
    subst e
    obtain ⟨e1, _, _⟩ := mem_kids.mp hk'
    obtain ⟨i, q', hi, hq', e2⟩ := P.old k hk (by rw [e1]; unfold full; simp)
    have := full_inj (e1.symm.trans e2)
    subst this
    have := nodup_ix P.nd hq hq'
    omega
  · intro k hk
    rcases List.mem_append.mp hk with hk | hk
    · exact P.al k hk
    · obtain ⟨e1, e2, e3⟩ := mem_kids.mp hk
      rw [e1]
      exact .more (P.al q (List.mem_of_getElem? hq)) e2 e3
  · exact fun x hx => List.mem_append_left _ (P.base x hx)
  · intro i q' hi hq' k hk
    by_cases e : i = s.at_
    · subst e
      rw [pre _ _ hq] at hq'
      injection hq' with hq'
      subst hq'
      exact List.mem_append_right _ hk
    · have hi' : i < s.at_ := by have : i < s.at_ + 1 := hi; omega
      have : s.ws[i]? = some q' := by
        have hlt2 : i < s.ws.length := by omega
        rw [List.getElem?_append_left hlt2] at hq'
        exact hq'
      exact List.mem_append_left _ (P.closed i q' hi' this k hk)
  · intro k hk hne
    rcases List.mem_append.mp hk with hk | hk
    · obtain ⟨i, q', hi, hq', e⟩ := P.old k hk hne
      exact ⟨i, q', by show i < s.at_ + 1; omega, pre _ _ hq', e⟩
    · exact ⟨s.at_, q, Nat.lt_succ_self _, pre _ _ hq, (mem_kids.mp hk).1⟩
  · show s.at_ + 1 ≤ (s.ws ++ kids d one q).length
    rw [List.length_append]
    omega
theorem Prop4.all {s : PS4} (P : Prop4 d one s) (e : s.at_ = s.ws.length) (h : PWy d one w a) : (w, a) ∈ s.ws := by
  induction h with
  | one h => exact P.base _ h
  | @more w a b _ h1 h2 ih =>
    obtain ⟨i, hi, e2⟩ := List.getElem_of_mem ih
    exact P.closed i (w, a) (by omega) (by rw [List.getElem?_eq_getElem hi, e2]) _ (mem_kids.mpr ⟨rfl, h1, h2⟩)
/-! ### what is on proper ways -/
noncomputable def arN (d : Dr) (one : List Int) : List Pt := d.b.filter fun p => tr (p.2 ∉ one)
noncomputable def arF (d : Dr) (one : List Int) : List Pt := d.b.filter fun p => tr (p.1 ∉ one)
theorem mem_arN {p : Pt} : p ∈ arN d one ↔ p ∈ d.b ∧ p.2 ∉ one := by
  unfold arN
  rw [List.mem_filter, tr_iff]
theorem mem_arF {p : Pt} : p ∈ arF d one ↔ p ∈ d.b ∧ p.1 ∉ one := by
  unfold arF
  rw [List.mem_filter, tr_iff]
theorem PWy.reach (h : PWy d one w a) : ∀ y ∈ w ++ [a], Clo (arN d one) one y := by
  induction h with
  | one h => exact fun y hy => by rw [List.mem_singleton.mp hy]; exact .base h
  | @more w a b _ h1 h2 ih =>
    intro y hy
    rcases List.mem_append.mp hy with z | z
    · exact ih y z
    · rw [List.mem_singleton.mp z]
      exact .step (ih a (List.mem_append_right _ (List.mem_singleton.mpr rfl))) (mem_arN.mpr ⟨h1, h2⟩)
theorem PWy.first (h : PWy d one w a) (e : w = []) : a ∈ one := by
  cases h with
  | one h => exact h
  | more _ _ _ => simp at e
theorem drop_app {l : List Int} (h : l ≠ []) : (l ++ [a]).drop 1 = l.drop 1 ++ [a] := by
  cases l with
  | nil => exact absurd rfl h
  | cons x l => rfl
theorem PWy.off (h : PWy d one w a) : ∀ y ∈ (w ++ [a]).drop 1, y ∉ one := by
  induction h with
  | one h => exact fun y hy => by cases hy
  | @more w a b _ h1 h2 ih =>
      intro y hy
      rw [drop_app (by simp)] at hy
      exact (List.mem_append.mp hy).elim (ih y) fun z => by rw [List.mem_singleton.mp z]; exact h2
theorem PWy.down (h : PWy d one w a) : ∀ y ∈ (w ++ [a]).drop 1, Clo (flip (arF d one)) [a] y := by
  induction h with
  | one h => exact fun y hy => by cases hy
  | @more w a b h0 h1 h2 ih =>
      intro y hy
      rw [drop_app (by simp)] at hy
      rcases List.mem_append.mp hy with z | z
      · have hne : w ≠ [] := fun e => by rw [e] at z; cases z
        have ha : a ∉ one := h0.off a (by rw [drop_app hne]; exact List.mem_append_right _ (List.mem_singleton.mpr rfl))
        exact clo_cat (.step clo_self (mem_flip.mpr (mem_arF.mpr ⟨h1, ha⟩))) (ih y z)
      · rw [List.mem_singleton.mp z]
        exact clo_self
theorem PWy.ext (dis : ∀ v ∈ one, v ∉ two) (h : Clo (flip (arF d one)) two x) : ∀ w, PWy d one w x → ∃ r w' a', w' ++ [a'] = w ++ [x] ++ r ∧ PWy d one w' a' ∧ a' ∈ two := by
  have off : ∀ {u}, Clo (flip (arF d one)) two u → u ∉ one := fun {u} hu => by
    cases hu with
    | base h => exact fun z => dis _ z h
    | step _ h => exact (mem_arF.mp (mem_flip.mp h)).2
  induction h with
  | base h => exact fun w hw => ⟨[], w, _, by simp, hw, h⟩
  | @step u x h1 h2 ih =>
    intro w hw
    obtain ⟨m1, m2⟩ := mem_arF.mp (mem_flip.mp h2)
    obtain ⟨r, w', a', e, h3, h4⟩ := ih (w ++ [x]) (.more hw m1 (off h1))
    exact ⟨u :: r, w', a', by rw [e]; simp, h3, h4⟩
theorem PWy.to (h : Clo (arN d one) one x) : ∃ w, PWy d one w x := by
  induction h with
  | base h => exact ⟨[], .one h⟩
  | step _ h2 ih =>
    obtain ⟨w, hw⟩ := ih
    obtain ⟨m1, m2⟩ := mem_arN.mp h2
    exact ⟨_, .more hw m1 m2⟩
end
end VL

/-! plain side: sets that adjust; webs and walks tell the same -/
namespace VL
open PySem
open Enc
local macro_rules | `(tactic| walk_at "sz") => `(tactic| (first
  | assumption
  | omega
  | exact len_nil
  | ((with_reducible apply len_filter); walk_at "sz")
  | ((with_reducible apply len_map); walk_at "sz")
  | ((with_reducible apply len_srt); walk_at "sz")
  | ((with_reducible apply len_asc); omega)
  | ((with_reducible apply len_upto); omega)
  | ((with_reducible apply len_fromto); omega)
  | ((with_reducible apply len_app); (walk_at "sz"); (walk_at "sz"))
  | ((with_reducible apply len_sum); (walk_at "sz"); (walk_at "sz"))
  | ((with_reducible apply len_drop); walk_at "sz")
  | ((with_reducible apply len_take); walk_at "sz")
  | ((with_reducible apply len_rev); walk_at "sz")
  | ((with_reducible apply len_cons); (walk_at "sz"); (omega))))
local macro_rules | `(tactic| walk_at "call") => `(tactic| (first | assumption | solve_by_elim))
local macro_rules | `(tactic| walk_at "args") => `(tactic| (first
  | exact evs_nil
  | ((with_reducible apply evs_cons); (walk_at "ev"); (walk_at "args"))))
local macro_rules | `(tactic| walk_at "ev") => `(tactic| (first
  | ((with_reducible apply ev_var); rfl)
  | (with_reducible exact ev_ci)
  | (with_reducible exact ev_cb)
  | (with_reducible exact ev_cst)
  | ((with_reducible apply ev_call'); (walk_at "args"); (walk_at "call"))
  | ((with_reducible apply eb_and); (walk_at "ev"); (intro _; walk_at "ev"))
  | ((with_reducible apply eb_or); (walk_at "ev"); (intro _; walk_at "ev"))
  | ((with_reducible apply eb_not); (walk_at "ev"))
  | ((with_reducible apply eb_in); (walk_at "ev"); (walk_at "ev"); decide)
  | ((with_reducible apply eb_notin); (walk_at "ev"); (walk_at "ev"); decide)
  | ((with_reducible apply eb_eq); (walk_at "ev"); (walk_at "ev"); decide)
  | ((with_reducible apply eb_ne); (walk_at "ev"); (walk_at "ev"); decide)
  | ((with_reducible apply eb_lt); (walk_at "ev"); (walk_at "ev"))
  | ((with_reducible apply eb_le); (walk_at "ev"); (walk_at "ev"))
  | ((with_reducible apply eb_gt); (walk_at "ev"); (walk_at "ev"))
  | ((with_reducible apply eb_ge); (walk_at "ev"); (walk_at "ev"))
  | ((with_reducible apply eb_chain_lt); (walk_at "ev"); (walk_at "ev"); (walk_at "ev"))
  | ((with_reducible apply eb_isN); (walk_at "ev"))
  | ((with_reducible apply eb_notN); (walk_at "ev"))
  | ((with_reducible apply eb_isB); (walk_at "ev"))
  | ((with_reducible apply eb_notB); (walk_at "ev"))
  | ((with_reducible apply eb_lend); (walk_at "ev"))
  | ((with_reducible apply eb_all); (walk_at "ev"))
  | ((with_reducible apply eb_any); (walk_at "ev"))
  | ((with_reducible apply ev_lenL); (walk_at "ev"))
  | ((with_reducible apply ev_neg); (walk_at "ev"))
  | ((with_reducible apply ev_sub); (walk_at "ev"); (walk_at "ev"))
  | ((with_reducible apply ev_addI); (walk_at "ev"); (walk_at "ev"))
  | ((with_reducible apply ev_addL); (walk_at "ev"); (walk_at "ev"); (walk_at "sz"))
  | ((with_reducible apply ev_mul); (walk_at "ev"); (walk_at "ev"); omega; omega)
  | ((with_reducible apply ev_int); (walk_at "ev"))
  | ((with_reducible apply ev_intb); (walk_at "ev"))
  | ((with_reducible apply ev_max); (walk_at "ev"); (walk_at "ev"))
  | ((with_reducible apply ev_min); (walk_at "ev"); (walk_at "ev"))
  | ((with_reducible apply ev_ta); (walk_at "ev"))
  | ((with_reducible apply ev_tb); (walk_at "ev"))
  | ((with_reducible apply ev_tc); (walk_at "ev"))
  | ((with_reducible apply ev_pa); (walk_at "ev"))
  | ((with_reducible apply ev_pb); (walk_at "ev"))
  | ((with_reducible apply ev_ix); (walk_at "ev"); (walk_at "ev"); (assumption))
  | ((with_reducible apply ev_pair); (walk_at "ev"); (walk_at "ev"))
  | ((with_reducible apply ev_trip); (walk_at "ev"); (walk_at "ev"); (walk_at "ev"))
  | ((with_reducible apply ev_l1); (walk_at "ev"))
  | ((with_reducible apply ev_l2); (walk_at "ev"); (walk_at "ev"))
  | ((with_reducible apply ev_rng); (walk_at "ev"); omega; omega)
  | ((with_reducible apply ev_rng2); (walk_at "ev"); (walk_at "ev"); omega; omega; omega; omega)
  | ((with_reducible apply ev_listof); (walk_at "ev"))
  | ((with_reducible apply ev_rev); (walk_at "ev"))
  | ((with_reducible apply ev_drop); (walk_at "ev"); (walk_at "ev"); omega)
  | ((with_reducible apply ev_take); (walk_at "ev"); (walk_at "ev"); omega)
  | ((with_reducible apply ev_sorted); (walk_at "ev"); (first | infer_instance | assumption))
  | ((with_reducible apply ec_filter); (walk_at "ev"); rfl; (intro _ _; walk_at "ev"); (walk_at "sz"))
  | ((with_reducible apply ec_map2); (walk_at "ev"); rfl; rfl; (intro _ _; walk_at "ev"); (walk_at "sz"))
  | ((with_reducible apply ec_both2); (walk_at "ev"); rfl; rfl; (intro _ _; walk_at "ev"); (intro _ _ _; walk_at "ev"); (walk_at "sz"))
  | ((with_reducible apply ec_map); (walk_at "ev"); rfl; (intro _ _; walk_at "ev"); (walk_at "sz"))
  | ((with_reducible apply ec_both); (walk_at "ev"); rfl; (intro _ _; walk_at "ev"); (intro _ _ _; walk_at "ev"); (walk_at "sz"))
  | (with_reducible exact ev_l0)
  | ((with_reducible apply ev_ite); (walk_at "ev"); (intro _; walk_at "ev"); (intro _; walk_at "ev"))))

section
variable {Pr : Prog} {n : Nat} {d : Dr} {one two known K S : List Int} {x y v : Int}
/-! ### webs and walks -/
theorem Bf.congr {G G' : List (List Int)} (h : ∀ x y, AdjG G x y → AdjG G' x y) (b : Bf G one K x) : Bf G' one K x := by
  induction b with
  | base h => exact .base h
  | step _ h1 h2 ih => exact .step ih (h _ _ h1) h2
/-! ### the law's walk -/
end
end VL

/-! plain side: forbidden ones, the other drawing, adjusts -/
namespace VL
open PySem
open Enc
local macro_rules | `(tactic| walk_at "sz") => `(tactic| (first
  | assumption
  | omega
  | exact len_nil
  | ((with_reducible apply len_filter); walk_at "sz")
  | ((with_reducible apply len_map); walk_at "sz")
  | ((with_reducible apply len_srt); walk_at "sz")
  | ((with_reducible apply len_asc); omega)
  | ((with_reducible apply len_upto); omega)
  | ((with_reducible apply len_fromto); omega)
  | ((with_reducible apply len_app); (walk_at "sz"); (walk_at "sz"))
  | ((with_reducible apply len_sum); (walk_at "sz"); (walk_at "sz"))
  | ((with_reducible apply len_drop); walk_at "sz")
  | ((with_reducible apply len_take); walk_at "sz")
  | ((with_reducible apply len_rev); walk_at "sz")
  | ((with_reducible apply len_cons); (walk_at "sz"); (omega))))
local macro_rules | `(tactic| walk_at "call") => `(tactic| (first | assumption | solve_by_elim))
local macro_rules | `(tactic| walk_at "args") => `(tactic| (first
  | exact evs_nil
  | ((with_reducible apply evs_cons); (walk_at "ev"); (walk_at "args"))))
local macro_rules | `(tactic| walk_at "ev") => `(tactic| (first
  | ((with_reducible apply ev_var); rfl)
  | (with_reducible exact ev_ci)
  | (with_reducible exact ev_cb)
  | (with_reducible exact ev_cst)
  | ((with_reducible apply ev_call'); (walk_at "args"); (walk_at "call"))
  | ((with_reducible apply eb_and); (walk_at "ev"); (intro _; walk_at "ev"))
  | ((with_reducible apply eb_or); (walk_at "ev"); (intro _; walk_at "ev"))
  | ((with_reducible apply eb_not); (walk_at "ev"))
  | ((with_reducible apply eb_in); (walk_at "ev"); (walk_at "ev"); decide)
  | ((with_reducible apply eb_notin); (walk_at "ev"); (walk_at "ev"); decide)
  | ((with_reducible apply eb_eq); (walk_at "ev"); (walk_at "ev"); decide)
  | ((with_reducible apply eb_ne); (walk_at "ev"); (walk_at "ev"); decide)
  | ((with_reducible apply eb_lt); (walk_at "ev"); (walk_at "ev"))
  | ((with_reducible apply eb_le); (walk_at "ev"); (walk_at "ev"))
  | ((with_reducible apply eb_gt); (walk_at "ev"); (walk_at "ev"))
  | ((with_reducible apply eb_ge); (walk_at "ev"); (walk_at "ev"))
  | ((with_reducible apply eb_chain_lt); (walk_at "ev"); (walk_at "ev"); (walk_at "ev"))
  | ((with_reducible apply eb_isN); (walk_at "ev"))
  | ((with_reducible apply eb_notN); (walk_at "ev"))
  | ((with_reducible apply eb_isB); (walk_at "ev"))
  | ((with_reducible apply eb_notB); (walk_at "ev"))
  | ((with_reducible apply eb_lend); (walk_at "ev"))
  | ((with_reducible apply eb_all); (walk_at "ev"))
  | ((with_reducible apply eb_any); (walk_at "ev"))
  | ((with_reducible apply ev_lenL); (walk_at "ev"))
  | ((with_reducible apply ev_neg); (walk_at "ev"))
  | ((with_reducible apply ev_sub); (walk_at "ev"); (walk_at "ev"))
  | ((with_reducible apply ev_addI); (walk_at "ev"); (walk_at "ev"))
  | ((with_reducible apply ev_addL); (walk_at "ev"); (walk_at "ev"); (walk_at "sz"))
  | ((with_reducible apply ev_mul); (walk_at "ev"); (walk_at "ev"); omega; omega)
  | ((with_reducible apply ev_int); (walk_at "ev"))
  | ((with_reducible apply ev_intb); (walk_at "ev"))
  | ((with_reducible apply ev_max); (walk_at "ev"); (walk_at "ev"))
  | ((with_reducible apply ev_min); (walk_at "ev"); (walk_at "ev"))
  | ((with_reducible apply ev_ta); (walk_at "ev"))
  | ((with_reducible apply ev_tb); (walk_at "ev"))
  | ((with_reducible apply ev_tc); (walk_at "ev"))
  | ((with_reducible apply ev_pa); (walk_at "ev"))
  | ((with_reducible apply ev_pb); (walk_at "ev"))
  | ((with_reducible apply ev_ix); (walk_at "ev"); (walk_at "ev"); (assumption))
  | ((with_reducible apply ev_pair); (walk_at "ev"); (walk_at "ev"))
  | ((with_reducible apply ev_trip); (walk_at "ev"); (walk_at "ev"); (walk_at "ev"))
  | ((with_reducible apply ev_l1); (walk_at "ev"))
  | ((with_reducible apply ev_l2); (walk_at "ev"); (walk_at "ev"))
  | ((with_reducible apply ev_rng); (walk_at "ev"); omega; omega)
  | ((with_reducible apply ev_rng2); (walk_at "ev"); (walk_at "ev"); omega; omega; omega; omega)
  | ((with_reducible apply ev_listof); (walk_at "ev"))
  | ((with_reducible apply ev_rev); (walk_at "ev"))
  | ((with_reducible apply ev_drop); (walk_at "ev"); (walk_at "ev"); omega)
  | ((with_reducible apply ev_take); (walk_at "ev"); (walk_at "ev"); omega)
  | ((with_reducible apply ev_sorted); (walk_at "ev"); (first | infer_instance | assumption))
  | ((with_reducible apply ec_filter); (walk_at "ev"); rfl; (intro _ _; walk_at "ev"); (walk_at "sz"))
  | ((with_reducible apply ec_map2); (walk_at "ev"); rfl; rfl; (intro _ _; walk_at "ev"); (walk_at "sz"))
  | ((with_reducible apply ec_both2); (walk_at "ev"); rfl; rfl; (intro _ _; walk_at "ev"); (intro _ _ _; walk_at "ev"); (walk_at "sz"))
  | ((with_reducible apply ec_map); (walk_at "ev"); rfl; (intro _ _; walk_at "ev"); (walk_at "sz"))
  | ((with_reducible apply ec_both); (walk_at "ev"); rfl; (intro _ _; walk_at "ev"); (intro _ _ _; walk_at "ev"); (walk_at "sz"))
  | (with_reducible exact ev_l0)
  | ((with_reducible apply ev_ite); (walk_at "ev"); (intro _; walk_at "ev"); (intro _; walk_at "ev"))))

section
variable {Pr : Prog} {n : Nat} {d : Dr} {one two K S : List Int} {x y v : Int}
theorem Tame.sub (T : Tame d) {b c : List Pt} (hb : ∀ p ∈ b, p ∈ d.b) (hc : ∀ p ∈ c, p ∈ d.c) (zb : b.length ≤ d.b.length) (zc : c.length ≤ d.c.length) : Tame ⟨d.a, b, c⟩ where
  m := T.m
  arr := fun p hp => T.arr p (hb p hp)
  tie := fun p hp => T.tie p (hc p hp)
  zb := Nat.le_trans zb T.zb
  zc := Nat.le_trans zc T.zc
/-! ### the law's -/
end
end VL

/-! plain side: _law_above, _law_blocked -/
namespace VL
open PySem
open Enc
local macro_rules | `(tactic| walk_at "sz") => `(tactic| (first
  | assumption
  | omega
  | exact len_nil
  | ((with_reducible apply len_filter); walk_at "sz")
  | ((with_reducible apply len_map); walk_at "sz")
  | ((with_reducible apply len_srt); walk_at "sz")
  | ((with_reducible apply len_asc); omega)
  | ((with_reducible apply len_upto); omega)
  | ((with_reducible apply len_fromto); omega)
  | ((with_reducible apply len_app); (walk_at "sz"); (walk_at "sz"))
  | ((with_reducible apply len_sum); (walk_at "sz"); (walk_at "sz"))
  | ((with_reducible apply len_drop); walk_at "sz")
  | ((with_reducible apply len_take); walk_at "sz")
  | ((with_reducible apply len_rev); walk_at "sz")
  | ((with_reducible apply len_cons); (walk_at "sz"); (omega))))
local macro_rules | `(tactic| walk_at "call") => `(tactic| (first | assumption | solve_by_elim))
local macro_rules | `(tactic| walk_at "args") => `(tactic| (first
  | exact evs_nil
  | ((with_reducible apply evs_cons); (walk_at "ev"); (walk_at "args"))))
local macro_rules | `(tactic| walk_at "ev") => `(tactic| (first
  | ((with_reducible apply ev_var); rfl)
  | (with_reducible exact ev_ci)
  | (with_reducible exact ev_cb)
  | (with_reducible exact ev_cst)
  | ((with_reducible apply ev_call'); (walk_at "args"); (walk_at "call"))
  | ((with_reducible apply eb_and); (walk_at "ev"); (intro _; walk_at "ev"))
  | ((with_reducible apply eb_or); (walk_at "ev"); (intro _; walk_at "ev"))
  | ((with_reducible apply eb_not); (walk_at "ev"))
  | ((with_reducible apply eb_in); (walk_at "ev"); (walk_at "ev"); decide)
  | ((with_reducible apply eb_notin); (walk_at "ev"); (walk_at "ev"); decide)
  | ((with_reducible apply eb_eq); (walk_at "ev"); (walk_at "ev"); decide)
  | ((with_reducible apply eb_ne); (walk_at "ev"); (walk_at "ev"); decide)
  | ((with_reducible apply eb_lt); (walk_at "ev"); (walk_at "ev"))
  | ((with_reducible apply eb_le); (walk_at "ev"); (walk_at "ev"))
  | ((with_reducible apply eb_gt); (walk_at "ev"); (walk_at "ev"))
  | ((with_reducible apply eb_ge); (walk_at "ev"); (walk_at "ev"))
  | ((with_reducible apply eb_chain_lt); (walk_at "ev"); (walk_at "ev"); (walk_at "ev"))
  | ((with_reducible apply eb_isN); (walk_at "ev"))
  | ((with_reducible apply eb_notN); (walk_at "ev"))
  | ((with_reducible apply eb_isB); (walk_at "ev"))
  | ((with_reducible apply eb_notB); (walk_at "ev"))
  | ((with_reducible apply eb_lend); (walk_at "ev"))
  | ((with_reducible apply eb_all); (walk_at "ev"))
  | ((with_reducible apply eb_any); (walk_at "ev"))
  | ((with_reducible apply ev_lenL); (walk_at "ev"))
  | ((with_reducible apply ev_neg); (walk_at "ev"))
  | ((with_reducible apply ev_sub); (walk_at "ev"); (walk_at "ev"))
  | ((with_reducible apply ev_addI); (walk_at "ev"); (walk_at "ev"))
  | ((with_reducible apply ev_addL); (walk_at "ev"); (walk_at "ev"); (walk_at "sz"))
  | ((with_reducible apply ev_mul); (walk_at "ev"); (walk_at "ev"); omega; omega)
  | ((with_reducible apply ev_int); (walk_at "ev"))
  | ((with_reducible apply ev_intb); (walk_at "ev"))
  | ((with_reducible apply ev_max); (walk_at "ev"); (walk_at "ev"))
  | ((with_reducible apply ev_min); (walk_at "ev"); (walk_at "ev"))
  | ((with_reducible apply ev_ta); (walk_at "ev"))
  | ((with_reducible apply ev_tb); (walk_at "ev"))
  | ((with_reducible apply ev_tc); (walk_at "ev"))
  | ((with_reducible apply ev_pa); (walk_at "ev"))
  | ((with_reducible apply ev_pb); (walk_at "ev"))
  | ((with_reducible apply ev_ix); (walk_at "ev"); (walk_at "ev"); (assumption))
  | ((with_reducible apply ev_pair); (walk_at "ev"); (walk_at "ev"))
  | ((with_reducible apply ev_trip); (walk_at "ev"); (walk_at "ev"); (walk_at "ev"))
  | ((with_reducible apply ev_l1); (walk_at "ev"))
  | ((with_reducible apply ev_l2); (walk_at "ev"); (walk_at "ev"))
  | ((with_reducible apply ev_rng); (walk_at "ev"); omega; omega)
  | ((with_reducible apply ev_rng2); (walk_at "ev"); (walk_at "ev"); omega; omega; omega; omega)
  | ((with_reducible apply ev_listof); (walk_at "ev"))
  | ((with_reducible apply ev_rev); (walk_at "ev"))
  | ((with_reducible apply ev_drop); (walk_at "ev"); (walk_at "ev"); omega)
  | ((with_reducible apply ev_take); (walk_at "ev"); (walk_at "ev"); omega)
  | ((with_reducible apply ev_sorted); (walk_at "ev"); (first | infer_instance | assumption))
  | ((with_reducible apply ec_filter); (walk_at "ev"); rfl; (intro _ _; walk_at "ev"); (walk_at "sz"))
  | ((with_reducible apply ec_map2); (walk_at "ev"); rfl; rfl; (intro _ _; walk_at "ev"); (walk_at "sz"))
  | ((with_reducible apply ec_both2); (walk_at "ev"); rfl; rfl; (intro _ _; walk_at "ev"); (intro _ _ _; walk_at "ev"); (walk_at "sz"))
  | ((with_reducible apply ec_map); (walk_at "ev"); rfl; (intro _ _; walk_at "ev"); (walk_at "sz"))
  | ((with_reducible apply ec_both); (walk_at "ev"); rfl; (intro _ _; walk_at "ev"); (intro _ _ _; walk_at "ev"); (walk_at "sz"))
  | (with_reducible exact ev_l0)
  | ((with_reducible apply ev_ite); (walk_at "ev"); (intro _; walk_at "ev"); (intro _; walk_at "ev"))))

section
variable {Pr : Prog} {n : Nat} {d : Dr} {a b : Int} {K : List Int}
/-- the states that the law's walk over two rows has met -/
structure Met (d : Dr) (a : Int) (K : List Int) (f g : Int → Bool) : Prop where
  fa : f a = true
  up : ∀ x, f x = true → x = a ∨ Ws d [a] (ancF d K) K x 0
  down : ∀ x, g x = true → Ws d [a] (ancF d K) K x 1
end
end VL

/-! plain side: _law_open, _law_ways -/
namespace VL
open PySem
open Enc
local macro_rules | `(tactic| walk_at "sz") => `(tactic| (first
  | assumption
  | omega
  | exact len_nil
  | ((with_reducible apply len_filter); walk_at "sz")
  | ((with_reducible apply len_map); walk_at "sz")
  | ((with_reducible apply len_srt); walk_at "sz")
  | ((with_reducible apply len_asc); omega)
  | ((with_reducible apply len_upto); omega)
  | ((with_reducible apply len_fromto); omega)
  | ((with_reducible apply len_app); (walk_at "sz"); (walk_at "sz"))
  | ((with_reducible apply len_sum); (walk_at "sz"); (walk_at "sz"))
  | ((with_reducible apply len_drop); walk_at "sz")
  | ((with_reducible apply len_take); walk_at "sz")
  | ((with_reducible apply len_rev); walk_at "sz")
  | ((with_reducible apply len_cons); (walk_at "sz"); (omega))))
local macro_rules | `(tactic| walk_at "call") => `(tactic| (first | assumption | solve_by_elim))
local macro_rules | `(tactic| walk_at "args") => `(tactic| (first
  | exact evs_nil
  | ((with_reducible apply evs_cons); (walk_at "ev"); (walk_at "args"))))
local macro_rules | `(tactic| walk_at "ev") => `(tactic| (first
  | ((with_reducible apply ev_var); rfl)
  | (with_reducible exact ev_ci)
  | (with_reducible exact ev_cb)
  | (with_reducible exact ev_cst)
  | ((with_reducible apply ev_call'); (walk_at "args"); (walk_at "call"))
  | ((with_reducible apply eb_and); (walk_at "ev"); (intro _; walk_at "ev"))
  | ((with_reducible apply eb_or); (walk_at "ev"); (intro _; walk_at "ev"))
  | ((with_reducible apply eb_not); (walk_at "ev"))
  | ((with_reducible apply eb_in); (walk_at "ev"); (walk_at "ev"); decide)
  | ((with_reducible apply eb_notin); (walk_at "ev"); (walk_at "ev"); decide)
  | ((with_reducible apply eb_eq); (walk_at "ev"); (walk_at "ev"); decide)
  | ((with_reducible apply eb_ne); (walk_at "ev"); (walk_at "ev"); decide)
  | ((with_reducible apply eb_lt); (walk_at "ev"); (walk_at "ev"))
  | ((with_reducible apply eb_le); (walk_at "ev"); (walk_at "ev"))
  | ((with_reducible apply eb_gt); (walk_at "ev"); (walk_at "ev"))
  | ((with_reducible apply eb_ge); (walk_at "ev"); (walk_at "ev"))
  | ((with_reducible apply eb_chain_lt); (walk_at "ev"); (walk_at "ev"); (walk_at "ev"))
  | ((with_reducible apply eb_isN); (walk_at "ev"))
  | ((with_reducible apply eb_notN); (walk_at "ev"))
  | ((with_reducible apply eb_isB); (walk_at "ev"))
  | ((with_reducible apply eb_notB); (walk_at "ev"))
  | ((with_reducible apply eb_lend); (walk_at "ev"))
  | ((with_reducible apply eb_all); (walk_at "ev"))
  | ((with_reducible apply eb_any); (walk_at "ev"))
  | ((with_reducible apply ev_lenL); (walk_at "ev"))
  | ((with_reducible apply ev_neg); (walk_at "ev"))
  | ((with_reducible apply ev_sub); (walk_at "ev"); (walk_at "ev"))
  | ((with_reducible apply ev_addI); (walk_at "ev"); (walk_at "ev"))
  | ((with_reducible apply ev_addL); (walk_at "ev"); (walk_at "ev"); (walk_at "sz"))
  | ((with_reducible apply ev_mul); (walk_at "ev"); (walk_at "ev"); omega; omega)
  | ((with_reducible apply ev_int); (walk_at "ev"))
  | ((with_reducible apply ev_intb); (walk_at "ev"))
  | ((with_reducible apply ev_max); (walk_at "ev"); (walk_at "ev"))
  | ((with_reducible apply ev_min); (walk_at "ev"); (walk_at "ev"))
  | ((with_reducible apply ev_ta); (walk_at "ev"))
  | ((with_reducible apply ev_tb); (walk_at "ev"))
  | ((with_reducible apply ev_tc); (walk_at "ev"))
  | ((with_reducible apply ev_pa); (walk_at "ev"))
  | ((with_reducible apply ev_pb); (walk_at "ev"))
  | ((with_reducible apply ev_ix); (walk_at "ev"); (walk_at "ev"); (assumption))
  | ((with_reducible apply ev_pair); (walk_at "ev"); (walk_at "ev"))
  | ((with_reducible apply ev_trip); (walk_at "ev"); (walk_at "ev"); (walk_at "ev"))
  | ((with_reducible apply ev_l1); (walk_at "ev"))
  | ((with_reducible apply ev_l2); (walk_at "ev"); (walk_at "ev"))
  | ((with_reducible apply ev_rng); (walk_at "ev"); omega; omega)
  | ((with_reducible apply ev_rng2); (walk_at "ev"); (walk_at "ev"); omega; omega; omega; omega)
  | ((with_reducible apply ev_listof); (walk_at "ev"))
  | ((with_reducible apply ev_rev); (walk_at "ev"))
  | ((with_reducible apply ev_drop); (walk_at "ev"); (walk_at "ev"); omega)
  | ((with_reducible apply ev_take); (walk_at "ev"); (walk_at "ev"); omega)
  | ((with_reducible apply ev_sorted); (walk_at "ev"); (first | infer_instance | assumption))
  | ((with_reducible apply ec_filter); (walk_at "ev"); rfl; (intro _ _; walk_at "ev"); (walk_at "sz"))
  | ((with_reducible apply ec_map2); (walk_at "ev"); rfl; rfl; (intro _ _; walk_at "ev"); (walk_at "sz"))
  | ((with_reducible apply ec_both2); (walk_at "ev"); rfl; rfl; (intro _ _; walk_at "ev"); (intro _ _ _; walk_at "ev"); (walk_at "sz"))
  | ((with_reducible apply ec_map); (walk_at "ev"); rfl; (intro _ _; walk_at "ev"); (walk_at "sz"))
  | ((with_reducible apply ec_both); (walk_at "ev"); rfl; (intro _ _; walk_at "ev"); (intro _ _ _; walk_at "ev"); (walk_at "sz"))
  | (with_reducible exact ev_l0)
  | ((with_reducible apply ev_ite); (walk_at "ev"); (intro _; walk_at "ev"); (intro _; walk_at "ev"))))

section
variable {A : List Pt} {above K : List Int}
end
section
variable {Pr : Prog} {n : Nat} {d : Dr} {a b : Int} {K : List Int}
end
end VL

/-! plain side: _law_ways -/
namespace VL
open PySem
open Enc
local macro_rules | `(tactic| walk_at "sz") => `(tactic| (first
  | assumption
  | omega
  | exact len_nil
  | ((with_reducible apply len_filter); walk_at "sz")
  | ((with_reducible apply len_map); walk_at "sz")
  | ((with_reducible apply len_srt); walk_at "sz")
  | ((with_reducible apply len_asc); omega)
  | ((with_reducible apply len_upto); omega)
  | ((with_reducible apply len_fromto); omega)
  | ((with_reducible apply len_app); (walk_at "sz"); (walk_at "sz"))
  | ((with_reducible apply len_sum); (walk_at "sz"); (walk_at "sz"))
  | ((with_reducible apply len_drop); walk_at "sz")
  | ((with_reducible apply len_take); walk_at "sz")
  | ((with_reducible apply len_rev); walk_at "sz")
  | ((with_reducible apply len_cons); (walk_at "sz"); (omega))))
local macro_rules | `(tactic| walk_at "call") => `(tactic| (first | assumption | solve_by_elim))
local macro_rules | `(tactic| walk_at "args") => `(tactic| (first
  | exact evs_nil
  | ((with_reducible apply evs_cons); (walk_at "ev"); (walk_at "args"))))
local macro_rules | `(tactic| walk_at "ev") => `(tactic| (first
  | ((with_reducible apply ev_var); rfl)
  | (with_reducible exact ev_ci)
  | (with_reducible exact ev_cb)
  | (with_reducible exact ev_cst)
  | ((with_reducible apply ev_call'); (walk_at "args"); (walk_at "call"))
  | ((with_reducible apply eb_and); (walk_at "ev"); (intro _; walk_at "ev"))
  | ((with_reducible apply eb_or); (walk_at "ev"); (intro _; walk_at "ev"))
  | ((with_reducible apply eb_not); (walk_at "ev"))
  | ((with_reducible apply eb_in); (walk_at "ev"); (walk_at "ev"); decide)
  | ((with_reducible apply eb_notin); (walk_at "ev"); (walk_at "ev"); decide)
  | ((with_reducible apply eb_eq); (walk_at "ev"); (walk_at "ev"); decide)
  | ((with_reducible apply eb_ne); (walk_at "ev"); (walk_at "ev"); decide)
  | ((with_reducible apply eb_lt); (walk_at "ev"); (walk_at "ev"))
  | ((with_reducible apply eb_le); (walk_at "ev"); (walk_at "ev"))
  | ((with_reducible apply eb_gt); (walk_at "ev"); (walk_at "ev"))
  | ((with_reducible apply eb_ge); (walk_at "ev"); (walk_at "ev"))
  | ((with_reducible apply eb_chain_lt); (walk_at "ev"); (walk_at "ev"); (walk_at "ev"))
  | ((with_reducible apply eb_isN); (walk_at "ev"))
  | ((with_reducible apply eb_notN); (walk_at "ev"))
  | ((with_reducible apply eb_isB); (walk_at "ev"))
  | ((with_reducible apply eb_notB); (walk_at "ev"))
  | ((with_reducible apply eb_lend); (walk_at "ev"))
  | ((with_reducible apply eb_all); (walk_at "ev"))
  | ((with_reducible apply eb_any); (walk_at "ev"))
  | ((with_reducible apply ev_lenL); (walk_at "ev"))
  | ((with_reducible apply ev_neg); (walk_at "ev"))
  | ((with_reducible apply ev_sub); (walk_at "ev"); (walk_at "ev"))
  | ((with_reducible apply ev_addI); (walk_at "ev"); (walk_at "ev"))
  | ((with_reducible apply ev_addL); (walk_at "ev"); (walk_at "ev"); (walk_at "sz"))
  | ((with_reducible apply ev_mul); (walk_at "ev"); (walk_at "ev"); omega; omega)
  | ((with_reducible apply ev_int); (walk_at "ev"))
  | ((with_reducible apply ev_intb); (walk_at "ev"))
  | ((with_reducible apply ev_max); (walk_at "ev"); (walk_at "ev"))
  | ((with_reducible apply ev_min); (walk_at "ev"); (walk_at "ev"))
  | ((with_reducible apply ev_ta); (walk_at "ev"))
  | ((with_reducible apply ev_tb); (walk_at "ev"))
  | ((with_reducible apply ev_tc); (walk_at "ev"))
  | ((with_reducible apply ev_pa); (walk_at "ev"))
  | ((with_reducible apply ev_pb); (walk_at "ev"))
  | ((with_reducible apply ev_ix); (walk_at "ev"); (walk_at "ev"); (assumption))
  | ((with_reducible apply ev_pair); (walk_at "ev"); (walk_at "ev"))
  | ((with_reducible apply ev_trip); (walk_at "ev"); (walk_at "ev"); (walk_at "ev"))
  | ((with_reducible apply ev_l1); (walk_at "ev"))
  | ((with_reducible apply ev_l2); (walk_at "ev"); (walk_at "ev"))
  | ((with_reducible apply ev_rng); (walk_at "ev"); omega; omega)
  | ((with_reducible apply ev_rng2); (walk_at "ev"); (walk_at "ev"); omega; omega; omega; omega)
  | ((with_reducible apply ev_listof); (walk_at "ev"))
  | ((with_reducible apply ev_rev); (walk_at "ev"))
  | ((with_reducible apply ev_drop); (walk_at "ev"); (walk_at "ev"); omega)
  | ((with_reducible apply ev_take); (walk_at "ev"); (walk_at "ev"); omega)
  | ((with_reducible apply ev_sorted); (walk_at "ev"); (first | infer_instance | assumption))
  | ((with_reducible apply ec_filter); (walk_at "ev"); rfl; (intro _ _; walk_at "ev"); (walk_at "sz"))
  | ((with_reducible apply ec_map2); (walk_at "ev"); rfl; rfl; (intro _ _; walk_at "ev"); (walk_at "sz"))
  | ((with_reducible apply ec_both2); (walk_at "ev"); rfl; rfl; (intro _ _; walk_at "ev"); (intro _ _ _; walk_at "ev"); (walk_at "sz"))
  | ((with_reducible apply ec_map); (walk_at "ev"); rfl; (intro _ _; walk_at "ev"); (walk_at "sz"))
  | ((with_reducible apply ec_both); (walk_at "ev"); rfl; (intro _ _; walk_at "ev"); (intro _ _ _; walk_at "ev"); (walk_at "sz"))
  | (with_reducible exact ev_l0)
  | ((with_reducible apply ev_ite); (walk_at "ev"); (intro _; walk_at "ev"); (intro _; walk_at "ev"))))

section
variable {a b m : Int} {J : List Pt}
end
section
variable {Pr : Prog} {n : Nat} {a b m : Int} {J : List Pt}
end
end VL

/-! plain side: the law's drawings without ties -/
namespace VL
open PySem
open Enc
local macro_rules | `(tactic| walk_at "sz") => `(tactic| (first
  | assumption
  | omega
  | exact len_nil
  | ((with_reducible apply len_filter); walk_at "sz")
  | ((with_reducible apply len_map); walk_at "sz")
  | ((with_reducible apply len_srt); walk_at "sz")
  | ((with_reducible apply len_asc); omega)
  | ((with_reducible apply len_upto); omega)
  | ((with_reducible apply len_fromto); omega)
  | ((with_reducible apply len_app); (walk_at "sz"); (walk_at "sz"))
  | ((with_reducible apply len_sum); (walk_at "sz"); (walk_at "sz"))
  | ((with_reducible apply len_drop); walk_at "sz")
  | ((with_reducible apply len_take); walk_at "sz")
  | ((with_reducible apply len_rev); walk_at "sz")
  | ((with_reducible apply len_cons); (walk_at "sz"); (omega))))
local macro_rules | `(tactic| walk_at "call") => `(tactic| (first | assumption | solve_by_elim))
local macro_rules | `(tactic| walk_at "args") => `(tactic| (first
  | exact evs_nil
  | ((with_reducible apply evs_cons); (walk_at "ev"); (walk_at "args"))))
local macro_rules | `(tactic| walk_at "ev") => `(tactic| (first
  | ((with_reducible apply ev_var); rfl)
  | (with_reducible exact ev_ci)
  | (with_reducible exact ev_cb)
  | (with_reducible exact ev_cst)
  | ((with_reducible apply ev_call'); (walk_at "args"); (walk_at "call"))
  | ((with_reducible apply eb_and); (walk_at "ev"); (intro _; walk_at "ev"))
  | ((with_reducible apply eb_or); (walk_at "ev"); (intro _; walk_at "ev"))
  | ((with_reducible apply eb_not); (walk_at "ev"))
  | ((with_reducible apply eb_in); (walk_at "ev"); (walk_at "ev"); decide)
  | ((with_reducible apply eb_notin); (walk_at "ev"); (walk_at "ev"); decide)
  | ((with_reducible apply eb_eq); (walk_at "ev"); (walk_at "ev"); decide)
  | ((with_reducible apply eb_ne); (walk_at "ev"); (walk_at "ev"); decide)
  | ((with_reducible apply eb_lt); (walk_at "ev"); (walk_at "ev"))
  | ((with_reducible apply eb_le); (walk_at "ev"); (walk_at "ev"))
  | ((with_reducible apply eb_gt); (walk_at "ev"); (walk_at "ev"))
  | ((with_reducible apply eb_ge); (walk_at "ev"); (walk_at "ev"))
  | ((with_reducible apply eb_chain_lt); (walk_at "ev"); (walk_at "ev"); (walk_at "ev"))
  | ((with_reducible apply eb_isN); (walk_at "ev"))
  | ((with_reducible apply eb_notN); (walk_at "ev"))
  | ((with_reducible apply eb_isB); (walk_at "ev"))
  | ((with_reducible apply eb_notB); (walk_at "ev"))
  | ((with_reducible apply eb_lend); (walk_at "ev"))
  | ((with_reducible apply eb_all); (walk_at "ev"))
  | ((with_reducible apply eb_any); (walk_at "ev"))
  | ((with_reducible apply ev_lenL); (walk_at "ev"))
  | ((with_reducible apply ev_neg); (walk_at "ev"))
  | ((with_reducible apply ev_sub); (walk_at "ev"); (walk_at "ev"))
  | ((with_reducible apply ev_addI); (walk_at "ev"); (walk_at "ev"))
  | ((with_reducible apply ev_addL); (walk_at "ev"); (walk_at "ev"); (walk_at "sz"))
  | ((with_reducible apply ev_mul); (walk_at "ev"); (walk_at "ev"); omega; omega)
  | ((with_reducible apply ev_int); (walk_at "ev"))
  | ((with_reducible apply ev_intb); (walk_at "ev"))
  | ((with_reducible apply ev_max); (walk_at "ev"); (walk_at "ev"))
  | ((with_reducible apply ev_min); (walk_at "ev"); (walk_at "ev"))
  | ((with_reducible apply ev_ta); (walk_at "ev"))
  | ((with_reducible apply ev_tb); (walk_at "ev"))
  | ((with_reducible apply ev_tc); (walk_at "ev"))
  | ((with_reducible apply ev_pa); (walk_at "ev"))
  | ((with_reducible apply ev_pb); (walk_at "ev"))
  | ((with_reducible apply ev_ix); (walk_at "ev"); (walk_at "ev"); (assumption))
  | ((with_reducible apply ev_pair); (walk_at "ev"); (walk_at "ev"))
  | ((with_reducible apply ev_trip); (walk_at "ev"); (walk_at "ev"); (walk_at "ev"))
  | ((with_reducible apply ev_l1); (walk_at "ev"))
  | ((with_reducible apply ev_l2); (walk_at "ev"); (walk_at "ev"))
  | ((with_reducible apply ev_rng); (walk_at "ev"); omega; omega)
  | ((with_reducible apply ev_rng2); (walk_at "ev"); (walk_at "ev"); omega; omega; omega; omega)
  | ((with_reducible apply ev_listof); (walk_at "ev"))
  | ((with_reducible apply ev_rev); (walk_at "ev"))
  | ((with_reducible apply ev_drop); (walk_at "ev"); (walk_at "ev"); omega)
  | ((with_reducible apply ev_take); (walk_at "ev"); (walk_at "ev"); omega)
  | ((with_reducible apply ev_sorted); (walk_at "ev"); (first | infer_instance | assumption))
  | ((with_reducible apply ec_filter); (walk_at "ev"); rfl; (intro _ _; walk_at "ev"); (walk_at "sz"))
  | ((with_reducible apply ec_map2); (walk_at "ev"); rfl; rfl; (intro _ _; walk_at "ev"); (walk_at "sz"))
  | ((with_reducible apply ec_both2); (walk_at "ev"); rfl; rfl; (intro _ _; walk_at "ev"); (intro _ _ _; walk_at "ev"); (walk_at "sz"))
  | ((with_reducible apply ec_map); (walk_at "ev"); rfl; (intro _ _; walk_at "ev"); (walk_at "sz"))
  | ((with_reducible apply ec_both); (walk_at "ev"); rfl; (intro _ _; walk_at "ev"); (intro _ _ _; walk_at "ev"); (walk_at "sz"))
  | (with_reducible exact ev_l0)
  | ((with_reducible apply ev_ite); (walk_at "ev"); (intro _; walk_at "ev"); (intro _; walk_at "ev"))))

section
variable {Pr : Prog} {n : Nat} {ds : List Int} {k m c : Int}
theorem good_irr {d : Dr} (g : Good d) : ∀ x, (x, x) ∉ d.b := fun x h => by
  obtain ⟨rank, top, hr⟩ := g.rank
  exact absurd (hr _ h).1 (Nat.lt_irrefl _)
theorem good_anti {d : Dr} (g : Good d) : Anti d.b := fun x y h h2 => by
  obtain ⟨rank, top, hr⟩ := g.rank
  have h3 := (hr _ h).1
  have h4 := (hr _ h2).1
  simp only at h3 h4
  omega
end
/-! ### neighbours, meetings -/
section
variable {Pr : Prog} {n : Nat} {d : Dr} {A J : List Pt}
abbrev T3 := Tr Int Int Int
theorem alk_t3 (a b : T3) : PySem.W.alike (enc a) (enc b) = true := by
  show PySem.W.alike (.tuple [enc a.a, enc a.b, enc a.c]) (.tuple [enc b.a, enc b.b, enc b.c]) = true
  simp only [PySem.W.alike, PySem.W.alikeAll, alk_int, Bool.and_self]
instance : Srt T3 := ⟨alk_t3, .inl fun _ => rfl, by decide⟩
end
end VL

/-! plain side: the laws' own drawings with ties, and three sets -/
namespace VL
open PySem
open Enc
local macro_rules | `(tactic| walk_at "sz") => `(tactic| (first
  | assumption
  | omega
  | exact len_nil
  | ((with_reducible apply len_filter); walk_at "sz")
  | ((with_reducible apply len_map); walk_at "sz")
  | ((with_reducible apply len_srt); walk_at "sz")
  | ((with_reducible apply len_asc); omega)
  | ((with_reducible apply len_upto); omega)
  | ((with_reducible apply len_fromto); omega)
  | ((with_reducible apply len_app); (walk_at "sz"); (walk_at "sz"))
  | ((with_reducible apply len_sum); (walk_at "sz"); (walk_at "sz"))
  | ((with_reducible apply len_drop); walk_at "sz")
  | ((with_reducible apply len_take); walk_at "sz")
  | ((with_reducible apply len_rev); walk_at "sz")
  | ((with_reducible apply len_cons); (walk_at "sz"); (omega))))
local macro_rules | `(tactic| walk_at "call") => `(tactic| (first | assumption | solve_by_elim))
local macro_rules | `(tactic| walk_at "args") => `(tactic| (first
  | exact evs_nil
  | ((with_reducible apply evs_cons); (walk_at "ev"); (walk_at "args"))))
local macro_rules | `(tactic| walk_at "ev") => `(tactic| (first
  | ((with_reducible apply ev_var); rfl)
  | (with_reducible exact ev_ci)
  | (with_reducible exact ev_cb)
  | (with_reducible exact ev_cst)
  | ((with_reducible apply ev_call'); (walk_at "args"); (walk_at "call"))
  | ((with_reducible apply eb_and); (walk_at "ev"); (intro _; walk_at "ev"))
  | ((with_reducible apply eb_or); (walk_at "ev"); (intro _; walk_at "ev"))
  | ((with_reducible apply eb_not); (walk_at "ev"))
  | ((with_reducible apply eb_in); (walk_at "ev"); (walk_at "ev"); decide)
  | ((with_reducible apply eb_notin); (walk_at "ev"); (walk_at "ev"); decide)
  | ((with_reducible apply eb_eq); (walk_at "ev"); (walk_at "ev"); decide)
  | ((with_reducible apply eb_ne); (walk_at "ev"); (walk_at "ev"); decide)
  | ((with_reducible apply eb_lt); (walk_at "ev"); (walk_at "ev"))
  | ((with_reducible apply eb_le); (walk_at "ev"); (walk_at "ev"))
  | ((with_reducible apply eb_gt); (walk_at "ev"); (walk_at "ev"))
  | ((with_reducible apply eb_ge); (walk_at "ev"); (walk_at "ev"))
  | ((with_reducible apply eb_chain_lt); (walk_at "ev"); (walk_at "ev"); (walk_at "ev"))
  | ((with_reducible apply eb_isN); (walk_at "ev"))
  | ((with_reducible apply eb_notN); (walk_at "ev"))
  | ((with_reducible apply eb_isB); (walk_at "ev"))
  | ((with_reducible apply eb_notB); (walk_at "ev"))
  | ((with_reducible apply eb_lend); (walk_at "ev"))
  | ((with_reducible apply eb_all); (walk_at "ev"))
  | ((with_reducible apply eb_any); (walk_at "ev"))
  | ((with_reducible apply ev_lenL); (walk_at "ev"))
  | ((with_reducible apply ev_neg); (walk_at "ev"))
  | ((with_reducible apply ev_sub); (walk_at "ev"); (walk_at "ev"))
  | ((with_reducible apply ev_addI); (walk_at "ev"); (walk_at "ev"))
  | ((with_reducible apply ev_addL); (walk_at "ev"); (walk_at "ev"); (walk_at "sz"))
  | ((with_reducible apply ev_mul); (walk_at "ev"); (walk_at "ev"); omega; omega)
  | ((with_reducible apply ev_int); (walk_at "ev"))
  | ((with_reducible apply ev_intb); (walk_at "ev"))
  | ((with_reducible apply ev_max); (walk_at "ev"); (walk_at "ev"))
  | ((with_reducible apply ev_min); (walk_at "ev"); (walk_at "ev"))
  | ((with_reducible apply ev_ta); (walk_at "ev"))
  | ((with_reducible apply ev_tb); (walk_at "ev"))
  | ((with_reducible apply ev_tc); (walk_at "ev"))
  | ((with_reducible apply ev_pa); (walk_at "ev"))
  | ((with_reducible apply ev_pb); (walk_at "ev"))
  | ((with_reducible apply ev_ix); (walk_at "ev"); (walk_at "ev"); (assumption))
  | ((with_reducible apply ev_pair); (walk_at "ev"); (walk_at "ev"))
  | ((with_reducible apply ev_trip); (walk_at "ev"); (walk_at "ev"); (walk_at "ev"))
  | ((with_reducible apply ev_l1); (walk_at "ev"))
  | ((with_reducible apply ev_l2); (walk_at "ev"); (walk_at "ev"))
  | ((with_reducible apply ev_rng); (walk_at "ev"); omega; omega)
  | ((with_reducible apply ev_rng2); (walk_at "ev"); (walk_at "ev"); omega; omega; omega; omega)
  | ((with_reducible apply ev_listof); (walk_at "ev"))
  | ((with_reducible apply ev_rev); (walk_at "ev"))
  | ((with_reducible apply ev_drop); (walk_at "ev"); (walk_at "ev"); omega)
  | ((with_reducible apply ev_take); (walk_at "ev"); (walk_at "ev"); omega)
  | ((with_reducible apply ev_sorted); (walk_at "ev"); (first | infer_instance | assumption))
  | ((with_reducible apply ec_filter); (walk_at "ev"); rfl; (intro _ _; walk_at "ev"); (walk_at "sz"))
  | ((with_reducible apply ec_map2); (walk_at "ev"); rfl; rfl; (intro _ _; walk_at "ev"); (walk_at "sz"))
  | ((with_reducible apply ec_both2); (walk_at "ev"); rfl; rfl; (intro _ _; walk_at "ev"); (intro _ _ _; walk_at "ev"); (walk_at "sz"))
  | ((with_reducible apply ec_map); (walk_at "ev"); rfl; (intro _ _; walk_at "ev"); (walk_at "sz"))
  | ((with_reducible apply ec_both); (walk_at "ev"); rfl; (intro _ _; walk_at "ev"); (intro _ _ _; walk_at "ev"); (walk_at "sz"))
  | (with_reducible exact ev_l0)
  | ((with_reducible apply ev_ite); (walk_at "ev"); (intro _; walk_at "ev"); (intro _; walk_at "ev"))))

section
variable {Pr : Prog} {n : Nat} {ds : List Int} {k m c c2 : Int}
end
end VL

/-! plain side: the checks, with errors -/
namespace VL
open PySem
open Enc
local macro_rules | `(tactic| walk_at "sz") => `(tactic| (first
  | assumption
  | omega
  | exact len_nil
  | ((with_reducible apply len_filter); walk_at "sz")
  | ((with_reducible apply len_map); walk_at "sz")
  | ((with_reducible apply len_srt); walk_at "sz")
  | ((with_reducible apply len_asc); omega)
  | ((with_reducible apply len_upto); omega)
  | ((with_reducible apply len_fromto); omega)
  | ((with_reducible apply len_app); (walk_at "sz"); (walk_at "sz"))
  | ((with_reducible apply len_sum); (walk_at "sz"); (walk_at "sz"))
  | ((with_reducible apply len_drop); walk_at "sz")
  | ((with_reducible apply len_take); walk_at "sz")
  | ((with_reducible apply len_rev); walk_at "sz")
  | ((with_reducible apply len_cons); (walk_at "sz"); (omega))))
local macro_rules | `(tactic| walk_at "call") => `(tactic| (first | assumption | solve_by_elim))
local macro_rules | `(tactic| walk_at "args") => `(tactic| (first
  | exact evs_nil
  | ((with_reducible apply evs_cons); (walk_at "ev"); (walk_at "args"))))
local macro_rules | `(tactic| walk_at "ev") => `(tactic| (first
  | ((with_reducible apply ev_var); rfl)
  | (with_reducible exact ev_ci)
  | (with_reducible exact ev_cb)
  | (with_reducible exact ev_cst)
  | ((with_reducible apply ev_call'); (walk_at "args"); (walk_at "call"))
  | ((with_reducible apply eb_and); (walk_at "ev"); (intro _; walk_at "ev"))
  | ((with_reducible apply eb_or); (walk_at "ev"); (intro _; walk_at "ev"))
  | ((with_reducible apply eb_not); (walk_at "ev"))
  | ((with_reducible apply eb_in); (walk_at "ev"); (walk_at "ev"); decide)
  | ((with_reducible apply eb_notin); (walk_at "ev"); (walk_at "ev"); decide)
  | ((with_reducible apply eb_eq); (walk_at "ev"); (walk_at "ev"); decide)
  | ((with_reducible apply eb_ne); (walk_at "ev"); (walk_at "ev"); decide)
  | ((with_reducible apply eb_lt); (walk_at "ev"); (walk_at "ev"))
  | ((with_reducible apply eb_le); (walk_at "ev"); (walk_at "ev"))
  | ((with_reducible apply eb_gt); (walk_at "ev"); (walk_at "ev"))
  | ((with_reducible apply eb_ge); (walk_at "ev"); (walk_at "ev"))
  | ((with_reducible apply eb_chain_lt); (walk_at "ev"); (walk_at "ev"); (walk_at "ev"))
  | ((with_reducible apply eb_isN); (walk_at "ev"))
  | ((with_reducible apply eb_notN); (walk_at "ev"))
  | ((with_reducible apply eb_isB); (walk_at "ev"))
  | ((with_reducible apply eb_notB); (walk_at "ev"))
  | ((with_reducible apply eb_lend); (walk_at "ev"))
  | ((with_reducible apply eb_all); (walk_at "ev"))
  | ((with_reducible apply eb_any); (walk_at "ev"))
  | ((with_reducible apply ev_lenL); (walk_at "ev"))
  | ((with_reducible apply ev_neg); (walk_at "ev"))
  | ((with_reducible apply ev_sub); (walk_at "ev"); (walk_at "ev"))
  | ((with_reducible apply ev_addI); (walk_at "ev"); (walk_at "ev"))
  | ((with_reducible apply ev_addL); (walk_at "ev"); (walk_at "ev"); (walk_at "sz"))
  | ((with_reducible apply ev_mul); (walk_at "ev"); (walk_at "ev"); omega; omega)
  | ((with_reducible apply ev_int); (walk_at "ev"))
  | ((with_reducible apply ev_intb); (walk_at "ev"))
  | ((with_reducible apply ev_max); (walk_at "ev"); (walk_at "ev"))
  | ((with_reducible apply ev_min); (walk_at "ev"); (walk_at "ev"))
  | ((with_reducible apply ev_ta); (walk_at "ev"))
  | ((with_reducible apply ev_tb); (walk_at "ev"))
  | ((with_reducible apply ev_tc); (walk_at "ev"))
  | ((with_reducible apply ev_pa); (walk_at "ev"))
  | ((with_reducible apply ev_pb); (walk_at "ev"))
  | ((with_reducible apply ev_ix); (walk_at "ev"); (walk_at "ev"); (assumption))
  | ((with_reducible apply ev_pair); (walk_at "ev"); (walk_at "ev"))
  | ((with_reducible apply ev_trip); (walk_at "ev"); (walk_at "ev"); (walk_at "ev"))
  | ((with_reducible apply ev_l1); (walk_at "ev"))
  | ((with_reducible apply ev_l2); (walk_at "ev"); (walk_at "ev"))
  | ((with_reducible apply ev_rng); (walk_at "ev"); omega; omega)
  | ((with_reducible apply ev_rng2); (walk_at "ev"); (walk_at "ev"); omega; omega; omega; omega)
  | ((with_reducible apply ev_listof); (walk_at "ev"))
  | ((with_reducible apply ev_rev); (walk_at "ev"))
  | ((with_reducible apply ev_drop); (walk_at "ev"); (walk_at "ev"); omega)
  | ((with_reducible apply ev_take); (walk_at "ev"); (walk_at "ev"); omega)
  | ((with_reducible apply ev_sorted); (walk_at "ev"); (first | infer_instance | assumption))
  | ((with_reducible apply ec_filter); (walk_at "ev"); rfl; (intro _ _; walk_at "ev"); (walk_at "sz"))
  | ((with_reducible apply ec_map2); (walk_at "ev"); rfl; rfl; (intro _ _; walk_at "ev"); (walk_at "sz"))
  | ((with_reducible apply ec_both2); (walk_at "ev"); rfl; rfl; (intro _ _; walk_at "ev"); (intro _ _ _; walk_at "ev"); (walk_at "sz"))
  | ((with_reducible apply ec_map); (walk_at "ev"); rfl; (intro _ _; walk_at "ev"); (walk_at "sz"))
  | ((with_reducible apply ec_both); (walk_at "ev"); rfl; (intro _ _; walk_at "ev"); (intro _ _ _; walk_at "ev"); (walk_at "sz"))
  | (with_reducible exact ev_l0)
  | ((with_reducible apply ev_ite); (walk_at "ev"); (intro _; walk_at "ev"); (intro _; walk_at "ev"))))

section
variable {cf : Nat → List Val → Res Val} {ρ ρ' : Env} {ss : List SX} {G : OX → Prop}
theorem wx_set {c : E} {v : Val} {i d : Nat} (e : evalE cf 0 c ρ = .ok v) (hl : Nat.blt i ρ.length = true) (hρ : ρ.set i (some (v, d)) = ρ') (h : WX cf ss ρ' G) : WX cf (.base (.set i c d) :: ss) ρ G :=
  wx_base (wp_set e hl hρ (wp_nil h))
theorem wx_ret {c : E} {v : Val} (e : evalE cf 0 c ρ = .ok v) (h : G (.rt v)) : WX cf (.base (.ret c) :: ss) ρ G := wx_base (wp_ret e h)
end
/-! ### sets -/
section
variable {Pr : Prog} {XP : ProgX} {n : Nat} {m v : Int} {xs : List Int} {d : Dr} {one two K : List Int}
/-! ### apart -/
/-! ### words -/
end
end VL

/-! plain side: pairs that are not as they have to be -/
namespace VL
open PySem
open Enc
local macro_rules | `(tactic| walk_at "sz") => `(tactic| (first
  | assumption
  | omega
  | exact len_nil
  | ((with_reducible apply len_filter); walk_at "sz")
  | ((with_reducible apply len_map); walk_at "sz")
  | ((with_reducible apply len_srt); walk_at "sz")
  | ((with_reducible apply len_asc); omega)
  | ((with_reducible apply len_upto); omega)
  | ((with_reducible apply len_fromto); omega)
  | ((with_reducible apply len_app); (walk_at "sz"); (walk_at "sz"))
  | ((with_reducible apply len_sum); (walk_at "sz"); (walk_at "sz"))
  | ((with_reducible apply len_drop); walk_at "sz")
  | ((with_reducible apply len_take); walk_at "sz")
  | ((with_reducible apply len_rev); walk_at "sz")
  | ((with_reducible apply len_cons); (walk_at "sz"); (omega))))
local macro_rules | `(tactic| walk_at "call") => `(tactic| (first | assumption | solve_by_elim))
local macro_rules | `(tactic| walk_at "args") => `(tactic| (first
  | exact evs_nil
  | ((with_reducible apply evs_cons); (walk_at "ev"); (walk_at "args"))))
local macro_rules | `(tactic| walk_at "ev") => `(tactic| (first
  | ((with_reducible apply ev_var); rfl)
  | (with_reducible exact ev_ci)
  | (with_reducible exact ev_cb)
  | (with_reducible exact ev_cst)
  | ((with_reducible apply ev_call'); (walk_at "args"); (walk_at "call"))
  | ((with_reducible apply eb_and); (walk_at "ev"); (intro _; walk_at "ev"))
  | ((with_reducible apply eb_or); (walk_at "ev"); (intro _; walk_at "ev"))
  | ((with_reducible apply eb_not); (walk_at "ev"))
  | ((with_reducible apply eb_in); (walk_at "ev"); (walk_at "ev"); decide)
  | ((with_reducible apply eb_notin); (walk_at "ev"); (walk_at "ev"); decide)
  | ((with_reducible apply eb_eq); (walk_at "ev"); (walk_at "ev"); decide)
  | ((with_reducible apply eb_ne); (walk_at "ev"); (walk_at "ev"); decide)
  | ((with_reducible apply eb_lt); (walk_at "ev"); (walk_at "ev"))
  | ((with_reducible apply eb_le); (walk_at "ev"); (walk_at "ev"))
  | ((with_reducible apply eb_gt); (walk_at "ev"); (walk_at "ev"))
  | ((with_reducible apply eb_ge); (walk_at "ev"); (walk_at "ev"))
  | ((with_reducible apply eb_chain_lt); (walk_at "ev"); (walk_at "ev"); (walk_at "ev"))
  | ((with_reducible apply eb_isN); (walk_at "ev"))
  | ((with_reducible apply eb_notN); (walk_at "ev"))
  | ((with_reducible apply eb_isB); (walk_at "ev"))
  | ((with_reducible apply eb_notB); (walk_at "ev"))
  | ((with_reducible apply eb_lend); (walk_at "ev"))
  | ((with_reducible apply eb_all); (walk_at "ev"))
  | ((with_reducible apply eb_any); (walk_at "ev"))
  | ((with_reducible apply ev_lenL); (walk_at "ev"))
  | ((with_reducible apply ev_neg); (walk_at "ev"))
  | ((with_reducible apply ev_sub); (walk_at "ev"); (walk_at "ev"))
  | ((with_reducible apply ev_addI); (walk_at "ev"); (walk_at "ev"))
  | ((with_reducible apply ev_addL); (walk_at "ev"); (walk_at "ev"); (walk_at "sz"))
  | ((with_reducible apply ev_mul); (walk_at "ev"); (walk_at "ev"); omega; omega)
  | ((with_reducible apply ev_int); (walk_at "ev"))
  | ((with_reducible apply ev_intb); (walk_at "ev"))
  | ((with_reducible apply ev_max); (walk_at "ev"); (walk_at "ev"))
  | ((with_reducible apply ev_min); (walk_at "ev"); (walk_at "ev"))
  | ((with_reducible apply ev_ta); (walk_at "ev"))
  | ((with_reducible apply ev_tb); (walk_at "ev"))
  | ((with_reducible apply ev_tc); (walk_at "ev"))
  | ((with_reducible apply ev_pa); (walk_at "ev"))
  | ((with_reducible apply ev_pb); (walk_at "ev"))
  | ((with_reducible apply ev_ix); (walk_at "ev"); (walk_at "ev"); (assumption))
  | ((with_reducible apply ev_pair); (walk_at "ev"); (walk_at "ev"))
  | ((with_reducible apply ev_trip); (walk_at "ev"); (walk_at "ev"); (walk_at "ev"))
  | ((with_reducible apply ev_l1); (walk_at "ev"))
  | ((with_reducible apply ev_l2); (walk_at "ev"); (walk_at "ev"))
  | ((with_reducible apply ev_rng); (walk_at "ev"); omega; omega)
  | ((with_reducible apply ev_rng2); (walk_at "ev"); (walk_at "ev"); omega; omega; omega; omega)
  | ((with_reducible apply ev_listof); (walk_at "ev"))
  | ((with_reducible apply ev_rev); (walk_at "ev"))
  | ((with_reducible apply ev_drop); (walk_at "ev"); (walk_at "ev"); omega)
  | ((with_reducible apply ev_take); (walk_at "ev"); (walk_at "ev"); omega)
  | ((with_reducible apply ev_sorted); (walk_at "ev"); (first | infer_instance | assumption))
  | ((with_reducible apply ec_filter); (walk_at "ev"); rfl; (intro _ _; walk_at "ev"); (walk_at "sz"))
  | ((with_reducible apply ec_map2); (walk_at "ev"); rfl; rfl; (intro _ _; walk_at "ev"); (walk_at "sz"))
  | ((with_reducible apply ec_both2); (walk_at "ev"); rfl; rfl; (intro _ _; walk_at "ev"); (intro _ _ _; walk_at "ev"); (walk_at "sz"))
  | ((with_reducible apply ec_map); (walk_at "ev"); rfl; (intro _ _; walk_at "ev"); (walk_at "sz"))
  | ((with_reducible apply ec_both); (walk_at "ev"); rfl; (intro _ _; walk_at "ev"); (intro _ _ _; walk_at "ev"); (walk_at "sz"))
  | (with_reducible exact ev_l0)
  | ((with_reducible apply ev_ite); (walk_at "ev"); (intro _; walk_at "ev"); (intro _; walk_at "ev"))))

section
variable {Pr : Prog} {n : Nat} {m : Int} {ps : List Pt} {both : Bool}
/-- the pair at k is bad in itself -/
def BadS (both : Bool) (m : Int) (p : Pt) : Prop := ¬ (0 ≤ p.1 ∧ p.1 < m) ∨ ¬ (0 ≤ p.2 ∧ p.2 < m) ∨ p.1 = p.2 ∨ (both = true ∧ p.1 > p.2)
def BadP (both : Bool) (m : Int) (ps : List Pt) (k : Nat) : Prop := ∃ p, ps[k]? = some p ∧ (BadS both m p ∨ (0 < k ∧ ¬ ltP (ps.getD (k - 1) (0, 0)) p))
def FBR (both : Bool) (m : Int) (ps : List Pt) : Option Nat → Prop
  | none => ∀ k, ¬ BadP both m ps k
  | some k => BadP both m ps k ∧ ∀ j < k, ¬ BadP both m ps j
theorem FBR.one {r r' : Option Nat} (h : FBR both m ps r) (h' : FBR both m ps r') : r = r' := by
  cases r with
  | none =>
    cases r' with
    | none => rfl
    | some k => exact absurd h'.1 (h k)
  | some k =>
    cases r' with
    | none => exact absurd h.1 (h' k)
    | some k' =>
      have : k = k' := by
        rcases Nat.lt_trichotomy k k' with lt | e | gt
        · exact absurd h.1 (h'.2 k lt)
        · exact e
        · exact absurd h'.1 (h.2 k' gt)
      rw [this]
theorem BadP.lt {k : Nat} (h : BadP both m ps k) : k < ps.length := by
  obtain ⟨p, hp, _⟩ := h
  exact getElem_lt hp
/-! ### pairs that are as they have to be -/
end
end VL

/-! plain side: walks that bend at known ones, and an arrow turned -/
namespace VL
open PySem
section
/-- states of a walk from a: true, if an arrow comes in -/
inductive Rc (A : List Pt) (K : List Int) (a : Int) : Int → Bool → Prop
  | start : Rc A K a a false
  | down {v w : Int} {s : Bool} : Rc A K a v s → (v, w) ∈ A → v ∉ K → Rc A K a w true
  | up {v w : Int} : Rc A K a v false → (w, v) ∈ A → v ∉ K → Rc A K a w false
  | coll {v w : Int} : Rc A K a v true → (w, v) ∈ A → v ∈ K → Rc A K a w false
def Joins (A : List Pt) (K : List Int) (a b : Int) : Prop := ∃ s, Rc A K a b s
variable {A A' : List Pt} {K : List Int} {a b x y : Int} {d : Dr}
/-- the arrow from x to y, turned; the ends have the same parents but for it -/
structure Cov (A A' : List Pt) (x y : Int) : Prop where
  old : (x, y) ∈ A
  new : (y, x) ∈ A'
  nold : (y, x) ∉ A
  nnew : (x, y) ∉ A'
  irr : ∀ z, (z, z) ∉ A
  irr' : ∀ z, (z, z) ∉ A'
  same : ∀ u v, (u, v) ≠ (x, y) → (u, v) ≠ (y, x) → ((u, v) ∈ A ↔ (u, v) ∈ A')
  par : ∀ p, p ≠ x → p ≠ y → ((p, y) ∈ A ↔ (p, x) ∈ A)
theorem Cov.ne (c : Cov A A' x y) : x ≠ y := fun e => c.irr y (e ▸ c.old)
theorem Cov.symm (c : Cov A A' x y) : Cov A' A y x where
  old := c.new
  new := c.old
  nold := c.nnew
  nnew := c.nold
  irr := c.irr'
  irr' := c.irr
  same := fun u v h1 h2 => (c.same u v h2 h1).symm
  par := fun p h1 h2 => by
    rw [← c.same p x (fun z => h1 (by cases z; exact absurd rfl h2)) (fun z => h1 (congrArg Prod.fst z)), ← c.same p y (fun z => h2 (congrArg Prod.fst z)) (fun z => h2 (by cases z; exact absurd rfl h1))]
    exact (c.par p h2 h1).symm
end
end VL

/-! plain side: drawings with the same neighbours and meetings join the same -/
namespace VL
open PySem
section
variable {A A' : List Pt} {K : List Int} {a b x y : Int}
/-- arrows ascend -/
def Up (r : Int → Nat) (A : List Pt) : Prop := ∀ p ∈ A, r p.1 < r p.2
theorem Up.irr {r : Int → Nat} (h : Up r A) (z : Int) : (z, z) ∉ A := fun m => Nat.lt_irrefl _ (h _ m)
/-- the same neighbours and meetings -/
structure Alike (A A' : List Pt) : Prop where
  adj : ∀ u v, AdjA A u v ↔ AdjA A' u v
  meet : ∀ u c v, u ≠ v → ¬ AdjA A u v → (((u, c) ∈ A ∧ (v, c) ∈ A) ↔ ((u, c) ∈ A' ∧ (v, c) ∈ A'))
theorem Alike.symm (h : Alike A A') : Alike A' A := ⟨fun u v => (h.adj u v).symm, fun u c v n q => (h.meet u c v n fun z => q ((h.adj u v).mp z)).symm⟩
theorem Alike.trans {B : List Pt} (h : Alike A B) (h' : Alike B A') : Alike A A' := ⟨fun u v => (h.adj u v).trans (h'.adj u v), fun u c v n q => (h.meet u c v n q).trans (h'.meet u c v n fun z => q ((h.adj u v).mpr z))⟩
end
end VL

/-! plain side: what is asked, and what the program tells -/
namespace VL
open PySem
open Enc
local macro_rules | `(tactic| walk_at "sz") => `(tactic| (first
  | assumption
  | omega
  | exact len_nil
  | ((with_reducible apply len_filter); walk_at "sz")
  | ((with_reducible apply len_map); walk_at "sz")
  | ((with_reducible apply len_srt); walk_at "sz")
  | ((with_reducible apply len_asc); omega)
  | ((with_reducible apply len_upto); omega)
  | ((with_reducible apply len_fromto); omega)
  | ((with_reducible apply len_app); (walk_at "sz"); (walk_at "sz"))
  | ((with_reducible apply len_sum); (walk_at "sz"); (walk_at "sz"))
  | ((with_reducible apply len_drop); walk_at "sz")
  | ((with_reducible apply len_take); walk_at "sz")
  | ((with_reducible apply len_rev); walk_at "sz")
  | ((with_reducible apply len_cons); (walk_at "sz"); (omega))))
local macro_rules | `(tactic| walk_at "call") => `(tactic| (first | assumption | solve_by_elim))
local macro_rules | `(tactic| walk_at "args") => `(tactic| (first
  | exact evs_nil
  | ((with_reducible apply evs_cons); (walk_at "ev"); (walk_at "args"))))
local macro_rules | `(tactic| walk_at "ev") => `(tactic| (first
  | ((with_reducible apply ev_var); rfl)
  | (with_reducible exact ev_ci)
  | (with_reducible exact ev_cb)
  | (with_reducible exact ev_cst)
  | ((with_reducible apply ev_call'); (walk_at "args"); (walk_at "call"))
  | ((with_reducible apply eb_and); (walk_at "ev"); (intro _; walk_at "ev"))
  | ((with_reducible apply eb_or); (walk_at "ev"); (intro _; walk_at "ev"))
  | ((with_reducible apply eb_not); (walk_at "ev"))
  | ((with_reducible apply eb_in); (walk_at "ev"); (walk_at "ev"); decide)
  | ((with_reducible apply eb_notin); (walk_at "ev"); (walk_at "ev"); decide)
  | ((with_reducible apply eb_eq); (walk_at "ev"); (walk_at "ev"); decide)
  | ((with_reducible apply eb_ne); (walk_at "ev"); (walk_at "ev"); decide)
  | ((with_reducible apply eb_lt); (walk_at "ev"); (walk_at "ev"))
  | ((with_reducible apply eb_le); (walk_at "ev"); (walk_at "ev"))
  | ((with_reducible apply eb_gt); (walk_at "ev"); (walk_at "ev"))
  | ((with_reducible apply eb_ge); (walk_at "ev"); (walk_at "ev"))
  | ((with_reducible apply eb_chain_lt); (walk_at "ev"); (walk_at "ev"); (walk_at "ev"))
  | ((with_reducible apply eb_isN); (walk_at "ev"))
  | ((with_reducible apply eb_notN); (walk_at "ev"))
  | ((with_reducible apply eb_isB); (walk_at "ev"))
  | ((with_reducible apply eb_notB); (walk_at "ev"))
  | ((with_reducible apply eb_lend); (walk_at "ev"))
  | ((with_reducible apply eb_all); (walk_at "ev"))
  | ((with_reducible apply eb_any); (walk_at "ev"))
  | ((with_reducible apply ev_lenL); (walk_at "ev"))
  | ((with_reducible apply ev_neg); (walk_at "ev"))
  | ((with_reducible apply ev_sub); (walk_at "ev"); (walk_at "ev"))
  | ((with_reducible apply ev_addI); (walk_at "ev"); (walk_at "ev"))
  | ((with_reducible apply ev_addL); (walk_at "ev"); (walk_at "ev"); (walk_at "sz"))
  | ((with_reducible apply ev_mul); (walk_at "ev"); (walk_at "ev"); omega; omega)
  | ((with_reducible apply ev_int); (walk_at "ev"))
  | ((with_reducible apply ev_intb); (walk_at "ev"))
  | ((with_reducible apply ev_max); (walk_at "ev"); (walk_at "ev"))
  | ((with_reducible apply ev_min); (walk_at "ev"); (walk_at "ev"))
  | ((with_reducible apply ev_ta); (walk_at "ev"))
  | ((with_reducible apply ev_tb); (walk_at "ev"))
  | ((with_reducible apply ev_tc); (walk_at "ev"))
  | ((with_reducible apply ev_pa); (walk_at "ev"))
  | ((with_reducible apply ev_pb); (walk_at "ev"))
  | ((with_reducible apply ev_ix); (walk_at "ev"); (walk_at "ev"); (assumption))
  | ((with_reducible apply ev_pair); (walk_at "ev"); (walk_at "ev"))
  | ((with_reducible apply ev_trip); (walk_at "ev"); (walk_at "ev"); (walk_at "ev"))
  | ((with_reducible apply ev_l1); (walk_at "ev"))
  | ((with_reducible apply ev_l2); (walk_at "ev"); (walk_at "ev"))
  | ((with_reducible apply ev_rng); (walk_at "ev"); omega; omega)
  | ((with_reducible apply ev_rng2); (walk_at "ev"); (walk_at "ev"); omega; omega; omega; omega)
  | ((with_reducible apply ev_listof); (walk_at "ev"))
  | ((with_reducible apply ev_rev); (walk_at "ev"))
  | ((with_reducible apply ev_drop); (walk_at "ev"); (walk_at "ev"); omega)
  | ((with_reducible apply ev_take); (walk_at "ev"); (walk_at "ev"); omega)
  | ((with_reducible apply ev_sorted); (walk_at "ev"); (first | infer_instance | assumption))
  | ((with_reducible apply ec_filter); (walk_at "ev"); rfl; (intro _ _; walk_at "ev"); (walk_at "sz"))
  | ((with_reducible apply ec_map2); (walk_at "ev"); rfl; rfl; (intro _ _; walk_at "ev"); (walk_at "sz"))
  | ((with_reducible apply ec_both2); (walk_at "ev"); rfl; rfl; (intro _ _; walk_at "ev"); (intro _ _ _; walk_at "ev"); (walk_at "sz"))
  | ((with_reducible apply ec_map); (walk_at "ev"); rfl; (intro _ _; walk_at "ev"); (walk_at "sz"))
  | ((with_reducible apply ec_both); (walk_at "ev"); rfl; (intro _ _; walk_at "ev"); (intro _ _ _; walk_at "ev"); (walk_at "sz"))
  | (with_reducible exact ev_l0)
  | ((with_reducible apply ev_ite); (walk_at "ev"); (intro _; walk_at "ev"); (intro _; walk_at "ev"))))

abbrev Stm := Tr Int Int (List Int)
section
variable {Pr : Prog} {n : Nat} {ds : List Int} {m : Int} {d : Dr} {t : Stm}
/-! ### the program -/
end
end VL

/-! plain side: the law of k44 -/
namespace VL
open PySem
open Enc
local macro_rules | `(tactic| walk_at "sz") => `(tactic| (first
  | assumption
  | omega
  | exact len_nil
  | ((with_reducible apply len_filter); walk_at "sz")
  | ((with_reducible apply len_map); walk_at "sz")
  | ((with_reducible apply len_srt); walk_at "sz")
  | ((with_reducible apply len_asc); omega)
  | ((with_reducible apply len_upto); omega)
  | ((with_reducible apply len_fromto); omega)
  | ((with_reducible apply len_app); (walk_at "sz"); (walk_at "sz"))
  | ((with_reducible apply len_sum); (walk_at "sz"); (walk_at "sz"))
  | ((with_reducible apply len_drop); walk_at "sz")
  | ((with_reducible apply len_take); walk_at "sz")
  | ((with_reducible apply len_rev); walk_at "sz")
  | ((with_reducible apply len_cons); (walk_at "sz"); (omega))))
local macro_rules | `(tactic| walk_at "call") => `(tactic| (first | assumption | solve_by_elim))
local macro_rules | `(tactic| walk_at "args") => `(tactic| (first
  | exact evs_nil
  | ((with_reducible apply evs_cons); (walk_at "ev"); (walk_at "args"))))
local macro_rules | `(tactic| walk_at "ev") => `(tactic| (first
  | ((with_reducible apply ev_var); rfl)
  | (with_reducible exact ev_ci)
  | (with_reducible exact ev_cb)
  | (with_reducible exact ev_cst)
  | ((with_reducible apply ev_call'); (walk_at "args"); (walk_at "call"))
  | ((with_reducible apply eb_and); (walk_at "ev"); (intro _; walk_at "ev"))
  | ((with_reducible apply eb_or); (walk_at "ev"); (intro _; walk_at "ev"))
  | ((with_reducible apply eb_not); (walk_at "ev"))
  | ((with_reducible apply eb_in); (walk_at "ev"); (walk_at "ev"); decide)
  | ((with_reducible apply eb_notin); (walk_at "ev"); (walk_at "ev"); decide)
  | ((with_reducible apply eb_eq); (walk_at "ev"); (walk_at "ev"); decide)
  | ((with_reducible apply eb_ne); (walk_at "ev"); (walk_at "ev"); decide)
  | ((with_reducible apply eb_lt); (walk_at "ev"); (walk_at "ev"))
  | ((with_reducible apply eb_le); (walk_at "ev"); (walk_at "ev"))
  | ((with_reducible apply eb_gt); (walk_at "ev"); (walk_at "ev"))
  | ((with_reducible apply eb_ge); (walk_at "ev"); (walk_at "ev"))
  | ((with_reducible apply eb_chain_lt); (walk_at "ev"); (walk_at "ev"); (walk_at "ev"))
  | ((with_reducible apply eb_isN); (walk_at "ev"))
  | ((with_reducible apply eb_notN); (walk_at "ev"))
  | ((with_reducible apply eb_isB); (walk_at "ev"))
  | ((with_reducible apply eb_notB); (walk_at "ev"))
  | ((with_reducible apply eb_lend); (walk_at "ev"))
  | ((with_reducible apply eb_all); (walk_at "ev"))
  | ((with_reducible apply eb_any); (walk_at "ev"))
  | ((with_reducible apply ev_lenL); (walk_at "ev"))
  | ((with_reducible apply ev_neg); (walk_at "ev"))
  | ((with_reducible apply ev_sub); (walk_at "ev"); (walk_at "ev"))
  | ((with_reducible apply ev_addI); (walk_at "ev"); (walk_at "ev"))
  | ((with_reducible apply ev_addL); (walk_at "ev"); (walk_at "ev"); (walk_at "sz"))
  | ((with_reducible apply ev_mul); (walk_at "ev"); (walk_at "ev"); omega; omega)
  | ((with_reducible apply ev_int); (walk_at "ev"))
  | ((with_reducible apply ev_intb); (walk_at "ev"))
  | ((with_reducible apply ev_max); (walk_at "ev"); (walk_at "ev"))
  | ((with_reducible apply ev_min); (walk_at "ev"); (walk_at "ev"))
  | ((with_reducible apply ev_ta); (walk_at "ev"))
  | ((with_reducible apply ev_tb); (walk_at "ev"))
  | ((with_reducible apply ev_tc); (walk_at "ev"))
  | ((with_reducible apply ev_pa); (walk_at "ev"))
  | ((with_reducible apply ev_pb); (walk_at "ev"))
  | ((with_reducible apply ev_ix); (walk_at "ev"); (walk_at "ev"); (assumption))
  | ((with_reducible apply ev_pair); (walk_at "ev"); (walk_at "ev"))
  | ((with_reducible apply ev_trip); (walk_at "ev"); (walk_at "ev"); (walk_at "ev"))
  | ((with_reducible apply ev_l1); (walk_at "ev"))
  | ((with_reducible apply ev_l2); (walk_at "ev"); (walk_at "ev"))
  | ((with_reducible apply ev_rng); (walk_at "ev"); omega; omega)
  | ((with_reducible apply ev_rng2); (walk_at "ev"); (walk_at "ev"); omega; omega; omega; omega)
  | ((with_reducible apply ev_listof); (walk_at "ev"))
  | ((with_reducible apply ev_rev); (walk_at "ev"))
  | ((with_reducible apply ev_drop); (walk_at "ev"); (walk_at "ev"); omega)
  | ((with_reducible apply ev_take); (walk_at "ev"); (walk_at "ev"); omega)
  | ((with_reducible apply ev_sorted); (walk_at "ev"); (first | infer_instance | assumption))
  | ((with_reducible apply ec_filter); (walk_at "ev"); rfl; (intro _ _; walk_at "ev"); (walk_at "sz"))
  | ((with_reducible apply ec_map2); (walk_at "ev"); rfl; rfl; (intro _ _; walk_at "ev"); (walk_at "sz"))
  | ((with_reducible apply ec_both2); (walk_at "ev"); rfl; rfl; (intro _ _; walk_at "ev"); (intro _ _ _; walk_at "ev"); (walk_at "sz"))
  | ((with_reducible apply ec_map); (walk_at "ev"); rfl; (intro _ _; walk_at "ev"); (walk_at "sz"))
  | ((with_reducible apply ec_both); (walk_at "ev"); rfl; (intro _ _; walk_at "ev"); (intro _ _ _; walk_at "ev"); (walk_at "sz"))
  | (with_reducible exact ev_l0)
  | ((with_reducible apply ev_ite); (walk_at "ev"); (intro _; walk_at "ev"); (intro _; walk_at "ev"))))

section
variable {a b m : Int} {J : List Pt}
end
section
variable {Pr : Prog} {n : Nat} {d : Dr} {a b : Int} {K : List Int}
def two (J : List Pt) (M : List T3) : Val := .tuple [enc J, enc M]
end
end VL

/-! plain side: neighbours and meetings as lists; a statement that parts two drawings -/
namespace VL
open PySem
open Enc
section
variable {d e : Dr} {A J : List Pt} {K : List Int} {a b c x y : Int}
theorem good_up (g : Good d) : ∃ r, Up r d.b := by
  obtain ⟨r, _, h⟩ := g.rank
  exact ⟨r, fun p hp => (h p hp).1⟩
/-- the parents of the one behind block -/
theorem parents_block (hK : ∀ x, x ∈ K ↔ (x, b) ∈ A) {r : Int → Nat} (h : Up r A) (nd : ¬ Clo A [b] a) : ¬ Joins A K a b := by
  have up : ∀ x, Clo A [b] x → r b ≤ r x := fun x hx => by
    induction hx with
    | base hx => rw [List.mem_singleton.mp hx]; exact Nat.le_refl _
    | step _ hp ih =>
      have := h _ hp
      simp only at this
      omega
  have key : ∀ z s, Rc A K a z s → s = false → ¬ Clo A [b] z := fun z s q => by
    induction q with
    | start => exact fun _ => nd
    | down _ _ _ _ => exact fun z => (nomatch z)
    | up _ hp _ ih => exact fun _ z => ih rfl (.step z hp)
    | coll _ hp mK ih =>
      intro _ z
      have h1 := up _ (.step z hp)
      have h2 := h _ ((hK _).mp mK)
      simp only at h2
      omega
  rintro ⟨s, q⟩
  cases q with
  | start => exact nd (.base (List.mem_singleton.mpr rfl))
  | down _ hp nK => exact nK ((hK _).mpr hp)
  | up q hp nK => exact key _ _ (.up q hp nK) rfl (.base (List.mem_singleton.mpr rfl))
  | coll q hp mK => exact key _ _ (.coll q hp mK) rfl (.base (List.mem_singleton.mpr rfl))
/-- the parents of the one that the walk starts at block, too -/
theorem parents_block2 (hK : ∀ x, x ∈ K ↔ (x, a) ∈ A) {r : Int → Nat} (h : Up r A) (nd : ¬ Clo A [a] b) (bK : b ∉ K) : ¬ Joins A K a b := by
  have up : ∀ x, Clo A [a] x → r a ≤ r x := fun x hx => by
    induction hx with
    | base hx => rw [List.mem_singleton.mp hx]; exact Nat.le_refl _
    | step _ hp ih =>
      have := h _ hp
      simp only at this
      omega
  have aK : a ∉ K := fun z => h.irr a ((hK a).mp z)
  have key : ∀ z s, Rc A K a z s → (z = a ∧ s = false) ∨ (Clo A [a] z ∧ s = true) ∨ (z ∈ K ∧ s = false) := fun z s q => by
    induction q with
    | start => exact .inl ⟨rfl, rfl⟩
    | down _ hp nK ih =>
      refine .inr (.inl ⟨?_, rfl⟩)
      rcases ih with z | z | z
      · exact .step (.base (List.mem_singleton.mpr z.1)) hp
      · exact .step z.1 hp
      · exact absurd z.1 nK
    | up _ hp nK ih =>
      rcases ih with z | z | z
      · exact .inr (.inr ⟨(hK _).mpr (z.1 ▸ hp), rfl⟩)
      · exact (nomatch z.2)
      · exact absurd z.1 nK
    | coll _ hp mK ih =>
      rcases ih with z | z | z
      · exact absurd mK (z.1 ▸ aK)
      · have h1 := up _ z.1
        have h2 := h _ ((hK _).mp mK)
        simp only at h2
        omega
      · exact (nomatch z.2)
  rintro ⟨s, q⟩
  rcases key _ _ q with z | z | z
  · exact nd (.base (List.mem_singleton.mpr z.1))
  · exact nd z.1
  · exact bK z.1
end
end VL

/-! plain side: the second drawing of the law -/
namespace VL
open PySem
open Enc
local macro_rules | `(tactic| walk_at "sz") => `(tactic| (first
  | assumption
  | omega
  | exact len_nil
  | ((with_reducible apply len_filter); walk_at "sz")
  | ((with_reducible apply len_map); walk_at "sz")
  | ((with_reducible apply len_srt); walk_at "sz")
  | ((with_reducible apply len_asc); omega)
  | ((with_reducible apply len_upto); omega)
  | ((with_reducible apply len_fromto); omega)
  | ((with_reducible apply len_app); (walk_at "sz"); (walk_at "sz"))
  | ((with_reducible apply len_sum); (walk_at "sz"); (walk_at "sz"))
  | ((with_reducible apply len_drop); walk_at "sz")
  | ((with_reducible apply len_take); walk_at "sz")
  | ((with_reducible apply len_rev); walk_at "sz")
  | ((with_reducible apply len_cons); (walk_at "sz"); (omega))))
local macro_rules | `(tactic| walk_at "call") => `(tactic| (first | assumption | solve_by_elim))
local macro_rules | `(tactic| walk_at "args") => `(tactic| (first
  | exact evs_nil
  | ((with_reducible apply evs_cons); (walk_at "ev"); (walk_at "args"))))
local macro_rules | `(tactic| walk_at "ev") => `(tactic| (first
  | ((with_reducible apply ev_var); rfl)
  | (with_reducible exact ev_ci)
  | (with_reducible exact ev_cb)
  | (with_reducible exact ev_cst)
  | ((with_reducible apply ev_call'); (walk_at "args"); (walk_at "call"))
  | ((with_reducible apply eb_and); (walk_at "ev"); (intro _; walk_at "ev"))
  | ((with_reducible apply eb_or); (walk_at "ev"); (intro _; walk_at "ev"))
  | ((with_reducible apply eb_not); (walk_at "ev"))
  | ((with_reducible apply eb_in); (walk_at "ev"); (walk_at "ev"); decide)
  | ((with_reducible apply eb_notin); (walk_at "ev"); (walk_at "ev"); decide)
  | ((with_reducible apply eb_eq); (walk_at "ev"); (walk_at "ev"); decide)
  | ((with_reducible apply eb_ne); (walk_at "ev"); (walk_at "ev"); decide)
  | ((with_reducible apply eb_lt); (walk_at "ev"); (walk_at "ev"))
  | ((with_reducible apply eb_le); (walk_at "ev"); (walk_at "ev"))
  | ((with_reducible apply eb_gt); (walk_at "ev"); (walk_at "ev"))
  | ((with_reducible apply eb_ge); (walk_at "ev"); (walk_at "ev"))
  | ((with_reducible apply eb_chain_lt); (walk_at "ev"); (walk_at "ev"); (walk_at "ev"))
  | ((with_reducible apply eb_isN); (walk_at "ev"))
  | ((with_reducible apply eb_notN); (walk_at "ev"))
  | ((with_reducible apply eb_isB); (walk_at "ev"))
  | ((with_reducible apply eb_notB); (walk_at "ev"))
  | ((with_reducible apply eb_lend); (walk_at "ev"))
  | ((with_reducible apply eb_all); (walk_at "ev"))
  | ((with_reducible apply eb_any); (walk_at "ev"))
  | ((with_reducible apply ev_lenL); (walk_at "ev"))
  | ((with_reducible apply ev_neg); (walk_at "ev"))
  | ((with_reducible apply ev_sub); (walk_at "ev"); (walk_at "ev"))
  | ((with_reducible apply ev_addI); (walk_at "ev"); (walk_at "ev"))
  | ((with_reducible apply ev_addL); (walk_at "ev"); (walk_at "ev"); (walk_at "sz"))
  | ((with_reducible apply ev_mul); (walk_at "ev"); (walk_at "ev"); omega; omega)
  | ((with_reducible apply ev_int); (walk_at "ev"))
  | ((with_reducible apply ev_intb); (walk_at "ev"))
  | ((with_reducible apply ev_max); (walk_at "ev"); (walk_at "ev"))
  | ((with_reducible apply ev_min); (walk_at "ev"); (walk_at "ev"))
  | ((with_reducible apply ev_ta); (walk_at "ev"))
  | ((with_reducible apply ev_tb); (walk_at "ev"))
  | ((with_reducible apply ev_tc); (walk_at "ev"))
  | ((with_reducible apply ev_pa); (walk_at "ev"))
  | ((with_reducible apply ev_pb); (walk_at "ev"))
  | ((with_reducible apply ev_ix); (walk_at "ev"); (walk_at "ev"); (assumption))
  | ((with_reducible apply ev_pair); (walk_at "ev"); (walk_at "ev"))
  | ((with_reducible apply ev_trip); (walk_at "ev"); (walk_at "ev"); (walk_at "ev"))
  | ((with_reducible apply ev_l1); (walk_at "ev"))
  | ((with_reducible apply ev_l2); (walk_at "ev"); (walk_at "ev"))
  | ((with_reducible apply ev_rng); (walk_at "ev"); omega; omega)
  | ((with_reducible apply ev_rng2); (walk_at "ev"); (walk_at "ev"); omega; omega; omega; omega)
  | ((with_reducible apply ev_listof); (walk_at "ev"))
  | ((with_reducible apply ev_rev); (walk_at "ev"))
  | ((with_reducible apply ev_drop); (walk_at "ev"); (walk_at "ev"); omega)
  | ((with_reducible apply ev_take); (walk_at "ev"); (walk_at "ev"); omega)
  | ((with_reducible apply ev_sorted); (walk_at "ev"); (first | infer_instance | assumption))
  | ((with_reducible apply ec_filter); (walk_at "ev"); rfl; (intro _ _; walk_at "ev"); (walk_at "sz"))
  | ((with_reducible apply ec_map2); (walk_at "ev"); rfl; rfl; (intro _ _; walk_at "ev"); (walk_at "sz"))
  | ((with_reducible apply ec_both2); (walk_at "ev"); rfl; rfl; (intro _ _; walk_at "ev"); (intro _ _ _; walk_at "ev"); (walk_at "sz"))
  | ((with_reducible apply ec_map); (walk_at "ev"); rfl; (intro _ _; walk_at "ev"); (walk_at "sz"))
  | ((with_reducible apply ec_both); (walk_at "ev"); rfl; (intro _ _; walk_at "ev"); (intro _ _ _; walk_at "ev"); (walk_at "sz"))
  | (with_reducible exact ev_l0)
  | ((with_reducible apply ev_ite); (walk_at "ev"); (intro _; walk_at "ev"); (intro _; walk_at "ev"))))

section
variable {Pr : Prog} {n : Nat} {A : List Pt} {m x y v : Int} {ds : List Int} {d : Dr}
/-! ### rounds -/
end
end VL

/-! plain side: _law_second; the told order; what blocks -/
namespace VL
open PySem
open Enc
local macro_rules | `(tactic| walk_at "sz") => `(tactic| (first
  | assumption
  | omega
  | exact len_nil
  | ((with_reducible apply len_filter); walk_at "sz")
  | ((with_reducible apply len_map); walk_at "sz")
  | ((with_reducible apply len_srt); walk_at "sz")
  | ((with_reducible apply len_asc); omega)
  | ((with_reducible apply len_upto); omega)
  | ((with_reducible apply len_fromto); omega)
  | ((with_reducible apply len_app); (walk_at "sz"); (walk_at "sz"))
  | ((with_reducible apply len_sum); (walk_at "sz"); (walk_at "sz"))
  | ((with_reducible apply len_drop); walk_at "sz")
  | ((with_reducible apply len_take); walk_at "sz")
  | ((with_reducible apply len_rev); walk_at "sz")
  | ((with_reducible apply len_cons); (walk_at "sz"); (omega))))
local macro_rules | `(tactic| walk_at "call") => `(tactic| (first | assumption | solve_by_elim))
local macro_rules | `(tactic| walk_at "args") => `(tactic| (first
  | exact evs_nil
  | ((with_reducible apply evs_cons); (walk_at "ev"); (walk_at "args"))))
local macro_rules | `(tactic| walk_at "ev") => `(tactic| (first
  | ((with_reducible apply ev_var); rfl)
  | (with_reducible exact ev_ci)
  | (with_reducible exact ev_cb)
  | (with_reducible exact ev_cst)
  | ((with_reducible apply ev_call'); (walk_at "args"); (walk_at "call"))
  | ((with_reducible apply eb_and); (walk_at "ev"); (intro _; walk_at "ev"))
  | ((with_reducible apply eb_or); (walk_at "ev"); (intro _; walk_at "ev"))
  | ((with_reducible apply eb_not); (walk_at "ev"))
  | ((with_reducible apply eb_in); (walk_at "ev"); (walk_at "ev"); decide)
  | ((with_reducible apply eb_notin); (walk_at "ev"); (walk_at "ev"); decide)
  | ((with_reducible apply eb_eq); (walk_at "ev"); (walk_at "ev"); decide)
  | ((with_reducible apply eb_ne); (walk_at "ev"); (walk_at "ev"); decide)
  | ((with_reducible apply eb_lt); (walk_at "ev"); (walk_at "ev"))
  | ((with_reducible apply eb_le); (walk_at "ev"); (walk_at "ev"))
  | ((with_reducible apply eb_gt); (walk_at "ev"); (walk_at "ev"))
  | ((with_reducible apply eb_ge); (walk_at "ev"); (walk_at "ev"))
  | ((with_reducible apply eb_chain_lt); (walk_at "ev"); (walk_at "ev"); (walk_at "ev"))
  | ((with_reducible apply eb_isN); (walk_at "ev"))
  | ((with_reducible apply eb_notN); (walk_at "ev"))
  | ((with_reducible apply eb_isB); (walk_at "ev"))
  | ((with_reducible apply eb_notB); (walk_at "ev"))
  | ((with_reducible apply eb_lend); (walk_at "ev"))
  | ((with_reducible apply eb_all); (walk_at "ev"))
  | ((with_reducible apply eb_any); (walk_at "ev"))
  | ((with_reducible apply ev_lenL); (walk_at "ev"))
  | ((with_reducible apply ev_neg); (walk_at "ev"))
  | ((with_reducible apply ev_sub); (walk_at "ev"); (walk_at "ev"))
  | ((with_reducible apply ev_addI); (walk_at "ev"); (walk_at "ev"))
  | ((with_reducible apply ev_addL); (walk_at "ev"); (walk_at "ev"); (walk_at "sz"))
  | ((with_reducible apply ev_mul); (walk_at "ev"); (walk_at "ev"); omega; omega)
  | ((with_reducible apply ev_int); (walk_at "ev"))
  | ((with_reducible apply ev_intb); (walk_at "ev"))
  | ((with_reducible apply ev_max); (walk_at "ev"); (walk_at "ev"))
  | ((with_reducible apply ev_min); (walk_at "ev"); (walk_at "ev"))
  | ((with_reducible apply ev_ta); (walk_at "ev"))
  | ((with_reducible apply ev_tb); (walk_at "ev"))
  | ((with_reducible apply ev_tc); (walk_at "ev"))
  | ((with_reducible apply ev_pa); (walk_at "ev"))
  | ((with_reducible apply ev_pb); (walk_at "ev"))
  | ((with_reducible apply ev_ix); (walk_at "ev"); (walk_at "ev"); (assumption))
  | ((with_reducible apply ev_pair); (walk_at "ev"); (walk_at "ev"))
  | ((with_reducible apply ev_trip); (walk_at "ev"); (walk_at "ev"); (walk_at "ev"))
  | ((with_reducible apply ev_l1); (walk_at "ev"))
  | ((with_reducible apply ev_l2); (walk_at "ev"); (walk_at "ev"))
  | ((with_reducible apply ev_rng); (walk_at "ev"); omega; omega)
  | ((with_reducible apply ev_rng2); (walk_at "ev"); (walk_at "ev"); omega; omega; omega; omega)
  | ((with_reducible apply ev_listof); (walk_at "ev"))
  | ((with_reducible apply ev_rev); (walk_at "ev"))
  | ((with_reducible apply ev_drop); (walk_at "ev"); (walk_at "ev"); omega)
  | ((with_reducible apply ev_take); (walk_at "ev"); (walk_at "ev"); omega)
  | ((with_reducible apply ev_sorted); (walk_at "ev"); (first | infer_instance | assumption))
  | ((with_reducible apply ec_filter); (walk_at "ev"); rfl; (intro _ _; walk_at "ev"); (walk_at "sz"))
  | ((with_reducible apply ec_map2); (walk_at "ev"); rfl; rfl; (intro _ _; walk_at "ev"); (walk_at "sz"))
  | ((with_reducible apply ec_both2); (walk_at "ev"); rfl; rfl; (intro _ _; walk_at "ev"); (intro _ _ _; walk_at "ev"); (walk_at "sz"))
  | ((with_reducible apply ec_map); (walk_at "ev"); rfl; (intro _ _; walk_at "ev"); (walk_at "sz"))
  | ((with_reducible apply ec_both); (walk_at "ev"); rfl; (intro _ _; walk_at "ev"); (intro _ _ _; walk_at "ev"); (walk_at "sz"))
  | (with_reducible exact ev_l0)
  | ((with_reducible apply ev_ite); (walk_at "ev"); (intro _; walk_at "ev"); (intro _; walk_at "ev"))))

section
variable {Pr : Prog} {n : Nat} {A : List Pt} {m x y v k : Int} {ds : List Int} {d : Dr}
end
end VL

/-! plain side: the told order; what blocks -/
namespace VL
open PySem
open Enc
local macro_rules | `(tactic| walk_at "sz") => `(tactic| (first
  | assumption
  | omega
  | exact len_nil
  | ((with_reducible apply len_filter); walk_at "sz")
  | ((with_reducible apply len_map); walk_at "sz")
  | ((with_reducible apply len_srt); walk_at "sz")
  | ((with_reducible apply len_asc); omega)
  | ((with_reducible apply len_upto); omega)
  | ((with_reducible apply len_fromto); omega)
  | ((with_reducible apply len_app); (walk_at "sz"); (walk_at "sz"))
  | ((with_reducible apply len_sum); (walk_at "sz"); (walk_at "sz"))
  | ((with_reducible apply len_drop); walk_at "sz")
  | ((with_reducible apply len_take); walk_at "sz")
  | ((with_reducible apply len_rev); walk_at "sz")
  | ((with_reducible apply len_cons); (walk_at "sz"); (omega))))
local macro_rules | `(tactic| walk_at "call") => `(tactic| (first | assumption | solve_by_elim))
local macro_rules | `(tactic| walk_at "args") => `(tactic| (first
  | exact evs_nil
  | ((with_reducible apply evs_cons); (walk_at "ev"); (walk_at "args"))))
local macro_rules | `(tactic| walk_at "ev") => `(tactic| (first
  | ((with_reducible apply ev_var); rfl)
  | (with_reducible exact ev_ci)
  | (with_reducible exact ev_cb)
  | (with_reducible exact ev_cst)
  | ((with_reducible apply ev_call'); (walk_at "args"); (walk_at "call"))
  | ((with_reducible apply eb_and); (walk_at "ev"); (intro _; walk_at "ev"))
  | ((with_reducible apply eb_or); (walk_at "ev"); (intro _; walk_at "ev"))
  | ((with_reducible apply eb_not); (walk_at "ev"))
  | ((with_reducible apply eb_in); (walk_at "ev"); (walk_at "ev"); decide)
  | ((with_reducible apply eb_notin); (walk_at "ev"); (walk_at "ev"); decide)
  | ((with_reducible apply eb_eq); (walk_at "ev"); (walk_at "ev"); decide)
  | ((with_reducible apply eb_ne); (walk_at "ev"); (walk_at "ev"); decide)
  | ((with_reducible apply eb_lt); (walk_at "ev"); (walk_at "ev"))
  | ((with_reducible apply eb_le); (walk_at "ev"); (walk_at "ev"))
  | ((with_reducible apply eb_gt); (walk_at "ev"); (walk_at "ev"))
  | ((with_reducible apply eb_ge); (walk_at "ev"); (walk_at "ev"))
  | ((with_reducible apply eb_chain_lt); (walk_at "ev"); (walk_at "ev"); (walk_at "ev"))
  | ((with_reducible apply eb_isN); (walk_at "ev"))
  | ((with_reducible apply eb_notN); (walk_at "ev"))
  | ((with_reducible apply eb_isB); (walk_at "ev"))
  | ((with_reducible apply eb_notB); (walk_at "ev"))
  | ((with_reducible apply eb_lend); (walk_at "ev"))
  | ((with_reducible apply eb_all); (walk_at "ev"))
  | ((with_reducible apply eb_any); (walk_at "ev"))
  | ((with_reducible apply ev_lenL); (walk_at "ev"))
  | ((with_reducible apply ev_neg); (walk_at "ev"))
  | ((with_reducible apply ev_sub); (walk_at "ev"); (walk_at "ev"))
  | ((with_reducible apply ev_addI); (walk_at "ev"); (walk_at "ev"))
  | ((with_reducible apply ev_addL); (walk_at "ev"); (walk_at "ev"); (walk_at "sz"))
  | ((with_reducible apply ev_mul); (walk_at "ev"); (walk_at "ev"); omega; omega)
  | ((with_reducible apply ev_int); (walk_at "ev"))
  | ((with_reducible apply ev_intb); (walk_at "ev"))
  | ((with_reducible apply ev_max); (walk_at "ev"); (walk_at "ev"))
  | ((with_reducible apply ev_min); (walk_at "ev"); (walk_at "ev"))
  | ((with_reducible apply ev_ta); (walk_at "ev"))
  | ((with_reducible apply ev_tb); (walk_at "ev"))
  | ((with_reducible apply ev_tc); (walk_at "ev"))
  | ((with_reducible apply ev_pa); (walk_at "ev"))
  | ((with_reducible apply ev_pb); (walk_at "ev"))
  | ((with_reducible apply ev_ix); (walk_at "ev"); (walk_at "ev"); (assumption))
  | ((with_reducible apply ev_pair); (walk_at "ev"); (walk_at "ev"))
  | ((with_reducible apply ev_trip); (walk_at "ev"); (walk_at "ev"); (walk_at "ev"))
  | ((with_reducible apply ev_l1); (walk_at "ev"))
  | ((with_reducible apply ev_l2); (walk_at "ev"); (walk_at "ev"))
  | ((with_reducible apply ev_rng); (walk_at "ev"); omega; omega)
  | ((with_reducible apply ev_rng2); (walk_at "ev"); (walk_at "ev"); omega; omega; omega; omega)
  | ((with_reducible apply ev_listof); (walk_at "ev"))
  | ((with_reducible apply ev_rev); (walk_at "ev"))
  | ((with_reducible apply ev_drop); (walk_at "ev"); (walk_at "ev"); omega)
  | ((with_reducible apply ev_take); (walk_at "ev"); (walk_at "ev"); omega)
  | ((with_reducible apply ev_sorted); (walk_at "ev"); (first | infer_instance | assumption))
  | ((with_reducible apply ec_filter); (walk_at "ev"); rfl; (intro _ _; walk_at "ev"); (walk_at "sz"))
  | ((with_reducible apply ec_map2); (walk_at "ev"); rfl; rfl; (intro _ _; walk_at "ev"); (walk_at "sz"))
  | ((with_reducible apply ec_both2); (walk_at "ev"); rfl; rfl; (intro _ _; walk_at "ev"); (intro _ _ _; walk_at "ev"); (walk_at "sz"))
  | ((with_reducible apply ec_map); (walk_at "ev"); rfl; (intro _ _; walk_at "ev"); (walk_at "sz"))
  | ((with_reducible apply ec_both); (walk_at "ev"); rfl; (intro _ _; walk_at "ev"); (intro _ _ _; walk_at "ev"); (walk_at "sz"))
  | (with_reducible exact ev_l0)
  | ((with_reducible apply ev_ite); (walk_at "ev"); (intro _; walk_at "ev"); (intro _; walk_at "ev"))))

section
variable {Pr : Prog} {n : Nat} {A : List Pt} {m x y v k a b : Int} {d : Dr} {f K : List Int}
/-- an order by the arrows -/
structure TOrd (d : Dr) (f : List Int) : Prop where
  nd : f.Nodup
  inR : InR d.a f
  all : ∀ v, 0 ≤ v → v < d.a → v ∈ f
  ord : ∀ u v, (u, v) ∈ d.b → idxF f u < idxF f v
/-- what comes ahead is no descendant -/
theorem TOrd.ahead (o : TOrd d f) (h : idxF f a < idxF f b) : ¬ Clo d.b [b] a := fun z => by
  have key : ∀ x, Clo d.b [b] x → idxF f b ≤ idxF f x := fun x hx => by
    induction hx with
    | base hx => rw [List.mem_singleton.mp hx]; exact Nat.le_refl _
    | step _ hp ih => exact Nat.le_of_lt (Nat.lt_of_le_of_lt ih (o.ord _ _ hp))
  have := key a z
  omega
/-- a blocker: the parents of one of the two, that is not ahead of the other -/
structure Blk (d : Dr) (a b : Int) (K : List Int) : Prop where
  one : (K = parents d b ∧ ¬ Clo d.b [b] a) ∨ (K = parents d a ∧ ¬ Clo d.b [a] b)
theorem parents_sorted (g : Good d) : (parents d v).Pairwise (· < ·) := by
  unfold parents
  rw [List.pairwise_map]
  refine List.Pairwise.imp_of_mem (fun {p q} hp hq h => ?_) (List.Pairwise.filter _ g.arrS)
  have h1 := of_decide_eq_true (List.mem_filter.mp hp).2
  have h2 := of_decide_eq_true (List.mem_filter.mp hq).2
  unfold ltP at h
  rcases h with h | h
  · exact h
  · omega
/-- it blocks, if they are no neighbours -/
structure BlkOk (d : Dr) (a b : Int) (K : List Int) : Prop where
  aK : a ∉ K
  bK : b ∉ K
  iK : InR d.a K
  srt : K.Pairwise (· < ·)
  blk : ¬ Joins d.b K a b
  low : ∀ c, (a, c) ∈ d.b → (b, c) ∈ d.b → c ∉ K
theorem Blk.ok (g : Good d) (h : Blk d a b K) (na : ¬ AdjA d.b a b) : BlkOk d a b K := by
  obtain ⟨r, hr⟩ := good_up g
  rcases h.one with ⟨rfl, h1⟩ | ⟨rfl, h1⟩
  · have aK : a ∉ parents d b := fun z => na (.inl (mem_parents.mp z))
    have bK : b ∉ parents d b := fun z => good_irr g b (mem_parents.mp z)
    exact ⟨aK, bK, fun x hx => (g.tame.arr _ (mem_parents.mp hx)).1, parents_sorted g, parents_block (fun x => mem_parents) hr h1, fun c _ h2 h3 => good_anti g _ _ h2 (mem_parents.mp h3)⟩
  · have aK : a ∉ parents d a := fun z => good_irr g a (mem_parents.mp z)
    have bK : b ∉ parents d a := fun z => na (.inr (mem_parents.mp z))
    exact ⟨aK, bK, fun x hx => (g.tame.arr _ (mem_parents.mp hx)).1, parents_sorted g, parents_block2 (fun x => mem_parents) hr h1 bK, fun c h2 _ h3 => good_anti g _ _ h2 (mem_parents.mp h3)⟩
end
end VL

/-! plain side: rounds of arrows -/
namespace VL
open PySem
open Enc
local macro_rules | `(tactic| walk_at "sz") => `(tactic| (first
  | assumption
  | omega
  | exact len_nil
  | ((with_reducible apply len_filter); walk_at "sz")
  | ((with_reducible apply len_map); walk_at "sz")
  | ((with_reducible apply len_srt); walk_at "sz")
  | ((with_reducible apply len_asc); omega)
  | ((with_reducible apply len_upto); omega)
  | ((with_reducible apply len_fromto); omega)
  | ((with_reducible apply len_app); (walk_at "sz"); (walk_at "sz"))
  | ((with_reducible apply len_sum); (walk_at "sz"); (walk_at "sz"))
  | ((with_reducible apply len_drop); walk_at "sz")
  | ((with_reducible apply len_take); walk_at "sz")
  | ((with_reducible apply len_rev); walk_at "sz")
  | ((with_reducible apply len_cons); (walk_at "sz"); (omega))))
local macro_rules | `(tactic| walk_at "call") => `(tactic| (first | assumption | solve_by_elim))
local macro_rules | `(tactic| walk_at "args") => `(tactic| (first
  | exact evs_nil
  | ((with_reducible apply evs_cons); (walk_at "ev"); (walk_at "args"))))
local macro_rules | `(tactic| walk_at "ev") => `(tactic| (first
  | ((with_reducible apply ev_var); rfl)
  | (with_reducible exact ev_ci)
  | (with_reducible exact ev_cb)
  | (with_reducible exact ev_cst)
  | ((with_reducible apply ev_call'); (walk_at "args"); (walk_at "call"))
  | ((with_reducible apply eb_and); (walk_at "ev"); (intro _; walk_at "ev"))
  | ((with_reducible apply eb_or); (walk_at "ev"); (intro _; walk_at "ev"))
  | ((with_reducible apply eb_not); (walk_at "ev"))
  | ((with_reducible apply eb_in); (walk_at "ev"); (walk_at "ev"); decide)
  | ((with_reducible apply eb_notin); (walk_at "ev"); (walk_at "ev"); decide)
  | ((with_reducible apply eb_eq); (walk_at "ev"); (walk_at "ev"); decide)
  | ((with_reducible apply eb_ne); (walk_at "ev"); (walk_at "ev"); decide)
  | ((with_reducible apply eb_lt); (walk_at "ev"); (walk_at "ev"))
  | ((with_reducible apply eb_le); (walk_at "ev"); (walk_at "ev"))
  | ((with_reducible apply eb_gt); (walk_at "ev"); (walk_at "ev"))
  | ((with_reducible apply eb_ge); (walk_at "ev"); (walk_at "ev"))
  | ((with_reducible apply eb_chain_lt); (walk_at "ev"); (walk_at "ev"); (walk_at "ev"))
  | ((with_reducible apply eb_isN); (walk_at "ev"))
  | ((with_reducible apply eb_notN); (walk_at "ev"))
  | ((with_reducible apply eb_isB); (walk_at "ev"))
  | ((with_reducible apply eb_notB); (walk_at "ev"))
  | ((with_reducible apply eb_lend); (walk_at "ev"))
  | ((with_reducible apply eb_all); (walk_at "ev"))
  | ((with_reducible apply eb_any); (walk_at "ev"))
  | ((with_reducible apply ev_lenL); (walk_at "ev"))
  | ((with_reducible apply ev_neg); (walk_at "ev"))
  | ((with_reducible apply ev_sub); (walk_at "ev"); (walk_at "ev"))
  | ((with_reducible apply ev_addI); (walk_at "ev"); (walk_at "ev"))
  | ((with_reducible apply ev_addL); (walk_at "ev"); (walk_at "ev"); (walk_at "sz"))
  | ((with_reducible apply ev_mul); (walk_at "ev"); (walk_at "ev"); omega; omega)
  | ((with_reducible apply ev_int); (walk_at "ev"))
  | ((with_reducible apply ev_intb); (walk_at "ev"))
  | ((with_reducible apply ev_max); (walk_at "ev"); (walk_at "ev"))
  | ((with_reducible apply ev_min); (walk_at "ev"); (walk_at "ev"))
  | ((with_reducible apply ev_ta); (walk_at "ev"))
  | ((with_reducible apply ev_tb); (walk_at "ev"))
  | ((with_reducible apply ev_tc); (walk_at "ev"))
  | ((with_reducible apply ev_pa); (walk_at "ev"))
  | ((with_reducible apply ev_pb); (walk_at "ev"))
  | ((with_reducible apply ev_ix); (walk_at "ev"); (walk_at "ev"); (assumption))
  | ((with_reducible apply ev_pair); (walk_at "ev"); (walk_at "ev"))
  | ((with_reducible apply ev_trip); (walk_at "ev"); (walk_at "ev"); (walk_at "ev"))
  | ((with_reducible apply ev_l1); (walk_at "ev"))
  | ((with_reducible apply ev_l2); (walk_at "ev"); (walk_at "ev"))
  | ((with_reducible apply ev_rng); (walk_at "ev"); omega; omega)
  | ((with_reducible apply ev_rng2); (walk_at "ev"); (walk_at "ev"); omega; omega; omega; omega)
  | ((with_reducible apply ev_listof); (walk_at "ev"))
  | ((with_reducible apply ev_rev); (walk_at "ev"))
  | ((with_reducible apply ev_drop); (walk_at "ev"); (walk_at "ev"); omega)
  | ((with_reducible apply ev_take); (walk_at "ev"); (walk_at "ev"); omega)
  | ((with_reducible apply ev_sorted); (walk_at "ev"); (first | infer_instance | assumption))
  | ((with_reducible apply ec_filter); (walk_at "ev"); rfl; (intro _ _; walk_at "ev"); (walk_at "sz"))
  | ((with_reducible apply ec_map2); (walk_at "ev"); rfl; rfl; (intro _ _; walk_at "ev"); (walk_at "sz"))
  | ((with_reducible apply ec_both2); (walk_at "ev"); rfl; rfl; (intro _ _; walk_at "ev"); (intro _ _ _; walk_at "ev"); (walk_at "sz"))
  | ((with_reducible apply ec_map); (walk_at "ev"); rfl; (intro _ _; walk_at "ev"); (walk_at "sz"))
  | ((with_reducible apply ec_both); (walk_at "ev"); rfl; (intro _ _; walk_at "ev"); (intro _ _ _; walk_at "ev"); (walk_at "sz"))
  | (with_reducible exact ev_l0)
  | ((with_reducible apply ev_ite); (walk_at "ev"); (intro _; walk_at "ev"); (intro _; walk_at "ev"))))

section
variable {Pr : Prog} {n : Nat} {m a b u v x : Int} {R : List Pt}
/-- a way of one step or more -/
inductive TP (R : List Pt) : Int → Int → Prop
  | one {a b : Int} : (a, b) ∈ R → TP R a b
  | more {a u b : Int} : TP R a u → (u, b) ∈ R → TP R a b
theorem TP.trans (h : TP R a u) (h2 : TP R u b) : TP R a b := by
  induction h2 with
  | one e => exact .more h e
  | more _ e ih => exact .more ih e
theorem TP.head (h : TP R a b) : ∃ u, (a, u) ∈ R ∧ (u = b ∨ TP R u b) := by
  induction h with
  | one e => exact ⟨_, e, .inl rfl⟩
  | more _ e ih =>
    obtain ⟨u, h1, h2⟩ := ih
    refine ⟨u, h1, .inr ?_⟩
    rcases h2 with rfl | h2
    · exact .one e
    · exact .more h2 e
theorem TP.succ (h : TP R v v) : ∃ u, TP R u u ∧ (v, u) ∈ R := by
  obtain ⟨u, h1, h2⟩ := h.head
  rcases h2 with rfl | h2
  · exact ⟨u, h, h1⟩
  · exact ⟨u, h2.trans (.one h1), h1⟩
theorem TP.inR (hR : InP m R) (h : TP R a b) : (0 ≤ a ∧ a < m) ∧ 0 ≤ b ∧ b < m := by
  induction h with
  | one e => exact hR _ e
  | more _ e ih => exact ⟨ih.1, (hR _ e).2⟩
/-! ### what is left -/
/-! ### no rounds: a drawing -/
end
end VL

/-! plain side: ways told by a table; the law's own reckoning of faults -/
namespace VL
open PySem
open Enc
local macro_rules | `(tactic| walk_at "sz") => `(tactic| (first
  | assumption
  | omega
  | exact len_nil
  | ((with_reducible apply len_filter); walk_at "sz")
  | ((with_reducible apply len_map); walk_at "sz")
  | ((with_reducible apply len_srt); walk_at "sz")
  | ((with_reducible apply len_asc); omega)
  | ((with_reducible apply len_upto); omega)
  | ((with_reducible apply len_fromto); omega)
  | ((with_reducible apply len_app); (walk_at "sz"); (walk_at "sz"))
  | ((with_reducible apply len_sum); (walk_at "sz"); (walk_at "sz"))
  | ((with_reducible apply len_drop); walk_at "sz")
  | ((with_reducible apply len_take); walk_at "sz")
  | ((with_reducible apply len_rev); walk_at "sz")
  | ((with_reducible apply len_cons); (walk_at "sz"); (omega))))
local macro_rules | `(tactic| walk_at "call") => `(tactic| (first | assumption | solve_by_elim))
local macro_rules | `(tactic| walk_at "args") => `(tactic| (first
  | exact evs_nil
  | ((with_reducible apply evs_cons); (walk_at "ev"); (walk_at "args"))))
local macro_rules | `(tactic| walk_at "ev") => `(tactic| (first
  | ((with_reducible apply ev_var); rfl)
  | (with_reducible exact ev_ci)
  | (with_reducible exact ev_cb)
  | (with_reducible exact ev_cst)
  | ((with_reducible apply ev_call'); (walk_at "args"); (walk_at "call"))
  | ((with_reducible apply eb_and); (walk_at "ev"); (intro _; walk_at "ev"))
  | ((with_reducible apply eb_or); (walk_at "ev"); (intro _; walk_at "ev"))
  | ((with_reducible apply eb_not); (walk_at "ev"))
  | ((with_reducible apply eb_in); (walk_at "ev"); (walk_at "ev"); decide)
  | ((with_reducible apply eb_notin); (walk_at "ev"); (walk_at "ev"); decide)
  | ((with_reducible apply eb_eq); (walk_at "ev"); (walk_at "ev"); decide)
  | ((with_reducible apply eb_ne); (walk_at "ev"); (walk_at "ev"); decide)
  | ((with_reducible apply eb_lt); (walk_at "ev"); (walk_at "ev"))
  | ((with_reducible apply eb_le); (walk_at "ev"); (walk_at "ev"))
  | ((with_reducible apply eb_gt); (walk_at "ev"); (walk_at "ev"))
  | ((with_reducible apply eb_ge); (walk_at "ev"); (walk_at "ev"))
  | ((with_reducible apply eb_chain_lt); (walk_at "ev"); (walk_at "ev"); (walk_at "ev"))
  | ((with_reducible apply eb_isN); (walk_at "ev"))
  | ((with_reducible apply eb_notN); (walk_at "ev"))
  | ((with_reducible apply eb_isB); (walk_at "ev"))
  | ((with_reducible apply eb_notB); (walk_at "ev"))
  | ((with_reducible apply eb_lend); (walk_at "ev"))
  | ((with_reducible apply eb_all); (walk_at "ev"))
  | ((with_reducible apply eb_any); (walk_at "ev"))
  | ((with_reducible apply ev_lenL); (walk_at "ev"))
  | ((with_reducible apply ev_neg); (walk_at "ev"))
  | ((with_reducible apply ev_sub); (walk_at "ev"); (walk_at "ev"))
  | ((with_reducible apply ev_addI); (walk_at "ev"); (walk_at "ev"))
  | ((with_reducible apply ev_addL); (walk_at "ev"); (walk_at "ev"); (walk_at "sz"))
  | ((with_reducible apply ev_mul); (walk_at "ev"); (walk_at "ev"); omega; omega)
  | ((with_reducible apply ev_int); (walk_at "ev"))
  | ((with_reducible apply ev_intb); (walk_at "ev"))
  | ((with_reducible apply ev_max); (walk_at "ev"); (walk_at "ev"))
  | ((with_reducible apply ev_min); (walk_at "ev"); (walk_at "ev"))
  | ((with_reducible apply ev_ta); (walk_at "ev"))
  | ((with_reducible apply ev_tb); (walk_at "ev"))
  | ((with_reducible apply ev_tc); (walk_at "ev"))
  | ((with_reducible apply ev_pa); (walk_at "ev"))
  | ((with_reducible apply ev_pb); (walk_at "ev"))
  | ((with_reducible apply ev_ix); (walk_at "ev"); (walk_at "ev"); (assumption))
  | ((with_reducible apply ev_pair); (walk_at "ev"); (walk_at "ev"))
  | ((with_reducible apply ev_trip); (walk_at "ev"); (walk_at "ev"); (walk_at "ev"))
  | ((with_reducible apply ev_l1); (walk_at "ev"))
  | ((with_reducible apply ev_l2); (walk_at "ev"); (walk_at "ev"))
  | ((with_reducible apply ev_rng); (walk_at "ev"); omega; omega)
  | ((with_reducible apply ev_rng2); (walk_at "ev"); (walk_at "ev"); omega; omega; omega; omega)
  | ((with_reducible apply ev_listof); (walk_at "ev"))
  | ((with_reducible apply ev_rev); (walk_at "ev"))
  | ((with_reducible apply ev_drop); (walk_at "ev"); (walk_at "ev"); omega)
  | ((with_reducible apply ev_take); (walk_at "ev"); (walk_at "ev"); omega)
  | ((with_reducible apply ev_sorted); (walk_at "ev"); (first | infer_instance | assumption))
  | ((with_reducible apply ec_filter); (walk_at "ev"); rfl; (intro _ _; walk_at "ev"); (walk_at "sz"))
  | ((with_reducible apply ec_map2); (walk_at "ev"); rfl; rfl; (intro _ _; walk_at "ev"); (walk_at "sz"))
  | ((with_reducible apply ec_both2); (walk_at "ev"); rfl; rfl; (intro _ _; walk_at "ev"); (intro _ _ _; walk_at "ev"); (walk_at "sz"))
  | ((with_reducible apply ec_map); (walk_at "ev"); rfl; (intro _ _; walk_at "ev"); (walk_at "sz"))
  | ((with_reducible apply ec_both); (walk_at "ev"); rfl; (intro _ _; walk_at "ev"); (intro _ _ _; walk_at "ev"); (walk_at "sz"))
  | (with_reducible exact ev_l0)
  | ((with_reducible apply ev_ite); (walk_at "ev"); (intro _; walk_at "ev"); (intro _; walk_at "ev"))))

section
variable {cf : Nat → List Val → Res Val} {ρ ρ' : Env} {ss : List S} {G : Out → Prop}
theorem ev_ixV {a b : E} {k : Nat} {xs : List Val} {y : Int} {v : Val} (h : evalE cf (k + 1) a ρ = .ok (.list xs)) (h2 : evalE cf (k + 1) b ρ = .ok (.int y)) (hx : L2.atI xs y = some v) : evalE cf k (.op .idx [a, b]) ρ = .ok v := by
  refine ev2 (o := .idx) h h2 ?_
  show ofOpt (L2.atI xs y) = _
  rw [hx]
  rfl
end
section
variable {Pr : Prog} {n : Nat} {m a b c u v x : Int} {R : List Pt} {f : Int → Int → Bool}
/-! ### tables -/
/-! ### ways through some variables -/
inductive PV (R : List Pt) (P : Int → Prop) : Int → Int → Prop
  | one {a b : Int} : (a, b) ∈ R → PV R P a b
  | more {a u b : Int} : PV R P a u → P u → (u, b) ∈ R → PV R P a b
theorem PV.split {P : Int → Prop} (h : PV R (fun x => P x ∨ x = c) a b) : PV R P a b ∨ (PV R P a c ∧ PV R P c b) := by
  induction h with
  | one e => exact .inl (.one e)
  | more _ p e ih =>
    rcases ih with h | ⟨h1, h2⟩
    · rcases p with p | rfl
      · exact .inl (.more h p e)
      · exact .inr ⟨h, .one e⟩
    · rcases p with p | rfl
      · exact .inr ⟨h1, .more h2 p e⟩
      · exact .inr ⟨h1, .one e⟩
theorem PV.mono {P Q : Int → Prop} (hp : ∀ x, P x → Q x) (h : PV R P a b) : PV R Q a b := by
  induction h with
  | one e => exact .one e
  | more _ p e ih => exact .more ih (hp _ p) e
theorem PV.of {P : Int → Prop} (hp : ∀ p ∈ R, P p.1) (h : TP R a b) : PV R P a b := by
  induction h with
  | one e => exact .one e
  | more _ e ih => exact .more ih (hp _ e) e
structure WI (R : List Pt) (m : Int) (pre : List Int) (f : Int → Int → Bool) : Prop where
  snd : ∀ a b, f a b = true → TP R a b
  cmp : ∀ a b, PV R (· ∈ pre) a b → f a b = true
theorem WI.start : WI R m [] fun a b => tr ((a, b) ∈ R) where
  snd := fun a b h => .one (tr_iff.mp h)
  cmp := fun a b h => by
    cases h with
    | one e => exact tr_iff.mpr e
    | more _ p _ => cases p
/-- the turn of c: all that leads through c is told -/
structure WT (R : List Pt) (m c : Int) (f0 : Int → Int → Bool) (preA : List Int) (f : Int → Int → Bool) : Prop where
  snd : ∀ a b, f a b = true → TP R a b
  mono : ∀ a b, f0 a b = true → f a b = true
  done : ∀ a ∈ preA, ∀ b, 0 ≤ b → b < m → f0 a c = true → f0 c b = true → f a b = true
theorem WT.next {pre : List Int} {f0 : Int → Int → Bool} (hR : InP m R) (w : WI R m pre f0) (t : WT R m c f0 (upto m) f) : WI R m (pre ++ [c]) f where
  snd := t.snd
  cmp := fun a b h => by
    have h' : PV R (fun x => x ∈ pre ∨ x = c) a b := h.mono fun x hx => by
      rcases List.mem_append.mp hx with z | z
      · exact .inl z
      · exact .inr (List.mem_singleton.mp z)
    have rng : ∀ {x y : Int}, PV R (· ∈ pre) x y → (0 ≤ x ∧ x < m) ∧ 0 ≤ y ∧ y < m := fun {x y} h => by
      have : TP R x y := w.snd x y (w.cmp x y h)
      exact this.inR hR
    rcases h'.split with h | ⟨h1, h2⟩
    · exact t.mono _ _ (w.cmp _ _ h)
    · exact t.done a (mem_upto.mpr (rng h1).1) b (rng h2).2.1 (rng h2).2.2 (w.cmp _ _ h1) (w.cmp _ _ h2)
theorem WI.end (hR : InP m R) (w : WI R m (upto m) f) : f a b = true ↔ TP R a b :=
  ⟨w.snd a b, fun h => w.cmp a b (PV.of (fun p hp => mem_upto.mpr (hR p hp).1) h)⟩
/-! ### what is due -/
inductive Wd where
  | range | arrow | tie | round | none | told
  deriving DecidableEq
def Wd.word : Wd → Str
  | .range => "range"
  | .arrow => "arrow"
  | .tie => "tie"
  | .round => "round"
  | .none => "none"
  | .told => "told"
theorem wd_eqv (a b : Wd) : PyData.eqv (.str a.word) (.str b.word) = decide (a = b) := by cases a <;> cases b <;> decide +kernel
instance encWd : Enc Wd where
  enc := fun a => .str a.word
  dep := 0
  eqv := fun a b => by
    rw [wd_eqv, decide_eq_true_eq]
  lay := fun a => by
    simp only [PyData.canLay0]
    cases a <;> exact strOk_of _
  depth := fun a => by simp [PyData.depth]
end
end VL

/-! plain side: check_drawing, is_drawing and the words of errors -/
namespace VL
open PySem
open Enc
local macro_rules | `(tactic| walk_at "sz") => `(tactic| (first
  | assumption
  | omega
  | exact len_nil
  | ((with_reducible apply len_filter); walk_at "sz")
  | ((with_reducible apply len_map); walk_at "sz")
  | ((with_reducible apply len_srt); walk_at "sz")
  | ((with_reducible apply len_asc); omega)
  | ((with_reducible apply len_upto); omega)
  | ((with_reducible apply len_fromto); omega)
  | ((with_reducible apply len_app); (walk_at "sz"); (walk_at "sz"))
  | ((with_reducible apply len_sum); (walk_at "sz"); (walk_at "sz"))
  | ((with_reducible apply len_drop); walk_at "sz")
  | ((with_reducible apply len_take); walk_at "sz")
  | ((with_reducible apply len_rev); walk_at "sz")
  | ((with_reducible apply len_cons); (walk_at "sz"); (omega))))
local macro_rules | `(tactic| walk_at "call") => `(tactic| (first | assumption | solve_by_elim))
local macro_rules | `(tactic| walk_at "args") => `(tactic| (first
  | exact evs_nil
  | ((with_reducible apply evs_cons); (walk_at "ev"); (walk_at "args"))))
local macro_rules | `(tactic| walk_at "ev") => `(tactic| (first
  | ((with_reducible apply ev_var); rfl)
  | (with_reducible exact ev_ci)
  | (with_reducible exact ev_cb)
  | (with_reducible exact ev_cst)
  | ((with_reducible apply ev_call'); (walk_at "args"); (walk_at "call"))
  | ((with_reducible apply eb_and); (walk_at "ev"); (intro _; walk_at "ev"))
  | ((with_reducible apply eb_or); (walk_at "ev"); (intro _; walk_at "ev"))
  | ((with_reducible apply eb_not); (walk_at "ev"))
  | ((with_reducible apply eb_in); (walk_at "ev"); (walk_at "ev"); decide)
  | ((with_reducible apply eb_notin); (walk_at "ev"); (walk_at "ev"); decide)
  | ((with_reducible apply eb_eq); (walk_at "ev"); (walk_at "ev"); decide)
  | ((with_reducible apply eb_ne); (walk_at "ev"); (walk_at "ev"); decide)
  | ((with_reducible apply eb_lt); (walk_at "ev"); (walk_at "ev"))
  | ((with_reducible apply eb_le); (walk_at "ev"); (walk_at "ev"))
  | ((with_reducible apply eb_gt); (walk_at "ev"); (walk_at "ev"))
  | ((with_reducible apply eb_ge); (walk_at "ev"); (walk_at "ev"))
  | ((with_reducible apply eb_chain_lt); (walk_at "ev"); (walk_at "ev"); (walk_at "ev"))
  | ((with_reducible apply eb_isN); (walk_at "ev"))
  | ((with_reducible apply eb_notN); (walk_at "ev"))
  | ((with_reducible apply eb_isB); (walk_at "ev"))
  | ((with_reducible apply eb_notB); (walk_at "ev"))
  | ((with_reducible apply eb_lend); (walk_at "ev"))
  | ((with_reducible apply eb_all); (walk_at "ev"))
  | ((with_reducible apply eb_any); (walk_at "ev"))
  | ((with_reducible apply ev_lenL); (walk_at "ev"))
  | ((with_reducible apply ev_neg); (walk_at "ev"))
  | ((with_reducible apply ev_sub); (walk_at "ev"); (walk_at "ev"))
  | ((with_reducible apply ev_addI); (walk_at "ev"); (walk_at "ev"))
  | ((with_reducible apply ev_addL); (walk_at "ev"); (walk_at "ev"); (walk_at "sz"))
  | ((with_reducible apply ev_mul); (walk_at "ev"); (walk_at "ev"); omega; omega)
  | ((with_reducible apply ev_int); (walk_at "ev"))
  | ((with_reducible apply ev_intb); (walk_at "ev"))
  | ((with_reducible apply ev_max); (walk_at "ev"); (walk_at "ev"))
  | ((with_reducible apply ev_min); (walk_at "ev"); (walk_at "ev"))
  | ((with_reducible apply ev_ta); (walk_at "ev"))
  | ((with_reducible apply ev_tb); (walk_at "ev"))
  | ((with_reducible apply ev_tc); (walk_at "ev"))
  | ((with_reducible apply ev_pa); (walk_at "ev"))
  | ((with_reducible apply ev_pb); (walk_at "ev"))
  | ((with_reducible apply ev_ix); (walk_at "ev"); (walk_at "ev"); (assumption))
  | ((with_reducible apply ev_pair); (walk_at "ev"); (walk_at "ev"))
  | ((with_reducible apply ev_trip); (walk_at "ev"); (walk_at "ev"); (walk_at "ev"))
  | ((with_reducible apply ev_l1); (walk_at "ev"))
  | ((with_reducible apply ev_l2); (walk_at "ev"); (walk_at "ev"))
  | ((with_reducible apply ev_rng); (walk_at "ev"); omega; omega)
  | ((with_reducible apply ev_rng2); (walk_at "ev"); (walk_at "ev"); omega; omega; omega; omega)
  | ((with_reducible apply ev_listof); (walk_at "ev"))
  | ((with_reducible apply ev_rev); (walk_at "ev"))
  | ((with_reducible apply ev_drop); (walk_at "ev"); (walk_at "ev"); omega)
  | ((with_reducible apply ev_take); (walk_at "ev"); (walk_at "ev"); omega)
  | ((with_reducible apply ev_sorted); (walk_at "ev"); (first | infer_instance | assumption))
  | ((with_reducible apply ec_filter); (walk_at "ev"); rfl; (intro _ _; walk_at "ev"); (walk_at "sz"))
  | ((with_reducible apply ec_map2); (walk_at "ev"); rfl; rfl; (intro _ _; walk_at "ev"); (walk_at "sz"))
  | ((with_reducible apply ec_both2); (walk_at "ev"); rfl; rfl; (intro _ _; walk_at "ev"); (intro _ _ _; walk_at "ev"); (walk_at "sz"))
  | ((with_reducible apply ec_map); (walk_at "ev"); rfl; (intro _ _; walk_at "ev"); (walk_at "sz"))
  | ((with_reducible apply ec_both); (walk_at "ev"); rfl; (intro _ _; walk_at "ev"); (intro _ _ _; walk_at "ev"); (walk_at "sz"))
  | (with_reducible exact ev_l0)
  | ((with_reducible apply ev_ite); (walk_at "ev"); (intro _; walk_at "ev"); (intro _; walk_at "ev"))))

section
variable {cf : Nat → List Val → Res Val} {ρ ρ' : Env} {ss : List SX} {G : OX → Prop}
theorem eb_le12 {a : E} {k : Nat} {x : Int} (h : evalE cf 9 a ρ = .ok (enc x)) : evalE cf k (.chain .le .le (.cst (.int 1)) a (.cst (.int 12))) ρ = .ok (.bool (tr (1 ≤ x ∧ x ≤ 12))) := by
  have e : tr (1 ≤ x ∧ x ≤ 12) = (decide (1 ≤ x) && decide (x ≤ 12)) := by rw [tr_dec]; simp
  rw [e]
  show ((evalE cf 9 (.cst (.int 1)) ρ).bind fun x => (evalE cf 9 a ρ).bind fun y => (den .le [x, y]).bind fun r => (asBool r).bind fun t => match t with
    | true => (evalE cf 9 (.cst (.int 12)) ρ).bind fun z => den .le [y, z]
    | false => Res.ok (PyData.bool false)) = _
  rw [h]
  show (match decide (1 ≤ x) with
    | true => Res.ok (PyData.bool (decide (x ≤ 12)))
    | false => Res.ok (PyData.bool false)) = _
  cases decide (1 ≤ x) <;> rfl
end
section
variable {Pr : Prog} {XP : ProgX} {n : Nat} {d : Dr} {w : Wd} {i : Int}
/-! ### the words -/
end
end VL

/-! plain side: errors as values (k00) -/
namespace VL
open PySem
open Enc
local macro_rules | `(tactic| walk_at "sz") => `(tactic| (first
  | assumption
  | omega
  | exact len_nil
  | ((with_reducible apply len_filter); walk_at "sz")
  | ((with_reducible apply len_map); walk_at "sz")
  | ((with_reducible apply len_srt); walk_at "sz")
  | ((with_reducible apply len_asc); omega)
  | ((with_reducible apply len_upto); omega)
  | ((with_reducible apply len_fromto); omega)
  | ((with_reducible apply len_app); (walk_at "sz"); (walk_at "sz"))
  | ((with_reducible apply len_sum); (walk_at "sz"); (walk_at "sz"))
  | ((with_reducible apply len_drop); walk_at "sz")
  | ((with_reducible apply len_take); walk_at "sz")
  | ((with_reducible apply len_rev); walk_at "sz")
  | ((with_reducible apply len_cons); (walk_at "sz"); (omega))))
local macro_rules | `(tactic| walk_at "call") => `(tactic| (first | assumption | solve_by_elim))
local macro_rules | `(tactic| walk_at "args") => `(tactic| (first
  | exact evs_nil
  | ((with_reducible apply evs_cons); (walk_at "ev"); (walk_at "args"))))
local macro_rules | `(tactic| walk_at "ev") => `(tactic| (first
  | ((with_reducible apply ev_var); rfl)
  | (with_reducible exact ev_ci)
  | (with_reducible exact ev_cb)
  | (with_reducible exact ev_cst)
  | ((with_reducible apply ev_call'); (walk_at "args"); (walk_at "call"))
  | ((with_reducible apply eb_and); (walk_at "ev"); (intro _; walk_at "ev"))
  | ((with_reducible apply eb_or); (walk_at "ev"); (intro _; walk_at "ev"))
  | ((with_reducible apply eb_not); (walk_at "ev"))
  | ((with_reducible apply eb_in); (walk_at "ev"); (walk_at "ev"); decide)
  | ((with_reducible apply eb_notin); (walk_at "ev"); (walk_at "ev"); decide)
  | ((with_reducible apply eb_eq); (walk_at "ev"); (walk_at "ev"); decide)
  | ((with_reducible apply eb_ne); (walk_at "ev"); (walk_at "ev"); decide)
  | ((with_reducible apply eb_lt); (walk_at "ev"); (walk_at "ev"))
  | ((with_reducible apply eb_le); (walk_at "ev"); (walk_at "ev"))
  | ((with_reducible apply eb_gt); (walk_at "ev"); (walk_at "ev"))
  | ((with_reducible apply eb_ge); (walk_at "ev"); (walk_at "ev"))
  | ((with_reducible apply eb_chain_lt); (walk_at "ev"); (walk_at "ev"); (walk_at "ev"))
  | ((with_reducible apply eb_isN); (walk_at "ev"))
  | ((with_reducible apply eb_notN); (walk_at "ev"))
  | ((with_reducible apply eb_isB); (walk_at "ev"))
  | ((with_reducible apply eb_notB); (walk_at "ev"))
  | ((with_reducible apply eb_lend); (walk_at "ev"))
  | ((with_reducible apply eb_all); (walk_at "ev"))
  | ((with_reducible apply eb_any); (walk_at "ev"))
  | ((with_reducible apply ev_lenL); (walk_at "ev"))
  | ((with_reducible apply ev_neg); (walk_at "ev"))
  | ((with_reducible apply ev_sub); (walk_at "ev"); (walk_at "ev"))
  | ((with_reducible apply ev_addI); (walk_at "ev"); (walk_at "ev"))
  | ((with_reducible apply ev_addL); (walk_at "ev"); (walk_at "ev"); (walk_at "sz"))
  | ((with_reducible apply ev_mul); (walk_at "ev"); (walk_at "ev"); omega; omega)
  | ((with_reducible apply ev_int); (walk_at "ev"))
  | ((with_reducible apply ev_intb); (walk_at "ev"))
  | ((with_reducible apply ev_max); (walk_at "ev"); (walk_at "ev"))
  | ((with_reducible apply ev_min); (walk_at "ev"); (walk_at "ev"))
  | ((with_reducible apply ev_ta); (walk_at "ev"))
  | ((with_reducible apply ev_tb); (walk_at "ev"))
  | ((with_reducible apply ev_tc); (walk_at "ev"))
  | ((with_reducible apply ev_pa); (walk_at "ev"))
  | ((with_reducible apply ev_pb); (walk_at "ev"))
  | ((with_reducible apply ev_ix); (walk_at "ev"); (walk_at "ev"); (assumption))
  | ((with_reducible apply ev_pair); (walk_at "ev"); (walk_at "ev"))
  | ((with_reducible apply ev_trip); (walk_at "ev"); (walk_at "ev"); (walk_at "ev"))
  | ((with_reducible apply ev_l1); (walk_at "ev"))
  | ((with_reducible apply ev_l2); (walk_at "ev"); (walk_at "ev"))
  | ((with_reducible apply ev_rng); (walk_at "ev"); omega; omega)
  | ((with_reducible apply ev_rng2); (walk_at "ev"); (walk_at "ev"); omega; omega; omega; omega)
  | ((with_reducible apply ev_listof); (walk_at "ev"))
  | ((with_reducible apply ev_rev); (walk_at "ev"))
  | ((with_reducible apply ev_drop); (walk_at "ev"); (walk_at "ev"); omega)
  | ((with_reducible apply ev_take); (walk_at "ev"); (walk_at "ev"); omega)
  | ((with_reducible apply ev_sorted); (walk_at "ev"); (first | infer_instance | assumption))
  | ((with_reducible apply ec_filter); (walk_at "ev"); rfl; (intro _ _; walk_at "ev"); (walk_at "sz"))
  | ((with_reducible apply ec_map2); (walk_at "ev"); rfl; rfl; (intro _ _; walk_at "ev"); (walk_at "sz"))
  | ((with_reducible apply ec_both2); (walk_at "ev"); rfl; rfl; (intro _ _; walk_at "ev"); (intro _ _ _; walk_at "ev"); (walk_at "sz"))
  | ((with_reducible apply ec_map); (walk_at "ev"); rfl; (intro _ _; walk_at "ev"); (walk_at "sz"))
  | ((with_reducible apply ec_both); (walk_at "ev"); rfl; (intro _ _; walk_at "ev"); (intro _ _ _; walk_at "ev"); (walk_at "sz"))
  | (with_reducible exact ev_l0)
  | ((with_reducible apply ev_ite); (walk_at "ev"); (intro _; walk_at "ev"); (intro _; walk_at "ev"))))

structure P00 (Pr : Prog) : Prop where
  p5 : Pr 5 = some k__law_draws
  p6 : Pr 6 = some k__law_mix
structure X00 (XP : ProgX) : Prop where
  x3 : XP 50003 = some kx_check_drawing
  x7 : XP 7 = some kx__law_kinds
  x8 : XP 8 = some kx__law_made
  x9 : XP 9 = some kx__law_raised
  x10 : XP 10 = some kx_law
  n5 : XP 5 = none
  n6 : XP 6 = none
def errV (c : Str) (i : Int) : Val := .dict [(.str c, .int i)]
def nm19 : List Str := ["OutOfRange", "TooMany", "TooLarge", "WrongSize", "NoVariable", "NotASet", "BadArrow", "BadTie", "Round", "BadValues", "BadUnseen", "BadTable", "BadDeed", "BadWeight", "Overlap", "Ties", "BadAnswer", "BadStep", "NothingToUndo"]
def kindsB (c : Str) : List Bool := nm19.map fun c' => isA c c' || c' == ("ValueError" : Str)
def madeV (z : Int) : List Val := nm19.zipIdx.map fun p => errV p.1 (z + ((p.2 : Nat) : Int))
section
variable {Pr : Prog} {XP : ProgX} {n : Nat} {cf : Nat → List Val → Res Val} {ρ : Env} {a : E} {k : Nat} {c : Str} {i z v : Int}
theorem evs_map {α : Type} {f : α → E} {g : α → Val} : ∀ (l : List α), (∀ x ∈ l, evalE cf 0 (f x) ρ = .ok (g x)) → evalEs cf 0 (l.map f) ρ = .ok (l.map g)
  | [], _ => rfl
  | x :: l, h => evs_cons (h x List.mem_cons_self) (evs_map l fun y hy => h y (List.mem_cons_of_mem _ hy))
theorem ev_isErr {x : Str} (h : evalE cf 9 a ρ = .ok (errV c i)) (hc : ecl_k00.contains c = true) : evalE cf k (.op (.isErr ecl_k00 x) [a]) ρ = .ok (.bool (isA c x || x == ("ValueError" : Str))) := by
  refine ev1 (o := .isErr ecl_k00 x) h ?_
  show Res.guard (ecl_k00.contains c) (Res.ok (PyData.bool (isA c x || x == ("ValueError" : Str)))) = _
  rw [hc]
  rfl
theorem ev_errAt (h : evalE cf 9 a ρ = .ok (errV c i)) (hc : ecl_k00.contains c = true) : evalE cf k (.op (.errAt ecl_k00) [a]) ρ = .ok (enc i) := by
  refine ev1 (o := .errAt ecl_k00) h ?_
  show Res.guard (ecl_k00.contains c) (Res.ok (PyData.int i)) = _
  rw [hc]
  rfl
theorem ev_mkErr (h : evalE cf 9 a ρ = .ok (enc i)) : evalE cf k (.op (.mkErr c) [a]) ρ = .ok (errV c i) := ev1 (o := .mkErr c) (x := .int i) h rfl
theorem isA_root : isA c ("WayError" : Str) = true := by
  unfold isA
  rw [show (("WayError" : Str) == ("WayError" : Str)) = true by decide +kernel, Bool.or_true]
theorem ev_kinds (X : X00 XP) (hc : ecl_k00.contains c = true) : evalDX Pr XP (n + 1) 7 [errV c i] = .ok (@enc (List Bool) (@instEncList Bool encBool) (kindsB c)) := by
  obtain ⟨r, e, rfl⟩ := wx_def (Pr := Pr) (XP := XP) (n := n) (f := 7) (vs := [errV c i]) (Q := fun r => r = .ok (@enc (List Bool) (@instEncList Bool encBool) (kindsB c))) (fun _ => rfl) X.x7 rfl (by
    refine wx_ret (v := .list (nm19.map fun x => PyData.bool (isA c x || x == ("ValueError" : Str)))) ?_ ?_
    · refine ev_op (o := .lst 0 (List.replicate 19 false)) (vs := nm19.map fun x => PyData.bool (isA c x || x == ("ValueError" : Str))) ?_ rfl
      exact evs_map (f := fun x => .op (.isErr ecl_k00 x) [.var 0]) nm19 fun x _ => ev_isErr rfl hc
    · show Res.ok _ = Res.ok _
      congr 1)
  exact e
theorem ev_made (X : X00 XP) : evalDX Pr XP (n + 1) 8 [enc z] = .ok (.list (madeV z)) := by
  obtain ⟨r, e, rfl⟩ := wx_def (Pr := Pr) (XP := XP) (n := n) (f := 8) (vs := [enc z]) (Q := fun r => r = .ok (.list (madeV z))) (fun _ => rfl) X.x8 rfl (by
    refine wx_ret (v := .list (madeV z)) ?_ rfl
    refine ev_op (o := .lst 0 (List.replicate 19 false)) (vs := madeV z) ?_ rfl
    exact evs_map (f := fun p : Str × Nat => .op (.mkErr p.1) [.op .add [.var 0, .cst (.int ((p.2 : Nat) : Int))]]) nm19.zipIdx fun p _ => ev_mkErr (ev_addI rfl ev_ci))
  exact e
theorem ev_raised (X : X00 XP) (hv : ¬ (1 ≤ v ∧ v ≤ 12)) : evalDX Pr XP (n + 2) 9 [enc v] = .ok (errV "OutOfRange" v) := by
  have e3 : evalDX Pr XP (n + 1) 50003 [enc (⟨v, [], []⟩ : Dr)] = .exc "OutOfRange" (.int v) := by
    obtain ⟨r, e, rfl⟩ := wx_def (Pr := Pr) (XP := XP) (n := n) (f := 50003) (vs := [enc (⟨v, [], []⟩ : Dr)]) (Q := fun r => r = .exc "OutOfRange" (.int v)) (fun _ => rfl) X.x3 rfl (by
      refine wx_base (wp_asg (v := enc (⟨v, [], []⟩ : Dr)) rfl rfl (wp_nil ?_))
      refine wx_if (p := !(tr (1 ≤ v ∧ v ≤ 12))) (eb_not (eb_le12 rfl)) (fun _ => wx_raise (i := v) rfl rfl) (fun q => ?_)
      rw [Bool.not_eq_false', tr_iff] at q
      exact absurd q hv)
    exact e
  obtain ⟨r, e, rfl⟩ := wx_def (Pr := Pr) (XP := XP) (n := n + 1) (f := 9) (vs := [enc v]) (Q := fun r => r = .ok (errV "OutOfRange" v)) (fun _ => rfl) X.x9 rfl (by
    refine wx_try (wx_callx_ex (vs := [enc (⟨v, [], []⟩ : Dr)]) (c := "OutOfRange") (i := v) ?_ e3 ⟨by decide +kernel, .rt (errV "OutOfRange" v), rfl, rfl⟩)
    exact evs_cons (ev_trip (i1 := instEncInt) (i2 := @instEncList Pt _) (i3 := @instEncList Pt _) (x := v) (y := []) (z := []) rfl (ev_l0 (i1 := instEncProd)) (ev_l0 (i1 := instEncProd))) evs_nil)
  exact e
theorem kinds19 : ∀ k : Fin 19, kindsB (nm19.getD k.val "") = (List.range 19).map (fun t => decide (t = k.val)) ∧ ecl_k00.contains (nm19.getD k.val "") = true := by decide +kernel
theorem kinds_root : kindsB "WayError" = List.replicate 19 false ∧ ecl_k00.contains ("WayError" : Str) = true := by decide +kernel
theorem upto19 (k : Nat) : ((upto 19).map fun t => tr (t = ((k : Nat) : Int))) = (List.range 19).map (fun t => decide (t = k)) := by
  show (((List.range 19).map fun i => ((i : Nat) : Int)).map fun t => tr (t = ((k : Nat) : Int))) = _
  rw [List.map_map]
  refine List.map_congr_left fun t _ => ?_
  show tr (((t : Nat) : Int) = ((k : Nat) : Int)) = decide (t = k)
  rw [Bool.eq_iff_iff, tr_iff, decide_eq_true_eq]
  omega
theorem made_at {k : Nat} (h : k < 19) : L2.atI (madeV z) ((k : Nat) : Int) = some (errV (nm19.getD k "") (z + ((k : Nat) : Int))) := by
  refine atI_nat ?_
  unfold madeV
  rw [List.getElem?_map, List.getElem?_zipIdx]
  have : nm19[k]? = some (nm19.getD k "") := by
    rw [List.getD_eq_getElem?_getD, List.getElem?_eq_getElem (show k < nm19.length from h)]
    rfl
  rw [this]
  simp
set_option maxHeartbeats 2000000 in
theorem ev_law00 (P : P00 Pr) (X : X00 XP) {ns : List Int} (hl : ns.length ≤ 63) : evalDX Pr XP (n + 10) 10 [.list (ns.map .int)] = .ok (.bool true) := by
  obtain ⟨ds, e5, by1, ln⟩ := ev_draws (n := n + 8) P.p5 hl
  have D : Drawn ds := ⟨by1, ln⟩
  have f5 : evalDX Pr XP (n + 9) 5 [enc ns] = .ok (enc ds) := (evalDX_n (fun _ => rfl) X.n5).trans e5
  have f6 : ∀ k m : Int, 0 ≤ k → k ≤ 1000000 → 0 < m → evalDX Pr XP (n + 9) 6 [enc ds, enc k, enc m] = .ok (enc (MX Pr (n + 9) ds k m)) ∧ 0 ≤ MX Pr (n + 9) ds k m ∧ MX Pr (n + 9) ds k m < m := fun k m h0 h1 h2 => by
    obtain ⟨e, a, b⟩ := ev_mx (n := n + 8) P.p6 D h0 h1 h2
    exact ⟨(evalDX_n (fun _ => rfl) X.n6).trans e, a, b⟩
  obtain ⟨q0, r0, r0'⟩ := f6 0 60000 (by decide) (by decide) (by decide)
  obtain ⟨q1, r1, r1'⟩ := f6 1 4 (by decide) (by decide) (by decide)
  generalize MX Pr (n + 9) ds 0 60000 = x0 at *
  generalize MX Pr (n + 9) ds 1 4 = x1 at *
  obtain ⟨z, hz⟩ : ∃ z : Int, z = x0 - 30000 := ⟨_, rfl⟩
  have f8 : evalDX Pr XP (n + 9) 8 [enc z] = .ok (.list (madeV z)) := ev_made (n := n + 8) X
  have hlen : (madeV z).length = 19 := by
    unfold madeV
    rw [List.length_map, List.length_zipIdx]
    rfl
  obtain ⟨v, hv⟩ : ∃ v : Int, v = ([0, 13, -1, 99] : List Int).getD x1.toNat 0 := ⟨_, rfl⟩
  have hv' : ¬ (1 ≤ v ∧ v ≤ 12) := by
    have hx : x1 = 0 ∨ x1 = 1 ∨ x1 = 2 ∨ x1 = 3 := by omega
    rcases hx with rfl | rfl | rfl | rfl <;> (rw [hv]; decide)
  have f9 : evalDX Pr XP (n + 9) 9 [enc v] = .ok (errV "OutOfRange" v) := ev_raised (n := n + 7) X hv'
  have len3 : ∀ {ρ : Env} {k : Nat}, getV ρ 3 9 = .ok (.list (madeV z)) → evalE (evalDX Pr XP (n + 9)) k (.op .len [(.var 3)]) ρ = .ok (enc (19 : Int)) := fun {ρ k} h => by
    refine ev1 (o := .len) (x := .list (madeV z)) (ev_var h) ?_
    show Res.ok (PyData.int (((madeV z).length : Nat) : Int)) = _
    rw [hlen]
    rfl
  obtain ⟨r, e, hr⟩ := wx_def (Pr := Pr) (XP := XP) (n := n + 9) (f := 10) (vs := [enc ns]) (Q := fun r => r = .ok (.bool true)) (fun _ => rfl) X.x10 rfl (by
    refine wx_set (ev_call' (evs_cons rfl evs_nil) f5) rfl rfl ?_
    refine wx_set (v := enc z) (by rw [hz]; exact ev_sub (ev_call' (evs_cons rfl (evs_cons ev_ci (evs_cons ev_ci evs_nil))) q0) ev_ci) rfl rfl ?_
    refine wx_set (v := .list (madeV z)) (ev_call' (evs_cons rfl evs_nil) f8) rfl rfl ?_
    show WX _ _ [some (enc ns, 0), some (enc ds, 0), some (enc z, 0), some (.list (madeV z), 0), none, none, none, none, none] _
    refine wx_base (wp_for (l := upto 19) instEncInt (ev_rng (len3 rfl) (by decide) (by decide)) (fun (_ : Unit) (j : Option (Val × Nat)) => [some (enc ns, 0), some (enc ds, 0), some (enc z, 0), some (.list (madeV z), 0), j, none, none, none, none]) (fun _ _ => True) () none rfl trivial ?_ ?_)
    · rintro pre t post ⟨⟩ j4 hl' _
      have ht := mem_upto.mp (show t ∈ upto 19 by rw [hl']; exact List.mem_append_right _ List.mem_cons_self)
      obtain ⟨k, rfl⟩ : ∃ k : Nat, t = ((k : Nat) : Int) := ⟨t.toNat, by omega⟩
      have hk : k < 19 := by omega
      obtain ⟨kb, kc⟩ := kinds19 ⟨k, hk⟩
      simp only at kb kc
      have at3 : ∀ {q : Nat}, evalE (evalDX Pr XP (n + 9)) q (.op .idx [(.var 3), (.var 4)]) [some (enc ns, 0), some (enc ds, 0), some (enc z, 0), some (.list (madeV z), 0), some (enc ((k : Nat) : Int), 0), none, none, none, none] = .ok (errV (nm19.getD k "") (z + ((k : Nat) : Int))) := fun {q} => ev_ixV (xs := madeV z) (y := ((k : Nat) : Int)) rfl rfl (made_at hk)
      have f7 := ev_kinds (Pr := Pr) (n := n + 8) (i := z + ((k : Nat) : Int)) X kc
      rw [kb, ← upto19] at f7
      refine ⟨_, rfl, ?_⟩
      show WP _ _ [some (enc ns, 0), some (enc ds, 0), some (enc z, 0), some (.list (madeV z), 0), some (enc ((k : Nat) : Int), 0), none, none, none, none] _
      refine wp_if (p := !(isA (nm19.getD k "") "WayError" || (("WayError" : Str) == ("ValueError" : Str))) || (!(isA (nm19.getD k "") "ValueError" || (("ValueError" : Str) == ("ValueError" : Str))) || tr (¬ z + ((k : Nat) : Int) = z + ((k : Nat) : Int)))) (eb_or (eb_not (ev_isErr at3 kc)) fun _ => eb_or (eb_not (ev_isErr at3 kc)) fun _ => eb_ne (i := instEncInt) (ev_errAt at3 kc) (ev_addI rfl rfl) (by decide)) (fun q => ?_) (fun _ => wp_nil ?_)
      · rw [isA_root, show (("ValueError" : Str) == ("ValueError" : Str)) = true by decide +kernel, Bool.or_true, tr_false (fun z => z rfl)] at q
        cases q
      refine wp_if (p := tr (¬ ((upto 19).map fun t => tr (t = ((k : Nat) : Int))) = ((upto 19).map fun t => tr (t = ((k : Nat) : Int))))) (eb_ne (i := @instEncList Bool encBool) (ev_call' (evs_cons at3 evs_nil) f7) ?_ (by decide)) (fun q => ?_) (fun _ => wp_nil ?_)
      · exact ec_map (i1 := instEncInt) (i3 := encBool) (l := upto 19) (h := fun t => tr (t = ((k : Nat) : Int))) (ev_rng (len3 rfl) (by decide) (by decide)) rfl (fun t _ => eb_enc (eb_eq (i := instEncInt) rfl rfl (by decide))) (by rw [upto_length]; exact (by decide : 19 ≤ 16777216))
      · rw [tr_false (fun z => z rfl)] at q
        cases q
      refine wp_if (p := false || !true) (eb_or (ev1 (o := .isT 1) (x := .int (z + ((k : Nat) : Int))) (ev_errAt at3 kc) rfl) fun _ => eb_not (ev1 (o := .isT 2) (x := .int (z + ((k : Nat) : Int))) (ev_errAt at3 kc) rfl)) (fun q => ?_) (fun _ => wp_nil (wp_nil (.inl ⟨(), _, .inl rfl, trivial⟩)))
      cases q
    rintro ⟨⟩ j4 _
    refine wp_nil ?_
    refine wx_set (v := errV "WayError" z) (ev_mkErr rfl) rfl rfl ?_
    obtain ⟨kb, kc⟩ := kinds_root
    have f7 := ev_kinds (Pr := Pr) (n := n + 8) (i := z) X kc
    rw [kb] at f7
    show WX _ _ [some (enc ns, 0), some (enc ds, 0), some (enc z, 0), some (.list (madeV z), 0), j4, some (errV "WayError" z, 0), none, none, none] _
    refine wx_base (wp_if (p := tr (¬ z = z) || (tr (true ∈ List.replicate 19 false) || !(isA "WayError" "ValueError" || (("ValueError" : Str) == ("ValueError" : Str))))) (eb_or (eb_ne (i := instEncInt) (ev_errAt rfl kc) rfl (by decide)) fun _ => eb_or (eb_in (i := encBool) (x := true) (ys := List.replicate 19 false) rfl (ev_call' (evs_cons rfl evs_nil) f7) (by decide)) fun _ => eb_not (ev_isErr rfl kc)) (fun q => ?_) (fun _ => wp_nil (wp_nil ?_)))
    · rw [tr_false (fun z => z rfl), tr_false (by decide), show (("ValueError" : Str) == ("ValueError" : Str)) = true by decide +kernel, Bool.or_true] at q
      cases q
    refine wx_set (v := enc v) (by
      rw [hv]
      exact ev_ix (i1 := instEncInt) (xs := [0, 13, -1, 99]) (y := x1) (ev_op (o := .lst 0 [false, false, false, false]) (vs := [.int 0, .int 13, .int (-1), .int 99]) (evs_cons rfl (evs_cons rfl (evs_cons (ev_neg ev_ci) (evs_cons rfl evs_nil)))) rfl) (ev_call' (evs_cons rfl (evs_cons ev_ci (evs_cons ev_ci evs_nil))) q1) (atI_in (dflt := 0) r1 (by simpa using r1'))) rfl rfl ?_
    refine wx_set (v := errV "OutOfRange" v) (ev_call' (evs_cons rfl evs_nil) f9) rfl rfl ?_
    show WX _ _ [some (enc ns, 0), some (enc ds, 0), some (enc z, 0), some (.list (madeV z), 0), j4, some (errV "WayError" z, 0), some (enc v, 0), some (errV "OutOfRange" v, 0), none] _
    obtain ⟨kb, kc⟩ := kinds19 ⟨0, by decide⟩
    have f7 := ev_kinds (Pr := Pr) (n := n + 8) (i := v) X kc
    rw [kb, ← upto19] at f7
    refine wx_ret (v := .bool (true && (tr (v = v) && tr (((upto 19).map fun t => tr (t = 0)) = (upto 19).map fun t => tr (t = 0))))) (eb_and rfl fun _ => eb_and (eb_eq (i := instEncInt) (ev_errAt rfl kc) rfl (by decide)) fun _ => eb_eq (i := @instEncList Bool encBool) (ev_call' (evs_cons rfl evs_nil) f7) ?_ (by decide)) ?_
    · exact ec_map (i1 := instEncInt) (i3 := encBool) (l := upto 19) (h := fun t => tr (t = 0)) (ev_rng (len3 rfl) (by decide) (by decide)) rfl (fun t _ => eb_enc (eb_eq (i := instEncInt) (y := 0) rfl ev_ci (by decide))) (by rw [upto_length]; exact (by decide : 19 ≤ 16777216))
    · show finX _ = _
      rw [tr_true rfl, tr_true rfl]
      rfl)
  exact e.trans hr
end
end VL

namespace Law
open PySem PySem.Spec L2 PySem.W VL
open PyProof.Rows hiding St
/-! ### the text (by genx.py) -/
abbrev rw0 := PySem.Challenge.rw_causeway_k00_errors_are_apart
abbrev pw0 := PySem.Challenge.pw_causeway_k00_errors_are_apart
def top (i : Nat) : Stmt := pw0.main.body.getD i (.Pass ⟨0, 0, 0, 0⟩)
abbrev s_first_bad : Stmt := top 23
def N_first_bad : List Str := ["many", "pairs", "both", "k", "a", "b"]
abbrev s_rest_of : Stmt := top 24
def N_rest_of : List Str := ["many", "arrows", "left", "moved", "free", "v", "a", "b"]
abbrev s_on_rounds : Stmt := top 25
def N_on_rounds : List Str := ["many", "arrows", "behind", "ahead", "v", "a", "b"]
abbrev s_check_drawing : Stmt := top 26
def N_check_drawing : List Str := ["drawing", "found", "rounds", "many", "arrows", "ties"]
abbrev s_reached : Stmt := top 27
def N_reached : List Str := ["arrows", "starts", "found", "moved", "more", "v", "a", "b"]
abbrev s__law_draws : Stmt := top 29
def N__law_draws : List Str := ["script", "draws", "k", "rest", "turn", "mixed"]
abbrev s__law_mix : Stmt := top 30
def N__law_mix : List Str := ["draws", "k", "many", "value"]
abbrev s__law_kinds : Stmt := top 31
def N__law_kinds : List Str := ["e"]
abbrev s__law_made : Stmt := top 32
def N__law_made : List Str := ["n"]
abbrev s__law_raised : Stmt := top 33
def N__law_raised : List Str := ["many", "e"]
abbrev s_law : Stmt := top 34
def N_law : List Str := ["script", "draws", "number", "made", "k", "base", "many", "told", "t"]
def Pr : Prog := fun i => match i with
  | 0 => some k_first_bad
  | 1 => some k_rest_of
  | 2 => some k_on_rounds
  | 3 => some k_check_drawing
  | 4 => some k_reached
  | 5 => some k__law_draws
  | 6 => some k__law_mix
  | _ => none
def XP : ProgX := fun i => match i with
  | 7 => some kx__law_kinds
  | 8 => some kx__law_made
  | 9 => some kx__law_raised
  | 10 => some kx_law
  | 50003 => some kx_check_drawing
  | _ => none
structure Glob (mg : Str → Option Value) : Prop where
  b_ValueError : mg "ValueError" = none
  b_abs : mg "abs" = none
  b_bool : mg "bool" = none
  b_enumerate : mg "enumerate" = none
  b_int : mg "int" = none
  b_isinstance : mg "isinstance" = none
  b_len : mg "len" = none
  b_list : mg "list" = none
  b_min : mg "min" = none
  b_range : mg "range" = none
  b_sorted : mg "sorted" = none
  b_super : mg "super" = none
  c_MOST_VARIABLES : ∃ t, mg "MOST_VARIABLES" = some (.int 12 t)
/-- the errors -/
structure Errs (P : Program) (K : PySem.W.Frag) (mg : Str → Option Value) : Prop where
  T : EX.WayT P K 2 (EX.rootA K) (EX.initA K)
  sup : mg "super" = none
  y_WayError : EX.WayC K (EX.rootA K) (EX.initA K) (He.ga K "WayError")
  g_WayError : mg "WayError" = some (.ref (He.ga K "WayError"))
  e_WayError : ∀ cn ∈ (["WayError", "OutOfRange", "TooMany", "TooLarge", "WrongSize", "NoVariable", "NotASet", "BadArrow", "BadTie", "Round", "BadValues", "BadUnseen", "BadTable", "BadDeed", "BadWeight", "Overlap", "Ties", "BadAnswer", "BadStep", "NothingToUndo"] : List Str), PySem.W.exmOne K (.ref (He.ga K cn)) (.ref (He.ga K "WayError")) = some (isA cn "WayError")
  y_OutOfRange : EX.WayC K (EX.rootA K) (EX.initA K) (He.ga K "OutOfRange")
  g_OutOfRange : mg "OutOfRange" = some (.ref (He.ga K "OutOfRange"))
  e_OutOfRange : ∀ cn ∈ (["WayError", "OutOfRange", "TooMany", "TooLarge", "WrongSize", "NoVariable", "NotASet", "BadArrow", "BadTie", "Round", "BadValues", "BadUnseen", "BadTable", "BadDeed", "BadWeight", "Overlap", "Ties", "BadAnswer", "BadStep", "NothingToUndo"] : List Str), PySem.W.exmOne K (.ref (He.ga K cn)) (.ref (He.ga K "OutOfRange")) = some (isA cn "OutOfRange")
  y_TooMany : EX.WayC K (EX.rootA K) (EX.initA K) (He.ga K "TooMany")
  g_TooMany : mg "TooMany" = some (.ref (He.ga K "TooMany"))
  e_TooMany : ∀ cn ∈ (["WayError", "OutOfRange", "TooMany", "TooLarge", "WrongSize", "NoVariable", "NotASet", "BadArrow", "BadTie", "Round", "BadValues", "BadUnseen", "BadTable", "BadDeed", "BadWeight", "Overlap", "Ties", "BadAnswer", "BadStep", "NothingToUndo"] : List Str), PySem.W.exmOne K (.ref (He.ga K cn)) (.ref (He.ga K "TooMany")) = some (isA cn "TooMany")
  y_TooLarge : EX.WayC K (EX.rootA K) (EX.initA K) (He.ga K "TooLarge")
  g_TooLarge : mg "TooLarge" = some (.ref (He.ga K "TooLarge"))
  e_TooLarge : ∀ cn ∈ (["WayError", "OutOfRange", "TooMany", "TooLarge", "WrongSize", "NoVariable", "NotASet", "BadArrow", "BadTie", "Round", "BadValues", "BadUnseen", "BadTable", "BadDeed", "BadWeight", "Overlap", "Ties", "BadAnswer", "BadStep", "NothingToUndo"] : List Str), PySem.W.exmOne K (.ref (He.ga K cn)) (.ref (He.ga K "TooLarge")) = some (isA cn "TooLarge")
  y_WrongSize : EX.WayC K (EX.rootA K) (EX.initA K) (He.ga K "WrongSize")
  g_WrongSize : mg "WrongSize" = some (.ref (He.ga K "WrongSize"))
  e_WrongSize : ∀ cn ∈ (["WayError", "OutOfRange", "TooMany", "TooLarge", "WrongSize", "NoVariable", "NotASet", "BadArrow", "BadTie", "Round", "BadValues", "BadUnseen", "BadTable", "BadDeed", "BadWeight", "Overlap", "Ties", "BadAnswer", "BadStep", "NothingToUndo"] : List Str), PySem.W.exmOne K (.ref (He.ga K cn)) (.ref (He.ga K "WrongSize")) = some (isA cn "WrongSize")
  y_NoVariable : EX.WayC K (EX.rootA K) (EX.initA K) (He.ga K "NoVariable")
  g_NoVariable : mg "NoVariable" = some (.ref (He.ga K "NoVariable"))
  e_NoVariable : ∀ cn ∈ (["WayError", "OutOfRange", "TooMany", "TooLarge", "WrongSize", "NoVariable", "NotASet", "BadArrow", "BadTie", "Round", "BadValues", "BadUnseen", "BadTable", "BadDeed", "BadWeight", "Overlap", "Ties", "BadAnswer", "BadStep", "NothingToUndo"] : List Str), PySem.W.exmOne K (.ref (He.ga K cn)) (.ref (He.ga K "NoVariable")) = some (isA cn "NoVariable")
  y_NotASet : EX.WayC K (EX.rootA K) (EX.initA K) (He.ga K "NotASet")
  g_NotASet : mg "NotASet" = some (.ref (He.ga K "NotASet"))
  e_NotASet : ∀ cn ∈ (["WayError", "OutOfRange", "TooMany", "TooLarge", "WrongSize", "NoVariable", "NotASet", "BadArrow", "BadTie", "Round", "BadValues", "BadUnseen", "BadTable", "BadDeed", "BadWeight", "Overlap", "Ties", "BadAnswer", "BadStep", "NothingToUndo"] : List Str), PySem.W.exmOne K (.ref (He.ga K cn)) (.ref (He.ga K "NotASet")) = some (isA cn "NotASet")
  y_BadArrow : EX.WayC K (EX.rootA K) (EX.initA K) (He.ga K "BadArrow")
  g_BadArrow : mg "BadArrow" = some (.ref (He.ga K "BadArrow"))
  e_BadArrow : ∀ cn ∈ (["WayError", "OutOfRange", "TooMany", "TooLarge", "WrongSize", "NoVariable", "NotASet", "BadArrow", "BadTie", "Round", "BadValues", "BadUnseen", "BadTable", "BadDeed", "BadWeight", "Overlap", "Ties", "BadAnswer", "BadStep", "NothingToUndo"] : List Str), PySem.W.exmOne K (.ref (He.ga K cn)) (.ref (He.ga K "BadArrow")) = some (isA cn "BadArrow")
  y_BadTie : EX.WayC K (EX.rootA K) (EX.initA K) (He.ga K "BadTie")
  g_BadTie : mg "BadTie" = some (.ref (He.ga K "BadTie"))
  e_BadTie : ∀ cn ∈ (["WayError", "OutOfRange", "TooMany", "TooLarge", "WrongSize", "NoVariable", "NotASet", "BadArrow", "BadTie", "Round", "BadValues", "BadUnseen", "BadTable", "BadDeed", "BadWeight", "Overlap", "Ties", "BadAnswer", "BadStep", "NothingToUndo"] : List Str), PySem.W.exmOne K (.ref (He.ga K cn)) (.ref (He.ga K "BadTie")) = some (isA cn "BadTie")
  y_Round : EX.WayC K (EX.rootA K) (EX.initA K) (He.ga K "Round")
  g_Round : mg "Round" = some (.ref (He.ga K "Round"))
  e_Round : ∀ cn ∈ (["WayError", "OutOfRange", "TooMany", "TooLarge", "WrongSize", "NoVariable", "NotASet", "BadArrow", "BadTie", "Round", "BadValues", "BadUnseen", "BadTable", "BadDeed", "BadWeight", "Overlap", "Ties", "BadAnswer", "BadStep", "NothingToUndo"] : List Str), PySem.W.exmOne K (.ref (He.ga K cn)) (.ref (He.ga K "Round")) = some (isA cn "Round")
  y_BadValues : EX.WayC K (EX.rootA K) (EX.initA K) (He.ga K "BadValues")
  g_BadValues : mg "BadValues" = some (.ref (He.ga K "BadValues"))
  e_BadValues : ∀ cn ∈ (["WayError", "OutOfRange", "TooMany", "TooLarge", "WrongSize", "NoVariable", "NotASet", "BadArrow", "BadTie", "Round", "BadValues", "BadUnseen", "BadTable", "BadDeed", "BadWeight", "Overlap", "Ties", "BadAnswer", "BadStep", "NothingToUndo"] : List Str), PySem.W.exmOne K (.ref (He.ga K cn)) (.ref (He.ga K "BadValues")) = some (isA cn "BadValues")
  y_BadUnseen : EX.WayC K (EX.rootA K) (EX.initA K) (He.ga K "BadUnseen")
  g_BadUnseen : mg "BadUnseen" = some (.ref (He.ga K "BadUnseen"))
  e_BadUnseen : ∀ cn ∈ (["WayError", "OutOfRange", "TooMany", "TooLarge", "WrongSize", "NoVariable", "NotASet", "BadArrow", "BadTie", "Round", "BadValues", "BadUnseen", "BadTable", "BadDeed", "BadWeight", "Overlap", "Ties", "BadAnswer", "BadStep", "NothingToUndo"] : List Str), PySem.W.exmOne K (.ref (He.ga K cn)) (.ref (He.ga K "BadUnseen")) = some (isA cn "BadUnseen")
  y_BadTable : EX.WayC K (EX.rootA K) (EX.initA K) (He.ga K "BadTable")
  g_BadTable : mg "BadTable" = some (.ref (He.ga K "BadTable"))
  e_BadTable : ∀ cn ∈ (["WayError", "OutOfRange", "TooMany", "TooLarge", "WrongSize", "NoVariable", "NotASet", "BadArrow", "BadTie", "Round", "BadValues", "BadUnseen", "BadTable", "BadDeed", "BadWeight", "Overlap", "Ties", "BadAnswer", "BadStep", "NothingToUndo"] : List Str), PySem.W.exmOne K (.ref (He.ga K cn)) (.ref (He.ga K "BadTable")) = some (isA cn "BadTable")
  y_BadDeed : EX.WayC K (EX.rootA K) (EX.initA K) (He.ga K "BadDeed")
  g_BadDeed : mg "BadDeed" = some (.ref (He.ga K "BadDeed"))
  e_BadDeed : ∀ cn ∈ (["WayError", "OutOfRange", "TooMany", "TooLarge", "WrongSize", "NoVariable", "NotASet", "BadArrow", "BadTie", "Round", "BadValues", "BadUnseen", "BadTable", "BadDeed", "BadWeight", "Overlap", "Ties", "BadAnswer", "BadStep", "NothingToUndo"] : List Str), PySem.W.exmOne K (.ref (He.ga K cn)) (.ref (He.ga K "BadDeed")) = some (isA cn "BadDeed")
  y_BadWeight : EX.WayC K (EX.rootA K) (EX.initA K) (He.ga K "BadWeight")
  g_BadWeight : mg "BadWeight" = some (.ref (He.ga K "BadWeight"))
  e_BadWeight : ∀ cn ∈ (["WayError", "OutOfRange", "TooMany", "TooLarge", "WrongSize", "NoVariable", "NotASet", "BadArrow", "BadTie", "Round", "BadValues", "BadUnseen", "BadTable", "BadDeed", "BadWeight", "Overlap", "Ties", "BadAnswer", "BadStep", "NothingToUndo"] : List Str), PySem.W.exmOne K (.ref (He.ga K cn)) (.ref (He.ga K "BadWeight")) = some (isA cn "BadWeight")
  y_Overlap : EX.WayC K (EX.rootA K) (EX.initA K) (He.ga K "Overlap")
  g_Overlap : mg "Overlap" = some (.ref (He.ga K "Overlap"))
  e_Overlap : ∀ cn ∈ (["WayError", "OutOfRange", "TooMany", "TooLarge", "WrongSize", "NoVariable", "NotASet", "BadArrow", "BadTie", "Round", "BadValues", "BadUnseen", "BadTable", "BadDeed", "BadWeight", "Overlap", "Ties", "BadAnswer", "BadStep", "NothingToUndo"] : List Str), PySem.W.exmOne K (.ref (He.ga K cn)) (.ref (He.ga K "Overlap")) = some (isA cn "Overlap")
  y_Ties : EX.WayC K (EX.rootA K) (EX.initA K) (He.ga K "Ties")
  g_Ties : mg "Ties" = some (.ref (He.ga K "Ties"))
  e_Ties : ∀ cn ∈ (["WayError", "OutOfRange", "TooMany", "TooLarge", "WrongSize", "NoVariable", "NotASet", "BadArrow", "BadTie", "Round", "BadValues", "BadUnseen", "BadTable", "BadDeed", "BadWeight", "Overlap", "Ties", "BadAnswer", "BadStep", "NothingToUndo"] : List Str), PySem.W.exmOne K (.ref (He.ga K cn)) (.ref (He.ga K "Ties")) = some (isA cn "Ties")
  y_BadAnswer : EX.WayC K (EX.rootA K) (EX.initA K) (He.ga K "BadAnswer")
  g_BadAnswer : mg "BadAnswer" = some (.ref (He.ga K "BadAnswer"))
  e_BadAnswer : ∀ cn ∈ (["WayError", "OutOfRange", "TooMany", "TooLarge", "WrongSize", "NoVariable", "NotASet", "BadArrow", "BadTie", "Round", "BadValues", "BadUnseen", "BadTable", "BadDeed", "BadWeight", "Overlap", "Ties", "BadAnswer", "BadStep", "NothingToUndo"] : List Str), PySem.W.exmOne K (.ref (He.ga K cn)) (.ref (He.ga K "BadAnswer")) = some (isA cn "BadAnswer")
  y_BadStep : EX.WayC K (EX.rootA K) (EX.initA K) (He.ga K "BadStep")
  g_BadStep : mg "BadStep" = some (.ref (He.ga K "BadStep"))
  e_BadStep : ∀ cn ∈ (["WayError", "OutOfRange", "TooMany", "TooLarge", "WrongSize", "NoVariable", "NotASet", "BadArrow", "BadTie", "Round", "BadValues", "BadUnseen", "BadTable", "BadDeed", "BadWeight", "Overlap", "Ties", "BadAnswer", "BadStep", "NothingToUndo"] : List Str), PySem.W.exmOne K (.ref (He.ga K cn)) (.ref (He.ga K "BadStep")) = some (isA cn "BadStep")
  y_NothingToUndo : EX.WayC K (EX.rootA K) (EX.initA K) (He.ga K "NothingToUndo")
  g_NothingToUndo : mg "NothingToUndo" = some (.ref (He.ga K "NothingToUndo"))
  e_NothingToUndo : ∀ cn ∈ (["WayError", "OutOfRange", "TooMany", "TooLarge", "WrongSize", "NoVariable", "NotASet", "BadArrow", "BadTie", "Round", "BadValues", "BadUnseen", "BadTable", "BadDeed", "BadWeight", "Overlap", "Ties", "BadAnswer", "BadStep", "NothingToUndo"] : List Str), PySem.W.exmOne K (.ref (He.ga K cn)) (.ref (He.ga K "NothingToUndo")) = some (isA cn "NothingToUndo")
  cat : ∀ cn ∈ (["WayError", "OutOfRange", "TooMany", "TooLarge", "WrongSize", "NoVariable", "NotASet", "BadArrow", "BadTie", "Round", "BadValues", "BadUnseen", "BadTable", "BadDeed", "BadWeight", "Overlap", "Ties", "BadAnswer", "BadStep", "NothingToUndo"] : List Str), CatC K (He.ga K cn)
  isc : ∀ cn ∈ (["WayError", "OutOfRange", "TooMany", "TooLarge", "WrongSize", "NoVariable", "NotASet", "BadArrow", "BadTie", "Round", "BadValues", "BadUnseen", "BadTable", "BadDeed", "BadWeight", "Overlap", "Ties", "BadAnswer", "BadStep", "NothingToUndo"] : List Str), CatC K (He.ga K cn) ∧ EX.IsC K (He.ga K cn)
  k_WayError : ∀ cn ∈ (["WayError", "OutOfRange", "TooMany", "TooLarge", "WrongSize", "NoVariable", "NotASet", "BadArrow", "BadTie", "Round", "BadValues", "BadUnseen", "BadTable", "BadDeed", "BadWeight", "Overlap", "Ties", "BadAnswer", "BadStep", "NothingToUndo"] : List Str), PySem.W.kitOne K (.ref (He.ga K cn)) (.ref (He.ga K "WayError")) = some (isA cn "WayError")
  k_OutOfRange : ∀ cn ∈ (["WayError", "OutOfRange", "TooMany", "TooLarge", "WrongSize", "NoVariable", "NotASet", "BadArrow", "BadTie", "Round", "BadValues", "BadUnseen", "BadTable", "BadDeed", "BadWeight", "Overlap", "Ties", "BadAnswer", "BadStep", "NothingToUndo"] : List Str), PySem.W.kitOne K (.ref (He.ga K cn)) (.ref (He.ga K "OutOfRange")) = some (isA cn "OutOfRange")
  k_TooMany : ∀ cn ∈ (["WayError", "OutOfRange", "TooMany", "TooLarge", "WrongSize", "NoVariable", "NotASet", "BadArrow", "BadTie", "Round", "BadValues", "BadUnseen", "BadTable", "BadDeed", "BadWeight", "Overlap", "Ties", "BadAnswer", "BadStep", "NothingToUndo"] : List Str), PySem.W.kitOne K (.ref (He.ga K cn)) (.ref (He.ga K "TooMany")) = some (isA cn "TooMany")
  k_TooLarge : ∀ cn ∈ (["WayError", "OutOfRange", "TooMany", "TooLarge", "WrongSize", "NoVariable", "NotASet", "BadArrow", "BadTie", "Round", "BadValues", "BadUnseen", "BadTable", "BadDeed", "BadWeight", "Overlap", "Ties", "BadAnswer", "BadStep", "NothingToUndo"] : List Str), PySem.W.kitOne K (.ref (He.ga K cn)) (.ref (He.ga K "TooLarge")) = some (isA cn "TooLarge")
  k_WrongSize : ∀ cn ∈ (["WayError", "OutOfRange", "TooMany", "TooLarge", "WrongSize", "NoVariable", "NotASet", "BadArrow", "BadTie", "Round", "BadValues", "BadUnseen", "BadTable", "BadDeed", "BadWeight", "Overlap", "Ties", "BadAnswer", "BadStep", "NothingToUndo"] : List Str), PySem.W.kitOne K (.ref (He.ga K cn)) (.ref (He.ga K "WrongSize")) = some (isA cn "WrongSize")
  k_NoVariable : ∀ cn ∈ (["WayError", "OutOfRange", "TooMany", "TooLarge", "WrongSize", "NoVariable", "NotASet", "BadArrow", "BadTie", "Round", "BadValues", "BadUnseen", "BadTable", "BadDeed", "BadWeight", "Overlap", "Ties", "BadAnswer", "BadStep", "NothingToUndo"] : List Str), PySem.W.kitOne K (.ref (He.ga K cn)) (.ref (He.ga K "NoVariable")) = some (isA cn "NoVariable")
  k_NotASet : ∀ cn ∈ (["WayError", "OutOfRange", "TooMany", "TooLarge", "WrongSize", "NoVariable", "NotASet", "BadArrow", "BadTie", "Round", "BadValues", "BadUnseen", "BadTable", "BadDeed", "BadWeight", "Overlap", "Ties", "BadAnswer", "BadStep", "NothingToUndo"] : List Str), PySem.W.kitOne K (.ref (He.ga K cn)) (.ref (He.ga K "NotASet")) = some (isA cn "NotASet")
  k_BadArrow : ∀ cn ∈ (["WayError", "OutOfRange", "TooMany", "TooLarge", "WrongSize", "NoVariable", "NotASet", "BadArrow", "BadTie", "Round", "BadValues", "BadUnseen", "BadTable", "BadDeed", "BadWeight", "Overlap", "Ties", "BadAnswer", "BadStep", "NothingToUndo"] : List Str), PySem.W.kitOne K (.ref (He.ga K cn)) (.ref (He.ga K "BadArrow")) = some (isA cn "BadArrow")
  k_BadTie : ∀ cn ∈ (["WayError", "OutOfRange", "TooMany", "TooLarge", "WrongSize", "NoVariable", "NotASet", "BadArrow", "BadTie", "Round", "BadValues", "BadUnseen", "BadTable", "BadDeed", "BadWeight", "Overlap", "Ties", "BadAnswer", "BadStep", "NothingToUndo"] : List Str), PySem.W.kitOne K (.ref (He.ga K cn)) (.ref (He.ga K "BadTie")) = some (isA cn "BadTie")
  k_Round : ∀ cn ∈ (["WayError", "OutOfRange", "TooMany", "TooLarge", "WrongSize", "NoVariable", "NotASet", "BadArrow", "BadTie", "Round", "BadValues", "BadUnseen", "BadTable", "BadDeed", "BadWeight", "Overlap", "Ties", "BadAnswer", "BadStep", "NothingToUndo"] : List Str), PySem.W.kitOne K (.ref (He.ga K cn)) (.ref (He.ga K "Round")) = some (isA cn "Round")
  k_BadValues : ∀ cn ∈ (["WayError", "OutOfRange", "TooMany", "TooLarge", "WrongSize", "NoVariable", "NotASet", "BadArrow", "BadTie", "Round", "BadValues", "BadUnseen", "BadTable", "BadDeed", "BadWeight", "Overlap", "Ties", "BadAnswer", "BadStep", "NothingToUndo"] : List Str), PySem.W.kitOne K (.ref (He.ga K cn)) (.ref (He.ga K "BadValues")) = some (isA cn "BadValues")
  k_BadUnseen : ∀ cn ∈ (["WayError", "OutOfRange", "TooMany", "TooLarge", "WrongSize", "NoVariable", "NotASet", "BadArrow", "BadTie", "Round", "BadValues", "BadUnseen", "BadTable", "BadDeed", "BadWeight", "Overlap", "Ties", "BadAnswer", "BadStep", "NothingToUndo"] : List Str), PySem.W.kitOne K (.ref (He.ga K cn)) (.ref (He.ga K "BadUnseen")) = some (isA cn "BadUnseen")
  k_BadTable : ∀ cn ∈ (["WayError", "OutOfRange", "TooMany", "TooLarge", "WrongSize", "NoVariable", "NotASet", "BadArrow", "BadTie", "Round", "BadValues", "BadUnseen", "BadTable", "BadDeed", "BadWeight", "Overlap", "Ties", "BadAnswer", "BadStep", "NothingToUndo"] : List Str), PySem.W.kitOne K (.ref (He.ga K cn)) (.ref (He.ga K "BadTable")) = some (isA cn "BadTable")
  k_BadDeed : ∀ cn ∈ (["WayError", "OutOfRange", "TooMany", "TooLarge", "WrongSize", "NoVariable", "NotASet", "BadArrow", "BadTie", "Round", "BadValues", "BadUnseen", "BadTable", "BadDeed", "BadWeight", "Overlap", "Ties", "BadAnswer", "BadStep", "NothingToUndo"] : List Str), PySem.W.kitOne K (.ref (He.ga K cn)) (.ref (He.ga K "BadDeed")) = some (isA cn "BadDeed")
  k_BadWeight : ∀ cn ∈ (["WayError", "OutOfRange", "TooMany", "TooLarge", "WrongSize", "NoVariable", "NotASet", "BadArrow", "BadTie", "Round", "BadValues", "BadUnseen", "BadTable", "BadDeed", "BadWeight", "Overlap", "Ties", "BadAnswer", "BadStep", "NothingToUndo"] : List Str), PySem.W.kitOne K (.ref (He.ga K cn)) (.ref (He.ga K "BadWeight")) = some (isA cn "BadWeight")
  k_Overlap : ∀ cn ∈ (["WayError", "OutOfRange", "TooMany", "TooLarge", "WrongSize", "NoVariable", "NotASet", "BadArrow", "BadTie", "Round", "BadValues", "BadUnseen", "BadTable", "BadDeed", "BadWeight", "Overlap", "Ties", "BadAnswer", "BadStep", "NothingToUndo"] : List Str), PySem.W.kitOne K (.ref (He.ga K cn)) (.ref (He.ga K "Overlap")) = some (isA cn "Overlap")
  k_Ties : ∀ cn ∈ (["WayError", "OutOfRange", "TooMany", "TooLarge", "WrongSize", "NoVariable", "NotASet", "BadArrow", "BadTie", "Round", "BadValues", "BadUnseen", "BadTable", "BadDeed", "BadWeight", "Overlap", "Ties", "BadAnswer", "BadStep", "NothingToUndo"] : List Str), PySem.W.kitOne K (.ref (He.ga K cn)) (.ref (He.ga K "Ties")) = some (isA cn "Ties")
  k_BadAnswer : ∀ cn ∈ (["WayError", "OutOfRange", "TooMany", "TooLarge", "WrongSize", "NoVariable", "NotASet", "BadArrow", "BadTie", "Round", "BadValues", "BadUnseen", "BadTable", "BadDeed", "BadWeight", "Overlap", "Ties", "BadAnswer", "BadStep", "NothingToUndo"] : List Str), PySem.W.kitOne K (.ref (He.ga K cn)) (.ref (He.ga K "BadAnswer")) = some (isA cn "BadAnswer")
  k_BadStep : ∀ cn ∈ (["WayError", "OutOfRange", "TooMany", "TooLarge", "WrongSize", "NoVariable", "NotASet", "BadArrow", "BadTie", "Round", "BadValues", "BadUnseen", "BadTable", "BadDeed", "BadWeight", "Overlap", "Ties", "BadAnswer", "BadStep", "NothingToUndo"] : List Str), PySem.W.kitOne K (.ref (He.ga K cn)) (.ref (He.ga K "BadStep")) = some (isA cn "BadStep")
  k_NothingToUndo : ∀ cn ∈ (["WayError", "OutOfRange", "TooMany", "TooLarge", "WrongSize", "NoVariable", "NotASet", "BadArrow", "BadTie", "Round", "BadValues", "BadUnseen", "BadTable", "BadDeed", "BadWeight", "Overlap", "Ties", "BadAnswer", "BadStep", "NothingToUndo"] : List Str), PySem.W.kitOne K (.ref (He.ga K cn)) (.ref (He.ga K "NothingToUndo")) = some (isA cn "NothingToUndo")
structure All (P : Program) (w : World) (K : PySem.W.Frag) (mg : Str → Option Value) (base : Heap) (n : Nat) : Prop where
  nl : NoL K
  d_first_bad : Cal P w K mg base n "first_bad" ["many", "pairs", "both"] (spF Pr n 0 0 K)
  d_rest_of : Cal P w K mg base n "rest_of" ["many", "arrows"] (spF Pr n 1 0 K)
  d_on_rounds : Cal P w K mg base n "on_rounds" ["many", "arrows"] (spF Pr n 2 0 K)
  d_check_drawing : Cal P w K mg base n "check_drawing" ["drawing"] (spF Pr n 3 0 K)
  d_reached : Cal P w K mg base n "reached" ["arrows", "starts"] (spF Pr n 4 1 K)
  d__law_draws : Cal P w K mg base n "_law_draws" ["script"] (spF Pr n 5 0 K)
  d__law_mix : Cal P w K mg base n "_law_mix" ["draws", "k", "many"] (spF Pr n 6 0 K)
structure AllX (P : Program) (w : World) (K : PySem.W.Frag) (mg : Str → Option Value) (base : Heap) (n : Nat) : Prop where
  tt : True
  x_check_drawing : CalE P w K mg base n "check_drawing" ["drawing"] (spE (He.ga K) (evalDX Pr XP n) 50003 0 K)
  x__law_kinds : CalE P w K mg base n "_law_kinds" ["e"] (spE (He.ga K) (evalDX Pr XP n) 7 0 K)
  x__law_made : CalE P w K mg base n "_law_made" ["n"] (spE (He.ga K) (evalDX Pr XP n) 8 0 K)
  x__law_raised : CalE P w K mg base n "_law_raised" ["many"] (spE (He.ga K) (evalDX Pr XP n) 9 0 K)
  x_law : CalE P w K mg base n "law" ["script"] (spE (He.ga K) (evalDX Pr XP n) 10 0 K)
section
variable {P : Program} {w : World} {K0 K : PySem.W.Frag} {mg : Str → Option Value} {base : Heap} {n : Nat} {f : Addr}
theorem sc_first_bad : FnScope N_first_bad ["many", "pairs", "both"] (defScope s_first_bad) := ⟨rfl, rfl, rfl, by decide +kernel, rfl, by decide +kernel, by decide +kernel⟩
theorem sc_rest_of : FnScope N_rest_of ["many", "arrows"] (defScope s_rest_of) := ⟨rfl, rfl, rfl, by decide +kernel, rfl, by decide +kernel, by decide +kernel⟩
theorem sc_on_rounds : FnScope N_on_rounds ["many", "arrows"] (defScope s_on_rounds) := ⟨rfl, rfl, rfl, by decide +kernel, rfl, by decide +kernel, by decide +kernel⟩
theorem sc_check_drawing : FnScope N_check_drawing ["drawing"] (defScope s_check_drawing) := ⟨rfl, rfl, rfl, by decide +kernel, rfl, by decide +kernel, by decide +kernel⟩
theorem sc_reached : FnScope N_reached ["arrows", "starts"] (defScope s_reached) := ⟨rfl, rfl, rfl, by decide +kernel, rfl, by decide +kernel, by decide +kernel⟩
theorem sc__law_draws : FnScope N__law_draws ["script"] (defScope s__law_draws) := ⟨rfl, rfl, rfl, by decide +kernel, rfl, by decide +kernel, by decide +kernel⟩
theorem sc__law_mix : FnScope N__law_mix ["draws", "k", "many"] (defScope s__law_mix) := ⟨rfl, rfl, rfl, by decide +kernel, rfl, by decide +kernel, by decide +kernel⟩
theorem sc__law_kinds : FnScope N__law_kinds ["e"] (defScope s__law_kinds) := ⟨rfl, rfl, rfl, by decide +kernel, rfl, by decide +kernel, by decide +kernel⟩
theorem sc__law_made : FnScope N__law_made ["n"] (defScope s__law_made) := ⟨rfl, rfl, rfl, by decide +kernel, rfl, by decide +kernel, by decide +kernel⟩
theorem sc__law_raised : FnScope N__law_raised ["many"] (defScope s__law_raised) := ⟨rfl, rfl, rfl, by decide +kernel, rfl, by decide +kernel, by decide +kernel⟩
theorem sc_law : FnScope N_law ["script"] (defScope s_law) := ⟨rfl, rfl, rfl, by decide +kernel, rfl, by decide +kernel, by decide +kernel⟩
theorem t_first_bad (g : Glob mg) (al : All P w K mg base n) (cdv : Value) (A : Around) (outer : List PySem.Env) (s : Shared) (H : Hp) (hr : Room n (A.deeper (envOfC "first_bad" (defScope s_first_bad) s.heap.objs.size f cdv))) (gd : A.guards = some []) :
    VSs (bodyCx P w K mg base N_first_bad "first_bad" (defScope s_first_bad) f cdv A outer s H).nox (pp Pr n) k_first_bad.fr (defBody s_first_bad) k_first_bad.body := by
  have hu := Room_u hr
  have hv := Room_v hr
  have nd := sc_first_bad.nd
  exact (vss_cons (vs_for rfl PassesOwn.never (vi_enum (hm := g.b_enumerate) (ha := (va_cons (ve_var 1) va_nil))) (vg_tup rfl (vgs_cons (vg_name 3 nd) (vgs_cons (vg_tup rfl (vgs_cons (vg_name 4 nd) (vgs_cons (vg_name 5 nd) vgs_nil))) vgs_nil))) (vss_cons (vs_if (VW.vt (vw_or (vt_not (vt_chain (h := c_le) (h' := c_lt hv) (ha := ve_int) (hb := (ve_var 4)) (hc := (ve_var 0)))) (vw_or (vt_not (vt_chain (h := c_le) (h' := c_lt hv) (ha := ve_int) (hb := (ve_var 5)) (hc := (ve_var 0)))) (vw_or (vt_c (c_eq hv) (ve_var 4) (ve_var 5)) (vw_or1 (VW.vt (vw_and (VE.vt (ve_var 2)) (vw_and1 (vt_c (c_gt) (ve_var 4) (ve_var 5)))))))))) (vss_cons (vs_retv 3) vss_nil) vss_nil) (vss_cons (vs_if (VW.vt (vw_and (vt_c (c_gt) (ve_var 3) ve_int) (vw_and1 (vt_c (c_ge hv) (ve_idx (ve_var 1) (ve_sub (ve_var 3) ve_int)) (ve_tup (vas_cons (ve_var 4) (vas_cons (ve_var 5) vas_nil))))))) (vss_cons (vs_retv 3) vss_nil) vss_nil) vss_nil))) (vss_cons (vs_ret (VE.vo ve_non)) vss_nil))
theorem t_rest_of (g : Glob mg) (al : All P w K mg base n) (cdv : Value) (A : Around) (outer : List PySem.Env) (s : Shared) (H : Hp) (hr : Room n (A.deeper (envOfC "rest_of" (defScope s_rest_of) s.heap.objs.size f cdv))) (gd : A.guards = some []) :
    VSs (bodyCx P w K mg base N_rest_of "rest_of" (defScope s_rest_of) f cdv A outer s H).nox (pp Pr n) k_rest_of.fr (defBody s_rest_of) k_rest_of.body := by
  have hu := Room_u hr
  have hv := Room_v hr
  have nd := sc_rest_of.nd
  exact (vss_cons (vs_set 2 nd (VE.vo (VO.ve (vo_listR1 g.b_list g.b_range (ve_var 0))))) (vss_cons (vs_set 3 nd (VE.vo ve_bl)) (vss_cons (vs_whl PassesOwn.never (VE.vt (ve_var 3)) (vss_cons (vs_set 4 nd (VE.vo (VO.ve (vo_comp rfl nd (own := [("v", 5)]) (vi_seq (ve_var 2)) (blkOk_by (by kernel_rfl)) rfl (by decide) (fun _ _ _ _ _ => (vg_name 5 nd)) (fun _ _ _ _ _ => (vts_one (vt_c (c_eq hv) (ve_len g.b_len (VO.ve (vo_comp rfl nd (own := [("a", 6), ("b", 7)]) (vi_seq (ve_var 1)) (blkOk_by (by kernel_rfl)) rfl (by decide) (fun _ _ _ _ _ => (vg_tup rfl (vgs_cons (vg_name 6 nd) (vgs_cons (vg_name 7 nd) vgs_nil)))) (fun _ _ _ _ _ => (vts_one (VW.vt (vw_and (vt_c (c_eq hv) (ve_var 7) (ve_var 5)) (vw_and1 (vt_c (c_in hv) (ve_var 6) (ve_var 2))))))) (fun _ _ _ _ _ => (VE.vo (ve_var 6)))))) ve_int))) (fun _ _ _ _ _ => (VE.vo (ve_var 5))))))) (vss_cons (vs_set 2 nd (VE.vo (VO.ve (vo_comp rfl nd (own := [("v", 5)]) (vi_seq (ve_var 2)) (blkOk_by (by kernel_rfl)) rfl (by decide) (fun _ _ _ _ _ => (vg_name 5 nd)) (fun _ _ _ _ _ => (vts_one (vt_c (c_notin hv) (ve_var 5) (ve_var 4)))) (fun _ _ _ _ _ => (VE.vo (ve_var 5))))))) (vss_cons (vs_set 3 nd (VE.vo (ve_c (c_gt) (ve_len g.b_len (ve_var 4)) ve_int))) vss_nil)))) (vss_cons (vs_retv 2) vss_nil))))
theorem t_on_rounds (g : Glob mg) (al : All P w K mg base n) (cdv : Value) (A : Around) (outer : List PySem.Env) (s : Shared) (H : Hp) (hr : Room n (A.deeper (envOfC "on_rounds" (defScope s_on_rounds) s.heap.objs.size f cdv))) (gd : A.guards = some []) :
    VSs (bodyCx P w K mg base N_on_rounds "on_rounds" (defScope s_on_rounds) f cdv A outer s H).nox (pp Pr n) k_on_rounds.fr (defBody s_on_rounds) k_on_rounds.body := by
  have hu := Room_u hr
  have hv := Room_v hr
  have nd := sc_on_rounds.nd
  exact (vss_cons (vs_set 2 nd (VE.vo (VO.ve (vo_call al.d_rest_of hr gd rfl (va_cons (ve_var 0) (va_cons (ve_var 1) va_nil)))))) (vss_cons (vs_set 3 nd (VE.vo (VO.ve (vo_call al.d_rest_of hr gd rfl (va_cons (ve_var 0) (va_cons (VO.ve (vo_comp rfl nd (own := [("a", 5), ("b", 6)]) (vi_seq (ve_var 1)) (blkOk_by (by kernel_rfl)) rfl (by decide) (fun _ _ _ _ _ => (vg_tup rfl (vgs_cons (vg_name 5 nd) (vgs_cons (vg_name 6 nd) vgs_nil)))) (fun _ _ _ _ _ => vts_nil) (fun _ _ _ _ _ => (VE.vo (ve_tup (vas_cons (ve_var 6) (vas_cons (ve_var 5) vas_nil))))))) va_nil)))))) (vss_cons (vs_ret (VE.vo (VO.ve (vo_comp rfl nd (own := [("v", 4)]) (vi_seq (ve_var 2)) (blkOk_by (by kernel_rfl)) rfl (by decide) (fun _ _ _ _ _ => (vg_name 4 nd)) (fun _ _ _ _ _ => (vts_one (VW.vt (vw_and (vt_c (c_in hv) (ve_var 4) (ve_var 3)) (vw_and1 (vt_c (c_in hv) (ve_var 4) (VO.ve (vo_call al.d_reached hr gd rfl (va_cons (ve_var 1) (va_cons (VO.ve (vo_comp rfl nd (own := [("a", 5), ("b", 6)]) (vi_seq (ve_var 1)) (blkOk_by (by kernel_rfl)) rfl (by decide) (fun _ _ _ _ _ => (vg_tup rfl (vgs_cons (vg_name 5 nd) (vgs_cons (vg_name 6 nd) vgs_nil)))) (fun _ _ _ _ _ => (vts_one (vt_c (c_eq hv) (ve_var 5) (ve_var 4)))) (fun _ _ _ _ _ => (VE.vo (ve_var 6))))) va_nil)))))))))) (fun _ _ _ _ _ => (VE.vo (ve_var 4))))))) vss_nil)))
theorem t_check_drawing (g : Glob mg) (al : All P w K mg base n) (cdv : Value) (A : Around) (outer : List PySem.Env) (s : Shared) (H : Hp) (hr : Room n (A.deeper (envOfC "check_drawing" (defScope s_check_drawing) s.heap.objs.size f cdv))) (gd : A.guards = some []) :
    VSs (bodyCx P w K mg base N_check_drawing "check_drawing" (defScope s_check_drawing) f cdv A outer s H).nox (pp Pr n) k_check_drawing.fr (defBody s_check_drawing) k_check_drawing.body := by
  have hu := Room_u hr
  have hv := Room_v hr
  have nd := sc_check_drawing.nd
  exact (vss_cons (vs_asg (ve_var 0) (vg_tup rfl (vgs_cons (vg_name 3 nd) (vgs_cons (vg_name 4 nd) (vgs_cons (vg_name 5 nd) vgs_nil))))) (vss_cons (vs_if (vt_not (vt_chain (h := c_le) (h' := c_le) (ha := ve_int) (hb := (ve_var 3)) (hc := (ve_gint g.c_MOST_VARIABLES)))) (vss_cons vs_raise vss_nil) vss_nil) (vss_cons (vs_set 1 nd (VE.vo (VO.ve (vo_call al.d_first_bad hr gd rfl (va_cons (ve_var 3) (va_cons (ve_var 4) (va_cons ve_bl va_nil))))))) (vss_cons (vs_if (vt_notN (ve_var 1)) (vss_cons vs_raise vss_nil) vss_nil) (vss_cons (vs_set 1 nd (VE.vo (VO.ve (vo_call al.d_first_bad hr gd rfl (va_cons (ve_var 3) (va_cons (ve_var 5) (va_cons ve_bl va_nil))))))) (vss_cons (vs_if (vt_notN (ve_var 1)) (vss_cons vs_raise vss_nil) vss_nil) (vss_cons (vs_set 2 nd (VE.vo (VO.ve (vo_call al.d_on_rounds hr gd rfl (va_cons (ve_var 3) (va_cons (ve_var 4) va_nil)))))) (vss_cons (vs_if (vt_c (c_gt) (ve_len g.b_len (ve_var 2)) ve_int) (vss_cons vs_raise vss_nil) vss_nil) vss_nil))))))))
theorem t_reached (g : Glob mg) (al : All P w K mg base n) (cdv : Value) (A : Around) (outer : List PySem.Env) (s : Shared) (H : Hp) (hr : Room n (A.deeper (envOfC "reached" (defScope s_reached) s.heap.objs.size f cdv))) (gd : A.guards = some []) :
    VSs (bodyCx P w K mg base N_reached "reached" (defScope s_reached) f cdv A outer s H).nox (pp Pr n) k_reached.fr (defBody s_reached) k_reached.body := by
  have hu := Room_u hr
  have hv := Room_v hr
  have nd := sc_reached.nd
  exact (vss_cons (vs_set 2 nd (vo_sortedSc rfl nd g.b_sorted (own := [("v", 5)]) (vi_seq (ve_var 1)) (blkOk_by (by kernel_rfl)) rfl (by decide) (fun _ _ _ _ _ => (vg_name 5 nd)) (fun _ _ _ _ _ => vts_nil) (fun _ _ _ _ _ => (VE.vo (ve_var 5))))) (vss_cons (vs_set 3 nd (VE.vo ve_bl)) (vss_cons (vs_whl PassesOwn.never (VE.vt (ve_var 3)) (vss_cons (vs_setLc 4 rfl nd (own := [("a", 6), ("b", 7)]) (vi_seq (ve_var 0)) (blkOk_by (by kernel_rfl)) rfl (by decide) (fun _ _ _ _ _ => (vg_tup rfl (vgs_cons (vg_name 6 nd) (vgs_cons (vg_name 7 nd) vgs_nil)))) (fun _ _ _ _ _ => (vts_one (VW.vt (vw_and (vt_c (c_in hv) (ve_var 6) (ve_var 2)) (vw_and1 (vt_c (c_notin hv) (ve_var 7) (ve_var 2))))))) (fun _ _ _ _ _ => (VE.vo (ve_var 7))) (sw_true rfl rfl rfl (by decide +kernel))) (vss_frz _ (vss_frz _ (vss_cons (vs_set 2 nd (vo_sortedSc rfl nd g.b_sorted (own := [("v", 5)]) (vi_seq (VO.ve (vo_lst (vas_star (ve_var 2) (vas_star (ve_var 4) vas_nil nxs_nil) (nxs_cons nx_var nxs_nil))))) (blkOk_by (by kernel_rfl)) rfl (by decide) (fun _ _ _ _ _ => (vg_name 5 nd)) (fun _ _ _ _ _ => vts_nil) (fun _ _ _ _ _ => (VE.vo (ve_var 5))))) (vss_cons (vs_set 3 nd (VE.vo (ve_c (c_gt) (ve_len g.b_len (ve_var 4)) ve_int))) vss_nil)))))) (vss_cons (vs_retv 2) vss_nil))))
theorem t__law_draws (g : Glob mg) (al : All P w K mg base n) (cdv : Value) (A : Around) (outer : List PySem.Env) (s : Shared) (H : Hp) (hr : Room n (A.deeper (envOfC "_law_draws" (defScope s__law_draws) s.heap.objs.size f cdv))) (gd : A.guards = some []) :
    VSs (bodyCx P w K mg base N__law_draws "_law_draws" (defScope s__law_draws) f cdv A outer s H).nox (pp Pr n) k__law_draws.fr (defBody s__law_draws) k__law_draws.body := by
  have hu := Room_u hr
  have hv := Room_v hr
  have nd := sc__law_draws.nd
  exact (vss_cons (vs_set 1 nd (vo_lst vas_nil)) (vss_cons (vs_for rfl PassesOwn.never (vi_range1 (hm := g.b_range) (ha := (va_cons (ve_min g.b_min ve_int (ve_len g.b_len (ve_var 0))) va_nil))) (vg_name 2 nd) (vss_cons (vs_set 3 nd (VE.vo (ve_abs g.b_abs (ve_idx (ve_var 0) (ve_var 2))))) (vss_cons (vs_if (vt_c (c_ge hv) (ve_var 3) (ve_pow ve_int ve_int)) (vss_cons (vs_for rfl PassesOwn.never (vi_range1 (hm := g.b_range) (ha := (va_cons ve_int va_nil))) (vg_name 4 nd) (vss_cons (vs_if (vt_c (c_gt) (ve_var 3) ve_int) (vss_cons (vs_app 1 (VE.vo (ve_mod (ve_intc g.b_int (ve_var 3)) ve_int))) (vss_cons (vs_set 3 nd (VE.vo (ve_fdiv (ve_var 3) ve_int))) vss_nil)) vss_nil) vss_nil)) vss_nil) (vss_cons (vs_set 5 nd (VE.vo (ve_mod (ve_intc g.b_int (VO.ve (vo_add (ve_mul (ve_var 3) ve_int) (ve_mul (VO.ve (vo_add (ve_var 2) ve_int)) ve_int)))) ve_int))) (vss_cons (vs_set 5 nd (VE.vo (ve_mod (ve_intc g.b_int (VO.ve (vo_add (VO.ve (vo_add (ve_mul (ve_var 5) ve_int) (ve_mul ve_int (ve_var 2)))) ve_int))) ve_int))) (vss_cons (vs_app 1 (VE.vo (ve_mod (ve_intc g.b_int (ve_var 5)) ve_int))) (vss_cons (vs_app 1 (VE.vo (ve_mod (ve_intc g.b_int (ve_fdiv (ve_var 5) ve_int)) ve_int))) vss_nil))))) vss_nil))) (vss_cons (vs_retv 1) vss_nil)))
theorem t__law_mix (g : Glob mg) (al : All P w K mg base n) (cdv : Value) (A : Around) (outer : List PySem.Env) (s : Shared) (H : Hp) (hr : Room n (A.deeper (envOfC "_law_mix" (defScope s__law_mix) s.heap.objs.size f cdv))) (gd : A.guards = some []) :
    VSs (bodyCx P w K mg base N__law_mix "_law_mix" (defScope s__law_mix) f cdv A outer s H).nox (pp Pr n) k__law_mix.fr (defBody s__law_mix) k__law_mix.body := by
  have hu := Room_u hr
  have hv := Room_v hr
  have nd := sc__law_mix.nd
  exact (vss_cons (vs_set 3 nd (VE.vo ve_int)) (vss_cons (vs_if (vt_c (c_gt) (ve_len g.b_len (ve_var 0)) ve_int) (vss_cons (vs_set 3 nd (VE.vo (ve_idx (ve_var 0) (ve_mod (ve_intc g.b_int (ve_var 1)) (ve_len g.b_len (ve_var 0)))))) vss_nil) vss_nil) (vss_cons (vs_if (vt_c (c_lt hv) (ve_var 1) (ve_len g.b_len (ve_var 0))) (vss_cons (vs_ret (VE.vo (ve_mod (ve_intc g.b_int (ve_var 3)) (ve_var 2)))) vss_nil) vss_nil) (vss_cons (vs_ret (VE.vo (ve_mod (ve_intc g.b_int (ve_fdiv (ve_intc g.b_int (VO.ve (vo_add (ve_mul (ve_var 3) ve_int) (ve_mul (ve_var 1) ve_int)))) ve_int)) (ve_var 2)))) vss_nil))))
theorem tx_check_drawing (g : Glob mg) (al : All P w K mg base n) (er : Errs P K mg) (ax : AllX P w K mg base n) (cdv : Value) (A : Around) (outer : List PySem.Env) (s : Shared) (H : Hp) (E : XK) (hr : Room n (A.deeper (envOfC "check_drawing" (defScope s_check_drawing) s.heap.objs.size f cdv))) (gd : A.guards = some []) :
    VXs (bodyCxE P w K mg base N_check_drawing "check_drawing" (defScope s_check_drawing) f cdv A outer s H E) (ppX Pr XP n (He.ga K) E) kx_check_drawing.fr (defBody s_check_drawing) kx_check_drawing.body := by
  have hu := Room_u hr
  have hv := Room_v hr
  have nd := sc_check_drawing.nd
  have tk : Takes (bodyCxE P w K mg base N_check_drawing "check_drawing" (defScope s_check_drawing) f cdv A outer s H E) (fun cls d _ H => E cls d H) := takes_of rfl rfl rfl rfl
  have hp : PassesOwn (model P w) (bodyCxE P w K mg base N_check_drawing "check_drawing" (defScope s_check_drawing) f cdv A outer s H E).A (bodyCxE P w K mg base N_check_drawing "check_drawing" (defScope s_check_drawing) f cdv A outer s H E).env (bodyCxE P w K mg base N_check_drawing "check_drawing" (defScope s_check_drawing) f cdv A outer s H E).xe := passes_of rfl
  exact (vxs_cons (vx_base (vs_asg (ve_var 0) (vg_tup rfl (vgs_cons (vg_name 3 nd) (vgs_cons (vg_name 4 nd) (vgs_cons (vg_name 5 nd) vgs_nil)))))) (vxs_cons (vx_if (vt_not (vt_chain (h := c_le) (h' := c_le) (ha := ve_int) (hb := (ve_var 3)) (hc := (ve_gint g.c_MOST_VARIABLES)))) (vxs_cons (vx_raise (cn := "OutOfRange") rfl tk er.T er.y_OutOfRange er.g_OutOfRange er.sup hr rfl (ve_var 3)) vxs_nil) vxs_nil) (vxs_cons (vx_base (vs_set 1 nd (VE.vo (VO.ve (vo_callC (cf := evalD Pr n) al.d_first_bad hr gd (fun _ => evalDX_n (fun _ => rfl) rfl) (va_cons (ve_var 3) (va_cons (ve_var 4) (va_cons ve_bl va_nil)))))))) (vxs_cons (vx_if (vt_notN (ve_var 1)) (vxs_cons (vx_raise (cn := "BadArrow") rfl tk er.T er.y_BadArrow er.g_BadArrow er.sup hr rfl (ve_var 1)) vxs_nil) vxs_nil) (vxs_cons (vx_base (vs_set 1 nd (VE.vo (VO.ve (vo_callC (cf := evalD Pr n) al.d_first_bad hr gd (fun _ => evalDX_n (fun _ => rfl) rfl) (va_cons (ve_var 3) (va_cons (ve_var 5) (va_cons ve_bl va_nil)))))))) (vxs_cons (vx_if (vt_notN (ve_var 1)) (vxs_cons (vx_raise (cn := "BadTie") rfl tk er.T er.y_BadTie er.g_BadTie er.sup hr rfl (ve_var 1)) vxs_nil) vxs_nil) (vxs_cons (vx_base (vs_set 2 nd (VE.vo (VO.ve (vo_callC (cf := evalD Pr n) al.d_on_rounds hr gd (fun _ => evalDX_n (fun _ => rfl) rfl) (va_cons (ve_var 3) (va_cons (ve_var 4) va_nil))))))) (vxs_cons (vx_if (vt_c (c_gt) (ve_len g.b_len (ve_var 2)) ve_int) (vxs_cons (vx_raise (cn := "Round") rfl tk er.T er.y_Round er.g_Round er.sup hr rfl (ve_idx (ve_var 2) ve_int)) vxs_nil) vxs_nil) vxs_nil))))))))
theorem tx__law_kinds (g : Glob mg) (al : All P w K mg base n) (er : Errs P K mg) (ax : AllX P w K mg base n) (cdv : Value) (A : Around) (outer : List PySem.Env) (s : Shared) (H : Hp) (E : XK) (hr : Room n (A.deeper (envOfC "_law_kinds" (defScope s__law_kinds) s.heap.objs.size f cdv))) (gd : A.guards = some []) :
    VXs (bodyCxE P w K mg base N__law_kinds "_law_kinds" (defScope s__law_kinds) f cdv A outer s H E) (ppX Pr XP n (He.ga K) E) kx__law_kinds.fr (defBody s__law_kinds) kx__law_kinds.body := by
  have hu := Room_u hr
  have hv := Room_v hr
  have nd := sc__law_kinds.nd
  have tk : Takes (bodyCxE P w K mg base N__law_kinds "_law_kinds" (defScope s__law_kinds) f cdv A outer s H E) (fun cls d _ H => E cls d H) := takes_of rfl rfl rfl rfl
  have hp : PassesOwn (model P w) (bodyCxE P w K mg base N__law_kinds "_law_kinds" (defScope s__law_kinds) f cdv A outer s H E).A (bodyCxE P w K mg base N__law_kinds "_law_kinds" (defScope s__law_kinds) f cdv A outer s H E).env (bodyCxE P w K mg base N__law_kinds "_law_kinds" (defScope s__law_kinds) f cdv A outer s H E).xe := passes_of rfl
  exact (vxs_cons (vx_base (vs_ret (VE.vo (VO.ve (vo_lst (vas_cons (ve_isErr "OutOfRange" g.b_isinstance er.g_OutOfRange er.isc er.k_OutOfRange (ve_var 0)) (vas_cons (ve_isErr "TooMany" g.b_isinstance er.g_TooMany er.isc er.k_TooMany (ve_var 0)) (vas_cons (ve_isErr "TooLarge" g.b_isinstance er.g_TooLarge er.isc er.k_TooLarge (ve_var 0)) (vas_cons (ve_isErr "WrongSize" g.b_isinstance er.g_WrongSize er.isc er.k_WrongSize (ve_var 0)) (vas_cons (ve_isErr "NoVariable" g.b_isinstance er.g_NoVariable er.isc er.k_NoVariable (ve_var 0)) (vas_cons (ve_isErr "NotASet" g.b_isinstance er.g_NotASet er.isc er.k_NotASet (ve_var 0)) (vas_cons (ve_isErr "BadArrow" g.b_isinstance er.g_BadArrow er.isc er.k_BadArrow (ve_var 0)) (vas_cons (ve_isErr "BadTie" g.b_isinstance er.g_BadTie er.isc er.k_BadTie (ve_var 0)) (vas_cons (ve_isErr "Round" g.b_isinstance er.g_Round er.isc er.k_Round (ve_var 0)) (vas_cons (ve_isErr "BadValues" g.b_isinstance er.g_BadValues er.isc er.k_BadValues (ve_var 0)) (vas_cons (ve_isErr "BadUnseen" g.b_isinstance er.g_BadUnseen er.isc er.k_BadUnseen (ve_var 0)) (vas_cons (ve_isErr "BadTable" g.b_isinstance er.g_BadTable er.isc er.k_BadTable (ve_var 0)) (vas_cons (ve_isErr "BadDeed" g.b_isinstance er.g_BadDeed er.isc er.k_BadDeed (ve_var 0)) (vas_cons (ve_isErr "BadWeight" g.b_isinstance er.g_BadWeight er.isc er.k_BadWeight (ve_var 0)) (vas_cons (ve_isErr "Overlap" g.b_isinstance er.g_Overlap er.isc er.k_Overlap (ve_var 0)) (vas_cons (ve_isErr "Ties" g.b_isinstance er.g_Ties er.isc er.k_Ties (ve_var 0)) (vas_cons (ve_isErr "BadAnswer" g.b_isinstance er.g_BadAnswer er.isc er.k_BadAnswer (ve_var 0)) (vas_cons (ve_isErr "BadStep" g.b_isinstance er.g_BadStep er.isc er.k_BadStep (ve_var 0)) (vas_cons (ve_isErr "NothingToUndo" g.b_isinstance er.g_NothingToUndo er.isc er.k_NothingToUndo (ve_var 0)) vas_nil)))))))))))))))))))))))) vxs_nil)
theorem tx__law_made (g : Glob mg) (al : All P w K mg base n) (er : Errs P K mg) (ax : AllX P w K mg base n) (cdv : Value) (A : Around) (outer : List PySem.Env) (s : Shared) (H : Hp) (E : XK) (hr : Room n (A.deeper (envOfC "_law_made" (defScope s__law_made) s.heap.objs.size f cdv))) (gd : A.guards = some []) :
    VXs (bodyCxE P w K mg base N__law_made "_law_made" (defScope s__law_made) f cdv A outer s H E) (ppX Pr XP n (He.ga K) E) kx__law_made.fr (defBody s__law_made) kx__law_made.body := by
  have hu := Room_u hr
  have hv := Room_v hr
  have nd := sc__law_made.nd
  have tk : Takes (bodyCxE P w K mg base N__law_made "_law_made" (defScope s__law_made) f cdv A outer s H E) (fun cls d _ H => E cls d H) := takes_of rfl rfl rfl rfl
  have hp : PassesOwn (model P w) (bodyCxE P w K mg base N__law_made "_law_made" (defScope s__law_made) f cdv A outer s H E).A (bodyCxE P w K mg base N__law_made "_law_made" (defScope s__law_made) f cdv A outer s H E).env (bodyCxE P w K mg base N__law_made "_law_made" (defScope s__law_made) f cdv A outer s H E).xe := passes_of rfl
  exact (vxs_cons (vx_base (vs_ret (VE.vo (VO.ve (vo_lst (vas_cons (ve_mkErr er.T er.y_OutOfRange er.g_OutOfRange er.sup hr (VO.ve (vo_add (ve_var 0) ve_int))) (vas_cons (ve_mkErr er.T er.y_TooMany er.g_TooMany er.sup hr (VO.ve (vo_add (ve_var 0) ve_int))) (vas_cons (ve_mkErr er.T er.y_TooLarge er.g_TooLarge er.sup hr (VO.ve (vo_add (ve_var 0) ve_int))) (vas_cons (ve_mkErr er.T er.y_WrongSize er.g_WrongSize er.sup hr (VO.ve (vo_add (ve_var 0) ve_int))) (vas_cons (ve_mkErr er.T er.y_NoVariable er.g_NoVariable er.sup hr (VO.ve (vo_add (ve_var 0) ve_int))) (vas_cons (ve_mkErr er.T er.y_NotASet er.g_NotASet er.sup hr (VO.ve (vo_add (ve_var 0) ve_int))) (vas_cons (ve_mkErr er.T er.y_BadArrow er.g_BadArrow er.sup hr (VO.ve (vo_add (ve_var 0) ve_int))) (vas_cons (ve_mkErr er.T er.y_BadTie er.g_BadTie er.sup hr (VO.ve (vo_add (ve_var 0) ve_int))) (vas_cons (ve_mkErr er.T er.y_Round er.g_Round er.sup hr (VO.ve (vo_add (ve_var 0) ve_int))) (vas_cons (ve_mkErr er.T er.y_BadValues er.g_BadValues er.sup hr (VO.ve (vo_add (ve_var 0) ve_int))) (vas_cons (ve_mkErr er.T er.y_BadUnseen er.g_BadUnseen er.sup hr (VO.ve (vo_add (ve_var 0) ve_int))) (vas_cons (ve_mkErr er.T er.y_BadTable er.g_BadTable er.sup hr (VO.ve (vo_add (ve_var 0) ve_int))) (vas_cons (ve_mkErr er.T er.y_BadDeed er.g_BadDeed er.sup hr (VO.ve (vo_add (ve_var 0) ve_int))) (vas_cons (ve_mkErr er.T er.y_BadWeight er.g_BadWeight er.sup hr (VO.ve (vo_add (ve_var 0) ve_int))) (vas_cons (ve_mkErr er.T er.y_Overlap er.g_Overlap er.sup hr (VO.ve (vo_add (ve_var 0) ve_int))) (vas_cons (ve_mkErr er.T er.y_Ties er.g_Ties er.sup hr (VO.ve (vo_add (ve_var 0) ve_int))) (vas_cons (ve_mkErr er.T er.y_BadAnswer er.g_BadAnswer er.sup hr (VO.ve (vo_add (ve_var 0) ve_int))) (vas_cons (ve_mkErr er.T er.y_BadStep er.g_BadStep er.sup hr (VO.ve (vo_add (ve_var 0) ve_int))) (vas_cons (ve_mkErr er.T er.y_NothingToUndo er.g_NothingToUndo er.sup hr (VO.ve (vo_add (ve_var 0) ve_int))) vas_nil)))))))))))))))))))))))) vxs_nil)
theorem tx__law_raised (g : Glob mg) (al : All P w K mg base n) (er : Errs P K mg) (ax : AllX P w K mg base n) (cdv : Value) (A : Around) (outer : List PySem.Env) (s : Shared) (H : Hp) (E : XK) (hr : Room n (A.deeper (envOfC "_law_raised" (defScope s__law_raised) s.heap.objs.size f cdv))) (gd : A.guards = some []) :
    VXs (bodyCxE P w K mg base N__law_raised "_law_raised" (defScope s__law_raised) f cdv A outer s H E) (ppX Pr XP n (He.ga K) E) kx__law_raised.fr (defBody s__law_raised) kx__law_raised.body := by
  have hu := Room_u hr
  have hv := Room_v hr
  have nd := sc__law_raised.nd
  have tk : Takes (bodyCxE P w K mg base N__law_raised "_law_raised" (defScope s__law_raised) f cdv A outer s H E) (fun cls d _ H => E cls d H) := takes_of rfl rfl rfl rfl
  have hp : PassesOwn (model P w) (bodyCxE P w K mg base N__law_raised "_law_raised" (defScope s__law_raised) f cdv A outer s H E).A (bodyCxE P w K mg base N__law_raised "_law_raised" (defScope s__law_raised) f cdv A outer s H E).env (bodyCxE P w K mg base N__law_raised "_law_raised" (defScope s__law_raised) f cdv A outer s H E).xe := passes_of rfl
  exact (vxs_cons (vx_try rfl rfl nd tk (fun W pn xe tk hp => (vxs_cons (vx_callx ax.x_check_drawing tk hr gd (va_cons (ve_tup (vas_cons (ve_var 0) (vas_cons (VO.ve (vo_lst vas_nil)) (vas_cons (VO.ve (vo_lst vas_nil)) vas_nil)))) va_nil)) vxs_nil)) (.cons ⟨rfl, by decide, .inl er.g_WayError⟩ er.e_WayError rfl rfl (act_retE fun _ => rfl) .nil) er.cat) (vxs_cons (vx_base (vs_ret (VE.vo ve_non))) vxs_nil))
theorem tx_law (g : Glob mg) (al : All P w K mg base n) (er : Errs P K mg) (ax : AllX P w K mg base n) (cdv : Value) (A : Around) (outer : List PySem.Env) (s : Shared) (H : Hp) (E : XK) (hr : Room n (A.deeper (envOfC "law" (defScope s_law) s.heap.objs.size f cdv))) (gd : A.guards = some []) :
    VXs (bodyCxE P w K mg base N_law "law" (defScope s_law) f cdv A outer s H E) (ppX Pr XP n (He.ga K) E) kx_law.fr (defBody s_law) kx_law.body := by
  have hu := Room_u hr
  have hv := Room_v hr
  have nd := sc_law.nd
  have tk : Takes (bodyCxE P w K mg base N_law "law" (defScope s_law) f cdv A outer s H E) (fun cls d _ H => E cls d H) := takes_of rfl rfl rfl rfl
  have hp : PassesOwn (model P w) (bodyCxE P w K mg base N_law "law" (defScope s_law) f cdv A outer s H E).A (bodyCxE P w K mg base N_law "law" (defScope s_law) f cdv A outer s H E).env (bodyCxE P w K mg base N_law "law" (defScope s_law) f cdv A outer s H E).xe := passes_of rfl
  exact (vxs_cons (vx_base (vs_set 1 nd (VE.vo (VO.ve (vo_callC (cf := evalD Pr n) al.d__law_draws hr gd (fun _ => evalDX_n (fun _ => rfl) rfl) (va_cons (ve_var 0) va_nil)))))) (vxs_cons (vx_base (vs_set 2 nd (VE.vo (ve_sub (VO.ve (vo_callC (cf := evalD Pr n) al.d__law_mix hr gd (fun _ => evalDX_n (fun _ => rfl) rfl) (va_cons (ve_var 1) (va_cons ve_int (va_cons ve_int va_nil))))) ve_int)))) (vxs_cons (vx_base (vs_set 3 nd (VE.vo (VO.ve (vo_callC (CalE.quiet ax.x__law_made) hr gd (fun _ => rfl) (va_cons (ve_var 2) va_nil)))))) (vxs_cons (vx_base (vs_for rfl hp (vi_range1 (hm := g.b_range) (ha := (va_cons (ve_len g.b_len (ve_var 3)) va_nil))) (vg_name 4 nd) (vss_cons (vs_if (VW.vt (vw_or (vt_not (VE.vt (ve_isErr "WayError" g.b_isinstance er.g_WayError er.isc er.k_WayError (ve_idx (ve_var 3) (ve_var 4))))) (vw_or (vt_not (VE.vt (ve_isVE g.b_isinstance g.b_ValueError er.isc (ve_idx (ve_var 3) (ve_var 4))))) (vw_or1 (vt_c (c_ne hv) (ve_errAt er.cat (ve_idx (ve_var 3) (ve_var 4))) (VO.ve (vo_add (ve_var 2) (ve_var 4)))))))) (vss_cons (vs_ret (VE.vo ve_bl)) vss_nil) vss_nil) (vss_cons (vs_if (vt_c (c_ne hv) (VO.ve (vo_callC (CalE.quiet ax.x__law_kinds) hr gd (fun _ => rfl) (va_cons (ve_idx (ve_var 3) (ve_var 4)) va_nil))) (VO.ve (vo_comp rfl nd (own := [("t", 8)]) (vi_range1 (hm := g.b_range) (ha := (va_cons (ve_len g.b_len (ve_var 3)) va_nil))) (blkOk_by (by kernel_rfl)) rfl (by decide) (fun _ _ _ _ _ => (vg_name 8 nd)) (fun _ _ _ _ _ => vts_nil) (fun _ _ _ _ _ => (VE.vo (ve_c (c_eq hv) (ve_var 8) (ve_var 4))))))) (vss_cons (vs_ret (VE.vo ve_bl)) vss_nil) vss_nil) (vss_cons (vs_if (VW.vt (vw_or (VE.vt (ve_isT 1 g.b_isinstance g.b_bool (ve_errAt er.cat (ve_idx (ve_var 3) (ve_var 4))))) (vw_or1 (vt_not (VE.vt (ve_isT 2 g.b_isinstance g.b_int (ve_errAt er.cat (ve_idx (ve_var 3) (ve_var 4))))))))) (vss_cons (vs_ret (VE.vo ve_bl)) vss_nil) vss_nil) vss_nil))))) (vxs_cons (vx_base (vs_set 5 nd (VE.vo (ve_mkErr er.T er.y_WayError er.g_WayError er.sup hr (ve_var 2))))) (vxs_cons (vx_base (vs_if (VW.vt (vw_or (vt_c (c_ne hv) (ve_errAt er.cat (ve_var 5)) (ve_var 2)) (vw_or (vt_c (c_in hv) ve_bl (VO.ve (vo_callC (CalE.quiet ax.x__law_kinds) hr gd (fun _ => rfl) (va_cons (ve_var 5) va_nil)))) (vw_or1 (vt_not (VE.vt (ve_isVE g.b_isinstance g.b_ValueError er.isc (ve_var 5)))))))) (vss_cons (vs_ret (VE.vo ve_bl)) vss_nil) vss_nil)) (vxs_cons (vx_base (vs_set 6 nd (VE.vo (ve_idx (VO.ve (vo_lst (vas_cons ve_int (vas_cons ve_int (vas_cons (ve_neg ve_int) (vas_cons ve_int vas_nil)))))) (VO.ve (vo_callC (cf := evalD Pr n) al.d__law_mix hr gd (fun _ => evalDX_n (fun _ => rfl) rfl) (va_cons (ve_var 1) (va_cons ve_int (va_cons ve_int va_nil))))))))) (vxs_cons (vx_base (vs_set 7 nd (VE.vo (VO.ve (vo_callC (CalE.quiet ax.x__law_raised) hr gd (fun _ => rfl) (va_cons (ve_var 6) va_nil)))))) (vxs_cons (vx_base (vs_ret (VE.vo (ve_and (ve_notN (ve_var 7)) (ve_and (ve_c (c_eq hv) (ve_errAt er.cat (ve_var 7)) (ve_var 6)) (ve_one (ve_c (c_eq hv) (VO.ve (vo_callC (CalE.quiet ax.x__law_kinds) hr gd (fun _ => rfl) (va_cons (ve_var 7) va_nil))) (VO.ve (vo_comp rfl nd (own := [("t", 8)]) (vi_range1 (hm := g.b_range) (ha := (va_cons (ve_len g.b_len (ve_var 3)) va_nil))) (blkOk_by (by kernel_rfl)) rfl (by decide) (fun _ _ _ _ _ => (vg_name 8 nd)) (fun _ _ _ _ _ => vts_nil) (fun _ _ _ _ _ => (VE.vo (ve_c (c_eq hv) (ve_var 8) ve_int)))))))))))) vxs_nil)))))))))
/-- the defs, as they stand behind the top -/
structure Funs (K : PySem.W.Frag) (mg : Str → Option Value) : Prop where
  nl : NoL K
  f_first_bad : ∃ fd, FunD K "first_bad" "first_bad" (defArgs s_first_bad) (defBody s_first_bad) (defScope s_first_bad) [] [] (He.ga K "first_bad") fd
  m_first_bad : mg "first_bad" = some (.ref (He.ga K "first_bad"))
  f_rest_of : ∃ fd, FunD K "rest_of" "rest_of" (defArgs s_rest_of) (defBody s_rest_of) (defScope s_rest_of) [] [] (He.ga K "rest_of") fd
  m_rest_of : mg "rest_of" = some (.ref (He.ga K "rest_of"))
  f_on_rounds : ∃ fd, FunD K "on_rounds" "on_rounds" (defArgs s_on_rounds) (defBody s_on_rounds) (defScope s_on_rounds) [] [] (He.ga K "on_rounds") fd
  m_on_rounds : mg "on_rounds" = some (.ref (He.ga K "on_rounds"))
  f_check_drawing : ∃ fd, FunD K "check_drawing" "check_drawing" (defArgs s_check_drawing) (defBody s_check_drawing) (defScope s_check_drawing) [] [] (He.ga K "check_drawing") fd
  m_check_drawing : mg "check_drawing" = some (.ref (He.ga K "check_drawing"))
  f_reached : ∃ fd, FunD K "reached" "reached" (defArgs s_reached) (defBody s_reached) (defScope s_reached) [] [] (He.ga K "reached") fd
  m_reached : mg "reached" = some (.ref (He.ga K "reached"))
  f__law_draws : ∃ fd, FunD K "_law_draws" "_law_draws" (defArgs s__law_draws) (defBody s__law_draws) (defScope s__law_draws) [] [] (He.ga K "_law_draws") fd
  m__law_draws : mg "_law_draws" = some (.ref (He.ga K "_law_draws"))
  f__law_mix : ∃ fd, FunD K "_law_mix" "_law_mix" (defArgs s__law_mix) (defBody s__law_mix) (defScope s__law_mix) [] [] (He.ga K "_law_mix") fd
  m__law_mix : mg "_law_mix" = some (.ref (He.ga K "_law_mix"))
  f__law_kinds : ∃ fd, FunD K "_law_kinds" "_law_kinds" (defArgs s__law_kinds) (defBody s__law_kinds) (defScope s__law_kinds) [] [] (He.ga K "_law_kinds") fd
  m__law_kinds : mg "_law_kinds" = some (.ref (He.ga K "_law_kinds"))
  f__law_made : ∃ fd, FunD K "_law_made" "_law_made" (defArgs s__law_made) (defBody s__law_made) (defScope s__law_made) [] [] (He.ga K "_law_made") fd
  m__law_made : mg "_law_made" = some (.ref (He.ga K "_law_made"))
  f__law_raised : ∃ fd, FunD K "_law_raised" "_law_raised" (defArgs s__law_raised) (defBody s__law_raised) (defScope s__law_raised) [] [] (He.ga K "_law_raised") fd
  m__law_raised : mg "_law_raised" = some (.ref (He.ga K "_law_raised"))
  f_law : ∃ fd, FunD K "law" "law" (defArgs s_law) (defBody s_law) (defScope s_law) [] [] (He.ga K "law") fd
  m_law : mg "law" = some (.ref (He.ga K "law"))
theorem z_first_bad (F : Funs K mg) (h : ∀ fd, FunD K "first_bad" "first_bad" (defArgs s_first_bad) (defBody s_first_bad) (defScope s_first_bad) [] [] (He.ga K "first_bad") fd → FnG P w K mg base n (He.ga K "first_bad") fd ["many", "pairs", "both"] (spF Pr n 0 0 K)) : Cal P w K mg base n "first_bad" ["many", "pairs", "both"] (spF Pr n 0 0 K) := by
  obtain ⟨fd, X⟩ := F.f_first_bad
  exact ⟨_, fd, F.m_first_bad, X.kp, X.bindsN fun _ _ _ _ _ _ us hl => match us, hl with | [_, _, _], _ => rfl, h fd X⟩
theorem z_rest_of (F : Funs K mg) (h : ∀ fd, FunD K "rest_of" "rest_of" (defArgs s_rest_of) (defBody s_rest_of) (defScope s_rest_of) [] [] (He.ga K "rest_of") fd → FnG P w K mg base n (He.ga K "rest_of") fd ["many", "arrows"] (spF Pr n 1 0 K)) : Cal P w K mg base n "rest_of" ["many", "arrows"] (spF Pr n 1 0 K) := by
  obtain ⟨fd, X⟩ := F.f_rest_of
  exact ⟨_, fd, F.m_rest_of, X.kp, X.bindsN fun _ _ _ _ _ _ us hl => match us, hl with | [_, _], _ => rfl, h fd X⟩
theorem z_on_rounds (F : Funs K mg) (h : ∀ fd, FunD K "on_rounds" "on_rounds" (defArgs s_on_rounds) (defBody s_on_rounds) (defScope s_on_rounds) [] [] (He.ga K "on_rounds") fd → FnG P w K mg base n (He.ga K "on_rounds") fd ["many", "arrows"] (spF Pr n 2 0 K)) : Cal P w K mg base n "on_rounds" ["many", "arrows"] (spF Pr n 2 0 K) := by
  obtain ⟨fd, X⟩ := F.f_on_rounds
  exact ⟨_, fd, F.m_on_rounds, X.kp, X.bindsN fun _ _ _ _ _ _ us hl => match us, hl with | [_, _], _ => rfl, h fd X⟩
theorem z_check_drawing (F : Funs K mg) (h : ∀ fd, FunD K "check_drawing" "check_drawing" (defArgs s_check_drawing) (defBody s_check_drawing) (defScope s_check_drawing) [] [] (He.ga K "check_drawing") fd → FnG P w K mg base n (He.ga K "check_drawing") fd ["drawing"] (spF Pr n 3 0 K)) : Cal P w K mg base n "check_drawing" ["drawing"] (spF Pr n 3 0 K) := by
  obtain ⟨fd, X⟩ := F.f_check_drawing
  exact ⟨_, fd, F.m_check_drawing, X.kp, X.bindsN fun _ _ _ _ _ _ us hl => match us, hl with | [_], _ => rfl, h fd X⟩
theorem z_reached (F : Funs K mg) (h : ∀ fd, FunD K "reached" "reached" (defArgs s_reached) (defBody s_reached) (defScope s_reached) [] [] (He.ga K "reached") fd → FnG P w K mg base n (He.ga K "reached") fd ["arrows", "starts"] (spF Pr n 4 1 K)) : Cal P w K mg base n "reached" ["arrows", "starts"] (spF Pr n 4 1 K) := by
  obtain ⟨fd, X⟩ := F.f_reached
  exact ⟨_, fd, F.m_reached, X.kp, X.bindsN fun _ _ _ _ _ _ us hl => match us, hl with | [_, _], _ => rfl, h fd X⟩
theorem z__law_draws (F : Funs K mg) (h : ∀ fd, FunD K "_law_draws" "_law_draws" (defArgs s__law_draws) (defBody s__law_draws) (defScope s__law_draws) [] [] (He.ga K "_law_draws") fd → FnG P w K mg base n (He.ga K "_law_draws") fd ["script"] (spF Pr n 5 0 K)) : Cal P w K mg base n "_law_draws" ["script"] (spF Pr n 5 0 K) := by
  obtain ⟨fd, X⟩ := F.f__law_draws
  exact ⟨_, fd, F.m__law_draws, X.kp, X.bindsN fun _ _ _ _ _ _ us hl => match us, hl with | [_], _ => rfl, h fd X⟩
theorem z__law_mix (F : Funs K mg) (h : ∀ fd, FunD K "_law_mix" "_law_mix" (defArgs s__law_mix) (defBody s__law_mix) (defScope s__law_mix) [] [] (He.ga K "_law_mix") fd → FnG P w K mg base n (He.ga K "_law_mix") fd ["draws", "k", "many"] (spF Pr n 6 0 K)) : Cal P w K mg base n "_law_mix" ["draws", "k", "many"] (spF Pr n 6 0 K) := by
  obtain ⟨fd, X⟩ := F.f__law_mix
  exact ⟨_, fd, F.m__law_mix, X.kp, X.bindsN fun _ _ _ _ _ _ us hl => match us, hl with | [_, _, _], _ => rfl, h fd X⟩
theorem zx_check_drawing (F : Funs K mg) (h : ∀ fd, FunD K "check_drawing" "check_drawing" (defArgs s_check_drawing) (defBody s_check_drawing) (defScope s_check_drawing) [] [] (He.ga K "check_drawing") fd → FnE P w K mg base n (He.ga K "check_drawing") fd ["drawing"] (spE (He.ga K) (evalDX Pr XP n) 50003 0 K)) : CalE P w K mg base n "check_drawing" ["drawing"] (spE (He.ga K) (evalDX Pr XP n) 50003 0 K) := by
  obtain ⟨fd, X⟩ := F.f_check_drawing
  exact ⟨_, fd, F.m_check_drawing, X.kp, X.bindsN fun _ _ _ _ _ _ us hl => match us, hl with | [_], _ => rfl, h fd X⟩
theorem zx__law_kinds (F : Funs K mg) (h : ∀ fd, FunD K "_law_kinds" "_law_kinds" (defArgs s__law_kinds) (defBody s__law_kinds) (defScope s__law_kinds) [] [] (He.ga K "_law_kinds") fd → FnE P w K mg base n (He.ga K "_law_kinds") fd ["e"] (spE (He.ga K) (evalDX Pr XP n) 7 0 K)) : CalE P w K mg base n "_law_kinds" ["e"] (spE (He.ga K) (evalDX Pr XP n) 7 0 K) := by
  obtain ⟨fd, X⟩ := F.f__law_kinds
  exact ⟨_, fd, F.m__law_kinds, X.kp, X.bindsN fun _ _ _ _ _ _ us hl => match us, hl with | [_], _ => rfl, h fd X⟩
theorem zx__law_made (F : Funs K mg) (h : ∀ fd, FunD K "_law_made" "_law_made" (defArgs s__law_made) (defBody s__law_made) (defScope s__law_made) [] [] (He.ga K "_law_made") fd → FnE P w K mg base n (He.ga K "_law_made") fd ["n"] (spE (He.ga K) (evalDX Pr XP n) 8 0 K)) : CalE P w K mg base n "_law_made" ["n"] (spE (He.ga K) (evalDX Pr XP n) 8 0 K) := by
  obtain ⟨fd, X⟩ := F.f__law_made
  exact ⟨_, fd, F.m__law_made, X.kp, X.bindsN fun _ _ _ _ _ _ us hl => match us, hl with | [_], _ => rfl, h fd X⟩
theorem zx__law_raised (F : Funs K mg) (h : ∀ fd, FunD K "_law_raised" "_law_raised" (defArgs s__law_raised) (defBody s__law_raised) (defScope s__law_raised) [] [] (He.ga K "_law_raised") fd → FnE P w K mg base n (He.ga K "_law_raised") fd ["many"] (spE (He.ga K) (evalDX Pr XP n) 9 0 K)) : CalE P w K mg base n "_law_raised" ["many"] (spE (He.ga K) (evalDX Pr XP n) 9 0 K) := by
  obtain ⟨fd, X⟩ := F.f__law_raised
  exact ⟨_, fd, F.m__law_raised, X.kp, X.bindsN fun _ _ _ _ _ _ us hl => match us, hl with | [_], _ => rfl, h fd X⟩
theorem zx_law (F : Funs K mg) (h : ∀ fd, FunD K "law" "law" (defArgs s_law) (defBody s_law) (defScope s_law) [] [] (He.ga K "law") fd → FnE P w K mg base n (He.ga K "law") fd ["script"] (spE (He.ga K) (evalDX Pr XP n) 10 0 K)) : CalE P w K mg base n "law" ["script"] (spE (He.ga K) (evalDX Pr XP n) 10 0 K) := by
  obtain ⟨fd, X⟩ := F.f_law
  exact ⟨_, fd, F.m_law, X.kp, X.bindsN fun _ _ _ _ _ _ us hl => match us, hl with | [_], _ => rfl, h fd X⟩
theorem all_zero (F : Funs K mg) : All P w K mg base 0 where
  nl := F.nl
  d_first_bad := z_first_bad F fun fd X => ⟨fun vs H Q ⟨_, _, _, _, _, e, _⟩ => (nomatch e), fun A outer s H args us vs Q _ _ _ _ _ ⟨_, _, _, _, _, e, _⟩ => (nomatch e)⟩
  d_rest_of := z_rest_of F fun fd X => ⟨fun vs H Q ⟨_, _, _, _, _, e, _⟩ => (nomatch e), fun A outer s H args us vs Q _ _ _ _ _ ⟨_, _, _, _, _, e, _⟩ => (nomatch e)⟩
  d_on_rounds := z_on_rounds F fun fd X => ⟨fun vs H Q ⟨_, _, _, _, _, e, _⟩ => (nomatch e), fun A outer s H args us vs Q _ _ _ _ _ ⟨_, _, _, _, _, e, _⟩ => (nomatch e)⟩
  d_check_drawing := z_check_drawing F fun fd X => ⟨fun vs H Q ⟨_, _, _, _, _, e, _⟩ => (nomatch e), fun A outer s H args us vs Q _ _ _ _ _ ⟨_, _, _, _, _, e, _⟩ => (nomatch e)⟩
  d_reached := z_reached F fun fd X => ⟨fun vs H Q ⟨_, _, _, _, _, e, _⟩ => (nomatch e), fun A outer s H args us vs Q _ _ _ _ _ ⟨_, _, _, _, _, e, _⟩ => (nomatch e)⟩
  d__law_draws := z__law_draws F fun fd X => ⟨fun vs H Q ⟨_, _, _, _, _, e, _⟩ => (nomatch e), fun A outer s H args us vs Q _ _ _ _ _ ⟨_, _, _, _, _, e, _⟩ => (nomatch e)⟩
  d__law_mix := z__law_mix F fun fd X => ⟨fun vs H Q ⟨_, _, _, _, _, e, _⟩ => (nomatch e), fun A outer s H args us vs Q _ _ _ _ _ ⟨_, _, _, _, _, e, _⟩ => (nomatch e)⟩
theorem all_succ (g : Glob mg) (F : Funs K mg) (al : All P w K mg base n) : All P w K mg base (n + 1) where
  nl := F.nl
  d_first_bad := z_first_bad F fun fd X => cal_step X sc_first_bad rfl rfl rfl fun cdv A outer s H hr gd => VSs.nox (t_first_bad g al cdv A outer s H hr gd)
  d_rest_of := z_rest_of F fun fd X => cal_step X sc_rest_of rfl rfl rfl fun cdv A outer s H hr gd => VSs.nox (t_rest_of g al cdv A outer s H hr gd)
  d_on_rounds := z_on_rounds F fun fd X => cal_step X sc_on_rounds rfl rfl rfl fun cdv A outer s H hr gd => VSs.nox (t_on_rounds g al cdv A outer s H hr gd)
  d_check_drawing := z_check_drawing F fun fd X => cal_step X sc_check_drawing rfl rfl rfl fun cdv A outer s H hr gd => VSs.nox (t_check_drawing g al cdv A outer s H hr gd)
  d_reached := z_reached F fun fd X => cal_step X sc_reached rfl rfl rfl fun cdv A outer s H hr gd => VSs.nox (t_reached g al cdv A outer s H hr gd)
  d__law_draws := z__law_draws F fun fd X => cal_step X sc__law_draws rfl rfl rfl fun cdv A outer s H hr gd => VSs.nox (t__law_draws g al cdv A outer s H hr gd)
  d__law_mix := z__law_mix F fun fd X => cal_step X sc__law_mix rfl rfl rfl fun cdv A outer s H hr gd => VSs.nox (t__law_mix g al cdv A outer s H hr gd)
theorem all (g : Glob mg) (F : Funs K mg) : ∀ n, All P w K mg base n
  | 0 => all_zero F
  | n + 1 => all_succ g F (all g F n)
theorem allX_zero (F : Funs K mg) : AllX P w K mg base 0 where
  tt := trivial
  x_check_drawing := zx_check_drawing F fun fd X => fnE_zero (fun _ => rfl) rfl
  x__law_kinds := zx__law_kinds F fun fd X => fnE_zero (fun _ => rfl) rfl
  x__law_made := zx__law_made F fun fd X => fnE_zero (fun _ => rfl) rfl
  x__law_raised := zx__law_raised F fun fd X => fnE_zero (fun _ => rfl) rfl
  x_law := zx_law F fun fd X => fnE_zero (fun _ => rfl) rfl
theorem allX_succ (g : Glob mg) (F : Funs K mg) (er : Errs P K mg) (ax : AllX P w K mg base n) : AllX P w K mg base (n + 1) where
  tt := trivial
  x_check_drawing := zx_check_drawing F fun fd X => cal_stepX X sc_check_drawing (fun _ => rfl) rfl rfl rfl fun cdv A outer s H E hr gd => tx_check_drawing g (all g F n) er ax cdv A outer s H E hr gd
  x__law_kinds := zx__law_kinds F fun fd X => cal_stepX X sc__law_kinds (fun _ => rfl) rfl rfl rfl fun cdv A outer s H E hr gd => tx__law_kinds g (all g F n) er ax cdv A outer s H E hr gd
  x__law_made := zx__law_made F fun fd X => cal_stepX X sc__law_made (fun _ => rfl) rfl rfl rfl fun cdv A outer s H E hr gd => tx__law_made g (all g F n) er ax cdv A outer s H E hr gd
  x__law_raised := zx__law_raised F fun fd X => cal_stepX X sc__law_raised (fun _ => rfl) rfl rfl rfl fun cdv A outer s H E hr gd => tx__law_raised g (all g F n) er ax cdv A outer s H E hr gd
  x_law := zx_law F fun fd X => cal_stepX X sc_law (fun _ => rfl) rfl rfl rfl fun cdv A outer s H E hr gd => tx_law g (all g F n) er ax cdv A outer s H E hr gd
theorem allX (g : Glob mg) (F : Funs K mg) (er : Errs P K mg) : ∀ n, AllX P w K mg base n
  | 0 => allX_zero F
  | n + 1 => allX_succ g F er (allX g F er n)
end
/-! ### the head -/
def dd_first_bad : He.DefD := ⟨("first_bad", none), "first_bad", "first_bad", defArgs s_first_bad, defBody s_first_bad, defScope s_first_bad, [], []⟩
def dd_rest_of : He.DefD := ⟨("rest_of", none), "rest_of", "rest_of", defArgs s_rest_of, defBody s_rest_of, defScope s_rest_of, [], []⟩
def dd_on_rounds : He.DefD := ⟨("on_rounds", none), "on_rounds", "on_rounds", defArgs s_on_rounds, defBody s_on_rounds, defScope s_on_rounds, [], []⟩
def dd_check_drawing : He.DefD := ⟨("check_drawing", none), "check_drawing", "check_drawing", defArgs s_check_drawing, defBody s_check_drawing, defScope s_check_drawing, [], []⟩
def dd_reached : He.DefD := ⟨("reached", none), "reached", "reached", defArgs s_reached, defBody s_reached, defScope s_reached, [], []⟩
def dd__law_draws : He.DefD := ⟨("_law_draws", none), "_law_draws", "_law_draws", defArgs s__law_draws, defBody s__law_draws, defScope s__law_draws, [], []⟩
def dd__law_mix : He.DefD := ⟨("_law_mix", none), "_law_mix", "_law_mix", defArgs s__law_mix, defBody s__law_mix, defScope s__law_mix, [], []⟩
def dd__law_kinds : He.DefD := ⟨("_law_kinds", none), "_law_kinds", "_law_kinds", defArgs s__law_kinds, defBody s__law_kinds, defScope s__law_kinds, [], []⟩
def dd__law_made : He.DefD := ⟨("_law_made", none), "_law_made", "_law_made", defArgs s__law_made, defBody s__law_made, defScope s__law_made, [], []⟩
def dd__law_raised : He.DefD := ⟨("_law_raised", none), "_law_raised", "_law_raised", defArgs s__law_raised, defBody s__law_raised, defScope s__law_raised, [], []⟩
def dd_law : He.DefD := ⟨("law", none), "law", "law", defArgs s_law, defBody s_law, defScope s_law, [], []⟩
def hfn : List He.DefD := [dd_first_bad, dd_rest_of, dd_on_rounds, dd_check_drawing, dd_reached, dd__law_draws, dd__law_mix, dd__law_kinds, dd__law_made, dd__law_raised, dd_law]
def hfa : List He.Fa := [.glo "first_bad", .glo "rest_of", .glo "on_rounds", .glo "check_drawing", .glo "reached", .glo "_law_draws", .glo "_law_mix", .glo "_law_kinds", .glo "_law_made", .glo "_law_raised", .glo "law", .free "ValueError", .free "abs", .free "bool", .free "enumerate", .free "int", .free "isinstance", .free "len", .free "list", .free "min", .free "range", .free "sorted", .free "super", .int "MOST_VARIABLES" 12, .glo "WayError", .glo "OutOfRange", .glo "TooMany", .glo "TooLarge", .glo "WrongSize", .glo "NoVariable", .glo "NotASet", .glo "BadArrow", .glo "BadTie", .glo "Round", .glo "BadValues", .glo "BadUnseen", .glo "BadTable", .glo "BadDeed", .glo "BadWeight", .glo "Overlap", .glo "Ties", .glo "BadAnswer", .glo "BadStep", .glo "NothingToUndo"]
def loose0 : List PySem.Str := ["WayError", "OutOfRange", "TooMany", "TooLarge", "WrongSize", "NoVariable", "NotASet", "BadArrow", "BadTie", "Round", "BadValues", "BadUnseen", "BadTable", "BadDeed", "BadWeight", "Overlap", "Ties", "BadAnswer", "BadStep", "NothingToUndo", "MOST_VARIABLES", "first_bad", "rest_of", "on_rounds", "check_drawing", "reached", "_law_draws", "_law_mix", "_law_kinds", "_law_made"]
def loose1 : List PySem.Str := ["_law_raised"]
abbrev ecl : List PySem.Str := ["WayError", "OutOfRange", "TooMany", "TooLarge", "WrongSize", "NoVariable", "NotASet", "BadArrow", "BadTie", "Round", "BadValues", "BadUnseen", "BadTable", "BadDeed", "BadWeight", "Overlap", "Ties", "BadAnswer", "BadStep", "NothingToUndo"]
abbrev hk : PySem.W.Hook := hookX pw0.main.file ecl ecl hfa hfn
def hob (s : PySem.W.SharedT) : AlX := obsXG pw0.main.file ecl ecl hfa hfn (HandSHeadRun.getT s)
theorem hob_eq (s : PySem.W.SharedT) : hob s = hk.obs s.abs := obsXG_eq (HandSHeadRun.getT_eq s)
abbrev R0 : PySem.W.OpenRow := PySem.W.OpenLaw.row rw0
abbrev looseN : List PySem.Str := loose0 ++ loose1
theorem hrun (w : World) : HandSHeadRun.RunEq R0 (PySem.W.view R0.prog [34]) hk hob 8000 looseN w := by
  intro os
  kernel_rfl
theorem glob_of {K : PySem.W.Frag} {h : Heap} {mg : Str → Option Value} (X : K.In h) (G : h.Ns mainGlobals mg) (c : He.SaysD hfa hfn K) : Glob mg where
  b_ValueError := He.free_ok X G (c.fact 11 (f := .free "ValueError") rfl)
  b_abs := He.free_ok X G (c.fact 12 (f := .free "abs") rfl)
  b_bool := He.free_ok X G (c.fact 13 (f := .free "bool") rfl)
  b_enumerate := He.free_ok X G (c.fact 14 (f := .free "enumerate") rfl)
  b_int := He.free_ok X G (c.fact 15 (f := .free "int") rfl)
  b_isinstance := He.free_ok X G (c.fact 16 (f := .free "isinstance") rfl)
  b_len := He.free_ok X G (c.fact 17 (f := .free "len") rfl)
  b_list := He.free_ok X G (c.fact 18 (f := .free "list") rfl)
  b_min := He.free_ok X G (c.fact 19 (f := .free "min") rfl)
  b_range := He.free_ok X G (c.fact 20 (f := .free "range") rfl)
  b_sorted := He.free_ok X G (c.fact 21 (f := .free "sorted") rfl)
  b_super := He.free_ok X G (c.fact 22 (f := .free "super") rfl)
  c_MOST_VARIABLES := He.int_ok X G (c.fact 23 (f := .int "MOST_VARIABLES" 12) rfl)
theorem funs_of {K : PySem.W.Frag} {h : Heap} {mg : Str → Option Value} (X : K.In h) (nl : NoL K) (G : h.Ns mainGlobals mg) (c : He.SaysD hfa hfn K) : Funs K mg where
  nl := nl
  f_first_bad := c.def_ 0 (d := dd_first_bad) rfl
  m_first_bad := He.glo_ok X G (c.fact 0 (f := .glo "first_bad") rfl)
  f_rest_of := c.def_ 1 (d := dd_rest_of) rfl
  m_rest_of := He.glo_ok X G (c.fact 1 (f := .glo "rest_of") rfl)
  f_on_rounds := c.def_ 2 (d := dd_on_rounds) rfl
  m_on_rounds := He.glo_ok X G (c.fact 2 (f := .glo "on_rounds") rfl)
  f_check_drawing := c.def_ 3 (d := dd_check_drawing) rfl
  m_check_drawing := He.glo_ok X G (c.fact 3 (f := .glo "check_drawing") rfl)
  f_reached := c.def_ 4 (d := dd_reached) rfl
  m_reached := He.glo_ok X G (c.fact 4 (f := .glo "reached") rfl)
  f__law_draws := c.def_ 5 (d := dd__law_draws) rfl
  m__law_draws := He.glo_ok X G (c.fact 5 (f := .glo "_law_draws") rfl)
  f__law_mix := c.def_ 6 (d := dd__law_mix) rfl
  m__law_mix := He.glo_ok X G (c.fact 6 (f := .glo "_law_mix") rfl)
  f__law_kinds := c.def_ 7 (d := dd__law_kinds) rfl
  m__law_kinds := He.glo_ok X G (c.fact 7 (f := .glo "_law_kinds") rfl)
  f__law_made := c.def_ 8 (d := dd__law_made) rfl
  m__law_made := He.glo_ok X G (c.fact 8 (f := .glo "_law_made") rfl)
  f__law_raised := c.def_ 9 (d := dd__law_raised) rfl
  m__law_raised := He.glo_ok X G (c.fact 9 (f := .glo "_law_raised") rfl)
  f_law := c.def_ 10 (d := dd_law) rfl
  m_law := He.glo_ok X G (c.fact 10 (f := .glo "law") rfl)
theorem errs_of {K : PySem.W.Frag} {h : Heap} {mg : Str → Option Value} (X : K.In h) (G : h.Ns mainGlobals mg) (c : SaysX pw0.main.file ecl ecl hfa hfn K) : Errs R0.prog K mg where
  T := SaysX.root (P := R0.prog) c (by kernel_rfl)
  sup := He.free_ok X G (c.d.fact 22 (f := .free "super") rfl)
  y_WayError := c.cls (by decide)
  g_WayError := He.glo_ok X G (c.d.fact 24 (f := .glo "WayError") rfl)
  e_WayError := c.exm (by decide)
  y_OutOfRange := c.cls (by decide)
  g_OutOfRange := He.glo_ok X G (c.d.fact 25 (f := .glo "OutOfRange") rfl)
  e_OutOfRange := c.exm (by decide)
  y_TooMany := c.cls (by decide)
  g_TooMany := He.glo_ok X G (c.d.fact 26 (f := .glo "TooMany") rfl)
  e_TooMany := c.exm (by decide)
  y_TooLarge := c.cls (by decide)
  g_TooLarge := He.glo_ok X G (c.d.fact 27 (f := .glo "TooLarge") rfl)
  e_TooLarge := c.exm (by decide)
  y_WrongSize := c.cls (by decide)
  g_WrongSize := He.glo_ok X G (c.d.fact 28 (f := .glo "WrongSize") rfl)
  e_WrongSize := c.exm (by decide)
  y_NoVariable := c.cls (by decide)
  g_NoVariable := He.glo_ok X G (c.d.fact 29 (f := .glo "NoVariable") rfl)
  e_NoVariable := c.exm (by decide)
  y_NotASet := c.cls (by decide)
  g_NotASet := He.glo_ok X G (c.d.fact 30 (f := .glo "NotASet") rfl)
  e_NotASet := c.exm (by decide)
  y_BadArrow := c.cls (by decide)
  g_BadArrow := He.glo_ok X G (c.d.fact 31 (f := .glo "BadArrow") rfl)
  e_BadArrow := c.exm (by decide)
  y_BadTie := c.cls (by decide)
  g_BadTie := He.glo_ok X G (c.d.fact 32 (f := .glo "BadTie") rfl)
  e_BadTie := c.exm (by decide)
  y_Round := c.cls (by decide)
  g_Round := He.glo_ok X G (c.d.fact 33 (f := .glo "Round") rfl)
  e_Round := c.exm (by decide)
  y_BadValues := c.cls (by decide)
  g_BadValues := He.glo_ok X G (c.d.fact 34 (f := .glo "BadValues") rfl)
  e_BadValues := c.exm (by decide)
  y_BadUnseen := c.cls (by decide)
  g_BadUnseen := He.glo_ok X G (c.d.fact 35 (f := .glo "BadUnseen") rfl)
  e_BadUnseen := c.exm (by decide)
  y_BadTable := c.cls (by decide)
  g_BadTable := He.glo_ok X G (c.d.fact 36 (f := .glo "BadTable") rfl)
  e_BadTable := c.exm (by decide)
  y_BadDeed := c.cls (by decide)
  g_BadDeed := He.glo_ok X G (c.d.fact 37 (f := .glo "BadDeed") rfl)
  e_BadDeed := c.exm (by decide)
  y_BadWeight := c.cls (by decide)
  g_BadWeight := He.glo_ok X G (c.d.fact 38 (f := .glo "BadWeight") rfl)
  e_BadWeight := c.exm (by decide)
  y_Overlap := c.cls (by decide)
  g_Overlap := He.glo_ok X G (c.d.fact 39 (f := .glo "Overlap") rfl)
  e_Overlap := c.exm (by decide)
  y_Ties := c.cls (by decide)
  g_Ties := He.glo_ok X G (c.d.fact 40 (f := .glo "Ties") rfl)
  e_Ties := c.exm (by decide)
  y_BadAnswer := c.cls (by decide)
  g_BadAnswer := He.glo_ok X G (c.d.fact 41 (f := .glo "BadAnswer") rfl)
  e_BadAnswer := c.exm (by decide)
  y_BadStep := c.cls (by decide)
  g_BadStep := He.glo_ok X G (c.d.fact 42 (f := .glo "BadStep") rfl)
  e_BadStep := c.exm (by decide)
  y_NothingToUndo := c.cls (by decide)
  g_NothingToUndo := He.glo_ok X G (c.d.fact 43 (f := .glo "NothingToUndo") rfl)
  e_NothingToUndo := c.exm (by decide)
  cat := fun cn hm => catC_of (c.cls hm)
  isc := fun cn hm => ⟨catC_of (c.cls hm), c.isc hm⟩
  k_WayError := c.kit (by decide)
  k_OutOfRange := c.kit (by decide)
  k_TooMany := c.kit (by decide)
  k_TooLarge := c.kit (by decide)
  k_WrongSize := c.kit (by decide)
  k_NoVariable := c.kit (by decide)
  k_NotASet := c.kit (by decide)
  k_BadArrow := c.kit (by decide)
  k_BadTie := c.kit (by decide)
  k_Round := c.kit (by decide)
  k_BadValues := c.kit (by decide)
  k_BadUnseen := c.kit (by decide)
  k_BadTable := c.kit (by decide)
  k_BadDeed := c.kit (by decide)
  k_BadWeight := c.kit (by decide)
  k_Overlap := c.kit (by decide)
  k_Ties := c.kit (by decide)
  k_BadAnswer := c.kit (by decide)
  k_BadStep := c.kit (by decide)
  k_NothingToUndo := c.kit (by decide)
set_option maxHeartbeats 8000000 in
/-- all that is left: the law's core tells true -/
theorem holds_of (L : Nat) (hL : Nat.ble L 60 = true) (core : ∀ ns : List Int, ns.length ≤ 63 → (∀ z ∈ ns, Builtin.Int.intBits z ≤ 1048576) → evalDX Pr XP (L + 1) 10 [.list (ns.map .int)] = .ok (.bool true)) : rw0.Holds := by
  w_on; o_law
  refine HandSHeadRun.head_any (r := OpenLaw.row rw0) (q := view (OpenLaw.row rw0).prog [34]) (H := hk) (ob := hob) (M := 8000) (loose := looseN) (d := HandSHeadRun.topDef (OpenLaw.row rw0).prog 34) (kwd := []) hob_eq
    (by kernel_rfl) (fun s => by kernel_rfl) hrun (by kernel_rfl) (by kernel_rfl) (by kernel_rfl) (by rfl) (by first | assumption | decide +kernel) (by decide +kernel) ⟨rfl, rfl, rfl, rfl, rfl, by decide +kernel⟩ ?hw ?hc
  case hw => w_witness2
  case hc =>
    have hL60 : L ≤ 60 := Nat.le_of_ble_eq_true hL
    refine walk_g (l := rw0) (n := 63) (k := L + 1) (x := "script") rfl (by decide) (by kernel_rfl) ⟨rfl, by show 1 + claimMargin + 3 * (L + 1) + 5 < 1000; have : claimMargin ≤ 700 := (by decide); omega, by show 4 + 16 * (L + 1) + 200 < 9900; omega⟩ ?F
    intro w mg fa h Y G hmg0
    obtain ⟨K, KX, nl, c⟩ := Y
    have hmg : mg ("law" : PySem.Str) = some (.ref fa) := by
      have e : (HandSHeadRun.topDef (OpenLaw.row rw0).prog 34).name = ("law" : PySem.Str) := by kernel_rfl
      rw [← e]
      exact hmg0
    have FF := funs_of KX nl G c.d
    have er := errs_of KX G c
    have e := hmg.symm.trans FF.m_law
    cases e
    obtain ⟨fd, X⟩ := FF.f_law
    have b := FunD.bindsA (ps := ["script"]) X fun _ _ _ _ _ _ us hl => match us, hl with | [_], _ => rfl
    refine ⟨K, fd, spC (evalDX Pr XP (L + 1)) 10 0 K, KX, fun s u => b s [u] rfl, fun H a ns hl hb _ hS => law_prC hS (core ns hl hb), fun base _ _ => ?_⟩
    exact FnE.quiet (cal_stepX X sc_law (fun _ => rfl) rfl rfl rfl fun cdv A outer s H E hr gd => tx_law (glob_of KX G c.d) (all (glob_of KX G c.d) FF L) er (allX (glob_of KX G c.d) FF er L) cdv A outer s H E hr gd)

end Law
theorem PySem.Challenge.cw_causeway_k00_errors_are_apart_holds : PySem.Challenge.rw_causeway_k00_errors_are_apart.Holds := by
  refine Law.holds_of 9 rfl fun ns hl _ => ?_
  exact VL.ev_law00 (Pr := Law.Pr) (XP := Law.XP) (n := 0) { p5 := rfl, p6 := rfl } { x3 := rfl, x7 := rfl, x8 := rfl, x9 := rfl, x10 := rfl, n5 := rfl, n6 := rfl } hl
