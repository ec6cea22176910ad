import PyProof.Rows.All
import Wide.All
import OpenK.AllK
import Wide.FinOn
import KE.SortData
import HandS.ForMost
import HandS.Wide
import HandS.Deep
import HandS.Exc
import HandS.TryMany
import HandS.Conv
import HandS.TupLe
import HandS.Style
import HandS.Zip
import HandS.IsInst
import HandS.SetFor
import HandS.Strs
import HandS.Defaults
import HandS.SetBool
import HandS.Ends
import HandS.EndBits
import HandS.Head0
import HandS.Head1
import HandS.Head2
import HandS.HeadEnd
import HandS.HeadHook1
import HandS.HeadHook2
import PySem.Challenge.RW_causeway_k82_whole_more_and_fewer
set_option Elab.async false
set_option linter.all false
set_option maxRecDepth 100000
/-! VL, part 1: a small core language over plain data, and what it computes. -/
namespace VL
open PySem

abbrev Val := PyData

/-- an end: a value, an error of the program (its class, its one argument), or nothing that is known -/
inductive Res (α : Type) where
  | ok (a : α)
  | exc (c : Str) (v : Val)
  | bad

namespace Res
variable {α β : Type}
def bind (r : Res α) (f : α → Res β) : Res β := match r with
  | .ok a => f a
  | .exc c v => .exc c v
  | .bad => .bad
/-- no error may leave: where the layer has no rule for it -/
def quiet (r : Res α) : Res α := match r with
  | .exc _ _ => .bad
  | r => r
@[simp] theorem bind_ok (a : α) (f : α → Res β) : (Res.ok a).bind f = f a := rfl
@[simp] theorem bind_exc (c : Str) (v : Val) (f : α → Res β) : (Res.exc c v : Res α).bind f = .exc c v := rfl
@[simp] theorem bind_bad (f : α → Res β) : (Res.bad : Res α).bind f = .bad := rfl
@[simp] theorem quiet_ok (a : α) : (Res.ok a).quiet = .ok a := rfl
theorem bind_eq_ok {r : Res α} {f : α → Res β} {b : β} (h : r.bind f = .ok b) : ∃ a, r = .ok a ∧ f a = .ok b := by
  cases r with
  | ok a => exact ⟨a, rfl, h⟩
  | exc c v => cases h
  | bad => cases h
theorem quiet_eq_ok {r : Res α} {b : α} (h : r.quiet = .ok b) : r = .ok b := by
  cases r with
  | ok a => exact h
  | exc c v => cases h
  | bad => cases h
theorem quiet_ne_exc {r : Res α} {c : Str} {v : Val} : r.quiet ≠ .exc c v := by
  cases r <;> intro h <;> cases h
def guard (c : Bool) (r : Res α) : Res α := match c with
  | true => r
  | false => .bad
@[simp] theorem guard_true (r : Res α) : guard true r = r := rfl
theorem guard_ok {c : Bool} {r : Res α} {a : α} (h : guard c r = .ok a) : c = true ∧ r = .ok a := by
  cases c with
  | true => exact ⟨rfl, h⟩
  | false => cases h
end Res

/-- the operations on values -/
inductive Op where
  | add | sub | mul | fdiv | mod | pow | shl | shr | band | bor | neg | not
  | eq | ne | lt | le | gt | ge | isin | notin | isNone | notNone | isB (b : Bool) | notB (b : Bool)
  | idx | slice (lo hi : Bool) | rev
  | tup (stars : List Bool) | lst (d : Nat) (stars : List Bool)
  | len | list | range | sorted | sortedSet | min | max | abs | int | all | any | sum | repr | isT (t : Nat) | enum | zip | count | index
  deriving DecidableEq

def seqOf : Val → Option (List Val)
  | .list xs => some xs
  | .tuple xs => some xs
  | _ => none

def intsOf : List Val → Option (List Int)
  | [] => some []
  | .int i :: r => (intsOf r).map (i :: ·)
  | _ :: _ => none
def boolsOf : List Val → Option (List Bool)
  | [] => some []
  | .bool b :: r => (boolsOf r).map (b :: ·)
  | _ :: _ => none

/-- lo, lo + 1, .. below hi -/
def rng (lo hi : Int) : List Val := (List.range (hi - lo).toNat).map fun i => .int (lo + (i : Nat))

def small (i : Int) : Bool := decide (-(2 ^ 62) ≤ i) && decide (i < 2 ^ 62)
def sizeOk (n : Nat) : Bool := decide (n ≤ sizeLine)
def shapedB (v : Val) : Bool := SeqAt.shaped v

def vAdd : Val → Val → Res Val
  | .int a, .int b => .ok (.int (a + b))
  | .list xs, .list ys => Res.guard (sizeOk (xs.length + ys.length)) (.ok (.list (xs ++ ys)))
  | _, _ => .bad
def vSub : Val → Val → Res Val
  | .int a, .int b => .ok (.int (a - b))
  | _, _ => .bad
def mulOk (a b : Int) : Bool := decide (a.natAbs.log2 + b.natAbs.log2 < 900000)
def vMul : Val → Val → Res Val
  | .int a, .int b => Res.guard (mulOk a b) (.ok (.int (a * b)))
  | _, _ => .bad
def divOk (b : Int) : Bool := decide (0 < b) && decide (b < 1073741824)
def vDiv : Val → Val → Res Val
  | .int a, .int b => Res.guard (divOk b) (.ok (.int (a / b)))
  | _, _ => .bad
def vMod : Val → Val → Res Val
  | .int a, .int b => Res.guard (decide (0 < b)) (.ok (.int (a % b)))
  | _, _ => .bad
def expOk (a b : Int) : Bool := decide (0 ≤ b) && (decide (b ≤ 1000000) && decide (a.natAbs < 2 ^ 64))
def vPow : Val → Val → Res Val
  | .int a, .int b => Res.guard (expOk a b) (.ok (.int (a ^ b.toNat)))
  | _, _ => .bad
def vShl : Val → Val → Res Val
  | .int a, .int b => Res.guard (expOk a b) (.ok (.int (a * 2 ^ b.toNat)))
  | _, _ => .bad
def vShr : Val → Val → Res Val
  | .int a, .int b => Res.guard (decide (0 ≤ b)) (.ok (.int (a / 2 ^ b.toNat)))
  | _, _ => .bad
def vAnd : Val → Val → Res Val
  | .int a, .int b => .ok (.int (Builtin.bitAnd a b))
  | _, _ => .bad
def vOr : Val → Val → Res Val
  | .int a, .int b => .ok (.int (Builtin.bitOr a b))
  | _, _ => .bad
def vEq (a b : Val) : Res Val := Res.guard (shapedB a && shapedB b) (.ok (.bool (PyData.eqv a b)))
def vNe (a b : Val) : Res Val := Res.guard (shapedB a && shapedB b) (.ok (.bool (!PyData.eqv a b)))
/-- lists of ints by their order -/
abbrev lexLt : List Int → List Int → Bool := HT.lexLt
def vCmp (p : Int → Int → Bool) (q : List Int → List Int → Bool) : Val → Val → Res Val
  | .int a, .int b => .ok (.bool (p a b))
  | .tuple xs, .tuple ys => match intsOf xs, intsOf ys with
    | some is, some js => .ok (.bool (q is js))
    | _, _ => .bad
  | _, _ => .bad
def vLt : Val → Val → Res Val := vCmp (fun a b => decide (a < b)) lexLt
def vGt : Val → Val → Res Val
  | .int a, .int b => .ok (.bool (decide (b < a)))
  | _, _ => .bad
def vLe : Val → Val → Res Val
  | .int a, .int b => .ok (.bool (decide (a ≤ b)))
  | _, _ => .bad
def vGe : Val → Val → Res Val := vCmp (fun a b => decide (b ≤ a)) fun x y => !lexLt x y
def memB (x : Val) (ys : List Val) : Bool := ys.any fun y => PyData.eqv y x
def vIn (x : Val) : Val → Res Val
  | .list ys => Res.guard (shapedB x && shapedB (.list ys)) (.ok (.bool (memB x ys)))
  | .tuple ys => Res.guard (shapedB x && shapedB (.tuple ys)) (.ok (.bool (memB x ys)))
  | _ => .bad
def vNotIn (x : Val) : Val → Res Val
  | .list ys => Res.guard (shapedB x && shapedB (.list ys)) (.ok (.bool (!memB x ys)))
  | .tuple ys => Res.guard (shapedB x && shapedB (.tuple ys)) (.ok (.bool (!memB x ys)))
  | _ => .bad
def isNoneB : Val → Bool
  | .none => true
  | _ => false
def vIs (b : Bool) : Val → Res Val
  | .bool c => .ok (.bool (c == b))
  | _ => .bad
def vIsNot (b : Bool) : Val → Res Val
  | .bool c => .ok (.bool (!(c == b)))
  | _ => .bad
/-- xs[i], i of any sign -/
def atV (xs : List Val) (i : Int) : Option Val := L2.atI xs i
def ofOpt : Option Val → Res Val
  | some v => .ok v
  | none => .bad
def vIdx : Val → Val → Res Val
  | .list xs, .int i => ofOpt (atV xs i)
  | .tuple xs, .int i => ofOpt (atV xs i)
  | _, _ => .bad
def cut (xs : List Val) (lo hi : Option Int) : List Val :=
  (xs.drop (HT.sIx xs.length 0 lo)).take (HT.sIx xs.length xs.length hi - HT.sIx xs.length 0 lo)
def vSlice : Bool → Bool → List Val → Res Val
  | true, true, [.list xs, .int i, .int j] => .ok (.list (cut xs (some i) (some j)))
  | true, false, [.list xs, .int i] => .ok (.list (cut xs (some i) none))
  | false, true, [.list xs, .int j] => .ok (.list (cut xs none (some j)))
  | false, false, [.list xs] => .ok (.list (cut xs none none))
  | _, _, _ => .bad
def starred : List Bool → List Val → Option (List Val)
  | [], [] => some []
  | false :: ss, v :: vs => (starred ss vs).map (v :: ·)
  | true :: ss, .list xs :: vs => (starred ss vs).map (xs ++ ·)
  | true :: ss, .tuple xs :: vs => (starred ss vs).map (xs ++ ·)
  | _, _ => none
def vLst (stars : List Bool) (vs : List Val) : Res Val := match starred stars vs with
  | some xs => Res.guard (sizeOk xs.length) (.ok (.list xs))
  | none => .bad
def vTup (stars : List Bool) (vs : List Val) : Res Val := match starred stars vs with
  | some xs => Res.guard (sizeOk xs.length) (.ok (.tuple xs))
  | none => .bad
def vLen : Val → Res Val
  | .list xs => .ok (.int xs.length)
  | .tuple xs => .ok (.int xs.length)
  | _ => .bad
def alikesB (xs : List Val) : Bool := xs.all fun a => xs.all fun b => PySem.W.alike a b
def isTupC : Val → Bool
  | .tuple (_ :: _) => true
  | _ => false
def notTupNone : Val → Bool
  | .none => false
  | .tuple _ => false
  | _ => true
def sortableB (xs : List Val) : Bool := alikesB xs && (shapedB (.list xs) && (xs.all isTupC || xs.all notTupNone))
def sortV (xs : List Val) : List Val := xs.mergeSort (PySem.W.dataLe false fun d : Val => d)
def vSorted : Val → Res Val
  | .list xs => Res.guard (sortableB xs) (.ok (.list (sortV xs)))
  | _ => .bad
/-- k put into a strictly ascending list -/
def insS (k : Int) : List Int → List Int
  | [] => [k]
  | x :: r => if k < x then k :: x :: r else if k = x then x :: r else x :: insS k r
/-- the ints of a list, each once, ascending -/
def intsOnce (is : List Int) : List Int := is.foldl (fun acc k => insS k acc) []
def vSortedSet : Val → Res Val
  | .list xs => match intsOf xs with
    | some is => Res.guard (decide ((intsOnce is).length < 64)) (.ok (.list ((intsOnce is).map .int)))
    | none => .bad
  | _ => .bad
def isType : Nat → Val → Bool
  | 0, .list _ => true
  | 1, .bool _ => true
  | 2, .int _ => true
  | 2, .bool _ => true
  | 3, .tuple _ => true
  | _, _ => false
def enumV : Nat → List Val → List Val
  | _, [] => []
  | n, x :: r => .tuple [.int (n : Nat), x] :: enumV (n + 1) r
def zipV : List Val → List Val → List Val
  | x :: xs, y :: ys => .tuple [x, y] :: zipV xs ys
  | _, _ => []
def reprable : Val → Bool
  | .none => false
  | .str _ => false
  | .dict _ => false
  | _ => true
def reprOk (v : Val) : Bool := reprable v && v.showable && (!v.hasDict && (sizeOk v.shown.length && decide (v.depth ≤ 60)))

/-- the first place of y in a list -/
def vIndex : Val → Val → Res Val
  | .list xs, y => Res.guard (shapedB (.list xs) && shapedB y) (match xs.findIdx? fun z => PyData.eqv z y with
    | some j => .ok (.int (j : Nat))
    | none => .bad)
  | _, _ => .bad

def den : Op → List Val → Res Val
  | .add, [a, b] => vAdd a b
  | .sub, [a, b] => vSub a b
  | .mul, [a, b] => vMul a b
  | .fdiv, [a, b] => vDiv a b
  | .mod, [a, b] => vMod a b
  | .pow, [a, b] => vPow a b
  | .shl, [a, b] => vShl a b
  | .shr, [a, b] => vShr a b
  | .band, [a, b] => vAnd a b
  | .bor, [a, b] => vOr a b
  | .neg, [.int a] => .ok (.int (-a))
  | .not, [.bool a] => .ok (.bool (!a))
  | .eq, [a, b] => vEq a b
  | .ne, [a, b] => vNe a b
  | .lt, [a, b] => vLt a b
  | .le, [a, b] => vLe a b
  | .gt, [a, b] => vGt a b
  | .ge, [a, b] => vGe a b
  | .isin, [a, b] => vIn a b
  | .notin, [a, b] => vNotIn a b
  | .isNone, [a] => .ok (.bool (isNoneB a))
  | .notNone, [a] => .ok (.bool (!isNoneB a))
  | .isB b, [a] => vIs b a
  | .notB b, [a] => vIsNot b a
  | .idx, [a, b] => vIdx a b
  | .slice lo hi, vs => vSlice lo hi vs
  | .rev, [.list xs] => .ok (.list xs.reverse)
  | .tup ss, vs => vTup ss vs
  | .lst _ ss, vs => vLst ss vs
  | .len, [a] => vLen a
  | .list, [.list xs] => .ok (.list xs)
  | .list, [.tuple xs] => .ok (.list xs)
  | .range, [.int n] => Res.guard (small n && sizeOk n.toNat) (.ok (.list (rng 0 n)))
  | .range, [.int m, .int n] => Res.guard (small m && (small n && sizeOk (n - m).toNat)) (.ok (.list (rng m n)))
  | .sorted, [a] => vSorted a
  | .sortedSet, [a] => vSortedSet a
  | .min, [.int a, .int b] => .ok (.int (if b < a then b else a))
  | .max, [.int a, .int b] => .ok (.int (if b > a then b else a))
  | .abs, [.int a] => .ok (.int (if a < 0 then -a else a))
  | .int, [.int a] => .ok (.int a)
  | .int, [.bool b] => .ok (.int (if b then 1 else 0))
  | .all, [.list xs] => match boolsOf xs with
    | some bs => .ok (.bool (bs.all id))
    | none => .bad
  | .any, [.list xs] => match boolsOf xs with
    | some bs => .ok (.bool (bs.any id))
    | none => .bad
  | .sum, [.list xs] => match intsOf xs with
    | some is => .ok (.int is.sum)
    | none => .bad
  | .repr, [v] => Res.guard (reprOk v) (.ok (.str v.shown))
  | .isT t, [v] => .ok (.bool (isType t v))
  | .enum, [.list xs] => .ok (.list (enumV 0 xs))
  | .zip, [.list xs, .list ys] => .ok (.list (zipV xs ys))
  | .count, [.list xs, .int k] => match intsOf xs with
    | some is => .ok (.int (is.count k : Nat))
    | none => .bad
  | .index, [a, b] => vIndex a b
  | _, _ => .bad

/-- how deep below an operand nothing is kept of it by the result (k: below the result) -/
def octx : Op → Nat → Nat
  | .idx, k => k + 1
  | .slice _ _, _ => 1
  | .rev, _ => 1
  | .add, _ => 1
  | .list, _ => 1
  | .enum, k => k
  | .zip, k => k
  | .sorted, _ => 1
  | .tup _, _ => 0
  | .lst _ _, _ => 0
  | _, _ => 9
/-- how deep the result is new -/
def ofr : Op → Nat
  | .idx => 0
  | .tup _ => 0
  | .lst d _ => d + 1
  | _ => 1

inductive Pat where
  | slot (i : Nat)
  | tup (ps : List Pat)

inductive E where
  | var (i : Nat)
  | cst (v : Val)
  | op (o : Op) (es : List E)
  | chain (o o' : Op) (a b c : E)
  | and (a b : E)
  | or (a b : E)
  | ite (c a b : E)
  | call (f : Nat) (es : List E)
  | comp (w : List Nat) (d : Nat) (elt : E) (t : Pat) (it : E) (ifs : Option E)
  | comp2 (w w2 : List Nat) (elt : E) (t : Pat) (it : E) (ifs : Option E) (t2 : Pat) (it2 : E) (ifs2 : Option E)
  | lend (l : List (Nat × Nat)) (e : E)

abbrev Env := List (Option (Val × Nat))

def getV (ρ : Env) (i k : Nat) : Res Val := match ρ[i]? with
  | some (some (v, d)) => Res.guard (Nat.ble d k) (.ok v)
  | _ => .bad

mutual
def bindP : Pat → Val → Env → Res Env
  | .slot i, v, ρ => Res.guard (Nat.blt i ρ.length) (.ok (ρ.set i (some (v, 0))))
  | .tup ps, .tuple vs, ρ => bindPs ps vs ρ
  | .tup _, _, _ => .bad
def bindPs : List Pat → List Val → Env → Res Env
  | [], [], ρ => .ok ρ
  | p :: ps, v :: vs, ρ => (bindP p v ρ).bind fun ρ' => bindPs ps vs ρ'
  | _, _, _ => .bad
end


def drop1 (i k : Nat) (ρ : Env) : Env := match ρ[i]? with
  | some (some (v, d)) => ρ.set i (some (v, min d k))
  | _ => ρ
def dropL : List (Nat × Nat) → Env → Env
  | [], ρ => ρ
  | (i, k) :: r, ρ => dropL r (drop1 i k ρ)

def killL : List Nat → Env → Env
  | [], ρ => ρ
  | i :: r, ρ => killL r (ρ.set i none)

def atomV : Val → Bool
  | .list _ => false
  | .tuple _ => false
  | .dict _ => false
  | _ => true
def asBool : Val → Res Bool
  | .bool b => .ok b
  | _ => .bad
def asSeq (v : Val) : Res (List Val) := match seqOf v with
  | some xs => .ok xs
  | none => .bad
/-- a comprehension's turns -/
def compL (f : Val → Res (Option Val)) : List Val → Res (List Val)
  | [] => .ok []
  | v :: vs => (f v).bind fun o => (compL f vs).bind fun r => .ok (match o with
    | some x => x :: r
    | none => r)
/-- two turns, one in another -/
def compLL (f : Val → Res (List Val)) : List Val → Res (List Val)
  | [] => .ok []
  | v :: vs => (f v).bind fun o => (compLL f vs).bind fun r => .ok (o ++ r)

section
variable (cf : Nat → List Val → Res Val)
mutual
def evalE : Nat → E → Env → Res Val
  | k, .var i, ρ => getV ρ i k
  | _, .cst v, _ => .ok v
  | k, .op o es, ρ => (evalEs (octx o k) es ρ).bind fun vs => den o vs
  | _, .chain o o' a b c, ρ => (evalE 9 a ρ).bind fun x => (evalE 9 b ρ).bind fun y => (den o [x, y]).bind fun r => (asBool r).bind fun t =>
      match t with
      | true => (evalE 9 c ρ).bind fun z => den o' [y, z]
      | false => .ok (.bool false)
  | k, .and a b, ρ => (evalE 9 a ρ).bind fun x => (asBool x).bind fun t =>
      match t with
      | true => evalE k b ρ
      | false => .ok (.bool false)
  | k, .or a b, ρ => (evalE 9 a ρ).bind fun x => (asBool x).bind fun t =>
      match t with
      | true => .ok (.bool true)
      | false => evalE k b ρ
  | k, .ite c a b, ρ => (evalE 9 c ρ).bind fun x => (asBool x).bind fun t =>
      match t with
      | true => evalE k a ρ
      | false => evalE k b ρ
  | _, .call f es, ρ => (evalEs 0 es ρ).bind fun vs => (cf f vs).quiet
  | _, .comp w _ elt t it ifs, ρ => (evalE 1 it ρ).bind fun s => (asSeq s).bind fun xs =>
      (compL (fun v => (bindP t v (killL w ρ)).bind fun ρ' => (evalO ifs ρ').bind fun c => match c with
        | true => ((evalE 0 elt ρ').quiet).bind fun x => .ok (some x)
        | false => .ok none) xs).bind fun r => Res.guard (sizeOk r.length) (.ok (.list r))
  | _, .comp2 w w2 elt t it ifs t2 it2 ifs2, ρ => (evalE 1 it ρ).bind fun s => (asSeq s).bind fun xs =>
      (compLL (fun v => (bindP t v (killL w ρ)).bind fun ρ' => (evalO ifs ρ').bind fun c => match c with
        | true => ((evalE 0 it2 ρ').quiet).bind fun s2 => (asSeq s2).bind fun ys =>
          compL (fun y => (bindP t2 y (killL w2 ρ')).bind fun ρ'' => (evalO ifs2 ρ'').bind fun c2 => match c2 with
            | true => ((evalE 0 elt ρ'').quiet).bind fun x => .ok (some x)
            | false => .ok none) ys
        | false => .ok []) xs).bind fun r => Res.guard (sizeOk r.length) (.ok (.list r))
  | _, .lend l e, ρ => (evalE 9 e (dropL l ρ)).bind fun v => Res.guard (atomV v) (.ok v)
def evalEs : Nat → List E → Env → Res (List Val)
  | _, [], _ => .ok []
  | k, e :: es, ρ => (evalE k e ρ).bind fun v => (evalEs k es ρ).bind fun vs => .ok (v :: vs)
def evalO : Option E → Env → Res Bool
  | none, _ => .ok true
  | some c, ρ => ((evalE 9 c ρ).quiet).bind fun x => asBool x
end
end

/-- how deep an expression's value is new -/
def frE (rf : Nat → Nat) : E → Nat
  | .op o _ => ofr o
  | .call f _ => rf f
  | .comp _ d _ _ _ _ => d + 1
  | .comp2 .. => 1
  | _ => 0

inductive S where
  | frz (l : List (Nat × Nat))
  | kill (l : List Nat)
  | set (i : Nat) (e : E) (d : Nat)
  | asg (p : Pat) (e : E)
  | app (i : Nat) (e : E) (d : Nat)
  | app2 (i : Nat) (ix e : E)
  | ext (i : Nat) (e : E)
  | extv (i j : Nat)
  | sto (i : Nat) (ix e : E) (d : Nat)
  | sto2 (i : Nat) (ix jx e : E)
  | popP (p : Pat) (i : Nat) (ix : Option E)
  | expr (e : E)
  | iff (c : E) (a b : List S)
  | for (t : Pat) (it : E) (body : List S)
  | whl (c : E) (body : List S)
  | ret (e : E)
  | retv (i k : Nat)
  | rett (is : List Nat) (k : Nat)
  | retN
  | tapp (i j : Nat) (e : E)
  | par (i j : Nat) (a b : E)
  | brk
  | cont
  | pass
  | raise (c : String) (e : E)

inductive Out where
  | nx (ρ : Env)
  | rt (v : Val)
  | bk (ρ : Env)
  | ct (ρ : Env)

/-- the list that slot i alone holds, at least d deep its own -/
def getOwn (ρ : Env) (i d : Nat) : Res (List Val × Nat) := match ρ[i]? with
  | some (some (.list xs, t)) => Res.guard (Nat.ble d t) (.ok (xs, t))
  | _ => .bad
/-- the values of slots, each of its own k deep or an atom -/
def slotsV (ρ : Env) (k : Nat) : List Nat → Res (List Val)
  | [] => .ok []
  | i :: is => (match ρ[i]? with
    | some (some (v, d)) => Res.guard (Nat.ble k d || atomV v) (.ok v)
    | _ => .bad).bind fun v => (slotsV ρ k is).bind fun vs => .ok (v :: vs)
def nodupB : List Nat → Bool
  | [] => true
  | i :: is => !(is.contains i) && nodupB is
def ixOf (n : Nat) (v : Val) : Res Nat := match v with
  | .int i => match L2.ixN n i with
    | some j => .ok j
    | none => .bad
  | _ => .bad
def asList : Val → Res (List Val)
  | .list xs => .ok xs
  | _ => .bad

def whileL (c : Env → Res Bool) (b : Env → Res Out) : Nat → Env → Res Out
  | 0, _ => .bad
  | n + 1, ρ => (c ρ).bind fun t => match t with
    | false => .ok (.nx ρ)
    | true => (b ρ).bind fun o => match o with
      | .nx ρ' => whileL c b n ρ'
      | .ct ρ' => whileL c b n ρ'
      | .bk ρ' => .ok (.nx ρ')
      | .rt v => .ok (.rt v)
def forL (b : Val → Env → Res Out) : List Val → Env → Res Out
  | [], ρ => .ok (.nx ρ)
  | v :: vs, ρ => (b v ρ).bind fun o => match o with
    | .nx ρ' => forL b vs ρ'
    | .ct ρ' => forL b vs ρ'
    | .bk ρ' => .ok (.nx ρ')
    | .rt v => .ok (.rt v)
/-- how many turns a while may have -/
def LIM : Nat := 1000000

section
variable (cf : Nat → List Val → Res Val)
mutual
def evalS : S → Env → Res Out
  | .frz l, ρ => .ok (.nx (dropL l ρ))
  | .kill l, ρ => .ok (.nx (killL l ρ))
  | .set i e d, ρ => (evalE cf 0 e ρ).bind fun v => Res.guard (Nat.blt i ρ.length) (.ok (.nx (ρ.set i (some (v, d)))))
  | .asg p e, ρ => (evalE cf 0 e ρ).bind fun v => (bindP p v ρ).bind fun ρ' => .ok (.nx ρ')
  | .app i e d, ρ => (evalE cf 0 e ρ).bind fun v => (getOwn ρ i (d + 1)).bind fun (xs, _) =>
      Res.guard (sizeOk (xs.length + 1)) (.ok (.nx (ρ.set i (some (.list (xs ++ [v]), d + 1)))))
  | .app2 i ix e, ρ => (getOwn ρ i 2).bind fun (xs, _) => (evalE cf 9 ix ρ).bind fun j => (ixOf xs.length j).bind fun j =>
      (evalE cf 0 e ρ).bind fun v => (ofOpt xs[j]?).bind fun l => (asList l).bind fun ys =>
      Res.guard (sizeOk (ys.length + 1)) (.ok (.nx (ρ.set i (some (.list (xs.set j (.list (ys ++ [v]))), 2)))))
  | .ext i e, ρ => (evalE cf 0 e ρ).bind fun v => (asList v).bind fun ys => (getOwn ρ i 1).bind fun (xs, _) =>
      Res.guard (sizeOk (xs.length + ys.length)) (.ok (.nx (ρ.set i (some (.list (xs ++ ys), 1)))))
  | .extv i j, ρ => (getOwn ρ j 1).bind fun (ys, _) => (getOwn ρ i 1).bind fun (xs, _) => Res.guard (!(i == j) && sizeOk (xs.length + ys.length))
      (.ok (.nx ((ρ.set j (some (.list ys, 1))).set i (some (.list (xs ++ ys), 1)))))
  | .sto i ix e d, ρ => (evalE cf 0 e ρ).bind fun v => (getOwn ρ i (d + 1)).bind fun (xs, _) => (evalE cf 9 ix ρ).bind fun j => (ixOf xs.length j).bind fun j =>
      .ok (.nx (ρ.set i (some (.list (xs.set j v), d + 1))))
  | .sto2 i ix jx e, ρ => (evalE cf 0 e ρ).bind fun v => (getOwn ρ i 2).bind fun (xs, _) => (evalE cf 9 ix ρ).bind fun j => (ixOf xs.length j).bind fun j =>
      (ofOpt xs[j]?).bind fun l => (asList l).bind fun ys => (evalE cf 9 jx ρ).bind fun k => (ixOf ys.length k).bind fun k =>
      .ok (.nx (ρ.set i (some (.list (xs.set j (.list (ys.set k v))), 2))))
  | .popP p i ix, ρ => (getOwn ρ i 1).bind fun (xs, _) => (match ix with
      | none => ixOf xs.length (.int (-1))
      | some e => (evalE cf 9 e ρ).bind fun j => ixOf xs.length j).bind fun j => (ofOpt xs[j]?).bind fun v =>
      (bindP p v (ρ.set i (some (.list (xs.eraseIdx j), 1)))).bind fun ρ' => .ok (.nx ρ')
  | .expr e, ρ => (evalE cf 0 e ρ).bind fun _ => .ok (.nx ρ)
  | .iff c a b, ρ => (evalE cf 9 c ρ).bind fun x => (asBool x).bind fun t => match t with
      | true => evalSs a ρ
      | false => evalSs b ρ
  | .for t it body, ρ => (evalE cf 0 it ρ).bind fun s => (asSeq s).bind fun xs => forL (fun v ρ => (bindP t v ρ).bind fun ρ' => evalSs body ρ') xs ρ
  | .whl c body, ρ => whileL (fun ρ => (evalE cf 9 c ρ).bind fun x => asBool x) (fun ρ => evalSs body ρ) LIM ρ
  | .ret e, ρ => (evalE cf 0 e ρ).bind fun v => .ok (.rt v)
  | .retv i k, ρ => match ρ[i]? with
      | some (some (v, d)) => Res.guard (Nat.ble k d) (.ok (.rt v))
      | _ => .bad
  | .rett is k, ρ => Res.guard (sizeOk is.length && nodupB is) ((slotsV ρ k is).bind fun vs => .ok (.rt (.tuple vs)))
  | .retN, _ => .ok (.rt .none)
  | .par i j a b, ρ => (evalE cf 0 a ρ).bind fun v => (evalE cf 0 b ρ).bind fun w =>
      Res.guard (Nat.blt i ρ.length && (Nat.blt j ρ.length && !(i == j))) (.ok (.nx ((ρ.set i (some (v, 0))).set j (some (w, 0)))))
  | .tapp i j e, ρ => (evalE cf 0 e ρ).bind fun v => match ρ[i]? with
      | some (some (.tuple vs, t)) => Res.guard (Nat.beq t 2) ((ofOpt vs[j]?).bind fun l => (asList l).bind fun ys =>
          Res.guard (sizeOk (ys.length + 1)) (.ok (.nx (ρ.set i (some (.tuple (vs.set j (.list (ys ++ [v]))), 2))))))
      | _ => .bad
  | .brk, ρ => .ok (.bk ρ)
  | .cont, ρ => .ok (.ct ρ)
  | .pass, ρ => .ok (.nx ρ)
  | .raise _ _, _ => .bad
def evalSs : List S → Env → Res Out
  | [], ρ => .ok (.nx ρ)
  | s :: ss, ρ => (evalS s ρ).bind fun o => match o with
    | .nx ρ' => evalSs ss ρ'
    | o => .ok o
end
end

/-- a def: its parameters' number, its slots' number, how deep its answer is new, its body -/
structure Def where
  np : Nat
  ns : Nat
  fr : Nat
  body : List S

abbrev Prog := Nat → Option Def

def fin : Out → Res Val
  | .nx _ => .ok .none
  | .rt v => .ok v
  | _ => .bad
def startE (d : Def) (vs : List Val) : Env := vs.map (fun v => some (v, 0)) ++ List.replicate (d.ns - d.np) none
def evalD (P : Prog) : Nat → Nat → List Val → Res Val
  | 0, _, _ => .bad
  | n + 1, f, vs => match P f with
    | some d => Res.guard (decide (vs.length = d.np)) ((evalSs (evalD P n) d.body (startE d vs)).bind fin)
    | none => .bad
end VL

/-! VL, part 2: how values stand in the abstract heap, and who owns the lists. -/
namespace VL
open PySem PySem.Spec L2
open PyProof.Rows hiding St

/-- what a def of the text may change -/
def isM : HO → Bool
  | .lst _ => true
  | _ => false

section
variable (K : PySem.W.Frag) (H : Hp) (F : Addr → Prop)
mutual
/-- u stands for v; each list that lies k deep or deeper is in F -/
def Rep : Nat → V → Val → Prop
  | _, u, .none => u = .non
  | _, u, .bool b => u = .bl b
  | _, u, .int i => u = .int i
  | _, u, .str z => u = .str z
  | k, u, .list xs => ∃ a ws, u = .ref a ∧ SqL K H a ws ∧ (k = 0 → F a ∨ ∀ H' : Hp, SqL K H' a ws) ∧ RepA (k - 1) ws xs
  | k, u, .tuple xs => ∃ a ws, u = .ref a ∧ SqT K H a ws ∧ RepA (k - 1) ws xs
  | _, _, .dict _ => False
def RepA : Nat → List V → List Val → Prop
  | _, ws, [] => ws = []
  | k, ws, x :: xs => ∃ w r, ws = w :: r ∧ Rep k w x ∧ RepA k r xs
end
mutual
/-- u stands for v; the lists less than d deep are those at S, and nobody else's; all others are in F -/
def Own : Nat → List Addr → V → Val → Prop
  | 0, S, u, v => S = [] ∧ Rep K H F 0 u v
  | d + 1, S, u, .list xs => ∃ a ws S', u = .ref a ∧ H a = some (.lst ws) ∧ S = a :: S' ∧ a ∉ S' ∧ OwnA d S' ws xs
  | d + 1, S, u, .tuple xs => ∃ a ws, u = .ref a ∧ SqT K H a ws ∧ OwnA d S ws xs
  | _ + 1, S, u, v => S = [] ∧ Rep K H F 0 u v
def OwnA : Nat → List Addr → List V → List Val → Prop
  | _, S, ws, [] => S = [] ∧ ws = []
  | d, S, ws, x :: xs => ∃ w r S1 S2, ws = w :: r ∧ S = S1 ++ S2 ∧ (∀ a ∈ S1, a ∉ S2) ∧ Own d S1 w x ∧ OwnA d S2 r xs
end
end

theorem rep_list {K : PySem.W.Frag} {H : Hp} {F : Addr → Prop} {k : Nat} {u : V} {xs : List Val} : Rep K H F k u (.list xs) ↔ ∃ a ws, u = .ref a ∧ SqL K H a ws ∧ (k = 0 → F a ∨ ∀ H' : Hp, SqL K H' a ws) ∧ RepA K H F (k - 1) ws xs := by
  rw [Rep]
theorem rep_tuple {K : PySem.W.Frag} {H : Hp} {F : Addr → Prop} {k : Nat} {u : V} {xs : List Val} : Rep K H F k u (.tuple xs) ↔ ∃ a ws, u = .ref a ∧ SqT K H a ws ∧ RepA K H F (k - 1) ws xs := by
  rw [Rep]

def atomB : Val → Bool
  | .list _ => false
  | .tuple _ => false
  | .dict _ => false
  | _ => true

section
variable {K : PySem.W.Frag} {H H' : Hp} {F F' : Addr → Prop}

def Keep (H H' : Hp) (F : Addr → Prop) : Prop := ∀ b o, H b = some o → (F b ∨ isM o = false) → H' b = some o
theorem Keep.same (h : Same H H') : Keep H H' F := fun b o e _ => h b o e

theorem sqT_keep {a : Addr} {ws : List V} (k : Keep H H' F) (h : SqT K H a ws) : SqT K H' a ws := by
  rcases h with (h | ⟨o, h⟩) | h
  · exact .inl (.inl (k a _ h (.inr rfl)))
  · exact .inl (.inr ⟨o, k a _ h (.inr rfl)⟩)
  · exact .inr h
theorem sqT_same {a : Addr} {ws : List V} (k : Same H H') (h : SqT K H a ws) : SqT K H' a ws := sqT_keep (F := fun _ => True) (Keep.same k) h
theorem sqL_keep {a : Addr} {ws : List V} (k : Keep H H' F) (f : F a ∨ ∀ H' : Hp, SqL K H' a ws) (h : SqL K H a ws) : SqL K H' a ws := by
  rcases f with f | f
  case inr => exact f H'
  rcases h with (h | ⟨o, h⟩) | h
  · exact .inl (.inl (k a _ h (.inl f)))
  · exact .inl (.inr ⟨o, k a _ h (.inl f)⟩)
  · exact .inr h

mutual
theorem rep_keep (k : Keep H H' F) (f : ∀ a, F a → F' a) : ∀ (v : Val) (u : V), Rep K H F 0 u v → Rep K H' F' 0 u v
  | .none, _, h => by simpa only [Rep] using h
  | .bool _, _, h => by simpa only [Rep] using h
  | .int _, _, h => by simpa only [Rep] using h
  | .str _, _, h => by simpa only [Rep] using h
  | .list xs, _, h => by
    obtain ⟨a, ws, e, h1, h2, h3⟩ := rep_list.mp h
    exact rep_list.mpr ⟨a, ws, e, sqL_keep k (h2 rfl) h1, fun z => (h2 z).imp (f a) id, repA_keep k f xs ws h3⟩
  | .tuple xs, _, h => by
    obtain ⟨a, ws, e, h1, h3⟩ := rep_tuple.mp h
    exact rep_tuple.mpr ⟨a, ws, e, sqT_keep k h1, repA_keep k f xs ws h3⟩
  | .dict _, _, h => by
    simp only [Rep] at h
theorem repA_keep (k : Keep H H' F) (f : ∀ a, F a → F' a) : ∀ (xs : List Val) (ws : List V), RepA K H F 0 ws xs → RepA K H' F' 0 ws xs
  | [], _, h => by simpa only [RepA] using h
  | x :: xs, _, h => by
    simp only [RepA] at h ⊢
    obtain ⟨w, r, e, h1, h2⟩ := h
    exact ⟨w, r, e, rep_keep k f x w h1, repA_keep k f xs r h2⟩
end
mutual
theorem rep_same (s : Same H H') (f : ∀ a, F a → F' a) : ∀ (v : Val) (k k' : Nat) (u : V), k ≤ k' → Rep K H F k u v → Rep K H' F' k' u v
  | .none, _, _, _, _, h => by simpa only [Rep] using h
  | .bool _, _, _, _, _, h => by simpa only [Rep] using h
  | .int _, _, _, _, _, h => by simpa only [Rep] using h
  | .str _, _, _, _, _, h => by simpa only [Rep] using h
  | .list xs, k, k', _, hk, h => by
    obtain ⟨a, ws, e, h1, h2, h3⟩ := rep_list.mp h
    exact rep_list.mpr ⟨a, ws, e, s.seq h1, fun z => (h2 (by omega)).imp (f a) id, repA_same s f xs (k - 1) (k' - 1) ws (by omega) h3⟩
  | .tuple xs, k, k', _, hk, h => by
    obtain ⟨a, ws, e, h1, h3⟩ := rep_tuple.mp h
    exact rep_tuple.mpr ⟨a, ws, e, sqT_same s h1, repA_same s f xs (k - 1) (k' - 1) ws (by omega) h3⟩
  | .dict _, _, _, _, _, h => by
    simp only [Rep] at h
theorem repA_same (s : Same H H') (f : ∀ a, F a → F' a) : ∀ (xs : List Val) (k k' : Nat) (ws : List V), k ≤ k' → RepA K H F k ws xs → RepA K H' F' k' ws xs
  | [], _, _, _, _, h => by simpa only [RepA] using h
  | x :: xs, k, k', _, hk, h => by
    simp only [RepA] at h ⊢
    obtain ⟨w, r, e, h1, h2⟩ := h
    exact ⟨w, r, e, rep_same s f x k k' w hk h1, repA_same s f xs k k' r hk h2⟩
end
theorem rep_up {k k' : Nat} {u : V} {v : Val} (hk : k ≤ k') (h : Rep K H F k u v) : Rep K H F k' u v := rep_same (fun _ _ e => e) (fun _ z => z) v k k' u hk h
theorem repA_up {k k' : Nat} {ws : List V} {xs : List Val} (hk : k ≤ k') (h : RepA K H F k ws xs) : RepA K H F k' ws xs := repA_same (fun _ _ e => e) (fun _ z => z) xs k k' ws hk h
theorem repA_length : ∀ {xs : List Val} {k : Nat} {ws : List V}, RepA K H F k ws xs → ws.length = xs.length
  | [], _, _, h => by
    simp only [RepA] at h
    subst h
    rfl
  | x :: xs, _, _, h => by
    simp only [RepA] at h
    obtain ⟨w, r, rfl, _, h2⟩ := h
    simp only [List.length_cons, repA_length h2]
theorem repA_get : ∀ {xs : List Val} {k : Nat} {ws : List V} {i : Nat} {x : Val}, RepA K H F k ws xs → xs[i]? = some x → ∃ w, ws[i]? = some w ∧ Rep K H F k w x
  | [], _, _, _, _, _, e => by simp at e
  | y :: xs, _, _, 0, x, h, e => by
    simp only [RepA] at h
    obtain ⟨w, r, rfl, h1, _⟩ := h
    simp at e
    subst e
    exact ⟨w, rfl, h1⟩
  | y :: xs, _, _, i + 1, x, h, e => by
    simp only [RepA] at h
    obtain ⟨w, r, rfl, _, h2⟩ := h
    obtain ⟨z, e1, e2⟩ := repA_get (i := i) h2 (by simpa using e)
    exact ⟨z, by simpa using e1, e2⟩
theorem repA_app : ∀ {xs ys : List Val} {k : Nat} {ws zs : List V}, RepA K H F k ws xs → RepA K H F k zs ys → RepA K H F k (ws ++ zs) (xs ++ ys)
  | [], _, _, _, _, h, h' => by
    simp only [RepA] at h
    subst h
    exact h'
  | x :: xs, _, _, _, _, h, h' => by
    simp only [RepA] at h
    obtain ⟨w, r, rfl, h1, h2⟩ := h
    simp only [List.cons_append, RepA]
    exact ⟨w, _, rfl, h1, repA_app h2 h'⟩
theorem repA_nil {k : Nat} : RepA K H F k [] [] := by simp only [RepA]
theorem repA_cons {k : Nat} {w : V} {ws : List V} {x : Val} {xs : List Val} (h : Rep K H F k w x) (h' : RepA K H F k ws xs) : RepA K H F k (w :: ws) (x :: xs) := by
  simp only [RepA]
  exact ⟨w, ws, rfl, h, h'⟩
theorem repA_one {k : Nat} {ws : List V} {x : Val} (h : RepA K H F k ws [x]) : ∃ w, ws = [w] ∧ Rep K H F k w x := by
  simp only [RepA] at h
  obtain ⟨w, r, rfl, h1, rfl⟩ := h
  exact ⟨w, rfl, h1⟩
theorem repA_two {k : Nat} {ws : List V} {x y : Val} (h : RepA K H F k ws [x, y]) : ∃ w z, ws = [w, z] ∧ Rep K H F k w x ∧ Rep K H F k z y := by
  simp only [RepA] at h
  obtain ⟨w, r, rfl, h1, z, r2, rfl, h2, rfl⟩ := h
  exact ⟨w, z, rfl, h1, h2⟩
theorem repA_take : ∀ {xs : List Val} {k : Nat} {ws : List V} (n : Nat), RepA K H F k ws xs → RepA K H F k (ws.take n) (xs.take n)
  | _, _, _, 0, _ => by simp only [List.take_zero]; exact repA_nil
  | [], _, _, n + 1, h => by
    simp only [RepA] at h
    subst h
    exact repA_nil
  | x :: xs, _, _, n + 1, h => by
    simp only [RepA] at h
    obtain ⟨w, r, rfl, h1, h2⟩ := h
    exact repA_cons h1 (repA_take n h2)
theorem repA_drop : ∀ {xs : List Val} {k : Nat} {ws : List V} (n : Nat), RepA K H F k ws xs → RepA K H F k (ws.drop n) (xs.drop n)
  | _, _, _, 0, h => h
  | [], _, _, n + 1, h => by
    simp only [RepA] at h
    subst h
    exact repA_nil
  | x :: xs, _, _, n + 1, h => by
    simp only [RepA] at h
    obtain ⟨w, r, rfl, _, h2⟩ := h
    exact repA_drop n h2
/-- .. by places -/
theorem repA_of : ∀ {xs : List Val} {k : Nat} {ws : List V}, ws.length = xs.length → (∀ (i : Nat) (w : V) (x : Val), ws[i]? = some w → xs[i]? = some x → Rep K H F k w x) → RepA K H F k ws xs
  | [], _, ws, hl, _ => by
    have e : ws = [] := List.length_eq_zero_iff.mp hl
    subst e
    exact repA_nil
  | x :: xs, _, [], hl, _ => by simp at hl
  | x :: xs, _, w :: ws, hl, h => repA_cons (h 0 w x rfl rfl) (repA_of (by simpa using hl) fun i w' x' e1 e2 => h (i + 1) w' x' (by simpa using e1) (by simpa using e2))
theorem rep_atom {k k' : Nat} {u : V} {v : Val} (a : atomB v = true) (h : Rep K H F k u v) : Rep K H' F' k' u v := by
  cases v with
  | list _ => cases a
  | tuple _ => cases a
  | dict _ => cases a
  | _ => simpa only [Rep] using h

/-! ### reading -/
mutual
theorem rep_dp : ∀ (v : Val) (k : Nat) (u : V), Rep K H F k u v → Dp K H u v
  | .none, _, _, h => by
    simp only [Rep] at h
    subst h
    exact .non
  | .bool b, _, _, h => by
    simp only [Rep] at h
    subst h
    exact .bl b
  | .int i, _, _, h => by
    simp only [Rep] at h
    subst h
    exact .int i
  | .str z, _, _, h => by
    simp only [Rep] at h
    subst h
    exact .str z
  | .list xs, k, _, h => by
    obtain ⟨a, ws, rfl, h1, _, h3⟩ := rep_list.mp h
    exact .lst h1 (repA_dp xs _ ws h3)
  | .tuple xs, k, _, h => by
    obtain ⟨a, ws, rfl, h1, h3⟩ := rep_tuple.mp h
    exact .tup h1 (repA_dp xs _ ws h3)
  | .dict _, _, _, h => by
    simp only [Rep] at h
theorem repA_dp : ∀ (xs : List Val) (k : Nat) (ws : List V), RepA K H F k ws xs → DpAll K H ws xs
  | [], _, _, h => by
    simp only [RepA] at h
    subst h
    exact .nil
  | x :: xs, k, _, h => by
    simp only [RepA] at h
    obtain ⟨w, r, rfl, h1, h2⟩ := h
    exact .cons (rep_dp x k w h1) (repA_dp xs k r h2)
end

/-! ### owning -/
theorem own_zero {S : List Addr} {u : V} {v : Val} : Own K H F 0 S u v ↔ S = [] ∧ Rep K H F 0 u v := by
  cases v <;> simp only [Own]
theorem own_atom {d : Nat} {S : List Addr} {u : V} {v : Val} (a : atomB v = true) : Own K H F d S u v ↔ S = [] ∧ Rep K H F 0 u v := by
  cases d with
  | zero => exact own_zero
  | succ d =>
    cases v with
    | list _ => cases a
    | tuple _ => cases a
    | dict _ => cases a
    | _ => simp only [Own]
mutual
theorem own_frame : ∀ (v : Val) (d : Nat) (S : List Addr) (u : V), Own K H F d S u v → (∀ b o, H b = some o → (F b ∨ isM o = false ∨ b ∈ S) → H' b = some o) → (∀ a, F a → F' a) → Own K H' F' d S u v
  | v, 0, S, u, h, k, f => by
    rw [own_zero] at h ⊢
    exact ⟨h.1, rep_keep (fun b o e c => k b o e (c.imp id .inl)) f v u h.2⟩
  | .list xs, d + 1, S, u, h, k, f => by
    simp only [Own] at h ⊢
    obtain ⟨a, ws, S', e, h1, rfl, h2, h3⟩ := h
    exact ⟨a, ws, S', e, k a _ h1 (.inr (.inr List.mem_cons_self)), rfl, h2, ownA_frame xs d S' ws h3 (fun b o e c => k b o e (c.imp id fun c => c.imp id fun c => List.mem_cons_of_mem _ c)) f⟩
  | .tuple xs, d + 1, S, u, h, k, f => by
    simp only [Own] at h ⊢
    obtain ⟨a, ws, e, h1, h3⟩ := h
    exact ⟨a, ws, e, sqT_keep (fun b o e c => k b o e (c.imp id .inl)) h1, ownA_frame xs d S ws h3 k f⟩
  | .none, d + 1, S, u, h, k, f => by
    rw [own_atom rfl] at h ⊢
    exact ⟨h.1, rep_atom rfl h.2⟩
  | .bool _, d + 1, S, u, h, k, f => by
    rw [own_atom rfl] at h ⊢
    exact ⟨h.1, rep_atom rfl h.2⟩
  | .int _, d + 1, S, u, h, k, f => by
    rw [own_atom rfl] at h ⊢
    exact ⟨h.1, rep_atom rfl h.2⟩
  | .str _, d + 1, S, u, h, k, f => by
    rw [own_atom rfl] at h ⊢
    exact ⟨h.1, rep_atom rfl h.2⟩
  | .dict _, d + 1, S, u, h, k, f => by
    simp only [Own, Rep] at h
    exact h.2.elim
theorem ownA_frame : ∀ (xs : List Val) (d : Nat) (S : List Addr) (ws : List V), OwnA K H F d S ws xs → (∀ b o, H b = some o → (F b ∨ isM o = false ∨ b ∈ S) → H' b = some o) → (∀ a, F a → F' a) → OwnA K H' F' d S ws xs
  | [], _, _, _, h, _, _ => by simpa only [OwnA] using h
  | x :: xs, d, S, ws, h, k, f => by
    simp only [OwnA] at h ⊢
    obtain ⟨w, r, S1, S2, e, rfl, hd, h1, h2⟩ := h
    exact ⟨w, r, S1, S2, e, rfl, hd, own_frame x d S1 w h1 (fun b o e c => k b o e (c.imp id fun c => c.imp id fun c => List.mem_append_left _ c)) f,
      ownA_frame xs d S2 r h2 (fun b o e c => k b o e (c.imp id fun c => c.imp id fun c => List.mem_append_right _ c)) f⟩
end
mutual
theorem own_dom : ∀ (v : Val) (d : Nat) (S : List Addr) (u : V), Own K H F d S u v → ∀ a ∈ S, ∃ ws, H a = some (.lst ws)
  | v, 0, S, u, h => by
    rw [own_zero] at h
    rw [h.1]
    intro a ha
    cases ha
  | .list xs, d + 1, S, u, h => by
    simp only [Own] at h
    obtain ⟨a, ws, S', e, h1, rfl, h2, h3⟩ := h
    intro b hb
    rcases List.mem_cons.mp hb with rfl | hb
    · exact ⟨ws, h1⟩
    · exact ownA_dom xs d S' ws h3 b hb
  | .tuple xs, d + 1, S, u, h => by
    simp only [Own] at h
    obtain ⟨a, ws, e, h1, h3⟩ := h
    exact ownA_dom xs d S ws h3
  | .none, d + 1, S, u, h => by
    rw [own_atom rfl] at h
    rw [h.1]
    intro a ha
    cases ha
  | .bool _, d + 1, S, u, h => by
    rw [own_atom rfl] at h
    rw [h.1]
    intro a ha
    cases ha
  | .int _, d + 1, S, u, h => by
    rw [own_atom rfl] at h
    rw [h.1]
    intro a ha
    cases ha
  | .str _, d + 1, S, u, h => by
    rw [own_atom rfl] at h
    rw [h.1]
    intro a ha
    cases ha
  | .dict _, d + 1, S, u, h => by
    simp only [Own, Rep] at h
    exact h.2.elim
theorem ownA_dom : ∀ (xs : List Val) (d : Nat) (S : List Addr) (ws : List V), OwnA K H F d S ws xs → ∀ a ∈ S, ∃ ws, H a = some (.lst ws)
  | [], _, _, _, h => by
    simp only [OwnA] at h
    rw [h.1]
    intro a ha
    cases ha
  | x :: xs, d, S, ws, h => by
    simp only [OwnA] at h
    obtain ⟨w, r, S1, S2, e, rfl, hd, h1, h2⟩ := h
    intro a ha
    rcases List.mem_append.mp ha with ha | ha
    · exact own_dom x d S1 w h1 a ha
    · exact ownA_dom xs d S2 r h2 a ha
end
mutual
theorem own_rep : ∀ (v : Val) (d : Nat) (S : List Addr) (u : V), Own K H F d S u v → Rep K H F d u v
  | v, 0, S, u, h => (own_zero.mp h).2
  | .list xs, d + 1, S, u, h => by
    simp only [Own] at h
    obtain ⟨a, ws, S', e, h1, rfl, h2, h3⟩ := h
    exact rep_list.mpr ⟨a, ws, e, SqL.of h1, fun z => (nomatch z), ownA_rep xs d S' ws h3⟩
  | .tuple xs, d + 1, S, u, h => by
    simp only [Own] at h
    obtain ⟨a, ws, e, h1, h3⟩ := h
    exact rep_tuple.mpr ⟨a, ws, e, h1, ownA_rep xs d S ws h3⟩
  | .none, d + 1, S, u, h => rep_atom rfl ((own_atom rfl).mp h).2
  | .bool _, d + 1, S, u, h => rep_atom rfl ((own_atom rfl).mp h).2
  | .int _, d + 1, S, u, h => rep_atom rfl ((own_atom rfl).mp h).2
  | .str _, d + 1, S, u, h => rep_atom rfl ((own_atom rfl).mp h).2
  | .dict _, d + 1, S, u, h => by
    simp only [Own, Rep] at h
    exact h.2.elim
theorem ownA_rep : ∀ (xs : List Val) (d : Nat) (S : List Addr) (ws : List V), OwnA K H F d S ws xs → RepA K H F d ws xs
  | [], _, _, _, h => by
    simp only [OwnA] at h
    simp only [RepA]
    exact h.2
  | x :: xs, d, S, ws, h => by
    simp only [OwnA, RepA] at h ⊢
    obtain ⟨w, r, S1, S2, e, rfl, hd, h1, h2⟩ := h
    exact ⟨w, r, e, own_rep x d S1 w h1, ownA_rep xs d S2 r h2⟩
end
mutual
/-- less is owned: the rest goes to F -/
theorem own_lower : ∀ (v : Val) (d k : Nat) (S : List Addr) (u : V), Own K H F d S u v → k ≤ d →
    ∃ S1, (∀ a ∈ S1, a ∈ S) ∧ ∀ F' : Addr → Prop, (∀ a, F a → F' a) → (∀ a ∈ S, a ∉ S1 → F' a) → Own K H F' k S1 u v
  | v, 0, k, S, u, h, hk => by
    have e : k = 0 := by omega
    subst e
    rw [own_zero] at h
    exact ⟨[], fun a ha => (nomatch ha), fun F' f _ => own_zero.mpr ⟨rfl, rep_keep (Keep.same fun _ _ e => e) f v u h.2⟩⟩
  | .list xs, d + 1, 0, S, u, h, hk => by
    simp only [Own] at h
    obtain ⟨a, ws, S', e, h1, rfl, h2, h3⟩ := h
    obtain ⟨T, t1, t2⟩ := ownA_lower xs d 0 S' ws h3 (Nat.zero_le _)
    refine ⟨[], fun a ha => (nomatch ha), fun F' f g => own_zero.mpr ⟨rfl, ?_⟩⟩
    have e0 : T = [] := by
      have q := t2 (fun _ => True) (fun _ _ => trivial) fun _ _ _ => trivial
      have q2 : ∀ (ys : List Val) (T : List Addr) (zs : List V), OwnA K H (fun _ => True) 0 T zs ys → T = [] := by
        intro ys
        induction ys with
        | nil =>
          intro T zs q
          simp only [OwnA] at q
          exact q.1
        | cons y ys ih =>
          intro T zs q
          simp only [OwnA] at q
          obtain ⟨w, r, S1, S2, e, rfl, hd, h1, h2⟩ := q
          rw [(own_zero.mp h1).1, ih _ _ h2]
          rfl
      exact q2 xs T ws q
    subst e0
    have q := t2 F' f fun a ha _ => g a (List.mem_cons_of_mem _ ha) (fun z => nomatch z)
    exact rep_list.mpr ⟨a, ws, e, SqL.of h1, fun _ => .inl (g a List.mem_cons_self (fun z => nomatch z)), ownA_rep xs 0 [] ws q⟩
  | .tuple xs, d + 1, 0, S, u, h, hk => by
    simp only [Own] at h
    obtain ⟨a, ws, e, h1, h3⟩ := h
    obtain ⟨T, t1, t2⟩ := ownA_lower xs d 0 S ws h3 (Nat.zero_le _)
    refine ⟨[], fun a ha => (nomatch ha), fun F' f g => own_zero.mpr ⟨rfl, ?_⟩⟩
    have e0 : T = [] := by
      have q := t2 (fun _ => True) (fun _ _ => trivial) fun _ _ _ => trivial
      have q2 : ∀ (ys : List Val) (T : List Addr) (zs : List V), OwnA K H (fun _ => True) 0 T zs ys → T = [] := by
        intro ys
        induction ys with
        | nil =>
          intro T zs q
          simp only [OwnA] at q
          exact q.1
        | cons y ys ih =>
          intro T zs q
          simp only [OwnA] at q
          obtain ⟨w, r, S1, S2, e, rfl, hd, h1, h2⟩ := q
          rw [(own_zero.mp h1).1, ih _ _ h2]
          rfl
      exact q2 xs T ws q
    subst e0
    have q := t2 F' f fun a ha _ => g a ha (fun z => nomatch z)
    exact rep_tuple.mpr ⟨a, ws, e, h1, ownA_rep xs 0 [] ws q⟩
  | .list xs, d + 1, k + 1, S, u, h, hk => by
    simp only [Own] at h
    obtain ⟨a, ws, S', e, h1, rfl, h2, h3⟩ := h
    obtain ⟨T, t1, t2⟩ := ownA_lower xs d k S' ws h3 (Nat.le_of_succ_le_succ hk)
    refine ⟨a :: T, fun b hb => ?_, fun F' f g => ?_⟩
    · rcases List.mem_cons.mp hb with rfl | hb
      · exact List.mem_cons_self
      · exact List.mem_cons_of_mem _ (t1 b hb)
    · simp only [Own]
      refine ⟨a, ws, T, e, h1, rfl, fun z => h2 (t1 a z), t2 F' f fun b hb hn => g b (List.mem_cons_of_mem _ hb) fun z => ?_⟩
      rcases List.mem_cons.mp z with rfl | z
      · exact h2 hb
      · exact hn z
  | .tuple xs, d + 1, k + 1, S, u, h, hk => by
    simp only [Own] at h
    obtain ⟨a, ws, e, h1, h3⟩ := h
    obtain ⟨T, t1, t2⟩ := ownA_lower xs d k S ws h3 (Nat.le_of_succ_le_succ hk)
    exact ⟨T, t1, fun F' f g => by
      simp only [Own]
      exact ⟨a, ws, e, h1, t2 F' f g⟩⟩
  | .none, d + 1, k, S, u, h, hk => ⟨[], fun a ha => (nomatch ha), fun F' _ _ => (own_atom rfl).mpr ⟨rfl, rep_atom rfl ((own_atom rfl).mp h).2⟩⟩
  | .bool _, d + 1, k, S, u, h, hk => ⟨[], fun a ha => (nomatch ha), fun F' _ _ => (own_atom rfl).mpr ⟨rfl, rep_atom rfl ((own_atom rfl).mp h).2⟩⟩
  | .int _, d + 1, k, S, u, h, hk => ⟨[], fun a ha => (nomatch ha), fun F' _ _ => (own_atom rfl).mpr ⟨rfl, rep_atom rfl ((own_atom rfl).mp h).2⟩⟩
  | .str _, d + 1, k, S, u, h, hk => ⟨[], fun a ha => (nomatch ha), fun F' _ _ => (own_atom rfl).mpr ⟨rfl, rep_atom rfl ((own_atom rfl).mp h).2⟩⟩
  | .dict _, d + 1, k, S, u, h, hk => by
    simp only [Own, Rep] at h
    exact h.2.elim
theorem ownA_lower : ∀ (xs : List Val) (d k : Nat) (S : List Addr) (ws : List V), OwnA K H F d S ws xs → k ≤ d →
    ∃ S1, (∀ a ∈ S1, a ∈ S) ∧ ∀ F' : Addr → Prop, (∀ a, F a → F' a) → (∀ a ∈ S, a ∉ S1 → F' a) → OwnA K H F' k S1 ws xs
  | [], _, _, _, _, h, _ => by
    simp only [OwnA] at h
    exact ⟨[], fun a ha => (nomatch ha), fun F' _ _ => by
      simp only [OwnA]
      exact ⟨trivial, h.2⟩⟩
  | x :: xs, d, k, S, ws, h, hk => by
    simp only [OwnA] at h
    obtain ⟨w, r, S1, S2, e, rfl, hd, h1, h2⟩ := h
    obtain ⟨T1, a1, a2⟩ := own_lower x d k S1 w h1 hk
    obtain ⟨T2, b1, b2⟩ := ownA_lower xs d k S2 r h2 hk
    refine ⟨T1 ++ T2, fun a ha => ?_, fun F' f g => ?_⟩
    · rcases List.mem_append.mp ha with ha | ha
      · exact List.mem_append_left _ (a1 a ha)
      · exact List.mem_append_right _ (b1 a ha)
    · simp only [OwnA]
      refine ⟨w, r, T1, T2, e, rfl, fun a ha hb => hd a (a1 a ha) (b1 a hb), a2 F' f fun a ha hn => g a (List.mem_append_left _ ha) fun z => ?_, b2 F' f fun a ha hn => g a (List.mem_append_right _ ha) fun z => ?_⟩
      · rcases List.mem_append.mp z with z | z
        · exact hn z
        · exact hd a ha (b1 a z)
      · rcases List.mem_append.mp z with z | z
        · exact hd a (a1 a z) ha
        · exact hn z
end
/-- nothing is owned any more -/
theorem own_freeze {d : Nat} {S : List Addr} {u : V} {v : Val} (h : Own K H F d S u v) (f : ∀ a, F a → F' a) (g : ∀ a ∈ S, F' a) : Rep K H F' 0 u v := by
  obtain ⟨S1, h1, h2⟩ := own_lower v d 0 S u h (Nat.zero_le _)
  have q := h2 F' f fun a ha _ => g a ha
  exact (own_zero.mp q).2
theorem ownA_freeze {d : Nat} {S : List Addr} {ws : List V} {xs : List Val} (h : OwnA K H F d S ws xs) (f : ∀ a, F a → F' a) (g : ∀ a ∈ S, F' a) : RepA K H F' 0 ws xs := by
  obtain ⟨S1, h1, h2⟩ := ownA_lower xs d 0 S ws h (Nat.zero_le _)
  exact ownA_rep xs 0 S1 ws (h2 F' f fun a ha _ => g a ha)
end
end VL

/-! VL, part 3: the frame's values, readings, and rules for expressions. -/
namespace VL
open PySem PySem.Spec L2
open PyProof.Rows hiding St

/-- the heap has grown: all that was tracked stands; what is new may be in F' -/
structure Grow (H : Hp) (F : Addr → Prop) (H' : Hp) (F' : Addr → Prop) : Prop where
  same : Same H H'
  sub : ∀ a, F a → F' a
  new : ∀ a, F' a → F a ∨ H a = none
  dom : ∀ a, F' a → H' a ≠ none
theorem Grow.trans {H H1 H2 : Hp} {F F1 F2 : Addr → Prop} (g : Grow H F H1 F1) (g' : Grow H1 F1 H2 F2) : Grow H F H2 F2 :=
  ⟨g.same.trans g'.same, fun a h => g'.sub a (g.sub a h), fun a h => by
    rcases g'.new a h with h | h
    · exact g.new a h
    · exact .inr (g.same.free h), g'.dom⟩
theorem Grow.refl {H : Hp} {F : Addr → Prop} (d : ∀ a, F a → H a ≠ none) : Grow H F H F := ⟨Same.refl H, fun _ h => h, fun _ h => .inl h, d⟩
/-- a new object, not in F -/
theorem Grow.put {H : Hp} {F : Addr → Prop} (d : ∀ a, F a → H a ≠ none) {p : Addr} {o : HO} (np : H p = none) : Grow H F (upd H p o) F :=
  ⟨fun b o' e => by rw [upd_ne (ne_of_none e np)]; exact e, fun _ h => h, fun _ h => .inl h, fun a h => by
    have := d a h
    by_cases e : a = p
    · subst e; exact absurd np this
    · rw [upd_ne e]; exact this⟩

structure Rel (K : PySem.W.Frag) (ρ : Env) (F : Addr → Prop) (O : Nat → List Addr) (σ : St) (H : Hp) : Prop where
  len : σ.length = ρ.length
  slot : ∀ (i : Nat) (v : Val) (d : Nat), ρ[i]? = some (some (v, d)) → ∃ u, σ[i]? = some (some u) ∧ Own K H F d (O i) u v
  empty : ∀ i : Nat, (∀ v d, ρ[i]? ≠ some (some (v, d))) → O i = []
  disj : ∀ i j a, i ≠ j → a ∈ O i → a ∉ O j
  notF : ∀ i a, a ∈ O i → ¬ F a
  dom : ∀ a, F a → H a ≠ none
section
variable {K : PySem.W.Frag} {ρ : Env} {F F' : Addr → Prop} {O : Nat → List Addr} {σ : St} {H H' : Hp}
theorem Rel.there (R : Rel K ρ F O σ H) {i : Nat} {a : Addr} (h : a ∈ O i) : ∃ ws, H a = some (.lst ws) := by
  cases e : ρ[i]? with
  | none =>
    rw [R.empty i fun v d => by rw [e]; simp] at h
    cases h
  | some x =>
    cases x with
    | none =>
      rw [R.empty i fun v d => by rw [e]; simp] at h
      cases h
    | some y =>
      obtain ⟨v, d⟩ := y
      obtain ⟨u, _, q⟩ := R.slot i v d e
      exact own_dom v d _ u q a h
theorem Rel.grow (R : Rel K ρ F O σ H) (g : Grow H F H' F') : Rel K ρ F' O σ H' where
  len := R.len
  slot := fun i v d e => by
    obtain ⟨u, e1, q⟩ := R.slot i v d e
    exact ⟨u, e1, own_frame v d _ u q (fun b o e _ => g.same b o e) g.sub⟩
  empty := R.empty
  disj := R.disj
  notF := fun i a h f => by
    rcases g.new a f with f | f
    · exact R.notF i a h f
    · obtain ⟨ws, e⟩ := R.there h
      rw [f] at e
      cases e
  dom := g.dom
end

structure Par where
  cf : Nat → List Val → Res Val
  ca : Str → Addr
  W : WX
/-- an error of the program, as it lies -/
def XR (ca : Str → Addr) (c : Str) (v : Val) (cls : Value) (d : Option Addr) (H : Hp) : Prop :=
  cls = .ref (ca c) ∧ ∃ dx i, v = .int i ∧ d = some dx ∧ H dx = some (.xd [("at", V.int i)])

def Run (p : Par) {α : Type} (r : Res α) (σ : St) (H : Hp) (good : α → Prop) : Prop := match r with
  | .ok v => good v
  | .exc x v => ∀ cls d H', Same H H' → XR p.ca x v cls d H' → p.W cls d σ H'
  | .bad => False
section
variable {p : Par} {α β : Type} {σ : St} {H H' : Hp}
theorem Run.bind {r : Res α} {f : α → Res β} {good : β → Prop} (h : Run p (r.bind f) σ H good) : Run p r σ H fun a => Run p (f a) σ H good := by
  cases r with
  | ok a => exact h
  | exc x v => exact h
  | bad => exact h
theorem Run.imp {r : Res α} {good good' : α → Prop} (h : Run p r σ H good) (s : Same H H') (g : ∀ a, r = .ok a → good a → good' a) : Run p r σ H' good' := by
  cases r with
  | ok a => exact g a rfl h
  | exc x v => exact fun cls d H1 s1 x1 => h cls d H1 (s.trans s1) x1
  | bad => exact h
theorem Run.at {r : Res α} {good : α → Prop} (h : Run p r σ H good) (s : Same H H') : Run p r σ H' good := h.imp s fun _ _ z => z
theorem Run.ok {r : Res α} {good : α → Prop} (h : Run p r σ H good) (n : ∀ c v, r ≠ .exc c v) : ∃ a, r = .ok a ∧ good a := by
  cases r with
  | ok a => exact ⟨a, rfl, h⟩
  | exc x v => exact absurd rfl (n x v)
  | bad => exact h.elim
theorem Run.map {r : Res α} {f : α → β} {good : β → Prop} (h : Run p (r.bind fun a => .ok (f a)) σ H good) : Run p r σ H fun a => good (f a) := h.bind
end

/-! ### readings -/
section
variable (K : PySem.W.Frag) (p : Par)
def tE (k : Nat) (c : E) : TE := fun σ H Q => ∃ ρ F O, Rel K ρ F O σ H ∧ Run p (evalE p.cf k c ρ) σ H fun v => ∀ u H' F', Grow H F H' F' → Rep K H' F' k u v → Q u H'
def tO (d : Nat) (c : E) : TE := fun σ H Q => ∃ ρ F O, Rel K ρ F O σ H ∧ Run p (evalE p.cf 0 c ρ) σ H fun v => ∀ u H' F' S, Grow H F H' F' → Own K H' F' d S u v → (∀ a ∈ S, H a = none ∧ ¬ F' a) → Q u H'
def tT (c : E) : TT := fun σ H Q => ∃ ρ F O, Rel K ρ F O σ H ∧ Run p ((evalE p.cf 9 c ρ).bind asBool) σ H fun b => ∀ H' F', Grow H F H' F' → Q b H'
def tA (k : Nat) (cs : List E) : TA := fun σ H Q => ∃ ρ F O, Rel K ρ F O σ H ∧ Run p (evalEs p.cf k cs ρ) σ H fun vs => ∀ us H' F', Grow H F H' F' → RepA K H' F' k us vs → Q us H'
def tAO (d : Nat) (cs : List E) : TA := fun σ H Q => ∃ ρ F O, Rel K ρ F O σ H ∧ Run p (evalEs p.cf 0 cs ρ) σ H fun vs => ∀ us H' F' S, Grow H F H' F' → OwnA K H' F' d S us vs → (∀ a ∈ S, H a = none ∧ ¬ F' a) → Q us H'
end
structure VE (X : Cx) (p : Par) (e : Expr) (c : E) : Prop where
  run : ∀ k, PE X e (tE X.K p k c)
structure VO (X : Cx) (p : Par) (e : Expr) (c : E) (d : Nat) : Prop where
  run : PE X e (tO X.K p d c)
structure VT (X : Cx) (p : Par) (e : Expr) (c : E) : Prop where
  run : PT X e (tT X.K p c)
structure VA (X : Cx) (p : Par) (es : List Expr) (cs : List E) : Prop where
  run : ∀ k, PA X es (tA X.K p k cs)
structure VAO (X : Cx) (p : Par) (es : List Expr) (cs : List E) (d : Nat) : Prop where
  run : PA X es (tAO X.K p d cs)

theorem PE.imp {X : Cx} {e : Expr} {t t' : TE} (h : PE X e t) (i : ∀ σ H Q, t' σ H Q → t σ H Q) : PE X e t' := ⟨fun pins s σ H Q I q => h.run pins s σ H Q I (i σ H Q q)⟩
theorem PT.imp {X : Cx} {e : Expr} {t t' : TT} (h : PT X e t) (i : ∀ σ H Q, t' σ H Q → t σ H Q) : PT X e t' := ⟨fun pins s σ H Q I q => h.run pins s σ H Q I (i σ H Q q)⟩
theorem PA.imp {X : Cx} {es : List Expr} {t t' : TA} (h : PA X es t) (i : ∀ σ H Q, t' σ H Q → t σ H Q) : PA X es t' := ⟨fun pos pins s σ H Q I q => h.run pos pins s σ H Q I (i σ H Q q)⟩
theorem PSs.imp {X : Cx} {st : List Stmt} {t t' : TS} (h : PSs X st t) (i : ∀ D σ H, t' D σ H → t D σ H) : PSs X st t' := ⟨fun pins s σ H D I q => h.run pins s σ H D I (i D σ H q)⟩
theorem PS.imp {X : Cx} {st : Stmt} {t t' : TS} (h : PS X st t) (i : ∀ D σ H, t' D σ H → t D σ H) : PS X st t' := ⟨fun pins s σ H D I q => h.run pins s σ H D I (i D σ H q)⟩

section
variable {X : Cx} {p : Par} {e : Expr} {c : E} {σ : St} {H : Hp} {pos : Pos}

/-! ### between the readings -/
/-- what is new may be handed on to F -/
theorem Grow.take {K : PySem.W.Frag} {H H' : Hp} {F F' : Addr → Prop} {d : Nat} {S : List Addr} {u : V} {v : Val} (g : Grow H F H' F') (o : Own K H' F' d S u v) (n : ∀ a ∈ S, H a = none ∧ ¬ F' a) :
    Grow H F H' (fun a => F' a ∨ a ∈ S) ∧ Rep K H' (fun a => F' a ∨ a ∈ S) 0 u v :=
  ⟨⟨g.same, fun a h => .inl (g.sub a h), fun a h => h.elim (g.new a) fun h => .inr (n a h).1, fun a h => h.elim (g.dom a) fun h => by
    obtain ⟨ws, e⟩ := own_dom v d S u o a h
    rw [e]
    simp⟩, own_freeze o (fun a h => .inl h) fun a h => .inr h⟩
theorem Grow.takeA {K : PySem.W.Frag} {H H' : Hp} {F F' : Addr → Prop} {d : Nat} {S : List Addr} {us : List V} {vs : List Val} (g : Grow H F H' F') (o : OwnA K H' F' d S us vs) (n : ∀ a ∈ S, H a = none ∧ ¬ F' a) :
    Grow H F H' (fun a => F' a ∨ a ∈ S) ∧ RepA K H' (fun a => F' a ∨ a ∈ S) 0 us vs :=
  ⟨⟨g.same, fun a h => .inl (g.sub a h), fun a h => h.elim (g.new a) fun h => .inr (n a h).1, fun a h => h.elim (g.dom a) fun h => by
    obtain ⟨ws, e⟩ := ownA_dom vs d S us o a h
    rw [e]
    simp⟩, ownA_freeze o (fun a h => .inl h) fun a h => .inr h⟩
theorem VO.ve {d : Nat} (h : VO X p e c d) (hk : ∀ k ρ, evalE p.cf k c ρ = evalE p.cf 0 c ρ := by intros; rfl) : VE X p e c := ⟨fun k => PE.imp h.run fun σ H Q ⟨ρ, F, O, R, r⟩ => ⟨ρ, F, O, R, by
  rw [hk k ρ] at r
  exact r.imp (Same.refl H) fun v _ q u H' F' S g o n => q u H' _ (g.take o n).1 (rep_up (Nat.zero_le _) (g.take o n).2)⟩⟩
theorem VE.vo (h : VE X p e c) : VO X p e c 0 := ⟨PE.imp (h.run 0) fun σ H Q ⟨ρ, F, O, R, r⟩ => ⟨ρ, F, O, R, r.imp (Same.refl H) fun v _ q u H' F' g rp => q u H' F' [] g (own_zero.mpr ⟨rfl, rp⟩) fun _ z => (nomatch z)⟩⟩
theorem VE.vt (h : VE X p e c) (he : ∀ whole, isTrue e X.env whole = (do let v ← whole; standAt e.pos; holding [v] (truthy v)) := by intro _; rfl) : VT X p e c :=
  ⟨PT.imp (pt_val (h.run 9) he) fun σ H Q ⟨ρ, F, O, R, r⟩ => ⟨ρ, F, O, R, r.bind.imp (Same.refl H) fun v _ q u H' F' g rp => by
    cases v with
    | bool b =>
      simp only [Rep] at rp
      exact ⟨b, rp, q H' F' g⟩
    | _ => exact q.elim⟩⟩

/-! ### names and constants -/
theorem ve_var (i : Nat) {x : Str} (hN : X.N[i]? = some x := by rfl) (hv : Vis X.env.scope x := by first | exact Or.inl rfl | exact Or.inr (Or.inl rfl) | exact Or.inr (Or.inr rfl)) (hd : (x == ("__debug__" : Str)) = false := by decide)
    (hcd : (x == ("__classdict__" : Str)) = false := by decide) : VE X p (.Name x pos) (.var i) := by
  refine ⟨fun k => PE.imp (pe_var hN hv hd hcd) fun σ H Q ⟨ρ, F, O, R, r⟩ => ?_⟩
  show ∃ v, σ[i]? = some (some v) ∧ Q v H
  have r' : Run p (getV ρ i k) σ H _ := r
  unfold getV at r'
  cases q : ρ[i]? with
  | none =>
    rw [q] at r'
    exact r'.elim
  | some y =>
    rw [q] at r'
    cases y with
    | none => exact r'.elim
    | some z =>
      obtain ⟨v, d⟩ := z
      cases hb : Nat.ble d k with
      | false =>
        simp only [hb, Res.guard] at r'
        exact r'.elim
      | true =>
        simp only [hb, Res.guard] at r'
        obtain ⟨u, e1, o⟩ := R.slot i v d q
        exact ⟨u, e1, r' u H F (Grow.refl R.dom) (rep_up (Nat.le_of_ble_eq_true hb) (own_rep v d _ u o))⟩
theorem tC_of {v : Val} {u : V} {k : Nat} (hr : ∀ (K : PySem.W.Frag) (H : Hp) (F : Addr → Prop) (k : Nat), Rep K H F k u v) {K : PySem.W.Frag} {Q : VK} (h : tE K p k (.cst v) σ H Q) : tC u σ H Q := by
  obtain ⟨ρ, F, O, R, r⟩ := h
  exact r u H F (Grow.refl R.dom) (hr _ _ _ _)
theorem ve_int {i : Int} {j : Nat} : VE X p (.Constant (.int i) j pos) (.cst (.int i)) := ⟨fun k => PE.imp pe_int fun _ _ _ h => tC_of (fun _ _ _ _ => by simp only [Rep]) h⟩
theorem ve_bl {b : Bool} {j : Nat} : VE X p (.Constant (.bool b) j pos) (.cst (.bool b)) := ⟨fun k => PE.imp pe_bl fun _ _ _ h => tC_of (fun _ _ _ _ => by simp only [Rep]) h⟩
theorem ve_non {j : Nat} : VE X p (.Constant .none j pos) (.cst .none) := ⟨fun k => PE.imp pe_non fun _ _ _ h => tC_of (fun _ _ _ _ => by simp only [Rep]) h⟩
theorem ve_str {z : Str} {j : Nat} : VE X p (.Constant (.str z) j pos) (.cst (.str z)) := ⟨fun k => PE.imp pe_str fun _ _ _ h => tC_of (fun _ _ _ _ => by simp only [Rep]) h⟩
theorem ve_gint {x : Str} {i : Int} (hm : ∃ t, X.mg x = some (.int i t)) (hg : Gl X x := by rfl) (hd : (x == ("__debug__" : Str)) = false := by decide) : VE X p (.Name x pos) (.cst (.int i)) := by
  obtain ⟨t, hm⟩ := hm
  exact ⟨fun k => PE.imp (pe_glob (v := V.int i) hg hm ⟨t, rfl⟩ hd) fun _ _ _ h => tC_of (fun _ _ _ _ => by simp only [Rep]) h⟩

/-! ### argument lists -/
theorem va_nil : VA X p [] [] := ⟨fun k => PA.imp pa_nil fun σ H Q ⟨ρ, F, O, R, r⟩ => r [] H F (Grow.refl R.dom) repA_nil⟩
theorem va_cons {es : List Expr} {cs : List E} (h : VE X p e c) (hs : VA X p es cs) (hse : starEach (e :: es) X.env = (false, eval e X.env) :: starEach es X.env := by rfl) : VA X p (e :: es) (c :: cs) := by
  refine ⟨fun k => PA.imp (pa_cons (h.run k) (hs.run k) hse) fun σ H Q ⟨ρ, F, O, R, r⟩ => ?_⟩
  have r1 : Run p ((evalE p.cf k c ρ).bind fun v => (evalEs p.cf k cs ρ).bind fun vs => .ok (v :: vs)) σ H _ := r
  refine ⟨ρ, F, O, R, r1.bind.imp (Same.refl H) fun x _ q u H1 F1 g1 h1 => ⟨ρ, F1, O, R.grow g1, q.bind.imp g1.same fun vs _ q2 us H2 F2 g2 h2 => ?_⟩⟩
  exact q2 (u :: us) H2 F2 (g1.trans g2) (repA_cons (rep_same g2.same g2.sub x k k u (Nat.le_refl _) h1) h2)
theorem vao_nil {d : Nat} : VAO X p [] [] d := ⟨PA.imp pa_nil fun σ H Q ⟨ρ, F, O, R, r⟩ => r [] H F [] (Grow.refl R.dom) (by simp only [OwnA]; exact ⟨trivial, trivial⟩) fun _ z => (nomatch z)⟩
theorem vao_cons {d : Nat} {es : List Expr} {cs : List E} (h : VO X p e c d) (hs : VAO X p es cs d) (hse : starEach (e :: es) X.env = (false, eval e X.env) :: starEach es X.env := by rfl) : VAO X p (e :: es) (c :: cs) d := by
  refine ⟨PA.imp (pa_cons h.run hs.run hse) fun σ H Q ⟨ρ, F, O, R, r⟩ => ?_⟩
  have r1 : Run p ((evalE p.cf 0 c ρ).bind fun v => (evalEs p.cf 0 cs ρ).bind fun vs => .ok (v :: vs)) σ H _ := r
  refine ⟨ρ, F, O, R, r1.bind.imp (Same.refl H) fun x _ q u H1 F1 S1 g1 h1 n1 => ⟨ρ, F1, O, R.grow g1, q.bind.imp g1.same fun vs _ q2 us H2 F2 S2 g2 h2 n2 => ?_⟩⟩
  have nF : ∀ a ∈ S1, ¬ F2 a := fun a ha f => by
    rcases g2.new a f with f | f
    · exact (n1 a ha).2 f
    · obtain ⟨ws, e1⟩ := own_dom x d S1 u h1 a ha
      rw [f] at e1
      cases e1
  refine q2 (u :: us) H2 F2 (S1 ++ S2) (g1.trans g2) ?_ fun a ha => ?_
  · simp only [OwnA]
    refine ⟨u, us, S1, S2, rfl, rfl, fun a ha hb => ?_, own_frame x d S1 u h1 (fun b o e1 _ => g2.same b o e1) g2.sub, h2⟩
    obtain ⟨ws, e1⟩ := own_dom x d S1 u h1 a ha
    rw [(n2 a hb).1] at e1
    cases e1
  · rcases List.mem_append.mp ha with ha | ha
    · exact ⟨(n1 a ha).1, nF a ha⟩
    · exact ⟨g1.same.free (n2 a ha).1, (n2 a ha).2⟩

/-! ### operators -/
/-- what an operator's rule asks, from what its operands stand for -/
def Sp2 (K : PySem.W.Frag) (o : Op) (r : R2) : Prop := ∀ (k : Nat) (H : Hp) (F : Addr → Prop) (u w : V) (x y v : Val) (Q : VK), (∀ a, F a → H a ≠ none) → Rep K H F (octx o k) u x → Rep K H F (octx o k) w y → den o [x, y] = .ok v →
  (∀ z H' F', Grow H F H' F' → Rep K H' F' k z v → Q z H') → r u w H Q
def Sp2O (K : PySem.W.Frag) (o : Op) (r : R2) (d : Nat) : Prop := ∀ (H : Hp) (F : Addr → Prop) (u w : V) (x y v : Val) (Q : VK), (∀ a, F a → H a ≠ none) → Rep K H F (octx o 0) u x → Rep K H F (octx o 0) w y → den o [x, y] = .ok v →
  (∀ z H' F' S, Grow H F H' F' → Own K H' F' d S z v → (∀ a ∈ S, H a = none ∧ ¬ F' a) → Q z H') → r u w H Q
def NoX {α : Type} (r : Res α) : Prop := ∀ c v, r ≠ .exc c v
theorem tE_op2 {o : Op} {r : R2} {ca cb : E} {k : Nat} {Q : VK} {K : PySem.W.Frag} (sp : Sp2 K o r) (nx : ∀ vs, NoX (den o vs)) (h : tE K p k (.op o [ca, cb]) σ H Q) : tOp r (tE K p (octx o k) ca) (tE K p (octx o k) cb) σ H Q := by
  obtain ⟨ρ, F, O, R, h⟩ := h
  have h1 : Run p (((evalE p.cf (octx o k) ca ρ).bind fun x => ((evalE p.cf (octx o k) cb ρ).bind fun y => Res.ok [y]).bind fun ys => .ok (x :: ys)).bind fun vs => den o vs) σ H _ := h
  have h2 := h1.bind.bind
  refine ⟨ρ, F, O, R, h2.imp (Same.refl H) fun x _ q u H1 F1 g1 r1 => ⟨ρ, F1, O, R.grow g1, q.bind.bind.imp g1.same fun y _ q2 w H2 F2 g2 r2 => ?_⟩⟩
  have q3 : Run p (den o [x, y]) σ H _ := q2
  obtain ⟨v, e, q4⟩ := q3.ok (nx _)
  exact sp k H2 F2 u w x y v Q g2.dom (rep_same g2.same g2.sub x _ _ u (Nat.le_refl _) r1) r2 e fun z H' F' g3 r3 => q4 z H' F' (g1.trans (g2.trans g3)) r3
theorem tO_op2 {o : Op} {r : R2} {ca cb : E} {d : Nat} {Q : VK} {K : PySem.W.Frag} (sp : Sp2O K o r d) (nx : ∀ vs, NoX (den o vs)) (h : tO K p d (.op o [ca, cb]) σ H Q) : tOp r (tE K p (octx o 0) ca) (tE K p (octx o 0) cb) σ H Q := by
  obtain ⟨ρ, F, O, R, h⟩ := h
  have h1 : Run p (((evalE p.cf (octx o 0) ca ρ).bind fun x => ((evalE p.cf (octx o 0) cb ρ).bind fun y => Res.ok [y]).bind fun ys => .ok (x :: ys)).bind fun vs => den o vs) σ H _ := h
  have h2 := h1.bind.bind
  refine ⟨ρ, F, O, R, h2.imp (Same.refl H) fun x _ q u H1 F1 g1 r1 => ⟨ρ, F1, O, R.grow g1, q.bind.bind.imp g1.same fun y _ q2 w H2 F2 g2 r2 => ?_⟩⟩
  have q3 : Run p (den o [x, y]) σ H _ := q2
  obtain ⟨v, e, q4⟩ := q3.ok (nx _)
  refine sp H2 F2 u w x y v Q g2.dom (rep_same g2.same g2.sub x _ _ u (Nat.le_refl _) r1) r2 e fun z H' F' S g3 r3 n3 => q4 z H' F' S (g1.trans (g2.trans g3)) r3 fun a ha => ⟨(g1.trans g2).same.free (n3 a ha).1, (n3 a ha).2⟩
end
end VL

/-! VL, part 4: rules for operators. -/
namespace VL
open PySem PySem.Spec L2
open PyProof.Rows hiding St

theorem nx_ok {α : Type} {a : α} : NoX (Res.ok a) := fun _ _ h => nomatch h
theorem nx_bad {α : Type} : NoX (Res.bad : Res α) := fun _ _ h => nomatch h
theorem nx_guard {α : Type} {c : Bool} {r : Res α} (h : NoX r) : NoX (Res.guard c r) := by
  cases c with
  | true => exact h
  | false => exact nx_bad
theorem nx_opt {o : Option Val} : NoX (ofOpt o) := by
  cases o with
  | some v => exact nx_ok
  | none => exact nx_bad
theorem den_nx (o : Op) (vs : List Val) : NoX (den o vs) := by
  unfold den
  split
  all_goals first
    | exact nx_ok
    | exact nx_bad
    | exact nx_guard nx_ok
    | (unfold vAdd; split <;> first | exact nx_ok | exact nx_bad | exact nx_guard nx_ok)
    | (unfold vSub; split <;> first | exact nx_ok | exact nx_bad | exact nx_guard nx_ok)
    | (unfold vMul; split <;> first | exact nx_ok | exact nx_bad | exact nx_guard nx_ok)
    | (unfold vDiv; split <;> first | exact nx_ok | exact nx_bad | exact nx_guard nx_ok)
    | (unfold vMod; split <;> first | exact nx_ok | exact nx_bad | exact nx_guard nx_ok)
    | (unfold vPow; split <;> first | exact nx_ok | exact nx_bad | exact nx_guard nx_ok)
    | (unfold vShl; split <;> first | exact nx_ok | exact nx_bad | exact nx_guard nx_ok)
    | (unfold vShr; split <;> first | exact nx_ok | exact nx_bad | exact nx_guard nx_ok)
    | (unfold vAnd; split <;> first | exact nx_ok | exact nx_bad | exact nx_guard nx_ok)
    | (unfold vOr; split <;> first | exact nx_ok | exact nx_bad | exact nx_guard nx_ok)
    | (unfold vEq; exact nx_guard nx_ok)
    | (unfold vNe; exact nx_guard nx_ok)
    | (unfold vLt vCmp; split <;> first | exact nx_ok | exact nx_bad | (split <;> first | exact nx_ok | exact nx_bad))
    | (unfold vLe; split <;> first | exact nx_ok | exact nx_bad)
    | (unfold vGt; split <;> first | exact nx_ok | exact nx_bad)
    | (unfold vGe vCmp; split <;> first | exact nx_ok | exact nx_bad | (split <;> first | exact nx_ok | exact nx_bad))
    | (unfold vIn; split <;> first | exact nx_bad | exact nx_guard nx_ok)
    | (unfold vNotIn; split <;> first | exact nx_bad | exact nx_guard nx_ok)
    | (unfold vIs; split <;> first | exact nx_ok | exact nx_bad)
    | (unfold vIsNot; split <;> first | exact nx_ok | exact nx_bad)
    | (unfold vIdx; split <;> first | exact nx_opt | exact nx_bad)
    | (unfold vSlice; split <;> first | exact nx_ok | exact nx_bad)
    | (unfold vLst; split <;> first | exact nx_bad | exact nx_guard nx_ok)
    | (unfold vTup; split <;> first | exact nx_bad | exact nx_guard nx_ok)
    | (unfold vLen; split <;> first | exact nx_ok | exact nx_bad)
    | (unfold vSorted; split <;> first | exact nx_bad | exact nx_guard nx_ok)
    | (unfold vIndex; split <;> first | exact nx_bad | exact nx_guard (by split <;> first | exact nx_ok | exact nx_bad))
    | (unfold vSortedSet; split <;> first | exact nx_bad | (split <;> first | exact nx_bad | exact nx_guard nx_ok))
    | (split <;> first | exact nx_ok | exact nx_bad)

/-- two rules for one operator -/
theorem OpR.or {X : Cx} {f : Value → Value → Sem Value} {r r' : R2} (h : OpR X f r) (h' : OpR X f r') : OpR X f (fun x y H Q => r x y H Q ∨ r' x y H Q) := by
  intro pins s σ H x y v u Q I rx ry q
  rcases q with q | q
  · exact h pins s σ H x y v u Q I rx ry q
  · exact h' pins s σ H x y v u Q I rx ry q

section
variable {K : PySem.W.Frag} {H H' : Hp} {F F' : Addr → Prop} {k : Nat} {u w : V}
theorem rep_int {i : Int} : Rep K H F k u (.int i) ↔ u = .int i := by simp only [Rep]
theorem rep_bool {b : Bool} : Rep K H F k u (.bool b) ↔ u = .bl b := by simp only [Rep]
theorem rep_none : Rep K H F k u .none ↔ u = .non := by simp only [Rep]
theorem rep_str {z : Str} : Rep K H F k u (.str z) ↔ u = .str z := by simp only [Rep]
/-- a new list, all of whose items lie in F -/
theorem own_new {p : Addr} {ws : List V} {xs : List Val} (d : ∀ a, F a → H a ≠ none) (np : H p = none) (h : RepA K H F 0 ws xs) :
    Grow H F (upd H p (.lst ws)) F ∧ Own K (upd H p (.lst ws)) F 1 [p] (.ref p) (.list xs) ∧ ∀ a ∈ [p], H a = none ∧ ¬ F a := by
  refine ⟨Grow.put d np, ?_, fun a ha => ?_⟩
  · simp only [Own]
    refine ⟨p, ws, [], rfl, upd_same, rfl, fun z => (nomatch z), ?_⟩
    have q : RepA K (upd H p (.lst ws)) F 0 ws xs := repA_same (Grow.put d np).same (fun _ z => z) xs 0 0 ws (Nat.le_refl _) h
    clear h np
    induction xs generalizing ws with
    | nil =>
      simp only [RepA] at q
      simp only [OwnA]
      exact ⟨trivial, q⟩
    | cons x xs ih => exact ownA_of_repA q
  · have e : a = p := by simpa using ha
    subst e
    exact ⟨np, fun f => d a f np⟩
where
  ownA_of_repA {K : PySem.W.Frag} {H : Hp} {F : Addr → Prop} : ∀ {xs : List Val} {ws : List V}, RepA K H F 0 ws xs → OwnA K H F 0 [] ws xs
  | [], ws, h => by
    simp only [RepA] at h
    simp only [OwnA]
    exact ⟨trivial, h⟩
  | x :: xs, ws, h => by
    simp only [RepA] at h
    obtain ⟨w, r, e, h1, h2⟩ := h
    simp only [OwnA]
    exact ⟨w, r, [], [], e, rfl, fun a ha => (nomatch ha), own_zero.mpr ⟨rfl, h1⟩, ownA_of_repA h2⟩
end

section
variable {X : Cx} {p : Par} {a b c : Expr} {ca cb cc : E} {pos : Pos}

/-! ### operators of two ints -/
theorem ve_bin {op : Operator} {o : Op} {r : R2} (hr : OpR X (binaryOp op) r) (sp : Sp2 X.K o r) (ha : VE X p a ca) (hb : VE X p b cb) : VE X p (.BinOp a op b pos) (.op o [ca, cb]) :=
  ⟨fun k => PE.imp (pe_op hr (ha.run _) (hb.run _)) fun σ H Q h => tE_op2 sp (den_nx o) h⟩
theorem vo_bin {op : Operator} {o : Op} {r : R2} {d : Nat} (hr : OpR X (binaryOp op) r) (sp : Sp2O X.K o r d) (ha : VE X p a ca) (hb : VE X p b cb) : VO X p (.BinOp a op b pos) (.op o [ca, cb]) d :=
  ⟨PE.imp (pe_op hr (ha.run _) (hb.run _)) fun σ H Q h => tO_op2 sp (den_nx o) h⟩
theorem ve_cmp {op : CmpOp} {o : Op} {r : R2} (hr : OpR X (compareOp op) r) (sp : Sp2 X.K o r) (ha : VE X p a ca) (hb : VE X p b cb) (hm : behindInMarks op b = false) : VE X p (.Compare a [op] [b] pos) (.op o [ca, cb]) :=
  ⟨fun k => PE.imp (pe_cmpR hr (ha.run _) (hb.run _) hm) fun σ H Q h => tE_op2 sp (den_nx o) h⟩
theorem vt_cmp {op : CmpOp} {o : Op} {r : R2} (hr : OpR X (compareOp op) r) (sp : Sp2 X.K o r) (ha : VE X p a ca) (hb : VE X p b cb) (hm : behindInMarks op b = false) : VT X p (.Compare a [op] [b] pos) (.op o [ca, cb]) :=
  ⟨PT.imp (pt_cmpR hr (ha.run _) (hb.run _) hm) fun σ H Q ⟨ρ, F, O, R, h⟩ => by
    refine tE_op2 (k := 9) sp (den_nx o) ⟨ρ, F, O, R, h.bind.imp (Same.refl H) fun v _ q u H' F' g rp => ?_⟩
    cases v with
    | bool t => exact ⟨t, rep_bool.mp rp, q H' F' g⟩
    | _ => exact q.elim⟩

theorem sp_ints {K : PySem.W.Frag} {o : Op} {C : Int → Int → Prop} {g : Int → Int → V} {f : Int → Int → Val} (hd : ∀ x y v, den o [x, y] = .ok v → ∃ i j, x = .int i ∧ y = .int j ∧ C i j ∧ v = f i j)
    (hg : ∀ K H F k i j, Rep K H F k (g i j) (f i j)) : Sp2 K o (rI C g) := by
  intro k H F u w x y v Q d hu hw e q
  obtain ⟨i, j, rfl, rfl, hc, rfl⟩ := hd x y v e
  exact ⟨i, j, rep_int.mp hu, rep_int.mp hw, hc, q _ H F (Grow.refl d) (hg _ _ _ _ i j)⟩
theorem sp_ints0 {K : PySem.W.Frag} {o : Op} {g : Int → Int → V} {f : Int → Int → Val} (hd : ∀ x y v, den o [x, y] = .ok v → ∃ i j, x = .int i ∧ y = .int j ∧ v = f i j)
    (hg : ∀ K H F k i j, Rep K H F k (g i j) (f i j)) : Sp2 K o (rI0 g) := by
  intro k H F u w x y v Q d hu hw e q
  obtain ⟨i, j, rfl, rfl, rfl⟩ := hd x y v e
  exact ⟨i, j, rep_int.mp hu, rep_int.mp hw, q _ H F (Grow.refl d) (hg _ _ _ _ i j)⟩
theorem ve_sub (ha : VE X p a ca) (hb : VE X p b cb) : VE X p (.BinOp a .Sub b pos) (.op .sub [ca, cb]) :=
  ve_bin op_sub (sp_ints0 (f := fun i j => .int (i - j)) (fun x y v h => by
    simp only [den] at h
    unfold vSub at h
    split at h
    · cases h
      exact ⟨_, _, rfl, rfl, rfl⟩
    · cases h) fun _ _ _ _ _ _ => rep_int.mpr rfl) ha hb
theorem ve_mul (ha : VE X p a ca) (hb : VE X p b cb) : VE X p (.BinOp a .Mult b pos) (.op .mul [ca, cb]) :=
  ve_bin op_mulW (sp_ints (f := fun i j => .int (i * j)) (fun x y v h => by
    simp only [den] at h
    unfold vMul at h
    split at h
    · obtain ⟨h1, h2⟩ := Res.guard_ok h
      cases h2
      have h3 := of_decide_eq_true h1
      exact ⟨_, _, rfl, rfl, Nat.lt_trans h3 (by decide), rfl⟩
    · cases h) fun _ _ _ _ _ _ => rep_int.mpr rfl) ha hb
theorem ve_fdiv (ha : VE X p a ca) (hb : VE X p b cb) : VE X p (.BinOp a .FloorDiv b pos) (.op .fdiv [ca, cb]) :=
  ve_bin op_fdiv (sp_ints (f := fun i j => .int (i / j)) (fun x y v h => by
    simp only [den] at h
    unfold vDiv at h
    split at h
    · obtain ⟨h1, h2⟩ := Res.guard_ok h
      cases h2
      have h3 := Bool.and_eq_true_iff.mp h1
      exact ⟨_, _, rfl, rfl, ⟨of_decide_eq_true h3.1, of_decide_eq_true h3.2⟩, rfl⟩
    · cases h) fun _ _ _ _ _ _ => rep_int.mpr rfl) ha hb
theorem ve_mod (ha : VE X p a ca) (hb : VE X p b cb) : VE X p (.BinOp a .Mod b pos) (.op .mod [ca, cb]) :=
  ve_bin op_mod (sp_ints (f := fun i j => .int (i % j)) (fun x y v h => by
    simp only [den] at h
    unfold vMod at h
    split at h
    · obtain ⟨h1, h2⟩ := Res.guard_ok h
      cases h2
      exact ⟨_, _, rfl, rfl, of_decide_eq_true h1, rfl⟩
    · cases h) fun _ _ _ _ _ _ => rep_int.mpr rfl) ha hb
theorem expOk_of {i j : Int} (h : expOk i j = true) : CPow i j := by
  obtain ⟨h1, h2⟩ := Bool.and_eq_true_iff.mp h
  obtain ⟨h3, h4⟩ := Bool.and_eq_true_iff.mp h2
  exact ⟨of_decide_eq_true h1, of_decide_eq_true h3, of_decide_eq_true h4⟩
theorem ve_pow (ha : VE X p a ca) (hb : VE X p b cb) : VE X p (.BinOp a .Pow b pos) (.op .pow [ca, cb]) :=
  ve_bin op_pow (sp_ints (f := fun i j => .int (i ^ j.toNat)) (fun x y v h => by
    simp only [den] at h
    unfold vPow at h
    split at h
    · obtain ⟨h1, h2⟩ := Res.guard_ok h
      cases h2
      exact ⟨_, _, rfl, rfl, expOk_of h1, rfl⟩
    · cases h) fun _ _ _ _ _ _ => rep_int.mpr rfl) ha hb
theorem ve_shl (ha : VE X p a ca) (hb : VE X p b cb) : VE X p (.BinOp a .LShift b pos) (.op .shl [ca, cb]) :=
  ve_bin op_shl (sp_ints (f := fun i j => .int (i * 2 ^ j.toNat)) (fun x y v h => by
    simp only [den] at h
    unfold vShl at h
    split at h
    · obtain ⟨h1, h2⟩ := Res.guard_ok h
      cases h2
      exact ⟨_, _, rfl, rfl, expOk_of h1, rfl⟩
    · cases h) fun _ _ _ _ _ _ => rep_int.mpr rfl) ha hb
theorem ve_shr (ha : VE X p a ca) (hb : VE X p b cb) : VE X p (.BinOp a .RShift b pos) (.op .shr [ca, cb]) :=
  ve_bin op_shr (sp_ints (f := fun i j => .int (i / 2 ^ j.toNat)) (fun x y v h => by
    simp only [den] at h
    unfold vShr at h
    split at h
    · obtain ⟨h1, h2⟩ := Res.guard_ok h
      cases h2
      exact ⟨_, _, rfl, rfl, of_decide_eq_true h1, rfl⟩
    · cases h) fun _ _ _ _ _ _ => rep_int.mpr rfl) ha hb
theorem ve_band (ha : VE X p a ca) (hb : VE X p b cb) : VE X p (.BinOp a .BitAnd b pos) (.op .band [ca, cb]) :=
  ve_bin op_and (sp_ints0 (f := fun i j => .int (Builtin.bitAnd i j)) (fun x y v h => by
    simp only [den] at h
    unfold vAnd at h
    split at h
    · cases h
      exact ⟨_, _, rfl, rfl, rfl⟩
    · cases h) fun _ _ _ _ _ _ => rep_int.mpr rfl) ha hb
theorem ve_bor (ha : VE X p a ca) (hb : VE X p b cb) : VE X p (.BinOp a .BitOr b pos) (.op .bor [ca, cb]) :=
  ve_bin op_or (sp_ints0 (f := fun i j => .int (Builtin.bitOr i j)) (fun x y v h => by
    simp only [den] at h
    unfold vOr at h
    split at h
    · cases h
      exact ⟨_, _, rfl, rfl, rfl⟩
    · cases h) fun _ _ _ _ _ _ => rep_int.mpr rfl) ha hb

/-! ### + of ints, of lists -/
def rCatL (K : PySem.W.Frag) : R2 := fun x y H Q => ∃ l m ws zs, x = .ref l ∧ y = .ref m ∧ SqL K H l ws ∧ SqL K H m zs ∧ ws.length + zs.length ≤ sizeLine ∧ ∀ P, H P = none → Q (.ref P) (upd H P (.lst (ws ++ zs)))
theorem op_catL : OpR X (binaryOp .Add) (rCatL X.K) := by
  intro pins s σ H x y v u Q I rx ry h
  obtain ⟨l, m, ws, zs, rfl, rfl, sl, sm, hz, q⟩ := h
  cases rx
  cases ry
  obtain ⟨its, r, ⟨⟨c1, d1, t1, s1⟩, n1, o1, k1, _, e1⟩, _⟩ := I.list sl
  obtain ⟨jts, r2, ⟨⟨c2, d2, t2, s2⟩, n2, o2, k2, _, e2⟩, _⟩ := I.list sm
  simp only at k1 e1 k2 e2
  subst k1 e1 k2 e2
  have a1 := r.length
  have a2 := r2.length
  refine concat_meets ⟨_, o1, rfl⟩ ⟨_, o2, rfl⟩ noFill_list_add seq_list_add PySem.F.slot_list_add PySem.F.entry_list_add (PySem.F.args_list_add_2 _ _)
    (PyProof.Rows.list_addW l m its.toArray jts.toArray n1 n2 d1 d2 s1 s2 (by rw [List.size_toArray, List.size_toArray]; omega)) ⟨o1, o2, ?_⟩
  have ea : its.toArray ++ jts.toArray = (its ++ jts).toArray := by simp
  rw [ea]
  exact ⟨.ref _, _, I.lnew (t' := s.toks) (r.append r2) (by rw [List.length_append]; omega), rfl, q _ I.fresh⟩
theorem sizeOk_of {n : Nat} (h : sizeOk n = true) : n ≤ sizeLine := of_decide_eq_true h
theorem vo_add (ha : VE X p a ca) (hb : VE X p b cb) : VO X p (.BinOp a .Add b pos) (.op .add [ca, cb]) 1 :=
  vo_bin (op_add.or op_catL) (fun H F u w x y v Q d hu hw e q => by
    simp only [den] at e
    unfold vAdd at e
    split at e
    · cases e
      exact .inl ⟨_, _, rep_int.mp hu, rep_int.mp hw, q _ H F [] (Grow.refl d) ((own_atom rfl).mpr ⟨rfl, rep_int.mpr rfl⟩) fun _ z => (nomatch z)⟩
    · obtain ⟨h1, h2⟩ := Res.guard_ok e
      cases h2
      obtain ⟨l, ws, rfl, sl, _, rl⟩ := rep_list.mp hu
      obtain ⟨m, zs, rfl, sm, _, rm⟩ := rep_list.mp hw
      refine .inr ?_
      have r1 : RepA X.K H F 0 ws _ := rl
      have r2 : RepA X.K H F 0 zs _ := rm
      have hn := sizeOk_of h1
      have l1 := repA_length r1
      have l2 := repA_length r2
      refine ⟨l, m, ws, zs, rfl, rfl, sl, sm, by omega, fun P nP => ?_⟩
      obtain ⟨g, o, n⟩ := own_new d nP (repA_app r1 r2)
      exact q _ _ F [P] g o n
    · cases e) ha hb
end
end VL

/-! VL, part 5: comparisons, items, slices, and, or, displays. -/
namespace VL
open PySem PySem.Spec L2
open PyProof.Rows hiding St

theorem intsOf_eq : ∀ {xs : List Val} {is : List Int}, intsOf xs = some is → xs = is.map .int
  | [], _, h => by
    cases h
    rfl
  | .int i :: r, is, h => by
    simp only [intsOf] at h
    cases e : intsOf r with
    | none =>
      rw [e] at h
      cases h
    | some js =>
      rw [e] at h
      cases h
      rw [intsOf_eq e]
      rfl
  | .none :: _, _, h => by simp [intsOf] at h
  | .bool _ :: _, _, h => by simp [intsOf] at h
  | .str _ :: _, _, h => by simp [intsOf] at h
  | .list _ :: _, _, h => by simp [intsOf] at h
  | .tuple _ :: _, _, h => by simp [intsOf] at h
  | .dict _ :: _, _, h => by simp [intsOf] at h
theorem intsOf_map (is : List Int) : intsOf (is.map .int) = some is := by
  induction is with
  | nil => rfl
  | cons i r ih => simp only [List.map_cons, intsOf, ih, Option.map_some]
theorem boolsOf_eq : ∀ {xs : List Val} {bs : List Bool}, boolsOf xs = some bs → xs = bs.map .bool
  | [], _, h => by
    cases h
    rfl
  | .bool i :: r, is, h => by
    simp only [boolsOf] at h
    cases e : boolsOf r with
    | none =>
      rw [e] at h
      cases h
    | some js =>
      rw [e] at h
      cases h
      rw [boolsOf_eq e]
      rfl
  | .none :: _, _, h => by simp [boolsOf] at h
  | .int _ :: _, _, h => by simp [boolsOf] at h
  | .str _ :: _, _, h => by simp [boolsOf] at h
  | .list _ :: _, _, h => by simp [boolsOf] at h
  | .tuple _ :: _, _, h => by simp [boolsOf] at h
  | .dict _ :: _, _, h => by simp [boolsOf] at h
theorem boolsOf_map (is : List Bool) : boolsOf (is.map .bool) = some is := by
  induction is with
  | nil => rfl
  | cons i r ih => simp only [List.map_cons, boolsOf, ih, Option.map_some]

section
variable {K : PySem.W.Frag} {H H' : Hp} {F F' : Addr → Prop} {k : Nat} {u w : V}
theorem repA_ints : ∀ {is : List Int} {ws : List V}, RepA K H F k ws (is.map .int) → ws = is.map V.int
  | [], _, h => by
    simpa only [List.map_nil, RepA] using h
  | i :: is, _, h => by
    simp only [List.map_cons, RepA] at h
    obtain ⟨w, r, rfl, h1, h2⟩ := h
    rw [rep_int.mp h1, repA_ints h2]
    rfl
theorem repA_of_ints : ∀ {is : List Int}, RepA K H F k (is.map V.int) (is.map .int)
  | [] => repA_nil
  | i :: is => repA_cons (rep_int.mpr rfl) repA_of_ints
theorem repA_bools : ∀ {is : List Bool} {ws : List V}, RepA K H F k ws (is.map .bool) → ws = is.map V.bl
  | [], _, h => by
    simpa only [List.map_nil, RepA] using h
  | i :: is, _, h => by
    simp only [List.map_cons, RepA] at h
    obtain ⟨w, r, rfl, h1, h2⟩ := h
    rw [rep_bool.mp h1, repA_bools h2]
    rfl
theorem repA_at {xs : List Val} {ws : List V} {i : Int} {v : Val} (h : RepA K H F k ws xs) (e : atV xs i = some v) : ∃ w, atI ws i = some w ∧ Rep K H F k w v := by
  unfold atV L2.atI at e
  unfold L2.atI
  rw [repA_length h]
  cases q : L2.ixN xs.length i with
  | none =>
    rw [q] at e
    cases e
  | some j =>
    rw [q] at e
    obtain ⟨w, e1, e2⟩ := repA_get h (show xs[j]? = some v from e)
    exact ⟨w, e1, e2⟩
end

/-! ### two int tuples by >= -/
theorem lexAt_ge : ∀ (k i : Nat) (ns ms : List Int), min (ns.length - i) (ms.length - i) = k → i ≤ ns.length → i ≤ ms.length →
    Ob.lexAt (fun j => decide (ns.getD j 0 = ms.getD j 0)) (fun j => decide (ms.getD j 0 ≤ ns.getD j 0)) (decide (ns.length ≥ ms.length)) i k = !HT.lexLt (ns.drop i) (ms.drop i)
  | 0, i, ns, ms, hk, h1, h2 => by
    rw [Ob.lexAt_zero]
    by_cases e : ns.length ≤ i
    · rw [List.drop_eq_nil_of_le e]
      by_cases e2 : ms.length ≤ i
      · rw [List.drop_eq_nil_of_le e2, HT.lexLt_nil_nil, decide_eq_true (by omega)]
        rfl
      · obtain ⟨y, r, q⟩ : ∃ y r, ms.drop i = y :: r := by
          cases q : ms.drop i with
          | nil =>
            have := congrArg List.length q
            rw [List.length_drop, List.length_nil] at this
            omega
          | cons y r => exact ⟨y, r, rfl⟩
        rw [q, HT.lexLt_nil_cons, decide_eq_false (by omega)]
        rfl
    · have e2 : ms.length ≤ i := by omega
      rw [List.drop_eq_nil_of_le e2]
      obtain ⟨y, r, q⟩ : ∃ y r, ns.drop i = y :: r := by
        cases q : ns.drop i with
        | nil =>
          have := congrArg List.length q
          rw [List.length_drop, List.length_nil] at this
          omega
        | cons y r => exact ⟨y, r, rfl⟩
      rw [q, HT.lexLt_cons_nil, decide_eq_true (by omega)]
      rfl
  | k + 1, i, ns, ms, hk, h1, h2 => by
    have a1 : i < ns.length := by omega
    have a2 : i < ms.length := by omega
    have g1 : ns.getD i 0 = ns[i] := by simp [a1]
    have g2 : ms.getD i 0 = ms[i] := by simp [a2]
    rw [Ob.lexAt_succ, List.drop_eq_getElem_cons a1, List.drop_eq_getElem_cons a2, HT.lexLt_cons, g1, g2]
    by_cases e : ns[i] = ms[i]
    · rw [if_pos e, decide_eq_true e, if_pos rfl]
      exact lexAt_ge k (i + 1) ns ms (by omega) (by omega) (by omega)
    · rw [if_neg e, decide_eq_false e, if_neg Bool.false_ne_true]
      by_cases l : ns[i] < ms[i]
      · rw [decide_eq_true l, decide_eq_false (by omega)]
        rfl
      · rw [decide_eq_false l, decide_eq_true (by omega)]
        rfl
def rGeT (K : PySem.W.Frag) : R2 := fun x y H Q => ∃ a b ns ms, x = .ref a ∧ y = .ref b ∧ SqT K H a (ns.map V.int) ∧ SqT K H b (ms.map V.int) ∧ Q (.bl (!HT.lexLt ns ms)) H
theorem op_geT {X : Cx} (hu : X.A.units < cLine) : OpR X (compareOp .GtE) (rGeT X.K) := by
  intro pins s σ H x y v u Q I rx ry h
  obtain ⟨a, b, ns, ms, rfl, rfl, ha, hb, q⟩ := h
  cases rx
  cases ry
  obtain ⟨its, r1, p1, _⟩ := I.tuple ha
  obtain ⟨jts, r2, p2, _⟩ := I.tuple hb
  have i1 := Vals.ints r1
  have i2 := Vals.ints r2
  have n1 := i1.length
  have n2 := i2.length
  have c1 : ∀ (j : Nat) (hj : j < its.toArray.size), ∃ t, its.toArray[j] = .int (ns.getD j 0) t := fun j hj => PyProof.Rows.IntsAre.int_at i1 _ _ (by simp at hj; simp [hj])
  have c2 : ∀ (j : Nat) (hj : j < jts.toArray.size), ∃ t, jts.toArray[j] = .int (ms.getD j 0) t := fun j hj => PyProof.Rows.IntsAre.int_at i2 _ _ (by simp at hj; simp [hj])
  have key := Ob.RcOp.tuples_ge (A := X.A) (s := s) (e := fun j => decide (ns.getD j 0 = ms.getD j 0)) (r := fun j => decide (ms.getD j 0 ≤ ns.getD j 0)) p1 p2 hu
    (fun j h1 h2 => by
      obtain ⟨t1, z1⟩ := c1 j h1
      obtain ⟨t2, z2⟩ := c2 j h2
      rw [z1, z2, ← Bool.beq_eq_decide_eq]
      exact SeqAt.EqAt.int_int _ _ _ _)
    (fun j h1 h2 _ => by
      obtain ⟨t1, z1⟩ := c1 j h1
      obtain ⟨t2, z2⟩ := c2 j h2
      rw [z1, z2]
      exact Ob.RcOp.ge_int _ _ _ _)
  have e0 : (decide (its.toArray.size ≥ jts.toArray.size)) = decide (ns.length ≥ ms.length) := by
    rw [List.size_toArray, List.size_toArray, n1, n2]
  have e1 : min its.toArray.size jts.toArray.size = min ns.length ms.length := by
    rw [List.size_toArray, List.size_toArray, n1, n2]
  rw [e0, e1, lexAt_ge _ 0 ns ms (by simp) (Nat.zero_le _) (Nat.zero_le _)] at key
  exact key X.prog X.w X.xe (EP X pins σ Q) ⟨.bl _, H, I, rfl, q⟩

section
variable {X : Cx} {p : Par} {a b c e : Expr} {ca cb cc ce : E} {pos : Pos}

/-! ### comparisons -/
theorem sp_cmpI {K : PySem.W.Frag} {o : Op} {f : Int → Int → Bool} (hd : ∀ x y v, den o [x, y] = .ok v → ∃ i j, x = .int i ∧ y = .int j ∧ v = .bool (f i j)) : Sp2 K o (rI0 fun i j => .bl (f i j)) :=
  sp_ints0 (f := fun i j => .bool (f i j)) hd fun _ _ _ _ _ _ => rep_bool.mpr rfl
theorem sp_le {K : PySem.W.Frag} : Sp2 K .le (rI0 fun i j => .bl (decide (i ≤ j))) := sp_cmpI fun x y v h => by
  simp only [den] at h
  unfold vLe at h
  split at h
  · cases h
    exact ⟨_, _, rfl, rfl, rfl⟩
  · cases h
theorem sp_gt {K : PySem.W.Frag} : Sp2 K .gt (rI0 fun i j => .bl (decide (j < i))) := sp_cmpI fun x y v h => by
  simp only [den] at h
  unfold vGt at h
  split at h
  · cases h
    exact ⟨_, _, rfl, rfl, rfl⟩
  · cases h
theorem sp_lt {K : PySem.W.Frag} : Sp2 K .lt (fun x y H Q => rI0 (fun i j => .bl (decide (i < j))) x y H Q ∨ rLtT K x y H Q) := by
  intro k H F u w x y v Q d hu hw h q
  simp only [den] at h
  unfold vLt vCmp at h
  split at h
  · cases h
    exact .inl ⟨_, _, rep_int.mp hu, rep_int.mp hw, q _ H F (Grow.refl d) (rep_bool.mpr rfl)⟩
  · split at h
    · rename_i e1 e2
      cases h
      obtain ⟨l, ws, rfl, s1, r1⟩ := rep_tuple.mp hu
      obtain ⟨m, zs, rfl, s2, r2⟩ := rep_tuple.mp hw
      rw [intsOf_eq e1] at r1
      rw [intsOf_eq e2] at r2
      rw [repA_ints r1] at s1
      rw [repA_ints r2] at s2
      exact .inr ⟨l, m, _, _, rfl, rfl, s1, s2, q _ H F (Grow.refl d) (rep_bool.mpr rfl)⟩
    · cases h
  · cases h
theorem sp_ge {K : PySem.W.Frag} : Sp2 K .ge (fun x y H Q => rI0 (fun i j => .bl (decide (j ≤ i))) x y H Q ∨ rGeT K x y H Q) := by
  intro k H F u w x y v Q d hu hw h q
  simp only [den] at h
  unfold vGe vCmp at h
  split at h
  · cases h
    exact .inl ⟨_, _, rep_int.mp hu, rep_int.mp hw, q _ H F (Grow.refl d) (rep_bool.mpr rfl)⟩
  · split at h
    · rename_i e1 e2
      cases h
      obtain ⟨l, ws, rfl, s1, r1⟩ := rep_tuple.mp hu
      obtain ⟨m, zs, rfl, s2, r2⟩ := rep_tuple.mp hw
      rw [intsOf_eq e1] at r1
      rw [intsOf_eq e2] at r2
      rw [repA_ints r1] at s1
      rw [repA_ints r2] at s2
      exact .inr ⟨l, m, _, _, rfl, rfl, s1, s2, q _ H F (Grow.refl d) (rep_bool.mpr rfl)⟩
    · cases h
  · cases h
theorem shaped_two {x y : Val} (h : (shapedB x && shapedB y) = true) : SeqAt.shaped x = true ∧ SeqAt.shaped y = true := Bool.and_eq_true_iff.mp h
theorem sp_eq {K : PySem.W.Frag} : Sp2 K .eq (rEqD K) := by
  intro k H F u w x y v Q d hu hw h q
  simp only [den] at h
  obtain ⟨h1, h2⟩ := Res.guard_ok h
  cases h2
  obtain ⟨s1, s2⟩ := shaped_two h1
  exact ⟨x, y, rep_dp x _ u hu, rep_dp y _ w hw, s1, s2, q _ H F (Grow.refl d) (rep_bool.mpr rfl)⟩
theorem sp_ne {K : PySem.W.Frag} : Sp2 K .ne (rNeD K) := by
  intro k H F u w x y v Q d hu hw h q
  simp only [den] at h
  obtain ⟨h1, h2⟩ := Res.guard_ok h
  cases h2
  obtain ⟨s1, s2⟩ := shaped_two h1
  exact ⟨x, y, rep_dp x _ u hu, rep_dp y _ w hw, s1, s2, q _ H F (Grow.refl d) (rep_bool.mpr rfl)⟩
def rInT (K : PySem.W.Frag) (neg : Bool) : R2 := fun x y H Q => ∃ d ds, Dp K H x d ∧ Dp K H y (.tuple ds) ∧ SeqAt.shaped d = true ∧ SeqAt.shaped (.tuple ds) = true ∧ Q (.bl (if neg then !memB d ds else memB d ds)) H
theorem op_inT (hu : X.A.units + 65 < cLine) : OpR X (compareOp .In) (rInT X.K false) := by
  intro pins s σ H x y v u Q I rx ry h
  obtain ⟨d, ds, hd, he, sd, se, q⟩ := h
  obtain ⟨as, r1⟩ := hd.reads I d x v rx
  obtain ⟨bs, r2⟩ := he.reads I (.tuple ds) y u ry
  have lay : PyData.canLayAll0 ds = true := by
    have z := SeqAt.canLay_of_shaped se
    simpa only [PyData.canLay0] using z
  exact SeqAt.in_tuple_reads r2 r1 lay (SeqAt.canLay_of_shaped sd) (room_in_shaped sd hu) ⟨.bl _, H, I, rfl, q⟩
theorem op_notInT (hu : X.A.units + 65 < cLine) : OpR X (compareOp .NotIn) (rInT X.K true) := by
  intro pins s σ H x y v u Q I rx ry h
  obtain ⟨d, ds, hd, he, sd, se, q⟩ := h
  obtain ⟨as, r1⟩ := hd.reads I d x v rx
  obtain ⟨bs, r2⟩ := he.reads I (.tuple ds) y u ry
  have lay : PyData.canLayAll0 ds = true := by
    have z := SeqAt.canLay_of_shaped se
    simpa only [PyData.canLay0] using z
  exact SeqAt.notIn_tuple_reads r2 r1 lay (SeqAt.canLay_of_shaped sd) (room_in_shaped sd hu) ⟨.bl _, H, I, rfl, q⟩
theorem sp_in {K : PySem.W.Frag} : Sp2 K .isin (fun x y H Q => rInD K x y H Q ∨ rInT K false x y H Q) := by
  intro k H F u w x y v Q d hu hw h q
  simp only [den] at h
  unfold vIn at h
  split at h
  · obtain ⟨h1, h2⟩ := Res.guard_ok h
    cases h2
    obtain ⟨s1, s2⟩ := shaped_two h1
    exact .inl ⟨x, _, rep_dp x _ u hu, rep_dp _ _ w hw, s1, s2, q _ H F (Grow.refl d) (rep_bool.mpr rfl)⟩
  · obtain ⟨h1, h2⟩ := Res.guard_ok h
    cases h2
    obtain ⟨s1, s2⟩ := shaped_two h1
    exact .inr ⟨x, _, rep_dp x _ u hu, rep_dp _ _ w hw, s1, s2, q _ H F (Grow.refl d) (rep_bool.mpr rfl)⟩
  · cases h
theorem sp_notin {K : PySem.W.Frag} : Sp2 K .notin (fun x y H Q => rNotInD K x y H Q ∨ rInT K true x y H Q) := by
  intro k H F u w x y v Q d hu hw h q
  simp only [den] at h
  unfold vNotIn at h
  split at h
  · obtain ⟨h1, h2⟩ := Res.guard_ok h
    cases h2
    obtain ⟨s1, s2⟩ := shaped_two h1
    exact .inl ⟨x, _, rep_dp x _ u hu, rep_dp _ _ w hw, s1, s2, q _ H F (Grow.refl d) (rep_bool.mpr rfl)⟩
  · obtain ⟨h1, h2⟩ := Res.guard_ok h
    cases h2
    obtain ⟨s1, s2⟩ := shaped_two h1
    exact .inr ⟨x, _, rep_dp x _ u hu, rep_dp _ _ w hw, s1, s2, q _ H F (Grow.refl d) (rep_bool.mpr rfl)⟩
  · cases h
end
/-- a comparison's rule, whole -/
structure Cmp (X : Cx) (op : CmpOp) (o : Op) : Prop where
  ex : ∃ r : R2, OpR X (compareOp op) r ∧ Sp2 X.K o r
section
variable {X : Cx} {p : Par} {a b c e : Expr} {ca cb cc ce : E} {pos : Pos}
theorem c_eq (hu : X.A.units + 65 < cLine) : Cmp X .Eq .eq := ⟨_, op_eqD (by omega), sp_eq⟩
theorem c_ne (hu : X.A.units + 65 < cLine) : Cmp X .NotEq .ne := ⟨_, op_neD (by omega), sp_ne⟩
theorem c_lt (hu : X.A.units + 65 < cLine) : Cmp X .Lt .lt := ⟨_, op_lt.or (op_ltT (by omega)), sp_lt⟩
theorem c_ge (hu : X.A.units + 65 < cLine) : Cmp X .GtE .ge := ⟨_, op_ge.or (op_geT (by omega)), sp_ge⟩
theorem c_le : Cmp X .LtE .le := ⟨_, op_le, sp_le⟩
theorem c_gt : Cmp X .Gt .gt := ⟨_, op_gt, sp_gt⟩
theorem c_in (hu : X.A.units + 65 < cLine) : Cmp X .In .isin := ⟨_, (op_inD hu).or (op_inT hu), sp_in⟩
theorem c_notin (hu : X.A.units + 65 < cLine) : Cmp X .NotIn .notin := ⟨_, (op_notInD hu).or (op_notInT hu), sp_notin⟩
theorem ve_c {op : CmpOp} {o : Op} (h : Cmp X op o) (ha : VE X p a ca) (hb : VE X p b cb) (hm : behindInMarks op b = false := by first | exact nobehind _ (by decide) (by decide) | rfl) : VE X p (.Compare a [op] [b] pos) (.op o [ca, cb]) :=
  let ⟨_, h1, h2⟩ := h.ex
  ve_cmp h1 h2 ha hb hm
theorem vt_c {op : CmpOp} {o : Op} (h : Cmp X op o) (ha : VE X p a ca) (hb : VE X p b cb) (hm : behindInMarks op b = false := by first | exact nobehind _ (by decide) (by decide) | rfl) : VT X p (.Compare a [op] [b] pos) (.op o [ca, cb]) :=
  let ⟨_, h1, h2⟩ := h.ex
  vt_cmp h1 h2 ha hb hm
/-- a < b < c -/
theorem ve_chain {op op' : CmpOp} {o o' : Op} (h : Cmp X op o) (h' : Cmp X op' o') (h9 : octx o 9 = 9 := by rfl) (h9' : octx o' 9 = 9 := by rfl) (ha : VE X p a ca) (hb : VE X p b cb) (hc : VE X p c cc) (ho : ∀ k, octx o' k = 9 := by intro _; rfl)
    (hm : lastMarks [op, op'] [b, c] = false := by with_unfolding_all rfl) : VE X p (.Compare a [op, op'] [b, c] pos) (.chain o o' ca cb cc) := by
  obtain ⟨r, h1, s1⟩ := h.ex
  obtain ⟨r', h2, s2⟩ := h'.ex
  refine ⟨fun k => PE.imp (pe_chain h1 h2 (ha.run 9) (hb.run 9) (hc.run 9) hm) fun σ H Q ⟨ρ, F, O, R, q⟩ => ?_⟩
  refine ⟨ρ, F, O, R, q.bind.imp (Same.refl H) fun x _ q u H1 F1 g1 r1 => ⟨ρ, F1, O, R.grow g1, q.bind.imp g1.same fun y _ q w H2 F2 g2 r2 => ?_⟩⟩
  obtain ⟨v, ev, q⟩ := q.bind.ok (den_nx o _)
  refine s1 9 H2 F2 u w x y v _ g2.dom ?_ ?_ ev fun z H3 F3 g3 r3 => ?_
  · rw [h9]
    exact rep_same g2.same g2.sub x _ _ u (Nat.le_refl _) r1
  · rw [h9]
    exact r2
  · cases v with
    | bool t =>
      refine ⟨t, rep_bool.mp r3, ?_⟩
      cases t with
      | true =>
        rw [if_pos rfl]
        have q3 : Run p ((evalE p.cf 9 cc ρ).bind fun z => den o' [y, z]) σ H _ := q
        refine ⟨ρ, F3, O, ((R.grow g1).grow g2).grow g3, q3.bind.imp (g1.trans (g2.trans g3)).same fun z _ q w2 H4 F4 g4 r4 => ?_⟩
        obtain ⟨v, ev, q⟩ := q.ok (den_nx o' _)
        refine s2 k H4 F4 w w2 y z v Q g4.dom ?_ ?_ ev fun t H5 F5 g5 r5 => q t H5 F5 (g1.trans (g2.trans (g3.trans (g4.trans g5)))) r5
        · rw [ho]
          exact rep_same g4.same g4.sub y _ _ w (Nat.le_refl _) (rep_same g3.same g3.sub y _ _ w (Nat.le_refl _) r2)
        · rw [ho]
          exact r4
      | false =>
        rw [if_neg Bool.false_ne_true]
        exact q (.bl false) H3 F3 (g1.trans (g2.trans g3)) (rep_bool.mpr rfl)
    | _ => exact q.elim
end
end VL

/-! VL, part 6: one operand, and, or, if, items, slices, displays, built-ins by name. -/
namespace VL
open PySem PySem.Spec L2
open PyProof.Rows hiding St

section
variable {X : Cx} {p : Par} {a b c e : Expr} {ca cb cc ce : E} {pos : Pos} {σ : St} {H : Hp}

def Sp1 (K : PySem.W.Frag) (o : Op) (r : V → Hp → VK → Prop) : Prop := ∀ (k : Nat) (H : Hp) (F : Addr → Prop) (u : V) (x v : Val) (Q : VK), (∀ a, F a → H a ≠ none) → Rep K H F (octx o k) u x → den o [x] = .ok v →
  (∀ z H' F', Grow H F H' F' → Rep K H' F' k z v → Q z H') → r u H Q
theorem tE_op1 {K : PySem.W.Frag} {o : Op} {r : V → Hp → VK → Prop} {k : Nat} {Q : VK} (sp : Sp1 K o r) (h : tE K p k (.op o [ca]) σ H Q) : tE K p (octx o k) ca σ H fun u H1 => r u H1 Q := by
  obtain ⟨ρ, F, O, R, h⟩ := h
  have h1 : Run p (((evalE p.cf (octx o k) ca ρ).bind fun x => Res.ok [x]).bind fun vs => den o vs) σ H _ := h
  refine ⟨ρ, F, O, R, h1.bind.bind.imp (Same.refl H) fun x _ q u H1 F1 g1 r1 => ?_⟩
  have q1 : Run p (den o [x]) σ H _ := q
  obtain ⟨v, e, q2⟩ := q1.ok (den_nx o _)
  exact sp k H1 F1 u x v Q g1.dom r1 e fun z H' F' g r => q2 z H' F' (g1.trans g) r
theorem ve_neg (ha : VE X p a ca) : VE X p (.UnaryOp .USub a pos) (.op .neg [ca]) :=
  ⟨fun k => PE.imp (pe_un un_neg (ha.run 9)) fun σ H Q h => tE_op1 (o := .neg) (r := rU fun i => .int (-i)) (fun k H F u x v Q d hu h q => by
    cases x with
    | int i =>
      cases h
      exact ⟨_, rep_int.mp hu, q _ H F (Grow.refl d) (rep_int.mpr rfl)⟩
    | _ => cases h) h⟩
theorem ve_isN {j : Nat} {p2 : Pos} (ha : VE X p a ca) : VE X p (.Compare a [.Is] [.Constant .none j p2] pos) (.op .isNone [ca]) :=
  ⟨fun k => PE.imp (pe_cmp (pc_isN (ha.run 9))) fun σ H Q h => tE_op1 (o := .isNone) (r := fun x H1 Q => Q (.bl (decide (x = .non))) H1) (fun k H F u x v Q d hu h q => by
    simp only [den] at h
    cases h
    refine q _ H F (Grow.refl d) (rep_bool.mpr ?_)
    exact congrArg V.bl (isN_of hu)) h⟩
where
  isN_of {K : PySem.W.Frag} {H : Hp} {F : Addr → Prop} {k : Nat} {u : V} {x : Val} (h : Rep K H F k u x) : decide (u = .non) = isNoneB x := by
    cases x with
    | none => rw [rep_none.mp h]; rfl
    | bool b => rw [rep_bool.mp h]; rfl
    | int b => rw [rep_int.mp h]; rfl
    | str b => rw [rep_str.mp h]; rfl
    | list xs =>
      obtain ⟨a, ws, rfl, _⟩ := rep_list.mp h
      rfl
    | tuple xs =>
      obtain ⟨a, ws, rfl, _⟩ := rep_tuple.mp h
      rfl
    | dict _ => simp only [Rep] at h
theorem ve_notN {j : Nat} {p2 : Pos} (ha : VE X p a ca) : VE X p (.Compare a [.IsNot] [.Constant .none j p2] pos) (.op .notNone [ca]) :=
  ⟨fun k => PE.imp (pe_cmp (pc_notN (ha.run 9))) fun σ H Q h => tE_op1 (o := .notNone) (r := fun x H1 Q => Q (.bl (!decide (x = .non))) H1) (fun k H F u x v Q d hu h q => by
    simp only [den] at h
    cases h
    refine q _ H F (Grow.refl d) (rep_bool.mpr ?_)
    rw [ve_isN.isN_of hu]) h⟩
theorem ve_isB {t : Bool} {j : Nat} {p2 : Pos} (ha : VE X p a ca) : VE X p (.Compare a [.Is] [.Constant (.bool t) j p2] pos) (.op (.isB t) [ca]) :=
  ⟨fun k => PE.imp (pe_cmpR op_isBl (ha.run 9) pe_bl (nobehind _ (by decide) (by decide))) fun σ H Q h => tE_op1 (o := .isB t) (r := fun x H1 Q => rIsB x (.bl t) H1 Q) (fun k H F u x v Q d hu h q => by
    simp only [den] at h
    unfold vIs at h
    split at h
    · cases h
      exact ⟨_, _, rep_bool.mp hu, rfl, q _ H F (Grow.refl d) (rep_bool.mpr (by rw [← Bool.beq_eq_decide_eq]))⟩
    · cases h) h⟩
theorem ve_notB {t : Bool} {j : Nat} {p2 : Pos} (ha : VE X p a ca) : VE X p (.Compare a [.IsNot] [.Constant (.bool t) j p2] pos) (.op (.notB t) [ca]) :=
  ⟨fun k => PE.imp (pe_cmpR op_notBl (ha.run 9) pe_bl (nobehind _ (by decide) (by decide))) fun σ H Q h => tE_op1 (o := .notB t) (r := fun x H1 Q => rNotB x (.bl t) H1 Q) (fun k H F u x v Q d hu h q => by
    simp only [den] at h
    unfold vIsNot at h
    split at h
    · cases h
      exact ⟨_, _, rep_bool.mp hu, rfl, q _ H F (Grow.refl d) (rep_bool.mpr (by rw [← Bool.beq_eq_decide_eq]))⟩
    · cases h) h⟩

/-! ### tests -/
theorem vt_not (ha : VT X p a ca) : VT X p (.UnaryOp .Not a pos) (.op .not [ca]) := by
  refine ⟨PT.imp (pt_not ha.run) fun σ H Q ⟨ρ, F, O, R, h⟩ => ⟨ρ, F, O, R, ?_⟩⟩
  have h1 : Run p ((((evalE p.cf 9 ca ρ).bind fun x => Res.ok [x]).bind fun vs => den .not vs).bind asBool) σ H _ := h
  cases e : evalE p.cf 9 ca ρ with
  | ok x =>
    rw [e] at h1
    cases x with
    | bool t => exact h1
    | _ => exact h1.elim
  | exc x v =>
    rw [e] at h1
    exact h1
  | bad =>
    rw [e] at h1
    exact h1.elim
theorem ve_not (ha : VE X p a ca) : VE X p (.UnaryOp .Not a pos) (.op .not [ca]) :=
  ⟨fun k => PE.imp (pe_not (ha.run 9)) fun σ H Q h => tE_op1 (o := .not) (r := fun x H1 Q => ∃ c, x = .bl c ∧ Q (.bl (!c)) H1) (fun k H F u x v Q d hu h q => by
    cases x with
    | bool t =>
      cases h
      exact ⟨_, rep_bool.mp hu, q _ H F (Grow.refl d) (rep_bool.mpr rfl)⟩
    | _ => cases h) h⟩
/-- a test whatever its whole is (and, or) -/
structure VW (X : Cx) (p : Par) (e : Expr) (c : E) : Prop where
  run : PW X e (tT X.K p c)
theorem PW.imp {X : Cx} {e : Expr} {t t' : TT} (h : PW X e t) (i : ∀ σ H Q, t' σ H Q → t σ H Q) : PW X e t' := ⟨fun w pins s σ H Q I q => h.run w pins s σ H Q I (i σ H Q q)⟩
theorem VW.vt (h : VW X p e ce) : VT X p e ce := ⟨h.run.pt⟩
theorem vw_and1 (ha : VT X p a ca) : VW X p (.BoolOp .And [a] pos) ca := ⟨pw_and1 ha.run⟩
theorem vw_or1 (ha : VT X p a ca) : VW X p (.BoolOp .Or [a] pos) ca := ⟨pw_or1 ha.run⟩
theorem run_and {ρ : Env} {k : Nat} {good : Val → Prop} (h : Run p (evalE p.cf k (.and ca cb) ρ) σ H good) : Run p ((evalE p.cf 9 ca ρ).bind asBool) σ H fun t => if t = true then Run p (evalE p.cf k cb ρ) σ H good else good (.bool false) := by
  have h1 : Run p ((evalE p.cf 9 ca ρ).bind fun x => (asBool x).bind fun t => match t with
      | true => evalE p.cf k cb ρ
      | false => .ok (.bool false)) σ H good := h
  cases e : evalE p.cf 9 ca ρ with
  | ok x =>
    rw [e] at h1
    cases x with
    | bool t =>
      cases t with
      | true => exact (show if true = true then Run p (evalE p.cf k cb ρ) σ H good else good (.bool false) from by rw [if_pos rfl]; exact h1)
      | false => exact (show if false = true then Run p (evalE p.cf k cb ρ) σ H good else good (.bool false) from by rw [if_neg Bool.false_ne_true]; exact h1)
    | _ => exact h1.elim
  | exc x v =>
    rw [e] at h1
    exact h1
  | bad =>
    rw [e] at h1
    exact h1.elim
theorem run_or {ρ : Env} {k : Nat} {good : Val → Prop} (h : Run p (evalE p.cf k (.or ca cb) ρ) σ H good) : Run p ((evalE p.cf 9 ca ρ).bind asBool) σ H fun t => if t = true then good (.bool true) else Run p (evalE p.cf k cb ρ) σ H good := by
  have h1 : Run p ((evalE p.cf 9 ca ρ).bind fun x => (asBool x).bind fun t => match t with
      | true => .ok (.bool true)
      | false => evalE p.cf k cb ρ) σ H good := h
  cases e : evalE p.cf 9 ca ρ with
  | ok x =>
    rw [e] at h1
    cases x with
    | bool t =>
      cases t with
      | true => exact (show if true = true then good (.bool true) else Run p (evalE p.cf k cb ρ) σ H good from by rw [if_pos rfl]; exact h1)
      | false => exact (show if false = true then good (.bool true) else Run p (evalE p.cf k cb ρ) σ H good from by rw [if_neg Bool.false_ne_true]; exact h1)
    | _ => exact h1.elim
  | exc x v =>
    rw [e] at h1
    exact h1
  | bad =>
    rw [e] at h1
    exact h1.elim
theorem run_ite {ρ : Env} {k : Nat} {good : Val → Prop} (h : Run p (evalE p.cf k (.ite cc ca cb) ρ) σ H good) : Run p ((evalE p.cf 9 cc ρ).bind asBool) σ H fun t => if t = true then Run p (evalE p.cf k ca ρ) σ H good else Run p (evalE p.cf k cb ρ) σ H good := by
  have h1 : Run p ((evalE p.cf 9 cc ρ).bind fun x => (asBool x).bind fun t => match t with
      | true => evalE p.cf k ca ρ
      | false => evalE p.cf k cb ρ) σ H good := h
  cases e : evalE p.cf 9 cc ρ with
  | ok x =>
    rw [e] at h1
    cases x with
    | bool t =>
      cases t with
      | true => exact (show if true = true then Run p (evalE p.cf k ca ρ) σ H good else Run p (evalE p.cf k cb ρ) σ H good from by rw [if_pos rfl]; exact h1)
      | false => exact (show if false = true then Run p (evalE p.cf k ca ρ) σ H good else Run p (evalE p.cf k cb ρ) σ H good from by rw [if_neg Bool.false_ne_true]; exact h1)
    | _ => exact h1.elim
  | exc x v =>
    rw [e] at h1
    exact h1
  | bad =>
    rw [e] at h1
    exact h1.elim
theorem Run.bind' {α β : Type} {r : Res α} {f : α → Res β} {good : β → Prop} (h : Run p r σ H fun a => Run p (f a) σ H good) : Run p (r.bind f) σ H good := by
  cases r with
  | ok a => exact h
  | exc x v => exact h
  | bad => exact h
theorem vw_and {rest : List Expr} (ha : VT X p a ca) (hb : VW X p (.BoolOp .And (b :: rest) pos) cb) : VW X p (.BoolOp .And (a :: b :: rest) pos) (.and ca cb) := by
  refine ⟨PW.imp (pw_and ha.run hb.run) fun σ H Q ⟨ρ, F, O, R, h⟩ => ⟨ρ, F, O, R, (run_and h.bind).imp (Same.refl H) fun t _ q H1 F1 g1 => ?_⟩⟩
  cases t with
  | true =>
    rw [if_pos rfl] at q ⊢
    exact ⟨ρ, F1, O, R.grow g1, (Run.bind' q).imp g1.same fun b _ q H2 F2 g2 => q H2 F2 (g1.trans g2)⟩
  | false =>
    rw [if_neg Bool.false_ne_true] at q ⊢
    exact q H1 F1 g1
theorem vw_or {rest : List Expr} (ha : VT X p a ca) (hb : VW X p (.BoolOp .Or (b :: rest) pos) cb) : VW X p (.BoolOp .Or (a :: b :: rest) pos) (.or ca cb) := by
  refine ⟨PW.imp (pw_or ha.run hb.run) fun σ H Q ⟨ρ, F, O, R, h⟩ => ⟨ρ, F, O, R, (run_or h.bind).imp (Same.refl H) fun t _ q H1 F1 g1 => ?_⟩⟩
  cases t with
  | true =>
    rw [if_pos rfl] at q ⊢
    exact q H1 F1 g1
  | false =>
    rw [if_neg Bool.false_ne_true] at q ⊢
    exact ⟨ρ, F1, O, R.grow g1, (Run.bind' q).imp g1.same fun b _ q H2 F2 g2 => q H2 F2 (g1.trans g2)⟩
/-- as values -/
theorem ve_one {op : BoolOp} (ha : VE X p a ca) : VE X p (.BoolOp op [a] pos) ca := ⟨fun k => pe_one (ha.run k)⟩
theorem tE9 {K : PySem.W.Frag} {F : Addr → Prop} {t : St → Hp → Prop} {ρ : Env} {P : Bool → Hp → (Addr → Prop) → Prop} {u : V} {v : Val} {H' : Hp} {F' : Addr → Prop} (rp : Rep K H' F' 9 u v) {good : Bool → Prop} (q : Run p (asBool v) σ H good) : ∃ t, v = .bool t ∧ u = .bl t ∧ good t := by
  cases v with
  | bool t => exact ⟨t, rfl, rep_bool.mp rp, q⟩
  | _ => exact q.elim
theorem ve_and {rest : List Expr} (ha : VE X p a ca) (hb : VE X p (.BoolOp .And (b :: rest) pos) cb) : VE X p (.BoolOp .And (a :: b :: rest) pos) (.and ca cb) := by
  refine ⟨fun k => PE.imp (pe_and (ha.run 9) (hb.run k)) fun σ H Q ⟨ρ, F, O, R, h⟩ => ⟨ρ, F, O, R, (run_and h).bind.imp (Same.refl H) fun v _ q u H1 F1 g1 rp => ?_⟩⟩
  obtain ⟨t, rfl, rfl, q⟩ := tE9 (t := fun _ _ => True) (F := F) (ρ := ρ) (P := fun _ _ _ => True) rp q
  refine ⟨t, rfl, ?_⟩
  cases t with
  | true =>
    rw [if_pos rfl] at q ⊢
    exact ⟨ρ, F1, O, R.grow g1, q.imp g1.same fun b _ q u H2 F2 g2 r2 => q u H2 F2 (g1.trans g2) r2⟩
  | false =>
    rw [if_neg Bool.false_ne_true] at q ⊢
    exact q (.bl false) H1 F1 g1 (rep_bool.mpr rfl)
theorem ve_or {rest : List Expr} (ha : VE X p a ca) (hb : VE X p (.BoolOp .Or (b :: rest) pos) cb) : VE X p (.BoolOp .Or (a :: b :: rest) pos) (.or ca cb) := by
  refine ⟨fun k => PE.imp (pe_or (ha.run 9) (hb.run k)) fun σ H Q ⟨ρ, F, O, R, h⟩ => ⟨ρ, F, O, R, (run_or h).bind.imp (Same.refl H) fun v _ q u H1 F1 g1 rp => ?_⟩⟩
  obtain ⟨t, rfl, rfl, q⟩ := tE9 (t := fun _ _ => True) (F := F) (ρ := ρ) (P := fun _ _ _ => True) rp q
  refine ⟨t, rfl, ?_⟩
  cases t with
  | true =>
    rw [if_pos rfl] at q ⊢
    exact q (.bl true) H1 F1 g1 (rep_bool.mpr rfl)
  | false =>
    rw [if_neg Bool.false_ne_true] at q ⊢
    exact ⟨ρ, F1, O, R.grow g1, q.imp g1.same fun b _ q u H2 F2 g2 r2 => q u H2 F2 (g1.trans g2) r2⟩
theorem ve_ite (hc : VT X p c cc) (ha : VE X p a ca) (hb : VE X p b cb) : VE X p (.IfExp c a b pos) (.ite cc ca cb) := by
  refine ⟨fun k => PE.imp (pe_ifExp hc.run (ha.run k) (hb.run k)) fun σ H Q ⟨ρ, F, O, R, h⟩ => ⟨ρ, F, O, R, (run_ite h).imp (Same.refl H) fun t _ q H1 F1 g1 => ?_⟩⟩
  cases t with
  | true =>
    rw [if_pos rfl] at q ⊢
    exact ⟨ρ, F1, O, R.grow g1, q.imp g1.same fun b _ q u H2 F2 g2 r2 => q u H2 F2 (g1.trans g2) r2⟩
  | false =>
    rw [if_neg Bool.false_ne_true] at q ⊢
    exact ⟨ρ, F1, O, R.grow g1, q.imp g1.same fun b _ q u H2 F2 g2 r2 => q u H2 F2 (g1.trans g2) r2⟩

/-! ### items, slices -/
theorem sp_idx {K : PySem.W.Frag} : Sp2 K .idx (fun x y H Q => rIxL K x y H Q ∨ rIxT K x y H Q) := by
  intro k H F u w x y v Q d hu hw h q
  have h1 : vIdx x y = .ok v := h
  unfold vIdx at h1
  split at h1
  · rename_i xs i
    obtain ⟨l, ws, rfl, s1, _, r1⟩ := rep_list.mp hu
    cases e : atV xs i with
    | none =>
      rw [e] at h1
      cases h1
    | some z =>
      rw [e] at h1
      cases h1
      obtain ⟨w2, e2, r2⟩ := repA_at r1 e
      exact .inl ⟨l, ws, i, w2, rfl, rep_int.mp hw, s1, e2, q w2 H F (Grow.refl d) r2⟩
  · rename_i xs i
    obtain ⟨l, ws, rfl, s1, r1⟩ := rep_tuple.mp hu
    cases e : atV xs i with
    | none =>
      rw [e] at h1
      cases h1
    | some z =>
      rw [e] at h1
      cases h1
      obtain ⟨w2, e2, r2⟩ := repA_at r1 e
      exact .inr ⟨l, ws, i, w2, rfl, rep_int.mp hw, s1, e2, q w2 H F (Grow.refl d) r2⟩
  · cases h1
theorem ve_idx (ha : VE X p a ca) (hb : VE X p b cb) (hs : PlainIx b := by exact fun _ _ => rfl) : VE X p (.Subscript a b pos) (.op .idx [ca, cb]) :=
  ⟨fun k => PE.imp (pe_ix (ix_list.or ix_tup) (ha.run _) (hb.run _) hs) fun σ H Q h => tE_op2 sp_idx (den_nx _) h⟩
theorem rep_cut {K : PySem.W.Frag} {F : Addr → Prop} {k : Nat} {ws : List V} {xs : List Val} (lo hi : Option Int) (h : RepA K H F k ws xs) : RepA K H F k (cutV ws lo hi) (cut xs lo hi) := by
  unfold cutV cut
  rw [repA_length h]
  exact repA_take _ (repA_drop _ h)
theorem ve_slice0 {p2 : Pos} (ha : VE X p a ca) : VO X p (.Subscript a (.Slice none none none p2) pos) (.op (.slice false false) [ca]) 1 := by
  refine ⟨PE.imp (pe_slice sl_list (ha.run 1) po_none po_none) fun σ H Q ⟨ρ, F, O, R, h⟩ => ?_⟩
  have h1 : Run p (((evalE p.cf 1 ca ρ).bind fun x => Res.ok [x]).bind fun vs => den (.slice false false) vs) σ H _ := h
  refine ⟨ρ, F, O, R, h1.bind.bind.imp (Same.refl H) fun x _ q u H1 F1 g1 r1 => ?_⟩
  cases x with
  | list xs =>
    obtain ⟨l, ws, rfl, s1, _, ra⟩ := rep_list.mp r1
    refine ⟨l, ws, rfl, s1, fun P nP => ?_⟩
    obtain ⟨g, o, n⟩ := own_new g1.dom nP (rep_cut none none ra)
    exact q _ _ _ [P] (g1.trans g) o fun a h => ⟨g1.same.free (n a h).1, (n a h).2⟩
  | _ => exact q.elim
theorem ve_sliceL {lo : Expr} {cl : E} {p2 : Pos} (ha : VE X p a ca) (hl : VE X p lo cl) : VO X p (.Subscript a (.Slice (some lo) none none p2) pos) (.op (.slice true false) [ca, cl]) 1 := by
  refine ⟨PE.imp (pe_slice sl_list (ha.run 1) (po_some (hl.run 1)) po_none) fun σ H Q ⟨ρ, F, O, R, h⟩ => ?_⟩
  have h1 : Run p (((evalE p.cf 1 ca ρ).bind fun x => ((evalE p.cf 1 cl ρ).bind fun y => Res.ok [y]).bind fun ys => .ok (x :: ys)).bind fun vs => den (.slice true false) vs) σ H _ := h
  refine ⟨ρ, F, O, R, h1.bind.bind.imp (Same.refl H) fun x _ q u H1 F1 g1 r1 => ⟨ρ, F1, O, R.grow g1, q.bind.bind.imp g1.same fun y _ q w H2 F2 g2 r2 => ?_⟩⟩
  have q3 : Run p (vSlice true false [x, y]) σ H _ := q
  cases y with
  | int i =>
    cases x with
    | list xs =>
      obtain ⟨l, ws, rfl, s1, _, ra⟩ := rep_list.mp r1
      refine ⟨i, rep_int.mp r2, l, ws, rfl, g2.same.seq s1, fun P nP => ?_⟩
      obtain ⟨g, o, n⟩ := own_new g2.dom nP (repA_same g2.same g2.sub _ _ _ _ (Nat.le_refl _) (rep_cut (some i) none ra))
      exact q3 _ _ _ [P] (g1.trans (g2.trans g)) o fun a h => ⟨(g1.trans g2).same.free (n a h).1, (n a h).2⟩
    | _ => exact q3.elim
  | _ => cases x <;> exact q3.elim
theorem ve_sliceH {hi : Expr} {ch : E} {p2 : Pos} (ha : VE X p a ca) (hl : VE X p hi ch) : VO X p (.Subscript a (.Slice none (some hi) none p2) pos) (.op (.slice false true) [ca, ch]) 1 := by
  refine ⟨PE.imp (pe_slice sl_list (ha.run 1) po_none (po_some (hl.run 1))) fun σ H Q ⟨ρ, F, O, R, h⟩ => ?_⟩
  have h1 : Run p (((evalE p.cf 1 ca ρ).bind fun x => ((evalE p.cf 1 ch ρ).bind fun y => Res.ok [y]).bind fun ys => .ok (x :: ys)).bind fun vs => den (.slice false true) vs) σ H _ := h
  refine ⟨ρ, F, O, R, h1.bind.bind.imp (Same.refl H) fun x _ q u H1 F1 g1 r1 => ⟨ρ, F1, O, R.grow g1, q.bind.bind.imp g1.same fun y _ q w H2 F2 g2 r2 => ?_⟩⟩
  have q3 : Run p (vSlice false true [x, y]) σ H _ := q
  cases y with
  | int i =>
    cases x with
    | list xs =>
      obtain ⟨l, ws, rfl, s1, _, ra⟩ := rep_list.mp r1
      refine ⟨i, rep_int.mp r2, l, ws, rfl, g2.same.seq s1, fun P nP => ?_⟩
      obtain ⟨g, o, n⟩ := own_new g2.dom nP (repA_same g2.same g2.sub _ _ _ _ (Nat.le_refl _) (rep_cut none (some i) ra))
      exact q3 _ _ _ [P] (g1.trans (g2.trans g)) o fun a h => ⟨(g1.trans g2).same.free (n a h).1, (n a h).2⟩
    | _ => exact q3.elim
  | _ => cases x <;> exact q3.elim
/-- it raises nothing -/
def NX (p : Par) (c : E) : Prop := ∀ k ρ, NoX (evalE p.cf k c ρ)
theorem nx_bind {α β : Type} {r : Res α} {f : α → Res β} (h : NoX r) (g : ∀ a, NoX (f a)) : NoX (r.bind f) := by
  cases r with
  | ok a => exact g a
  | exc c v => exact absurd rfl (h c v)
  | bad => exact nx_bad
theorem nx_var {i : Nat} : NX p (.var i) := fun k ρ => by
  show NoX (getV ρ i k)
  unfold getV
  split
  · exact nx_guard nx_ok
  · exact nx_bad
theorem nx_cst {v : Val} : NX p (.cst v) := fun k ρ => nx_ok
theorem nx_op1 {o : Op} (h : NX p ca) : NX p (.op o [ca]) := fun k ρ => nx_bind (nx_bind (h _ ρ) fun _ => nx_ok) fun _ => den_nx _ _
theorem nx_op2 {o : Op} (h : NX p ca) (h' : NX p cb) : NX p (.op o [ca, cb]) := fun k ρ => nx_bind (nx_bind (h _ ρ) fun _ => nx_bind (nx_bind (h' _ ρ) fun _ => nx_ok) fun _ => nx_ok) fun _ => den_nx _ _
theorem ve_slice2 {lo hi : Expr} {cl ch : E} {p2 : Pos} (ha : VE X p a ca) (hl : VE X p lo cl) (hh : VE X p hi ch) (nx : NX p ch) : VO X p (.Subscript a (.Slice (some lo) (some hi) none p2) pos) (.op (.slice true true) [ca, cl, ch]) 1 := by
  refine ⟨PE.imp (pe_slice sl_list (ha.run 1) (po_some (hl.run 1)) (po_some (hh.run 1))) fun σ H Q ⟨ρ, F, O, R, h⟩ => ?_⟩
  have h1 : Run p (((evalE p.cf 1 ca ρ).bind fun x => ((evalE p.cf 1 cl ρ).bind fun y => ((evalE p.cf 1 ch ρ).bind fun z => Res.ok [z]).bind fun zs => .ok (y :: zs)).bind fun ys => .ok (x :: ys)).bind fun vs => den (.slice true true) vs) σ H _ := h
  refine ⟨ρ, F, O, R, h1.bind.bind.imp (Same.refl H) fun x _ q u H1 F1 g1 r1 => ⟨ρ, F1, O, R.grow g1, q.bind.bind.imp g1.same fun y _ q w H2 F2 g2 r2 => ?_⟩⟩
  have h3 := q.bind.bind
  obtain ⟨z, ez, h5⟩ := h3.ok (nx 1 ρ)
  cases y with
  | int i =>
    refine ⟨i, rep_int.mp r2, ρ, F2, O, (R.grow g1).grow g2, h3.imp (g1.trans g2).same fun z _ q w3 H3 F3 g3 r3 => ?_⟩
    cases z with
    | int j =>
      cases x with
      | list xs =>
        obtain ⟨l, ws, rfl, s1, _, ra⟩ := rep_list.mp r1
        refine ⟨j, rep_int.mp r3, l, ws, rfl, (g2.trans g3).same.seq s1, fun P nP => ?_⟩
        obtain ⟨g, o, n⟩ := own_new g3.dom nP (repA_same (g2.trans g3).same (g2.trans g3).sub _ _ _ _ (Nat.le_refl _) (rep_cut (some i) (some j) ra))
        exact q _ _ _ [P] (g1.trans (g2.trans (g3.trans g))) o fun a h => ⟨(g1.trans (g2.trans g3)).same.free (n a h).1, (n a h).2⟩
      | _ => exact q.elim
    | _ => cases x <;> exact q.elim
  | _ => cases x <;> exact h5.elim
theorem ve_rev {j : Nat} {p1 p2 p3 : Pos} (ha : VE X p a ca) : VO X p (.Subscript a (.Slice none none (some (.UnaryOp .USub (.Constant (.int 1) j p1) p2)) p3) pos) (.op .rev [ca]) 1 := by
  refine ⟨PE.imp (pe_revL (ha.run 1)) fun σ H Q ⟨ρ, F, O, R, h⟩ => ?_⟩
  have h1 : Run p (((evalE p.cf 1 ca ρ).bind fun x => Res.ok [x]).bind fun vs => den .rev vs) σ H _ := h
  refine ⟨ρ, F, O, R, h1.bind.bind.imp (Same.refl H) fun x _ q u H1 F1 g1 r1 => ?_⟩
  cases x with
  | list xs =>
    obtain ⟨l, ws, rfl, s1, _, ra⟩ := rep_list.mp r1
    refine ⟨l, ws, rfl, s1, fun P nP => ?_⟩
    obtain ⟨g, o, n⟩ := own_new g1.dom nP (repA_rev ra)
    exact q _ _ _ [P] (g1.trans g) o fun a h => ⟨g1.same.free (n a h).1, (n a h).2⟩
  | _ => exact q.elim
where
  repA_rev {K : PySem.W.Frag} {H : Hp} {F : Addr → Prop} {k : Nat} : ∀ {xs : List Val} {ws : List V}, RepA K H F k ws xs → RepA K H F k ws.reverse xs.reverse
    | [], _, h => by
      simp only [RepA] at h
      subst h
      exact repA_nil
    | x :: xs, _, h => by
      simp only [RepA] at h
      obtain ⟨w, r, rfl, h1, h2⟩ := h
      rw [List.reverse_cons, List.reverse_cons]
      exact repA_app (repA_rev h2) (repA_cons h1 repA_nil)
end
end VL

/-! VL, part 7: displays, built-ins. -/
namespace VL
open PySem PySem.Spec L2 PySem.W
open PyProof.Rows hiding St

section
variable {X : Cx} {p : Par} {a b c e : Expr} {ca cb cc ce : E} {pos : Pos} {σ : St} {H : Hp} {es : List Expr} {cs : List E}

/-! ### stars -/
theorem star_list {l : Addr} {ws : List V} {pins : List (Addr × Obj)} {s : Shared} {E : Value → Shared → Prop} {Q : List Value → Shared → Prop} (I : Inv X pins σ H s) (h : SqL X.K H l ws) (hQ : ∀ us s', Inv X pins σ H s' → Vals ws us → Q us s') :
    PySem.W.StarOf (model X.prog X.w) X.A E (.ref l) Q s := by
  obtain ⟨its, r, ⟨o, n, ho, hc, _, hd⟩, hz⟩ := I.list h
  have ln := r.length
  have body : wpAny (model X.prog X.w) X.A (collect (.ref l)) Q E s := by
    refine wpAny_collect_seq l (.inl rfl) ho hc hd (fun h' hk => ?_) (by rw [List.size_toArray]; omega)
    have same : its.toArray.toList = its := by simp
    rw [same]
    exact hQ its _ (I.kept (t' := s.toks) hk) r
  unfold PySem.W.StarOf notIterableAtAll
  exact wpAny_bind (wpAny_specialOf (⟨o, ho, hc⟩ : s.TypeIs (.ref l) "list") PySem.F.slot_list_iter.lookup (wpAny_pure ⟨rfl, body⟩))
def tStar (K : PySem.W.Frag) (te : TE) (tr : TA) : TA := fun σ H Q => te σ H fun u H1 => ∃ a ws, u = .ref a ∧ (SqL K H1 a ws ∨ SqT K H1 a ws) ∧ tr σ H1 fun zs H2 => Q (ws ++ zs) H2
theorem pa_star {te : TE} {tr : TA} {p0 : Pos} (he : PE X e te) (hr : PA X es tr) : PA X (.Starred e p0 :: es) (tStar X.K te tr) := by
  refine ⟨fun pos pins s σ H Q I h => ?_⟩
  refine PySem.W.items_star (thn (he.run pins s σ H _ I h) fun v s1 ⟨u, H1, I1, r1, q1⟩ => ?_)
  obtain ⟨l, ws, rfl, sq, q1⟩ := q1
  cases r1
  rcases sq with sq | sq
  · exact star_list I1 sq fun us s2 I2 r2 => thn (hr.run pos pins s2 σ H1 _ I2 q1) fun vs s3 ⟨zs, H3, I3, r3, q3⟩ => ⟨ws ++ zs, H3, I3, r2.append r3, q3⟩
  · exact star_tup I1 sq fun us s2 I2 r2 => thn (hr.run pos pins s2 σ H1 _ I2 q1) fun vs s3 ⟨zs, H3, I3, r3, q3⟩ => ⟨ws ++ zs, H3, I3, r2.append r3, q3⟩
def tAS (K : PySem.W.Frag) (p : Par) (ss : List Bool) (cs : List E) : TA := fun σ H Q => ∃ ρ F O, Rel K ρ F O σ H ∧ Run p (evalEs p.cf 0 cs ρ) σ H fun vs => ∃ xs, starred ss vs = some xs ∧ ∀ us H' F', Grow H F H' F' → RepA K H' F' 0 us xs → Q us H'
structure VAS (X : Cx) (p : Par) (es : List Expr) (cs : List E) (ss : List Bool) : Prop where
  run : PA X es (tAS X.K p ss cs)
theorem vas_nil : VAS X p [] [] [] := ⟨PA.imp pa_nil fun σ H Q ⟨ρ, F, O, R, r⟩ => by
  obtain ⟨xs, e, q⟩ := r
  cases e
  exact q [] H F (Grow.refl R.dom) repA_nil⟩
theorem vas_cons {ss : List Bool} (h : VE X p e ce) (hs : VAS X p es cs ss) (hse : starEach (e :: es) X.env = (false, eval e X.env) :: starEach es X.env := by rfl) : VAS X p (e :: es) (ce :: cs) (false :: ss) := by
  refine ⟨PA.imp (pa_cons (h.run 0) hs.run hse) fun σ H Q ⟨ρ, F, O, R, r⟩ => ?_⟩
  have r1 : Run p ((evalE p.cf 0 ce ρ).bind fun v => (evalEs p.cf 0 cs ρ).bind fun vs => .ok (v :: vs)) σ H _ := r
  refine ⟨ρ, F, O, R, r1.bind.imp (Same.refl H) fun x _ q u H1 F1 g1 h1 => ⟨ρ, F1, O, R.grow g1, q.bind.imp g1.same fun vs _ q2 => ?_⟩⟩
  obtain ⟨xs, e1, q2⟩ := q2
  have e2 : (starred ss vs).map (x :: ·) = some xs := e1
  cases e3 : starred ss vs with
  | none =>
    rw [e3] at e2
    cases e2
  | some ys =>
    rw [e3] at e2
    cases e2
    exact ⟨ys, rfl, fun us H2 F2 g2 h2 => q2 (u :: us) H2 F2 (g1.trans g2) (repA_cons (rep_same g2.same g2.sub x 0 0 u (Nat.le_refl _) h1) h2)⟩
def NXs (p : Par) (cs : List E) : Prop := ∀ k ρ, NoX (evalEs p.cf k cs ρ)
theorem nxs_nil : NXs p [] := fun _ _ => nx_ok
theorem nxs_cons (h : NX p ce) (hs : NXs p cs) : NXs p (ce :: cs) := fun k ρ => nx_bind (h k ρ) fun _ => nx_bind (hs k ρ) fun _ => nx_ok
theorem nx_op {o : Op} (h : NXs p cs) : NX p (.op o cs) := fun k ρ => nx_bind (h _ ρ) fun _ => den_nx _ _
theorem nx_bindP : ∀ (t : Pat) (v : Val) (ρ : Env), NoX (bindP t v ρ)
  | .slot i, v, ρ => by
    unfold bindP
    exact nx_guard nx_ok
  | .tup ps, .tuple vs, ρ => by
    unfold bindP
    exact nx_bindPs ps vs ρ
  | .tup ps, .list vs, ρ => by
    unfold bindP
    exact nx_bad
  | .tup ps, .none, ρ => by
    unfold bindP
    exact nx_bad
  | .tup ps, .bool _, ρ => by
    unfold bindP
    exact nx_bad
  | .tup ps, .int _, ρ => by
    unfold bindP
    exact nx_bad
  | .tup ps, .str _, ρ => by
    unfold bindP
    exact nx_bad
  | .tup ps, .dict _, ρ => by
    unfold bindP
    exact nx_bad
where
  nx_bindPs : ∀ (ps : List Pat) (vs : List Val) (ρ : Env), NoX (bindPs ps vs ρ)
    | [], [], ρ => by
      unfold bindPs
      exact nx_ok
    | t :: ps, v :: vs, ρ => by
      unfold bindPs
      exact nx_bind (nx_bindP t v ρ) fun ρ' => nx_bindPs ps vs ρ'
    | [], _ :: _, ρ => by
      unfold bindPs
      exact nx_bad
    | _ :: _, [], ρ => by
      unfold bindPs
      exact nx_bad
theorem nx_quiet {α : Type} {r : Res α} : NoX r.quiet := fun _ _ => Res.quiet_ne_exc
theorem nx_asBool {v : Val} : NoX (asBool v) := by
  cases v <;> first | exact nx_ok | exact nx_bad
theorem nx_asSeq {v : Val} : NoX (asSeq v) := by
  cases v <;> first | exact nx_ok | exact nx_bad
theorem nx_evalO (ifs : Option E) (ρ : Env) : NoX (evalO p.cf ifs ρ) := by
  cases ifs with
  | none => exact nx_ok
  | some c => exact nx_bind nx_quiet fun _ => nx_asBool
theorem nx_compL {f : Val → Res (Option Val)} (h : ∀ v, NoX (f v)) : ∀ xs, NoX (compL f xs)
  | [] => nx_ok
  | x :: xs => nx_bind (h x) fun _ => nx_bind (nx_compL h xs) fun _ => nx_ok
theorem nx_compLL {f : Val → Res (List Val)} (h : ∀ v, NoX (f v)) : ∀ xs, NoX (compLL f xs)
  | [] => nx_ok
  | x :: xs => nx_bind (h x) fun _ => nx_bind (nx_compLL h xs) fun _ => nx_ok
theorem nx_comp {w : List Nat} {d : Nat} {t : Pat} {ci : E} {ifs : Option E} (h : NX p ci) : NX p (.comp w d ce t ci ifs) := fun k ρ => nx_bind (h _ ρ) fun _ => nx_bind nx_asSeq fun _ => nx_bind (nx_compL (fun v => nx_bind (nx_bindP _ _ _) fun _ => nx_bind (nx_evalO _ _) fun t => by
  cases t with
  | true => exact nx_bind nx_quiet fun _ => nx_ok
  | false => exact nx_ok) _) fun _ => nx_guard nx_ok
theorem nx_comp2 {w w2 : List Nat} {t t2 : Pat} {ci ci2 : E} {ifs ifs2 : Option E} (h : NX p ci) : NX p (.comp2 w w2 ce t ci ifs t2 ci2 ifs2) := fun k ρ => nx_bind (h _ ρ) fun _ => nx_bind nx_asSeq fun _ => nx_bind (nx_compLL (fun v => nx_bind (nx_bindP _ _ _) fun _ => nx_bind (nx_evalO _ _) fun t => by
  cases t with
  | true => exact nx_bind nx_quiet fun _ => nx_bind nx_asSeq fun _ => nx_compL (fun v => nx_bind (nx_bindP _ _ _) fun _ => nx_bind (nx_evalO _ _) fun t => by
      cases t with
      | true => exact nx_bind nx_quiet fun _ => nx_ok
      | false => exact nx_ok) _
  | false => exact nx_ok) _) fun _ => nx_guard nx_ok
theorem vas_star {ss : List Bool} {p0 : Pos} (h : VE X p e ce) (hs : VAS X p es cs ss) (nx : NXs p cs) : VAS X p (.Starred e p0 :: es) (ce :: cs) (true :: ss) := by
  refine ⟨PA.imp (pa_star (h.run 0) hs.run) fun σ H Q ⟨ρ, F, O, R, r⟩ => ?_⟩
  have r1 : Run p ((evalE p.cf 0 ce ρ).bind fun v => (evalEs p.cf 0 cs ρ).bind fun vs => .ok (v :: vs)) σ H _ := r
  refine ⟨ρ, F, O, R, r1.bind.imp (Same.refl H) fun x _ q u H1 F1 g1 h1 => ?_⟩
  have st : ∀ vs, starred (true :: ss) (x :: vs) = (seqOf x).bind fun xs => (starred ss vs).map (xs ++ ·) := fun vs => by
    cases x <;> rfl
  have sq : (∃ xs, seqOf x = some xs ∧ ∃ a ws, u = .ref a ∧ (SqL X.K H1 a ws ∨ SqT X.K H1 a ws) ∧ RepA X.K H1 F1 0 ws xs) ∨ seqOf x = none := by
    cases x with
    | list xs =>
      obtain ⟨l, ws, rfl, s1, _, ra⟩ := rep_list.mp h1
      exact .inl ⟨xs, rfl, l, ws, rfl, .inl s1, ra⟩
    | tuple xs =>
      obtain ⟨l, ws, rfl, s1, ra⟩ := rep_tuple.mp h1
      exact .inl ⟨xs, rfl, l, ws, rfl, .inr s1, ra⟩
    | _ => exact .inr rfl
  rcases sq with ⟨xs, ex, l, ws, rfl, sq, ra⟩ | ex
  · refine ⟨l, ws, rfl, sq, ρ, F1, O, R.grow g1, q.bind.imp g1.same fun vs _ q2 => ?_⟩
    obtain ⟨ys, e1, q2⟩ := q2
    rw [st, ex] at e1
    have e2 : (starred ss vs).map (xs ++ ·) = some ys := e1
    cases e3 : starred ss vs with
    | none =>
      rw [e3] at e2
      cases e2
    | some zs =>
      rw [e3] at e2
      cases e2
      exact ⟨zs, rfl, fun us H2 F2 g2 h2 => q2 (ws ++ us) H2 F2 (g1.trans g2) (repA_app (repA_same g2.same g2.sub xs 0 0 ws (Nat.le_refl _) ra) h2)⟩
  · obtain ⟨vs, _, ys, e1, _⟩ := q.bind.ok (nx 0 ρ)
    rw [st, ex] at e1
    cases e1

/-! ### displays -/
theorem starred_none : ∀ (n : Nat) (vs : List Val), vs.length = n → starred (List.replicate n false) vs = some vs
  | 0, [], _ => rfl
  | n + 1, v :: vs, h => by
    show (starred (List.replicate n false) vs).map (v :: ·) = _
    rw [starred_none n vs (by simpa using h)]
    rfl
theorem evalEs_length {cf : Nat → List Val → Res Val} {k : Nat} {ρ : Env} : ∀ {cs : List E} {vs : List Val}, evalEs cf k cs ρ = .ok vs → vs.length = cs.length
  | [], vs, h => by
    cases h
    rfl
  | c :: cs, vs, h => by
    have h1 : ((evalE cf k c ρ).bind fun v => (evalEs cf k cs ρ).bind fun vs => Res.ok (v :: vs)) = .ok vs := h
    obtain ⟨v, _, h2⟩ := Res.bind_eq_ok h1
    obtain ⟨ws, h3, h4⟩ := Res.bind_eq_ok h2
    cases h4
    simp only [List.length_cons, evalEs_length h3]
theorem ve_tup {x1 : Nat} {ss : List Bool} (h : VAS X p es cs ss) : VE X p (.Tuple es x1 pos) (.op (.tup ss) cs) := by
  refine ⟨fun k => PE.imp (pe_tup h.run) fun σ H Q ⟨ρ, F, O, R, r⟩ => ?_⟩
  have r1 : Run p ((evalEs p.cf 0 cs ρ).bind fun vs => vTup ss vs) σ H _ := r
  refine ⟨ρ, F, O, R, r1.bind.imp (Same.refl H) fun vs _ q => ?_⟩
  unfold vTup at q
  cases e : starred ss vs with
  | none =>
    rw [e] at q
    exact q.elim
  | some xs =>
    rw [e] at q
    refine ⟨xs, rfl, fun us H1 F1 g1 r1 => ?_⟩
    cases hz : sizeOk xs.length with
    | false =>
      simp only [hz, Res.guard] at q
      exact q.elim
    | true =>
      simp only [hz, Res.guard] at q
      refine ⟨by rw [repA_length r1]; exact sizeOk_of hz, fun P nP => q (.ref P) _ F1 (g1.trans (Grow.put g1.dom nP)) (rep_tuple.mpr ⟨P, us, rfl, SqT.of upd_same, ?_⟩)⟩
      exact repA_same (Grow.put (o := .tup us) g1.dom nP).same (fun _ z => z) xs 0 _ us (Nat.zero_le _) r1
theorem vo_lst {ss : List Bool} (h : VAS X p es cs ss) : VO X p (.List es pos) (.op (.lst 0 ss) cs) 1 := by
  refine ⟨PE.imp (pe_lst h.run) fun σ H Q ⟨ρ, F, O, R, r⟩ => ?_⟩
  have r1 : Run p ((evalEs p.cf 0 cs ρ).bind fun vs => vLst ss vs) σ H _ := r
  refine ⟨ρ, F, O, R, r1.bind.imp (Same.refl H) fun vs _ q => ?_⟩
  unfold vLst at q
  cases e : starred ss vs with
  | none =>
    rw [e] at q
    exact q.elim
  | some xs =>
    rw [e] at q
    refine ⟨xs, rfl, fun us H1 F1 g1 r1 => ?_⟩
    cases hz : sizeOk xs.length with
    | false =>
      simp only [hz, Res.guard] at q
      exact q.elim
    | true =>
      simp only [hz, Res.guard] at q
      refine ⟨by rw [repA_length r1]; exact sizeOk_of hz, fun P nP => ?_⟩
      obtain ⟨g, o, n⟩ := own_new g1.dom nP r1
      exact q (.ref P) _ F1 [P] (g1.trans g) o fun a h => ⟨g1.same.free (n a h).1, (n a h).2⟩
/-- .. whose items are new too -/
theorem vo_lstN {d : Nat} (h : VAO X p es cs d) : VO X p (.List es pos) (.op (.lst d (List.replicate cs.length false)) cs) (d + 1) := by
  refine ⟨PE.imp (pe_lst h.run) fun σ H Q ⟨ρ, F, O, R, r⟩ => ?_⟩
  have r1 : Run p ((evalEs p.cf 0 cs ρ).bind fun vs => vLst (List.replicate cs.length false) vs) σ H _ := r
  refine ⟨ρ, F, O, R, r1.bind.imp (Same.refl H) fun vs ev q us H1 F1 S1 g1 r1 n1 => ?_⟩
  unfold vLst at q
  rw [starred_none _ vs (evalEs_length ev)] at q
  have ra := ownA_rep vs d S1 us r1
  cases hz : sizeOk vs.length with
  | false =>
    simp only [hz, Res.guard] at q
    exact q.elim
  | true =>
    simp only [hz, Res.guard] at q
    refine ⟨by rw [repA_length ra]; exact sizeOk_of hz, fun P nP => q (.ref P) _ F1 (P :: S1) (g1.trans (Grow.put g1.dom nP)) ?_ fun a ha => ?_⟩
    · simp only [Own]
      refine ⟨P, us, S1, rfl, upd_same, rfl, fun z => ?_, ownA_frame vs d S1 us r1 (fun b o e1 _ => (Grow.put g1.dom nP).same b o e1) fun _ z => z⟩
      obtain ⟨ws, e1⟩ := ownA_dom vs d S1 us r1 P z
      rw [nP] at e1
      cases e1
    · rcases List.mem_cons.mp ha with rfl | ha
      · exact ⟨g1.same.free nP, fun f => g1.dom a f nP⟩
      · exact n1 a ha

/-! ### built-ins by name -/
def SpN (K : PySem.W.Frag) (o : Op) (r : List V → Hp → VK → Prop) : Prop := ∀ (k : Nat) (H : Hp) (F : Addr → Prop) (us : List V) (xs : List Val) (v : Val) (Q : VK), (∀ a, F a → H a ≠ none) → RepA K H F (octx o k) us xs → den o xs = .ok v →
  (∀ z H' F', Grow H F H' F' → Rep K H' F' k z v → Q z H') → r us H Q
def SpNO (K : PySem.W.Frag) (o : Op) (r : List V → Hp → VK → Prop) (d : Nat) : Prop := ∀ (H : Hp) (F : Addr → Prop) (us : List V) (xs : List Val) (v : Val) (Q : VK), (∀ a, F a → H a ≠ none) → RepA K H F (octx o 0) us xs → den o xs = .ok v →
  (∀ z H' F' S, Grow H F H' F' → Own K H' F' d S z v → (∀ a ∈ S, H a = none ∧ ¬ F' a) → Q z H') → r us H Q
theorem tE_opN {K : PySem.W.Frag} {o : Op} {r : List V → Hp → VK → Prop} {k : Nat} {Q : VK} (sp : SpN K o r) (h : tE K p k (.op o cs) σ H Q) : tCB r (tA K p (octx o k) cs) σ H Q := by
  obtain ⟨ρ, F, O, R, h⟩ := h
  have h1 : Run p ((evalEs p.cf (octx o k) cs ρ).bind fun vs => den o vs) σ H _ := h
  refine ⟨ρ, F, O, R, h1.bind.imp (Same.refl H) fun xs _ q us H1 F1 g1 r1 => ?_⟩
  obtain ⟨v, e, q2⟩ := q.ok (den_nx o _)
  exact sp k H1 F1 us xs v Q g1.dom r1 e fun z H' F' g r => q2 z H' F' (g1.trans g) r
theorem tO_opN {K : PySem.W.Frag} {o : Op} {r : List V → Hp → VK → Prop} {d : Nat} {Q : VK} (sp : SpNO K o r d) (h : tO K p d (.op o cs) σ H Q) : tCB r (tA K p (octx o 0) cs) σ H Q := by
  obtain ⟨ρ, F, O, R, h⟩ := h
  have h1 : Run p ((evalEs p.cf (octx o 0) cs ρ).bind fun vs => den o vs) σ H _ := h
  refine ⟨ρ, F, O, R, h1.bind.imp (Same.refl H) fun xs _ q us H1 F1 g1 r1 => ?_⟩
  obtain ⟨v, e, q2⟩ := q.ok (den_nx o _)
  exact sp H1 F1 us xs v Q g1.dom r1 e fun z H' F' S g r n => q2 z H' F' S (g1.trans g) r fun a h => ⟨g1.same.free (n a h).1, (n a h).2⟩
variable {x : Str} {q0 : Pos} {id T : String} {o : Op} {r : List V → Hp → VK → Prop}
theorem ve_callB (hc : CallR X (.builtin id) r) (sp : SpN X.K o r) (hm : X.mg x = none) (hv : bootBuiltins x = some (.builtin id)) (ha : VA X p (e :: es) cs) (hg : Gl X x := by rfl) (hn : x ≠ "__name__" := by decide) (hdb : (x == ("__debug__" : Str)) = false := by decide)
    (he : starEach (e :: es) X.env = (false, eval e X.env) :: starEach es X.env := by rfl) (hpl : (backTo pos (starEach es X.env)).any (·.1) = false := by rfl) : VE X p (.Call (.Name x q0) (e :: es) [] pos) (.op o cs) :=
  ⟨fun k => PE.imp (pe_callB hc hg hm hv (ha.run _) hn hdb he hpl) fun σ H Q h => tE_opN sp h⟩
theorem ve_callTy (hc : CallR X (.type T) r) (sp : SpN X.K o r) (hm : X.mg x = none) (hv : bootBuiltins x = some (.type T)) (ha : VA X p (e :: es) cs) (hg : Gl X x := by rfl) (hn : x ≠ "__name__" := by decide) (hdb : (x == ("__debug__" : Str)) = false := by decide)
    (he : starEach (e :: es) X.env = (false, eval e X.env) :: starEach es X.env := by rfl) (hpl : (backTo pos (starEach es X.env)).any (·.1) = false := by rfl) : VE X p (.Call (.Name x q0) (e :: es) [] pos) (.op o cs) :=
  ⟨fun k => PE.imp (pe_callTy hc hg hm hv (ha.run _) hn hdb he hpl) fun σ H Q h => tE_opN sp h⟩
theorem vo_callB {d : Nat} (hc : CallR X (.builtin id) r) (sp : SpNO X.K o r d) (hm : X.mg x = none) (hv : bootBuiltins x = some (.builtin id)) (ha : VA X p (e :: es) cs) (hg : Gl X x := by rfl) (hn : x ≠ "__name__" := by decide) (hdb : (x == ("__debug__" : Str)) = false := by decide)
    (he : starEach (e :: es) X.env = (false, eval e X.env) :: starEach es X.env := by rfl) (hpl : (backTo pos (starEach es X.env)).any (·.1) = false := by rfl) : VO X p (.Call (.Name x q0) (e :: es) [] pos) (.op o cs) d :=
  ⟨PE.imp (pe_callB hc hg hm hv (ha.run _) hn hdb he hpl) fun σ H Q h => tO_opN sp h⟩
theorem vo_callTy {d : Nat} (hc : CallR X (.type T) r) (sp : SpNO X.K o r d) (hm : X.mg x = none) (hv : bootBuiltins x = some (.type T)) (ha : VA X p (e :: es) cs) (hg : Gl X x := by rfl) (hn : x ≠ "__name__" := by decide) (hdb : (x == ("__debug__" : Str)) = false := by decide)
    (he : starEach (e :: es) X.env = (false, eval e X.env) :: starEach es X.env := by rfl) (hpl : (backTo pos (starEach es X.env)).any (·.1) = false := by rfl) : VO X p (.Call (.Name x q0) (e :: es) [] pos) (.op o cs) d :=
  ⟨PE.imp (pe_callTy hc hg hm hv (ha.run _) hn hdb he hpl) fun σ H Q h => tO_opN sp h⟩
end
end VL

/-! VL, part 8: the built-ins one by one. -/
namespace VL
open PySem PySem.Spec L2 PySem.W
open PyProof.Rows hiding St

theorem den_one {o : Op} {xs : List Val} {v : Val} (h : den o xs = .ok v) (h0 : den o [] = .bad) (h2 : ∀ x y r, den o (x :: y :: r) = .bad) : ∃ x, xs = [x] := by
  cases xs with
  | nil =>
    rw [h0] at h
    cases h
  | cons x t =>
    cases t with
    | nil => exact ⟨x, rfl⟩
    | cons y r =>
      rw [h2] at h
      cases h
theorem den_two {o : Op} {xs : List Val} {v : Val} (h : den o xs = .ok v) (h0 : den o [] = .bad) (h1 : ∀ x, den o [x] = .bad) (h3 : ∀ x y z r, den o (x :: y :: z :: r) = .bad) : ∃ x y, xs = [x, y] := by
  cases xs with
  | nil =>
    rw [h0] at h
    cases h
  | cons x t =>
    cases t with
    | nil =>
      rw [h1] at h
      cases h
    | cons y t =>
      cases t with
      | nil => exact ⟨x, y, rfl⟩
      | cons z r =>
        rw [h3] at h
        cases h

section
variable {X : Cx} {p : Par} {a b c e : Expr} {ca cb cc ce : E} {pos : Pos} {σ : St} {H : Hp} {es : List Expr} {cs : List E} {q0 : Pos}

theorem sp_len {K : PySem.W.Frag} : SpN K .len (fun xs H Q => ∃ p ys, xs = [.ref p] ∧ (SqL K H p ys ∨ SqT K H p ys) ∧ Q (.int ys.length) H) := by
  intro k H F us xs v Q d hu h q
  obtain ⟨x, rfl⟩ := den_one h rfl fun x _ _ => by cases x <;> rfl
  obtain ⟨u, rfl, r1⟩ := repA_one hu
  have h1 : vLen x = .ok v := h
  cases x with
  | list xs =>
    cases h1
    obtain ⟨l, ws, rfl, s1, _, ra⟩ := rep_list.mp r1
    exact ⟨l, ws, rfl, .inl s1, q _ H F (Grow.refl d) (rep_int.mpr (by rw [repA_length ra]))⟩
  | tuple xs =>
    cases h1
    obtain ⟨l, ws, rfl, s1, ra⟩ := rep_tuple.mp r1
    exact ⟨l, ws, rfl, .inr s1, q _ H F (Grow.refl d) (rep_int.mpr (by rw [repA_length ra]))⟩
  | _ => cases h1
theorem ve_len (hm : X.mg "len" = none) (ha : VE X p e ce) (hg : Gl X "len" := by rfl) (he : starEach [e] X.env = (false, eval e X.env) :: starEach [] X.env := by rfl) : VE X p (.Call (.Name "len" q0) [e] [] pos) (.op .len [ce]) :=
  ve_callB call_len_seq sp_len hm boot_len (va_cons ha va_nil he) hg (by decide) (by decide) he rfl
theorem sp_list {K : PySem.W.Frag} : SpNO K .list (fun xs H Q => ∃ p ys, xs = [.ref p] ∧ (SqL K H p ys ∨ SqT K H p ys) ∧ ∀ l, H l = none → Q (.ref l) (upd H l (.lst ys))) 1 := by
  intro H F us xs v Q d hu h q
  obtain ⟨x, rfl⟩ := den_one h rfl fun x _ _ => by cases x <;> rfl
  obtain ⟨u, rfl, r1⟩ := repA_one hu
  cases x with
  | list xs =>
    cases h
    obtain ⟨l, ws, rfl, s1, _, ra⟩ := rep_list.mp r1
    refine ⟨l, ws, rfl, .inl s1, fun P nP => ?_⟩
    obtain ⟨g, o, n⟩ := own_new d nP ra
    exact q _ _ F [P] g o n
  | tuple xs =>
    cases h
    obtain ⟨l, ws, rfl, s1, ra⟩ := rep_tuple.mp r1
    refine ⟨l, ws, rfl, .inr s1, fun P nP => ?_⟩
    obtain ⟨g, o, n⟩ := own_new d nP ra
    exact q _ _ F [P] g o n
  | _ => cases h
theorem vo_list (hm : X.mg "list" = none) (ha : VE X p e ce) (hg : Gl X "list" := by rfl) (he : starEach [e] X.env = (false, eval e X.env) :: starEach [] X.env := by rfl) : VO X p (.Call (.Name "list" q0) [e] [] pos) (.op .list [ce]) 1 :=
  vo_callTy call_list_of sp_list hm (by decide +kernel) (va_cons ha va_nil he) hg (by decide) (by decide) he rfl
theorem sp_abs {K : PySem.W.Frag} : SpN K .abs (fun xs H Q => ∃ i, xs = [.int i] ∧ Q (.int (if i < 0 then -i else i)) H) := by
  intro k H F us xs v Q d hu h q
  obtain ⟨x, rfl⟩ := den_one h rfl fun x _ _ => by cases x <;> rfl
  obtain ⟨u, rfl, r1⟩ := repA_one hu
  cases x with
  | int i =>
    cases h
    exact ⟨i, by rw [rep_int.mp r1], q _ H F (Grow.refl d) (rep_int.mpr rfl)⟩
  | _ => cases h
theorem ve_abs (hm : X.mg "abs" = none) (ha : VE X p e ce) (hg : Gl X "abs" := by rfl) (he : starEach [e] X.env = (false, eval e X.env) :: starEach [] X.env := by rfl) : VE X p (.Call (.Name "abs" q0) [e] [] pos) (.op .abs [ce]) :=
  ve_callB call_abs sp_abs hm boot_abs (va_cons ha va_nil he) hg (by decide) (by decide) he rfl
theorem sp_int {K : PySem.W.Frag} : SpN K .int (fun xs H Q => (∃ i, xs = [.int i] ∧ Q (.int i) H) ∨ ∃ k, xs = [.bl k] ∧ Q (.int (if k then 1 else 0)) H) := by
  intro k H F us xs v Q d hu h q
  obtain ⟨x, rfl⟩ := den_one h rfl fun x _ _ => by cases x <;> rfl
  obtain ⟨u, rfl, r1⟩ := repA_one hu
  cases x with
  | int i =>
    cases h
    exact .inl ⟨i, by rw [rep_int.mp r1], q _ H F (Grow.refl d) (rep_int.mpr rfl)⟩
  | bool t =>
    cases h
    exact .inr ⟨t, by rw [rep_bool.mp r1], q _ H F (Grow.refl d) (rep_int.mpr rfl)⟩
  | _ => cases h
theorem ve_intc (hm : X.mg "int" = none) (ha : VE X p e ce) (hg : Gl X "int" := by rfl) (he : starEach [e] X.env = (false, eval e X.env) :: starEach [] X.env := by rfl) : VE X p (.Call (.Name "int" q0) [e] [] pos) (.op .int [ce]) :=
  ve_callTy call_int1 sp_int hm (by decide +kernel) (va_cons ha va_nil he) hg (by decide) (by decide) he rfl
theorem sp_min {K : PySem.W.Frag} : SpN K .min (fun xs H Q => ∃ i j, xs = [.int i, .int j] ∧ Q (.int (if j < i then j else i)) H) := by
  intro k H F us xs v Q d hu h q
  obtain ⟨x, y, rfl⟩ := den_two h rfl (fun x => by cases x <;> rfl) fun x y _ _ => by cases x <;> cases y <;> rfl
  obtain ⟨u, w, rfl, r1, r2⟩ := repA_two hu
  cases x with
  | int i =>
    cases y with
    | int j =>
      cases h
      exact ⟨i, j, by rw [rep_int.mp r1, rep_int.mp r2], q _ H F (Grow.refl d) (rep_int.mpr rfl)⟩
    | _ => cases h
  | _ => cases h
theorem sp_max {K : PySem.W.Frag} : SpN K .max (fun xs H Q => ∃ i j, xs = [.int i, .int j] ∧ Q (.int (if j > i then j else i)) H) := by
  intro k H F us xs v Q d hu h q
  obtain ⟨x, y, rfl⟩ := den_two h rfl (fun x => by cases x <;> rfl) fun x y _ _ => by cases x <;> cases y <;> rfl
  obtain ⟨u, w, rfl, r1, r2⟩ := repA_two hu
  cases x with
  | int i =>
    cases y with
    | int j =>
      cases h
      exact ⟨i, j, by rw [rep_int.mp r1, rep_int.mp r2], q _ H F (Grow.refl d) (rep_int.mpr rfl)⟩
    | _ => cases h
  | _ => cases h
theorem ve_min (hm : X.mg "min" = none) (ha : VE X p a ca) (hb : VE X p b cb) (hc : X.calm = true := by rfl) (hg : Gl X "min" := by rfl) (he : starEach [a, b] X.env = (false, eval a X.env) :: starEach [b] X.env := by rfl)
    (he2 : starEach [b] X.env = (false, eval b X.env) :: starEach [] X.env := by rfl) (hpl : (backTo pos (starEach [b] X.env)).any (·.1) = false := by rfl) : VE X p (.Call (.Name "min" q0) [a, b] [] pos) (.op .min [ca, cb]) :=
  ve_callB (call_min2 hc) sp_min hm boot_min (va_cons ha (va_cons hb va_nil he2) he) hg (by decide) (by decide) he hpl
theorem ve_max (hm : X.mg "max" = none) (ha : VE X p a ca) (hb : VE X p b cb) (hc : X.calm = true := by rfl) (hg : Gl X "max" := by rfl) (he : starEach [a, b] X.env = (false, eval a X.env) :: starEach [b] X.env := by rfl)
    (he2 : starEach [b] X.env = (false, eval b X.env) :: starEach [] X.env := by rfl) (hpl : (backTo pos (starEach [b] X.env)).any (·.1) = false := by rfl) : VE X p (.Call (.Name "max" q0) [a, b] [] pos) (.op .max [ca, cb]) :=
  ve_callB (call_max2 hc) sp_max hm boot_max (va_cons ha (va_cons hb va_nil he2) he) hg (by decide) (by decide) he hpl
theorem sp_all {K : PySem.W.Frag} : SpN K .all (rAll K) := by
  intro k H F us xs v Q d hu h q
  obtain ⟨x, rfl⟩ := den_one h rfl fun x _ _ => by cases x <;> rfl
  obtain ⟨u, rfl, r1⟩ := repA_one hu
  cases x with
  | list xs =>
    have h1 : (match boolsOf xs with
      | some bs => Res.ok (PyData.bool (bs.all id))
      | none => .bad) = .ok v := h
    cases e : boolsOf xs with
    | none =>
      rw [e] at h1
      cases h1
    | some bs =>
      rw [e] at h1
      cases h1
      obtain ⟨l, ws, rfl, s1, _, ra⟩ := rep_list.mp r1
      rw [boolsOf_eq e] at ra
      rw [repA_bools ra] at s1
      exact ⟨l, bs, rfl, s1, q _ H F (Grow.refl d) (rep_bool.mpr rfl)⟩
  | _ => cases h
theorem sp_any {K : PySem.W.Frag} : SpN K .any (rAny K) := by
  intro k H F us xs v Q d hu h q
  obtain ⟨x, rfl⟩ := den_one h rfl fun x _ _ => by cases x <;> rfl
  obtain ⟨u, rfl, r1⟩ := repA_one hu
  cases x with
  | list xs =>
    have h1 : (match boolsOf xs with
      | some bs => Res.ok (PyData.bool (bs.any id))
      | none => .bad) = .ok v := h
    cases e : boolsOf xs with
    | none =>
      rw [e] at h1
      cases h1
    | some bs =>
      rw [e] at h1
      cases h1
      obtain ⟨l, ws, rfl, s1, _, ra⟩ := rep_list.mp r1
      rw [boolsOf_eq e] at ra
      rw [repA_bools ra] at s1
      exact ⟨l, bs, rfl, s1, q _ H F (Grow.refl d) (rep_bool.mpr rfl)⟩
  | _ => cases h
theorem sp_sum {K : PySem.W.Frag} : SpN K .sum (rSum K) := by
  intro k H F us xs v Q d hu h q
  obtain ⟨x, rfl⟩ := den_one h rfl fun x _ _ => by cases x <;> rfl
  obtain ⟨u, rfl, r1⟩ := repA_one hu
  cases x with
  | list xs =>
    have h1 : (match intsOf xs with
      | some bs => Res.ok (PyData.int bs.sum)
      | none => .bad) = .ok v := h
    cases e : intsOf xs with
    | none =>
      rw [e] at h1
      cases h1
    | some bs =>
      rw [e] at h1
      cases h1
      obtain ⟨l, ws, rfl, s1, _, ra⟩ := rep_list.mp r1
      rw [intsOf_eq e] at ra
      rw [repA_ints ra] at s1
      exact ⟨l, bs, rfl, s1, q _ H F (Grow.refl d) (rep_int.mpr rfl)⟩
  | _ => cases h
theorem ve_all (hm : X.mg "all" = none) (ha : VE X p e ce) (hc : X.calm = true := by rfl) (hg : Gl X "all" := by rfl) (he : starEach [e] X.env = (false, eval e X.env) :: starEach [] X.env := by rfl) : VE X p (.Call (.Name "all" q0) [e] [] pos) (.op .all [ce]) :=
  ve_callB (cr_all hc) sp_all hm boot_all (va_cons ha va_nil he) hg (by decide) (by decide) he rfl
theorem ve_any (hm : X.mg "any" = none) (ha : VE X p e ce) (hc : X.calm = true := by rfl) (hg : Gl X "any" := by rfl) (he : starEach [e] X.env = (false, eval e X.env) :: starEach [] X.env := by rfl) : VE X p (.Call (.Name "any" q0) [e] [] pos) (.op .any [ce]) :=
  ve_callB (cr_any hc) sp_any hm boot_any (va_cons ha va_nil he) hg (by decide) (by decide) he rfl
theorem ve_sum (hm : X.mg "sum" = none) (ha : VE X p e ce) (hc : X.calm = true := by rfl) (hg : Gl X "sum" := by rfl) (he : starEach [e] X.env = (false, eval e X.env) :: starEach [] X.env := by rfl) : VE X p (.Call (.Name "sum" q0) [e] [] pos) (.op .sum [ce]) :=
  ve_callB (cr_sum hc) sp_sum hm boot_sum (va_cons ha va_nil he) hg (by decide) (by decide) he rfl

/-! ### list(range(..)) -/
theorem repA_rng {K : PySem.W.Frag} {F : Addr → Prop} {k : Nat} {lo hi : Int} : RepA K H F k (rgV lo hi) (rng lo hi) := by
  have e1 : rgV lo hi = ((List.range (hi - lo).toNat).map fun i => lo + ((i : Nat) : Int)).map V.int := by
    unfold rgV
    rw [List.map_map]
    rfl
  have e2 : rng lo hi = ((List.range (hi - lo).toNat).map fun i => lo + ((i : Nat) : Int)).map PyData.int := by
    unfold rng
    rw [List.map_map]
    rfl
  rw [e1, e2]
  exact repA_of_ints
theorem small_of {i : Int} (h : small i = true) : -(2 ^ 62) ≤ i ∧ i < 2 ^ 62 := by
  obtain ⟨h1, h2⟩ := Bool.and_eq_true_iff.mp h
  exact ⟨of_decide_eq_true h1, of_decide_eq_true h2⟩
theorem vo_listR1 {q1 pos1 : Pos} (hm : X.mg "list" = none) (hm2 : X.mg "range" = none) (ha : VE X p a ca) (hc : X.calm = true := by rfl) (hg : Gl X "list" := by rfl) (hg2 : Gl X "range" := by rfl) (na : starEach [a] X.env = (false, eval a X.env) :: starEach [] X.env := by rfl) :
    VO X p (.Call (.Name "list" q0) [.Call (.Name "range" q1) [a] [] pos1] [] pos) (.op .list [.op .range [ca]]) 1 := by
  refine ⟨PE.imp (pe_listRg hc hg hm (prg_1 hg2 hm2 (ha.run 9) na) rfl) fun σ H Q ⟨ρ, F, O, R, r⟩ => ?_⟩
  have r1 : Run p (((((evalE p.cf 9 ca ρ).bind fun x => Res.ok [x]).bind fun vs => den .range vs).bind fun y => Res.ok [y]).bind fun vs => den .list vs) σ H _ := r
  refine ⟨ρ, F, O, R, r1.bind.bind.bind.bind.imp (Same.refl H) fun x _ q u H1 F1 g1 rx => ?_⟩
  cases x with
  | int n =>
    refine ⟨n, rep_int.mp rx, ?_⟩
    have q1 : Run p (Res.guard (small n && sizeOk n.toNat) (Res.ok (PyData.list (rng 0 n)))) σ H _ := q
    obtain ⟨y, e1, q2⟩ := q1.ok (nx_guard nx_ok)
    obtain ⟨h1, h2⟩ := Res.guard_ok e1
    cases h2
    obtain ⟨h3, h4⟩ := Bool.and_eq_true_iff.mp h1
    obtain ⟨h5, h6⟩ := small_of h3
    have h7 := sizeOk_of h4
    rw [sizeLine_eq] at h7
    refine ⟨⟨by omega, by omega, h5, h6, by omega⟩, fun P nP => ?_⟩
    obtain ⟨g, o, n⟩ := own_new g1.dom nP (repA_rng (K := X.K) (F := F1) (lo := 0) (hi := n))
    exact q2 _ _ F1 [P] (g1.trans g) o fun a h => ⟨g1.same.free (n a h).1, (n a h).2⟩
  | _ => exact q.elim
theorem vo_listR2 {q1 pos1 : Pos} (hm : X.mg "list" = none) (hm2 : X.mg "range" = none) (ha : VE X p a ca) (hb : VE X p b cb) (nx : NX p cb) (hc : X.calm = true := by rfl) (hg : Gl X "list" := by rfl) (hg2 : Gl X "range" := by rfl) (na : starEach [a, b] X.env = (false, eval a X.env) :: starEach [b] X.env := by rfl)
    (nb : starEach [b] X.env = (false, eval b X.env) :: starEach [] X.env := by rfl) (hp : (backTo pos1 (starEach [b] X.env)).any (·.1) = false := by rfl) :
    VO X p (.Call (.Name "list" q0) [.Call (.Name "range" q1) [a, b] [] pos1] [] pos) (.op .list [.op .range [ca, cb]]) 1 := by
  refine ⟨PE.imp (pe_listRg hc hg hm (prg_2 hg2 hm2 (ha.run 9) (hb.run 9) na nb hp) rfl) fun σ H Q ⟨ρ, F, O, R, r⟩ => ?_⟩
  have r1 : Run p (((((evalE p.cf 9 ca ρ).bind fun x => ((evalE p.cf 9 cb ρ).bind fun y => Res.ok [y]).bind fun ys => .ok (x :: ys)).bind fun vs => den .range vs).bind fun y => Res.ok [y]).bind fun vs => den .list vs) σ H _ := r
  refine ⟨ρ, F, O, R, r1.bind.bind.bind.bind.imp (Same.refl H) fun x _ q u H1 F1 g1 rx => ⟨ρ, F1, O, R.grow g1, q.bind.bind.imp g1.same fun y _ q w H2 F2 g2 ry => ?_⟩⟩
  cases x with
  | int m =>
    cases y with
    | int n =>
      refine ⟨m, n, rep_int.mp rx, rep_int.mp ry, ?_⟩
      have q1 : Run p (Res.guard (small m && (small n && sizeOk (n - m).toNat)) (Res.ok (PyData.list (rng m n)))) σ H _ := q
      obtain ⟨y, e1, q2⟩ := q1.ok (nx_guard nx_ok)
      obtain ⟨h1, h2⟩ := Res.guard_ok e1
      cases h2
      obtain ⟨h3, h4⟩ := Bool.and_eq_true_iff.mp h1
      obtain ⟨h4, h8⟩ := Bool.and_eq_true_iff.mp h4
      obtain ⟨h5, h6⟩ := small_of h3
      obtain ⟨h9, h10⟩ := small_of h4
      have h7 := sizeOk_of h8
      rw [sizeLine_eq] at h7
      refine ⟨⟨h5, h6, h9, h10, by omega⟩, fun P nP => ?_⟩
      obtain ⟨g, o, n⟩ := own_new g2.dom nP (repA_rng (K := X.K) (F := F2) (lo := m) (hi := n))
      exact q2 _ _ F2 [P] (g1.trans (g2.trans g)) o fun a h => ⟨(g1.trans g2).same.free (n a h).1, (n a h).2⟩
    | _ => exact q.elim
  | _ => cases y <;> exact q.elim

/-! ### sorted -/
theorem shaped_depth {xs : List Val} (h : SeqAt.shaped (.list xs) = true) : ∀ d ∈ xs, d.depth ≤ 63 := by
  have h1 : PyData.depth (.list xs) ≤ 64 := SeqAt.depth_of_shaped h
  have h2 : PyData.depthAll xs ≤ 63 := by
    simp only [PyData.depth] at h1
    omega
  clear h h1
  induction xs with
  | nil => exact fun d hd => (nomatch hd)
  | cons x xs ih =>
    simp only [PyData.depthAll] at h2
    intro d hd
    rcases List.mem_cons.mp hd with rfl | hd
    · omega
    · exact ih (by omega) d hd
theorem eachIs_of {K : PySem.W.Frag} {F : Addr → Prop} {k : Nat} : ∀ {xs : List Val} {ws : List V} {its : List Value}, RepA K H F k ws xs → Vals ws its → EachIs (fun v d => ∃ w, RelV w v ∧ Rep K H F k w d) its xs
  | [], _, _, h, r => by
    simp only [RepA] at h
    subst h
    cases r
    exact .nil
  | x :: xs, _, _, h, r => by
    simp only [RepA] at h
    obtain ⟨w, t, rfl, h1, h2⟩ := h
    cases r with
    | cons r1 r2 => exact .cons ⟨w, r1, h1⟩ (eachIs_of h2 r2)
theorem of_eachIs {K : PySem.W.Frag} {F : Addr → Prop} {k : Nat} : ∀ {xs : List Val} {its : List Value}, EachIs (fun v d => ∃ w, RelV w v ∧ Rep K H F k w d) its xs → ∃ ws, Vals ws its ∧ RepA K H F k ws xs
  | _, _, .nil => ⟨[], .nil, repA_nil⟩
  | _, _, .cons ⟨w, r, h⟩ t => by
    obtain ⟨ws, r2, h2⟩ := of_eachIs t
    exact ⟨w :: ws, .cons r r2, repA_cons h h2⟩
def rSorted (K : PySem.W.Frag) : List V → Hp → VK → Prop := fun us H Q => ∃ l ws xs F, us = [.ref l] ∧ SqL K H l ws ∧ RepA K H F 0 ws xs ∧ sortableB xs = true ∧ ∀ P zs, H P = none → RepA K H F 0 zs (sortV xs) → Q (.ref P) (upd H P (.lst zs))
theorem cr_sorted (hu : X.A.units + 70 < cLine) : CallR X (.builtin "sorted") (rSorted X.K) := by
  intro pins s σ H us vs Q I r h
  obtain ⟨l, ws, xs, F, rfl, sl, ra, so, q⟩ := h
  obtain ⟨u, rfl, ru⟩ := vals1 r
  cases ru
  obtain ⟨its, rv, pl, hz⟩ := I.list sl
  have ln := rv.length
  have lx := repA_length ra
  obtain ⟨s1, s2⟩ := Bool.and_eq_true_iff.mp so
  obtain ⟨s2, s3⟩ := Bool.and_eq_true_iff.mp s2
  have e1 : xs.map (fun d : Val => d) = xs := List.map_id' xs
  have al : PySem.W.AllAlike (xs.map fun d : Val => d) := by
    rw [e1]
    intro d hd d' hd'
    exact List.all_eq_true.mp (List.all_eq_true.mp s1 d hd) d' hd'
  have sr : PySem.W.Sortable (xs.map fun d : Val => d) := by
    rw [e1]
    rcases Bool.or_eq_true_iff.mp s3 with s3 | s3
    · refine .inl fun d hd => ?_
      have z := List.all_eq_true.mp s3 d hd
      cases d with
      | tuple ys =>
        cases ys with
        | nil => cases z
        | cons y r => exact ⟨y, r, rfl⟩
      | _ => cases z
    · refine .inr fun d hd => ?_
      have z := List.all_eq_true.mp s3 d hd
      refine ⟨?_, ?_⟩
      · rintro rfl
        cases z
      · rintro ys rfl
        cases z
  have eR := eachIs_of ra rv
  have eRd : EachIs (fun v d => ∃ as, Reads s.heap v ((fun d : Val => d) d) as) its xs := by
    have q1 : ∀ {its : List Value} {xs : List Val}, EachIs (fun v d => ∃ w, RelV w v ∧ Rep X.K H F 0 w d) its xs → EachIs (fun v d => ∃ as, Reads s.heap v ((fun d : Val => d) d) as) its xs := by
      intro its xs t
      induction t with
      | nil => exact .nil
      | cons h _ ih =>
        obtain ⟨w, r, h⟩ := h
        exact .cons (Dp.reads I _ _ _ (rep_dp _ _ _ h) r) ih
    exact q1 eR
  have dp := shaped_depth s2
  refine PySem.W.sorted_data (bs := xs) (enc := fun d : Val => d) (R := fun v d => ∃ w, RelV w v ∧ Rep X.K H F 0 w d) pl.isList eR eRd al sr (by omega) (fun d hd => by have := dp d hd; omega) fun out lo eo => ?_
  obtain ⟨zs, rz, rz2⟩ := of_eachIs eo
  obtain ⟨c, hc⟩ := sortedAll_at s.heap its out.toArray
  have lz := repA_length rz2
  have lsm : (xs.mergeSort (PySem.W.dataLe false fun d : Val => d)).length = xs.length := List.length_mergeSort _
  have nP : H (s.heap.objs.size + 1) = none := I.hok.fresh (Nat.le_succ _)
  refine ⟨.ref (s.heap.objs.size + 1), upd H (s.heap.objs.size + 1) (.lst zs), I.laid (t' := s.toks) (fun b o e => sortedAll_old e) (Nat.le_succ _) ?_, rfl, q _ zs nP rz2⟩
  exact ⟨by rw [lz, lsm]; omega, out, c, rz, hc⟩
theorem vo_sorted (hu : X.A.units + 70 < cLine) (hm : X.mg "sorted" = none) (ha : VE X p e ce) (hg : Gl X "sorted" := by rfl) (he : starEach [e] X.env = (false, eval e X.env) :: starEach [] X.env := by rfl) : VO X p (.Call (.Name "sorted" q0) [e] [] pos) (.op .sorted [ce]) 1 :=
  vo_callB (cr_sorted hu) (fun H F us xs v Q d hu h q => by
    obtain ⟨x, rfl⟩ := den_one h rfl fun x _ _ => by cases x <;> rfl
    obtain ⟨u, rfl, r1⟩ := repA_one hu
    have h1 : vSorted x = .ok v := h
    cases x with
    | list xs =>
      obtain ⟨h2, h3⟩ := Res.guard_ok h1
      cases h3
      obtain ⟨l, ws, rfl, s1, _, ra⟩ := rep_list.mp r1
      refine ⟨l, ws, xs, F, rfl, s1, ra, h2, fun P zs nP rz => ?_⟩
      obtain ⟨g, o, n⟩ := own_new d nP rz
      exact q _ _ F [P] g o n
    | _ => cases h1) hm boot_sorted (va_cons ha va_nil he) hg (by decide) (by decide) he rfl

/-! ### repr -/
def rRepr (K : PySem.W.Frag) : List V → Hp → VK → Prop := fun us H Q => ∃ u v F, us = [u] ∧ Rep K H F 9 u v ∧ reprOk v = true ∧ Q (.str v.shown) H
theorem cr_repr (hg : X.A.guards = some []) (hu : X.A.units + 70 < cLine) : CallR X (.builtin "repr") (rRepr X.K) := by
  intro pins s σ H us vs Q I r h
  obtain ⟨u, v, F, rfl, rv, ok, q⟩ := h
  obtain ⟨w, rfl, ru⟩ := vals1 r
  obtain ⟨k1, k2⟩ := Bool.and_eq_true_iff.mp ok
  obtain ⟨k1, k0⟩ := Bool.and_eq_true_iff.mp k1
  obtain ⟨k2, k3⟩ := Bool.and_eq_true_iff.mp k2
  obtain ⟨k3, k4⟩ := Bool.and_eq_true_iff.mp k3
  have nd : v.hasDict = false := by
    cases e : v.hasDict with
    | false => rfl
    | true =>
      rw [e] at k2
      cases k2
  obtain ⟨as, rd⟩ := Dp.reads I v u w (rep_dp v _ u rv) ru
  have fin : ∀ (h' : Heap) (t : Tok) (tk : Nat), (∀ b o, s.heap.get? b = some o → h'.get? b = some o) → EP X pins σ Q (.str v.shown t) { s with heap := h', toks := tk } := fun h' t tk hk => ⟨.str v.shown, H, I.kept hk, ⟨t, rfl⟩, q⟩
  cases v with
  | none => cases k1
  | str _ => cases k1
  | dict _ => cases k1
  | bool b =>
    rw [rep_bool.mp rv] at ru
    cases ru
    refine PySem.P.repr_of_bool ?_
    have z := fin s.heap s.toks (s.toks + 1) fun _ _ e => e
    simp only [PyData.shown] at z
    exact z
  | int i =>
    rw [rep_int.mp rv] at ru
    obtain ⟨t, rfl⟩ := ru
    have hi : i.natAbs.log2 < 1920 := by simpa [PyData.showable] using k0
    refine PySem.P.repr_of_int hi ?_
    have z := fin s.heap s.toks (s.toks + 1) fun _ _ e => e
    simp only [PyData.shown] at z
    exact z
  | list xs =>
    obtain ⟨l, ws, rfl, _⟩ := rep_list.mp rv
    cases ru
    exact repr_of_reads' rd k0 (PyData.noDict_hsm nd) hg (by have := of_decide_eq_true k4; omega) (fun _ _ e => e) (fun h' t tk hk => fin h' t tk hk) (sizeOk_of k3)
  | tuple xs =>
    obtain ⟨l, ws, rfl, _⟩ := rep_tuple.mp rv
    cases ru
    exact repr_of_reads' rd k0 (PyData.noDict_hsm nd) hg (by have := of_decide_eq_true k4; omega) (fun _ _ e => e) (fun h' t tk hk => fin h' t tk hk) (sizeOk_of k3)
theorem ve_repr (hgd : X.A.guards = some []) (hu : X.A.units + 70 < cLine) (hm : X.mg "repr" = none) (ha : VE X p e ce) (hg : Gl X "repr" := by rfl) (he : starEach [e] X.env = (false, eval e X.env) :: starEach [] X.env := by rfl) : VE X p (.Call (.Name "repr" q0) [e] [] pos) (.op .repr [ce]) :=
  ve_callB (cr_repr hgd hu) (fun k H F us xs v Q d hu h q => by
    obtain ⟨x, rfl⟩ := den_one h rfl fun x _ _ => by cases x <;> rfl
    obtain ⟨u, rfl, r1⟩ := repA_one hu
    have h1 : Res.guard (reprOk x) (Res.ok (PyData.str x.shown)) = .ok v := h
    obtain ⟨h2, h3⟩ := Res.guard_ok h1
    cases h3
    exact ⟨u, x, F, rfl, r1, h2, q _ H F (Grow.refl d) (rep_str.mpr rfl)⟩) hm boot_repr (va_cons ha va_nil he) hg (by decide) (by decide) he rfl

/-! ### isinstance -/
def tyName : Val → String
  | .none => "NoneType"
  | .bool _ => "bool"
  | .int _ => "int"
  | .str _ => "str"
  | .list _ => "list"
  | .tuple _ => "tuple"
  | .dict _ => "dict"
def tyOf : Nat → String
  | 0 => "list"
  | 1 => "bool"
  | 2 => "int"
  | _ => "tuple"
theorem kit_is (t : Nat) (ht : t < 4) (v : Val) (hv : ∀ kvs, v ≠ .dict kvs) : kitB (tyName v) (tyOf t) = some (isType t v) := by
  have h : t = 0 ∨ t = 1 ∨ t = 2 ∨ t = 3 := by omega
  rcases h with rfl | rfl | rfl | rfl
  all_goals
    cases v with
    | dict kvs => exact absurd rfl (hv kvs)
    | _ => (show kitB _ _ = _; simp only [tyName, tyOf, isType]; decide +kernel)
theorem tyX_of {K : PySem.W.Frag} {F : Addr → Prop} {k : Nat} {u : V} {v : Val} (h : Rep K H F k u v) : TyX K H u (.type (tyName v)) := by
  cases v with
  | none => rw [rep_none.mp h]; exact .base .non
  | bool b => rw [rep_bool.mp h]; exact .base (.bl b)
  | int i => rw [rep_int.mp h]; exact .base (.int i)
  | str z => rw [rep_str.mp h]; exact .base (.str z)
  | list xs =>
    obtain ⟨l, ws, rfl, s1, _⟩ := rep_list.mp h
    rcases s1 with (s1 | ⟨o, s1⟩) | ⟨o, its, n, s1, s2, _⟩
    · exact .base (.lst s1)
    · exact .base (.frz s1)
    · exact .kList s1 s2
  | tuple xs =>
    obtain ⟨l, ws, rfl, s1, _⟩ := rep_tuple.mp h
    rcases s1 with (s1 | ⟨o, s1⟩) | ⟨o, its, n, s1, s2, _⟩
    · exact .base (.tup s1)
    · exact .fTuple s1
    · exact .kTuple s1 s2
  | dict _ => simp only [Rep] at h
theorem ve_isT (t : Nat) {T : Str} {q1 : Pos} (hm : X.mg "isinstance" = none) (hm2 : X.mg T = none) (ha : VE X p a ca) (ht : t < 4 := by decide) (hv : bootBuiltins T = some (.type (tyOf t)) := by decide +kernel) (hn : T ≠ "__name__" := by decide) (hd : (T == ("__debug__" : Str)) = false := by decide) (hg2 : Gl X T := by rfl)
    (hg : Gl X "isinstance" := by rfl) (he : starEach [a, .Name T q1] X.env = (false, eval a X.env) :: starEach [.Name T q1] X.env := by rfl) : VE X p (.Call (.Name "isinstance" q0) [a, .Name T q1] [] pos) (.op (.isT t) [ca]) := by
  refine ⟨fun k => PE.imp (pe_callB call_isi hg hm boot_isinstance (pa_cons (ha.run 9) (pa_cons (pe_bltn (v := .ty (tyOf t)) hg2 hm2 hv rfl hn hd) pa_nil rfl) he) (by decide) (by decide) he rfl) fun σ H Q h => tE_op1 (o := .isT t) (r := fun x H1 Q => rIsi X.K [x, .ty (tyOf t)] H1 Q) (fun k H F u x v Q d hu h q => ?_) h⟩
  cases h
  have nd : ∀ kvs, x ≠ .dict kvs := by
    rintro kvs rfl
    simp only [Rep] at hu
  exact ⟨u, .ty (tyOf t), .type (tyName x), .type (tyOf t), isType t x, rfl, .ty _, tyX_of hu, kit_ty (kit_is t ht x nd), q _ H F (Grow.refl d) (rep_bool.mpr rfl)⟩

/-! ### xs.count(k) -/
theorem ve_count {apos : Pos} (ha : VE X p a ca) (hb : VE X p b cb) (nx : NX p cb) (hbase : attributeBase a "count" X.env (eval a X.env) = eval a X.env := by rfl)
    (hfew : ((backTo pos (starEach [b] X.env)).all (fun x => !x.1) && (backToKw pos (keywordEach [] X.env)).all (fun x => x.1.isSome)
      && decide ([b].length + ([] : List Keyword).length + (if ([] : List Keyword).isEmpty then 0 else 1) < 30)) = true := by rfl)
    (hline : (apos.endLine == pos.line) = true := by rfl) (hs : starEach [b] X.env = (false, eval b X.env) :: starEach [] X.env := by rfl) : VE X p (.Call (.Attribute a "count" apos) [b] [] pos) (.op .count [ca, cb]) := by
  refine ⟨fun k => PE.imp (pe_bm PySem.F.plainAttrs_list PySem.F.slot_list_count PySem.F.type_list_count mt_lcount (ha.run 9) (pa_cons (hb.run 9) pa_nil hs) hbase hfew hline hs rfl) fun σ H Q ⟨ρ, F, O, R, r⟩ => ?_⟩
  have h1 : Run p (((evalE p.cf 9 ca ρ).bind fun x => ((evalE p.cf 9 cb ρ).bind fun y => Res.ok [y]).bind fun ys => .ok (x :: ys)).bind fun vs => den .count vs) σ H _ := r
  refine ⟨ρ, F, O, R, h1.bind.bind.imp (Same.refl H) fun x _ q u H1 F1 g1 rx => ?_⟩
  have q3 := q.bind.bind
  obtain ⟨y, ey, q4⟩ := q3.ok (nx 9 ρ)
  have sh : ∀ y v, den .count [x, y] = .ok v → ∃ xs is k, x = .list xs ∧ y = .int k ∧ intsOf xs = some is ∧ v = .int (is.count k : Nat) := fun y v h => by
    cases x with
    | list xs =>
      cases y with
      | int k =>
        have h2 : (match intsOf xs with
          | some is => Res.ok (PyData.int (is.count k : Nat))
          | none => .bad) = .ok v := h
        cases e : intsOf xs with
        | none =>
          rw [e] at h2
          cases h2
        | some is =>
          rw [e] at h2
          cases h2
          exact ⟨xs, is, k, rfl, rfl, e, rfl⟩
      | _ => cases h
    | _ => cases y <;> cases h
  have q5 : Run p (den .count [x, y]) σ H _ := q4
  obtain ⟨v, ev, _⟩ := q5.ok (den_nx _ _)
  obtain ⟨xs, is, k, rfl, _, ei, _⟩ := sh y v ev
  obtain ⟨l, ws, rfl, s1, _, ra⟩ := rep_list.mp rx
  refine ⟨.inl ⟨rfl, ws, s1⟩, ρ, F1, O, R.grow g1, q3.imp g1.same fun y _ q w H2 F2 g2 ry => ?_⟩
  have q6 : Run p (den .count [.list xs, y]) σ H _ := q
  obtain ⟨v, ev, q7⟩ := q6.ok (den_nx _ _)
  obtain ⟨xs2, is2, k2, e1, rfl, ei2, rfl⟩ := sh y v ev
  cases e1
  rw [ei] at ei2
  cases ei2
  rw [intsOf_eq ei] at ra
  rw [repA_ints ra] at s1
  exact ⟨l, is, k2, rfl, by rw [rep_int.mp ry], g2.same.seq s1, q7 _ H2 F2 (g1.trans g2) (rep_int.mpr rfl)⟩
end
end VL

/-! VL, part 9: slots, patterns, iterators. -/
namespace VL
open PySem PySem.Spec L2 PySem.W
open PyProof.Rows hiding St

/-! ### slots -/
theorem wipe_get (σ : St) (j : Nat) : ∀ w : List Nat, (L2.wipe σ w)[j]? = if j ∈ w then (if j < σ.length then some none else none) else σ[j]?
  | [] => by simp [L2.wipe]
  | v :: vs => by
    unfold L2.wipe
    rw [List.getElem?_set, wipe_length, wipe_get σ j vs]
    by_cases e : v = j
    · subst e
      simp
    · have e' : ¬ j = v := fun z => e z.symm
      simp only [e, if_false, List.mem_cons, e', false_or]
theorem killL_length : ∀ (w : List Nat) (ρ : Env), (killL w ρ).length = ρ.length
  | [], _ => rfl
  | i :: r, ρ => by
    unfold killL
    rw [killL_length r, List.length_set]
theorem killL_get (j : Nat) : ∀ (w : List Nat) (ρ : Env), (killL w ρ)[j]? = if j ∈ w then (if j < ρ.length then some none else none) else ρ[j]?
  | [], ρ => by simp [killL]
  | i :: r, ρ => by
    unfold killL
    rw [killL_get j r, List.length_set, List.getElem?_set]
    by_cases e : i = j
    · subst e
      by_cases h : i ∈ r <;> simp [h]
    · have e' : ¬ j = i := fun z => e z.symm
      simp only [e, if_false, List.mem_cons, e', false_or]
theorem wipe_same {σ σ' : St} {w : List Nat} (hl : σ'.length = σ.length) (h : ∀ j, j ∉ w → σ'[j]? = (L2.wipe σ w)[j]?) : L2.wipe σ' w = L2.wipe σ w := by
  refine List.ext_getElem? fun j => ?_
  rw [wipe_get, wipe_get, hl]
  by_cases e : j ∈ w
  · simp [e]
  · have := h j e
    rw [wipe_get] at this
    simpa only [e, if_false] using this

section
variable {K : PySem.W.Frag} {ρ : Env} {F F' : Addr → Prop} {O : Nat → List Addr} {σ : St} {H H' : Hp}
theorem Rel.wipe (R : Rel K ρ F O σ H) (w : List Nat) : Rel K (killL w ρ) F (fun j => if j ∈ w then [] else O j) (L2.wipe σ w) H where
  len := by rw [wipe_length, killL_length, R.len]
  slot := fun i v d e => by
    rw [killL_get] at e
    by_cases h : i ∈ w
    · rw [if_pos h] at e
      split at e <;> cases e
    · rw [if_neg h] at e
      rw [wipe_get, if_neg h]
      obtain ⟨u, e1, q⟩ := R.slot i v d e
      exact ⟨u, e1, by simpa only [h, if_false] using q⟩
  empty := fun i h => by
    by_cases hi : i ∈ w
    · simp [hi]
    · simp only [hi, if_false]
      exact R.empty i fun v d e => h v d (by rw [killL_get, if_neg hi]; exact e)
  disj := fun i j a n h => by
    by_cases hi : i ∈ w
    · simp [hi] at h
    · simp only [hi, if_false] at h
      by_cases hj : j ∈ w
      · simp [hj]
      · simp only [hj, if_false]
        exact R.disj i j a n h
  notF := fun i a h => by
    by_cases hi : i ∈ w
    · simp [hi] at h
    · simp only [hi, if_false] at h
      exact R.notF i a h
  dom := R.dom
/-- slot i now holds x, whose own lists are at S -/
theorem Rel.set (R : Rel K ρ F O σ H) {i d : Nat} {S : List Addr} {u : V} {x : Val} (hi : i < ρ.length) (o : Own K H F d S u x) (hS : ∀ a ∈ S, ¬ F a ∧ ∀ j, j ≠ i → a ∉ O j) :
    Rel K (ρ.set i (some (x, d))) F (fun j => if j = i then S else O j) (σ.set i (some u)) H where
  len := by rw [List.length_set, List.length_set, R.len]
  slot := fun j v k e => by
    rw [List.getElem?_set] at e ⊢
    by_cases h : i = j
    · subst h
      have hs : i < σ.length := by rw [R.len]; exact hi
      simp only [if_true, hi, hs, Option.some.injEq, Prod.mk.injEq] at e ⊢
      obtain ⟨rfl, rfl⟩ := e
      exact ⟨u, rfl, o⟩
    · rw [if_neg h] at e ⊢
      obtain ⟨w, e1, q⟩ := R.slot j v k e
      exact ⟨w, e1, by rw [if_neg fun z => h z.symm]; exact q⟩
  empty := fun j h => by
    by_cases e : j = i
    · subst e
      exact absurd (by rw [List.getElem?_set_self hi]) (h x d)
    · simp only [e, if_false]
      exact R.empty j fun v k q => h v k (by rw [List.getElem?_set_ne fun z => e z.symm]; exact q)
  disj := fun j k a n h => by
    by_cases e : j = i
    · subst e
      simp only [if_true] at h
      have : ¬ k = j := fun z => n z.symm
      simp only [this, if_false]
      exact (hS a h).2 k this
    · simp only [e, if_false] at h
      by_cases e2 : k = i
      · subst e2
        simp only [if_true]
        exact fun z => (hS a z).2 j e h
      · simp only [e2, if_false]
        exact R.disj j k a n h
  notF := fun j a h => by
    by_cases e : j = i
    · subst e
      simp only [if_true] at h
      exact (hS a h).1
    · simp only [e, if_false] at h
      exact R.notF j a h
  dom := R.dom
theorem Rel.put (R : Rel K ρ F O σ H) {i : Nat} {u : V} {x : Val} (hi : i < ρ.length) (o : Rep K H F 0 u x) :
    Rel K (ρ.set i (some (x, 0))) F (fun j => if j = i then [] else O j) (σ.set i (some u)) H := R.set hi (own_zero.mpr ⟨rfl, o⟩) fun _ z => (nomatch z)
end

/-! ### patterns -/
mutual
def patS : Pat → List Nat
  | .slot i => [i]
  | .tup ps => patSs ps
def patSs : List Pat → List Nat
  | [] => []
  | p :: ps => patS p ++ patSs ps
end
mutual
theorem bindP_length : ∀ (t : Pat) (v : Val) (ρ ρ' : Env), bindP t v ρ = .ok ρ' → ρ'.length = ρ.length
  | .slot i, v, ρ, ρ', h => by
    unfold bindP at h
    cases (Res.guard_ok h).2
    rw [List.length_set]
  | .tup ps, .tuple vs, ρ, ρ', h => by
    unfold bindP at h
    exact bindPs_length ps vs ρ ρ' h
  | .tup _, .list _, _, _, h => by unfold bindP at h; cases h
  | .tup _, .none, _, _, h => by unfold bindP at h; cases h
  | .tup _, .bool _, _, _, h => by unfold bindP at h; cases h
  | .tup _, .int _, _, _, h => by unfold bindP at h; cases h
  | .tup _, .str _, _, _, h => by unfold bindP at h; cases h
  | .tup _, .dict _, _, _, h => by unfold bindP at h; cases h
theorem bindPs_length : ∀ (ts : List Pat) (vs : List Val) (ρ ρ' : Env), bindPs ts vs ρ = .ok ρ' → ρ'.length = ρ.length
  | [], [], _, _, h => by unfold bindPs at h; cases h; rfl
  | t :: ts, v :: vs, ρ, ρ', h => by
    unfold bindPs at h
    obtain ⟨ρ1, h1, h2⟩ := Res.bind_eq_ok h
    rw [bindPs_length ts vs ρ1 ρ' h2, bindP_length t v ρ ρ1 h1]
  | [], _ :: _, _, _, h => by unfold bindPs at h; cases h
  | _ :: _, [], _, _, h => by unfold bindPs at h; cases h
end
def OSub (O' O : Nat → List Addr) : Prop := ∀ j, O' j = [] ∨ O' j = O j
theorem OSub.refl {O : Nat → List Addr} : OSub O O := fun _ => .inr rfl
theorem OSub.trans {O O' O'' : Nat → List Addr} (h : OSub O'' O') (h' : OSub O' O) : OSub O'' O := fun j => by
  rcases h j with e | e
  · exact .inl e
  · rw [e]; exact h' j
def tG (K : PySem.W.Frag) (t : Pat) : TG := fun v σ H Q => ∃ ρ F O x ρ', Rel K ρ F O σ H ∧ Rep K H F 0 v x ∧ bindP t x ρ = .ok ρ' ∧ ∀ σ' O', Rel K ρ' F O' σ' H → OSub O' O → (∀ j, j ∉ patS t → σ'[j]? = σ[j]?) → Q σ' H
def tGs (K : PySem.W.Frag) (ts : List Pat) : TGs := fun vs σ H Q => ∃ ρ F O xs ρ', Rel K ρ F O σ H ∧ RepA K H F 0 vs xs ∧ bindPs ts xs ρ = .ok ρ' ∧ ∀ σ' O', Rel K ρ' F O' σ' H → OSub O' O → (∀ j, j ∉ patSs ts → σ'[j]? = σ[j]?) → Q σ' H
structure VG (X : Cx) (tg : Expr) (t : Pat) : Prop where
  run : PG X tg (tG X.K t)
structure VGs (X : Cx) (tgs : List Expr) (ts : List Pat) : Prop where
  run : PGs X tgs (tGs X.K ts)
theorem PG.imp {X : Cx} {e : Expr} {t t' : TG} (h : PG X e t) (i : ∀ v σ H Q, t' v σ H Q → t v σ H Q) : PG X e t' := ⟨fun pins s σ H v u Q I r q => h.run pins s σ H v u Q I r (i v σ H Q q)⟩
theorem PGs.imp {X : Cx} {e : List Expr} {t t' : TGs} (h : PGs X e t) (i : ∀ v σ H Q, t' v σ H Q → t v σ H Q) : PGs X e t' := ⟨fun pins s σ H v u Q I r q => h.run pins s σ H v u Q I r (i v σ H Q q)⟩
section
variable {X : Cx} {pos : Pos} {e : Expr} {es : List Expr} {t : Pat} {ts : List Pat}
theorem vg_name (i : Nat) {x : Str} (hN : X.N.Nodup) (hi : X.N[i]? = some x := by rfl) (hx : Loc X.env.scope x := by first | exact Or.inl rfl | exact Or.inr rfl) (hf : X.fn x = true ∨ X.env.scope.names.lookup x = some .local := by first | exact Or.inl rfl | exact Or.inr rfl) : VG X (.Name x pos) (.slot i) := by
  refine ⟨PG.imp (pg_name hN hi hx hf) fun v σ H Q ⟨ρ, F, O, x, ρ', R, r, b, q⟩ => ?_⟩
  unfold bindP at b
  obtain ⟨hl, hb⟩ := Res.guard_ok b
  cases hb
  have hl' : i < ρ.length := by simpa [Nat.blt_eq] using hl
  refine q _ _ (R.put hl' r) (fun j => ?_) fun j hj => ?_
  · by_cases e : j = i
    · exact .inl (if_pos e)
    · exact .inr (if_neg e)
  · simp only [patS, List.mem_singleton] at hj
    exact List.getElem?_set_ne fun z => hj z.symm
theorem vgs_nil : VGs X [] [] := ⟨PGs.imp pgs_nil fun vs σ H Q ⟨ρ, F, O, xs, ρ', R, r, b, q⟩ => by
  cases xs with
  | nil =>
    unfold bindPs at b
    cases b
    simp only [RepA] at r
    exact ⟨r, q σ O R OSub.refl fun _ _ => rfl⟩
  | cons x xs =>
    unfold bindPs at b
    cases b⟩
theorem vgs_cons (h : VG X e t) (h2 : VGs X es ts) (hs : (assignEach (e :: es) X.env).map (·.2) = assign e X.env :: (assignEach es X.env).map (·.2) := by rfl) : VGs X (e :: es) (t :: ts) := by
  refine ⟨PGs.imp (pgs_cons h.run h2.run hs) fun vs σ H Q ⟨ρ, F, O, xs, ρ', R, r, b, q⟩ => ?_⟩
  cases xs with
  | nil =>
    unfold bindPs at b
    cases b
  | cons x xs =>
    unfold bindPs at b
    obtain ⟨ρ1, b1, b2⟩ := Res.bind_eq_ok b
    simp only [RepA] at r
    obtain ⟨w, ws, rfl, r1, r2⟩ := r
    refine ⟨w, ws, rfl, ρ, F, O, x, ρ1, R, r1, b1, fun σ1 O1 R1 s1 d1 => ⟨ρ1, F, O1, xs, ρ', R1, r2, b2, fun σ2 O2 R2 s2 d2 => q σ2 O2 R2 (s2.trans s1) fun j hj => ?_⟩⟩
    simp only [patSs, List.mem_append, not_or] at hj
    rw [d2 j hj.2, d1 j hj.1]
theorem bindPs_len : ∀ {ts : List Pat} {xs : List Val} {ρ ρ' : Env}, bindPs ts xs ρ = .ok ρ' → xs.length = ts.length
  | [], [], _, _, _ => rfl
  | _ :: _, _ :: _, _, _, h => by
    unfold bindPs at h
    obtain ⟨_, _, h2⟩ := Res.bind_eq_ok h
    simp only [List.length_cons, bindPs_len h2]
  | [], _ :: _, _, _, h => by unfold bindPs at h; cases h
  | _ :: _, [], _, _, h => by unfold bindPs at h; cases h
theorem vg_tup {k : Nat} (hc : X.calm = true) (h : VGs X es ts) (hn : (assignEach es X.env).length = ts.length := by rfl) (hst : (assignEach es X.env).findIdx? (·.1) = none := by rfl) : VG X (.Tuple es k pos) (.tup ts) := by
  refine ⟨PG.imp (pg_tup hc h.run hn hst) fun v σ H Q ⟨ρ, F, O, x, ρ', R, r, b, q⟩ => ?_⟩
  cases x with
  | tuple xs =>
    unfold bindP at b
    obtain ⟨a, ws, rfl, s, ra⟩ := rep_tuple.mp r
    exact ⟨a, ws, rfl, s, by rw [repA_length ra, bindPs_len b], ρ, F, O, xs, ρ', R, ra, b, fun σ' O' R' s' d' => q σ' O' R' s' (by simpa only [patS] using d')⟩
  | _ => unfold bindP at b; cases b
end

/-! ### iterators -/
def Stay (k : Nat) (H H1 : Hp) (F : Addr → Prop) : Prop := Keep H H1 F ∧ (k ≠ 0 → Same H H1)
/-- J tells the items xs, one by one, as long as what it leans on stays -/
structure Walk (K : PySem.W.Frag) (k : Nat) (J : It) (xs : List Val) (H : Hp) (F : Addr → Prop) : Prop where
  go : ∀ (H1 : Hp) (F1 : Addr → Prop), Stay k H H1 F → (∀ a, F a → F1 a) → (∀ a, F1 a → H1 a ≠ none) → ∀ (i : Nat) (v : Val), xs[i]? = some v → J.go i H1 ∧ ∀ x H2, J.yld i H1 x H2 → Grow H1 F1 H2 F1 ∧ Rep K H2 F1 0 x v
  stop : ∀ (H1 : Hp), Stay k H H1 F → ∀ i : Nat, xs.length ≤ i → J.stop i H1
def tI (K : PySem.W.Frag) (p : Par) (k : Nat) (c : E) : TI := fun σ H R => ∃ ρ F O, Rel K ρ F O σ H ∧ Run p ((evalE p.cf k c ρ).bind asSeq) σ H fun xs => ∀ J H' F', Grow H F H' F' → Walk K k J xs H' F' → R J H'
structure VI (X : Cx) (p : Par) (k : Nat) (tg iter : Expr) (c : E) : Prop where
  run : PI X tg iter (tI X.K p k c)
theorem PI.imp {X : Cx} {tg e : Expr} {t t' : TI} (h : PI X tg e t) (i : ∀ σ H R, t' σ H R → t σ H R) : PI X tg e t' := ⟨fun pins s σ H R I q => h.run pins s σ H R I (i σ H R q)⟩
section
variable {K : PySem.W.Frag} {H : Hp} {F : Addr → Prop} {a : Addr} {ws : List V} {xs : List Val} {k : Nat}
theorem stay_list {H1 : Hp} (st : Stay k H H1 F) (sq : SqL K H a ws) (hF : k = 0 → F a ∨ ∀ H' : Hp, SqL K H' a ws) : SqL K H1 a ws := by
  by_cases e : k = 0
  · exact sqL_keep st.1 (hF e) sq
  · exact (st.2 e).seq sq
theorem walk_list (hk : k ≤ 1) (r : Rep K H F k (.ref a) (.list xs)) : (∃ ws, SqL K H a ws) ∧ Walk K k (Itl K a) xs H F := by
  obtain ⟨b, ws, e, sq, hF, ra⟩ := rep_list.mp r
  cases e
  have e0 : k - 1 = 0 := by omega
  rw [e0] at ra
  refine ⟨⟨ws, sq⟩, fun H1 F1 st f d i v e => ?_, fun H1 st i hi => ⟨ws, stay_list st sq hF, by rw [repA_length ra]; exact hi⟩⟩
  obtain ⟨w, e1, rw1⟩ := repA_get ra e
  refine ⟨⟨ws, w, stay_list st sq hF, e1⟩, fun x H2 y => ?_⟩
  obtain ⟨rfl, y⟩ := y
  have e2 := y ws (stay_list st sq hF)
  rw [e1] at e2
  cases e2
  exact ⟨Grow.refl d, rep_keep st.1 f v w rw1⟩
theorem walk_tup (hk : k ≤ 1) (r : Rep K H F k (.ref a) (.tuple xs)) : (∃ ws, SqT K H a ws) ∧ Walk K k (Itt K a) xs H F := by
  obtain ⟨b, ws, e, sq, ra⟩ := rep_tuple.mp r
  cases e
  have e0 : k - 1 = 0 := by omega
  rw [e0] at ra
  refine ⟨⟨ws, sq⟩, fun H1 F1 st f d i v e => ?_, fun H1 st i hi => ⟨ws, sqT_keep st.1 sq, by rw [repA_length ra]; exact hi⟩⟩
  obtain ⟨w, e1, rw1⟩ := repA_get ra e
  refine ⟨⟨ws, w, sqT_keep st.1 sq, e1⟩, fun x H2 y => ?_⟩
  obtain ⟨rfl, y⟩ := y
  have e2 := y ws (sqT_keep st.1 sq)
  rw [e1] at e2
  cases e2
  exact ⟨Grow.refl d, rep_keep st.1 f v w rw1⟩
theorem rng_get {lo hi : Int} {i : Nat} {v : Val} (h : (rng lo hi)[i]? = some v) : i < (hi - lo).toNat ∧ v = .int (lo + (i : Nat)) := by
  unfold rng at h
  rw [List.getElem?_map] at h
  by_cases hi' : i < (hi - lo).toNat
  · rw [List.getElem?_range hi'] at h
    cases h
    exact ⟨hi', rfl⟩
  · rw [List.getElem?_eq_none (by simpa using hi')] at h
    cases h
theorem rng_length {lo hi : Int} : (rng lo hi).length = (hi - lo).toNat := by
  unfold rng
  simp
theorem walk_rng {lo hi : Int} : Walk K k (Itr lo (hi - lo).toNat) (rng lo hi) H F := by
  refine ⟨fun H1 F1 st f d i v e => ?_, fun H1 st i hi => by rw [rng_length] at hi; exact hi⟩
  obtain ⟨h1, rfl⟩ := rng_get e
  refine ⟨h1, fun x H2 y => ?_⟩
  obtain ⟨rfl, rfl⟩ := y
  exact ⟨Grow.refl d, by simp only [Rep]⟩
theorem enumV_get : ∀ {xs : List Val} {n i : Nat} {v : Val}, (enumV n xs)[i]? = some v → ∃ x, xs[i]? = some x ∧ v = .tuple [.int ((n + i : Nat) : Int), x]
  | [], _, _, _, h => by simp [enumV] at h
  | y :: xs, n, 0, v, h => by
    simp [enumV] at h
    exact ⟨y, rfl, h.symm⟩
  | y :: xs, n, i + 1, v, h => by
    simp only [enumV, List.getElem?_cons_succ] at h
    obtain ⟨x, h1, h2⟩ := enumV_get h
    exact ⟨x, by simpa using h1, by rw [h2]; congr 2; congr 1; omega⟩
theorem enumV_length : ∀ {xs : List Val} {n : Nat}, (enumV n xs).length = xs.length
  | [], _ => rfl
  | _ :: xs, n => by simp only [enumV, List.length_cons, enumV_length]
theorem walk_enum (hk : k ≤ 1) (r : Rep K H F k (.ref a) (.list xs)) : (∃ ws, SqL K H a ws) ∧ Walk K k (Ite K a) (enumV 0 xs) H F := by
  obtain ⟨b, ws, e, sq, hF, ra⟩ := rep_list.mp r
  cases e
  have e0 : k - 1 = 0 := by omega
  rw [e0] at ra
  refine ⟨⟨ws, sq⟩, fun H1 F1 st f d i v e => ?_, fun H1 st i hi => ⟨ws, stay_list st sq hF, by rw [repA_length ra]; rw [enumV_length] at hi; exact hi⟩⟩
  obtain ⟨x0, e0, rfl⟩ := enumV_get e
  obtain ⟨w, e1, rw1⟩ := repA_get ra e0
  refine ⟨⟨ws, w, stay_list st sq hF, e1⟩, fun x H2 y => ?_⟩
  obtain ⟨T, z, rfl, nT, rfl, y⟩ := y
  have e2 := y ws (stay_list st sq hF)
  rw [e1] at e2
  cases e2
  have g : Grow H1 F1 (upd H1 T (.tup [.int ((i : Nat) : Int), w])) F1 := Grow.put d nT
  refine ⟨g, rep_tuple.mpr ⟨T, _, rfl, SqT.of upd_same, ?_⟩⟩
  refine repA_cons (by simp only [Rep]; congr 1; omega) (repA_cons ?_ repA_nil)
  exact rep_same g.same (fun _ z => z) x0 0 _ w (Nat.zero_le _) (rep_keep st.1 f x0 w rw1)
theorem zipV_get : ∀ {xs ys : List Val} {i : Nat} {v : Val}, (zipV xs ys)[i]? = some v → ∃ x y, xs[i]? = some x ∧ ys[i]? = some y ∧ v = .tuple [x, y]
  | [], _, _, _, h => by simp [zipV] at h
  | _ :: _, [], _, _, h => by simp [zipV] at h
  | x :: xs, y :: ys, 0, v, h => by
    simp [zipV] at h
    exact ⟨x, y, rfl, rfl, h.symm⟩
  | x :: xs, y :: ys, i + 1, v, h => by
    simp only [zipV, List.getElem?_cons_succ] at h
    obtain ⟨a, b, h1, h2, h3⟩ := zipV_get h
    exact ⟨a, b, by simpa using h1, by simpa using h2, h3⟩
theorem zipV_stop : ∀ {xs ys : List Val} {i : Nat}, (zipV xs ys).length ≤ i → xs.length ≤ i ∨ ys.length ≤ i
  | [], _, _, _ => .inl (Nat.zero_le _)
  | _ :: _, [], _, _ => .inr (Nat.zero_le _)
  | x :: xs, y :: ys, 0, h => by simp [zipV] at h
  | x :: xs, y :: ys, i + 1, h => by
    simp only [zipV, List.length_cons] at h ⊢
    rcases zipV_stop (Nat.le_of_succ_le_succ h) with h | h
    · exact .inl (Nat.succ_le_succ h)
    · exact .inr (Nat.succ_le_succ h)
theorem walk_zip {b : Addr} {ys : List Val} (hk : k ≤ 1) (r : Rep K H F k (.ref a) (.list xs)) (r2 : Rep K H F k (.ref b) (.list ys)) : (∃ ws zs, SqL K H a ws ∧ SqL K H b zs) ∧ Walk K k (Itz K a b) (zipV xs ys) H F := by
  obtain ⟨_, ws, e, sq, hF, ra⟩ := rep_list.mp r
  cases e
  obtain ⟨_, zs, e, sq2, hF2, ra2⟩ := rep_list.mp r2
  cases e
  have e0 : k - 1 = 0 := by omega
  rw [e0] at ra ra2
  refine ⟨⟨ws, zs, sq, sq2⟩, fun H1 F1 st f d i v e => ?_, fun H1 st i hi => ⟨ws, zs, stay_list st sq hF, stay_list st sq2 hF2, by rw [repA_length ra, repA_length ra2]; exact zipV_stop hi⟩⟩
  obtain ⟨x0, y0, e0, e0', rfl⟩ := zipV_get e
  obtain ⟨w, e1, rw1⟩ := repA_get ra e0
  obtain ⟨w', e1', rw1'⟩ := repA_get ra2 e0'
  refine ⟨⟨ws, zs, w, w', stay_list st sq hF, stay_list st sq2 hF2, e1, e1'⟩, fun x H2 y => ?_⟩
  obtain ⟨T, z, z', rfl, nT, rfl, y, y'⟩ := y
  have e2 := y ws (stay_list st sq hF)
  rw [e1] at e2
  cases e2
  have e3 := y' zs (stay_list st sq2 hF2)
  rw [e1'] at e3
  cases e3
  have g : Grow H1 F1 (upd H1 T (.tup [w, w'])) F1 := Grow.put d nT
  refine ⟨g, rep_tuple.mpr ⟨T, _, rfl, SqT.of upd_same, repA_cons ?_ (repA_cons ?_ repA_nil)⟩⟩
  · exact rep_same g.same (fun _ z => z) x0 0 _ w (Nat.zero_le _) (rep_keep st.1 f x0 w rw1)
  · exact rep_same g.same (fun _ z => z) y0 0 _ w' (Nat.zero_le _) (rep_keep st.1 f y0 w' rw1')
end

theorem run_join {p : Par} {α β : Type} {σ : St} {H : Hp} {r : Res α} {f : α → Res β} {good : β → Prop} (h : Run p r σ H fun a => Run p (f a) σ H good) : Run p (r.bind f) σ H good := by
  cases r with
  | ok a => exact h
  | exc x v => exact h
  | bad => exact h
section
variable {X : Cx} {p : Par} {e e2 tg : Expr} {c c2 : E} {pos q0 : Pos} {k : Nat} {es : List Expr} {cs : List E}
theorem vi_seq (h : VE X p e c) (hk : k ≤ 1 := by decide) : VI X p k tg e c := by
  refine ⟨⟨fun pins s σ H R I q => ?_⟩⟩
  obtain ⟨ρ, F, O, Re, r⟩ := q
  cases ev : evalE p.cf k c ρ with
  | bad =>
    rw [ev] at r
    exact r.elim
  | exc x v =>
    rw [ev] at r
    refine (pi_list (h.run k)).run pins s σ H R I ⟨ρ, F, O, Re, ?_⟩
    rw [ev]
    exact r
  | ok v =>
    rw [ev] at r
    cases v with
    | list xs =>
      refine (pi_list (h.run k)).run pins s σ H R I ⟨ρ, F, O, Re, ?_⟩
      rw [ev]
      intro u H1 F1 g r1
      have r2 : ∀ J H' F', Grow H F H' F' → Walk X.K k J xs H' F' → R J H' := r
      obtain ⟨a, ws, rfl, _⟩ := rep_list.mp r1
      obtain ⟨sq, wk⟩ := walk_list hk r1
      exact ⟨a, rfl, sq, r2 _ H1 F1 g wk⟩
    | tuple xs =>
      refine (pi_tup (h.run k)).run pins s σ H R I ⟨ρ, F, O, Re, ?_⟩
      rw [ev]
      intro u H1 F1 g r1
      have r2 : ∀ J H' F', Grow H F H' F' → Walk X.K k J xs H' F' → R J H' := r
      obtain ⟨a, ws, rfl, _⟩ := rep_tuple.mp r1
      obtain ⟨sq, wk⟩ := walk_tup hk r1
      exact ⟨a, rfl, sq, r2 _ H1 F1 g wk⟩
    | _ => exact r.elim
/-- from what an operation tells of its operands -/
theorem tI_op {K : PySem.W.Frag} {o : Op} {σ : St} {H : Hp} {R : It → Hp → Prop} {Q : List V → Hp → Prop} (h : tI K p k (.op o cs) σ H R)
    (sp : ∀ us H1 F1 vs v xs, vs.length = cs.length → RepA K H1 F1 (octx o k) us vs → den o vs = .ok v → asSeq v = .ok xs → (∀ J, Walk K k J xs H1 F1 → R J H1) → Q us H1) : tA K p (octx o k) cs σ H Q := by
  obtain ⟨ρ, F, O, Re, r⟩ := h
  have r1 : Run p (((evalEs p.cf (octx o k) cs ρ).bind fun vs => den o vs).bind asSeq) σ H _ := r
  refine ⟨ρ, F, O, Re, r1.bind.bind.imp (Same.refl H) fun vs ev q us H1 F1 g r2 => ?_⟩
  obtain ⟨v, e1, q2⟩ := q.ok (den_nx o _)
  obtain ⟨xs, e2, q3⟩ := q2.ok nx_asSeq
  exact sp us H1 F1 vs v xs (evalEs_length ev) r2 e1 e2 fun J w => q3 J H1 F1 g w
theorem den_range1 {x v : Val} (h : den .range [x] = .ok v) : ∃ n, x = .int n ∧ small n = true ∧ v = .list (rng 0 n) := by
  cases x with
  | int n =>
    obtain ⟨g, e3⟩ := Res.guard_ok (show Res.guard (small n && sizeOk n.toNat) (.ok (.list (rng 0 n))) = .ok v from h)
    simp only [Bool.and_eq_true] at g
    cases e3
    exact ⟨n, rfl, g.1, rfl⟩
  | _ => exact (nomatch (show (Res.bad : Res Val) = Res.ok v from h))
theorem den_range2 {x y v : Val} (h : den .range [x, y] = .ok v) : ∃ m n, x = .int m ∧ y = .int n ∧ small m = true ∧ small n = true ∧ v = .list (rng m n) := by
  cases x with
  | int m =>
    cases y with
    | int n =>
      obtain ⟨g, e3⟩ := Res.guard_ok (show Res.guard (small m && (small n && sizeOk (n - m).toNat)) (.ok (.list (rng m n))) = .ok v from h)
      simp only [Bool.and_eq_true] at g
      cases e3
      exact ⟨m, n, rfl, rfl, g.1, g.2.1, rfl⟩
    | _ => exact (nomatch (show (Res.bad : Res Val) = Res.ok v from h))
  | _ => exact (nomatch (show (Res.bad : Res Val) = Res.ok v from h))
theorem den_enum {x v : Val} (h : den .enum [x] = .ok v) : ∃ ys, x = .list ys ∧ v = .list (enumV 0 ys) := by
  cases x with
  | list ys => exact ⟨ys, rfl, by cases (show Res.ok (PyData.list (enumV 0 ys)) = .ok v from h); rfl⟩
  | _ => exact (nomatch (show (Res.bad : Res Val) = Res.ok v from h))
theorem den_zip {x y v : Val} (h : den .zip [x, y] = .ok v) : ∃ xs ys, x = .list xs ∧ y = .list ys ∧ v = .list (zipV xs ys) := by
  cases x with
  | list xs =>
    cases y with
    | list ys => exact ⟨xs, ys, rfl, rfl, by cases (show Res.ok (PyData.list (zipV xs ys)) = .ok v from h); rfl⟩
    | _ => exact (nomatch (show (Res.bad : Res Val) = Res.ok v from h))
  | _ => exact (nomatch (show (Res.bad : Res Val) = Res.ok v from h))
theorem len1 {α : Type} {l : List α} (h : l.length = 1) : ∃ x, l = [x] := by
  match l, h with
  | [x], _ => exact ⟨x, rfl⟩
theorem len2 {α : Type} {l : List α} (h : l.length = 2) : ∃ x y, l = [x, y] := by
  match l, h with
  | [x, y], _ => exact ⟨x, y, rfl⟩
theorem vi_range1 (hg : Gl X "range" := by rfl) (hm : X.mg "range" = none) (ha : VA X p [e] [c]) (hs : starEach [e] X.env = [(false, eval e X.env)] := by rfl) : VI X p k tg (.Call (.Name "range" q0) [e] [] pos) (.op .range [c]) := by
  refine ⟨PI.imp (pi_range1 hg hm (ha.run 9) hs) fun σ H R q => tI_op (o := .range) q fun us H1 F1 vs v xs ln r e1 e2 wk => ?_⟩
  obtain ⟨x, rfl⟩ := len1 ln
  obtain ⟨n, rfl, g, rfl⟩ := den_range1 e1
  cases e2
  obtain ⟨w, rfl, rw1⟩ := repA_one r
  have wk2 := wk (Itr 0 (n - 0).toNat) walk_rng
  rw [Int.sub_zero] at wk2
  rw [rep_int.mp rw1]
  exact ⟨n, rfl, (small_of g).1, (small_of g).2, wk2⟩
theorem vi_range2 (hg : Gl X "range" := by rfl) (hm : X.mg "range" = none) (ha : VA X p [e, e2] [c, c2]) (hs : starEach [e, e2] X.env = [(false, eval e X.env), (false, eval e2 X.env)] := by rfl) (hs2 : starEach [e2] X.env = [(false, eval e2 X.env)] := by rfl) :
    VI X p k tg (.Call (.Name "range" q0) [e, e2] [] pos) (.op .range [c, c2]) := by
  refine ⟨PI.imp (pi_range2 hg hm (ha.run 9) hs hs2) fun σ H R q => tI_op (o := .range) q fun us H1 F1 vs v xs ln r e1 e2 wk => ?_⟩
  obtain ⟨x, y, rfl⟩ := len2 ln
  obtain ⟨m, n, rfl, rfl, g, g2, rfl⟩ := den_range2 e1
  cases e2
  obtain ⟨w, w', rfl, rw1, rw2⟩ := repA_two r
  rw [rep_int.mp rw1, rep_int.mp rw2]
  exact ⟨m, n, rfl, ⟨(small_of g).1, (small_of g).2, (small_of g2).1, (small_of g2).2⟩, wk _ walk_rng⟩
theorem vi_enum {elts : List Expr} {kk : Nat} {tpos : Pos} (hg : Gl X "enumerate" := by rfl) (hm : X.mg "enumerate" = none) (ha : VA X p [e] [c]) (hk : k ≤ 1 := by decide) (hs : starEach [e] X.env = [(false, eval e X.env)] := by rfl) :
    VI X p k (.Tuple elts kk tpos) (.Call (.Name "enumerate" q0) [e] [] pos) (.op .enum [c]) := by
  refine ⟨PI.imp (pi_enum hg hm (ha.run k) hs) fun σ H R q => tI_op (o := .enum) q fun us H1 F1 vs v xs ln r e1 e2 wk => ?_⟩
  obtain ⟨x, rfl⟩ := len1 ln
  obtain ⟨ys, rfl, rfl⟩ := den_enum e1
  cases e2
  obtain ⟨w, rfl, rw1⟩ := repA_one r
  obtain ⟨a, ws, rfl, _⟩ := rep_list.mp rw1
  obtain ⟨⟨zs, sq⟩, wl⟩ := walk_enum hk rw1
  exact ⟨a, zs, rfl, sq, wk _ wl⟩
theorem vi_zip {elts : List Expr} {kk : Nat} {tpos : Pos} (hg : Gl X "zip" := by rfl) (hm : X.mg "zip" = none) (ha : VA X p [e, e2] [c, c2]) (hk : k ≤ 1 := by decide) (hs : starEach [e, e2] X.env = (false, eval e X.env) :: starEach [e2] X.env := by rfl)
    (hpl : (backTo pos (starEach [e2] X.env)).any (·.1) = false := by rfl) : VI X p k (.Tuple elts kk tpos) (.Call (.Name "zip" q0) [e, e2] [] pos) (.op .zip [c, c2]) := by
  refine ⟨PI.imp (pi_zip hg hm (ha.run k) hs hpl) fun σ H R q => tI_op (o := .zip) q fun us H1 F1 vs v xs ln r e1 e2 wk => ?_⟩
  obtain ⟨x, y, rfl⟩ := len2 ln
  obtain ⟨ys, zs, rfl, rfl, rfl⟩ := den_zip e1
  cases e2
  obtain ⟨w, w', rfl, rw1, rw2⟩ := repA_two r
  obtain ⟨a, ws, rfl, _⟩ := rep_list.mp rw1
  obtain ⟨b, ws', rfl, _⟩ := rep_list.mp rw2
  obtain ⟨⟨us, us', sq, sq'⟩, wl⟩ := walk_zip hk rw1 rw2
  exact ⟨a, b, us, us', rfl, sq, sq', wk _ wl⟩
end
end VL

/-! VL, part 10: comprehensions of lists. -/
namespace VL
open PySem PySem.Spec L2 PySem.W
open PyProof.Rows hiding St

/-- the same program, where no error may leave -/
abbrev Par.nox (p : Par) : Par := { p with W := fun _ _ _ _ => False }

def tTs (K : PySem.W.Frag) (p : Par) (co : Option E) : TT := fun σ H Q => ∃ ρ F O, Rel K ρ F O σ H ∧ Run p (evalO p.cf co ρ) σ H fun b => ∀ H' F', Grow H F H' F' → Q b H'
structure VTs (X : Cx) (p : Par) (ifs : List Expr) (co : Option E) : Prop where
  run : PTs X ifs (tTs X.K p co)
theorem PTs.imp {X : Cx} {e : List Expr} {t t' : TT} (h : PTs X e t) (i : ∀ σ H Q, t' σ H Q → t σ H Q) : PTs X e t' := ⟨fun pins s σ H Q I q => h.run pins s σ H Q I (i σ H Q q)⟩
section
variable {X : Cx} {p : Par} {e : Expr} {c : E}
theorem vts_nil : VTs X p [] none := ⟨PTs.imp pts_nil fun σ H Q ⟨ρ, F, O, R, r⟩ => r H F (Grow.refl R.dom)⟩
theorem run_quiet {α β : Type} {σ : St} {H : Hp} {r : Res α} {f : α → Res β} {good : β → Prop} (h : Run p (r.quiet.bind f) σ H good) : Run p (r.bind f) σ H good := by
  cases r with
  | ok a => exact h
  | exc x v => exact h.elim
  | bad => exact h
theorem vts_one (h : VT X p e c) : VTs X p [e] (some c) := ⟨PTs.imp (pts_one h.run) fun σ H Q ⟨ρ, F, O, R, r⟩ => ⟨ρ, F, O, R, run_quiet (by
  have r1 : Run p (((evalE p.cf 9 c ρ).quiet).bind fun x => asBool x) σ H _ := r
  exact r1)⟩⟩
end

/-! ### one more at the end -/
theorem ownA_snoc {K : PySem.W.Frag} {H : Hp} {F : Addr → Prop} {d : Nat} : ∀ {xs : List Val} {S S' : List Addr} {ws : List V} {u : V} {x : Val}, OwnA K H F d S ws xs → Own K H F d S' u x → (∀ a ∈ S, a ∉ S') → OwnA K H F d (S ++ S') (ws ++ [u]) (xs ++ [x])
  | [], S, S', ws, u, x, h, o, n => by
    simp only [OwnA] at h
    obtain ⟨rfl, rfl⟩ := h
    simp only [List.nil_append, OwnA]
    exact ⟨u, [], S', [], rfl, by simp, fun _ _ z => (nomatch z), o, rfl, rfl⟩
  | y :: xs, S, S', ws, u, x, h, o, n => by
    simp only [OwnA] at h
    obtain ⟨w, r, S1, S2, rfl, rfl, hd, h1, h2⟩ := h
    simp only [List.cons_append, OwnA]
    refine ⟨w, r ++ [u], S1, S2 ++ S', rfl, by rw [List.append_assoc], fun a ha hb => ?_, h1, ownA_snoc h2 o fun a ha => n a (List.mem_append_right _ ha)⟩
    rcases List.mem_append.mp hb with hb | hb
    · exact hd a ha hb
    · exact n a (List.mem_append_left _ ha) hb
theorem ownA_length {K : PySem.W.Frag} {H : Hp} {F : Addr → Prop} {d : Nat} {S : List Addr} {ws : List V} {xs : List Val} (h : OwnA K H F d S ws xs) : ws.length = xs.length := repA_length (ownA_rep xs d S ws h)

/-- the new list at D holds r0 so far; H0, F0: how it stood before the block -/
structure Acc (K : PySem.W.Frag) (d : Nat) (D : Addr) (H0 : Hp) (F0 : Addr → Prop) (r0 : List Val) (H : Hp) (F1 : Addr → Prop) (ws : List V) (S : List Addr) : Prop where
  grow : Grow H0 F0 H F1
  notD : ¬ F1 D
  at_ : H D = some (.lst ws)
  own : OwnA K H F1 d S ws r0
  new : ∀ a ∈ S, H0 a = none ∧ ¬ F1 a ∧ a ≠ D
section
variable {K : PySem.W.Frag} {d : Nat} {D : Addr} {H0 : Hp} {F0 : Addr → Prop} {r0 : List Val} {H : Hp} {F1 : Addr → Prop} {ws : List V} {S : List Addr}
theorem Acc.start (dm : ∀ a, F0 a → H0 a ≠ none) (nD : H0 D = none) : Acc K d D H0 F0 [] (upd H0 D (.lst [])) F0 [] [] :=
  ⟨Grow.put dm nD, fun f => dm D f nD, upd_same, by simp only [OwnA]; exact ⟨trivial, trivial⟩, fun _ z => (nomatch z)⟩
theorem Acc.more (A : Acc K d D H0 F0 r0 H F1 ws S) {H' : Hp} {F' : Addr → Prop} (g : Grow H F1 H' F') : Acc K d D H0 F0 r0 H' F' ws S := by
  refine ⟨A.grow.trans g, fun f => ?_, g.same _ _ A.at_, ownA_frame r0 d S ws A.own (fun b o e _ => g.same b o e) g.sub, fun a ha => ⟨(A.new a ha).1, fun f => ?_, (A.new a ha).2.2⟩⟩
  · rcases g.new D f with f | f
    · exact A.notD f
    · rw [A.at_] at f
      cases f
  · rcases g.new a f with f | f
    · exact (A.new a ha).2.1 f
    · obtain ⟨zs, e⟩ := ownA_dom r0 d S ws A.own a ha
      rw [e] at f
      cases f
theorem Acc.add (nD : H0 D = none) (A : Acc K d D H0 F0 r0 H F1 ws S) {H' : Hp} {F' : Addr → Prop} (g : Grow H F1 H' F') {S' : List Addr} {y : V} {x : Val} (o : Own K H' F' d S' y x) (n : ∀ a ∈ S', H a = none ∧ ¬ F' a) :
    H' D = some (.lst ws) ∧ Acc K d D H0 F0 (r0 ++ [x]) (upd H' D (.lst (ws ++ [y]))) F' (ws ++ [y]) (S ++ S') := by
  have B := A.more g
  have nS' : ∀ a ∈ S', a ≠ D := fun a ha e => by
    have := (n a ha).1
    rw [e, A.at_] at this
    cases this
  refine ⟨B.at_, ⟨fun b o' e => ?_, B.grow.sub, B.grow.new, fun a f => ?_⟩, B.notD, upd_same, ?_, fun a ha => ?_⟩
  · rw [upd_ne (ne_of_none e nD)]
    exact B.grow.same b o' e
  · by_cases e : a = D
    · rw [e, upd_same]
      simp
    · rw [upd_ne e]
      exact B.grow.dom a f
  · refine ownA_snoc (ownA_frame r0 d S ws B.own (fun b o' e c => ?_) fun _ z => z) (own_frame x d S' y o (fun b o' e c => ?_) fun _ z => z) fun a ha hb => ?_
    · have : b ≠ D := fun z => by
        subst z
        rcases c with c | c | c
        · exact B.notD c
        · rw [B.at_] at e
          cases e
          cases c
        · exact (B.new _ c).2.2 rfl
      rw [upd_ne this]
      exact e
    · have : b ≠ D := fun z => by
        subst z
        rcases c with c | c | c
        · exact B.notD c
        · rw [B.at_] at e
          cases e
          cases c
        · exact nS' _ c rfl
      rw [upd_ne this]
      exact e
    · obtain ⟨zs, e⟩ := ownA_dom r0 d S ws A.own a ha
      rw [(n a hb).1] at e
      cases e
  · rcases List.mem_append.mp ha with ha | ha
    · exact B.new a ha
    · exact ⟨A.grow.same.free (n a ha).1, (n a ha).2, nS' a ha⟩
theorem Acc.done (nD : H0 D = none) (A : Acc K d D H0 F0 r0 H F1 ws S) : Own K H F1 (d + 1) (D :: S) (.ref D) (.list r0) ∧ ∀ a ∈ D :: S, H0 a = none ∧ ¬ F1 a := by
  refine ⟨?_, fun a ha => ?_⟩
  · simp only [Own]
    exact ⟨D, ws, S, rfl, A.at_, rfl, fun z => (A.new D z).2.2 rfl, A.own⟩
  · rcases List.mem_cons.mp ha with rfl | ha
    · exact ⟨nD, A.notD⟩
    · exact ⟨(A.new a ha).1, (A.new a ha).2.1⟩
end

/-- all but the list at D stands -/
structure Near (D : Addr) (H : Hp) (F : Addr → Prop) (H' : Hp) (F' : Addr → Prop) : Prop where
  keep : ∀ b o, H b = some o → b ≠ D → H' b = some o
  sub : ∀ a, F a → F' a
  new : ∀ a, F' a → F a ∨ H a = none
  dom : ∀ a, F' a → H' a ≠ none
theorem Near.of {D : Addr} {H H' : Hp} {F F' : Addr → Prop} (g : Grow H F H' F') : Near D H F H' F' := ⟨fun b o e _ => g.same b o e, g.sub, g.new, g.dom⟩
theorem Near.trans {D : Addr} {H H1 H2 : Hp} {F F1 F2 : Addr → Prop} (h : Near D H F H1 F1) (h' : Near D H1 F1 H2 F2) (nF : ¬ F2 D) : Near D H F H2 F2 :=
  ⟨fun b o e n => h'.keep b o (h.keep b o e n) n, fun a f => h'.sub a (h.sub a f), fun a f => by
    rcases h'.new a f with z | z
    · exact h.new a z
    · cases e : H a with
      | none => exact .inr rfl
      | some o =>
        have : a ≠ D := fun q => nF (q ▸ f)
        rw [h.keep a o e this] at z
        exact (nomatch z), h'.dom⟩
theorem Near.upd {D : Addr} {H H' : Hp} {F F' : Addr → Prop} {o : HO} (h : Near D H F H' F') : Near D H F (upd H' D o) F' :=
  ⟨fun b o e n => by rw [upd_ne n]; exact h.keep b o e n, h.sub, h.new, fun a f => by
    by_cases e : a = D
    · rw [e, upd_same]
      simp
    · rw [upd_ne e]
      exact h.dom a f⟩
theorem Rel.near {K : PySem.W.Frag} {ρ : Env} {F F' : Addr → Prop} {O : Nat → List Addr} {σ : St} {H H' : Hp} {D : Addr} {zs : List V} (R : Rel K ρ F O σ H) (h : Near D H F H' F') (hD : H D = some (.lst zs)) (nF : ¬ F D) (nO : ∀ i, D ∉ O i) : Rel K ρ F' O σ H' where
  len := R.len
  slot := fun i v d e => by
    obtain ⟨u, e1, q⟩ := R.slot i v d e
    refine ⟨u, e1, own_frame v d _ u q (fun b o e c => h.keep b o e fun z => ?_) h.sub⟩
    subst z
    rcases c with c | c | c
    · exact nF c
    · rw [hD] at e
      cases e
      cases c
    · exact nO i c
  empty := R.empty
  disj := R.disj
  notF := fun i a ha f => by
    rcases h.new a f with f | f
    · exact R.notF i a ha f
    · obtain ⟨ws, e⟩ := R.there ha
      rw [e] at f
      cases f
  dom := h.dom
theorem Near.stay {D : Addr} {H H' : Hp} {F F' : Addr → Prop} {zs : List V} (h : Near D H F H' F') (hD : H D = some (.lst zs)) (nF : ¬ F D) : Stay 0 H H' F := by
  refine ⟨fun b o e c => h.keep b o e fun z => ?_, fun z => absurd rfl z⟩
  subst z
  rcases c with c | c
  · exact nF c
  · rw [hD] at e
    cases e
    cases c

section
variable {X : Cx} {p : Par}
/-- one turn's body: binds, tests, tells -/
abbrev turn1 (cf : Nat → List Val → Res Val) (w : List Nat) (ce : E) (t : Pat) (co : Option E) (ρ : Env) (v : Val) : Res (Option Val) :=
  (bindP t v (killL w ρ)).bind fun ρ' => (evalO cf co ρ').bind fun c => match c with
    | true => ((evalE cf 0 ce ρ').quiet).bind fun x => .ok (some x)
    | false => .ok none
def addO (r : List Val) : Option Val → List Val
  | some x => r ++ [x]
  | none => r
theorem compL_cons {f : Val → Res (Option Val)} {v : Val} {vs r : List Val} (h : compL f (v :: vs) = .ok r) : ∃ o r2, f v = .ok o ∧ compL f vs = .ok r2 ∧ ∀ r0, r0 ++ r = addO r0 o ++ r2 := by
  have h1 : ((f v).bind fun o => (compL f vs).bind fun r => Res.ok (match o with
    | some x => x :: r
    | none => r)) = .ok r := h
  obtain ⟨o, e1, h2⟩ := Res.bind_eq_ok h1
  obtain ⟨r2, e2, h3⟩ := Res.bind_eq_ok h2
  cases h3
  refine ⟨o, r2, e1, e2, fun r0 => ?_⟩
  cases o with
  | some x => simp [addO]
  | none => rfl
theorem wipe_turn {σ σ' : St} {w : List Nat} {t : Pat} (ht : ∀ j ∈ patS t, j ∈ w) (hl : σ'.length = σ.length) (h : ∀ j, j ∉ patS t → σ'[j]? = (L2.wipe σ w)[j]?) : L2.wipe σ' w = L2.wipe σ w :=
  wipe_same hl fun j hj => h j fun z => hj (ht j z)
/-- a turn as the block's rule asks for it -/
theorem turn_go {K : PySem.W.Frag} {d : Nat} {D : Addr} {H0 H H2 : Hp} {F0 F1 : Addr → Prop} {O : Nat → List Addr} {r0 : List Val} {ws : List V} {S : List Addr} {ρ : Env} {σ : St} {w : List Nat} {ce : E} {t : Pat} {co : Option E} {v : Val} {o : Option Val} {x : V} {Nx : Hp → Prop}
    (nD : H0 D = none) (A : Acc K d D H0 F0 r0 H F1 ws S) (R : Rel K ρ F1 O σ H) (ht : ∀ j ∈ patS t, j ∈ w) (ev : turn1 p.cf w ce t co ρ v = .ok o) (g : Grow H F1 H2 F1) (rx : Rep K H2 F1 0 x v) (hz : (addO r0 o).length ≤ sizeLine)
    (nx : ∀ H' F' ws' S', Acc K d D H0 F0 (addO r0 o) H' F' ws' S' → Near D H F1 H' F' → Nx H') :
    tG K t x (L2.wipe σ w) H2 fun σ2 H3 => L2.wipe σ2 w = L2.wipe σ w ∧ tTs K p.nox co σ2 H3 fun b H4 =>
      if b = true then tO K p.nox d ce σ2 H4 fun y H5 => ∃ acc, H5 D = some (.lst acc) ∧ acc.length < sizeLine ∧ Nx (upd H5 D (.lst (acc ++ [y]))) else Nx H4 := by
  obtain ⟨ρ', e1, h1⟩ := Res.bind_eq_ok ev
  obtain ⟨c, e2, h2⟩ := Res.bind_eq_ok h1
  have Rb := (R.grow g).wipe w
  refine ⟨_, F1, _, v, ρ', Rb, rx, e1, fun σ2 O2 R2 _ df => ⟨?_, ρ', F1, O2, R2, ?_⟩⟩
  · refine wipe_turn ht ?_ df
    rw [R2.len, bindP_length t v _ _ e1, killL_length, R.len]
  · show Run p.nox (evalO p.cf co ρ') σ2 H2 _
    rw [e2]
    intro H3 F3 g3
    cases c with
    | false =>
      cases h2
      exact nx H3 F3 ws S (A.more (g.trans g3)) (Near.of (g.trans g3))
    | true =>
      obtain ⟨y, e3, h3⟩ := Res.bind_eq_ok h2
      cases h3
      refine ⟨ρ', F3, O2, R2.grow g3, ?_⟩
      show Run p.nox (evalE p.cf 0 ce ρ') σ2 H3 _
      rw [Res.quiet_eq_ok e3]
      intro u H5 F5 S5 g5 o5 n5
      obtain ⟨a1, a2⟩ := (A.more (g.trans g3)).add nD g5 o5 n5
      refine ⟨ws, a1, ?_, nx _ F5 _ _ a2 (Near.of (g.trans (g3.trans g5))).upd⟩
      have := ownA_length A.own
      simp only [addO, List.length_append, List.length_cons, List.length_nil] at hz
      omega
theorem drop_cons {α : Type} {xs : List α} {i : Nat} (h : i < xs.length) : ∃ v, xs[i]? = some v ∧ xs.drop i = v :: xs.drop (i + 1) :=
  ⟨xs[i], List.getElem?_eq_getElem h, List.drop_eq_getElem_cons h⟩
variable {elt tg iter : Expr} {ifs : List Expr} {scope : Scope} {own : List (Str × Nat)} {pos : Pos} {t : Pat} {w : List Nat} {ci ce : E} {co : Option E} {d : Nat}
theorem lc_of {K : PySem.W.Frag} {σ : St} {H : Hp} {Q : VK} (ht : ∀ j ∈ patS t, j ∈ w) (h : tO K p (d + 1) (.comp w d ce t ci co) σ H Q) :
    tLc (tI K p 1 ci) (tG K t) (tTs K p.nox co) (tO K p.nox d ce) w σ H Q := by
  obtain ⟨ρ, F, O, R, r⟩ := h
  have r1 : Run p ((evalE p.cf 1 ci ρ).bind fun s => (asSeq s).bind fun xs => (compL (turn1 p.cf w ce t co ρ) xs).bind fun r => Res.guard (sizeOk r.length) (Res.ok (PyData.list r))) σ H _ := r
  refine ⟨ρ, F, O, R, run_join (r1.bind.imp (Same.refl H) fun s _ q => q.bind.imp (Same.refl H) fun xs _ q2 J H1 F1 g1 wk D nD => ?_)⟩
  obtain ⟨rs, e1, q3⟩ := q2.bind.ok (nx_compL (fun v => nx_bind (nx_bindP _ _ _) fun _ => nx_bind (nx_evalO _ _) fun c => by
    cases c with
    | true => exact nx_bind nx_quiet fun _ => nx_ok
    | false => exact nx_ok) xs)
  cases hz : sizeOk rs.length with
  | false =>
    simp only [hz, Res.guard] at q3
    exact q3.elim
  | true =>
    simp only [hz, Res.guard] at q3
    have hz' := sizeOk_of hz
    refine ⟨fun i m H' => m = xs.length - i ∧ i ≤ xs.length ∧ ∃ r0 r1 ws F' S, rs = r0 ++ r1 ∧ compL (turn1 p.cf w ce t co ρ) (xs.drop i) = .ok r1 ∧ Acc K d D H1 F1 r0 H' F' ws S,
      ⟨xs.length, by simp, Nat.zero_le _, [], rs, [], F1, [], rfl, e1, Acc.start g1.dom nD⟩, ?_⟩
    rintro i m H' ⟨rfl, hi, r0, r1, ws, F', S, rfl, e2, A⟩
    have st : Stay 1 H1 H' F1 := ⟨Keep.same A.grow.same, fun _ => A.grow.same⟩
    by_cases hlt : i < xs.length
    · obtain ⟨v, hv, hd⟩ := drop_cons hlt
      rw [hd] at e2
      obtain ⟨o, r2, e3, e4, e5⟩ := compL_cons e2
      obtain ⟨go, yl⟩ := wk.go H' F' st A.grow.sub A.grow.dom i v hv
      refine .inr ⟨go, fun H'' => ∃ F'' ws' S', Acc K d D H1 F1 (addO r0 o) H'' F'' ws' S', fun H'' ⟨F'', ws', S', A'⟩ => ⟨xs.length - (i + 1), by omega, rfl, hlt, addO r0 o, r2, ws', F'', S', e5 r0, e4, A'⟩, fun x H2 y => ?_⟩
      obtain ⟨g, rx⟩ := yl x H2 y
      refine turn_go nD A ((R.grow g1).grow A.grow) ht e3 g rx ?_ fun H'' F'' ws' S' A' _ => ⟨F'', ws', S', A'⟩
      have := congrArg List.length (e5 r0)
      simp only [List.length_append] at this hz'
      omega
    · have e : i = xs.length := by omega
      subst e
      rw [List.drop_length] at e2
      cases e2
      refine .inl ⟨wk.stop H' st _ (Nat.le_refl _), ?_⟩
      obtain ⟨o, n⟩ := A.done nD
      rw [List.append_nil] at q3
      exact q3 _ H' F' (D :: S) (g1.trans A.grow) o fun a ha => ⟨g1.same.free (n a ha).1, (n a ha).2⟩
theorem vo_comp (hc : X.calm = true) (hN : X.N.Nodup) (hi : VI X p 1 tg iter ci) (ok : BlkOk X.N X.env.scope scope own) (hw : own.map (·.2) = w) (hp : ∀ j ∈ patS t, j ∈ w)
    (hg : ∀ (s : Shared) (H : Hp) (C : Addr) (cl : List (Str × Addr)) (fp : List Addr), VG (X.blk s H scope (compEnvC scope cl C X.env) fp) tg t) (ht : ∀ (s : Shared) (H : Hp) (C : Addr) (cl : List (Str × Addr)) (fp : List Addr), VTs (X.blk s H scope (compEnvC scope cl C X.env) fp) p.nox ifs co)
    (he : ∀ (s : Shared) (H : Hp) (C : Addr) (cl : List (Str × Addr)) (fp : List Addr), VO (X.blk s H scope (compEnvC scope cl C X.env) fp) p.nox elt ce d) (hs : ∀ x, foldedSetIterable iter X.env x = pure x := by intro _; rfl) :
    VO X p (.ListComp elt [⟨tg, iter, ifs, 0⟩] scope pos) (.comp w d ce t ci co) (d + 1) := by
  subst hw
  exact ⟨PE.imp (pe_lc hc hN hi.run ok (fun s H C cl fp => (hg s H C cl fp).run) (fun s H C cl fp => (ht s H C cl fp).run) (fun s H C cl fp => (he s H C cl fp).run) hs) fun σ H Q h => lc_of hp h⟩

/-! ### two clauses -/
variable {tg1 iter1 : Expr} {ifs1 : List Expr} {t2 : Pat} {w2 : List Nat} {ci2 : E} {co2 : Option E}
theorem compLL_cons {f : Val → Res (List Val)} {v : Val} {vs r : List Val} (h : compLL f (v :: vs) = .ok r) : ∃ o r2, f v = .ok o ∧ compLL f vs = .ok r2 ∧ r = o ++ r2 := by
  have h1 : ((f v).bind fun o => (compLL f vs).bind fun r => Res.ok (o ++ r)) = .ok r := h
  obtain ⟨o, e1, h2⟩ := Res.bind_eq_ok h1
  obtain ⟨r2, e2, h3⟩ := Res.bind_eq_ok h2
  cases h3
  exact ⟨o, r2, e1, e2, rfl⟩
abbrev turn2 (cf : Nat → List Val → Res Val) (w w2 : List Nat) (ce : E) (t : Pat) (co : Option E) (t2 : Pat) (ci2 : E) (co2 : Option E) (ρ : Env) (v : Val) : Res (List Val) :=
  (bindP t v (killL w ρ)).bind fun ρ' => (evalO cf co ρ').bind fun c => match c with
    | true => ((evalE cf 0 ci2 ρ').quiet).bind fun s2 => (asSeq s2).bind fun ys => compL (turn1 cf w2 ce t2 co2 ρ') ys
    | false => .ok []
theorem nx_turn1 {w : List Nat} {ρ : Env} (v : Val) : NoX (turn1 p.cf w ce t co ρ v) := nx_bind (nx_bindP _ _ _) fun _ => nx_bind (nx_evalO _ _) fun c => by
    cases c with
    | true => exact nx_bind nx_quiet fun _ => nx_ok
    | false => exact nx_ok
theorem nx_turn2 {ρ : Env} (v : Val) : NoX (turn2 p.cf w w2 ce t co t2 ci2 co2 ρ v) := nx_bind (nx_bindP _ _ _) fun _ => nx_bind (nx_evalO _ _) fun c => by
    cases c with
    | true => exact nx_bind nx_quiet fun _ => nx_bind nx_asSeq fun ys => nx_compL (fun v => nx_turn1 v) ys
    | false => exact nx_ok
theorem addO_app (r q : List Val) (o : Option Val) : addO (r ++ q) o = r ++ addO q o := by
  cases o <;> simp [addO]
theorem lc2_of {K : PySem.W.Frag} {σ : St} {H : Hp} {Q : VK} (ht : ∀ j ∈ patS t, j ∈ w) (ht2 : ∀ j ∈ patS t2, j ∈ w2) (h : tO K p 1 (.comp2 w w2 ce t ci co t2 ci2 co2) σ H Q) :
    tLc2 (tI K p 1 ci) (tG K t) (tTs K p.nox co) (tI K p.nox 0 ci2) (tG K t2) (tTs K p.nox co2) (tO K p.nox 0 ce) w w2 σ H Q := by
  obtain ⟨ρ, F, O, R, r⟩ := h
  have r1 : Run p ((evalE p.cf 1 ci ρ).bind fun s => (asSeq s).bind fun xs => (compLL (turn2 p.cf w w2 ce t co t2 ci2 co2 ρ) xs).bind fun r => Res.guard (sizeOk r.length) (Res.ok (PyData.list r))) σ H _ := r
  refine ⟨ρ, F, O, R, run_join (r1.bind.imp (Same.refl H) fun s _ q => q.bind.imp (Same.refl H) fun xs _ q2 J H1 F1 g1 wk D nD => ?_)⟩
  obtain ⟨rs, e1, q3⟩ := q2.bind.ok (nx_compLL (fun v => nx_turn2 v) xs)
  cases hz : sizeOk rs.length with
  | false =>
    simp only [hz, Res.guard] at q3
    exact q3.elim
  | true =>
    simp only [hz, Res.guard] at q3
    have hz' := sizeOk_of hz
    have nO : ∀ i, D ∉ O i := fun i hi => by
      obtain ⟨zs, e⟩ := (R.grow g1).there hi
      rw [nD] at e
      cases e
    refine ⟨fun i m H' => m = xs.length - i ∧ i ≤ xs.length ∧ ∃ r0 r1 ws F' S, rs = r0 ++ r1 ∧ compLL (turn2 p.cf w w2 ce t co t2 ci2 co2 ρ) (xs.drop i) = .ok r1 ∧ Acc K 0 D H1 F1 r0 H' F' ws S,
      ⟨xs.length, by simp, Nat.zero_le _, [], rs, [], F1, [], rfl, e1, Acc.start g1.dom nD⟩, ?_⟩
    rintro i m H' ⟨rfl, hi, r0, r1, ws, F', S, rfl, e2, A⟩
    have st : Stay 1 H1 H' F1 := ⟨Keep.same A.grow.same, fun _ => A.grow.same⟩
    by_cases hlt : i < xs.length
    · obtain ⟨v, hv, hd⟩ := drop_cons hlt
      rw [hd] at e2
      obtain ⟨o, r2, e3, e4, rfl⟩ := compLL_cons e2
      obtain ⟨go, yl⟩ := wk.go H' F' st A.grow.sub A.grow.dom i v hv
      refine .inr ⟨go, fun H'' => ∃ F'' ws' S', Acc K 0 D H1 F1 (r0 ++ o) H'' F'' ws' S', fun H'' ⟨F'', ws', S', A'⟩ => ⟨xs.length - (i + 1), by omega, rfl, hlt, r0 ++ o, r2, ws', F'', S', by rw [List.append_assoc], e4, A'⟩, fun x H2 y => ?_⟩
      obtain ⟨g, rx⟩ := yl x H2 y
      obtain ⟨ρ', b1, h1⟩ := Res.bind_eq_ok e3
      obtain ⟨c, b2, h2⟩ := Res.bind_eq_ok h1
      have Rb := (((R.grow g1).grow A.grow).grow g).wipe w
      refine ⟨_, F', _, v, ρ', Rb, rx, b1, fun σ2 O2 R2 sub2 df => ⟨?_, ρ', F', O2, R2, ?_⟩⟩
      · refine wipe_turn ht ?_ df
        rw [R2.len, bindP_length t v _ _ b1, killL_length, R.len]
      · show Run p.nox (evalO p.cf co ρ') σ2 H2 _
        rw [b2]
        intro H3 F3 g3
        cases c with
        | false =>
          cases h2
          exact ⟨F3, ws, S, by rw [List.append_nil]; exact A.more (g.trans g3)⟩
        | true =>
          obtain ⟨y2, b3, h3⟩ := Res.bind_eq_ok h2
          obtain ⟨ys, b4, h4⟩ := Res.bind_eq_ok h3
          refine ⟨ρ', F3, O2, R2.grow g3, ?_⟩
          show Run p.nox ((evalE p.cf 0 ci2 ρ').bind asSeq) σ2 H3 _
          rw [Res.quiet_eq_ok b3, Res.bind_ok, b4]
          intro J1 H4 F4 g4 wk1
          have A4 := A.more (g.trans (g3.trans g4))
          have R4 := (R2.grow g3).grow g4
          have nO2 : ∀ i, D ∉ O2 i := fun i hi => by
            rcases sub2 i with e | e
            · rw [e] at hi
              cases hi
            · rw [e] at hi
              by_cases hw : i ∈ w
              · simp only [hw, if_true] at hi
                cases hi
              · simp only [hw, if_false] at hi
                exact nO i hi
          refine ⟨fun j k H' => k = ys.length - j ∧ j ≤ ys.length ∧ ∃ q0 q1 ws F' S, o = q0 ++ q1 ∧ compL (turn1 p.cf w2 ce t2 co2 ρ') (ys.drop j) = .ok q1 ∧ Acc K 0 D H1 F1 (r0 ++ q0) H' F' ws S ∧ Near D H4 F4 H' F',
            ⟨ys.length, by simp, Nat.zero_le _, [], o, ws, F4, S, rfl, h4, by rw [List.append_nil]; exact A4, Near.of (Grow.refl g4.dom)⟩, ?_⟩
          rintro j k H5 ⟨rfl, hj, q0, q1, ws5, F5, S5, rfl, c2, A5, N5⟩
          have st5 : Stay 0 H4 H5 F4 := N5.stay A4.at_ A4.notD
          by_cases hlt2 : j < ys.length
          · obtain ⟨v2, hv2, hd2⟩ := drop_cons hlt2
            rw [hd2] at c2
            obtain ⟨o2, q2, c3, c4, c5⟩ := compL_cons c2
            obtain ⟨go2, yl2⟩ := wk1.go H5 F5 st5 N5.sub N5.dom j v2 hv2
            refine .inr ⟨go2, fun H'' => ∃ F'' ws' S', Acc K 0 D H1 F1 (addO (r0 ++ q0) o2) H'' F'' ws' S' ∧ Near D H4 F4 H'' F'', fun H'' ⟨F'', ws', S', A', N'⟩ => ⟨ys.length - (j + 1), by omega, rfl, hlt2, addO q0 o2, q2, ws', F'', S', c5 q0, c4, by rw [← addO_app]; exact A', N'⟩, fun x2 H6 y2 => ?_⟩
            obtain ⟨g6, rx2⟩ := yl2 x2 H6 y2
            refine turn_go nD A5 (R4.near N5 A4.at_ A4.notD nO2) ht2 c3 g6 rx2 ?_ fun H'' F'' ws' S' A' N' => ⟨F'', ws', S', A', N5.trans N' A'.notD⟩
            have := congrArg List.length (c5 (r0 ++ q0))
            simp only [List.length_append] at this hz'
            omega
          · have e : j = ys.length := by omega
            subst e
            rw [List.drop_length] at c2
            cases c2
            exact .inl ⟨wk1.stop H5 st5 _ (Nat.le_refl _), F5, ws5, S5, by rw [List.append_nil]; exact A5⟩
    · have e : i = xs.length := by omega
      subst e
      rw [List.drop_length] at e2
      cases e2
      refine .inl ⟨wk.stop H' st _ (Nat.le_refl _), ?_⟩
      obtain ⟨o, n⟩ := A.done nD
      rw [List.append_nil] at q3
      exact q3 _ H' F' (D :: S) (g1.trans A.grow) o fun a ha => ⟨g1.same.free (n a ha).1, (n a ha).2⟩
theorem vo_comp2 (hc : X.calm = true) (hN : X.N.Nodup) (hi : VI X p 1 tg iter ci) (ok : BlkOk X.N X.env.scope scope own) (hw : own.map (·.2) = w) (hp : ∀ j ∈ patS t, j ∈ w) (hp2 : ∀ j ∈ patS t2, j ∈ w2) (hww : ∀ j ∈ w2, j ∈ w)
    (hg : ∀ (s : Shared) (H : Hp) (C : Addr) (cl : List (Str × Addr)) (fp : List Addr), VG (X.blk s H scope (compEnvC scope cl C X.env) fp) tg t) (ht : ∀ (s : Shared) (H : Hp) (C : Addr) (cl : List (Str × Addr)) (fp : List Addr), VTs (X.blk s H scope (compEnvC scope cl C X.env) fp) p.nox ifs co)
    (hi1 : ∀ (s : Shared) (H : Hp) (C : Addr) (cl : List (Str × Addr)) (fp : List Addr), VI (X.blk s H scope (compEnvC scope cl C X.env) fp) p.nox 0 tg1 iter1 ci2)
    (hg1 : ∀ (s : Shared) (H : Hp) (C : Addr) (cl : List (Str × Addr)) (fp : List Addr), VG (X.blk s H scope (compEnvC scope cl C X.env) fp) tg1 t2) (ht1 : ∀ (s : Shared) (H : Hp) (C : Addr) (cl : List (Str × Addr)) (fp : List Addr), VTs (X.blk s H scope (compEnvC scope cl C X.env) fp) p.nox ifs1 co2)
    (he : ∀ (s : Shared) (H : Hp) (C : Addr) (cl : List (Str × Addr)) (fp : List Addr), VO (X.blk s H scope (compEnvC scope cl C X.env) fp) p.nox elt ce 0) (hs : ∀ x, foldedSetIterable iter X.env x = pure x := by intro _; rfl) (hs1 : ∀ env x, foldedSetIterable iter1 env x = pure x := by intro _ _; rfl) :
    VO X p (.ListComp elt [⟨tg, iter, ifs, 0⟩, ⟨tg1, iter1, ifs1, 0⟩] scope pos) (.comp2 w w2 ce t ci co t2 ci2 co2) 1 := by
  subst hw
  exact ⟨PE.imp (pe_lc2 hc hN hi.run ok hww (fun s H C cl fp => (hg s H C cl fp).run) (fun s H C cl fp => (ht s H C cl fp).run) (fun s H C cl fp => (hi1 s H C cl fp).run) (fun s H C cl fp => (hg1 s H C cl fp).run) (fun s H C cl fp => (ht1 s H C cl fp).run) (fun s H C cl fp => (he s H C cl fp).run) hs hs1) fun σ H Q h => lc2_of hp hp2 h⟩
end
end VL

/-! VL, part 11: sorted({.. for .. in ..}) of ints. -/
namespace VL
open PySem PySem.Spec L2 PySem.W
open PyProof.Rows hiding St

section
variable {X : Cx}
/-- a block that fills a new set of ints at D -/
def tSi (w : World) (wi : TI) (g : TG) (tt : TT) (te : TE) (vs : List Nat) : TE := fun σ H Q => wi σ H fun J H1 => ∀ D, H1 D = none →
  ∃ W : Nat → Nat → Hp → Prop, (∃ m, W 0 m (upd H1 D (SetO w D (fun _ => false) 0))) ∧ ∀ i m H, W i m H →
    (J.stop i H ∧ Q (.ref D) H) ∨
    (J.go i H ∧ ∃ Nx : Hp → Prop, (∀ H', Nx H' → ∃ m', m' < m ∧ W (i + 1) m' H') ∧ ∀ x H', J.yld i H x H' → g x (L2.wipe σ vs) H' fun σ2 H2 => L2.wipe σ2 vs = L2.wipe σ vs ∧
      tt σ2 H2 fun b H3 => if b = true then te σ2 H3 fun y H4 => ∃ (c : Int) (S : Int → Bool) (n : Nat), y = .int c ∧ H4 D = some (SetO w D S n) ∧ n + 1 < scanBound ∧
        Nx (upd H4 D (SetO w D (fun j => S j || decide (j = c)) (if S c = true then n else n + 1))) else Nx H3)
theorem empty_set (w : World) (h : Heap) : SetR w (h.push { cls := .type "set", dict := none, data := .set #[] 0 (.fresh 0 0 (!w.params.followText "set-order")) }) h.objs.size (fun _ => false) 0 := by
  have q := setR_new_at (w := w) (ns := []) (Heap.get?_push_size h (o := { cls := .type "set", dict := none, data := .set #[] 0 (.fresh 0 0 (!w.params.followText "set-order")) }) rfl)
  simpa using q
variable {elt tg iter : Expr} {ifs : List Expr} {scope : Scope} {own : List (PySem.Str × Nat)} {pos : Pos} {wi : TI} {g : TG} {tt : TT} {te : TE}
theorem pe_si (calm : X.calm = true) (nd : X.N.Nodup) (pi : PI X tg iter wi) (ok : BlkOk X.N X.env.scope scope own)
    (hg : ∀ (s : Shared) (H : Hp) (C : Addr) (cl : List (PySem.Str × Addr)) (fp : List Addr), PG (X.blk s H scope (compEnvC scope cl C X.env) fp) tg g)
    (ht : ∀ (s : Shared) (H : Hp) (C : Addr) (cl : List (PySem.Str × Addr)) (fp : List Addr), PTs (X.blk s H scope (compEnvC scope cl C X.env) fp) ifs tt)
    (he : ∀ (s : Shared) (H : Hp) (C : Addr) (cl : List (PySem.Str × Addr)) (fp : List Addr), PE (X.blk s H scope (compEnvC scope cl C X.env) fp) elt te) (hs : ∀ x, foldedSetIterable iter X.env x = pure x := by intro _; rfl) :
    PE X (.SetComp elt [⟨tg, iter, ifs, 0⟩] scope pos) (tSi X.w wi g tt te (own.map (·.2))) := by
  refine ⟨fun pins s σ H Q I0 rd => ?_⟩
  rw [PpSet.eval_SetComp]
  have seen : ∀ y ∈ scope.names, y.2 = .free → ∃ c, X.env.cells.lookup y.1 = some c := fun y hy e => I0.ok.has _ (ok.free y hy e)
  refine wpAny_comprehension_free (use := none) rfl hs (closure_ok seen) ok.kind (fun y hy e => by rw [ok.uniq y hy, e]) (thn (pi.run pins s σ H _ I0 rd) fun _ sa ha => thn ha fun _ sb hb => ?_)
  obtain ⟨it, fp, tn, J, Hb, rfl, Ib, T, tn0, fb, rd⟩ := hb
  refine PpSet.newSet_ok (newEnv_comp ?_)
  obtain ⟨D, eD⟩ : ∃ D, D = sb.heap.objs.size := ⟨_, rfl⟩
  rw [← eD]
  have nD : Hb D = none := Ib.hok.fresh (Nat.le_of_eq eD.symm)
  obtain ⟨W, ⟨m0, w0⟩, turn⟩ := rd D nD
  obtain ⟨sc, esc⟩ : ∃ sc : Shared, sc = { sb with heap := sb.heap.push { cls := .type "set", dict := none, data := .set #[] 0 (.fresh 0 0 (!X.w.params.followText "set-order")) } } := ⟨_, rfl⟩
  obtain ⟨Hc, eHc⟩ : ∃ Hc : Hp, Hc = upd Hb D (SetO X.w D (fun _ => false) 0) := ⟨_, rfl⟩
  have Ic : Inv X pins σ Hc sc := by
    rw [esc, eHc]
    exact Ib.laid (t' := sb.toks) (fun b o e => Heap.get?_push_of_some _ e) (Nat.le_of_eq eD.symm) (by rw [eD]; exact setO_new (empty_set X.w sb.heap))
  have hc : sc.heap = sb.heap.push { cls := .type "set", dict := none, data := .set #[] 0 (.fresh 0 0 (!X.w.params.followText "set-order")) } := by rw [esc]
  have below : ∀ b ∈ fp, b < sb.heap.objs.size := fun b hb => let ⟨_, e, _⟩ := T.obj _ _ tn0 b hb; Heap.lt_size e
  have fc : ∀ b ∈ fp, FpOk X pins Hc b ∧ b < sc.heap.objs.size := fun b hb =>
    ⟨⟨by rw [eHc, upd_ne (by rw [eD]; exact Nat.ne_of_lt (below b hb))]; exact (fb b hb).1, (fb b hb).2⟩, by rw [hc, Heap.size_push]; exact Nat.lt_succ_of_lt (below b hb)⟩
  have tnc : tn 0 sc.heap := T.keep _ _ _ tn0 fun b _ o e => by rw [hc]; exact Heap.get?_push_of_some _ e
  have Id := block_start Ic ok nd fc
  obtain ⟨cl, ecl⟩ : ∃ cl, cl = cellsFrom (sc.heap.objs.size + 1) scope.names (cloFrom X.env.cells scope.names []) := ⟨_, rfl⟩
  obtain ⟨ce, ece⟩ : ∃ ce, ce = compEnvC scope cl sc.heap.objs.size X.env := ⟨_, rfl⟩
  have pg := hg sc Hc sc.heap.objs.size cl fp
  have pt := ht sc Hc sc.heap.objs.size cl fp
  have pe := he sc Hc sc.heap.objs.size cl fp
  rw [← ecl, ← ece] at Id
  rw [← ece] at pg pt pe
  rw [← eHc] at w0
  have eL : ce.locals = sc.heap.objs.size := by rw [ece]; rfl
  obtain ⟨sd, esd⟩ : ∃ sd : Shared, sd = { sc with heap := pushCells (sc.heap.push { cls := .type "dict", data := .dict #[] }) scope.names } := ⟨_, rfl⟩
  rw [← esd] at Id
  have goal : codeAny (model X.prog X.w) X.A (.compStart (.SetComp elt [⟨tg, iter, ifs, 0⟩] scope pos) 0 (.ref it) (.ref D) ce)
      (compPost (model X.prog X.w) X.A X.xe none (EP X pins σ Q) (.ref D) sc.heap.objs.size) sd := by
    have tnd : tn 0 sd.heap := T.keep _ _ _ tnc fun b _ o e => by rw [esd]; exact pushCells_keeps _ _ _ _ (Heap.get?_push_of_some _ e)
    have mine : ∀ {σ' : L2.St} {H' : Hp} {s' : Shared}, Inv (X.blk sc Hc scope ce fp) [] σ' H' s' → (∀ b ∈ fp, H' b = none) → ∀ b ∈ fp, FpOk (X.blk sc Hc scope ce fp) [] H' b := fun {σ' H' s'} I' hn b hb =>
      ⟨hn b hb, (I'.ok.exf b hb).1, I'.ok.exfs b hb, .inl hb, fun x c e => (I'.ok.exf b hb).2 x c e, fun q hq => by cases hq⟩
    have loop : codeAny (model X.prog X.w) X.A (.compLoop (.SetComp elt [⟨tg, iter, ifs, 0⟩] scope pos) 0 (.ref it) (.ref D) ce)
        (compPost (model X.prog X.w) X.A X.xe none (EP X pins σ Q) (.ref D) sc.heap.objs.size) sd := by
      refine PpSet.compLoopS_any (fun n s' => ∃ i H', Inv (X.blk sc Hc scope ce fp) [] (L2.wipe σ (own.map (·.2))) H' s' ∧ tn i s'.heap ∧ (∀ b ∈ fp, H' b = none) ∧ W i n H') ?_ m0 ⟨0, Hc, Id, tnd, fun b hb => (fc b hb).1.1, w0⟩
      rintro n se ⟨i, He, Ie, tne, ne, we⟩
      rcases turn i n He we with ⟨stop, fin⟩ | ⟨go, Nx, less, step⟩
      · refine thnF (T.done (X.blk sc Hc scope ce fp) rfl rfl rfl calm i [] se _ He (fun _ _ => False) Ie (mine Ie ne) tne stop) fun r sf ⟨er, If⟩ => ?_
        subst er
        have Ig : Inv X pins σ He sf := Ic.call' (ch := fp) If.os If.base If.hok If.bare fun b hb => ⟨(fc b hb).1.2.2.2.1, (fc b hb).1.2.1, (fc b hb).1.2.2.2.2.1, (fc b hb).1.2.2.2.2.2⟩
        have nC : He sc.heap.objs.size = none := eL ▸ (show He ce.locals = none from If.free)
        obtain ⟨m, hm, _⟩ := If.loc
        have hm' : sf.heap.Ns sc.heap.objs.size m := eL ▸ (show sf.heap.Ns ce.locals m from hm)
        obtain ⟨f0, f1, f2, f3, f4, f5⟩ := Ic.fpOk (H' := He) (Nat.le_refl _) nC
        exact ⟨m, hm', fun h'' sb'' => ⟨.ref D, He, Ig.turned (t' := sf.toks) (fun b o hb e => (sb''.2 b hb).trans e) f0 f1 f3 f4 f5, rfl, fin⟩⟩
      · refine thnF (T.item (X.blk sc Hc scope ce fp) rfl rfl rfl calm i [] se _ He (fun _ _ => False) Ie (mine Ie ne) tne go) fun r sf ⟨u, er, hf⟩ => ?_
        subst er
        refine thnF hf fun _ sg ⟨x, Hg, Ig, rg, yg, tng, ng⟩ => ?_
        have Ip := Ig.pinned (mine Ig ng) (T.obj _ _ tng)
        refine thnF (pg.run _ sg _ Hg x u _ Ip rg (step x Hg yg)) fun _ sh ⟨σh, Hh, Ih, wh, qh⟩ => thnF (pt.run _ sh σh Hh _ Ih qh) fun b si ⟨Hi, Ii, qi⟩ => ?_
        have close : ∀ {s' : Shared} {H' : Hp}, Inv (X.blk sc Hc scope ce fp) ([] ++ pinsAt fp sg.heap) σh H' s' → Nx H' →
            ∃ m, m < n ∧ ∃ i H', Inv (X.blk sc Hc scope ce fp) [] (L2.wipe σ (own.map (·.2))) H' s' ∧ tn i s'.heap ∧ (∀ b ∈ fp, H' b = none) ∧ W i m H' := fun {s' H'} I' nx => by
          obtain ⟨m', hm, w'⟩ := less H' nx
          have still : ∀ b ∈ fp, ∀ o, sg.heap.get? b = some o → s'.heap.get? b = some o ∧ H' b = none := fun b hb o e =>
            let z := I'.pin (b, o) (List.mem_append_right _ (List.mem_append_right _ (mem_pinsAt hb e)))
            ⟨z.1, z.2.1⟩
          exact ⟨m', hm, i + 1, H', (I'.unpinned (pins := [])).weak (by rw [← wh, wipe_length]) (fun j v e => (wipe_some (wh.symm ▸ e)).1), T.keep _ _ _ tng fun b hb o e => (still b hb o e).1,
            fun b hb => let ⟨o, e, _⟩ := T.obj _ _ tng b hb; (still b hb o e).2, w'⟩
        cases b with
        | false => exact close Ii (by simpa using qi)
        | true =>
          have qi' : te σh Hi fun y H4 => ∃ (c : Int) (S : Int → Bool) (n : Nat), y = .int c ∧ H4 D = some (SetO X.w D S n) ∧ n + 1 < scanBound ∧ Nx (upd H4 D (SetO X.w D (fun j => S j || decide (j = c)) (if S c = true then n else n + 1))) := by simpa using qi
          refine thnF (pe.run _ si σh Hi _ Ii qi') fun z sj hz => ?_
          obtain ⟨yv, Hj, Ij, rj, c, S, n0, ey, hD, room, nx⟩ := hz
          subst ey
          have ad := mt_sadd (X := X.blk sc Hc scope ce fp) _ sj σh Hj (.ref D) [.int c] (.ref D) [z] (fun v H' => H' = upd Hj D (SetO X.w D (fun j => S j || decide (j = c)) (if S c = true then n0 else n0 + 1))) Ij rfl (.cons rj .nil) ⟨D, c, S, n0, rfl, rfl, hD, room, rfl⟩
          refine thnF ad fun _ sk hk => ?_
          obtain ⟨_, Hk, Ik, _, eHk⟩ := hk
          subst eHk
          exact close Ik nx
    exact PpSet.codeAny_compStart_set loop (T.self X.A 0 _ _ _ tnd loop)
  rw [esd, ece, ecl, esc] at goal
  rw [eD] at goal ⊢
  exact goal
end

theorem insS_mem {k j : Int} : ∀ {l : List Int}, j ∈ insS k l ↔ j = k ∨ j ∈ l
  | [] => by simp [insS]
  | x :: r => by
    unfold insS
    split
    · simp
    · split
      · rename_i h
        subst h
        simp
      · simp only [List.mem_cons, insS_mem (l := r)]
        constructor
        · rintro (h | h | h)
          · exact .inr (.inl h)
          · exact .inl h
          · exact .inr (.inr h)
        · rintro (h | h | h)
          · exact .inr (.inl h)
          · exact .inl h
          · exact .inr (.inr h)
theorem insS_sorted {k : Int} : ∀ {l : List Int}, l.Pairwise (· < ·) → (insS k l).Pairwise (· < ·)
  | [], _ => List.pairwise_singleton _ _
  | x :: r, h => by
    obtain ⟨h1, h2⟩ := List.pairwise_cons.mp h
    unfold insS
    split
    · refine List.pairwise_cons.mpr ⟨fun y hy => ?_, h⟩
      rcases List.mem_cons.mp hy with e | hy
      · omega
      · have := h1 y hy
        omega
    · split
      · exact h
      · refine List.pairwise_cons.mpr ⟨fun y hy => ?_, insS_sorted h2⟩
        rcases insS_mem.mp hy with e | hy
        · omega
        · exact h1 y hy
theorem insS_length {k : Int} : ∀ {l : List Int}, l.Pairwise (· < ·) → (insS k l).length = if k ∈ l then l.length else l.length + 1
  | [], _ => by simp [insS]
  | x :: r, h => by
    obtain ⟨h1, h2⟩ := List.pairwise_cons.mp h
    unfold insS
    split
    · rename_i hk
      have : ¬ k ∈ x :: r := fun z => by
        rcases List.mem_cons.mp z with e | z
        · omega
        · have := h1 k z
          omega
      rw [if_neg this]
      rfl
    · split
      · rename_i e
        rw [if_pos (by rw [e]; exact List.mem_cons_self)]
      · rename_i h3
        rw [List.length_cons, insS_length h2]
        by_cases hk : k ∈ r
        · rw [if_pos hk, if_pos (List.mem_cons_of_mem _ hk)]
          rfl
        · rw [if_neg hk, if_neg fun z => (List.mem_cons.mp z).elim h3 hk]
          rfl
theorem sorted_ext : ∀ {l m : List Int}, l.Pairwise (· < ·) → m.Pairwise (· < ·) → (∀ k, k ∈ l ↔ k ∈ m) → l = m
  | [], [], _, _, _ => rfl
  | [], y :: m, _, _, h => absurd ((h y).mpr List.mem_cons_self) (by simp)
  | x :: l, [], _, _, h => absurd ((h x).mp List.mem_cons_self) (by simp)
  | x :: l, y :: m, hl, hm, h => by
    obtain ⟨l1, l2⟩ := List.pairwise_cons.mp hl
    obtain ⟨m1, m2⟩ := List.pairwise_cons.mp hm
    have e : x = y := by
      have a := (h x).mp List.mem_cons_self
      have b := (h y).mpr List.mem_cons_self
      rcases List.mem_cons.mp a with a | a
      · exact a
      · rcases List.mem_cons.mp b with b | b
        · exact b.symm
        · have := m1 x a
          have := l1 y b
          omega
    subst e
    rw [sorted_ext l2 m2 fun k => ⟨fun hk => by
      rcases List.mem_cons.mp ((h k).mp (List.mem_cons_of_mem _ hk)) with e | z
      · have := l1 k hk
        omega
      · exact z, fun hk => by
      rcases List.mem_cons.mp ((h k).mpr (List.mem_cons_of_mem _ hk)) with e | z
      · have := m1 k hk
        omega
      · exact z⟩]
theorem once_le (is : List Int) : ∀ {acc : List Int}, acc.Pairwise (· < ·) → acc.length ≤ (is.foldl (fun acc k => insS k acc) acc).length ∧ (is.foldl (fun acc k => insS k acc) acc).Pairwise (· < ·) := by
  induction is with
  | nil => exact fun h => ⟨Nat.le_refl _, h⟩
  | cons k is ih =>
    intro acc h
    obtain ⟨h1, h2⟩ := ih (insS_sorted (k := k) h)
    refine ⟨Nat.le_trans ?_ h1, h2⟩
    rw [insS_length h]
    split <;> omega
/-- the set at D has the members of acc -/
abbrev SetI (w : World) (D : Addr) (acc : List Int) : HO := SetO w D (fun k => decide (k ∈ acc)) acc.length
theorem setI_add {w : World} {D : Addr} {acc : List Int} {c : Int} (h : acc.Pairwise (· < ·)) : SetO w D (fun j => decide (j ∈ acc) || decide (j = c)) (if decide (c ∈ acc) = true then acc.length else acc.length + 1) = SetI w D (insS c acc) := by
  unfold SetI
  congr 1
  · funext j
    rw [← Bool.decide_or]
    congr 1
    rw [insS_mem, or_comm]
  · rw [insS_length h]
    by_cases e : c ∈ acc <;> simp [e]

section
variable {X : Cx} {p : Par} {t : Pat} {w : List Nat} {ci ce : E} {co : Option E}
theorem si_of {K : PySem.W.Frag} {w0 : World} {σ : St} {H : Hp} {Q : VK} {ρ : Env} {F : Addr → Prop} {O : Nat → List Addr} {good : Val → Prop} (ht : ∀ j ∈ patS t, j ∈ w) (R : Rel K ρ F O σ H)
    (r : Run p ((evalE p.cf 9 (.comp w 0 ce t ci co) ρ).bind fun v => vSortedSet v) σ H good)
    (hq : ∀ D H' F' is, good (.list ((intsOnce is).map .int)) → (intsOnce is).length < 64 → Grow H F H' F' → H' D = some (SetI w0 D (intsOnce is)) → Q (.ref D) H') :
    tSi w0 (tI K p 1 ci) (tG K t) (tTs K p.nox co) (tO K p.nox 0 ce) w σ H Q := by
  have r1 : Run p (((evalE p.cf 1 ci ρ).bind fun s => (asSeq s).bind fun xs => (compL (turn1 p.cf w ce t co ρ) xs).bind fun r => Res.guard (sizeOk r.length) (Res.ok (PyData.list r))).bind fun v => vSortedSet v) σ H good := r
  refine ⟨ρ, F, O, R, run_join (r1.bind.bind.imp (Same.refl H) fun s _ q => q.bind.imp (Same.refl H) fun xs _ q2 J H1 F1 g1 wk D nD => ?_)⟩
  obtain ⟨rs, e1, q3⟩ := q2.bind.ok (nx_compL (fun v => nx_turn1 v) xs)
  cases hz : sizeOk rs.length with
  | false =>
    simp only [hz, Res.guard] at q3
    exact q3.elim
  | true =>
    simp only [hz, Res.guard] at q3
    have q4 : Run p (vSortedSet (.list rs)) σ H good := q3
    unfold vSortedSet at q4
    cases hi : intsOf rs with
    | none =>
      simp only [hi] at q4
      exact q4.elim
    | some is =>
      simp only [hi] at q4
      have ers := intsOf_eq hi
      subst ers
      by_cases h64 : (intsOnce is).length < 64
      · simp only [h64, decide_true, Res.guard] at q4
        have q5 : good (.list ((intsOnce is).map .int)) := q4
        refine ⟨fun i m H' => m = xs.length - i ∧ i ≤ xs.length ∧ ∃ acc is1 F', compL (turn1 p.cf w ce t co ρ) (xs.drop i) = .ok (is1.map .int) ∧ is1.foldl (fun acc k => insS k acc) acc = intsOnce is ∧ acc.Pairwise (· < ·) ∧ Grow H1 F1 H' F' ∧ ¬ F' D ∧ H' D = some (SetI w0 D acc),
          ⟨xs.length, by simp, Nat.zero_le _, [], is, F1, by rw [List.drop_zero]; exact e1, rfl, List.Pairwise.nil, Grow.put g1.dom nD, fun f => g1.dom D f nD, by rw [upd_same]; unfold SetI; simp⟩, ?_⟩
        rintro i m H' ⟨rfl, hi, acc, is1, F', e2, e3, srt, g2, nF, hD⟩
        have st : Stay 1 H1 H' F1 := ⟨Keep.same g2.same, fun _ => g2.same⟩
        by_cases hlt : i < xs.length
        · obtain ⟨v, hv, hd⟩ := drop_cons hlt
          rw [hd] at e2
          obtain ⟨o, r2, e4, e5, e6⟩ := compL_cons e2
          obtain ⟨go, yl⟩ := wk.go H' F' st g2.sub g2.dom i v hv
          refine .inr ⟨go, fun H'' => ∃ acc is2 F'', r2 = is2.map .int ∧ is2.foldl (fun acc k => insS k acc) acc = intsOnce is ∧ acc.Pairwise (· < ·) ∧ Grow H1 F1 H'' F'' ∧ ¬ F'' D ∧ H'' D = some (SetI w0 D acc),
            fun H'' ⟨acc', is2, F'', h1, h2, h3, h4, h5, h6⟩ => ⟨xs.length - (i + 1), by omega, rfl, hlt, acc', is2, F'', by rw [e5, h1], h2, h3, h4, h5, h6⟩, fun x H2 y => ?_⟩
          obtain ⟨g, rx⟩ := yl x H2 y
          obtain ⟨ρ', b1, h1⟩ := Res.bind_eq_ok e4
          obtain ⟨c, b2, h2⟩ := Res.bind_eq_ok h1
          have Rb := (((R.grow g1).grow g2).grow g).wipe w
          have nF2 : ∀ {H' F''}, Grow H2 F' H' F'' → ¬ F'' D ∧ H' D = some (SetI w0 D acc) := fun {H' F''} gg => ⟨fun f => by
            rcases (g.trans gg).new D f with f | f
            · exact nF f
            · rw [hD] at f
              exact (nomatch f), (g.trans gg).same _ _ hD⟩
          refine ⟨_, F', _, v, ρ', Rb, rx, b1, fun σ2 O2 R2 _ df => ⟨?_, ρ', F', O2, R2, ?_⟩⟩
          · refine wipe_turn ht ?_ df
            rw [R2.len, bindP_length t v _ _ b1, killL_length, R.len]
          · show Run p.nox (evalO p.cf co ρ') σ2 H2 _
            rw [b2]
            intro H3 F3 g3
            cases c with
            | false =>
              cases h2
              have e7 := e6 []
              simp only [addO, List.nil_append] at e7
              exact ⟨acc, is1, F3, e7.symm, e3, srt, g2.trans (g.trans g3), (nF2 g3).1, (nF2 g3).2⟩
            | true =>
              obtain ⟨y, b3, h3⟩ := Res.bind_eq_ok h2
              cases h3
              have e7 := e6 []
              simp only [addO, List.nil_append, List.cons_append] at e7
              cases is1 with
              | nil => cases e7
              | cons k is2 =>
                simp only [List.map_cons, List.cons.injEq] at e7
                obtain ⟨e8, e9⟩ := e7
                subst e8
                refine ⟨ρ', F3, O2, R2.grow g3, ?_⟩
                show Run p.nox (evalE p.cf 0 ce ρ') σ2 H3 _
                rw [Res.quiet_eq_ok b3]
                intro u H5 F5 S5 g5 o5 n5
                obtain ⟨a1, a2⟩ := nF2 (g3.trans g5)
                have rk : Rep K H5 F5 0 u (.int k) := (own_zero.mp o5).2
                have le := (once_le is2 (insS_sorted (k := k) srt)).1
                have e3' : is2.foldl (fun acc k => insS k acc) (insS k acc) = intsOnce is := e3
                have le2 : acc.length ≤ (insS k acc).length := by
                  rw [insS_length srt]
                  split <;> omega
                rw [e3'] at le
                have gA : Grow H1 F1 H5 F5 := g2.trans (g.trans (g3.trans g5))
                refine ⟨k, _, _, rep_int.mp rk, a2, by show acc.length + 1 < 4096; omega, insS k acc, is2, F5, e9.symm, e3', insS_sorted srt, ⟨fun b o e => ?_, gA.sub, gA.new, fun a f => ?_⟩, a1, ?_⟩
                · rw [upd_ne (ne_of_none e nD)]
                  exact gA.same b o e
                · by_cases e : a = D
                  · rw [e, upd_same]
                    simp
                  · rw [upd_ne e]
                    exact gA.dom a f
                · rw [upd_same, setI_add srt]
        · have e : i = xs.length := by omega
          subst e
          rw [List.drop_length] at e2
          have e4 : is1 = [] := by
            cases is1 with
            | nil => rfl
            | cons _ _ => cases e2
          subst e4
          have e5 : acc = intsOnce is := e3
          subst e5
          exact .inl ⟨wk.stop H' st _ (Nat.le_refl _), hq D H' F' is q5 h64 (g1.trans g2) hD⟩
      · simp only [h64, decide_false, Res.guard] at q4
        exact q4.elim
variable {elt tg iter : Expr} {ifs : List Expr} {scope : Scope} {own : List (PySem.Str × Nat)} {pos q0 pos1 : Pos}
theorem vo_sortedSc (hc : X.calm = true) (hN : X.N.Nodup) (hm : X.mg "sorted" = none) (hi : VI X p 1 tg iter ci) (ok : BlkOk X.N X.env.scope scope own) (hw : own.map (·.2) = w) (hp : ∀ j ∈ patS t, j ∈ w)
    (hg : ∀ (s : Shared) (H : Hp) (C : Addr) (cl : List (PySem.Str × Addr)) (fp : List Addr), VG (X.blk s H scope (compEnvC scope cl C X.env) fp) tg t) (ht : ∀ (s : Shared) (H : Hp) (C : Addr) (cl : List (PySem.Str × Addr)) (fp : List Addr), VTs (X.blk s H scope (compEnvC scope cl C X.env) fp) p.nox ifs co)
    (he : ∀ (s : Shared) (H : Hp) (C : Addr) (cl : List (PySem.Str × Addr)) (fp : List Addr), VO (X.blk s H scope (compEnvC scope cl C X.env) fp) p.nox elt ce 0) (hgl : Gl X "sorted" := by rfl) (hs : ∀ x, foldedSetIterable iter X.env x = pure x := by intro _; rfl)
    (hse : starEach [.SetComp elt [⟨tg, iter, ifs, 0⟩] scope pos1] X.env = (false, eval (.SetComp elt [⟨tg, iter, ifs, 0⟩] scope pos1) X.env) :: starEach [] X.env := by rfl) :
    VO X p (.Call (.Name "sorted" q0) [.SetComp elt [⟨tg, iter, ifs, 0⟩] scope pos1] [] pos) (.op .sortedSet [.comp w 0 ce t ci co]) 1 := by
  subst hw
  refine ⟨PE.imp (pe_callB (cr_sortedSet hc) hgl hm (by decide +kernel) (pa_cons (pe_si (wi := tI X.K p 1 ci) (g := tG X.K t) (tt := tTs X.K p.nox co) (te := tO X.K p.nox 0 ce) hc hN hi.run ok (fun s H C cl fp => (hg s H C cl fp).run) (fun s H C cl fp => (ht s H C cl fp).run) (fun s H C cl fp => (he s H C cl fp).run) hs) pa_nil hse) (by decide) (by decide) hse rfl) fun σ H Q ⟨ρ, F, O, R, r⟩ => ?_⟩
  have r1 : Run p ((((evalE p.cf 9 (.comp (own.map (·.2)) 0 ce t ci co) ρ).bind fun v => Res.ok [v])).bind fun vs => den .sortedSet vs) σ H _ := r
  have r2 : Run p ((evalE p.cf 9 (.comp (own.map (·.2)) 0 ce t ci co) ρ).bind fun v => vSortedSet v) σ H _ := run_join (r1.bind.bind.imp (Same.refl H) fun v _ q => q)
  show tSi X.w (tI X.K p 1 ci) (tG X.K t) (tTs X.K p.nox co) (tO X.K p.nox 0 ce) (own.map (·.2)) σ H (fun u H1 => tNil σ H1 fun vs H2 => rSortedSet X.w (u :: vs) H2 Q)
  refine si_of hp R r2 fun D H1 F1 is good lt g hD => ⟨D, _, _, rfl, hD, lt, fun ns P srt mem len nP => ?_⟩
  have e : ns = intsOnce is := sorted_ext srt (once_le is List.Pairwise.nil).2 fun k => by rw [mem k, decide_eq_true_eq]
  subst e
  obtain ⟨g2, o, n⟩ := own_new g.dom nP (repA_of_ints (K := X.K) (F := F1) (H := H1) (is := intsOnce is))
  exact good (.ref P) _ F1 [P] (g.trans g2) o fun a h => ⟨g.same.free (n a h).1, (n a h).2⟩
end
end VL

/-! VL, part 12: statements. -/
namespace VL
open PySem PySem.Spec L2 PySem.W
open PyProof.Rows hiding St

/-- a def under way: the frame's values; what stood at its start stands; what it owns is new -/
structure SRel (K : PySem.W.Frag) (H0 : Hp) (F0 : Addr → Prop) (ρ : Env) (F : Addr → Prop) (O : Nat → List Addr) (σ : St) (H : Hp) : Prop where
  rel : Rel K ρ F O σ H
  grow : Grow H0 F0 H F
  new : ∀ i a, a ∈ O i → H0 a = none
/-- from one statement to another: what is frozen stays -/
structure Step (H : Hp) (F : Addr → Prop) (H' : Hp) (F' : Addr → Prop) : Prop where
  keep : Keep H H' F
  sub : ∀ a, F a → F' a
theorem Step.refl {H : Hp} {F : Addr → Prop} : Step H F H F := ⟨fun _ _ e _ => e, fun _ h => h⟩
theorem Step.trans {H H1 H2 : Hp} {F F1 F2 : Addr → Prop} (h : Step H F H1 F1) (h' : Step H1 F1 H2 F2) : Step H F H2 F2 :=
  ⟨fun b o e c => h'.keep b o (h.keep b o e c) (c.imp (h.sub b) id), fun a f => h'.sub a (h.sub a f)⟩
theorem Step.of {H H1 : Hp} {F F1 : Addr → Prop} (g : Grow H F H1 F1) : Step H F H1 F1 := ⟨Keep.same g.same, g.sub⟩

def After (K : PySem.W.Frag) (fr : Nat) (H0 : Hp) (F0 : Addr → Prop) (H : Hp) (F : Addr → Prop) (D : Ends) : Out → Prop
  | .nx ρ' => ∀ σ' H' F' O', SRel K H0 F0 ρ' F' O' σ' H' → Step H F H' F' → D.nx σ' H'
  | .ct ρ' => ∀ σ' H' F' O', SRel K H0 F0 ρ' F' O' σ' H' → Step H F H' F' → D.ct σ' H'
  | .bk ρ' => ∀ σ' H' F' O', SRel K H0 F0 ρ' F' O' σ' H' → Step H F H' F' → D.bk σ' H'
  | .rt v => ∀ u H' F' S, Grow H0 F0 H' F' → Own K H' F' fr S u v → (∀ a ∈ S, H0 a = none ∧ ¬ F' a) → D.rt u H'
theorem After.step {K : PySem.W.Frag} {fr : Nat} {H0 H H1 : Hp} {F0 F F1 : Addr → Prop} {D : Ends} {o : Out} (h : After K fr H0 F0 H F D o) (s : Step H F H1 F1) : After K fr H0 F0 H1 F1 D o := by
  cases o with
  | nx ρ => exact fun σ' H' F' O' r s' => h σ' H' F' O' r (s.trans s')
  | ct ρ => exact fun σ' H' F' O' r s' => h σ' H' F' O' r (s.trans s')
  | bk ρ => exact fun σ' H' F' O' r s' => h σ' H' F' O' r (s.trans s')
  | rt v => exact h

def tS (K : PySem.W.Frag) (p : Par) (fr : Nat) (s : S) : TS := fun D σ H => ∃ H0 F0 ρ F O o, SRel K H0 F0 ρ F O σ H ∧ evalS p.cf s ρ = .ok o ∧ After K fr H0 F0 H F D o
def tSs (K : PySem.W.Frag) (p : Par) (fr : Nat) (ss : List S) : TS := fun D σ H => ∃ H0 F0 ρ F O o, SRel K H0 F0 ρ F O σ H ∧ evalSs p.cf ss ρ = .ok o ∧ After K fr H0 F0 H F D o
structure VS (X : Cx) (p : Par) (fr : Nat) (st : Stmt) (s : S) : Prop where
  run : PS X st (tS X.K p fr s)
structure VSs (X : Cx) (p : Par) (fr : Nat) (sts : List Stmt) (ss : List S) : Prop where
  run : PSs X sts (tSs X.K p fr ss)

/-! ### how the frame moves -/
section
variable {K : PySem.W.Frag} {ρ : Env} {F F' F0 : Addr → Prop} {O : Nat → List Addr} {σ : St} {H H' H0 : Hp}
theorem SRel.grow' (R : SRel K H0 F0 ρ F O σ H) (g : Grow H F H' F') : SRel K H0 F0 ρ F' O σ H' := ⟨R.rel.grow g, R.grow.trans g, R.new⟩
/-- slot i's thing has changed, and nothing else -/
theorem Rel.mut (R : Rel K ρ F O σ H) {i k : Nat} {S : List Addr} {u : V} {v : Val} (hi : i < ρ.length) (hu : σ[i]? = some (some u)) (keep : ∀ b o, H b = some o → b ∉ O i → H' b = some o) (sub : ∀ a, F a → F' a)
    (new : ∀ a, F' a → F a ∨ a ∈ O i ∨ H a = none) (dom : ∀ a, F' a → H' a ≠ none) (own : Own K H' F' k S u v) (hS : ∀ a ∈ S, ¬ F' a ∧ ∀ j, j ≠ i → a ∉ O j) : Rel K (ρ.set i (some (v, k))) F' (fun j => if j = i then S else O j) σ H' where
  len := by rw [List.length_set, R.len]
  slot := fun j w d e => by
    rw [List.getElem?_set] at e
    by_cases h : i = j
    · subst h
      simp only [if_true, hi, Option.some.injEq, Prod.mk.injEq] at e ⊢
      obtain ⟨rfl, rfl⟩ := e
      exact ⟨u, hu, own⟩
    · rw [if_neg h] at e
      obtain ⟨z, e1, q⟩ := R.slot j w d e
      refine ⟨z, e1, ?_⟩
      rw [if_neg fun q => h q.symm]
      refine own_frame w d _ z q (fun b o eb c => keep b o eb fun m => ?_) sub
      rcases c with c | c | c
      · exact R.notF i b m c
      · obtain ⟨ws, e2⟩ := R.there m
        rw [e2] at eb
        cases eb
        cases c
      · exact R.disj j i b (fun q => h q.symm) c m
  empty := fun j h => by
    by_cases e : j = i
    · subst e
      exact absurd (by rw [List.getElem?_set_self hi]) (h v k)
    · simp only [e, if_false]
      exact R.empty j fun w d q => h w d (by rw [List.getElem?_set_ne fun z => e z.symm]; exact q)
  disj := fun j l a n h => by
    by_cases e : j = i
    · subst e
      simp only [if_true] at h
      have : ¬ l = j := fun z => n z.symm
      simp only [this, if_false]
      exact (hS a h).2 l this
    · simp only [e, if_false] at h
      by_cases e2 : l = i
      · subst e2
        simp only [if_true]
        exact fun m => (hS a m).2 j e h
      · simp only [e2, if_false]
        exact R.disj j l a n h
  notF := fun j a h => by
    by_cases e : j = i
    · subst e
      simp only [if_true] at h
      exact (hS a h).1
    · simp only [e, if_false] at h
      intro f
      rcases new a f with q | q | q
      · exact R.notF j a h q
      · exact R.disj j i a e h q
      · obtain ⟨ws, e2⟩ := R.there h
        rw [q] at e2
        cases e2
  dom := dom
theorem SRel.mut (R : SRel K H0 F0 ρ F O σ H) {i k : Nat} {S : List Addr} {u : V} {v : Val} (hi : i < ρ.length) (hu : σ[i]? = some (some u)) (keep : ∀ b o, H b = some o → b ∉ O i → H' b = some o) (sub : ∀ a, F a → F' a)
    (new : ∀ a, F' a → F a ∨ a ∈ O i ∨ H a = none) (dom : ∀ a, F' a → H' a ≠ none) (own : Own K H' F' k S u v) (hS : ∀ a ∈ S, ¬ F' a ∧ (∀ j, j ≠ i → a ∉ O j) ∧ H0 a = none) :
    SRel K H0 F0 (ρ.set i (some (v, k))) F' (fun j => if j = i then S else O j) σ H' ∧ Step H F H' F' := by
  refine ⟨⟨R.rel.mut hi hu keep sub new dom own fun a m => ⟨(hS a m).1, (hS a m).2.1⟩, ⟨fun b o e => keep b o (R.grow.same b o e) fun m => ?_, fun a f => sub a (R.grow.sub a f), fun a f => ?_, dom⟩, fun j a h => ?_⟩, fun b o e c => keep b o e fun m => ?_, sub⟩
  · rw [R.new i b m] at e
    cases e
  · rcases new a f with q | q | q
    · exact R.grow.new a q
    · exact .inr (R.new i a q)
    · exact .inr (R.grow.same.free q)
  · by_cases e : j = i
    · subst e
      simp only [if_true] at h
      exact (hS a h).2.2
    · simp only [e, if_false] at h
      exact R.new j a h
  · rcases c with c | c
    · exact R.rel.notF i b m c
    · obtain ⟨ws, e2⟩ := R.rel.there m
      rw [e2] at e
      cases e
      cases c
theorem getElem_lt {α : Type} {l : List α} {i : Nat} {x : α} (h : l[i]? = some x) : i < l.length := by
  by_cases e : i < l.length
  · exact e
  · rw [List.getElem?_eq_none (Nat.not_lt.mp e)] at h
    cases h
theorem set_self {ρ : Env} {i : Nat} {x : Option (Val × Nat)} (h : ρ[i]? = some x) : ρ.set i x = ρ := by
  refine List.ext_getElem? fun j => ?_
  rw [List.getElem?_set]
  split
  · rename_i e
    subst e
    rw [if_pos (getElem_lt h), h]
  · rfl
/-- slot i is less its own -/
theorem SRel.drop1 (R : SRel K H0 F0 ρ F O σ H) {i d k : Nat} {v : Val} (h : ρ[i]? = some (some (v, d))) (hk : k ≤ d) : ∃ F' O', SRel K H0 F0 (ρ.set i (some (v, k))) F' O' σ H ∧ Step H F H F' ∧ (∀ a, F' a → F a ∨ a ∈ O i) ∧ (∀ j, j ≠ i → O' j = O j) ∧ ∀ a ∈ O' i, a ∈ O i := by
  obtain ⟨u, hu, o⟩ := R.rel.slot i v d h
  obtain ⟨S1, s1, s2⟩ := own_lower v d k (O i) u o hk
  have o1 := s2 (fun a => F a ∨ (a ∈ O i ∧ a ∉ S1)) (fun a f => .inl f) fun a m n => .inr ⟨m, n⟩
  obtain ⟨R', st⟩ := R.mut (F' := fun a => F a ∨ (a ∈ O i ∧ a ∉ S1)) (getElem_lt h) hu (fun b o e _ => e) (fun a f => .inl f) (fun a f => f.elim .inl fun z => .inr (.inl z.1)) (fun a f => f.elim (R.rel.dom a) fun z => by
    obtain ⟨ws, e⟩ := R.rel.there z.1
    rw [e]
    simp) o1 fun a m => ⟨fun f => f.elim (R.rel.notF i a (s1 a m)) fun z => z.2 m, fun j hj => R.rel.disj i j a (fun z => hj z.symm) (s1 a m), R.new i a (s1 a m)⟩
  exact ⟨_, _, R', st, fun a f => f.elim .inl fun z => .inr z.1, fun j hj => if_neg hj, fun a m => s1 a (by simpa using m)⟩
theorem SRel.dropL : ∀ (l : List (Nat × Nat)) {ρ : Env} {F : Addr → Prop} {O : Nat → List Addr}, SRel K H0 F0 ρ F O σ H → ∃ F' O', SRel K H0 F0 (dropL l ρ) F' O' σ H ∧ Step H F H F'
  | [], ρ, F, O, R => ⟨F, O, R, Step.refl⟩
  | (i, k) :: r, ρ, F, O, R => by
    unfold VL.dropL
    have one : ∃ F' O', SRel K H0 F0 (VL.drop1 i k ρ) F' O' σ H ∧ Step H F H F' := by
      unfold VL.drop1
      cases e : ρ[i]? with
      | none => exact ⟨F, O, R, Step.refl⟩
      | some x =>
        cases x with
        | none => exact ⟨F, O, R, Step.refl⟩
        | some y =>
          obtain ⟨F1, O1, R1, s1, _⟩ := R.drop1 e (Nat.min_le_left _ k)
          exact ⟨F1, O1, R1, s1⟩
    obtain ⟨F1, O1, R1, s1⟩ := one
    obtain ⟨F2, O2, R2, s2⟩ := SRel.dropL r R1
    exact ⟨F2, O2, R2, s1.trans s2⟩
theorem Rel.killL (R : Rel K ρ F O σ H) (w : List Nat) : Rel K (killL w ρ) F (fun j => if j ∈ w then [] else O j) σ H := by
  have W := R.wipe w
  refine ⟨by rw [killL_length, R.len], fun i v d e => ?_, W.empty, W.disj, W.notF, W.dom⟩
  obtain ⟨u, e1, q⟩ := W.slot i v d e
  exact ⟨u, (wipe_some e1).1, q⟩
theorem SRel.killL (R : SRel K H0 F0 ρ F O σ H) (w : List Nat) : SRel K H0 F0 (killL w ρ) F (fun j => if j ∈ w then [] else O j) σ H :=
  ⟨R.rel.killL w, R.grow, fun i a h => by
    by_cases e : i ∈ w
    · simp [e] at h
    · simp only [e, if_false] at h
      exact R.new i a h⟩
/-- slot i takes a new thing -/
theorem SRel.set (R : SRel K H0 F0 ρ F O σ H) {i d : Nat} {S : List Addr} {u : V} {x : Val} (hi : i < ρ.length) (g : Grow H F H' F') (o : Own K H' F' d S u x) (hS : ∀ a ∈ S, H a = none ∧ ¬ F' a) :
    SRel K H0 F0 (ρ.set i (some (x, d))) F' (fun j => if j = i then S else O j) (σ.set i (some u)) H' := by
  refine ⟨(R.rel.grow g).set hi o fun a m => ⟨(hS a m).2, fun j _ z => ?_⟩, R.grow.trans g, fun j a h => ?_⟩
  · obtain ⟨ws, e⟩ := R.rel.there z
    rw [(hS a m).1] at e
    cases e
  · by_cases e : j = i
    · subst e
      simp only [if_true] at h
      exact R.grow.same.free (hS a h).1
    · simp only [e, if_false] at h
      exact R.new j a h
/-- the list in slot i, its own k + 1 deep -/
theorem SRel.own (R : SRel K H0 F0 ρ F O σ H) {i k t : Nat} {xs : List Val} (h : getOwn ρ i (k + 1) = .ok (xs, t)) :
    ∃ F' O' a ws S', SRel K H0 F0 (ρ.set i (some (.list xs, k + 1))) F' O' σ H ∧ Step H F H F' ∧ i < ρ.length ∧ σ[i]? = some (some (.ref a)) ∧ H a = some (.lst ws) ∧ O' i = a :: S' ∧ a ∉ S' ∧ OwnA K H F' k S' ws xs ∧ (∀ a, F' a → F a ∨ a ∈ O i) ∧ (∀ j, j ≠ i → O' j = O j) ∧ ∀ a ∈ O' i, a ∈ O i := by
  unfold getOwn at h
  cases e : ρ[i]? with
  | none =>
    rw [e] at h
    cases h
  | some x =>
    cases x with
    | none =>
      rw [e] at h
      cases h
    | some y =>
      obtain ⟨v, d⟩ := y
      rw [e] at h
      cases v with
      | list ys =>
        obtain ⟨hk, h2⟩ := Res.guard_ok h
        cases h2
        obtain ⟨F', O', R', s', f', o'⟩ := R.drop1 e (Nat.le_of_ble_eq_true hk)
        have hi := getElem_lt e
        obtain ⟨u, hu, o⟩ := R'.rel.slot i (.list xs) (k + 1) (List.getElem?_set_self hi)
        simp only [Own] at o
        obtain ⟨a, ws, S', rfl, ha, hS, nS, oa⟩ := o
        exact ⟨F', O', a, ws, S', R', s', hi, hu, ha, hS, nS, oa, f', o'⟩
      | _ => cases h
end

/-! ### rules -/
section
variable {X : Cx} {p : Par} {fr : Nat} {st : Stmt} {sts : List Stmt} {s : S} {ss : List S} {pos : Pos} {e tg : Expr} {c : E} {t : Pat}
theorem tE_ok {K : PySem.W.Frag} {σ : St} {H : Hp} {Q : VK} {k : Nat} {ρ : Env} {F : Addr → Prop} {O : Nat → List Addr} {v : Val} (R : Rel K ρ F O σ H) (e : evalE p.cf k c ρ = .ok v) (q : ∀ u H' F', Grow H F H' F' → Rep K H' F' k u v → Q u H') : tE K p.nox k c σ H Q := by
  refine ⟨ρ, F, O, R, ?_⟩
  show Run p.nox (evalE p.cf k c ρ) σ H _
  rw [e]
  exact q
theorem tO_ok {K : PySem.W.Frag} {σ : St} {H : Hp} {Q : VK} {d : Nat} {ρ : Env} {F : Addr → Prop} {O : Nat → List Addr} {v : Val} (R : Rel K ρ F O σ H) (e : evalE p.cf 0 c ρ = .ok v) (q : ∀ u H' F' S, Grow H F H' F' → Own K H' F' d S u v → (∀ a ∈ S, H a = none ∧ ¬ F' a) → Q u H') : tO K p.nox d c σ H Q := by
  refine ⟨ρ, F, O, R, ?_⟩
  show Run p.nox (evalE p.cf 0 c ρ) σ H _
  rw [e]
  exact q
theorem vss_nil : VSs X p fr [] [] := ⟨PSs.imp pss_nil fun D σ H ⟨H0, F0, ρ, F, O, o, R, e, a⟩ => by
  cases e
  exact a σ H F O R Step.refl⟩
theorem vss_cons (h : VS X p fr st s) (hs : VSs X p fr sts ss) : VSs X p fr (st :: sts) (s :: ss) := ⟨PSs.imp (pss_cons h.run hs.run) fun D σ H ⟨H0, F0, ρ, F, O, o, R, e, a⟩ => by
  have e' : ((evalS p.cf s ρ).bind fun o => match o with
    | .nx ρ' => evalSs p.cf ss ρ'
    | o => .ok o) = .ok o := e
  obtain ⟨o1, e1, e2⟩ := Res.bind_eq_ok e'
  refine ⟨H0, F0, ρ, F, O, o1, R, e1, ?_⟩
  cases o1 with
  | nx ρ' => exact fun σ' H' F' O' R' s' => ⟨H0, F0, ρ', F', O', o, R', e2, a.step s'⟩
  | ct ρ' =>
    cases e2
    exact a
  | bk ρ' =>
    cases e2
    exact a
  | rt v =>
    cases e2
    exact a⟩
theorem vss_frz (l : List (Nat × Nat)) (hs : VSs X p fr sts ss) : VSs X p fr sts (.frz l :: ss) := ⟨PSs.imp hs.run fun D σ H ⟨H0, F0, ρ, F, O, o, R, e, a⟩ => by
  obtain ⟨F1, O1, R1, s1⟩ := SRel.dropL l R
  exact ⟨H0, F0, _, F1, O1, o, R1, e, a.step s1⟩⟩
theorem vss_kill (l : List Nat) (hs : VSs X p fr sts ss) : VSs X p fr sts (.kill l :: ss) := ⟨PSs.imp hs.run fun D σ H ⟨H0, F0, ρ, F, O, o, R, e, a⟩ => ⟨H0, F0, _, F, _, o, R.killL l, e, a⟩⟩
theorem set_of {K : PySem.W.Frag} {D : Ends} {σ : St} {H : Hp} {i d : Nat} (h : tS K p fr (.set i c d) D σ H) : tO K p.nox d c σ H fun x H1 => D.nx (σ.set i (some x)) H1 := by
  obtain ⟨H0, F0, ρ, F, O, o, R, e, a⟩ := h
  have e' : ((evalE p.cf 0 c ρ).bind fun v => Res.guard (Nat.blt i ρ.length) (Res.ok (Out.nx (ρ.set i (some (v, d)))))) = .ok o := e
  obtain ⟨v, e1, e2⟩ := Res.bind_eq_ok e'
  obtain ⟨hl, e3⟩ := Res.guard_ok e2
  cases e3
  exact tO_ok R.rel e1 fun u H' F' S g o n => a _ H' F' _ (R.set (by simpa [Nat.blt_eq] using hl) g o n) (Step.of g)
theorem vs_set {d : Nat} (i : Nat) {x : Str} {pos' : Pos} (hN : X.N.Nodup) (he : VO X p.nox e c d) (hi : X.N[i]? = some x := by rfl) (hx : Loc X.env.scope x := by first | exact Or.inl rfl | exact Or.inr rfl) (hs : swapsWith e (some (.Name x pos')) pos.line X.env = pure false := by rfl)
    (hf : X.fn x = true ∨ X.env.scope.names.lookup x = some .local := by first | exact Or.inl rfl | exact Or.inr rfl) : VS X p fr (.Assign [.Name x pos'] e pos) (.set i c d) :=
  ⟨PS.imp (ps_set hN hi hx he.run hs hf) fun D σ H h => set_of h⟩
theorem vs_asg (he : VE X p.nox e c) (hg : VG X tg t) (hs : swapsWithSole [tg] e pos.line X.env = pure false := by rfl) (hw : swappedStores [tg] e X.env = pure none := by rfl) (h1 : (assignEach [tg] X.env).map (·.2) = [assign tg X.env] := by rfl) :
    VS X p fr (.Assign [tg] e pos) (.asg t c) := ⟨PS.imp (ps_asg (he.run 0) hg.run hs hw h1) fun D σ H ⟨H0, F0, ρ, F, O, o, R, e, a⟩ => by
  have e' : ((evalE p.cf 0 c ρ).bind fun v => (bindP t v ρ).bind fun ρ' => Res.ok (Out.nx ρ')) = .ok o := e
  obtain ⟨v, e1, e2⟩ := Res.bind_eq_ok e'
  obtain ⟨ρ', e3, e4⟩ := Res.bind_eq_ok e2
  cases e4
  exact tE_ok R.rel e1 fun u H' F' g r => ⟨ρ, F', O, v, ρ', R.rel.grow g, r, e3, fun σ' O' R' sub _ => a σ' H' F' O' ⟨R', R.grow.trans g, fun j b m => by
    rcases sub j with z | z
    · rw [z] at m
      cases m
    · rw [z] at m
      exact R.new j b m⟩ (Step.of g)⟩⟩
theorem vs_expr (he : VE X p.nox e c) (hs : swapsWith e none pos.line X.env = pure false := by rfl) : VS X p fr (.Expr e pos) (.expr c) := ⟨PS.imp (ps_expr (he.run 0) hs) fun D σ H ⟨H0, F0, ρ, F, O, o, R, e, a⟩ => by
  have e' : ((evalE p.cf 0 c ρ).bind fun _ => Res.ok (Out.nx ρ)) = .ok o := e
  obtain ⟨v, e1, e2⟩ := Res.bind_eq_ok e'
  cases e2
  exact tE_ok R.rel e1 fun u H' F' g r => a σ H' F' O (R.grow' g) (Step.of g)⟩
theorem vs_if {a b : List Stmt} {ca cb : List S} (hc : VT X p.nox e c) (ha : VSs X p fr a ca) (hb : VSs X p fr b cb) : VS X p fr (.If e a b pos) (.iff c ca cb) := ⟨PS.imp (ps_if hc.run ha.run hb.run) fun D σ H ⟨H0, F0, ρ, F, O, o, R, ev, af⟩ => by
  have e' : ((evalE p.cf 9 c ρ).bind fun x => (asBool x).bind fun t => match t with
    | true => evalSs p.cf ca ρ
    | false => evalSs p.cf cb ρ) = .ok o := ev
  obtain ⟨x, e1, e2⟩ := Res.bind_eq_ok e'
  obtain ⟨t, e3, e4⟩ := Res.bind_eq_ok e2
  refine ⟨ρ, F, O, R.rel, ?_⟩
  show Run p.nox ((evalE p.cf 9 c ρ).bind asBool) σ H _
  rw [e1, Res.bind_ok, e3]
  intro H' F' g
  cases t with
  | true => exact ⟨H0, F0, ρ, F', O, o, R.grow' g, e4, af.step (Step.of g)⟩
  | false => exact ⟨H0, F0, ρ, F', O, o, R.grow' g, e4, af.step (Step.of g)⟩⟩
theorem vs_ret (he : VO X p.nox e c fr) : VS X p fr (.Return (some e) pos) (.ret c) := ⟨PS.imp (ps_ret he.run) fun D σ H ⟨H0, F0, ρ, F, O, o, R, ev, af⟩ => by
  have e' : ((evalE p.cf 0 c ρ).bind fun v => Res.ok (Out.rt v)) = .ok o := ev
  obtain ⟨v, e1, e2⟩ := Res.bind_eq_ok e'
  cases e2
  exact tO_ok R.rel e1 fun u H' F' S g o n => af u H' F' S (R.grow.trans g) o fun a m => ⟨R.grow.same.free (n a m).1, (n a m).2⟩⟩
theorem vs_retv (i : Nat) {x : Str} {pos' : Pos} (hN : X.N[i]? = some x := by rfl) (hv : Vis X.env.scope x := by first | exact Or.inl rfl | exact Or.inr (Or.inl rfl) | exact Or.inr (Or.inr rfl)) (hd : (x == ("__debug__" : Str)) = false := by decide)
    (hcd : (x == ("__classdict__" : Str)) = false := by decide) : VS X p fr (.Return (some (.Name x pos')) pos) (.retv i fr) := ⟨PS.imp (ps_ret (pe_var hN hv hd hcd)) fun D σ H ⟨H0, F0, ρ, F, O, o, R, ev, af⟩ => by
  have e' : (match ρ[i]? with
      | some (some (v, d)) => Res.guard (Nat.ble fr d) (Res.ok (Out.rt v))
      | _ => .bad) = .ok o := ev
  cases q : ρ[i]? with
  | none =>
    rw [q] at e'
    cases e'
  | some y =>
    cases y with
    | none =>
      rw [q] at e'
      cases e'
    | some z =>
      obtain ⟨v, d⟩ := z
      rw [q] at e'
      obtain ⟨hk, h2⟩ := Res.guard_ok e'
      cases h2
      obtain ⟨F', O', R', s', _⟩ := R.drop1 q (Nat.le_of_ble_eq_true hk)
      obtain ⟨u, hu, ow⟩ := R'.rel.slot i v fr (List.getElem?_set_self (getElem_lt q))
      exact ⟨u, hu, af u H F' (O' i) R'.grow ow fun a m => ⟨R'.new i a m, R'.rel.notF i a m⟩⟩⟩
theorem own_none {K : PySem.W.Frag} {H : Hp} {F : Addr → Prop} {d : Nat} : Own K H F d [] .non .none := (own_atom rfl).mpr ⟨rfl, by simp only [Rep]⟩
theorem vs_retN : VS X p fr (.Return none pos) .retN := ⟨PS.imp ps_retN fun D σ H ⟨H0, F0, ρ, F, O, o, R, ev, af⟩ => by
  cases ev
  exact af .non H F [] R.grow own_none fun _ z => (nomatch z)⟩
theorem vs_brk : VS X p fr (.Break pos) .brk := ⟨PS.imp ps_break fun D σ H ⟨H0, F0, ρ, F, O, o, R, ev, af⟩ => by
  cases ev
  exact af σ H F O R Step.refl⟩
theorem vs_cont : VS X p fr (.Continue pos) .cont := ⟨PS.imp ps_continue fun D σ H ⟨H0, F0, ρ, F, O, o, R, ev, af⟩ => by
  cases ev
  exact af σ H F O R Step.refl⟩
theorem vs_pass : VS X p fr (.Pass pos) .pass := ⟨PS.imp ps_pass fun D σ H ⟨H0, F0, ρ, F, O, o, R, ev, af⟩ => by
  cases ev
  exact af σ H F O R Step.refl⟩
/-- a raise: the core has no answer there -/
theorem vs_raise {n : String} : VS X p fr st (.raise n c) := ⟨PS.imp ps_never fun D σ H ⟨H0, F0, ρ, F, O, o, R, ev, af⟩ => by
  cases ev⟩
theorem vo_cst {d : Nat} {v : Val} (h : VE X p e (.cst v)) (a : atomB v = true := by rfl) : VO X p e (.cst v) d := ⟨PE.imp (h.run 0) fun σ H Q ⟨ρ, F, O, R, r⟩ => ⟨ρ, F, O, R, r.imp (Same.refl H) fun w ew q u H' F' g rp => by
  cases ew
  exact q u H' F' [] g ((own_atom a).mpr ⟨rfl, rp⟩) fun _ z => (nomatch z)⟩⟩
theorem vo_low {d k : Nat} (h : VO X p e c d) (hk : k ≤ d := by decide) : VO X p e c k := ⟨PE.imp h.run fun σ H Q ⟨ρ, F, O, R, r⟩ => ⟨ρ, F, O, R, r.imp (Same.refl H) fun v _ q u H' F' S g o n => by
  obtain ⟨S1, s1, s2⟩ := own_lower v d k S u o hk
  refine q u H' (fun a => F' a ∨ (a ∈ S ∧ a ∉ S1)) S1 ⟨g.same, fun a f => .inl (g.sub a f), fun a f => f.elim (g.new a) fun z => .inr (n a z.1).1, fun a f => f.elim (g.dom a) fun z => ?_⟩ (s2 _ (fun a f => .inl f) fun a m x => .inr ⟨m, x⟩) fun a m => ⟨(n a (s1 a m)).1, fun f => f.elim (n a (s1 a m)).2 fun z => z.2 m⟩
  obtain ⟨ws, e⟩ := own_dom v d S u o a z.1
  rw [e]
  simp⟩⟩

/-! ### loops -/
theorem vs_for {iter : Expr} {body : List Stmt} {ci : E} {cb : List S} (hc : X.calm = true) (hp : PassesOwn (model X.prog X.w) X.A X.env X.xe) (hi : VI X p.nox 0 tg iter ci) (hg : VG X tg t) (hb : VSs X p fr body cb) (hs : ∀ x, foldedSetIterable iter X.env x = pure x := by intro _; rfl) :
    VS X p fr (.For tg iter body [] pos) (.for t ci cb) := ⟨PS.imp (ps_for hp hc hi.run hg.run hb.run hs) fun D σ H ⟨H0, F0, ρ, F, O, o, R, ev, af⟩ => by
  have e' : ((evalE p.cf 0 ci ρ).bind fun s => (asSeq s).bind fun xs => forL (fun v ρ => (bindP t v ρ).bind fun ρ' => evalSs p.cf cb ρ') xs ρ) = .ok o := ev
  obtain ⟨s, e1, e2⟩ := Res.bind_eq_ok e'
  obtain ⟨xs, e3, e4⟩ := Res.bind_eq_ok e2
  refine ⟨ρ, F, O, R.rel, ?_⟩
  show Run p.nox ((evalE p.cf 0 ci ρ).bind asSeq) σ H _
  rw [e1, Res.bind_ok, e3]
  intro J H1 F1 g1 wk
  refine ⟨fun i m σ H => m = xs.length - i ∧ i ≤ xs.length ∧ ∃ ρ F O, SRel X.K H0 F0 ρ F O σ H ∧ Step H1 F1 H F ∧ forL (fun v ρ => (bindP t v ρ).bind fun ρ' => evalSs p.cf cb ρ') (xs.drop i) ρ = .ok o,
    ⟨xs.length, by simp, Nat.zero_le _, ρ, F1, O, R.grow' g1, Step.refl, e4⟩, ?_⟩
  rintro i m σ2 H2 ⟨rfl, hi, ρ2, F2, O2, R2, s2, e5⟩
  have stay : Stay 0 H1 H2 F1 := ⟨s2.keep, fun z => absurd rfl z⟩
  by_cases hlt : i < xs.length
  · obtain ⟨v, hv, hd⟩ := drop_cons hlt
    rw [hd] at e5
    have e6 : (((bindP t v ρ2).bind fun ρ' => evalSs p.cf cb ρ').bind fun o => match o with
      | .nx ρ' => forL (fun v ρ => (bindP t v ρ).bind fun ρ' => evalSs p.cf cb ρ') (xs.drop (i + 1)) ρ'
      | .ct ρ' => forL (fun v ρ => (bindP t v ρ).bind fun ρ' => evalSs p.cf cb ρ') (xs.drop (i + 1)) ρ'
      | .bk ρ' => .ok (.nx ρ')
      | .rt v => .ok (.rt v)) = .ok o := e5
    obtain ⟨o1, e7, e8⟩ := Res.bind_eq_ok e6
    obtain ⟨ρ3, e9, e10⟩ := Res.bind_eq_ok e7
    obtain ⟨go, yl⟩ := wk.go H2 F2 stay s2.sub R2.rel.dom i v hv
    refine .inr ⟨go, fun σ' H' => ∃ ρ F O, SRel X.K H0 F0 ρ F O σ' H' ∧ Step H1 F1 H' F ∧ forL (fun v ρ => (bindP t v ρ).bind fun ρ' => evalSs p.cf cb ρ') (xs.drop (i + 1)) ρ = .ok o,
      fun σ' H' h => ⟨xs.length - (i + 1), by omega, rfl, hlt, h⟩, fun x H3 y => ?_⟩
    obtain ⟨g3, rx⟩ := yl x H3 y
    refine ⟨ρ2, F2, O2, v, ρ3, R2.rel.grow g3, rx, e9, fun σ4 O4 R4 sub _ => ?_⟩
    have R5 : SRel X.K H0 F0 ρ3 F2 O4 σ4 H3 := ⟨R4, R2.grow.trans g3, fun j b m => by
      rcases sub j with z | z
      · rw [z] at m
        cases m
      · rw [z] at m
        exact R2.new j b m⟩
    have s5 := s2.trans (Step.of g3)
    refine ⟨H0, F0, ρ3, F2, O4, o1, R5, e10, ?_⟩
    cases o1 with
    | nx ρ' => exact fun σ' H' F' O' R' s' => ⟨ρ', F', O', R', s5.trans s', e8⟩
    | ct ρ' => exact fun σ' H' F' O' R' s' => ⟨ρ', F', O', R', s5.trans s', e8⟩
    | bk ρ' =>
      cases e8
      exact fun σ' H' F' O' R' s' => af σ' H' F' O' R' ((Step.of g1).trans (s5.trans s'))
    | rt v =>
      cases e8
      exact af
  · have e : i = xs.length := by omega
    subst e
    rw [List.drop_length] at e5
    cases e5
    exact .inl ⟨wk.stop H2 stay _ (Nat.le_refl _), af σ2 H2 F2 O2 R2 ((Step.of g1).trans s2)⟩⟩
theorem vs_whl {body : List Stmt} {cb : List S} (hp : PassesOwn (model X.prog X.w) X.A X.env X.xe) (hc : VT X p.nox e c) (hb : VSs X p fr body cb) : VS X p fr (.While e body [] pos) (.whl c cb) := ⟨PS.imp (ps_while hp hc.run hb.run) fun D σ H ⟨H0, F0, ρ, F, O, o, R, ev, af⟩ => by
  have e' : whileL (fun ρ => (evalE p.cf 9 c ρ).bind fun x => asBool x) (fun ρ => evalSs p.cf cb ρ) LIM ρ = .ok o := ev
  refine ⟨fun m σ1 H1 => ∃ ρ1 F1 O1, SRel X.K H0 F0 ρ1 F1 O1 σ1 H1 ∧ Step H F H1 F1 ∧ whileL (fun ρ => (evalE p.cf 9 c ρ).bind fun x => asBool x) (fun ρ => evalSs p.cf cb ρ) m ρ1 = .ok o, ⟨LIM, ρ, F, O, R, Step.refl, e'⟩, ?_⟩
  rintro m σ1 H1 ⟨ρ1, F1, O1, R1, s1, e1⟩
  cases m with
  | zero => cases e1
  | succ n =>
    have e2 : (((evalE p.cf 9 c ρ1).bind fun x => asBool x).bind fun t => match t with
      | false => Res.ok (Out.nx ρ1)
      | true => (evalSs p.cf cb ρ1).bind fun o => match o with
        | .nx ρ' => whileL (fun ρ => (evalE p.cf 9 c ρ).bind fun x => asBool x) (fun ρ => evalSs p.cf cb ρ) n ρ'
        | .ct ρ' => whileL (fun ρ => (evalE p.cf 9 c ρ).bind fun x => asBool x) (fun ρ => evalSs p.cf cb ρ) n ρ'
        | .bk ρ' => .ok (.nx ρ')
        | .rt v => .ok (.rt v)) = .ok o := e1
    obtain ⟨t, e3, e4⟩ := Res.bind_eq_ok e2
    refine ⟨ρ1, F1, O1, R1.rel, ?_⟩
    show Run p.nox ((evalE p.cf 9 c ρ1).bind asBool) σ1 H1 _
    rw [show (evalE p.cf 9 c ρ1).bind asBool = .ok t from e3]
    intro H2 F2 g2
    have s2 := s1.trans (Step.of g2)
    cases t with
    | false =>
      cases e4
      exact af σ1 H2 F2 O1 (R1.grow' g2) s2
    | true =>
      obtain ⟨o1, e5, e6⟩ := Res.bind_eq_ok e4
      refine ⟨fun σ' H' => ∃ ρ' F' O', SRel X.K H0 F0 ρ' F' O' σ' H' ∧ Step H F H' F' ∧ whileL (fun ρ => (evalE p.cf 9 c ρ).bind fun x => asBool x) (fun ρ => evalSs p.cf cb ρ) n ρ' = .ok o, fun σ' H' h => ⟨n, Nat.lt_succ_self n, h⟩, H0, F0, ρ1, F2, O1, o1, R1.grow' g2, e5, ?_⟩
      cases o1 with
      | nx ρ' => exact fun σ' H' F' O' R' s' => ⟨ρ', F', O', R', s2.trans s', e6⟩
      | ct ρ' => exact fun σ' H' F' O' R' s' => ⟨ρ', F', O', R', s2.trans s', e6⟩
      | bk ρ' =>
        cases e6
        exact fun σ' H' F' O' R' s' => af σ' H' F' O' R' (s2.trans s')
      | rt v =>
        cases e6
        exact af⟩
end
end VL

/-! VL, part 13: statements that change a list. -/
namespace VL
open PySem PySem.Spec L2 PySem.W
open PyProof.Rows hiding St

section
variable {K : PySem.W.Frag} {ρ : Env} {F F' F0 : Addr → Prop} {O : Nat → List Addr} {σ : St} {H H' H0 : Hp}
/-- the list at a, alone in slot i, has new items -/
theorem SRel.updl (R : SRel K H0 F0 ρ F O σ H) {i k : Nat} {a : Addr} {ws zs : List V} {ys : List Val} {S' S2 : List Addr} (hi : i < ρ.length) (hu : σ[i]? = some (some (.ref a))) (ha : H a = some (.lst ws)) (hO : O i = a :: S') (oa : OwnA K H F k S2 zs ys) (na : a ∉ S2)
    (hS : ∀ b ∈ S2, ¬ F b ∧ (∀ j, j ≠ i → b ∉ O j) ∧ H0 b = none) : SRel K H0 F0 (ρ.set i (some (.list ys, k + 1))) F (fun j => if j = i then a :: S2 else O j) σ (upd H a (.lst zs)) ∧ Step H F (upd H a (.lst zs)) F := by
  have aO : a ∈ O i := by rw [hO]; exact List.mem_cons_self
  have nF : ¬ F a := R.rel.notF i a aO
  refine R.mut hi hu (fun b o e m => ?_) (fun _ f => f) (fun _ f => .inl f) (fun b f => ?_) ?_ fun b m => ?_
  · rw [upd_ne fun z => m (by rw [z]; exact aO)]
    exact e
  · by_cases e : b = a
    · rw [e, upd_same]
      simp
    · rw [upd_ne e]
      exact R.rel.dom b f
  · simp only [Own]
    refine ⟨a, zs, S2, rfl, upd_same, rfl, na, ownA_frame ys k S2 zs oa (fun b o e c => ?_) fun _ f => f⟩
    have : b ≠ a := fun z => by
      subst z
      rcases c with c | c | c
      · exact nF c
      · rw [ha] at e
        cases e
        cases c
      · exact na c
    rw [upd_ne this]
    exact e
  · rcases List.mem_cons.mp m with rfl | m
    · exact ⟨nF, fun j hj => R.rel.disj i j b (fun z => hj z.symm) aO, R.new i b aO⟩
    · exact hS b m
theorem ownA_zero {S : List Addr} : ∀ {xs : List Val} {ws : List V}, RepA K H F 0 ws xs → OwnA K H F 0 [] ws xs
  | [], ws, h => by
    simp only [RepA] at h
    simp only [OwnA]
    exact ⟨trivial, h⟩
  | x :: xs, ws, h => by
    simp only [RepA] at h
    obtain ⟨w, r, rfl, h1, h2⟩ := h
    simp only [OwnA]
    exact ⟨w, r, [], [], rfl, rfl, fun _ z => (nomatch z), own_zero.mpr ⟨rfl, h1⟩, ownA_zero (S := S) h2⟩
theorem ownA_set {d : Nat} : ∀ {xs : List Val} {S S2 : List Addr} {ws : List V} {j : Nat} {u : V} {x : Val}, OwnA K H F d S ws xs → Own K H F d S2 u x → (∀ a ∈ S, a ∉ S2) → j < xs.length → ∃ S3, OwnA K H F d S3 (ws.set j u) (xs.set j x) ∧ ∀ a ∈ S3, a ∈ S ∨ a ∈ S2
  | [], _, _, _, _, _, _, _, _, _, hj => absurd hj (Nat.not_lt_zero _)
  | y :: xs, S, S2, ws, 0, u, x, h, o, n, _ => by
    simp only [OwnA] at h
    obtain ⟨w, r, T1, T2, rfl, rfl, hd, h1, h2⟩ := h
    refine ⟨S2 ++ T2, ?_, fun a m => ?_⟩
    · simp only [List.set_cons_zero, OwnA]
      exact ⟨u, r, S2, T2, rfl, rfl, fun a m z => n a (List.mem_append_right _ z) m, o, h2⟩
    · rcases List.mem_append.mp m with m | m
      · exact .inr m
      · exact .inl (List.mem_append_right _ m)
  | y :: xs, S, S2, ws, j + 1, u, x, h, o, n, hj => by
    simp only [OwnA] at h
    obtain ⟨w, r, T1, T2, rfl, rfl, hd, h1, h2⟩ := h
    obtain ⟨S3, a1, a2⟩ := ownA_set (j := j) h2 o (fun a m => n a (List.mem_append_right _ m)) (by simpa using hj)
    refine ⟨T1 ++ S3, ?_, fun a m => ?_⟩
    · simp only [List.set_cons_succ, OwnA]
      refine ⟨w, _, T1, S3, rfl, rfl, fun a m z => ?_, h1, a1⟩
      rcases a2 a z with z | z
      · exact hd a m z
      · exact n a (List.mem_append_left _ m) z
    · rcases List.mem_append.mp m with m | m
      · exact .inl (List.mem_append_left _ m)
      · rcases a2 a m with m | m
        · exact .inl (List.mem_append_right _ m)
        · exact .inr m
/-- a list among lists: where it lies, and what becomes of all by a change of it -/
theorem ownA_in : ∀ {xs : List Val} {S : List Addr} {ws : List V} {j : Nat} {ys : List Val}, OwnA K H F 1 S ws xs → xs[j]? = some (.list ys) → (∀ a ∈ S, ¬ F a) →
    ∃ b zs, ws[j]? = some (.ref b) ∧ H b = some (.lst zs) ∧ b ∈ S ∧ RepA K H F 0 zs ys ∧ ∀ us vs, RepA K H F 0 us vs → OwnA K (upd H b (.lst us)) F 1 S ws (xs.set j (.list vs))
  | [], _, _, _, _, _, e, _ => by simp at e
  | y :: xs, S, ws, 0, ys, h, e, nF => by
    simp only [OwnA] at h
    obtain ⟨w, r, T1, T2, rfl, rfl, hd, h1, h2⟩ := h
    have ey : y = .list ys := by simpa using e
    subst ey
    simp only [Own] at h1
    obtain ⟨b, zs, S', rfl, hb, rfl, nb, oa⟩ := h1
    have ra := ownA_rep ys 0 S' zs oa
    have keep : ∀ (us : List V) (c : Addr) (o : HO), H c = some o → (F c ∨ isM o = false ∨ c ∈ T2) → upd H b (.lst us) c = some o := fun us c o e q => by
      have : c ≠ b := fun z => by
        subst z
        rcases q with q | q | q
        · exact nF _ (by simp) q
        · rw [hb] at e
          cases e
          cases q
        · exact hd c List.mem_cons_self q
      rw [upd_ne this]
      exact e
    refine ⟨b, zs, rfl, hb, by simp, ra, fun us vs r2 => ?_⟩
    have e0 : S' = [] := by
      have q : ∀ (ys : List Val) (T : List Addr) (zs : List V), OwnA K H F 0 T zs ys → T = [] := by
        intro ys
        induction ys with
        | nil =>
          intro T zs q
          simp only [OwnA] at q
          exact q.1
        | cons y ys ih =>
          intro T zs q
          simp only [OwnA] at q
          obtain ⟨w, r, S1, S2, _, rfl, _, h1, h2⟩ := q
          rw [(own_zero.mp h1).1, ih _ _ h2]
          rfl
      exact q ys S' zs oa
    subst e0
    simp only [List.set_cons_zero, OwnA]
    refine ⟨.ref b, r, [b], T2, rfl, rfl, hd, ?_, ownA_frame xs 1 T2 r h2 (keep us) fun _ f => f⟩
    simp only [Own]
    refine ⟨b, us, [], rfl, upd_same, rfl, nb, ?_⟩
    exact ownA_zero (S := []) (repA_keep (fun c o e q => keep us c o e (q.imp id .inl)) (fun _ f => f) vs us r2)
  | y :: xs, S, ws, j + 1, ys, h, e, nF => by
    simp only [OwnA] at h
    obtain ⟨w, r, T1, T2, rfl, rfl, hd, h1, h2⟩ := h
    obtain ⟨b, zs, e1, hb, m, ra, k⟩ := ownA_in (j := j) h2 (by simpa using e) fun a m => nF a (List.mem_append_right _ m)
    refine ⟨b, zs, by simpa using e1, hb, List.mem_append_right _ m, ra, fun us vs r2 => ?_⟩
    simp only [List.set_cons_succ, OwnA]
    refine ⟨w, r, T1, T2, rfl, rfl, hd, own_frame y 1 T1 w h1 (fun c o e q => ?_) fun _ f => f, k us vs r2⟩
    have : c ≠ b := fun z => by
      subst z
      rcases q with q | q | q
      · exact nF _ (List.mem_append_right _ m) q
      · rw [hb] at e
        cases e
        cases q
      · exact hd c q m
    rw [upd_ne this]
    exact e
end

section
variable {X : Cx} {p : Par} {fr : Nat} {pos q0 q1 q2 : Pos} {e ex : Expr} {c cx : E} {x : Str}
theorem ixOf_ok {n : Nat} {v : Val} {j : Nat} (h : ixOf n v = .ok j) : ∃ k, v = .int k ∧ ixN n k = some j := by
  unfold ixOf at h
  cases v with
  | int k =>
    cases e : ixN n k with
    | none =>
      simp only [e] at h
      cases h
    | some l =>
      simp only [e] at h
      cases h
      exact ⟨k, rfl, e⟩
  | _ => cases h
theorem asList_ok {v : Val} {ys : List Val} (h : asList v = .ok ys) : v = .list ys := by
  unfold asList at h
  cases v with
  | list zs =>
    cases h
    rfl
  | _ => cases h
theorem ofOpt_ok {o : Option Val} {v : Val} (h : ofOpt o = .ok v) : o = some v := by
  cases o with
  | none => cases h
  | some w =>
    cases h
    rfl
/-- something new is put at the list's end -/
theorem SRel.app {K : PySem.W.Frag} {ρ : Env} {F F1 F0 : Addr → Prop} {O : Nat → List Addr} {σ : St} {H H1 H0 : Hp} {i d t : Nat} {xs : List Val} {a : Addr} {y : V} {v : Val} {S : List Addr} (R : SRel K H0 F0 ρ F O σ H) (h : getOwn ρ i (d + 1) = .ok (xs, t)) (hu : σ[i]? = some (some (.ref a)))
    (g : Grow H F H1 F1) (ow : Own K H1 F1 d S y v) (n : ∀ b ∈ S, H b = none ∧ ¬ F1 b) : ∃ ws F' O', H1 a = some (.lst ws) ∧ ws.length = xs.length ∧
      SRel K H0 F0 (ρ.set i (some (.list (xs ++ [v]), d + 1))) F' O' σ (upd H1 a (.lst (ws ++ [y]))) ∧ Step H F (upd H1 a (.lst (ws ++ [y]))) F' := by
  obtain ⟨F2, O2, a2, ws, S', R2, s2, hi, hu2, ha, hO, nS, oa, f2, o2, o3⟩ := (R.grow' g).own h
  rw [hu] at hu2
  cases hu2
  have out : ∀ b ∈ S, ∀ j, b ∉ O j := fun b m j z => by
    obtain ⟨zs, q⟩ := R.rel.there z
    rw [(n b m).1] at q
    cases q
  have outF : ∀ b ∈ S, ¬ F2 b := fun b m f => (f2 b f).elim (n b m).2 (out b m i)
  have outS : ∀ b, b ∈ a :: S' → b ∉ S := fun b m z => out b z i (o3 b (by rw [hO]; exact m))
  have mine : ∀ b ∈ S', ¬ F2 b ∧ (∀ j, j ≠ i → b ∉ O2 j) ∧ H0 b = none := fun b m => by
    have mb : b ∈ O2 i := by rw [hO]; exact List.mem_cons_of_mem _ m
    exact ⟨R2.rel.notF i b mb, fun j hj => R2.rel.disj i j b (fun z => hj z.symm) mb, R2.new i b mb⟩
  obtain ⟨R3, s3⟩ := R2.updl (zs := ws ++ [y]) (ys := xs ++ [v]) (S2 := S' ++ S) (by rw [List.length_set]; exact hi) hu ha hO (ownA_snoc oa (own_frame v d S y ow (fun b o q _ => q) s2.sub) fun b m => outS b (List.mem_cons_of_mem _ m))
    (fun z => (List.mem_append.mp z).elim nS fun z => outS a List.mem_cons_self z) fun b m => (List.mem_append.mp m).elim (mine b) fun m => ⟨outF b m, fun j hj => by
      rw [o2 j hj]
      exact out b m j, R.grow.same.free (n b m).1⟩
  rw [List.set_set] at R3
  exact ⟨ws, F2, _, ha, ownA_length oa, R3, (Step.of g).trans (s2.trans s3)⟩
/-- xs.append(e) -/
theorem vs_app {d : Nat} (i : Nat) (he : VO X p.nox e c d) (hN : X.N[i]? = some x := by rfl) (hv : Vis X.env.scope x := by first | exact Or.inl rfl | exact Or.inr (Or.inl rfl) | exact Or.inr (Or.inr rfl)) (hd : (x == ("__debug__" : Str)) = false := by decide) (hcd : (x == ("__classdict__" : Str)) = false := by decide)
    (hs : swapsWith (.Call (.Attribute (.Name x q0) "append" q1) [e] [] q2) none pos.line X.env = pure false := by rfl) (hb : attributeBase (.Name x q0) "append" X.env (eval (.Name x q0) X.env) = eval (.Name x q0) X.env := by rfl)
    (hf : ((backTo q2 (starEach [e] X.env)).all (fun x => !x.1) && (backToKw q2 (keywordEach [] X.env)).all (fun x => x.1.isSome) && decide ([e].length + ([] : List Keyword).length + (if ([] : List Keyword).isEmpty then 0 else 1) < 30)) = true := by rfl)
    (hl : (q1.endLine == q2.line) = true := by rfl) (h1 : starEach [e] X.env = (false, eval e X.env) :: starEach [] X.env := by rfl) (h2 : (backTo q2 (starEach [] X.env)).any (·.1) = false := by rfl) :
    VS X p fr (.Expr (.Call (.Attribute (.Name x q0) "append" q1) [e] [] q2) pos) (.app i c d) := by
  refine ⟨PS.imp (ps_expr (pe_bm PySem.F.plainAttrs_list PySem.F.slot_list_append PySem.F.type_list_append mt_append (pe_var hN hv hd hcd) (pa_cons he.run pa_nil h1) hb hf hl h1 h2) hs) fun D σ H ⟨H0, F0, ρ, F, O, o, R, ev, af⟩ => ?_⟩
  have e' : ((evalE p.cf 0 c ρ).bind fun v => (getOwn ρ i (d + 1)).bind fun y => Res.guard (sizeOk (y.1.length + 1)) (Res.ok (Out.nx (ρ.set i (some (.list (y.1 ++ [v]), d + 1)))))) = .ok o := ev
  obtain ⟨v, e1, e2⟩ := Res.bind_eq_ok e'
  obtain ⟨⟨xs, t⟩, e3, e4⟩ := Res.bind_eq_ok e2
  obtain ⟨hz, e5⟩ := Res.guard_ok e4
  cases e5
  obtain ⟨_, _, a, ws0, _, _, _, _, hu, ha0, _⟩ := R.own e3
  refine ⟨.ref a, hu, .inl ⟨rfl, ws0, SqL.of ha0⟩, tO_ok R.rel e1 fun y H1 F1 S g ow n => ?_⟩
  obtain ⟨ws, F', O', ha, hlen, R', s'⟩ := R.app e3 hu g ow n
  have hz' := sizeOk_of hz
  exact ⟨a, ws, y, rfl, rfl, ha, by show ws.length < sizeLine; simp only at hz'; omega, af _ _ _ _ R' s'⟩
/-- xs.extend(e), e a new list -/
theorem vs_ext (i : Nat) (he : VO X p.nox e c 1) (hN : X.N[i]? = some x := by rfl) (hv : Vis X.env.scope x := by first | exact Or.inl rfl | exact Or.inr (Or.inl rfl) | exact Or.inr (Or.inr rfl)) (hd : (x == ("__debug__" : Str)) = false := by decide) (hcd : (x == ("__classdict__" : Str)) = false := by decide)
    (hs : swapsWith (.Call (.Attribute (.Name x q0) "extend" q1) [e] [] q2) none pos.line X.env = pure false := by rfl) (hb : attributeBase (.Name x q0) "extend" X.env (eval (.Name x q0) X.env) = eval (.Name x q0) X.env := by rfl)
    (hf : ((backTo q2 (starEach [e] X.env)).all (fun x => !x.1) && (backToKw q2 (keywordEach [] X.env)).all (fun x => x.1.isSome) && decide ([e].length + ([] : List Keyword).length + (if ([] : List Keyword).isEmpty then 0 else 1) < 30)) = true := by rfl)
    (hl : (q1.endLine == q2.line) = true := by rfl) (h1 : starEach [e] X.env = (false, eval e X.env) :: starEach [] X.env := by rfl) (h2 : (backTo q2 (starEach [] X.env)).any (·.1) = false := by rfl) :
    VS X p fr (.Expr (.Call (.Attribute (.Name x q0) "extend" q1) [e] [] q2) pos) (.ext i c) := by
  refine ⟨PS.imp (ps_expr (pe_bm PySem.F.plainAttrs_list PySem.F.slot_list_extend PySem.F.type_list_extend mt_extend (pe_var hN hv hd hcd) (pa_cons he.run pa_nil h1) hb hf hl h1 h2) hs) fun D σ H ⟨H0, F0, ρ, F, O, o, R, ev, af⟩ => ?_⟩
  have e' : ((evalE p.cf 0 c ρ).bind fun v => (asList v).bind fun ys => (getOwn ρ i 1).bind fun y => Res.guard (sizeOk (y.1.length + ys.length)) (Res.ok (Out.nx (ρ.set i (some (.list (y.1 ++ ys), 1)))))) = .ok o := ev
  obtain ⟨v, e1, e2⟩ := Res.bind_eq_ok e'
  obtain ⟨ys, e3, e4⟩ := Res.bind_eq_ok e2
  obtain ⟨⟨xs, t⟩, e5, e6⟩ := Res.bind_eq_ok e4
  obtain ⟨hz, e7⟩ := Res.guard_ok e6
  cases e7
  have ev := asList_ok e3
  subst ev
  obtain ⟨_, _, a, ws0, _, _, _, _, hu, ha0, _⟩ := R.own e5
  refine ⟨.ref a, hu, .inl ⟨rfl, ws0, SqL.of ha0⟩, tO_ok R.rel e1 fun y H1 F1 S g ow n => ?_⟩
  obtain ⟨F2, O2, a2, ws, S', R2, s2, hi, hu2, ha, hO, nS, oa, f2, o2, o3⟩ := (R.grow' g).own e5
  rw [hu] at hu2
  cases hu2
  simp only [Own] at ow
  obtain ⟨b, zs, T, rfl, hb, _, _, ob⟩ := ow
  have ra := ownA_rep xs 0 S' ws oa
  have rb : RepA X.K H1 F2 0 zs ys := repA_keep (fun _ _ q _ => q) s2.sub ys zs (ownA_rep ys 0 T zs ob)
  obtain ⟨R3, s3⟩ := R2.updl (zs := ws ++ zs) (ys := xs ++ ys) (S2 := []) (by rw [List.length_set]; exact hi) hu ha hO (ownA_zero (S := []) (repA_app ra rb)) (fun z => (nomatch z)) fun _ z => (nomatch z)
  rw [List.set_set] at R3
  have hz' := sizeOk_of hz
  have l1 := repA_length ra
  have l2 := repA_length rb
  exact ⟨a, b, ws, zs, rfl, rfl, ha, hb, by simp only at hz'; omega, af _ _ _ _ R3 ((Step.of g).trans (s2.trans s3))⟩
/-- xs.extend(ys), ys another name -/
theorem vs_extv {y : Str} {q3 : Pos} (i j : Nat) (hN : X.N[i]? = some x := by rfl) (hN2 : X.N[j]? = some y := by rfl) (hv : Vis X.env.scope x := by first | exact Or.inl rfl | exact Or.inr (Or.inl rfl) | exact Or.inr (Or.inr rfl)) (hv2 : Vis X.env.scope y := by first | exact Or.inl rfl | exact Or.inr (Or.inl rfl) | exact Or.inr (Or.inr rfl))
    (hd : (x == ("__debug__" : Str)) = false := by decide) (hcd : (x == ("__classdict__" : Str)) = false := by decide) (hd2 : (y == ("__debug__" : Str)) = false := by decide) (hcd2 : (y == ("__classdict__" : Str)) = false := by decide)
    (hs : swapsWith (.Call (.Attribute (.Name x q0) "extend" q1) [.Name y q3] [] q2) none pos.line X.env = pure false := by rfl) (hb : attributeBase (.Name x q0) "extend" X.env (eval (.Name x q0) X.env) = eval (.Name x q0) X.env := by rfl)
    (hf : ((backTo q2 (starEach [.Name y q3] X.env)).all (fun x => !x.1) && (backToKw q2 (keywordEach [] X.env)).all (fun x => x.1.isSome) && decide ([Expr.Name y q3].length + ([] : List Keyword).length + (if ([] : List Keyword).isEmpty then 0 else 1) < 30)) = true := by rfl)
    (hl : (q1.endLine == q2.line) = true := by rfl) (h1 : starEach [.Name y q3] X.env = (false, eval (.Name y q3) X.env) :: starEach [] X.env := by rfl) (h2 : (backTo q2 (starEach [] X.env)).any (·.1) = false := by rfl) :
    VS X p fr (.Expr (.Call (.Attribute (.Name x q0) "extend" q1) [.Name y q3] [] q2) pos) (.extv i j) := by
  refine ⟨PS.imp (ps_expr (pe_bm PySem.F.plainAttrs_list PySem.F.slot_list_extend PySem.F.type_list_extend mt_extend (pe_var hN hv hd hcd) (pa_cons (pe_var hN2 hv2 hd2 hcd2) pa_nil h1) hb hf hl h1 h2) hs) fun D σ H ⟨H0, F0, ρ, F, O, o, R, ev, af⟩ => ?_⟩
  have e' : ((getOwn ρ j 1).bind fun z => (getOwn ρ i 1).bind fun y => Res.guard (!(i == j) && sizeOk (y.1.length + z.1.length)) (Res.ok (Out.nx ((ρ.set j (some (.list z.1, 1))).set i (some (.list (y.1 ++ z.1), 1)))))) = .ok o := ev
  obtain ⟨⟨ys, t⟩, e1, e2⟩ := Res.bind_eq_ok e'
  obtain ⟨⟨xs, t2⟩, e3, e4⟩ := Res.bind_eq_ok e2
  obtain ⟨hg, e5⟩ := Res.guard_ok e4
  cases e5
  rw [Bool.and_eq_true, Bool.not_eq_true', beq_eq_false_iff_ne] at hg
  obtain ⟨hij, hz⟩ := hg
  obtain ⟨F1, O1, b, zs, S1, R1, s1, hj, hub, hb2, hO1, nS1, ob, _⟩ := R.own e1
  have e3' : getOwn (ρ.set j (some (.list ys, 1))) i 1 = .ok (xs, t2) := by
    unfold getOwn at e3 ⊢
    rw [List.getElem?_set_ne fun z => hij z.symm]
    exact e3
  obtain ⟨F2, O2, a, ws, S2, R2, s2, hi, hua, ha, hO2, nS2, oa, _⟩ := R1.own e3'
  have ra := ownA_rep xs 0 S2 ws oa
  have rb : RepA X.K H F2 0 zs ys := repA_keep (fun _ _ q _ => q) s2.sub ys zs (ownA_rep ys 0 S1 zs ob)
  obtain ⟨R3, s3⟩ := R2.updl (zs := ws ++ zs) (ys := xs ++ ys) (S2 := []) (by rw [List.length_set]; exact hi) hua ha hO2 (ownA_zero (S := []) (repA_app ra rb)) (fun z => (nomatch z)) fun _ z => (nomatch z)
  rw [List.set_set] at R3
  have hz' := sizeOk_of hz
  have l1 := repA_length ra
  have l2 := repA_length rb
  exact ⟨.ref a, hua, .inl ⟨rfl, ws, SqL.of ha⟩, .ref b, hub, a, b, ws, zs, rfl, rfl, ha, hb2, by simp only at hz'; omega, af _ _ _ _ R3 (s1.trans (s2.trans s3))⟩
/-- xs[k] = e -/
theorem vs_sto {d : Nat} (i : Nat) (he : VO X p.nox e c d) (hx : VE X p.nox ex cx) (hN : X.N[i]? = some x := by rfl) (hv : Vis X.env.scope x := by first | exact Or.inl rfl | exact Or.inr (Or.inl rfl) | exact Or.inr (Or.inr rfl)) (hd : (x == ("__debug__" : Str)) = false := by decide) (hcd : (x == ("__classdict__" : Str)) = false := by decide)
    (hs : swapsWithSole [.Subscript (.Name x q0) ex q1] e pos.line X.env = pure false := by rfl) (hw : swappedStores [.Subscript (.Name x q0) ex q1] e X.env = pure none := by rfl) (h1 : (assignEach [.Subscript (.Name x q0) ex q1] X.env).map (·.2) = [assign (.Subscript (.Name x q0) ex q1) X.env] := by rfl)
    (ha : ∀ v, assign (.Subscript (.Name x q0) ex q1) X.env v = (do
      let ov ← holding [v] (eval (.Name x q0) X.env)
      let iv ← holding [v, ov] (eval ex X.env)
      standAt q1
      holding [v, ov, iv] (setItem ov iv v)
      release [v, ov, iv] []) := by intro _; rfl) : VS X p fr (.Assign [.Subscript (.Name x q0) ex q1] e pos) (.sto i cx c d) := by
  refine ⟨PS.imp (ps_asg he.run (pg_sub (pe_var hN hv hd hcd) (hx.run 9) set_list ha) hs hw h1) fun D σ H ⟨H0, F0, ρ, F, O, o, R, ev, af⟩ => ?_⟩
  have e' : ((evalE p.cf 0 c ρ).bind fun v => (getOwn ρ i (d + 1)).bind fun y => (evalE p.cf 9 cx ρ).bind fun j => (ixOf y.1.length j).bind fun j => Res.ok (Out.nx (ρ.set i (some (.list (y.1.set j v), d + 1))))) = .ok o := ev
  obtain ⟨v, e1, e2⟩ := Res.bind_eq_ok e'
  obtain ⟨⟨xs, t⟩, e3, e4⟩ := Res.bind_eq_ok e2
  obtain ⟨jv, e5, e6⟩ := Res.bind_eq_ok e4
  obtain ⟨j, e7, e8⟩ := Res.bind_eq_ok e6
  cases e8
  obtain ⟨k, rfl, hk⟩ := ixOf_ok e7
  obtain ⟨_, _, a, ws0, _, _, _, _, hu, ha0, _⟩ := R.own e3
  refine tO_ok R.rel e1 fun y H1 F1 S g ow n => ⟨.ref a, hu, tE_ok (R.rel.grow g) e5 fun w H2 F2 g2 rw2 => ?_⟩
  have g12 := g.trans g2
  obtain ⟨F3, O3, a2, ws, S', R3, s3, hi, hu2, ha, hO, nS, oa, f3, o3, o4⟩ := (R.grow' g12).own e3
  rw [hu] at hu2
  cases hu2
  have nF2 : ∀ b ∈ S, ¬ F2 b := fun b m f => by
    rcases g2.new b f with f | f
    · exact (n b m).2 f
    · obtain ⟨zs, q⟩ := own_dom v d S y ow b m
      rw [q] at f
      cases f
  have out : ∀ b ∈ S, ∀ j, b ∉ O j := fun b m j z => by
    obtain ⟨zs, q⟩ := R.rel.there z
    rw [(n b m).1] at q
    cases q
  have outF : ∀ b ∈ S, ¬ F3 b := fun b m f => (f3 b f).elim (nF2 b m) (out b m i)
  have outS : ∀ b, b ∈ a :: S' → b ∉ S := fun b m z => out b z i (o4 b (by rw [hO]; exact m))
  have mine : ∀ b ∈ S', ¬ F3 b ∧ (∀ j, j ≠ i → b ∉ O3 j) ∧ H0 b = none := fun b m => by
    have mb : b ∈ O3 i := by rw [hO]; exact List.mem_cons_of_mem _ m
    exact ⟨R3.rel.notF i b mb, fun j hj => R3.rel.disj i j b (fun z => hj z.symm) mb, R3.new i b mb⟩
  have hlen := ownA_length oa
  obtain ⟨hj1, hj2, hj3, hj4⟩ := ixN_seq hk
  obtain ⟨S3, os, ss⟩ := ownA_set (j := j) oa (own_frame v d S y ow (fun b o q _ => g2.same b o q) fun b f => s3.sub b (g2.sub b f)) (fun b m => outS b (List.mem_cons_of_mem _ m)) hj2
  obtain ⟨R4, s4⟩ := R3.updl (zs := ws.set j y) (ys := xs.set j v) (S2 := S3) (by rw [List.length_set]; exact hi) hu ha hO os (fun z => (ss a z).elim nS fun z => outS a List.mem_cons_self z) fun b m => (ss b m).elim (mine b) fun m => ⟨outF b m, fun j hj => by
      rw [o3 j hj]
      exact out b m j, R.grow.same.free (n b m).1⟩
  rw [List.set_set] at R4
  refine ⟨a, ws, k, j, rfl, rep_int.mp rw2, ha, by rw [hlen]; exact hk, af _ _ _ _ R4 ((Step.of g12).trans (s3.trans s4))⟩
/-- xs[k].append(e) -/
theorem vs_app2 (i : Nat) (he : VE X p.nox e c) (hx : VE X p.nox ex cx) {q3 : Pos} (hN : X.N[i]? = some x := by rfl) (hv : Vis X.env.scope x := by first | exact Or.inl rfl | exact Or.inr (Or.inl rfl) | exact Or.inr (Or.inr rfl)) (hd : (x == ("__debug__" : Str)) = false := by decide) (hcd : (x == ("__classdict__" : Str)) = false := by decide)
    (hpl : PlainIx ex := by exact fun _ _ => rfl) (hs : swapsWith (.Call (.Attribute (.Subscript (.Name x q0) ex q3) "append" q1) [e] [] q2) none pos.line X.env = pure false := by rfl)
    (hb : attributeBase (.Subscript (.Name x q0) ex q3) "append" X.env (eval (.Subscript (.Name x q0) ex q3) X.env) = eval (.Subscript (.Name x q0) ex q3) X.env := by rfl)
    (hf : ((backTo q2 (starEach [e] X.env)).all (fun x => !x.1) && (backToKw q2 (keywordEach [] X.env)).all (fun x => x.1.isSome) && decide ([e].length + ([] : List Keyword).length + (if ([] : List Keyword).isEmpty then 0 else 1) < 30)) = true := by rfl)
    (hl : (q1.endLine == q2.line) = true := by rfl) (h1 : starEach [e] X.env = (false, eval e X.env) :: starEach [] X.env := by rfl) (h2 : (backTo q2 (starEach [] X.env)).any (·.1) = false := by rfl) :
    VS X p fr (.Expr (.Call (.Attribute (.Subscript (.Name x q0) ex q3) "append" q1) [e] [] q2) pos) (.app2 i cx c) := by
  refine ⟨PS.imp (ps_expr (pe_bm PySem.F.plainAttrs_list PySem.F.slot_list_append PySem.F.type_list_append mt_append (pe_ix ix_list (pe_var hN hv hd hcd) (hx.run 9) hpl) (pa_cons (he.run 0) pa_nil h1) hb hf hl h1 h2) hs) fun D σ H ⟨H0, F0, ρ, F, O, o, R, ev, af⟩ => ?_⟩
  have e' : ((getOwn ρ i 2).bind fun y => (evalE p.cf 9 cx ρ).bind fun j => (ixOf y.1.length j).bind fun j => (evalE p.cf 0 c ρ).bind fun v => (ofOpt y.1[j]?).bind fun l => (asList l).bind fun ys =>
    Res.guard (sizeOk (ys.length + 1)) (Res.ok (Out.nx (ρ.set i (some (.list (y.1.set j (.list (ys ++ [v]))), 2)))))) = .ok o := ev
  obtain ⟨⟨xs, t⟩, e1, e2⟩ := Res.bind_eq_ok e'
  obtain ⟨jv, e3, e4⟩ := Res.bind_eq_ok e2
  obtain ⟨j, e5, e6⟩ := Res.bind_eq_ok e4
  obtain ⟨v, e7, e8⟩ := Res.bind_eq_ok e6
  obtain ⟨l, e9, e10⟩ := Res.bind_eq_ok e8
  obtain ⟨ys, e11, e12⟩ := Res.bind_eq_ok e10
  obtain ⟨hz, e13⟩ := Res.guard_ok e12
  cases e13
  have el := asList_ok e11
  subst el
  have ex := ofOpt_ok e9
  obtain ⟨k, rfl, hk⟩ := ixOf_ok e5
  obtain ⟨F9, O9, a, ws0, S0, R9, _, _, hu, ha0, hO9, _, oa0, _⟩ := R.own e1
  have nF9 : ∀ b ∈ S0, ¬ F9 b := fun b m => R9.rel.notF i b (by rw [hO9]; exact List.mem_cons_of_mem _ m)
  obtain ⟨b, zs0, hw0, hb0, _, _, _⟩ := ownA_in oa0 ex nF9
  refine ⟨.ref a, hu, tE_ok R.rel e3 fun w H1 F1 g1 rw1 => ?_⟩
  refine ⟨a, ws0, k, .ref b, rfl, rep_int.mp rw1, SqL.of (g1.same a _ ha0), ?_, .inl ⟨rfl, zs0, SqL.of (g1.same b _ hb0)⟩, tE_ok (R.rel.grow g1) e7 fun y H2 F2 g2 ry => ?_⟩
  · unfold atI
    rw [ownA_length oa0, hk]
    exact hw0
  have g12 := g1.trans g2
  obtain ⟨F3, O3, a2, ws, S', R3, s3, hi, hu2, ha, hO, nS, oa, f3, o3, o4⟩ := (R.grow' g12).own e1
  rw [hu] at hu2
  cases hu2
  have nF3 : ∀ b ∈ S', ¬ F3 b := fun b m => R3.rel.notF i b (by rw [hO]; exact List.mem_cons_of_mem _ m)
  obtain ⟨b2, zs, hw, hb, mb, ra, chg⟩ := ownA_in oa ex nF3
  have ews : ws = ws0 := by
    have q := g12.same a _ ha0
    rw [ha] at q
    cases q
    rfl
  subst ews
  rw [hw0] at hw
  cases hw
  have bne : b ≠ a := fun z => nS (z ▸ mb)
  have ch := chg (zs ++ [y]) (ys ++ [v]) (repA_app ra (repA_cons (rep_keep (fun _ _ q _ => q) s3.sub v y ry) repA_nil))
  have bO : b ∈ O3 i := by rw [hO]; exact List.mem_cons_of_mem _ mb
  obtain ⟨R4, s4⟩ := R3.mut (H' := upd H2 b (.lst (zs ++ [y]))) (F' := F3) (S := a :: S') (k := 2) (u := .ref a) (v := .list (xs.set j (.list (ys ++ [v])))) (by rw [List.length_set]; exact hi) hu (fun c o q m => by
      rw [upd_ne fun z => m (by rw [z]; exact bO)]
      exact q) (fun _ f => f) (fun _ f => .inl f) (fun c f => by
      by_cases q : c = b
      · rw [q, upd_same]
        simp
      · rw [upd_ne q]
        exact R3.rel.dom c f) (by
      simp only [Own]
      exact ⟨a, ws, S', rfl, by rw [upd_ne (fun z => bne z.symm)]; exact ha, rfl, nS, ch⟩) fun c m => by
      have mc : c ∈ O3 i := by rw [hO]; exact m
      exact ⟨R3.rel.notF i c mc, fun j hj => R3.rel.disj i j c (fun z => hj z.symm) mc, R3.new i c mc⟩
  rw [List.set_set] at R4
  have hz' := sizeOk_of hz
  have l1 := repA_length ra
  exact ⟨b, zs, y, rfl, rfl, hb, by omega, af _ _ _ _ R4 ((Step.of g12).trans (s3.trans s4))⟩
end
end VL

/-! VL, part 14: defs and calls. -/
namespace VL
open PySem PySem.Spec L2 PySem.W
open PyProof.Rows hiding St

/-- a def's promise: its values and its heap in, an answer and a heap out -/
abbrev SpV := List V → Hp → VK → Prop
/-- the def at f keeps sp, wherever it is called with room and known guards; nothing leaves it but its answer -/
structure FnG (P : Program) (w : World) (K : PySem.W.Frag) (mg : Str → Option Value) (base : Heap) (k : Nat) (f : Addr) (fd : FuncData) (ps : List Str) (sp : SpV) : Prop where
  len : ∀ vs H Q, sp vs H Q → vs.length = ps.length
  run : ∀ (A : Around) (outer : List PySem.Env) (s : Shared) (H : Hp) (args : Args) (us : List Value) (vs : List V) (Q : VK), Room k A → A.guards = some [] → Env0 P w K mg base A outer s H → BindsTo s fd args (ps.zip us) → Vals vs us → sp vs H Q →
    codeAny (model P w) A (.call (.ref f) args) (CR CX0 outer P w H s Q fun _ _ _ => False) s
/-- the context of a body -/
abbrev bodyCx (P : Program) (w : World) (K : PySem.W.Frag) (mg : Str → Option Value) (base : Heap) (N : List Str) (qual : Str) (scope : Scope) (f : Addr) (cd : Value) (A : Around) (outer : List PySem.Env) (s : Shared) (H : Hp) : Cx :=
  cxOf CX0 P w K mg base N qual scope f cd A outer s H fun _ _ _ => False
section
variable {P : Program} {w : World} {K : PySem.W.Frag} {mg : Str → Option Value} {base : Heap} {k : Nat} {f : Addr} {fd : FuncData} {x qual : Str} {params : Arguments} {body : List Stmt} {scope : Scope} {N ps : List Str} {sp : SpV}
theorem fn_g (F : FunD K x qual params body scope [] [] f fd) (S : FnScope N ps scope) (len : ∀ vs H Q, sp vs H Q → vs.length = ps.length)
    (hb : ∀ (cdv : Value) (A : Around) (outer : List PySem.Env) (s : Shared) (H : Hp) (vs : List V) (Q : VK), Room k (A.deeper (envOfC qual scope s.heap.objs.size f cdv)) → A.guards = some [] → sp vs H Q →
      ∃ t, PSs (bodyCx P w K mg base N qual scope f cdv A outer s H) body t ∧ t { nx := fun _ H' => Q .non H', rt := Q } (L2.start N vs) H) : FnG P w K mg base (k + 1) f fd ps sp := by
  obtain ⟨oc, od, dV, kV, doc, pm, an, cdv, ct, osl, rfl, at_, code, _, _⟩ := F.ex
  refine ⟨len, fun A outer s H args us vs Q room gd e0 bd rv pr => ?_⟩
  have old : ∀ b o, base.get? b = some o → s.heap.get? b = some o := fun b o e => (e0.bs b o e).1
  have inK : K.In s.heap := e0.mod.kin.keeps old
  have kinds : ∀ y ∈ ps.zip us, scope.names.lookup y.1 = some .local ∨ (scope.names.lookup y.1 = some .cell ∧ ((cellsFrom (s.heap.objs.size + 1) scope.names []).lookup y.1).isSome = true) := fun ⟨n, v⟩ hy =>
    (S.par n (List.of_mem_zip hy).1).imp id fun q => ⟨q, PySem.W.cellsFrom_some _ _ _ (.inl q)⟩
  refine codeAny_call_function room.depth (inK _ _ at_) rfl S.co S.gen rfl (PySem.W.codeRec_of inK code) (bd _ _ _ _ (wpAny_newFunctionEnv_cells S.kind kinds fun env he sn xn => ?_))
  subst he
  refine ⟨(e0.mod.nolimit.keeps old).keeps xn.toInCall.keep, codeAny_func ?_⟩
  obtain ⟨t, pt, qt⟩ := hb cdv A outer s H vs Q (room.deeper _) gd pr
  refine wpAny_mono (pt.run [] sn (L2.start N vs) H _ (inv_start S room.hd e0 (len _ _ _ pr) rv xn) qt) (fun fl s' hs => ?_) fun e s' hs => hs
  cases fl with
  | next => exact let ⟨_, H', J, q⟩ := hs; ⟨.non, H', J.os, J.bare, J.base, J.hok, rfl, q⟩
  | ret u => exact let ⟨v, _, H', J, r, q⟩ := hs; ⟨v, H', J.os, J.bare, J.base, J.hok, r, q⟩
  | brk => exact hs.elim fun _ h => h.elim fun _ h => h.2.elim
  | cont => exact hs.elim fun _ h => h.elim fun _ h => h.2.elim
/-- a def that a body may call by its global name -/
def Cal (P : Program) (w : World) (K : PySem.W.Frag) (mg : Str → Option Value) (base : Heap) (k : Nat) (x : Str) (ps : List Str) (sp : SpV) : Prop :=
  ∃ f fd, mg x = some (.ref f) ∧ PySem.W.keepIn K (.ref f) = true ∧ Binds K fd ps [] ∧ FnG P w K mg base k f fd ps sp
end

section
variable {X : Cx} {k : Nat} {x : Str} {ps : List Str} {sp : SpV} {q0 pos : Pos} {e : Expr} {es : List Expr} {t : TA}
def tCallG (sp : SpV) (t : TA) : TE := fun σ H Q => t σ H fun vs H1 => sp vs H1 Q
theorem pe_callG (C : Cal X.prog X.w X.K X.mg X.base k x ps sp) (hr : Room k X.A) (gd : X.A.guards = some []) (ha : PA X (e :: es) t) (hg : Gl X x := by rfl) (hdb : (x == ("__debug__" : Str)) = false := by decide)
    (he : starEach (e :: es) X.env = (false, eval e X.env) :: starEach es X.env := by rfl) (hpl : (backTo pos (starEach es X.env)).any (·.1) = false := by rfl) : PE X (.Call (.Name x q0) (e :: es) [] pos) (tCallG sp t) := by
  obtain ⟨f, fd, hm, hk, hb, F⟩ := C
  refine ⟨fun pins s σ H Q I h => wpAny_Call_Name_kw (ld_glob I hg hm ?_ hdb)⟩
  refine PySem.W.callWith_K (h₀ := X.base) I.ok.mod.kin hk (thn (ha.run pos pins s σ H _ I h) fun us s1 h1 => ?_) he hpl
  obtain ⟨vs, H1, I1, r, q⟩ := h1
  refine ⟨I1.kIn, ?_⟩
  have hl : us.length = ps.length := r.length.symm.trans (F.len _ _ _ q)
  have bd := hb s1 us I1.kIn (by rw [List.append_nil]; exact hl)
  rw [List.append_nil] at bd
  refine wpAny_call (codeAny_mono (F.run X.A X.stack s1 H1 ⟨us, []⟩ us vs Q hr gd I1.env0 bd r q) fun r s' hq => ?_)
  cases r with
  | error e => exact False.elim hq
  | ok fl =>
    cases fl with
    | ret u => exact I1.after hq
    | next => exact False.elim hq
    | brk => exact False.elim hq
    | cont => exact False.elim hq
end

/-! ### the promise of a def that has a core -/
def spF (Pr : Prog) (n : Nat) (f : Nat) (fr : Nat) (K : PySem.W.Frag) : SpV := fun vs H Q => ∃ (F : Addr → Prop) (xs : List Val) (v : Val), (∀ a, F a → H a ≠ none) ∧ RepA K H F 0 vs xs ∧ evalD Pr n f xs = .ok v ∧
  ∀ u H' F' S, Grow H F H' F' → Own K H' F' fr S u v → (∀ a ∈ S, H a = none ∧ ¬ F' a) → Q u H'
theorem evalD_eq {Pr : Prog} {n : Nat} {f : Nat} {d : Def} {xs : List Val} {v : Val} (hd : Pr f = some d) (h : evalD Pr (n + 1) f xs = .ok v) : xs.length = d.np ∧ (evalSs (evalD Pr n) d.body (startE d xs)).bind fin = .ok v := by
  unfold evalD at h
  rw [hd] at h
  obtain ⟨h1, h2⟩ := Res.guard_ok h
  exact ⟨of_decide_eq_true h1, h2⟩
theorem start_rel {K : PySem.W.Frag} {H : Hp} {F : Addr → Prop} {d : Def} {N : List Str} {vs : List V} {xs : List Val} (dm : ∀ a, F a → H a ≠ none) (r : RepA K H F 0 vs xs) (hl : xs.length = d.np) (hN : N.length = d.ns) : Rel K (startE d xs) F (fun _ => []) (L2.start N vs) H where
  len := by
    unfold L2.start startE
    simp only [List.length_append, List.length_map, List.length_replicate, repA_length r, hN, hl]
  slot := fun i v e h => by
    unfold startE at h
    by_cases hi : i < xs.length
    · rw [List.getElem?_append_left (by simpa using hi), List.getElem?_map] at h
      cases q : xs[i]? with
      | none =>
        rw [q] at h
        cases h
      | some x =>
        rw [q] at h
        cases h
        obtain ⟨u, h1, h2⟩ := repA_get r q
        refine ⟨u, ?_, own_zero.mpr ⟨rfl, h2⟩⟩
        unfold L2.start
        rw [List.getElem?_append_left (by rw [List.length_map, repA_length r]; exact hi), List.getElem?_map, h1]
        rfl
    · rw [List.getElem?_append_right (by simpa using hi), List.getElem?_replicate] at h
      split at h <;> cases h
  empty := fun _ _ => rfl
  disj := fun _ _ _ _ h => (nomatch h)
  notF := fun _ _ h => (nomatch h)
  dom := dm
section
variable {P : Program} {w : World} {K : PySem.W.Frag} {mg : Str → Option Value} {base : Heap} {n : Nat} {f : Addr} {fd : FuncData} {x qual : Str} {params : Arguments} {body : List Stmt} {scope : Scope} {N ps : List Str} {Pr : Prog} {d : Def} {g : Nat} {ca : Str → Addr}
/-- the core of a program's defs, run n deep; no error is known -/
abbrev pp (Pr : Prog) (n : Nat) : Par := ⟨evalD Pr n, fun _ => 0, fun _ _ _ _ => False⟩
theorem cal_step (F : FunD K x qual params body scope [] [] f fd) (S : FnScope N ps scope) (hd : Pr g = some d) (hN : N.length = d.ns) (hp : ps.length = d.np)
    (hb : ∀ (cdv : Value) (A : Around) (outer : List PySem.Env) (s : Shared) (H : Hp), Room n (A.deeper (envOfC qual scope s.heap.objs.size f cdv)) → A.guards = some [] → VSs (bodyCx P w K mg base N qual scope f cdv A outer s H) (pp Pr n) d.fr body d.body) :
    FnG P w K mg base (n + 1) f fd ps (spF Pr (n + 1) g d.fr K) := by
  refine fn_g F S (fun vs H Q h => ?_) fun cdv A outer s H vs Q hr gd h => ⟨_, (hb cdv A outer s H hr gd).run, ?_⟩
  · obtain ⟨_, xs, v, _, r, ev, _⟩ := h
    rw [repA_length r, (evalD_eq hd ev).1, hp]
  · obtain ⟨F0, xs, v, dm, r, ev, q⟩ := h
    obtain ⟨hl, e⟩ := evalD_eq hd ev
    obtain ⟨o, e1, e2⟩ := Res.bind_eq_ok e
    refine ⟨H, F0, startE d xs, F0, fun _ => [], o, ⟨start_rel dm r hl hN, Grow.refl dm, fun _ _ h => (nomatch h)⟩, e1, ?_⟩
    cases o with
    | nx ρ =>
      cases e2
      exact fun σ' H' F' O' R' _ => q .non H' F' [] R'.grow own_none fun _ h => (nomatch h)
    | rt v' =>
      cases e2
      exact fun u H' F' S' g' o' n' => q u H' F' S' g' o' n'
    | bk ρ => cases e2
    | ct ρ => cases e2
theorem cal_zero (hb : Binds K fd ps []) (hm : mg x = some (.ref f)) (hk : PySem.W.keepIn K (.ref f) = true) {fr : Nat} : Cal P w K mg base 0 x ps (spF Pr 0 g fr K) :=
  ⟨f, fd, hm, hk, hb, fun vs H Q ⟨_, _, _, _, _, e, _⟩ => (nomatch e), fun A outer s H args us vs Q _ _ _ _ _ ⟨_, _, _, _, _, e, _⟩ => (nomatch e)⟩
end
section
variable {X : Cx} {p : Par} {x : Str} {ps : List Str} {q0 pos : Pos} {e : Expr} {es : List Expr} {cs : List E} {Pr : Prog} {n fr : Nat} {g : Nat}
/-- a call of a def of the text -/
theorem vo_call (C : Cal X.prog X.w X.K X.mg X.base n x ps (spF Pr n g fr X.K)) (hr : Room n X.A) (gd : X.A.guards = some []) (hcf : p.cf = evalD Pr n) (ha : VA X p (e :: es) cs) (hg : Gl X x := by rfl) (hdb : (x == ("__debug__" : Str)) = false := by decide)
    (he : starEach (e :: es) X.env = (false, eval e X.env) :: starEach es X.env := by rfl) (hpl : (backTo pos (starEach es X.env)).any (·.1) = false := by rfl) : VO X p (.Call (.Name x q0) (e :: es) [] pos) (.call g cs) fr := by
  refine ⟨PE.imp (pe_callG C hr gd (ha.run 0) hg hdb he hpl) fun σ H Q ⟨ρ, F, O, R, r⟩ => ?_⟩
  have r1 : Run p ((evalEs p.cf 0 cs ρ).bind fun vs => (p.cf g vs).quiet) σ H _ := r
  refine ⟨ρ, F, O, R, r1.bind.imp (Same.refl H) fun xs _ q us H1 F1 g1 ra => ?_⟩
  rw [hcf] at q
  obtain ⟨v, e1, q2⟩ := q.ok nx_quiet
  exact ⟨F1, xs, v, g1.dom, ra, Res.quiet_eq_ok e1, fun u H' F' S g2 o n2 => q2 u H' F' S (g1.trans g2) o fun a m => ⟨g1.same.free (n2 a m).1, (n2 a m).2⟩⟩
end
end VL

/-! VL, part 15: names set to comprehensions; the law's own call. -/
namespace VL
open PySem PySem.Spec L2 PySem.W
open PyProof.Rows hiding St

section
variable {X : Cx} {p : Par} {fr : Nat} {t t2 : Pat} {w w2 : List Nat} {ci ce ci2 : E} {co co2 : Option E} {d : Nat} {elt tg iter tg1 iter1 : Expr} {ifs ifs1 : List Expr} {scope : Scope} {own : List (PySem.Str × Nat)} {pos py spos : Pos} {y : PySem.Str}
theorem vs_setLc (i : Nat) (hc : X.calm = true) (hN : X.N.Nodup) (hi : VI X p.nox 1 tg iter ci) (ok : BlkOk X.N X.env.scope scope own) (hw : own.map (·.2) = w) (hp : ∀ j ∈ patS t, j ∈ w)
    (hg : ∀ (s : Shared) (H : Hp) (C : Addr) (cl : List (PySem.Str × Addr)) (fp : List Addr), VG (X.blk s H scope (compEnvC scope cl C X.env) fp) tg t) (ht : ∀ (s : Shared) (H : Hp) (C : Addr) (cl : List (PySem.Str × Addr)) (fp : List Addr), VTs (X.blk s H scope (compEnvC scope cl C X.env) fp) p.nox ifs co)
    (he : ∀ (s : Shared) (H : Hp) (C : Addr) (cl : List (PySem.Str × Addr)) (fp : List Addr), VO (X.blk s H scope (compEnvC scope cl C X.env) fp) p.nox elt ce d)
    (hsw : swapsWith (.ListComp elt [⟨tg, iter, ifs, 0⟩] scope pos) (some (.Name y py)) spos.line X.env = pure true) (hy : X.N[i]? = some y := by rfl) (hyl : X.env.scope.names.lookup y = some .local := by rfl) (hs : ∀ x, foldedSetIterable iter X.env x = pure x := by intro _; rfl) :
    VS X p fr (.Assign [.Name y py] (.ListComp elt [⟨tg, iter, ifs, 0⟩] scope pos) spos) (.set i (.comp w d ce t ci co) (d + 1)) := by
  subst hw
  exact ⟨PS.imp (ps_setLc hc hN hy hyl hsw hi.run ok (fun s H C cl fp => (hg s H C cl fp).run) (fun s H C cl fp => (ht s H C cl fp).run) (fun s H C cl fp => (he s H C cl fp).run) hs) fun D σ H h => lc_of hp (set_of h)⟩
theorem vs_setLc2 (i : Nat) (hc : X.calm = true) (hN : X.N.Nodup) (hi : VI X p.nox 1 tg iter ci) (ok : BlkOk X.N X.env.scope scope own) (hw : own.map (·.2) = w) (hp : ∀ j ∈ patS t, j ∈ w) (hp2 : ∀ j ∈ patS t2, j ∈ w2) (hww : ∀ j ∈ w2, j ∈ w)
    (hg : ∀ (s : Shared) (H : Hp) (C : Addr) (cl : List (PySem.Str × Addr)) (fp : List Addr), VG (X.blk s H scope (compEnvC scope cl C X.env) fp) tg t) (ht : ∀ (s : Shared) (H : Hp) (C : Addr) (cl : List (PySem.Str × Addr)) (fp : List Addr), VTs (X.blk s H scope (compEnvC scope cl C X.env) fp) p.nox ifs co)
    (hi1 : ∀ (s : Shared) (H : Hp) (C : Addr) (cl : List (PySem.Str × Addr)) (fp : List Addr), VI (X.blk s H scope (compEnvC scope cl C X.env) fp) p.nox 0 tg1 iter1 ci2)
    (hg1 : ∀ (s : Shared) (H : Hp) (C : Addr) (cl : List (PySem.Str × Addr)) (fp : List Addr), VG (X.blk s H scope (compEnvC scope cl C X.env) fp) tg1 t2) (ht1 : ∀ (s : Shared) (H : Hp) (C : Addr) (cl : List (PySem.Str × Addr)) (fp : List Addr), VTs (X.blk s H scope (compEnvC scope cl C X.env) fp) p.nox ifs1 co2)
    (he : ∀ (s : Shared) (H : Hp) (C : Addr) (cl : List (PySem.Str × Addr)) (fp : List Addr), VO (X.blk s H scope (compEnvC scope cl C X.env) fp) p.nox elt ce 0)
    (hsw : swapsWith (.ListComp elt [⟨tg, iter, ifs, 0⟩, ⟨tg1, iter1, ifs1, 0⟩] scope pos) (some (.Name y py)) spos.line X.env = pure true) (hy : X.N[i]? = some y := by rfl) (hyl : X.env.scope.names.lookup y = some .local := by rfl) (hs : ∀ x, foldedSetIterable iter X.env x = pure x := by intro _; rfl) (hs1 : ∀ env x, foldedSetIterable iter1 env x = pure x := by intro _ _; rfl) :
    VS X p fr (.Assign [.Name y py] (.ListComp elt [⟨tg, iter, ifs, 0⟩, ⟨tg1, iter1, ifs1, 0⟩] scope pos) spos) (.set i (.comp2 w w2 ce t ci co t2 ci2 co2) 1) := by
  subst hw
  exact ⟨PS.imp (ps_setLc2 hc hN hy hyl hsw hi.run ok hww (fun s H C cl fp => (hg s H C cl fp).run) (fun s H C cl fp => (ht s H C cl fp).run) (fun s H C cl fp => (hi1 s H C cl fp).run) (fun s H C cl fp => (hg1 s H C cl fp).run) (fun s H C cl fp => (ht1 s H C cl fp).run) (fun s H C cl fp => (he s H C cl fp).run) hs hs1) fun D σ H h => lc2_of hp hp2 (set_of h)⟩
theorem nx_call {f : Nat} {cs : List E} (h : NXs p cs) : NX p (.call f cs) := fun k ρ => nx_bind (h 0 ρ) fun _ => nx_quiet
end

/-! ### more tests -/
section
variable {X : Cx} {p : Par} {a b c : Expr} {ca cb cc ce : E} {pos : Pos}
theorem tT_E {K : PySem.W.Frag} {σ : St} {H : Hp} {Q : Bool → Hp → Prop} (h : tT K p ce σ H Q) : tE K p 9 ce σ H fun v H' => ∃ b, v = .bl b ∧ Q b H' := by
  obtain ⟨ρ, F, O, R, r⟩ := h
  refine ⟨ρ, F, O, R, r.bind.imp (Same.refl H) fun v _ q u H' F' g rp => ?_⟩
  cases v with
  | bool b =>
    simp only [Rep] at rp
    exact ⟨b, rp, q H' F' g⟩
  | _ => exact q.elim
theorem vt_isN {j : Nat} {p2 : Pos} (ha : VE X p a ca) : VT X p (.Compare a [.Is] [.Constant .none j p2] pos) (.op .isNone [ca]) :=
  ⟨PT.imp (pt_cmp (pc_isN (ha.run 9))) fun σ H Q h => tE_op1 (o := .isNone) (r := fun x H1 Q => Q (.bl (decide (x = .non))) H1) (fun k H F u x v Q d hu h q => by
    simp only [den] at h
    cases h
    refine q _ H F (Grow.refl d) (rep_bool.mpr ?_)
    exact congrArg V.bl (ve_isN.isN_of hu)) (tT_E h)⟩
theorem vt_notN {j : Nat} {p2 : Pos} (ha : VE X p a ca) : VT X p (.Compare a [.IsNot] [.Constant .none j p2] pos) (.op .notNone [ca]) :=
  ⟨PT.imp (pt_cmp (pc_notN (ha.run 9))) fun σ H Q h => tE_op1 (o := .notNone) (r := fun x H1 Q => Q (.bl (!decide (x = .non))) H1) (fun k H F u x v Q d hu h q => by
    simp only [den] at h
    cases h
    refine q _ H F (Grow.refl d) (rep_bool.mpr ?_)
    rw [ve_isN.isN_of hu]) (tT_E h)⟩
theorem vt_isB {t : Bool} {j : Nat} {p2 : Pos} (ha : VE X p a ca) : VT X p (.Compare a [.Is] [.Constant (.bool t) j p2] pos) (.op (.isB t) [ca]) :=
  ⟨PT.imp (pt_cmpR op_isBl (ha.run 9) pe_bl (nobehind _ (by decide) (by decide))) fun σ H Q h => tE_op1 (o := .isB t) (r := fun x H1 Q => rIsB x (.bl t) H1 Q) (fun k H F u x v Q d hu h q => by
    simp only [den] at h
    unfold vIs at h
    split at h
    · cases h
      exact ⟨_, _, rep_bool.mp hu, rfl, q _ H F (Grow.refl d) (rep_bool.mpr (by rw [← Bool.beq_eq_decide_eq]))⟩
    · cases h) (tT_E h)⟩
theorem vt_notB {t : Bool} {j : Nat} {p2 : Pos} (ha : VE X p a ca) : VT X p (.Compare a [.IsNot] [.Constant (.bool t) j p2] pos) (.op (.notB t) [ca]) :=
  ⟨PT.imp (pt_cmpR op_notBl (ha.run 9) pe_bl (nobehind _ (by decide) (by decide))) fun σ H Q h => tE_op1 (o := .notB t) (r := fun x H1 Q => rNotB x (.bl t) H1 Q) (fun k H F u x v Q d hu h q => by
    simp only [den] at h
    unfold vIsNot at h
    split at h
    · cases h
      exact ⟨_, _, rep_bool.mp hu, rfl, q _ H F (Grow.refl d) (rep_bool.mpr (by rw [← Bool.beq_eq_decide_eq]))⟩
    · cases h) (tT_E h)⟩
theorem chain_of {K : PySem.W.Frag} {o o' : Op} {r r' : R2} {σ : St} {H : Hp} {Q : VK} {k : Nat} (s1 : Sp2 K o r) (s2 : Sp2 K o' r') (h9 : octx o 9 = 9) (ho : ∀ k, octx o' k = 9) (h : tE K p k (.chain o o' ca cb cc) σ H Q) :
    tChain r r' (tE K p 9 ca) (tE K p 9 cb) (tE K p 9 cc) σ H Q := by
  obtain ⟨ρ, F, O, R, q⟩ := h
  refine ⟨ρ, F, O, R, q.bind.imp (Same.refl H) fun x _ q u H1 F1 g1 r1 => ⟨ρ, F1, O, R.grow g1, q.bind.imp g1.same fun y _ q w H2 F2 g2 r2 => ?_⟩⟩
  obtain ⟨v, ev, q⟩ := q.bind.ok (den_nx o _)
  refine s1 9 H2 F2 u w x y v _ g2.dom ?_ ?_ ev fun z H3 F3 g3 r3 => ?_
  · rw [h9]
    exact rep_same g2.same g2.sub x _ _ u (Nat.le_refl _) r1
  · rw [h9]
    exact r2
  · cases v with
    | bool t =>
      refine ⟨t, rep_bool.mp r3, ?_⟩
      cases t with
      | true =>
        rw [if_pos rfl]
        have q3 : Run p ((evalE p.cf 9 cc ρ).bind fun z => den o' [y, z]) σ H _ := q
        refine ⟨ρ, F3, O, ((R.grow g1).grow g2).grow g3, q3.bind.imp (g1.trans (g2.trans g3)).same fun z _ q w2 H4 F4 g4 r4 => ?_⟩
        obtain ⟨v, ev, q⟩ := q.ok (den_nx o' _)
        refine s2 k H4 F4 w w2 y z v Q g4.dom ?_ ?_ ev fun t H5 F5 g5 r5 => q t H5 F5 (g1.trans (g2.trans (g3.trans (g4.trans g5)))) r5
        · rw [ho]
          exact rep_same g4.same g4.sub y _ _ w (Nat.le_refl _) (rep_same g3.same g3.sub y _ _ w (Nat.le_refl _) r2)
        · rw [ho]
          exact r4
      | false =>
        rw [if_neg Bool.false_ne_true]
        exact q (.bl false) H3 F3 (g1.trans (g2.trans g3)) (rep_bool.mpr rfl)
    | _ => exact q.elim
theorem vt_chain {op op' : CmpOp} {o o' : Op} (h : Cmp X op o) (h' : Cmp X op' o') (ha : VE X p a ca) (hb : VE X p b cb) (hc : VE X p c cc) (h9 : octx o 9 = 9 := by rfl) (ho : ∀ k, octx o' k = 9 := by intro _; rfl)
    (hm : lastMarks [op, op'] [b, c] = false := by with_unfolding_all rfl) : VT X p (.Compare a [op, op'] [b, c] pos) (.chain o o' ca cb cc) := by
  obtain ⟨r, h1, s1⟩ := h.ex
  obtain ⟨r', h2, s2⟩ := h'.ex
  exact ⟨PT.imp (pt_chain h1 h2 (ha.run 9) (hb.run 9) (hc.run 9) hm) fun σ H Q q => chain_of s1 s2 h9 ho (tT_E q)⟩
theorem Room_u {n : Nat} {A : Around} (h : Room n A) : A.units + 70 < cLine := by
  have := h.un
  omega
theorem Room_v {n : Nat} {A : Around} (h : Room n A) : A.units + 65 < cLine := by
  have := h.un
  omega
end

/-! ### the law's call -/
theorem law_g {P : Program} {w : World} {K : PySem.W.Frag} {mg mb : PySem.Str → Option Value} {k : Nat} {fa a : Addr} {fd : FuncData} {x : PySem.Str} {sp : SpV} {s : Shared} {vs : List Value} {ns : List Int} (inK : K.In s.heap) (gl : s.heap.Ns mainGlobals mg) (bl : s.heap.Ns builtinsNs mb)
    (bb : ∀ x : PySem.Str, x ≠ "__name__" → mb x = bootBuiltins x) (nl : s.heap.NoLimit) (g0 : s.gens = #[]) (at_ : s.heap.get? a = some { cls := .type "list", data := .seq vs.toArray }) (iv : IntsAre vs ns) (le : ns.length ≤ sizeLine) (room : Room k callerA)
    (F : ∀ base : Heap, K.In base → base.Ns mainGlobals mg → FnG P w K mg base k fa fd [x] sp) (bd : ∀ (s : Shared) (u : Value), BindsTo s fd ⟨[u], []⟩ [(x, u)]) (pr : ∀ H : Hp, Only H → SqL K H a (ns.map V.int) → sp [.ref a] H fun v _ => v = .bl true) :
    codeAny (model P w) callerA (.call (.ref fa) ⟨[.ref a], []⟩) (fun r s' => r = .ok (.ret (.bool true)) ∧ OldK s.heap s'.heap ∧ s'.os = s.os ∧ AllBare s'.gens) s := by
  have rv : Vals (ns.map V.int) vs := vals_ints iv
  have main : ∀ H : Hp, Only H → SqL K H a (ns.map V.int) → HOk P w H s.heap → (∀ b, H b ≠ none → b = a) → (H a ≠ none → K.lookup a = none) →
      codeAny (model P w) callerA (.call (.ref fa) ⟨[.ref a], []⟩) (fun r s' => r = .ok (.ret (.bool true)) ∧ OldK s.heap s'.heap ∧ s'.os = s.os ∧ AllBare s'.gens) s := by
    intro H only sq ok one two
    have hid : ∀ {b : Addr} {m : PySem.Str → Option Value}, s.heap.Ns b m → (hidT s.heap H).Ns b m := fun {b m} h => by
      obtain ⟨o, es, ep, e, d, r⟩ := h
      refine ⟨o, es, ep, hidT_get e ?_, d, r⟩
      cases q : H b with
      | none => rfl
      | some u =>
        rw [one b (by rw [q]; simp), at_] at e
        cases e
        cases d
    have kb : K.In (hidT s.heap H) := fun b o e => hidT_get (inK b o e) (by
      cases q : H b with
      | none => rfl
      | some u =>
        have eb := one b (by rw [q]; simp)
        subst eb
        rw [two (by rw [q]; simp)] at e
        cases e)
    obtain ⟨mc, l1, l2⟩ := nl
    have e0 : Env0 P w K mg (hidT s.heap H) callerA [] s H := ⟨rfl, ⟨kb, hid gl, ⟨mb, hid bl, bb⟩, ⟨mc, hid l1, l2⟩⟩, fun b o e => of_hidT e, Nat.le_of_eq (hidT_size _ _), trivial, fun b hb => (nomatch hb), ok, .of_eq g0⟩
    refine codeAny_mono ((F _ kb (hid gl)).run callerA [] s H ⟨[.ref a], []⟩ [.ref a] [.ref a] _ room rfl e0 (bd s (.ref a)) (.cons rfl .nil) (pr H only sq)) fun r s' h => ?_
    cases r with
    | error e => exact False.elim h
    | ok fl =>
      cases fl with
      | next => exact False.elim h
      | brk => exact False.elim h
      | cont => exact False.elim h
      | ret u =>
        obtain ⟨v, H', os, bare, un, ok', rl, q⟩ := h
        obtain rfl : v = .bl true := q
        obtain rfl : u = Value.bool true := rl
        refine ⟨rfl, OldK.of_keep fun b o e => ?_, os, bare⟩
        rcases only b with z | ⟨ob, xs, z⟩
        · exact un.keep b o e z (fun z => nomatch z) (fun z => nomatch z)
        · obtain ⟨e1, _⟩ := ok b _ z
          obtain ⟨e2, _⟩ := ok' b _ (un.frzs b ob _ z)
          rw [e] at e1
          cases e1
          exact e2
  cases hk : K.lookup a with
  | some o =>
    have e := inK a o hk
    rw [at_] at e
    cases e
    exact main (fun _ => none) (fun _ => .inl rfl) (.inr ⟨_, vs.toArray, _, hk, rfl, rfl, rfl, by rw [List.size_toArray, iv.length]; exact le, by simpa using rv⟩) (fun b u z => (nomatch z)) (fun b z => absurd rfl z) fun z => absurd rfl z
  | none =>
    have self : (fun b => if b = a then some (HO.frz { cls := .type "list", data := .seq vs.toArray } (.lst (ns.map V.int))) else none : Hp) a = some (HO.frz { cls := .type "list", data := .seq vs.toArray } (.lst (ns.map V.int))) := if_pos rfl
    have other : ∀ b, b ≠ a → (fun b => if b = a then some (HO.frz { cls := .type "list", data := .seq vs.toArray } (.lst (ns.map V.int))) else none : Hp) b = none := fun b h => if_neg h
    refine main (fun b => if b = a then some (.frz { cls := .type "list", data := .seq vs.toArray } (.lst (ns.map V.int))) else none) (fun b => ?_) (.inl (.inr ⟨_, self⟩)) (fun b u z => ?_) (fun b z => ?_) fun _ => hk
    · by_cases e : b = a
      · subst e
        exact .inr ⟨_, _, self⟩
      · exact .inl (other b e)
    · by_cases e : b = a
      · subst e
        rw [self] at z
        cases z
        exact ⟨at_, by rw [List.length_map]; exact le, vs, _, rv, at_⟩
      · rw [other b e] at z
        cases z
    · by_cases e : b = a
      · exact e
      · exact absurd (other b e) z
/-- what the head leaves open, from the law's own promise -/
theorem walk_g {l : PySem.W.OpenLaw} {n k : Nat} {q : Program} {loose : List PySem.Str} {XP : (PySem.Str → Option Value) → Heap → Prop} {YP : World → Heap → Prop} {d : DefRec} {x : PySem.Str}
    (hn : l.most = some n) (hn2 : n ≤ sizeLine) (hdf : d.params.defaults = []) (hr : Room k callerA)
    (F : ∀ (w : World) (mg : PySem.Str → Option Value) (fa : Addr) (h : Heap), YP w h → h.Ns mainGlobals mg → mg d.name = some (.ref fa) →
      ∃ (K : PySem.W.Frag) (fd : FuncData) (sp : SpV), K.In h ∧ (∀ (s : Shared) (u : Value), BindsTo s fd ⟨[u], []⟩ [(x, u)]) ∧
        (∀ (H : Hp) (a : Addr) (ns : List Int), ns.length ≤ n → (∀ z ∈ ns, Builtin.Int.intBits z ≤ 1048576) → Only H → SqL K H a (ns.map V.int) → sp [.ref a] H fun v _ => v = .bl true) ∧
        ∀ base : Heap, K.In base → base.Ns mainGlobals mg → FnG l.prog w K mg base k fa fd [x] sp) :
    PySem.W.WalkO q loose XP YP l.row.toRowW d [] (fun f vs => PySem.call f vs) := by
  refine Att.attach_callB hn hdf fun w s₀ s₁ mg mb fa o pm cd doc a vs ns G Y ho hd hcd hmg hobj hints hlen hbits hg => ?_
  obtain ⟨K, fd, sp, KX, hb, hsp, hF⟩ := F w mg fa _ Y G.T.g hmg
  exact law_g KX G.T.g G.T.b G.T.builtins G.T.nolimit hg hobj hints (Nat.le_trans hlen hn2) hr hF hb fun H hO hS => hsp H a ns hlen hbits hO hS
/-- the script, as the law's def takes it -/
theorem law_pr {Pr : Prog} {n g : Nat} {K : PySem.W.Frag} {H : Hp} {a : Addr} {ns : List Int} (sq : SqL K H a (ns.map V.int)) (ev : evalD Pr n g [.list (ns.map .int)] = .ok (.bool true)) : spF Pr n g 0 K [.ref a] H fun v _ => v = .bl true := by
  refine ⟨fun b => b = a ∧ H b ≠ none, [.list (ns.map .int)], .bool true, fun b h => h.2, repA_cons (rep_list.mpr ⟨a, _, rfl, sq, fun _ => ?_, repA_of_ints⟩) repA_nil, ev, fun u H' F' S _ o _ => rep_bool.mp (own_zero.mp o).2⟩
  by_cases h : H a = none
  · refine .inr fun H' => ?_
    rcases sq with (z | ⟨_, z⟩) | z
    · rw [h] at z
      cases z
    · rw [h] at z
      cases z
    · exact .inr z
  · exact .inl ⟨rfl, h⟩
theorem VSs.nox {X : Cx} {p : Par} {fr : Nat} {sts : List Stmt} {ss : List S} (h : VSs X.nox p fr sts ss) : VSs X p fr sts ss := ⟨PSs.nox h.run⟩
end VL

/-! VL, part 16: xs.index(y); a, b = c, d; new things in a tuple. -/
namespace VL
open PySem PySem.Spec L2 PySem.W
open PyProof.Rows hiding St

section
variable {X : Cx} {p : Par} {a b : Expr} {ca cb : E} {pos : Pos}
theorem vIndex_ok {x y v : Val} (h : vIndex x y = .ok v) : ∃ xs j, x = .list xs ∧ shapedB (.list xs) = true ∧ shapedB y = true ∧ xs.findIdx? (fun z => PyData.eqv z y) = some j ∧ v = .int (j : Nat) := by
  cases x with
  | list xs =>
    have h1 : Res.guard (shapedB (.list xs) && shapedB y) (match xs.findIdx? fun z => PyData.eqv z y with
      | some j => Res.ok (PyData.int (j : Nat))
      | none => .bad) = .ok v := h
    obtain ⟨hg, h2⟩ := Res.guard_ok h1
    rw [Bool.and_eq_true] at hg
    cases e : xs.findIdx? fun z => PyData.eqv z y with
    | none =>
      rw [e] at h2
      cases h2
    | some j =>
      rw [e] at h2
      cases h2
      exact ⟨xs, j, rfl, hg.1, hg.2, e, rfl⟩
  | _ => cases h
theorem findIdx_at {α : Type} {f : α → Bool} : ∀ {xs : List α} {j : Nat}, xs.findIdx? f = some j → ∃ z, xs[j]? = some z ∧ f z = true ∧ ∀ (m : Nat) (z' : α), m < j → xs[m]? = some z' → f z' = false := by
  intro xs j h
  obtain ⟨hj, h1, h2⟩ := List.findIdx?_eq_some_iff_getElem.mp h
  refine ⟨xs[j], List.getElem?_eq_getElem hj, h1, fun m z' hm e => ?_⟩
  have q := h2 m hm
  obtain ⟨_, e2⟩ := List.getElem?_eq_some_iff.mp e
  rw [← e2]
  simpa using q
theorem ve_index {apos : Pos} (hu : X.A.units + 65 < cLine) (ha : VE X p a ca) (hb : VE X p b cb) (nx : NX p cb) (hbase : attributeBase a "index" X.env (eval a X.env) = eval a X.env := by rfl)
    (hfew : ((backTo pos (starEach [b] X.env)).all (fun x => !x.1) && (backToKw pos (keywordEach [] X.env)).all (fun x => x.1.isSome)
      && decide ([b].length + ([] : List Keyword).length + (if ([] : List Keyword).isEmpty then 0 else 1) < 30)) = true := by rfl)
    (hline : (apos.endLine == pos.line) = true := by rfl) (hs : starEach [b] X.env = (false, eval b X.env) :: starEach [] X.env := by rfl) : VE X p (.Call (.Attribute a "index" apos) [b] [] pos) (.op .index [ca, cb]) := by
  refine ⟨fun k => PE.imp (pe_bm PySem.F.plainAttrs_list PySem.F.slot_list_index PySem.F.type_list_index (mt_indexD hu) (ha.run 9) (pa_cons (hb.run 9) pa_nil hs) hbase hfew hline hs rfl) fun σ H Q ⟨ρ, F, O, R, r⟩ => ?_⟩
  have h1 : Run p (((evalE p.cf 9 ca ρ).bind fun x => ((evalE p.cf 9 cb ρ).bind fun y => Res.ok [y]).bind fun ys => .ok (x :: ys)).bind fun vs => den .index vs) σ H _ := r
  refine ⟨ρ, F, O, R, h1.bind.bind.imp (Same.refl H) fun x _ q u H1 F1 g1 rx => ?_⟩
  have q3 := q.bind.bind
  obtain ⟨y, ey, q4⟩ := q3.ok (nx 9 ρ)
  have q5 : Run p (den .index [x, y]) σ H _ := q4
  obtain ⟨v, ev, _⟩ := q5.ok (den_nx _ _)
  obtain ⟨xs, j, rfl, _, _, _, _⟩ := vIndex_ok ev
  obtain ⟨l, ws, rfl, s1, _, ra⟩ := rep_list.mp rx
  refine ⟨.inl ⟨rfl, ws, s1⟩, ρ, F1, O, R.grow g1, q3.imp g1.same fun y _ q w H2 F2 g2 ry => ?_⟩
  have q6 : Run p (den .index [.list xs, y]) σ H _ := q
  obtain ⟨v, ev, q7⟩ := q6.ok (den_nx _ _)
  obtain ⟨xs2, j2, e1, s2, s3, ej, rfl⟩ := vIndex_ok (x := .list xs) (y := y) ev
  cases e1
  obtain ⟨z, hz, he, hno⟩ := findIdx_at ej
  exact ⟨l, w, y, xs, j2, z, rfl, rfl, rep_dp _ _ _ (rep_same g2.same g2.sub _ _ _ _ (Nat.le_refl _) rx), rep_dp _ _ _ ry, s2, s3, hz, he, hno, q7 _ H2 F2 (g1.trans g2) (rep_int.mpr rfl)⟩
end

/-! ### a tuple of names that are new -/
section
variable {K : PySem.W.Frag} {ρ : Env} {F F' F0 : Addr → Prop} {O : Nat → List Addr} {σ : St} {H H' H0 : Hp}
theorem drop1_at {i j k : Nat} {ρ : Env} {v : Val} {d : Nat} (h : ρ[i]? = some (some (v, d))) : (drop1 j k ρ)[i]? = some (some (v, if j = i then min d k else d)) := by
  unfold drop1
  by_cases e : j = i
  · subst e
    rw [h, if_pos rfl]
    exact List.getElem?_set_self (getElem_lt h)
  · rw [if_neg e]
    split
    · rw [List.getElem?_set_ne e]
      exact h
    · exact h
theorem dropL_at {k i : Nat} {v : Val} : ∀ (is : List Nat) {ρ : Env} {d : Nat}, ρ[i]? = some (some (v, d)) → ∃ d', (dropL (is.map fun j => (j, k)) ρ)[i]? = some (some (v, d')) ∧ (k ≤ d → k ≤ d') ∧ ((i ∈ is ∨ d ≤ k) → d' ≤ k)
  | [], ρ, d, h => ⟨d, h, id, fun z => z.elim (fun z => nomatch z) id⟩
  | j :: is, ρ, d, h => by
    obtain ⟨d', h1, h2, h3⟩ := dropL_at is (drop1_at (j := j) (k := k) h)
    refine ⟨d', h1, fun q => h2 ?_, fun q => h3 ?_⟩
    · split <;> omega
    · by_cases e : j = i
      · exact .inr (by rw [if_pos e]; exact Nat.min_le_right _ _)
      · rcases q with q | q
        · rcases List.mem_cons.mp q with q | q
          · exact absurd q.symm e
          · exact .inl q
        · exact .inr (by rw [if_neg e]; exact q)
theorem slotsV_ok {k i : Nat} {is : List Nat} {vs : List Val} (h : slotsV ρ k (i :: is) = .ok vs) : ∃ v d r, ρ[i]? = some (some (v, d)) ∧ (k ≤ d ∨ atomV v = true) ∧ vs = v :: r ∧ slotsV ρ k is = .ok r := by
  unfold slotsV at h
  obtain ⟨v, h1, h2⟩ := Res.bind_eq_ok h
  obtain ⟨r, h3, h4⟩ := Res.bind_eq_ok h2
  cases h4
  cases e : ρ[i]? with
  | none =>
    rw [e] at h1
    cases h1
  | some y =>
    rw [e] at h1
    cases y with
    | none => cases h1
    | some z =>
      obtain ⟨w, d⟩ := z
      obtain ⟨hg, h5⟩ := Res.guard_ok h1
      cases h5
      rw [Bool.or_eq_true] at hg
      exact ⟨v, d, r, rfl, hg.imp Nat.le_of_ble_eq_true id, rfl, h3⟩
def slotsU (σ : St) : List Nat → List V → Prop
  | [], us => us = []
  | i :: is, us => ∃ u r, us = u :: r ∧ σ[i]? = some (some u) ∧ slotsU σ is r
theorem atomV_B {v : Val} (h : atomV v = true) : atomB v = true := by
  cases v <;> first | rfl | cases h
theorem slots_own (R : Rel K ρ F O σ H) {ρ1 : Env} {k : Nat} : ∀ (is : List Nat) (vs : List Val), nodupB is = true → slotsV ρ1 k is = .ok vs → (∀ i ∈ is, ∀ v d, ρ1[i]? = some (some (v, d)) → ∃ d', ρ[i]? = some (some (v, d')) ∧ (k ≤ d → d' = k)) →
    ∃ us S, slotsU σ is us ∧ OwnA K H F k S us vs ∧ ∀ a ∈ S, ∃ i ∈ is, a ∈ O i
  | [], vs, _, h, _ => by
    cases h
    exact ⟨[], [], rfl, by simp only [OwnA]; exact ⟨trivial, trivial⟩, fun _ z => (nomatch z)⟩
  | i :: is, vs, nd, h, g => by
    obtain ⟨v, d, r, e1, hk, rfl, h2⟩ := slotsV_ok h
    have nd' : nodupB is = true ∧ i ∉ is := by
      unfold nodupB at nd
      rw [Bool.and_eq_true] at nd
      refine ⟨nd.2, fun m => ?_⟩
      have : is.contains i = true := List.contains_iff_mem.mpr m
      rw [this] at nd
      cases nd.1
    obtain ⟨us, S, s1, s2, s3⟩ := slots_own R is r nd'.1 h2 fun j m => g j (List.mem_cons_of_mem _ m)
    obtain ⟨d', e2, hd⟩ := g i List.mem_cons_self v d e1
    obtain ⟨u, e3, ow⟩ := R.slot i v d' e2
    have own1 : Own K H F k (O i) u v := by
      rcases hk with hk | hk
      · rw [hd hk] at ow
        exact ow
      · exact (own_atom (atomV_B hk)).mpr ((own_atom (atomV_B hk)).mp ow)
    refine ⟨u :: us, O i ++ S, ⟨u, us, rfl, e3, s1⟩, ?_, fun a m => ?_⟩
    · simp only [OwnA]
      refine ⟨u, us, O i, S, rfl, rfl, fun a m n => ?_, own1, s2⟩
      obtain ⟨j, mj, mo⟩ := s3 a n
      exact R.disj i j a (fun z => nd'.2 (z ▸ mj)) m mo
    · rcases List.mem_append.mp m with m | m
      · exact ⟨i, List.mem_cons_self, m⟩
      · obtain ⟨j, mj, mo⟩ := s3 a m
        exact ⟨j, List.mem_cons_of_mem _ mj, mo⟩
end
section
variable {X : Cx} {p : Par} {fr : Nat} {pos q0 q1 q2 : Pos} {e ex : Expr} {c cx : E} {x : Str} {es : List Expr}
def tNames (is : List Nat) : TA := fun σ H Q => ∃ us, slotsU σ is us ∧ Q us H
structure VNs (X : Cx) (es : List Expr) (is : List Nat) : Prop where
  run : PA X es (tNames is)
theorem vns_nil : VNs X [] [] := ⟨PA.imp pa_nil fun σ H Q ⟨us, h, q⟩ => by
  cases h
  exact q⟩
theorem vns_cons {is : List Nat} (i : Nat) (hs : VNs X es is) (hN : X.N[i]? = some x := by rfl) (hv : Vis X.env.scope x := by first | exact Or.inl rfl | exact Or.inr (Or.inl rfl) | exact Or.inr (Or.inr rfl)) (hd : (x == ("__debug__" : Str)) = false := by decide) (hcd : (x == ("__classdict__" : Str)) = false := by decide)
    (hse : starEach (.Name x q0 :: es) X.env = (false, eval (.Name x q0) X.env) :: starEach es X.env := by rfl) : VNs X (.Name x q0 :: es) (i :: is) := ⟨PA.imp (pa_cons (pe_var hN hv hd hcd) hs.run hse) fun σ H Q ⟨us, h, q⟩ => by
  obtain ⟨u, r, rfl, h1, h2⟩ := h
  exact ⟨u, h1, r, h2, q⟩⟩
theorem vs_rett {x1 : Nat} {is : List Nat} (h : VNs X es is) : VS X p (fr + 1) (.Return (some (.Tuple es x1 q0)) pos) (.rett is fr) := ⟨PS.imp (ps_ret (pe_tup h.run)) fun D σ H ⟨H0, F0, ρ, F, O, o, R, ev, af⟩ => by
  have e' : Res.guard (sizeOk is.length && nodupB is) ((slotsV ρ fr is).bind fun vs => Res.ok (Out.rt (.tuple vs))) = .ok o := ev
  obtain ⟨nd, e2⟩ := Res.guard_ok e'
  rw [Bool.and_eq_true] at nd
  obtain ⟨hz, nd⟩ := nd
  obtain ⟨vs, e3, e4⟩ := Res.bind_eq_ok e2
  cases e4
  obtain ⟨F1, O1, R1, s1⟩ := SRel.dropL (is.map fun j => (j, fr)) R
  obtain ⟨us, S, h1, h2, h3⟩ := slots_own R1.rel is vs nd e3 fun i m v d e => by
    obtain ⟨d', q1, q2, q3⟩ := dropL_at (k := fr) is e
    exact ⟨d', q1, fun z => Nat.le_antisymm (q3 (.inl m)) (q2 z)⟩
  refine ⟨us, h1, ?_, fun P nP => ?_⟩
  · have l2 : ∀ (is : List Nat) (us : List V), slotsU σ is us → us.length = is.length := by
      intro is
      induction is with
      | nil =>
        intro us h
        cases h
        rfl
      | cons i is ih =>
        intro us ⟨u, r, e, _, h2⟩
        rw [e, List.length_cons, List.length_cons, ih r h2]
    rw [l2 is us h1]
    exact sizeOk_of hz
  · exact af (.ref P) _ F1 S (R1.grow.trans (Grow.put R1.rel.dom nP)) (by
      simp only [Own]
      exact ⟨P, us, rfl, SqT.of upd_same, ownA_frame vs _ S us h2 (fun b o q _ => (Grow.put (o := .tup us) R1.rel.dom nP).same b o q) fun _ f => f⟩) fun a m => by
      obtain ⟨i, _, mo⟩ := h3 a m
      exact ⟨R1.new i a mo, R1.rel.notF i a mo⟩⟩
/-- a, b = c, d -/
theorem vs_par {y : Str} {a b : Expr} {ca cb : E} {px py pt : Pos} {kt k2 : Nat} {pt2 : Pos} (i j : Nat) (hc : X.calm = true) (nd : X.N.Nodup) (ha : VE X p.nox a ca) (hb : VE X p.nox b cb) (hij : i ≠ j := by decide) (hi : X.N[i]? = some x := by rfl) (hj : X.N[j]? = some y := by rfl)
    (hx : X.env.scope.names.lookup x = some .local := by rfl) (hy : X.env.scope.names.lookup y = some .local := by rfl)
    (hw : swappedStores [.Tuple [.Name x px, .Name y py] kt pt] (.Tuple [a, b] k2 pt2) X.env = pure (some [x, y]) := by rfl)
    (hs : swapsWithSole [.Tuple [.Name x px, .Name y py] kt pt] (.Tuple [a, b] k2 pt2) pos.line X.env = pure false := by rfl)
    (h1 : starEach [a, b] X.env = (false, eval a X.env) :: starEach [b] X.env := by rfl) (h2 : starEach [b] X.env = (false, eval b X.env) :: starEach [] X.env := by rfl) :
    VS X p fr (.Assign [.Tuple [.Name x px, .Name y py] kt pt] (.Tuple [a, b] k2 pt2) pos) (.par i j ca cb) :=
  ⟨PS.imp (ps_par hc nd hi hj hij hx hy (pa_cons (ha.run 0) (pa_cons (hb.run 0) pa_nil h2) h1) hw hs) fun D σ H ⟨H0, F0, ρ, F, O, o, R, ev, af⟩ => by
  have e' : ((evalE p.cf 0 ca ρ).bind fun v => (evalE p.cf 0 cb ρ).bind fun w => Res.guard (Nat.blt i ρ.length && (Nat.blt j ρ.length && !(i == j))) (Res.ok (Out.nx ((ρ.set i (some (v, 0))).set j (some (w, 0)))))) = .ok o := ev
  obtain ⟨v, e1, e2⟩ := Res.bind_eq_ok e'
  obtain ⟨w, e3, e4⟩ := Res.bind_eq_ok e2
  obtain ⟨hg, e5⟩ := Res.guard_ok e4
  cases e5
  rw [Bool.and_eq_true, Bool.and_eq_true] at hg
  have li : i < ρ.length := by simpa [Nat.blt_eq] using hg.1
  have lj : j < ρ.length := by simpa [Nat.blt_eq] using hg.2.1
  refine tE_ok R.rel e1 fun u H1 F1 g1 r1 => tE_ok (R.rel.grow g1) e3 fun z H2 F2 g2 r2 => ?_
  refine ⟨u, z, rfl, ?_⟩
  have R2 := (R.set li (g1.trans g2) (own_zero.mpr ⟨rfl, rep_same g2.same g2.sub v 0 0 u (Nat.le_refl _) r1⟩) fun _ z => (nomatch z))
  have R3 := R2.set (i := j) (by rw [List.length_set]; exact lj) (Grow.refl (g1.trans g2).dom) (own_zero.mpr ⟨rfl, r2⟩) fun _ z => (nomatch z)
  exact af _ _ _ _ R3 (Step.of (g1.trans g2))⟩
/-- x[j].append(e), x a tuple of new lists -/
theorem vs_tapp (i : Nat) {j : Nat} (he : VE X p.nox e c) {q3 q4 : Pos} {j1 : Nat} (hN : X.N[i]? = some x := by rfl) (hv : Vis X.env.scope x := by first | exact Or.inl rfl | exact Or.inr (Or.inl rfl) | exact Or.inr (Or.inr rfl)) (hd : (x == ("__debug__" : Str)) = false := by decide) (hcd : (x == ("__classdict__" : Str)) = false := by decide)
    (hs : swapsWith (.Call (.Attribute (.Subscript (.Name x q0) (.Constant (.int (j : Nat)) j1 q4) q3) "append" q1) [e] [] q2) none pos.line X.env = pure false := by rfl)
    (hb : attributeBase (.Subscript (.Name x q0) (.Constant (.int (j : Nat)) j1 q4) q3) "append" X.env (eval (.Subscript (.Name x q0) (.Constant (.int (j : Nat)) j1 q4) q3) X.env) = eval (.Subscript (.Name x q0) (.Constant (.int (j : Nat)) j1 q4) q3) X.env := by rfl)
    (hf : ((backTo q2 (starEach [e] X.env)).all (fun x => !x.1) && (backToKw q2 (keywordEach [] X.env)).all (fun x => x.1.isSome) && decide ([e].length + ([] : List Keyword).length + (if ([] : List Keyword).isEmpty then 0 else 1) < 30)) = true := by rfl)
    (hl : (q1.endLine == q2.line) = true := by rfl) (h1 : starEach [e] X.env = (false, eval e X.env) :: starEach [] X.env := by rfl) (h2 : (backTo q2 (starEach [] X.env)).any (·.1) = false := by rfl) :
    VS X p fr (.Expr (.Call (.Attribute (.Subscript (.Name x q0) (.Constant (.int (j : Nat)) j1 q4) q3) "append" q1) [e] [] q2) pos) (.tapp i j c) := by
  refine ⟨PS.imp (ps_expr (pe_bm PySem.F.plainAttrs_list PySem.F.slot_list_append PySem.F.type_list_append mt_append (pe_ix ix_tup (pe_var hN hv hd hcd) pe_int (fun _ _ => rfl)) (pa_cons (he.run 0) pa_nil h1) hb hf hl h1 h2) hs) fun D σ H ⟨H0, F0, ρ, F, O, o, R, ev, af⟩ => ?_⟩
  have e' : ((evalE p.cf 0 c ρ).bind fun v => match ρ[i]? with
      | some (some (.tuple vs, t)) => Res.guard (Nat.beq t 2) ((ofOpt vs[j]?).bind fun l => (asList l).bind fun ys =>
          Res.guard (sizeOk (ys.length + 1)) (Res.ok (Out.nx (ρ.set i (some (.tuple (vs.set j (.list (ys ++ [v]))), 2))))))
      | _ => .bad) = .ok o := ev
  obtain ⟨v, e1, e2⟩ := Res.bind_eq_ok e'
  cases eq : ρ[i]? with
  | none =>
    rw [eq] at e2
    cases e2
  | some y =>
  rw [eq] at e2
  cases y with
  | none => cases e2
  | some y =>
  obtain ⟨w, t⟩ := y
  cases w with
  | tuple vs =>
    obtain ⟨ht, e3⟩ := Res.guard_ok e2
    obtain ⟨l, e4, e5⟩ := Res.bind_eq_ok e3
    obtain ⟨ys, e6, e7⟩ := Res.bind_eq_ok e5
    obtain ⟨hz, e8⟩ := Res.guard_ok e7
    cases e8
    have el := asList_ok e6
    subst el
    have ex := ofOpt_ok e4
    have et : t = 2 := Nat.eq_of_beq_eq_true ht
    subst et
    have hi := getElem_lt eq
    obtain ⟨u, hu, ow⟩ := R.rel.slot i _ 2 eq
    simp only [Own] at ow
    obtain ⟨a, ws, rfl, sq, oa⟩ := ow
    have nF1 : ∀ b ∈ O i, ¬ F b := fun b m => R.rel.notF i b m
    obtain ⟨b, zs, hw, hb1, mb, ra, chg⟩ := ownA_in oa ex nF1
    refine ⟨.ref a, hu, a, ws, ((j : Nat) : Int), .ref b, rfl, rfl, sq, ?_, .inl ⟨rfl, zs, SqL.of hb1⟩, tE_ok R.rel e1 fun y H2 F2 g2 ry => ?_⟩
    · have hj := getElem_lt hw
      unfold atI ixN
      rw [if_pos (by omega), if_pos (by omega)]
      exact hw
    have R3 := R.grow' g2
    have nF3 : ∀ b ∈ O i, ¬ F2 b := fun b m => R3.rel.notF i b m
    have oa3 : OwnA X.K H2 F2 1 (O i) ws vs := ownA_frame vs 1 (O i) ws oa (fun c o q _ => g2.same c o q) g2.sub
    obtain ⟨b3, zs3, hw3, hb3, mb3, ra3, chg3⟩ := ownA_in oa3 ex nF3
    rw [hw] at hw3
    cases hw3
    have eb := g2.same b _ hb1
    rw [hb3] at eb
    cases eb
    have ch := chg3 (zs ++ [y]) (ys ++ [v]) (repA_app ra3 (repA_cons ry repA_nil))
    obtain ⟨R4, s4⟩ := R3.mut (H' := upd H2 b (.lst (zs ++ [y]))) (F' := F2) (S := O i) (k := 2) (u := .ref a) (v := .tuple (vs.set j (.list (ys ++ [v])))) hi hu (fun c o q m => by
        rw [upd_ne fun z => m (by rw [z]; exact mb3)]
        exact q) (fun _ f => f) (fun _ f => .inl f) (fun c f => by
        by_cases q : c = b
        · rw [q, upd_same]
          simp
        · rw [upd_ne q]
          exact R3.rel.dom c f) (by
        simp only [Own]
        exact ⟨a, ws, rfl, sqT_keep (F := F2) (fun c o q m => by
          have : c ≠ b := fun z => by
            subst z
            rcases m with m | m
            · exact nF3 _ mb3 m
            · rw [hb3] at q
              cases q
              cases m
          rw [upd_ne this]
          exact q) (sqT_same g2.same sq), ch⟩) fun c m => ⟨R3.rel.notF i c m, fun j hj => R3.rel.disj i j c (fun z => hj z.symm) m, R3.new i c m⟩
    have hz' := sizeOk_of hz
    have l1 := repA_length ra3
    exact ⟨b, zs, y, rfl, rfl, hb3, by omega, af _ _ _ _ R4 ((Step.of g2).trans s4)⟩
  | _ => cases e2
end
/-! ### lent for a test -/
section
variable {K : PySem.W.Frag} {ρ : Env} {F F' F0 : Addr → Prop} {O : Nat → List Addr} {σ : St} {H H' H0 : Hp}
theorem Rel.drop1 (R : Rel K ρ F O σ H) (i k : Nat) : ∃ F' O', Rel K (VL.drop1 i k ρ) F' O' σ H ∧ (∀ a, F a → F' a) ∧ (∀ a, F' a → F a ∨ ∃ j, a ∈ O j) ∧ ∀ j, ∀ a ∈ O' j, a ∈ O j := by
  unfold VL.drop1
  split
  · rename_i v d e
    obtain ⟨F1, O1, R1, st, h1, h2, h3⟩ := (SRel.mk (H0 := fun _ => none) (F0 := fun _ => False) R ⟨fun _ _ z => (nomatch z), fun _ z => z.elim, fun a _ => .inr rfl, R.dom⟩ fun _ _ _ => rfl).drop1 e (Nat.min_le_left d k)
    have sub : ∀ a, F a → F1 a := st.sub
    exact ⟨F1, O1, R1.rel, sub, fun a f => (h1 a f).imp id fun m => ⟨i, m⟩, fun j a m => by
      by_cases q : j = i
      · subst q
        exact h3 a m
      · rw [h2 j q] at m
        exact m⟩
  · exact ⟨F, O, R, fun _ f => f, fun _ f => .inl f, fun _ _ m => m⟩
theorem Rel.dropL : ∀ (l : List (Nat × Nat)) {ρ : Env} {F : Addr → Prop} {O : Nat → List Addr}, Rel K ρ F O σ H → ∃ F' O', Rel K (VL.dropL l ρ) F' O' σ H ∧ (∀ a, F a → F' a) ∧ (∀ a, F' a → F a ∨ ∃ j, a ∈ O j) ∧ ∀ j, ∀ a ∈ O' j, a ∈ O j
  | [], ρ, F, O, R => ⟨F, O, R, fun _ f => f, fun _ f => .inl f, fun _ _ m => m⟩
  | (i, k) :: r, ρ, F, O, R => by
    obtain ⟨F1, O1, R1, a1, b1, c1⟩ := R.drop1 i k
    obtain ⟨F2, O2, R2, a2, b2, c2⟩ := Rel.dropL r R1
    exact ⟨F2, O2, R2, fun a f => a2 a (a1 a f), fun a f => (b2 a f).elim (b1 a) fun ⟨j, m⟩ => .inr ⟨j, c1 j a m⟩, fun j a m => c1 j a (c2 j a m)⟩
/-- what was lent comes back -/
theorem Rel.back (R : Rel K ρ F O σ H) {F1 : Addr → Prop} (h1 : ∀ a, F a → F1 a) (h2 : ∀ a, F1 a → F a ∨ ∃ j, a ∈ O j) (g : Grow H F1 H' F') : Grow H F H' (fun a => F' a ∧ ∀ j, a ∉ O j) where
  same := g.same
  sub := fun a f => ⟨g.sub a (h1 a f), fun j m => R.notF j a m f⟩
  new := fun a f => (g.new a f.1).elim (fun z => (h2 a z).elim .inl fun ⟨j, m⟩ => absurd m (f.2 j)) .inr
  dom := fun a f => g.dom a f.1
end
section
variable {X : Cx} {p : Par} {e : Expr} {c : E}
theorem rep_atomV {K : PySem.W.Frag} {H : Hp} {F F' : Addr → Prop} {k k' : Nat} {u : V} {v : Val} (a : atomV v = true) (h : Rep K H F k u v) : Rep K H F' k' u v := rep_atom (atomV_B a) h
theorem ve_lend (l : List (Nat × Nat)) (h : VE X p e c) : VE X p e (.lend l c) := ⟨fun k => PE.imp (h.run 9) fun σ H Q ⟨ρ, F, O, R, r⟩ => by
  obtain ⟨F1, O1, R1, a1, b1, _⟩ := R.dropL l
  have r1 : Run p ((evalE p.cf 9 c (dropL l ρ)).bind fun v => Res.guard (atomV v) (.ok v)) σ H _ := r
  refine ⟨_, F1, O1, R1, r1.bind.imp (Same.refl H) fun v _ q u H' F' g rp => ?_⟩
  cases ha : atomV v with
  | false =>
    simp only [ha, Res.guard] at q
    exact q.elim
  | true =>
    simp only [ha, Res.guard] at q
    exact q u H' _ (R.back a1 b1 g) (rep_atomV ha rp)⟩
theorem vt_lend (l : List (Nat × Nat)) (h : VT X p e c) : VT X p e (.lend l c) := ⟨PT.imp h.run fun σ H Q ⟨ρ, F, O, R, r⟩ => by
  obtain ⟨F1, O1, R1, a1, b1, _⟩ := R.dropL l
  have r1 : Run p (((evalE p.cf 9 c (dropL l ρ)).bind fun v => Res.guard (atomV v) (.ok v)).bind asBool) σ H _ := r
  refine ⟨_, F1, O1, R1, ?_⟩
  have gen : ∀ (r : Res Val) (good : Bool → Prop), Run p ((r.bind fun v => Res.guard (atomV v) (.ok v)).bind asBool) σ H good → Run p (r.bind asBool) σ H good := fun r good h => by
    cases r with
    | ok v => cases v <;> exact h
    | exc x v => exact h
    | bad => exact h
  exact (gen _ _ r1).imp (Same.refl H) fun b _ q H' F' g => q H' _ (R.back a1 b1 g)⟩
end
end VL

/-! VL, the plain side, part 0: typed values, and what the core tells of them. -/
namespace VL
open PySem

class Enc (α : Type) where
  enc : α → Val
  dep : Nat
  eqv : ∀ a b : α, PyData.eqv (enc a) (enc b) = true ↔ a = b
  lay : ∀ a : α, (enc a).canLay0 = true
  depth : ∀ a : α, (enc a).depth ≤ dep
open Enc
/-- a tuple of three -/
structure Tr (α β γ : Type) where
  a : α
  b : β
  c : γ
  deriving DecidableEq

instance : Enc Int where
  enc := .int
  dep := 0
  eqv := fun a b => by simp [PyData.eqv]
  lay := fun a => by simp [PyData.canLay0]
  depth := fun a => by simp [PyData.depth]
theorem eqvAll_map {α : Type} [Enc α] : ∀ (xs ys : List α), PyData.eqvAll (xs.map enc) (ys.map enc) = true ↔ xs = ys
  | [], [] => by simp [PyData.eqvAll]
  | [], y :: ys => by simp [PyData.eqvAll]
  | x :: xs, [] => by simp [PyData.eqvAll]
  | x :: xs, y :: ys => by
    simp only [List.map_cons, PyData.eqvAll, Bool.and_eq_true, eqv, eqvAll_map xs ys, List.cons.injEq]
theorem layAll_map {α : Type} [Enc α] : ∀ xs : List α, PyData.canLayAll0 (xs.map enc) = true
  | [] => by simp [PyData.canLayAll0]
  | x :: xs => by simp only [List.map_cons, PyData.canLayAll0, lay, layAll_map xs, Bool.and_self]
theorem depAll_map {α : Type} [Enc α] : ∀ xs : List α, PyData.depthAll (xs.map enc) ≤ dep α
  | [] => by simp [PyData.depthAll]
  | x :: xs => by
    simp only [List.map_cons, PyData.depthAll]
    exact Nat.max_le.mpr ⟨depth x, depAll_map xs⟩
instance {α : Type} [Enc α] : Enc (List α) where
  enc := fun xs => .list (xs.map enc)
  dep := dep α + 1
  eqv := fun a b => by simp only [PyData.eqv]; exact eqvAll_map a b
  lay := fun a => by simp only [PyData.canLay0]; exact layAll_map a
  depth := fun a => by simp only [PyData.depth]; exact Nat.succ_le_succ (depAll_map a)
instance {α β : Type} [Enc α] [Enc β] : Enc (α × β) where
  enc := fun p => .tuple [enc p.1, enc p.2]
  dep := dep α + dep β + 1
  eqv := fun a b => by
    simp only [PyData.eqv, PyData.eqvAll, Bool.and_true, Bool.and_eq_true, eqv]
    exact ⟨fun h => Prod.ext h.1 h.2, fun h => by rw [h]; exact ⟨rfl, rfl⟩⟩
  lay := fun a => by simp only [PyData.canLay0, PyData.canLayAll0, lay, Bool.and_self]
  depth := fun a => by
    simp only [PyData.depth, PyData.depthAll]
    have h1 := depth a.1
    have h2 := depth a.2
    omega
instance {α β γ : Type} [Enc α] [Enc β] [Enc γ] : Enc (Tr α β γ) where
  enc := fun p => .tuple [enc p.a, enc p.b, enc p.c]
  dep := dep α + dep β + dep γ + 1
  eqv := fun a b => by
    cases a
    cases b
    simp only [PyData.eqv, PyData.eqvAll, Bool.and_true, Bool.and_eq_true, eqv, Tr.mk.injEq]
  lay := fun a => by simp only [PyData.canLay0, PyData.canLayAll0, lay, Bool.and_self]
  depth := fun a => by
    simp only [PyData.depth, PyData.depthAll]
    have h1 := depth a.a
    have h2 := depth a.b
    have h3 := depth a.c
    omega
theorem enc_int (i : Int) : (enc i : Val) = .int i := rfl
theorem enc_list {α : Type} [Enc α] (xs : List α) : (enc xs : Val) = .list (xs.map enc) := rfl
theorem enc_pair {α β : Type} [Enc α] [Enc β] (p : α × β) : (enc p : Val) = .tuple [enc p.1, enc p.2] := rfl
theorem enc_tr {α β γ : Type} [Enc α] [Enc β] [Enc γ] (p : Tr α β γ) : (enc p : Val) = .tuple [enc p.a, enc p.b, enc p.c] := rfl
theorem shaped_enc {α : Type} [Enc α] (h : dep α ≤ 64) (a : α) : shapedB (enc a) = true := by
  unfold shapedB SeqAt.shaped
  rw [lay, Bool.true_and, decide_eq_true_eq]
  exact Nat.le_trans (depth a) h
theorem eqv_enc {α : Type} [Enc α] [DecidableEq α] (a b : α) : PyData.eqv (enc a) (enc b) = decide (a = b) := by
  by_cases h : a = b
  · rw [decide_eq_true h]
    exact (eqv a b).mpr h
  · rw [decide_eq_false h]
    exact Bool.eq_false_iff.mpr fun z => h ((eqv a b).mp z)
section
variable {α : Type} [Enc α] [DecidableEq α]
theorem den_eq (h : dep α ≤ 64) (a b : α) : den .eq [enc a, enc b] = .ok (.bool (decide (a = b))) := by
  show vEq (enc a) (enc b) = _
  unfold vEq
  rw [shaped_enc h, shaped_enc h, eqv_enc]
  rfl
theorem den_ne (h : dep α ≤ 64) (a b : α) : den .ne [enc a, enc b] = .ok (.bool (!decide (a = b))) := by
  show vNe (enc a) (enc b) = _
  unfold vNe
  rw [shaped_enc h, shaped_enc h, eqv_enc]
  rfl
theorem memB_enc (x : α) : ∀ ys : List α, memB (enc x) (ys.map enc) = decide (x ∈ ys)
  | [] => by simp [memB]
  | y :: ys => by
    have := memB_enc x ys
    unfold memB at this ⊢
    rw [List.map_cons, List.any_cons, this, eqv_enc]
    by_cases h : y = x
    · simp [h]
    · have h' : ¬ x = y := fun z => h z.symm
      simp [h, h']
theorem den_in (h : dep α + 1 ≤ 64) (x : α) (ys : List α) : den .isin [enc x, .list (ys.map enc)] = .ok (.bool (decide (x ∈ ys))) := by
  show Res.guard (shapedB (enc x) && shapedB (enc ys)) (Res.ok (PyData.bool (memB (enc x) (ys.map enc)))) = _
  rw [shaped_enc (by omega), shaped_enc (α := List α) h, memB_enc]
  rfl
theorem den_notin (h : dep α + 1 ≤ 64) (x : α) (ys : List α) : den .notin [enc x, .list (ys.map enc)] = .ok (.bool (!decide (x ∈ ys))) := by
  show Res.guard (shapedB (enc x) && shapedB (enc ys)) (Res.ok (PyData.bool (!memB (enc x) (ys.map enc)))) = _
  rw [shaped_enc (by omega), shaped_enc (α := List α) h, memB_enc]
  rfl
end
theorem sizeOk_iff {n : Nat} : sizeOk n = true ↔ n ≤ 16777216 := by
  unfold sizeOk sizeLine
  rw [decide_eq_true_eq]
theorem sizeOk_le {n : Nat} (h : n ≤ 16777216) : sizeOk n = true := sizeOk_iff.mpr h
theorem den_addL {xs ys : List Val} (h : xs.length + ys.length ≤ 16777216) : den .add [.list xs, .list ys] = .ok (.list (xs ++ ys)) := by
  show Res.guard (sizeOk (xs.length + ys.length)) _ = _
  rw [sizeOk_le h]
  rfl
theorem den_lst {ss : List Bool} {vs xs : List Val} {d : Nat} (e : starred ss vs = some xs) (h : xs.length ≤ 16777216) : den (.lst d ss) vs = .ok (.list xs) := by
  show vLst ss vs = _
  unfold vLst
  rw [e]
  show Res.guard (sizeOk xs.length) _ = _
  rw [sizeOk_le h]
  rfl
theorem den_sset {is : List Int} (h : (intsOnce is).length < 64) : den .sortedSet [(PyData.list (is.map PyData.int))] = .ok (.list ((intsOnce is).map .int)) := by
  show vSortedSet (.list (is.map .int)) = _
  unfold vSortedSet
  have e : intsOf (is.map .int) = some is := by
    clear h
    induction is with
    | nil => rfl
    | cons i is ih =>
      show (intsOf (is.map .int)).map (i :: ·) = _
      rw [ih]
      rfl
  dsimp only
  rw [e]
  show Res.guard (decide ((intsOnce is).length < 64)) _ = _
  rw [decide_eq_true h]
  rfl

/-! ### comprehensions -/
section
variable {cf : Nat → List Val → Res Val} {k d : Nat} {w w2 : List Nat} {elt it it2 : E} {t t2 : Pat} {ifs ifs2 : Option E} {ρ : Env} {α β : Type}
theorem compL_map {f : Val → Res (Option Val)} {e : α → Val} {e2 : β → Val} {g : α → Option β} : ∀ {l : List α}, (∀ x ∈ l, f (e x) = .ok ((g x).map e2)) → compL f (l.map e) = .ok ((l.filterMap g).map e2)
  | [], _ => rfl
  | x :: l, h => by
    show (f (e x)).bind _ = _
    rw [h x List.mem_cons_self]
    show (compL f (l.map e)).bind _ = _
    rw [compL_map fun y hy => h y (List.mem_cons_of_mem _ hy)]
    cases q : g x with
    | none => simp [q]
    | some y => simp [q]
/-- with a test p, and h told -/
theorem comp_eq (e : α → Val) (e2 : β → Val) (p : α → Bool) (h : α → β) (ρ' : α → Env) {l : List α} (hi : (evalE cf 1 it ρ).bind asSeq = .ok (l.map e)) (hb : ∀ x ∈ l, bindP t (e x) (killL w ρ) = .ok (ρ' x)) (hc : ∀ x ∈ l, evalO cf ifs (ρ' x) = .ok (p x))
    (he : ∀ x ∈ l, p x = true → evalE cf 0 elt (ρ' x) = .ok (e2 (h x))) (hz : l.length ≤ 16777216) : evalE cf k (.comp w d elt t it ifs) ρ = .ok (.list (((l.filter p).map h).map e2)) := by
  have hx : ∀ x ∈ l, turn1 cf w elt t ifs ρ (e x) = .ok ((if p x then some (h x) else none).map e2) := fun x m => by
    unfold turn1
    rw [hb x m, Res.bind_ok, hc x m, Res.bind_ok]
    cases q : p x with
    | true =>
      show ((evalE cf 0 elt (ρ' x)).quiet).bind _ = _
      rw [he x m q]
      rfl
    | false => rfl
  obtain ⟨v, e1, e3⟩ := Res.bind_eq_ok hi
  show ((evalE cf 1 it ρ).bind fun s => (asSeq s).bind fun xs => (compL (turn1 cf w elt t ifs ρ) xs).bind fun r => Res.guard (sizeOk r.length) (Res.ok (PyData.list r))) = _
  rw [e1, Res.bind_ok, e3, Res.bind_ok, compL_map hx, Res.bind_ok]
  have e4 : l.filterMap (fun x => if p x then some (h x) else none) = (l.filter p).map h := by
    clear hi hb hc he hz hx e3 e1
    induction l with
    | nil => rfl
    | cons x l ih =>
      rw [List.filterMap_cons, List.filter_cons]
      cases q : p x with
      | true => simp [ih]
      | false => simp [ih]
  rw [e4, sizeOk_le]
  · rfl
  · rw [List.length_map, List.length_map]
    exact Nat.le_trans (List.length_filter_le _ _) hz
/-- two clauses, without tests -/
theorem compLL_map {f : Val → Res (List Val)} {e : α → Val} {e2 : β → Val} {g : α → List β} : ∀ {l : List α}, (∀ x ∈ l, f (e x) = .ok ((g x).map e2)) → compLL f (l.map e) = .ok ((l.flatMap g).map e2)
  | [], _ => rfl
  | x :: l, h => by
    show (f (e x)).bind _ = _
    rw [h x List.mem_cons_self]
    show (compLL f (l.map e)).bind _ = _
    rw [compLL_map fun y hy => h y (List.mem_cons_of_mem _ hy)]
    simp
end

/-! ### statements -/
section
variable {cf : Nat → List Val → Res Val} {ρ : Env} {ss : List S} {r : Res Out} {c : E} {v : Val} {i d : Nat}
theorem evalD_rt {Pr : Prog} {n f : Nat} {d : Def} {vs : List Val} {v : Val} (h : Pr f = some d) (hl : vs.length = d.np) (e : evalSs (evalD Pr n) d.body (startE d vs) = .ok (.rt v)) : evalD Pr (n + 1) f vs = .ok v := by
  unfold evalD
  rw [h]
  show Res.guard (decide (vs.length = d.np)) _ = _
  rw [decide_eq_true hl, e]
  rfl
theorem evalD_nx {Pr : Prog} {n f : Nat} {d : Def} {vs : List Val} {ρ : Env} (h : Pr f = some d) (hl : vs.length = d.np) (e : evalSs (evalD Pr n) d.body (startE d vs) = .ok (.nx ρ)) : evalD Pr (n + 1) f vs = .ok .none := by
  unfold evalD
  rw [h]
  show Res.guard (decide (vs.length = d.np)) _ = _
  rw [decide_eq_true hl, e]
  rfl
theorem ss_cons {s : S} {ρ' : Env} (h : evalS cf s ρ = .ok (.nx ρ')) (h2 : evalSs cf ss ρ' = r) : evalSs cf (s :: ss) ρ = r := by
  show (evalS cf s ρ).bind _ = _
  rw [h]
  exact h2
theorem ss_end {s : S} {o : Out} (h : evalS cf s ρ = .ok o) (hn : ∀ ρ', o ≠ .nx ρ') : evalSs cf (s :: ss) ρ = .ok o := by
  show (evalS cf s ρ).bind _ = _
  rw [h]
  cases o with
  | nx ρ' => exact absurd rfl (hn ρ')
  | _ => rfl
theorem ss_set (e : evalE cf 0 c ρ = .ok v) (h2 : evalSs cf ss (ρ.set i (some (v, d))) = r) (hl : Nat.blt i ρ.length = true := by rfl) : evalSs cf (.set i c d :: ss) ρ = r := by
  refine ss_cons ?_ h2
  show (evalE cf 0 c ρ).bind _ = _
  rw [e]
  show Res.guard (Nat.blt i ρ.length) _ = _
  rw [hl]
  rfl
theorem ss_ret (e : evalE cf 0 c ρ = .ok v) : evalSs cf (.ret c :: ss) ρ = .ok (.rt v) := by
  refine ss_end (o := .rt v) ?_ fun _ h => nomatch h
  show (evalE cf 0 c ρ).bind _ = _
  rw [e]
  rfl
theorem ss_asg {p : Pat} {ρ' : Env} (e : evalE cf 0 c ρ = .ok v) (hb : bindP p v ρ = .ok ρ') (h2 : evalSs cf ss ρ' = r) : evalSs cf (.asg p c :: ss) ρ = r := by
  refine ss_cons ?_ h2
  show (evalE cf 0 c ρ).bind _ = _
  rw [e]
  show (bindP p v ρ).bind _ = _
  rw [hb]
  rfl
theorem ss_expr (e : evalE cf 0 c ρ = .ok v) (h2 : evalSs cf ss ρ = r) : evalSs cf (.expr c :: ss) ρ = r := by
  refine ss_cons ?_ h2
  show (evalE cf 0 c ρ).bind _ = _
  rw [e]
  rfl
theorem s_if {a b : List S} {t : Bool} {o : Res Out} (e : evalE cf 9 c ρ = .ok (.bool t)) (h : (if t then evalSs cf a ρ else evalSs cf b ρ) = o) : evalS cf (.iff c a b) ρ = o := by
  show (evalE cf 9 c ρ).bind _ = _
  rw [e]
  cases t with
  | true => exact h
  | false => exact h
theorem ss_ifT {a b : List S} (e : evalE cf 9 c ρ = .ok (.bool true)) (h2 : (evalSs cf a ρ).bind (fun o => match o with
    | .nx ρ' => evalSs cf ss ρ'
    | o => .ok o) = r) : evalSs cf (.iff c a b :: ss) ρ = r := by
  show (evalS cf (.iff c a b) ρ).bind _ = _
  rw [s_if (o := evalSs cf a ρ) e rfl]
  exact h2
theorem ss_ifF {a b : List S} (e : evalE cf 9 c ρ = .ok (.bool false)) (h2 : (evalSs cf b ρ).bind (fun o => match o with
    | .nx ρ' => evalSs cf ss ρ'
    | o => .ok o) = r) : evalSs cf (.iff c a b :: ss) ρ = r := by
  show (evalS cf (.iff c a b) ρ).bind _ = _
  rw [s_if (o := evalSs cf b ρ) e rfl]
  exact h2
theorem ss_app {xs : List Val} {t : Nat} (e : evalE cf 0 c ρ = .ok v) (ho : getOwn ρ i (d + 1) = .ok (xs, t)) (hz : xs.length + 1 ≤ 16777216) (h2 : evalSs cf ss (ρ.set i (some (.list (xs ++ [v]), d + 1))) = r) : evalSs cf (.app i c d :: ss) ρ = r := by
  refine ss_cons ?_ h2
  show (evalE cf 0 c ρ).bind _ = _
  rw [e]
  show (getOwn ρ i (d + 1)).bind _ = _
  rw [ho]
  show Res.guard (sizeOk (xs.length + 1)) _ = _
  rw [sizeOk_le hz]
  rfl
theorem ss_ext {xs ys : List Val} {t : Nat} (e : evalE cf 0 c ρ = .ok (.list ys)) (ho : getOwn ρ i 1 = .ok (xs, t)) (hz : xs.length + ys.length ≤ 16777216) (h2 : evalSs cf ss (ρ.set i (some (.list (xs ++ ys), 1))) = r) : evalSs cf (.ext i c :: ss) ρ = r := by
  refine ss_cons ?_ h2
  show (evalE cf 0 c ρ).bind _ = _
  rw [e]
  show (getOwn ρ i 1).bind _ = _
  rw [ho]
  show Res.guard (sizeOk (xs.length + ys.length)) _ = _
  rw [sizeOk_le hz]
  rfl
/-- for: the invariant I by what is done; J: slots that do not matter -/
theorem forL_inv {α σ J : Type} {b : Val → Env → Res Out} {e : α → Val} (E : σ → J → Env) (I : List α → σ → Prop) {l : List α} (hb : ∀ pre x post s j, l = pre ++ x :: post → I pre s → ∃ s' j', b (e x) (E s j) = .ok (.nx (E s' j')) ∧ I (pre ++ [x]) s') :
    ∀ (post pre : List α) (s : σ) (j : J), l = pre ++ post → I pre s → ∃ s' j', forL b (post.map e) (E s j) = .ok (.nx (E s' j')) ∧ I l s'
  | [], pre, s, j, hl, hs => ⟨s, j, rfl, by rw [hl, List.append_nil]; exact hs⟩
  | x :: post, pre, s, j, hl, hs => by
    obtain ⟨s1, j1, h1, h2⟩ := hb pre x post s j hl hs
    obtain ⟨s2, j2, h3, h4⟩ := forL_inv E I hb post (pre ++ [x]) s1 j1 (by rw [hl]; simp) h2
    refine ⟨s2, j2, ?_, h4⟩
    show (b (e x) (E s j)).bind _ = _
    rw [h1]
    exact h3
theorem ss_for {α σ J : Type} {t : Pat} {it : E} {body : List S} {l : List α} (e : α → Val) (hi : (evalE cf 0 it ρ).bind asSeq = .ok (l.map e)) (E : σ → J → Env) (I : List α → σ → Prop) (s0 : σ) (j0 : J) (hρ : ρ = E s0 j0) (h0 : I [] s0)
    (hb : ∀ pre x post s j, l = pre ++ x :: post → I pre s → ∃ s' j' ρ', bindP t (e x) (E s j) = .ok ρ' ∧ evalSs cf body ρ' = .ok (.nx (E s' j')) ∧ I (pre ++ [x]) s') (h2 : ∀ s j, I l s → evalSs cf ss (E s j) = r) : evalSs cf (.for t it body :: ss) ρ = r := by
  obtain ⟨s1, j1, h3, h4⟩ := forL_inv (b := fun v ρ => (bindP t v ρ).bind fun ρ' => evalSs cf body ρ') (e := e) E I (l := l) (fun pre x post s j hl hs => by
    obtain ⟨s', j', ρ', e1, e2, e3⟩ := hb pre x post s j hl hs
    refine ⟨s', j', ?_, e3⟩
    show (bindP t (e x) (E s j)).bind _ = _
    rw [e1]
    exact e2) l [] s0 j0 rfl h0
  refine ss_cons ?_ (h2 s1 j1 h4)
  obtain ⟨v, e1, e2⟩ := Res.bind_eq_ok hi
  show (evalE cf 0 it ρ).bind _ = _
  rw [e1]
  show (asSeq v).bind _ = _
  rw [e2, hρ]
  exact h3
/-- while: by a measure -/
theorem whileL_inv {σ J : Type} {c : Env → Res Bool} {b : Env → Res Out} (E : σ → J → Env) (go : σ → Bool) (I : σ → Prop) (μ : σ → Nat) (hc : ∀ s j, I s → c (E s j) = .ok (go s)) (hb : ∀ s j, I s → go s = true → ∃ s' j', b (E s j) = .ok (.nx (E s' j')) ∧ I s' ∧ μ s' < μ s) :
    ∀ (n : Nat) (s : σ) (j : J), I s → μ s < n → ∃ s' j', whileL c b n (E s j) = .ok (.nx (E s' j')) ∧ I s' ∧ go s' = false
  | 0, s, _, _, h => absurd h (Nat.not_lt_zero _)
  | n + 1, s, j, hs, hn => by
    cases q : go s with
    | false =>
      refine ⟨s, j, ?_, hs, q⟩
      show (c (E s j)).bind _ = _
      rw [hc s j hs, q]
      rfl
    | true =>
      obtain ⟨s1, j1, h1, h2, h3⟩ := hb s j hs q
      obtain ⟨s', j', h4, h5, h6⟩ := whileL_inv E go I μ hc hb n s1 j1 h2 (by omega)
      refine ⟨s', j', ?_, h5, h6⟩
      show (c (E s j)).bind _ = _
      rw [hc s j hs, q]
      show (b (E s j)).bind _ = _
      rw [h1]
      exact h4
theorem ss_whl {σ J : Type} {body : List S} (E : σ → J → Env) (go : σ → Bool) (I : σ → Prop) (μ : σ → Nat) (s0 : σ) (j0 : J) (hρ : ρ = E s0 j0) (h0 : I s0) (hm : μ s0 < 1000000) (hc : ∀ s j, I s → evalE cf 9 c (E s j) = .ok (.bool (go s)))
    (hb : ∀ s j, I s → go s = true → ∃ s' j', evalSs cf body (E s j) = .ok (.nx (E s' j')) ∧ I s' ∧ μ s' < μ s) (h2 : ∀ s j, I s → go s = false → evalSs cf ss (E s j) = r) : evalSs cf (.whl c body :: ss) ρ = r := by
  obtain ⟨s1, j1, h3, h4, h5⟩ := whileL_inv (c := fun ρ => (evalE cf 9 c ρ).bind fun x => asBool x) (b := fun ρ => evalSs cf body ρ) E go I μ (fun s j hs => by
    show (evalE cf 9 c (E s j)).bind _ = _
    rw [hc s j hs]
    rfl) hb LIM s0 j0 h0 hm
  refine ss_cons ?_ (h2 s1 j1 h4 h5)
  rw [hρ]
  exact h3
end

/-! ### tests, operations -/
section
variable {cf : Nat → List Val → Res Val} {ρ : Env} {a b c : E} {x y z v : Val} {k : Nat} {o : Op} {p q : Bool}
theorem ev1 (h : evalE cf (octx o k) a ρ = .ok x) {r : Res Val} (hd : den o [x] = r) : evalE cf k (.op o [a]) ρ = r := by
  show (((evalE cf (octx o k) a ρ).bind fun v => Res.ok [v]).bind fun vs => den o vs) = r
  rw [h]
  exact hd
theorem ev2 (h : evalE cf (octx o k) a ρ = .ok x) (h2 : evalE cf (octx o k) b ρ = .ok y) {r : Res Val} (hd : den o [x, y] = r) : evalE cf k (.op o [a, b]) ρ = r := by
  show (((evalE cf (octx o k) a ρ).bind fun v => ((evalE cf (octx o k) b ρ).bind fun w => Res.ok [w]).bind fun vs => Res.ok (v :: vs)).bind fun vs => den o vs) = r
  rw [h]
  show ((((evalE cf (octx o k) b ρ).bind fun w => Res.ok [w]).bind fun vs => Res.ok (x :: vs)).bind fun vs => den o vs) = r
  rw [h2]
  exact hd
theorem evs_cons {e : E} {es : List E} {vs : List Val} (h : evalE cf k e ρ = .ok v) (h2 : evalEs cf k es ρ = .ok vs) : evalEs cf k (e :: es) ρ = .ok (v :: vs) := by
  show ((evalE cf k e ρ).bind fun v => (evalEs cf k es ρ).bind fun vs => Res.ok (v :: vs)) = _
  rw [h, Res.bind_ok, h2]
  rfl
theorem evs_nil : evalEs cf k [] ρ = .ok [] := rfl
theorem ev_op {es : List E} {vs : List Val} (h : evalEs cf (octx o k) es ρ = .ok vs) {r : Res Val} (hd : den o vs = r) : evalE cf k (.op o es) ρ = r := by
  show ((evalEs cf (octx o k) es ρ).bind fun vs => den o vs) = r
  rw [h]
  exact hd
theorem ev_call {f : Nat} {es : List E} {vs : List Val} (h : evalEs cf 0 es ρ = .ok vs) (hc : cf f vs = .ok v) : evalE cf k (.call f es) ρ = .ok v := by
  show ((evalEs cf 0 es ρ).bind fun vs => (cf f vs).quiet) = _
  rw [h, Res.bind_ok, hc]
  rfl
/-- a test -/
abbrev CB (cf : Nat → List Val → Res Val) (c : E) (ρ : Env) (p : Bool) : Prop := evalE cf 9 c ρ = .ok (.bool p)
theorem cb_and (h : CB cf a ρ p) (h2 : p = true → CB cf b ρ q) : CB cf (.and a b) ρ (p && q) := by
  show ((evalE cf 9 a ρ).bind fun x => (asBool x).bind fun t => match t with
    | true => evalE cf 9 b ρ
    | false => Res.ok (PyData.bool false)) = _
  rw [h]
  cases p with
  | true => exact h2 rfl
  | false => rfl
theorem cb_or (h : CB cf a ρ p) (h2 : p = false → CB cf b ρ q) : CB cf (.or a b) ρ (p || q) := by
  show ((evalE cf 9 a ρ).bind fun x => (asBool x).bind fun t => match t with
    | true => Res.ok (PyData.bool true)
    | false => evalE cf 9 b ρ) = _
  rw [h]
  cases p with
  | true => rfl
  | false => exact h2 rfl
theorem cb_not (h : CB cf a ρ p) : CB cf (.op .not [a]) ρ (!p) := ev1 h rfl
theorem cb_in {α : Type} [Enc α] [DecidableEq α] {x : α} {ys : List α} {dc : Decidable (x ∈ ys)} (h : evalE cf 9 a ρ = .ok (enc x)) (h2 : evalE cf 9 b ρ = .ok (enc ys)) (hd : dep α + 1 ≤ 64 := by decide) : CB cf (.op .isin [a, b]) ρ (@decide (x ∈ ys) dc) := by
  cases Subsingleton.elim dc (@List.instDecidableMemOfLawfulBEq α instBEqOfDecidableEq _ x ys)
  exact ev2 h h2 (den_in hd x ys)
theorem cb_notin {α : Type} [Enc α] [DecidableEq α] {x : α} {ys : List α} {dc : Decidable (x ∈ ys)} (h : evalE cf 9 a ρ = .ok (enc x)) (h2 : evalE cf 9 b ρ = .ok (enc ys)) (hd : dep α + 1 ≤ 64 := by decide) : CB cf (.op .notin [a, b]) ρ (!@decide (x ∈ ys) dc) := by
  cases Subsingleton.elim dc (@List.instDecidableMemOfLawfulBEq α instBEqOfDecidableEq _ x ys)
  exact ev2 h h2 (den_notin hd x ys)
theorem cb_eq {α : Type} [Enc α] [DecidableEq α] {x y : α} (h : evalE cf 9 a ρ = .ok (enc x)) (h2 : evalE cf 9 b ρ = .ok (enc y)) (hd : dep α ≤ 64 := by decide) : CB cf (.op .eq [a, b]) ρ (decide (x = y)) := ev2 h h2 (den_eq hd x y)
theorem cb_ne {α : Type} [Enc α] [DecidableEq α] {x y : α} (h : evalE cf 9 a ρ = .ok (enc x)) (h2 : evalE cf 9 b ρ = .ok (enc y)) (hd : dep α ≤ 64 := by decide) : CB cf (.op .ne [a, b]) ρ (!decide (x = y)) := ev2 h h2 (den_ne hd x y)
theorem cb_gt {i j : Int} (h : evalE cf 9 a ρ = .ok (.int i)) (h2 : evalE cf 9 b ρ = .ok (.int j)) : CB cf (.op .gt [a, b]) ρ (decide (j < i)) := ev2 h h2 rfl
theorem cb_lt {i j : Int} (h : evalE cf 9 a ρ = .ok (.int i)) (h2 : evalE cf 9 b ρ = .ok (.int j)) : CB cf (.op .lt [a, b]) ρ (decide (i < j)) := ev2 h h2 rfl
theorem cb_le {i j : Int} (h : evalE cf 9 a ρ = .ok (.int i)) (h2 : evalE cf 9 b ρ = .ok (.int j)) : CB cf (.op .le [a, b]) ρ (decide (i ≤ j)) := ev2 h h2 rfl
theorem cb_ge {i j : Int} (h : evalE cf 9 a ρ = .ok (.int i)) (h2 : evalE cf 9 b ρ = .ok (.int j)) : CB cf (.op .ge [a, b]) ρ (decide (j ≤ i)) := ev2 h h2 rfl
theorem cb_chain {i j l : Int} {o o' : Op} (h : evalE cf 9 a ρ = .ok (.int i)) (h2 : evalE cf 9 b ρ = .ok (.int j)) (h3 : evalE cf 9 c ρ = .ok (.int l)) (d1 : den o [.int i, .int j] = .ok (.bool p)) (d2 : den o' [.int j, .int l] = .ok (.bool q)) : CB cf (.chain o o' a b c) ρ (p && q) := by
  show ((evalE cf 9 a ρ).bind fun x => (evalE cf 9 b ρ).bind fun y => (den o [x, y]).bind fun r => (asBool r).bind fun t => match t with
    | true => (evalE cf 9 c ρ).bind fun z => den o' [y, z]
    | false => Res.ok (PyData.bool false)) = _
  rw [h, Res.bind_ok, h2, Res.bind_ok, d1]
  cases p with
  | true =>
    show ((evalE cf 9 c ρ).bind fun z => den o' [.int j, z]) = _
    rw [h3]
    exact d2
  | false => rfl
theorem evalO_of (h : CB cf c ρ p) : evalO cf (some c) ρ = .ok p := by
  show ((evalE cf 9 c ρ).quiet).bind _ = _
  rw [h]
  rfl
theorem seq_of {l : List Val} (h : evalE cf k a ρ = .ok (.list l)) : (evalE cf k a ρ).bind asSeq = .ok l := by
  rw [h]
  rfl
theorem ev_len {l : List Val} (h : evalE cf 9 a ρ = .ok (.list l)) : evalE cf k (.op .len [a]) ρ = .ok (.int l.length) := ev1 (o := .len) h rfl
end

/-! ### lists -/
theorem nodup_le {α : Type} [DecidableEq α] : ∀ {l m : List α}, l.Nodup → (∀ x ∈ l, x ∈ m) → l.length ≤ m.length
  | [], _, _, _ => Nat.zero_le _
  | x :: l, m, h, s => by
    obtain ⟨h1, h2⟩ := List.nodup_cons.mp h
    have mx := s x List.mem_cons_self
    have := nodup_le (m := m.erase x) h2 fun y hy => (List.mem_erase_of_ne (fun z => h1 (by rw [← z]; exact hy))).mpr (s y (List.mem_cons_of_mem _ hy))
    rw [List.length_erase_of_mem mx] at this
    have pos := List.length_pos_of_mem mx
    rw [List.length_cons]
    omega
theorem nodup_lt {α : Type} [DecidableEq α] {l m : List α} {y : α} (h : l.Nodup) (s : ∀ x ∈ l, x ∈ m) (hy : y ∈ m) (ny : y ∉ l) : l.length < m.length := by
  have := nodup_le (l := y :: l) (m := m) (List.nodup_cons.mpr ⟨ny, h⟩) fun x hx => by
    rcases List.mem_cons.mp hx with e | e
    · rw [e]
      exact hy
    · exact s x e
  exact this
theorem nodup_of_sorted {l : List Int} (h : l.Pairwise (· < ·)) : l.Nodup := h.imp fun h => by omega
/-- 0, 1, .. below m -/
def upto (m : Int) : List Int := (List.range m.toNat).map fun i => ((i : Nat) : Int)
theorem mem_upto {m x : Int} : x ∈ upto m ↔ 0 ≤ x ∧ x < m := by
  unfold upto
  rw [List.mem_map]
  constructor
  · rintro ⟨i, hi, rfl⟩
    have := List.mem_range.mp hi
    omega
  · rintro ⟨h1, h2⟩
    exact ⟨x.toNat, List.mem_range.mpr (by omega), by omega⟩
theorem upto_length {m : Int} : (upto m).length = m.toNat := by simp [upto]
theorem upto_nodup {m : Int} : (upto m).Nodup := by
  unfold upto
  refine List.Pairwise.map (R := fun a b => a ≠ b) _ (fun a b h => ?_) List.nodup_range
  omega
theorem below_len {l : List Int} {m : Int} (h : l.Nodup) (hb : ∀ x ∈ l, 0 ≤ x ∧ x < m) : l.length ≤ m.toNat := by
  have := nodup_le (m := upto m) h fun x hx => mem_upto.mpr (hb x hx)
  rwa [upto_length] at this
theorem once_mem {x : Int} (l : List Int) : x ∈ intsOnce l ↔ x ∈ l := by
  have gen : ∀ (l acc : List Int), x ∈ l.foldl (fun acc k => insS k acc) acc ↔ x ∈ l ∨ x ∈ acc := by
    intro l
    induction l with
    | nil => simp
    | cons k l ih =>
      intro acc
      rw [List.foldl_cons, ih, insS_mem, List.mem_cons]
      constructor
      · rintro (h | h | h)
        · exact .inl (.inr h)
        · exact .inl (.inl h)
        · exact .inr h
      · rintro ((h | h) | h)
        · exact .inr (.inl h)
        · exact .inl h
        · exact .inr (.inr h)
  have := gen l []
  simpa [intsOnce] using this
theorem once_sorted (l : List Int) : (intsOnce l).Pairwise (· < ·) := (once_le l List.Pairwise.nil).2
theorem once_len {l : List Int} {m : Int} (hb : ∀ x ∈ l, 0 ≤ x ∧ x < m) : (intsOnce l).length ≤ m.toNat := below_len (nodup_of_sorted (once_sorted l)) fun x hx => hb x ((once_mem l).mp hx)
end VL

namespace VL
open PySem
def k_first_bad : Def := ⟨3, 6, 0, [.for (.tup [(.slot 3), (.tup [(.slot 4), (.slot 5)])]) (.op .enum [(.var 1)]) [.iff (.or (.op .not [(.chain .le .lt (.cst (.int 0)) (.var 4) (.var 0))]) (.or (.op .not [(.chain .le .lt (.cst (.int 0)) (.var 5) (.var 0))]) (.or (.op .eq [(.var 4), (.var 5)]) (.and (.var 2) (.op .gt [(.var 4), (.var 5)]))))) [.retv 3 0] [], .iff (.and (.op .gt [(.var 3), (.cst (.int 0))]) (.op .ge [(.op .idx [(.var 1), (.op .sub [(.var 3), (.cst (.int 1))])]), (.op (.tup [false, false]) [(.var 4), (.var 5)])])) [.retv 3 0] []], .ret (.cst .none)]⟩
def k_rest_of : Def := ⟨2, 8, 0, [.set 2 (.op .list [.op .range [(.var 0)]]) 0, .set 3 (.cst (.bool true)) 0, .whl (.var 3) [.set 4 (.comp [5] 0 (.var 5) (.slot 5) (.var 2) (some (.op .eq [(.op .len [(.comp [6, 7] 0 (.var 6) (.tup [(.slot 6), (.slot 7)]) (.var 1) (some (.and (.op .eq [(.var 7), (.var 5)]) (.op .isin [(.var 6), (.var 2)]))))]), (.cst (.int 0))]))) 0, .set 2 (.comp [5] 0 (.var 5) (.slot 5) (.var 2) (some (.op .notin [(.var 5), (.var 4)]))) 0, .set 3 (.op .gt [(.op .len [(.var 4)]), (.cst (.int 0))]) 0], .retv 2 0]⟩
def k_on_rounds : Def := ⟨2, 7, 0, [.set 2 (.call 1 [(.var 0), (.var 1)]) 0, .set 3 (.call 1 [(.var 0), (.comp [5, 6] 0 (.op (.tup [false, false]) [(.var 6), (.var 5)]) (.tup [(.slot 5), (.slot 6)]) (.var 1) none)]) 0, .ret (.comp [4] 0 (.var 4) (.slot 4) (.var 2) (some (.and (.op .isin [(.var 4), (.var 3)]) (.op .isin [(.var 4), (.call 4 [(.var 1), (.comp [5, 6] 0 (.var 6) (.tup [(.slot 5), (.slot 6)]) (.var 1) (some (.op .eq [(.var 5), (.var 4)])))])]))))]⟩
def k_check_drawing : Def := ⟨1, 6, 0, [.asg (.tup [(.slot 3), (.slot 4), (.slot 5)]) (.var 0), .iff (.op .not [(.chain .le .le (.cst (.int 1)) (.var 3) (.cst (.int 12)))]) [.raise "e" (.cst .none)] [], .set 1 (.call 0 [(.var 3), (.var 4), (.cst (.bool false))]) 0, .iff (.op .notNone [(.var 1)]) [.raise "e" (.cst .none)] [], .set 1 (.call 0 [(.var 3), (.var 5), (.cst (.bool true))]) 0, .iff (.op .notNone [(.var 1)]) [.raise "e" (.cst .none)] [], .set 2 (.call 2 [(.var 3), (.var 4)]) 0, .iff (.op .gt [(.op .len [(.var 2)]), (.cst (.int 0))]) [.raise "e" (.cst .none)] []]⟩
def k_check_set : Def := ⟨2, 4, 0, [.for (.tup [(.slot 2), (.slot 3)]) (.op .enum [(.var 1)]) [.iff (.or (.op .not [(.chain .le .lt (.cst (.int 0)) (.var 3) (.var 0))]) (.and (.op .gt [(.var 2), (.cst (.int 0))]) (.op .ge [(.op .idx [(.var 1), (.op .sub [(.var 2), (.cst (.int 1))])]), (.var 3)]))) [.raise "e" (.cst .none)] []]]⟩
def k_reached : Def := ⟨2, 8, 0, [.set 2 (.op .sortedSet [(.comp [5] 0 (.var 5) (.slot 5) (.var 1) none)]) 0, .set 3 (.cst (.bool true)) 0, .whl (.var 3) [.set 4 (.comp [6, 7] 0 (.var 7) (.tup [(.slot 6), (.slot 7)]) (.var 0) (some (.and (.op .isin [(.var 6), (.var 2)]) (.op .notin [(.var 7), (.var 2)])))) 1, .frz [(4, 0)], .set 2 (.op .sortedSet [(.comp [5] 0 (.var 5) (.slot 5) (.op (.lst 0 [true, true]) [(.var 2), (.var 4)]) none)]) 0, .set 3 (.op .gt [(.op .len [(.var 4)]), (.cst (.int 0))]) 0], .retv 2 0]⟩
def k_ancestors_of : Def := ⟨2, 4, 0, [.ret (.call 4 [(.comp [2, 3] 0 (.op (.tup [false, false]) [(.var 3), (.var 2)]) (.tup [(.slot 2), (.slot 3)]) (.op .idx [(.var 0), (.cst (.int 1))]) none), (.var 1)])]⟩
def k_districts_of : Def := ⟨2, 9, 0, [.set 2 (.comp [6, 7] 0 (.op (.tup [false, false]) [(.var 6), (.var 7)]) (.tup [(.slot 6), (.slot 7)]) (.op .idx [(.var 0), (.cst (.int 2))]) (some (.and (.op .isin [(.var 6), (.var 1)]) (.op .isin [(.var 7), (.var 1)])))) 1, .frz [(2, 0)], .set 3 (.op .add [(.var 2), (.comp [6, 7] 0 (.op (.tup [false, false]) [(.var 7), (.var 6)]) (.tup [(.slot 6), (.slot 7)]) (.var 2) none)]) 0, .set 4 (.op (.lst 0 []) []) 1, .for (.slot 5) (.var 1) [.iff (.op .eq [(.op .len [(.comp [8] 0 (.var 8) (.slot 8) (.var 4) (some (.op .isin [(.var 5), (.var 8)])))]), (.cst (.int 0))]) [.app 4 (.call 4 [(.var 3), (.op (.lst 0 [false]) [(.var 5)])]) 0] []], .ret (.op .sorted [(.var 4)])]⟩
def k_part_of : Def := ⟨2, 8, 0, [.asg (.tup [(.slot 3), (.slot 4), (.slot 5)]) (.var 0), .set 2 (.comp [6, 7] 0 (.op (.tup [false, false]) [(.var 6), (.var 7)]) (.tup [(.slot 6), (.slot 7)]) (.var 4) (some (.and (.op .isin [(.var 6), (.var 1)]) (.op .isin [(.var 7), (.var 1)])))) 1, .frz [(2, 0)], .ret (.op (.tup [false, false, false]) [(.var 3), (.var 2), (.comp [6, 7] 0 (.op (.tup [false, false]) [(.var 6), (.var 7)]) (.tup [(.slot 6), (.slot 7)]) (.var 5) (some (.and (.op .isin [(.var 6), (.var 1)]) (.op .isin [(.var 7), (.var 1)]))))])]⟩
def k_is_inside : Def := ⟨2, 4, 0, [.ret (.and (.op .all [(.comp [2] 0 (.op .isin [(.var 2), (.var 1)]) (.slot 2) (.var 0) none)]) (.op .all [(.comp [3] 0 (.op .lt [(.op .idx [(.var 0), (.op .sub [(.var 3), (.cst (.int 1))])]), (.op .idx [(.var 0), (.var 3)])]) (.slot 3) (.op .range [(.cst (.int 1)), (.op .len [(.var 0)])]) none)]))]⟩
def k_is_step : Def := ⟨3, 7, 0, [.asg (.tup [(.slot 4), (.slot 5), (.slot 6)]) (.op .idx [(.var 1), (.var 2)]), .iff (.op .eq [(.var 2), (.cst (.int 0))]) [.ret (.and (.op .eq [(.var 4), (.cst (.str "seen"))]) (.and (.op .eq [(.var 5), (.op .neg [(.cst (.int 1))])]) (.op .eq [(.var 6), (.op .list [.op .range [(.op .idx [(.var 0), (.cst (.int 0))])]])])))] [], .iff (.op .not [(.chain .le .lt (.cst (.int 0)) (.var 5) (.var 2))]) [.ret (.cst (.bool false))] [], .set 3 (.op .idx [(.op .idx [(.var 1), (.var 5)]), (.cst (.int 2))]) 0, .iff (.op .eq [(.var 4), (.cst (.str "sum"))]) [.ret (.and (.call 486 [(.var 6), (.var 3)]) (.op .eq [(.call 28 [(.call 16 [(.var 0), (.var 3)]), (.var 6)]), (.var 6)]))] [], .ret (.and (.op .eq [(.var 4), (.cst (.str "cut"))]) (.op .isin [(.var 6), (.call 32 [(.var 0), (.var 3)])]))]⟩
def k_first_bad_step : Def := ⟨2, 3, 0, [.iff (.op .eq [(.op .len [(.var 1)]), (.cst (.int 0))]) [.ret (.cst (.int 0))] [], .for (.slot 2) (.op .range [(.op .len [(.var 1)])]) [.iff (.op .not [(.call 487 [(.var 0), (.var 1), (.var 2)])]) [.retv 2 0] []], .ret (.cst .none)]⟩
def k_check_question : Def := ⟨3, 5, 0, [.expr (.call 3 [(.var 0)]), .expr (.call 12 [(.op .idx [(.var 0), (.cst (.int 0))]), (.var 1)]), .expr (.call 12 [(.op .idx [(.var 0), (.cst (.int 0))]), (.var 2)]), .set 3 (.comp [4] 0 (.var 4) (.slot 4) (.var 1) (some (.op .isin [(.var 4), (.var 2)]))) 1, .frz [(3, 0)], .iff (.op .gt [(.op .len [(.var 3)]), (.cst (.int 0))]) [.raise "e" (.cst .none)] [], .iff (.op .eq [(.op .len [(.var 2)]), (.cst (.int 0))]) [.raise "e" (.cst .none)] []]⟩
def k_inner_of : Def := ⟨3, 5, 0, [.set 3 (.comp [4] 0 (.var 4) (.slot 4) (.op .range [(.op .idx [(.var 0), (.cst (.int 0))])]) (some (.op .notin [(.var 4), (.var 1)]))) 1, .frz [(3, 0)], .ret (.call 28 [(.call 16 [(.var 0), (.var 3)]), (.var 2)])]⟩
def k_home_of : Def := ⟨3, 4, 0, [.ret (.op .idx [(.comp [3] 0 (.var 3) (.slot 3) (.call 32 [(.var 0), (.var 1)]) (some (.op .isin [(.op .idx [(.var 2), (.cst (.int 0))]), (.var 3)]))), (.cst (.int 0))])]⟩
def k_led_to : Def := ⟨2, 6, 0, [.set 2 (.op (.lst 0 [false]) [(.op (.tup [false, false, false]) [(.cst (.str "seen")), (.op .neg [(.cst (.int 1))]), (.op .list [.op .range [(.op .idx [(.var 0), (.cst (.int 0))])]])])]) 1, .whl (.cst (.bool true)) [.set 3 (.op .idx [(.op .idx [(.var 2), (.op .neg [(.cst (.int 1))])]), (.cst (.int 2))]) 0, .set 4 (.call 164 [(.var 0), (.var 3), (.var 1)]) 0, .iff (.op .ne [(.var 4), (.var 3)]) [.app 2 (.op (.tup [false, false, false]) [(.cst (.str "cut")), (.op .sub [(.op .len [(.var 2)]), (.cst (.int 1))]), (.var 4)]) 0] [], .set 5 (.call 28 [(.call 16 [(.var 0), (.var 4)]), (.var 1)]) 0, .iff (.op .eq [(.var 5), (.var 4)]) [.frz [(2, 0)], .ret (.op (.tup [false, false]) [(.var 2), (.var 4)])] [], .app 2 (.op (.tup [false, false, false]) [(.cst (.str "sum")), (.op .sub [(.op .len [(.var 2)]), (.cst (.int 1))]), (.var 5)]) 0]]⟩
def k_joined : Def := ⟨1, 8, 2, [.set 1 (.op (.slice false true) [(.op .idx [(.var 0), (.cst (.int 0))]), (.cst (.int 1))]) 1, .set 2 (.op (.lst 0 []) []) 1, .for (.slot 3) (.var 0) [.set 4 (.cst (.int 0)) 0, .for (.tup [(.slot 5), (.slot 6), (.slot 7)]) (.op (.slice true false) [(.var 3), (.cst (.int 1))]) [.iff (.op .notin [(.op (.tup [false, false, false]) [(.var 5), (.var 4), (.var 7)]), (.var 1)]) [.app 1 (.op (.tup [false, false, false]) [(.var 5), (.var 4), (.var 7)]) 0] [], .set 4 (.op .index [(.var 1), (.op (.tup [false, false, false]) [(.var 5), (.var 4), (.var 7)])]) 0], .app 2 (.var 4) 0], .rett [1, 2] 1]⟩
def k_derivation_of : Def := ⟨3, 7, 2, [.set 3 (.op (.lst 0 []) []) 1, .for (.slot 4) (.call 32 [(.var 0), (.call 163 [(.var 0), (.var 1), (.var 2)])]) [.asg (.tup [(.slot 5), (.slot 6)]) (.call 165 [(.var 0), (.var 4)]), .iff (.op .ne [(.var 6), (.var 4)]) [.ret (.cst .none)] [], .app 3 (.var 5) 0], .frz [(3, 0)], .ret (.call 166 [(.var 3)])]⟩
def k_derivation_v2 : Def := ⟨3, 3, 2, [.expr (.call 162 [(.var 0), (.var 1), (.var 2)]), .ret (.call 167 [(.var 0), (.var 1), (.var 2)])]⟩
def k_is_told : Def := ⟨3, 3, 0, [.expr (.call 162 [(.var 0), (.var 1), (.var 2)]), .ret (.op .notNone [(.call 167 [(.var 0), (.var 1), (.var 2)])])]⟩
def k_accepts : Def := ⟨5, 6, 0, [.iff (.or (.op .notNone [(.call 488 [(.var 0), (.var 3)])]) (.op .not [(.op .all [(.comp [5] 0 (.chain .le .lt (.cst (.int 0)) (.var 5) (.op .len [(.var 3)])) (.slot 5) (.var 4) none)])])) [.ret (.cst (.bool false))] [], .ret (.op .eq [(.comp [5] 0 (.op .idx [(.op .idx [(.var 3), (.var 5)]), (.cst (.int 2))]) (.slot 5) (.var 4) none), (.call 32 [(.var 0), (.call 163 [(.var 0), (.var 1), (.var 2)])])])]⟩
def k_check_derivation : Def := ⟨5, 5, 0, [.expr (.call 162 [(.var 0), (.var 1), (.var 2)]), .ret (.call 517 [(.var 0), (.var 1), (.var 2), (.var 3), (.var 4)])]⟩
def k_hedge_of : Def := ⟨3, 5, 0, [.for (.slot 3) (.call 32 [(.var 0), (.call 163 [(.var 0), (.var 1), (.var 2)])]) [.set 4 (.op .idx [(.call 165 [(.var 0), (.var 3)]), (.cst (.int 1))]) 0, .iff (.op .ne [(.var 4), (.var 3)]) [.ret (.op (.tup [false, false]) [(.var 4), (.var 3)])] []], .ret (.cst .none)]⟩
def k_hedge : Def := ⟨3, 3, 0, [.expr (.call 162 [(.var 0), (.var 1), (.var 2)]), .ret (.call 528 [(.var 0), (.var 1), (.var 2)])]⟩
def k_check_hedge : Def := ⟨5, 6, 0, [.expr (.call 162 [(.var 0), (.var 1), (.var 2)]), .iff (.or (.op .eq [(.op .len [(.var 4)]), (.cst (.int 0))]) (.or (.op .not [(.call 486 [(.var 4), (.var 3)])]) (.op .not [(.call 486 [(.var 3), (.op .list [.op .range [(.op .idx [(.var 0), (.cst (.int 0))])]])])]))) [.ret (.cst (.bool false))] [], .iff (.or (.op .eq [(.op .len [(.comp [5] 0 (.var 5) (.slot 5) (.var 3) (some (.op .isin [(.var 5), (.var 1)])))]), (.cst (.int 0))]) (.op .not [(.call 486 [(.var 4), (.call 163 [(.var 0), (.var 1), (.var 2)])])])) [.ret (.cst (.bool false))] [], .iff (.or (.op .gt [(.op .len [(.call 32 [(.var 0), (.var 4)])]), (.cst (.int 1))]) (.op .gt [(.op .len [(.call 32 [(.var 0), (.var 3)])]), (.cst (.int 1))])) [.ret (.cst (.bool false))] [], .ret (.op .eq [(.call 28 [(.call 16 [(.var 0), (.var 3)]), (.var 4)]), (.var 3)])]⟩
def k__law_draws : Def := ⟨1, 6, 0, [.set 1 (.op (.lst 0 []) []) 1, .for (.slot 2) (.op .range [(.op .min [(.cst (.int 63)), (.op .len [(.var 0)])])]) [.set 3 (.op .abs [(.op .idx [(.var 0), (.var 2)])]) 0, .iff (.op .ge [(.var 3), (.op .pow [(.cst (.int 10)), (.cst (.int 18))])]) [.for (.slot 4) (.op .range [(.cst (.int 60))]) [.iff (.op .gt [(.var 3), (.cst (.int 0))]) [.app 1 (.op .mod [(.op .int [(.var 3)]), (.cst (.int 65536))]) 0, .set 3 (.op .fdiv [(.var 3), (.cst (.int 65536))]) 0] []]] [.set 5 (.op .mod [(.op .int [(.op .add [(.op .mul [(.var 3), (.cst (.int 48271))]), (.op .mul [(.op .add [(.var 2), (.cst (.int 1))]), (.cst (.int 69621))])])]), (.cst (.int 2147483647))]) 0, .set 5 (.op .mod [(.op .int [(.op .add [(.op .add [(.op .mul [(.var 5), (.cst (.int 16807))]), (.op .mul [(.cst (.int 11)), (.var 2)])]), (.cst (.int 5))])]), (.cst (.int 2147483629))]) 0, .app 1 (.op .mod [(.op .int [(.var 5)]), (.cst (.int 65536))]) 0, .app 1 (.op .mod [(.op .int [(.op .fdiv [(.var 5), (.cst (.int 65536))])]), (.cst (.int 32768))]) 0]], .retv 1 0]⟩
def k__law_mix : Def := ⟨3, 4, 0, [.set 3 (.cst (.int 0)) 0, .iff (.op .gt [(.op .len [(.var 0)]), (.cst (.int 0))]) [.set 3 (.op .idx [(.var 0), (.op .mod [(.op .int [(.var 1)]), (.op .len [(.var 0)])])]) 0] [], .iff (.op .lt [(.var 1), (.op .len [(.var 0)])]) [.ret (.op .mod [(.op .int [(.var 3)]), (.var 2)])] [], .ret (.op .mod [(.op .int [(.op .fdiv [(.op .int [(.op .add [(.op .mul [(.var 3), (.cst (.int 7919))]), (.op .mul [(.var 1), (.cst (.int 104729))])])]), (.cst (.int 3))])]), (.var 2)])]⟩
def k__law_order_v3 : Def := ⟨3, 6, 0, [.set 3 (.op (.lst 0 []) []) 0, .for (.slot 4) (.op .range [(.var 2)]) [.set 5 (.call 6 [(.var 0), (.op .add [(.var 1), (.var 4)]), (.op .add [(.op .len [(.var 3)]), (.cst (.int 1))])]) 0, .set 3 (.op .add [(.op .add [(.op (.slice false true) [(.var 3), (.var 5)]), (.op (.lst 0 [false]) [(.var 4)])]), (.op (.slice true false) [(.var 3), (.var 5)])]) 0], .retv 3 0]⟩
def k__law_drawing_v2 : Def := ⟨3, 9, 0, [.set 3 (.call 494 [(.var 0), (.var 1), (.var 2)]) 0, .set 4 (.op (.lst 0 [false, false]) [(.op .add [(.cst (.int 1)), (.call 6 [(.var 0), (.op .add [(.var 1), (.cst (.int 12))]), (.cst (.int 6))])]), (.call 6 [(.var 0), (.op .add [(.var 1), (.cst (.int 13))]), (.cst (.int 6))])]) 0, .set 5 (.op (.lst 1 [false, false]) [(.op (.lst 0 []) []), (.op (.lst 0 []) [])]) 2, .for (.slot 6) (.op .range [(.var 2)]) [.for (.slot 7) (.op .range [(.op .add [(.var 6), (.cst (.int 1))]), (.var 2)]) [.for (.slot 8) (.op .range [(.cst (.int 2))]) [.iff (.op .lt [(.call 6 [(.var 0), (.op .add [(.op .add [(.op .add [(.var 1), (.cst (.int 14))]), (.op .mul [(.cst (.int 2)), (.op .add [(.op .mul [(.cst (.int 12)), (.var 6)]), (.var 7)])])]), (.var 8)]), (.cst (.int 9))]), (.op .idx [(.var 4), (.var 8)])]) [.app2 5 (.var 8) (.op .idx [(.op (.lst 0 [false, false]) [(.op (.tup [false, false]) [(.op .idx [(.var 3), (.var 6)]), (.op .idx [(.var 3), (.var 7)])]), (.op (.tup [false, false]) [(.op .min [(.op .idx [(.var 3), (.var 6)]), (.op .idx [(.var 3), (.var 7)])]), (.op .max [(.op .idx [(.var 3), (.var 6)]), (.op .idx [(.var 3), (.var 7)])])])]), (.var 8)])] []]]], .ret (.op (.tup [false, false, false]) [(.var 2), (.op .sorted [(.op .idx [(.var 5), (.cst (.int 0))])]), (.op .sorted [(.op .idx [(.var 5), (.cst (.int 1))])])])]⟩
def k__law_question : Def := ⟨3, 6, 0, [.set 3 (.comp [5] 0 (.call 6 [(.var 0), (.op .add [(.op .add [(.var 1), (.cst (.int 1))]), (.var 5)]), (.op .add [(.cst (.int 2)), (.call 6 [(.var 0), (.var 1), (.cst (.int 4))])])]) (.slot 5) (.op .range [(.var 2)]) none) 0, .set 4 (.comp [5] 0 (.var 5) (.slot 5) (.op .range [(.var 2)]) (some (.op .eq [(.op .idx [(.var 3), (.var 5)]), (.cst (.int 0))]))) 0, .iff (.op .eq [(.var 4), (.op (.lst 0 []) [])]) [.set 4 (.op (.lst 0 [false]) [(.call 6 [(.var 0), (.op .add [(.var 1), (.cst (.int 14))]), (.var 2)])]) 0] [], .ret (.op (.tup [false, false]) [(.comp [5] 0 (.var 5) (.slot 5) (.op .range [(.var 2)]) (some (.and (.op .eq [(.op .idx [(.var 3), (.var 5)]), (.cst (.int 1))]) (.op .notin [(.var 5), (.var 4)])))), (.var 4)])]⟩
def k__law_said : Def := ⟨3, 6, 0, [.set 3 (.call 168 [(.var 0), (.var 1), (.var 2)]) 0, .set 4 (.call 516 [(.var 0), (.var 1), (.var 2)]) 0, .set 5 (.call 529 [(.var 0), (.var 1), (.var 2)]) 0, .iff (.and (.op (.isB true) [(.var 3)]) (.and (.op .notNone [(.var 4)]) (.op .isNone [(.var 5)]))) [.ret (.op .idx [(.op (.lst 0 [false, false]) [(.cst .none), (.cst (.bool true))]), (.op .int [(.op (.isB true) [(.call 518 [(.var 0), (.var 1), (.var 2), (.op .idx [(.var 4), (.cst (.int 0))]), (.op .idx [(.var 4), (.cst (.int 1))])])])])])] [], .iff (.and (.op (.isB false) [(.var 3)]) (.and (.op .isNone [(.var 4)]) (.op .notNone [(.var 5)]))) [.ret (.op .idx [(.op (.lst 0 [false, false]) [(.cst .none), (.cst (.bool false))]), (.op .int [(.op (.isB true) [(.call 530 [(.var 0), (.var 1), (.var 2), (.op .idx [(.var 5), (.cst (.int 0))]), (.op .idx [(.var 5), (.cst (.int 1))])])])])])] [], .ret (.cst .none)]⟩
def k__law_fewer_and_more : Def := ⟨5, 14, 0, [.set 5 (.call 623 [(.var 2), (.var 3), (.var 4)]) 0, .set 6 (.comp [11] 0 (.var 11) (.slot 11) (.op .range [(.op .idx [(.var 2), (.cst (.int 0))])]) (some (.op .notin [(.var 11), (.op .add [(.var 3), (.var 4)])]))) 1, .frz [(6, 0)], .set 7 (.comp [11] 0 (.var 11) (.slot 11) (.var 4) (some (.op .eq [(.call 6 [(.var 0), (.op .add [(.var 1), (.var 11)]), (.cst (.int 2))]), (.cst (.int 1))]))) 1, .frz [(7, 0)], .set 8 (.op .sorted [(.op .add [(.var 4), (.comp [11] 0 (.var 11) (.slot 11) (.var 6) (some (.op .eq [(.call 6 [(.var 0), (.op .add [(.op .add [(.var 1), (.cst (.int 12))]), (.var 11)]), (.cst (.int 2))]), (.cst (.int 1))])))])]) 0, .iff (.op .isNone [(.var 5)]) [.ret (.cst (.bool false))] [], .iff (.op .ne [(.var 7), (.op (.lst 0 []) [])]) [.set 10 (.call 623 [(.var 2), (.var 3), (.var 7)]) 0, .iff (.or (.op .isNone [(.var 10)]) (.and (.var 5) (.op .not [(.var 10)]))) [.ret (.cst (.bool false))] []] [], .set 9 (.call 623 [(.var 2), (.var 3), (.var 8)]) 0, .iff (.or (.op .isNone [(.var 9)]) (.and (.var 9) (.op .not [(.var 5)]))) [.ret (.cst (.bool false))] [], .iff (.op .not [(.var 5)]) [.asg (.tup [(.slot 12), (.slot 13)]) (.call 529 [(.var 2), (.var 3), (.var 4)]), .ret (.op (.isB true) [(.call 530 [(.var 2), (.var 3), (.var 8), (.var 12), (.var 13)])])] [], .ret (.cst (.bool true))]⟩
def k__law_height_v2 : Def := ⟨1, 6, 0, [.set 1 (.comp [3] 0 (.cst (.int 0)) (.slot 3) (.op .range [(.op .idx [(.var 0), (.cst (.int 0))])]) none) 1, .for (.slot 2) (.op .range [(.op .idx [(.var 0), (.cst (.int 0))])]) [.for (.tup [(.slot 4), (.slot 5)]) (.op .idx [(.var 0), (.cst (.int 1))]) [.sto 1 (.var 5) (.op .max [(.op .idx [(.var 1), (.var 5)]), (.op .add [(.op .idx [(.var 1), (.var 4)]), (.cst (.int 1))])]) 0]], .retv 1 0]⟩
def k__law_other_drawings : Def := ⟨3, 11, 0, [.asg (.tup [(.slot 7), (.slot 8), (.slot 9)]) (.var 2), .set 3 (.op (.lst 0 []) []) 1, .iff (.op .ne [(.var 8), (.op (.lst 0 []) [])]) [.set 10 (.call 6 [(.var 0), (.var 1), (.op .len [(.var 8)])]) 0, .app 3 (.op (.tup [false, false]) [(.op (.tup [false, false, false]) [(.var 7), (.op .add [(.op (.slice false true) [(.var 8), (.var 10)]), (.op (.slice true false) [(.var 8), (.op .add [(.var 10), (.cst (.int 1))])])]), (.var 9)]), (.var 2)]) 0] [], .iff (.op .ne [(.var 9), (.op (.lst 0 []) [])]) [.set 10 (.call 6 [(.var 0), (.op .add [(.var 1), (.cst (.int 1))]), (.op .len [(.var 9)])]) 0, .app 3 (.op (.tup [false, false]) [(.op (.tup [false, false, false]) [(.var 7), (.var 8), (.op .add [(.op (.slice false true) [(.var 9), (.var 10)]), (.op (.slice true false) [(.var 9), (.op .add [(.var 10), (.cst (.int 1))])])])]), (.var 2)]) 0] [], .set 4 (.call 6 [(.var 0), (.op .add [(.var 1), (.cst (.int 2))]), (.var 7)]) 0, .set 5 (.call 6 [(.var 0), (.op .add [(.var 1), (.cst (.int 3))]), (.var 7)]) 0, .set 6 (.call 625 [(.var 2)]) 0, .iff (.and (.op .lt [(.var 4), (.var 5)]) (.op .notin [(.op (.tup [false, false]) [(.var 4), (.var 5)]), (.var 9)])) [.app 3 (.op (.tup [false, false]) [(.var 2), (.op (.tup [false, false, false]) [(.var 7), (.var 8), (.op .sorted [(.op .add [(.var 9), (.op (.lst 0 [false]) [(.op (.tup [false, false]) [(.var 4), (.var 5)])])])])])]) 0] [], .iff (.and (.op .lt [(.op .idx [(.var 6), (.var 4)]), (.op .idx [(.var 6), (.var 5)])]) (.op .notin [(.op (.tup [false, false]) [(.var 4), (.var 5)]), (.var 8)])) [.app 3 (.op (.tup [false, false]) [(.var 2), (.op (.tup [false, false, false]) [(.var 7), (.op .sorted [(.op .add [(.var 8), (.op (.lst 0 [false]) [(.op (.tup [false, false]) [(.var 4), (.var 5)])])])]), (.var 9)])]) 0] [], .retv 3 0]⟩
def k_law_v57 : Def := ⟨1, 12, 0, [.set 1 (.call 5 [(.var 0)]) 0, .set 2 (.op .add [(.cst (.int 1)), (.call 6 [(.var 1), (.cst (.int 1)), (.cst (.int 12))])]) 0, .set 3 (.call 495 [(.var 1), (.cst (.int 2)), (.var 2)]) 0, .for (.slot 4) (.op .range [(.cst (.int 3))]) [.asg (.tup [(.slot 6), (.slot 7)]) (.call 519 [(.var 1), (.op .add [(.cst (.int 400)), (.op .mul [(.cst (.int 40)), (.var 4)])]), (.var 2)]), .set 5 (.op .repr [(.op (.tup [false, false, false]) [(.var 3), (.var 6), (.var 7)])]) 0, .iff (.op .not [(.call 624 [(.var 1), (.op .add [(.cst (.int 520)), (.op .mul [(.cst (.int 30)), (.var 4)])]), (.var 3), (.var 6), (.var 7)])]) [.ret (.cst (.bool false))] [], .for (.tup [(.slot 8), (.slot 9)]) (.call 626 [(.var 1), (.op .add [(.cst (.int 620)), (.op .mul [(.cst (.int 10)), (.var 4)])]), (.var 3)]) [.set 10 (.call 623 [(.var 8), (.var 6), (.var 7)]) 0, .set 11 (.call 623 [(.var 9), (.var 6), (.var 7)]) 0, .iff (.or (.op .isNone [(.var 10)]) (.or (.op .isNone [(.var 11)]) (.and (.var 11) (.op .not [(.var 10)])))) [.ret (.cst (.bool false))] []], .iff (.op .ne [(.op .repr [(.op (.tup [false, false, false]) [(.var 3), (.var 6), (.var 7)])]), (.var 5)]) [.ret (.cst (.bool false))] []], .ret (.cst (.bool true))]⟩
def k_parents_of : Def := ⟨2, 4, 0, [.ret (.comp [2, 3] 0 (.var 2) (.tup [(.slot 2), (.slot 3)]) (.op .idx [(.var 0), (.cst (.int 1))]) (some (.op .eq [(.var 3), (.var 1)])))]⟩
def k_cut_into : Def := ⟨2, 8, 0, [.asg (.tup [(.slot 3), (.slot 4), (.slot 5)]) (.var 0), .set 2 (.comp [6, 7] 0 (.op (.tup [false, false]) [(.var 6), (.var 7)]) (.tup [(.slot 6), (.slot 7)]) (.var 5) (some (.and (.op .notin [(.var 6), (.var 1)]) (.op .notin [(.var 7), (.var 1)])))) 1, .frz [(2, 0)], .ret (.op (.tup [false, false, false]) [(.var 3), (.comp [6, 7] 0 (.op (.tup [false, false]) [(.var 6), (.var 7)]) (.tup [(.slot 6), (.slot 7)]) (.var 4) (some (.op .notin [(.var 7), (.var 1)]))), (.var 2)])]⟩
def k_check_all : Def := ⟨4, 8, 0, [.expr (.call 3 [(.var 0)]), .for (.slot 4) (.op (.lst 0 [false, false, false]) [(.var 1), (.var 2), (.var 3)]) [.expr (.call 12 [(.op .idx [(.var 0), (.cst (.int 0))]), (.var 4)])], .set 5 (.op .add [(.op .add [(.var 1), (.var 2)]), (.var 3)]) 0, .set 6 (.comp [7] 0 (.var 7) (.slot 7) (.op .range [(.op .idx [(.var 0), (.cst (.int 0))])]) (some (.op .gt [(.op .count [(.var 5), (.var 7)]), (.cst (.int 1))]))) 1, .frz [(6, 0)], .iff (.op .gt [(.op .len [(.var 6)]), (.cst (.int 0))]) [.raise "e" (.cst .none)] [], .iff (.op .eq [(.op .len [(.var 2)]), (.cst (.int 0))]) [.raise "e" (.cst .none)] []]⟩
def k_are_apart : Def := ⟨4, 12, 0, [.set 4 (.call 28 [(.var 0), (.op .add [(.op .add [(.var 1), (.var 2)]), (.var 3)])]) 0, .set 5 (.op (.lst 0 []) []) 1, .for (.slot 6) (.call 32 [(.var 0), (.var 4)]) [.app 5 (.op .add [(.var 6), (.comp2 [10, 11] [11] (.var 11) (.slot 10) (.var 6) none (.slot 11) (.call 13 [(.var 0), (.var 10)]) none)]) 0], .set 7 (.op .list [(.var 1)]) 1, .set 8 (.cst (.int 0)) 0, .frz [(5, 0)], .whl (.op .lt [(.var 8), (.op .len [(.var 7)])]) [.for (.slot 9) (.var 5) [.iff (.op .isin [(.op .idx [(.var 7), (.var 8)]), (.var 9)]) [.ext 7 (.op .sortedSet [(.comp [11] 0 (.var 11) (.slot 11) (.var 9) (some (.and (.op .notin [(.var 11), (.var 7)]) (.op .notin [(.var 11), (.var 3)]))))])] []], .set 8 (.op .add [(.var 8), (.cst (.int 1))]) 0], .ret (.op .all [(.comp [10] 0 (.op .notin [(.var 10), (.var 7)]) (.slot 10) (.var 2) none)])]⟩
def k__law_three_v2 : Def := ⟨3, 8, 0, [.set 3 (.comp [6] 0 (.call 6 [(.var 0), (.op .add [(.op .add [(.var 1), (.cst (.int 1))]), (.var 6)]), (.op .add [(.cst (.int 3)), (.call 6 [(.var 0), (.var 1), (.cst (.int 3))])])]) (.slot 6) (.op .range [(.var 2)]) none) 0, .set 4 (.comp [6] 0 (.var 6) (.slot 6) (.op .range [(.var 2)]) (some (.op .eq [(.op .idx [(.var 3), (.var 6)]), (.cst (.int 0))]))) 0, .iff (.op .eq [(.var 4), (.op (.lst 0 []) [])]) [.set 4 (.op (.lst 0 [false]) [(.call 6 [(.var 0), (.op .add [(.var 1), (.cst (.int 14))]), (.var 2)])]) 0] [], .set 5 (.comp [7] 0 (.comp [6] 0 (.var 6) (.slot 6) (.op .range [(.var 2)]) (some (.and (.op .eq [(.op .idx [(.var 3), (.var 6)]), (.var 7)]) (.op .notin [(.var 6), (.var 4)])))) (.slot 7) (.op (.lst 0 [false, false]) [(.cst (.int 1)), (.cst (.int 2))]) none) 1, .frz [(5, 0)], .ret (.op (.tup [false, false, false]) [(.op .idx [(.var 5), (.cst (.int 0))]), (.var 4), (.op .idx [(.var 5), (.cst (.int 1))])])]⟩
def k__law_cut_v2 : Def := ⟨3, 8, 0, [.asg (.tup [(.slot 4), (.slot 3), (.slot 5)]) (.var 0), .set 3 (.comp [6, 7] 0 (.op (.tup [false, false]) [(.var 6), (.var 7)]) (.tup [(.slot 6), (.slot 7)]) (.var 3) (some (.and (.op .notin [(.var 7), (.var 1)]) (.op .notin [(.var 6), (.var 2)])))) 1, .frz [(3, 0)], .ret (.op (.tup [false, false, false]) [(.var 4), (.var 3), (.comp [6, 7] 0 (.op (.tup [false, false]) [(.var 6), (.var 7)]) (.tup [(.slot 6), (.slot 7)]) (.var 5) (some (.and (.op .notin [(.var 6), (.var 1)]) (.op .notin [(.var 7), (.var 1)]))))])]⟩
def k__law_reached : Def := ⟨3, 19, 0, [.asg (.tup [(.slot 8), (.slot 9), (.slot 10)]) (.var 0), .set 3 (.op .list [(.var 2)]) 0, .for (.slot 4) (.op .range [(.var 8)]) [.set 3 (.op .add [(.var 3), (.comp [13] 0 (.var 13) (.slot 13) (.op .range [(.var 8)]) (some (.and (.op .notin [(.var 13), (.var 3)]) (.op .ne [(.comp [18, 14] 0 (.var 14) (.tup [(.slot 18), (.slot 14)]) (.var 9) (some (.and (.op .eq [(.var 18), (.var 13)]) (.op .isin [(.var 14), (.var 3)])))), (.op (.lst 0 []) [])]))))]) 0], .set 5 (.op .add [(.comp [13, 14] 0 (.op (.tup [false, false, false, false]) [(.var 13), (.var 14), (.cst (.int 0)), (.cst (.int 1))]) (.tup [(.slot 13), (.slot 14)]) (.var 9) none), (.comp [13, 14] 0 (.op (.tup [false, false, false, false]) [(.var 14), (.var 13), (.cst (.int 1)), (.cst (.int 0))]) (.tup [(.slot 13), (.slot 14)]) (.var 9) none)]) 0, .set 5 (.op .add [(.op .add [(.var 5), (.comp [13, 14] 0 (.op (.tup [false, false, false, false]) [(.var 13), (.var 14), (.cst (.int 1)), (.cst (.int 1))]) (.tup [(.slot 13), (.slot 14)]) (.var 10) none)]), (.comp [13, 14] 0 (.op (.tup [false, false, false, false]) [(.var 14), (.var 13), (.cst (.int 1)), (.cst (.int 1))]) (.tup [(.slot 13), (.slot 14)]) (.var 10) none)]) 0, .set 6 (.op (.lst 0 []) []) 1, .set 7 (.comp [13, 14, 15, 16] 0 (.op (.tup [false, false]) [(.var 14), (.var 16)]) (.tup [(.slot 13), (.slot 14), (.slot 15), (.slot 16)]) (.var 5) (some (.op .isin [(.var 13), (.var 1)]))) 1, .whl (.op .ne [(.var 7), (.op (.lst 0 []) [])]) [.asg (.tup [(.slot 11), (.slot 12)]) (.op .idx [(.var 7), (.cst (.int 0))]), .set 7 (.op (.slice true false) [(.var 7), (.cst (.int 1))]) 1, .iff (.op .notin [(.op (.tup [false, false]) [(.var 11), (.var 12)]), (.var 6)]) [.app 6 (.op (.tup [false, false]) [(.var 11), (.var 12)]) 0, .for (.tup [(.slot 13), (.slot 14), (.slot 15), (.slot 16)]) (.var 5) [.set 17 (.and (.op .eq [(.var 12), (.cst (.int 1))]) (.op .eq [(.var 15), (.cst (.int 1))])) 0, .iff (.and (.op .eq [(.var 13), (.var 11)]) (.or (.and (.var 17) (.op .isin [(.var 11), (.var 3)])) (.and (.op .not [(.var 17)]) (.op .notin [(.var 11), (.var 2)])))) [.app 7 (.op (.tup [false, false]) [(.var 14), (.var 16)]) 0] []]] []], .ret (.comp [11] 0 (.var 11) (.slot 11) (.op .range [(.var 8)]) (some (.or (.op .isin [(.op (.tup [false, false]) [(.var 11), (.cst (.int 0))]), (.var 6)]) (.op .isin [(.op (.tup [false, false]) [(.var 11), (.cst (.int 1))]), (.var 6)]))))]⟩
def k__law_apart : Def := ⟨4, 5, 0, [.ret (.op .eq [(.comp [4] 0 (.var 4) (.slot 4) (.call 586 [(.var 0), (.op (.lst 0 [false]) [(.var 1)]), (.var 3)]) (some (.op .isin [(.var 4), (.var 2)]))), (.op (.lst 0 []) [])])]⟩
end VL
/-! plain side, part 1: parents, closures -/
namespace VL
open PySem
open Enc
abbrev Pt := Int × Int
/-- a drawing: how many, arrows, ties -/
abbrev Dr := Tr Int (List Pt) (List Pt)
def parents (d : Dr) (v : Int) : List Int := (d.b.filter fun p => decide (p.2 = v)).map fun p => p.1
/-- what is reached along the pairs -/
inductive Clo (R : List Pt) (S : List Int) : Int → Prop
  | base {x : Int} : x ∈ S → Clo R S x
  | step {x y : Int} : Clo R S x → (x, y) ∈ R → Clo R S y
def InR (m : Int) (l : List Int) : Prop := ∀ x ∈ l, 0 ≤ x ∧ x < m
def InP (m : Int) (l : List Pt) : Prop := ∀ p ∈ l, (0 ≤ p.1 ∧ p.1 < m) ∧ 0 ≤ p.2 ∧ p.2 < m
theorem Clo.inR {R : List Pt} {S : List Int} {m x : Int} (hR : InP m R) (hS : InR m S) (h : Clo R S x) : 0 ≤ x ∧ x < m := by
  induction h with
  | base h => exact hS _ h
  | step _ h _ => exact (hR _ h).2
section
variable {Pr : Prog} {n : Nat}
theorem ev_parents_of (h : Pr 13 = some k_parents_of) (d : Dr) (v : Int) (hz : d.b.length ≤ 16777216) : evalD Pr (n + 1) 13 [enc d, enc v] = .ok (enc (parents d v)) := by
  refine evalD_rt h rfl (ss_ret ?_)
  exact comp_eq (l := d.b) (enc : Pt → Val) (enc : Int → Val) (fun p => decide (p.2 = v)) (fun p => p.1) (fun p => [some (enc d, 0), some (enc v, 0), some (enc p.1, 0), some (enc p.2, 0)]) rfl (fun _ _ => rfl) (fun p _ => evalO_of (cb_eq (α := Int) (x := p.2) (y := v) rfl rfl)) (fun _ _ _ => rfl) hz
theorem mem_parents {d : Dr} {v a : Int} : a ∈ parents d v ↔ (a, v) ∈ d.b := by
  unfold parents
  rw [List.mem_map]
  constructor
  · rintro ⟨p, hp, rfl⟩
    obtain ⟨h1, h2⟩ := List.mem_filter.mp hp
    have : p.2 = v := of_decide_eq_true h2
    rw [← this]
    exact h1
  · intro h
    exact ⟨(a, v), List.mem_filter.mpr ⟨h, decide_eq_true rfl⟩, rfl⟩

/-- the slots of reached -/
def eR (R : List Pt) (S : List Int) (s : List Int × Bool) (j : Option (Val × Nat)) : Env := [some (enc R, 0), some (enc S, 0), some (enc s.1, 0), some (.bool s.2, 0), j, none, none, none]
def more (R : List Pt) (f : List Int) : List Int := (R.filter fun q => decide (q.1 ∈ f) && !decide (q.2 ∈ f)).map fun q => q.2
theorem mem_more {R : List Pt} {f : List Int} {y : Int} : y ∈ more R f ↔ y ∉ f ∧ ∃ x ∈ f, (x, y) ∈ R := by
  unfold more
  rw [List.mem_map]
  constructor
  · rintro ⟨q, hq, rfl⟩
    obtain ⟨h1, h2⟩ := List.mem_filter.mp hq
    rw [Bool.and_eq_true, decide_eq_true_eq, Bool.not_eq_true', decide_eq_false_iff_not] at h2
    exact ⟨h2.2, q.1, h2.1, h1⟩
  · rintro ⟨h1, x, h2, h3⟩
    exact ⟨(x, y), List.mem_filter.mpr ⟨h3, by simp [h1, h2]⟩, rfl⟩
theorem enc_ints (l : List Int) : (enc l : Val) = .list (l.map .int) := rfl
theorem ev_reached (h : Pr 4 = some k_reached) {R : List Pt} {S : List Int} {m : Int} (hm : m ≤ 60) (hR : InP m R) (hS : InR m S) (zR : R.length ≤ 100000) (zS : S.length ≤ 100000) :
    ∃ f : List Int, evalD Pr (n + 1) 4 [enc R, enc S] = .ok (enc f) ∧ f.Pairwise (· < ·) ∧ ∀ x, x ∈ f ↔ Clo R S x := by
  have once64 : ∀ {l : List Int}, InR m l → (intsOnce l).length < 64 := fun hl => by
    have := once_len hl
    omega
  suffices hh : ∃ f : List Int, evalSs (evalD Pr n) k_reached.body (startE k_reached [enc R, enc S]) = .ok (.rt (enc f)) ∧ f.Pairwise (· < ·) ∧ ∀ x, x ∈ f ↔ Clo R S x by
    obtain ⟨f, h1, h2⟩ := hh
    exact ⟨f, evalD_rt h rfl h1, h2⟩
  let I : List Int × Bool → Prop := fun s => s.1.Pairwise (· < ·) ∧ (∀ x ∈ s.1, Clo R S x) ∧ (∀ x ∈ S, x ∈ s.1) ∧ (s.2 = false → ∀ x y, x ∈ s.1 → (x, y) ∈ R → y ∈ s.1)
  have inI : ∀ s, I s → InR m s.1 := fun s hs x hx => (hs.2.1 x hx).inR hR hS
  have e1 : evalE (evalD Pr n) 0 (.op .sortedSet [(.comp [5] 0 (.var 5) (.slot 5) (.var 1) none)]) (startE k_reached [enc R, enc S]) = .ok (enc (intsOnce S)) := by
    refine ev1 (comp_eq (l := S) (enc : Int → Val) (enc : Int → Val) (fun _ => true) (fun x => x) (fun x => [some (enc R, 0), some (enc S, 0), none, none, none, some (enc x, 0), none, none]) rfl (fun _ _ => rfl) (fun _ _ => rfl) (fun _ _ _ => rfl) (by omega)) ?_
    rw [List.filter_eq_self.mpr fun _ _ => rfl, List.map_id']
    exact den_sset (once64 hS)
  have fin : ∃ f j, whileL (fun ρ => (evalE (evalD Pr n) 9 (.var 3) ρ).bind fun x => asBool x) (fun ρ => evalSs (evalD Pr n) [.set 4 (.comp [6, 7] 0 (.var 7) (.tup [(.slot 6), (.slot 7)]) (.var 0) (some (.and (.op .isin [(.var 6), (.var 2)]) (.op .notin [(.var 7), (.var 2)])))) 1, .frz [(4, 0)], .set 2 (.op .sortedSet [(.comp [5] 0 (.var 5) (.slot 5) (.op (.lst 0 [true, true]) [(.var 2), (.var 4)]) none)]) 0, .set 3 (.op .gt [(.op .len [(.var 4)]), (.cst (.int 0))]) 0] ρ) LIM (eR R S (intsOnce S, true) none) = .ok (.nx (eR R S f j)) ∧ I f ∧ f.2 = false := by
    refine whileL_inv (eR R S) (fun s => s.2) I (fun s => 2 * (64 - s.1.length) + (if s.2 then 1 else 0)) (fun s j _ => rfl) (fun s j hs go => ?_) LIM (intsOnce S, true) none ⟨once_sorted S, fun x hx => .base ((once_mem S).mp hx), fun x hx => (once_mem S).mpr hx, fun z => (nomatch z)⟩ (by unfold LIM; simp; omega)
    obtain ⟨f, b⟩ := s
    have hb : b = true := go
    subst hb
    have hf := inI _ hs
    have zf : f.length ≤ 64 := by
      have := below_len (nodup_of_sorted hs.1) hf
      simp only at this
      omega
    have zm : (more R f).length ≤ 100000 := by
      unfold more
      rw [List.length_map]
      exact Nat.le_trans (List.length_filter_le _ _) zR
    have hm2 : InR m (more R f) := fun y hy => by
      obtain ⟨_, x, _, h3⟩ := mem_more.mp hy
      exact (hR _ h3).2
    have hfm : InR m (f ++ more R f) := fun y hy => (List.mem_append.mp hy).elim (hf y) (hm2 y)
    refine ⟨(intsOnce (f ++ more R f), decide (0 < (((more R f).length : Nat) : Int))), some (enc (more R f), 0), ?_, ⟨once_sorted _, fun x hx => ?_, fun x hx => (once_mem _).mpr (List.mem_append_left _ (hs.2.2.1 x hx)), fun z x y hx hxy => ?_⟩, ?_⟩
    · refine ss_set (comp_eq (l := R) (enc : Pt → Val) (enc : Int → Val) (fun q => decide (q.1 ∈ f) && !decide (q.2 ∈ f)) (fun q => q.2) (fun q => [some (enc R, 0), some (enc S, 0), some (enc f, 0), some (.bool true, 0), j, none, some (enc q.1, 0), some (enc q.2, 0)]) rfl (fun _ _ => rfl)
        (fun q _ => evalO_of (cb_and (cb_in (α := Int) (x := q.1) (ys := f) rfl rfl) fun _ => cb_notin (α := Int) (x := q.2) (ys := f) rfl rfl)) (fun _ _ _ => rfl) (by omega)) ?_
      refine ss_set (v := enc (intsOnce (f ++ more R f))) (ev1 (comp_eq (l := f ++ more R f) (enc : Int → Val) (enc : Int → Val) (fun _ => true) (fun x => x) (fun x => [some (enc R, 0), some (enc S, 0), some (enc f, 0), some (.bool true, 0), some (enc (more R f), 0), some (enc x, 0), none, none]) (seq_of (ev_op (evs_cons (v := enc f) rfl (evs_cons (v := enc (more R f)) rfl evs_nil)) (den_lst (xs := (f ++ more R f).map enc) (by
          show some (f.map enc ++ ((more R f).map enc ++ [])) = _
          rw [List.append_nil, List.map_append]) (by rw [List.length_map, List.length_append]; omega)))) (fun _ _ => rfl) (fun _ _ => rfl) (fun _ _ _ => rfl) (by rw [List.length_append]; omega)) ?_) ?_
      · rw [List.filter_eq_self.mpr fun _ _ => rfl, List.map_id']
        exact den_sset (once64 hfm)
      · refine ss_set (cb_gt (i := (((more R f).length : Nat) : Int)) (j := 0) (by
          have := ev_len (cf := evalD Pr n) (k := 9) (a := .var 4) (ρ := [some (enc R, 0), some (enc S, 0), some (enc (intsOnce (f ++ more R f)), 0), some (.bool true, 0), some (enc (more R f), 0), none, none, none]) (l := (more R f).map enc) rfl
          rw [List.length_map] at this
          exact this) rfl) ?_
        rfl
    · rcases List.mem_append.mp ((once_mem _).mp hx) with hx | hx
      · exact hs.2.1 x hx
      · obtain ⟨_, a, h2, h3⟩ := mem_more.mp hx
        exact .step (hs.2.1 a h2) h3
    · have e0 : more R f = [] := by
        have := of_decide_eq_false z
        exact List.length_eq_zero_iff.mp (by omega)
      simp only [e0, List.append_nil] at hx ⊢
      have hx' := (once_mem _).mp hx
      refine (once_mem _).mpr ?_
      by_cases hy : y ∈ f
      · exact hy
      · have : y ∈ more R f := mem_more.mpr ⟨hy, x, hx', hxy⟩
        rw [e0] at this
        cases this
    · have l2 := once_len hfm
      have sub : ∀ x ∈ f, x ∈ intsOnce (f ++ more R f) := fun x hx => (once_mem _).mpr (List.mem_append_left _ hx)
      by_cases e0 : more R f = []
      · have this : f.length ≤ (intsOnce (f ++ more R f)).length := nodup_le (nodup_of_sorted hs.1) sub
        rw [e0, List.append_nil] at this ⊢
        simp only [List.length_nil]
        simp
        omega
      · obtain ⟨y, hy⟩ := List.exists_mem_of_ne_nil _ e0
        have := nodup_lt (nodup_of_sorted hs.1) sub ((once_mem _).mpr (List.mem_append_right _ hy)) (mem_more.mp hy).1
        simp only [if_true] at this ⊢
        have h3 : (intsOnce (f ++ more R f)).length ≤ 60 := by omega
        have h4 : f.length < (intsOnce (f ++ more R f)).length := this
        split <;> omega
  obtain ⟨s, j, w1, hs, hf⟩ := fin
  refine ⟨s.1, ?_, hs.1, fun x => ⟨hs.2.1 x, fun hx => ?_⟩⟩
  · refine ss_set e1 (ss_set (v := .bool true) rfl (ss_cons w1 ?_))
    rfl
  · induction hx with
    | base hx => exact hs.2.2.1 _ hx
    | step _ hxy ih => exact hs.2.2.2 hf _ _ ih hxy
end
end VL

/-! plain side, part 2: sorting, ancestors, cuts, districts -/
namespace VL
open PySem
open Enc

/-- what sorted takes -/
class Srt (α : Type) [Enc α] : Prop where
  alk : ∀ a b : α, PySem.W.alike (enc a) (enc b) = true
  kind : (∀ a : α, isTupC (enc a) = true) ∨ (∀ a : α, notTupNone (enc a) = true)
  dep : dep α + 1 ≤ 64
theorem alkAll {α : Type} [Enc α] (h : ∀ a b : α, PySem.W.alike (enc a) (enc b) = true) : ∀ xs ys : List α, PySem.W.alikeAll (xs.map enc) (ys.map enc) = true
  | [], ys => by cases ys <;> simp [PySem.W.alikeAll]
  | x :: xs, [] => by simp [PySem.W.alikeAll]
  | x :: xs, y :: ys => by simp only [List.map_cons, PySem.W.alikeAll, h, alkAll h xs ys, Bool.and_self]
theorem alk_int (a b : Int) : PySem.W.alike (enc a) (enc b) = true := by simp [enc, PySem.W.alike]
theorem alk_ints (a b : List Int) : PySem.W.alike (enc a) (enc b) = true := by
  show PySem.W.alike (.list (a.map enc)) (.list (b.map enc)) = true
  simp only [PySem.W.alike]
  exact alkAll alk_int a b
theorem alk_pt (a b : Pt) : PySem.W.alike (enc a) (enc b) = true := by
  show PySem.W.alike (.tuple [enc a.1, enc a.2]) (.tuple [enc b.1, enc b.2]) = true
  simp only [PySem.W.alike, PySem.W.alikeAll, alk_int, Bool.and_self]
instance : Srt Int := ⟨alk_int, .inr fun _ => rfl, by decide⟩
instance : Srt (List Int) := ⟨alk_ints, .inr fun _ => rfl, by decide⟩
instance : Srt Pt := ⟨alk_pt, .inl fun _ => rfl, by decide⟩
def leD {α : Type} [Enc α] (a b : α) : Bool := PySem.W.dataLe false (fun d : Val => d) (enc a) (enc b)
def srt {α : Type} [Enc α] (xs : List α) : List α := xs.mergeSort leD
theorem den_sorted {α : Type} [Enc α] [Srt α] (xs : List α) : den .sorted [enc xs] = .ok (enc (srt xs)) := by
  have h1 : sortableB (xs.map enc) = true := by
    unfold sortableB
    rw [Bool.and_eq_true, Bool.and_eq_true, Bool.or_eq_true]
    refine ⟨?_, shaped_enc (α := List α) Srt.dep xs, ?_⟩
    · unfold alikesB
      rw [List.all_eq_true]
      intro a ha
      rw [List.all_eq_true]
      intro b hb
      obtain ⟨x, _, rfl⟩ := List.mem_map.mp ha
      obtain ⟨y, _, rfl⟩ := List.mem_map.mp hb
      exact Srt.alk x y
    · rcases Srt.kind (α := α) with k | k
      · refine .inl (List.all_eq_true.mpr fun a ha => ?_)
        obtain ⟨x, _, rfl⟩ := List.mem_map.mp ha
        exact k x
      · refine .inr (List.all_eq_true.mpr fun a ha => ?_)
        obtain ⟨x, _, rfl⟩ := List.mem_map.mp ha
        exact k x
  show Res.guard (sortableB (xs.map enc)) (Res.ok (PyData.list (sortV (xs.map enc)))) = _
  rw [h1]
  show Res.ok (PyData.list (sortV (xs.map enc))) = _
  have h2 : sortV (xs.map enc) = (srt xs).map enc := (List.map_mergeSort (f := (enc : α → Val)) (r := leD) (s := PySem.W.dataLe false fun d : Val => d) (l := xs) fun _ _ _ _ => rfl).symm
  rw [h2]
  rfl
theorem srt_perm {α : Type} [Enc α] (xs : List α) : (srt xs).Perm xs := List.mergeSort_perm xs leD
theorem mem_srt {α : Type} [Enc α] {xs : List α} {x : α} : x ∈ srt xs ↔ x ∈ xs := (srt_perm xs).mem_iff
theorem srt_length {α : Type} [Enc α] (xs : List α) : (srt xs).length = xs.length := (srt_perm xs).length_eq

def flip (R : List Pt) : List Pt := R.map fun p => (p.2, p.1)
theorem mem_flip {R : List Pt} {x y : Int} : (x, y) ∈ flip R ↔ (y, x) ∈ R := by
  unfold flip
  rw [List.mem_map]
  constructor
  · rintro ⟨p, hp, e⟩
    cases e
    exact hp
  · intro h
    exact ⟨(y, x), h, rfl⟩
theorem inP_flip {m : Int} {R : List Pt} (h : InP m R) : InP m (flip R) := fun p hp => by
  obtain ⟨q, hq, rfl⟩ := List.mem_map.mp hp
  exact ⟨(h q hq).2, (h q hq).1⟩
/-- a drawing of at most sixty, of tame size -/
structure Tame (d : Dr) : Prop where
  m : d.a ≤ 60
  arr : InP d.a d.b
  tie : InP d.a d.c
  zb : d.b.length ≤ 1000
  zc : d.c.length ≤ 1000
section
variable {Pr : Prog} {n : Nat}
theorem ev_ancestors (h4 : Pr 4 = some k_reached) (h : Pr 28 = some k_ancestors_of) {d : Dr} (T : Tame d) {S : List Int} (hS : InR d.a S) (zS : S.length ≤ 100000) :
    ∃ f : List Int, evalD Pr (n + 2) 28 [enc d, enc S] = .ok (enc f) ∧ f.Pairwise (· < ·) ∧ ∀ x, x ∈ f ↔ Clo (flip d.b) S x := by
  have zf : (flip d.b).length = d.b.length := by simp [flip]
  have zb := T.zb
  obtain ⟨f, e1, e2, e3⟩ := ev_reached (n := n) h4 T.m (inP_flip T.arr) hS (by omega) zS
  refine ⟨f, evalD_rt h rfl (ss_ret (ev_call (evs_cons (v := enc (flip d.b)) ?_ (evs_cons (v := enc S) rfl evs_nil)) e1)), e2, e3⟩
  have := comp_eq (cf := evalD Pr (n + 1)) (k := 0) (d := 0) (w := [2, 3]) (elt := .op (.tup [false, false]) [.var 3, .var 2]) (t := .tup [.slot 2, .slot 3]) (it := .op .idx [.var 0, .cst (.int 1)]) (ifs := none) (ρ := startE k_ancestors_of [enc d, enc S]) (l := d.b) (enc : Pt → Val) (enc : Pt → Val) (fun _ => true) (fun p => (p.2, p.1)) (fun p => [some (enc d, 0), some (enc S, 0), some (enc p.1, 0), some (enc p.2, 0)]) rfl (fun _ _ => rfl) (fun _ _ => rfl) (fun _ _ _ => rfl) (by omega)
  rw [List.filter_eq_self.mpr fun _ _ => rfl] at this
  exact this

/-- arrows into the set and ties at it are gone -/
def cutD (d : Dr) (S : List Int) : Dr := ⟨d.a, d.b.filter fun p => !decide (p.2 ∈ S), d.c.filter fun p => !decide (p.1 ∈ S) && !decide (p.2 ∈ S)⟩
theorem ev_cut_into (h : Pr 34 = some k_cut_into) (d : Dr) (S : List Int) (zb : d.b.length ≤ 16777216) (zc : d.c.length ≤ 16777216) : evalD Pr (n + 1) 34 [enc d, enc S] = .ok (enc (cutD d S)) := by
  refine evalD_rt h rfl (ss_asg (v := enc d) rfl rfl (ss_set (v := enc (cutD d S).c) ?_ (ss_ret (ev_op (evs_cons (v := enc d.a) rfl (evs_cons (v := enc (cutD d S).b) ?_ (evs_cons (v := enc (cutD d S).c) rfl evs_nil))) rfl))))
  · have := comp_eq (cf := evalD Pr n) (k := 0) (d := 0) (w := [6, 7]) (elt := .op (.tup [false, false]) [.var 6, .var 7]) (t := .tup [.slot 6, .slot 7]) (it := .var 5) (ifs := some (.and (.op .notin [.var 6, .var 1]) (.op .notin [.var 7, .var 1]))) (ρ := [some (enc d, 0), some (enc S, 0), none, some (enc d.a, 0), some (enc d.b, 0), some (enc d.c, 0), none, none]) (l := d.c) (enc : Pt → Val) (enc : Pt → Val) (fun p => !decide (p.1 ∈ S) && !decide (p.2 ∈ S)) (fun p => p) (fun p => [some (enc d, 0), some (enc S, 0), none, some (enc d.a, 0), some (enc d.b, 0), some (enc d.c, 0), some (enc p.1, 0), some (enc p.2, 0)]) rfl (fun _ _ => rfl) (fun p _ => evalO_of (cb_and (cb_notin (α := Int) (x := p.1) (ys := S) rfl rfl) fun _ => cb_notin (α := Int) (x := p.2) (ys := S) rfl rfl)) (fun _ _ _ => rfl) zc
    rw [List.map_id'] at this
    exact this
  · have := comp_eq (cf := evalD Pr n) (k := 0) (d := 0) (w := [6, 7]) (elt := .op (.tup [false, false]) [.var 6, .var 7]) (t := .tup [.slot 6, .slot 7]) (it := .var 4) (ifs := some (.op .notin [.var 7, .var 1])) (ρ := [some (enc d, 0), some (enc S, 0), some (enc (cutD d S).c, 0), some (enc d.a, 0), some (enc d.b, 0), some (enc d.c, 0), none, none]) (l := d.b) (enc : Pt → Val) (enc : Pt → Val) (fun p => !decide (p.2 ∈ S)) (fun p => p) (fun p => [some (enc d, 0), some (enc S, 0), some (enc (cutD d S).c, 0), some (enc d.a, 0), some (enc d.b, 0), some (enc d.c, 0), some (enc p.1, 0), some (enc p.2, 0)]) rfl (fun _ _ => rfl) (fun p _ => evalO_of (cb_notin (α := Int) (x := p.2) (ys := S) rfl rfl)) (fun _ _ _ => rfl) zb
    rw [List.map_id'] at this
    exact this
/-- the law's own cut, nothing taken out of arrows -/
theorem ev_law_cut (h : Pr 585 = some k__law_cut_v2) (d : Dr) (S : List Int) (zb : d.b.length ≤ 16777216) (zc : d.c.length ≤ 16777216) : evalD Pr (n + 1) 585 [enc d, enc S, enc ([] : List Int)] = .ok (enc (cutD d S)) := by
  refine evalD_rt h rfl (ss_asg (v := enc d) rfl rfl (ss_set (v := enc (cutD d S).b) ?_ (ss_ret (ev_op (evs_cons (v := enc d.a) rfl (evs_cons (v := enc (cutD d S).b) rfl (evs_cons (v := enc (cutD d S).c) ?_ evs_nil))) rfl))))
  · have := comp_eq (cf := evalD Pr n) (k := 0) (d := 0) (w := [6, 7]) (elt := .op (.tup [false, false]) [.var 6, .var 7]) (t := .tup [.slot 6, .slot 7]) (it := .var 3) (ifs := some (.and (.op .notin [.var 7, .var 1]) (.op .notin [.var 6, .var 2]))) (ρ := [some (enc d, 0), some (enc S, 0), some (enc ([] : List Int), 0), some (enc d.b, 0), some (enc d.a, 0), some (enc d.c, 0), none, none]) (l := d.b) (enc : Pt → Val) (enc : Pt → Val) (fun p => !decide (p.2 ∈ S) && !decide (p.1 ∈ ([] : List Int))) (fun p => p) (fun p => [some (enc d, 0), some (enc S, 0), some (enc ([] : List Int), 0), some (enc d.b, 0), some (enc d.a, 0), some (enc d.c, 0), some (enc p.1, 0), some (enc p.2, 0)]) rfl (fun _ _ => rfl) (fun p _ => evalO_of (cb_and (cb_notin (α := Int) (x := p.2) (ys := S) rfl rfl) fun _ => cb_notin (α := Int) (x := p.1) (ys := []) rfl rfl)) (fun _ _ _ => rfl) zb
    rw [List.map_id', List.filter_congr (q := fun p => !decide (p.2 ∈ S)) fun p _ => by simp] at this
    exact this
  · have := comp_eq (cf := evalD Pr n) (k := 0) (d := 0) (w := [6, 7]) (elt := .op (.tup [false, false]) [.var 6, .var 7]) (t := .tup [.slot 6, .slot 7]) (it := .var 5) (ifs := some (.and (.op .notin [.var 6, .var 1]) (.op .notin [.var 7, .var 1]))) (ρ := [some (enc d, 0), some (enc S, 0), some (enc ([] : List Int), 0), some (enc (cutD d S).b, 0), some (enc d.a, 0), some (enc d.c, 0), none, none]) (l := d.c) (enc : Pt → Val) (enc : Pt → Val) (fun p => !decide (p.1 ∈ S) && !decide (p.2 ∈ S)) (fun p => p) (fun p => [some (enc d, 0), some (enc S, 0), some (enc ([] : List Int), 0), some (enc (cutD d S).b, 0), some (enc d.a, 0), some (enc d.c, 0), some (enc p.1, 0), some (enc p.2, 0)]) rfl (fun _ _ => rfl) (fun p _ => evalO_of (cb_and (cb_notin (α := Int) (x := p.1) (ys := S) rfl rfl) fun _ => cb_notin (α := Int) (x := p.2) (ys := S) rfl rfl)) (fun _ _ _ => rfl) zc
    rw [List.map_id'] at this
    exact this
theorem Tame.cut {d : Dr} (T : Tame d) (S : List Int) : Tame (cutD d S) where
  m := T.m
  arr := fun p hp => T.arr p (List.mem_filter.mp hp).1
  tie := fun p hp => T.tie p (List.mem_filter.mp hp).1
  zb := Nat.le_trans (List.length_filter_le _ _) T.zb
  zc := Nat.le_trans (List.length_filter_le _ _) T.zc

/-- the ties among told, both ways -/
def tiesIn (d : Dr) (A : List Int) : List Pt := d.c.filter fun p => decide (p.1 ∈ A) && decide (p.2 ∈ A)
def bothIn (d : Dr) (A : List Int) : List Pt := tiesIn d A ++ flip (tiesIn d A)
theorem mem_bothIn {d : Dr} {A : List Int} {x y : Int} : (x, y) ∈ bothIn d A ↔ (x ∈ A ∧ y ∈ A) ∧ ((x, y) ∈ d.c ∨ (y, x) ∈ d.c) := by
  unfold bothIn
  rw [List.mem_append, mem_flip]
  unfold tiesIn
  simp only [List.mem_filter, Bool.and_eq_true, decide_eq_true_eq]
  constructor
  · rintro (⟨h1, h2, h3⟩ | ⟨h1, h2, h3⟩)
    · exact ⟨⟨h2, h3⟩, .inl h1⟩
    · exact ⟨⟨h3, h2⟩, .inr h1⟩
  · rintro ⟨⟨h2, h3⟩, h1 | h1⟩
    · exact .inl ⟨h1, h2, h3⟩
    · exact .inr ⟨h1, h3, h2⟩
theorem ev_districts (h4 : Pr 4 = some k_reached) (h : Pr 32 = some k_districts_of) {d : Dr} (T : Tame d) {A : List Int} (hA : InR d.a A) (zA : A.length ≤ 1000) :
    ∃ ds : List (List Int), evalD Pr (n + 2) 32 [enc d, enc A] = .ok (enc ds) ∧ (∀ D ∈ ds, ∃ v ∈ A, D.length ≤ 60 ∧ ∀ x, x ∈ D ↔ Clo (bothIn d A) [v] x) ∧ (∀ v ∈ A, ∃ D ∈ ds, v ∈ D) ∧ ds.length ≤ A.length := by
  have zt : (tiesIn d A).length ≤ 1000 := Nat.le_trans (List.length_filter_le _ _) T.zc
  have zf : (flip (tiesIn d A)).length ≤ 1000 := by simpa [flip] using zt
  have inB : InP d.a (bothIn d A) := fun p hp => by
    rcases List.mem_append.mp hp with hp | hp
    · exact T.tie p (List.mem_filter.mp hp).1
    · exact inP_flip (R := tiesIn d A) (fun q hq => T.tie q (List.mem_filter.mp hq).1) p hp
  have zB : (bothIn d A).length ≤ 100000 := by
    unfold bothIn
    rw [List.length_append]
    omega
  suffices hh : ∃ ds : List (List Int), evalSs (evalD Pr (n + 1)) k_districts_of.body (startE k_districts_of [enc d, enc A]) = .ok (.rt (enc (srt ds))) ∧ (∀ D ∈ ds, ∃ v ∈ A, D.length ≤ 60 ∧ ∀ x, x ∈ D ↔ Clo (bothIn d A) [v] x) ∧ (∀ v ∈ A, ∃ D ∈ ds, v ∈ D) ∧ ds.length ≤ A.length by
    obtain ⟨ds, h1, h2, h3, h4⟩ := hh
    exact ⟨srt ds, evalD_rt h rfl h1, fun D hD => h2 D (mem_srt.mp hD), fun v hv => by
      obtain ⟨D, hD, e⟩ := h3 v hv
      exact ⟨D, mem_srt.mpr hD, e⟩, by rw [srt_length]; exact h4⟩
  let E : List (List Int) → Option (Val × Nat) → Env := fun f j => [some (enc d, 0), some (enc A, 0), some (enc (tiesIn d A), 0), some (enc (bothIn d A), 0), some (enc f, 1), j, none, none, none]
  let I : List Int → List (List Int) → Prop := fun pre f => (∀ D ∈ f, ∃ v ∈ A, D.length ≤ 60 ∧ ∀ x, x ∈ D ↔ Clo (bothIn d A) [v] x) ∧ (∀ v ∈ pre, ∃ D ∈ f, v ∈ D) ∧ f.length ≤ pre.length
  have hfor : ∃ f' j', forL (fun v ρ => (bindP (.slot 5) v ρ).bind fun ρ' => evalSs (evalD Pr (n + 1)) [.iff (.op .eq [(.op .len [(.comp [8] 0 (.var 8) (.slot 8) (.var 4) (some (.op .isin [(.var 5), (.var 8)])))]), (.cst (.int 0))]) [.app 4 (.call 4 [(.var 3), (.op (.lst 0 [false]) [(.var 5)])]) 0] []] ρ') (A.map enc) (E [] none) = .ok (.nx (E f' j')) ∧ I A f' := by
    refine forL_inv E I (l := A) (fun pre v post f j hl hs => ?_) A [] [] none rfl ⟨fun _ z => (nomatch z), fun _ z => (nomatch z), Nat.zero_le _⟩
    have vA : v ∈ A := by rw [hl]; exact List.mem_append_right _ List.mem_cons_self
    have zf : f.length ≤ 1000 := by
      have := hs.2.2
      have : pre.length ≤ A.length := by rw [hl, List.length_append]; omega
      omega
    have hcomp := comp_eq (cf := evalD Pr (n + 1)) (k := 9) (d := 0) (w := [8]) (elt := .var 8) (t := .slot 8) (it := .var 4) (ifs := some (.op .isin [.var 5, .var 8])) (ρ := E f (some (enc v, 0))) (l := f) (enc : List Int → Val) (enc : List Int → Val) (fun D => decide (v ∈ D)) (fun D => D) (fun D => [some (enc d, 0), some (enc A, 0), some (enc (tiesIn d A), 0), some (enc (bothIn d A), 0), some (enc f, 1), some (enc v, 0), none, none, some (enc D, 0)]) rfl (fun _ _ => rfl) (fun D _ => evalO_of (cb_in (α := Int) (x := v) (ys := D) rfl rfl)) (fun _ _ _ => rfl) (by omega)
    rw [List.map_id'] at hcomp
    have hlen := ev_len (k := 9) hcomp
    rw [List.length_map] at hlen
    have hc := cb_eq (b := .cst (.int 0)) (α := Int) (y := 0) hlen rfl
    by_cases q : (f.filter fun D => decide (v ∈ D)) = []
    · have iv : InR d.a [v] := fun x hx => by
        rcases List.mem_cons.mp hx with e | e
        · rw [e]
          exact hA v vA
        · cases e
      obtain ⟨D, e1, e2, e3⟩ := ev_reached (n := n) h4 (R := bothIn d A) (S := [v]) T.m inB iv zB (by simp)
      have lD : D.length ≤ 60 := by
        have := below_len (nodup_of_sorted e2) fun x hx => ((e3 x).mp hx).inR inB iv
        have := T.m
        omega
      refine ⟨f ++ [D], some (enc v, 0), ?_, ⟨fun D' hD' => ?_, fun u hu => ?_, by rw [List.length_append, List.length_append]; have := hs.2.2; simp; omega⟩⟩
      · show evalSs _ _ (E f (some (enc v, 0))) = _
        rw [q] at hc
        refine ss_ifT hc ?_
        have ha : evalSs (evalD Pr (n + 1)) [.app 4 (.call 4 [(.var 3), (.op (.lst 0 [false]) [(.var 5)])]) 0] (E f (some (enc v, 0))) = .ok (.nx (E (f ++ [D]) (some (enc v, 0)))) := by
          refine ss_app (v := enc D) (xs := f.map enc) (t := 1) (ev_call (evs_cons (v := enc (bothIn d A)) rfl (evs_cons (v := enc [v]) (ev_op (evs_cons (v := enc v) rfl evs_nil) (den_lst (xs := [enc v]) rfl (by simp))) evs_nil)) e1) rfl (by rw [List.length_map]; omega) ?_
          show Res.ok (Out.nx [some (enc d, 0), some (enc A, 0), some (enc (tiesIn d A), 0), some (enc (bothIn d A), 0), some (.list (f.map enc ++ [enc D]), 1), some (enc v, 0), none, none, none]) = Res.ok (Out.nx [some (enc d, 0), some (enc A, 0), some (enc (tiesIn d A), 0), some (enc (bothIn d A), 0), some (.list ((f ++ [D]).map enc), 1), some (enc v, 0), none, none, none])
          rw [List.map_append]
          rfl
        rw [ha]
        rfl
      · rcases List.mem_append.mp hD' with z | z
        · exact hs.1 D' z
        · rcases List.mem_cons.mp z with z | z
          · rw [z]
            exact ⟨v, vA, lD, e3⟩
          · cases z
      · rcases List.mem_append.mp hu with z | z
        · obtain ⟨D', h1, h2⟩ := hs.2.1 u z
          exact ⟨D', List.mem_append_left _ h1, h2⟩
        · rcases List.mem_cons.mp z with z | z
          · rw [z]
            exact ⟨D, List.mem_append_right _ List.mem_cons_self, (e3 v).mpr (.base List.mem_cons_self)⟩
          · cases z
    · refine ⟨f, some (enc v, 0), ?_, ⟨hs.1, fun u hu => ?_, by rw [List.length_append]; have := hs.2.2; omega⟩⟩
      · show evalSs _ _ (E f (some (enc v, 0))) = _
        have hne : ¬ (((f.filter fun D => decide (v ∈ D)).length : Nat) : Int) = 0 := fun z => q (List.length_eq_zero_iff.mp (by omega))
        rw [decide_eq_false hne] at hc
        exact ss_ifF hc rfl
      · rcases List.mem_append.mp hu with z | z
        · exact hs.2.1 u z
        · rcases List.mem_cons.mp z with z | z
          · rw [z]
            obtain ⟨D, hD⟩ := List.exists_mem_of_ne_nil _ q
            obtain ⟨h1, h2⟩ := List.mem_filter.mp hD
            exact ⟨D, h1, of_decide_eq_true h2⟩
          · cases z
  obtain ⟨f, j, w1, hs⟩ := hfor
  refine ⟨f, ?_, hs.1, hs.2.1, hs.2.2⟩
  have t1 := comp_eq (cf := evalD Pr (n + 1)) (k := 0) (d := 0) (w := [6, 7]) (elt := .op (.tup [false, false]) [.var 6, .var 7]) (t := .tup [.slot 6, .slot 7]) (it := .op .idx [.var 0, .cst (.int 2)]) (ifs := some (.and (.op .isin [.var 6, .var 1]) (.op .isin [.var 7, .var 1]))) (ρ := startE k_districts_of [enc d, enc A]) (l := d.c) (enc : Pt → Val) (enc : Pt → Val) (fun p => decide (p.1 ∈ A) && decide (p.2 ∈ A)) (fun p => p) (fun p => [some (enc d, 0), some (enc A, 0), none, none, none, none, some (enc p.1, 0), some (enc p.2, 0), none]) rfl (fun _ _ => rfl) (fun p _ => evalO_of (cb_and (cb_in (α := Int) (x := p.1) (ys := A) rfl rfl) fun _ => cb_in (α := Int) (x := p.2) (ys := A) rfl rfl)) (fun _ _ _ => rfl) (by have := T.zc; omega)
  rw [List.map_id'] at t1
  have t2 := comp_eq (cf := evalD Pr (n + 1)) (k := 1) (d := 0) (w := [6, 7]) (elt := .op (.tup [false, false]) [.var 7, .var 6]) (t := .tup [.slot 6, .slot 7]) (it := .var 2) (ifs := none) (ρ := [some (enc d, 0), some (enc A, 0), some (enc (tiesIn d A), 0), none, none, none, none, none, none]) (l := tiesIn d A) (enc : Pt → Val) (enc : Pt → Val) (fun _ => true) (fun p => (p.2, p.1)) (fun p => [some (enc d, 0), some (enc A, 0), some (enc (tiesIn d A), 0), none, none, none, some (enc p.1, 0), some (enc p.2, 0), none]) rfl (fun _ _ => rfl) (fun _ _ => rfl) (fun _ _ _ => rfl) (by omega)
  rw [List.filter_eq_self.mpr fun _ _ => rfl] at t2
  refine ss_set (v := enc (tiesIn d A)) t1 (ss_set (v := enc (bothIn d A)) (ev2 (x := enc (tiesIn d A)) (y := enc (flip (tiesIn d A))) rfl t2 ?_) (ss_set (v := enc ([] : List (List Int))) rfl (ss_cons (ρ' := E f j) w1 (ss_ret (ev1 (x := enc f) rfl (den_sorted f))))))
  have := den_addL (xs := (tiesIn d A).map enc) (ys := (flip (tiesIn d A)).map enc) (by rw [List.length_map, List.length_map]; omega)
  rw [← List.map_append] at this
  exact this
end
end VL

/-! plain side, part 3: are_apart -/
namespace VL
open PySem
open Enc
theorem den_idx {xs : List Val} {i : Nat} {v : Val} (h : xs[i]? = some v) : den .idx [.list xs, .int (i : Nat)] = .ok v := by
  show ofOpt (L2.atI xs ((i : Nat) : Int)) = _
  have hi : i < xs.length := by
    by_cases q : i < xs.length
    · exact q
    · rw [List.getElem?_eq_none (by omega)] at h
      cases h
  unfold L2.atI L2.ixN
  rw [if_pos (by omega), if_pos (by omega)]
  show ofOpt xs[((i : Nat) : Int).toNat]? = _
  rw [Int.toNat_natCast, h]
  rfl
theorem boolsOf_bools : ∀ bs : List Bool, boolsOf (bs.map .bool) = some bs
  | [] => rfl
  | b :: bs => by
    show (boolsOf (bs.map .bool)).map (b :: ·) = _
    rw [boolsOf_bools bs]
    rfl
theorem den_all (bs : List Bool) : den .all [.list (bs.map .bool)] = .ok (.bool (bs.all id)) := by
  show (match boolsOf (bs.map .bool) with
    | some bs => Res.ok (PyData.bool (bs.all id))
    | none => Res.bad) = _
  rw [boolsOf_bools]
/-- two clauses, no tests -/
theorem comp2_eq {cf : Nat → List Val → Res Val} {k : Nat} {w w2 : List Nat} {elt it it2 : E} {t t2 : Pat} {ρ : Env} {α β γ : Type} (e : α → Val) (e2 : β → Val) (e3 : γ → Val) (g : α → List β) (h : α → β → γ) (ρ' : α → Env) (ρ2 : α → β → Env) {l : List α}
    (hi : (evalE cf 1 it ρ).bind asSeq = .ok (l.map e)) (hb : ∀ x ∈ l, bindP t (e x) (killL w ρ) = .ok (ρ' x)) (hi2 : ∀ x ∈ l, evalE cf 0 it2 (ρ' x) = .ok (.list ((g x).map e2))) (hb2 : ∀ x ∈ l, ∀ y ∈ g x, bindP t2 (e2 y) (killL w2 (ρ' x)) = .ok (ρ2 x y))
    (he : ∀ x ∈ l, ∀ y ∈ g x, evalE cf 0 elt (ρ2 x y) = .ok (e3 (h x y))) (hz : (l.flatMap fun x => (g x).map (h x)).length ≤ 16777216) : evalE cf k (.comp2 w w2 elt t it none t2 it2 none) ρ = .ok (.list ((l.flatMap fun x => (g x).map (h x)).map e3)) := by
  have hx : ∀ x ∈ l, turn2 cf w w2 elt t none t2 it2 none ρ (e x) = .ok (((g x).map (h x)).map e3) := fun x m => by
    unfold turn2
    rw [hb x m, Res.bind_ok]
    show ((evalE cf 0 it2 (ρ' x)).quiet).bind _ = _
    rw [hi2 x m]
    show compL (turn1 cf w2 elt t2 none (ρ' x)) ((g x).map e2) = _
    rw [compL_map (e := e2) (e2 := e3) (g := fun y => some (h x y)) fun y my => by
      unfold turn1
      rw [hb2 x m y my, Res.bind_ok]
      show ((evalE cf 0 elt (ρ2 x y)).quiet).bind _ = _
      rw [he x m y my]
      rfl]
    congr 2
    induction g x with
    | nil => rfl
    | cons y r ih => simp [ih]
  obtain ⟨v, e1, e4⟩ := Res.bind_eq_ok hi
  show ((evalE cf 1 it ρ).bind fun s => (asSeq s).bind fun xs => (compLL (turn2 cf w w2 elt t none t2 it2 none ρ) xs).bind fun r => Res.guard (sizeOk r.length) (Res.ok (PyData.list r))) = _
  rw [e1, Res.bind_ok, e4, Res.bind_ok, compLL_map hx, Res.bind_ok, List.length_map, sizeOk_le hz]
  rfl

/-- a district with its members' parents -/
def grp (d : Dr) (D : List Int) : List Int := D ++ D.flatMap (parents d)
theorem mem_grp {d : Dr} {D : List Int} {x : Int} : x ∈ grp d D ↔ x ∈ D ∨ ∃ c ∈ D, (x, c) ∈ d.b := by
  unfold grp
  rw [List.mem_append, List.mem_flatMap]
  simp only [mem_parents]
def AdjG (G : List (List Int)) (x y : Int) : Prop := ∃ g ∈ G, x ∈ g ∧ y ∈ g
/-- reached from one, never into known -/
inductive Bf (G : List (List Int)) (one known : List Int) : Int → Prop
  | base {x : Int} : x ∈ one → Bf G one known x
  | step {x y : Int} : Bf G one known x → AdjG G x y → y ∉ known → Bf G one known y
def fresh (f known g : List Int) : List Int := g.filter fun a => !decide (a ∈ f) && !decide (a ∈ known)
theorem mem_fresh {f known g : List Int} {a : Int} : a ∈ fresh f known g ↔ a ∈ g ∧ a ∉ f ∧ a ∉ known := by
  unfold fresh
  rw [List.mem_filter]
  simp
/-- the slots of are_apart at its loop -/
def eA (d : Dr) (one two known A : List Int) (G : List (List Int)) (j6 : Option (Val × Nat)) (f : List Int) (at_ : Nat) (j9 : Option (Val × Nat)) : Env :=
  [some (enc d, 0), some (enc one, 0), some (enc two, 0), some (enc known, 0), some (enc A, 0), some (enc G, 0), j6, some (enc f, 1), some (.int (at_ : Nat), 0), j9, none, none]
def apBody : List S := [.for (.slot 9) (.var 5) [.iff (.op .isin [(.op .idx [(.var 7), (.var 8)]), (.var 9)]) [.ext 7 (.op .sortedSet [(.comp [11] 0 (.var 11) (.slot 11) (.var 9) (some (.and (.op .notin [(.var 11), (.var 7)]) (.op .notin [(.var 11), (.var 3)]))))])] []], .set 8 (.op .add [(.var 8), (.cst (.int 1))]) 0]
structure Bok (m : Int) (G : List (List Int)) (one known f : List Int) : Prop where
  nodup : f.Nodup
  inR : InR m f
  sound : ∀ x ∈ f, Bf G one known x
  base : ∀ x ∈ one, x ∈ f
theorem bfs_turn {cf : Nat → List Val → Res Val} {d : Dr} {one two known A : List Int} {G : List (List Int)} {j6 : Option (Val × Nat)} (hm : d.a ≤ 60) (hG : ∀ g ∈ G, InR d.a g) (zG : G.length ≤ 1000) (zg : ∀ g ∈ G, g.length ≤ 100000) {f : List Int} {at_ : Nat} {j9 : Option (Val × Nat)} (B : Bok d.a G one known f) (ha : at_ < f.length) :
    ∃ f' j', evalSs cf apBody (eA d one two known A G j6 f at_ j9) = .ok (.nx (eA d one two known A G j6 f' (at_ + 1) j')) ∧ Bok d.a G one known f' ∧ (∃ ext, f' = f ++ ext) ∧ ∀ g ∈ G, f[at_] ∈ g → ∀ a ∈ g, a ∉ known → a ∈ f' := by
  have len60 : ∀ {f' : List Int}, Bok d.a G one known f' → f'.length ≤ 60 := fun b => by
    have := below_len b.nodup b.inR
    omega
  obtain ⟨f', j', w1, ⟨b1, ⟨ext, e1⟩, c1⟩⟩ := forL_inv (b := fun v ρ => (bindP (.slot 9) v ρ).bind fun ρ' => evalSs cf [.iff (.op .isin [(.op .idx [(.var 7), (.var 8)]), (.var 9)]) [.ext 7 (.op .sortedSet [(.comp [11] 0 (.var 11) (.slot 11) (.var 9) (some (.and (.op .notin [(.var 11), (.var 7)]) (.op .notin [(.var 11), (.var 3)]))))])] []] ρ') (e := (enc : List Int → Val))
    (fun f' j => eA d one two known A G j6 f' at_ j) (fun pre f' => Bok d.a G one known f' ∧ (∃ ext, f' = f ++ ext) ∧ ∀ g ∈ pre, f[at_] ∈ g → ∀ a ∈ g, a ∉ known → a ∈ f') (l := G) (fun pre g post f' j hl hs => by
      obtain ⟨b, ⟨ext, e1⟩, c⟩ := hs
      have gG : g ∈ G := by rw [hl]; exact List.mem_append_right _ List.mem_cons_self
      have at' : f'[at_]? = some f[at_] := by
        rw [e1, List.getElem?_append_left ha]
        exact List.getElem?_eq_getElem ha
      have hc : CB cf (.op .isin [(.op .idx [(.var 7), (.var 8)]), (.var 9)]) (eA d one two known A G j6 f' at_ (some (enc g, 0))) (decide (f[at_] ∈ g)) := by
        refine cb_in (α := Int) (x := f[at_]) (ys := g) (ev2 (x := enc f') (y := .int (at_ : Nat)) rfl rfl (den_idx ?_)) rfl
        rw [List.getElem?_map, at']
        rfl
      by_cases q : f[at_] ∈ g
      · rw [decide_eq_true q] at hc
        have inF : InR d.a (fresh f' known g) := fun a h => hG g gG a (mem_fresh.mp h).1
        have hcomp := comp_eq (cf := cf) (k := 9) (d := 0) (w := [11]) (elt := .var 11) (t := .slot 11) (it := .var 9) (ifs := some (.and (.op .notin [.var 11, .var 7]) (.op .notin [.var 11, .var 3]))) (ρ := eA d one two known A G j6 f' at_ (some (enc g, 0))) (l := g) (enc : Int → Val) (enc : Int → Val) (fun a => !decide (a ∈ f') && !decide (a ∈ known)) (fun a => a)
          (fun a => [some (enc d, 0), some (enc one, 0), some (enc two, 0), some (enc known, 0), some (enc A, 0), some (enc G, 0), j6, some (enc f', 1), some (.int (at_ : Nat), 0), some (enc g, 0), none, some (enc a, 0)]) rfl (fun _ _ => rfl) (fun a _ => evalO_of (cb_and (cb_notin (α := Int) (x := a) (ys := f') rfl rfl) fun _ => cb_notin (α := Int) (x := a) (ys := known) rfl rfl)) (fun _ _ _ => rfl) (by have := zg g gG; omega)
        rw [List.map_id'] at hcomp
        have l1 := once_len inF
        have b' : Bok d.a G one known (f' ++ intsOnce (fresh f' known g)) := ⟨List.nodup_append.mpr ⟨b.nodup, nodup_of_sorted (once_sorted _), fun x hx y hy z => (mem_fresh.mp ((once_mem _).mp hy)).2.1 (z ▸ hx)⟩, fun x hx => (List.mem_append.mp hx).elim (b.inR x) fun hx => inF x ((once_mem _).mp hx), fun x hx => (List.mem_append.mp hx).elim (b.sound x) fun hx => by
          have h3 := mem_fresh.mp ((once_mem _).mp hx)
          refine .step (b.sound f[at_] ?_) ⟨g, gG, q, h3.1⟩ h3.2.2
          rw [e1]
          exact List.mem_append_left _ (List.getElem_mem ha), fun x hx => List.mem_append_left _ (b.base x hx)⟩
        have l2 := len60 b
        refine ⟨f' ++ intsOnce (fresh f' known g), some (enc g, 0), ?_, b', ⟨ext ++ intsOnce (fresh f' known g), by rw [e1, List.append_assoc]⟩, fun g' hg' h1 a h2 h3 => ?_⟩
        · show evalSs cf _ (eA d one two known A G j6 f' at_ (some (enc g, 0))) = _
          refine ss_ifT hc ?_
          have : evalSs cf [.ext 7 (.op .sortedSet [(.comp [11] 0 (.var 11) (.slot 11) (.var 9) (some (.and (.op .notin [(.var 11), (.var 7)]) (.op .notin [(.var 11), (.var 3)]))))])] (eA d one two known A G j6 f' at_ (some (enc g, 0))) = .ok (.nx (eA d one two known A G j6 (f' ++ intsOnce (fresh f' known g)) at_ (some (enc g, 0)))) := by
            refine ss_ext (ys := (intsOnce (fresh f' known g)).map .int) (xs := f'.map enc) (t := 1) (ev1 hcomp (den_sset (by omega))) rfl (by rw [List.length_map, List.length_map]; omega) ?_
            show Res.ok (Out.nx [some (enc d, 0), some (enc one, 0), some (enc two, 0), some (enc known, 0), some (enc A, 0), some (enc G, 0), j6, some (.list (f'.map enc ++ (intsOnce (fresh f' known g)).map enc), 1), some (.int (at_ : Nat), 0), some (enc g, 0), none, none]) = _
            rw [← List.map_append]
            rfl
          rw [this]
          rfl
        · by_cases ka : a ∈ f'
          · exact List.mem_append_left _ ka
          · rcases List.mem_append.mp hg' with z | z
            · exact absurd (c g' z h1 a h2 h3) ka
            · rcases List.mem_cons.mp z with z | z
              · rw [z] at h2
                exact List.mem_append_right _ ((once_mem _).mpr (mem_fresh.mpr ⟨h2, ka, h3⟩))
              · cases z
      · rw [decide_eq_false q] at hc
        refine ⟨f', some (enc g, 0), ?_, b, ⟨ext, e1⟩, fun g' hg' h1 a h2 h3 => ?_⟩
        · show evalSs cf _ (eA d one two known A G j6 f' at_ (some (enc g, 0))) = _
          exact ss_ifF hc rfl
        · rcases List.mem_append.mp hg' with z | z
          · exact c g' z h1 a h2 h3
          · rcases List.mem_cons.mp z with z | z
            · rw [z] at h1
              exact absurd h1 q
            · cases z) G [] f j9 rfl ⟨B, ⟨[], by simp⟩, fun _ z => (nomatch z)⟩
  refine ⟨f', j', ?_, b1, ⟨ext, e1⟩, c1⟩
  refine ss_cons (ρ' := eA d one two known A G j6 f' at_ j') w1 (ss_set (v := .int ((at_ + 1 : Nat) : Int)) (ev2 (x := .int (at_ : Nat)) (y := .int 1) rfl rfl rfl) rfl)
section
variable {Pr : Prog} {n : Nat}
theorem ev_are_apart (h4 : Pr 4 = some k_reached) (h13 : Pr 13 = some k_parents_of) (h28 : Pr 28 = some k_ancestors_of) (h32 : Pr 32 = some k_districts_of) (h : Pr 582 = some k_are_apart) {d : Dr} (T : Tame d) {one two known : List Int} (i1 : InR d.a one) (i2 : InR d.a two) (i3 : InR d.a known)
    (z1 : one.length ≤ 100) (z2 : two.length ≤ 100) (z3 : known.length ≤ 100) (nd : one.Nodup) :
    ∃ (A : List Int) (ds : List (List Int)) (b : Bool), evalD Pr (n + 3) 582 [enc d, enc one, enc two, enc known] = .ok (.bool b) ∧ (∀ x, x ∈ A ↔ Clo (flip d.b) (one ++ two ++ known) x) ∧ (∀ D ∈ ds, ∃ v ∈ A, ∀ x, x ∈ D ↔ Clo (bothIn d A) [v] x) ∧ (∀ v ∈ A, ∃ D ∈ ds, v ∈ D) ∧
      (b = true ↔ ∀ v ∈ two, ¬ Bf (ds.map (grp d)) one known v) := by
  have zb := T.zb
  have i123 : InR d.a (one ++ two ++ known) := fun x hx => by
    rcases List.mem_append.mp hx with hx | hx
    · rcases List.mem_append.mp hx with hx | hx
      · exact i1 x hx
      · exact i2 x hx
    · exact i3 x hx
  obtain ⟨A, eA1, sA, mA⟩ := ev_ancestors (n := n) h4 h28 T i123 (by rw [List.length_append, List.length_append]; omega)
  have iA : InR d.a A := fun x hx => ((mA x).mp hx).inR (inP_flip T.arr) i123
  have lA := below_len (nodup_of_sorted sA) iA
  have hm := T.m
  obtain ⟨ds, eD, dD, cD, lD⟩ := ev_districts (n := n) h4 h32 T iA (by omega)
  have iD : ∀ D ∈ ds, InR d.a D := fun D hD x hx => by
    obtain ⟨v, hv, _, e⟩ := dD D hD
    refine ((e x).mp hx).inR (R := bothIn d A) (fun p hp => ?_) fun y hy => ?_
    · obtain ⟨⟨a1, a2⟩, _⟩ := mem_bothIn.mp (show (p.1, p.2) ∈ bothIn d A from hp)
      exact ⟨iA _ a1, iA _ a2⟩
    · rcases List.mem_cons.mp hy with z | z
      · rw [z]
        exact iA v hv
      · cases z
  let G := ds.map (grp d)
  have hG : ∀ g ∈ G, InR d.a g := fun g hg x hx => by
    obtain ⟨D, hD, rfl⟩ := List.mem_map.mp hg
    rcases mem_grp.mp hx with z | ⟨c, _, z⟩
    · exact iD D hD x z
    · exact (T.arr _ z).1
  have lpar : ∀ v, (parents d v).length ≤ 1000 := fun v => by
    unfold parents
    rw [List.length_map]
    exact Nat.le_trans (List.length_filter_le _ _) zb
  have lfm : ∀ D : List Int, (D.flatMap (parents d)).length ≤ D.length * 1000 := fun D => by
    induction D with
    | nil => simp
    | cons v D ih =>
      rw [List.flatMap_cons, List.length_append, List.length_cons]
      have := lpar v
      omega
  have zg : ∀ g ∈ G, g.length ≤ 100000 := fun g hg => by
    obtain ⟨D, hD, rfl⟩ := List.mem_map.mp hg
    obtain ⟨v, hv, l, e⟩ := dD D hD
    unfold grp
    rw [List.length_append]
    have := lfm D
    omega
  have zG : G.length ≤ 1000 := by
    show (ds.map (grp d)).length ≤ 1000
    rw [List.length_map]
    omega
  let E0 : List (List Int) → Option (Val × Nat) → Env := fun g j => [some (enc d, 0), some (enc one, 0), some (enc two, 0), some (enc known, 0), some (enc A, 0), some (enc g, 1), j, none, none, none, none, none]
  obtain ⟨G', j6, wG, hG'⟩ := forL_inv (b := fun v ρ => (bindP (.slot 6) v ρ).bind fun ρ' => evalSs (evalD Pr (n + 2)) [.app 5 (.op .add [(.var 6), (.comp2 [10, 11] [11] (.var 11) (.slot 10) (.var 6) none (.slot 11) (.call 13 [(.var 0), (.var 10)]) none)]) 0] ρ') (e := (enc : List Int → Val)) E0 (fun pre g => g = pre.map (grp d)) (l := ds) (fun pre D post g j hl hs => by
    have hD : D ∈ ds := by rw [hl]; exact List.mem_append_right _ List.mem_cons_self
    obtain ⟨v, hv, l, e⟩ := dD D hD
    have l2 := lfm D
    refine ⟨g ++ [grp d D], some (enc D, 0), ?_, by rw [hs, List.map_append]; rfl⟩
    have hc := comp2_eq (cf := evalD Pr (n + 2)) (k := 1) (w := [10, 11]) (w2 := [11]) (elt := .var 11) (it := .var 6) (it2 := .call 13 [.var 0, .var 10]) (t := .slot 10) (t2 := .slot 11) (ρ := E0 g (some (enc D, 0))) (enc : Int → Val) (enc : Int → Val) (enc : Int → Val) (parents d) (fun _ y => y)
      (fun x => [some (enc d, 0), some (enc one, 0), some (enc two, 0), some (enc known, 0), some (enc A, 0), some (enc g, 1), some (enc D, 0), none, none, none, some (enc x, 0), none]) (fun x y => [some (enc d, 0), some (enc one, 0), some (enc two, 0), some (enc known, 0), some (enc A, 0), some (enc g, 1), some (enc D, 0), none, none, none, some (enc x, 0), some (enc y, 0)])
      (l := D) rfl (fun _ _ => rfl) (fun x _ => ev_call (evs_cons (v := enc d) rfl (evs_cons (v := enc x) rfl evs_nil)) (ev_parents_of (n := n + 1) h13 d x (by omega))) (fun _ _ _ _ => rfl) (fun _ _ _ _ => rfl) (by
        simp only [List.map_id']
        show (D.flatMap (parents d)).length ≤ 16777216
        omega)
    simp only [List.map_id'] at hc
    show evalSs _ _ (E0 g (some (enc D, 0))) = _
    refine ss_app (v := enc (grp d D)) (xs := g.map enc) (t := 1) (ev2 (x := enc D) (y := enc (D.flatMap (parents d))) rfl hc ?_) rfl (by
      rw [List.length_map, hs, List.length_map]
      have : pre.length ≤ ds.length := by rw [hl, List.length_append]; omega
      omega) ?_
    · have := den_addL (xs := D.map (enc : Int → Val)) (ys := (D.flatMap (parents d)).map enc) (by rw [List.length_map, List.length_map]; omega)
      rw [← List.map_append] at this
      exact this
    · show Res.ok (Out.nx [some (enc d, 0), some (enc one, 0), some (enc two, 0), some (enc known, 0), some (enc A, 0), some (.list (g.map enc ++ [enc (grp d D)]), 1), some (enc D, 0), none, none, none, none, none]) = Res.ok (Out.nx [some (enc d, 0), some (enc one, 0), some (enc two, 0), some (enc known, 0), some (enc A, 0), some (.list ((g ++ [grp d D]).map enc), 1), some (enc D, 0), none, none, none, none, none])
      rw [List.map_append]
      rfl) ds [] [] none rfl rfl
  subst hG'
  let I : List Int × Nat → Prop := fun s => Bok d.a G one known s.1 ∧ s.2 ≤ s.1.length ∧ ∀ (i : Nat) (x : Int), i < s.2 → s.1[i]? = some x → ∀ g ∈ G, x ∈ g → ∀ a ∈ g, a ∉ known → a ∈ s.1
  obtain ⟨s, j9, wW, hs, hgo⟩ := whileL_inv (c := fun ρ => (evalE (evalD Pr (n + 2)) 9 (.op .lt [(.var 8), (.op .len [(.var 7)])]) ρ).bind fun x => asBool x) (b := fun ρ => evalSs (evalD Pr (n + 2)) apBody ρ) (fun (s : List Int × Nat) j => eA d one two known A G j6 s.1 s.2 j) (fun s => decide (((s.2 : Nat) : Int) < ((s.1.length : Nat) : Int))) I (fun s => 61 - s.2) (fun s j _ => by
      have := ev_len (cf := evalD Pr (n + 2)) (k := 9) (a := .var 7) (ρ := eA d one two known A G j6 s.1 s.2 j) (l := s.1.map enc) rfl
      rw [List.length_map] at this
      have h2 := cb_lt (cf := evalD Pr (n + 2)) (a := .var 8) (i := ((s.2 : Nat) : Int)) rfl this
      show (evalE _ 9 _ _).bind _ = _
      rw [h2]
      rfl) (fun s j hs go => by
      have hlt : s.2 < s.1.length := by
        have := of_decide_eq_true go
        omega
      have l60 := below_len hs.1.nodup hs.1.inR
      obtain ⟨f', j', w, b, ⟨ext, e1⟩, c⟩ := bfs_turn (cf := evalD Pr (n + 2)) (two := two) (A := A) (j6 := j6) (j9 := j) hm hG zG zg hs.1 hlt
      refine ⟨(f', s.2 + 1), j', w, ⟨b, ?_, fun i x hi hx g hg h1 a h2 h3 => ?_⟩, ?_⟩
      · show s.2 + 1 ≤ f'.length
        rw [e1, List.length_append]
        omega
      · have hi' : i < s.1.length := by
          have : i < s.2 + 1 := hi
          omega
        have hx' : s.1[i]? = some x := by
          have hx2 : f'[i]? = some x := hx
          rw [e1, List.getElem?_append_left hi'] at hx2
          exact hx2
        by_cases q : i < s.2
        · show a ∈ f'
          rw [e1]
          exact List.mem_append_left _ (hs.2.2 i x q hx' g hg h1 a h2 h3)
        · have : i = s.2 := by
            have : i < s.2 + 1 := hi
            omega
          subst this
          rw [List.getElem?_eq_getElem hlt] at hx'
          cases hx'
          exact c g hg h1 a h2 h3
      · show 61 - (s.2 + 1) < 61 - s.2
        omega) LIM (one, 0) none ⟨⟨nd, i1, fun x hx => .base hx, fun x hx => hx⟩, Nat.zero_le _, fun i x hi => (nomatch hi)⟩ (by unfold LIM; show 61 - 0 < 1000000; omega)
  have hfound : ∀ x, x ∈ s.1 ↔ Bf G one known x := fun x => ⟨hs.1.sound x, fun hx => by
    induction hx with
    | base hx => exact hs.1.base _ hx
    | step _ ha hn ih =>
      obtain ⟨g, hg, h1, h2⟩ := ha
      obtain ⟨i, hi⟩ := List.getElem?_of_mem ih
      have hlen : ¬ s.2 < s.1.length := fun z => by
        have := of_decide_eq_false hgo
        omega
      have : i < s.1.length := by
        by_cases q : i < s.1.length
        · exact q
        · rw [List.getElem?_eq_none (by omega)] at hi
          cases hi
      exact hs.2.2 i _ (by omega) hi g hg h1 _ h2 hn⟩
  refine ⟨A, ds, (two.map fun v => !decide (v ∈ s.1)).all id, ?_, mA, fun D hD => by
    obtain ⟨v, hv, _, e⟩ := dD D hD
    exact ⟨v, hv, e⟩, cD, ?_⟩
  · refine evalD_rt h rfl (ss_set (v := enc A) (ev_call (evs_cons (v := enc d) rfl (evs_cons (v := enc (one ++ two ++ known)) ?_ evs_nil)) eA1) (ss_set (v := enc ([] : List (List Int))) rfl (ss_cons (ρ' := E0 (ds.map (grp d)) j6) ?_ (ss_set (v := enc one) rfl (ss_set (v := .int 0) rfl (ss_cons (ρ' := eA d one two known A G j6 one 0 none) rfl (ss_cons (ρ' := eA d one two known A G j6 s.1 s.2 j9) wW (ss_ret ?_))))))))
    · have a1 := den_addL (xs := one.map (enc : Int → Val)) (ys := two.map enc) (by rw [List.length_map, List.length_map]; omega)
      have a2 := den_addL (xs := (one ++ two).map (enc : Int → Val)) (ys := known.map enc) (by rw [List.length_map, List.length_map, List.length_append]; omega)
      rw [← List.map_append] at a1 a2
      exact ev2 (x := enc (one ++ two)) (y := enc known) (ev2 (x := enc one) (y := enc two) rfl rfl a1) rfl a2
    · show (evalE (evalD Pr (n + 2)) 0 (.call 32 [.var 0, .var 4]) _).bind _ = _
      rw [ev_call (evs_cons (v := enc d) rfl (evs_cons (v := enc A) rfl evs_nil)) eD]
      exact wG
    · have hc := comp_eq (cf := evalD Pr (n + 2)) (k := 9) (d := 0) (w := [10]) (elt := .op .notin [.var 10, .var 7]) (t := .slot 10) (it := .var 2) (ifs := none) (ρ := eA d one two known A G j6 s.1 s.2 j9) (l := two) (enc : Int → Val) (fun b : Bool => PyData.bool b) (fun _ => true) (fun v => !decide (v ∈ s.1))
        (fun x => [some (enc d, 0), some (enc one, 0), some (enc two, 0), some (enc known, 0), some (enc A, 0), some (enc G, 0), j6, some (enc s.1, 1), some (.int (s.2 : Nat), 0), j9, some (enc x, 0), none]) rfl (fun _ _ => rfl) (fun _ _ => rfl) (fun x _ _ => ev2 (x := enc x) (y := enc s.1) rfl rfl (den_notin (α := Int) (by decide) x s.1)) (by omega)
      rw [List.filter_eq_self.mpr fun _ _ => rfl] at hc
      exact ev1 hc (den_all _)
  · rw [List.all_eq_true]
    constructor
    · intro hh v hv hb
      have := hh _ (List.mem_map.mpr ⟨v, hv, rfl⟩)
      simp only [id, Bool.not_eq_true', decide_eq_false_iff_not] at this
      exact this ((hfound v).mpr hb)
    · intro hh x hx
      obtain ⟨v, hv, rfl⟩ := List.mem_map.mp hx
      simp only [id, Bool.not_eq_true', decide_eq_false_iff_not]
      exact fun z => hh v hv ((hfound v).mp z)
end
end VL

/-! plain side, part 4: the law's own walk over states -/
namespace VL
open PySem
open Enc
/-- an edge: from, to, an arrowhead here, an arrowhead there -/
structure Qd where
  a : Int
  b : Int
  h : Int
  t : Int
  deriving DecidableEq
instance : Enc Qd where
  enc := fun p => .tuple [.int p.a, .int p.b, .int p.h, .int p.t]
  dep := 1
  eqv := fun a b => by
    cases a
    cases b
    simp [PyData.eqv, PyData.eqvAll]
  lay := fun a => by simp [PyData.canLay0, PyData.canLayAll0]
  depth := fun a => by simp [PyData.depth, PyData.depthAll]
def edges (d : Dr) : List Qd := (d.b.map fun p => ⟨p.1, p.2, 0, 1⟩) ++ (d.b.map fun p => ⟨p.2, p.1, 1, 0⟩) ++ (d.c.map fun p => ⟨p.1, p.2, 1, 1⟩) ++ d.c.map fun p => ⟨p.2, p.1, 1, 1⟩
theorem mem_edges {d : Dr} {e : Qd} : e ∈ edges d ↔ ((e.a, e.b) ∈ d.b ∧ e.h = 0 ∧ e.t = 1) ∨ ((e.b, e.a) ∈ d.b ∧ e.h = 1 ∧ e.t = 0) ∨ (((e.a, e.b) ∈ d.c ∨ (e.b, e.a) ∈ d.c) ∧ e.h = 1 ∧ e.t = 1) := by
  obtain ⟨a, b, h, t⟩ := e
  unfold edges
  simp only [List.mem_append, List.mem_map, Qd.mk.injEq]
  constructor
  · rintro (((⟨p, hp, rfl, rfl, rfl, rfl⟩ | ⟨p, hp, rfl, rfl, rfl, rfl⟩) | ⟨p, hp, rfl, rfl, rfl, rfl⟩) | ⟨p, hp, rfl, rfl, rfl, rfl⟩)
    · exact .inl ⟨hp, rfl, rfl⟩
    · exact .inr (.inl ⟨hp, rfl, rfl⟩)
    · exact .inr (.inr ⟨.inl hp, rfl, rfl⟩)
    · exact .inr (.inr ⟨.inr hp, rfl, rfl⟩)
  · rintro (⟨hp, h1, h2⟩ | ⟨hp, h1, h2⟩ | ⟨hp | hp, h1, h2⟩)
    · exact .inl (.inl (.inl ⟨_, hp, rfl, rfl, h1.symm, h2.symm⟩))
    · exact .inl (.inl (.inr ⟨_, hp, rfl, rfl, h1.symm, h2.symm⟩))
    · exact .inl (.inr ⟨_, hp, rfl, rfl, h1.symm, h2.symm⟩)
    · exact .inr ⟨_, hp, rfl, rfl, h1.symm, h2.symm⟩
def meetB (h : Int) (e : Qd) : Bool := decide (h = 1) && decide (e.h = 1)
def okB (ahead known : List Int) (v h : Int) (e : Qd) : Bool := decide (e.a = v) && ((meetB h e && decide (v ∈ ahead)) || (!meetB h e && !decide (v ∈ known)))
/-- the states that the walk reaches -/
inductive Ws (d : Dr) (one ahead known : List Int) : Int → Int → Prop
  | base {e : Qd} : e ∈ edges d → e.a ∈ one → Ws d one ahead known e.b e.t
  | step {v h : Int} {e : Qd} : Ws d one ahead known v h → e ∈ edges d → okB ahead known v h e = true → Ws d one ahead known e.b e.t
structure J7 where
  a : Option (Val × Nat)
  b : Option (Val × Nat)
  c : Option (Val × Nat)
  d : Option (Val × Nat)
  e : Option (Val × Nat)
  f : Option (Val × Nat)
  g : Option (Val × Nat)
def eW (d : Dr) (one known ahead : List Int) (j4 : Option (Val × Nat)) (s : List Pt × List Pt) (j : J7) : Env :=
  [some (enc d, 0), some (enc one, 0), some (enc known, 0), some (enc ahead, 0), j4, some (enc (edges d), 0), some (enc s.1, 1), some (enc s.2, 1), some (enc d.a, 0), some (enc d.b, 0), some (enc d.c, 0), j.a, j.b, j.c, j.d, j.e, j.f, j.g, none]
def wkFor : S := .for (.tup [(.slot 13), (.slot 14), (.slot 15), (.slot 16)]) (.var 5) [.set 17 (.and (.op .eq [(.var 12), (.cst (.int 1))]) (.op .eq [(.var 15), (.cst (.int 1))])) 0, .iff (.and (.op .eq [(.var 13), (.var 11)]) (.or (.and (.var 17) (.op .isin [(.var 11), (.var 3)])) (.and (.op .not [(.var 17)]) (.op .notin [(.var 11), (.var 2)])))) [.app 7 (.op (.tup [false, false]) [(.var 14), (.var 16)]) 0] []]
theorem cut1 (x : Val) (r : List Val) : den (.slice true false) [.list (x :: r), .int 1] = .ok (.list r) := by
  show Res.ok (PyData.list (cut (x :: r) (some 1) none)) = _
  congr 2
  unfold cut
  have e1 : HT.sIx (x :: r).length 0 (some 1) = 1 := by
    simp [HT.sIx]
  have e2 : HT.sIx (x :: r).length (x :: r).length none = (x :: r).length := by
    simp [HT.sIx]
  rw [e1, e2]
  simp
def nexts (ahead known : List Int) (v h : Int) (es : List Qd) : List Pt := (es.filter (okB ahead known v h)).map fun e => (e.b, e.t)
theorem walk_for {cf : Nat → List Val → Res Val} {d : Dr} {one known ahead : List Int} {j4 : Option (Val × Nat)} {f l : List Pt} {v h : Int} (j : J7) (zE : (edges d).length ≤ 10000) (zl : l.length ≤ 1000000) :
    ∃ j', evalS cf wkFor (eW d one known ahead j4 (f, l) ⟨some (.int v, 0), some (.int h, 0), j.c, j.d, j.e, j.f, j.g⟩) = .ok (.nx (eW d one known ahead j4 (f, l ++ nexts ahead known v h (edges d)) j')) := by
  obtain ⟨s', j', w, hs⟩ := forL_inv (b := fun v ρ => (bindP (.tup [(.slot 13), (.slot 14), (.slot 15), (.slot 16)]) v ρ).bind fun ρ' => evalSs cf [.set 17 (.and (.op .eq [(.var 12), (.cst (.int 1))]) (.op .eq [(.var 15), (.cst (.int 1))])) 0, .iff (.and (.op .eq [(.var 13), (.var 11)]) (.or (.and (.var 17) (.op .isin [(.var 11), (.var 3)])) (.and (.op .not [(.var 17)]) (.op .notin [(.var 11), (.var 2)])))) [.app 7 (.op (.tup [false, false]) [(.var 14), (.var 16)]) 0] []] ρ') (e := (enc : Qd → Val))
    (fun (s : List Pt) (j : J7) => eW d one known ahead j4 (f, s) ⟨some (.int v, 0), some (.int h, 0), j.c, j.d, j.e, j.f, j.g⟩) (fun pre s => s = l ++ nexts ahead known v h pre) (l := edges d) (fun pre e post s j hl hs => by
      have zs : s.length ≤ 1010000 := by
        rw [hs, List.length_append]
        unfold nexts
        rw [List.length_map]
        have h1 := List.length_filter_le (okB ahead known v h) pre
        have h2 : pre.length ≤ (edges d).length := by rw [hl, List.length_append]; omega
        omega
      let ρ1 : Env := eW d one known ahead j4 (f, s) ⟨some (.int v, 0), some (.int h, 0), some (.int e.a, 0), some (.int e.b, 0), some (.int e.h, 0), some (.int e.t, 0), some (.bool (meetB h e), 0)⟩
      have hm : CB cf (.and (.op .eq [(.var 12), (.cst (.int 1))]) (.op .eq [(.var 15), (.cst (.int 1))])) (eW d one known ahead j4 (f, s) ⟨some (.int v, 0), some (.int h, 0), some (.int e.a, 0), some (.int e.b, 0), some (.int e.h, 0), some (.int e.t, 0), j.g⟩) (meetB h e) := cb_and (cb_eq (α := Int) (x := h) (y := 1) rfl rfl) fun _ => cb_eq (α := Int) (x := e.h) (y := 1) rfl rfl
      have hc : CB cf (.and (.op .eq [(.var 13), (.var 11)]) (.or (.and (.var 17) (.op .isin [(.var 11), (.var 3)])) (.and (.op .not [(.var 17)]) (.op .notin [(.var 11), (.var 2)])))) ρ1 (okB ahead known v h e) :=
        cb_and (cb_eq (α := Int) (x := e.a) (y := v) rfl rfl) fun _ => cb_or (cb_and (p := meetB h e) rfl fun _ => cb_in (α := Int) (x := v) (ys := ahead) rfl rfl) fun _ => cb_and (cb_not (p := meetB h e) rfl) fun _ => cb_notin (α := Int) (x := v) (ys := known) rfl rfl
      cases q : okB ahead known v h e with
      | true =>
        rw [q] at hc
        refine ⟨s ++ [(e.b, e.t)], ⟨none, none, some (.int e.a, 0), some (.int e.b, 0), some (.int e.h, 0), some (.int e.t, 0), some (.bool (meetB h e), 0)⟩, ?_, ?_⟩
        · show evalSs cf _ (eW d one known ahead j4 (f, s) ⟨some (.int v, 0), some (.int h, 0), some (.int e.a, 0), some (.int e.b, 0), some (.int e.h, 0), some (.int e.t, 0), j.g⟩) = _
          refine ss_set hm (ss_ifT (ρ := ρ1) hc ?_)
          have : evalSs cf [.app 7 (.op (.tup [false, false]) [(.var 14), (.var 16)]) 0] ρ1 = .ok (.nx (eW d one known ahead j4 (f, s ++ [(e.b, e.t)]) ⟨some (.int v, 0), some (.int h, 0), some (.int e.a, 0), some (.int e.b, 0), some (.int e.h, 0), some (.int e.t, 0), some (.bool (meetB h e), 0)⟩)) := by
            refine ss_app (v := enc ((e.b, e.t) : Pt)) (xs := s.map enc) (t := 1) rfl rfl (by rw [List.length_map]; omega) ?_
            show Res.ok (Out.nx [some (enc d, 0), some (enc one, 0), some (enc known, 0), some (enc ahead, 0), j4, some (enc (edges d), 0), some (enc f, 1), some (.list (s.map enc ++ [enc ((e.b, e.t) : Pt)]), 1), some (enc d.a, 0), some (enc d.b, 0), some (enc d.c, 0), some (.int v, 0), some (.int h, 0), some (.int e.a, 0), some (.int e.b, 0), some (.int e.h, 0), some (.int e.t, 0), some (.bool (meetB h e), 0), none]) = Res.ok (Out.nx [some (enc d, 0), some (enc one, 0), some (enc known, 0), some (enc ahead, 0), j4, some (enc (edges d), 0), some (enc f, 1), some (.list ((s ++ [(e.b, e.t)]).map enc), 1), some (enc d.a, 0), some (enc d.b, 0), some (enc d.c, 0), some (.int v, 0), some (.int h, 0), some (.int e.a, 0), some (.int e.b, 0), some (.int e.h, 0), some (.int e.t, 0), some (.bool (meetB h e), 0), none])
            rw [List.map_append]
            rfl
          rw [this]
          rfl
        · rw [hs]
          unfold nexts
          simp [List.filter_append, q]
      | false =>
        rw [q] at hc
        refine ⟨s, ⟨none, none, some (.int e.a, 0), some (.int e.b, 0), some (.int e.h, 0), some (.int e.t, 0), some (.bool (meetB h e), 0)⟩, ?_, ?_⟩
        · show evalSs cf _ (eW d one known ahead j4 (f, s) ⟨some (.int v, 0), some (.int h, 0), some (.int e.a, 0), some (.int e.b, 0), some (.int e.h, 0), some (.int e.t, 0), j.g⟩) = _
          exact ss_set hm (ss_ifF (ρ := ρ1) hc rfl)
        · rw [hs]
          unfold nexts
          simp [List.filter_append, q]) (edges d) [] l j rfl (by simp [nexts])
  subst hs
  exact ⟨_, w⟩
end VL

/-! plain side, part 5: the law's reached, apart -/
namespace VL
open PySem
open Enc
theorem rng_upto (m : Int) : rng 0 m = (upto m).map enc := by
  unfold rng upto
  rw [Int.sub_zero, List.map_map]
  refine List.map_congr_left fun i _ => ?_
  show PyData.int (0 + (i : Int)) = .int (i : Int)
  rw [Int.zero_add]
theorem den_range1' {m : Int} (h1 : -(2 ^ 62) ≤ m) (h : m ≤ 16777216) : den .range [.int m] = .ok (.list ((upto m).map enc)) := by
  show Res.guard (small m && sizeOk m.toNat) (Res.ok (PyData.list (rng 0 m))) = _
  have e1 : small m = true := by
    unfold small
    rw [Bool.and_eq_true, decide_eq_true_eq, decide_eq_true_eq]
    constructor <;> omega
  rw [e1, sizeOk_le (by omega), rng_upto]
  rfl
theorem ev_range1 {cf : Nat → List Val → Res Val} {a : E} {ρ : Env} {k : Nat} {m : Int} (h : evalE cf 9 a ρ = .ok (.int m)) (h1 : -(2 ^ 62) ≤ m) (h2 : m ≤ 16777216) : (evalE cf k (.op .range [a]) ρ).bind asSeq = .ok ((upto m).map enc) := seq_of (ev1 (o := .range) h (den_range1' h1 h2))
/-- who is to come to ahead -/
def newA (d : Dr) (f : List Int) : List Int := (upto d.a).filter fun a => !decide (a ∈ f) && !decide (((d.b.filter fun p => decide (p.1 = a) && decide (p.2 ∈ f)).map fun p => p.2) = [])
theorem mem_newA {d : Dr} {f : List Int} {a : Int} : a ∈ newA d f ↔ (0 ≤ a ∧ a < d.a) ∧ a ∉ f ∧ ∃ b ∈ f, (a, b) ∈ d.b := by
  unfold newA
  rw [List.mem_filter, mem_upto, Bool.and_eq_true, Bool.not_eq_true', Bool.not_eq_true', decide_eq_false_iff_not, decide_eq_false_iff_not]
  refine and_congr_right fun _ => and_congr_right fun _ => ?_
  constructor
  · intro h
    obtain ⟨b, hb⟩ := List.exists_mem_of_ne_nil _ h
    obtain ⟨p, hp, rfl⟩ := List.mem_map.mp hb
    obtain ⟨h1, h2⟩ := List.mem_filter.mp hp
    rw [Bool.and_eq_true, decide_eq_true_eq, decide_eq_true_eq] at h2
    exact ⟨p.2, h2.2, by rw [← h2.1]; exact h1⟩
  · rintro ⟨b, hb, h⟩ e
    have : b ∈ ((d.b.filter fun p => decide (p.1 = a) && decide (p.2 ∈ f)).map fun p => p.2) := List.mem_map.mpr ⟨(a, b), List.mem_filter.mpr ⟨h, by simp [hb]⟩, rfl⟩
    rw [e] at this
    cases this
def closedA (d : Dr) (f : List Int) : Prop := ∀ a b, (a, b) ∈ d.b → b ∈ f → a ∈ f
section
variable {Pr : Prog} {n : Nat}
theorem edges_len {d : Dr} (T : Tame d) : (edges d).length ≤ 4000 := by
  unfold edges
  simp only [List.length_append, List.length_map]
  have := T.zb
  have := T.zc
  omega
theorem ahead_loop {cf : Nat → List Val → Res Val} {d : Dr} (T : Tame d) {one known : List Int} (i3 : InR d.a known) (nd : known.Nodup) (h0 : 0 ≤ d.a) :
    ∃ (f : List Int) (j : Option (Val × Nat)), evalS cf (.for (.slot 4) (.op .range [(.var 8)]) [.set 3 (.op .add [(.var 3), (.comp [13] 0 (.var 13) (.slot 13) (.op .range [(.var 8)]) (some (.and (.op .notin [(.var 13), (.var 3)]) (.op .ne [(.comp [18, 14] 0 (.var 14) (.tup [(.slot 18), (.slot 14)]) (.var 9) (some (.and (.op .eq [(.var 18), (.var 13)]) (.op .isin [(.var 14), (.var 3)])))), (.op (.lst 0 []) [])]))))]) 0])
      [some (enc d, 0), some (enc one, 0), some (enc known, 0), some (enc known, 0), none, none, none, none, some (enc d.a, 0), some (enc d.b, 0), some (enc d.c, 0), none, none, none, none, none, none, none, none] =
      .ok (.nx [some (enc d, 0), some (enc one, 0), some (enc known, 0), some (enc f, 0), j, none, none, none, some (enc d.a, 0), some (enc d.b, 0), some (enc d.c, 0), none, none, none, none, none, none, none, none]) ∧ ∀ x, x ∈ f ↔ Clo (flip d.b) known x := by
  have hm := T.m
  have zb := T.zb
  let E : List Int → Option (Val × Nat) → Env := fun f j => [some (enc d, 0), some (enc one, 0), some (enc known, 0), some (enc f, 0), j, none, none, none, some (enc d.a, 0), some (enc d.b, 0), some (enc d.c, 0), none, none, none, none, none, none, none, none]
  obtain ⟨f, j, w, ⟨n1, n2, n3, n4, n5⟩⟩ := forL_inv (b := fun v ρ => (bindP (.slot 4) v ρ).bind fun ρ' => evalSs cf [.set 3 (.op .add [(.var 3), (.comp [13] 0 (.var 13) (.slot 13) (.op .range [(.var 8)]) (some (.and (.op .notin [(.var 13), (.var 3)]) (.op .ne [(.comp [18, 14] 0 (.var 14) (.tup [(.slot 18), (.slot 14)]) (.var 9) (some (.and (.op .eq [(.var 18), (.var 13)]) (.op .isin [(.var 14), (.var 3)])))), (.op (.lst 0 []) [])]))))]) 0] ρ') (e := (enc : Int → Val)) E
    (fun pre f => f.Nodup ∧ InR d.a f ∧ (∀ x ∈ f, Clo (flip d.b) known x) ∧ (∀ x ∈ known, x ∈ f) ∧ (closedA d f ∨ pre.length + 1 ≤ f.length)) (l := upto d.a) (fun pre t post f j hl hs => by
      obtain ⟨n1, n2, n3, n4, n5⟩ := hs
      have lf := below_len n1 n2
      have iN : InR d.a (newA d f) := fun x hx => (mem_newA.mp hx).1
      have nN : (newA d f).Nodup := upto_nodup.filter _
      have lN := below_len nN iN
      refine ⟨f ++ newA d f, some (enc t, 0), ?_, List.nodup_append.mpr ⟨n1, nN, fun x hx y hy z => (mem_newA.mp hy).2.1 (z ▸ hx)⟩, fun x hx => (List.mem_append.mp hx).elim (n2 x) (iN x), fun x hx => (List.mem_append.mp hx).elim (n3 x) fun hx => by
        obtain ⟨_, _, b, hb, h⟩ := mem_newA.mp hx
        exact .step (n3 b hb) (mem_flip.mpr h), fun x hx => List.mem_append_left _ (n4 x hx), ?_⟩
      · show evalSs cf _ (E f (some (enc t, 0))) = _
        have hin : ∀ a : Int, evalE cf 9 (.comp [18, 14] 0 (.var 14) (.tup [(.slot 18), (.slot 14)]) (.var 9) (some (.and (.op .eq [(.var 18), (.var 13)]) (.op .isin [(.var 14), (.var 3)])))) [some (enc d, 0), some (enc one, 0), some (enc known, 0), some (enc f, 0), some (enc t, 0), none, none, none, some (enc d.a, 0), some (enc d.b, 0), some (enc d.c, 0), none, none, some (enc a, 0), none, none, none, none, none] = .ok (enc ((d.b.filter fun p => decide (p.1 = a) && decide (p.2 ∈ f)).map fun p => p.2)) := fun a =>
          comp_eq (l := d.b) (enc : Pt → Val) (enc : Int → Val) (fun p => decide (p.1 = a) && decide (p.2 ∈ f)) (fun p => p.2) (fun p => [some (enc d, 0), some (enc one, 0), some (enc known, 0), some (enc f, 0), some (enc t, 0), none, none, none, some (enc d.a, 0), some (enc d.b, 0), some (enc d.c, 0), none, none, some (enc a, 0), some (enc p.2, 0), none, none, none, some (enc p.1, 0)]) rfl (fun _ _ => rfl) (fun p _ => evalO_of (cb_and (cb_eq (α := Int) (x := p.1) (y := a) rfl rfl) fun _ => cb_in (α := Int) (x := p.2) (ys := f) rfl rfl)) (fun _ _ _ => rfl) (by omega)
        have hc := comp_eq (cf := cf) (k := 1) (d := 0) (w := [13]) (elt := .var 13) (t := .slot 13) (it := .op .range [.var 8]) (ifs := some (.and (.op .notin [(.var 13), (.var 3)]) (.op .ne [(.comp [18, 14] 0 (.var 14) (.tup [(.slot 18), (.slot 14)]) (.var 9) (some (.and (.op .eq [(.var 18), (.var 13)]) (.op .isin [(.var 14), (.var 3)])))), (.op (.lst 0 []) [])]))) (ρ := E f (some (enc t, 0))) (l := upto d.a) (enc : Int → Val) (enc : Int → Val) (fun a => !decide (a ∈ f) && !decide (((d.b.filter fun p => decide (p.1 = a) && decide (p.2 ∈ f)).map fun p => p.2) = [])) (fun a => a)
          (fun a => [some (enc d, 0), some (enc one, 0), some (enc known, 0), some (enc f, 0), some (enc t, 0), none, none, none, some (enc d.a, 0), some (enc d.b, 0), some (enc d.c, 0), none, none, some (enc a, 0), none, none, none, none, none]) (ev_range1 (m := d.a) rfl (by omega) (by omega)) (fun _ _ => rfl) (fun a _ => evalO_of (cb_and (cb_notin (α := Int) (x := a) (ys := f) rfl rfl) fun _ => cb_ne (α := List Int) (y := []) (hin a) rfl)) (fun _ _ _ => rfl) (by rw [upto_length]; omega)
        rw [List.map_id'] at hc
        refine ss_set (v := enc (f ++ newA d f)) (ev2 (x := enc f) (y := enc (newA d f)) rfl hc ?_) rfl
        have := den_addL (xs := f.map (enc : Int → Val)) (ys := (newA d f).map enc) (by rw [List.length_map, List.length_map]; omega)
        rw [← List.map_append] at this
        exact this
      · by_cases q : newA d f = []
        · left
          rw [q, List.append_nil]
          intro a b hab hb
          by_cases ha : a ∈ f
          · exact ha
          · have : a ∈ newA d f := mem_newA.mpr ⟨(T.arr _ hab).1, ha, b, hb, hab⟩
            rw [q] at this
            cases this
        · right
          rcases n5 with c | c
          · exfalso
            obtain ⟨a, ha⟩ := List.exists_mem_of_ne_nil _ q
            obtain ⟨_, h1, b, h2, h3⟩ := mem_newA.mp ha
            exact h1 (c a b h3 h2)
          · have := List.length_pos_iff.mpr q
            rw [List.length_append, List.length_append]
            simp only [List.length_cons, List.length_nil]
            omega) (upto d.a) [] known none rfl ⟨nd, i3, fun x hx => .base hx, fun x hx => hx, by
              cases known with
              | nil => exact .inl fun a b _ hb => (nomatch hb)
              | cons k r => exact .inr (by simp)⟩
  have cl : closedA d f := n5.elim id fun h => by
    exfalso
    have := below_len n1 n2
    rw [upto_length] at h
    omega
  refine ⟨f, j, ?_, fun x => ⟨n3 x, fun hx => ?_⟩⟩
  · obtain ⟨v, e1, e2⟩ := Res.bind_eq_ok (ev_range1 (cf := cf) (k := 0) (a := .var 8) (ρ := E known none) (m := d.a) rfl (by omega) (by omega))
    show (evalE cf 0 (.op .range [.var 8]) (E known none)).bind _ = _
    rw [e1]
    show (asSeq v).bind _ = _
    rw [e2]
    exact w
  · induction hx with
    | base hx => exact n4 _ hx
    | step _ h ih => exact cl _ _ (mem_flip.mp h) ih
/-- the two states of each -/
def univ (m : Int) : List Pt := (upto m).flatMap fun v => [(v, 0), (v, 1)]
theorem mem_univ {m : Int} {s : Pt} : s ∈ univ m ↔ (0 ≤ s.1 ∧ s.1 < m) ∧ (s.2 = 0 ∨ s.2 = 1) := by
  obtain ⟨v, h⟩ := s
  unfold univ
  rw [List.mem_flatMap]
  constructor
  · rintro ⟨u, hu, h2⟩
    have := mem_upto.mp hu
    simp only [List.mem_cons, Prod.mk.injEq, List.not_mem_nil, or_false] at h2
    rcases h2 with ⟨rfl, rfl⟩ | ⟨rfl, rfl⟩
    · exact ⟨this, .inl rfl⟩
    · exact ⟨this, .inr rfl⟩
  · rintro ⟨h1, h2⟩
    refine ⟨v, mem_upto.mpr h1, ?_⟩
    rcases h2 with rfl | rfl <;> simp
theorem univ_length {m : Int} : (univ m).length = 2 * m.toNat := by
  unfold univ
  have : ∀ l : List Int, (l.flatMap fun v => [(v, (0 : Int)), (v, 1)]).length = 2 * l.length := fun l => by
    induction l with
    | nil => rfl
    | cons x l ih =>
      rw [List.flatMap_cons, List.length_append, ih]
      simp
      omega
  rw [this, upto_length]
end
end VL

/-! plain side, part 6: the law's reached and apart, whole -/
namespace VL
open PySem
open Enc
def wkBody : List S := [.asg (.tup [(.slot 11), (.slot 12)]) (.op .idx [(.var 7), (.cst (.int 0))]), .set 7 (.op (.slice true false) [(.var 7), (.cst (.int 1))]) 1, .iff (.op .notin [(.op (.tup [false, false]) [(.var 11), (.var 12)]), (.var 6)]) [.app 6 (.op (.tup [false, false]) [(.var 11), (.var 12)]) 0, wkFor] []]
structure Wok (d : Dr) (one ahead known : List Int) (s : List Pt × List Pt) : Prop where
  nodup : s.1.Nodup
  inU : ∀ x ∈ s.1, x ∈ univ d.a
  inL : ∀ x ∈ s.2, x ∈ univ d.a
  snd : ∀ x ∈ s.1, Ws d one ahead known x.1 x.2
  sndL : ∀ x ∈ s.2, Ws d one ahead known x.1 x.2
  base : ∀ e ∈ edges d, e.a ∈ one → (e.b, e.t) ∈ s.1 ∨ (e.b, e.t) ∈ s.2
  closed : ∀ v h, (v, h) ∈ s.1 → ∀ e ∈ edges d, okB ahead known v h e = true → (e.b, e.t) ∈ s.1 ∨ (e.b, e.t) ∈ s.2
theorem edge_univ {d : Dr} (T : Tame d) {e : Qd} (h : e ∈ edges d) : (e.b, e.t) ∈ univ d.a := by
  rw [mem_univ]
  rcases mem_edges.mp h with ⟨h1, _, h2⟩ | ⟨h1, _, h2⟩ | ⟨h1 | h1, _, h2⟩
  · exact ⟨(T.arr _ h1).2, .inr h2⟩
  · exact ⟨(T.arr _ h1).1, .inl h2⟩
  · exact ⟨(T.tie _ h1).2, .inr h2⟩
  · exact ⟨(T.tie _ h1).1, .inr h2⟩
theorem mem_nexts {ahead known : List Int} {v h : Int} {es : List Qd} {x : Pt} : x ∈ nexts ahead known v h es ↔ ∃ e ∈ es, okB ahead known v h e = true ∧ x = (e.b, e.t) := by
  unfold nexts
  rw [List.mem_map]
  constructor
  · rintro ⟨e, he, rfl⟩
    obtain ⟨h1, h2⟩ := List.mem_filter.mp he
    exact ⟨e, h1, h2, rfl⟩
  · rintro ⟨e, h1, h2, rfl⟩
    exact ⟨e, List.mem_filter.mpr ⟨h1, h2⟩, rfl⟩
theorem nexts_len {ahead known : List Int} {v h : Int} {es : List Qd} : (nexts ahead known v h es).length ≤ es.length := by
  unfold nexts
  rw [List.length_map]
  exact List.length_filter_le _ _
def muW (d : Dr) (s : List Pt × List Pt) : Nat := (120 - s.1.length) * 4001 + s.2.length
theorem walk_turn {cf : Nat → List Val → Res Val} {d : Dr} (T : Tame d) {one known ahead : List Int} {j4 : Option (Val × Nat)} {f : List Pt} {x : Pt} {r : List Pt} (j : J7) (W : Wok d one ahead known (f, x :: r)) (hmu : muW d (f, x :: r) < 1000000) :
    ∃ s' j', evalSs cf wkBody (eW d one known ahead j4 (f, x :: r) j) = .ok (.nx (eW d one known ahead j4 s' j')) ∧ Wok d one ahead known s' ∧ muW d s' < muW d (f, x :: r) := by
  obtain ⟨v, h⟩ := x
  have zE := edges_len T
  have hm := T.m
  have lf : f.length ≤ 120 := by
    have := nodup_le W.nodup W.inU
    rw [univ_length] at this
    simp only at this
    omega
  have zr : r.length ≤ 1000000 := by
    unfold muW at hmu
    simp only [List.length_cons] at hmu
    omega
  let j1 : J7 := ⟨some (.int v, 0), some (.int h, 0), j.c, j.d, j.e, j.f, j.g⟩
  have hc : CB cf (.op .notin [(.op (.tup [false, false]) [(.var 11), (.var 12)]), (.var 6)]) (eW d one known ahead j4 (f, r) j1) (!decide ((v, h) ∈ f)) := cb_notin (α := Pt) (x := (v, h)) (ys := f) rfl rfl
  have pre : ∀ {ss : List S} {res : Res Out}, evalSs cf ss (eW d one known ahead j4 (f, r) j1) = res → evalSs cf (.asg (.tup [(.slot 11), (.slot 12)]) (.op .idx [(.var 7), (.cst (.int 0))]) :: .set 7 (.op (.slice true false) [(.var 7), (.cst (.int 1))]) 1 :: ss) (eW d one known ahead j4 (f, (v, h) :: r) j) = res := fun {ss res} hh => by
    refine ss_asg (v := enc ((v, h) : Pt)) (ev2 (x := enc ((v, h) :: r)) (y := .int 0) rfl rfl (den_idx (i := 0) rfl)) (ρ' := eW d one known ahead j4 (f, (v, h) :: r) j1) rfl ?_
    exact ss_set (v := enc r) (ev2 (x := enc ((v, h) :: r)) (y := .int 1) rfl rfl (cut1 _ _)) hh
  by_cases q : (v, h) ∈ f
  · rw [decide_eq_true q] at hc
    refine ⟨(f, r), j1, pre (ss_ifF hc rfl), ⟨W.nodup, W.inU, fun y hy => W.inL y (List.mem_cons_of_mem _ hy), W.snd, fun y hy => W.sndL y (List.mem_cons_of_mem _ hy), fun e he h1 => ?_, fun v' h' hv e he h1 => ?_⟩, ?_⟩
    · rcases W.base e he h1 with z | z
      · exact .inl z
      · rcases List.mem_cons.mp z with z | z
        · rw [z]
          exact .inl q
        · exact .inr z
    · rcases W.closed v' h' hv e he h1 with z | z
      · exact .inl z
      · rcases List.mem_cons.mp z with z | z
        · rw [z]
          exact .inl q
        · exact .inr z
    · unfold muW
      simp only [List.length_cons]
      omega
  · rw [decide_eq_false q] at hc
    obtain ⟨j', wf⟩ := walk_for (cf := cf) (one := one) (j4 := j4) (f := f ++ [(v, h)]) (l := r) (v := v) (h := h) (ahead := ahead) (known := known) j (by omega : (edges d).length ≤ 10000) zr
    have ln := nexts_len (ahead := ahead) (known := known) (v := v) (h := h) (es := edges d)
    have inu := W.inL (v, h) List.mem_cons_self
    have sv := W.sndL (v, h) List.mem_cons_self
    have nd' : (f ++ [(v, h)]).Nodup := List.nodup_append.mpr ⟨W.nodup, by simp, fun a ha b hb z => q (by
      rcases List.mem_cons.mp hb with e | e
      · rw [← e, ← z]
        exact ha
      · cases e)⟩
    have inU' : ∀ y ∈ f ++ [(v, h)], y ∈ univ d.a := fun y hy => (List.mem_append.mp hy).elim (W.inU y) fun hy => by
      rcases List.mem_cons.mp hy with e | e
      · rw [e]
        exact inu
      · cases e
    refine ⟨(f ++ [(v, h)], r ++ nexts ahead known v h (edges d)), j', pre (ss_ifT hc ?_), ⟨nd', inU', fun y hy => (List.mem_append.mp hy).elim (fun hy => W.inL y (List.mem_cons_of_mem _ hy)) fun hy => ?_, fun y hy => (List.mem_append.mp hy).elim (W.snd y) fun hy => ?_, fun y hy => (List.mem_append.mp hy).elim (fun hy => W.sndL y (List.mem_cons_of_mem _ hy)) fun hy => ?_, fun e he h1 => ?_, fun v' h' hv e he h1 => ?_⟩, ?_⟩
    · have : evalSs cf [.app 6 (.op (.tup [false, false]) [(.var 11), (.var 12)]) 0, wkFor] (eW d one known ahead j4 (f, r) j1) = .ok (.nx (eW d one known ahead j4 (f ++ [(v, h)], r ++ nexts ahead known v h (edges d)) j')) := by
        refine ss_app (v := enc ((v, h) : Pt)) (xs := f.map enc) (t := 1) rfl rfl (by rw [List.length_map]; omega) ?_
        have e1 : (eW d one known ahead j4 (f, r) j1).set 6 (some (.list (f.map enc ++ [enc ((v, h) : Pt)]), 0 + 1)) = eW d one known ahead j4 (f ++ [(v, h)], r) j1 := by
          show [some (enc d, 0), some (enc one, 0), some (enc known, 0), some (enc ahead, 0), j4, some (enc (edges d), 0), some (.list (f.map enc ++ [enc ((v, h) : Pt)]), 1), some (enc r, 1), some (enc d.a, 0), some (enc d.b, 0), some (enc d.c, 0), j1.a, j1.b, j1.c, j1.d, j1.e, j1.f, j1.g, none] = [some (enc d, 0), some (enc one, 0), some (enc known, 0), some (enc ahead, 0), j4, some (enc (edges d), 0), some (.list ((f ++ [(v, h)]).map enc), 1), some (enc r, 1), some (enc d.a, 0), some (enc d.b, 0), some (enc d.c, 0), j1.a, j1.b, j1.c, j1.d, j1.e, j1.f, j1.g, none]
          rw [List.map_append]
          rfl
        rw [e1]
        exact ss_cons wf rfl
      rw [this]
      rfl
    · obtain ⟨e, he, _, rfl⟩ := mem_nexts.mp hy
      exact edge_univ T he
    · rcases List.mem_cons.mp hy with e | e
      · rw [e]
        exact sv
      · cases e
    · obtain ⟨e, he, hk, rfl⟩ := mem_nexts.mp hy
      exact .step sv he hk
    · rcases W.base e he h1 with z | z
      · exact .inl (List.mem_append_left _ z)
      · rcases List.mem_cons.mp z with z | z
        · rw [z]
          exact .inl (List.mem_append_right _ List.mem_cons_self)
        · exact .inr (List.mem_append_left _ z)
    · rcases List.mem_append.mp hv with hv | hv
      · rcases W.closed v' h' hv e he h1 with z | z
        · exact .inl (List.mem_append_left _ z)
        · rcases List.mem_cons.mp z with z | z
          · rw [z]
            exact .inl (List.mem_append_right _ List.mem_cons_self)
          · exact .inr (List.mem_append_left _ z)
      · rcases List.mem_cons.mp hv with z | z
        · cases z
          exact .inr (List.mem_append_right _ (mem_nexts.mpr ⟨e, he, h1, rfl⟩))
        · cases z
    · have l2 := nodup_le nd' inU'
      rw [univ_length, List.length_append] at l2
      simp only [List.length_cons, List.length_nil] at l2
      unfold muW
      simp only [List.length_append, List.length_cons, List.length_nil]
      have l3 : f.length < 120 := by omega
      omega
section
variable {Pr : Prog} {n : Nat}
theorem ev_law_reached (h : Pr 586 = some k__law_reached) {d : Dr} (T : Tame d) (h0 : 0 ≤ d.a) {one known : List Int} (i3 : InR d.a known) (nd : known.Nodup) :
    ∃ (ahead R : List Int), evalD Pr (n + 1) 586 [enc d, enc one, enc known] = .ok (enc R) ∧ (∀ x, x ∈ ahead ↔ Clo (flip d.b) known x) ∧ R.length ≤ 60 ∧ ∀ v, v ∈ R ↔ (0 ≤ v ∧ v < d.a) ∧ (Ws d one ahead known v 0 ∨ Ws d one ahead known v 1) := by
  have zb := T.zb
  have zc := T.zc
  have hm := T.m
  have zE := edges_len T
  obtain ⟨f, j4, wA, mA⟩ := ahead_loop (cf := evalD Pr n) (one := one) T i3 nd h0
  let ρ5 : List Qd → Env := fun es => [some (enc d, 0), some (enc one, 0), some (enc known, 0), some (enc f, 0), j4, some (enc es, 0), none, none, some (enc d.a, 0), some (enc d.b, 0), some (enc d.c, 0), none, none, none, none, none, none, none, none]
  let l0 : List Pt := ((edges d).filter fun e => decide (e.a ∈ one)).map fun e => (e.b, e.t)
  have l0len : l0.length ≤ 4000 := by
    show (((edges d).filter fun e => decide (e.a ∈ one)).map fun e => (e.b, e.t)).length ≤ 4000
    rw [List.length_map]
    exact Nat.le_trans (List.length_filter_le _ _) zE
  have mem0 : ∀ x, x ∈ l0 ↔ ∃ e ∈ edges d, e.a ∈ one ∧ x = (e.b, e.t) := fun x => by
    show x ∈ ((edges d).filter fun e => decide (e.a ∈ one)).map (fun e => (e.b, e.t)) ↔ _
    rw [List.mem_map]
    constructor
    · rintro ⟨e, he, rfl⟩
      obtain ⟨h1, h2⟩ := List.mem_filter.mp he
      exact ⟨e, h1, of_decide_eq_true h2, rfl⟩
    · rintro ⟨e, h1, h2, rfl⟩
      exact ⟨e, List.mem_filter.mpr ⟨h1, decide_eq_true h2⟩, rfl⟩
  obtain ⟨s, jj, wW, ⟨hs, _⟩, hgo⟩ := whileL_inv (c := fun ρ => (evalE (evalD Pr n) 9 (.op .ne [(.var 7), (.op (.lst 0 []) [])]) ρ).bind fun x => asBool x) (b := fun ρ => evalSs (evalD Pr n) wkBody ρ) (fun (s : List Pt × List Pt) j => eW d one known f j4 s j) (fun s => !decide (s.2 = [])) (fun s => Wok d one f known s ∧ muW d s < 1000000) (fun s => muW d s) (fun s j _ => by
      have h2 := cb_ne (cf := evalD Pr n) (a := .var 7) (b := .op (.lst 0 []) []) (ρ := eW d one known f j4 s j) (α := List Pt) (x := s.2) (y := []) rfl rfl
      show (evalE _ 9 _ _).bind _ = _
      rw [h2]
      rfl) (fun s j hs go => by
      obtain ⟨f', l'⟩ := s
      cases l' with
      | nil => simp at go
      | cons x r =>
        obtain ⟨s', j', w, ok, mu⟩ := walk_turn (cf := evalD Pr n) (j4 := j4) T j hs.1 hs.2
        exact ⟨s', j', w, ⟨ok, by have := hs.2; omega⟩, mu⟩) LIM ([], l0) ⟨none, none, none, none, none, none, none⟩ ⟨⟨List.nodup_nil, fun _ z => (nomatch z), fun x hx => by
        obtain ⟨e, he, _, rfl⟩ := (mem0 x).mp hx
        exact edge_univ T he, fun _ z => (nomatch z), fun x hx => by
        obtain ⟨e, he, h1, rfl⟩ := (mem0 x).mp hx
        exact .base he h1, fun e he h1 => .inr ((mem0 _).mpr ⟨e, he, h1, rfl⟩), fun _ _ z => (nomatch z)⟩, by
        unfold muW
        simp only [List.length_nil]
        omega⟩ (by
        unfold muW LIM
        simp only [List.length_nil]
        omega)
  have left0 : s.2 = [] := by
    by_cases q : s.2 = []
    · exact q
    · simp [q] at hgo
  have hfound : ∀ v h, (v, h) ∈ s.1 ↔ Ws d one f known v h := fun v h => ⟨fun hx => hs.snd _ hx, fun hx => by
    induction hx with
    | base he h1 => exact (hs.base _ he h1).elim id fun z => by rw [left0] at z; cases z
    | step _ he hk ih => exact (hs.closed _ _ ih _ he hk).elim id fun z => by rw [left0] at z; cases z⟩
  refine ⟨f, (upto d.a).filter fun v => decide ((v, (0 : Int)) ∈ s.1) || decide ((v, (1 : Int)) ∈ s.1), ?_, mA, by
    refine Nat.le_trans (List.length_filter_le _ _) ?_
    rw [upto_length]
    omega, fun v => ?_⟩
  · have c1 := comp_eq (cf := evalD Pr n) (k := 1) (d := 0) (w := [13, 14]) (elt := .op (.tup [false, false, false, false]) [(.var 13), (.var 14), (.cst (.int 0)), (.cst (.int 1))]) (t := .tup [(.slot 13), (.slot 14)]) (it := .var 9) (ifs := none) (ρ := [some (enc d, 0), some (enc one, 0), some (enc known, 0), some (enc f, 0), j4, none, none, none, some (enc d.a, 0), some (enc d.b, 0), some (enc d.c, 0), none, none, none, none, none, none, none, none]) (l := d.b) (enc : Pt → Val) (enc : Qd → Val) (fun _ => true) (fun p => ⟨p.1, p.2, 0, 1⟩)
      (fun p => [some (enc d, 0), some (enc one, 0), some (enc known, 0), some (enc f, 0), j4, none, none, none, some (enc d.a, 0), some (enc d.b, 0), some (enc d.c, 0), none, none, some (enc p.1, 0), some (enc p.2, 0), none, none, none, none]) rfl (fun _ _ => rfl) (fun _ _ => rfl) (fun _ _ _ => rfl) (by omega)
    have c2 := comp_eq (cf := evalD Pr n) (k := 1) (d := 0) (w := [13, 14]) (elt := .op (.tup [false, false, false, false]) [(.var 14), (.var 13), (.cst (.int 1)), (.cst (.int 0))]) (t := .tup [(.slot 13), (.slot 14)]) (it := .var 9) (ifs := none) (ρ := [some (enc d, 0), some (enc one, 0), some (enc known, 0), some (enc f, 0), j4, none, none, none, some (enc d.a, 0), some (enc d.b, 0), some (enc d.c, 0), none, none, none, none, none, none, none, none]) (l := d.b) (enc : Pt → Val) (enc : Qd → Val) (fun _ => true) (fun p => ⟨p.2, p.1, 1, 0⟩)
      (fun p => [some (enc d, 0), some (enc one, 0), some (enc known, 0), some (enc f, 0), j4, none, none, none, some (enc d.a, 0), some (enc d.b, 0), some (enc d.c, 0), none, none, some (enc p.1, 0), some (enc p.2, 0), none, none, none, none]) rfl (fun _ _ => rfl) (fun _ _ => rfl) (fun _ _ _ => rfl) (by omega)
    let e1 : List Qd := d.b.map fun p => ⟨p.1, p.2, 0, 1⟩
    let e2 : List Qd := d.b.map fun p => ⟨p.2, p.1, 1, 0⟩
    let e3 : List Qd := d.c.map fun p => ⟨p.1, p.2, 1, 1⟩
    let e4 : List Qd := d.c.map fun p => ⟨p.2, p.1, 1, 1⟩
    have c3 := comp_eq (cf := evalD Pr n) (k := 1) (d := 0) (w := [13, 14]) (elt := .op (.tup [false, false, false, false]) [(.var 13), (.var 14), (.cst (.int 1)), (.cst (.int 1))]) (t := .tup [(.slot 13), (.slot 14)]) (it := .var 10) (ifs := none) (ρ := ρ5 (e1 ++ e2)) (l := d.c) (enc : Pt → Val) (enc : Qd → Val) (fun _ => true) (fun p => ⟨p.1, p.2, 1, 1⟩)
      (fun p => [some (enc d, 0), some (enc one, 0), some (enc known, 0), some (enc f, 0), j4, some (enc (e1 ++ e2), 0), none, none, some (enc d.a, 0), some (enc d.b, 0), some (enc d.c, 0), none, none, some (enc p.1, 0), some (enc p.2, 0), none, none, none, none]) rfl (fun _ _ => rfl) (fun _ _ => rfl) (fun _ _ _ => rfl) (by omega)
    have c4 := comp_eq (cf := evalD Pr n) (k := 1) (d := 0) (w := [13, 14]) (elt := .op (.tup [false, false, false, false]) [(.var 14), (.var 13), (.cst (.int 1)), (.cst (.int 1))]) (t := .tup [(.slot 13), (.slot 14)]) (it := .var 10) (ifs := none) (ρ := ρ5 (e1 ++ e2)) (l := d.c) (enc : Pt → Val) (enc : Qd → Val) (fun _ => true) (fun p => ⟨p.2, p.1, 1, 1⟩)
      (fun p => [some (enc d, 0), some (enc one, 0), some (enc known, 0), some (enc f, 0), j4, some (enc (e1 ++ e2), 0), none, none, some (enc d.a, 0), some (enc d.b, 0), some (enc d.c, 0), none, none, some (enc p.1, 0), some (enc p.2, 0), none, none, none, none]) rfl (fun _ _ => rfl) (fun _ _ => rfl) (fun _ _ _ => rfl) (by omega)
    rw [List.filter_eq_self.mpr fun _ _ => rfl] at c1 c2 c3 c4
    have z1 : e1.length = d.b.length := List.length_map _
    have z2 : e2.length = d.b.length := List.length_map _
    have z3 : e3.length = d.c.length := List.length_map _
    have z4 : e4.length = d.c.length := List.length_map _
    have a1 := den_addL (xs := e1.map (enc : Qd → Val)) (ys := e2.map enc) (by simp only [List.length_map, z1, z2]; omega)
    have a2 := den_addL (xs := (e1 ++ e2).map (enc : Qd → Val)) (ys := e3.map enc) (by simp only [List.length_map, List.length_append, z1, z2, z3]; omega)
    have a3 := den_addL (xs := (e1 ++ e2 ++ e3).map (enc : Qd → Val)) (ys := e4.map enc) (by simp only [List.length_map, List.length_append, z1, z2, z3, z4]; omega)
    rw [← List.map_append] at a1 a2 a3
    have c5 := comp_eq (cf := evalD Pr n) (k := 0) (d := 0) (w := [13, 14, 15, 16]) (elt := .op (.tup [false, false]) [(.var 14), (.var 16)]) (t := .tup [(.slot 13), (.slot 14), (.slot 15), (.slot 16)]) (it := .var 5) (ifs := some (.op .isin [(.var 13), (.var 1)])) (ρ := [some (enc d, 0), some (enc one, 0), some (enc known, 0), some (enc f, 0), j4, some (enc (edges d), 0), some (enc ([] : List Pt), 1), none, some (enc d.a, 0), some (enc d.b, 0), some (enc d.c, 0), none, none, none, none, none, none, none, none]) (l := edges d) (enc : Qd → Val) (enc : Pt → Val) (fun e => decide (e.a ∈ one)) (fun e => (e.b, e.t))
      (fun e => [some (enc d, 0), some (enc one, 0), some (enc known, 0), some (enc f, 0), j4, some (enc (edges d), 0), some (enc ([] : List Pt), 1), none, some (enc d.a, 0), some (enc d.b, 0), some (enc d.c, 0), none, none, some (.int e.a, 0), some (.int e.b, 0), some (.int e.h, 0), some (.int e.t, 0), none, none]) rfl (fun _ _ => rfl) (fun e _ => evalO_of (cb_in (α := Int) (x := e.a) (ys := one) rfl rfl)) (fun _ _ _ => rfl) (by omega)
    have c6 := comp_eq (cf := evalD Pr n) (k := 0) (d := 0) (w := [11]) (elt := .var 11) (t := .slot 11) (it := .op .range [.var 8]) (ifs := some (.or (.op .isin [(.op (.tup [false, false]) [(.var 11), (.cst (.int 0))]), (.var 6)]) (.op .isin [(.op (.tup [false, false]) [(.var 11), (.cst (.int 1))]), (.var 6)]))) (ρ := eW d one known f j4 s jj) (l := upto d.a) (enc : Int → Val) (enc : Int → Val) (fun v => decide ((v, (0 : Int)) ∈ s.1) || decide ((v, (1 : Int)) ∈ s.1)) (fun v => v)
      (fun v => [some (enc d, 0), some (enc one, 0), some (enc known, 0), some (enc f, 0), j4, some (enc (edges d), 0), some (enc s.1, 1), some (enc s.2, 1), some (enc d.a, 0), some (enc d.b, 0), some (enc d.c, 0), some (enc v, 0), jj.b, jj.c, jj.d, jj.e, jj.f, jj.g, none]) (ev_range1 (m := d.a) rfl (by omega) (by omega)) (fun _ _ => rfl) (fun v _ => evalO_of (cb_or (cb_in (α := Pt) (x := (v, 0)) (ys := s.1) rfl rfl) fun _ => cb_in (α := Pt) (x := (v, 1)) (ys := s.1) rfl rfl)) (fun _ _ _ => rfl) (by rw [upto_length]; omega)
    rw [List.map_id'] at c6
    refine evalD_rt h rfl (ss_asg (v := enc d) rfl rfl (ss_set (v := enc known) rfl (ss_cons wA (ss_set (v := enc (e1 ++ e2)) (ev2 (x := enc e1) (y := enc e2) c1 c2 a1) (ss_set (v := enc (edges d)) (ev2 (x := enc (e1 ++ e2 ++ e3)) (y := enc e4) (ev2 (x := enc (e1 ++ e2)) (y := enc e3) rfl c3 a2) c4 a3) (ss_set (v := enc ([] : List Pt)) rfl (ss_set (v := enc l0) c5 (ss_cons (ρ' := eW d one known f j4 s jj) wW (ss_ret c6)))))))))
  · rw [List.mem_filter, mem_upto, Bool.or_eq_true, decide_eq_true_eq, decide_eq_true_eq, hfound, hfound]
theorem ev_law_apart (h6 : Pr 586 = some k__law_reached) (h : Pr 587 = some k__law_apart) {d : Dr} (T : Tame d) (h0 : 0 ≤ d.a) {v : Int} {asked known : List Int} (i2 : InR d.a asked) (i3 : InR d.a known) (nd : known.Nodup) :
    ∃ (ahead : List Int) (b : Bool), evalD Pr (n + 2) 587 [enc d, enc v, enc asked, enc known] = .ok (.bool b) ∧ (∀ x, x ∈ ahead ↔ Clo (flip d.b) known x) ∧ (b = true ↔ ∀ w ∈ asked, ¬ (Ws d [v] ahead known w 0 ∨ Ws d [v] ahead known w 1)) := by
  obtain ⟨ahead, R, e1, mA, lR, mR⟩ := ev_law_reached (n := n) h6 T h0 (one := [v]) i3 nd
  have hm := T.m
  have zR : R.length ≤ 16777216 := by omega
  refine ⟨ahead, decide (R.filter (fun w => decide (w ∈ asked)) = []), ?_, mA, ?_⟩
  · have c := comp_eq (cf := evalD Pr (n + 1)) (k := 9) (d := 0) (w := [4]) (elt := .var 4) (t := .slot 4) (it := .call 586 [(.var 0), (.op (.lst 0 [false]) [(.var 1)]), (.var 3)]) (ifs := some (.op .isin [(.var 4), (.var 2)])) (ρ := startE k__law_apart [enc d, enc v, enc asked, enc known]) (l := R) (enc : Int → Val) (enc : Int → Val) (fun w => decide (w ∈ asked)) (fun w => w)
      (fun w => [some (enc d, 0), some (enc v, 0), some (enc asked, 0), some (enc known, 0), some (enc w, 0)]) (seq_of (ev_call (evs_cons (v := enc d) rfl (evs_cons (v := enc [v]) (ev_op (evs_cons (v := enc v) rfl evs_nil) (den_lst (xs := [enc v]) rfl (by simp))) (evs_cons (v := enc known) rfl evs_nil))) e1)) (fun _ _ => rfl) (fun w _ => evalO_of (cb_in (α := Int) (x := w) (ys := asked) rfl rfl)) (fun _ _ _ => rfl) zR
    rw [List.map_id'] at c
    exact evalD_rt h rfl (ss_ret (cb_eq (α := List Int) (y := []) c rfl))
  · rw [decide_eq_true_eq]
    constructor
    · intro e w hw hb
      have : w ∈ R.filter fun w => decide (w ∈ asked) := List.mem_filter.mpr ⟨(mR w).mpr ⟨i2 w hw, hb⟩, decide_eq_true hw⟩
      rw [e] at this
      cases this
    · intro hh
      rw [List.filter_eq_nil_iff]
      intro w hw
      rw [decide_eq_true_eq]
      exact fun z => hh w z ((mR w).mp hw).2
end
end VL

/-! plain side, part 7: the walk over states and the walk over groups tell the same -/
namespace VL
open PySem
section
variable {d : Dr} {v : Int} {W K1 K2 A ahead : List Int} {ds : List (List Int)}
/-- what the two ways have in common -/
structure Sep (d : Dr) (v : Int) (W K1 K2 A ahead : List Int) (ds : List (List Int)) : Prop where
  vK : v ∉ K2
  vW : v ∉ W
  WK : ∀ w ∈ W, w ∉ K2
  KK : ∀ x, x ∈ K1 ↔ x ∈ K2
  mA : ∀ x, x ∈ A ↔ Clo (flip d.b) (W ++ [v] ++ K1) x
  mH : ∀ x, x ∈ ahead ↔ Clo (flip d.b) K2 x
  mD : ∀ D ∈ ds, ∃ u ∈ A, ∀ x, x ∈ D ↔ Clo (bothIn d A) [u] x
  cD : ∀ u ∈ A, ∃ D ∈ ds, u ∈ D
theorem Clo.mono {R : List Pt} {S S' : List Int} {x : Int} (h : Clo R S x) (s : ∀ y ∈ S, Clo R S' y) : Clo R S' x := by
  induction h with
  | base h => exact s _ h
  | step _ h ih => exact .step ih h
theorem Clo.sub {R : List Pt} {S S' : List Int} {x : Int} (h : Clo R S x) (s : ∀ y ∈ S, y ∈ S') : Clo R S' x := h.mono fun y hy => .base (s y hy)
theorem Clo.one {R : List Pt} {u x : Int} {S : List Int} (h : Clo R [u] x) (hu : Clo R S u) : Clo R S x := h.mono fun y hy => by
  rcases List.mem_cons.mp hy with e | e
  · rw [e]
    exact hu
  · cases e
theorem Clo.parts {R : List Pt} {S S' : List Int} {x : Int} (h : Clo R (S ++ S') x) : Clo R S x ∨ Clo R S' x := by
  induction h with
  | base h => exact (List.mem_append.mp h).elim (fun h => .inl (.base h)) fun h => .inr (.base h)
  | step _ h ih => exact ih.elim (fun i => .inl (.step i h)) fun i => .inr (.step i h)
theorem Clo.back {R : List Pt} (sym : ∀ x y, (x, y) ∈ R → (y, x) ∈ R) {u x : Int} (h : Clo R [u] x) : Clo R [x] u := by
  induction h with
  | base h =>
    rcases List.mem_cons.mp h with e | e
    · rw [e]
      exact .base List.mem_cons_self
    · cases e
  | @step a b _ h ih => exact ih.one (.step (.base List.mem_cons_self) (sym _ _ h))
theorem both_sym (x y : Int) (h : (x, y) ∈ bothIn d A) : (y, x) ∈ bothIn d A := by
  rw [mem_bothIn] at h ⊢
  exact ⟨⟨h.1.2, h.1.1⟩, h.2.symm⟩
variable (S : Sep d v W K1 K2 A ahead ds)
include S
theorem Sep.parent {x y : Int} (h : (x, y) ∈ d.b) (hy : y ∈ A) : x ∈ A := (S.mA x).mpr (.step ((S.mA y).mp hy) (mem_flip.mpr h))
theorem Sep.parentH {x y : Int} (h : (x, y) ∈ d.b) (hy : y ∈ ahead) : x ∈ ahead := (S.mH x).mpr (.step ((S.mH y).mp hy) (mem_flip.mpr h))
theorem Sep.aheadA {x : Int} (h : x ∈ ahead) : x ∈ A := (S.mA x).mpr (((S.mH x).mp h).sub fun y hy => List.mem_append_right _ ((S.KK y).mpr hy))
theorem Sep.KH {x : Int} (h : x ∈ K2) : x ∈ ahead := (S.mH x).mpr (.base h)
theorem Sep.vA : v ∈ A := (S.mA v).mpr (.base (by simp))
theorem Sep.DA {D : List Int} (hD : D ∈ ds) {x : Int} (hx : x ∈ D) : x ∈ A := by
  obtain ⟨u, hu, e⟩ := S.mD D hD
  have := (e x).mp hx
  induction this with
  | base h =>
    rcases List.mem_cons.mp h with e | e
    · rw [e]
      exact hu
    · cases e
  | step _ h _ => exact (mem_bothIn.mp h).1.2
theorem Sep.tieD {D : List Int} (hD : D ∈ ds) {x y : Int} (hx : x ∈ D) (h : (x, y) ∈ bothIn d A) : y ∈ D := by
  obtain ⟨u, _, e⟩ := S.mD D hD
  exact (e y).mpr (.step ((e x).mp hx) h)
theorem Sep.cloD {D : List Int} (hD : D ∈ ds) {x y : Int} (hx : x ∈ D) (hy : y ∈ D) : Clo (bothIn d A) [x] y := by
  obtain ⟨u, _, e⟩ := S.mD D hD
  exact ((e y).mp hy).one (((e x).mp hx).back both_sym)
theorem Sep.adj {D : List Int} (hD : D ∈ ds) {x z : Int} (hx : x ∈ grp d D) (hz : z ∈ grp d D) (b : Bf (ds.map (grp d)) W K1 z) (hk : x ∉ K2) : Bf (ds.map (grp d)) W K1 x :=
  .step b ⟨grp d D, List.mem_map.mpr ⟨D, hD, rfl⟩, hz, hx⟩ fun h => hk ((S.KK x).mp h)

/-! ### from states to groups -/
omit S in
theorem okB_iff {h : Int} {x : Int} {e : Qd} : okB ahead K2 x h e = true ↔ e.a = x ∧ (((h = 1 ∧ e.h = 1) ∧ x ∈ ahead) ∨ (¬ (h = 1 ∧ e.h = 1) ∧ x ∉ K2)) := by
  unfold okB meetB
  simp only [Bool.and_eq_true, Bool.or_eq_true, decide_eq_true_eq, Bool.not_eq_true', Bool.and_eq_false_iff, decide_eq_false_iff_not]
  refine and_congr_right fun _ => or_congr Iff.rfl (and_congr_left fun _ => ?_)
  constructor
  · rintro (g | g) z
    · exact g z.1
    · exact g z.2
  · intro g
    by_cases q : h = 1
    · exact .inr fun z => g ⟨q, z⟩
    · exact .inl q
/-- from where the walk may still come to W -/
inductive Tz (d : Dr) (ahead K2 W : List Int) : Int → Int → Prop
  | fin {w h : Int} : w ∈ W → Tz d ahead K2 W w h
  | go {x h : Int} {e : Qd} : e ∈ edges d → okB ahead K2 x h e = true → Tz d ahead K2 W e.b e.t → Tz d ahead K2 W x h
theorem Sep.back {x h : Int} (T : Tz d ahead K2 W x h) : (h = 0 ∨ h = 1) → (h = 0 → x ∈ A) →
    (h = 0 → Bf (ds.map (grp d)) W K1 x) ∧ (h = 1 → x ∈ A ∧ ∃ D ∈ ds, x ∈ D ∧ ∃ z ∈ grp d D, Bf (ds.map (grp d)) W K1 z) := by
  induction T with
  | @fin w h hw =>
    intro _ _
    have wA : w ∈ A := (S.mA w).mpr (.base (List.mem_append_left _ (List.mem_append_left _ hw)))
    obtain ⟨D, hD, hu⟩ := S.cD w wA
    exact ⟨fun _ => .base hw, fun _ => ⟨wA, D, hD, hu, w, mem_grp.mpr (.inl hu), .base hw⟩⟩
  | @go x h e he ok _ ih =>
    intro h01 hA
    obtain ⟨ea, ok2⟩ := okB_iff.mp ok
    clear ok
    obtain ⟨a, b, eh, et⟩ := e
    simp only at ea ok2 ih
    subst ea
    rcases mem_edges.mp he with ⟨m, e1, e2⟩ | ⟨m, e1, e2⟩ | ⟨m, e1, e2⟩
    · -- an arrow out
      simp only at m e1 e2
      subst e1 e2
      have xK : a ∉ K2 := by
        rcases ok2 with ⟨⟨_, z⟩, _⟩ | ⟨_, z⟩
        · exact absurd z (by decide)
        · exact z
      obtain ⟨bA, D, hD, bD, z, hz, bz⟩ := (ih (.inr rfl) fun z => absurd z (by decide)).2 rfl
      have aA := S.parent m bA
      have ba := S.adj hD (mem_grp.mpr (.inr ⟨b, bD, m⟩)) hz bz xK
      obtain ⟨D', hD', aD⟩ := S.cD a aA
      exact ⟨fun _ => ba, fun _ => ⟨aA, D', hD', aD, a, mem_grp.mpr (.inl aD), ba⟩⟩
    · -- an arrow in
      simp only at m e1 e2
      subst e1 e2
      have aA : a ∈ A := by
        rcases h01 with z | z
        · exact hA z
        · rcases ok2 with ⟨_, q⟩ | ⟨q, _⟩
          · exact S.aheadA q
          · exact absurd ⟨z, rfl⟩ q
      have bA := S.parent m aA
      have bb := (ih (.inl rfl) fun _ => bA).1 rfl
      obtain ⟨D, hD, aD⟩ := S.cD a aA
      have gb : b ∈ grp d D := mem_grp.mpr (.inr ⟨a, aD, m⟩)
      refine ⟨fun z => ?_, fun _ => ⟨aA, D, hD, aD, b, gb, bb⟩⟩
      have xK : a ∉ K2 := by
        rcases ok2 with ⟨⟨q, _⟩, _⟩ | ⟨_, q⟩
        · rw [z] at q
          exact absurd q (by decide)
        · exact q
      exact S.adj hD (mem_grp.mpr (.inl aD)) gb bb xK
    · -- a tie
      simp only at m e1 e2
      subst e1 e2
      have aA : a ∈ A := by
        rcases h01 with z | z
        · exact hA z
        · rcases ok2 with ⟨_, q⟩ | ⟨q, _⟩
          · exact S.aheadA q
          · exact absurd ⟨z, rfl⟩ q
      obtain ⟨bA, D, hD, bD, z, hz, bz⟩ := (ih (.inr rfl) fun z => absurd z (by decide)).2 rfl
      have aD : a ∈ D := S.tieD hD bD (mem_bothIn.mpr ⟨⟨bA, aA⟩, m.symm⟩)
      refine ⟨fun q => ?_, fun _ => ⟨aA, D, hD, aD, z, hz, bz⟩⟩
      have xK : a ∉ K2 := by
        rcases ok2 with ⟨⟨r, _⟩, _⟩ | ⟨_, r⟩
        · rw [q] at r
          exact absurd r (by decide)
        · exact r
      exact S.adj hD (mem_grp.mpr (.inl aD)) hz bz xK
omit S in
theorem start_of {x h : Int} (R : Ws d [v] ahead K2 x h) : Tz d ahead K2 W x h → ∃ e ∈ edges d, e.a = v ∧ Tz d ahead K2 W e.b e.t := by
  induction R with
  | base he h1 =>
    intro t
    rcases List.mem_cons.mp h1 with z | z
    · exact ⟨_, he, z, t⟩
    · cases z
  | step _ he ok ih => exact fun t => ih (.go he ok t)
theorem Sep.to_groups {w h : Int} (hw : w ∈ W) (R : Ws d [v] ahead K2 w h) : Bf (ds.map (grp d)) W K1 v := by
  obtain ⟨e, he, ea, t⟩ := start_of R (.fin hw)
  have ok : okB ahead K2 v 0 e = true := okB_iff.mpr ⟨ea, .inr ⟨fun z => absurd z.1 (by decide), S.vK⟩⟩
  exact (S.back (.go he ok t) (.inl rfl) fun _ => S.vA).1 rfl

/-! ### from groups to states -/
def Done (d : Dr) (v : Int) (W ahead K2 : List Int) : Prop := ∃ w ∈ W, Ws d [v] ahead K2 w 0 ∨ Ws d [v] ahead K2 w 1
def Rv (d : Dr) (v : Int) (ahead K2 : List Int) (x : Int) : Prop := x = v ∨ ∃ h, (h = 0 ∨ h = 1) ∧ Ws d [v] ahead K2 x h
omit S in
theorem edge_to {a b : Int} (h : (a, b) ∈ d.b) : (⟨a, b, 0, 1⟩ : Qd) ∈ edges d := mem_edges.mpr (.inl ⟨h, rfl, rfl⟩)
omit S in
theorem edge_from {a b : Int} (h : (b, a) ∈ d.b) : (⟨a, b, 1, 0⟩ : Qd) ∈ edges d := mem_edges.mpr (.inr (.inl ⟨h, rfl, rfl⟩))
omit S in
theorem edge_tie {a b : Int} (h : (a, b) ∈ bothIn d A) : (⟨a, b, 1, 1⟩ : Qd) ∈ edges d := mem_edges.mpr (.inr (.inr ⟨(mem_bothIn.mp h).2, rfl, rfl⟩))
omit S in
theorem ws_start {e : Qd} (he : e ∈ edges d) (h : e.a = v) : Ws d [v] ahead K2 e.b e.t := .base he (by rw [h]; exact List.mem_cons_self)
/-- against the arrows, from v -/
theorem Sep.up {x : Int} (h : Clo (flip d.b) [v] x) : x ∉ ahead → x = v ∨ Ws d [v] ahead K2 x 0 := by
  induction h with
  | base h =>
    intro _
    rcases List.mem_cons.mp h with e | e
    · exact .inl e
    · cases e
  | @step a x _ h ih =>
    intro hx
    have m := mem_flip.mp h
    have ha : a ∉ ahead := fun z => hx (S.parentH m z)
    right
    rcases ih ha with e | e
    · exact ws_start (edge_from m) e
    · exact .step e (edge_from m) (okB_iff.mpr ⟨rfl, .inr ⟨fun z => absurd z.1 (by decide), fun z => ha (S.KH z)⟩⟩)
/-- along the arrows, to W -/
theorem Sep.down {x : Int} (h : Clo (flip d.b) W x) : x ∉ ahead → Rv d v ahead K2 x → Done d v W ahead K2 := by
  induction h with
  | @base x h =>
    intro _ r
    rcases r with e | ⟨k, hk, r⟩
    · exact absurd (e ▸ h) S.vW
    · refine ⟨x, h, ?_⟩
      rcases hk with rfl | rfl
      · exact .inl r
      · exact .inr r
  | @step a x _ h ih =>
    intro hx r
    have m := mem_flip.mp h
    refine ih (fun z => hx (S.parentH m z)) (.inr ⟨1, .inr rfl, ?_⟩)
    rcases r with e | ⟨k, _, r⟩
    · exact ws_start (edge_to m) e
    · exact .step r (edge_to m) (okB_iff.mpr ⟨rfl, .inr ⟨fun z => absurd z.2 (show ¬ ((0 : Int) = 1) by decide), fun z => hx (S.KH z)⟩⟩)
/-- on from x along e, or at an end -/
theorem Sep.pass {x h : Int} {e : Qd} (xA : x ∈ A) (R : Ws d [v] ahead K2 x h) (h01 : h = 0 ∨ h = 1) (he : e ∈ edges d) (ea : e.a = x) (c : x ∉ K2 ∨ (h = 1 ∧ e.h = 1)) : Ws d [v] ahead K2 e.b e.t ∨ Done d v W ahead K2 := by
  by_cases m : h = 1 ∧ e.h = 1
  · by_cases hx : x ∈ ahead
    · exact .inl (.step R he (okB_iff.mpr ⟨ea, .inl ⟨m, hx⟩⟩))
    · rcases ((S.mA x).mp xA).parts with q | q
      · rcases q.parts with q | q
        · exact .inr (S.down q hx (.inr ⟨h, h01, R⟩))
        · left
          rcases S.up q hx with z | z
          · exact ws_start he (ea.trans z)
          · exact .step z he (okB_iff.mpr ⟨ea, .inr ⟨fun r => absurd r.1 (by decide), fun r => hx (S.KH r)⟩⟩)
      · exact absurd ((S.mH x).mpr (q.sub fun y hy => (S.KK y).mp hy)) hx
  · exact .inl (.step R he (okB_iff.mpr ⟨ea, .inr ⟨m, c.elim id fun z => absurd z m⟩⟩))
theorem Sep.passR {x : Int} {e : Qd} (xA : x ∈ A) (R : Rv d v ahead K2 x) (he : e ∈ edges d) (ea : e.a = x) (xK : x ∉ K2) : Ws d [v] ahead K2 e.b e.t ∨ Done d v W ahead K2 := by
  rcases R with z | ⟨h, h01, R⟩
  · exact .inl (ws_start he (ea.trans z))
  · exact S.pass xA R h01 he ea (.inl xK)
/-- along the ties -/
theorem Sep.ties {x y : Int} (h : Clo (bothIn d A) [x] y) (st : ∀ z, (x, z) ∈ bothIn d A → Ws d [v] ahead K2 z 1 ∨ Done d v W ahead K2) : y = x ∨ Ws d [v] ahead K2 y 1 ∨ Done d v W ahead K2 := by
  induction h with
  | base h =>
    rcases List.mem_cons.mp h with e | e
    · exact .inl e
    · cases e
  | @step a b _ h ih =>
    right
    rcases ih with e | e | e
    · rw [e] at h
      exact st b h
    · exact S.pass (mem_bothIn.mp h).1.1 e (.inr rfl) (edge_tie h) rfl (.inr ⟨rfl, rfl⟩)
    · exact .inr e
/-- from one of a group to any other -/
theorem Sep.cross {D : List Int} (hD : D ∈ ds) {x y : Int} (hy : y ∈ grp d D) (hx : x ∈ grp d D) (R : Rv d v ahead K2 y) (yK : y ∉ K2) : Rv d v ahead K2 x ∨ Done d v W ahead K2 := by
  -- to a member c of the district
  have to : ∀ c ∈ D, (c = y ∧ y ∈ D) ∨ Ws d [v] ahead K2 c 1 ∨ Done d v W ahead K2 := fun c hc => by
    rcases mem_grp.mp hy with yD | ⟨c0, c0D, m⟩
    · rcases S.ties (S.cloD hD yD hc) fun z hz => S.passR (S.DA hD yD) R (edge_tie hz) rfl yK with e | e | e
      · exact .inl ⟨e, yD⟩
      · exact .inr (.inl e)
      · exact .inr (.inr e)
    · rcases S.passR (S.parent m (S.DA hD c0D)) R (edge_to m) rfl yK with e0 | e0
      · have e0 : Ws d [v] ahead K2 c0 1 := e0
        rcases S.ties (S.cloD hD c0D hc) fun z hz => S.pass (S.DA hD c0D) e0 (.inr rfl) (edge_tie hz) rfl (.inr ⟨rfl, rfl⟩) with e | e | e
        · rw [e]
          exact .inr (.inl e0)
        · exact .inr (.inl e)
        · exact .inr (.inr e)
      · exact .inr (.inr e0)
  rcases mem_grp.mp hx with xD | ⟨c, cD, m⟩
  · rcases to x xD with ⟨e, _⟩ | e | e
    · rw [e]
      exact .inl R
    · exact .inl (.inr ⟨1, .inr rfl, e⟩)
    · exact .inr e
  · have fin : Ws d [v] ahead K2 x 0 ∨ Done d v W ahead K2 → Rv d v ahead K2 x ∨ Done d v W ahead K2 := fun h => h.imp (fun h => .inr ⟨0, .inl rfl, h⟩) id
    rcases to c cD with ⟨e, yD⟩ | e | e
    · subst e
      exact fin (S.passR (S.DA hD yD) R (edge_from m) rfl yK)
    · exact fin (S.pass (S.DA hD cD) e (.inr rfl) (edge_from m) rfl (.inr ⟨rfl, rfl⟩))
    · exact .inr e
theorem Sep.to_states (h : Bf (ds.map (grp d)) W K1 v) : Done d v W ahead K2 := by
  have gen : ∀ y, Bf (ds.map (grp d)) W K1 y → Rv d v ahead K2 y → Done d v W ahead K2 := fun y hy => by
    induction hy with
    | @base x hx =>
      intro r
      rcases r with e | ⟨k, hk, r⟩
      · exact absurd (e ▸ hx) S.vW
      · refine ⟨x, hx, ?_⟩
        rcases hk with rfl | rfl
        · exact .inl r
        · exact .inr r
    | @step x y _ a yK ih =>
      intro r
      obtain ⟨g, hg, hx, hy⟩ := a
      obtain ⟨D, hD, rfl⟩ := List.mem_map.mp hg
      exact (S.cross hD hy hx r fun z => yK ((S.KK y).mpr z)).elim ih id
  exact gen v h (.inl rfl)
theorem Sep.same : Bf (ds.map (grp d)) W K1 v ↔ ∃ w ∈ W, Ws d [v] ahead K2 w 0 ∨ Ws d [v] ahead K2 w 1 :=
  ⟨S.to_states, fun ⟨w, hw, h⟩ => h.elim (S.to_groups hw) (S.to_groups hw)⟩
end
end VL

/-! plain side, part 8: the checks -/
namespace VL
open PySem
open Enc
def ltP (p q : Pt) : Prop := p.1 < q.1 ∨ (p.1 = q.1 ∧ p.2 < q.2)
theorem leD_pt (p q : Pt) : leD p q = decide (p.1 < q.1 ∨ (p.1 = q.1 ∧ p.2 ≤ q.2)) := congrFun (congrFun (PySem.W.dataLe_ii (fun p : Pt => p.1) fun p => p.2) p) q
theorem leD_int (p q : Int) : leD p q = decide (p ≤ q) := congrFun (congrFun (PySem.W.dataLe_int (fun p : Int => p)) p) q
theorem srt_pt {l : List Pt} (nd : l.Nodup) : (srt l).Pairwise ltP := by
  have h1 : (srt l).Pairwise fun a b => leD a b = true := List.pairwise_mergeSort (fun a b c h1 h2 => by
    rw [leD_pt, decide_eq_true_eq] at h1 h2 ⊢
    omega) (fun a b => by
    rw [leD_pt, leD_pt, Bool.or_eq_true, decide_eq_true_eq, decide_eq_true_eq]
    omega) l
  have h2 : (srt l).Nodup := (srt_perm l).nodup_iff.mpr nd
  refine (h1.and h2).imp fun {a b} ⟨h3, h4⟩ => ?_
  rw [leD_pt, decide_eq_true_eq] at h3
  unfold ltP
  rcases h3 with h | ⟨h, h'⟩
  · exact .inl h
  · refine .inr ⟨h, ?_⟩
    by_cases q : a.2 = b.2
    · exact absurd (Prod.ext h q) h4
    · omega
theorem enumV_map {α : Type} (e : α → Val) : ∀ (xs : List α) (n : Nat), enumV n (xs.map e) = (xs.zipIdx n).map fun q => .tuple [.int (q.2 : Nat), e q.1]
  | [], n => rfl
  | x :: xs, n => by
    simp only [List.map_cons, enumV, List.zipIdx_cons, enumV_map e xs (n + 1)]
theorem zip_at {α : Type} {xs : List α} {pre post : List (α × Nat)} {q : α × Nat} (h : xs.zipIdx = pre ++ q :: post) : q.2 = pre.length ∧ xs[pre.length]? = some q.1 := by
  have h1 : xs.zipIdx[pre.length]? = some q := by
    rw [h, List.getElem?_append_right (Nat.le_refl _)]
    simp
  rw [List.getElem?_zipIdx] at h1
  cases e : xs[pre.length]? with
  | none =>
    rw [e] at h1
    cases h1
  | some x =>
    rw [e] at h1
    simp at h1
    rw [← h1]
    exact ⟨rfl, rfl⟩
theorem pair_at {α : Type} {R : α → α → Prop} {xs : List α} (h : xs.Pairwise R) {i : Nat} {a b : α} (ha : xs[i]? = some a) (hb : xs[i + 1]? = some b) : R a b := by
  rw [List.pairwise_iff_getElem] at h
  obtain ⟨h1, e1⟩ := List.getElem?_eq_some_iff.mp ha
  obtain ⟨h2, e2⟩ := List.getElem?_eq_some_iff.mp hb
  have := h i (i + 1) h1 h2 (Nat.lt_succ_self i)
  rwa [e1, e2] at this
theorem den_ge_pt (p q : Pt) : den .ge [enc p, enc q] = .ok (.bool (!HT.lexLt [p.1, p.2] [q.1, q.2])) := rfl
theorem lex_pt {p q : Pt} (h : ltP p q) : HT.lexLt [p.1, p.2] [q.1, q.2] = true := by
  simp only [HT.lexLt]
  rcases h with h | ⟨h, h'⟩
  · rw [if_neg (by omega), decide_eq_true h]
  · rw [if_pos h, if_neg (by omega), decide_eq_true h']
theorem s_for {cf : Nat → List Val → Res Val} {ρ : Env} {α σ J : Type} {t : Pat} {it : E} {body : List S} {l : List α} (e : α → Val) (hi : (evalE cf 0 it ρ).bind asSeq = .ok (l.map e)) (E : σ → J → Env) (I : List α → σ → Prop) (s0 : σ) (j0 : J) (hρ : ρ = E s0 j0) (h0 : I [] s0)
    (hb : ∀ pre x post s j, l = pre ++ x :: post → I pre s → ∃ s' j' ρ', bindP t (e x) (E s j) = .ok ρ' ∧ evalSs cf body ρ' = .ok (.nx (E s' j')) ∧ I (pre ++ [x]) s') : ∃ s j, evalS cf (.for t it body) ρ = .ok (.nx (E s j)) ∧ I l s := by
  obtain ⟨s1, j1, h3, h4⟩ := forL_inv (b := fun v ρ => (bindP t v ρ).bind fun ρ' => evalSs cf body ρ') (e := e) E I (l := l) (fun pre x post s j hl hs => by
    obtain ⟨s', j', ρ', e1, e2, e3⟩ := hb pre x post s j hl hs
    refine ⟨s', j', ?_, e3⟩
    show (bindP t (e x) (E s j)).bind _ = _
    rw [e1]
    exact e2) l [] s0 j0 rfl h0
  refine ⟨s1, j1, ?_, h4⟩
  obtain ⟨v, e1, e2⟩ := Res.bind_eq_ok hi
  show (evalE cf 0 it ρ).bind _ = _
  rw [e1]
  show (asSeq v).bind _ = _
  rw [e2, hρ]
  exact h3
section
variable {Pr : Prog} {n : Nat}
theorem ev_first_bad (h : Pr 0 = some k_first_bad) {m : Int} {ps : List Pt} {both : Bool} (hI : InP m ps) (hne : ∀ p ∈ ps, p.1 ≠ p.2) (hb : both = true → ∀ p ∈ ps, p.1 ≤ p.2) (hs : ps.Pairwise ltP) :
    evalD Pr (n + 1) 0 [enc m, enc ps, .bool both] = .ok .none := by
  refine evalD_rt h rfl ?_
  let E : Unit → (Option (Val × Nat) × Option (Val × Nat) × Option (Val × Nat)) → Env := fun _ j => [some (enc m, 0), some (enc ps, 0), some (.bool both, 0), j.1, j.2.1, j.2.2]
  refine ss_for (l := ps.zipIdx) (fun q : Pt × Nat => .tuple [.int (q.2 : Nat), enc q.1]) ?_ E (fun _ _ => True) () (none, none, none) rfl trivial (fun pre q post s j hl _ => ?_) fun s j _ => ss_ret rfl
  · refine seq_of (ev1 (o := .enum) (x := enc ps) rfl ?_)
    show Res.ok (PyData.list (enumV 0 (ps.map enc))) = _
    rw [enumV_map]
  · obtain ⟨p, k⟩ := q
    obtain ⟨ek, hp⟩ := zip_at hl
    simp only at ek hp
    subst ek
    have mp : p ∈ ps := List.mem_of_getElem? hp
    have ip := hI p mp
    let ρ1 : Env := [some (enc m, 0), some (enc ps, 0), some (.bool both, 0), some (.int (pre.length : Nat), 0), some (enc p.1, 0), some (enc p.2, 0)]
    refine ⟨(), (some (.int (pre.length : Nat), 0), some (enc p.1, 0), some (enc p.2, 0)), ρ1, rfl, ?_, trivial⟩
    have ch : ∀ i x, evalE (evalD Pr n) 9 (.var i) ρ1 = .ok (.int x) → (0 ≤ x ∧ x < m) → CB (evalD Pr n) (.op .not [(.chain .le .lt (.cst (.int 0)) (.var i) (.var 0))]) ρ1 false := fun i x hx hr => by
      have := cb_not (cb_chain (cf := evalD Pr n) (a := .cst (.int 0)) (b := .var i) (c := .var 0) (ρ := ρ1) (i := 0) (j := x) (l := m) (o := .le) (o' := .lt) (p := decide (0 ≤ x)) (q := decide (x < m)) rfl hx rfl rfl rfl)
      rw [decide_eq_true hr.1, decide_eq_true hr.2] at this
      exact this
    have c3 : CB (evalD Pr n) (.op .eq [(.var 4), (.var 5)]) ρ1 false := by
      have := cb_eq (cf := evalD Pr n) (a := .var 4) (b := .var 5) (ρ := ρ1) (α := Int) (x := p.1) (y := p.2) rfl rfl
      rw [decide_eq_false (hne p mp)] at this
      exact this
    have c4 : CB (evalD Pr n) (.and (.var 2) (.op .gt [(.var 4), (.var 5)])) ρ1 false := by
      have := cb_and (cf := evalD Pr n) (a := .var 2) (ρ := ρ1) (p := both) rfl fun _ => cb_gt (a := .var 4) (b := .var 5) (i := p.1) (j := p.2) rfl rfl
      have e : (both && decide (p.2 < p.1)) = false := by
        cases q : both with
        | false => rfl
        | true =>
          have := hb q p mp
          rw [Bool.true_and, decide_eq_false_iff_not]
          omega
      rw [e] at this
      exact this
    refine ss_ifF (cb_or (p := false) (q := false) (ch 4 p.1 rfl ip.1) fun _ => cb_or (p := false) (q := false) (ch 5 p.2 rfl ip.2) fun _ => cb_or (p := false) (q := false) c3 fun _ => c4) ?_
    show evalSs (evalD Pr n) [.iff (.and (.op .gt [(.var 3), (.cst (.int 0))]) (.op .ge [(.op .idx [(.var 1), (.op .sub [(.var 3), (.cst (.int 1))])]), (.op (.tup [false, false]) [(.var 4), (.var 5)])])) [.retv 3 0] []] ρ1 = _
    have c5 : CB (evalD Pr n) (.and (.op .gt [(.var 3), (.cst (.int 0))]) (.op .ge [(.op .idx [(.var 1), (.op .sub [(.var 3), (.cst (.int 1))])]), (.op (.tup [false, false]) [(.var 4), (.var 5)])])) ρ1 false := by
      by_cases z : pre.length = 0
      · have := cb_and (q := false) (cf := evalD Pr n) (ρ := ρ1) (b := .op .ge [(.op .idx [(.var 1), (.op .sub [(.var 3), (.cst (.int 1))])]), (.op (.tup [false, false]) [(.var 4), (.var 5)])]) (cb_gt (a := .var 3) (b := .cst (.int 0)) (i := ((pre.length : Nat) : Int)) (j := 0) rfl rfl) fun z2 => by
          have := of_decide_eq_true z2
          omega
        rw [Bool.and_false] at this
        exact this
      · obtain ⟨i, hi⟩ : ∃ i, pre.length = i + 1 := ⟨pre.length - 1, by omega⟩
        have hlt : i < ps.length := by
          have := getElem_lt hp
          omega
        have hr : ps[i]? = some ps[i] := List.getElem?_eq_getElem hlt
        have lt := pair_at hs hr (by rw [← hi]; exact hp)
        have := cb_and (cf := evalD Pr n) (ρ := ρ1) (p := true) (q := false) (a := .op .gt [(.var 3), (.cst (.int 0))]) (b := .op .ge [(.op .idx [(.var 1), (.op .sub [(.var 3), (.cst (.int 1))])]), (.op (.tup [false, false]) [(.var 4), (.var 5)])]) (by
          have := cb_gt (cf := evalD Pr n) (ρ := ρ1) (a := .var 3) (b := .cst (.int 0)) (i := ((pre.length : Nat) : Int)) (j := 0) rfl rfl
          rw [decide_eq_true (by omega)] at this
          exact this) fun _ => by
          refine ev2 (x := enc ps[i]) (y := enc p) (ev2 (x := enc ps) (y := .int ((i : Nat) : Int)) rfl (ev2 (x := .int ((pre.length : Nat) : Int)) (y := .int 1) rfl rfl ?_) (den_idx ?_)) rfl ?_
          · show Res.ok (PyData.int (((pre.length : Nat) : Int) - 1)) = _
            congr 2
            omega
          · rw [List.getElem?_map, hr]
            rfl
          · rw [den_ge_pt, lex_pt lt]
            rfl
        exact this
    exact ss_ifF c5 rfl
theorem ev_check_set (h : Pr 12 = some k_check_set) {m : Int} {xs : List Int} (hI : InR m xs) (hs : xs.Pairwise (· < ·)) : evalD Pr (n + 1) 12 [enc m, enc xs] = .ok .none := by
  let E : Unit → (Option (Val × Nat) × Option (Val × Nat)) → Env := fun _ j => [some (enc m, 0), some (enc xs, 0), j.1, j.2]
  have key : ∃ s j, evalS (evalD Pr n) (.for (.tup [(.slot 2), (.slot 3)]) (.op .enum [(.var 1)]) [.iff (.or (.op .not [(.chain .le .lt (.cst (.int 0)) (.var 3) (.var 0))]) (.and (.op .gt [(.var 2), (.cst (.int 0))]) (.op .ge [(.op .idx [(.var 1), (.op .sub [(.var 2), (.cst (.int 1))])]), (.var 3)]))) [.raise "e" (.cst .none)] []]) (startE k_check_set [enc m, enc xs]) = .ok (.nx (E s j)) ∧ True := by
    refine s_for (l := xs.zipIdx) (fun q : Int × Nat => .tuple [.int (q.2 : Nat), enc q.1]) ?_ E (fun _ _ => True) () (none, none) rfl trivial (fun pre q post s j hl _ => ?_)
    · refine seq_of (ev1 (o := .enum) (x := enc xs) rfl ?_)
      show Res.ok (PyData.list (enumV 0 (xs.map enc))) = _
      rw [enumV_map]
    · obtain ⟨x, k⟩ := q
      obtain ⟨ek, hp⟩ := zip_at hl
      simp only at ek hp
      subst ek
      have ip := hI x (List.mem_of_getElem? hp)
      let ρ1 : Env := [some (enc m, 0), some (enc xs, 0), some (.int (pre.length : Nat), 0), some (enc x, 0)]
      refine ⟨(), (some (.int (pre.length : Nat), 0), some (enc x, 0)), ρ1, rfl, ?_, trivial⟩
      have c1 : CB (evalD Pr n) (.op .not [(.chain .le .lt (.cst (.int 0)) (.var 3) (.var 0))]) ρ1 false := by
        have := cb_not (cb_chain (cf := evalD Pr n) (a := .cst (.int 0)) (b := .var 3) (c := .var 0) (ρ := ρ1) (i := 0) (j := x) (l := m) (o := .le) (o' := .lt) (p := decide (0 ≤ x)) (q := decide (x < m)) rfl rfl rfl rfl rfl)
        rw [decide_eq_true ip.1, decide_eq_true ip.2] at this
        exact this
      have c5 : CB (evalD Pr n) (.and (.op .gt [(.var 2), (.cst (.int 0))]) (.op .ge [(.op .idx [(.var 1), (.op .sub [(.var 2), (.cst (.int 1))])]), (.var 3)])) ρ1 false := by
        by_cases z : pre.length = 0
        · have := cb_and (q := false) (cf := evalD Pr n) (ρ := ρ1) (b := .op .ge [(.op .idx [(.var 1), (.op .sub [(.var 2), (.cst (.int 1))])]), (.var 3)]) (cb_gt (a := .var 2) (b := .cst (.int 0)) (i := ((pre.length : Nat) : Int)) (j := 0) rfl rfl) fun z2 => by
            have := of_decide_eq_true z2
            omega
          rw [Bool.and_false] at this
          exact this
        · obtain ⟨i, hi⟩ : ∃ i, pre.length = i + 1 := ⟨pre.length - 1, by omega⟩
          have hlt : i < xs.length := by
            have := getElem_lt hp
            omega
          have hr : xs[i]? = some xs[i] := List.getElem?_eq_getElem hlt
          have lt := pair_at hs hr (by rw [← hi]; exact hp)
          have := cb_and (cf := evalD Pr n) (ρ := ρ1) (p := true) (q := false) (a := .op .gt [(.var 2), (.cst (.int 0))]) (b := .op .ge [(.op .idx [(.var 1), (.op .sub [(.var 2), (.cst (.int 1))])]), (.var 3)]) (by
            have := cb_gt (cf := evalD Pr n) (ρ := ρ1) (a := .var 2) (b := .cst (.int 0)) (i := ((pre.length : Nat) : Int)) (j := 0) rfl rfl
            rw [decide_eq_true (by omega)] at this
            exact this) fun _ => by
            have := cb_ge (cf := evalD Pr n) (ρ := ρ1) (a := .op .idx [(.var 1), (.op .sub [(.var 2), (.cst (.int 1))])]) (b := .var 3) (i := xs[i]) (j := x) (ev2 (x := enc xs) (y := .int ((i : Nat) : Int)) rfl (ev2 (x := .int ((pre.length : Nat) : Int)) (y := .int 1) rfl rfl (by
              show Res.ok (PyData.int (((pre.length : Nat) : Int) - 1)) = _
              congr 2
              omega)) (den_idx (by
              rw [List.getElem?_map, hr]
              rfl))) rfl
            rw [decide_eq_false (by omega)] at this
            exact this
          exact this
      exact ss_ifF (cb_or (p := false) (q := false) c1 fun _ => c5) rfl
  obtain ⟨_, j, hj, _⟩ := key
  exact evalD_nx h rfl (ss_cons hj rfl)
end
end VL

/-! plain side, part 9: no rounds, the drawing's check, all checks -/
namespace VL
open PySem
open Enc
def into (R : List Pt) (l : List Int) (v : Int) : List Int := (R.filter fun p => decide (p.2 = v) && decide (p.1 ∈ l)).map fun p => p.1
def freeL (R : List Pt) (l : List Int) : List Int := l.filter fun v => decide ((((into R l v).length : Nat) : Int) = 0)
theorem mem_into {R : List Pt} {l : List Int} {v a : Int} : a ∈ into R l v ↔ (a, v) ∈ R ∧ a ∈ l := by
  unfold into
  rw [List.mem_map]
  constructor
  · rintro ⟨p, hp, rfl⟩
    obtain ⟨h1, h2⟩ := List.mem_filter.mp hp
    rw [Bool.and_eq_true, decide_eq_true_eq, decide_eq_true_eq] at h2
    exact ⟨by rw [← h2.1]; exact h1, h2.2⟩
  · rintro ⟨h1, h2⟩
    exact ⟨(a, v), List.mem_filter.mpr ⟨h1, by simp [h2]⟩, rfl⟩
theorem free_some {R : List Pt} {l : List Int} (rank : Int → Nat) (hr : ∀ p ∈ R, rank p.1 < rank p.2) : ∀ (k : Nat) (v : Int), v ∈ l → rank v ≤ k → freeL R l ≠ []
  | k, v, hv, hk => by
    by_cases q : into R l v = []
    · intro e
      have : v ∈ freeL R l := List.mem_filter.mpr ⟨hv, by rw [q]; rfl⟩
      rw [e] at this
      cases this
    · obtain ⟨a, ha⟩ := List.exists_mem_of_ne_nil _ q
      obtain ⟨h1, h2⟩ := mem_into.mp ha
      have := hr _ h1
      simp only at this
      cases k with
      | zero => omega
      | succ k => exact free_some rank hr k a h2 (by omega)
section
variable {Pr : Prog} {n : Nat}
theorem ev_rest_of (h : Pr 1 = some k_rest_of) {m : Int} {R : List Pt} (h0 : 0 ≤ m) (hm : m ≤ 60) (zR : R.length ≤ 100000) (rank : Int → Nat) (hr : ∀ p ∈ R, rank p.1 < rank p.2) : evalD Pr (n + 1) 1 [enc m, enc R] = .ok (enc ([] : List Int)) := by
  refine evalD_rt h rfl ?_
  let E : List Int × Bool → Option (Val × Nat) → Env := fun s j => [some (enc m, 0), some (enc R, 0), some (enc s.1, 0), some (.bool s.2, 0), j, none, none, none]
  refine ss_set (v := enc (upto m)) (ev1 (o := .list) (x := enc (upto m)) (by
    obtain ⟨v, e1, e2⟩ := Res.bind_eq_ok (ev_range1 (cf := evalD Pr n) (k := 1) (a := .var 0) (ρ := startE k_rest_of [enc m, enc R]) (m := m) rfl (by omega) (by omega))
    rw [show evalE (evalD Pr n) (octx .list 0) (.op .range [.var 0]) (startE k_rest_of [enc m, enc R]) = .ok v from e1]
    have : den .range [.int m] = .ok v := e1
    rw [den_range1' (by omega) (by omega)] at this
    cases this
    rfl) rfl) (ss_set (v := .bool true) rfl ?_)
  refine ss_whl E (fun s => s.2) (fun s => s.1.length ≤ 60 ∧ (s.2 = false → s.1 = [])) (fun s => 2 * s.1.length + (if s.2 then 1 else 0)) (upto m, true) none rfl ⟨by rw [upto_length]; omega, fun z => (nomatch z)⟩ (by
    show 2 * (upto m).length + 1 < 1000000
    rw [upto_length]
    omega) (fun s j _ => rfl) (fun s j hs go => ?_) (fun s j hs go => ?_)
  · obtain ⟨l, b⟩ := s
    have hb : b = true := go
    subst hb
    have zl : l.length ≤ 60 := hs.1
    let l' := l.filter fun v => !decide (v ∈ freeL R l)
    have hin : ∀ v : Int, evalE (evalD Pr n) 9 (.comp [6, 7] 0 (.var 6) (.tup [(.slot 6), (.slot 7)]) (.var 1) (some (.and (.op .eq [(.var 7), (.var 5)]) (.op .isin [(.var 6), (.var 2)])))) [some (enc m, 0), some (enc R, 0), some (enc l, 0), some (.bool true, 0), j, some (enc v, 0), none, none] = .ok (enc (into R l v)) := fun v =>
      comp_eq (l := R) (enc : Pt → Val) (enc : Int → Val) (fun p => decide (p.2 = v) && decide (p.1 ∈ l)) (fun p => p.1) (fun p => [some (enc m, 0), some (enc R, 0), some (enc l, 0), some (.bool true, 0), j, some (enc v, 0), some (enc p.1, 0), some (enc p.2, 0)]) rfl (fun _ _ => rfl) (fun p _ => evalO_of (cb_and (cb_eq (α := Int) (x := p.2) (y := v) rfl rfl) fun _ => cb_in (α := Int) (x := p.1) (ys := l) rfl rfl)) (fun _ _ _ => rfl) (by omega)
    have c1 := comp_eq (cf := evalD Pr n) (k := 0) (d := 0) (w := [5]) (elt := .var 5) (t := .slot 5) (it := .var 2) (ifs := some (.op .eq [(.op .len [(.comp [6, 7] 0 (.var 6) (.tup [(.slot 6), (.slot 7)]) (.var 1) (some (.and (.op .eq [(.var 7), (.var 5)]) (.op .isin [(.var 6), (.var 2)]))))]), (.cst (.int 0))])) (ρ := E (l, true) j) (l := l) (enc : Int → Val) (enc : Int → Val) (fun v => decide ((((into R l v).length : Nat) : Int) = 0)) (fun v => v)
      (fun v => [some (enc m, 0), some (enc R, 0), some (enc l, 0), some (.bool true, 0), j, some (enc v, 0), none, none]) rfl (fun _ _ => rfl) (fun v _ => evalO_of (cb_eq (α := Int) (x := (((into R l v).length : Nat) : Int)) (y := 0) (by
        have := ev_len (k := 9) (hin v)
        rw [List.length_map] at this
        exact this) rfl)) (fun _ _ _ => rfl) (by omega)
    rw [List.map_id'] at c1
    have c2 := comp_eq (cf := evalD Pr n) (k := 0) (d := 0) (w := [5]) (elt := .var 5) (t := .slot 5) (it := .var 2) (ifs := some (.op .notin [(.var 5), (.var 4)])) (ρ := E (l, true) (some (enc (freeL R l), 0))) (l := l) (enc : Int → Val) (enc : Int → Val) (fun v => !decide (v ∈ freeL R l)) (fun v => v)
      (fun v => [some (enc m, 0), some (enc R, 0), some (enc l, 0), some (.bool true, 0), some (enc (freeL R l), 0), some (enc v, 0), none, none]) rfl (fun _ _ => rfl) (fun v _ => evalO_of (cb_notin (α := Int) (x := v) (ys := freeL R l) rfl rfl)) (fun _ _ _ => rfl) (by omega)
    rw [List.map_id'] at c2
    have c3 := ev_len (cf := evalD Pr n) (k := 9) (a := .var 4) (ρ := E (l', true) (some (enc (freeL R l), 0))) (l := (freeL R l).map enc) rfl
    rw [List.length_map] at c3
    have c4 := cb_gt (b := .cst (.int 0)) (j := 0) c3 rfl
    have ll : l'.length ≤ l.length := List.length_filter_le _ _
    refine ⟨(l', decide ((0 : Int) < (((freeL R l).length : Nat) : Int))), some (enc (freeL R l), 0), ?_, ⟨by show l'.length ≤ 60; omega, fun z => ?_⟩, ?_⟩
    · exact ss_set (v := enc (freeL R l)) c1 (ss_set (v := enc l') c2 (ss_set c4 rfl))
    · have e0 : freeL R l = [] := by
        have := of_decide_eq_false z
        exact List.length_eq_zero_iff.mp (by omega)
      cases l with
      | nil => rfl
      | cons v r => exact absurd e0 (free_some rank hr (rank v) v List.mem_cons_self (Nat.le_refl _))
    · show 2 * l'.length + (if decide ((0 : Int) < (((freeL R l).length : Nat) : Int)) = true then 1 else 0) < 2 * l.length + (if true = true then 1 else 0)
      by_cases q : freeL R l = []
      · rw [q]
        simp
        omega
      · have : l'.length < l.length := by
          obtain ⟨v, hv⟩ := List.exists_mem_of_ne_nil _ q
          have hvl := (List.mem_filter.mp hv).1
          refine Nat.lt_of_le_of_ne ll fun e => ?_
          have := List.length_filter_eq_length_iff.mp e v hvl
          simp [hv] at this
        split <;> simp <;> omega
  · have e := hs.2 go
    show Res.guard (Nat.ble 0 0) (Res.ok (Out.rt (enc s.1))) = _
    rw [e]
    rfl
theorem ev_on_rounds (h1 : Pr 1 = some k_rest_of) (h : Pr 2 = some k_on_rounds) {m : Int} {R : List Pt} (h0 : 0 ≤ m) (hm : m ≤ 60) (zR : R.length ≤ 100000) (rank : Int → Nat) (top : Nat) (hr : ∀ p ∈ R, rank p.1 < rank p.2 ∧ rank p.2 ≤ top) : evalD Pr (n + 2) 2 [enc m, enc R] = .ok (enc ([] : List Int)) := by
  have e1 := ev_rest_of (n := n) h1 h0 hm zR rank fun p hp => (hr p hp).1
  have zf : (flip R).length = R.length := by simp [flip]
  have e2 := ev_rest_of (n := n) h1 h0 hm (R := flip R) (by omega) (fun x => top - rank x) fun p hp => by
    obtain ⟨q, hq, rfl⟩ := List.mem_map.mp hp
    have := hr q hq
    simp only
    omega
  have c := comp_eq (cf := evalD Pr (n + 1)) (k := 0) (d := 0) (w := [5, 6]) (elt := .op (.tup [false, false]) [(.var 6), (.var 5)]) (t := .tup [(.slot 5), (.slot 6)]) (it := .var 1) (ifs := none) (ρ := [some (enc m, 0), some (enc R, 0), some (enc ([] : List Int), 0), none, none, none, none]) (l := R) (enc : Pt → Val) (enc : Pt → Val) (fun _ => true) (fun p => (p.2, p.1)) (fun p => [some (enc m, 0), some (enc R, 0), some (enc ([] : List Int), 0), none, none, some (enc p.1, 0), some (enc p.2, 0)]) rfl (fun _ _ => rfl) (fun _ _ => rfl) (fun _ _ _ => rfl) (by omega)
  rw [List.filter_eq_self.mpr fun _ _ => rfl] at c
  refine evalD_rt h rfl (ss_set (v := enc ([] : List Int)) (ev_call (evs_cons (v := enc m) rfl (evs_cons (v := enc R) rfl evs_nil)) e1) (ss_set (v := enc ([] : List Int)) (ev_call (evs_cons (v := enc m) rfl (evs_cons (v := enc (flip R)) c evs_nil)) e2) (ss_ret ?_)))
  have := comp_eq (cf := evalD Pr (n + 1)) (k := 0) (d := 0) (w := [4]) (elt := .var 4) (t := .slot 4) (it := .var 2) (ifs := some (.and (.op .isin [(.var 4), (.var 3)]) (.op .isin [(.var 4), (.call 4 [(.var 1), (.comp [5, 6] 0 (.var 6) (.tup [(.slot 5), (.slot 6)]) (.var 1) (some (.op .eq [(.var 5), (.var 4)])))])]))) (ρ := [some (enc m, 0), some (enc R, 0), some (enc ([] : List Int), 0), some (enc ([] : List Int), 0), none, none, none]) (l := ([] : List Int)) (enc : Int → Val) (enc : Int → Val) (fun _ => true) (fun v => v) (fun _ => []) rfl (fun _ z => (nomatch z)) (fun _ z => (nomatch z)) (fun _ z => (nomatch z)) (by simp)
  exact this
/-- a drawing as it is asked: sorted, no rounds -/
structure Good (d : Dr) : Prop where
  m1 : 1 ≤ d.a
  m12 : d.a ≤ 12
  arr : InP d.a d.b
  tie : InP d.a d.c
  arrS : d.b.Pairwise ltP
  tieS : d.c.Pairwise ltP
  tieU : ∀ p ∈ d.c, p.1 < p.2
  rank : ∃ (rank : Int → Nat) (top : Nat), ∀ p ∈ d.b, rank p.1 < rank p.2 ∧ rank p.2 ≤ top
  zb : d.b.length ≤ 1000
  zc : d.c.length ≤ 1000
theorem Good.tame {d : Dr} (g : Good d) : Tame d := ⟨by have := g.m12; omega, g.arr, g.tie, g.zb, g.zc⟩
theorem ev_check_drawing (h0 : Pr 0 = some k_first_bad) (h1 : Pr 1 = some k_rest_of) (h2 : Pr 2 = some k_on_rounds) (h : Pr 3 = some k_check_drawing) {d : Dr} (g : Good d) : evalD Pr (n + 3) 3 [enc d] = .ok .none := by
  obtain ⟨rank, top, hr⟩ := g.rank
  have m1 := g.m1
  have m12 := g.m12
  have zb := g.zb
  have e1 := ev_first_bad (n := n + 1) h0 (both := false) g.arr (fun p hp z => by have := (hr p hp).1; rw [z] at this; omega) (fun z => (nomatch z)) g.arrS
  have e2 := ev_first_bad (n := n + 1) h0 (both := true) g.tie (fun p hp z => by have := g.tieU p hp; omega) (fun _ p hp => by have := g.tieU p hp; omega) g.tieS
  have e3 := ev_on_rounds (n := n) h1 h2 (m := d.a) (R := d.b) (by omega) (by omega) (by omega) rank top hr
  let ρ1 : Val → Val → Env := fun f r => [some (enc d, 0), some (f, 0), some (r, 0), some (enc d.a, 0), some (enc d.b, 0), some (enc d.c, 0)]
  let ρ0 : Env := [some (enc d, 0), none, none, some (enc d.a, 0), some (enc d.b, 0), some (enc d.c, 0)]
  let ρn : Env := [some (enc d, 0), some (.none, 0), none, some (enc d.a, 0), some (enc d.b, 0), some (enc d.c, 0)]
  have c1 : CB (evalD Pr (n + 2)) (.op .not [(.chain .le .le (.cst (.int 1)) (.var 3) (.cst (.int 12)))]) ρ0 false := by
    have := cb_not (cb_chain (cf := evalD Pr (n + 2)) (a := .cst (.int 1)) (b := .var 3) (c := .cst (.int 12)) (ρ := ρ0) (i := 1) (j := d.a) (l := 12) (o := .le) (o' := .le) (p := decide (1 ≤ d.a)) (q := decide (d.a ≤ 12)) rfl rfl rfl rfl rfl)
    rw [decide_eq_true m1, decide_eq_true m12] at this
    exact this
  refine evalD_nx (ρ := ρ1 .none (enc ([] : List Int))) h rfl (ss_asg (v := enc d) (ρ' := ρ0) rfl rfl (ss_ifF c1 ?_))
  show evalSs (evalD Pr (n + 2)) _ ρ0 = _
  refine ss_set (v := .none) (ev_call (evs_cons (v := enc d.a) rfl (evs_cons (v := enc d.b) rfl (evs_cons (v := .bool false) rfl evs_nil))) e1) (ss_ifF (ev1 (o := .notNone) (x := .none) rfl rfl) ?_)
  show evalSs (evalD Pr (n + 2)) _ ρn = _
  refine ss_set (v := .none) (ev_call (evs_cons (v := enc d.a) rfl (evs_cons (v := enc d.c) rfl (evs_cons (v := .bool true) rfl evs_nil))) e2) (ss_ifF (ev1 (o := .notNone) (x := .none) rfl rfl) ?_)
  show evalSs (evalD Pr (n + 2)) _ ρn = _
  refine ss_set (v := enc ([] : List Int)) (ev_call (evs_cons (v := enc d.a) rfl (evs_cons (v := enc d.b) rfl evs_nil)) e3) (ss_ifF (cb_gt (i := 0) (j := 0) (ev_len (l := []) rfl) rfl) rfl)
end
end VL

/-! plain side, part 10: needless and the law's needless -/
namespace VL
open PySem
open Enc
/-- a question as it is asked -/
structure Ask (d : Dr) (deed asked known : List Int) : Prop where
  good : Good d
  i1 : InR d.a deed
  i2 : InR d.a asked
  i3 : InR d.a known
  s1 : deed.Pairwise (· < ·)
  s2 : asked.Pairwise (· < ·)
  s3 : known.Pairwise (· < ·)
  d12 : ∀ x ∈ deed, x ∉ asked
  d13 : ∀ x ∈ deed, x ∉ known
  d23 : ∀ x ∈ asked, x ∉ known
  ne : asked ≠ []
theorem intsOf_ints : ∀ is : List Int, intsOf (is.map .int) = some is
  | [] => rfl
  | i :: is => by
    show (intsOf (is.map .int)).map (i :: ·) = _
    rw [intsOf_ints is]
    rfl
theorem den_count (xs : List Int) (k : Int) : den .count [enc xs, .int k] = .ok (.int (xs.count k : Nat)) := by
  show (match intsOf (xs.map .int) with
    | some is => Res.ok (PyData.int (is.count k : Nat))
    | none => Res.bad) = _
  rw [intsOf_ints]
section
variable {Pr : Prog} {n : Nat} {d : Dr} {deed asked known : List Int}
theorem Ask.len (q : Ask d deed asked known) : deed.length ≤ 12 ∧ asked.length ≤ 12 ∧ known.length ≤ 12 := by
  have h1 := below_len (nodup_of_sorted q.s1) q.i1
  have h2 := below_len (nodup_of_sorted q.s2) q.i2
  have h3 := below_len (nodup_of_sorted q.s3) q.i3
  have := q.good.m12
  omega
theorem Ask.every (q : Ask d deed asked known) : (deed ++ asked ++ known).Nodup :=
  List.nodup_append.mpr ⟨List.nodup_append.mpr ⟨nodup_of_sorted q.s1, nodup_of_sorted q.s2, fun x hx y hy e => q.d12 x hx (e ▸ hy)⟩, nodup_of_sorted q.s3, fun x hx y hy e => (List.mem_append.mp hx).elim (fun h => q.d13 x h (e ▸ hy)) fun h => q.d23 x h (e ▸ hy)⟩
theorem ev_check_all (h0 : Pr 0 = some k_first_bad) (h1 : Pr 1 = some k_rest_of) (h2 : Pr 2 = some k_on_rounds) (h3 : Pr 3 = some k_check_drawing) (h12 : Pr 12 = some k_check_set) (h : Pr 581 = some k_check_all) (q : Ask d deed asked known) :
    evalD Pr (n + 4) 581 [enc d, enc deed, enc asked, enc known] = .ok .none := by
  obtain ⟨l1, l2, l3⟩ := q.len
  have m12 := q.good.m12
  have m1 := q.good.m1
  have e1 := ev_check_drawing (n := n) h0 h1 h2 h3 q.good
  let E : Unit → Option (Val × Nat) → Env := fun _ j => [some (enc d, 0), some (enc deed, 0), some (enc asked, 0), some (enc known, 0), j, none, none, none]
  obtain ⟨_, j, w, _⟩ := s_for (cf := evalD Pr (n + 3)) (ρ := E () none) (t := .slot 4) (it := .op (.lst 0 [false, false, false]) [(.var 1), (.var 2), (.var 3)]) (body := [.expr (.call 12 [(.op .idx [(.var 0), (.cst (.int 0))]), (.var 4)])]) (l := [deed, asked, known]) (enc : List Int → Val)
    (seq_of (ev_op (evs_cons (v := enc deed) rfl (evs_cons (v := enc asked) rfl (evs_cons (v := enc known) rfl evs_nil))) (den_lst (xs := [enc deed, enc asked, enc known]) rfl (by simp)))) E (fun _ _ => True) () none rfl trivial (fun pre x post s j hl _ => by
      have hx : InR d.a x ∧ x.Pairwise (· < ·) := by
        have : x ∈ [deed, asked, known] := by rw [hl]; exact List.mem_append_right _ List.mem_cons_self
        simp only [List.mem_cons, List.not_mem_nil, or_false] at this
        rcases this with rfl | rfl | rfl
        · exact ⟨q.i1, q.s1⟩
        · exact ⟨q.i2, q.s2⟩
        · exact ⟨q.i3, q.s3⟩
      refine ⟨(), some (enc x, 0), E () (some (enc x, 0)), rfl, ?_, trivial⟩
      exact ss_expr (ev_call (evs_cons (v := enc d.a) rfl (evs_cons (v := enc x) rfl evs_nil)) (ev_check_set (n := n + 2) h12 hx.1 hx.2)) rfl)
  let ρ5 : Env := [some (enc d, 0), some (enc deed, 0), some (enc asked, 0), some (enc known, 0), j, some (enc (deed ++ asked ++ known), 0), none, none]
  have a1 := den_addL (xs := deed.map (enc : Int → Val)) (ys := asked.map enc) (by simp only [List.length_map]; omega)
  have a2 := den_addL (xs := (deed ++ asked).map (enc : Int → Val)) (ys := known.map enc) (by simp only [List.length_map, List.length_append]; omega)
  rw [← List.map_append] at a1 a2
  have c := comp_eq (cf := evalD Pr (n + 3)) (k := 0) (d := 0) (w := [7]) (elt := .var 7) (t := .slot 7) (it := .op .range [(.op .idx [(.var 0), (.cst (.int 0))])]) (ifs := some (.op .gt [(.op .count [(.var 5), (.var 7)]), (.cst (.int 1))])) (ρ := ρ5) (l := upto d.a) (enc : Int → Val) (enc : Int → Val) (fun v => decide ((1 : Int) < (((deed ++ asked ++ known).count v : Nat) : Int))) (fun v => v)
    (fun v => [some (enc d, 0), some (enc deed, 0), some (enc asked, 0), some (enc known, 0), j, some (enc (deed ++ asked ++ known), 0), none, some (enc v, 0)]) (ev_range1 (m := d.a) rfl (by omega) (by omega)) (fun _ _ => rfl) (fun v _ => evalO_of (cb_gt (ev2 (o := .count) (x := enc (deed ++ asked ++ known)) (y := enc v) rfl rfl (den_count _ v)) rfl)) (fun _ _ _ => rfl) (by rw [upto_length]; omega)
  rw [List.map_id'] at c
  have none2 : (upto d.a).filter (fun v => decide ((1 : Int) < (((deed ++ asked ++ known).count v : Nat) : Int))) = [] := by
    rw [List.filter_eq_nil_iff]
    intro v _ z
    have := of_decide_eq_true z
    have := List.nodup_iff_count.mp q.every v
    omega
  rw [none2] at c
  refine evalD_nx (ρ := [some (enc d, 0), some (enc deed, 0), some (enc asked, 0), some (enc known, 0), j, some (enc (deed ++ asked ++ known), 0), some (enc ([] : List Int), 0), none]) h rfl (ss_expr (ev_call (evs_cons (v := enc d) rfl evs_nil) e1) (ss_cons w (ss_set (v := enc (deed ++ asked ++ known)) (ev2 (x := enc (deed ++ asked)) (y := enc known) (ev2 (x := enc deed) (y := enc asked) rfl rfl a1) rfl a2) (ss_set (v := enc ([] : List Int)) c (ss_cons (ρ' := [some (enc d, 0), some (enc deed, 0), some (enc asked, 0), some (enc known, 0), j, some (enc (deed ++ asked ++ known), 0), some (enc ([] : List Int), 0), none]) rfl ?_)))))
  refine ss_ifF (cb_gt (i := 0) (j := 0) (ev_len (l := []) rfl) rfl) ?_
  have hne : ¬ (((asked.length : Nat) : Int) = 0) := fun z => q.ne (List.length_eq_zero_iff.mp (by omega))
  have c2 := ev_len (cf := evalD Pr (n + 3)) (k := 9) (a := .var 2) (ρ := [some (enc d, 0), some (enc deed, 0), some (enc asked, 0), some (enc known, 0), j, some (enc (deed ++ asked ++ known), 0), some (enc ([] : List Int), 0), none]) (l := asked.map enc) rfl
  rw [List.length_map] at c2
  have c3 := cb_eq (b := .cst (.int 0)) (α := Int) (y := 0) c2 rfl
  rw [decide_eq_false hne] at c3
  exact ss_ifF c3 rfl
def rest (known : List Int) (v : Int) : List Int := known.filter fun w => !decide (w = v)
theorem mem_rest {v x : Int} : x ∈ rest known v ↔ x ∈ known ∧ x ≠ v := by
  unfold rest
  rw [List.mem_filter]
  simp
end
end VL

/-! plain side, part 11: the law's draws, mixes, orders -/
namespace VL
open PySem
open Enc
theorem log2_small {n : Nat} (h : n < 2 ^ 64) : n.log2 < 64 := by
  by_cases q : n = 0
  · rw [q]
    decide
  · exact (Nat.log2_lt q).mpr h
theorem mulOk_small {a b : Int} (ha : a.natAbs < 2 ^ 64) (hb : b.natAbs < 2 ^ 64) : mulOk a b = true := by
  unfold mulOk
  rw [decide_eq_true_eq]
  have := log2_small ha
  have := log2_small hb
  omega
theorem den_mul {a b : Int} (ha : a.natAbs < 2 ^ 64) (hb : b.natAbs < 2 ^ 64) : den .mul [.int a, .int b] = .ok (.int (a * b)) := by
  show Res.guard (mulOk a b) _ = _
  rw [mulOk_small ha hb]
  rfl
theorem den_mod {a b : Int} (hb : 0 < b) : den .mod [.int a, .int b] = .ok (.int (a % b)) := by
  show Res.guard (decide (0 < b)) _ = _
  rw [decide_eq_true hb]
  rfl
theorem den_fdiv {a b : Int} (hb : 0 < b) (h2 : b < 1073741824) : den .fdiv [.int a, .int b] = .ok (.int (a / b)) := by
  show Res.guard (decide (0 < b) && decide (b < 1073741824)) _ = _
  rw [decide_eq_true hb, decide_eq_true h2]
  rfl
def Byt (l : List Int) : Prop := ∀ x ∈ l, 0 ≤ x ∧ x < 65536
theorem s_if' {cf : Nat → List Val → Res Val} {ρ ρ' : Env} {c : E} {a b ss : List S} {t : Bool} {r : Res Out} (e : evalE cf 9 c ρ = .ok (.bool t)) (h : (if t then evalSs cf a ρ else evalSs cf b ρ) = .ok (.nx ρ')) (h2 : evalSs cf ss ρ' = r) : evalSs cf (.iff c a b :: ss) ρ = r := ss_cons (s_if e h) h2
section
variable {Pr : Prog} {n : Nat}
theorem ev_draws (h : Pr 5 = some k__law_draws) {ns : List Int} (hl : ns.length ≤ 63) : ∃ ds : List Int, evalD Pr (n + 1) 5 [enc ns] = .ok (enc ds) ∧ Byt ds ∧ ds.length ≤ 4000 := by
  let cf := evalD Pr n
  let J := Option (Val × Nat) × Option (Val × Nat) × Option (Val × Nat) × Option (Val × Nat)
  let E : List Int → J → Env := fun s j => [some (enc ns, 0), some (enc s, 1), j.1, j.2.1, j.2.2.1, j.2.2.2]
  have hm : den .min [.int 63, .int ((ns.length : Nat) : Int)] = .ok (.int ((ns.length : Nat) : Int)) := by
    show Res.ok (PyData.int (if ((ns.length : Nat) : Int) < 63 then ((ns.length : Nat) : Int) else 63)) = _
    congr 2
    split <;> omega
  obtain ⟨s, j, w, ⟨hb, hlen⟩⟩ := s_for (cf := cf) (ρ := E [] (none, none, none, none)) (t := .slot 2) (it := .op .range [(.op .min [(.cst (.int 63)), (.op .len [(.var 0)])])]) (body := [.set 3 (.op .abs [(.op .idx [(.var 0), (.var 2)])]) 0, .iff (.op .ge [(.var 3), (.op .pow [(.cst (.int 10)), (.cst (.int 18))])]) [.for (.slot 4) (.op .range [(.cst (.int 60))]) [.iff (.op .gt [(.var 3), (.cst (.int 0))]) [.app 1 (.op .mod [(.op .int [(.var 3)]), (.cst (.int 65536))]) 0, .set 3 (.op .fdiv [(.var 3), (.cst (.int 65536))]) 0] []]] [.set 5 (.op .mod [(.op .int [(.op .add [(.op .mul [(.var 3), (.cst (.int 48271))]), (.op .mul [(.op .add [(.var 2), (.cst (.int 1))]), (.cst (.int 69621))])])]), (.cst (.int 2147483647))]) 0, .set 5 (.op .mod [(.op .int [(.op .add [(.op .add [(.op .mul [(.var 5), (.cst (.int 16807))]), (.op .mul [(.cst (.int 11)), (.var 2)])]), (.cst (.int 5))])]), (.cst (.int 2147483629))]) 0, .app 1 (.op .mod [(.op .int [(.var 5)]), (.cst (.int 65536))]) 0, .app 1 (.op .mod [(.op .int [(.op .fdiv [(.var 5), (.cst (.int 65536))])]), (.cst (.int 32768))]) 0]])
    (l := upto ((ns.length : Nat) : Int)) (enc : Int → Val) (ev_range1 (ev2 (x := .int 63) (y := .int ((ns.length : Nat) : Int)) rfl (by
      have := ev_len (cf := cf) (k := 9) (a := .var 0) (ρ := E [] (none, none, none, none)) (l := ns.map enc) rfl
      rw [List.length_map] at this
      exact this) hm) (by omega) (by omega)) E (fun pre s => Byt s ∧ s.length ≤ pre.length * 60) [] (none, none, none, none) rfl ⟨fun _ z => (nomatch z), by simp⟩ (fun pre k post s j hl2 hs => by
      obtain ⟨hb, hlen⟩ := hs
      have kU : k ∈ upto ((ns.length : Nat) : Int) := by rw [hl2]; exact List.mem_append_right _ List.mem_cons_self
      obtain ⟨k0, k1⟩ := mem_upto.mp kU
      have lpre : pre.length ≤ 63 := by
        have := congrArg List.length hl2
        rw [upto_length, List.length_append, List.length_cons] at this
        omega
      obtain ⟨kn, rfl⟩ : ∃ kn : Nat, k = (kn : Int) := ⟨k.toNat, by omega⟩
      have hk : kn < ns.length := by omega
      have hi : evalE cf 9 (.op .idx [(.var 0), (.var 2)]) (E s (some (enc ((kn : Nat) : Int), 0), j.2.1, j.2.2.1, j.2.2.2)) = .ok (.int ns[kn]) := ev2 (x := enc ns) (y := .int ((kn : Nat) : Int)) rfl rfl (den_idx (by
        rw [List.getElem?_map, List.getElem?_eq_getElem hk]
        rfl))
      let r : Int := if ns[kn] < 0 then -ns[kn] else ns[kn]
      have r0 : 0 ≤ r := by
        show 0 ≤ (if ns[kn] < 0 then -ns[kn] else ns[kn])
        split <;> omega
      have hpow : evalE cf 9 (.op .pow [(.cst (.int 10)), (.cst (.int 18))]) (E s (some (enc ((kn : Nat) : Int), 0), some (.int r, 0), j.2.2.1, j.2.2.2)) = .ok (.int 1000000000000000000) := by
        refine ev2 (x := .int 10) (y := .int 18) rfl rfl ?_
        show Res.guard (expOk 10 18) (Res.ok (PyData.int ((10 : Int) ^ (18 : Int).toNat))) = _
        have : expOk 10 18 = true := by decide
        rw [this]
        rfl
      have hc := cb_ge (cf := cf) (ρ := E s (some (enc ((kn : Nat) : Int), 0), some (.int r, 0), j.2.2.1, j.2.2.2)) (a := .var 3) (b := .op .pow [(.cst (.int 10)), (.cst (.int 18))]) (i := r) (j := 1000000000000000000) rfl hpow
      by_cases big : (1000000000000000000 : Int) ≤ r
      · rw [decide_eq_true big] at hc
        let E2 : List Int × Int → Option (Val × Nat) → Env := fun q j4 => E q.1 (some (enc ((kn : Nat) : Int), 0), some (.int q.2, 0), j4, j.2.2.2)
        obtain ⟨q, j4, w2, ⟨b2, n2⟩⟩ := s_for (cf := cf) (ρ := E2 (s, r) j.2.2.1) (t := .slot 4) (it := .op .range [(.cst (.int 60))]) (body := [.iff (.op .gt [(.var 3), (.cst (.int 0))]) [.app 1 (.op .mod [(.op .int [(.var 3)]), (.cst (.int 65536))]) 0, .set 3 (.op .fdiv [(.var 3), (.cst (.int 65536))]) 0] []]) (l := upto 60) (enc : Int → Val) (ev_range1 rfl (by decide) (by decide)) E2 (fun pre q => Byt q.1 ∧ q.1.length ≤ s.length + pre.length) (s, r) j.2.2.1 rfl ⟨hb, by simp⟩ (fun pre2 t post2 q j4 hl3 hs2 => by
          obtain ⟨b2, n2⟩ := hs2
          have lp2 : pre2.length ≤ 60 := by
            have := congrArg List.length hl3
            rw [upto_length, List.length_append, List.length_cons] at this
            omega
          have hc2 := cb_gt (cf := cf) (ρ := E2 q (some (enc t, 0))) (a := .var 3) (b := .cst (.int 0)) (i := q.2) (j := 0) rfl rfl
          by_cases pos : 0 < q.2
          · rw [decide_eq_true pos] at hc2
            refine ⟨(q.1 ++ [q.2 % 65536], q.2 / 65536), some (enc t, 0), E2 q (some (enc t, 0)), rfl, s_if' hc2 (ρ' := E2 (q.1 ++ [q.2 % 65536], q.2 / 65536) (some (enc t, 0))) ?_ rfl, fun x hx => (List.mem_append.mp hx).elim (b2 x) fun hx => ?_, by simp only [List.length_append, List.length_cons, List.length_nil]; omega⟩
            · rw [if_pos rfl]
              refine ss_app (v := .int (q.2 % 65536)) (xs := q.1.map enc) (t := 1) (ev2 (x := .int q.2) (y := .int 65536) (ev1 (o := .int) (x := .int q.2) rfl rfl) rfl (den_mod (by decide))) rfl (by rw [List.length_map]; omega) (ss_set (v := .int (q.2 / 65536)) (ev2 (x := .int q.2) (y := .int 65536) rfl rfl (den_fdiv (by decide) (by decide))) ?_)
              show Res.ok (Out.nx [some (enc ns, 0), some (.list (q.1.map enc ++ [.int (q.2 % 65536)]), 1), some (enc ((kn : Nat) : Int), 0), some (.int (q.2 / 65536), 0), some (enc t, 0), j.2.2.2]) = Res.ok (Out.nx [some (enc ns, 0), some (.list ((q.1 ++ [q.2 % 65536]).map enc), 1), some (enc ((kn : Nat) : Int), 0), some (.int (q.2 / 65536), 0), some (enc t, 0), j.2.2.2])
              rw [List.map_append]
              rfl
            · rcases List.mem_cons.mp hx with z | z
              · rw [z]
                omega
              · cases z
          · rw [decide_eq_false pos] at hc2
            exact ⟨q, some (enc t, 0), E2 q (some (enc t, 0)), rfl, s_if' hc2 (ρ' := E2 q (some (enc t, 0))) rfl rfl, b2, by rw [List.length_append]; omega⟩)
        refine ⟨q.1, (some (enc ((kn : Nat) : Int), 0), some (.int q.2, 0), j4, j.2.2.2), E s (some (enc ((kn : Nat) : Int), 0), j.2.1, j.2.2.1, j.2.2.2), rfl, ss_set (v := .int r) (ev1 (o := .abs) hi rfl) (s_if' hc (ρ' := E2 q j4) ?_ rfl), b2, ?_⟩
        · rw [if_pos rfl]
          exact ss_cons w2 rfl
        · rw [upto_length] at n2
          rw [List.length_append, List.length_cons, List.length_nil]
          have : (60 : Int).toNat = 60 := rfl
          omega
      · rw [decide_eq_false big] at hc
        let m1 : Int := (r * 48271 + ((kn : Int) + 1) * 69621) % 2147483647
        let m2 : Int := (m1 * 16807 + 11 * (kn : Int) + 5) % 2147483629
        have b1 : 0 ≤ m1 ∧ m1 < 2147483647 := ⟨Int.emod_nonneg _ (by decide), Int.emod_lt_of_pos _ (by decide)⟩
        have b2 : 0 ≤ m2 ∧ m2 < 2147483629 := ⟨Int.emod_nonneg _ (by decide), Int.emod_lt_of_pos _ (by decide)⟩
        refine ⟨s ++ [m2 % 65536] ++ [m2 / 65536 % 32768], (some (enc ((kn : Nat) : Int), 0), some (.int r, 0), j.2.2.1, some (.int m2, 0)), E s (some (enc ((kn : Nat) : Int), 0), j.2.1, j.2.2.1, j.2.2.2), rfl, ss_set (v := .int r) (ev1 (o := .abs) hi rfl) (s_if' hc (ρ' := E (s ++ [m2 % 65536] ++ [m2 / 65536 % 32768]) (some (enc ((kn : Nat) : Int), 0), some (.int r, 0), j.2.2.1, some (.int m2, 0))) ?_ rfl), fun x hx => ?_, ?_⟩
        · rw [if_neg Bool.false_ne_true]
          refine ss_set (v := .int m1) (ev2 (x := .int (r * 48271 + ((kn : Int) + 1) * 69621)) (y := .int 2147483647) (ev1 (o := .int) (x := .int (r * 48271 + ((kn : Int) + 1) * 69621)) (ev2 (x := .int (r * 48271)) (y := .int (((kn : Int) + 1) * 69621)) (ev2 (x := .int r) (y := .int 48271) rfl rfl (den_mul (by omega) (by decide))) (ev2 (x := .int ((kn : Int) + 1)) (y := .int 69621) (ev2 (x := .int (kn : Int)) (y := .int 1) rfl rfl rfl) rfl (den_mul (by omega) (by decide))) rfl) rfl) rfl (den_mod (by decide))) ?_
          refine ss_set (v := .int m2) (ev2 (x := .int (m1 * 16807 + 11 * (kn : Int) + 5)) (y := .int 2147483629) (ev1 (o := .int) (x := .int (m1 * 16807 + 11 * (kn : Int) + 5)) (ev2 (x := .int (m1 * 16807 + 11 * (kn : Int))) (y := .int 5) (ev2 (x := .int (m1 * 16807)) (y := .int (11 * (kn : Int))) (ev2 (x := .int m1) (y := .int 16807) rfl rfl (den_mul (by omega) (by decide))) (ev2 (x := .int 11) (y := .int (kn : Int)) rfl rfl (den_mul (by decide) (by omega))) rfl) rfl rfl) rfl) rfl (den_mod (by decide))) ?_
          refine ss_app (v := .int (m2 % 65536)) (xs := s.map enc) (t := 1) (ev2 (x := .int m2) (y := .int 65536) (ev1 (o := .int) (x := .int m2) rfl rfl) rfl (den_mod (by decide))) rfl (by rw [List.length_map]; omega) ?_
          refine ss_app (v := .int (m2 / 65536 % 32768)) (xs := s.map enc ++ [.int (m2 % 65536)]) (t := 1) (ev2 (x := .int (m2 / 65536)) (y := .int 32768) (ev1 (o := .int) (x := .int (m2 / 65536)) (ev2 (x := .int m2) (y := .int 65536) rfl rfl (den_fdiv (by decide) (by decide))) rfl) rfl (den_mod (by decide))) rfl (by rw [List.length_append, List.length_map]; simp only [List.length_cons, List.length_nil]; omega) ?_
          show Res.ok (Out.nx [some (enc ns, 0), some (.list (s.map enc ++ [.int (m2 % 65536)] ++ [.int (m2 / 65536 % 32768)]), 1), some (enc ((kn : Nat) : Int), 0), some (.int r, 0), j.2.2.1, some (.int m2, 0)]) = Res.ok (Out.nx [some (enc ns, 0), some (.list ((s ++ [m2 % 65536] ++ [m2 / 65536 % 32768]).map enc), 1), some (enc ((kn : Nat) : Int), 0), some (.int r, 0), j.2.2.1, some (.int m2, 0)])
          rw [List.map_append, List.map_append]
          rfl
        · rcases List.mem_append.mp hx with hx | hx
          · rcases List.mem_append.mp hx with hx | hx
            · exact hb x hx
            · rcases List.mem_cons.mp hx with z | z
              · rw [z]
                omega
              · cases z
          · rcases List.mem_cons.mp hx with z | z
            · rw [z]
              omega
            · cases z
        · simp only [List.length_append, List.length_cons, List.length_nil]
          omega)
  refine ⟨s, evalD_rt h rfl (ss_set (v := enc ([] : List Int)) rfl (ss_cons w rfl)), hb, ?_⟩
  rw [upto_length] at hlen
  omega
end
end VL

/-! plain side, part 12: mixes, orders, three sets -/
namespace VL
open PySem
open Enc
/-- the draws, as they come out -/
structure Drawn (ds : List Int) : Prop where
  byt : Byt ds
  len : ds.length ≤ 4000
section
variable {Pr : Prog} {n : Nat}
theorem ev_mix (h : Pr 6 = some k__law_mix) {ds : List Int} (D : Drawn ds) {k m : Int} (k0 : 0 ≤ k) (k1 : k ≤ 1000000) (m0 : 0 < m) : ∃ x : Int, evalD Pr (n + 1) 6 [enc ds, .int k, .int m] = .ok (.int x) ∧ 0 ≤ x ∧ x < m := by
  let cf := evalD Pr n
  let L : Int := ((ds.length : Nat) : Int)
  have L0 : 0 ≤ L := by omega
  have L1 : L ≤ 4000 := by have := D.len; omega
  have lenv : ∀ (v : Option (Val × Nat)) (q : Nat), evalE cf q (.op .len [.var 0]) [some (enc ds, 0), some (.int k, 0), some (.int m, 0), v] = .ok (.int L) := fun v q => by
    have := ev_len (cf := cf) (k := q) (a := .var 0) (ρ := [some (enc ds, 0), some (.int k, 0), some (.int m, 0), v]) (l := ds.map enc) rfl
    rw [List.length_map] at this
    exact this
  have hmod : ∀ x : Int, 0 ≤ x % m ∧ x % m < m := fun x => ⟨Int.emod_nonneg _ (by omega), Int.emod_lt_of_pos _ m0⟩
  -- the value told
  have step : ∃ v : Int, (0 ≤ v ∧ v < 65536) ∧ ∀ {ss : List S} {r : Res Out}, evalSs cf ss [some (enc ds, 0), some (.int k, 0), some (.int m, 0), some (.int v, 0)] = r →
      evalSs cf (.set 3 (.cst (.int 0)) 0 :: .iff (.op .gt [(.op .len [(.var 0)]), (.cst (.int 0))]) [.set 3 (.op .idx [(.var 0), (.op .mod [(.op .int [(.var 1)]), (.op .len [(.var 0)])])]) 0] [] :: ss) (startE k__law_mix [enc ds, .int k, .int m]) = r := by
    by_cases q : 0 < L
    · let i : Int := k % L
      have i0 : 0 ≤ i := Int.emod_nonneg _ (by omega)
      have i1 : i < L := Int.emod_lt_of_pos _ q
      obtain ⟨j, hj⟩ : ∃ j : Nat, i = (j : Int) := ⟨i.toNat, by omega⟩
      have hjl : j < ds.length := by omega
      refine ⟨ds[j], D.byt _ (List.getElem_mem hjl), fun {ss r} hh => ss_set (v := .int 0) rfl (s_if' (t := true) (ρ' := [some (enc ds, 0), some (.int k, 0), some (.int m, 0), some (.int ds[j], 0)]) ?_ ?_ hh)⟩
      · have := cb_gt (lenv (some (.int 0, 0)) 9) (b := .cst (.int 0)) (j := 0) rfl
        rw [decide_eq_true q] at this
        exact this
      · rw [if_pos rfl]
        refine ss_set (v := .int ds[j]) (ev2 (x := enc ds) (y := .int ((j : Nat) : Int)) rfl ?_ (den_idx (by
          rw [List.getElem?_map, List.getElem?_eq_getElem hjl]
          rfl))) rfl
        rw [← hj]
        exact ev2 (x := .int k) (y := .int L) (ev1 (o := .int) (x := .int k) rfl rfl) (lenv _ _) (den_mod q)
    · refine ⟨0, by decide, fun {ss r} hh => ss_set (v := .int 0) rfl (s_if' (t := false) (ρ' := [some (enc ds, 0), some (.int k, 0), some (.int m, 0), some (.int 0, 0)]) ?_ rfl hh)⟩
      have := cb_gt (lenv (some (.int 0, 0)) 9) (b := .cst (.int 0)) (j := 0) rfl
      rw [decide_eq_false q] at this
      exact this
  obtain ⟨v, ⟨v0, v1⟩, go⟩ := step
  let ρ1 : Env := [some (enc ds, 0), some (.int k, 0), some (.int m, 0), some (.int v, 0)]
  have hc := cb_lt (cf := cf) (ρ := ρ1) (a := .var 1) (i := k) rfl (lenv (some (.int v, 0)) 9)
  by_cases q : k < L
  · rw [decide_eq_true q] at hc
    refine ⟨v % m, evalD_rt h rfl (go (ss_ifT hc ?_)), hmod v⟩
    have : evalSs cf [.ret (.op .mod [(.op .int [(.var 3)]), (.var 2)])] ρ1 = .ok (.rt (.int (v % m))) := ss_ret (ev2 (x := .int v) (y := .int m) (ev1 (o := .int) (x := .int v) rfl rfl) rfl (den_mod m0))
    rw [this]
    rfl
  · rw [decide_eq_false q] at hc
    let z : Int := (v * 7919 + k * 104729) / 3
    refine ⟨z % m, evalD_rt h rfl (go (ss_ifF hc ?_)), hmod z⟩
    show evalSs cf [.ret _] ρ1 = _
    refine ss_ret (ev2 (x := .int z) (y := .int m) (ev1 (o := .int) (x := .int z) (ev2 (x := .int (v * 7919 + k * 104729)) (y := .int 3) (ev1 (o := .int) (x := .int (v * 7919 + k * 104729)) (ev2 (x := .int (v * 7919)) (y := .int (k * 104729)) (ev2 (x := .int v) (y := .int 7919) rfl rfl (den_mul (by omega) (by decide))) (ev2 (x := .int k) (y := .int 104729) rfl rfl (den_mul (by omega) (by decide))) rfl) rfl) rfl (den_fdiv (by decide) (by decide))) rfl) rfl (den_mod m0))
theorem cut_lo {xs : List Val} {p : Nat} (h : p ≤ xs.length) : den (.slice true false) [.list xs, .int (p : Nat)] = .ok (.list (xs.drop p)) := by
  show Res.ok (PyData.list (cut xs (some ((p : Nat) : Int)) none)) = _
  congr 2
  unfold cut
  rw [HT.sIx_nat, HT.sIx_none, Nat.min_eq_left h]
  exact List.take_of_length_le (by rw [List.length_drop]; omega)
theorem cut_hi {xs : List Val} {p : Nat} (h : p ≤ xs.length) : den (.slice false true) [.list xs, .int (p : Nat)] = .ok (.list (xs.take p)) := by
  show Res.ok (PyData.list (cut xs none (some ((p : Nat) : Int)))) = _
  congr 2
  unfold cut
  rw [HT.sIx_nat, HT.sIx_none, Nat.min_eq_left h]
  simp
theorem ev_order (h6 : Pr 6 = some k__law_mix) (h : Pr 494 = some k__law_order_v3) {ds : List Int} (D : Drawn ds) {k m : Int} (k0 : 0 ≤ k) (k1 : k ≤ 900000) (m0 : 0 ≤ m) (m1 : m ≤ 60) :
    ∃ o : List Int, evalD Pr (n + 2) 494 [enc ds, .int k, .int m] = .ok (enc o) ∧ o.Perm (upto m) := by
  let cf := evalD Pr (n + 1)
  let E : List Int → (Option (Val × Nat) × Option (Val × Nat)) → Env := fun s j => [some (enc ds, 0), some (.int k, 0), some (.int m, 0), some (enc s, 0), j.1, j.2]
  obtain ⟨s, j, w, hs⟩ := s_for (cf := cf) (ρ := E [] (none, none)) (t := .slot 4) (it := .op .range [(.var 2)]) (body := [.set 5 (.call 6 [(.var 0), (.op .add [(.var 1), (.var 4)]), (.op .add [(.op .len [(.var 3)]), (.cst (.int 1))])]) 0, .set 3 (.op .add [(.op .add [(.op (.slice false true) [(.var 3), (.var 5)]), (.op (.lst 0 [false]) [(.var 4)])]), (.op (.slice true false) [(.var 3), (.var 5)])]) 0]) (l := upto m) (enc : Int → Val) (ev_range1 (m := m) rfl (by omega) (by omega)) E (fun pre s => s.Perm pre) [] (none, none) rfl (List.Perm.refl []) (fun pre v post s j hl hs => by
    have vU : v ∈ upto m := by rw [hl]; exact List.mem_append_right _ List.mem_cons_self
    obtain ⟨v0, v1⟩ := mem_upto.mp vU
    have ls : s.length ≤ 60 := by
      rw [hs.length_eq]
      have := congrArg List.length hl
      rw [upto_length, List.length_append] at this
      omega
    obtain ⟨x, e1, x0, x1⟩ := ev_mix (n := n) h6 D (k := k + v) (m := ((s.length : Nat) : Int) + 1) (by omega) (by omega) (by omega)
    obtain ⟨p, hp⟩ : ∃ p : Nat, x = (p : Int) := ⟨x.toNat, by omega⟩
    subst hp
    have hps : p ≤ s.length := by omega
    have hpl : p ≤ (s.map (enc : Int → Val)).length := by rw [List.length_map]; exact hps
    let s' := s.take p ++ [v] ++ s.drop p
    have ltake : (s.take p).length ≤ 60 := by rw [List.length_take]; omega
    have ldrop : (s.drop p).length ≤ 60 := by rw [List.length_drop]; omega
    have a1 := den_addL (xs := (s.take p).map (enc : Int → Val)) (ys := [v].map enc) (by simp only [List.length_map, List.length_cons, List.length_nil]; omega)
    have a2 := den_addL (xs := (s.take p ++ [v]).map (enc : Int → Val)) (ys := (s.drop p).map enc) (by simp only [List.length_map, List.length_append, List.length_cons, List.length_nil]; omega)
    rw [← List.map_append] at a1 a2
    have b1 := cut_hi hpl
    have b2 := cut_lo hpl
    rw [← List.map_take] at b1
    rw [← List.map_drop] at b2
    have hlen : evalE cf 0 (.op .len [(.var 3)]) (E s (some (enc v, 0), j.2)) = .ok (.int ((s.length : Nat) : Int)) := by
      have := ev_len (cf := cf) (k := 0) (a := .var 3) (ρ := E s (some (enc v, 0), j.2)) (l := s.map enc) rfl
      rw [List.length_map] at this
      exact this
    refine ⟨s', (some (enc v, 0), some (.int (p : Int), 0)), E s (some (enc v, 0), j.2), rfl, ss_set (v := .int (p : Int)) (ev_call (evs_cons (v := enc ds) rfl (evs_cons (v := .int (k + v)) (ev2 (x := .int k) (y := .int v) rfl rfl rfl) (evs_cons (v := .int (((s.length : Nat) : Int) + 1)) (ev2 (x := .int ((s.length : Nat) : Int)) (y := .int 1) hlen rfl rfl) evs_nil))) e1) (ss_set (v := enc s') (ev2 (x := enc (s.take p ++ [v])) (y := enc (s.drop p)) (ev2 (x := enc (s.take p)) (y := enc [v]) (ev2 (x := enc s) (y := .int (p : Int)) rfl rfl b1) (ev_op (evs_cons (v := enc v) rfl evs_nil) (den_lst (xs := [enc v]) rfl (by simp))) a1) (ev2 (x := enc s) (y := .int (p : Int)) rfl rfl b2) a2) rfl), ?_⟩
    show (s.take p ++ [v] ++ s.drop p).Perm (pre ++ [v])
    refine List.Perm.trans ?_ (hs.append_right [v])
    rw [List.append_assoc]
    refine (List.perm_append_comm_assoc (s.take p) [v] (s.drop p)).trans ?_
    rw [List.take_append_drop]
    exact List.perm_append_comm)
  exact ⟨s, evalD_rt h rfl (ss_set (v := enc ([] : List Int)) rfl (ss_cons w rfl)), hs⟩
theorem ev_three (h6 : Pr 6 = some k__law_mix) (h : Pr 584 = some k__law_three_v2) {ds : List Int} (D : Drawn ds) {k m : Int} (k0 : 0 ≤ k) (k1 : k ≤ 900000) (m0 : 1 ≤ m) (m1 : m ≤ 60) :
    ∃ deed asked known : List Int, evalD Pr (n + 2) 584 [enc ds, .int k, .int m] = .ok (.tuple [enc deed, enc asked, enc known]) ∧ (InR m deed ∧ InR m asked ∧ InR m known) ∧ (deed.Pairwise (· < ·) ∧ asked.Pairwise (· < ·) ∧ known.Pairwise (· < ·)) ∧
      ((∀ x ∈ deed, x ∉ asked) ∧ (∀ x ∈ deed, x ∉ known) ∧ ∀ x ∈ asked, x ∉ known) ∧ asked ≠ [] := by
  let cf := evalD Pr (n + 1)
  obtain ⟨c, ec, c0, c1⟩ := ev_mix (n := n) h6 D (k := k) (m := 3) k0 (by omega) (by decide)
  have hs : ∀ v ∈ upto m, ∃ x : Int, evalD Pr (n + 1) 6 [enc ds, .int (k + 1 + v), .int (3 + c)] = .ok (.int x) ∧ 0 ≤ x ∧ x < 3 + c := fun v hv => by
    obtain ⟨v0, v1⟩ := mem_upto.mp hv
    exact ev_mix (n := n) h6 D (by omega) (by omega) (by omega)
  let side : Int → Int := fun v => if hv : v ∈ upto m then Classical.choose (hs v hv) else 0
  have hside : ∀ v ∈ upto m, evalD Pr (n + 1) 6 [enc ds, .int (k + 1 + v), .int (3 + c)] = .ok (.int (side v)) := fun v hv => by
    show _ = Res.ok (PyData.int (if hv : v ∈ upto m then Classical.choose (hs v hv) else 0))
    rw [dif_pos hv]
    exact (Classical.choose_spec (hs v hv)).1
  let sides : List Int := (upto m).map side
  have usort : (upto m).Pairwise (· < ·) := by
    unfold upto
    rw [List.pairwise_map]
    exact List.pairwise_lt_range.imp fun h => by omega
  have c1' := comp_eq (cf := cf) (k := 0) (d := 0) (w := [6]) (elt := .call 6 [(.var 0), (.op .add [(.op .add [(.var 1), (.cst (.int 1))]), (.var 6)]), (.op .add [(.cst (.int 3)), (.call 6 [(.var 0), (.var 1), (.cst (.int 3))])])]) (t := .slot 6) (it := .op .range [(.var 2)]) (ifs := none) (ρ := startE k__law_three_v2 [enc ds, .int k, .int m]) (l := upto m) (enc : Int → Val) (enc : Int → Val) (fun _ => true) side
    (fun v => [some (enc ds, 0), some (.int k, 0), some (.int m, 0), none, none, none, some (enc v, 0), none]) (ev_range1 (m := m) rfl (by omega) (by omega)) (fun _ _ => rfl) (fun _ _ => rfl)
    (fun v hv _ => ev_call (evs_cons (v := enc ds) rfl (evs_cons (v := .int (k + 1 + v)) (ev2 (x := .int (k + 1)) (y := .int v) (ev2 (x := .int k) (y := .int 1) rfl rfl rfl) rfl rfl) (evs_cons (v := .int (3 + c)) (ev2 (x := .int 3) (y := .int c) rfl (ev_call (evs_cons (v := enc ds) rfl (evs_cons (v := .int k) rfl (evs_cons (v := .int 3) rfl evs_nil))) ec) rfl) evs_nil))) (hside v hv)) (by rw [upto_length]; omega)
  rw [List.filter_eq_self.mpr fun _ _ => rfl] at c1'
  have sget : ∀ v ∈ upto m, ∃ i : Nat, v = (i : Int) ∧ (sides.map (enc : Int → Val))[i]? = some (enc (side v)) := fun v hv => by
    obtain ⟨v0, v1⟩ := mem_upto.mp hv
    refine ⟨v.toNat, by omega, ?_⟩
    have e : (upto m)[v.toNat]? = some v := by
      unfold upto
      rw [List.getElem?_map, List.getElem?_range (by omega)]
      show some ((v.toNat : Nat) : Int) = _
      congr 1
      omega
    show (((upto m).map side).map (enc : Int → Val))[v.toNat]? = _
    rw [List.getElem?_map, List.getElem?_map, e]
    rfl
  let ask0 : List Int := (upto m).filter fun v => decide (side v = 0)
  have c2 := comp_eq (cf := cf) (k := 0) (d := 0) (w := [6]) (elt := .var 6) (t := .slot 6) (it := .op .range [(.var 2)]) (ifs := some (.op .eq [(.op .idx [(.var 3), (.var 6)]), (.cst (.int 0))])) (ρ := [some (enc ds, 0), some (.int k, 0), some (.int m, 0), some (enc sides, 0), none, none, none, none]) (l := upto m) (enc : Int → Val) (enc : Int → Val) (fun v => decide (side v = 0)) (fun v => v)
    (fun v => [some (enc ds, 0), some (.int k, 0), some (.int m, 0), some (enc sides, 0), none, none, some (enc v, 0), none]) (ev_range1 (m := m) rfl (by omega) (by omega)) (fun _ _ => rfl) (fun v hv => evalO_of (cb_eq (α := Int) (x := side v) (y := 0) (by
      obtain ⟨i, e, g⟩ := sget v hv
      subst e
      exact ev2 (x := enc sides) (y := .int (i : Int)) rfl rfl (den_idx g)) rfl)) (fun _ _ _ => rfl) (by rw [upto_length]; omega)
  rw [List.map_id'] at c2
  obtain ⟨y, ey, y0, y1⟩ := ev_mix (n := n) h6 D (k := k + 14) (m := m) (by omega) (by omega) (by omega)
  let asked : List Int := if ask0 = [] then [y] else ask0
  have iA : InR m asked := fun x hx => by
    by_cases q : ask0 = []
    · rw [show asked = [y] from if_pos q] at hx
      rcases List.mem_cons.mp hx with e | e
      · rw [e]
        exact ⟨y0, y1⟩
      · cases e
    · rw [show asked = ask0 from if_neg q] at hx
      exact mem_upto.mp (List.mem_filter.mp hx).1
  have sA : asked.Pairwise (· < ·) := by
    by_cases q : ask0 = []
    · rw [show asked = [y] from if_pos q]
      exact List.pairwise_singleton _ _
    · rw [show asked = ask0 from if_neg q]
      exact usort.filter _
  have nA : asked ≠ [] := by
    by_cases q : ask0 = []
    · rw [show asked = [y] from if_pos q]
      simp
    · rw [show asked = ask0 from if_neg q]
      exact q
  let part : Int → List Int := fun s => (upto m).filter fun v => decide (side v = s) && !decide (v ∈ asked)
  have memp : ∀ s x, x ∈ part s ↔ x ∈ upto m ∧ side x = s ∧ x ∉ asked := fun s x => by
    show x ∈ (upto m).filter _ ↔ _
    rw [List.mem_filter]
    simp
  have c3 : ∀ s : Int, evalE cf 0 (.comp [6] 0 (.var 6) (.slot 6) (.op .range [(.var 2)]) (some (.and (.op .eq [(.op .idx [(.var 3), (.var 6)]), (.var 7)]) (.op .notin [(.var 6), (.var 4)])))) [some (enc ds, 0), some (.int k, 0), some (.int m, 0), some (enc sides, 0), some (enc asked, 0), none, none, some (enc s, 0)] = .ok (enc (part s)) := fun s => by
    have := comp_eq (cf := cf) (k := 0) (d := 0) (w := [6]) (elt := .var 6) (t := .slot 6) (it := .op .range [(.var 2)]) (ifs := some (.and (.op .eq [(.op .idx [(.var 3), (.var 6)]), (.var 7)]) (.op .notin [(.var 6), (.var 4)]))) (ρ := [some (enc ds, 0), some (.int k, 0), some (.int m, 0), some (enc sides, 0), some (enc asked, 0), none, none, some (enc s, 0)]) (l := upto m) (enc : Int → Val) (enc : Int → Val) (fun v => decide (side v = s) && !decide (v ∈ asked)) (fun v => v)
      (fun v => [some (enc ds, 0), some (.int k, 0), some (.int m, 0), some (enc sides, 0), some (enc asked, 0), none, some (enc v, 0), some (enc s, 0)]) (ev_range1 (m := m) rfl (by omega) (by omega)) (fun _ _ => rfl) (fun v hv => evalO_of (cb_and (cb_eq (α := Int) (x := side v) (y := s) (by
        obtain ⟨i, e, g⟩ := sget v hv
        subst e
        exact ev2 (x := enc sides) (y := .int (i : Int)) rfl rfl (den_idx g)) rfl) fun _ => cb_notin (α := Int) (x := v) (ys := asked) rfl rfl)) (fun _ _ _ => rfl) (by rw [upto_length]; omega)
    rw [List.map_id'] at this
    exact this
  have c4 := comp_eq (cf := cf) (k := 0) (d := 0) (w := [7]) (elt := .comp [6] 0 (.var 6) (.slot 6) (.op .range [(.var 2)]) (some (.and (.op .eq [(.op .idx [(.var 3), (.var 6)]), (.var 7)]) (.op .notin [(.var 6), (.var 4)])))) (t := .slot 7) (it := .op (.lst 0 [false, false]) [(.cst (.int 1)), (.cst (.int 2))]) (ifs := none) (ρ := [some (enc ds, 0), some (.int k, 0), some (.int m, 0), some (enc sides, 0), some (enc asked, 0), none, none, none]) (l := [(1 : Int), 2]) (enc : Int → Val) (enc : List Int → Val) (fun _ => true) part
    (fun s => [some (enc ds, 0), some (.int k, 0), some (.int m, 0), some (enc sides, 0), some (enc asked, 0), none, none, some (enc s, 0)]) rfl (fun _ _ => rfl) (fun _ _ => rfl) (fun s _ _ => c3 s) (by simp)
  rw [List.filter_eq_self.mpr fun _ _ => rfl] at c4
  refine ⟨part 1, asked, part 2, ?_, ⟨fun x hx => mem_upto.mp ((memp 1 x).mp hx).1, iA, fun x hx => mem_upto.mp ((memp 2 x).mp hx).1⟩, ⟨usort.filter _, sA, usort.filter _⟩, ⟨fun x hx => ((memp 1 x).mp hx).2.2, fun x hx hz => ?_, fun x hx hz => ((memp 2 x).mp hz).2.2 hx⟩, nA⟩
  · refine evalD_rt h rfl (ss_set (v := enc sides) c1' (ss_set (v := enc ask0) c2 (s_if' (t := decide (ask0 = [])) (ρ' := [some (enc ds, 0), some (.int k, 0), some (.int m, 0), some (enc sides, 0), some (enc asked, 0), none, none, none]) (cb_eq (α := List Int) (x := ask0) (y := []) rfl rfl) ?_ (ss_set (v := enc [part 1, part 2]) c4 (ss_cons (ρ' := [some (enc ds, 0), some (.int k, 0), some (.int m, 0), some (enc sides, 0), some (enc asked, 0), some (enc [part 1, part 2], 0), none, none]) rfl (ss_ret (ev_op (evs_cons (v := enc (part 1)) (ev2 (x := enc [part 1, part 2]) (y := .int 0) rfl rfl (den_idx (i := 0) rfl)) (evs_cons (v := enc asked) rfl (evs_cons (v := enc (part 2)) (ev2 (x := enc [part 1, part 2]) (y := .int 1) rfl rfl (den_idx (i := 1) rfl)) evs_nil))) rfl)))))))
    by_cases q : ask0 = []
    · rw [decide_eq_true q, if_pos rfl, show asked = [y] from if_pos q]
      exact ss_set (v := enc [y]) (ev_op (evs_cons (v := enc y) (ev_call (evs_cons (v := enc ds) rfl (evs_cons (v := .int (k + 14)) (ev2 (x := .int k) (y := .int 14) rfl rfl rfl) (evs_cons (v := .int m) rfl evs_nil))) ey) evs_nil) (den_lst (xs := [enc y]) rfl (by simp))) rfl
    · rw [decide_eq_false q, if_neg Bool.false_ne_true, show asked = ask0 from if_neg q]
      rfl
  · have h1 := ((memp 1 x).mp hx).2.1
    have h2 := ((memp 2 x).mp hz).2.1
    omega
end
end VL

/-! plain side, part 13: the law's drawing -/
namespace VL
open PySem
open Enc
theorem ss_app2 {cf : Nat → List Val → Res Val} {ρ : Env} {ss : List S} {r : Res Out} {i j t : Nat} {ix e : E} {xs ys : List Val} {v : Val} {k : Int} (ho : getOwn ρ i 2 = .ok (xs, t)) (hi : evalE cf 9 ix ρ = .ok (.int k)) (hj : L2.ixN xs.length k = some j) (he : evalE cf 0 e ρ = .ok v) (hl : xs[j]? = some (.list ys)) (hz : ys.length + 1 ≤ 16777216)
    (h2 : evalSs cf ss (ρ.set i (some (.list (xs.set j (.list (ys ++ [v]))), 2))) = r) : evalSs cf (.app2 i ix e :: ss) ρ = r := by
  refine ss_cons ?_ h2
  show ((getOwn ρ i 2).bind fun y => (evalE cf 9 ix ρ).bind fun j => (ixOf y.1.length j).bind fun j => (evalE cf 0 e ρ).bind fun v => (ofOpt y.1[j]?).bind fun l => (asList l).bind fun ys => Res.guard (sizeOk (ys.length + 1)) (Res.ok (Out.nx (ρ.set i (some (.list (y.1.set j (.list (ys ++ [v]))), 2)))))) = _
  rw [ho, Res.bind_ok, hi, Res.bind_ok]
  show (ixOf xs.length (.int k)).bind _ = _
  have : ixOf xs.length (.int k) = .ok j := by
    unfold ixOf
    simp only [hj]
  rw [this, Res.bind_ok, he, Res.bind_ok]
  show (ofOpt xs[j]?).bind _ = _
  rw [hl]
  show Res.guard (sizeOk (ys.length + 1)) _ = _
  rw [sizeOk_le hz]
  rfl
theorem upto_at {m x : Int} {pre post : List Int} (h : upto m = pre ++ x :: post) : x = ((pre.length : Nat) : Int) := by
  have h1 : (upto m)[pre.length]? = some x := by
    rw [h, List.getElem?_append_right (Nat.le_refl _)]
    simp
  unfold upto at h1
  rw [List.getElem?_map] at h1
  by_cases q : pre.length < m.toNat
  · rw [List.getElem?_range q] at h1
    exact (Option.some.inj h1).symm
  · rw [List.getElem?_eq_none (by simpa using q)] at h1
    cases h1
def fromto (lo m : Int) : List Int := (List.range (m - lo).toNat).map fun t => lo + ((t : Nat) : Int)
theorem fromto_at {lo m x : Int} {pre post : List Int} (h : fromto lo m = pre ++ x :: post) : x = lo + ((pre.length : Nat) : Int) ∧ x < m := by
  have h1 : (fromto lo m)[pre.length]? = some x := by
    rw [h, List.getElem?_append_right (Nat.le_refl _)]
    simp
  unfold fromto at h1
  rw [List.getElem?_map] at h1
  by_cases q : pre.length < (m - lo).toNat
  · rw [List.getElem?_range q] at h1
    have e : x = lo + ((pre.length : Nat) : Int) := (Option.some.inj h1).symm
    exact ⟨e, by omega⟩
  · rw [List.getElem?_eq_none (by simpa using q)] at h1
    cases h1
theorem ev_range2 {cf : Nat → List Val → Res Val} {a b : E} {ρ : Env} {k : Nat} {lo m : Int} (h : evalE cf 9 a ρ = .ok (.int lo)) (h' : evalE cf 9 b ρ = .ok (.int m)) (h1 : -1000000 ≤ lo) (h2 : lo ≤ 1000000) (h3 : -1000000 ≤ m) (h4 : m ≤ 1000000) : (evalE cf k (.op .range [a, b]) ρ).bind asSeq = .ok ((fromto lo m).map enc) := by
  refine seq_of (ev2 (o := .range) h h' ?_)
  show Res.guard (small lo && (small m && sizeOk (m - lo).toNat)) (Res.ok (PyData.list (rng lo m))) = _
  have e1 : small lo = true := by
    unfold small
    rw [Bool.and_eq_true, decide_eq_true_eq, decide_eq_true_eq]
    constructor <;> omega
  have e2 : small m = true := by
    unfold small
    rw [Bool.and_eq_true, decide_eq_true_eq, decide_eq_true_eq]
    constructor <;> omega
  rw [e1, e2, sizeOk_le (by omega)]
  show Res.ok (PyData.list (rng lo m)) = _
  unfold rng fromto
  rw [List.map_map]
  rfl
def mn (a b : Int) : Int := if b < a then b else a
def mx (a b : Int) : Int := if b > a then b else a
theorem mn_mx {a b : Int} (h : a ≠ b) : mn a b < mx a b := by
  unfold mn mx
  split <;> split <;> omega
theorem mn_mx_eq {a b c e : Int} (h1 : mn a b = mn c e) (h2 : mx a b = mx c e) : (a = c ∧ b = e) ∨ (a = e ∧ b = c) := by
  unfold mn at h1
  unfold mx at h2
  split at h1 <;> split at h1 <;> split at h2 <;> split at h2 <;> omega
theorem mn_in {m a b : Int} (ha : 0 ≤ a ∧ a < m) (hb : 0 ≤ b ∧ b < m) : (0 ≤ mn a b ∧ mn a b < m) ∧ 0 ≤ mx a b ∧ mx a b < m := by
  unfold mn mx
  split <;> split <;> omega
theorem nodup_ix {α : Type} {o : List α} (h : o.Nodup) {i j : Nat} {x : α} (hi : o[i]? = some x) (hj : o[j]? = some x) : i = j := by
  obtain ⟨h1, e1⟩ := List.getElem?_eq_some_iff.mp hi
  obtain ⟨h2, e2⟩ := List.getElem?_eq_some_iff.mp hj
  have pw := List.pairwise_iff_getElem.mp h
  rcases Nat.lt_trichotomy i j with l | l | l
  · exact absurd (e1.trans e2.symm) (pw i j h1 h2 l)
  · exact l
  · exact absurd (e2.trans e1.symm) (pw j i h2 h1 l)
/-- what the two lists hold: pairs of the order, each told once -/
structure Fnd (o : List Int) (P0 P1 : Nat → Nat → Prop) (f0 f1 : List Pt) : Prop where
  a0 : ∀ p ∈ f0, ∃ i j : Nat, i < j ∧ P0 i j ∧ o[i]? = some p.1 ∧ o[j]? = some p.2
  n0 : f0.Nodup
  a1 : ∀ p ∈ f1, ∃ (i j : Nat) (a b : Int), i < j ∧ P1 i j ∧ o[i]? = some a ∧ o[j]? = some b ∧ p = (mn a b, mx a b)
  n1 : f1.Nodup
def pairsU (m : Int) : List Pt := (upto m).flatMap fun a => (upto m).map fun b => (a, b)
theorem pairsU_length {m : Int} : (pairsU m).length = m.toNat * m.toNat := by
  unfold pairsU
  have : ∀ l : List Int, (l.flatMap fun a => (upto m).map fun b => (a, b)).length = l.length * m.toNat := fun l => by
    induction l with
    | nil => simp
    | cons x l ih =>
      rw [List.flatMap_cons, List.length_append, ih, List.length_map, upto_length, List.length_cons, Nat.succ_mul]
      omega
  rw [this, upto_length]
theorem mem_pairsU {m : Int} {p : Pt} (h1 : 0 ≤ p.1 ∧ p.1 < m) (h2 : 0 ≤ p.2 ∧ p.2 < m) : p ∈ pairsU m := by
  unfold pairsU
  exact List.mem_flatMap.mpr ⟨p.1, mem_upto.mpr h1, List.mem_map.mpr ⟨p.2, mem_upto.mpr h2, rfl⟩⟩
section
variable {o : List Int} {P0 P1 Q0 Q1 : Nat → Nat → Prop} {f0 f1 : List Pt} {m : Int}
theorem Fnd.mono (F : Fnd o P0 P1 f0 f1) (h0 : ∀ i j, P0 i j → Q0 i j) (h1 : ∀ i j, P1 i j → Q1 i j) : Fnd o Q0 Q1 f0 f1 :=
  ⟨fun p hp => let ⟨i, j, a, b, c⟩ := F.a0 p hp; ⟨i, j, a, h0 _ _ b, c⟩, F.n0, fun p hp => let ⟨i, j, a, b, c, e, f⟩ := F.a1 p hp; ⟨i, j, a, b, c, h1 _ _ e, f⟩, F.n1⟩
theorem Fnd.inP (F : Fnd o P0 P1 f0 f1) (ho : InR m o) : InP m f0 ∧ InP m f1 := by
  have at_ : ∀ {i : Nat} {x : Int}, o[i]? = some x → 0 ≤ x ∧ x < m := fun h => ho _ (List.mem_of_getElem? h)
  refine ⟨fun p hp => ?_, fun p hp => ?_⟩
  · obtain ⟨i, j, _, _, h1, h2⟩ := F.a0 p hp
    exact ⟨at_ h1, at_ h2⟩
  · obtain ⟨i, j, a, b, _, _, h1, h2, rfl⟩ := F.a1 p hp
    exact mn_in (at_ h1) (at_ h2)
theorem Fnd.len (F : Fnd o P0 P1 f0 f1) (ho : InR m o) (hm : m ≤ 12) : f0.length ≤ 144 ∧ f1.length ≤ 144 := by
  obtain ⟨i0, i1⟩ := F.inP ho
  have h0 := nodup_le (m := pairsU m) F.n0 fun p hp => mem_pairsU (i0 p hp).1 (i0 p hp).2
  have h1 := nodup_le (m := pairsU m) F.n1 fun p hp => mem_pairsU (i1 p hp).1 (i1 p hp).2
  rw [pairsU_length] at h0 h1
  have : m.toNat ≤ 12 := by omega
  have := Nat.mul_le_mul this this
  omega
theorem Fnd.add0 (F : Fnd o P0 P1 f0 f1) (nd : o.Nodup) {i j : Nat} {a b : Int} (hij : i < j) (hi : o[i]? = some a) (hj : o[j]? = some b) (n : ¬ P0 i j) : Fnd o (fun i' j' => P0 i' j' ∨ (i' = i ∧ j' = j)) P1 (f0 ++ [(a, b)]) f1 := by
  refine ⟨fun p hp => ?_, List.nodup_append.mpr ⟨F.n0, by simp, fun x hx y hy e => ?_⟩, F.a1, F.n1⟩
  · rcases List.mem_append.mp hp with hp | hp
    · obtain ⟨i', j', c, d, e⟩ := F.a0 p hp
      exact ⟨i', j', c, .inl d, e⟩
    · rcases List.mem_cons.mp hp with e | e
      · rw [e]
        exact ⟨i, j, hij, .inr ⟨rfl, rfl⟩, hi, hj⟩
      · cases e
  · rcases List.mem_cons.mp hy with z | z
    · rw [e, z] at hx
      obtain ⟨i', j', _, d, e1, e2⟩ := F.a0 _ hx
      rw [nodup_ix nd e1 hi, nodup_ix nd e2 hj] at d
      exact n d
    · cases z
theorem Fnd.add1 (F : Fnd o P0 P1 f0 f1) (nd : o.Nodup) {i j : Nat} {a b : Int} (hij : i < j) (hi : o[i]? = some a) (hj : o[j]? = some b) (n : ¬ P1 i j) : Fnd o P0 (fun i' j' => P1 i' j' ∨ (i' = i ∧ j' = j)) f0 (f1 ++ [(mn a b, mx a b)]) := by
  refine ⟨F.a0, F.n0, fun p hp => ?_, List.nodup_append.mpr ⟨F.n1, by simp, fun x hx y hy e => ?_⟩⟩
  · rcases List.mem_append.mp hp with hp | hp
    · obtain ⟨i', j', a', b', c, d, e⟩ := F.a1 p hp
      exact ⟨i', j', a', b', c, .inl d, e⟩
    · rcases List.mem_cons.mp hp with e | e
      · exact ⟨i, j, a, b, hij, .inr ⟨rfl, rfl⟩, hi, hj, e⟩
      · cases e
  · rcases List.mem_cons.mp hy with z | z
    · rw [e, z] at hx
      obtain ⟨i', j', a', b', lt, d, e1, e2, e3⟩ := F.a1 _ hx
      simp only [Prod.mk.injEq] at e3
      rcases mn_mx_eq e3.1 e3.2 with ⟨q1, q2⟩ | ⟨q1, q2⟩
      · subst q1 q2
        rw [nodup_ix nd e1 hi, nodup_ix nd e2 hj] at d
        exact n d
      · subst q1 q2
        have := nodup_ix nd e1 hj
        have := nodup_ix nd e2 hi
        omega
    · cases z
end
section
variable {Pr : Prog} {n : Nat}
theorem ev_drawing (h6 : Pr 6 = some k__law_mix) (h494 : Pr 494 = some k__law_order_v3) (h : Pr 495 = some k__law_drawing_v2) {ds : List Int} (D : Drawn ds) {k m : Int} (k0 : 0 ≤ k) (k1 : k ≤ 800000) (m0 : 1 ≤ m) (m1 : m ≤ 12) :
    ∃ d : Dr, evalD Pr (n + 3) 495 [enc ds, .int k, .int m] = .ok (enc d) ∧ Good d ∧ d.a = m ∧ d.b.length ≤ 144 ∧ d.c.length ≤ 144 := by
  let cf := evalD Pr (n + 2)
  obtain ⟨o, eo, po⟩ := ev_order (n := n) h6 h494 D k0 (by omega) (by omega : 0 ≤ m) (by omega)
  have nd : o.Nodup := po.nodup_iff.mpr upto_nodup
  have ho : InR m o := fun x hx => mem_upto.mp (po.mem_iff.mp hx)
  have lo : o.length = m.toNat := by rw [po.length_eq, upto_length]
  obtain ⟨s0, e0, s00, s01⟩ := ev_mix (n := n + 1) h6 D (k := k + 12) (m := 6) (by omega) (by omega) (by decide)
  obtain ⟨s1, e1, s10, s11⟩ := ev_mix (n := n + 1) h6 D (k := k + 13) (m := 6) (by omega) (by omega) (by decide)
  let sh : List Int := [1 + s0, s1]
  let J := Option (Val × Nat) × Option (Val × Nat) × Option (Val × Nat)
  let E : List Pt × List Pt → J → Env := fun f j => [some (enc ds, 0), some (.int k, 0), some (.int m, 0), some (enc o, 0), some (enc sh, 0), some (.list [enc f.1, enc f.2], 2), j.1, j.2.1, j.2.2]
  obtain ⟨f, j, w, F⟩ := s_for (cf := cf) (ρ := E ([], []) (none, none, none)) (t := .slot 6) (it := .op .range [(.var 2)]) (body := [.for (.slot 7) (.op .range [(.op .add [(.var 6), (.cst (.int 1))]), (.var 2)]) [.for (.slot 8) (.op .range [(.cst (.int 2))]) [.iff (.op .lt [(.call 6 [(.var 0), (.op .add [(.op .add [(.op .add [(.var 1), (.cst (.int 14))]), (.op .mul [(.cst (.int 2)), (.op .add [(.op .mul [(.cst (.int 12)), (.var 6)]), (.var 7)])])]), (.var 8)]), (.cst (.int 9))]), (.op .idx [(.var 4), (.var 8)])]) [.app2 5 (.var 8) (.op .idx [(.op (.lst 0 [false, false]) [(.op (.tup [false, false]) [(.op .idx [(.var 3), (.var 6)]), (.op .idx [(.var 3), (.var 7)])]), (.op (.tup [false, false]) [(.op .min [(.op .idx [(.var 3), (.var 6)]), (.op .idx [(.var 3), (.var 7)])]), (.op .max [(.op .idx [(.var 3), (.var 6)]), (.op .idx [(.var 3), (.var 7)])])])]), (.var 8)])] []]]])
    (l := upto m) (enc : Int → Val) (ev_range1 (m := m) rfl (by omega) (by omega)) E (fun pre f => Fnd o (fun i j => i < pre.length) (fun i j => i < pre.length) f.1 f.2) ([], []) (none, none, none) rfl ⟨fun _ z => (nomatch z), List.nodup_nil, fun _ z => (nomatch z), List.nodup_nil⟩ (fun pre x post f j hl F => by
      have ex := upto_at hl
      have xm : x < m := (mem_upto.mp (by rw [hl]; exact List.mem_append_right _ List.mem_cons_self)).2
      have hio : pre.length < o.length := by omega
      have hi : o[pre.length]? = some o[pre.length] := List.getElem?_eq_getElem hio
      subst ex
      let i : Nat := pre.length
      obtain ⟨f', j', w, F'⟩ := s_for (cf := cf) (ρ := E f (some (enc ((i : Nat) : Int), 0), j.2.1, j.2.2)) (t := .slot 7) (it := .op .range [(.op .add [(.var 6), (.cst (.int 1))]), (.var 2)]) (body := [.for (.slot 8) (.op .range [(.cst (.int 2))]) [.iff (.op .lt [(.call 6 [(.var 0), (.op .add [(.op .add [(.op .add [(.var 1), (.cst (.int 14))]), (.op .mul [(.cst (.int 2)), (.op .add [(.op .mul [(.cst (.int 12)), (.var 6)]), (.var 7)])])]), (.var 8)]), (.cst (.int 9))]), (.op .idx [(.var 4), (.var 8)])]) [.app2 5 (.var 8) (.op .idx [(.op (.lst 0 [false, false]) [(.op (.tup [false, false]) [(.op .idx [(.var 3), (.var 6)]), (.op .idx [(.var 3), (.var 7)])]), (.op (.tup [false, false]) [(.op .min [(.op .idx [(.var 3), (.var 6)]), (.op .idx [(.var 3), (.var 7)])]), (.op .max [(.op .idx [(.var 3), (.var 6)]), (.op .idx [(.var 3), (.var 7)])])])]), (.var 8)])] []]])
        (l := fromto ((i : Int) + 1) m) (enc : Int → Val) (ev_range2 (ev2 (x := .int (i : Int)) (y := .int 1) rfl rfl rfl) rfl (by omega) (by omega) (by omega) (by omega)) (fun f (jj : Option (Val × Nat) × Option (Val × Nat)) => E f (some (enc ((i : Nat) : Int), 0), jj.1, jj.2)) (fun pre2 f => Fnd o (fun i' j' => i' < i ∨ (i' = i ∧ j' < i + 1 + pre2.length)) (fun i' j' => i' < i ∨ (i' = i ∧ j' < i + 1 + pre2.length)) f.1 f.2) f (j.2.1, j.2.2) rfl (F.mono (fun _ _ h => .inl h) fun _ _ h => .inl h) (fun pre2 y post2 f jj hl2 F => by
          obtain ⟨ey, ym⟩ := fromto_at hl2
          let jn : Nat := i + 1 + pre2.length
          have ey2 : y = ((jn : Nat) : Int) := by
            show y = ((i + 1 + pre2.length : Nat) : Int)
            omega
          subst ey2
          have hjo : jn < o.length := by omega
          have hj : o[jn]? = some o[jn] := List.getElem?_eq_getElem hjo
          have hij : i < jn := by show pre.length < pre.length + 1 + pre2.length; omega
          let a : Int := o[pre.length]
          let b : Int := o[jn]
          let ρk : List Pt × List Pt → Option (Val × Nat) → Env := fun f q => E f (some (enc ((i : Nat) : Int), 0), some (enc ((jn : Nat) : Int), 0), q)
          obtain ⟨f', q', w, F'⟩ := s_for (cf := cf) (ρ := ρk f jj.2) (t := .slot 8) (it := .op .range [(.cst (.int 2))]) (body := [.iff (.op .lt [(.call 6 [(.var 0), (.op .add [(.op .add [(.op .add [(.var 1), (.cst (.int 14))]), (.op .mul [(.cst (.int 2)), (.op .add [(.op .mul [(.cst (.int 12)), (.var 6)]), (.var 7)])])]), (.var 8)]), (.cst (.int 9))]), (.op .idx [(.var 4), (.var 8)])]) [.app2 5 (.var 8) (.op .idx [(.op (.lst 0 [false, false]) [(.op (.tup [false, false]) [(.op .idx [(.var 3), (.var 6)]), (.op .idx [(.var 3), (.var 7)])]), (.op (.tup [false, false]) [(.op .min [(.op .idx [(.var 3), (.var 6)]), (.op .idx [(.var 3), (.var 7)])]), (.op .max [(.op .idx [(.var 3), (.var 6)]), (.op .idx [(.var 3), (.var 7)])])])]), (.var 8)])] []])
            (l := upto 2) (enc : Int → Val) (ev_range1 rfl (by decide) (by decide)) ρk (fun pre3 f => Fnd o (fun i' j' => (i' < i ∨ (i' = i ∧ j' < jn)) ∨ (1 ≤ pre3.length ∧ i' = i ∧ j' = jn)) (fun i' j' => (i' < i ∨ (i' = i ∧ j' < jn)) ∨ (2 ≤ pre3.length ∧ i' = i ∧ j' = jn)) f.1 f.2) f jj.2 rfl (F.mono (fun _ _ h => .inl h) fun _ _ h => .inl h) (fun pre3 z post3 f q hl3 F => by
              have ez := upto_at hl3
              have z2 : z < 2 := (mem_upto.mp (by rw [hl3]; exact List.mem_append_right _ List.mem_cons_self)).2
              subst ez
              have lens := F.len ho m1
              obtain ⟨x, exx, x0, x1⟩ := ev_mix (n := n + 1) h6 D (k := k + 14 + 2 * (12 * (i : Int) + (jn : Int)) + ((pre3.length : Nat) : Int)) (m := 9) (by omega) (by omega) (by decide)
              let ρ1 : Env := ρk f (some (enc ((pre3.length : Nat) : Int), 0))
              have shl : (sh.map (enc : Int → Val))[pre3.length]? = some (enc (if pre3.length = 0 then 1 + s0 else s1)) := by
                have : pre3.length = 0 ∨ pre3.length = 1 := by omega
                rcases this with e | e <;> rw [e] <;> rfl
              have hc := cb_lt (cf := cf) (ρ := ρ1) (i := x) (j := if pre3.length = 0 then 1 + s0 else s1) (a := .call 6 [(.var 0), (.op .add [(.op .add [(.op .add [(.var 1), (.cst (.int 14))]), (.op .mul [(.cst (.int 2)), (.op .add [(.op .mul [(.cst (.int 12)), (.var 6)]), (.var 7)])])]), (.var 8)]), (.cst (.int 9))]) (b := .op .idx [(.var 4), (.var 8)])
                (ev_call (evs_cons (v := enc ds) rfl (evs_cons (v := .int (k + 14 + 2 * (12 * (i : Int) + (jn : Int)) + ((pre3.length : Nat) : Int))) (ev2 (x := .int (k + 14 + 2 * (12 * (i : Int) + (jn : Int)))) (y := .int ((pre3.length : Nat) : Int)) (ev2 (x := .int (k + 14)) (y := .int (2 * (12 * (i : Int) + (jn : Int)))) (ev2 (x := .int k) (y := .int 14) rfl rfl rfl) (ev2 (x := .int 2) (y := .int (12 * (i : Int) + (jn : Int))) rfl (ev2 (x := .int (12 * (i : Int))) (y := .int (jn : Int)) (ev2 (x := .int 12) (y := .int (i : Int)) rfl rfl (den_mul (by decide) (by omega))) rfl rfl) (den_mul (by decide) (by omega))) rfl) rfl rfl) (evs_cons (v := .int 9) rfl evs_nil))) exx)
                (ev2 (x := enc sh) (y := .int ((pre3.length : Nat) : Int)) rfl rfl (den_idx shl))
              have oi : ∀ kk, evalE cf kk (.op .idx [(.var 3), (.var 6)]) ρ1 = .ok (.int a) := fun kk => ev2 (x := enc o) (y := .int ((i : Nat) : Int)) (by
                show getV ρ1 3 (kk + 1) = _
                rfl) (by
                show getV ρ1 6 (kk + 1) = _
                rfl) (den_idx (by
                rw [List.getElem?_map, hi]
                rfl))
              have oj : ∀ kk, evalE cf kk (.op .idx [(.var 3), (.var 7)]) ρ1 = .ok (.int b) := fun kk => ev2 (x := enc o) (y := .int ((jn : Nat) : Int)) (by
                show getV ρ1 3 (kk + 1) = _
                rfl) (by
                show getV ρ1 7 (kk + 1) = _
                rfl) (den_idx (by
                rw [List.getElem?_map, hj]
                rfl))
              have hpair : evalE cf 1 (.op (.lst 0 [false, false]) [(.op (.tup [false, false]) [(.op .idx [(.var 3), (.var 6)]), (.op .idx [(.var 3), (.var 7)])]), (.op (.tup [false, false]) [(.op .min [(.op .idx [(.var 3), (.var 6)]), (.op .idx [(.var 3), (.var 7)])]), (.op .max [(.op .idx [(.var 3), (.var 6)]), (.op .idx [(.var 3), (.var 7)])])])]) ρ1 = .ok (.list [enc ((a, b) : Pt), enc ((mn a b, mx a b) : Pt)]) :=
                ev_op (evs_cons (v := enc ((a, b) : Pt)) (ev_op (evs_cons (v := .int a) (oi _) (evs_cons (v := .int b) (oj _) evs_nil)) rfl) (evs_cons (v := enc ((mn a b, mx a b) : Pt)) (ev_op (evs_cons (v := .int (mn a b)) (ev2 (x := .int a) (y := .int b) (oi _) (oj _) rfl) (evs_cons (v := .int (mx a b)) (ev2 (x := .int a) (y := .int b) (oi _) (oj _) rfl) evs_nil)) rfl) evs_nil)) (den_lst (xs := [enc ((a, b) : Pt), enc ((mn a b, mx a b) : Pt)]) rfl (by simp))
              by_cases q1 : x < (if pre3.length = 0 then 1 + s0 else s1)
              · rw [decide_eq_true q1] at hc
                by_cases z0 : pre3.length = 0
                · refine ⟨(f.1 ++ [(a, b)], f.2), some (enc ((pre3.length : Nat) : Int), 0), ρ1, rfl, s_if' hc (ρ' := ρk (f.1 ++ [(a, b)], f.2) (some (enc ((pre3.length : Nat) : Int), 0))) ?_ rfl, ?_⟩
                  · rw [if_pos rfl]
                    refine ss_app2 (xs := [enc f.1, enc f.2]) (t := 2) (j := 0) (k := ((pre3.length : Nat) : Int)) (v := enc ((a, b) : Pt)) (ys := f.1.map enc) rfl rfl (by rw [z0]; rfl) (ev2 (x := .list [enc ((a, b) : Pt), enc ((mn a b, mx a b) : Pt)]) (y := .int ((pre3.length : Nat) : Int)) hpair rfl (den_idx (by rw [z0]; rfl))) rfl (by rw [List.length_map]; omega) ?_
                    show Res.ok (Out.nx [some (enc ds, 0), some (.int k, 0), some (.int m, 0), some (enc o, 0), some (enc sh, 0), some (.list [.list (f.1.map enc ++ [enc ((a, b) : Pt)]), enc f.2], 2), some (enc ((i : Nat) : Int), 0), some (enc ((jn : Nat) : Int), 0), some (enc ((pre3.length : Nat) : Int), 0)]) = Res.ok (Out.nx [some (enc ds, 0), some (.int k, 0), some (.int m, 0), some (enc o, 0), some (enc sh, 0), some (.list [.list ((f.1 ++ [(a, b)]).map enc), enc f.2], 2), some (enc ((i : Nat) : Int), 0), some (enc ((jn : Nat) : Int), 0), some (enc ((pre3.length : Nat) : Int), 0)])
                    rw [List.map_append]
                    rfl
                  · refine (F.add0 nd hij hi hj ?_).mono (fun i' j' h => ?_) fun i' j' h => ?_
                    · rintro ((h | ⟨_, h⟩) | ⟨h, _⟩) <;> omega
                    · rw [List.length_append, List.length_cons]
                      rcases h with (h | h) | h
                      · exact .inl h
                      · exact .inr ⟨by omega, h.2⟩
                      · exact .inr ⟨by omega, h⟩
                    · rw [List.length_append, List.length_cons]
                      rcases h with h | h
                      · exact .inl h
                      · exact .inr ⟨by omega, h.2⟩
                · have z1 : pre3.length = 1 := by omega
                  refine ⟨(f.1, f.2 ++ [(mn a b, mx a b)]), some (enc ((pre3.length : Nat) : Int), 0), ρ1, rfl, s_if' hc (ρ' := ρk (f.1, f.2 ++ [(mn a b, mx a b)]) (some (enc ((pre3.length : Nat) : Int), 0))) ?_ rfl, ?_⟩
                  · rw [if_pos rfl]
                    refine ss_app2 (xs := [enc f.1, enc f.2]) (t := 2) (j := 1) (k := ((pre3.length : Nat) : Int)) (v := enc ((mn a b, mx a b) : Pt)) (ys := f.2.map enc) rfl rfl (by rw [z1]; rfl) (ev2 (x := .list [enc ((a, b) : Pt), enc ((mn a b, mx a b) : Pt)]) (y := .int ((pre3.length : Nat) : Int)) hpair rfl (den_idx (by rw [z1]; rfl))) rfl (by rw [List.length_map]; omega) ?_
                    show Res.ok (Out.nx [some (enc ds, 0), some (.int k, 0), some (.int m, 0), some (enc o, 0), some (enc sh, 0), some (.list [enc f.1, .list (f.2.map enc ++ [enc ((mn a b, mx a b) : Pt)])], 2), some (enc ((i : Nat) : Int), 0), some (enc ((jn : Nat) : Int), 0), some (enc ((pre3.length : Nat) : Int), 0)]) = Res.ok (Out.nx [some (enc ds, 0), some (.int k, 0), some (.int m, 0), some (enc o, 0), some (enc sh, 0), some (.list [enc f.1, .list ((f.2 ++ [(mn a b, mx a b)]).map enc)], 2), some (enc ((i : Nat) : Int), 0), some (enc ((jn : Nat) : Int), 0), some (enc ((pre3.length : Nat) : Int), 0)])
                    rw [List.map_append]
                    rfl
                  · refine (F.add1 nd hij hi hj ?_).mono (fun i' j' h => ?_) fun i' j' h => ?_
                    · rintro ((h | ⟨_, h⟩) | ⟨h, _⟩) <;> omega
                    · rw [List.length_append, List.length_cons]
                      rcases h with h | h
                      · exact .inl h
                      · exact .inr ⟨by omega, h.2⟩
                    · rw [List.length_append, List.length_cons]
                      rcases h with (h | h) | h
                      · exact .inl h
                      · exact .inr ⟨by omega, h.2⟩
                      · exact .inr ⟨by simp only [List.length_nil]; omega, h⟩
              · rw [decide_eq_false q1] at hc
                refine ⟨f, some (enc ((pre3.length : Nat) : Int), 0), ρ1, rfl, s_if' hc (ρ' := ρ1) rfl rfl, F.mono (fun i' j' h => ?_) fun i' j' h => ?_⟩
                · rw [List.length_append, List.length_cons]
                  exact h.imp id fun h => ⟨by omega, h.2⟩
                · rw [List.length_append, List.length_cons]
                  exact h.imp id fun h => ⟨by omega, h.2⟩)
          refine ⟨f', (some (enc ((jn : Nat) : Int), 0), q'), ρk f jj.2, rfl, ss_cons w rfl, F'.mono (fun i' j' h => ?_) fun i' j' h => ?_⟩
          · rw [List.length_append, List.length_cons, List.length_nil]
            rcases h with (h | ⟨h, h2⟩) | ⟨_, h, h2⟩
            · exact .inl h
            · exact .inr ⟨h, by have : jn = i + 1 + pre2.length := rfl; omega⟩
            · exact .inr ⟨h, by have : jn = i + 1 + pre2.length := rfl; omega⟩
          · rw [List.length_append, List.length_cons, List.length_nil]
            rcases h with (h | ⟨h, h2⟩) | ⟨_, h, h2⟩
            · exact .inl h
            · exact .inr ⟨h, by have : jn = i + 1 + pre2.length := rfl; omega⟩
            · exact .inr ⟨h, by have : jn = i + 1 + pre2.length := rfl; omega⟩)
      refine ⟨f', (some (enc ((i : Nat) : Int), 0), j'.1, j'.2), E f (some (enc ((i : Nat) : Int), 0), j.2.1, j.2.2), rfl, ss_cons w rfl, F'.mono (fun i' j' h => ?_) fun i' j' h => ?_⟩
      · rw [List.length_append, List.length_cons, List.length_nil]
        have : i = pre.length := rfl
        omega
      · rw [List.length_append, List.length_cons, List.length_nil]
        have : i = pre.length := rfl
        omega)
  have lens := F.len ho m1
  obtain ⟨p0, p1⟩ := F.inP ho
  have at_ : ∀ {i : Nat} {x : Int}, o[i]? = some x → i ≤ o.length := fun h => Nat.le_of_lt (getElem_lt h)
  let rank : Int → Nat := fun x => Classical.epsilon fun i : Nat => o[i]? = some x
  have hrank : ∀ {i : Nat} {x : Int}, o[i]? = some x → rank x = i := fun {i x} h => by
    exact nodup_ix nd (Classical.epsilon_spec (p := fun i : Nat => o[i]? = some x) ⟨i, h⟩) h
  refine ⟨⟨m, srt f.1, srt f.2⟩, ?_, ⟨m0, m1, fun p hp => p0 p (mem_srt.mp hp), fun p hp => p1 p (mem_srt.mp hp), srt_pt F.n0, srt_pt F.n1, fun p hp => ?_, ⟨rank, o.length, fun p hp => ?_⟩, by rw [srt_length]; omega, by rw [srt_length]; omega⟩, rfl, by rw [srt_length]; omega, by rw [srt_length]; omega⟩
  · have hsh : evalE cf 0 (.op (.lst 0 [false, false]) [(.op .add [(.cst (.int 1)), (.call 6 [(.var 0), (.op .add [(.var 1), (.cst (.int 12))]), (.cst (.int 6))])]), (.call 6 [(.var 0), (.op .add [(.var 1), (.cst (.int 13))]), (.cst (.int 6))])]) [some (enc ds, 0), some (.int k, 0), some (.int m, 0), some (enc o, 0), none, none, none, none, none] = .ok (enc sh) :=
      ev_op (evs_cons (v := .int (1 + s0)) (ev2 (x := .int 1) (y := .int s0) rfl (ev_call (evs_cons (v := enc ds) rfl (evs_cons (v := .int (k + 12)) (ev2 (x := .int k) (y := .int 12) rfl rfl rfl) (evs_cons (v := .int 6) rfl evs_nil))) e0) rfl) (evs_cons (v := .int s1) (ev_call (evs_cons (v := enc ds) rfl (evs_cons (v := .int (k + 13)) (ev2 (x := .int k) (y := .int 13) rfl rfl rfl) (evs_cons (v := .int 6) rfl evs_nil))) e1) evs_nil)) (den_lst (xs := [.int (1 + s0), .int s1]) rfl (by simp))
    exact evalD_rt h rfl (ss_set (v := enc o) (ev_call (evs_cons (v := enc ds) rfl (evs_cons (v := .int k) rfl (evs_cons (v := .int m) rfl evs_nil))) eo) (ss_set (v := enc sh) hsh (ss_set (v := .list [enc ([] : List Pt), enc ([] : List Pt)]) rfl (ss_cons w (ss_ret (ev_op (evs_cons (v := .int m) rfl (evs_cons (v := enc (srt f.1)) (ev1 (x := enc f.1) (ev2 (x := .list [enc f.1, enc f.2]) (y := .int 0) rfl rfl (den_idx (i := 0) rfl)) (den_sorted f.1)) (evs_cons (v := enc (srt f.2)) (ev1 (x := enc f.2) (ev2 (x := .list [enc f.1, enc f.2]) (y := .int 1) rfl rfl (den_idx (i := 1) rfl)) (den_sorted f.2)) evs_nil))) rfl))))))
  · obtain ⟨i, j, a, b, lt, _, h1, h2, rfl⟩ := F.a1 p (mem_srt.mp hp)
    refine mn_mx fun e => ?_
    rw [e] at h1
    have := nodup_ix nd h1 h2
    omega
  · obtain ⟨i, j, lt, _, h1, h2⟩ := F.a0 p (mem_srt.mp hp)
    rw [hrank h1, hrank h2]
    exact ⟨lt, at_ h2⟩
end
end VL

/-! plain side, part 14: what repr tells of small data -/
namespace VL
open PySem
open Enc
mutual
/-- made of small numbers -/
def sm : Val → Bool
  | .int i => decide (0 ≤ i) && decide (i < 13)
  | .list xs => smAll xs
  | .tuple xs => smAll xs
  | _ => false
def smAll : List Val → Bool
  | [] => true
  | x :: xs => sm x && smAll xs
end
theorem small_int {i : Int} (h : 0 ≤ i) (h' : i < 13) : ∃ k : Fin 13, i = ((k : Nat) : Int) := ⟨⟨i.toNat, by omega⟩, by show i = ((i.toNat : Nat) : Int); omega⟩
mutual
theorem sm_showable : ∀ d : Val, sm d = true → d.showable = true
  | .int i, h => by
    simp only [sm, Bool.and_eq_true, decide_eq_true_eq] at h
    simp only [PyData.showable, decide_eq_true_eq]
    have := log2_small (n := i.natAbs) (by omega)
    omega
  | .list xs, h => by
    simp only [sm] at h
    simp only [PyData.showable]
    exact sm_showableAll xs h
  | .tuple xs, h => by
    simp only [sm] at h
    simp only [PyData.showable]
    exact sm_showableAll xs h
  | .none, h => by simp [sm] at h
  | .bool _, h => by simp [sm] at h
  | .str _, h => by simp [sm] at h
  | .dict _, h => by simp [sm] at h
theorem sm_showableAll : ∀ xs : List Val, smAll xs = true → PyData.showableAll xs = true
  | [], _ => by simp [PyData.showableAll]
  | x :: xs, h => by
    simp only [smAll, Bool.and_eq_true] at h
    simp only [PyData.showableAll, sm_showable x h.1, sm_showableAll xs h.2, Bool.and_self]
end
theorem short13 : ∀ k : Fin 13, decide ((PyData.shown (.int ((k : Nat) : Int))).length ≤ 13) = true := by decide +kernel
mutual
theorem sm_short : ∀ d : Val, sm d = true → d.intsShort 13 = true
  | .int i, h => by
    simp only [sm, Bool.and_eq_true, decide_eq_true_eq] at h
    obtain ⟨k, rfl⟩ := small_int h.1 h.2
    simp only [PyData.intsShort]
    exact short13 k
  | .list xs, h => by
    simp only [sm] at h
    simp only [PyData.intsShort]
    exact sm_shortAll xs h
  | .tuple xs, h => by
    simp only [sm] at h
    simp only [PyData.intsShort]
    exact sm_shortAll xs h
  | .none, h => by simp [sm] at h
  | .bool _, h => by simp [sm] at h
  | .str _, h => by simp [sm] at h
  | .dict _, h => by simp [sm] at h
theorem sm_shortAll : ∀ xs : List Val, smAll xs = true → PyData.intsShortAll 13 xs = true
  | [], _ => by simp [PyData.intsShortAll]
  | x :: xs, h => by
    simp only [smAll, Bool.and_eq_true] at h
    simp only [PyData.intsShortAll, sm_short x h.1, sm_shortAll xs h.2, Bool.and_self]
end
theorem strOk_app (a b : Str) (ha : PyData.strOk a = true) (hb : PyData.strOk b = true) : PyData.strOk (a ++ b) = true := by
  unfold PyData.strOk at ha hb ⊢
  show (a.cps ++ b.cps).all _ = true
  rw [Array.all_append, ha, hb]
  rfl
theorem strOk_of (s : String) : PyData.strOk (Str.ofString s) = true := by
  rw [Str.ofString_eq_toList]
  unfold PyData.strOk
  rw [Array.all_eq_true_iff_forall_mem]
  intro c hc
  have hc' : c ∈ s.toList.map Char.toNat := by simpa using hc
  obtain ⟨ch, _, rfl⟩ := List.mem_map.mp hc'
  have := ch.valid
  rw [decide_eq_true_eq]
  show ch.val.toNat < 0x110000
  rcases this with h | ⟨_, h⟩
  · have : ch.val.toNat < 0xd800 := h
    omega
  · exact h
theorem strOk_from : ∀ (ts : List Str) (k : Nat) (acc : Str), PyData.strOk acc = true → (∀ t ∈ ts, PyData.strOk t = true) → PyData.strOk (textFrom k acc ts) = true
  | [], _, _, h, _ => h
  | t :: ts, k, acc, h, hs => by
    refine strOk_from ts (k + 1) _ (strOk_app _ _ (strOk_app _ _ h ?_) (hs t List.mem_cons_self)) fun u hu => hs u (List.mem_cons_of_mem _ hu)
    exact strOk_of _
theorem strOk_join : ∀ ts : List Str, (∀ t ∈ ts, PyData.strOk t = true) → PyData.strOk (Str.join ", " ts) = true
  | [], _ => by simp [Str.join, Str.empty, PyData.strOk]
  | [x], h => h x List.mem_cons_self
  | x :: y :: r, h => by
    show PyData.strOk (x ++ ", " ++ Str.join ", " (y :: r)) = true
    exact strOk_app _ _ (strOk_app _ _ (h x List.mem_cons_self) (strOk_of _)) (strOk_join (y :: r) fun t ht => h t (List.mem_cons_of_mem _ ht))
mutual
theorem sm_ok : ∀ d : Val, sm d = true → PyData.strOk d.shown = true
  | .int i, _ => by
    simp only [PyData.shown]
    exact strOk_of _
  | .list xs, h => by
    simp only [sm] at h
    simp only [PyData.shown]
    exact strOk_app _ _ (strOk_from _ _ _ (strOk_of _) (sm_okAll xs h)) (strOk_of _)
  | .tuple xs, h => by
    simp only [sm] at h
    simp only [PyData.shown]
    exact strOk_app _ _ (strOk_app _ _ (strOk_of _) (strOk_join _ (sm_okAll xs h))) (strOk_of _)
  | .none, h => by simp [sm] at h
  | .bool _, h => by simp [sm] at h
  | .str _, h => by simp [sm] at h
  | .dict _, h => by simp [sm] at h
theorem sm_okAll : ∀ xs : List Val, smAll xs = true → ∀ t ∈ PyData.shownAll xs, PyData.strOk t = true
  | [], _, t, ht => by simp [PyData.shownAll] at ht
  | x :: xs, h, t, ht => by
    simp only [smAll, Bool.and_eq_true] at h
    simp only [PyData.shownAll, List.mem_cons] at ht
    rcases ht with rfl | ht
    · exact sm_ok x h.1
    · exact sm_okAll xs h.2 t ht
end
theorem w_int {i : Int} (h : 0 ≤ i) (h' : i < 13) : (PyData.int i).weight ≤ 64 := by
  simp only [PyData.weight]
  have := log2_small (n := i.natAbs) (by omega)
  split <;> omega
theorem w_all {α : Type} (e : α → Val) (c : Nat) : ∀ xs : List α, (∀ x ∈ xs, (e x).weight ≤ c) → PyData.weightAll (xs.map e) ≤ xs.length * (c + 1)
  | [], _ => by simp [PyData.weightAll]
  | x :: xs, h => by
    have h1 := h x List.mem_cons_self
    have h2 := w_all e c xs fun y hy => h y (List.mem_cons_of_mem _ hy)
    simp only [List.map_cons, PyData.weightAll, List.length_cons]
    rw [Nat.succ_mul]
    omega
theorem smAll_map {α : Type} (e : α → Val) : ∀ xs : List α, (∀ x ∈ xs, sm (e x) = true) → smAll (xs.map e) = true
  | [], _ => rfl
  | x :: xs, h => by
    simp only [List.map_cons, smAll, h x List.mem_cons_self, smAll_map e xs fun y hy => h y (List.mem_cons_of_mem _ hy), Bool.and_self]
theorem sm_ints {l : List Int} {m : Int} (hm : m ≤ 13) (h : InR m l) : sm (enc l) = true ∧ (enc l : Val).weight ≤ l.length * 65 := by
  refine ⟨?_, ?_⟩
  · show sm (.list (l.map enc)) = true
    simp only [sm]
    refine smAll_map _ l fun x hx => ?_
    have := h x hx
    show sm (.int x) = true
    simp only [sm, Bool.and_eq_true, decide_eq_true_eq]
    omega
  · show (PyData.list (l.map enc)).weight ≤ _
    simp only [PyData.weight]
    exact w_all _ 64 l fun x hx => w_int (h x hx).1 (by have := h x hx; omega)
theorem sm_pts {l : List Pt} {m : Int} (hm : m ≤ 13) (h : InP m l) : sm (enc l) = true ∧ (enc l : Val).weight ≤ l.length * 200 := by
  refine ⟨?_, ?_⟩
  · show sm (.list (l.map enc)) = true
    simp only [sm]
    refine smAll_map _ l fun x hx => ?_
    have := h x hx
    show sm (.tuple [.int x.1, .int x.2]) = true
    simp only [sm, smAll, Bool.and_eq_true, decide_eq_true_eq]
    exact ⟨⟨this.1.1, by omega⟩, ⟨this.2.1, by omega⟩, trivial⟩
  · show (PyData.list (l.map enc)).weight ≤ _
    simp only [PyData.weight]
    refine w_all _ 199 l fun x hx => ?_
    have := h x hx
    show (PyData.tuple [.int x.1, .int x.2]).weight ≤ 199
    simp only [PyData.weight, PyData.weightAll]
    have h1 := w_int this.1.1 (by omega : x.1 < 13)
    have h2 := w_int this.2.1 (by omega : x.2 < 13)
    simp only [PyData.weight] at h1 h2
    omega
def asked4 (d : Dr) (a b c : List Int) : Val := .tuple [enc d, enc a, enc b, enc c]
theorem repr_ok {d : Dr} {a b c : List Int} (g : Good d) (lb : d.b.length ≤ 144) (lc : d.c.length ≤ 144) (ha : InR d.a a) (hb : InR d.a b) (hc : InR d.a c) (la : a.length ≤ 12) (l2 : b.length ≤ 12) (l3 : c.length ≤ 12) :
    reprOk (asked4 d a b c) = true ∧ PyData.strOk (asked4 d a b c).shown = true := by
  have hm := g.m12
  have m1 := g.m1
  obtain ⟨s1, w1⟩ := sm_pts (by omega) g.arr
  obtain ⟨s2, w2⟩ := sm_pts (by omega) g.tie
  obtain ⟨s3, w3⟩ := sm_ints (by omega) ha
  obtain ⟨s4, w4⟩ := sm_ints (by omega) hb
  obtain ⟨s5, w5⟩ := sm_ints (by omega) hc
  have wm := w_int (by omega : 0 ≤ d.a) (by omega : d.a < 13)
  have sd : sm (enc d) = true := by
    show sm (.tuple [.int d.a, enc d.b, enc d.c]) = true
    simp only [sm, smAll, s1, s2, Bool.and_true, Bool.and_eq_true, decide_eq_true_eq]
    omega
  have wd : (enc d : Val).weight ≤ 60000 := by
    show (PyData.tuple [.int d.a, enc d.b, enc d.c]).weight ≤ 60000
    have e : (PyData.tuple [.int d.a, enc d.b, enc d.c]).weight = (PyData.int d.a).weight + 1 + ((enc d.b : Val).weight + 1 + ((enc d.c : Val).weight + 1 + 0)) := by
      simp only [PyData.weight, PyData.weightAll]
    rw [e]
    omega
  have sq : sm (asked4 d a b c) = true := by
    unfold asked4
    simp only [sm, smAll, sd, s3, s4, s5, Bool.and_self]
  have wq : (asked4 d a b c).weight ≤ 100000 := by
    have e : (asked4 d a b c).weight = (enc d : Val).weight + 1 + ((enc a : Val).weight + 1 + ((enc b : Val).weight + 1 + ((enc c : Val).weight + 1 + 0))) := by
      unfold asked4
      simp only [PyData.weight, PyData.weightAll]
    rw [e]
    omega
  have cl : (asked4 d a b c).canLay0 = true := by
    unfold asked4
    simp only [PyData.canLay0, PyData.canLayAll0, lay, Bool.and_self]
  have dp : (asked4 d a b c).depth ≤ 60 := by
    unfold asked4
    simp only [PyData.depth, PyData.depthAll]
    have h1 := depth d
    have h2 := depth a
    have h3 := depth b
    have h4 := depth c
    have e1 : dep Dr = 5 := rfl
    have e2 : dep (List Int) = 1 := rfl
    omega
  have len := PyData.shown_fits (B := 13) (by decide) (by decide) (PyData.leavesShort_of_canLay0 13 _ cl (sm_short _ sq)) (by omega)
  refine ⟨?_, sm_ok _ sq⟩
  unfold reprOk
  have e1 : reprable (asked4 d a b c) = true := rfl
  have e2 := sm_showable _ sq
  have e3 := PyData.hasDict_of_canLay _ cl
  rw [e1, e2, e3]
  simp only [Bool.true_and, Bool.not_false, Bool.and_eq_true, decide_eq_true_eq]
  exact ⟨sizeOk_le len, dp⟩
theorem ne_str {cf : Nat → List Val → Res Val} {ρ : Env} {a b : E} {z : Str} (h : evalE cf 9 a ρ = .ok (.str z)) (h2 : evalE cf 9 b ρ = .ok (.str z)) (ok : PyData.strOk z = true) : CB cf (.op .ne [a, b]) ρ false := by
  refine ev2 h h2 ?_
  show vNe (.str z) (.str z) = _
  unfold vNe
  have : shapedB (.str z) = true := by
    unfold shapedB SeqAt.shaped
    simp [PyData.canLay0, PyData.depth, ok]
  rw [this]
  show Res.ok (PyData.bool (!PyData.eqv (.str z) (.str z))) = _
  simp [PyData.eqv]
end VL

/-! plain side, rules by which a core is read off: walk_at "ev" finds what an expression tells -/
namespace VL
open PySem
open Enc

instance encBool : Enc Bool where
  enc := .bool
  dep := 0
  eqv := fun a b => by cases a <;> cases b <;> simp [PyData.eqv]
  lay := fun a => by simp [PyData.canLay0]
  depth := fun a => by simp [PyData.depth]
abbrev encL {α : Type} (i : Enc α) (xs : List α) : Val := @enc (List α) (@instEncList α i) xs
abbrev encP {α β : Type} (i : Enc α) (j : Enc β) (x : α × β) : Val := @enc (α × β) (@instEncProd α β i j) x
abbrev encT {α β γ : Type} (i : Enc α) (j : Enc β) (l : Enc γ) (x : Tr α β γ) : Val := @enc (Tr α β γ) (@instEncTr α β γ i j l) x

/-- a proposition's truth -/
noncomputable def tr (p : Prop) : Bool := @decide p (Classical.propDecidable p)
theorem tr_iff {p : Prop} : tr p = true ↔ p := @decide_eq_true_iff p (Classical.propDecidable p)
theorem tr_dec {p : Prop} [i : Decidable p] : tr p = decide p := by
  unfold tr
  congr
theorem tr_not {p : Prop} : tr p = false ↔ ¬ p := @decide_eq_false_iff_not p (Classical.propDecidable p)
theorem tr_true {p : Prop} (h : p) : tr p = true := tr_iff.mpr h
theorem tr_false {p : Prop} (h : ¬ p) : tr p = false := tr_not.mpr h
theorem not_tr {p : Prop} : (!tr p) = tr (¬ p) := by
  by_cases h : p
  · rw [tr_true h, tr_false (fun z => z h)]; rfl
  · rw [tr_false h, tr_true h]; rfl

section
variable {cf : Nat → List Val → Res Val} {ρ : Env} {a b c e : E} {es : List E} {v w : Val} {vs : List Val} {k i j d f : Nat} {p q : Bool}
theorem ev_var (h : getV ρ i k = .ok v) : evalE cf k (.var i) ρ = .ok v := h
theorem ev_ci {i : Int} : evalE cf k (.cst (.int i)) ρ = .ok (enc i) := rfl
theorem ev_cb {i : Bool} : evalE cf k (.cst (.bool i)) ρ = .ok (.bool i) := rfl
theorem ev_cst : evalE cf k (.cst v) ρ = .ok v := rfl
/-! tests -/
theorem eb_eq {α : Type} {i : Enc α} {x y : α} (h : evalE cf 9 a ρ = .ok (i.enc x)) (h2 : evalE cf 9 b ρ = .ok (i.enc y)) (hd : i.dep ≤ 64) : evalE cf k (.op .eq [a, b]) ρ = .ok (.bool (tr (x = y))) := by
  refine ev2 (o := .eq) h h2 ?_
  have := @den_eq α i (fun a b => Classical.propDecidable _) hd x y
  rw [this]
  rfl
theorem eb_ne {α : Type} {i : Enc α} {x y : α} (h : evalE cf 9 a ρ = .ok (i.enc x)) (h2 : evalE cf 9 b ρ = .ok (i.enc y)) (hd : i.dep ≤ 64) : evalE cf k (.op .ne [a, b]) ρ = .ok (.bool (tr (¬ x = y))) := by
  refine ev2 (o := .ne) h h2 ?_
  have := @den_ne α i (fun a b => Classical.propDecidable _) hd x y
  rw [this, ← not_tr]
  rfl
theorem eb_in {α : Type} {i : Enc α} {x : α} {ys : List α} (h : evalE cf 9 a ρ = .ok (i.enc x)) (h2 : evalE cf 9 b ρ = .ok (encL i ys)) (hd : i.dep + 1 ≤ 64) : evalE cf k (.op .isin [a, b]) ρ = .ok (.bool (tr (x ∈ ys))) := by
  refine ev2 (o := .isin) h h2 ?_
  have := @den_in α i (fun a b => Classical.propDecidable _) hd x ys
  rw [tr_dec (p := x ∈ ys) (i := @List.instDecidableMemOfLawfulBEq α (@instBEqOfDecidableEq α fun a b => Classical.propDecidable _) _ x ys)]
  exact this
theorem eb_notin {α : Type} {i : Enc α} {x : α} {ys : List α} (h : evalE cf 9 a ρ = .ok (i.enc x)) (h2 : evalE cf 9 b ρ = .ok (encL i ys)) (hd : i.dep + 1 ≤ 64) : evalE cf k (.op .notin [a, b]) ρ = .ok (.bool (tr (x ∉ ys))) := by
  refine ev2 (o := .notin) h h2 ?_
  have := @den_notin α i (fun a b => Classical.propDecidable _) hd x ys
  rw [← not_tr, tr_dec (p := x ∈ ys) (i := @List.instDecidableMemOfLawfulBEq α (@instBEqOfDecidableEq α fun a b => Classical.propDecidable _) _ x ys)]
  exact this
theorem eb_lt {x y : Int} (h : evalE cf 9 a ρ = .ok (enc x)) (h2 : evalE cf 9 b ρ = .ok (enc y)) : evalE cf k (.op .lt [a, b]) ρ = .ok (.bool (tr (x < y))) := by
  rw [tr_dec]; exact ev2 (o := .lt) h h2 rfl
theorem eb_le {x y : Int} (h : evalE cf 9 a ρ = .ok (enc x)) (h2 : evalE cf 9 b ρ = .ok (enc y)) : evalE cf k (.op .le [a, b]) ρ = .ok (.bool (tr (x ≤ y))) := by
  rw [tr_dec]; exact ev2 (o := .le) h h2 rfl
theorem eb_gt {x y : Int} (h : evalE cf 9 a ρ = .ok (enc x)) (h2 : evalE cf 9 b ρ = .ok (enc y)) : evalE cf k (.op .gt [a, b]) ρ = .ok (.bool (tr (x > y))) := by
  rw [tr_dec]; exact ev2 (o := .gt) h h2 rfl
theorem eb_ge {x y : Int} (h : evalE cf 9 a ρ = .ok (enc x)) (h2 : evalE cf 9 b ρ = .ok (enc y)) : evalE cf k (.op .ge [a, b]) ρ = .ok (.bool (tr (x ≥ y))) := by
  rw [tr_dec]; exact ev2 (o := .ge) h h2 rfl
theorem eb_not (h : evalE cf 9 a ρ = .ok (.bool p)) : evalE cf k (.op .not [a]) ρ = .ok (.bool (!p)) := ev1 h rfl
theorem eb_and (h : evalE cf 9 a ρ = .ok (.bool p)) (h2 : p = true → evalE cf k b ρ = .ok (.bool q)) : evalE cf k (.and a b) ρ = .ok (.bool (p && q)) := by
  show ((evalE cf 9 a ρ).bind fun x => (asBool x).bind fun t => match t with
    | true => evalE cf k b ρ
    | false => Res.ok (PyData.bool false)) = _
  rw [h]
  cases p with
  | true => exact h2 rfl
  | false => rfl
theorem eb_or (h : evalE cf 9 a ρ = .ok (.bool p)) (h2 : p = false → evalE cf k b ρ = .ok (.bool q)) : evalE cf k (.or a b) ρ = .ok (.bool (p || q)) := by
  show ((evalE cf 9 a ρ).bind fun x => (asBool x).bind fun t => match t with
    | true => Res.ok (PyData.bool true)
    | false => evalE cf k b ρ) = _
  rw [h]
  cases p with
  | true => rfl
  | false => exact h2 rfl
theorem eb_chain_lt {x y z : Int} (h : evalE cf 9 a ρ = .ok (enc x)) (h2 : evalE cf 9 b ρ = .ok (enc y)) (h3 : evalE cf 9 c ρ = .ok (enc z)) : evalE cf k (.chain .le .lt a b c) ρ = .ok (.bool (tr (x ≤ y ∧ y < z))) := by
  have q : tr (x ≤ y ∧ y < z) = (decide (x ≤ y) && decide (y < z)) := by
    rw [tr_dec]
    simp
  rw [q]
  show ((evalE cf 9 a ρ).bind fun x => (evalE cf 9 b ρ).bind fun y => (den .le [x, y]).bind fun r => (asBool r).bind fun t => match t with
    | true => (evalE cf 9 c ρ).bind fun z => den .lt [y, z]
    | false => Res.ok (PyData.bool false)) = _
  rw [h, Res.bind_ok, h2, Res.bind_ok]
  show (match decide (x ≤ y) with
    | true => (evalE cf 9 c ρ).bind fun z => den .lt [enc y, z]
    | false => Res.ok (PyData.bool false)) = _
  cases decide (x ≤ y) with
  | true =>
    show ((evalE cf 9 c ρ).bind fun z => den .lt [enc y, z]) = _
    rw [h3]
    rfl
  | false => rfl
theorem eb_isN (h : evalE cf 9 a ρ = .ok v) : evalE cf k (.op .isNone [a]) ρ = .ok (.bool (isNoneB v)) := ev1 (o := .isNone) h rfl
theorem eb_notN (h : evalE cf 9 a ρ = .ok v) : evalE cf k (.op .notNone [a]) ρ = .ok (.bool (!isNoneB v)) := ev1 (o := .notNone) h rfl
theorem eb_isB {t : Bool} (h : evalE cf 9 a ρ = .ok (.bool p)) : evalE cf k (.op (.isB t) [a]) ρ = .ok (.bool (p == t)) := ev1 (o := .isB t) h rfl
theorem eb_notB {t : Bool} (h : evalE cf 9 a ρ = .ok (.bool p)) : evalE cf k (.op (.notB t) [a]) ρ = .ok (.bool (!(p == t))) := ev1 (o := .notB t) h rfl
theorem eb_enc (h : evalE cf k a ρ = .ok (.bool p)) : evalE cf k a ρ = .ok (encBool.enc p) := h
theorem eb_lend {l : List (Nat × Nat)} (h : evalE cf 9 a (dropL l ρ) = .ok (.bool p)) : evalE cf k (.lend l a) ρ = .ok (.bool p) := by
  show ((evalE cf 9 a (dropL l ρ)).bind fun v => Res.guard (atomV v) (.ok v)) = _
  rw [h]
  rfl
/-! numbers -/
theorem ev_addI {x y : Int} (h : evalE cf 1 a ρ = .ok (enc x)) (h2 : evalE cf 1 b ρ = .ok (enc y)) : evalE cf k (.op .add [a, b]) ρ = .ok (enc (x + y)) := ev2 (o := .add) h h2 rfl
theorem ev_sub {x y : Int} (h : evalE cf 9 a ρ = .ok (enc x)) (h2 : evalE cf 9 b ρ = .ok (enc y)) : evalE cf k (.op .sub [a, b]) ρ = .ok (enc (x - y)) := ev2 (o := .sub) h h2 rfl
theorem ev_mul {x y : Int} (h : evalE cf 9 a ρ = .ok (enc x)) (h2 : evalE cf 9 b ρ = .ok (enc y)) (hx : x.natAbs < 2 ^ 64) (hy : y.natAbs < 2 ^ 64) : evalE cf k (.op .mul [a, b]) ρ = .ok (enc (x * y)) := ev2 (o := .mul) h h2 (den_mul hx hy)
theorem ev_neg {x : Int} (h : evalE cf 9 a ρ = .ok (enc x)) : evalE cf k (.op .neg [a]) ρ = .ok (enc (-x)) := ev1 (o := .neg) h rfl
theorem ev_int {x : Int} (h : evalE cf 9 a ρ = .ok (enc x)) : evalE cf k (.op .int [a]) ρ = .ok (enc x) := ev1 (o := .int) h rfl
theorem ev_intb (h : evalE cf 9 a ρ = .ok (.bool p)) : evalE cf k (.op .int [a]) ρ = .ok (enc (if p then (1 : Int) else 0)) := ev1 (o := .int) h rfl
theorem ev_max {x y : Int} (h : evalE cf 9 a ρ = .ok (enc x)) (h2 : evalE cf 9 b ρ = .ok (enc y)) : evalE cf k (.op .max [a, b]) ρ = .ok (enc (mx x y)) := ev2 (o := .max) h h2 rfl
theorem ev_min {x y : Int} (h : evalE cf 9 a ρ = .ok (enc x)) (h2 : evalE cf 9 b ρ = .ok (enc y)) : evalE cf k (.op .min [a, b]) ρ = .ok (enc (mn x y)) := ev2 (o := .min) h h2 rfl
theorem ev_lenL {α : Type} {i : Enc α} {xs : List α} (h : evalE cf 9 a ρ = .ok (encL i xs)) : evalE cf k (.op .len [a]) ρ = .ok (enc ((xs.length : Nat) : Int)) := by
  have := ev_len (k := k) (l := xs.map i.enc) h
  rw [List.length_map] at this
  exact this
/-! parts of things -/
section
variable {α β γ : Type} {i1 : Enc α} {i2 : Enc β} {i3 : Enc γ}
theorem ev_ta {x : Tr α β γ} (h : evalE cf (k + 1) a ρ = .ok (encT i1 i2 i3 x)) : evalE cf k (.op .idx [a, .cst (.int 0)]) ρ = .ok (i1.enc x.a) := ev2 (o := .idx) h rfl rfl
theorem ev_tb {x : Tr α β γ} (h : evalE cf (k + 1) a ρ = .ok (encT i1 i2 i3 x)) : evalE cf k (.op .idx [a, .cst (.int 1)]) ρ = .ok (i2.enc x.b) := ev2 (o := .idx) h rfl rfl
theorem ev_tc {x : Tr α β γ} (h : evalE cf (k + 1) a ρ = .ok (encT i1 i2 i3 x)) : evalE cf k (.op .idx [a, .cst (.int 2)]) ρ = .ok (i3.enc x.c) := ev2 (o := .idx) h rfl rfl
theorem ev_pa {x : α × β} (h : evalE cf (k + 1) a ρ = .ok (encP i1 i2 x)) : evalE cf k (.op .idx [a, .cst (.int 0)]) ρ = .ok (i1.enc x.1) := ev2 (o := .idx) h rfl rfl
theorem ev_pb {x : α × β} (h : evalE cf (k + 1) a ρ = .ok (encP i1 i2 x)) : evalE cf k (.op .idx [a, .cst (.int 1)]) ρ = .ok (i2.enc x.2) := ev2 (o := .idx) h rfl rfl
theorem ev_ix {xs : List α} {y : Int} {x : α} (h : evalE cf (k + 1) a ρ = .ok (encL i1 xs)) (h2 : evalE cf (k + 1) b ρ = .ok (enc y)) (hx : L2.atI xs y = some x) : evalE cf k (.op .idx [a, b]) ρ = .ok (i1.enc x) := by
  refine ev2 (o := .idx) h h2 ?_
  show ofOpt (L2.atI (xs.map i1.enc) y) = _
  unfold L2.atI at hx ⊢
  rw [List.length_map]
  cases e : L2.ixN xs.length y with
  | none =>
    rw [e] at hx
    cases hx
  | some j =>
    rw [e] at hx
    have hx' : xs[j]? = some x := hx
    show ofOpt ((xs.map i1.enc)[j]?) = _
    rw [List.getElem?_map, hx']
    rfl
theorem ev_pair {x : α} {y : β} (h : evalE cf 0 a ρ = .ok (i1.enc x)) (h2 : evalE cf 0 b ρ = .ok (i2.enc y)) : evalE cf k (.op (.tup [false, false]) [a, b]) ρ = .ok (encP i1 i2 (x, y)) :=
  ev_op (o := .tup [false, false]) (vs := [i1.enc x, i2.enc y]) (evs_cons h (evs_cons h2 evs_nil)) rfl
theorem ev_trip {x : α} {y : β} {z : γ} (h : evalE cf 0 a ρ = .ok (i1.enc x)) (h2 : evalE cf 0 b ρ = .ok (i2.enc y)) (h3 : evalE cf 0 c ρ = .ok (i3.enc z)) : evalE cf k (.op (.tup [false, false, false]) [a, b, c]) ρ = .ok (encT i1 i2 i3 ⟨x, y, z⟩) :=
  ev_op (o := .tup [false, false, false]) (vs := [i1.enc x, i2.enc y, i3.enc z]) (evs_cons h (evs_cons h2 (evs_cons h3 evs_nil))) rfl
theorem ev_l0 : evalE cf k (.op (.lst d []) []) ρ = .ok (encL i1 []) := rfl
theorem ev_l1 {x : α} (h : evalE cf 0 a ρ = .ok (i1.enc x)) : evalE cf k (.op (.lst d [false]) [a]) ρ = .ok (encL i1 [x]) := ev_op (o := .lst d [false]) (vs := [i1.enc x]) (evs_cons h evs_nil) rfl
theorem ev_l2 {x y : α} (h : evalE cf 0 a ρ = .ok (i1.enc x)) (h2 : evalE cf 0 b ρ = .ok (i1.enc y)) : evalE cf k (.op (.lst d [false, false]) [a, b]) ρ = .ok (encL i1 [x, y]) := ev_op (o := .lst d [false, false]) (vs := [i1.enc x, i1.enc y]) (evs_cons h (evs_cons h2 evs_nil)) rfl
theorem ev_addL {xs ys : List α} (h : evalE cf 1 a ρ = .ok (encL i1 xs)) (h2 : evalE cf 1 b ρ = .ok (encL i1 ys)) (hz : xs.length + ys.length ≤ 16777216) : evalE cf k (.op .add [a, b]) ρ = .ok (encL i1 (xs ++ ys)) := by
  refine ev2 (o := .add) h h2 ?_
  have := den_addL (xs := xs.map i1.enc) (ys := ys.map i1.enc) (by simpa using hz)
  rw [← List.map_append] at this
  exact this
theorem ev_listof {xs : List α} (h : evalE cf 1 a ρ = .ok (encL i1 xs)) : evalE cf k (.op .list [a]) ρ = .ok (encL i1 xs) := ev1 (o := .list) h rfl
theorem ev_rev {xs : List α} (h : evalE cf 1 a ρ = .ok (encL i1 xs)) : evalE cf k (.op .rev [a]) ρ = .ok (encL i1 xs.reverse) := by
  refine ev1 (o := .rev) h ?_
  show Res.ok (PyData.list (xs.map i1.enc).reverse) = Res.ok (PyData.list (xs.reverse.map i1.enc))
  rw [List.map_reverse]
theorem ev_sorted {xs : List α} (h : evalE cf 1 a ρ = .ok (encL i1 xs)) (s : Srt α) : evalE cf k (.op .sorted [a]) ρ = .ok (encL i1 (srt xs)) := ev1 (o := .sorted) h (den_sorted xs)
theorem ev_ite {x y : α} (h : evalE cf 9 c ρ = .ok (.bool p)) (h1 : p = true → evalE cf k a ρ = .ok (i1.enc x)) (h2 : p = false → evalE cf k b ρ = .ok (i1.enc y)) : evalE cf k (.ite c a b) ρ = .ok (i1.enc (if p then x else y)) := by
  show ((evalE cf 9 c ρ).bind fun x => (asBool x).bind fun t => match t with
    | true => evalE cf k a ρ
    | false => evalE cf k b ρ) = _
  rw [h]
  cases p with
  | true => exact h1 rfl
  | false => exact h2 rfl
end
/-! ranges -/
theorem rng_eq (lo m : Int) : rng lo m = (fromto lo m).map .int := by
  unfold rng fromto
  rw [List.map_map]
  rfl
theorem den_rng {m : Int} (h0 : -1000000 ≤ m) (hm : m ≤ 1000000) : den .range [.int m] = .ok (.list ((upto m).map .int)) := by
  show Res.guard (small m && sizeOk m.toNat) (Res.ok (PyData.list (rng 0 m))) = _
  have h1 : small m = true := by
    unfold small
    rw [Bool.and_eq_true, decide_eq_true_eq, decide_eq_true_eq]
    constructor <;> omega
  rw [h1, sizeOk_le (by omega), rng_eq]
  have : fromto 0 m = upto m := by
    unfold fromto upto
    simp
  rw [this]
  rfl
theorem den_rng2 {lo m : Int} (h0 : -1000000 ≤ lo) (h1 : lo ≤ 1000000) (h2 : -1000000 ≤ m) (h3 : m ≤ 1000000) : den .range [.int lo, .int m] = .ok (.list ((fromto lo m).map .int)) := by
  show Res.guard (small lo && (small m && sizeOk (m - lo).toNat)) (Res.ok (PyData.list (rng lo m))) = _
  have e1 : small lo = true := by
    unfold small
    rw [Bool.and_eq_true, decide_eq_true_eq, decide_eq_true_eq]
    constructor <;> omega
  have e2 : small m = true := by
    unfold small
    rw [Bool.and_eq_true, decide_eq_true_eq, decide_eq_true_eq]
    constructor <;> omega
  rw [e1, e2, sizeOk_le (by omega), rng_eq]
  rfl
theorem ev_rng {m : Int} (h : evalE cf 9 a ρ = .ok (enc m)) (h0 : -1000000 ≤ m) (hm : m ≤ 1000000) : evalE cf k (.op .range [a]) ρ = .ok (encL instEncInt (upto m)) := ev1 (o := .range) h (den_rng h0 hm)
theorem ev_rng2 {lo m : Int} (h : evalE cf 9 a ρ = .ok (enc lo)) (h' : evalE cf 9 b ρ = .ok (enc m)) (h0 : -1000000 ≤ lo) (h1 : lo ≤ 1000000) (h2 : -1000000 ≤ m) (h3 : m ≤ 1000000) : evalE cf k (.op .range [a, b]) ρ = .ok (encL instEncInt (fromto lo m)) := ev2 (o := .range) h h' (den_rng2 h0 h1 h2 h3)
/-! slices -/
theorem cut_dropN (xs : List Val) (p : Nat) : cut xs (some (p : Int)) none = xs.drop p := by
  unfold cut
  rw [HT.sIx_nat, HT.sIx_none]
  by_cases h : p ≤ xs.length
  · rw [Nat.min_eq_left h]
    exact List.take_of_length_le (by rw [List.length_drop]; omega)
  · rw [Nat.min_eq_right (by omega), List.drop_of_length_le (Nat.le_refl _), List.drop_of_length_le (by omega), List.take_nil]
theorem cut_takeN (xs : List Val) (p : Nat) : cut xs none (some (p : Int)) = xs.take p := by
  unfold cut
  rw [HT.sIx_nat, HT.sIx_none, List.drop_zero, Nat.sub_zero]
  by_cases h : p ≤ xs.length
  · rw [Nat.min_eq_left h]
  · rw [Nat.min_eq_right (by omega), List.take_of_length_le (Nat.le_refl _), List.take_of_length_le (by omega)]
theorem ev_drop {α : Type} {i : Enc α} {xs : List α} {y : Int} (h : evalE cf 1 a ρ = .ok (encL i xs)) (h2 : evalE cf 1 b ρ = .ok (enc y)) (h0 : 0 ≤ y) : evalE cf k (.op (.slice true false) [a, b]) ρ = .ok (encL i (xs.drop y.toNat)) := by
  refine ev2 (o := .slice true false) h h2 ?_
  show Res.ok (PyData.list (cut (xs.map i.enc) (some y) none)) = Res.ok (PyData.list ((xs.drop y.toNat).map i.enc))
  rw [show y = ((y.toNat : Nat) : Int) by omega, cut_dropN, Int.toNat_natCast, List.map_drop]
theorem ev_take {α : Type} {i : Enc α} {xs : List α} {y : Int} (h : evalE cf 1 a ρ = .ok (encL i xs)) (h2 : evalE cf 1 b ρ = .ok (enc y)) (h0 : 0 ≤ y) : evalE cf k (.op (.slice false true) [a, b]) ρ = .ok (encL i (xs.take y.toNat)) := by
  refine ev2 (o := .slice false true) h h2 ?_
  show Res.ok (PyData.list (cut (xs.map i.enc) none (some y))) = Res.ok (PyData.list ((xs.take y.toNat).map i.enc))
  rw [show y = ((y.toNat : Nat) : Int) by omega, cut_takeN, Int.toNat_natCast, List.map_take]
/-! calls -/
theorem ev_call' {es : List E} (h : evalEs cf 0 es ρ = .ok vs) (hc : cf f vs = .ok v) : evalE cf k (.call f es) ρ = .ok v := ev_call h hc
/-! comprehensions: over x, over pairs; without a test, with one; what stays, what is told of it -/
section
variable {α β γ : Type} {i1 : Enc α} {i2 : Enc β} {i3 : Enc γ} {it elt : E} {l : List α} {l2 : List (α × β)} {P : α → Bool} {P2 : α × β → Bool} {h : α → γ} {h2 : α × β → γ} {z z2 : Nat} {ws : List Nat}
theorem ec_filter (hi : evalE cf 1 it ρ = .ok (encL i1 l)) (hz : Nat.blt z (killL ws ρ).length = true) (hc : ∀ x ∈ l, evalE cf 9 c ((killL ws ρ).set z (some (i1.enc x, 0))) = .ok (.bool (P x))) (hl : l.length ≤ 16777216) : evalE cf k (.comp ws d (.var z) (.slot z) it (some c)) ρ = .ok (encL i1 (l.filter P)) := by
  have := comp_eq (cf := cf) (k := k) (d := d) (w := ws) (elt := .var z) (t := .slot z) (it := it) (ifs := some c) (ρ := ρ) (l := l) i1.enc i1.enc P (fun x => x) (fun x => (killL ws ρ).set z (some (i1.enc x, 0))) (seq_of hi) (fun x _ => by
    show Res.guard (Nat.blt z (killL ws ρ).length) _ = _
    rw [hz]
    rfl) (fun x m => evalO_of (hc x m)) (fun x _ _ => by
    show getV ((killL ws ρ).set z (some (i1.enc x, 0))) z 0 = _
    unfold getV
    rw [List.getElem?_set_self (by simpa [Nat.blt_eq] using hz)]
    rfl) hl
  rw [List.map_id'] at this
  exact this
theorem ec_map (hi : evalE cf 1 it ρ = .ok (encL i1 l)) (hz : Nat.blt z (killL ws ρ).length = true) (he : ∀ x ∈ l, evalE cf 0 elt ((killL ws ρ).set z (some (i1.enc x, 0))) = .ok (i3.enc (h x))) (hl : l.length ≤ 16777216) : evalE cf k (.comp ws d elt (.slot z) it none) ρ = .ok (encL i3 (l.map h)) := by
  have := comp_eq (cf := cf) (k := k) (d := d) (w := ws) (elt := elt) (t := .slot z) (it := it) (ifs := none) (ρ := ρ) (l := l) i1.enc i3.enc (fun _ => true) h (fun x => (killL ws ρ).set z (some (i1.enc x, 0))) (seq_of hi) (fun x _ => by
    show Res.guard (Nat.blt z (killL ws ρ).length) _ = _
    rw [hz]
    rfl) (fun x m => rfl) (fun x m _ => he x m) hl
  rw [List.filter_eq_self.mpr fun _ _ => rfl] at this
  exact this
theorem ec_both (hi : evalE cf 1 it ρ = .ok (encL i1 l)) (hz : Nat.blt z (killL ws ρ).length = true) (hc : ∀ x ∈ l, evalE cf 9 c ((killL ws ρ).set z (some (i1.enc x, 0))) = .ok (.bool (P x))) (he : ∀ x ∈ l, P x = true → evalE cf 0 elt ((killL ws ρ).set z (some (i1.enc x, 0))) = .ok (i3.enc (h x))) (hl : l.length ≤ 16777216) : evalE cf k (.comp ws d elt (.slot z) it (some c)) ρ = .ok (encL i3 ((l.filter P).map h)) :=
  comp_eq (cf := cf) (k := k) (d := d) (w := ws) (elt := elt) (t := .slot z) (it := it) (ifs := some c) (ρ := ρ) (l := l) i1.enc i3.enc P h (fun x => (killL ws ρ).set z (some (i1.enc x, 0))) (seq_of hi) (fun x _ => by
    show Res.guard (Nat.blt z (killL ws ρ).length) _ = _
    rw [hz]
    rfl) (fun x m => evalO_of (hc x m)) he hl
theorem bind2 {r : Env} {u v : Val} (hz : Nat.blt z r.length = true) (hz2 : Nat.blt z2 r.length = true) : bindP (.tup [.slot z, .slot z2]) (.tuple [u, v]) r = .ok ((r.set z (some (u, 0))).set z2 (some (v, 0))) := by
  show (Res.guard (Nat.blt z r.length) (Res.ok (r.set z (some (u, 0))))).bind (fun ρ' => (Res.guard (Nat.blt z2 ρ'.length) (Res.ok (ρ'.set z2 (some (v, 0))))).bind fun ρ' => Res.ok ρ') = _
  rw [hz]
  show (Res.guard (Nat.blt z2 (r.set z (some (u, 0))).length) (Res.ok ((r.set z (some (u, 0))).set z2 (some (v, 0))))).bind (fun ρ' => Res.ok ρ') = _
  rw [List.length_set, hz2]
  rfl
theorem ec_map2 (hi : evalE cf 1 it ρ = .ok (encL (instEncProd (α := α) (β := β)) l2)) (hz : Nat.blt z (killL ws ρ).length = true) (hz2 : Nat.blt z2 (killL ws ρ).length = true) (he : ∀ x ∈ l2, evalE cf 0 elt (((killL ws ρ).set z (some (i1.enc x.1, 0))).set z2 (some (i2.enc x.2, 0))) = .ok (i3.enc (h2 x))) (hl : l2.length ≤ 16777216) : evalE cf k (.comp ws d elt (.tup [.slot z, .slot z2]) it none) ρ = .ok (encL i3 (l2.map h2)) := by
  have := comp_eq (cf := cf) (k := k) (d := d) (w := ws) (elt := elt) (t := .tup [.slot z, .slot z2]) (it := it) (ifs := none) (ρ := ρ) (l := l2) (encP i1 i2) i3.enc (fun _ => true) h2 (fun x => ((killL ws ρ).set z (some (i1.enc x.1, 0))).set z2 (some (i2.enc x.2, 0))) (seq_of hi) (fun x _ => bind2 hz hz2) (fun x m => rfl) (fun x m _ => he x m) hl
  rw [List.filter_eq_self.mpr fun _ _ => rfl] at this
  exact this
theorem ec_both2 (hi : evalE cf 1 it ρ = .ok (encL (instEncProd (α := α) (β := β)) l2)) (hz : Nat.blt z (killL ws ρ).length = true) (hz2 : Nat.blt z2 (killL ws ρ).length = true) (hc : ∀ x ∈ l2, evalE cf 9 c (((killL ws ρ).set z (some (i1.enc x.1, 0))).set z2 (some (i2.enc x.2, 0))) = .ok (.bool (P2 x)))
    (he : ∀ x ∈ l2, P2 x = true → evalE cf 0 elt (((killL ws ρ).set z (some (i1.enc x.1, 0))).set z2 (some (i2.enc x.2, 0))) = .ok (i3.enc (h2 x))) (hl : l2.length ≤ 16777216) : evalE cf k (.comp ws d elt (.tup [.slot z, .slot z2]) it (some c)) ρ = .ok (encL i3 ((l2.filter P2).map h2)) :=
  comp_eq (cf := cf) (k := k) (d := d) (w := ws) (elt := elt) (t := .tup [.slot z, .slot z2]) (it := it) (ifs := some c) (ρ := ρ) (l := l2) (encP i1 i2) i3.enc P2 h2 (fun x => ((killL ws ρ).set z (some (i1.enc x.1, 0))).set z2 (some (i2.enc x.2, 0))) (seq_of hi) (fun x _ => bind2 hz hz2) (fun x m => evalO_of (hc x m)) he hl
/-- all([test for x in xs]) -/
theorem boolsOf_enc : ∀ bs : List Bool, boolsOf (bs.map encBool.enc) = some bs := boolsOf_bools
theorem eb_all {bs : List Bool} (hi : evalE cf 9 a ρ = .ok (encL encBool bs)) : evalE cf k (.op .all [a]) ρ = .ok (.bool (bs.all id)) := ev1 (o := .all) hi (den_all bs)
theorem eb_any {bs : List Bool} (hi : evalE cf 9 a ρ = .ok (encL encBool bs)) : evalE cf k (.op .any [a]) ρ = .ok (.bool (bs.any id)) := by
  refine ev1 (o := .any) hi ?_
  show (match boolsOf (bs.map encBool.enc) with
    | some bs => Res.ok (PyData.bool (bs.any id))
    | none => .bad) = _
  rw [boolsOf_enc]
end
end

/-! how long a list may be -/
theorem len_filter {α : Type} {P : α → Bool} {l : List α} {n : Nat} (h : l.length ≤ n) : (l.filter P).length ≤ n := Nat.le_trans (List.length_filter_le _ _) h
theorem len_map {α β : Type} {f : α → β} {l : List α} {n : Nat} (h : l.length ≤ n) : (l.map f).length ≤ n := by rw [List.length_map]; exact h
theorem len_srt {α : Type} [Enc α] {l : List α} {n : Nat} (h : l.length ≤ n) : (srt l).length ≤ n := by rw [srt_length]; exact h
theorem len_upto {m : Int} {n : Nat} (h : m ≤ n) : (upto m).length ≤ n := by rw [upto_length]; omega
theorem len_fromto {lo m : Int} {n : Nat} (h : m - lo ≤ n) : (fromto lo m).length ≤ n := by unfold fromto; rw [List.length_map, List.length_range]; omega
theorem len_app {α : Type} {l m : List α} {n : Nat} (h : l.length ≤ n / 2) (h2 : m.length ≤ n / 2) : (l ++ m).length ≤ n := by rw [List.length_append]; omega
theorem len_sum {a b n : Nat} (h : a ≤ n / 2) (h2 : b ≤ n / 2) : a + b ≤ n := by omega
theorem len_drop {α : Type} {l : List α} {k n : Nat} (h : l.length ≤ n) : (l.drop k).length ≤ n := by rw [List.length_drop]; omega
theorem len_take {α : Type} {l : List α} {k n : Nat} (h : l.length ≤ n) : (l.take k).length ≤ n := by rw [List.length_take]; omega
theorem len_rev {α : Type} {l : List α} {n : Nat} (h : l.length ≤ n) : l.reverse.length ≤ n := by rw [List.length_reverse]; exact h
theorem len_nil {α : Type} {n : Nat} : ([] : List α).length ≤ n := Nat.zero_le _
theorem len_cons {α : Type} {x : α} {l : List α} {n : Nat} (h : l.length ≤ n - 1) (h0 : 0 < n) : (x :: l).length ≤ n := by rw [List.length_cons]; omega

end VL

/-! plain side: sets as ascending lists; statements -/
namespace VL
open PySem
open Enc
local macro_rules | `(tactic| walk_at "sz") => `(tactic| (first
  | assumption
  | omega
  | exact len_nil
  | ((with_reducible apply len_filter); walk_at "sz")
  | ((with_reducible apply len_map); walk_at "sz")
  | ((with_reducible apply len_srt); walk_at "sz")
  | ((with_reducible apply len_asc); omega)
  | ((with_reducible apply len_upto); omega)
  | ((with_reducible apply len_fromto); omega)
  | ((with_reducible apply len_app); (walk_at "sz"); (walk_at "sz"))
  | ((with_reducible apply len_sum); (walk_at "sz"); (walk_at "sz"))
  | ((with_reducible apply len_drop); walk_at "sz")
  | ((with_reducible apply len_take); walk_at "sz")
  | ((with_reducible apply len_rev); walk_at "sz")
  | ((with_reducible apply len_cons); (walk_at "sz"); (omega))))
local macro_rules | `(tactic| walk_at "call") => `(tactic| (first | assumption | solve_by_elim))
local macro_rules | `(tactic| walk_at "args") => `(tactic| (first
  | exact evs_nil
  | ((with_reducible apply evs_cons); (walk_at "ev"); (walk_at "args"))))
local macro_rules | `(tactic| walk_at "ev") => `(tactic| (first
  | ((with_reducible apply ev_var); rfl)
  | (with_reducible exact ev_ci)
  | (with_reducible exact ev_cb)
  | (with_reducible exact ev_cst)
  | ((with_reducible apply ev_call'); (walk_at "args"); (walk_at "call"))
  | ((with_reducible apply eb_and); (walk_at "ev"); (intro _; walk_at "ev"))
  | ((with_reducible apply eb_or); (walk_at "ev"); (intro _; walk_at "ev"))
  | ((with_reducible apply eb_not); (walk_at "ev"))
  | ((with_reducible apply eb_in); (walk_at "ev"); (walk_at "ev"); decide)
  | ((with_reducible apply eb_notin); (walk_at "ev"); (walk_at "ev"); decide)
  | ((with_reducible apply eb_eq); (walk_at "ev"); (walk_at "ev"); decide)
  | ((with_reducible apply eb_ne); (walk_at "ev"); (walk_at "ev"); decide)
  | ((with_reducible apply eb_lt); (walk_at "ev"); (walk_at "ev"))
  | ((with_reducible apply eb_le); (walk_at "ev"); (walk_at "ev"))
  | ((with_reducible apply eb_gt); (walk_at "ev"); (walk_at "ev"))
  | ((with_reducible apply eb_ge); (walk_at "ev"); (walk_at "ev"))
  | ((with_reducible apply eb_chain_lt); (walk_at "ev"); (walk_at "ev"); (walk_at "ev"))
  | ((with_reducible apply eb_isN); (walk_at "ev"))
  | ((with_reducible apply eb_notN); (walk_at "ev"))
  | ((with_reducible apply eb_isB); (walk_at "ev"))
  | ((with_reducible apply eb_notB); (walk_at "ev"))
  | ((with_reducible apply eb_lend); (walk_at "ev"))
  | ((with_reducible apply eb_all); (walk_at "ev"))
  | ((with_reducible apply eb_any); (walk_at "ev"))
  | ((with_reducible apply ev_lenL); (walk_at "ev"))
  | ((with_reducible apply ev_neg); (walk_at "ev"))
  | ((with_reducible apply ev_sub); (walk_at "ev"); (walk_at "ev"))
  | ((with_reducible apply ev_addI); (walk_at "ev"); (walk_at "ev"))
  | ((with_reducible apply ev_addL); (walk_at "ev"); (walk_at "ev"); (walk_at "sz"))
  | ((with_reducible apply ev_mul); (walk_at "ev"); (walk_at "ev"); omega; omega)
  | ((with_reducible apply ev_int); (walk_at "ev"))
  | ((with_reducible apply ev_intb); (walk_at "ev"))
  | ((with_reducible apply ev_max); (walk_at "ev"); (walk_at "ev"))
  | ((with_reducible apply ev_min); (walk_at "ev"); (walk_at "ev"))
  | ((with_reducible apply ev_ta); (walk_at "ev"))
  | ((with_reducible apply ev_tb); (walk_at "ev"))
  | ((with_reducible apply ev_tc); (walk_at "ev"))
  | ((with_reducible apply ev_pa); (walk_at "ev"))
  | ((with_reducible apply ev_pb); (walk_at "ev"))
  | ((with_reducible apply ev_ix); (walk_at "ev"); (walk_at "ev"); (assumption))
  | ((with_reducible apply ev_pair); (walk_at "ev"); (walk_at "ev"))
  | ((with_reducible apply ev_trip); (walk_at "ev"); (walk_at "ev"); (walk_at "ev"))
  | ((with_reducible apply ev_l1); (walk_at "ev"))
  | ((with_reducible apply ev_l2); (walk_at "ev"); (walk_at "ev"))
  | ((with_reducible apply ev_rng); (walk_at "ev"); omega; omega)
  | ((with_reducible apply ev_rng2); (walk_at "ev"); (walk_at "ev"); omega; omega; omega; omega)
  | ((with_reducible apply ev_listof); (walk_at "ev"))
  | ((with_reducible apply ev_rev); (walk_at "ev"))
  | ((with_reducible apply ev_drop); (walk_at "ev"); (walk_at "ev"); omega)
  | ((with_reducible apply ev_take); (walk_at "ev"); (walk_at "ev"); omega)
  | ((with_reducible apply ev_sorted); (walk_at "ev"); (first | infer_instance | assumption))
  | ((with_reducible apply ec_filter); (walk_at "ev"); rfl; (intro _ _; walk_at "ev"); (walk_at "sz"))
  | ((with_reducible apply ec_map2); (walk_at "ev"); rfl; rfl; (intro _ _; walk_at "ev"); (walk_at "sz"))
  | ((with_reducible apply ec_both2); (walk_at "ev"); rfl; rfl; (intro _ _; walk_at "ev"); (intro _ _ _; walk_at "ev"); (walk_at "sz"))
  | ((with_reducible apply ec_map); (walk_at "ev"); rfl; (intro _ _; walk_at "ev"); (walk_at "sz"))
  | ((with_reducible apply ec_both); (walk_at "ev"); rfl; (intro _ _; walk_at "ev"); (intro _ _ _; walk_at "ev"); (walk_at "sz"))
  | (with_reducible exact ev_l0)
  | ((with_reducible apply ev_ite); (walk_at "ev"); (intro _; walk_at "ev"); (intro _; walk_at "ev"))))

/-- the ascending list of all below m with P -/
noncomputable def asc (m : Int) (P : Int → Prop) : List Int := (upto m).filter fun x => tr (P x)
theorem upto_sorted (m : Int) : (upto m).Pairwise (· < ·) := by
  unfold upto
  refine List.Pairwise.map (R := fun a b => a < b) _ (fun a b h => ?_) List.pairwise_lt_range
  omega
section
variable {m : Int} {P Q : Int → Prop} {x : Int} {l : List Int}
theorem mem_asc : x ∈ asc m P ↔ (0 ≤ x ∧ x < m) ∧ P x := by
  unfold asc
  rw [List.mem_filter, mem_upto, tr_iff]
theorem asc_sorted : (asc m P).Pairwise (· < ·) := (upto_sorted m).filter _
theorem asc_inR : InR m (asc m P) := fun x h => (mem_asc.mp h).1
theorem asc_len : (asc m P).length ≤ m.toNat := below_len (nodup_of_sorted asc_sorted) asc_inR
theorem len_asc {n : Nat} (h : m ≤ n) : (asc m P).length ≤ n := Nat.le_trans asc_len (by omega)
theorem asc_ext {l l' : List Int} (h : l.Pairwise (· < ·)) (h' : l'.Pairwise (· < ·)) (e : ∀ x, x ∈ l ↔ x ∈ l') : l = l' := by
  induction l generalizing l' with
  | nil =>
    cases l' with
    | nil => rfl
    | cons y l' => exact absurd ((e y).mpr List.mem_cons_self) (by simp)
  | cons a l ih =>
    cases l' with
    | nil => exact absurd ((e a).mp List.mem_cons_self) (by simp)
    | cons b l' =>
      obtain ⟨h1, h2⟩ := List.pairwise_cons.mp h
      obtain ⟨h3, h4⟩ := List.pairwise_cons.mp h'
      have hab : a = b := by
        rcases List.mem_cons.mp ((e a).mp List.mem_cons_self) with q | q
        · exact q
        · rcases List.mem_cons.mp ((e b).mpr List.mem_cons_self) with r | r
          · exact r.symm
          · have := h3 a q
            have := h1 b r
            omega
      subst hab
      refine congrArg _ (ih h2 h4 fun x => ?_)
      constructor
      · intro hx
        rcases List.mem_cons.mp ((e x).mp (List.mem_cons_of_mem _ hx)) with q | q
        · have := h1 x hx
          omega
        · exact q
      · intro hx
        rcases List.mem_cons.mp ((e x).mpr (List.mem_cons_of_mem _ hx)) with q | q
        · have := h3 x hx
          omega
        · exact q
theorem asc_eq (h : l.Pairwise (· < ·)) (hm : ∀ x, x ∈ l ↔ (0 ≤ x ∧ x < m) ∧ P x) : l = asc m P := asc_ext h asc_sorted fun x => (hm x).trans mem_asc.symm
theorem asc_congr (h : ∀ x, 0 ≤ x → x < m → (P x ↔ Q x)) : asc m P = asc m Q := asc_ext asc_sorted asc_sorted fun x => by
  rw [mem_asc, mem_asc]
  constructor
  · exact fun q => ⟨q.1, (h x q.1.1 q.1.2).mp q.2⟩
  · exact fun q => ⟨q.1, (h x q.1.1 q.1.2).mpr q.2⟩
theorem asc_self (h : l.Pairwise (· < ·)) (hi : InR m l) : asc m (· ∈ l) = l := asc_ext asc_sorted h fun x => by
  rw [mem_asc]
  exact ⟨fun q => q.2, fun q => ⟨hi x q, q⟩⟩
theorem asc_upto : asc m (fun _ => True) = upto m := asc_ext asc_sorted (upto_sorted m) fun x => by
  rw [mem_asc, mem_upto]
  simp
end

/-! ### statements -/
section
variable {cf : Nat → List Val → Res Val} {ρ ρ' : Env} {ss a b : List S} {r : Res Out} {c : E} {v w : Val} {i d : Nat} {p : Bool}
theorem st_set (e : evalE cf 0 c ρ = .ok v) (hl : Nat.blt i ρ.length = true) (hρ : ρ.set i (some (v, d)) = ρ') (h2 : evalSs cf ss ρ' = r) : evalSs cf (.set i c d :: ss) ρ = r := by
  subst hρ
  exact ss_set e h2 hl
theorem st_frz {l : List (Nat × Nat)} (hρ : dropL l ρ = ρ') (h2 : evalSs cf ss ρ' = r) : evalSs cf (.frz l :: ss) ρ = r := by
  subst hρ
  exact ss_cons (ρ' := dropL l ρ) rfl h2
theorem st_expr (e : evalE cf 0 c ρ = .ok v) (h2 : evalSs cf ss ρ = r) : evalSs cf (.expr c :: ss) ρ = r := ss_expr e h2
theorem st_asg {q : Pat} (e : evalE cf 0 c ρ = .ok v) (hb : bindP q v ρ = .ok ρ') (h2 : evalSs cf ss ρ' = r) : evalSs cf (.asg q c :: ss) ρ = r := ss_asg e hb h2
theorem st_ifr (e : evalE cf 9 c ρ = .ok (.bool p)) (h1 : p = true → evalSs cf a ρ = .ok (.rt v)) (h2 : p = false → evalSs cf ss ρ = .ok (.rt v)) : evalSs cf (.iff c a [] :: ss) ρ = .ok (.rt v) := by
  cases p with
  | true =>
    refine ss_ifT e ?_
    rw [h1 rfl]
    rfl
  | false => exact ss_ifF e (h2 rfl)
theorem st_ifT (e : evalE cf 9 c ρ = .ok (.bool p)) (hp : p = true) (h1 : evalSs cf a ρ = .ok (.rt v)) : evalSs cf (.iff c a b :: ss) ρ = .ok (.rt v) := by
  subst hp
  refine ss_ifT e ?_
  rw [h1]
  rfl
theorem st_ifF (e : evalE cf 9 c ρ = .ok (.bool p)) (hp : p = false) (h2 : evalSs cf ss ρ = r) : evalSs cf (.iff c a [] :: ss) ρ = r := by
  subst hp
  exact ss_ifF e h2
theorem st_ifTn (e : evalE cf 9 c ρ = .ok (.bool true)) (h1 : evalSs cf a ρ = .ok (.nx ρ')) (h2 : evalSs cf ss ρ' = r) : evalSs cf (.iff c a b :: ss) ρ = r := by
  refine ss_ifT e ?_
  rw [h1]
  exact h2
theorem st_ifn (e : evalE cf 9 c ρ = .ok (.bool p)) (h1 : p = true → evalSs cf a ρ = .ok (.nx ρ')) (h2 : p = false → evalSs cf b ρ = .ok (.nx ρ')) (h3 : evalSs cf ss ρ' = r) : evalSs cf (.iff c a b :: ss) ρ = r := by
  cases p with
  | true =>
    refine ss_ifT e ?_
    rw [h1 rfl]
    exact h3
  | false =>
    refine ss_ifF e ?_
    rw [h2 rfl]
    exact h3
theorem st_app {α : Type} {i1 : Enc α} {xs : List α} {x : α} {t : Nat} (he : evalE cf 0 c ρ = .ok (i1.enc x)) (ho : getOwn ρ i (d + 1) = .ok (xs.map i1.enc, t)) (hz : xs.length + 1 ≤ 16777216) (hρ : ρ.set i (some (encL i1 (xs ++ [x]), d + 1)) = ρ') (h2 : evalSs cf ss ρ' = r) : evalSs cf (.app i c d :: ss) ρ = r := by
  subst hρ
  refine ss_app he ho (by rw [List.length_map]; exact hz) ?_
  rw [← h2]
  congr 4
  show PyData.list (xs.map i1.enc ++ [i1.enc x]) = PyData.list ((xs ++ [x]).map i1.enc)
  rw [List.map_append]
  rfl
theorem st_fold {α σ J : Type} {t : Pat} {it : E} {body : List S} {l : List α} (i1 : Enc α) (hi : evalE cf 0 it ρ = .ok (encL i1 l)) (E : σ → J → Env) (f : σ → α → σ) (s0 : σ) (j0 : J) (hρ : ρ = E s0 j0)
    (hb : ∀ pre x post j, l = pre ++ x :: post → ∃ j' ρ', bindP t (i1.enc x) (E (pre.foldl f s0) j) = .ok ρ' ∧ evalSs cf body ρ' = .ok (.nx (E (f (pre.foldl f s0) x) j'))) (h2 : ∀ j, evalSs cf ss (E (l.foldl f s0) j) = r) : evalSs cf (.for t it body :: ss) ρ = r :=
  ss_for i1.enc (seq_of hi) E (fun pre s => s = pre.foldl f s0) s0 j0 hρ rfl (fun pre x post s j hl hs => by
    subst hs
    obtain ⟨j', ρ', h1, h3⟩ := hb pre x post j hl
    exact ⟨_, j', ρ', h1, h3, by rw [List.foldl_append]; rfl⟩) fun s j hs => by
    subst hs
    exact h2 j
end
end VL

/-! plain side: parts, ancestors, districts, as functions -/
namespace VL
open PySem
open Enc
local macro_rules | `(tactic| walk_at "sz") => `(tactic| (first
  | assumption
  | omega
  | exact len_nil
  | ((with_reducible apply len_filter); walk_at "sz")
  | ((with_reducible apply len_map); walk_at "sz")
  | ((with_reducible apply len_srt); walk_at "sz")
  | ((with_reducible apply len_asc); omega)
  | ((with_reducible apply len_upto); omega)
  | ((with_reducible apply len_fromto); omega)
  | ((with_reducible apply len_app); (walk_at "sz"); (walk_at "sz"))
  | ((with_reducible apply len_sum); (walk_at "sz"); (walk_at "sz"))
  | ((with_reducible apply len_drop); walk_at "sz")
  | ((with_reducible apply len_take); walk_at "sz")
  | ((with_reducible apply len_rev); walk_at "sz")
  | ((with_reducible apply len_cons); (walk_at "sz"); (omega))))
local macro_rules | `(tactic| walk_at "call") => `(tactic| (first | assumption | solve_by_elim))
local macro_rules | `(tactic| walk_at "args") => `(tactic| (first
  | exact evs_nil
  | ((with_reducible apply evs_cons); (walk_at "ev"); (walk_at "args"))))
local macro_rules | `(tactic| walk_at "ev") => `(tactic| (first
  | ((with_reducible apply ev_var); rfl)
  | (with_reducible exact ev_ci)
  | (with_reducible exact ev_cb)
  | (with_reducible exact ev_cst)
  | ((with_reducible apply ev_call'); (walk_at "args"); (walk_at "call"))
  | ((with_reducible apply eb_and); (walk_at "ev"); (intro _; walk_at "ev"))
  | ((with_reducible apply eb_or); (walk_at "ev"); (intro _; walk_at "ev"))
  | ((with_reducible apply eb_not); (walk_at "ev"))
  | ((with_reducible apply eb_in); (walk_at "ev"); (walk_at "ev"); decide)
  | ((with_reducible apply eb_notin); (walk_at "ev"); (walk_at "ev"); decide)
  | ((with_reducible apply eb_eq); (walk_at "ev"); (walk_at "ev"); decide)
  | ((with_reducible apply eb_ne); (walk_at "ev"); (walk_at "ev"); decide)
  | ((with_reducible apply eb_lt); (walk_at "ev"); (walk_at "ev"))
  | ((with_reducible apply eb_le); (walk_at "ev"); (walk_at "ev"))
  | ((with_reducible apply eb_gt); (walk_at "ev"); (walk_at "ev"))
  | ((with_reducible apply eb_ge); (walk_at "ev"); (walk_at "ev"))
  | ((with_reducible apply eb_chain_lt); (walk_at "ev"); (walk_at "ev"); (walk_at "ev"))
  | ((with_reducible apply eb_isN); (walk_at "ev"))
  | ((with_reducible apply eb_notN); (walk_at "ev"))
  | ((with_reducible apply eb_isB); (walk_at "ev"))
  | ((with_reducible apply eb_notB); (walk_at "ev"))
  | ((with_reducible apply eb_lend); (walk_at "ev"))
  | ((with_reducible apply eb_all); (walk_at "ev"))
  | ((with_reducible apply eb_any); (walk_at "ev"))
  | ((with_reducible apply ev_lenL); (walk_at "ev"))
  | ((with_reducible apply ev_neg); (walk_at "ev"))
  | ((with_reducible apply ev_sub); (walk_at "ev"); (walk_at "ev"))
  | ((with_reducible apply ev_addI); (walk_at "ev"); (walk_at "ev"))
  | ((with_reducible apply ev_addL); (walk_at "ev"); (walk_at "ev"); (walk_at "sz"))
  | ((with_reducible apply ev_mul); (walk_at "ev"); (walk_at "ev"); omega; omega)
  | ((with_reducible apply ev_int); (walk_at "ev"))
  | ((with_reducible apply ev_intb); (walk_at "ev"))
  | ((with_reducible apply ev_max); (walk_at "ev"); (walk_at "ev"))
  | ((with_reducible apply ev_min); (walk_at "ev"); (walk_at "ev"))
  | ((with_reducible apply ev_ta); (walk_at "ev"))
  | ((with_reducible apply ev_tb); (walk_at "ev"))
  | ((with_reducible apply ev_tc); (walk_at "ev"))
  | ((with_reducible apply ev_pa); (walk_at "ev"))
  | ((with_reducible apply ev_pb); (walk_at "ev"))
  | ((with_reducible apply ev_ix); (walk_at "ev"); (walk_at "ev"); (assumption))
  | ((with_reducible apply ev_pair); (walk_at "ev"); (walk_at "ev"))
  | ((with_reducible apply ev_trip); (walk_at "ev"); (walk_at "ev"); (walk_at "ev"))
  | ((with_reducible apply ev_l1); (walk_at "ev"))
  | ((with_reducible apply ev_l2); (walk_at "ev"); (walk_at "ev"))
  | ((with_reducible apply ev_rng); (walk_at "ev"); omega; omega)
  | ((with_reducible apply ev_rng2); (walk_at "ev"); (walk_at "ev"); omega; omega; omega; omega)
  | ((with_reducible apply ev_listof); (walk_at "ev"))
  | ((with_reducible apply ev_rev); (walk_at "ev"))
  | ((with_reducible apply ev_drop); (walk_at "ev"); (walk_at "ev"); omega)
  | ((with_reducible apply ev_take); (walk_at "ev"); (walk_at "ev"); omega)
  | ((with_reducible apply ev_sorted); (walk_at "ev"); (first | infer_instance | assumption))
  | ((with_reducible apply ec_filter); (walk_at "ev"); rfl; (intro _ _; walk_at "ev"); (walk_at "sz"))
  | ((with_reducible apply ec_map2); (walk_at "ev"); rfl; rfl; (intro _ _; walk_at "ev"); (walk_at "sz"))
  | ((with_reducible apply ec_both2); (walk_at "ev"); rfl; rfl; (intro _ _; walk_at "ev"); (intro _ _ _; walk_at "ev"); (walk_at "sz"))
  | ((with_reducible apply ec_map); (walk_at "ev"); rfl; (intro _ _; walk_at "ev"); (walk_at "sz"))
  | ((with_reducible apply ec_both); (walk_at "ev"); rfl; (intro _ _; walk_at "ev"); (intro _ _ _; walk_at "ev"); (walk_at "sz"))
  | (with_reducible exact ev_l0)
  | ((with_reducible apply ev_ite); (walk_at "ev"); (intro _; walk_at "ev"); (intro _; walk_at "ev"))))

section
variable {Pr : Prog} {n : Nat} {d : Dr} {A S : List Int} {v x y : Int}
noncomputable def arrIn (d : Dr) (A : List Int) : List Pt := d.b.filter fun p => tr (p.1 ∈ A) && tr (p.2 ∈ A)
noncomputable def partD (d : Dr) (A : List Int) : Dr := ⟨d.a, arrIn d A, d.c.filter fun p => tr (p.1 ∈ A) && tr (p.2 ∈ A)⟩
theorem mem_arrIn {p : Pt} : p ∈ arrIn d A ↔ p ∈ d.b ∧ p.1 ∈ A ∧ p.2 ∈ A := by
  unfold arrIn
  rw [List.mem_filter, Bool.and_eq_true, tr_iff, tr_iff]
theorem Tame.part (T : Tame d) (A : List Int) : Tame (partD d A) where
  m := T.m
  arr := fun p hp => T.arr p (List.mem_filter.mp hp).1
  tie := fun p hp => T.tie p (List.mem_filter.mp hp).1
  zb := Nat.le_trans (List.length_filter_le _ _) T.zb
  zc := Nat.le_trans (List.length_filter_le _ _) T.zc
theorem ev_part_of (h : Pr 16 = some k_part_of) (T : Tame d) : evalD Pr (n + 1) 16 [enc d, enc A] = .ok (enc (partD d A)) := by
  have zb := T.zb
  have zc := T.zc
  refine evalD_rt h rfl ?_
  refine st_asg (v := enc d) rfl rfl ?_
  refine st_set (v := enc (arrIn d A)) ?_ rfl rfl (st_frz rfl (ss_ret ?_))
  · have : evalE (evalD Pr n) 0 (.comp [6, 7] 0 (.op (.tup [false, false]) [(.var 6), (.var 7)]) (.tup [(.slot 6), (.slot 7)]) (.var 4) (some (.and (.op .isin [(.var 6), (.var 1)]) (.op .isin [(.var 7), (.var 1)])))) [some (enc d, 0), some (enc A, 0), none, some (enc d.a, 0), some (enc d.b, 0), some (enc d.c, 0), none, none] = .ok (encL instEncProd ((d.b.filter fun p => tr (p.1 ∈ A) && tr (p.2 ∈ A)).map fun p => (p.1, p.2))) := by
      walk_at "ev"
    rw [List.map_id'' fun _ => rfl] at this
    exact this
  · have : evalE (evalD Pr n) 0 (.comp [6, 7] 0 (.op (.tup [false, false]) [(.var 6), (.var 7)]) (.tup [(.slot 6), (.slot 7)]) (.var 5) (some (.and (.op .isin [(.var 6), (.var 1)]) (.op .isin [(.var 7), (.var 1)])))) [some (enc d, 0), some (enc A, 0), some (enc (arrIn d A), 0), some (enc d.a, 0), some (enc d.b, 0), some (enc d.c, 0), none, none] = .ok (encL instEncProd ((d.c.filter fun p => tr (p.1 ∈ A) && tr (p.2 ∈ A)).map fun p => (p.1, p.2))) := by
      walk_at "ev"
    rw [List.map_id'' fun _ => rfl] at this
    exact ev_trip (i1 := instEncInt) (x := d.a) rfl (i2 := instEncList) (y := arrIn d A) rfl this
/-- what is reached, as a set -/
theorem ev_reached' (h4 : Pr 4 = some k_reached) {R : List Pt} {m : Int} (hm : m ≤ 60) (hR : InP m R) (hS : InR m S) (zR : R.length ≤ 100000) (zS : S.length ≤ 100000) : evalD Pr (n + 1) 4 [enc R, enc S] = .ok (enc (asc m (Clo R S))) := by
  obtain ⟨f, e1, e2, e3⟩ := ev_reached (n := n) h4 hm hR hS zR zS
  rw [e1]
  rw [asc_eq (m := m) (P := Clo R S) e2 fun x => ⟨fun q => ⟨((e3 x).mp q).inR hR hS, (e3 x).mp q⟩, fun q => (e3 x).mpr q.2⟩]
noncomputable def ancF (d : Dr) (S : List Int) : List Int := asc d.a (Clo (flip d.b) S)
theorem ev_anc (h4 : Pr 4 = some k_reached) (h : Pr 28 = some k_ancestors_of) (T : Tame d) (hS : InR d.a S) (zS : S.length ≤ 100000) : evalD Pr (n + 2) 28 [enc d, enc S] = .ok (enc (ancF d S)) := by
  obtain ⟨f, e1, e2, e3⟩ := ev_ancestors (n := n) h4 h T hS zS
  rw [e1]
  unfold ancF
  rw [asc_eq (m := d.a) (P := Clo (flip d.b) S) e2 fun x => ⟨fun q => ⟨((e3 x).mp q).inR (inP_flip T.arr) hS, (e3 x).mp q⟩, fun q => (e3 x).mpr q.2⟩]
/-- the district of v in the part on A -/
noncomputable def dist (d : Dr) (A : List Int) (v : Int) : List Int := asc d.a (Clo (bothIn d A) [v])
open Classical in
noncomputable def blk (D : Int → List Int) (acc : List (List Int)) (v : Int) : List (List Int) := if acc.filter (fun b => tr (v ∈ b)) = [] then acc ++ [D v] else acc
noncomputable def distr (d : Dr) (A : List Int) : List (List Int) := srt (A.foldl (blk (dist d A)) [])
theorem blk_len {D : Int → List Int} : ∀ (l : List Int) (acc : List (List Int)), (l.foldl (blk D) acc).length ≤ acc.length + l.length
  | [], acc => Nat.le_refl _
  | v :: l, acc => by
    have := blk_len (D := D) l (blk D acc v)
    have h2 : (blk D acc v).length ≤ acc.length + 1 := by
      unfold blk
      split
      · rw [List.length_append]; exact Nat.le_refl _
      · omega
    rw [List.foldl_cons, List.length_cons]
    omega
theorem Tame.both (T : Tame d) (A : List Int) : InP d.a (bothIn d A) ∧ (bothIn d A).length ≤ 100000 := by
  have zt : (tiesIn d A).length ≤ 1000 := Nat.le_trans (List.length_filter_le _ _) T.zc
  have zf : (flip (tiesIn d A)).length ≤ 1000 := by simpa [flip] using zt
  refine ⟨fun p hp => ?_, ?_⟩
  · rcases List.mem_append.mp hp with hp | hp
    · exact T.tie p (List.mem_filter.mp hp).1
    · exact inP_flip (R := tiesIn d A) (fun q hq => T.tie q (List.mem_filter.mp hq).1) p hp
  · unfold bothIn
    rw [List.length_append]
    omega
theorem inR_one (hv : 0 ≤ v ∧ v < d.a) : InR d.a [v] := fun x hx => by
  rcases List.mem_cons.mp hx with e | e
  · rw [e]
    exact hv
  · cases e
theorem tiesIn_tr : tiesIn d A = d.c.filter fun p => tr (p.1 ∈ A) && tr (p.2 ∈ A) := List.filter_congr fun p _ => by rw [tr_dec, tr_dec]
theorem ev_distr (h4 : Pr 4 = some k_reached) (h : Pr 32 = some k_districts_of) (T : Tame d) (hA : InR d.a A) (zA : A.length ≤ 1000) : evalD Pr (n + 2) 32 [enc d, enc A] = .ok (enc (distr d A)) := by
  have zb := T.zb
  have zc := T.zc
  have zt : (tiesIn d A).length ≤ 1000 := Nat.le_trans (List.length_filter_le _ _) T.zc
  obtain ⟨iB, zB⟩ := T.both A
  have fD : ∀ v ∈ A, evalD Pr (n + 1) 4 [enc (bothIn d A), enc [v]] = .ok (enc (dist d A v)) := fun v hv => ev_reached' h4 T.m iB (inR_one (hA v hv)) zB (by simp)
  refine evalD_rt h rfl ?_
  refine st_set (v := enc (tiesIn d A)) ?_ rfl rfl (st_frz rfl (st_set (v := enc (bothIn d A)) ?_ rfl rfl (st_set (v := enc ([] : List (List Int))) rfl rfl rfl ?_)))
  · rw [tiesIn_tr]
    have : evalE (evalD Pr (n + 1)) 0 (.comp [6, 7] 0 (.op (.tup [false, false]) [(.var 6), (.var 7)]) (.tup [(.slot 6), (.slot 7)]) (.op .idx [(.var 0), (.cst (.int 2))]) (some (.and (.op .isin [(.var 6), (.var 1)]) (.op .isin [(.var 7), (.var 1)])))) (startE k_districts_of [enc d, enc A]) = .ok (encL instEncProd ((d.c.filter fun p => tr (p.1 ∈ A) && tr (p.2 ∈ A)).map fun p => (p.1, p.2))) := by
      walk_at "ev"
    rw [List.map_id'' fun _ => rfl] at this
    exact this
  · show evalE _ _ _ [some (enc d, 0), some (enc A, 0), some (enc (tiesIn d A), 0), none, none, none, none, none, none] = .ok (enc (tiesIn d A ++ flip (tiesIn d A)))
    unfold flip
    walk_at "ev"
  · refine st_fold (cf := evalD Pr (n + 1)) (t := .slot 5) (it := .var 1) (l := A) instEncInt rfl (fun (f : List (List Int)) (j : Option (Val × Nat)) => [some (enc d, 0), some (enc A, 0), some (enc (tiesIn d A), 0), some (enc (bothIn d A), 0), some (enc f, 1), j, none, none, none]) (blk (dist d A)) [] none rfl (fun pre v post j hl => ?_) fun j => ?_
    · have vA : v ∈ A := by rw [hl]; exact List.mem_append_right _ List.mem_cons_self
      have zp : pre.length ≤ A.length := by rw [hl, List.length_append]; omega
      have zf := blk_len (D := dist d A) pre []
      simp only [List.length_nil, Nat.zero_add] at zf
      generalize hf : pre.foldl (blk (dist d A)) [] = f at zf ⊢
      have zf' : f.length ≤ 1000 := by omega
      have e1 := fD v vA
      refine ⟨some (enc v, 0), _, rfl, st_ifn (p := tr (f.filter (fun b => tr (v ∈ b)) = [])) ?_ (fun q => ?_) (fun q => ?_) rfl⟩
      · have : evalE (evalD Pr (n + 1)) 9 (.op .eq [(.op .len [(.comp [8] 0 (.var 8) (.slot 8) (.var 4) (some (.op .isin [(.var 5), (.var 8)])))]), (.cst (.int 0))]) [some (enc d, 0), some (enc A, 0), some (enc (tiesIn d A), 0), some (enc (bothIn d A), 0), some (enc f, 1), some (enc v, 0), none, none, none] = .ok (.bool (tr ((((f.filter (fun b => tr (v ∈ b))).length : Nat) : Int) = 0))) := by
          walk_at "ev"
        rw [show tr (f.filter (fun b => tr (v ∈ b)) = []) = tr ((((f.filter (fun b => tr (v ∈ b))).length : Nat) : Int) = 0) by
          congr 1
          rw [← List.length_eq_zero_iff]
          apply propext
          omega]
        exact this
      · have b1 : blk (dist d A) f v = f ++ [dist d A v] := by
          unfold blk
          rw [if_pos (tr_iff.mp q)]
        rw [b1]
        refine st_app (i1 := instEncList) (x := dist d A v) (xs := f) ?_ rfl (by omega) rfl rfl
        walk_at "ev"
      · have b1 : blk (dist d A) f v = f := by
          unfold blk
          rw [if_neg (tr_not.mp q)]
        rw [b1]
        rfl
    · refine ss_ret ?_
      unfold distr
      walk_at "ev"
end
end VL

/-! plain side: what holds behind statements -/
namespace VL
open PySem
open Enc
local macro_rules | `(tactic| walk_at "sz") => `(tactic| (first
  | assumption
  | omega
  | exact len_nil
  | ((with_reducible apply len_filter); walk_at "sz")
  | ((with_reducible apply len_map); walk_at "sz")
  | ((with_reducible apply len_srt); walk_at "sz")
  | ((with_reducible apply len_asc); omega)
  | ((with_reducible apply len_upto); omega)
  | ((with_reducible apply len_fromto); omega)
  | ((with_reducible apply len_app); (walk_at "sz"); (walk_at "sz"))
  | ((with_reducible apply len_sum); (walk_at "sz"); (walk_at "sz"))
  | ((with_reducible apply len_drop); walk_at "sz")
  | ((with_reducible apply len_take); walk_at "sz")
  | ((with_reducible apply len_rev); walk_at "sz")
  | ((with_reducible apply len_cons); (walk_at "sz"); (omega))))
local macro_rules | `(tactic| walk_at "call") => `(tactic| (first | assumption | solve_by_elim))
local macro_rules | `(tactic| walk_at "args") => `(tactic| (first
  | exact evs_nil
  | ((with_reducible apply evs_cons); (walk_at "ev"); (walk_at "args"))))
local macro_rules | `(tactic| walk_at "ev") => `(tactic| (first
  | ((with_reducible apply ev_var); rfl)
  | (with_reducible exact ev_ci)
  | (with_reducible exact ev_cb)
  | (with_reducible exact ev_cst)
  | ((with_reducible apply ev_call'); (walk_at "args"); (walk_at "call"))
  | ((with_reducible apply eb_and); (walk_at "ev"); (intro _; walk_at "ev"))
  | ((with_reducible apply eb_or); (walk_at "ev"); (intro _; walk_at "ev"))
  | ((with_reducible apply eb_not); (walk_at "ev"))
  | ((with_reducible apply eb_in); (walk_at "ev"); (walk_at "ev"); decide)
  | ((with_reducible apply eb_notin); (walk_at "ev"); (walk_at "ev"); decide)
  | ((with_reducible apply eb_eq); (walk_at "ev"); (walk_at "ev"); decide)
  | ((with_reducible apply eb_ne); (walk_at "ev"); (walk_at "ev"); decide)
  | ((with_reducible apply eb_lt); (walk_at "ev"); (walk_at "ev"))
  | ((with_reducible apply eb_le); (walk_at "ev"); (walk_at "ev"))
  | ((with_reducible apply eb_gt); (walk_at "ev"); (walk_at "ev"))
  | ((with_reducible apply eb_ge); (walk_at "ev"); (walk_at "ev"))
  | ((with_reducible apply eb_chain_lt); (walk_at "ev"); (walk_at "ev"); (walk_at "ev"))
  | ((with_reducible apply eb_isN); (walk_at "ev"))
  | ((with_reducible apply eb_notN); (walk_at "ev"))
  | ((with_reducible apply eb_isB); (walk_at "ev"))
  | ((with_reducible apply eb_notB); (walk_at "ev"))
  | ((with_reducible apply eb_lend); (walk_at "ev"))
  | ((with_reducible apply eb_all); (walk_at "ev"))
  | ((with_reducible apply eb_any); (walk_at "ev"))
  | ((with_reducible apply ev_lenL); (walk_at "ev"))
  | ((with_reducible apply ev_neg); (walk_at "ev"))
  | ((with_reducible apply ev_sub); (walk_at "ev"); (walk_at "ev"))
  | ((with_reducible apply ev_addI); (walk_at "ev"); (walk_at "ev"))
  | ((with_reducible apply ev_addL); (walk_at "ev"); (walk_at "ev"); (walk_at "sz"))
  | ((with_reducible apply ev_mul); (walk_at "ev"); (walk_at "ev"); omega; omega)
  | ((with_reducible apply ev_int); (walk_at "ev"))
  | ((with_reducible apply ev_intb); (walk_at "ev"))
  | ((with_reducible apply ev_max); (walk_at "ev"); (walk_at "ev"))
  | ((with_reducible apply ev_min); (walk_at "ev"); (walk_at "ev"))
  | ((with_reducible apply ev_ta); (walk_at "ev"))
  | ((with_reducible apply ev_tb); (walk_at "ev"))
  | ((with_reducible apply ev_tc); (walk_at "ev"))
  | ((with_reducible apply ev_pa); (walk_at "ev"))
  | ((with_reducible apply ev_pb); (walk_at "ev"))
  | ((with_reducible apply ev_ix); (walk_at "ev"); (walk_at "ev"); (assumption))
  | ((with_reducible apply ev_pair); (walk_at "ev"); (walk_at "ev"))
  | ((with_reducible apply ev_trip); (walk_at "ev"); (walk_at "ev"); (walk_at "ev"))
  | ((with_reducible apply ev_l1); (walk_at "ev"))
  | ((with_reducible apply ev_l2); (walk_at "ev"); (walk_at "ev"))
  | ((with_reducible apply ev_rng); (walk_at "ev"); omega; omega)
  | ((with_reducible apply ev_rng2); (walk_at "ev"); (walk_at "ev"); omega; omega; omega; omega)
  | ((with_reducible apply ev_listof); (walk_at "ev"))
  | ((with_reducible apply ev_rev); (walk_at "ev"))
  | ((with_reducible apply ev_drop); (walk_at "ev"); (walk_at "ev"); omega)
  | ((with_reducible apply ev_take); (walk_at "ev"); (walk_at "ev"); omega)
  | ((with_reducible apply ev_sorted); (walk_at "ev"); (first | infer_instance | assumption))
  | ((with_reducible apply ec_filter); (walk_at "ev"); rfl; (intro _ _; walk_at "ev"); (walk_at "sz"))
  | ((with_reducible apply ec_map2); (walk_at "ev"); rfl; rfl; (intro _ _; walk_at "ev"); (walk_at "sz"))
  | ((with_reducible apply ec_both2); (walk_at "ev"); rfl; rfl; (intro _ _; walk_at "ev"); (intro _ _ _; walk_at "ev"); (walk_at "sz"))
  | ((with_reducible apply ec_map); (walk_at "ev"); rfl; (intro _ _; walk_at "ev"); (walk_at "sz"))
  | ((with_reducible apply ec_both); (walk_at "ev"); rfl; (intro _ _; walk_at "ev"); (intro _ _ _; walk_at "ev"); (walk_at "sz"))
  | (with_reducible exact ev_l0)
  | ((with_reducible apply ev_ite); (walk_at "ev"); (intro _; walk_at "ev"); (intro _; walk_at "ev"))))

def WP (cf : Nat → List Val → Res Val) (ss : List S) (ρ : Env) (G : Out → Prop) : Prop := ∃ o, evalSs cf ss ρ = .ok o ∧ G o
/-- behind a block, the rest -/
def thn' (cf : Nat → List Val → Res Val) (ss : List S) (G : Out → Prop) : Out → Prop
  | .nx ρ => WP cf ss ρ G
  | o => G o
section
variable {cf : Nat → List Val → Res Val} {ρ ρ' : Env} {ss a b : List S} {c : E} {v w : Val} {i d : Nat} {p : Bool} {G G' : Out → Prop}
theorem WP.mono (h : WP cf ss ρ G) (m : ∀ o, G o → G' o) : WP cf ss ρ G' := h.imp fun o q => ⟨q.1, m o q.2⟩
theorem wp_nil (h : G (.nx ρ)) : WP cf [] ρ G := ⟨_, rfl, h⟩
theorem wp_step {s : S} {o : Out} (e : evalS cf s ρ = .ok o) (h : thn' cf ss G o) : WP cf (s :: ss) ρ G := by
  cases o with
  | nx ρ' =>
    obtain ⟨o', e2, g⟩ := h
    exact ⟨o', ss_cons e e2, g⟩
  | rt v => exact ⟨_, ss_end e (fun _ z => nomatch z), h⟩
  | bk ρ' => exact ⟨_, ss_end e (fun _ z => nomatch z), h⟩
  | ct ρ' => exact ⟨_, ss_end e (fun _ z => nomatch z), h⟩
theorem wp_of {r : Out} (e : evalSs cf ss ρ = .ok r) (h : G r) : WP cf ss ρ G := ⟨r, e, h⟩
theorem wp_ret (e : evalE cf 0 c ρ = .ok v) (h : G (.rt v)) : WP cf (.ret c :: ss) ρ G := ⟨_, ss_ret e, h⟩
theorem wp_retN (h : G (.rt .none)) : WP cf (.retN :: ss) ρ G := ⟨_, rfl, h⟩
theorem wp_retv {k t : Nat} (e : ρ[i]? = some (some (v, t))) (hk : Nat.ble k t = true) (h : G (.rt v)) : WP cf (.retv i k :: ss) ρ G := by
  refine wp_step (o := .rt v) ?_ h
  show (match ρ[i]? with
    | some (some (v, d)) => Res.guard (Nat.ble k d) (Res.ok (Out.rt v))
    | _ => .bad) = _
  rw [e]
  show Res.guard (Nat.ble k t) _ = _
  rw [hk]
  rfl
theorem wp_set (e : evalE cf 0 c ρ = .ok v) (hl : Nat.blt i ρ.length = true) (hρ : ρ.set i (some (v, d)) = ρ') (h : WP cf ss ρ' G) : WP cf (.set i c d :: ss) ρ G := by
  obtain ⟨o, e2, g⟩ := h
  exact ⟨o, st_set e hl hρ e2, g⟩
theorem wp_frz {l : List (Nat × Nat)} (hρ : dropL l ρ = ρ') (h : WP cf ss ρ' G) : WP cf (.frz l :: ss) ρ G := by
  obtain ⟨o, e2, g⟩ := h
  exact ⟨o, st_frz hρ e2, g⟩
theorem wp_expr (e : evalE cf 0 c ρ = .ok v) (h : WP cf ss ρ G) : WP cf (.expr c :: ss) ρ G := by
  obtain ⟨o, e2, g⟩ := h
  exact ⟨o, st_expr e e2, g⟩
theorem wp_asg {q : Pat} (e : evalE cf 0 c ρ = .ok v) (hb : bindP q v ρ = .ok ρ') (h : WP cf ss ρ' G) : WP cf (.asg q c :: ss) ρ G := by
  obtain ⟨o, e2, g⟩ := h
  exact ⟨o, st_asg e hb e2, g⟩
theorem wp_app {α : Type} {i1 : Enc α} {xs : List α} {x : α} {t : Nat} (he : evalE cf 0 c ρ = .ok (i1.enc x)) (ho : getOwn ρ i (d + 1) = .ok (xs.map i1.enc, t)) (hz : xs.length + 1 ≤ 16777216) (hρ : ρ.set i (some (encL i1 (xs ++ [x]), d + 1)) = ρ') (h : WP cf ss ρ' G) : WP cf (.app i c d :: ss) ρ G := by
  obtain ⟨o, e2, g⟩ := h
  exact ⟨o, st_app he ho hz hρ e2, g⟩
theorem wp_if (e : evalE cf 9 c ρ = .ok (.bool p)) (h1 : p = true → WP cf a ρ (thn' cf ss G)) (h2 : p = false → WP cf b ρ (thn' cf ss G)) : WP cf (.iff c a b :: ss) ρ G := by
  cases p with
  | true =>
    obtain ⟨o, e1, g⟩ := h1 rfl
    exact wp_step (s_if e e1) g
  | false =>
    obtain ⟨o, e1, g⟩ := h2 rfl
    exact wp_step (s_if e e1) g
theorem wp_ifn (e : evalE cf 9 c ρ = .ok (.bool p)) (h1 : p = true → evalSs cf a ρ = .ok (.nx ρ')) (h2 : p = false → evalSs cf b ρ = .ok (.nx ρ')) (h : WP cf ss ρ' G) : WP cf (.iff c a b :: ss) ρ G := by
  obtain ⟨o, e2, g⟩ := h
  exact ⟨o, st_ifn e h1 h2 e2, g⟩
/-- for: the invariant by what is done -/
theorem forL_wp {α σ J : Type} {b : Val → Env → Res Out} {e : α → Val} (E : σ → J → Env) (I : List α → σ → Prop) (G : Out → Prop) {l : List α} (hb : ∀ pre x post s j, l = pre ++ x :: post → I pre s → ∃ o, b (e x) (E s j) = .ok o ∧ ((∃ s' j', (o = .nx (E s' j') ∨ o = .ct (E s' j')) ∧ I (pre ++ [x]) s') ∨ (∃ v, o = .rt v ∧ G (.rt v)) ∨ ∃ ρ', o = .bk ρ' ∧ G (.nx ρ'))) (hn : ∀ s j, I l s → G (.nx (E s j))) :
    ∀ (post pre : List α) (s : σ) (j : J), l = pre ++ post → I pre s → ∃ o, forL b (post.map e) (E s j) = .ok o ∧ G o
  | [], pre, s, j, hl, hs => ⟨_, rfl, hn s j (by rw [hl, List.append_nil]; exact hs)⟩
  | x :: post, pre, s, j, hl, hs => by
    obtain ⟨o, h1, h2⟩ := hb pre x post s j hl hs
    rcases h2 with ⟨s1, j1, h3, h4⟩ | ⟨v, rfl, g⟩ | ⟨ρ', rfl, g⟩
    · obtain ⟨o2, h5, g⟩ := forL_wp E I G hb hn post (pre ++ [x]) s1 j1 (by rw [hl]; simp) h4
      refine ⟨o2, ?_, g⟩
      show (b (e x) (E s j)).bind _ = _
      rw [h1]
      rcases h3 with rfl | rfl
      · exact h5
      · exact h5
    · refine ⟨.rt v, ?_, g⟩
      show (b (e x) (E s j)).bind _ = _
      rw [h1]
      rfl
    · refine ⟨.nx ρ', ?_, g⟩
      show (b (e x) (E s j)).bind _ = _
      rw [h1]
      rfl
theorem wp_for {α σ J : Type} {t : Pat} {it : E} {body : List S} {l : List α} (i1 : Enc α) (hi : evalE cf 0 it ρ = .ok (encL i1 l)) (E : σ → J → Env) (I : List α → σ → Prop) (s0 : σ) (j0 : J) (hρ : ρ = E s0 j0) (h0 : I [] s0)
    (hb : ∀ pre x post s j, l = pre ++ x :: post → I pre s → ∃ ρ', bindP t (i1.enc x) (E s j) = .ok ρ' ∧ WP cf body ρ' fun o => (∃ s' j', (o = .nx (E s' j') ∨ o = .ct (E s' j')) ∧ I (pre ++ [x]) s') ∨ (∃ v, o = .rt v ∧ G (.rt v)) ∨ ∃ ρ', o = .bk ρ' ∧ WP cf ss ρ' G)
    (hn : ∀ s j, I l s → WP cf ss (E s j) G) : WP cf (.for t it body :: ss) ρ G := by
  obtain ⟨o, h1, h2⟩ := forL_wp (b := fun v ρ => (bindP t v ρ).bind fun ρ' => evalSs cf body ρ') (e := i1.enc) E I (thn' cf ss G) (l := l) (fun pre x post s j hl hs => by
    obtain ⟨ρ', e1, o, e2, g⟩ := hb pre x post s j hl hs
    refine ⟨o, ?_, g⟩
    show (bindP t (i1.enc x) (E s j)).bind _ = _
    rw [e1]
    exact e2) hn l [] s0 j0 rfl h0
  refine wp_step (o := o) ?_ h2
  show (evalE cf 0 it ρ).bind _ = _
  rw [hi, hρ]
  exact h1
theorem whileL_wp {σ J : Type} {c : Env → Res Bool} {b : Env → Res Out} (E : σ → J → Env) (I : σ → Prop) (μ : σ → Nat) (G : Out → Prop) (go : σ → Bool) (hc : ∀ s j, I s → c (E s j) = .ok (go s))
    (hb : ∀ s j, I s → go s = true → ∃ o, b (E s j) = .ok o ∧ ((∃ s' j', (o = .nx (E s' j') ∨ o = .ct (E s' j')) ∧ I s' ∧ μ s' < μ s) ∨ (∃ v, o = .rt v ∧ G (.rt v)) ∨ ∃ ρ', o = .bk ρ' ∧ G (.nx ρ'))) (hn : ∀ s j, I s → go s = false → G (.nx (E s j))) :
    ∀ (n : Nat) (s : σ) (j : J), I s → μ s < n → ∃ o, whileL c b n (E s j) = .ok o ∧ G o
  | 0, s, _, _, h => absurd h (Nat.not_lt_zero _)
  | n + 1, s, j, hs, hm => by
    cases q : go s with
    | false =>
      refine ⟨_, ?_, hn s j hs q⟩
      show (c (E s j)).bind _ = _
      rw [hc s j hs, q]
      rfl
    | true =>
      obtain ⟨o, h1, h2⟩ := hb s j hs q
      rcases h2 with ⟨s1, j1, h3, h4, h5⟩ | ⟨v, rfl, g⟩ | ⟨ρ', rfl, g⟩
      · obtain ⟨o2, h6, g⟩ := whileL_wp E I μ G go hc hb hn n s1 j1 h4 (by omega)
        refine ⟨o2, ?_, g⟩
        show (c (E s j)).bind _ = _
        rw [hc s j hs, q]
        show (b (E s j)).bind _ = _
        rw [h1]
        rcases h3 with rfl | rfl
        · exact h6
        · exact h6
      · refine ⟨.rt v, ?_, g⟩
        show (c (E s j)).bind _ = _
        rw [hc s j hs, q]
        show (b (E s j)).bind _ = _
        rw [h1]
        rfl
      · refine ⟨.nx ρ', ?_, g⟩
        show (c (E s j)).bind _ = _
        rw [hc s j hs, q]
        show (b (E s j)).bind _ = _
        rw [h1]
        rfl
theorem wp_whl {σ J : Type} {body : List S} (E : σ → J → Env) (I : σ → Prop) (μ : σ → Nat) (go : σ → Bool) (s0 : σ) (j0 : J) (hρ : ρ = E s0 j0) (h0 : I s0) (hm : μ s0 < 1000000) (hc : ∀ s j, I s → evalE cf 9 c (E s j) = .ok (.bool (go s)))
    (hb : ∀ s j, I s → go s = true → WP cf body (E s j) fun o => (∃ s' j', (o = .nx (E s' j') ∨ o = .ct (E s' j')) ∧ I s' ∧ μ s' < μ s) ∨ (∃ v, o = .rt v ∧ G (.rt v)) ∨ ∃ ρ', o = .bk ρ' ∧ WP cf ss ρ' G)
    (hn : ∀ s j, I s → go s = false → WP cf ss (E s j) G) : WP cf (.whl c body :: ss) ρ G := by
  obtain ⟨o, h1, h2⟩ := whileL_wp (c := fun ρ => (evalE cf 9 c ρ).bind fun x => asBool x) (b := fun ρ => evalSs cf body ρ) E I μ (thn' cf ss G) go (fun s j hs => by
    show (evalE cf 9 c (E s j)).bind _ = _
    rw [hc s j hs]
    rfl) hb hn LIM s0 j0 h0 hm
  refine wp_step (o := o) ?_ h2
  rw [hρ]
  exact h1
/-- a def's answer -/
theorem wp_def {Pr : Prog} {n f : Nat} {D : Def} {vs : List Val} {Q : Val → Prop} (h : Pr f = some D) (hl : vs.length = D.np) (e : WP (evalD Pr n) D.body (startE D vs) fun o => (∃ v, o = .rt v ∧ Q v) ∨ ∃ ρ, o = .nx ρ ∧ Q .none) : ∃ v, evalD Pr (n + 1) f vs = .ok v ∧ Q v := by
  obtain ⟨o, e1, ⟨v, rfl, q⟩ | ⟨ρ, rfl, q⟩⟩ := e
  · exact ⟨v, evalD_rt h hl e1, q⟩
  · exact ⟨.none, evalD_nx h hl e1, q⟩
theorem rt_of {Q : Val → Prop} {v : Val} (h : Q v) : (∃ w, Out.rt v = .rt w ∧ Q w) ∨ ∃ ρ, Out.rt v = .nx ρ ∧ Q .none := .inl ⟨v, rfl, h⟩
end
end VL

/-! plain side: districts and ancestors in parts -/
namespace VL
open PySem
open Enc
section
variable {d : Dr} {A B S : List Int} {v w x y : Int} {R R' : List Pt}
theorem Clo.up {S' : List Int} (hR : ∀ p ∈ R, p ∈ R') (hS : ∀ x ∈ S, x ∈ S') (h : Clo R S x) : Clo R' S' x := by
  induction h with
  | base h => exact .base (hS _ h)
  | step _ h ih => exact .step ih (hR _ h)
theorem Clo.trans {S' : List Int} (hS : ∀ x ∈ S, Clo R S' x) (h : Clo R S x) : Clo R S' x := by
  induction h with
  | base h => exact hS _ h
  | step _ h ih => exact .step ih h
theorem one_in : v ∈ [v] := List.mem_cons_self
theorem clo_self : Clo R [v] v := .base one_in
theorem clo_cat (h : Clo R [v] w) (h2 : Clo R [w] x) : Clo R [v] x := h2.trans fun y hy => by
  rcases List.mem_cons.mp hy with e | e
  · rw [e]
    exact h
  · cases e
/-- v and w hang together in A -/
abbrev Con (d : Dr) (A : List Int) (v w : Int) : Prop := Clo (bothIn d A) [v] w
theorem bothIn_symm (h : (x, y) ∈ bothIn d A) : (y, x) ∈ bothIn d A := by
  rw [mem_bothIn] at h ⊢
  exact ⟨h.1.symm, h.2.symm⟩
theorem Con.symm (h : Con d A v w) : Con d A w v := by
  induction h with
  | base h =>
    rcases List.mem_cons.mp h with e | e
    · rw [e]
      exact clo_self
    · cases e
  | step h1 h2 ih => exact clo_cat (.step clo_self (bothIn_symm h2)) ih
theorem Con.mem (h : Con d A v w) (hv : v ∈ A) : w ∈ A := by
  cases h with
  | base h =>
    rcases List.mem_cons.mp h with e | e
    · rw [e]
      exact hv
    · cases e
  | step h1 h2 => exact (mem_bothIn.mp h2).1.2
theorem bothIn_mono (hs : ∀ x ∈ A, x ∈ B) : ∀ p ∈ bothIn d A, p ∈ bothIn d B := fun p hp => by
  have := mem_bothIn.mp (show (p.1, p.2) ∈ bothIn d A from hp)
  exact mem_bothIn.mpr ⟨⟨hs _ this.1.1, hs _ this.1.2⟩, this.2⟩
theorem Con.mono (hs : ∀ x ∈ A, x ∈ B) (h : Con d A v w) : Con d B v w := Clo.up (bothIn_mono hs) (fun _ h => h) h
/-- .. within what hangs together with v -/
theorem Con.within {D : List Int} (hD : ∀ x, Con d A v x → x ∈ D) (h : Con d A v w) : Con d D v w := by
  induction h with
  | base h => exact .base h
  | step h1 h2 ih => exact .step ih (mem_bothIn.mpr ⟨⟨hD _ h1, hD _ (.step h1 h2)⟩, (mem_bothIn.mp h2).2⟩)
variable (T : Tame d)
section
include T
theorem mem_dist (hv : 0 ≤ v ∧ v < d.a) : x ∈ dist d A v ↔ Con d A v x := by
  unfold dist
  rw [mem_asc]
  exact ⟨fun h => h.2, fun h => ⟨Clo.inR (T.both A).1 (inR_one hv) h, h⟩⟩
theorem dist_self (hv : 0 ≤ v ∧ v < d.a) : v ∈ dist d A v := (mem_dist T hv).mpr clo_self
theorem dist_sub (hA : InR d.a A) (hv : v ∈ A) (h : x ∈ dist d A v) : x ∈ A := ((mem_dist T (hA v hv)).mp h).mem hv
theorem dist_eq (hA : InR d.a A) (hv : v ∈ A) (h : w ∈ dist d A v) : dist d A w = dist d A v := by
  have c := (mem_dist T (hA v hv)).mp h
  refine asc_congr fun x _ _ => ⟨fun q => clo_cat c q, fun q => clo_cat (Con.symm c) q⟩
theorem dist_dist (hA : InR d.a A) (hv : v ∈ A) : dist d (dist d A v) v = dist d A v := by
  refine asc_congr fun x _ _ => ⟨fun q => Con.mono (fun y hy => dist_sub T hA hv hy) q, fun q => Con.within (fun y hy => (mem_dist T (hA v hv)).mpr hy) q⟩
end
theorem dist_sorted : (dist d A v).Pairwise (· < ·) := asc_sorted
theorem dist_inR : InR d.a (dist d A v) := asc_inR
theorem dist_len (hm : d.a ≤ 60) : (dist d A v).length ≤ 60 := by
  have := asc_len (m := d.a) (P := Clo (bothIn d A) [v])
  unfold dist
  omega
/-- the blocks that the loop finds -/
theorem blk_in {D : Int → List Int} {acc : List (List Int)} {b : List Int} (h : b ∈ blk D acc v) : b ∈ acc ∨ b = D v := by
  unfold blk at h
  split at h
  · rcases List.mem_append.mp h with q | q
    · exact .inl q
    · exact .inr (by simpa using q)
  · exact .inl h
theorem blk_of {D : Int → List Int} {acc : List (List Int)} {b : List Int} (h : b ∈ acc) : b ∈ blk D acc v := by
  unfold blk
  split
  · exact List.mem_append_left _ h
  · exact h
theorem blk_cov {D : Int → List Int} {acc : List (List Int)} (hv : v ∈ D v) : ∃ b ∈ blk D acc v, v ∈ b := by
  unfold blk
  split
  · exact ⟨D v, List.mem_append_right _ List.mem_cons_self, hv⟩
  · rename_i h
    obtain ⟨b, hb⟩ := List.exists_mem_of_ne_nil _ h
    obtain ⟨h1, h2⟩ := List.mem_filter.mp hb
    exact ⟨b, h1, tr_iff.mp h2⟩
theorem blks_in {D : Int → List Int} {b : List Int} : ∀ (l : List Int) (acc : List (List Int)), b ∈ l.foldl (blk D) acc → b ∈ acc ∨ ∃ v ∈ l, b = D v
  | [], acc, h => .inl h
  | v :: l, acc, h => by
    rcases blks_in l (blk D acc v) h with q | ⟨w, hw, e⟩
    · rcases blk_in q with q | q
      · exact .inl q
      · exact .inr ⟨v, List.mem_cons_self, q⟩
    · exact .inr ⟨w, List.mem_cons_of_mem _ hw, e⟩
theorem blks_of {D : Int → List Int} {b : List Int} : ∀ (l : List Int) (acc : List (List Int)), b ∈ acc → b ∈ l.foldl (blk D) acc
  | [], acc, h => h
  | v :: l, acc, h => blks_of l (blk D acc v) (blk_of h)
theorem blks_cov {D : Int → List Int} (hD : ∀ v ∈ B, v ∈ D v) : ∀ (l : List Int) (acc : List (List Int)), (∀ v ∈ l, v ∈ B) → ∀ v ∈ l, ∃ b ∈ l.foldl (blk D) acc, v ∈ b
  | [], _, _, v, h => nomatch h
  | u :: l, acc, hl, v, h => by
    rcases List.mem_cons.mp h with e | e
    · subst e
      obtain ⟨b, h1, h2⟩ := blk_cov (acc := acc) (hD v (hl v List.mem_cons_self))
      exact ⟨b, blks_of l _ h1, h2⟩
    · exact blks_cov hD l _ (fun w hw => hl w (List.mem_cons_of_mem _ hw)) v e
include T
theorem mem_distr (hA : InR d.a A) {b : List Int} : b ∈ distr d A ↔ ∃ v ∈ A, b = dist d A v := by
  unfold distr
  rw [mem_srt]
  constructor
  · intro h
    exact (blks_in A [] h).elim (fun z => nomatch z) id
  · rintro ⟨v, hv, rfl⟩
    obtain ⟨b, h1, h2⟩ := blks_cov (D := dist d A) (B := A) (fun w hw => dist_self T (hA w hw)) A [] (fun _ h => h) v hv
    obtain ⟨u, hu, rfl⟩ := (blks_in A [] h1).elim (fun z => nomatch z) id
    rw [dist_eq T hA hu h2]
    exact h1
theorem distr_len (hA : InR d.a A) : (distr d A).length ≤ A.length := by
  unfold distr
  rw [srt_length]
  have := blk_len (D := dist d A) A []
  simpa using this
end
section
variable {d : Dr} {A B S S' H : List Int} {v w x y : Int}
/-- the ancestors of S within A -/
abbrev Anc (d : Dr) (A S : List Int) (x : Int) : Prop := Clo (flip (arrIn d A)) S x
theorem mem_flipIn : (x, y) ∈ flip (arrIn d A) ↔ (y, x) ∈ d.b ∧ y ∈ A ∧ x ∈ A := by
  rw [mem_flip, mem_arrIn]
theorem Anc.mono (hA : ∀ x ∈ A, x ∈ B) (hS : ∀ x ∈ S, x ∈ S') (h : Anc d A S x) : Anc d B S' x := Clo.up (fun p hp => by
  have := mem_flipIn.mp (show (p.1, p.2) ∈ flip (arrIn d A) from hp)
  exact mem_flipIn.mpr ⟨this.1, hA _ this.2.1, hA _ this.2.2⟩) hS h
theorem Anc.mem (hS : ∀ x ∈ S, x ∈ A) (h : Anc d A S x) : x ∈ A := by
  cases h with
  | base h => exact hS _ h
  | step _ h => exact (mem_flipIn.mp h).2.1
theorem Anc.within (hH : ∀ x, Anc d A S x → x ∈ H) (h : Anc d A S x) : Anc d H S x := by
  induction h with
  | base h => exact .base h
  | step h1 h2 ih => exact .step ih (mem_flipIn.mpr ⟨(mem_flipIn.mp h2).1, hH _ (.step h1 h2), hH _ h1⟩)
theorem mem_anc (T : Tame d) (hS : InR d.a S) : x ∈ ancF (partD d A) S ↔ Anc d A S x := by
  unfold ancF
  rw [mem_asc]
  exact ⟨fun h => h.2, fun h => ⟨Clo.inR (inP_flip (T.part A).arr) hS h, h⟩⟩
/-- a district of its own -/
def Conn (d : Dr) (A : List Int) : Prop := ∀ x ∈ A, ∀ y ∈ A, Con d A x y
theorem conn_dist (T : Tame d) (hA : InR d.a A) (hv : v ∈ A) : Conn d (dist d A v) := fun x hx y hy => by
  have hv' := hA v hv
  have cx := (mem_dist T hv').mp (by rw [dist_dist T hA hv]; exact hx)
  have cy := (mem_dist T hv').mp (by rw [dist_dist T hA hv]; exact hy)
  exact clo_cat (Con.symm cx) cy
/-- the near variables -/
noncomputable def nearF (d : Dr) (X Y : List Int) : List Int := ancF (partD d ((upto d.a).filter fun v => tr (v ∉ X))) Y
structure Hedge (d : Dr) (X Y O I : List Int) : Prop where
  ne : I ≠ []
  sub : ∀ x ∈ I, x ∈ O
  hit : ∃ x ∈ O, x ∈ X
  near : ∀ x ∈ I, x ∈ nearF d X Y
  cI : Conn d I
  cO : Conn d O
  anc : ∀ x ∈ O, Anc d O I x
theorem mem_free {X : List Int} : x ∈ ((upto d.a).filter fun v => tr (v ∉ X)) ↔ (0 ≤ x ∧ x < d.a) ∧ x ∉ X := by
  rw [List.mem_filter, mem_upto, tr_iff]
theorem free_inR {X : List Int} : InR d.a ((upto d.a).filter fun v => tr (v ∉ X)) := fun x h => (mem_free.mp h).1
theorem near_inR {X Y : List Int} : InR d.a (nearF d X Y) := asc_inR
theorem near_sorted {X Y : List Int} : (nearF d X Y).Pairwise (· < ·) := asc_sorted
theorem near_free {X Y : List Int} (T : Tame d) (hY : InR d.a Y) (hXY : ∀ x ∈ Y, x ∉ X) (h : x ∈ nearF d X Y) : x ∉ X :=
  (mem_free.mp (((mem_anc T hY).mp h).mem fun y hy => mem_free.mpr ⟨hY y hy, hXY y hy⟩)).2
/-- what a set of a way to the share of D keeps -/
structure Keeps (d : Dr) (D H : List Int) : Prop where
  srt : H.Pairwise (· < ·)
  inR : InR d.a H
  sub : ∀ x ∈ D, x ∈ H
  all : ∀ O I : List Int, I ≠ [] → (∀ x ∈ I, x ∈ O) → (∀ x ∈ I, x ∈ D) → InR d.a O → Conn d O → (∀ x ∈ O, Anc d O I x) → ∀ x ∈ O, x ∈ H
/-- the last set of the way -/
structure Last (d : Dr) (D H : List Int) : Prop extends Keeps d D H where
  conn : Conn d H
  anc : ∀ x ∈ H, Anc d H D x
theorem keeps_all {D : List Int} (hD : InR d.a D) : Keeps d D (upto d.a) := ⟨upto_sorted _, fun x h => mem_upto.mp h, fun x h => mem_upto.mpr (hD x h), fun O I _ _ _ hO _ _ x hx => mem_upto.mpr (hO x hx)⟩
theorem keeps_cut (T : Tame d) {D : List Int} {t : Int} (k : Keeps d D H) (ht : t ∈ D) (cD : Conn d D) : Keeps d D (dist d H t) := by
  have t' := k.inR t (k.sub t ht)
  refine ⟨dist_sorted, dist_inR, fun x hx => (mem_dist T t').mpr ((cD t ht x hx).mono k.sub), fun O I hn h1 h2 h3 h4 h5 x hx => ?_⟩
  have sO := k.all O I hn h1 h2 h3 h4 h5
  obtain ⟨i, hi⟩ := List.exists_mem_of_ne_nil _ hn
  exact (mem_dist T t').mpr (clo_cat ((cD t ht i (h2 i hi)).mono k.sub) ((h4 i (h1 i hi) x hx).mono sO))
theorem keeps_sum (T : Tame d) {D : List Int} (k : Keeps d D H) : Keeps d D (ancF (partD d H) D) := by
  have hD : InR d.a D := fun x h => k.inR x (k.sub x h)
  refine ⟨asc_sorted, asc_inR, fun x hx => (mem_anc T hD).mpr (.base hx), fun O I hn h1 h2 h3 h4 h5 x hx => ?_⟩
  exact (mem_anc T hD).mpr ((h5 x hx).mono (k.all O I hn h1 h2 h3 h4 h5) h2)
theorem last_of (T : Tame d) {D : List Int} {t : Int} (k : Keeps d D H) (ht : t ∈ D) (cD : Conn d D) (e : ancF (partD d (dist d H t)) D = dist d H t) : Last d D (dist d H t) := by
  have hD : InR d.a D := fun x h => k.inR x (k.sub x h)
  refine ⟨keeps_cut T k ht cD, conn_dist T k.inR (k.sub t ht), fun x hx => ?_⟩
  rw [← e] at hx
  exact (mem_anc T hD).mp hx
/-- a question's sets -/
structure Qu (d : Dr) (X Y : List Int) : Prop where
  good : Good d
  iX : InR d.a X
  iY : InR d.a Y
  sX : X.Pairwise (· < ·)
  sY : Y.Pairwise (· < ·)
  off : ∀ x ∈ X, x ∉ Y
  ne : Y ≠ []
theorem Qu.near_free {X Y : List Int} (q : Qu d X Y) (h : x ∈ nearF d X Y) : x ∉ X := VL.near_free q.good.tame q.iY (fun y hy z => q.off y z hy) h
theorem Qu.dist_near {X Y : List Int} (q : Qu d X Y) {D : List Int} (hD : D ∈ distr d (nearF d X Y)) : ∃ v ∈ nearF d X Y, D = dist d (nearF d X Y) v ∧ v ∈ D ∧ Conn d D ∧ (∀ x ∈ D, x ∈ nearF d X Y) ∧ InR d.a D := by
  obtain ⟨v, hv, rfl⟩ := (mem_distr q.good.tame near_inR).mp hD
  exact ⟨v, hv, rfl, dist_self q.good.tame (near_inR v hv), conn_dist q.good.tame near_inR hv, fun x hx => dist_sub q.good.tame near_inR hv hx, dist_inR⟩
/-- a way that ends beyond its district shows a hedge -/
theorem hedge_last {X Y : List Int} (q : Qu d X Y) {D : List Int} (hD : D ∈ distr d (nearF d X Y)) (l : Last d D H) (hne : H ≠ D) : Hedge d X Y H D := by
  obtain ⟨v, hv, eD, vD, cD, sD, iD⟩ := q.dist_near hD
  refine ⟨fun z => (by rw [z] at vD; cases vD), l.sub, ?_, sD, cD, l.conn, l.anc⟩
  refine Classical.byContradiction fun no => hne ?_
  have hf : ∀ x ∈ H, x ∈ ((upto d.a).filter fun v => tr (v ∉ X)) := fun x hx => mem_free.mpr ⟨l.inR x hx, fun z => no ⟨x, hx, z⟩⟩
  have hn : ∀ x ∈ H, x ∈ nearF d X Y := fun x hx => by
    have a1 : Anc d ((upto d.a).filter fun v => tr (v ∉ X)) D x := (l.anc x hx).mono hf fun _ h => h
    have a2 : Clo (flip (arrIn d ((upto d.a).filter fun v => tr (v ∉ X)))) Y x := Clo.trans (fun y hy => (mem_anc q.good.tame q.iY).mp (sD y hy)) a1
    exact (mem_anc q.good.tame q.iY).mpr a2
  refine asc_ext l.srt (by rw [eD]; exact dist_sorted) fun x => ⟨fun hx => ?_, l.sub x⟩
  rw [eD]
  exact (mem_dist q.good.tame (near_inR v hv)).mpr ((l.conn v (l.sub v vD) x hx).mono hn)
/-- where a hedge stands, some way ends beyond its district -/
theorem last_hedge {X Y O I : List Int} (q : Qu d X Y) (h : Hedge d X Y O I) (hO : InR d.a O) : ∃ D ∈ distr d (nearF d X Y), ∀ H, Last d D H → H ≠ D := by
  obtain ⟨i, hi⟩ := List.exists_mem_of_ne_nil _ h.ne
  have T := q.good.tame
  have ni := h.near i hi
  refine ⟨dist d (nearF d X Y) i, (mem_distr T near_inR).mpr ⟨i, ni, rfl⟩, fun H l e => ?_⟩
  obtain ⟨x, h1, h2⟩ := h.hit
  have := l.all O I h.ne h.sub (fun y hy => (mem_dist T (near_inR i ni)).mpr ((h.cI i hi y hy).mono h.near)) hO h.cO h.anc x h1
  rw [e] at this
  exact q.near_free (dist_sub T near_inR ni this) h2
def Told (d : Dr) (X Y : List Int) : Prop := ¬ ∃ O I : List Int, InR d.a O ∧ Hedge d X Y O I
end
end VL

/-! plain side: questions, ways to shares -/
namespace VL
open PySem
open Enc
local macro_rules | `(tactic| walk_at "sz") => `(tactic| (first
  | assumption
  | omega
  | exact len_nil
  | ((with_reducible apply len_filter); walk_at "sz")
  | ((with_reducible apply len_map); walk_at "sz")
  | ((with_reducible apply len_srt); walk_at "sz")
  | ((with_reducible apply len_asc); omega)
  | ((with_reducible apply len_upto); omega)
  | ((with_reducible apply len_fromto); omega)
  | ((with_reducible apply len_app); (walk_at "sz"); (walk_at "sz"))
  | ((with_reducible apply len_sum); (walk_at "sz"); (walk_at "sz"))
  | ((with_reducible apply len_drop); walk_at "sz")
  | ((with_reducible apply len_take); walk_at "sz")
  | ((with_reducible apply len_rev); walk_at "sz")
  | ((with_reducible apply len_cons); (walk_at "sz"); (omega))))
local macro_rules | `(tactic| walk_at "call") => `(tactic| (first | assumption | solve_by_elim))
local macro_rules | `(tactic| walk_at "args") => `(tactic| (first
  | exact evs_nil
  | ((with_reducible apply evs_cons); (walk_at "ev"); (walk_at "args"))))
local macro_rules | `(tactic| walk_at "ev") => `(tactic| (first
  | ((with_reducible apply ev_var); rfl)
  | (with_reducible exact ev_ci)
  | (with_reducible exact ev_cb)
  | (with_reducible exact ev_cst)
  | ((with_reducible apply ev_call'); (walk_at "args"); (walk_at "call"))
  | ((with_reducible apply eb_and); (walk_at "ev"); (intro _; walk_at "ev"))
  | ((with_reducible apply eb_or); (walk_at "ev"); (intro _; walk_at "ev"))
  | ((with_reducible apply eb_not); (walk_at "ev"))
  | ((with_reducible apply eb_in); (walk_at "ev"); (walk_at "ev"); decide)
  | ((with_reducible apply eb_notin); (walk_at "ev"); (walk_at "ev"); decide)
  | ((with_reducible apply eb_eq); (walk_at "ev"); (walk_at "ev"); decide)
  | ((with_reducible apply eb_ne); (walk_at "ev"); (walk_at "ev"); decide)
  | ((with_reducible apply eb_lt); (walk_at "ev"); (walk_at "ev"))
  | ((with_reducible apply eb_le); (walk_at "ev"); (walk_at "ev"))
  | ((with_reducible apply eb_gt); (walk_at "ev"); (walk_at "ev"))
  | ((with_reducible apply eb_ge); (walk_at "ev"); (walk_at "ev"))
  | ((with_reducible apply eb_chain_lt); (walk_at "ev"); (walk_at "ev"); (walk_at "ev"))
  | ((with_reducible apply eb_isN); (walk_at "ev"))
  | ((with_reducible apply eb_notN); (walk_at "ev"))
  | ((with_reducible apply eb_isB); (walk_at "ev"))
  | ((with_reducible apply eb_notB); (walk_at "ev"))
  | ((with_reducible apply eb_lend); (walk_at "ev"))
  | ((with_reducible apply eb_all); (walk_at "ev"))
  | ((with_reducible apply eb_any); (walk_at "ev"))
  | ((with_reducible apply ev_lenL); (walk_at "ev"))
  | ((with_reducible apply ev_neg); (walk_at "ev"))
  | ((with_reducible apply ev_sub); (walk_at "ev"); (walk_at "ev"))
  | ((with_reducible apply ev_addI); (walk_at "ev"); (walk_at "ev"))
  | ((with_reducible apply ev_addL); (walk_at "ev"); (walk_at "ev"); (walk_at "sz"))
  | ((with_reducible apply ev_mul); (walk_at "ev"); (walk_at "ev"); omega; omega)
  | ((with_reducible apply ev_int); (walk_at "ev"))
  | ((with_reducible apply ev_intb); (walk_at "ev"))
  | ((with_reducible apply ev_max); (walk_at "ev"); (walk_at "ev"))
  | ((with_reducible apply ev_min); (walk_at "ev"); (walk_at "ev"))
  | ((with_reducible apply ev_ta); (walk_at "ev"))
  | ((with_reducible apply ev_tb); (walk_at "ev"))
  | ((with_reducible apply ev_tc); (walk_at "ev"))
  | ((with_reducible apply ev_pa); (walk_at "ev"))
  | ((with_reducible apply ev_pb); (walk_at "ev"))
  | ((with_reducible apply ev_ix); (walk_at "ev"); (walk_at "ev"); (assumption))
  | ((with_reducible apply ev_pair); (walk_at "ev"); (walk_at "ev"))
  | ((with_reducible apply ev_trip); (walk_at "ev"); (walk_at "ev"); (walk_at "ev"))
  | ((with_reducible apply ev_l1); (walk_at "ev"))
  | ((with_reducible apply ev_l2); (walk_at "ev"); (walk_at "ev"))
  | ((with_reducible apply ev_rng); (walk_at "ev"); omega; omega)
  | ((with_reducible apply ev_rng2); (walk_at "ev"); (walk_at "ev"); omega; omega; omega; omega)
  | ((with_reducible apply ev_listof); (walk_at "ev"))
  | ((with_reducible apply ev_rev); (walk_at "ev"))
  | ((with_reducible apply ev_drop); (walk_at "ev"); (walk_at "ev"); omega)
  | ((with_reducible apply ev_take); (walk_at "ev"); (walk_at "ev"); omega)
  | ((with_reducible apply ev_sorted); (walk_at "ev"); (first | infer_instance | assumption))
  | ((with_reducible apply ec_filter); (walk_at "ev"); rfl; (intro _ _; walk_at "ev"); (walk_at "sz"))
  | ((with_reducible apply ec_map2); (walk_at "ev"); rfl; rfl; (intro _ _; walk_at "ev"); (walk_at "sz"))
  | ((with_reducible apply ec_both2); (walk_at "ev"); rfl; rfl; (intro _ _; walk_at "ev"); (intro _ _ _; walk_at "ev"); (walk_at "sz"))
  | ((with_reducible apply ec_map); (walk_at "ev"); rfl; (intro _ _; walk_at "ev"); (walk_at "sz"))
  | ((with_reducible apply ec_both); (walk_at "ev"); rfl; (intro _ _; walk_at "ev"); (intro _ _ _; walk_at "ev"); (walk_at "sz"))
  | (with_reducible exact ev_l0)
  | ((with_reducible apply ev_ite); (walk_at "ev"); (intro _; walk_at "ev"); (intro _; walk_at "ev"))))

/-- the words of steps -/
inductive Kd where
  | seen | sum | cut | big | no
  deriving DecidableEq
def Kd.word : Kd → Str
  | .seen => "seen"
  | .sum => "sum"
  | .cut => "cut"
  | .big => "Sum"
  | .no => ""
instance encKd : Enc Kd where
  enc := fun k => .str k.word
  dep := 0
  eqv := fun a b => by cases a <;> cases b <;> decide
  lay := fun a => by
    simp only [PyData.canLay0]
    cases a <;> exact strOk_of _
  depth := fun a => by simp [PyData.depth]
abbrev Step' := Tr Kd Int (List Int)
theorem atI_nat {α : Type} {xs : List α} {j : Nat} {x : α} (h : xs[j]? = some x) : L2.atI xs (j : Int) = some x := by
  have hj := getElem_lt h
  unfold L2.atI L2.ixN
  rw [if_pos (by omega), if_pos (by omega)]
  exact h
theorem atI_zero {α : Type} {l : List α} {x : α} : L2.atI (x :: l) 0 = some x := atI_nat (j := 0) rfl
theorem atI_last {α : Type} {l : List α} {x : α} : L2.atI (l ++ [x]) (-1) = some x := by
  unfold L2.atI L2.ixN
  rw [if_neg (by omega), if_pos (by rw [List.length_append, List.length_singleton]; omega)]
  show (l ++ [x])[_]? = some x
  rw [show ((-1 : Int) + ((l ++ [x]).length : Nat)).toNat = l.length by rw [List.length_append, List.length_singleton]; omega]
  simp
/-- the program's own defs -/
structure P0 (Pr : Prog) : Prop where
  p0 : Pr 0 = some k_first_bad
  p1 : Pr 1 = some k_rest_of
  p2 : Pr 2 = some k_on_rounds
  p3 : Pr 3 = some k_check_drawing
  p4 : Pr 4 = some k_reached
  p12 : Pr 12 = some k_check_set
  p16 : Pr 16 = some k_part_of
  p28 : Pr 28 = some k_ancestors_of
  p32 : Pr 32 = some k_districts_of
structure P1 (Pr : Prog) : Prop extends P0 Pr where
  p162 : Pr 162 = some k_check_question
  p163 : Pr 163 = some k_inner_of
  p164 : Pr 164 = some k_home_of
  p165 : Pr 165 = some k_led_to
  p166 : Pr 166 = some k_joined
  p167 : Pr 167 = some k_derivation_of
  p168 : Pr 168 = some k_is_told
  p516 : Pr 516 = some k_derivation_v2
section
variable {cf : Nat → List Val → Res Val} {ρ : Env} {k d : Nat}
theorem ev_kseen : evalE cf k (.cst (.str "seen")) ρ = .ok (encKd.enc .seen) := rfl
theorem ev_ksum : evalE cf k (.cst (.str "sum")) ρ = .ok (encKd.enc .sum) := rfl
theorem ev_kcut : evalE cf k (.cst (.str "cut")) ρ = .ok (encKd.enc .cut) := rfl
end
section
variable {Pr : Prog} {n : Nat} {d : Dr} {A X Y D : List Int} {v : Int}
theorem ev_check_question (P : P1 Pr) (q : Qu d X Y) : evalD Pr (n + 4) 162 [enc d, enc X, enc Y] = .ok .none := by
  have g := q.good
  have lX := below_len (nodup_of_sorted q.sX) q.iX
  have lY := below_len (nodup_of_sorted q.sY) q.iY
  have m12 := g.m12
  have f1 := ev_check_drawing (n := n) P.p0 P.p1 P.p2 P.p3 g
  have f2 : evalD Pr (n + 3) 12 [enc d.a, enc X] = .ok .none := ev_check_set (n := n + 2) P.p12 q.iX q.sX
  have f3 : evalD Pr (n + 3) 12 [enc d.a, enc Y] = .ok .none := ev_check_set (n := n + 2) P.p12 q.iY q.sY
  have e0 : X.filter (fun v => tr (v ∈ Y)) = [] := List.filter_eq_nil_iff.mpr fun x hx z => q.off x hx (tr_iff.mp z)
  refine evalD_nx P.p162 rfl (ρ := [some (enc d, 0), some (enc X, 0), some (enc Y, 0), some (enc ([] : List Int), 0), none]) ?_
  refine st_expr (v := .none) (by walk_at "ev") (st_expr (v := .none) (by walk_at "ev") (st_expr (v := .none) (by walk_at "ev") ?_))
  refine st_set (v := enc (X.filter (fun v => tr (v ∈ Y)))) (by walk_at "ev") rfl rfl (st_frz rfl ?_)
  rw [e0]
  refine st_ifF (p := tr (((0 : Nat) : Int) > 0)) (by
    have : evalE (evalD Pr (n + 3)) 9 (.op .gt [(.op .len [(.var 3)]), (.cst (.int 0))]) [some (enc d, 0), some (enc X, 0), some (enc Y, 0), some (enc ([] : List Int), 0), none] = .ok (.bool (tr ((((([] : List Int)).length : Nat) : Int) > 0))) := by walk_at "ev"
    exact this) (tr_false (by omega)) ?_
  have hn : Y.length ≠ 0 := fun z => q.ne (List.length_eq_zero_iff.mp z)
  exact st_ifF (p := tr (((Y.length : Nat) : Int) = 0)) (by walk_at "ev") (tr_false (by omega)) rfl
theorem ev_inner_of (P : P0 Pr) (h : Pr 163 = some k_inner_of) (g : Good d) (hY : InR d.a Y) (lY : Y.length ≤ 1000) : evalD Pr (n + 3) 163 [enc d, enc X, enc Y] = .ok (enc (nearF d X Y)) := by
  have m12 := g.m12
  have m1 := g.m1
  have T := g.tame
  let F := (upto d.a).filter fun v => tr (v ∉ X)
  have f1 : evalD Pr (n + 2) 16 [enc d, enc F] = .ok (enc (partD d F)) := ev_part_of (n := n + 1) P.p16 T
  have f2 : evalD Pr (n + 2) 28 [enc (partD d F), enc Y] = .ok (enc (ancF (partD d F) Y)) := ev_anc P.p4 P.p28 (T.part F) hY (by omega)
  refine evalD_rt h rfl ?_
  refine st_set (v := enc F) ?_ rfl rfl (st_frz rfl (ss_ret ?_))
  · walk_at "ev"
  · show _ = Res.ok (enc (ancF (partD d F) Y))
    walk_at "ev"
theorem ev_home_of (P : P0 Pr) (h : Pr 164 = some k_home_of) (T : Tame d) (hA : InR d.a A) (lA : A.length ≤ 1000) {t : Int} {D' : List Int} (ht : t ∈ A) : evalD Pr (n + 3) 164 [enc d, enc A, enc (t :: D')] = .ok (enc (dist d A t)) := by
  have f1 : evalD Pr (n + 2) 32 [enc d, enc A] = .ok (enc (distr d A)) := ev_distr P.p4 P.p32 T hA lA
  have ld := distr_len T hA
  have hx : L2.atI ((distr d A).filter fun D => tr (t ∈ D)) (0 : Int) = some (dist d A t) := by
    cases e : (distr d A).filter fun D => tr (t ∈ D) with
    | nil =>
      have : dist d A t ∈ (distr d A).filter fun D => tr (t ∈ D) := List.mem_filter.mpr ⟨(mem_distr T hA).mpr ⟨t, ht, rfl⟩, tr_true (dist_self T (hA t ht))⟩
      rw [e] at this
      cases this
    | cons b r =>
      have hb : b ∈ (distr d A).filter fun D => tr (t ∈ D) := by rw [e]; exact List.mem_cons_self
      obtain ⟨h1, h2⟩ := List.mem_filter.mp hb
      obtain ⟨v, hv, rfl⟩ := (mem_distr T hA).mp h1
      rw [← dist_eq T hA hv (tr_iff.mp h2)]
      exact atI_zero
  have hx0 : L2.atI (t :: D') (0 : Int) = some t := atI_zero
  refine evalD_rt h rfl (ss_ret ?_)
  walk_at "ev"
end
end VL

/-! plain side: the way to a district's share -/
namespace VL
open PySem
open Enc
local macro_rules | `(tactic| walk_at "sz") => `(tactic| (first
  | assumption
  | omega
  | exact len_nil
  | ((with_reducible apply len_filter); walk_at "sz")
  | ((with_reducible apply len_map); walk_at "sz")
  | ((with_reducible apply len_srt); walk_at "sz")
  | ((with_reducible apply len_asc); omega)
  | ((with_reducible apply len_upto); omega)
  | ((with_reducible apply len_fromto); omega)
  | ((with_reducible apply len_app); (walk_at "sz"); (walk_at "sz"))
  | ((with_reducible apply len_sum); (walk_at "sz"); (walk_at "sz"))
  | ((with_reducible apply len_drop); walk_at "sz")
  | ((with_reducible apply len_take); walk_at "sz")
  | ((with_reducible apply len_rev); walk_at "sz")
  | ((with_reducible apply len_cons); (walk_at "sz"); (omega))))
local macro_rules | `(tactic| walk_at "call") => `(tactic| (first | assumption | solve_by_elim))
local macro_rules | `(tactic| walk_at "args") => `(tactic| (first
  | exact evs_nil
  | ((with_reducible apply evs_cons); (walk_at "ev"); (walk_at "args"))))
local macro_rules | `(tactic| walk_at "ev") => `(tactic| (first
  | ((with_reducible apply ev_var); rfl)
  | (with_reducible exact ev_ci)
  | (with_reducible exact ev_cb)
  | (with_reducible exact ev_cst)
  | ((with_reducible apply ev_call'); (walk_at "args"); (walk_at "call"))
  | ((with_reducible apply eb_and); (walk_at "ev"); (intro _; walk_at "ev"))
  | ((with_reducible apply eb_or); (walk_at "ev"); (intro _; walk_at "ev"))
  | ((with_reducible apply eb_not); (walk_at "ev"))
  | ((with_reducible apply eb_in); (walk_at "ev"); (walk_at "ev"); decide)
  | ((with_reducible apply eb_notin); (walk_at "ev"); (walk_at "ev"); decide)
  | ((with_reducible apply eb_eq); (walk_at "ev"); (walk_at "ev"); decide)
  | ((with_reducible apply eb_ne); (walk_at "ev"); (walk_at "ev"); decide)
  | ((with_reducible apply eb_lt); (walk_at "ev"); (walk_at "ev"))
  | ((with_reducible apply eb_le); (walk_at "ev"); (walk_at "ev"))
  | ((with_reducible apply eb_gt); (walk_at "ev"); (walk_at "ev"))
  | ((with_reducible apply eb_ge); (walk_at "ev"); (walk_at "ev"))
  | ((with_reducible apply eb_chain_lt); (walk_at "ev"); (walk_at "ev"); (walk_at "ev"))
  | ((with_reducible apply eb_isN); (walk_at "ev"))
  | ((with_reducible apply eb_notN); (walk_at "ev"))
  | ((with_reducible apply eb_isB); (walk_at "ev"))
  | ((with_reducible apply eb_notB); (walk_at "ev"))
  | ((with_reducible apply eb_lend); (walk_at "ev"))
  | ((with_reducible apply eb_all); (walk_at "ev"))
  | ((with_reducible apply eb_any); (walk_at "ev"))
  | ((with_reducible apply ev_lenL); (walk_at "ev"))
  | ((with_reducible apply ev_neg); (walk_at "ev"))
  | ((with_reducible apply ev_sub); (walk_at "ev"); (walk_at "ev"))
  | ((with_reducible apply ev_addI); (walk_at "ev"); (walk_at "ev"))
  | ((with_reducible apply ev_addL); (walk_at "ev"); (walk_at "ev"); (walk_at "sz"))
  | ((with_reducible apply ev_mul); (walk_at "ev"); (walk_at "ev"); omega; omega)
  | ((with_reducible apply ev_int); (walk_at "ev"))
  | ((with_reducible apply ev_intb); (walk_at "ev"))
  | ((with_reducible apply ev_max); (walk_at "ev"); (walk_at "ev"))
  | ((with_reducible apply ev_min); (walk_at "ev"); (walk_at "ev"))
  | ((with_reducible apply ev_ta); (walk_at "ev"))
  | ((with_reducible apply ev_tb); (walk_at "ev"))
  | ((with_reducible apply ev_tc); (walk_at "ev"))
  | ((with_reducible apply ev_pa); (walk_at "ev"))
  | ((with_reducible apply ev_pb); (walk_at "ev"))
  | ((with_reducible apply ev_ix); (walk_at "ev"); (walk_at "ev"); (assumption))
  | ((with_reducible apply ev_pair); (walk_at "ev"); (walk_at "ev"))
  | ((with_reducible apply ev_trip); (walk_at "ev"); (walk_at "ev"); (walk_at "ev"))
  | ((with_reducible apply ev_l1); (walk_at "ev"))
  | ((with_reducible apply ev_l2); (walk_at "ev"); (walk_at "ev"))
  | ((with_reducible apply ev_rng); (walk_at "ev"); omega; omega)
  | ((with_reducible apply ev_rng2); (walk_at "ev"); (walk_at "ev"); omega; omega; omega; omega)
  | ((with_reducible apply ev_listof); (walk_at "ev"))
  | ((with_reducible apply ev_rev); (walk_at "ev"))
  | ((with_reducible apply ev_drop); (walk_at "ev"); (walk_at "ev"); omega)
  | ((with_reducible apply ev_take); (walk_at "ev"); (walk_at "ev"); omega)
  | ((with_reducible apply ev_sorted); (walk_at "ev"); (first | infer_instance | assumption))
  | ((with_reducible apply ec_filter); (walk_at "ev"); rfl; (intro _ _; walk_at "ev"); (walk_at "sz"))
  | ((with_reducible apply ec_map2); (walk_at "ev"); rfl; rfl; (intro _ _; walk_at "ev"); (walk_at "sz"))
  | ((with_reducible apply ec_both2); (walk_at "ev"); rfl; rfl; (intro _ _; walk_at "ev"); (intro _ _ _; walk_at "ev"); (walk_at "sz"))
  | ((with_reducible apply ec_map); (walk_at "ev"); rfl; (intro _ _; walk_at "ev"); (walk_at "sz"))
  | ((with_reducible apply ec_both); (walk_at "ev"); rfl; (intro _ _; walk_at "ev"); (intro _ _ _; walk_at "ev"); (walk_at "sz"))
  | (with_reducible exact ev_l0)
  | ((with_reducible apply ev_ite); (walk_at "ev"); (intro _; walk_at "ev"); (intro _; walk_at "ev"))))

/-- a step from the share of outer -/
def okSt (d : Dr) (outer : List Int) (k : Kd) (told : List Int) : Prop := match k with
  | .sum => (∀ x ∈ told, x ∈ outer) ∧ told.Pairwise (· < ·) ∧ ancF (partD d outer) told = told
  | .cut => told ∈ distr d outer
  | _ => False
/-- one step behind the other -/
inductive Chain (d : Dr) : List Step' → Prop
  | one : Chain d [⟨.seen, -1, upto d.a⟩]
  | more {pre : List Step'} {l : Step'} {k : Kd} {told : List Int} : Chain d (pre ++ [l]) → okSt d l.c k told → Chain d (pre ++ [l] ++ [⟨k, ((pre.length : Nat) : Int), told⟩])
theorem less_len {l l' : List Int} (h : l.Pairwise (· < ·)) (h' : l'.Pairwise (· < ·)) (s : ∀ x ∈ l, x ∈ l') (ne : l ≠ l') : l.length < l'.length := by
  have : ∃ y ∈ l', y ∉ l := Classical.byContradiction fun no => ne (asc_ext h h' fun x => ⟨s x, fun hx => Classical.byContradiction fun z => no ⟨x, hx, z⟩⟩)
  obtain ⟨y, h1, h2⟩ := this
  exact nodup_lt (nodup_of_sorted h) s h1 h2
theorem sub_len {l l' : List Int} (h : l.Pairwise (· < ·)) (s : ∀ x ∈ l, x ∈ l') : l.length ≤ l'.length := nodup_le (nodup_of_sorted h) s
/-- what led_to tells of the district D -/
structure LedQ (d : Dr) (D : List Int) (r : List Step' × List Int) : Prop where
  chain : Chain d r.1
  last : ∃ pre l, r.1 = pre ++ [l] ∧ l.c = r.2
  ok : Last d D r.2
  len : r.1.length ≤ 200
section
variable {Pr : Prog} {n : Nat} {d : Dr} {D : List Int}
theorem ev_led_to (P : P0 Pr) (h164 : Pr 164 = some k_home_of) (h : Pr 165 = some k_led_to) (g : Good d) (hn : D ≠ []) (hD : InR d.a D) (cD : Conn d D) (lD : D.length ≤ 1000) : ∃ r : List Step' × List Int, evalD Pr (n + 5) 165 [enc d, enc D] = .ok (enc r) ∧ LedQ d D r := by
  have m12 := g.m12
  have m1 := g.m1
  have T := g.tame
  obtain ⟨t, D', eD⟩ := List.exists_cons_of_ne_nil hn
  have tD : t ∈ D := by rw [eD]; exact List.mem_cons_self
  obtain ⟨v, hv, r, hr, q⟩ := wp_def (n := n + 4) (Q := fun v => ∃ r : List Step' × List Int, v = enc r ∧ LedQ d D r) (vs := [enc d, enc D]) h rfl (by
    refine wp_set (v := enc [(⟨.seen, -1, upto d.a⟩ : Step')]) ?_ rfl rfl ?_
    · refine ev_l1 (i1 := instEncTr) (ev_trip (i1 := encKd) (x := Kd.seen) (y := (-1 : Int)) (z := upto d.a) ev_kseen ?_ ?_)
      · walk_at "ev"
      · walk_at "ev"
    refine wp_whl (fun (s : List Step' × List Int) (j : Option (Val × Nat) × Option (Val × Nat) × Option (Val × Nat)) => [some (enc d, 0), some (enc D, 0), some (enc s.1, 1), j.1, j.2.1, j.2.2]) (fun s => (∃ pre l, s.1 = pre ++ [l] ∧ l.c = s.2) ∧ Chain d s.1 ∧ Keeps d D s.2 ∧ s.1.length + 2 * s.2.length ≤ 140) (fun s => s.2.length) (fun _ => true) ([⟨.seen, -1, upto d.a⟩], upto d.a) (none, none, none) rfl ⟨⟨[], _, rfl, rfl⟩, .one, keeps_all hD, by simp [upto_length]; omega⟩ (by simp only [upto_length]; omega) (fun _ _ _ => rfl) ?_ (fun _ _ _ z => nomatch z)
    rintro ⟨steps, outer⟩ ⟨j1, j2, j3⟩ ⟨⟨pre, l, e1, e2⟩, ch, ke, ln⟩ _
    simp only at e1 e2 ch ke ln
    subst e2
    have hl : L2.atI steps (-1) = some l := by rw [e1]; exact atI_last
    have lo : l.c.length ≤ 12 := by
      have := below_len (nodup_of_sorted ke.srt) ke.inR
      omega
    let home := dist d l.c t
    have kh := keeps_cut T ke tD cD
    have lh : home.length ≤ l.c.length := sub_len dist_sorted fun x hx => dist_sub T ke.inR (ke.sub t tD) hx
    have f1 : evalD Pr (n + 4) 164 [enc d, enc l.c, enc D] = .ok (enc home) := by
      rw [eD]
      exact ev_home_of (n := n + 1) P h164 T ke.inR (by omega) (ke.sub t tD)
    have f2 : evalD Pr (n + 4) 16 [enc d, enc home] = .ok (enc (partD d home)) := ev_part_of (n := n + 3) P.p16 T
    have f3 : evalD Pr (n + 4) 28 [enc (partD d home), enc D] = .ok (enc (ancF (partD d home) D)) := ev_anc (n := n + 2) P.p4 P.p28 (T.part home) hD (by omega)
    let ahead := ancF (partD d home) D
    have ka := keeps_sum T kh
    have la : ahead.length ≤ home.length := sub_len asc_sorted fun x hx => ((mem_anc T hD).mp hx).mem kh.sub
    -- the steps behind the cut
    let st1 : List Step' := if home = l.c then steps else steps ++ [⟨.cut, ((pre.length : Nat) : Int), home⟩]
    have c1 : (∃ pre' l', st1 = pre' ++ [l'] ∧ l'.c = home) ∧ Chain d st1 ∧ st1.length ≤ steps.length + 1 := by
      show (∃ pre' l', (if home = l.c then steps else _) = pre' ++ [l'] ∧ l'.c = home) ∧ Chain d (if home = l.c then steps else _) ∧ (if home = l.c then steps else _).length ≤ _
      split
      · rename_i e
        exact ⟨⟨pre, l, e1, e.symm⟩, ch, by omega⟩
      · refine ⟨⟨steps, _, rfl, rfl⟩, ?_, by simp⟩
        rw [e1] at ch ⊢
        exact ch.more ((mem_distr T ke.inR).mpr ⟨t, ke.sub t tD, rfl⟩)
    obtain ⟨⟨pre2, l2, e3, e4⟩, ch2, ln2⟩ := c1
    have ls : steps.length = pre.length + 1 := by rw [e1]; simp
    have ls2 : st1.length = pre2.length + 1 := by rw [e3]; simp
    refine wp_set (v := enc l.c) (by walk_at "ev") rfl rfl (wp_set (v := enc home) (by walk_at "ev") rfl rfl ?_)
    refine wp_ifn (p := tr (¬ home = l.c)) (ρ' := [some (enc d, 0), some (enc D, 0), some (enc st1, 1), some (enc l.c, 0), some (enc home, 0), j3]) (by walk_at "ev") (fun q => ?_) (fun q => ?_) ?_
    · have es : st1 = steps ++ [⟨.cut, ((pre.length : Nat) : Int), home⟩] := if_neg (tr_iff.mp q)
      rw [es]
      refine st_app (i1 := instEncTr) (xs := steps) (x := (⟨.cut, ((pre.length : Nat) : Int), home⟩ : Step')) ?_ rfl (by omega) rfl rfl
      have : ((pre.length : Nat) : Int) = ((steps.length : Nat) : Int) - 1 := by omega
      rw [this]
      refine ev_trip (i1 := encKd) ev_kcut ?_ ?_
      · walk_at "ev"
      · walk_at "ev"
    · have es : st1 = steps := if_pos (Classical.byContradiction fun z => tr_not.mp q z)
      rw [es]
      rfl
    refine wp_set (v := enc ahead) (by walk_at "ev") rfl rfl ?_
    refine wp_if (p := tr (ahead = home)) (by walk_at "ev") (fun q => ?_) (fun q => ?_)
    · refine wp_frz rfl (wp_ret (v := enc (st1, home)) (ev_pair (i1 := instEncList) (i2 := instEncList) (x := st1) (y := home) rfl rfl) ?_)
      exact .inr (.inl ⟨_, rfl, rt_of ⟨(st1, home), rfl, ch2, ⟨pre2, l2, e3, e4⟩, last_of T ke tD cD (tr_iff.mp q), by show st1.length ≤ 200; omega⟩⟩)
    · have q' := tr_not.mp q
      refine wp_nil ?_
      refine wp_app (i1 := instEncTr) (xs := st1) (x := (⟨.sum, ((pre2.length : Nat) : Int), ahead⟩ : Step')) ?_ rfl (by omega) rfl (wp_nil ?_)
      · have : ((pre2.length : Nat) : Int) = ((st1.length : Nat) : Int) - 1 := by omega
        rw [this]
        refine ev_trip (i1 := encKd) ev_ksum ?_ ?_
        · walk_at "ev"
        · walk_at "ev"
      have lt := less_len asc_sorted dist_sorted (fun x hx => ((mem_anc T hD).mp hx).mem kh.sub) q'
      refine .inl ⟨(st1 ++ [⟨.sum, ((pre2.length : Nat) : Int), ahead⟩], ahead), (some (enc l.c, 0), some (enc home, 0), some (enc ahead, 0)), .inl rfl, ⟨⟨st1, _, rfl, rfl⟩, ?_, ka, ?_⟩, ?_⟩
      · rw [e3] at ch2 ⊢
        refine ch2.more ⟨fun x hx => ?_, asc_sorted, ?_⟩
        · rw [e4]
          exact ((mem_anc T hD).mp hx).mem kh.sub
        · rw [e4]
          refine asc_ext asc_sorted asc_sorted fun x => (mem_anc T (S := ahead) asc_inR).trans ?_
          exact ⟨fun h => (mem_anc T hD).mpr (Clo.trans (fun y hy => (mem_anc T hD).mp hy) h), fun h => .base h⟩
      · have lt' : ahead.length < home.length := lt
        simp only [List.length_append, List.length_singleton]
        omega
      · show ahead.length < l.c.length
        have lt' : ahead.length < home.length := lt
        omega)
  exact ⟨r, by rw [hv, hr], q⟩
end
end VL

/-! plain side: ways joined; derivations; hedges that are told -/
namespace VL
open PySem
open Enc
local macro_rules | `(tactic| walk_at "sz") => `(tactic| (first
  | assumption
  | omega
  | exact len_nil
  | ((with_reducible apply len_filter); walk_at "sz")
  | ((with_reducible apply len_map); walk_at "sz")
  | ((with_reducible apply len_srt); walk_at "sz")
  | ((with_reducible apply len_asc); omega)
  | ((with_reducible apply len_upto); omega)
  | ((with_reducible apply len_fromto); omega)
  | ((with_reducible apply len_app); (walk_at "sz"); (walk_at "sz"))
  | ((with_reducible apply len_sum); (walk_at "sz"); (walk_at "sz"))
  | ((with_reducible apply len_drop); walk_at "sz")
  | ((with_reducible apply len_take); walk_at "sz")
  | ((with_reducible apply len_rev); walk_at "sz")
  | ((with_reducible apply len_cons); (walk_at "sz"); (omega))))
local macro_rules | `(tactic| walk_at "call") => `(tactic| (first | assumption | solve_by_elim))
local macro_rules | `(tactic| walk_at "args") => `(tactic| (first
  | exact evs_nil
  | ((with_reducible apply evs_cons); (walk_at "ev"); (walk_at "args"))))
local macro_rules | `(tactic| walk_at "ev") => `(tactic| (first
  | ((with_reducible apply ev_var); rfl)
  | (with_reducible exact ev_ci)
  | (with_reducible exact ev_cb)
  | (with_reducible exact ev_cst)
  | ((with_reducible apply ev_call'); (walk_at "args"); (walk_at "call"))
  | ((with_reducible apply eb_and); (walk_at "ev"); (intro _; walk_at "ev"))
  | ((with_reducible apply eb_or); (walk_at "ev"); (intro _; walk_at "ev"))
  | ((with_reducible apply eb_not); (walk_at "ev"))
  | ((with_reducible apply eb_in); (walk_at "ev"); (walk_at "ev"); decide)
  | ((with_reducible apply eb_notin); (walk_at "ev"); (walk_at "ev"); decide)
  | ((with_reducible apply eb_eq); (walk_at "ev"); (walk_at "ev"); decide)
  | ((with_reducible apply eb_ne); (walk_at "ev"); (walk_at "ev"); decide)
  | ((with_reducible apply eb_lt); (walk_at "ev"); (walk_at "ev"))
  | ((with_reducible apply eb_le); (walk_at "ev"); (walk_at "ev"))
  | ((with_reducible apply eb_gt); (walk_at "ev"); (walk_at "ev"))
  | ((with_reducible apply eb_ge); (walk_at "ev"); (walk_at "ev"))
  | ((with_reducible apply eb_chain_lt); (walk_at "ev"); (walk_at "ev"); (walk_at "ev"))
  | ((with_reducible apply eb_isN); (walk_at "ev"))
  | ((with_reducible apply eb_notN); (walk_at "ev"))
  | ((with_reducible apply eb_isB); (walk_at "ev"))
  | ((with_reducible apply eb_notB); (walk_at "ev"))
  | ((with_reducible apply eb_lend); (walk_at "ev"))
  | ((with_reducible apply eb_all); (walk_at "ev"))
  | ((with_reducible apply eb_any); (walk_at "ev"))
  | ((with_reducible apply ev_lenL); (walk_at "ev"))
  | ((with_reducible apply ev_neg); (walk_at "ev"))
  | ((with_reducible apply ev_sub); (walk_at "ev"); (walk_at "ev"))
  | ((with_reducible apply ev_addI); (walk_at "ev"); (walk_at "ev"))
  | ((with_reducible apply ev_addL); (walk_at "ev"); (walk_at "ev"); (walk_at "sz"))
  | ((with_reducible apply ev_mul); (walk_at "ev"); (walk_at "ev"); omega; omega)
  | ((with_reducible apply ev_int); (walk_at "ev"))
  | ((with_reducible apply ev_intb); (walk_at "ev"))
  | ((with_reducible apply ev_max); (walk_at "ev"); (walk_at "ev"))
  | ((with_reducible apply ev_min); (walk_at "ev"); (walk_at "ev"))
  | ((with_reducible apply ev_ta); (walk_at "ev"))
  | ((with_reducible apply ev_tb); (walk_at "ev"))
  | ((with_reducible apply ev_tc); (walk_at "ev"))
  | ((with_reducible apply ev_pa); (walk_at "ev"))
  | ((with_reducible apply ev_pb); (walk_at "ev"))
  | ((with_reducible apply ev_ix); (walk_at "ev"); (walk_at "ev"); (assumption))
  | ((with_reducible apply ev_pair); (walk_at "ev"); (walk_at "ev"))
  | ((with_reducible apply ev_trip); (walk_at "ev"); (walk_at "ev"); (walk_at "ev"))
  | ((with_reducible apply ev_l1); (walk_at "ev"))
  | ((with_reducible apply ev_l2); (walk_at "ev"); (walk_at "ev"))
  | ((with_reducible apply ev_rng); (walk_at "ev"); omega; omega)
  | ((with_reducible apply ev_rng2); (walk_at "ev"); (walk_at "ev"); omega; omega; omega; omega)
  | ((with_reducible apply ev_listof); (walk_at "ev"))
  | ((with_reducible apply ev_rev); (walk_at "ev"))
  | ((with_reducible apply ev_drop); (walk_at "ev"); (walk_at "ev"); omega)
  | ((with_reducible apply ev_take); (walk_at "ev"); (walk_at "ev"); omega)
  | ((with_reducible apply ev_sorted); (walk_at "ev"); (first | infer_instance | assumption))
  | ((with_reducible apply ec_filter); (walk_at "ev"); rfl; (intro _ _; walk_at "ev"); (walk_at "sz"))
  | ((with_reducible apply ec_map2); (walk_at "ev"); rfl; rfl; (intro _ _; walk_at "ev"); (walk_at "sz"))
  | ((with_reducible apply ec_both2); (walk_at "ev"); rfl; rfl; (intro _ _; walk_at "ev"); (intro _ _ _; walk_at "ev"); (walk_at "sz"))
  | ((with_reducible apply ec_map); (walk_at "ev"); rfl; (intro _ _; walk_at "ev"); (walk_at "sz"))
  | ((with_reducible apply ec_both); (walk_at "ev"); rfl; (intro _ _; walk_at "ev"); (intro _ _ _; walk_at "ev"); (walk_at "sz"))
  | (with_reducible exact ev_l0)
  | ((with_reducible apply ev_ite); (walk_at "ev"); (intro _; walk_at "ev"); (intro _; walk_at "ev"))))

noncomputable def idxF {α : Type} (xs : List α) (x : α) : Nat := xs.findIdx fun z => tr (z = x)
theorem idxF_at {α : Type} {xs : List α} {x : α} (h : x ∈ xs) : xs[idxF xs x]? = some x := by
  have hp : idxF xs x < xs.length := List.findIdx_lt_length_of_exists ⟨x, h, tr_true rfl⟩
  have := List.findIdx_getElem (w := hp)
  rw [List.getElem?_eq_getElem hp]
  exact congrArg some (tr_iff.mp this)
section
variable {cf : Nat → List Val → Res Val} {ρ : Env} {a b : E} {k : Nat}
theorem ev_index {α : Type} {i : Enc α} {xs : List α} {x : α} (h : evalE cf 9 a ρ = .ok (encL i xs)) (h2 : evalE cf 9 b ρ = .ok (i.enc x)) (hx : x ∈ xs) (hd : i.dep + 1 ≤ 64) : evalE cf k (.op .index [a, b]) ρ = .ok (enc ((idxF xs x : Nat) : Int)) := by
  refine ev2 (o := .index) h h2 ?_
  show Res.guard (shapedB (encL i xs) && shapedB (i.enc x)) (match (xs.map i.enc).findIdx? fun z => PyData.eqv z (i.enc x) with
    | some j => Res.ok (PyData.int (j : Nat))
    | none => .bad) = _
  rw [show shapedB (encL i xs) = true from shaped_enc (α := List α) (by exact hd) xs, shaped_enc (by omega) x]
  have e : (xs.map i.enc).findIdx? (fun z => PyData.eqv z (i.enc x)) = some (idxF xs x) := by
    rw [List.findIdx?_map]
    have : ((fun z => PyData.eqv z (i.enc x)) ∘ i.enc) = fun z => tr (z = x) := by
      funext z
      show PyData.eqv (i.enc z) (i.enc x) = _
      rw [Bool.eq_iff_iff, i.eqv, tr_iff]
    rw [this]
    have hp : idxF xs x < xs.length := List.findIdx_lt_length_of_exists ⟨x, hx, tr_true rfl⟩
    exact List.findIdx?_eq_some_of_exists ⟨x, hx, tr_true rfl⟩
  rw [e]
  rfl
end
theorem chain_at {d : Dr} {w : List Step'} (h : Chain d w) : w[0]? = some ⟨.seen, -1, upto d.a⟩ ∧ ∀ (i : Nat) (x y : Step'), w[i]? = some x → w[i + 1]? = some y → okSt d x.c y.a y.c := by
  induction h with
  | one =>
    refine ⟨rfl, fun i x y h1 h2 => ?_⟩
    have := getElem_lt h2
    simp at this
  | @more pre l k told h1 h2 ih =>
    refine ⟨?_, fun i x y q1 q2 => ?_⟩
    · rw [List.getElem?_append_left (by simp)]
      exact ih.1
    · have hl := getElem_lt q2
      simp only [List.length_append, List.length_singleton] at hl
      by_cases e : i + 1 < pre.length + 1
      · rw [List.getElem?_append_left (by simp; omega)] at q1 q2
        exact ih.2 i x y q1 q2
      · have ei : i = pre.length := by omega
        subst ei
        rw [List.getElem?_append_left (by simp), List.getElem?_append_right (Nat.le_refl _)] at q1
        rw [List.getElem?_append_right (by simp)] at q2
        simp at q1 q2
        subst q1
        subst q2
        exact h2
/-- steps that are steps -/
structure SV (d : Dr) (steps : List Step') : Prop where
  first : steps[0]? = some ⟨.seen, -1, upto d.a⟩
  next : ∀ (k : Nat) (x : Step'), 0 < k → steps[k]? = some x → ∃ (s : Nat) (o : Step'), x.b = ((s : Nat) : Int) ∧ s < k ∧ steps[s]? = some o ∧ okSt d o.c x.a x.c
theorem SV.add {d : Dr} {steps : List Step'} (h : SV d steps) {s : Nat} {o : Step'} {k : Kd} {told : List Int} (hs : steps[s]? = some o) (ok : okSt d o.c k told) : SV d (steps ++ [⟨k, ((s : Nat) : Int), told⟩]) where
  first := by
    rw [List.getElem?_append_left (getElem_lt h.first)]
    exact h.first
  next := fun j x hj e => by
    have hl := getElem_lt e
    rw [List.length_append, List.length_singleton] at hl
    by_cases q : j < steps.length
    · rw [List.getElem?_append_left q] at e
      obtain ⟨s', o', h1, h2, h3, h4⟩ := h.next j x hj e
      exact ⟨s', o', h1, h2, by rw [List.getElem?_append_left (by omega)]; exact h3, h4⟩
    · have ej : j = steps.length := by omega
      subst ej
      rw [List.getElem?_append_right (Nat.le_refl _)] at e
      simp at e
      subst e
      exact ⟨s, o, rfl, getElem_lt hs, by rw [List.getElem?_append_left (getElem_lt hs)]; exact hs, ok⟩
/-- the last set of a way -/
def lastC (w : List Step') : List Int := match w.getLast? with
  | some l => l.c
  | none => []
theorem lastC_app {w : List Step'} {l : Step'} : lastC (w ++ [l]) = l.c := by
  unfold lastC
  rw [List.getLast?_concat]
/-- what joined tells -/
structure JoinQ (d : Dr) (ways : List (List Step')) (r : List Step' × List Int) : Prop where
  sv : SV d r.1
  len : r.1.length ≤ 1 + 200 * ways.length
  len2 : r.2.length = ways.length
  ends : ∀ (i : Nat) (w : List Step'), ways[i]? = some w → ∃ (e : Nat) (o : Step'), r.2[i]? = some ((e : Nat) : Int) ∧ r.1[e]? = some o ∧ o.c = lastC w
section
variable {Pr : Prog} {n : Nat} {d : Dr}
theorem ev_joined (h : Pr 166 = some k_joined) {ways : List (List Step')} (hn : ways ≠ []) (hw : ∀ w ∈ ways, Chain d w ∧ w.length ≤ 200) (lw : ways.length ≤ 60) : ∃ r : List Step' × List Int, evalD Pr (n + 1) 166 [enc ways] = .ok (enc r) ∧ JoinQ d ways r := by
  obtain ⟨w0, ws, ew⟩ := List.exists_cons_of_ne_nil hn
  have c0 := (hw w0 (by rw [ew]; exact List.mem_cons_self)).1
  have h0 : L2.atI ways (0 : Int) = some w0 := by rw [ew]; exact atI_zero
  have t0 : w0.take 1 = [⟨.seen, -1, upto d.a⟩] := by
    have := (chain_at c0).1
    cases w0 with
    | nil => cases this
    | cons a r =>
      simp at this
      rw [this]
      rfl
  obtain ⟨v, hv, r, hr, q⟩ := wp_def (n := n) (Q := fun v => ∃ r : List Step' × List Int, v = enc r ∧ JoinQ d ways r) (vs := [enc ways]) h rfl (by
    refine wp_set (v := enc ([⟨.seen, -1, upto d.a⟩] : List Step')) ?_ rfl rfl (wp_set (v := enc ([] : List Int)) rfl rfl rfl ?_)
    · rw [← t0]
      show _ = Res.ok (enc (w0.take (1 : Int).toNat))
      walk_at "ev"
    refine wp_for (l := ways) instEncList rfl (fun (s : List Step' × List Int) (j : Option (Val × Nat) × Option (Val × Nat) × Option (Val × Nat) × Option (Val × Nat) × Option (Val × Nat)) => [some (enc ways, 0), some (enc s.1, 1), some (enc s.2, 1), j.1, j.2.1, j.2.2.1, j.2.2.2.1, j.2.2.2.2])
      (fun pre s => SV d s.1 ∧ s.1.length ≤ 1 + 200 * pre.length ∧ s.2.length = pre.length ∧ ∀ (i : Nat) (w : List Step'), pre[i]? = some w → ∃ (e : Nat) (o : Step'), s.2[i]? = some ((e : Nat) : Int) ∧ s.1[e]? = some o ∧ o.c = lastC w) ([⟨.seen, -1, upto d.a⟩], []) (none, none, none, none, none) rfl ⟨⟨rfl, fun k x hk e => ?_⟩, by simp, rfl, fun i w e => ?_⟩ ?_ ?_
    · have := getElem_lt e
      simp at this
      omega
    · cases e
    · rintro pre w post ⟨steps, ends⟩ ⟨j1, j2, j3, j4, j5⟩ hl ⟨sv, ls, le, he⟩
      simp only at sv ls le he
      have wm : w ∈ ways := by rw [hl]; exact List.mem_append_right _ List.mem_cons_self
      have lp : pre.length < ways.length := by rw [hl, List.length_append, List.length_cons]; omega
      obtain ⟨cw, zw⟩ := hw w wm
      obtain ⟨cw0, cw1⟩ := chain_at cw
      refine ⟨_, rfl, ?_⟩
      refine wp_set (v := enc (0 : Int)) rfl rfl rfl ?_
      refine wp_for (l := w.drop 1) (instEncTr (α := Kd) (β := Int) (γ := List Int)) (by
        show _ = Res.ok (enc (w.drop (1 : Int).toNat))
        walk_at "ev") (fun (s : List Step' × Nat) (j : Option (Val × Nat) × Option (Val × Nat) × Option (Val × Nat)) => [some (enc ways, 0), some (enc s.1, 1), some (enc ends, 1), some (enc w, 0), some (enc ((s.2 : Nat) : Int), 0), j.1, j.2.1, j.2.2])
        (fun p s => SV d s.1 ∧ (∀ (i : Nat) (x : Step'), steps[i]? = some x → s.1[i]? = some x) ∧ s.1.length ≤ steps.length + p.length ∧ ∃ o l : Step', s.1[s.2]? = some o ∧ w[p.length]? = some l ∧ o.c = l.c) (steps, 0) (j3, j4, j5) rfl ⟨sv, fun _ _ e => e, by simp, _, _, sv.first, cw0, rfl⟩ ?_ ?_
      · rintro p x q ⟨st, at_⟩ ⟨i1, i2, i3⟩ hp ⟨sv', keep, ln, o, l, h1, h2, h3⟩
        simp only at sv' keep ln h1
        have hx : w[p.length + 1]? = some x := by
          have : (w.drop 1)[p.length]? = some x := by rw [hp]; simp
          rw [List.getElem?_drop, Nat.add_comm] at this
          exact this
        have ok := cw1 p.length l x h2 hx
        rw [← h3] at ok
        have lx := getElem_lt hx
        let y : Step' := ⟨x.a, ((at_ : Nat) : Int), x.c⟩
        open Classical in
        let st2 : List Step' := if y ∈ st then st else st ++ [y]
        have my : y ∈ st2 := by
          show y ∈ (if y ∈ st then st else st ++ [y])
          split
          · assumption
          · simp
        have sv2 : SV d st2 := by
          show SV d (if y ∈ st then st else st ++ [y])
          split
          · exact sv'
          · exact sv'.add h1 ok
        have keep2 : ∀ (i : Nat) (z : Step'), st[i]? = some z → st2[i]? = some z := fun i z e => by
          show (if y ∈ st then st else st ++ [y])[i]? = _
          split
          · exact e
          · rw [List.getElem?_append_left (getElem_lt e)]
            exact e
        have ln2 : st2.length ≤ st.length + 1 := by
          show (if y ∈ st then st else st ++ [y]).length ≤ _
          split
          · omega
          · simp
        refine ⟨_, rfl, ?_⟩
        refine wp_ifn (p := tr (y ∉ st)) (ρ' := [some (enc ways, 0), some (enc st2, 1), some (enc ends, 1), some (enc w, 0), some (enc ((at_ : Nat) : Int), 0), some (enc x.a, 0), some (enc x.b, 0), some (enc x.c, 0)]) ?_ (fun q => ?_) (fun q => ?_) ?_
        · refine eb_notin (i := instEncTr) (x := y) (ys := st) ?_ rfl (by decide)
          exact ev_trip (i1 := encKd) (i2 := instEncInt) (i3 := instEncList) rfl rfl rfl
        · have e : st2 = st ++ [y] := if_neg (tr_iff.mp q)
          rw [e]
          refine st_app (i1 := instEncTr) (xs := st) (x := y) ?_ rfl (by omega) rfl rfl
          exact ev_trip (i1 := encKd) (i2 := instEncInt) (i3 := instEncList) rfl rfl rfl
        · have e : st2 = st := if_pos (Classical.byContradiction fun z => tr_not.mp q z)
          rw [e]
          rfl
        refine wp_set (v := enc ((idxF st2 y : Nat) : Int)) ?_ rfl rfl (wp_nil ?_)
        · refine ev_index (i := instEncTr) (xs := st2) (x := y) rfl ?_ my (by decide)
          exact ev_trip (i1 := encKd) (i2 := instEncInt) (i3 := instEncList) rfl rfl rfl
        refine .inl ⟨(st2, idxF st2 y), (_, _, _), .inl rfl, sv2, fun i z e => keep2 i z (keep i z e), by simp only [List.length_append, List.length_singleton]; omega, y, x, idxF_at my, ?_, rfl⟩
        rw [List.length_append, List.length_singleton]
        exact hx
      · rintro ⟨st, at_⟩ ⟨i1, i2, i3⟩ ⟨sv', keep, ln, o, l, h1, h2, h3⟩
        simp only at sv' keep ln h1
        have lw1 : w.length = (w.drop 1).length + 1 := by
          have := getElem_lt h2
          rw [List.length_drop] at this ⊢
          omega
        have el : lastC w = l.c := by
          unfold lastC
          rw [List.getLast?_eq_getElem?, show w.length - 1 = (w.drop 1).length by omega, h2]
        refine wp_app (i1 := instEncInt) (xs := ends) (x := ((at_ : Nat) : Int)) rfl rfl (by omega) rfl (wp_nil ?_)
        refine .inl ⟨(st, ends ++ [((at_ : Nat) : Int)]), (_, _, _, _, _), .inl rfl, sv', ?_, by simp [le], fun i u e => ?_⟩
        · simp only [List.length_append, List.length_singleton]
          omega
        · have hi := getElem_lt e
          rw [List.length_append, List.length_singleton] at hi
          by_cases q : i < pre.length
          · rw [List.getElem?_append_left q] at e
            obtain ⟨e', o', g1, g2, g3⟩ := he i u e
            exact ⟨e', o', by rw [List.getElem?_append_left (by omega)]; exact g1, keep _ _ g2, g3⟩
          · have ei : i = pre.length := by omega
            subst ei
            rw [List.getElem?_append_right (Nat.le_refl _)] at e
            simp at e
            subst e
            refine ⟨at_, o, ?_, h1, by rw [h3, el]⟩
            rw [List.getElem?_append_right (by omega), le]
            simp
    · rintro ⟨steps, ends⟩ ⟨j1, j2, j3, j4, j5⟩ ⟨sv, ls, le, he⟩
      exact wp_of (r := .rt (enc (steps, ends))) rfl (rt_of ⟨(steps, ends), rfl, sv, ls, le, he⟩))
  exact ⟨r, by rw [hv, hr], q⟩
end
end VL

/-! plain side: derivations and hedges -/
namespace VL
open PySem
open Enc
local macro_rules | `(tactic| walk_at "sz") => `(tactic| (first
  | assumption
  | omega
  | exact len_nil
  | ((with_reducible apply len_filter); walk_at "sz")
  | ((with_reducible apply len_map); walk_at "sz")
  | ((with_reducible apply len_srt); walk_at "sz")
  | ((with_reducible apply len_asc); omega)
  | ((with_reducible apply len_upto); omega)
  | ((with_reducible apply len_fromto); omega)
  | ((with_reducible apply len_app); (walk_at "sz"); (walk_at "sz"))
  | ((with_reducible apply len_sum); (walk_at "sz"); (walk_at "sz"))
  | ((with_reducible apply len_drop); walk_at "sz")
  | ((with_reducible apply len_take); walk_at "sz")
  | ((with_reducible apply len_rev); walk_at "sz")
  | ((with_reducible apply len_cons); (walk_at "sz"); (omega))))
local macro_rules | `(tactic| walk_at "call") => `(tactic| (first | assumption | solve_by_elim))
local macro_rules | `(tactic| walk_at "args") => `(tactic| (first
  | exact evs_nil
  | ((with_reducible apply evs_cons); (walk_at "ev"); (walk_at "args"))))
local macro_rules | `(tactic| walk_at "ev") => `(tactic| (first
  | ((with_reducible apply ev_var); rfl)
  | (with_reducible exact ev_ci)
  | (with_reducible exact ev_cb)
  | (with_reducible exact ev_cst)
  | ((with_reducible apply ev_call'); (walk_at "args"); (walk_at "call"))
  | ((with_reducible apply eb_and); (walk_at "ev"); (intro _; walk_at "ev"))
  | ((with_reducible apply eb_or); (walk_at "ev"); (intro _; walk_at "ev"))
  | ((with_reducible apply eb_not); (walk_at "ev"))
  | ((with_reducible apply eb_in); (walk_at "ev"); (walk_at "ev"); decide)
  | ((with_reducible apply eb_notin); (walk_at "ev"); (walk_at "ev"); decide)
  | ((with_reducible apply eb_eq); (walk_at "ev"); (walk_at "ev"); decide)
  | ((with_reducible apply eb_ne); (walk_at "ev"); (walk_at "ev"); decide)
  | ((with_reducible apply eb_lt); (walk_at "ev"); (walk_at "ev"))
  | ((with_reducible apply eb_le); (walk_at "ev"); (walk_at "ev"))
  | ((with_reducible apply eb_gt); (walk_at "ev"); (walk_at "ev"))
  | ((with_reducible apply eb_ge); (walk_at "ev"); (walk_at "ev"))
  | ((with_reducible apply eb_chain_lt); (walk_at "ev"); (walk_at "ev"); (walk_at "ev"))
  | ((with_reducible apply eb_isN); (walk_at "ev"))
  | ((with_reducible apply eb_notN); (walk_at "ev"))
  | ((with_reducible apply eb_isB); (walk_at "ev"))
  | ((with_reducible apply eb_notB); (walk_at "ev"))
  | ((with_reducible apply eb_lend); (walk_at "ev"))
  | ((with_reducible apply eb_all); (walk_at "ev"))
  | ((with_reducible apply eb_any); (walk_at "ev"))
  | ((with_reducible apply ev_lenL); (walk_at "ev"))
  | ((with_reducible apply ev_neg); (walk_at "ev"))
  | ((with_reducible apply ev_sub); (walk_at "ev"); (walk_at "ev"))
  | ((with_reducible apply ev_addI); (walk_at "ev"); (walk_at "ev"))
  | ((with_reducible apply ev_addL); (walk_at "ev"); (walk_at "ev"); (walk_at "sz"))
  | ((with_reducible apply ev_mul); (walk_at "ev"); (walk_at "ev"); omega; omega)
  | ((with_reducible apply ev_int); (walk_at "ev"))
  | ((with_reducible apply ev_intb); (walk_at "ev"))
  | ((with_reducible apply ev_max); (walk_at "ev"); (walk_at "ev"))
  | ((with_reducible apply ev_min); (walk_at "ev"); (walk_at "ev"))
  | ((with_reducible apply ev_ta); (walk_at "ev"))
  | ((with_reducible apply ev_tb); (walk_at "ev"))
  | ((with_reducible apply ev_tc); (walk_at "ev"))
  | ((with_reducible apply ev_pa); (walk_at "ev"))
  | ((with_reducible apply ev_pb); (walk_at "ev"))
  | ((with_reducible apply ev_ix); (walk_at "ev"); (walk_at "ev"); (assumption))
  | ((with_reducible apply ev_pair); (walk_at "ev"); (walk_at "ev"))
  | ((with_reducible apply ev_trip); (walk_at "ev"); (walk_at "ev"); (walk_at "ev"))
  | ((with_reducible apply ev_l1); (walk_at "ev"))
  | ((with_reducible apply ev_l2); (walk_at "ev"); (walk_at "ev"))
  | ((with_reducible apply ev_rng); (walk_at "ev"); omega; omega)
  | ((with_reducible apply ev_rng2); (walk_at "ev"); (walk_at "ev"); omega; omega; omega; omega)
  | ((with_reducible apply ev_listof); (walk_at "ev"))
  | ((with_reducible apply ev_rev); (walk_at "ev"))
  | ((with_reducible apply ev_drop); (walk_at "ev"); (walk_at "ev"); omega)
  | ((with_reducible apply ev_take); (walk_at "ev"); (walk_at "ev"); omega)
  | ((with_reducible apply ev_sorted); (walk_at "ev"); (first | infer_instance | assumption))
  | ((with_reducible apply ec_filter); (walk_at "ev"); rfl; (intro _ _; walk_at "ev"); (walk_at "sz"))
  | ((with_reducible apply ec_map2); (walk_at "ev"); rfl; rfl; (intro _ _; walk_at "ev"); (walk_at "sz"))
  | ((with_reducible apply ec_both2); (walk_at "ev"); rfl; rfl; (intro _ _; walk_at "ev"); (intro _ _ _; walk_at "ev"); (walk_at "sz"))
  | ((with_reducible apply ec_map); (walk_at "ev"); rfl; (intro _ _; walk_at "ev"); (walk_at "sz"))
  | ((with_reducible apply ec_both); (walk_at "ev"); rfl; (intro _ _; walk_at "ev"); (intro _ _ _; walk_at "ev"); (walk_at "sz"))
  | (with_reducible exact ev_l0)
  | ((with_reducible apply ev_ite); (walk_at "ev"); (intro _; walk_at "ev"); (intro _; walk_at "ev"))))

/-- what derivation tells -/
structure DerivQ (d : Dr) (X Y : List Int) (r : List Step' × List Int) : Prop where
  sv : SV d r.1
  len : r.1.length ≤ 20000
  len2 : r.2.length = (distr d (nearF d X Y)).length
  ends : ∀ (i : Nat) (D : List Int), (distr d (nearF d X Y))[i]? = some D → ∃ (e : Nat) (o : Step'), r.2[i]? = some ((e : Nat) : Int) ∧ r.1[e]? = some o ∧ o.c = D
/-- what hedge tells -/
structure HedgeQ (d : Dr) (X Y : List Int) (r : List Int × List Int) : Prop where
  hedge : Hedge d X Y r.1 r.2
  s1 : r.1.Pairwise (· < ·)
  s2 : r.2.Pairwise (· < ·)
  i1 : InR d.a r.1
  i2 : InR d.a r.2
section
variable {Pr : Prog} {n : Nat} {d : Dr} {X Y : List Int}
theorem Qu.lens (q : Qu d X Y) : X.length ≤ 12 ∧ Y.length ≤ 12 ∧ (nearF d X Y).length ≤ 12 := by
  have m12 := q.good.m12
  have h1 := below_len (nodup_of_sorted q.sX) q.iX
  have h2 := below_len (nodup_of_sorted q.sY) q.iY
  have h3 := below_len (nodup_of_sorted (near_sorted (d := d) (X := X) (Y := Y))) near_inR
  omega
theorem Qu.near_of (q : Qu d X Y) {y : Int} (h : y ∈ Y) : y ∈ nearF d X Y := (mem_anc q.good.tame q.iY).mpr (.base h)
theorem Qu.led (P : P0 Pr) (h164 : Pr 164 = some k_home_of) (h165 : Pr 165 = some k_led_to) (q : Qu d X Y) : ∀ D ∈ distr d (nearF d X Y), ∃ r : List Step' × List Int, evalD Pr (n + 5) 165 [enc d, enc D] = .ok (enc r) ∧ LedQ d D r := fun D hD => by
  obtain ⟨v, hv, eD, vD, cD, sD, iD⟩ := q.dist_near hD
  refine ev_led_to P h164 h165 q.good (fun z => by rw [z] at vD; cases vD) iD cD ?_
  rw [eD]
  have := dist_len (d := d) (A := nearF d X Y) (v := v) (by have := q.good.m12; omega)
  omega
theorem told_of (q : Qu d X Y) (h : ∀ D ∈ distr d (nearF d X Y), Last d D D) : Told d X Y := fun ⟨O, I, hO, hh⟩ => by
  obtain ⟨D, hD, no⟩ := last_hedge q hh hO
  exact no D (h D hD) rfl
theorem not_told_of (q : Qu d X Y) {D H : List Int} (hD : D ∈ distr d (nearF d X Y)) (l : Last d D H) (hne : H ≠ D) : ¬ Told d X Y := fun t => t ⟨H, D, l.inR, hedge_last q hD l hne⟩
structure PDv (Pr : Prog) : Prop extends P0 Pr where
  p163 : Pr 163 = some k_inner_of
  p164 : Pr 164 = some k_home_of
  p165 : Pr 165 = some k_led_to
  p166 : Pr 166 = some k_joined
  p167 : Pr 167 = some k_derivation_of
theorem ev_derivation_of (P : PDv Pr) (q : Qu d X Y) : (Told d X Y ∧ ∃ r : List Step' × List Int, evalD Pr (n + 6) 167 [enc d, enc X, enc Y] = .ok (enc r) ∧ DerivQ d X Y r) ∨ (¬ Told d X Y ∧ evalD Pr (n + 6) 167 [enc d, enc X, enc Y] = .ok .none) := by
  have g := q.good
  have T := g.tame
  obtain ⟨lX, lY, lN⟩ := q.lens
  let N := nearF d X Y
  have f1 : evalD Pr (n + 5) 163 [enc d, enc X, enc Y] = .ok (enc N) := ev_inner_of (n := n + 2) P.toP0 P.p163 g q.iY (by omega)
  have f2 : evalD Pr (n + 5) 32 [enc d, enc N] = .ok (enc (distr d N)) := ev_distr (n := n + 3) P.p4 P.p32 T near_inR (by show (nearF d X Y).length ≤ _; omega)
  have f3 := Qu.led (n := n) P.toP0 P.p164 P.p165 q
  have ld : (distr d N).length ≤ 12 := Nat.le_trans (distr_len T near_inR) lN
  obtain ⟨v, hv, hq⟩ := wp_def (n := n + 5) (Q := fun v => (Told d X Y ∧ ∃ r : List Step' × List Int, v = enc r ∧ DerivQ d X Y r) ∨ (¬ Told d X Y ∧ v = .none)) (vs := [enc d, enc X, enc Y]) P.p167 rfl (by
    refine wp_set (v := enc ([] : List (List Step'))) rfl rfl rfl ?_
    refine wp_for (l := distr d N) instEncList (by walk_at "ev") (fun (s : List (List Step')) (j : Option (Val × Nat) × Option (Val × Nat) × Option (Val × Nat)) => [some (enc d, 0), some (enc X, 0), some (enc Y, 0), some (enc s, 1), j.1, j.2.1, j.2.2])
      (fun pre s => s.length = pre.length ∧ (∀ w ∈ s, Chain d w ∧ w.length ≤ 200) ∧ (∀ D ∈ pre, Last d D D) ∧ ∀ (i : Nat) (D : List Int), pre[i]? = some D → ∃ w, s[i]? = some w ∧ lastC w = D) [] (none, none, none) rfl ⟨rfl, fun _ z => (nomatch z), fun _ z => (nomatch z), fun _ _ z => (nomatch z)⟩ ?_ ?_
    · rintro pre D post ways ⟨j1, j2, j3⟩ hl ⟨e1, e2, e3, e4⟩
      have hD : D ∈ distr d N := by rw [hl]; exact List.mem_append_right _ List.mem_cons_self
      have lp : pre.length < (distr d N).length := by rw [hl, List.length_append, List.length_cons]; omega
      obtain ⟨⟨st, H⟩, hr, lq⟩ := f3 D hD
      refine ⟨_, rfl, ?_⟩
      refine wp_asg (v := enc (st, H)) (by walk_at "ev") rfl ?_
      refine wp_if (p := tr (¬ H = D)) ?_ (fun q1 => ?_) (fun q1 => ?_)
      · exact eb_ne (i := instEncList) rfl rfl (by decide)
      · refine wp_ret (v := .none) rfl ?_
        exact .inr (.inl ⟨_, rfl, rt_of (.inr ⟨not_told_of q hD lq.ok (tr_iff.mp q1), rfl⟩)⟩)
      · have eH : H = D := Classical.byContradiction fun z => tr_not.mp q1 z
        subst eH
        refine wp_nil ?_
        refine wp_app (i1 := instEncList) (xs := ways) (x := st) rfl rfl (by omega) rfl (wp_nil ?_)
        refine .inl ⟨ways ++ [st], (_, _, _), .inl rfl, by simp [e1], fun w hw => ?_, fun D' hD' => ?_, fun i D' e => ?_⟩
        · rcases List.mem_append.mp hw with z | z
          · exact e2 w z
          · have : w = st := by simpa using z
            subst this
            exact ⟨lq.chain, lq.len⟩
        · rcases List.mem_append.mp hD' with z | z
          · exact e3 D' z
          · have : D' = H := by simpa using z
            subst this
            exact lq.ok
        · have hi := getElem_lt e
          rw [List.length_append, List.length_singleton] at hi
          by_cases q2 : i < pre.length
          · rw [List.getElem?_append_left q2] at e
            obtain ⟨w, g1, g2⟩ := e4 i D' e
            exact ⟨w, by rw [List.getElem?_append_left (by omega)]; exact g1, g2⟩
          · have ei : i = pre.length := by omega
            subst ei
            rw [List.getElem?_append_right (Nat.le_refl _)] at e
            simp at e
            subst e
            refine ⟨st, by rw [List.getElem?_append_right (by omega), e1]; simp, ?_⟩
            obtain ⟨pr, l, h1, h2⟩ := lq.last
            simp only at h1 h2
            rw [h1, lastC_app, h2]
    · rintro ways ⟨j1, j2, j3⟩ ⟨e1, e2, e3, e4⟩
      obtain ⟨y, hy⟩ := List.exists_mem_of_ne_nil _ q.ne
      have hne : ways ≠ [] := fun z => by
        have : dist d N y ∈ distr d N := (mem_distr T near_inR).mpr ⟨y, q.near_of hy, rfl⟩
        have := List.length_pos_of_mem this
        rw [z] at e1
        simp at e1
        omega
      obtain ⟨r, hr, jq⟩ := ev_joined (n := n + 4) P.p166 hne e2 (by omega)
      refine wp_frz rfl (wp_ret (v := enc r) (by walk_at "ev") ?_)
      refine rt_of (.inl ⟨told_of q e3, r, rfl, jq.sv, ?_, by rw [jq.len2, e1], fun i D e => ?_⟩)
      · have := jq.len
        omega
      · obtain ⟨w, g1, g2⟩ := e4 i D e
        obtain ⟨e', o, h1, h2, h3⟩ := jq.ends i w g1
        exact ⟨e', o, h1, h2, by rw [h3, g2]⟩)
  rcases hq with ⟨t, r, rfl, dq⟩ | ⟨t, rfl⟩
  · exact .inl ⟨t, r, hv, dq⟩
  · exact .inr ⟨t, hv⟩
theorem P1.dv (P : P1 Pr) : PDv Pr := ⟨P.toP0, P.p163, P.p164, P.p165, P.p166, P.p167⟩
theorem ev_derivation (P : P1 Pr) (q : Qu d X Y) : (Told d X Y ∧ ∃ r : List Step' × List Int, evalD Pr (n + 7) 516 [enc d, enc X, enc Y] = .ok (enc r) ∧ DerivQ d X Y r) ∨ (¬ Told d X Y ∧ evalD Pr (n + 7) 516 [enc d, enc X, enc Y] = .ok .none) := by
  have f0 := ev_check_question (n := n + 2) P q
  rcases ev_derivation_of (n := n) P.dv q with ⟨t, r, e, dq⟩ | ⟨t, e⟩
  · refine .inl ⟨t, r, evalD_rt P.p516 rfl (st_expr (v := .none) (by walk_at "ev") (ss_ret (by walk_at "ev"))), dq⟩
  · refine .inr ⟨t, evalD_rt P.p516 rfl (st_expr (v := .none) (by walk_at "ev") (ss_ret (by walk_at "ev")))⟩
theorem ev_is_told (P : P1 Pr) (q : Qu d X Y) : evalD Pr (n + 7) 168 [enc d, enc X, enc Y] = .ok (.bool (tr (Told d X Y))) := by
  have f0 := ev_check_question (n := n + 2) P q
  refine evalD_rt P.p168 rfl (st_expr (v := .none) (by walk_at "ev") (ss_ret ?_))
  rcases ev_derivation_of (n := n) P.dv q with ⟨t, r, e, dq⟩ | ⟨t, e⟩
  · rw [tr_true t]
    have : evalE (evalD Pr (n + 6)) 0 (.op .notNone [.call 167 [.var 0, .var 1, .var 2]]) (startE k_is_told [enc d, enc X, enc Y]) = .ok (.bool (!isNoneB (enc r))) := by walk_at "ev"
    exact this
  · rw [tr_false t]
    have : evalE (evalD Pr (n + 6)) 0 (.op .notNone [.call 167 [.var 0, .var 1, .var 2]]) (startE k_is_told [enc d, enc X, enc Y]) = .ok (.bool (!isNoneB .none)) := by walk_at "ev"
    exact this
theorem ev_hedge_of (P : PDv Pr) (h528 : Pr 528 = some k_hedge_of) (q : Qu d X Y) : (Told d X Y ∧ evalD Pr (n + 6) 528 [enc d, enc X, enc Y] = .ok .none) ∨ (¬ Told d X Y ∧ ∃ r : List Int × List Int, evalD Pr (n + 6) 528 [enc d, enc X, enc Y] = .ok (enc r) ∧ HedgeQ d X Y r) := by
  have g := q.good
  have T := g.tame
  obtain ⟨lX, lY, lN⟩ := q.lens
  let N := nearF d X Y
  have f1 : evalD Pr (n + 5) 163 [enc d, enc X, enc Y] = .ok (enc N) := ev_inner_of (n := n + 2) P.toP0 P.p163 g q.iY (by omega)
  have f2 : evalD Pr (n + 5) 32 [enc d, enc N] = .ok (enc (distr d N)) := ev_distr (n := n + 3) P.p4 P.p32 T near_inR (by show (nearF d X Y).length ≤ _; omega)
  have f3 := Qu.led (n := n) P.toP0 P.p164 P.p165 q
  obtain ⟨v, hv, hq⟩ := wp_def (n := n + 5) (Q := fun v => (Told d X Y ∧ v = .none) ∨ (¬ Told d X Y ∧ ∃ r : List Int × List Int, v = enc r ∧ HedgeQ d X Y r)) (vs := [enc d, enc X, enc Y]) h528 rfl (by
    refine wp_for (l := distr d N) instEncList (by walk_at "ev") (fun (s : Unit) (j : Option (Val × Nat) × Option (Val × Nat)) => [some (enc d, 0), some (enc X, 0), some (enc Y, 0), j.1, j.2])
      (fun pre s => ∀ D ∈ pre, Last d D D) () (none, none) rfl (fun _ z => (nomatch z)) ?_ ?_
    · rintro pre D post _ ⟨j1, j2⟩ hl e3
      have hD : D ∈ distr d N := by rw [hl]; exact List.mem_append_right _ List.mem_cons_self
      obtain ⟨⟨st, H⟩, hr, lq⟩ := f3 D hD
      refine ⟨_, rfl, ?_⟩
      refine wp_set (v := enc H) ?_ rfl rfl ?_
      · exact ev_pb (i1 := instEncList) (i2 := instEncList) (x := (st, H)) (by walk_at "ev")
      refine wp_if (p := tr (¬ H = D)) (eb_ne (i := instEncList) rfl rfl (by decide)) (fun q1 => ?_) (fun q1 => ?_)
      · refine wp_ret (v := enc (H, D)) (ev_pair (i1 := instEncList) (i2 := instEncList) rfl rfl) ?_
        have hh := hedge_last q hD lq.ok (tr_iff.mp q1)
        obtain ⟨v, hv, eD, vD, cD, sD, iD⟩ := q.dist_near hD
        exact .inr (.inl ⟨_, rfl, rt_of (.inr ⟨not_told_of q hD lq.ok (tr_iff.mp q1), (H, D), rfl, hh, lq.ok.srt, by show D.Pairwise _; rw [eD]; exact dist_sorted, lq.ok.inR, iD⟩)⟩)
      · have eH : H = D := Classical.byContradiction fun z => tr_not.mp q1 z
        subst eH
        refine wp_nil (wp_nil ?_)
        refine .inl ⟨(), (_, _), .inl rfl, fun D' hD' => ?_⟩
        rcases List.mem_append.mp hD' with z | z
        · exact e3 D' z
        · have : D' = H := by simpa using z
          subst this
          exact lq.ok
    · rintro _ ⟨j1, j2⟩ e3
      exact wp_ret (v := .none) rfl (rt_of (.inl ⟨told_of q e3, rfl⟩)))
  rcases hq with ⟨t, rfl⟩ | ⟨t, r, rfl, dq⟩
  · exact .inl ⟨t, hv⟩
  · exact .inr ⟨t, r, hv, dq⟩
theorem ev_hedge (P : P1 Pr) (h528 : Pr 528 = some k_hedge_of) (h529 : Pr 529 = some k_hedge) (q : Qu d X Y) : (Told d X Y ∧ evalD Pr (n + 7) 529 [enc d, enc X, enc Y] = .ok .none) ∨ (¬ Told d X Y ∧ ∃ r : List Int × List Int, evalD Pr (n + 7) 529 [enc d, enc X, enc Y] = .ok (enc r) ∧ HedgeQ d X Y r) := by
  have f0 := ev_check_question (n := n + 2) P q
  rcases ev_hedge_of (n := n) P.dv h528 q with ⟨t, e⟩ | ⟨t, r, e, dq⟩
  · refine .inl ⟨t, evalD_rt h529 rfl (st_expr (v := .none) (by walk_at "ev") (ss_ret (by walk_at "ev")))⟩
  · refine .inr ⟨t, r, evalD_rt h529 rfl (st_expr (v := .none) (by walk_at "ev") (ss_ret (by walk_at "ev"))), dq⟩
end
end VL

/-! plain side: the checks of derivations and hedges -/
namespace VL
open PySem
open Enc
local macro_rules | `(tactic| walk_at "sz") => `(tactic| (first
  | assumption
  | omega
  | exact len_nil
  | ((with_reducible apply len_filter); walk_at "sz")
  | ((with_reducible apply len_map); walk_at "sz")
  | ((with_reducible apply len_srt); walk_at "sz")
  | ((with_reducible apply len_asc); omega)
  | ((with_reducible apply len_upto); omega)
  | ((with_reducible apply len_fromto); omega)
  | ((with_reducible apply len_app); (walk_at "sz"); (walk_at "sz"))
  | ((with_reducible apply len_sum); (walk_at "sz"); (walk_at "sz"))
  | ((with_reducible apply len_drop); walk_at "sz")
  | ((with_reducible apply len_take); walk_at "sz")
  | ((with_reducible apply len_rev); walk_at "sz")
  | ((with_reducible apply len_cons); (walk_at "sz"); (omega))))
local macro_rules | `(tactic| walk_at "call") => `(tactic| (first | assumption | solve_by_elim))
local macro_rules | `(tactic| walk_at "args") => `(tactic| (first
  | exact evs_nil
  | ((with_reducible apply evs_cons); (walk_at "ev"); (walk_at "args"))))
local macro_rules | `(tactic| walk_at "ev") => `(tactic| (first
  | ((with_reducible apply ev_var); rfl)
  | (with_reducible exact ev_ci)
  | (with_reducible exact ev_cb)
  | (with_reducible exact ev_cst)
  | ((with_reducible apply ev_call'); (walk_at "args"); (walk_at "call"))
  | ((with_reducible apply eb_and); (walk_at "ev"); (intro _; walk_at "ev"))
  | ((with_reducible apply eb_or); (walk_at "ev"); (intro _; walk_at "ev"))
  | ((with_reducible apply eb_not); (walk_at "ev"))
  | ((with_reducible apply eb_in); (walk_at "ev"); (walk_at "ev"); decide)
  | ((with_reducible apply eb_notin); (walk_at "ev"); (walk_at "ev"); decide)
  | ((with_reducible apply eb_eq); (walk_at "ev"); (walk_at "ev"); decide)
  | ((with_reducible apply eb_ne); (walk_at "ev"); (walk_at "ev"); decide)
  | ((with_reducible apply eb_lt); (walk_at "ev"); (walk_at "ev"))
  | ((with_reducible apply eb_le); (walk_at "ev"); (walk_at "ev"))
  | ((with_reducible apply eb_gt); (walk_at "ev"); (walk_at "ev"))
  | ((with_reducible apply eb_ge); (walk_at "ev"); (walk_at "ev"))
  | ((with_reducible apply eb_chain_lt); (walk_at "ev"); (walk_at "ev"); (walk_at "ev"))
  | ((with_reducible apply eb_isN); (walk_at "ev"))
  | ((with_reducible apply eb_notN); (walk_at "ev"))
  | ((with_reducible apply eb_isB); (walk_at "ev"))
  | ((with_reducible apply eb_notB); (walk_at "ev"))
  | ((with_reducible apply eb_lend); (walk_at "ev"))
  | ((with_reducible apply eb_all); (walk_at "ev"))
  | ((with_reducible apply eb_any); (walk_at "ev"))
  | ((with_reducible apply ev_lenL); (walk_at "ev"))
  | ((with_reducible apply ev_neg); (walk_at "ev"))
  | ((with_reducible apply ev_sub); (walk_at "ev"); (walk_at "ev"))
  | ((with_reducible apply ev_addI); (walk_at "ev"); (walk_at "ev"))
  | ((with_reducible apply ev_addL); (walk_at "ev"); (walk_at "ev"); (walk_at "sz"))
  | ((with_reducible apply ev_mul); (walk_at "ev"); (walk_at "ev"); omega; omega)
  | ((with_reducible apply ev_int); (walk_at "ev"))
  | ((with_reducible apply ev_intb); (walk_at "ev"))
  | ((with_reducible apply ev_max); (walk_at "ev"); (walk_at "ev"))
  | ((with_reducible apply ev_min); (walk_at "ev"); (walk_at "ev"))
  | ((with_reducible apply ev_ta); (walk_at "ev"))
  | ((with_reducible apply ev_tb); (walk_at "ev"))
  | ((with_reducible apply ev_tc); (walk_at "ev"))
  | ((with_reducible apply ev_pa); (walk_at "ev"))
  | ((with_reducible apply ev_pb); (walk_at "ev"))
  | ((with_reducible apply ev_ix); (walk_at "ev"); (walk_at "ev"); (assumption))
  | ((with_reducible apply ev_pair); (walk_at "ev"); (walk_at "ev"))
  | ((with_reducible apply ev_trip); (walk_at "ev"); (walk_at "ev"); (walk_at "ev"))
  | ((with_reducible apply ev_l1); (walk_at "ev"))
  | ((with_reducible apply ev_l2); (walk_at "ev"); (walk_at "ev"))
  | ((with_reducible apply ev_rng); (walk_at "ev"); omega; omega)
  | ((with_reducible apply ev_rng2); (walk_at "ev"); (walk_at "ev"); omega; omega; omega; omega)
  | ((with_reducible apply ev_listof); (walk_at "ev"))
  | ((with_reducible apply ev_rev); (walk_at "ev"))
  | ((with_reducible apply ev_drop); (walk_at "ev"); (walk_at "ev"); omega)
  | ((with_reducible apply ev_take); (walk_at "ev"); (walk_at "ev"); omega)
  | ((with_reducible apply ev_sorted); (walk_at "ev"); (first | infer_instance | assumption))
  | ((with_reducible apply ec_filter); (walk_at "ev"); rfl; (intro _ _; walk_at "ev"); (walk_at "sz"))
  | ((with_reducible apply ec_map2); (walk_at "ev"); rfl; rfl; (intro _ _; walk_at "ev"); (walk_at "sz"))
  | ((with_reducible apply ec_both2); (walk_at "ev"); rfl; rfl; (intro _ _; walk_at "ev"); (intro _ _ _; walk_at "ev"); (walk_at "sz"))
  | ((with_reducible apply ec_map); (walk_at "ev"); rfl; (intro _ _; walk_at "ev"); (walk_at "sz"))
  | ((with_reducible apply ec_both); (walk_at "ev"); rfl; (intro _ _; walk_at "ev"); (intro _ _ _; walk_at "ev"); (walk_at "sz"))
  | (with_reducible exact ev_l0)
  | ((with_reducible apply ev_ite); (walk_at "ev"); (intro _; walk_at "ev"); (intro _; walk_at "ev"))))

theorem all_id_map {α : Type} {l : List α} {f : α → Bool} : (l.map f).all id = l.all f := by rw [List.all_map]; rfl
theorem all_tr {α : Type} {l : List α} {P : α → Prop} : l.all (fun x => tr (P x)) = tr (∀ x ∈ l, P x) := by
  rw [Bool.eq_iff_iff, List.all_eq_true, tr_iff]
  exact ⟨fun h x hx => tr_iff.mp (h x hx), fun h x hx => tr_true (h x hx)⟩
theorem tr_and {p q : Prop} : (tr p && tr q) = tr (p ∧ q) := by
  rw [Bool.eq_iff_iff, Bool.and_eq_true, tr_iff, tr_iff, tr_iff]
theorem tr_or {p q : Prop} : (tr p || tr q) = tr (p ∨ q) := by
  rw [Bool.eq_iff_iff, Bool.or_eq_true, tr_iff, tr_iff, tr_iff]
theorem tr_congr {p q : Prop} (h : p ↔ q) : tr p = tr q := by rw [propext h]
theorem mem_fromto {lo m x : Int} : x ∈ fromto lo m ↔ lo ≤ x ∧ x < m := by
  unfold fromto
  rw [List.mem_map]
  constructor
  · rintro ⟨t, ht, rfl⟩
    have := List.mem_range.mp ht
    omega
  · rintro ⟨h1, h2⟩
    exact ⟨(x - lo).toNat, List.mem_range.mpr (by omega), by omega⟩
theorem sorted_adj {l : List Int} (h : ∀ (i : Nat) (a b : Int), l[i]? = some a → l[i + 1]? = some b → a < b) : l.Pairwise (· < ·) := by
  induction l with
  | nil => exact List.Pairwise.nil
  | cons x l ih =>
    have ih' := ih fun i a b h1 h2 => h (i + 1) a b (by simpa using h1) (by simpa using h2)
    refine List.pairwise_cons.mpr ⟨fun y hy => ?_, ih'⟩
    cases l with
    | nil => cases hy
    | cons z r =>
      have xz := h 0 x z rfl rfl
      rcases List.mem_cons.mp hy with e | e
      · rw [e]
        exact xz
      · have := (List.pairwise_cons.mp ih').1 y e
        omega
theorem adj_of {l : List Int} (h : l.Pairwise (· < ·)) {i : Nat} {a b : Int} (h1 : l[i]? = some a) (h2 : l[i + 1]? = some b) : a < b := pair_at h h1 h2
theorem getD_at {α : Type} {l : List α} {j : Nat} {dflt : α} (h : j < l.length) : l[j]? = some (l.getD j dflt) := by
  rw [List.getD_eq_getElem?_getD, List.getElem?_eq_getElem h]
  rfl
structure PCd (Pr : Prog) : Prop extends P1 Pr where
  p486 : Pr 486 = some k_is_inside
  p487 : Pr 487 = some k_is_step
  p488 : Pr 488 = some k_first_bad_step
  p517 : Pr 517 = some k_accepts
  p518 : Pr 518 = some k_check_derivation
def stepOk (d : Dr) (steps : List Step') (k : Nat) (x : Step') : Prop :=
  (k = 0 ∧ x = ⟨.seen, -1, upto d.a⟩) ∨ (0 < k ∧ ∃ (s : Nat) (o : Step'), x.b = ((s : Nat) : Int) ∧ s < k ∧ steps[s]? = some o ∧ okSt d o.c x.a x.c)
theorem sv_iff {d : Dr} {steps : List Step'} : SV d steps ↔ steps ≠ [] ∧ ∀ (k : Nat) (x : Step'), steps[k]? = some x → stepOk d steps k x := by
  constructor
  · intro h
    refine ⟨fun z => (by have := h.first; rw [z] at this; cases this), fun k x e => ?_⟩
    cases k with
    | zero =>
      rw [h.first] at e
      cases e
      exact .inl ⟨rfl, rfl⟩
    | succ k => exact .inr ⟨by omega, h.next (k + 1) x (by omega) e⟩
  · rintro ⟨h1, h2⟩
    refine ⟨?_, fun k x hk e => ?_⟩
    · cases steps with
      | nil => exact absurd rfl h1
      | cons x r =>
        rcases h2 0 x rfl with h | h
        · rw [h.2]
          rfl
        · omega
    · rcases h2 k x e with h | h
      · omega
      · exact h.2
section
variable {Pr : Prog} {n : Nat} {d : Dr} {X Y : List Int} {steps : List Step'}
theorem ev_is_inside (h : Pr 486 = some k_is_inside) {a b : List Int} (la : a.length ≤ 100000) : evalD Pr (n + 1) 486 [enc a, enc b] = .ok (.bool (tr ((∀ x ∈ a, x ∈ b) ∧ a.Pairwise (· < ·)))) := by
  refine evalD_rt h rfl (ss_ret ?_)
  rw [← tr_and]
  refine eb_and ?_ fun _ => ?_
  · rw [← all_tr, ← all_id_map]
    refine eb_all (ec_map (i1 := instEncInt) (i3 := encBool) (l := a) rfl rfl (fun x _ => eb_enc ?_) (by omega))
    walk_at "ev"
  · have : (tr (a.Pairwise (· < ·))) = ((fromto 1 (a.length : Nat)).map fun k => tr (a.getD (k - 1).toNat 0 < a.getD k.toNat 0)).all id := by
      rw [all_id_map, all_tr]
      refine tr_congr ⟨fun h k hk => ?_, fun h => sorted_adj fun i u v h1 h2 => ?_⟩
      · obtain ⟨k1, k2⟩ := mem_fromto.mp hk
        refine adj_of h (i := (k - 1).toNat) (getD_at (dflt := 0) (by omega)) ?_
        rw [show (k - 1).toNat + 1 = k.toNat by omega]
        exact getD_at (dflt := 0) (by omega)
      · have hl := getElem_lt h2
        have := h ((i + 1 : Nat) : Int) (mem_fromto.mpr (by omega))
        rw [show (((i + 1 : Nat) : Int) - 1).toNat = i by omega, Int.toNat_natCast] at this
        rw [List.getD_eq_getElem?_getD, List.getD_eq_getElem?_getD, h1, h2] at this
        exact this
    rw [this]
    refine eb_all (ec_map (i1 := instEncInt) (i3 := encBool) (l := fromto 1 (a.length : Nat)) (by walk_at "ev") rfl (fun k hk => eb_enc ?_) (len_fromto (by omega)))
    obtain ⟨k1, k2⟩ := mem_fromto.mp hk
    have g1 : L2.atI a (k - 1) = some (a.getD (k - 1).toNat 0) := by
      rw [show k - 1 = (((k - 1).toNat : Nat) : Int) by omega, Int.toNat_natCast]
      exact atI_nat (getD_at (by omega))
    have g2 : L2.atI a k = some (a.getD k.toNat 0) := by
      have := atI_nat (xs := a) (j := k.toNat) (getD_at (dflt := 0) (by omega))
      rw [show ((k.toNat : Nat) : Int) = k by omega] at this
      exact this
    walk_at "ev"
/-- the sets of good steps are sets -/
theorem stepOk_set (T : Tame d) : ∀ (k : Nat) (x : Step'), (∀ (j : Nat) (y : Step'), j ≤ k → steps[j]? = some y → stepOk d steps j y) → steps[k]? = some x → x.c.Pairwise (· < ·) ∧ InR d.a x.c := by
  intro k
  induction k using Nat.strongRecOn with
  | ind k ih =>
    intro x hp e
    rcases hp k x (Nat.le_refl _) e with ⟨_, rfl⟩ | ⟨hk, s, o, h1, h2, h3, h4⟩
    · exact ⟨upto_sorted _, fun x h => mem_upto.mp h⟩
    · obtain ⟨so, io⟩ := ih s h2 o (fun j y hj => hp j y (by omega)) h3
      unfold okSt at h4
      split at h4
      · exact ⟨h4.2.1, fun y hy => io y (h4.1 y hy)⟩
      · obtain ⟨v, hv, e⟩ := (mem_distr T io).mp h4
        rw [e]
        exact ⟨dist_sorted, dist_inR⟩
      · exact h4.elim
theorem kd_eq {a b : Kd} : (a = b) ↔ a = b := Iff.rfl
theorem ev_is_step (P : PCd Pr) (g : Good d) {k : Nat} {x : Step'} (hk : steps[k]? = some x) (hp : ∀ (j : Nat) (y : Step'), j < k → steps[j]? = some y → stepOk d steps j y) (hl : ∀ y ∈ steps, y.c.length ≤ 1000) :
    evalD Pr (n + 4) 487 [enc d, enc steps, enc ((k : Nat) : Int)] = .ok (.bool (tr (stepOk d steps k x))) := by
  have m12 := g.m12
  have m1 := g.m1
  have T := g.tame
  have xl := hl x (List.mem_of_getElem? hk)
  have hx : L2.atI steps ((k : Nat) : Int) = some x := atI_nat hk
  refine evalD_rt P.p487 rfl ?_
  refine st_asg (v := enc x) ?_ rfl ?_
  · walk_at "ev"
  refine st_ifr (p := tr (((k : Nat) : Int) = 0)) (eb_eq (i := instEncInt) rfl rfl (by decide)) (fun q => ?_) (fun q => ?_)
  · have q' : k = 0 := by have := tr_iff.mp q; omega
    have e1 : tr (stepOk d steps k x) = (tr (x.a = .seen) && (tr (x.b = -1) && tr (x.c = upto d.a))) := by
      rw [tr_and, tr_and]
      refine tr_congr ⟨fun h => ?_, fun h => .inl ⟨q', ?_⟩⟩
      · rcases h with ⟨_, rfl⟩ | h
        · exact ⟨rfl, rfl, rfl⟩
        · omega
      · obtain ⟨xa, xb, xc⟩ := x
        simp only at h
        rw [h.1, h.2.1, h.2.2]
    rw [e1]
    refine ss_ret (eb_and (eb_eq (i := encKd) rfl ev_kseen (by decide)) fun _ => eb_and (by walk_at "ev") fun _ => by walk_at "ev")
  · have q' : 0 < k := by have := tr_not.mp q; omega
    refine st_ifr (p := !tr (0 ≤ x.b ∧ x.b < ((k : Nat) : Int))) (eb_not (eb_chain_lt rfl rfl rfl)) (fun q2 => ?_) (fun q2 => ?_)
    · have q3 : ¬ (0 ≤ x.b ∧ x.b < ((k : Nat) : Int)) := tr_not.mp (by simpa using q2)
      rw [tr_false fun h => by
        rcases h with h | ⟨_, s, o, h1, h2, _⟩
        · omega
        · omega]
      exact ss_ret rfl
    · have q3 : 0 ≤ x.b ∧ x.b < ((k : Nat) : Int) := tr_iff.mp (by simpa using q2)
      have kl := getElem_lt hk
      obtain ⟨o, ho⟩ : ∃ o, steps[x.b.toNat]? = some o := ⟨_, List.getElem?_eq_getElem (by omega)⟩
      have hb : x.b = ((x.b.toNat : Nat) : Int) := by omega
      have ho' : L2.atI steps x.b = some o := by
        rw [hb]
        exact atI_nat ho
      obtain ⟨so, io⟩ := stepOk_set T x.b.toNat o (fun j y hj => hp j y (by omega)) ho
      have ol := hl o (List.mem_of_getElem? ho)
      have key : stepOk d steps k x ↔ okSt d o.c x.a x.c := by
        constructor
        · rintro (h | ⟨_, s, o', h1, h2, h3, h4⟩)
          · omega
          · have : s = x.b.toNat := by omega
            rw [this, ho] at h3
            cases h3
            exact h4
        · exact fun h => .inr ⟨q', x.b.toNat, o, hb, by omega, ho, h⟩
      refine st_set (v := enc o.c) ?_ rfl rfl ?_
      · walk_at "ev"
      refine st_ifr (p := tr (x.a = .sum)) (eb_eq (i := encKd) rfl ev_ksum (by decide)) (fun q4 => ?_) (fun q4 => ?_)
      · have e4 := tr_iff.mp q4
        have f1 := ev_is_inside (n := n + 2) (Pr := Pr) P.p486 (a := x.c) (b := o.c) (by omega)
        have e1 : tr (stepOk d steps k x) = (tr ((∀ y ∈ x.c, y ∈ o.c) ∧ x.c.Pairwise (· < ·)) && tr (ancF (partD d o.c) x.c = x.c)) := by
          rw [tr_and]
          refine tr_congr (key.trans ?_)
          rw [e4]
          exact ⟨fun h => ⟨⟨h.1, h.2.1⟩, h.2.2⟩, fun h => ⟨h.1.1, h.1.2, h.2⟩⟩
        rw [e1]
        refine ss_ret (eb_and ?_ fun q5 => ?_)
        · walk_at "ev"
        · have q6 := (tr_iff.mp q5).1
          have f2 : evalD Pr (n + 3) 16 [enc d, enc o.c] = .ok (enc (partD d o.c)) := ev_part_of (n := n + 2) P.p16 T
          have f3 : evalD Pr (n + 3) 28 [enc (partD d o.c), enc x.c] = .ok (enc (ancF (partD d o.c) x.c)) := ev_anc (n := n + 1) P.p4 P.p28 (T.part o.c) (fun y hy => io y (q6 y hy)) (by omega)
          walk_at "ev"
      · have n4 := tr_not.mp q4
        have f2 : evalD Pr (n + 3) 32 [enc d, enc o.c] = .ok (enc (distr d o.c)) := ev_distr (n := n + 1) P.p4 P.p32 T io (by omega)
        have e1 : tr (stepOk d steps k x) = (tr (x.a = .cut) && tr (x.c ∈ distr d o.c)) := by
          rw [tr_and]
          refine tr_congr (key.trans ?_)
          unfold okSt
          split
          · rename_i e
            exact absurd e n4
          · rename_i e
            simp [e]
          · rename_i e1 e2
            exact ⟨fun z => z.elim, fun h => absurd h.1 e2⟩
        rw [e1]
        refine ss_ret (eb_and (eb_eq (i := encKd) rfl ev_kcut (by decide)) fun _ => ?_)
        walk_at "ev"
end
end VL

/-! plain side: the checks of derivations and hedges, 2 -/
namespace VL
open PySem
open Enc
local macro_rules | `(tactic| walk_at "sz") => `(tactic| (first
  | assumption
  | omega
  | exact len_nil
  | ((with_reducible apply len_filter); walk_at "sz")
  | ((with_reducible apply len_map); walk_at "sz")
  | ((with_reducible apply len_srt); walk_at "sz")
  | ((with_reducible apply len_asc); omega)
  | ((with_reducible apply len_upto); omega)
  | ((with_reducible apply len_fromto); omega)
  | ((with_reducible apply len_app); (walk_at "sz"); (walk_at "sz"))
  | ((with_reducible apply len_sum); (walk_at "sz"); (walk_at "sz"))
  | ((with_reducible apply len_drop); walk_at "sz")
  | ((with_reducible apply len_take); walk_at "sz")
  | ((with_reducible apply len_rev); walk_at "sz")
  | ((with_reducible apply len_cons); (walk_at "sz"); (omega))))
local macro_rules | `(tactic| walk_at "call") => `(tactic| (first | assumption | solve_by_elim))
local macro_rules | `(tactic| walk_at "args") => `(tactic| (first
  | exact evs_nil
  | ((with_reducible apply evs_cons); (walk_at "ev"); (walk_at "args"))))
local macro_rules | `(tactic| walk_at "ev") => `(tactic| (first
  | ((with_reducible apply ev_var); rfl)
  | (with_reducible exact ev_ci)
  | (with_reducible exact ev_cb)
  | (with_reducible exact ev_cst)
  | ((with_reducible apply ev_call'); (walk_at "args"); (walk_at "call"))
  | ((with_reducible apply eb_and); (walk_at "ev"); (intro _; walk_at "ev"))
  | ((with_reducible apply eb_or); (walk_at "ev"); (intro _; walk_at "ev"))
  | ((with_reducible apply eb_not); (walk_at "ev"))
  | ((with_reducible apply eb_in); (walk_at "ev"); (walk_at "ev"); decide)
  | ((with_reducible apply eb_notin); (walk_at "ev"); (walk_at "ev"); decide)
  | ((with_reducible apply eb_eq); (walk_at "ev"); (walk_at "ev"); decide)
  | ((with_reducible apply eb_ne); (walk_at "ev"); (walk_at "ev"); decide)
  | ((with_reducible apply eb_lt); (walk_at "ev"); (walk_at "ev"))
  | ((with_reducible apply eb_le); (walk_at "ev"); (walk_at "ev"))
  | ((with_reducible apply eb_gt); (walk_at "ev"); (walk_at "ev"))
  | ((with_reducible apply eb_ge); (walk_at "ev"); (walk_at "ev"))
  | ((with_reducible apply eb_chain_lt); (walk_at "ev"); (walk_at "ev"); (walk_at "ev"))
  | ((with_reducible apply eb_isN); (walk_at "ev"))
  | ((with_reducible apply eb_notN); (walk_at "ev"))
  | ((with_reducible apply eb_isB); (walk_at "ev"))
  | ((with_reducible apply eb_notB); (walk_at "ev"))
  | ((with_reducible apply eb_lend); (walk_at "ev"))
  | ((with_reducible apply eb_all); (walk_at "ev"))
  | ((with_reducible apply eb_any); (walk_at "ev"))
  | ((with_reducible apply ev_lenL); (walk_at "ev"))
  | ((with_reducible apply ev_neg); (walk_at "ev"))
  | ((with_reducible apply ev_sub); (walk_at "ev"); (walk_at "ev"))
  | ((with_reducible apply ev_addI); (walk_at "ev"); (walk_at "ev"))
  | ((with_reducible apply ev_addL); (walk_at "ev"); (walk_at "ev"); (walk_at "sz"))
  | ((with_reducible apply ev_mul); (walk_at "ev"); (walk_at "ev"); omega; omega)
  | ((with_reducible apply ev_int); (walk_at "ev"))
  | ((with_reducible apply ev_intb); (walk_at "ev"))
  | ((with_reducible apply ev_max); (walk_at "ev"); (walk_at "ev"))
  | ((with_reducible apply ev_min); (walk_at "ev"); (walk_at "ev"))
  | ((with_reducible apply ev_ta); (walk_at "ev"))
  | ((with_reducible apply ev_tb); (walk_at "ev"))
  | ((with_reducible apply ev_tc); (walk_at "ev"))
  | ((with_reducible apply ev_pa); (walk_at "ev"))
  | ((with_reducible apply ev_pb); (walk_at "ev"))
  | ((with_reducible apply ev_ix); (walk_at "ev"); (walk_at "ev"); (assumption))
  | ((with_reducible apply ev_pair); (walk_at "ev"); (walk_at "ev"))
  | ((with_reducible apply ev_trip); (walk_at "ev"); (walk_at "ev"); (walk_at "ev"))
  | ((with_reducible apply ev_l1); (walk_at "ev"))
  | ((with_reducible apply ev_l2); (walk_at "ev"); (walk_at "ev"))
  | ((with_reducible apply ev_rng); (walk_at "ev"); omega; omega)
  | ((with_reducible apply ev_rng2); (walk_at "ev"); (walk_at "ev"); omega; omega; omega; omega)
  | ((with_reducible apply ev_listof); (walk_at "ev"))
  | ((with_reducible apply ev_rev); (walk_at "ev"))
  | ((with_reducible apply ev_drop); (walk_at "ev"); (walk_at "ev"); omega)
  | ((with_reducible apply ev_take); (walk_at "ev"); (walk_at "ev"); omega)
  | ((with_reducible apply ev_sorted); (walk_at "ev"); (first | infer_instance | assumption))
  | ((with_reducible apply ec_filter); (walk_at "ev"); rfl; (intro _ _; walk_at "ev"); (walk_at "sz"))
  | ((with_reducible apply ec_map2); (walk_at "ev"); rfl; rfl; (intro _ _; walk_at "ev"); (walk_at "sz"))
  | ((with_reducible apply ec_both2); (walk_at "ev"); rfl; rfl; (intro _ _; walk_at "ev"); (intro _ _ _; walk_at "ev"); (walk_at "sz"))
  | ((with_reducible apply ec_map); (walk_at "ev"); rfl; (intro _ _; walk_at "ev"); (walk_at "sz"))
  | ((with_reducible apply ec_both); (walk_at "ev"); rfl; (intro _ _; walk_at "ev"); (intro _ _ _; walk_at "ev"); (walk_at "sz"))
  | (with_reducible exact ev_l0)
  | ((with_reducible apply ev_ite); (walk_at "ev"); (intro _; walk_at "ev"); (intro _; walk_at "ev"))))

section
variable {Pr : Prog} {n : Nat} {d : Dr} {X Y : List Int} {steps : List Step'}
theorem ev_first_bad_step (P : PCd Pr) (g : Good d) (hl : ∀ y ∈ steps, y.c.length ≤ 1000) (ls : steps.length ≤ 100000) : ∃ v, evalD Pr (n + 5) 488 [enc d, enc steps] = .ok v ∧ isNoneB v = tr (SV d steps) := by
  refine wp_def (n := n + 4) P.p488 rfl ?_
  refine wp_if (p := tr (((steps.length : Nat) : Int) = 0)) (by walk_at "ev") (fun q => ?_) (fun q => ?_)
  · refine wp_ret (v := enc (0 : Int)) rfl (rt_of ?_)
    have e : steps = [] := List.length_eq_zero_iff.mp (by have := tr_iff.mp q; omega)
    rw [tr_false fun h => (sv_iff.mp h).1 e]
    rfl
  · have hn : steps ≠ [] := fun z => tr_not.mp q (by rw [z]; rfl)
    refine wp_nil ?_
    refine wp_for (l := upto ((steps.length : Nat) : Int)) instEncInt (by walk_at "ev") (fun (s : Unit) (j : Option (Val × Nat)) => [some (enc d, 0), some (enc steps, 0), j]) (fun pre _ => ∀ (j : Nat) (y : Step'), j < pre.length → steps[j]? = some y → stepOk d steps j y) () none rfl (fun j y h => nomatch h) ?_ ?_
    · rintro pre k post _ j hp inv
      have ek := upto_at hp
      have kl : pre.length < steps.length := by
        have := congrArg List.length hp
        rw [upto_length, List.length_append, List.length_cons] at this
        omega
      obtain ⟨x, hx⟩ : ∃ x, steps[pre.length]? = some x := ⟨_, List.getElem?_eq_getElem kl⟩
      have f1 := ev_is_step (n := n) P g hx inv hl
      subst ek
      refine ⟨_, rfl, ?_⟩
      refine wp_if (p := !tr (stepOk d steps pre.length x)) (by walk_at "ev") (fun q2 => ?_) (fun q2 => ?_)
      · have q3 := tr_not.mp (by simpa using q2)
        refine wp_retv (v := enc ((pre.length : Nat) : Int)) (t := 0) rfl rfl (.inr (.inl ⟨_, rfl, rt_of ?_⟩))
        rw [tr_false fun h => q3 ((sv_iff.mp h).2 _ x hx)]
        rfl
      · have q3 := tr_iff.mp (by simpa using q2)
        refine wp_nil (wp_nil (.inl ⟨(), _, .inl rfl, fun j' y hj e => ?_⟩))
        rw [List.length_append, List.length_singleton] at hj
        by_cases q4 : j' < pre.length
        · exact inv j' y q4 e
        · have : j' = pre.length := by omega
          subst this
          rw [hx] at e
          cases e
          exact q3
    · rintro _ j inv
      refine wp_ret (v := .none) rfl (rt_of ?_)
      rw [tr_true (sv_iff.mpr ⟨hn, fun k x e => inv k x (by rw [upto_length]; have := getElem_lt e; omega) e⟩)]
      rfl
/-- what a derivation is -/
def Accp (d : Dr) (X Y : List Int) (steps : List Step') (ends : List Int) : Prop :=
  SV d steps ∧ (∀ k ∈ ends, 0 ≤ k ∧ k < ((steps.length : Nat) : Int)) ∧ ends.map (fun k => (steps.getD k.toNat ⟨.no, 0, []⟩).c) = distr d (nearF d X Y)
theorem ev_accepts (P : PCd Pr) (q : Qu d X Y) {ends : List Int} (hl : ∀ y ∈ steps, y.c.length ≤ 1000) (ls : steps.length ≤ 100000) (le : ends.length ≤ 100000) : evalD Pr (n + 6) 517 [enc d, enc X, enc Y, enc steps, enc ends] = .ok (.bool (tr (Accp d X Y steps ends))) := by
  have g := q.good
  have T := g.tame
  obtain ⟨lX, lY, lN⟩ := q.lens
  obtain ⟨v, f0, hv⟩ := ev_first_bad_step (n := n) P g hl ls
  have f1 : evalD Pr (n + 5) 163 [enc d, enc X, enc Y] = .ok (enc (nearF d X Y)) := ev_inner_of (n := n + 2) P.toP0 P.p163 g q.iY (by omega)
  have f2 : evalD Pr (n + 5) 32 [enc d, enc (nearF d X Y)] = .ok (enc (distr d (nearF d X Y))) := ev_distr (n := n + 3) P.p4 P.p32 T near_inR (by omega)
  refine evalD_rt P.p517 rfl ?_
  refine st_ifr (p := !isNoneB v || !tr (∀ k ∈ ends, 0 ≤ k ∧ k < ((steps.length : Nat) : Int))) ?_ (fun q1 => ?_) (fun q1 => ?_)
  · refine eb_or (by walk_at "ev") fun _ => eb_not ?_
    rw [← all_tr, ← all_id_map]
    refine eb_all (ec_map (i1 := instEncInt) (i3 := encBool) (l := ends) rfl rfl (fun x _ => eb_enc ?_) (by omega))
    walk_at "ev"
  · rw [hv, not_tr, not_tr, tr_or] at q1
    rw [tr_false fun h => (tr_iff.mp q1).elim (fun z => z h.1) fun z => z h.2.1]
    exact ss_ret rfl
  · rw [hv, not_tr, not_tr, tr_or] at q1
    have q2 := tr_not.mp q1
    have sv : SV d steps := Classical.byContradiction fun z => q2 (.inl z)
    have en : ∀ k ∈ ends, 0 ≤ k ∧ k < ((steps.length : Nat) : Int) := Classical.byContradiction fun z => q2 (.inr z)
    rw [tr_congr (show Accp d X Y steps ends ↔ ends.map (fun k => (steps.getD k.toNat ⟨.no, 0, []⟩).c) = distr d (nearF d X Y) from ⟨fun h => h.2.2, fun h => ⟨sv, en, h⟩⟩)]
    refine ss_ret (eb_eq (i := instEncList) ?_ (by walk_at "ev") (by decide))
    refine ec_map (i1 := instEncInt) (l := ends) rfl rfl (fun k hk => ?_) (by omega)
    obtain ⟨k1, k2⟩ := en k hk
    have g2 : L2.atI steps k = some (steps.getD k.toNat ⟨.no, 0, []⟩) := by
      have := atI_nat (xs := steps) (j := k.toNat) (getD_at (dflt := ⟨.no, 0, []⟩) (by omega))
      rw [show ((k.toNat : Nat) : Int) = k by omega] at this
      exact this
    walk_at "ev"
theorem ev_check_derivation (P : PCd Pr) (q : Qu d X Y) {ends : List Int} (hl : ∀ y ∈ steps, y.c.length ≤ 1000) (ls : steps.length ≤ 100000) (le : ends.length ≤ 100000) : evalD Pr (n + 7) 518 [enc d, enc X, enc Y, enc steps, enc ends] = .ok (.bool (tr (Accp d X Y steps ends))) := by
  have f0 := ev_check_question (n := n + 2) P.toP1 q
  have f1 := ev_accepts (n := n) P q (steps := steps) (ends := ends) hl ls le
  exact evalD_rt P.p518 rfl (st_expr (v := .none) (by walk_at "ev") (ss_ret (by walk_at "ev")))
theorem sv_sets (T : Tame d) (h : SV d steps) : ∀ y ∈ steps, y.c.Pairwise (· < ·) ∧ InR d.a y.c := fun y hy => by
  obtain ⟨k, e⟩ := List.getElem?_of_mem hy
  exact stepOk_set T k y (fun j z _ e => (sv_iff.mp h).2 j z e) e
theorem sv_lens (g : Good d) (h : SV d steps) : ∀ y ∈ steps, y.c.length ≤ 1000 := fun y hy => by
  obtain ⟨h1, h2⟩ := sv_sets g.tame h y hy
  have := below_len (nodup_of_sorted h1) h2
  have := g.m12
  omega
theorem DerivQ.acc {r : List Step' × List Int} (h : DerivQ d X Y r) : Accp d X Y r.1 r.2 := by
  have at_ : ∀ (i : Nat) (k : Int), r.2[i]? = some k → ∃ (D : List Int) (e : Nat) (o : Step'), (distr d (nearF d X Y))[i]? = some D ∧ k = ((e : Nat) : Int) ∧ r.1[e]? = some o ∧ o.c = D := fun i k e => by
    have hi := getElem_lt e
    rw [h.len2] at hi
    obtain ⟨e', o, h1, h2, h3⟩ := h.ends i _ (List.getElem?_eq_getElem hi)
    rw [h1] at e
    cases e
    exact ⟨_, e', o, List.getElem?_eq_getElem hi, rfl, h2, h3⟩
  refine ⟨h.sv, fun k hk => ?_, ?_⟩
  · obtain ⟨i, e⟩ := List.getElem?_of_mem hk
    obtain ⟨D, e', o, _, h2, h3, _⟩ := at_ i k e
    have := getElem_lt h3
    omega
  · refine List.ext_getElem? fun i => ?_
    rw [List.getElem?_map]
    cases e : r.2[i]? with
    | none =>
      have : ¬ i < r.2.length := fun z => by
        rw [List.getElem?_eq_getElem z] at e
        cases e
      rw [h.len2] at this
      rw [List.getElem?_eq_none (by omega)]
      rfl
    | some k =>
      obtain ⟨D, e', o, h1, h2, h3, h4⟩ := at_ i k e
      rw [h1, h2]
      show some (r.1.getD ((e' : Nat) : Int).toNat _).c = _
      rw [Int.toNat_natCast, List.getD_eq_getElem?_getD, h3]
      exact congrArg some h4
theorem ev_check_deriv (P : PCd Pr) (q : Qu d X Y) {r : List Step' × List Int} (h : DerivQ d X Y r) : evalD Pr (n + 7) 518 [enc d, enc X, enc Y, enc r.1, enc r.2] = .ok (.bool true) := by
  have := q.lens
  have ld := distr_len q.good.tame (near_inR (d := d) (X := X) (Y := Y))
  rw [ev_check_derivation P q (sv_lens q.good h.sv) (by have := h.len; omega) (by rw [h.len2]; omega), tr_true h.acc]
/-! hedges -/
theorem blks_one {D : Int → List Int} {b : List Int} : ∀ (l : List Int) (acc : List (List Int)), b ∈ acc → (∀ v ∈ l, v ∈ b) → l.foldl (blk D) acc = acc
  | [], acc, _, _ => rfl
  | v :: l, acc, hb, hl => by
    have : blk D acc v = acc := by
      unfold blk
      rw [if_neg]
      intro z
      have : b ∈ acc.filter fun b => tr (v ∈ b) := List.mem_filter.mpr ⟨hb, tr_true (hl v List.mem_cons_self)⟩
      rw [z] at this
      cases this
    rw [List.foldl_cons, this]
    exact blks_one l acc hb fun w hw => hl w (List.mem_cons_of_mem _ hw)
theorem distr_one (T : Tame d) {A : List Int} (hA : InR d.a A) : (distr d A).length ≤ 1 ↔ Conn d A := by
  constructor
  · intro h x hx y hy
    have mx : dist d A x ∈ distr d A := (mem_distr T hA).mpr ⟨x, hx, rfl⟩
    have my : dist d A y ∈ distr d A := (mem_distr T hA).mpr ⟨y, hy, rfl⟩
    have e : dist d A x = dist d A y := by
      match hd : distr d A, h with
      | [], _ => rw [hd] at mx; cases mx
      | [b], _ =>
        rw [hd] at mx my
        rw [List.mem_singleton.mp mx, List.mem_singleton.mp my]
    exact (mem_dist T (hA x hx)).mp (by rw [e]; exact dist_self T (hA y hy))
  · intro h
    unfold distr
    rw [srt_length]
    cases A with
    | nil => simp
    | cons v l =>
      have e : blk (dist d (v :: l)) [] v = [dist d (v :: l) v] := by
        unfold blk
        exact if_pos rfl
      rw [List.foldl_cons, e, blks_one l _ (b := dist d (v :: l) v) List.mem_cons_self fun w hw => (mem_dist T (hA v List.mem_cons_self)).mpr (h v List.mem_cons_self w (List.mem_cons_of_mem _ hw))]
      exact Nat.le_refl _
/-- two lists that are a hedge -/
def HL (d : Dr) (X Y O I : List Int) : Prop := (I.Pairwise (· < ·) ∧ O.Pairwise (· < ·) ∧ InR d.a O) ∧ Hedge d X Y O I
theorem hedge_iff (q : Qu d X Y) {O I : List Int} (s1 : I.Pairwise (· < ·)) (s2 : O.Pairwise (· < ·)) (iO : InR d.a O) (sub : ∀ x ∈ I, x ∈ O) : HL d X Y O I ↔ I ≠ [] ∧ (∃ x ∈ O, x ∈ X) ∧ (∀ x ∈ I, x ∈ nearF d X Y) ∧ Conn d I ∧ Conn d O ∧ ancF (partD d O) I = O := by
  have T := q.good.tame
  have iI : InR d.a I := fun x hx => iO x (sub x hx)
  constructor
  · rintro ⟨_, h⟩
    refine ⟨h.ne, h.hit, h.near, h.cI, h.cO, asc_ext asc_sorted s2 fun x => ⟨fun hx => ((mem_anc T iI).mp hx).mem sub, fun hx => (mem_anc T iI).mpr (h.anc x hx)⟩⟩
  · rintro ⟨h1, h2, h3, h4, h5, h6⟩
    exact ⟨⟨s1, s2, iO⟩, h1, sub, h2, h3, h4, h5, fun x hx => (mem_anc T iI).mp (by rw [h6]; exact hx)⟩
theorem ev_check_hedge (P : P1 Pr) (h486 : Pr 486 = some k_is_inside) (h530 : Pr 530 = some k_check_hedge) (q : Qu d X Y) {O I : List Int} (lO : O.length ≤ 1000) (lI : I.length ≤ 1000) : evalD Pr (n + 6) 530 [enc d, enc X, enc Y, enc O, enc I] = .ok (.bool (tr (HL d X Y O I))) := by
  have g := q.good
  have T := g.tame
  have m12 := g.m12
  have m1 := g.m1
  obtain ⟨lX, lY, lN⟩ := q.lens
  have f0 := ev_check_question (n := n + 1) P q
  have f1 := ev_is_inside (n := n + 4) (Pr := Pr) h486 (a := I) (b := O) (by omega)
  have f2 := ev_is_inside (n := n + 4) (Pr := Pr) h486 (a := O) (b := upto d.a) (by omega)
  have f3 := ev_is_inside (n := n + 4) (Pr := Pr) h486 (a := I) (b := nearF d X Y) (by omega)
  have f4 : evalD Pr (n + 5) 163 [enc d, enc X, enc Y] = .ok (enc (nearF d X Y)) := ev_inner_of (n := n + 2) P.toP0 P.p163 g q.iY (by omega)
  refine evalD_rt h530 rfl (st_expr (v := .none) (by walk_at "ev") ?_)
  have iU : (∀ x ∈ O, x ∈ upto d.a) ↔ InR d.a O := ⟨fun h x hx => mem_upto.mp (h x hx), fun h x hx => mem_upto.mpr (h x hx)⟩
  refine st_ifr (p := tr (((I.length : Nat) : Int) = 0) || (!tr ((∀ x ∈ I, x ∈ O) ∧ I.Pairwise (· < ·)) || !tr ((∀ x ∈ O, x ∈ upto d.a) ∧ O.Pairwise (· < ·)))) (by walk_at "ev") (fun q1 => ?_) (fun q1 => ?_)
  · rw [not_tr, not_tr, tr_or, tr_or] at q1
    rw [tr_false fun h => ?_]
    · exact ss_ret rfl
    · rcases tr_iff.mp q1 with z | z | z
      · exact h.2.ne (List.length_eq_zero_iff.mp (by omega))
      · exact z ⟨h.2.sub, h.1.1⟩
      · exact z ⟨iU.mpr h.1.2.2, h.1.2.1⟩
  rw [not_tr, not_tr, tr_or, tr_or] at q1
  have q2 := tr_not.mp q1
  have hne : I ≠ [] := fun z => q2 (.inl (by rw [z]; rfl))
  have h1 : (∀ x ∈ I, x ∈ O) ∧ I.Pairwise (· < ·) := Classical.byContradiction fun z => q2 (.inr (.inl z))
  have h2 : (∀ x ∈ O, x ∈ upto d.a) ∧ O.Pairwise (· < ·) := Classical.byContradiction fun z => q2 (.inr (.inr z))
  have iO := iU.mp h2.1
  have iI : InR d.a I := fun x hx => iO x (h1.1 x hx)
  rw [tr_congr (hedge_iff q h1.2 h2.2 iO h1.1)]
  refine st_ifr (p := tr ((((O.filter fun v => tr (v ∈ X)).length : Nat) : Int) = 0) || !tr ((∀ x ∈ I, x ∈ nearF d X Y) ∧ I.Pairwise (· < ·))) (by walk_at "ev") (fun q3 => ?_) (fun q3 => ?_)
  · rw [not_tr, tr_or] at q3
    rw [tr_false fun h => ?_]
    · exact ss_ret rfl
    · rcases tr_iff.mp q3 with z | z
      · obtain ⟨x, g1, g2⟩ := h.2.1
        have e : O.filter (fun v => tr (v ∈ X)) = [] := List.length_eq_zero_iff.mp (by omega)
        have : x ∈ O.filter (fun v => tr (v ∈ X)) := List.mem_filter.mpr ⟨g1, tr_true g2⟩
        rw [e] at this
        cases this
      · exact z ⟨h.2.2.1, h1.2⟩
  rw [not_tr, tr_or] at q3
  have q4 := tr_not.mp q3
  have h3 : ∃ x ∈ O, x ∈ X := by
    have : O.filter (fun v => tr (v ∈ X)) ≠ [] := fun z => q4 (.inl (by rw [z]; rfl))
    obtain ⟨x, hx⟩ := List.exists_mem_of_ne_nil _ this
    exact ⟨x, (List.mem_filter.mp hx).1, tr_iff.mp (List.mem_filter.mp hx).2⟩
  have h4 : (∀ x ∈ I, x ∈ nearF d X Y) := Classical.byContradiction fun z => q4 (.inr fun h => z h.1)
  have f5 : evalD Pr (n + 5) 32 [enc d, enc I] = .ok (enc (distr d I)) := ev_distr (n := n + 3) P.p4 P.p32 T iI (by omega)
  have f6 : evalD Pr (n + 5) 32 [enc d, enc O] = .ok (enc (distr d O)) := ev_distr (n := n + 3) P.p4 P.p32 T iO (by omega)
  have f7 : evalD Pr (n + 5) 16 [enc d, enc O] = .ok (enc (partD d O)) := ev_part_of (n := n + 4) P.p16 T
  have f8 : evalD Pr (n + 5) 28 [enc (partD d O), enc I] = .ok (enc (ancF (partD d O) I)) := ev_anc (n := n + 3) P.p4 P.p28 (T.part O) iI (by omega)
  refine st_ifr (p := tr ((((distr d I).length : Nat) : Int) > 1) || tr ((((distr d O).length : Nat) : Int) > 1)) (by walk_at "ev") (fun q5 => ?_) (fun q5 => ?_)
  · rw [tr_or] at q5
    rw [tr_false fun h => ?_]
    · exact ss_ret rfl
    · have g1 := (distr_one T iI).mpr h.2.2.2.1
      have g2 := (distr_one T iO).mpr h.2.2.2.2.1
      rcases tr_iff.mp q5 with z | z <;> omega
  rw [tr_or] at q5
  have q6 := tr_not.mp q5
  have h5 : Conn d I := (distr_one T iI).mp (by have : ¬ ((((distr d I).length : Nat) : Int) > 1) := fun z => q6 (.inl z); omega)
  have h6 : Conn d O := (distr_one T iO).mp (by have : ¬ ((((distr d O).length : Nat) : Int) > 1) := fun z => q6 (.inr z); omega)
  rw [tr_congr (show _ ↔ ancF (partD d O) I = O from ⟨fun h => h.2.2.2.2.2, fun h => ⟨hne, h3, h4, h5, h6, h⟩⟩)]
  refine ss_ret ?_
  walk_at "ev"
theorem HedgeQ.hl {r : List Int × List Int} (h : HedgeQ d X Y r) : HL d X Y r.1 r.2 := ⟨⟨h.s2, h.s1, h.i1⟩, h.hedge⟩
end
end VL

/-! plain side: the laws' own draws; repr -/
namespace VL
open PySem
open Enc
local macro_rules | `(tactic| walk_at "sz") => `(tactic| (first
  | assumption
  | omega
  | exact len_nil
  | ((with_reducible apply len_filter); walk_at "sz")
  | ((with_reducible apply len_map); walk_at "sz")
  | ((with_reducible apply len_srt); walk_at "sz")
  | ((with_reducible apply len_asc); omega)
  | ((with_reducible apply len_upto); omega)
  | ((with_reducible apply len_fromto); omega)
  | ((with_reducible apply len_app); (walk_at "sz"); (walk_at "sz"))
  | ((with_reducible apply len_sum); (walk_at "sz"); (walk_at "sz"))
  | ((with_reducible apply len_drop); walk_at "sz")
  | ((with_reducible apply len_take); walk_at "sz")
  | ((with_reducible apply len_rev); walk_at "sz")
  | ((with_reducible apply len_cons); (walk_at "sz"); (omega))))
local macro_rules | `(tactic| walk_at "call") => `(tactic| (first | assumption | solve_by_elim))
local macro_rules | `(tactic| walk_at "args") => `(tactic| (first
  | exact evs_nil
  | ((with_reducible apply evs_cons); (walk_at "ev"); (walk_at "args"))))
local macro_rules | `(tactic| walk_at "ev") => `(tactic| (first
  | ((with_reducible apply ev_var); rfl)
  | (with_reducible exact ev_ci)
  | (with_reducible exact ev_cb)
  | (with_reducible exact ev_cst)
  | ((with_reducible apply ev_call'); (walk_at "args"); (walk_at "call"))
  | ((with_reducible apply eb_and); (walk_at "ev"); (intro _; walk_at "ev"))
  | ((with_reducible apply eb_or); (walk_at "ev"); (intro _; walk_at "ev"))
  | ((with_reducible apply eb_not); (walk_at "ev"))
  | ((with_reducible apply eb_in); (walk_at "ev"); (walk_at "ev"); decide)
  | ((with_reducible apply eb_notin); (walk_at "ev"); (walk_at "ev"); decide)
  | ((with_reducible apply eb_eq); (walk_at "ev"); (walk_at "ev"); decide)
  | ((with_reducible apply eb_ne); (walk_at "ev"); (walk_at "ev"); decide)
  | ((with_reducible apply eb_lt); (walk_at "ev"); (walk_at "ev"))
  | ((with_reducible apply eb_le); (walk_at "ev"); (walk_at "ev"))
  | ((with_reducible apply eb_gt); (walk_at "ev"); (walk_at "ev"))
  | ((with_reducible apply eb_ge); (walk_at "ev"); (walk_at "ev"))
  | ((with_reducible apply eb_chain_lt); (walk_at "ev"); (walk_at "ev"); (walk_at "ev"))
  | ((with_reducible apply eb_isN); (walk_at "ev"))
  | ((with_reducible apply eb_notN); (walk_at "ev"))
  | ((with_reducible apply eb_isB); (walk_at "ev"))
  | ((with_reducible apply eb_notB); (walk_at "ev"))
  | ((with_reducible apply eb_lend); (walk_at "ev"))
  | ((with_reducible apply eb_all); (walk_at "ev"))
  | ((with_reducible apply eb_any); (walk_at "ev"))
  | ((with_reducible apply ev_lenL); (walk_at "ev"))
  | ((with_reducible apply ev_neg); (walk_at "ev"))
  | ((with_reducible apply ev_sub); (walk_at "ev"); (walk_at "ev"))
  | ((with_reducible apply ev_addI); (walk_at "ev"); (walk_at "ev"))
  | ((with_reducible apply ev_addL); (walk_at "ev"); (walk_at "ev"); (walk_at "sz"))
  | ((with_reducible apply ev_mul); (walk_at "ev"); (walk_at "ev"); omega; omega)
  | ((with_reducible apply ev_int); (walk_at "ev"))
  | ((with_reducible apply ev_intb); (walk_at "ev"))
  | ((with_reducible apply ev_max); (walk_at "ev"); (walk_at "ev"))
  | ((with_reducible apply ev_min); (walk_at "ev"); (walk_at "ev"))
  | ((with_reducible apply ev_ta); (walk_at "ev"))
  | ((with_reducible apply ev_tb); (walk_at "ev"))
  | ((with_reducible apply ev_tc); (walk_at "ev"))
  | ((with_reducible apply ev_pa); (walk_at "ev"))
  | ((with_reducible apply ev_pb); (walk_at "ev"))
  | ((with_reducible apply ev_ix); (walk_at "ev"); (walk_at "ev"); (assumption))
  | ((with_reducible apply ev_pair); (walk_at "ev"); (walk_at "ev"))
  | ((with_reducible apply ev_trip); (walk_at "ev"); (walk_at "ev"); (walk_at "ev"))
  | ((with_reducible apply ev_l1); (walk_at "ev"))
  | ((with_reducible apply ev_l2); (walk_at "ev"); (walk_at "ev"))
  | ((with_reducible apply ev_rng); (walk_at "ev"); omega; omega)
  | ((with_reducible apply ev_rng2); (walk_at "ev"); (walk_at "ev"); omega; omega; omega; omega)
  | ((with_reducible apply ev_listof); (walk_at "ev"))
  | ((with_reducible apply ev_rev); (walk_at "ev"))
  | ((with_reducible apply ev_drop); (walk_at "ev"); (walk_at "ev"); omega)
  | ((with_reducible apply ev_take); (walk_at "ev"); (walk_at "ev"); omega)
  | ((with_reducible apply ev_sorted); (walk_at "ev"); (first | infer_instance | assumption))
  | ((with_reducible apply ec_filter); (walk_at "ev"); rfl; (intro _ _; walk_at "ev"); (walk_at "sz"))
  | ((with_reducible apply ec_map2); (walk_at "ev"); rfl; rfl; (intro _ _; walk_at "ev"); (walk_at "sz"))
  | ((with_reducible apply ec_both2); (walk_at "ev"); rfl; rfl; (intro _ _; walk_at "ev"); (intro _ _ _; walk_at "ev"); (walk_at "sz"))
  | ((with_reducible apply ec_map); (walk_at "ev"); rfl; (intro _ _; walk_at "ev"); (walk_at "sz"))
  | ((with_reducible apply ec_both); (walk_at "ev"); rfl; (intro _ _; walk_at "ev"); (intro _ _ _; walk_at "ev"); (walk_at "sz"))
  | (with_reducible exact ev_l0)
  | ((with_reducible apply ev_ite); (walk_at "ev"); (intro _; walk_at "ev"); (intro _; walk_at "ev"))))

/-- a number that is told -/
def resI (r : Res Val) : Int := match r with
  | .ok (.int i) => i
  | _ => 0
/-- what the law draws -/
def MX (Pr : Prog) (n : Nat) (ds : List Int) (k m : Int) : Int := resI (evalD Pr n 6 [enc ds, enc k, enc m])
section
variable {Pr : Prog} {n : Nat} {ds : List Int} {k m : Int}
theorem ev_mx (h : Pr 6 = some k__law_mix) (D : Drawn ds) (k0 : 0 ≤ k) (k1 : k ≤ 1000000) (m0 : 0 < m) : evalD Pr (n + 1) 6 [enc ds, enc k, enc m] = .ok (enc (MX Pr (n + 1) ds k m)) ∧ 0 ≤ MX Pr (n + 1) ds k m ∧ MX Pr (n + 1) ds k m < m := by
  obtain ⟨x, e, h1, h2⟩ := ev_mix (n := n) h D k0 k1 m0
  have : MX Pr (n + 1) ds k m = x := by
    show resI (evalD Pr (n + 1) 6 [enc ds, .int k, .int m]) = x
    rw [e]
    rfl
  rw [this]
  exact ⟨e, h1, h2⟩
end
/-- what repr takes: small numbers, not too much of it -/
theorem repr_fit {α : Type} [Enc α] (x : α) (hd : dep α ≤ 60) (hr : reprable (enc x) = true) (hs : sm (enc x) = true) (hw : (enc x : Val).weight ≤ 100000) : reprOk (enc x) = true ∧ PyData.strOk (enc x : Val).shown = true := by
  have cl := lay x
  have dp : (enc x : Val).depth ≤ 60 := Nat.le_trans (depth x) hd
  have len := PyData.shown_fits (B := 13) (by decide) (by decide) (PyData.leavesShort_of_canLay0 13 _ cl (sm_short _ hs)) (by omega)
  refine ⟨?_, sm_ok _ hs⟩
  unfold reprOk
  have e2 := sm_showable _ hs
  have e3 := PyData.hasDict_of_canLay _ cl
  rw [hr, e2, e3]
  simp only [Bool.true_and, Bool.not_false, Bool.and_eq_true, decide_eq_true_eq]
  exact ⟨sizeOk_le len, dp⟩
theorem ev_repr {cf : Nat → List Val → Res Val} {ρ : Env} {a : E} {k : Nat} {v : Val} (h : evalE cf 9 a ρ = .ok v) (ok : reprOk v = true) : evalE cf k (.op .repr [a]) ρ = .ok (.str v.shown) := by
  refine ev1 (o := .repr) h ?_
  show Res.guard (reprOk v) _ = _
  rw [ok]
  rfl
/-- the same text twice -/
theorem eb_same {cf : Nat → List Val → Res Val} {ρ : Env} {a b : E} {k : Nat} {z : Str} (h : evalE cf 9 a ρ = .ok (.str z)) (h2 : evalE cf 9 b ρ = .ok (.str z)) (ok : PyData.strOk z = true) : evalE cf k (.op .ne [a, b]) ρ = .ok (.bool false) := ne_str h h2 ok
theorem eb_same' {cf : Nat → List Val → Res Val} {ρ : Env} {a b : E} {k : Nat} {z : Str} (h : evalE cf 9 a ρ = .ok (.str z)) (h2 : evalE cf 9 b ρ = .ok (.str z)) (ok : PyData.strOk z = true) : evalE cf k (.op .eq [a, b]) ρ = .ok (.bool true) := by
  refine ev2 (o := .eq) h h2 ?_
  show vEq (.str z) (.str z) = _
  unfold vEq
  have : shapedB (.str z) = true := by
    unfold shapedB SeqAt.shaped
    simp [PyData.canLay0, PyData.depth, ok]
  rw [this]
  show Res.ok (PyData.bool (PyData.eqv (.str z) (.str z))) = _
  simp [PyData.eqv]
theorem sm_dr {d : Dr} (g : Good d) : sm (enc d) = true ∧ (d.b.length ≤ 200 → d.c.length ≤ 200 → (enc d : Val).weight ≤ 81000) := by
  have hm := g.m12
  have m1 := g.m1
  obtain ⟨s1, w1⟩ := sm_pts (by omega) g.arr
  obtain ⟨s2, w2⟩ := sm_pts (by omega) g.tie
  have wm := w_int (by omega : 0 ≤ d.a) (by omega : d.a < 13)
  refine ⟨?_, fun lb lc => ?_⟩
  · show sm (.tuple [.int d.a, enc d.b, enc d.c]) = true
    simp only [sm, smAll, s1, s2, Bool.and_true, Bool.and_eq_true, decide_eq_true_eq]
    omega
  · have e : (PyData.tuple [.int d.a, enc d.b, enc d.c]).weight = (PyData.int d.a).weight + 1 + ((enc d.b : Val).weight + 1 + ((enc d.c : Val).weight + 1 + 0)) := by
      simp only [PyData.weight, PyData.weightAll]
    show (PyData.tuple [.int d.a, enc d.b, enc d.c]).weight ≤ 81000
    rw [e]
    omega
theorem repr_dr {d : Dr} (g : Good d) (lb : d.b.length ≤ 200) (lc : d.c.length ≤ 200) : reprOk (enc d) = true ∧ PyData.strOk (enc d : Val).shown = true := by
  obtain ⟨s, w⟩ := sm_dr g
  exact repr_fit d (by decide) rfl s (by have := w lb lc; omega)
theorem repr_q {d : Dr} {X Y : List Int} (q : Qu d X Y) (lb : d.b.length ≤ 200) (lc : d.c.length ≤ 200) : reprOk (enc (⟨d, X, Y⟩ : Tr Dr (List Int) (List Int))) = true ∧ PyData.strOk (enc (⟨d, X, Y⟩ : Tr Dr (List Int) (List Int)) : Val).shown = true := by
  obtain ⟨s, w⟩ := sm_dr q.good
  obtain ⟨lX, lY, _⟩ := q.lens
  have m12 := q.good.m12
  obtain ⟨s1, w1⟩ := sm_ints (m := d.a) (by omega) q.iX
  obtain ⟨s2, w2⟩ := sm_ints (m := d.a) (by omega) q.iY
  have w' := w lb lc
  refine repr_fit _ (by decide) rfl ?_ ?_
  · show sm (.tuple [enc d, enc X, enc Y]) = true
    simp only [sm, smAll, s, s1, s2, Bool.and_true, Bool.and_self]
  · show (PyData.tuple [enc d, enc X, enc Y]).weight ≤ 100000
    have e : (PyData.tuple [enc d, enc X, enc Y]).weight = (enc d : Val).weight + 1 + ((enc X : Val).weight + 1 + ((enc Y : Val).weight + 1 + 0)) := by
      simp only [PyData.weight, PyData.weightAll]
    rw [e]
    omega
/-- pairs below m, each once -/
theorem pts_len {m : Int} {l : List Pt} (hm : m ≤ 12) (h : InP m l) (nd : l.Nodup) : l.length ≤ 144 := by
  have := nodup_le (m := pairsU m) nd fun p hp => mem_pairsU (h p hp).1 (h p hp).2
  rw [pairsU_length] at this
  have h12 : m.toNat ≤ 12 := by omega
  have := Nat.mul_le_mul h12 h12
  omega
theorem ltP_nodup {l : List Pt} (h : l.Pairwise ltP) : l.Nodup := h.imp fun h e => by
  subst e
  rcases h with h | h <;> omega
theorem Good.lens {d : Dr} (g : Good d) : d.b.length ≤ 144 ∧ d.c.length ≤ 144 := ⟨pts_len g.m12 g.arr (ltP_nodup g.arrS), pts_len g.m12 g.tie (ltP_nodup g.tieS)⟩
section
variable {Pr : Prog} {n : Nat} {ds : List Int} {k m : Int}
theorem ev_question (h6 : Pr 6 = some k__law_mix) (h : Pr 519 = some k__law_question) (D : Drawn ds) (k0 : 0 ≤ k) (k1 : k ≤ 900000) (m0 : 1 ≤ m) (m1 : m ≤ 12) : ∃ r : List Int × List Int, evalD Pr (n + 2) 519 [enc ds, enc k, enc m] = .ok (enc r) ∧ (InR m r.1 ∧ InR m r.2) ∧ (r.1.Pairwise (· < ·) ∧ r.2.Pairwise (· < ·)) ∧ (∀ x ∈ r.1, x ∉ r.2) ∧ r.2 ≠ [] := by
  obtain ⟨e1, c0, c1⟩ := ev_mx (n := n) h6 D (k := k) (m := 4) k0 (by omega) (by decide)
  let c := MX Pr (n + 1) ds k 4
  have f1 : ∀ v ∈ upto m, evalD Pr (n + 1) 6 [enc ds, enc (k + 1 + v), enc (2 + c)] = .ok (enc (MX Pr (n + 1) ds (k + 1 + v) (2 + c))) := fun v hv => by
    obtain ⟨v0, v1⟩ := mem_upto.mp hv
    exact (ev_mx (n := n) h6 D (by omega) (by omega) (by omega)).1
  obtain ⟨e2, b0, b1⟩ := ev_mx (n := n) h6 D (k := k + 14) (m := m) (by omega) (by omega) (by omega)
  let sides : List Int := (upto m).map fun v => MX Pr (n + 1) ds (k + 1 + v) (2 + c)
  let sd : Int → Int := fun v => MX Pr (n + 1) ds (k + 1 + v) (2 + c)
  have hs : ∀ v ∈ upto m, L2.atI sides v = some (sd v) := fun v hv => by
    obtain ⟨v0, v1⟩ := mem_upto.mp hv
    have : sides[v.toNat]? = some (sd v) := by
      show ((upto m).map _)[v.toNat]? = _
      rw [List.getElem?_map]
      have : (upto m)[v.toNat]? = some v := by
        unfold upto
        rw [List.getElem?_map, List.getElem?_range (by omega)]
        show some (((v.toNat : Nat)) : Int) = some v
        rw [show ((v.toNat : Nat) : Int) = v by omega]
      rw [this]
      rfl
    have := atI_nat this
    rw [show ((v.toNat : Nat) : Int) = v by omega] at this
    exact this
  let a0 := (upto m).filter fun v => tr (sd v = 0)
  open Classical in
  let asked := if a0 = [] then [MX Pr (n + 1) ds (k + 14) m] else a0
  let deed := (upto m).filter fun v => tr (sd v = 1) && tr (v ∉ asked)
  have ia : InR m asked ∧ asked.Pairwise (· < ·) ∧ asked ≠ [] := by
    show InR m (if a0 = [] then _ else a0) ∧ (if a0 = [] then _ else a0).Pairwise _ ∧ (if a0 = [] then _ else a0) ≠ []
    split
    · refine ⟨fun x hx => ?_, List.pairwise_singleton _ _, by simp⟩
      rw [List.mem_singleton.mp hx]
      exact ⟨b0, b1⟩
    · rename_i hne
      exact ⟨fun x hx => mem_upto.mp (List.mem_filter.mp hx).1, (upto_sorted m).filter _, hne⟩
  refine ⟨(deed, asked), evalD_rt h rfl ?_, ⟨fun x hx => mem_upto.mp (List.mem_filter.mp hx).1, ia.1⟩, ⟨(upto_sorted m).filter _, ia.2.1⟩, fun x hx => ?_, ia.2.2⟩
  · refine st_set (v := enc sides) ?_ rfl rfl ?_
    · refine ec_map (i1 := instEncInt) (i3 := instEncInt) (l := upto m) (by walk_at "ev") rfl (fun v hv => ?_) (len_upto (by omega))
      have f2 := f1 v hv
      walk_at "ev"
    refine st_set (v := enc a0) ?_ rfl rfl ?_
    · refine ec_filter (i1 := instEncInt) (l := upto m) (by walk_at "ev") rfl (fun v hv => ?_) (len_upto (by omega))
      have f2 := hs v hv
      walk_at "ev"
    refine st_ifn (p := tr (a0 = [])) (ρ' := [some (enc ds, 0), some (enc k, 0), some (enc m, 0), some (enc sides, 0), some (enc asked, 0), none]) ?_ (fun q => ?_) (fun q => ?_) ?_
    · exact eb_eq (i := instEncList) (x := a0) (y := []) rfl ev_l0 (by decide)
    · have ea : asked = [MX Pr (n + 1) ds (k + 14) m] := if_pos (tr_iff.mp q)
      rw [ea]
      refine st_set (v := enc [MX Pr (n + 1) ds (k + 14) m]) ?_ rfl rfl rfl
      walk_at "ev"
    · have ea : asked = a0 := if_neg (tr_not.mp q)
      rw [ea]
      rfl
    · refine ss_ret (ev_pair (i1 := instEncList) (i2 := instEncList) (x := deed) (y := asked) ?_ rfl)
      refine ec_filter (i1 := instEncInt) (l := upto m) (by walk_at "ev") rfl (fun v hv => ?_) (len_upto (by omega))
      have f2 := hs v hv
      walk_at "ev"
  · have := (List.mem_filter.mp hx).2
    rw [Bool.and_eq_true, tr_iff, tr_iff] at this
    exact this.2
end
end VL

/-! plain side: the law of more and fewer, 1 -/
namespace VL
open PySem
open Enc
local macro_rules | `(tactic| walk_at "sz") => `(tactic| (first
  | assumption
  | omega
  | exact len_nil
  | ((with_reducible apply len_filter); walk_at "sz")
  | ((with_reducible apply len_map); walk_at "sz")
  | ((with_reducible apply len_srt); walk_at "sz")
  | ((with_reducible apply len_asc); omega)
  | ((with_reducible apply len_upto); omega)
  | ((with_reducible apply len_fromto); omega)
  | ((with_reducible apply len_app); (walk_at "sz"); (walk_at "sz"))
  | ((with_reducible apply len_sum); (walk_at "sz"); (walk_at "sz"))
  | ((with_reducible apply len_drop); walk_at "sz")
  | ((with_reducible apply len_take); walk_at "sz")
  | ((with_reducible apply len_rev); walk_at "sz")
  | ((with_reducible apply len_cons); (walk_at "sz"); (omega))))
local macro_rules | `(tactic| walk_at "call") => `(tactic| (first | assumption | solve_by_elim))
local macro_rules | `(tactic| walk_at "args") => `(tactic| (first
  | exact evs_nil
  | ((with_reducible apply evs_cons); (walk_at "ev"); (walk_at "args"))))
local macro_rules | `(tactic| walk_at "ev") => `(tactic| (first
  | ((with_reducible apply ev_var); rfl)
  | (with_reducible exact ev_ci)
  | (with_reducible exact ev_cb)
  | (with_reducible exact ev_cst)
  | ((with_reducible apply ev_call'); (walk_at "args"); (walk_at "call"))
  | ((with_reducible apply eb_and); (walk_at "ev"); (intro _; walk_at "ev"))
  | ((with_reducible apply eb_or); (walk_at "ev"); (intro _; walk_at "ev"))
  | ((with_reducible apply eb_not); (walk_at "ev"))
  | ((with_reducible apply eb_in); (walk_at "ev"); (walk_at "ev"); decide)
  | ((with_reducible apply eb_notin); (walk_at "ev"); (walk_at "ev"); decide)
  | ((with_reducible apply eb_eq); (walk_at "ev"); (walk_at "ev"); decide)
  | ((with_reducible apply eb_ne); (walk_at "ev"); (walk_at "ev"); decide)
  | ((with_reducible apply eb_lt); (walk_at "ev"); (walk_at "ev"))
  | ((with_reducible apply eb_le); (walk_at "ev"); (walk_at "ev"))
  | ((with_reducible apply eb_gt); (walk_at "ev"); (walk_at "ev"))
  | ((with_reducible apply eb_ge); (walk_at "ev"); (walk_at "ev"))
  | ((with_reducible apply eb_chain_lt); (walk_at "ev"); (walk_at "ev"); (walk_at "ev"))
  | ((with_reducible apply eb_isN); (walk_at "ev"))
  | ((with_reducible apply eb_notN); (walk_at "ev"))
  | ((with_reducible apply eb_isB); (walk_at "ev"))
  | ((with_reducible apply eb_notB); (walk_at "ev"))
  | ((with_reducible apply eb_lend); (walk_at "ev"))
  | ((with_reducible apply eb_all); (walk_at "ev"))
  | ((with_reducible apply eb_any); (walk_at "ev"))
  | ((with_reducible apply ev_lenL); (walk_at "ev"))
  | ((with_reducible apply ev_neg); (walk_at "ev"))
  | ((with_reducible apply ev_sub); (walk_at "ev"); (walk_at "ev"))
  | ((with_reducible apply ev_addI); (walk_at "ev"); (walk_at "ev"))
  | ((with_reducible apply ev_addL); (walk_at "ev"); (walk_at "ev"); (walk_at "sz"))
  | ((with_reducible apply ev_mul); (walk_at "ev"); (walk_at "ev"); omega; omega)
  | ((with_reducible apply ev_int); (walk_at "ev"))
  | ((with_reducible apply ev_intb); (walk_at "ev"))
  | ((with_reducible apply ev_max); (walk_at "ev"); (walk_at "ev"))
  | ((with_reducible apply ev_min); (walk_at "ev"); (walk_at "ev"))
  | ((with_reducible apply ev_ta); (walk_at "ev"))
  | ((with_reducible apply ev_tb); (walk_at "ev"))
  | ((with_reducible apply ev_tc); (walk_at "ev"))
  | ((with_reducible apply ev_pa); (walk_at "ev"))
  | ((with_reducible apply ev_pb); (walk_at "ev"))
  | ((with_reducible apply ev_ix); (walk_at "ev"); (walk_at "ev"); (assumption))
  | ((with_reducible apply ev_pair); (walk_at "ev"); (walk_at "ev"))
  | ((with_reducible apply ev_trip); (walk_at "ev"); (walk_at "ev"); (walk_at "ev"))
  | ((with_reducible apply ev_l1); (walk_at "ev"))
  | ((with_reducible apply ev_l2); (walk_at "ev"); (walk_at "ev"))
  | ((with_reducible apply ev_rng); (walk_at "ev"); omega; omega)
  | ((with_reducible apply ev_rng2); (walk_at "ev"); (walk_at "ev"); omega; omega; omega; omega)
  | ((with_reducible apply ev_listof); (walk_at "ev"))
  | ((with_reducible apply ev_rev); (walk_at "ev"))
  | ((with_reducible apply ev_drop); (walk_at "ev"); (walk_at "ev"); omega)
  | ((with_reducible apply ev_take); (walk_at "ev"); (walk_at "ev"); omega)
  | ((with_reducible apply ev_sorted); (walk_at "ev"); (first | infer_instance | assumption))
  | ((with_reducible apply ec_filter); (walk_at "ev"); rfl; (intro _ _; walk_at "ev"); (walk_at "sz"))
  | ((with_reducible apply ec_map2); (walk_at "ev"); rfl; rfl; (intro _ _; walk_at "ev"); (walk_at "sz"))
  | ((with_reducible apply ec_both2); (walk_at "ev"); rfl; rfl; (intro _ _; walk_at "ev"); (intro _ _ _; walk_at "ev"); (walk_at "sz"))
  | ((with_reducible apply ec_map); (walk_at "ev"); rfl; (intro _ _; walk_at "ev"); (walk_at "sz"))
  | ((with_reducible apply ec_both); (walk_at "ev"); rfl; (intro _ _; walk_at "ev"); (intro _ _ _; walk_at "ev"); (walk_at "sz"))
  | (with_reducible exact ev_l0)
  | ((with_reducible apply ev_ite); (walk_at "ev"); (intro _; walk_at "ev"); (intro _; walk_at "ev"))))

theorem ev_pick {cf : Nat → List Val → Res Val} {ρ : Env} {a : E} {k : Nat} {u w : Val} {p : Bool} (h : evalE cf 9 a ρ = .ok (.bool p)) : evalE cf k (.op .idx [.op (.lst 0 [false, false]) [.cst u, .cst w], .op .int [a]]) ρ = .ok (if p then w else u) := by
  refine ev2 (o := .idx) (x := .list [u, w]) (y := .int (if p then 1 else 0)) rfl (ev1 (o := .int) h rfl) ?_
  cases p <;> rfl
/-! more asked variables, greater drawings -/
section
variable {d e : Dr} {X Y Y' O I : List Int}
theorem near_mono (T : Tame d) (hY : InR d.a Y) (hY' : InR d.a Y') (s : ∀ y ∈ Y, y ∈ Y') : ∀ x ∈ nearF d X Y, x ∈ nearF d X Y' := fun x hx => (mem_anc T hY').mpr (((mem_anc T hY).mp hx).mono (fun _ h => h) s)
theorem Hedge.more (T : Tame d) (hY : InR d.a Y) (hY' : InR d.a Y') (s : ∀ y ∈ Y, y ∈ Y') (h : Hedge d X Y O I) : Hedge d X Y' O I := { h with near := fun x hx => near_mono T hY hY' s x (h.near x hx) }
theorem told_fewer (T : Tame d) (hY : InR d.a Y) (hY' : InR d.a Y') (s : ∀ y ∈ Y, y ∈ Y') (h : Told d X Y') : Told d X Y := fun ⟨O, I, hO, hh⟩ => h ⟨O, I, hO, hh.more T hY hY' s⟩
/-- fewer arrows, fewer ties -/
structure Less (d e : Dr) : Prop where
  a : d.a = e.a
  b : ∀ p ∈ d.b, p ∈ e.b
  c : ∀ p ∈ d.c, p ∈ e.c
theorem Less.con (l : Less d e) {A : List Int} {v w : Int} (h : Con d A v w) : Con e A v w := Clo.up (fun p hp => by
  have := mem_bothIn.mp (show (p.1, p.2) ∈ bothIn d A from hp)
  exact mem_bothIn.mpr ⟨this.1, this.2.imp (l.c _) (l.c _)⟩) (fun _ h => h) h
theorem Less.anc (l : Less d e) {A S : List Int} {x : Int} (h : Anc d A S x) : Anc e A S x := Clo.up (fun p hp => by
  have := mem_flipIn.mp (show (p.1, p.2) ∈ flip (arrIn d A) from hp)
  exact mem_flipIn.mpr ⟨l.b _ this.1, this.2⟩) (fun _ h => h) h
theorem Less.hedge (l : Less d e) (T : Tame d) (T' : Tame e) (hY : InR d.a Y) (h : Hedge d X Y O I) : Hedge e X Y O I where
  ne := h.ne
  sub := h.sub
  hit := h.hit
  near := fun x hx => (mem_anc T' (by rw [← l.a]; exact hY)).mpr (by
    have := l.anc ((mem_anc T hY).mp (h.near x hx))
    rw [l.a] at this
    exact this)
  cI := fun x hx y hy => l.con (h.cI x hx y hy)
  cO := fun x hx y hy => l.con (h.cO x hx y hy)
  anc := fun x hx => l.anc (h.anc x hx)
theorem Less.told (l : Less d e) (T : Tame d) (T' : Tame e) (hY : InR d.a Y) (h : Told e X Y) : Told d X Y := fun ⟨O, I, hO, hh⟩ => h ⟨O, I, by rw [← l.a]; exact hO, l.hedge T T' hY hh⟩
end
structure P82 (Pr : Prog) : Prop extends PCd Pr where
  p5 : Pr 5 = some k__law_draws
  p6 : Pr 6 = some k__law_mix
  p494 : Pr 494 = some k__law_order_v3
  p495 : Pr 495 = some k__law_drawing_v2
  p519 : Pr 519 = some k__law_question
  p528 : Pr 528 = some k_hedge_of
  p529 : Pr 529 = some k_hedge
  p530 : Pr 530 = some k_check_hedge
  p623 : Pr 623 = some k__law_said
  p624 : Pr 624 = some k__law_fewer_and_more
  p625 : Pr 625 = some k__law_height_v2
  p626 : Pr 626 = some k__law_other_drawings
  p627 : Pr 627 = some k_law_v57
section
variable {Pr : Prog} {n : Nat} {d : Dr} {X Y ds : List Int} {k : Int}
theorem ev_said (P : P82 Pr) (q : Qu d X Y) : evalD Pr (n + 8) 623 [enc d, enc X, enc Y] = .ok (.bool (tr (Told d X Y))) := by
  have f1 := ev_is_told (n := n) P.toP1 q
  rcases ev_derivation (n := n) P.toP1 q with ⟨t, r, e2, dq⟩ | ⟨t, e2⟩
  · rcases ev_hedge (n := n) P.toP1 P.p528 P.p529 q with ⟨_, e3⟩ | ⟨t', _⟩
    · have e4 := ev_check_deriv (n := n) P.toPCd q dq
      rw [tr_true t] at f1 ⊢
      refine evalD_rt P.p623 rfl ?_
      refine st_set (v := .bool true) (by walk_at "ev") rfl rfl (st_set (v := enc r) (by walk_at "ev") rfl rfl (st_set (v := .none) (by walk_at "ev") rfl rfl ?_))
      refine st_ifT (p := ((true == true) && (!isNoneB (enc r) && isNoneB .none))) (by walk_at "ev") rfl (ss_ret (ev_pick (p := (true == true)) (eb_isB ?_)))
      walk_at "ev"
    · exact absurd t t'
  · rcases ev_hedge (n := n) P.toP1 P.p528 P.p529 q with ⟨t', _⟩ | ⟨_, r, e3, hq⟩
    · exact absurd t' t
    · have m12 := q.good.m12
      have l1 := below_len (nodup_of_sorted hq.s1) hq.i1
      have l2 := below_len (nodup_of_sorted hq.s2) hq.i2
      have e4 := ev_check_hedge (n := n + 1) P.toP1 P.p486 P.p530 q (O := r.1) (I := r.2) (by omega) (by omega)
      rw [tr_true hq.hl] at e4
      rw [tr_false t] at f1 ⊢
      refine evalD_rt P.p623 rfl ?_
      refine st_set (v := .bool false) (by walk_at "ev") rfl rfl (st_set (v := .none) (by walk_at "ev") rfl rfl (st_set (v := enc r) (by walk_at "ev") rfl rfl ?_))
      refine st_ifF (p := ((false == true) && false)) (eb_and (by walk_at "ev") fun z => nomatch z) rfl ?_
      refine st_ifT (p := ((false == false) && (isNoneB .none && !isNoneB (enc r)))) (by walk_at "ev") rfl (ss_ret (ev_pick (p := (true == true)) (eb_isB ?_)))
      walk_at "ev"
theorem Qu.asked (q : Qu d X Y) {Y' : List Int} (s : Y'.Pairwise (· < ·)) (i : InR d.a Y') (o : ∀ x ∈ X, x ∉ Y') (ne : Y' ≠ []) : Qu d X Y' := ⟨q.good, q.iX, i, q.sX, s, o, ne⟩
theorem srt_ints {l : List Int} (nd : l.Nodup) : (srt l).Pairwise (· < ·) := by
  have h : (srt l).Pairwise (fun a b => leD a b = true) := List.pairwise_mergeSort (fun a b c => by rw [leD_int, leD_int, leD_int]; simp; omega) (fun a b => by rw [leD_int, leD_int]; simp; omega) l
  have nd2 : (srt l).Nodup := (srt_perm l).nodup_iff.mpr nd
  have := h.and nd2
  refine this.imp fun ⟨h1, h2⟩ => ?_
  rw [leD_int, decide_eq_true_eq] at h1
  omega
theorem ev_fewer_and_more (P : P82 Pr) (D : Drawn ds) (k0 : 0 ≤ k) (k1 : k ≤ 900000) (q : Qu d X Y) : evalD Pr (n + 9) 624 [enc ds, enc k, enc d, enc X, enc Y] = .ok (.bool true) := by
  have g := q.good
  have T := g.tame
  have m12 := g.m12
  have m1 := g.m1
  obtain ⟨lX, lY, _⟩ := q.lens
  let mx : Int → Int → Int := fun k m => MX Pr (n + 8) ds k m
  have fm : ∀ v, (0 ≤ v ∧ v < d.a) → ∀ c, (0 ≤ c ∧ c ≤ 100) → evalD Pr (n + 8) 6 [enc ds, enc (k + c + v), enc (2 : Int)] = .ok (enc (mx (k + c + v) 2)) := fun v hv c hc => (ev_mx (n := n + 7) P.p6 D (by omega) (by omega) (by decide)).1
  have fm0 : ∀ v, (0 ≤ v ∧ v < d.a) → evalD Pr (n + 8) 6 [enc ds, enc (k + v), enc (2 : Int)] = .ok (enc (mx (k + v) 2)) := fun v hv => (ev_mx (n := n + 7) P.p6 D (by omega) (by omega) (by decide)).1
  let free := (upto d.a).filter fun v => tr (v ∉ X ++ Y)
  let fewer := Y.filter fun v => tr (mx (k + v) 2 = 1)
  let add := free.filter fun v => tr (mx (k + 12 + v) 2 = 1)
  let more := srt (Y ++ add)
  have hfree : ∀ x ∈ add, (0 ≤ x ∧ x < d.a) ∧ x ∉ X ∧ x ∉ Y := fun x hx => by
    have h1 := (List.mem_filter.mp hx).1
    have h2 := List.mem_filter.mp h1
    have h3 := tr_iff.mp h2.2
    rw [List.mem_append] at h3
    exact ⟨mem_upto.mp h2.1, fun z => h3 (.inl z), fun z => h3 (.inr z)⟩
  have mmore : ∀ x, x ∈ more ↔ x ∈ Y ∨ x ∈ add := fun x => by
    show x ∈ srt (Y ++ add) ↔ _
    rw [mem_srt, List.mem_append]
  have nd : (Y ++ add).Nodup := List.nodup_append.mpr ⟨nodup_of_sorted q.sY, (upto_nodup.filter _).filter _, fun x hx y hy e => (hfree y hy).2.2 (e ▸ hx)⟩
  have qm : Qu d X more := q.asked (srt_ints nd) (fun x hx => ((mmore x).mp hx).elim (q.iY x) fun h => (hfree x h).1) (fun x hx z => ((mmore x).mp z).elim (q.off x hx) fun h => (hfree x h).2.1 hx) (fun z => by
    obtain ⟨y, hy⟩ := List.exists_mem_of_ne_nil _ q.ne
    have := (mmore y).mpr (.inl hy)
    rw [z] at this
    cases this)
  have sY : ∀ y ∈ Y, y ∈ more := fun y hy => (mmore y).mpr (.inl hy)
  have s0 := ev_said (n := n) P q
  have s2 := ev_said (n := n) P qm
  have fewerQ : fewer ≠ [] → Qu d X fewer := fun ne => q.asked (q.sY.filter _) (fun x hx => q.iY x (List.mem_filter.mp hx).1) (fun x hx z => q.off x hx (List.mem_filter.mp z).1) ne
  refine evalD_rt P.p624 rfl ?_
  refine st_set (v := .bool (tr (Told d X Y))) (by walk_at "ev") rfl rfl ?_
  refine st_set (v := enc free) (by walk_at "ev") rfl rfl (st_frz rfl ?_)
  refine st_set (v := enc fewer) ?_ rfl rfl (st_frz rfl ?_)
  · refine ec_filter (i1 := instEncInt) (l := Y) rfl rfl (fun v hv => ?_) (by omega)
    have := fm0 v (q.iY v hv)
    walk_at "ev"
  refine st_set (v := enc more) ?_ rfl rfl ?_
  · refine ev_sorted (i1 := instEncInt) (xs := Y ++ add) (ev_addL (i1 := instEncInt) rfl ?_ ?_) inferInstance
    · refine ec_filter (i1 := instEncInt) (l := free) rfl rfl (fun v hv => ?_) (len_filter (len_upto (by omega)))
      have := fm v (mem_upto.mp (List.mem_filter.mp hv).1) 12 (by omega)
      walk_at "ev"
    · have : add.length ≤ 100 := len_filter (len_filter (len_upto (by omega)))
      omega
  refine st_ifF (p := isNoneB (.bool (tr (Told d X Y)))) (by walk_at "ev") rfl ?_
  -- the fewer ones
  have hrest : ∀ j, evalSs (evalD Pr (n + 8)) [.set 9 (.call 623 [(.var 2), (.var 3), (.var 8)]) 0, .iff (.or (.op .isNone [(.var 9)]) (.and (.var 9) (.op .not [(.var 5)]))) [.ret (.cst (.bool false))] [], .iff (.op .not [(.var 5)]) [.asg (.tup [(.slot 12), (.slot 13)]) (.call 529 [(.var 2), (.var 3), (.var 4)]), .ret (.op (.isB true) [(.call 530 [(.var 2), (.var 3), (.var 8), (.var 12), (.var 13)])])] [], .ret (.cst (.bool true))]
      [some (enc ds, 0), some (enc k, 0), some (enc d, 0), some (enc X, 0), some (enc Y, 0), some (.bool (tr (Told d X Y)), 0), some (enc free, 0), some (enc fewer, 0), some (enc more, 0), none, j, none, none, none] = .ok (.rt (.bool true)) := fun j => by
    refine st_set (v := .bool (tr (Told d X more))) (by walk_at "ev") rfl rfl ?_
    refine st_ifF (p := isNoneB (.bool (tr (Told d X more))) || (tr (Told d X more) && !tr (Told d X Y))) (eb_or (by walk_at "ev") fun _ => eb_and (by walk_at "ev") fun _ => by walk_at "ev") ?_ ?_
    · by_cases t : Told d X more
      · rw [tr_true t, tr_true (told_fewer T q.iY qm.iY sY t)]
        rfl
      · rw [tr_false t]
        rfl
    by_cases t : Told d X Y
    · rw [tr_true t]
      exact st_ifF (p := !true) (by walk_at "ev") rfl (ss_ret rfl)
    · rcases ev_hedge (n := n + 1) P.toP1 P.p528 P.p529 q with ⟨t', _⟩ | ⟨_, r, e3, hq⟩
      · exact absurd t' t
      · have l1 := below_len (nodup_of_sorted hq.s1) hq.i1
        have l2 := below_len (nodup_of_sorted hq.s2) hq.i2
        have e4 := ev_check_hedge (n := n + 2) P.toP1 P.p486 P.p530 qm (O := r.1) (I := r.2) (by omega) (by omega)
        have hl : HL d X more r.1 r.2 := ⟨hq.hl.1, hq.hedge.more T q.iY qm.iY sY⟩
        rw [tr_true hl] at e4
        rw [tr_false t]
        refine st_ifT (p := !false) (by walk_at "ev") rfl (st_asg (v := enc r) (by walk_at "ev") rfl (ss_ret (v := .bool (true == true)) ?_))
        walk_at "ev"
  by_cases ne : fewer = []
  · refine st_ifF (p := tr (¬ fewer = [])) (eb_ne (i := instEncList) (x := fewer) (y := []) rfl ev_l0 (by decide)) (tr_false fun z => z ne) ?_
    exact hrest none
  · have s1 := ev_said (n := n) P (fewerQ ne)
    have ht : evalE (evalD Pr (n + 8)) 9 (.op .ne [.var 7, .op (.lst 0 []) []]) [some (enc ds, 0), some (enc k, 0), some (enc d, 0), some (enc X, 0), some (enc Y, 0), some (.bool (tr (Told d X Y)), 0), some (enc free, 0), some (enc fewer, 0), some (enc more, 0), none, none, none, none, none] = .ok (.bool true) := by
      rw [← tr_true (p := ¬ fewer = []) ne]
      exact eb_ne (i := instEncList) (x := fewer) (y := []) rfl ev_l0 (by decide)
    have hb : evalSs (evalD Pr (n + 8)) [.set 10 (.call 623 [(.var 2), (.var 3), (.var 7)]) 0, .iff (.or (.op .isNone [(.var 10)]) (.and (.var 5) (.op .not [(.var 10)]))) [.ret (.cst (.bool false))] []] [some (enc ds, 0), some (enc k, 0), some (enc d, 0), some (enc X, 0), some (enc Y, 0), some (.bool (tr (Told d X Y)), 0), some (enc free, 0), some (enc fewer, 0), some (enc more, 0), none, none, none, none, none] =
        .ok (.nx [some (enc ds, 0), some (enc k, 0), some (enc d, 0), some (enc X, 0), some (enc Y, 0), some (.bool (tr (Told d X Y)), 0), some (enc free, 0), some (enc fewer, 0), some (enc more, 0), none, some (.bool (tr (Told d X fewer)), 0), none, none, none]) := by
      refine st_set (v := .bool (tr (Told d X fewer))) (by walk_at "ev") rfl rfl ?_
      refine st_ifF (p := isNoneB (.bool (tr (Told d X fewer))) || (tr (Told d X Y) && !tr (Told d X fewer))) (eb_or (by walk_at "ev") fun _ => eb_and (by walk_at "ev") fun _ => by walk_at "ev") ?_ rfl
      by_cases t : Told d X Y
      · rw [tr_true t, tr_true (told_fewer T (fewerQ ne).iY q.iY (fun y hy => (List.mem_filter.mp hy).1) t)]
        rfl
      · rw [tr_false t]
        cases tr (Told d X fewer) <;> rfl
    exact st_ifTn ht hb (hrest _)
end
end VL

/-! plain side: the law of more and fewer, 2: heights, other drawings -/
namespace VL
open PySem
open Enc
local macro_rules | `(tactic| walk_at "sz") => `(tactic| (first
  | assumption
  | omega
  | exact len_nil
  | ((with_reducible apply len_filter); walk_at "sz")
  | ((with_reducible apply len_map); walk_at "sz")
  | ((with_reducible apply len_srt); walk_at "sz")
  | ((with_reducible apply len_asc); omega)
  | ((with_reducible apply len_upto); omega)
  | ((with_reducible apply len_fromto); omega)
  | ((with_reducible apply len_app); (walk_at "sz"); (walk_at "sz"))
  | ((with_reducible apply len_sum); (walk_at "sz"); (walk_at "sz"))
  | ((with_reducible apply len_drop); walk_at "sz")
  | ((with_reducible apply len_take); walk_at "sz")
  | ((with_reducible apply len_rev); walk_at "sz")
  | ((with_reducible apply len_cons); (walk_at "sz"); (omega))))
local macro_rules | `(tactic| walk_at "call") => `(tactic| (first | assumption | solve_by_elim))
local macro_rules | `(tactic| walk_at "args") => `(tactic| (first
  | exact evs_nil
  | ((with_reducible apply evs_cons); (walk_at "ev"); (walk_at "args"))))
local macro_rules | `(tactic| walk_at "ev") => `(tactic| (first
  | ((with_reducible apply ev_var); rfl)
  | (with_reducible exact ev_ci)
  | (with_reducible exact ev_cb)
  | (with_reducible exact ev_cst)
  | ((with_reducible apply ev_call'); (walk_at "args"); (walk_at "call"))
  | ((with_reducible apply eb_and); (walk_at "ev"); (intro _; walk_at "ev"))
  | ((with_reducible apply eb_or); (walk_at "ev"); (intro _; walk_at "ev"))
  | ((with_reducible apply eb_not); (walk_at "ev"))
  | ((with_reducible apply eb_in); (walk_at "ev"); (walk_at "ev"); decide)
  | ((with_reducible apply eb_notin); (walk_at "ev"); (walk_at "ev"); decide)
  | ((with_reducible apply eb_eq); (walk_at "ev"); (walk_at "ev"); decide)
  | ((with_reducible apply eb_ne); (walk_at "ev"); (walk_at "ev"); decide)
  | ((with_reducible apply eb_lt); (walk_at "ev"); (walk_at "ev"))
  | ((with_reducible apply eb_le); (walk_at "ev"); (walk_at "ev"))
  | ((with_reducible apply eb_gt); (walk_at "ev"); (walk_at "ev"))
  | ((with_reducible apply eb_ge); (walk_at "ev"); (walk_at "ev"))
  | ((with_reducible apply eb_chain_lt); (walk_at "ev"); (walk_at "ev"); (walk_at "ev"))
  | ((with_reducible apply eb_isN); (walk_at "ev"))
  | ((with_reducible apply eb_notN); (walk_at "ev"))
  | ((with_reducible apply eb_isB); (walk_at "ev"))
  | ((with_reducible apply eb_notB); (walk_at "ev"))
  | ((with_reducible apply eb_lend); (walk_at "ev"))
  | ((with_reducible apply eb_all); (walk_at "ev"))
  | ((with_reducible apply eb_any); (walk_at "ev"))
  | ((with_reducible apply ev_lenL); (walk_at "ev"))
  | ((with_reducible apply ev_neg); (walk_at "ev"))
  | ((with_reducible apply ev_sub); (walk_at "ev"); (walk_at "ev"))
  | ((with_reducible apply ev_addI); (walk_at "ev"); (walk_at "ev"))
  | ((with_reducible apply ev_addL); (walk_at "ev"); (walk_at "ev"); (walk_at "sz"))
  | ((with_reducible apply ev_mul); (walk_at "ev"); (walk_at "ev"); omega; omega)
  | ((with_reducible apply ev_int); (walk_at "ev"))
  | ((with_reducible apply ev_intb); (walk_at "ev"))
  | ((with_reducible apply ev_max); (walk_at "ev"); (walk_at "ev"))
  | ((with_reducible apply ev_min); (walk_at "ev"); (walk_at "ev"))
  | ((with_reducible apply ev_ta); (walk_at "ev"))
  | ((with_reducible apply ev_tb); (walk_at "ev"))
  | ((with_reducible apply ev_tc); (walk_at "ev"))
  | ((with_reducible apply ev_pa); (walk_at "ev"))
  | ((with_reducible apply ev_pb); (walk_at "ev"))
  | ((with_reducible apply ev_ix); (walk_at "ev"); (walk_at "ev"); (assumption))
  | ((with_reducible apply ev_pair); (walk_at "ev"); (walk_at "ev"))
  | ((with_reducible apply ev_trip); (walk_at "ev"); (walk_at "ev"); (walk_at "ev"))
  | ((with_reducible apply ev_l1); (walk_at "ev"))
  | ((with_reducible apply ev_l2); (walk_at "ev"); (walk_at "ev"))
  | ((with_reducible apply ev_rng); (walk_at "ev"); omega; omega)
  | ((with_reducible apply ev_rng2); (walk_at "ev"); (walk_at "ev"); omega; omega; omega; omega)
  | ((with_reducible apply ev_listof); (walk_at "ev"))
  | ((with_reducible apply ev_rev); (walk_at "ev"))
  | ((with_reducible apply ev_drop); (walk_at "ev"); (walk_at "ev"); omega)
  | ((with_reducible apply ev_take); (walk_at "ev"); (walk_at "ev"); omega)
  | ((with_reducible apply ev_sorted); (walk_at "ev"); (first | infer_instance | assumption))
  | ((with_reducible apply ec_filter); (walk_at "ev"); rfl; (intro _ _; walk_at "ev"); (walk_at "sz"))
  | ((with_reducible apply ec_map2); (walk_at "ev"); rfl; rfl; (intro _ _; walk_at "ev"); (walk_at "sz"))
  | ((with_reducible apply ec_both2); (walk_at "ev"); rfl; rfl; (intro _ _; walk_at "ev"); (intro _ _ _; walk_at "ev"); (walk_at "sz"))
  | ((with_reducible apply ec_map); (walk_at "ev"); rfl; (intro _ _; walk_at "ev"); (walk_at "sz"))
  | ((with_reducible apply ec_both); (walk_at "ev"); rfl; (intro _ _; walk_at "ev"); (intro _ _ _; walk_at "ev"); (walk_at "sz"))
  | (with_reducible exact ev_l0)
  | ((with_reducible apply ev_ite); (walk_at "ev"); (intro _; walk_at "ev"); (intro _; walk_at "ev"))))

section
variable {cf : Nat → List Val → Res Val} {ρ ρ' : Env} {ss : List S} {c ix : E} {i d t j : Nat} {G : Out → Prop}
theorem wp_sto {α : Type} {i1 : Enc α} {xs : List α} {x : α} {y : Int} (he : evalE cf 0 c ρ = .ok (i1.enc x)) (ho : getOwn ρ i (d + 1) = .ok (xs.map i1.enc, t)) (hi : evalE cf 9 ix ρ = .ok (enc y)) (hj : L2.ixN xs.length y = some j) (hρ : ρ.set i (some (encL i1 (xs.set j x), d + 1)) = ρ') (h : WP cf ss ρ' G) : WP cf (.sto i ix c d :: ss) ρ G := by
  refine wp_step (o := .nx ρ') ?_ h
  show (evalE cf 0 c ρ).bind _ = _
  rw [he]
  show (getOwn ρ i (d + 1)).bind _ = _
  rw [ho]
  show (evalE cf 9 ix ρ).bind _ = _
  rw [hi]
  show (ixOf (xs.map i1.enc).length (.int y)).bind _ = _
  have : ixOf (xs.map i1.enc).length (.int y) = .ok j := by
    show (match L2.ixN (xs.map i1.enc).length y with
      | some j => Res.ok j
      | none => .bad) = _
    rw [List.length_map, hj]
  rw [this]
  show Res.ok (Out.nx (ρ.set i (some (.list ((xs.map i1.enc).set j (i1.enc x)), d + 1)))) = _
  rw [← hρ]
  congr 5
  show PyData.list ((xs.map i1.enc).set j (i1.enc x)) = PyData.list ((xs.set j x).map i1.enc)
  rw [List.map_set]
end
theorem ixN_in {n : Nat} {y : Int} (h0 : 0 ≤ y) (h1 : y < n) : L2.ixN n y = some y.toNat := by
  unfold L2.ixN
  rw [if_pos h0, if_pos h1]
theorem atI_in {α : Type} {xs : List α} {y : Int} {dflt : α} (h0 : 0 ≤ y) (h1 : y < xs.length) : L2.atI xs y = some (xs.getD y.toNat dflt) := by
  have := atI_nat (xs := xs) (j := y.toNat) (getD_at (dflt := dflt) (by omega))
  rw [show ((y.toNat : Nat) : Int) = y by omega] at this
  exact this
theorem mx_l {a b : Int} : a ≤ mx a b := by unfold mx; split <;> omega
theorem mx_r {a b : Int} : b ≤ mx a b := by unfold mx; split <;> omega
theorem mx_or {a b : Int} : mx a b = a ∨ mx a b = b := by unfold mx; split <;> simp
/-- a way of t arrows ends at v -/
inductive Way (R : List Pt) : Nat → Int → Prop
  | zero {v : Int} : Way R 0 v
  | step {t : Nat} {u v : Int} : Way R t u → (u, v) ∈ R → Way R (t + 1) v
theorem way_bound {R : List Pt} {m : Int} (rank : Int → Nat) (hr : ∀ p ∈ R, rank p.1 < rank p.2) (hR : InP m R) : ∀ {t : Nat} {v : Int}, Way R t v → (0 ≤ v ∧ v < m) → ((t : Nat) : Int) < m := by
  have key : ∀ {t : Nat} {v : Int}, Way R t v → (0 ≤ v ∧ v < m) → ∃ l : List Int, l.Nodup ∧ l.length = t + 1 ∧ InR m l ∧ ∀ x ∈ l, rank x ≤ rank v := by
    intro t v h
    induction h with
    | @zero w =>
      intro hv
      refine ⟨[w], List.nodup_cons.mpr ⟨by simp, List.nodup_nil⟩, rfl, fun x hx => ?_, fun x hx => ?_⟩
      · rw [List.mem_singleton.mp hx]
        exact hv
      · rw [List.mem_singleton.mp hx]
        exact Nat.le_refl _
    | @step t u v h1 h2 ih =>
      intro hv
      obtain ⟨l, e1, e2, e3, e4⟩ := ih (hR _ h2).1
      have ru := hr _ h2
      refine ⟨v :: l, List.nodup_cons.mpr ⟨fun z => ?_, e1⟩, by simp [e2], fun x hx => ?_, fun x hx => ?_⟩
      · have := e4 v z
        simp only at ru
        omega
      · rcases List.mem_cons.mp hx with z | z
        · rw [z]
          exact hv
        · exact e3 x z
      · rcases List.mem_cons.mp hx with z | z
        · rw [z]
          exact Nat.le_refl _
        · have := e4 x z
          simp only at ru
          omega
  intro t v h hv
  obtain ⟨l, e1, e2, e3, _⟩ := key h hv
  have := below_len e1 e3
  omega
/-- a height of v -/
def ht (h : List Int) (v : Int) : Int := h.getD v.toNat 0
section
variable {Pr : Prog} {n : Nat} {d : Dr} {ds : List Int} {k : Int}
theorem ev_height (h : Pr 625 = some k__law_height_v2) (g : Good d) : ∃ hs : List Int, evalD Pr (n + 1) 625 [enc d] = .ok (enc hs) ∧ ((hs.length : Nat) : Int) = d.a ∧ (∀ p ∈ d.b, ht hs p.1 < ht hs p.2) ∧ ∀ v, (0 ≤ v ∧ v < d.a) → 0 ≤ ht hs v ∧ ht hs v < d.a := by
  have m12 := g.m12
  have m1 := g.m1
  have T := g.tame
  have zb := T.zb
  obtain ⟨rank, top, hr⟩ := g.rank
  have hr' : ∀ p ∈ d.b, rank p.1 < rank p.2 := fun p hp => (hr p hp).1
  obtain ⟨v, hv, hs, rfl, q⟩ := wp_def (n := n) (Q := fun v => ∃ hs : List Int, v = enc hs ∧ ((hs.length : Nat) : Int) = d.a ∧ (∀ p ∈ d.b, ht hs p.1 < ht hs p.2) ∧ ∀ v, (0 ≤ v ∧ v < d.a) → 0 ≤ ht hs v ∧ ht hs v < d.a) (vs := [enc d]) h rfl (by
    refine wp_set (v := enc ((upto d.a).map fun _ => (0 : Int))) ?_ rfl rfl ?_
    · refine ec_map (i1 := instEncInt) (i3 := instEncInt) (l := upto d.a) (by walk_at "ev") rfl (fun v hv => ev_ci) (len_upto (by omega))
    refine wp_for (l := upto d.a) instEncInt (by walk_at "ev") (fun (s : List Int) (j : Option (Val × Nat) × Option (Val × Nat) × Option (Val × Nat) × Option (Val × Nat)) => [some (enc d, 0), some (enc s, 1), j.1, j.2.1, j.2.2.1, j.2.2.2])
      (fun pre s => ((s.length : Nat) : Int) = d.a ∧ (∀ v, (0 ≤ v ∧ v < d.a) → 0 ≤ ht s v ∧ Way d.b (ht s v).toNat v) ∧ ∀ (t : Nat) (v : Int), t ≤ pre.length → Way d.b t v → (0 ≤ v ∧ v < d.a) → ((t : Nat) : Int) ≤ ht s v) ((upto d.a).map fun _ => (0 : Int)) (none, none, none, none) rfl ⟨by rw [List.length_map, upto_length]; omega, fun v hv => ?_, fun t v ht1 hw hv => ?_⟩ ?_ ?_
    · have : ht ((upto d.a).map fun _ => (0 : Int)) v = 0 := by
        unfold ht
        rw [List.getD_eq_getElem?_getD, List.getElem?_map]
        cases (upto d.a)[v.toNat]? <;> rfl
      rw [this]
      exact ⟨Int.le_refl _, .zero⟩
    · have e : t = 0 := by simpa using ht1
      subst e
      have : ht ((upto d.a).map fun _ => (0 : Int)) v = 0 := by
        unfold ht
        rw [List.getD_eq_getElem?_getD, List.getElem?_map]
        cases (upto d.a)[v.toNat]? <;> rfl
      rw [this]
      exact Int.le_refl _
    · rintro pre r post s ⟨j1, j2, j3, j4⟩ hl ⟨ls, hw, hb⟩
      refine ⟨_, rfl, ?_⟩
      refine wp_for (l := d.b) (instEncProd (α := Int) (β := Int)) rfl (fun (s : List Int) (j : Option (Val × Nat) × Option (Val × Nat)) => [some (enc d, 0), some (enc s, 1), some (enc r, 0), j2, j.1, j.2])
        (fun pa s' => ((s'.length : Nat) : Int) = d.a ∧ (∀ v, (0 ≤ v ∧ v < d.a) → 0 ≤ ht s' v ∧ Way d.b (ht s' v).toNat v) ∧ (∀ v, (0 ≤ v ∧ v < d.a) → ht s v ≤ ht s' v) ∧ ∀ p ∈ pa, ht s p.1 + 1 ≤ ht s' p.2) s (j3, j4) rfl ⟨ls, hw, fun _ _ => Int.le_refl _, fun _ z => nomatch z⟩ ?_ ?_
      · rintro pa ⟨a, b⟩ po s' ⟨i1, i2⟩ hp ⟨ls', hw', mo, pr⟩
        have hab : (a, b) ∈ d.b := by rw [hp]; exact List.mem_append_right _ List.mem_cons_self
        obtain ⟨ia, ib⟩ := g.arr _ hab
        simp only at ia ib
        have ga : L2.atI s' a = some (ht s' a) := atI_in ia.1 (by omega)
        have gb : L2.atI s' b = some (ht s' b) := atI_in ib.1 (by omega)
        let x := mx (ht s' b) (ht s' a + 1)
        have hx1 : ht s' b ≤ x := mx_l
        have hx2 : ht s' a + 1 ≤ x := mx_r
        have hx3 : x = ht s' b ∨ x = ht s' a + 1 := mx_or
        have at_ : ∀ v, (0 ≤ v ∧ v < d.a) → ht (s'.set b.toNat x) v = if v = b then x else ht s' v := fun v hv => by
          unfold ht
          rw [List.getD_eq_getElem?_getD, List.getD_eq_getElem?_getD, List.getElem?_set]
          by_cases e : v = b
          · subst e
            rw [if_pos rfl, if_pos (by omega), if_pos rfl]
            rfl
          · rw [if_neg (by omega), if_neg e]
        refine ⟨_, rfl, ?_⟩
        refine wp_sto (i1 := instEncInt) (xs := s') (x := x) (y := b) (j := b.toNat) ?_ rfl rfl (ixN_in ib.1 (by omega)) rfl (wp_nil ?_)
        · walk_at "ev"
        refine .inl ⟨s'.set b.toNat x, (_, _), .inl rfl, by rw [List.length_set]; exact ls', fun v hv => ?_, fun v hv => ?_, fun p hp' => ?_⟩
        · rw [at_ v hv]
          by_cases e : v = b
          · subst e
            rw [if_pos rfl]
            obtain ⟨h1, h2⟩ := hw' v hv
            obtain ⟨h3, h4⟩ := hw' a ia
            refine ⟨by omega, ?_⟩
            rcases hx3 with z | z
            · rw [z]
              exact h2
            · rw [z, show (ht s' a + 1).toNat = (ht s' a).toNat + 1 by omega]
              exact .step h4 hab
          · rw [if_neg e]
            exact hw' v hv
        · rw [at_ v hv]
          have := mo v hv
          split
          · rename_i e
            subst e
            omega
          · exact this
        · have ip := fun z => (g.arr p z).2
          rcases List.mem_append.mp hp' with z | z
          · have pm : p ∈ d.b := by rw [hp]; exact List.mem_append_left _ z
            rw [at_ p.2 (ip pm)]
            have := pr p z
            split
            · rename_i e
              rw [e] at this
              omega
            · exact this
          · have e : p = (a, b) := by simpa using z
            subst e
            rw [at_ b ib, if_pos rfl]
            have := mo a ia
            show ht s a + 1 ≤ x
            omega
      · rintro s' ⟨i1, i2⟩ ⟨ls', hw', mo, pr⟩
        refine wp_nil (.inl ⟨s', (_, _, _, _), .inl rfl, ls', hw', fun t v htl hwv hv => ?_⟩)
        cases hwv with
        | zero => exact (hw' v hv).1
        | @step t' u _ h1 h2 =>
          rw [List.length_append, List.length_singleton] at htl
          have := hb t' u (by omega) h1 (g.arr _ h2).1
          have := pr _ h2
          simp only at this
          omega
    · rintro s ⟨j1, j2, j3, j4⟩ ⟨ls, hw, hb⟩
      rw [upto_length] at hb
      refine wp_retv (v := enc s) (t := 1) rfl rfl (rt_of ⟨s, rfl, ls, fun p hp => ?_, fun v hv => ⟨(hw v hv).1, ?_⟩⟩)
      · obtain ⟨ip1, ip2⟩ := g.arr p hp
        obtain ⟨h1, h2⟩ := hw p.1 ip1
        have w := Way.step h2 (show (p.1, p.2) ∈ d.b from hp)
        have bd := way_bound rank hr' g.arr w ip2
        have := hb _ p.2 (by omega) w ip2
        omega
      · obtain ⟨h1, h2⟩ := hw v hv
        have := way_bound rank hr' g.arr h2 hv
        omega)
  exact ⟨hs, hv, q⟩
end
end VL

/-! plain side: the law of more and fewer, 3 -/
namespace VL
open PySem
open Enc
local macro_rules | `(tactic| walk_at "sz") => `(tactic| (first
  | assumption
  | omega
  | exact len_nil
  | ((with_reducible apply len_filter); walk_at "sz")
  | ((with_reducible apply len_map); walk_at "sz")
  | ((with_reducible apply len_srt); walk_at "sz")
  | ((with_reducible apply len_asc); omega)
  | ((with_reducible apply len_upto); omega)
  | ((with_reducible apply len_fromto); omega)
  | ((with_reducible apply len_app); (walk_at "sz"); (walk_at "sz"))
  | ((with_reducible apply len_sum); (walk_at "sz"); (walk_at "sz"))
  | ((with_reducible apply len_drop); walk_at "sz")
  | ((with_reducible apply len_take); walk_at "sz")
  | ((with_reducible apply len_rev); walk_at "sz")
  | ((with_reducible apply len_cons); (walk_at "sz"); (omega))))
local macro_rules | `(tactic| walk_at "call") => `(tactic| (first | assumption | solve_by_elim))
local macro_rules | `(tactic| walk_at "args") => `(tactic| (first
  | exact evs_nil
  | ((with_reducible apply evs_cons); (walk_at "ev"); (walk_at "args"))))
local macro_rules | `(tactic| walk_at "ev") => `(tactic| (first
  | ((with_reducible apply ev_var); rfl)
  | (with_reducible exact ev_ci)
  | (with_reducible exact ev_cb)
  | (with_reducible exact ev_cst)
  | ((with_reducible apply ev_call'); (walk_at "args"); (walk_at "call"))
  | ((with_reducible apply eb_and); (walk_at "ev"); (intro _; walk_at "ev"))
  | ((with_reducible apply eb_or); (walk_at "ev"); (intro _; walk_at "ev"))
  | ((with_reducible apply eb_not); (walk_at "ev"))
  | ((with_reducible apply eb_in); (walk_at "ev"); (walk_at "ev"); decide)
  | ((with_reducible apply eb_notin); (walk_at "ev"); (walk_at "ev"); decide)
  | ((with_reducible apply eb_eq); (walk_at "ev"); (walk_at "ev"); decide)
  | ((with_reducible apply eb_ne); (walk_at "ev"); (walk_at "ev"); decide)
  | ((with_reducible apply eb_lt); (walk_at "ev"); (walk_at "ev"))
  | ((with_reducible apply eb_le); (walk_at "ev"); (walk_at "ev"))
  | ((with_reducible apply eb_gt); (walk_at "ev"); (walk_at "ev"))
  | ((with_reducible apply eb_ge); (walk_at "ev"); (walk_at "ev"))
  | ((with_reducible apply eb_chain_lt); (walk_at "ev"); (walk_at "ev"); (walk_at "ev"))
  | ((with_reducible apply eb_isN); (walk_at "ev"))
  | ((with_reducible apply eb_notN); (walk_at "ev"))
  | ((with_reducible apply eb_isB); (walk_at "ev"))
  | ((with_reducible apply eb_notB); (walk_at "ev"))
  | ((with_reducible apply eb_lend); (walk_at "ev"))
  | ((with_reducible apply eb_all); (walk_at "ev"))
  | ((with_reducible apply eb_any); (walk_at "ev"))
  | ((with_reducible apply ev_lenL); (walk_at "ev"))
  | ((with_reducible apply ev_neg); (walk_at "ev"))
  | ((with_reducible apply ev_sub); (walk_at "ev"); (walk_at "ev"))
  | ((with_reducible apply ev_addI); (walk_at "ev"); (walk_at "ev"))
  | ((with_reducible apply ev_addL); (walk_at "ev"); (walk_at "ev"); (walk_at "sz"))
  | ((with_reducible apply ev_mul); (walk_at "ev"); (walk_at "ev"); omega; omega)
  | ((with_reducible apply ev_int); (walk_at "ev"))
  | ((with_reducible apply ev_intb); (walk_at "ev"))
  | ((with_reducible apply ev_max); (walk_at "ev"); (walk_at "ev"))
  | ((with_reducible apply ev_min); (walk_at "ev"); (walk_at "ev"))
  | ((with_reducible apply ev_ta); (walk_at "ev"))
  | ((with_reducible apply ev_tb); (walk_at "ev"))
  | ((with_reducible apply ev_tc); (walk_at "ev"))
  | ((with_reducible apply ev_pa); (walk_at "ev"))
  | ((with_reducible apply ev_pb); (walk_at "ev"))
  | ((with_reducible apply ev_ix); (walk_at "ev"); (walk_at "ev"); (assumption))
  | ((with_reducible apply ev_pair); (walk_at "ev"); (walk_at "ev"))
  | ((with_reducible apply ev_trip); (walk_at "ev"); (walk_at "ev"); (walk_at "ev"))
  | ((with_reducible apply ev_l1); (walk_at "ev"))
  | ((with_reducible apply ev_l2); (walk_at "ev"); (walk_at "ev"))
  | ((with_reducible apply ev_rng); (walk_at "ev"); omega; omega)
  | ((with_reducible apply ev_rng2); (walk_at "ev"); (walk_at "ev"); omega; omega; omega; omega)
  | ((with_reducible apply ev_listof); (walk_at "ev"))
  | ((with_reducible apply ev_rev); (walk_at "ev"))
  | ((with_reducible apply ev_drop); (walk_at "ev"); (walk_at "ev"); omega)
  | ((with_reducible apply ev_take); (walk_at "ev"); (walk_at "ev"); omega)
  | ((with_reducible apply ev_sorted); (walk_at "ev"); (first | infer_instance | assumption))
  | ((with_reducible apply ec_filter); (walk_at "ev"); rfl; (intro _ _; walk_at "ev"); (walk_at "sz"))
  | ((with_reducible apply ec_map2); (walk_at "ev"); rfl; rfl; (intro _ _; walk_at "ev"); (walk_at "sz"))
  | ((with_reducible apply ec_both2); (walk_at "ev"); rfl; rfl; (intro _ _; walk_at "ev"); (intro _ _ _; walk_at "ev"); (walk_at "sz"))
  | ((with_reducible apply ec_map); (walk_at "ev"); rfl; (intro _ _; walk_at "ev"); (walk_at "sz"))
  | ((with_reducible apply ec_both); (walk_at "ev"); rfl; (intro _ _; walk_at "ev"); (intro _ _ _; walk_at "ev"); (walk_at "sz"))
  | (with_reducible exact ev_l0)
  | ((with_reducible apply ev_ite); (walk_at "ev"); (intro _; walk_at "ev"); (intro _; walk_at "ev"))))

theorem cut_sub {α : Type} (l : List α) (k : Nat) : (l.take k ++ l.drop (k + 1)).Sublist l := by
  have h : (l.take k ++ l.drop (k + 1)).Sublist (l.take k ++ l.drop k) := List.Sublist.append_left (by
    rw [← List.drop_drop]
    exact List.drop_sublist _ _) _
  rwa [List.take_append_drop] at h
theorem Good.sub {d : Dr} (g : Good d) {b c : List Pt} (hb : b.Sublist d.b) (hc : c.Sublist d.c) : Good ⟨d.a, b, c⟩ where
  m1 := g.m1
  m12 := g.m12
  arr := fun p hp => g.arr p (hb.subset hp)
  tie := fun p hp => g.tie p (hc.subset hp)
  arrS := g.arrS.sublist hb
  tieS := g.tieS.sublist hc
  tieU := fun p hp => g.tieU p (hc.subset hp)
  rank := by
    obtain ⟨r, t, h⟩ := g.rank
    exact ⟨r, t, fun p hp => h p (hb.subset hp)⟩
  zb := Nat.le_trans hb.length_le g.zb
  zc := Nat.le_trans hc.length_le g.zc
theorem Good.addTie {d : Dr} (g : Good d) {a b : Int} (ha : 0 ≤ a ∧ a < d.a) (hb : 0 ≤ b ∧ b < d.a) (ab : a < b) (hn : (a, b) ∉ d.c) : Good ⟨d.a, d.b, srt (d.c ++ [(a, b)])⟩ where
  m1 := g.m1
  m12 := g.m12
  arr := g.arr
  tie := fun p hp => by
    rcases List.mem_append.mp (mem_srt.mp hp) with z | z
    · exact g.tie p z
    · rw [List.mem_singleton.mp z]
      exact ⟨ha, hb⟩
  arrS := g.arrS
  tieS := srt_pt (List.nodup_append.mpr ⟨ltP_nodup g.tieS, by simp, fun x hx y hy e => hn (by rw [List.mem_singleton.mp hy] at e; rw [← e]; exact hx)⟩)
  tieU := fun p hp => by
    rcases List.mem_append.mp (mem_srt.mp hp) with z | z
    · exact g.tieU p z
    · rw [List.mem_singleton.mp z]
      exact ab
  rank := g.rank
  zb := g.zb
  zc := by
    have := g.lens.2
    rw [srt_length, List.length_append, List.length_singleton]
    omega
theorem Good.addArrow {d : Dr} (g : Good d) {a b : Int} (ha : 0 ≤ a ∧ a < d.a) (hb : 0 ≤ b ∧ b < d.a) {hs : List Int} (h1 : ∀ p ∈ d.b, ht hs p.1 < ht hs p.2) (h2 : ∀ v, (0 ≤ v ∧ v < d.a) → 0 ≤ ht hs v ∧ ht hs v < d.a) (h3 : ht hs a < ht hs b) (hn : (a, b) ∉ d.b) : Good ⟨d.a, srt (d.b ++ [(a, b)]), d.c⟩ where
  m1 := g.m1
  m12 := g.m12
  arr := fun p hp => by
    rcases List.mem_append.mp (mem_srt.mp hp) with z | z
    · exact g.arr p z
    · rw [List.mem_singleton.mp z]
      exact ⟨ha, hb⟩
  tie := g.tie
  arrS := srt_pt (List.nodup_append.mpr ⟨ltP_nodup g.arrS, by simp, fun x hx y hy e => hn (by rw [List.mem_singleton.mp hy] at e; rw [← e]; exact hx)⟩)
  tieS := g.tieS
  tieU := g.tieU
  rank := by
    refine ⟨fun v => (ht hs v).toNat, 12, fun p hp => ?_⟩
    have m12 := g.m12
    rcases List.mem_append.mp (mem_srt.mp hp) with z | z
    · obtain ⟨i1, i2⟩ := g.arr p z
      have := h1 p z
      have := h2 p.1 i1
      have := h2 p.2 i2
      show (ht hs p.1).toNat < (ht hs p.2).toNat ∧ (ht hs p.2).toNat ≤ 12
      omega
    · rw [List.mem_singleton.mp z]
      have := h2 a ha
      have := h2 b hb
      show (ht hs a).toNat < (ht hs b).toNat ∧ (ht hs b).toNat ≤ 12
      omega
  zb := by
    have := g.lens.1
    rw [srt_length, List.length_append, List.length_singleton]
    omega
  zc := g.zc
/-- a drawing and a greater one -/
structure Two (d : Dr) (p : Dr × Dr) : Prop where
  less : Less p.1 p.2
  g1 : Good p.1
  g2 : Good p.2
  a1 : p.1.a = d.a
section
variable {Pr : Prog} {n : Nat} {d : Dr} {ds : List Int} {k : Int}
theorem ev_other (P : P82 Pr) (D : Drawn ds) (k0 : 0 ≤ k) (k1 : k ≤ 900000) (g : Good d) : ∃ l : List (Dr × Dr), evalD Pr (n + 2) 626 [enc ds, enc k, enc d] = .ok (enc l) ∧ ∀ p ∈ l, Two d p := by
  have m12 := g.m12
  have m1 := g.m1
  have zb := g.zb
  have zc := g.zc
  obtain ⟨ha, a0, a1⟩ := ev_mx (n := n) P.p6 D (k := k + 2) (m := d.a) (by omega) (by omega) (by omega)
  obtain ⟨hb, b0, b1⟩ := ev_mx (n := n) P.p6 D (k := k + 3) (m := d.a) (by omega) (by omega) (by omega)
  obtain ⟨hs, eh, lh, h1, h2⟩ := ev_height (n := n) P.p625 g
  let a := MX Pr (n + 1) ds (k + 2) d.a
  let b := MX Pr (n + 1) ds (k + 3) d.a
  let t1 := MX Pr (n + 1) ds k (d.b.length : Nat)
  let t2 := MX Pr (n + 1) ds (k + 1) (d.c.length : Nat)
  let x1 : Dr × Dr := (⟨d.a, d.b.take t1.toNat ++ d.b.drop (t1 + 1).toNat, d.c⟩, d)
  let x2 : Dr × Dr := (⟨d.a, d.b, d.c.take t2.toNat ++ d.c.drop (t2 + 1).toNat⟩, d)
  let x3 : Dr × Dr := (d, ⟨d.a, d.b, srt (d.c ++ [(a, b)])⟩)
  let x4 : Dr × Dr := (d, ⟨d.a, srt (d.b ++ [(a, b)]), d.c⟩)
  open Classical in
  let f1 : List (Dr × Dr) := if ¬ d.b = [] then [] ++ [x1] else []
  open Classical in
  let j1 : Option (Val × Nat) := if ¬ d.b = [] then some (enc t1, 0) else none
  open Classical in
  let f2 : List (Dr × Dr) := if ¬ d.c = [] then f1 ++ [x2] else f1
  open Classical in
  let j2 : Option (Val × Nat) := if ¬ d.c = [] then some (enc t2, 0) else j1
  open Classical in
  let f3 : List (Dr × Dr) := if a < b ∧ (a, b) ∉ d.c then f2 ++ [x3] else f2
  open Classical in
  let f4 : List (Dr × Dr) := if ht hs a < ht hs b ∧ (a, b) ∉ d.b then f3 ++ [x4] else f3
  have grow : ∀ (l : List (Dr × Dr)) (x : Dr × Dr) (c : Prop) (dc : Decidable c), (∀ p ∈ l, Two d p) → (c → Two d x) → ∀ p ∈ (@ite _ c dc (l ++ [x]) l), Two d p := fun l x c dc hl hx p hp => by
    split at hp
    · rename_i hc
      rcases List.mem_append.mp hp with z | z
      · exact hl p z
      · rw [List.mem_singleton.mp z]
        exact hx hc
    · exact hl p hp
  have len1 : ∀ (l : List (Dr × Dr)) (x : Dr × Dr) (c : Prop) (dc : Decidable c) (k : Nat), l.length ≤ k → (@ite _ c dc (l ++ [x]) l).length ≤ k + 1 := fun l x c dc k h => by
    split
    · rw [List.length_append, List.length_singleton]
      omega
    · omega
  have c1 : f1.length ≤ 1 := len1 [] x1 _ _ 0 (by simp)
  have c2 : f2.length ≤ 2 := len1 f1 x2 _ _ 1 c1
  have c3 : f3.length ≤ 3 := len1 f2 x3 _ _ 2 c2
  have ok1 : ∀ p ∈ f1, Two d p := grow [] x1 _ _ (fun _ z => nomatch z) fun hc => by
    obtain ⟨_, q0, q1⟩ := ev_mx (n := n) P.p6 D (k := k) (m := (d.b.length : Nat)) k0 (by omega) (by have := List.length_pos_iff.mpr hc; omega)
    have e : (t1 + 1).toNat = t1.toNat + 1 := by show (MX Pr (n + 1) ds k (d.b.length : Nat) + 1).toNat = (MX Pr (n + 1) ds k (d.b.length : Nat)).toNat + 1; omega
    have s : (d.b.take t1.toNat ++ d.b.drop (t1 + 1).toNat).Sublist d.b := by rw [e]; exact cut_sub _ _
    exact ⟨⟨rfl, fun p hp => s.subset hp, fun p hp => hp⟩, g.sub s (List.Sublist.refl _), g, rfl⟩
  have ok2 : ∀ p ∈ f2, Two d p := grow f1 x2 _ _ ok1 fun hc => by
    obtain ⟨_, q0, q1⟩ := ev_mx (n := n) P.p6 D (k := k + 1) (m := (d.c.length : Nat)) (by omega) (by omega) (by have := List.length_pos_iff.mpr hc; omega)
    have e : (t2 + 1).toNat = t2.toNat + 1 := by show (MX Pr (n + 1) ds (k + 1) (d.c.length : Nat) + 1).toNat = (MX Pr (n + 1) ds (k + 1) (d.c.length : Nat)).toNat + 1; omega
    have s : (d.c.take t2.toNat ++ d.c.drop (t2 + 1).toNat).Sublist d.c := by rw [e]; exact cut_sub _ _
    exact ⟨⟨rfl, fun p hp => hp, fun p hp => s.subset hp⟩, g.sub (List.Sublist.refl _) s, g, rfl⟩
  have ok3 : ∀ p ∈ f3, Two d p := grow f2 x3 _ _ ok2 fun hc =>
    ⟨⟨rfl, fun p hp => hp, fun p hp => mem_srt.mpr (List.mem_append_left _ hp)⟩, g, g.addTie ⟨a0, a1⟩ ⟨b0, b1⟩ hc.1 hc.2, rfl⟩
  have ok4 : ∀ p ∈ f4, Two d p := grow f3 x4 _ _ ok3 fun hc =>
    ⟨⟨rfl, fun p hp => mem_srt.mpr (List.mem_append_left _ hp), fun p hp => hp⟩, g, g.addArrow ⟨a0, a1⟩ ⟨b0, b1⟩ h1 h2 hc.1 hc.2, rfl⟩
  have ga : L2.atI hs a = some (ht hs a) := atI_in a0 (by omega)
  have gb : L2.atI hs b = some (ht hs b) := atI_in b0 (by omega)
  refine ⟨f4, evalD_rt P.p626 rfl ?_, ok4⟩
  refine st_asg (v := enc d) rfl rfl (st_set (v := enc ([] : List (Dr × Dr))) rfl rfl rfl ?_)
  refine st_ifn (p := tr (¬ d.b = [])) (ρ' := [some (enc ds, 0), some (enc k, 0), some (enc d, 0), some (enc f1, 1), none, none, none, some (enc d.a, 0), some (enc d.b, 0), some (enc d.c, 0), j1]) (eb_ne (i := instEncList) (x := d.b) (y := []) rfl ev_l0 (by decide)) (fun q => ?_) (fun q => ?_) ?_
  · have hc := tr_iff.mp q
    obtain ⟨e1, q0, q1⟩ := ev_mx (n := n) P.p6 D (k := k) (m := (d.b.length : Nat)) k0 (by omega) (by have := List.length_pos_iff.mpr hc; omega)
    rw [show f1 = [] ++ [x1] from if_pos hc, show j1 = some (enc t1, 0) from if_pos hc]
    refine st_set (v := enc t1) (by walk_at "ev") rfl rfl ?_
    refine st_app (i1 := instEncProd) (xs := []) (x := x1) ?_ rfl (by simp) rfl rfl
    walk_at "ev"
  · rw [show f1 = [] from if_neg (tr_not.mp q), show j1 = none from if_neg (tr_not.mp q)]
    rfl
  refine st_ifn (p := tr (¬ d.c = [])) (ρ' := [some (enc ds, 0), some (enc k, 0), some (enc d, 0), some (enc f2, 1), none, none, none, some (enc d.a, 0), some (enc d.b, 0), some (enc d.c, 0), j2]) (eb_ne (i := instEncList) (x := d.c) (y := []) rfl ev_l0 (by decide)) (fun q => ?_) (fun q => ?_) ?_
  · have hc := tr_iff.mp q
    obtain ⟨e1, q0, q1⟩ := ev_mx (n := n) P.p6 D (k := k + 1) (m := (d.c.length : Nat)) (by omega) (by omega) (by have := List.length_pos_iff.mpr hc; omega)
    rw [show f2 = f1 ++ [x2] from if_pos hc, show j2 = some (enc t2, 0) from if_pos hc]
    refine st_set (v := enc t2) (by walk_at "ev") rfl rfl ?_
    refine st_app (i1 := instEncProd) (xs := f1) (x := x2) ?_ rfl (by omega) rfl rfl
    walk_at "ev"
  · rw [show f2 = f1 from if_neg (tr_not.mp q), show j2 = j1 from if_neg (tr_not.mp q)]
    rfl
  refine st_set (v := enc a) (by walk_at "ev") rfl rfl (st_set (v := enc b) (by walk_at "ev") rfl rfl (st_set (v := enc hs) (by walk_at "ev") rfl rfl ?_))
  refine st_ifn (p := tr (a < b ∧ (a, b) ∉ d.c)) (ρ' := [some (enc ds, 0), some (enc k, 0), some (enc d, 0), some (enc f3, 1), some (enc a, 0), some (enc b, 0), some (enc hs, 0), some (enc d.a, 0), some (enc d.b, 0), some (enc d.c, 0), j2]) ?_ (fun q => ?_) (fun q => ?_) ?_
  · rw [← tr_and]
    walk_at "ev"
  · rw [show f3 = f2 ++ [x3] from if_pos (tr_iff.mp q)]
    refine st_app (i1 := instEncProd) (xs := f2) (x := x3) ?_ rfl (by omega) rfl rfl
    walk_at "ev"
  · rw [show f3 = f2 from if_neg (tr_not.mp q)]
    rfl
  refine st_ifn (p := tr (ht hs a < ht hs b ∧ (a, b) ∉ d.b)) (ρ' := [some (enc ds, 0), some (enc k, 0), some (enc d, 0), some (enc f4, 1), some (enc a, 0), some (enc b, 0), some (enc hs, 0), some (enc d.a, 0), some (enc d.b, 0), some (enc d.c, 0), j2]) ?_ (fun q => ?_) (fun q => ?_) ?_
  · rw [← tr_and]
    walk_at "ev"
  · rw [show f4 = f3 ++ [x4] from if_pos (tr_iff.mp q)]
    refine st_app (i1 := instEncProd) (xs := f3) (x := x4) ?_ rfl (by omega) rfl rfl
    walk_at "ev"
  · rw [show f4 = f3 from if_neg (tr_not.mp q)]
    rfl
  rfl
theorem ev_law82 (P : P82 Pr) {ns : List Int} (hl : ns.length ≤ 63) : evalD Pr (n + 11) 627 [.list (ns.map .int)] = .ok (.bool true) := by
  obtain ⟨ds, e1, by1, ln⟩ := ev_draws (n := n + 9) P.p5 hl
  have D : Drawn ds := ⟨by1, ln⟩
  obtain ⟨e2, m0, m11⟩ := ev_mx (n := n + 9) P.p6 D (k := 1) (m := 12) (by decide) (by decide) (by decide)
  let many := 1 + MX Pr (n + 9 + 1) ds 1 12
  have hmany : many = 1 + MX Pr (n + 9 + 1) ds 1 12 := rfl
  obtain ⟨d, e3, g, hd, _, _⟩ := ev_drawing (n := n + 7) P.p6 P.p494 P.p495 D (k := 2) (m := many) (by decide) (by decide) (by omega) (by omega)
  have e3' : evalD Pr (n + 10) 495 [enc ds, enc (2 : Int), enc many] = .ok (enc d) := e3
  have e1' : evalD Pr (n + 10) 5 [enc ns] = .ok (enc ds) := e1
  obtain ⟨lb, lc⟩ := g.lens
  obtain ⟨v, hv, q⟩ := wp_def (n := n + 10) (Q := fun v => v = .bool true) (vs := [enc ns]) P.p627 rfl (by
    refine wp_set (v := enc ds) (by walk_at "ev") rfl rfl (wp_set (v := enc many) (by walk_at "ev") rfl rfl (wp_set (v := enc d) (by walk_at "ev") rfl rfl ?_))
    refine wp_for (l := upto 3) instEncInt (by walk_at "ev") (fun (s : Unit) (j : Option (Val × Nat) × Option (Val × Nat) × Option (Val × Nat) × Option (Val × Nat) × Option (Val × Nat) × Option (Val × Nat) × Option (Val × Nat) × Option (Val × Nat)) => [some (enc ns, 0), some (enc ds, 0), some (enc many, 0), some (enc d, 0), j.1, j.2.1, j.2.2.1, j.2.2.2.1, j.2.2.2.2.1, j.2.2.2.2.2.1, j.2.2.2.2.2.2.1, j.2.2.2.2.2.2.2])
      (fun _ _ => True) () (none, none, none, none, none, none, none, none) rfl trivial ?_ ?_
    · rintro pre t post _ ⟨j1, j2, j3, j4, j5, j6, j7, j8⟩ hp _
      have tm : t ∈ upto 3 := by rw [hp]; exact List.mem_append_right _ List.mem_cons_self
      obtain ⟨t0, t1⟩ := mem_upto.mp tm
      obtain ⟨⟨X, Y⟩, e4, i4, s4, o4, ne4⟩ := ev_question (n := n + 8) P.p6 P.p519 D (k := 400 + 40 * t) (m := many) (by omega) (by omega) (by omega) (by omega)
      simp only at i4 s4 o4 ne4
      rw [← hd] at i4
      have q : Qu d X Y := ⟨g, i4.1, i4.2, s4.1, s4.2, o4, ne4⟩
      obtain ⟨r1, r2⟩ := repr_q q (by omega) (by omega)
      have e5 := ev_fewer_and_more (n := n + 1) P D (k := 520 + 30 * t) (by omega) (by omega) q
      obtain ⟨l, e6, two⟩ := ev_other (n := n + 8) P D (k := 620 + 10 * t) (by omega) (by omega) g
      have kept : Str := (enc (⟨d, X, Y⟩ : Tr Dr (List Int) (List Int)) : Val).shown
      refine ⟨_, rfl, ?_⟩
      refine wp_asg (v := enc (X, Y)) (by walk_at "ev") rfl ?_
      refine wp_set (v := .str (enc (⟨d, X, Y⟩ : Tr Dr (List Int) (List Int)) : Val).shown) (ev_repr (by walk_at "ev") r1) rfl rfl ?_
      refine wp_if (p := !true) (by walk_at "ev") (fun z => nomatch z) (fun _ => wp_nil ?_)
      refine wp_for (l := l) (instEncProd (α := Dr) (β := Dr)) (by walk_at "ev") (fun (s : Unit) (j : Option (Val × Nat) × Option (Val × Nat) × Option (Val × Nat) × Option (Val × Nat)) => [some (enc ns, 0), some (enc ds, 0), some (enc many, 0), some (enc d, 0), some (enc t, 0), some (.str (enc (⟨d, X, Y⟩ : Tr Dr (List Int) (List Int)) : Val).shown, 0), some (enc X, 0), some (enc Y, 0), j.1, j.2.1, j.2.2.1, j.2.2.2])
        (fun _ _ => True) () (j5, j6, j7, j8) rfl trivial ?_ ?_
      · rintro pr p po _ ⟨i1, i2, i3, i4⟩ hp2 _
        have pm := two p (by rw [hp2]; exact List.mem_append_right _ List.mem_cons_self)
        have a2 : p.2.a = d.a := by rw [← pm.less.a, pm.a1]
        have q1 : Qu p.1 X Y := ⟨pm.g1, by rw [pm.a1]; exact q.iX, by rw [pm.a1]; exact q.iY, q.sX, q.sY, q.off, q.ne⟩
        have q2 : Qu p.2 X Y := ⟨pm.g2, by rw [a2]; exact q.iX, by rw [a2]; exact q.iY, q.sX, q.sY, q.off, q.ne⟩
        have s1 := ev_said (n := n + 2) P q1
        have s2 := ev_said (n := n + 2) P q2
        refine ⟨_, rfl, ?_⟩
        refine wp_set (v := .bool (tr (Told p.1 X Y))) (by walk_at "ev") rfl rfl (wp_set (v := .bool (tr (Told p.2 X Y))) (by walk_at "ev") rfl rfl ?_)
        refine wp_if (p := isNoneB (.bool (tr (Told p.1 X Y))) || (isNoneB (.bool (tr (Told p.2 X Y))) || (tr (Told p.2 X Y) && !tr (Told p.1 X Y)))) (eb_or (by walk_at "ev") fun _ => eb_or (by walk_at "ev") fun _ => eb_and (by walk_at "ev") fun _ => by walk_at "ev") (fun z => ?_) (fun _ => wp_nil (wp_nil (.inl ⟨(), (_, _, _, _), .inl rfl, trivial⟩)))
        exfalso
        by_cases tt : Told p.2 X Y
        · rw [tr_true tt, tr_true (pm.less.told pm.g1.tame pm.g2.tame q1.iY tt)] at z
          cases z
        · rw [tr_false tt] at z
          cases z
      · rintro _ ⟨i1, i2, i3, i4⟩ _
        refine wp_if (p := false) (eb_same (ev_repr (by walk_at "ev") r1) rfl r2) (fun z => nomatch z) (fun _ => wp_nil (wp_nil (.inl ⟨(), (_, _, _, _, _, _, _, _), .inl rfl, trivial⟩)))
    · rintro _ ⟨j1, j2, j3, j4, j5, j6, j7, j8⟩ _
      exact wp_ret (v := .bool true) rfl (rt_of rfl))
  rw [← q]
  exact hv
end
end VL

namespace Law
open PySem PySem.Spec L2 PySem.W VL
open PyProof.Rows hiding St
/-! ### the text (by gen.py) -/
abbrev rw0 := PySem.Challenge.rw_causeway_k82_whole_more_and_fewer
abbrev pw0 := PySem.Challenge.pw_causeway_k82_whole_more_and_fewer
def top (i : Nat) : Stmt := pw0.main.body.getD i (.Pass ⟨0, 0, 0, 0⟩)
abbrev s_first_bad : Stmt := top 11
def N_first_bad : List Str := ["many", "pairs", "both", "k", "a", "b"]
abbrev s_rest_of : Stmt := top 12
def N_rest_of : List Str := ["many", "arrows", "left", "moved", "free", "v", "a", "b"]
abbrev s_on_rounds : Stmt := top 13
def N_on_rounds : List Str := ["many", "arrows", "behind", "ahead", "v", "a", "b"]
abbrev s_check_drawing : Stmt := top 14
def N_check_drawing : List Str := ["drawing", "found", "rounds", "many", "arrows", "ties"]
abbrev s_check_set : Stmt := top 15
def N_check_set : List Str := ["many", "told", "k", "variable"]
abbrev s_reached : Stmt := top 16
def N_reached : List Str := ["arrows", "starts", "found", "moved", "more", "v", "a", "b"]
abbrev s_ancestors_of : Stmt := top 17
def N_ancestors_of : List Str := ["drawing", "told", "a", "b"]
abbrev s_districts_of : Stmt := top 18
def N_districts_of : List Str := ["drawing", "told", "ties", "both", "found", "v", "a", "b", "one"]
abbrev s_part_of : Stmt := top 19
def N_part_of : List Str := ["drawing", "told", "inner", "many", "arrows", "ties", "a", "b"]
abbrev s_is_inside : Stmt := top 21
def N_is_inside : List Str := ["inner", "outer", "v", "k"]
abbrev s_is_step : Stmt := top 22
def N_is_step : List Str := ["drawing", "steps", "k", "outer", "kind", "source", "told"]
abbrev s_first_bad_step : Stmt := top 23
def N_first_bad_step : List Str := ["drawing", "steps", "k"]
abbrev s_check_question : Stmt := top 25
def N_check_question : List Str := ["drawing", "deed", "asked", "both", "v"]
abbrev s_inner_of : Stmt := top 26
def N_inner_of : List Str := ["drawing", "deed", "asked", "free", "v"]
abbrev s_home_of : Stmt := top 27
def N_home_of : List Str := ["drawing", "outer", "told", "one"]
abbrev s_led_to : Stmt := top 28
def N_led_to : List Str := ["drawing", "told", "steps", "outer", "home", "ahead"]
abbrev s_joined : Stmt := top 29
def N_joined : List Str := ["ways", "steps", "ends", "way", "at", "kind", "_", "told"]
abbrev s_derivation_of : Stmt := top 30
def N_derivation_of : List Str := ["drawing", "deed", "asked", "ways", "told", "steps", "last"]
abbrev s_derivation : Stmt := top 31
def N_derivation : List Str := ["drawing", "deed", "asked"]
abbrev s_is_told : Stmt := top 32
def N_is_told : List Str := ["drawing", "deed", "asked"]
abbrev s_accepts : Stmt := top 33
def N_accepts : List Str := ["drawing", "deed", "asked", "steps", "ends", "k"]
abbrev s_check_derivation : Stmt := top 34
def N_check_derivation : List Str := ["drawing", "deed", "asked", "steps", "ends"]
abbrev s_hedge_of : Stmt := top 35
def N_hedge_of : List Str := ["drawing", "deed", "asked", "told", "last"]
abbrev s_hedge : Stmt := top 36
def N_hedge : List Str := ["drawing", "deed", "asked"]
abbrev s_check_hedge : Stmt := top 37
def N_check_hedge : List Str := ["drawing", "deed", "asked", "outer", "inner", "v"]
abbrev s__law_draws : Stmt := top 39
def N__law_draws : List Str := ["script", "draws", "k", "rest", "turn", "mixed"]
abbrev s__law_mix : Stmt := top 40
def N__law_mix : List Str := ["draws", "k", "many", "value"]
abbrev s__law_order : Stmt := top 41
def N__law_order : List Str := ["draws", "k", "many", "order", "v", "place"]
abbrev s__law_drawing : Stmt := top 42
def N__law_drawing : List Str := ["draws", "k", "many", "order", "shares", "found", "i", "j", "kind"]
abbrev s__law_question : Stmt := top 43
def N__law_question : List Str := ["draws", "k", "many", "sides", "asked", "v"]
abbrev s__law_said : Stmt := top 44
def N__law_said : List Str := ["drawing", "deed", "asked", "said", "way", "stands"]
abbrev s__law_fewer_and_more : Stmt := top 45
def N__law_fewer_and_more : List Str := ["draws", "k", "drawing", "deed", "asked", "said", "free", "fewer", "more", "great", "less", "v", "outer", "inner"]
abbrev s__law_height : Stmt := top 46
def N__law_height : List Str := ["drawing", "height", "turn", "v", "a", "b"]
abbrev s__law_other_drawings : Stmt := top 47
def N__law_other_drawings : List Str := ["draws", "k", "drawing", "found", "a", "b", "height", "many", "arrows", "ties", "at"]
abbrev s_law : Stmt := top 48
def N_law : List Str := ["script", "draws", "many", "drawing", "turn", "kept", "deed", "asked", "less", "great", "one", "two"]
def Pr : Prog := fun i => match i with
  | 0 => some k_first_bad
  | 1 => some k_rest_of
  | 2 => some k_on_rounds
  | 3 => some k_check_drawing
  | 4 => some k_reached
  | 5 => some k__law_draws
  | 6 => some k__law_mix
  | 12 => some k_check_set
  | 16 => some k_part_of
  | 28 => some k_ancestors_of
  | 32 => some k_districts_of
  | 162 => some k_check_question
  | 163 => some k_inner_of
  | 164 => some k_home_of
  | 165 => some k_led_to
  | 166 => some k_joined
  | 167 => some k_derivation_of
  | 168 => some k_is_told
  | 486 => some k_is_inside
  | 487 => some k_is_step
  | 488 => some k_first_bad_step
  | 494 => some k__law_order_v3
  | 495 => some k__law_drawing_v2
  | 516 => some k_derivation_v2
  | 517 => some k_accepts
  | 518 => some k_check_derivation
  | 519 => some k__law_question
  | 528 => some k_hedge_of
  | 529 => some k_hedge
  | 530 => some k_check_hedge
  | 623 => some k__law_said
  | 624 => some k__law_fewer_and_more
  | 625 => some k__law_height_v2
  | 626 => some k__law_other_drawings
  | 627 => some k_law_v57
  | _ => none
/-- what the text leaves of the built-in names, and its numbers -/
structure Glob (mg : Str → Option Value) : Prop where
  b_abs : mg "abs" = none
  b_all : mg "all" = none
  b_enumerate : mg "enumerate" = none
  b_int : mg "int" = none
  b_len : mg "len" = none
  b_list : mg "list" = none
  b_max : mg "max" = none
  b_min : mg "min" = none
  b_range : mg "range" = none
  b_repr : mg "repr" = none
  b_sorted : mg "sorted" = none
  c_MOST_VARIABLES : ∃ t, mg "MOST_VARIABLES" = some (.int 12 t)
structure All (P : Program) (w : World) (K : PySem.W.Frag) (mg : Str → Option Value) (base : Heap) (n : Nat) : Prop where
  d_first_bad : Cal P w K mg base n "first_bad" ["many", "pairs", "both"] (spF Pr n 0 0 K)
  d_rest_of : Cal P w K mg base n "rest_of" ["many", "arrows"] (spF Pr n 1 0 K)
  d_on_rounds : Cal P w K mg base n "on_rounds" ["many", "arrows"] (spF Pr n 2 0 K)
  d_check_drawing : Cal P w K mg base n "check_drawing" ["drawing"] (spF Pr n 3 0 K)
  d_check_set : Cal P w K mg base n "check_set" ["many", "told"] (spF Pr n 12 0 K)
  d_reached : Cal P w K mg base n "reached" ["arrows", "starts"] (spF Pr n 4 0 K)
  d_ancestors_of : Cal P w K mg base n "ancestors_of" ["drawing", "told"] (spF Pr n 28 0 K)
  d_districts_of : Cal P w K mg base n "districts_of" ["drawing", "told"] (spF Pr n 32 0 K)
  d_part_of : Cal P w K mg base n "part_of" ["drawing", "told"] (spF Pr n 16 0 K)
  d_is_inside : Cal P w K mg base n "is_inside" ["inner", "outer"] (spF Pr n 486 0 K)
  d_is_step : Cal P w K mg base n "is_step" ["drawing", "steps", "k"] (spF Pr n 487 0 K)
  d_first_bad_step : Cal P w K mg base n "first_bad_step" ["drawing", "steps"] (spF Pr n 488 0 K)
  d_check_question : Cal P w K mg base n "check_question" ["drawing", "deed", "asked"] (spF Pr n 162 0 K)
  d_inner_of : Cal P w K mg base n "inner_of" ["drawing", "deed", "asked"] (spF Pr n 163 0 K)
  d_home_of : Cal P w K mg base n "home_of" ["drawing", "outer", "told"] (spF Pr n 164 0 K)
  d_led_to : Cal P w K mg base n "led_to" ["drawing", "told"] (spF Pr n 165 0 K)
  d_joined : Cal P w K mg base n "joined" ["ways"] (spF Pr n 166 2 K)
  d_derivation_of : Cal P w K mg base n "derivation_of" ["drawing", "deed", "asked"] (spF Pr n 167 2 K)
  d_derivation : Cal P w K mg base n "derivation" ["drawing", "deed", "asked"] (spF Pr n 516 2 K)
  d_is_told : Cal P w K mg base n "is_told" ["drawing", "deed", "asked"] (spF Pr n 168 0 K)
  d_accepts : Cal P w K mg base n "accepts" ["drawing", "deed", "asked", "steps", "ends"] (spF Pr n 517 0 K)
  d_check_derivation : Cal P w K mg base n "check_derivation" ["drawing", "deed", "asked", "steps", "ends"] (spF Pr n 518 0 K)
  d_hedge_of : Cal P w K mg base n "hedge_of" ["drawing", "deed", "asked"] (spF Pr n 528 0 K)
  d_hedge : Cal P w K mg base n "hedge" ["drawing", "deed", "asked"] (spF Pr n 529 0 K)
  d_check_hedge : Cal P w K mg base n "check_hedge" ["drawing", "deed", "asked", "outer", "inner"] (spF Pr n 530 0 K)
  d__law_draws : Cal P w K mg base n "_law_draws" ["script"] (spF Pr n 5 0 K)
  d__law_mix : Cal P w K mg base n "_law_mix" ["draws", "k", "many"] (spF Pr n 6 0 K)
  d__law_order : Cal P w K mg base n "_law_order" ["draws", "k", "many"] (spF Pr n 494 0 K)
  d__law_drawing : Cal P w K mg base n "_law_drawing" ["draws", "k", "many"] (spF Pr n 495 0 K)
  d__law_question : Cal P w K mg base n "_law_question" ["draws", "k", "many"] (spF Pr n 519 0 K)
  d__law_said : Cal P w K mg base n "_law_said" ["drawing", "deed", "asked"] (spF Pr n 623 0 K)
  d__law_fewer_and_more : Cal P w K mg base n "_law_fewer_and_more" ["draws", "k", "drawing", "deed", "asked"] (spF Pr n 624 0 K)
  d__law_height : Cal P w K mg base n "_law_height" ["drawing"] (spF Pr n 625 0 K)
  d__law_other_drawings : Cal P w K mg base n "_law_other_drawings" ["draws", "k", "drawing"] (spF Pr n 626 0 K)
  d_law : Cal P w K mg base n "law" ["script"] (spF Pr n 627 0 K)
section
variable {P : Program} {w : World} {K : PySem.W.Frag} {mg : Str → Option Value} {base : Heap} {n : Nat} {f : Addr}
theorem sc_first_bad : FnScope N_first_bad ["many", "pairs", "both"] (defScope s_first_bad) := ⟨rfl, rfl, rfl, by decide +kernel, rfl, by decide +kernel, by decide +kernel⟩
theorem t_first_bad (g : Glob mg) (al : All P w K mg base n) (cdv : Value) (A : Around) (outer : List PySem.Env) (s : Shared) (H : Hp) (hr : Room n (A.deeper (envOfC "first_bad" (defScope s_first_bad) s.heap.objs.size f cdv))) (gd : A.guards = some []) :
    VSs (bodyCx P w K mg base N_first_bad "first_bad" (defScope s_first_bad) f cdv A outer s H).nox (pp Pr n) k_first_bad.fr (defBody s_first_bad) k_first_bad.body := by
  have hu := Room_u hr
  have hv := Room_v hr
  have nd := sc_first_bad.nd
  exact (vss_cons (vs_for rfl PassesOwn.never (vi_enum (hm := g.b_enumerate) (ha := (va_cons (ve_var 1) va_nil))) (vg_tup rfl (vgs_cons (vg_name 3 nd) (vgs_cons (vg_tup rfl (vgs_cons (vg_name 4 nd) (vgs_cons (vg_name 5 nd) vgs_nil))) vgs_nil))) (vss_cons (vs_if (VW.vt (vw_or (vt_not (vt_chain (h := c_le) (h' := c_lt hv) (ha := ve_int) (hb := (ve_var 4)) (hc := (ve_var 0)))) (vw_or (vt_not (vt_chain (h := c_le) (h' := c_lt hv) (ha := ve_int) (hb := (ve_var 5)) (hc := (ve_var 0)))) (vw_or (vt_c (c_eq hv) (ve_var 4) (ve_var 5)) (vw_or1 (VW.vt (vw_and (VE.vt (ve_var 2)) (vw_and1 (vt_c (c_gt) (ve_var 4) (ve_var 5)))))))))) (vss_cons (vs_retv 3) vss_nil) vss_nil) (vss_cons (vs_if (VW.vt (vw_and (vt_c (c_gt) (ve_var 3) ve_int) (vw_and1 (vt_c (c_ge hv) (ve_idx (ve_var 1) (ve_sub (ve_var 3) ve_int)) (ve_tup (vas_cons (ve_var 4) (vas_cons (ve_var 5) vas_nil))))))) (vss_cons (vs_retv 3) vss_nil) vss_nil) vss_nil))) (vss_cons (vs_ret (VE.vo ve_non)) vss_nil))
theorem sc_rest_of : FnScope N_rest_of ["many", "arrows"] (defScope s_rest_of) := ⟨rfl, rfl, rfl, by decide +kernel, rfl, by decide +kernel, by decide +kernel⟩
theorem t_rest_of (g : Glob mg) (al : All P w K mg base n) (cdv : Value) (A : Around) (outer : List PySem.Env) (s : Shared) (H : Hp) (hr : Room n (A.deeper (envOfC "rest_of" (defScope s_rest_of) s.heap.objs.size f cdv))) (gd : A.guards = some []) :
    VSs (bodyCx P w K mg base N_rest_of "rest_of" (defScope s_rest_of) f cdv A outer s H).nox (pp Pr n) k_rest_of.fr (defBody s_rest_of) k_rest_of.body := by
  have hu := Room_u hr
  have hv := Room_v hr
  have nd := sc_rest_of.nd
  exact (vss_cons (vs_set 2 nd (VE.vo (VO.ve (vo_listR1 g.b_list g.b_range (ve_var 0))))) (vss_cons (vs_set 3 nd (VE.vo ve_bl)) (vss_cons (vs_whl PassesOwn.never (VE.vt (ve_var 3)) (vss_cons (vs_set 4 nd (VE.vo (VO.ve (vo_comp rfl nd (own := [("v", 5)]) (vi_seq (ve_var 2)) (blkOk_by (by kernel_rfl)) rfl (by decide) (fun _ _ _ _ _ => (vg_name 5 nd)) (fun _ _ _ _ _ => (vts_one (vt_c (c_eq hv) (ve_len g.b_len (VO.ve (vo_comp rfl nd (own := [("a", 6), ("b", 7)]) (vi_seq (ve_var 1)) (blkOk_by (by kernel_rfl)) rfl (by decide) (fun _ _ _ _ _ => (vg_tup rfl (vgs_cons (vg_name 6 nd) (vgs_cons (vg_name 7 nd) vgs_nil)))) (fun _ _ _ _ _ => (vts_one (VW.vt (vw_and (vt_c (c_eq hv) (ve_var 7) (ve_var 5)) (vw_and1 (vt_c (c_in hv) (ve_var 6) (ve_var 2))))))) (fun _ _ _ _ _ => (VE.vo (ve_var 6)))))) ve_int))) (fun _ _ _ _ _ => (VE.vo (ve_var 5))))))) (vss_cons (vs_set 2 nd (VE.vo (VO.ve (vo_comp rfl nd (own := [("v", 5)]) (vi_seq (ve_var 2)) (blkOk_by (by kernel_rfl)) rfl (by decide) (fun _ _ _ _ _ => (vg_name 5 nd)) (fun _ _ _ _ _ => (vts_one (vt_c (c_notin hv) (ve_var 5) (ve_var 4)))) (fun _ _ _ _ _ => (VE.vo (ve_var 5))))))) (vss_cons (vs_set 3 nd (VE.vo (ve_c (c_gt) (ve_len g.b_len (ve_var 4)) ve_int))) vss_nil)))) (vss_cons (vs_retv 2) vss_nil))))
theorem sc_on_rounds : FnScope N_on_rounds ["many", "arrows"] (defScope s_on_rounds) := ⟨rfl, rfl, rfl, by decide +kernel, rfl, by decide +kernel, by decide +kernel⟩
theorem t_on_rounds (g : Glob mg) (al : All P w K mg base n) (cdv : Value) (A : Around) (outer : List PySem.Env) (s : Shared) (H : Hp) (hr : Room n (A.deeper (envOfC "on_rounds" (defScope s_on_rounds) s.heap.objs.size f cdv))) (gd : A.guards = some []) :
    VSs (bodyCx P w K mg base N_on_rounds "on_rounds" (defScope s_on_rounds) f cdv A outer s H).nox (pp Pr n) k_on_rounds.fr (defBody s_on_rounds) k_on_rounds.body := by
  have hu := Room_u hr
  have hv := Room_v hr
  have nd := sc_on_rounds.nd
  exact (vss_cons (vs_set 2 nd (VE.vo (VO.ve (vo_call al.d_rest_of hr gd rfl (va_cons (ve_var 0) (va_cons (ve_var 1) va_nil)))))) (vss_cons (vs_set 3 nd (VE.vo (VO.ve (vo_call al.d_rest_of hr gd rfl (va_cons (ve_var 0) (va_cons (VO.ve (vo_comp rfl nd (own := [("a", 5), ("b", 6)]) (vi_seq (ve_var 1)) (blkOk_by (by kernel_rfl)) rfl (by decide) (fun _ _ _ _ _ => (vg_tup rfl (vgs_cons (vg_name 5 nd) (vgs_cons (vg_name 6 nd) vgs_nil)))) (fun _ _ _ _ _ => vts_nil) (fun _ _ _ _ _ => (VE.vo (ve_tup (vas_cons (ve_var 6) (vas_cons (ve_var 5) vas_nil))))))) va_nil)))))) (vss_cons (vs_ret (VE.vo (VO.ve (vo_comp rfl nd (own := [("v", 4)]) (vi_seq (ve_var 2)) (blkOk_by (by kernel_rfl)) rfl (by decide) (fun _ _ _ _ _ => (vg_name 4 nd)) (fun _ _ _ _ _ => (vts_one (VW.vt (vw_and (vt_c (c_in hv) (ve_var 4) (ve_var 3)) (vw_and1 (vt_c (c_in hv) (ve_var 4) (VO.ve (vo_call al.d_reached hr gd rfl (va_cons (ve_var 1) (va_cons (VO.ve (vo_comp rfl nd (own := [("a", 5), ("b", 6)]) (vi_seq (ve_var 1)) (blkOk_by (by kernel_rfl)) rfl (by decide) (fun _ _ _ _ _ => (vg_tup rfl (vgs_cons (vg_name 5 nd) (vgs_cons (vg_name 6 nd) vgs_nil)))) (fun _ _ _ _ _ => (vts_one (vt_c (c_eq hv) (ve_var 5) (ve_var 4)))) (fun _ _ _ _ _ => (VE.vo (ve_var 6))))) va_nil)))))))))) (fun _ _ _ _ _ => (VE.vo (ve_var 4))))))) vss_nil)))
theorem sc_check_drawing : FnScope N_check_drawing ["drawing"] (defScope s_check_drawing) := ⟨rfl, rfl, rfl, by decide +kernel, rfl, by decide +kernel, by decide +kernel⟩
theorem t_check_drawing (g : Glob mg) (al : All P w K mg base n) (cdv : Value) (A : Around) (outer : List PySem.Env) (s : Shared) (H : Hp) (hr : Room n (A.deeper (envOfC "check_drawing" (defScope s_check_drawing) s.heap.objs.size f cdv))) (gd : A.guards = some []) :
    VSs (bodyCx P w K mg base N_check_drawing "check_drawing" (defScope s_check_drawing) f cdv A outer s H).nox (pp Pr n) k_check_drawing.fr (defBody s_check_drawing) k_check_drawing.body := by
  have hu := Room_u hr
  have hv := Room_v hr
  have nd := sc_check_drawing.nd
  exact (vss_cons (vs_asg (ve_var 0) (vg_tup rfl (vgs_cons (vg_name 3 nd) (vgs_cons (vg_name 4 nd) (vgs_cons (vg_name 5 nd) vgs_nil))))) (vss_cons (vs_if (vt_not (vt_chain (h := c_le) (h' := c_le) (ha := ve_int) (hb := (ve_var 3)) (hc := (ve_gint g.c_MOST_VARIABLES)))) (vss_cons vs_raise vss_nil) vss_nil) (vss_cons (vs_set 1 nd (VE.vo (VO.ve (vo_call al.d_first_bad hr gd rfl (va_cons (ve_var 3) (va_cons (ve_var 4) (va_cons ve_bl va_nil))))))) (vss_cons (vs_if (vt_notN (ve_var 1)) (vss_cons vs_raise vss_nil) vss_nil) (vss_cons (vs_set 1 nd (VE.vo (VO.ve (vo_call al.d_first_bad hr gd rfl (va_cons (ve_var 3) (va_cons (ve_var 5) (va_cons ve_bl va_nil))))))) (vss_cons (vs_if (vt_notN (ve_var 1)) (vss_cons vs_raise vss_nil) vss_nil) (vss_cons (vs_set 2 nd (VE.vo (VO.ve (vo_call al.d_on_rounds hr gd rfl (va_cons (ve_var 3) (va_cons (ve_var 4) va_nil)))))) (vss_cons (vs_if (vt_c (c_gt) (ve_len g.b_len (ve_var 2)) ve_int) (vss_cons vs_raise vss_nil) vss_nil) vss_nil))))))))
theorem sc_check_set : FnScope N_check_set ["many", "told"] (defScope s_check_set) := ⟨rfl, rfl, rfl, by decide +kernel, rfl, by decide +kernel, by decide +kernel⟩
theorem t_check_set (g : Glob mg) (al : All P w K mg base n) (cdv : Value) (A : Around) (outer : List PySem.Env) (s : Shared) (H : Hp) (hr : Room n (A.deeper (envOfC "check_set" (defScope s_check_set) s.heap.objs.size f cdv))) (gd : A.guards = some []) :
    VSs (bodyCx P w K mg base N_check_set "check_set" (defScope s_check_set) f cdv A outer s H).nox (pp Pr n) k_check_set.fr (defBody s_check_set) k_check_set.body := by
  have hu := Room_u hr
  have hv := Room_v hr
  have nd := sc_check_set.nd
  exact (vss_cons (vs_for rfl PassesOwn.never (vi_enum (hm := g.b_enumerate) (ha := (va_cons (ve_var 1) va_nil))) (vg_tup rfl (vgs_cons (vg_name 2 nd) (vgs_cons (vg_name 3 nd) vgs_nil))) (vss_cons (vs_if (VW.vt (vw_or (vt_not (vt_chain (h := c_le) (h' := c_lt hv) (ha := ve_int) (hb := (ve_var 3)) (hc := (ve_var 0)))) (vw_or1 (VW.vt (vw_and (vt_c (c_gt) (ve_var 2) ve_int) (vw_and1 (vt_c (c_ge hv) (ve_idx (ve_var 1) (ve_sub (ve_var 2) ve_int)) (ve_var 3)))))))) (vss_cons vs_raise vss_nil) vss_nil) vss_nil)) vss_nil)
theorem sc_reached : FnScope N_reached ["arrows", "starts"] (defScope s_reached) := ⟨rfl, rfl, rfl, by decide +kernel, rfl, by decide +kernel, by decide +kernel⟩
theorem t_reached (g : Glob mg) (al : All P w K mg base n) (cdv : Value) (A : Around) (outer : List PySem.Env) (s : Shared) (H : Hp) (hr : Room n (A.deeper (envOfC "reached" (defScope s_reached) s.heap.objs.size f cdv))) (gd : A.guards = some []) :
    VSs (bodyCx P w K mg base N_reached "reached" (defScope s_reached) f cdv A outer s H).nox (pp Pr n) k_reached.fr (defBody s_reached) k_reached.body := by
  have hu := Room_u hr
  have hv := Room_v hr
  have nd := sc_reached.nd
  exact (vss_cons (vs_set 2 nd (VE.vo (VO.ve (vo_sortedSc rfl nd g.b_sorted (own := [("v", 5)]) (vi_seq (ve_var 1)) (blkOk_by (by kernel_rfl)) rfl (by decide) (fun _ _ _ _ _ => (vg_name 5 nd)) (fun _ _ _ _ _ => vts_nil) (fun _ _ _ _ _ => (VE.vo (ve_var 5))))))) (vss_cons (vs_set 3 nd (VE.vo ve_bl)) (vss_cons (vs_whl PassesOwn.never (VE.vt (ve_var 3)) (vss_cons (vs_setLc 4 rfl nd (own := [("a", 6), ("b", 7)]) (vi_seq (ve_var 0)) (blkOk_by (by kernel_rfl)) rfl (by decide) (fun _ _ _ _ _ => (vg_tup rfl (vgs_cons (vg_name 6 nd) (vgs_cons (vg_name 7 nd) vgs_nil)))) (fun _ _ _ _ _ => (vts_one (VW.vt (vw_and (vt_c (c_in hv) (ve_var 6) (ve_var 2)) (vw_and1 (vt_c (c_notin hv) (ve_var 7) (ve_var 2))))))) (fun _ _ _ _ _ => (VE.vo (ve_var 7))) (sw_true rfl rfl rfl (by decide +kernel))) (vss_frz _ (vss_cons (vs_set 2 nd (VE.vo (VO.ve (vo_sortedSc rfl nd g.b_sorted (own := [("v", 5)]) (vi_seq (VO.ve (vo_lst (vas_star (ve_var 2) (vas_star (ve_var 4) vas_nil nxs_nil) (nxs_cons nx_var nxs_nil))))) (blkOk_by (by kernel_rfl)) rfl (by decide) (fun _ _ _ _ _ => (vg_name 5 nd)) (fun _ _ _ _ _ => vts_nil) (fun _ _ _ _ _ => (VE.vo (ve_var 5))))))) (vss_cons (vs_set 3 nd (VE.vo (ve_c (c_gt) (ve_len g.b_len (ve_var 4)) ve_int))) vss_nil))))) (vss_cons (vs_retv 2) vss_nil))))
theorem sc_ancestors_of : FnScope N_ancestors_of ["drawing", "told"] (defScope s_ancestors_of) := ⟨rfl, rfl, rfl, by decide +kernel, rfl, by decide +kernel, by decide +kernel⟩
theorem t_ancestors_of (g : Glob mg) (al : All P w K mg base n) (cdv : Value) (A : Around) (outer : List PySem.Env) (s : Shared) (H : Hp) (hr : Room n (A.deeper (envOfC "ancestors_of" (defScope s_ancestors_of) s.heap.objs.size f cdv))) (gd : A.guards = some []) :
    VSs (bodyCx P w K mg base N_ancestors_of "ancestors_of" (defScope s_ancestors_of) f cdv A outer s H).nox (pp Pr n) k_ancestors_of.fr (defBody s_ancestors_of) k_ancestors_of.body := by
  have hu := Room_u hr
  have hv := Room_v hr
  have nd := sc_ancestors_of.nd
  exact (vss_cons (vs_ret (VE.vo (VO.ve (vo_call al.d_reached hr gd rfl (va_cons (VO.ve (vo_comp rfl nd (own := [("a", 2), ("b", 3)]) (vi_seq (ve_idx (ve_var 0) ve_int)) (blkOk_by (by kernel_rfl)) rfl (by decide) (fun _ _ _ _ _ => (vg_tup rfl (vgs_cons (vg_name 2 nd) (vgs_cons (vg_name 3 nd) vgs_nil)))) (fun _ _ _ _ _ => vts_nil) (fun _ _ _ _ _ => (VE.vo (ve_tup (vas_cons (ve_var 3) (vas_cons (ve_var 2) vas_nil))))))) (va_cons (ve_var 1) va_nil)))))) vss_nil)
theorem sc_districts_of : FnScope N_districts_of ["drawing", "told"] (defScope s_districts_of) := ⟨rfl, rfl, rfl, by decide +kernel, rfl, by decide +kernel, by decide +kernel⟩
theorem t_districts_of (g : Glob mg) (al : All P w K mg base n) (cdv : Value) (A : Around) (outer : List PySem.Env) (s : Shared) (H : Hp) (hr : Room n (A.deeper (envOfC "districts_of" (defScope s_districts_of) s.heap.objs.size f cdv))) (gd : A.guards = some []) :
    VSs (bodyCx P w K mg base N_districts_of "districts_of" (defScope s_districts_of) f cdv A outer s H).nox (pp Pr n) k_districts_of.fr (defBody s_districts_of) k_districts_of.body := by
  have hu := Room_u hr
  have hv := Room_v hr
  have nd := sc_districts_of.nd
  exact (vss_cons (vs_setLc 2 rfl nd (own := [("a", 6), ("b", 7)]) (vi_seq (ve_idx (ve_var 0) ve_int)) (blkOk_by (by kernel_rfl)) rfl (by decide) (fun _ _ _ _ _ => (vg_tup rfl (vgs_cons (vg_name 6 nd) (vgs_cons (vg_name 7 nd) vgs_nil)))) (fun _ _ _ _ _ => (vts_one (VW.vt (vw_and (vt_c (c_in hv) (ve_var 6) (ve_var 1)) (vw_and1 (vt_c (c_in hv) (ve_var 7) (ve_var 1))))))) (fun _ _ _ _ _ => (VE.vo (ve_tup (vas_cons (ve_var 6) (vas_cons (ve_var 7) vas_nil))))) (sw_true rfl rfl rfl (by decide +kernel))) (vss_frz _ (vss_cons (vs_set 3 nd (VE.vo (VO.ve (vo_add (ve_var 2) (VO.ve (vo_comp rfl nd (own := [("a", 6), ("b", 7)]) (vi_seq (ve_var 2)) (blkOk_by (by kernel_rfl)) rfl (by decide) (fun _ _ _ _ _ => (vg_tup rfl (vgs_cons (vg_name 6 nd) (vgs_cons (vg_name 7 nd) vgs_nil)))) (fun _ _ _ _ _ => vts_nil) (fun _ _ _ _ _ => (VE.vo (ve_tup (vas_cons (ve_var 7) (vas_cons (ve_var 6) vas_nil))))))))))) (vss_cons (vs_set 4 nd (vo_lst vas_nil)) (vss_cons (vs_for rfl PassesOwn.never (vi_seq (ve_var 1)) (vg_name 5 nd) (vss_cons (vs_if (vt_c (c_eq hv) (ve_len g.b_len (VO.ve (vo_comp rfl nd (own := [("one", 8)]) (vi_seq (ve_var 4)) (blkOk_by (by kernel_rfl)) rfl (by decide) (fun _ _ _ _ _ => (vg_name 8 nd)) (fun _ _ _ _ _ => (vts_one (vt_c (c_in hv) (ve_var 5) (ve_var 8)))) (fun _ _ _ _ _ => (VE.vo (ve_var 8)))))) ve_int) (vss_cons (vs_app 4 (VE.vo (VO.ve (vo_call al.d_reached hr gd rfl (va_cons (ve_var 3) (va_cons (VO.ve (vo_lst (vas_cons (ve_var 5) vas_nil))) va_nil)))))) vss_nil) vss_nil) vss_nil)) (vss_cons (vs_ret (VE.vo (VO.ve (vo_sorted hu g.b_sorted (ve_var 4))))) vss_nil))))))
theorem sc_part_of : FnScope N_part_of ["drawing", "told"] (defScope s_part_of) := ⟨rfl, rfl, rfl, by decide +kernel, rfl, by decide +kernel, by decide +kernel⟩
theorem t_part_of (g : Glob mg) (al : All P w K mg base n) (cdv : Value) (A : Around) (outer : List PySem.Env) (s : Shared) (H : Hp) (hr : Room n (A.deeper (envOfC "part_of" (defScope s_part_of) s.heap.objs.size f cdv))) (gd : A.guards = some []) :
    VSs (bodyCx P w K mg base N_part_of "part_of" (defScope s_part_of) f cdv A outer s H).nox (pp Pr n) k_part_of.fr (defBody s_part_of) k_part_of.body := by
  have hu := Room_u hr
  have hv := Room_v hr
  have nd := sc_part_of.nd
  exact (vss_cons (vs_asg (ve_var 0) (vg_tup rfl (vgs_cons (vg_name 3 nd) (vgs_cons (vg_name 4 nd) (vgs_cons (vg_name 5 nd) vgs_nil))))) (vss_cons (vs_setLc 2 rfl nd (own := [("a", 6), ("b", 7)]) (vi_seq (ve_var 4)) (blkOk_by (by kernel_rfl)) rfl (by decide) (fun _ _ _ _ _ => (vg_tup rfl (vgs_cons (vg_name 6 nd) (vgs_cons (vg_name 7 nd) vgs_nil)))) (fun _ _ _ _ _ => (vts_one (VW.vt (vw_and (vt_c (c_in hv) (ve_var 6) (ve_var 1)) (vw_and1 (vt_c (c_in hv) (ve_var 7) (ve_var 1))))))) (fun _ _ _ _ _ => (VE.vo (ve_tup (vas_cons (ve_var 6) (vas_cons (ve_var 7) vas_nil))))) (sw_true rfl rfl rfl (by decide +kernel))) (vss_frz _ (vss_cons (vs_ret (VE.vo (ve_tup (vas_cons (ve_var 3) (vas_cons (ve_var 2) (vas_cons (VO.ve (vo_comp rfl nd (own := [("a", 6), ("b", 7)]) (vi_seq (ve_var 5)) (blkOk_by (by kernel_rfl)) rfl (by decide) (fun _ _ _ _ _ => (vg_tup rfl (vgs_cons (vg_name 6 nd) (vgs_cons (vg_name 7 nd) vgs_nil)))) (fun _ _ _ _ _ => (vts_one (VW.vt (vw_and (vt_c (c_in hv) (ve_var 6) (ve_var 1)) (vw_and1 (vt_c (c_in hv) (ve_var 7) (ve_var 1))))))) (fun _ _ _ _ _ => (VE.vo (ve_tup (vas_cons (ve_var 6) (vas_cons (ve_var 7) vas_nil))))))) vas_nil)))))) vss_nil))))
theorem sc_is_inside : FnScope N_is_inside ["inner", "outer"] (defScope s_is_inside) := ⟨rfl, rfl, rfl, by decide +kernel, rfl, by decide +kernel, by decide +kernel⟩
theorem t_is_inside (g : Glob mg) (al : All P w K mg base n) (cdv : Value) (A : Around) (outer : List PySem.Env) (s : Shared) (H : Hp) (hr : Room n (A.deeper (envOfC "is_inside" (defScope s_is_inside) s.heap.objs.size f cdv))) (gd : A.guards = some []) :
    VSs (bodyCx P w K mg base N_is_inside "is_inside" (defScope s_is_inside) f cdv A outer s H).nox (pp Pr n) k_is_inside.fr (defBody s_is_inside) k_is_inside.body := by
  have hu := Room_u hr
  have hv := Room_v hr
  have nd := sc_is_inside.nd
  exact (vss_cons (vs_ret (VE.vo (ve_and (ve_all g.b_all (VO.ve (vo_comp rfl nd (own := [("v", 2)]) (vi_seq (ve_var 0)) (blkOk_by (by kernel_rfl)) rfl (by decide) (fun _ _ _ _ _ => (vg_name 2 nd)) (fun _ _ _ _ _ => vts_nil) (fun _ _ _ _ _ => (VE.vo (ve_c (c_in hv) (ve_var 2) (ve_var 1))))))) (ve_one (ve_all g.b_all (VO.ve (vo_comp rfl nd (own := [("k", 3)]) (vi_range2 (hm := g.b_range) (ha := (va_cons ve_int (va_cons (ve_len g.b_len (ve_var 0)) va_nil)))) (blkOk_by (by kernel_rfl)) rfl (by decide) (fun _ _ _ _ _ => (vg_name 3 nd)) (fun _ _ _ _ _ => vts_nil) (fun _ _ _ _ _ => (VE.vo (ve_c (c_lt hv) (ve_idx (ve_var 0) (ve_sub (ve_var 3) ve_int)) (ve_idx (ve_var 0) (ve_var 3)))))))))))) vss_nil)
theorem sc_is_step : FnScope N_is_step ["drawing", "steps", "k"] (defScope s_is_step) := ⟨rfl, rfl, rfl, by decide +kernel, rfl, by decide +kernel, by decide +kernel⟩
theorem t_is_step (g : Glob mg) (al : All P w K mg base n) (cdv : Value) (A : Around) (outer : List PySem.Env) (s : Shared) (H : Hp) (hr : Room n (A.deeper (envOfC "is_step" (defScope s_is_step) s.heap.objs.size f cdv))) (gd : A.guards = some []) :
    VSs (bodyCx P w K mg base N_is_step "is_step" (defScope s_is_step) f cdv A outer s H).nox (pp Pr n) k_is_step.fr (defBody s_is_step) k_is_step.body := by
  have hu := Room_u hr
  have hv := Room_v hr
  have nd := sc_is_step.nd
  exact (vss_cons (vs_asg (ve_idx (ve_var 1) (ve_var 2)) (vg_tup rfl (vgs_cons (vg_name 4 nd) (vgs_cons (vg_name 5 nd) (vgs_cons (vg_name 6 nd) vgs_nil))))) (vss_cons (vs_if (vt_c (c_eq hv) (ve_var 2) ve_int) (vss_cons (vs_ret (VE.vo (ve_and (ve_c (c_eq hv) (ve_var 4) ve_str) (ve_and (ve_c (c_eq hv) (ve_var 5) (ve_neg ve_int)) (ve_one (ve_c (c_eq hv) (ve_var 6) (VO.ve (vo_listR1 g.b_list g.b_range (ve_idx (ve_var 0) ve_int))))))))) vss_nil) vss_nil) (vss_cons (vs_if (vt_not (vt_chain (h := c_le) (h' := c_lt hv) (ha := ve_int) (hb := (ve_var 5)) (hc := (ve_var 2)))) (vss_cons (vs_ret (VE.vo ve_bl)) vss_nil) vss_nil) (vss_cons (vs_set 3 nd (VE.vo (ve_idx (ve_idx (ve_var 1) (ve_var 5)) ve_int))) (vss_cons (vs_if (vt_c (c_eq hv) (ve_var 4) ve_str) (vss_cons (vs_ret (VE.vo (ve_and (VO.ve (vo_call al.d_is_inside hr gd rfl (va_cons (ve_var 6) (va_cons (ve_var 3) va_nil)))) (ve_one (ve_c (c_eq hv) (VO.ve (vo_call al.d_ancestors_of hr gd rfl (va_cons (VO.ve (vo_call al.d_part_of hr gd rfl (va_cons (ve_var 0) (va_cons (ve_var 3) va_nil)))) (va_cons (ve_var 6) va_nil)))) (ve_var 6)))))) vss_nil) vss_nil) (vss_cons (vs_ret (VE.vo (ve_and (ve_c (c_eq hv) (ve_var 4) ve_str) (ve_one (ve_c (c_in hv) (ve_var 6) (VO.ve (vo_call al.d_districts_of hr gd rfl (va_cons (ve_var 0) (va_cons (ve_var 3) va_nil))))))))) vss_nil))))))
theorem sc_first_bad_step : FnScope N_first_bad_step ["drawing", "steps"] (defScope s_first_bad_step) := ⟨rfl, rfl, rfl, by decide +kernel, rfl, by decide +kernel, by decide +kernel⟩
theorem t_first_bad_step (g : Glob mg) (al : All P w K mg base n) (cdv : Value) (A : Around) (outer : List PySem.Env) (s : Shared) (H : Hp) (hr : Room n (A.deeper (envOfC "first_bad_step" (defScope s_first_bad_step) s.heap.objs.size f cdv))) (gd : A.guards = some []) :
    VSs (bodyCx P w K mg base N_first_bad_step "first_bad_step" (defScope s_first_bad_step) f cdv A outer s H).nox (pp Pr n) k_first_bad_step.fr (defBody s_first_bad_step) k_first_bad_step.body := by
  have hu := Room_u hr
  have hv := Room_v hr
  have nd := sc_first_bad_step.nd
  exact (vss_cons (vs_if (vt_c (c_eq hv) (ve_len g.b_len (ve_var 1)) ve_int) (vss_cons (vs_ret (VE.vo ve_int)) vss_nil) vss_nil) (vss_cons (vs_for rfl PassesOwn.never (vi_range1 (hm := g.b_range) (ha := (va_cons (ve_len g.b_len (ve_var 1)) va_nil))) (vg_name 2 nd) (vss_cons (vs_if (vt_not (VE.vt (VO.ve (vo_call al.d_is_step hr gd rfl (va_cons (ve_var 0) (va_cons (ve_var 1) (va_cons (ve_var 2) va_nil))))))) (vss_cons (vs_retv 2) vss_nil) vss_nil) vss_nil)) (vss_cons (vs_ret (VE.vo ve_non)) vss_nil)))
theorem sc_check_question : FnScope N_check_question ["drawing", "deed", "asked"] (defScope s_check_question) := ⟨rfl, rfl, rfl, by decide +kernel, rfl, by decide +kernel, by decide +kernel⟩
theorem t_check_question (g : Glob mg) (al : All P w K mg base n) (cdv : Value) (A : Around) (outer : List PySem.Env) (s : Shared) (H : Hp) (hr : Room n (A.deeper (envOfC "check_question" (defScope s_check_question) s.heap.objs.size f cdv))) (gd : A.guards = some []) :
    VSs (bodyCx P w K mg base N_check_question "check_question" (defScope s_check_question) f cdv A outer s H).nox (pp Pr n) k_check_question.fr (defBody s_check_question) k_check_question.body := by
  have hu := Room_u hr
  have hv := Room_v hr
  have nd := sc_check_question.nd
  exact (vss_cons (vs_expr (VO.ve (vo_call al.d_check_drawing hr gd rfl (va_cons (ve_var 0) va_nil)))) (vss_cons (vs_expr (VO.ve (vo_call al.d_check_set hr gd rfl (va_cons (ve_idx (ve_var 0) ve_int) (va_cons (ve_var 1) va_nil))))) (vss_cons (vs_expr (VO.ve (vo_call al.d_check_set hr gd rfl (va_cons (ve_idx (ve_var 0) ve_int) (va_cons (ve_var 2) va_nil))))) (vss_cons (vs_setLc 3 rfl nd (own := [("v", 4)]) (vi_seq (ve_var 1)) (blkOk_by (by kernel_rfl)) rfl (by decide) (fun _ _ _ _ _ => (vg_name 4 nd)) (fun _ _ _ _ _ => (vts_one (vt_c (c_in hv) (ve_var 4) (ve_var 2)))) (fun _ _ _ _ _ => (VE.vo (ve_var 4))) (sw_true rfl rfl rfl (by decide +kernel))) (vss_frz _ (vss_cons (vs_if (vt_c (c_gt) (ve_len g.b_len (ve_var 3)) ve_int) (vss_cons vs_raise vss_nil) vss_nil) (vss_cons (vs_if (vt_c (c_eq hv) (ve_len g.b_len (ve_var 2)) ve_int) (vss_cons vs_raise vss_nil) vss_nil) vss_nil)))))))
theorem sc_inner_of : FnScope N_inner_of ["drawing", "deed", "asked"] (defScope s_inner_of) := ⟨rfl, rfl, rfl, by decide +kernel, rfl, by decide +kernel, by decide +kernel⟩
theorem t_inner_of (g : Glob mg) (al : All P w K mg base n) (cdv : Value) (A : Around) (outer : List PySem.Env) (s : Shared) (H : Hp) (hr : Room n (A.deeper (envOfC "inner_of" (defScope s_inner_of) s.heap.objs.size f cdv))) (gd : A.guards = some []) :
    VSs (bodyCx P w K mg base N_inner_of "inner_of" (defScope s_inner_of) f cdv A outer s H).nox (pp Pr n) k_inner_of.fr (defBody s_inner_of) k_inner_of.body := by
  have hu := Room_u hr
  have hv := Room_v hr
  have nd := sc_inner_of.nd
  exact (vss_cons (vs_setLc 3 rfl nd (own := [("v", 4)]) (vi_range1 (hm := g.b_range) (ha := (va_cons (ve_idx (ve_var 0) ve_int) va_nil))) (blkOk_by (by kernel_rfl)) rfl (by decide) (fun _ _ _ _ _ => (vg_name 4 nd)) (fun _ _ _ _ _ => (vts_one (vt_c (c_notin hv) (ve_var 4) (ve_var 1)))) (fun _ _ _ _ _ => (VE.vo (ve_var 4))) (sw_true rfl rfl rfl (by decide +kernel))) (vss_frz _ (vss_cons (vs_ret (VE.vo (VO.ve (vo_call al.d_ancestors_of hr gd rfl (va_cons (VO.ve (vo_call al.d_part_of hr gd rfl (va_cons (ve_var 0) (va_cons (ve_var 3) va_nil)))) (va_cons (ve_var 2) va_nil)))))) vss_nil)))
theorem sc_home_of : FnScope N_home_of ["drawing", "outer", "told"] (defScope s_home_of) := ⟨rfl, rfl, rfl, by decide +kernel, rfl, by decide +kernel, by decide +kernel⟩
theorem t_home_of (g : Glob mg) (al : All P w K mg base n) (cdv : Value) (A : Around) (outer : List PySem.Env) (s : Shared) (H : Hp) (hr : Room n (A.deeper (envOfC "home_of" (defScope s_home_of) s.heap.objs.size f cdv))) (gd : A.guards = some []) :
    VSs (bodyCx P w K mg base N_home_of "home_of" (defScope s_home_of) f cdv A outer s H).nox (pp Pr n) k_home_of.fr (defBody s_home_of) k_home_of.body := by
  have hu := Room_u hr
  have hv := Room_v hr
  have nd := sc_home_of.nd
  exact (vss_cons (vs_ret (VE.vo (ve_idx (VO.ve (vo_comp rfl nd (own := [("one", 3)]) (vi_seq (VO.ve (vo_call al.d_districts_of hr gd rfl (va_cons (ve_var 0) (va_cons (ve_var 1) va_nil))))) (blkOk_by (by kernel_rfl)) rfl (by decide) (fun _ _ _ _ _ => (vg_name 3 nd)) (fun _ _ _ _ _ => (vts_one (vt_c (c_in hv) (ve_idx (ve_var 2) ve_int) (ve_var 3)))) (fun _ _ _ _ _ => (VE.vo (ve_var 3))))) ve_int))) vss_nil)
theorem sc_led_to : FnScope N_led_to ["drawing", "told"] (defScope s_led_to) := ⟨rfl, rfl, rfl, by decide +kernel, rfl, by decide +kernel, by decide +kernel⟩
theorem t_led_to (g : Glob mg) (al : All P w K mg base n) (cdv : Value) (A : Around) (outer : List PySem.Env) (s : Shared) (H : Hp) (hr : Room n (A.deeper (envOfC "led_to" (defScope s_led_to) s.heap.objs.size f cdv))) (gd : A.guards = some []) :
    VSs (bodyCx P w K mg base N_led_to "led_to" (defScope s_led_to) f cdv A outer s H).nox (pp Pr n) k_led_to.fr (defBody s_led_to) k_led_to.body := by
  have hu := Room_u hr
  have hv := Room_v hr
  have nd := sc_led_to.nd
  exact (vss_cons (vs_set 2 nd (vo_lst (vas_cons (ve_tup (vas_cons ve_str (vas_cons (ve_neg ve_int) (vas_cons (VO.ve (vo_listR1 g.b_list g.b_range (ve_idx (ve_var 0) ve_int))) vas_nil)))) vas_nil))) (vss_cons (vs_whl PassesOwn.never (VE.vt ve_bl) (vss_cons (vs_set 3 nd (VE.vo (ve_idx (ve_idx (ve_var 2) (ve_neg ve_int)) ve_int))) (vss_cons (vs_set 4 nd (VE.vo (VO.ve (vo_call al.d_home_of hr gd rfl (va_cons (ve_var 0) (va_cons (ve_var 3) (va_cons (ve_var 1) va_nil))))))) (vss_cons (vs_if (vt_c (c_ne hv) (ve_var 4) (ve_var 3)) (vss_cons (vs_app 2 (VE.vo (ve_tup (vas_cons ve_str (vas_cons (ve_sub (ve_len g.b_len (ve_var 2)) ve_int) (vas_cons (ve_var 4) vas_nil)))))) vss_nil) vss_nil) (vss_cons (vs_set 5 nd (VE.vo (VO.ve (vo_call al.d_ancestors_of hr gd rfl (va_cons (VO.ve (vo_call al.d_part_of hr gd rfl (va_cons (ve_var 0) (va_cons (ve_var 4) va_nil)))) (va_cons (ve_var 1) va_nil)))))) (vss_cons (vs_if (vt_c (c_eq hv) (ve_var 5) (ve_var 4)) (vss_frz _ (vss_cons (vs_ret (VE.vo (ve_tup (vas_cons (ve_var 2) (vas_cons (ve_var 4) vas_nil))))) vss_nil)) vss_nil) (vss_cons (vs_app 2 (VE.vo (ve_tup (vas_cons ve_str (vas_cons (ve_sub (ve_len g.b_len (ve_var 2)) ve_int) (vas_cons (ve_var 5) vas_nil)))))) vss_nil))))))) vss_nil))
theorem sc_joined : FnScope N_joined ["ways"] (defScope s_joined) := ⟨rfl, rfl, rfl, by decide +kernel, rfl, by decide +kernel, by decide +kernel⟩
theorem t_joined (g : Glob mg) (al : All P w K mg base n) (cdv : Value) (A : Around) (outer : List PySem.Env) (s : Shared) (H : Hp) (hr : Room n (A.deeper (envOfC "joined" (defScope s_joined) s.heap.objs.size f cdv))) (gd : A.guards = some []) :
    VSs (bodyCx P w K mg base N_joined "joined" (defScope s_joined) f cdv A outer s H).nox (pp Pr n) k_joined.fr (defBody s_joined) k_joined.body := by
  have hu := Room_u hr
  have hv := Room_v hr
  have nd := sc_joined.nd
  exact (vss_cons (vs_set 1 nd (ve_sliceH (ve_idx (ve_var 0) ve_int) ve_int)) (vss_cons (vs_set 2 nd (vo_lst vas_nil)) (vss_cons (vs_for rfl PassesOwn.never (vi_seq (ve_var 0)) (vg_name 3 nd) (vss_cons (vs_set 4 nd (VE.vo ve_int)) (vss_cons (vs_for rfl PassesOwn.never (vi_seq (VO.ve (ve_sliceL (ve_var 3) ve_int))) (vg_tup rfl (vgs_cons (vg_name 5 nd) (vgs_cons (vg_name 6 nd) (vgs_cons (vg_name 7 nd) vgs_nil)))) (vss_cons (vs_if (vt_c (c_notin hv) (ve_tup (vas_cons (ve_var 5) (vas_cons (ve_var 4) (vas_cons (ve_var 7) vas_nil)))) (ve_var 1)) (vss_cons (vs_app 1 (VE.vo (ve_tup (vas_cons (ve_var 5) (vas_cons (ve_var 4) (vas_cons (ve_var 7) vas_nil)))))) vss_nil) vss_nil) (vss_cons (vs_set 4 nd (VE.vo (ve_index hv (ve_var 1) (ve_tup (vas_cons (ve_var 5) (vas_cons (ve_var 4) (vas_cons (ve_var 7) vas_nil)))) (nx_op (nxs_cons nx_var (nxs_cons nx_var (nxs_cons nx_var nxs_nil))))))) vss_nil))) (vss_cons (vs_app 2 (VE.vo (ve_var 4))) vss_nil)))) (vss_cons (vs_rett (vns_cons 1 (vns_cons 2 vns_nil))) vss_nil))))
theorem sc_derivation_of : FnScope N_derivation_of ["drawing", "deed", "asked"] (defScope s_derivation_of) := ⟨rfl, rfl, rfl, by decide +kernel, rfl, by decide +kernel, by decide +kernel⟩
theorem t_derivation_of (g : Glob mg) (al : All P w K mg base n) (cdv : Value) (A : Around) (outer : List PySem.Env) (s : Shared) (H : Hp) (hr : Room n (A.deeper (envOfC "derivation_of" (defScope s_derivation_of) s.heap.objs.size f cdv))) (gd : A.guards = some []) :
    VSs (bodyCx P w K mg base N_derivation_of "derivation_of" (defScope s_derivation_of) f cdv A outer s H).nox (pp Pr n) k_derivation_of.fr (defBody s_derivation_of) k_derivation_of.body := by
  have hu := Room_u hr
  have hv := Room_v hr
  have nd := sc_derivation_of.nd
  exact (vss_cons (vs_set 3 nd (vo_lst vas_nil)) (vss_cons (vs_for rfl PassesOwn.never (vi_seq (VO.ve (vo_call al.d_districts_of hr gd rfl (va_cons (ve_var 0) (va_cons (VO.ve (vo_call al.d_inner_of hr gd rfl (va_cons (ve_var 0) (va_cons (ve_var 1) (va_cons (ve_var 2) va_nil))))) va_nil))))) (vg_name 4 nd) (vss_cons (vs_asg (VO.ve (vo_call al.d_led_to hr gd rfl (va_cons (ve_var 0) (va_cons (ve_var 4) va_nil)))) (vg_tup rfl (vgs_cons (vg_name 5 nd) (vgs_cons (vg_name 6 nd) vgs_nil)))) (vss_cons (vs_if (vt_c (c_ne hv) (ve_var 6) (ve_var 4)) (vss_cons (vs_ret (vo_cst ve_non)) vss_nil) vss_nil) (vss_cons (vs_app 3 (VE.vo (ve_var 5))) vss_nil)))) (vss_frz _ (vss_cons (vs_ret (vo_call al.d_joined hr gd rfl (va_cons (ve_var 3) va_nil))) vss_nil))))
theorem sc_derivation : FnScope N_derivation ["drawing", "deed", "asked"] (defScope s_derivation) := ⟨rfl, rfl, rfl, by decide +kernel, rfl, by decide +kernel, by decide +kernel⟩
theorem t_derivation (g : Glob mg) (al : All P w K mg base n) (cdv : Value) (A : Around) (outer : List PySem.Env) (s : Shared) (H : Hp) (hr : Room n (A.deeper (envOfC "derivation" (defScope s_derivation) s.heap.objs.size f cdv))) (gd : A.guards = some []) :
    VSs (bodyCx P w K mg base N_derivation "derivation" (defScope s_derivation) f cdv A outer s H).nox (pp Pr n) k_derivation_v2.fr (defBody s_derivation) k_derivation_v2.body := by
  have hu := Room_u hr
  have hv := Room_v hr
  have nd := sc_derivation.nd
  exact (vss_cons (vs_expr (VO.ve (vo_call al.d_check_question hr gd rfl (va_cons (ve_var 0) (va_cons (ve_var 1) (va_cons (ve_var 2) va_nil)))))) (vss_cons (vs_ret (vo_call al.d_derivation_of hr gd rfl (va_cons (ve_var 0) (va_cons (ve_var 1) (va_cons (ve_var 2) va_nil))))) vss_nil))
theorem sc_is_told : FnScope N_is_told ["drawing", "deed", "asked"] (defScope s_is_told) := ⟨rfl, rfl, rfl, by decide +kernel, rfl, by decide +kernel, by decide +kernel⟩
theorem t_is_told (g : Glob mg) (al : All P w K mg base n) (cdv : Value) (A : Around) (outer : List PySem.Env) (s : Shared) (H : Hp) (hr : Room n (A.deeper (envOfC "is_told" (defScope s_is_told) s.heap.objs.size f cdv))) (gd : A.guards = some []) :
    VSs (bodyCx P w K mg base N_is_told "is_told" (defScope s_is_told) f cdv A outer s H).nox (pp Pr n) k_is_told.fr (defBody s_is_told) k_is_told.body := by
  have hu := Room_u hr
  have hv := Room_v hr
  have nd := sc_is_told.nd
  exact (vss_cons (vs_expr (VO.ve (vo_call al.d_check_question hr gd rfl (va_cons (ve_var 0) (va_cons (ve_var 1) (va_cons (ve_var 2) va_nil)))))) (vss_cons (vs_ret (VE.vo (ve_notN (VO.ve (vo_call al.d_derivation_of hr gd rfl (va_cons (ve_var 0) (va_cons (ve_var 1) (va_cons (ve_var 2) va_nil)))))))) vss_nil))
theorem sc_accepts : FnScope N_accepts ["drawing", "deed", "asked", "steps", "ends"] (defScope s_accepts) := ⟨rfl, rfl, rfl, by decide +kernel, rfl, by decide +kernel, by decide +kernel⟩
theorem t_accepts (g : Glob mg) (al : All P w K mg base n) (cdv : Value) (A : Around) (outer : List PySem.Env) (s : Shared) (H : Hp) (hr : Room n (A.deeper (envOfC "accepts" (defScope s_accepts) s.heap.objs.size f cdv))) (gd : A.guards = some []) :
    VSs (bodyCx P w K mg base N_accepts "accepts" (defScope s_accepts) f cdv A outer s H).nox (pp Pr n) k_accepts.fr (defBody s_accepts) k_accepts.body := by
  have hu := Room_u hr
  have hv := Room_v hr
  have nd := sc_accepts.nd
  exact (vss_cons (vs_if (VW.vt (vw_or (vt_notN (VO.ve (vo_call al.d_first_bad_step hr gd rfl (va_cons (ve_var 0) (va_cons (ve_var 3) va_nil))))) (vw_or1 (vt_not (VE.vt (ve_all g.b_all (VO.ve (vo_comp rfl nd (own := [("k", 5)]) (vi_seq (ve_var 4)) (blkOk_by (by kernel_rfl)) rfl (by decide) (fun _ _ _ _ _ => (vg_name 5 nd)) (fun _ _ _ _ _ => vts_nil) (fun _ _ _ _ _ => (VE.vo (ve_chain (h := c_le) (h' := c_lt hv) (ha := ve_int) (hb := (ve_var 5)) (hc := (ve_len g.b_len (ve_var 3)))))))))))))) (vss_cons (vs_ret (VE.vo ve_bl)) vss_nil) vss_nil) (vss_cons (vs_ret (VE.vo (ve_c (c_eq hv) (VO.ve (vo_comp rfl nd (own := [("k", 5)]) (vi_seq (ve_var 4)) (blkOk_by (by kernel_rfl)) rfl (by decide) (fun _ _ _ _ _ => (vg_name 5 nd)) (fun _ _ _ _ _ => vts_nil) (fun _ _ _ _ _ => (VE.vo (ve_idx (ve_idx (ve_var 3) (ve_var 5)) ve_int))))) (VO.ve (vo_call al.d_districts_of hr gd rfl (va_cons (ve_var 0) (va_cons (VO.ve (vo_call al.d_inner_of hr gd rfl (va_cons (ve_var 0) (va_cons (ve_var 1) (va_cons (ve_var 2) va_nil))))) va_nil))))))) vss_nil))
theorem sc_check_derivation : FnScope N_check_derivation ["drawing", "deed", "asked", "steps", "ends"] (defScope s_check_derivation) := ⟨rfl, rfl, rfl, by decide +kernel, rfl, by decide +kernel, by decide +kernel⟩
theorem t_check_derivation (g : Glob mg) (al : All P w K mg base n) (cdv : Value) (A : Around) (outer : List PySem.Env) (s : Shared) (H : Hp) (hr : Room n (A.deeper (envOfC "check_derivation" (defScope s_check_derivation) s.heap.objs.size f cdv))) (gd : A.guards = some []) :
    VSs (bodyCx P w K mg base N_check_derivation "check_derivation" (defScope s_check_derivation) f cdv A outer s H).nox (pp Pr n) k_check_derivation.fr (defBody s_check_derivation) k_check_derivation.body := by
  have hu := Room_u hr
  have hv := Room_v hr
  have nd := sc_check_derivation.nd
  exact (vss_cons (vs_expr (VO.ve (vo_call al.d_check_question hr gd rfl (va_cons (ve_var 0) (va_cons (ve_var 1) (va_cons (ve_var 2) va_nil)))))) (vss_cons (vs_ret (VE.vo (VO.ve (vo_call al.d_accepts hr gd rfl (va_cons (ve_var 0) (va_cons (ve_var 1) (va_cons (ve_var 2) (va_cons (ve_var 3) (va_cons (ve_var 4) va_nil))))))))) vss_nil))
theorem sc_hedge_of : FnScope N_hedge_of ["drawing", "deed", "asked"] (defScope s_hedge_of) := ⟨rfl, rfl, rfl, by decide +kernel, rfl, by decide +kernel, by decide +kernel⟩
theorem t_hedge_of (g : Glob mg) (al : All P w K mg base n) (cdv : Value) (A : Around) (outer : List PySem.Env) (s : Shared) (H : Hp) (hr : Room n (A.deeper (envOfC "hedge_of" (defScope s_hedge_of) s.heap.objs.size f cdv))) (gd : A.guards = some []) :
    VSs (bodyCx P w K mg base N_hedge_of "hedge_of" (defScope s_hedge_of) f cdv A outer s H).nox (pp Pr n) k_hedge_of.fr (defBody s_hedge_of) k_hedge_of.body := by
  have hu := Room_u hr
  have hv := Room_v hr
  have nd := sc_hedge_of.nd
  exact (vss_cons (vs_for rfl PassesOwn.never (vi_seq (VO.ve (vo_call al.d_districts_of hr gd rfl (va_cons (ve_var 0) (va_cons (VO.ve (vo_call al.d_inner_of hr gd rfl (va_cons (ve_var 0) (va_cons (ve_var 1) (va_cons (ve_var 2) va_nil))))) va_nil))))) (vg_name 3 nd) (vss_cons (vs_set 4 nd (VE.vo (ve_idx (VO.ve (vo_call al.d_led_to hr gd rfl (va_cons (ve_var 0) (va_cons (ve_var 3) va_nil)))) ve_int))) (vss_cons (vs_if (vt_c (c_ne hv) (ve_var 4) (ve_var 3)) (vss_cons (vs_ret (VE.vo (ve_tup (vas_cons (ve_var 4) (vas_cons (ve_var 3) vas_nil))))) vss_nil) vss_nil) vss_nil))) (vss_cons (vs_ret (VE.vo ve_non)) vss_nil))
theorem sc_hedge : FnScope N_hedge ["drawing", "deed", "asked"] (defScope s_hedge) := ⟨rfl, rfl, rfl, by decide +kernel, rfl, by decide +kernel, by decide +kernel⟩
theorem t_hedge (g : Glob mg) (al : All P w K mg base n) (cdv : Value) (A : Around) (outer : List PySem.Env) (s : Shared) (H : Hp) (hr : Room n (A.deeper (envOfC "hedge" (defScope s_hedge) s.heap.objs.size f cdv))) (gd : A.guards = some []) :
    VSs (bodyCx P w K mg base N_hedge "hedge" (defScope s_hedge) f cdv A outer s H).nox (pp Pr n) k_hedge.fr (defBody s_hedge) k_hedge.body := by
  have hu := Room_u hr
  have hv := Room_v hr
  have nd := sc_hedge.nd
  exact (vss_cons (vs_expr (VO.ve (vo_call al.d_check_question hr gd rfl (va_cons (ve_var 0) (va_cons (ve_var 1) (va_cons (ve_var 2) va_nil)))))) (vss_cons (vs_ret (VE.vo (VO.ve (vo_call al.d_hedge_of hr gd rfl (va_cons (ve_var 0) (va_cons (ve_var 1) (va_cons (ve_var 2) va_nil))))))) vss_nil))
theorem sc_check_hedge : FnScope N_check_hedge ["drawing", "deed", "asked", "outer", "inner"] (defScope s_check_hedge) := ⟨rfl, rfl, rfl, by decide +kernel, rfl, by decide +kernel, by decide +kernel⟩
theorem t_check_hedge (g : Glob mg) (al : All P w K mg base n) (cdv : Value) (A : Around) (outer : List PySem.Env) (s : Shared) (H : Hp) (hr : Room n (A.deeper (envOfC "check_hedge" (defScope s_check_hedge) s.heap.objs.size f cdv))) (gd : A.guards = some []) :
    VSs (bodyCx P w K mg base N_check_hedge "check_hedge" (defScope s_check_hedge) f cdv A outer s H).nox (pp Pr n) k_check_hedge.fr (defBody s_check_hedge) k_check_hedge.body := by
  have hu := Room_u hr
  have hv := Room_v hr
  have nd := sc_check_hedge.nd
  exact (vss_cons (vs_expr (VO.ve (vo_call al.d_check_question hr gd rfl (va_cons (ve_var 0) (va_cons (ve_var 1) (va_cons (ve_var 2) va_nil)))))) (vss_cons (vs_if (VW.vt (vw_or (vt_c (c_eq hv) (ve_len g.b_len (ve_var 4)) ve_int) (vw_or (vt_not (VE.vt (VO.ve (vo_call al.d_is_inside hr gd rfl (va_cons (ve_var 4) (va_cons (ve_var 3) va_nil)))))) (vw_or1 (vt_not (VE.vt (VO.ve (vo_call al.d_is_inside hr gd rfl (va_cons (ve_var 3) (va_cons (VO.ve (vo_listR1 g.b_list g.b_range (ve_idx (ve_var 0) ve_int))) va_nil)))))))))) (vss_cons (vs_ret (VE.vo ve_bl)) vss_nil) vss_nil) (vss_cons (vs_if (VW.vt (vw_or (vt_c (c_eq hv) (ve_len g.b_len (VO.ve (vo_comp rfl nd (own := [("v", 5)]) (vi_seq (ve_var 3)) (blkOk_by (by kernel_rfl)) rfl (by decide) (fun _ _ _ _ _ => (vg_name 5 nd)) (fun _ _ _ _ _ => (vts_one (vt_c (c_in hv) (ve_var 5) (ve_var 1)))) (fun _ _ _ _ _ => (VE.vo (ve_var 5)))))) ve_int) (vw_or1 (vt_not (VE.vt (VO.ve (vo_call al.d_is_inside hr gd rfl (va_cons (ve_var 4) (va_cons (VO.ve (vo_call al.d_inner_of hr gd rfl (va_cons (ve_var 0) (va_cons (ve_var 1) (va_cons (ve_var 2) va_nil))))) va_nil))))))))) (vss_cons (vs_ret (VE.vo ve_bl)) vss_nil) vss_nil) (vss_cons (vs_if (VW.vt (vw_or (vt_c (c_gt) (ve_len g.b_len (VO.ve (vo_call al.d_districts_of hr gd rfl (va_cons (ve_var 0) (va_cons (ve_var 4) va_nil))))) ve_int) (vw_or1 (vt_c (c_gt) (ve_len g.b_len (VO.ve (vo_call al.d_districts_of hr gd rfl (va_cons (ve_var 0) (va_cons (ve_var 3) va_nil))))) ve_int)))) (vss_cons (vs_ret (VE.vo ve_bl)) vss_nil) vss_nil) (vss_cons (vs_ret (VE.vo (ve_c (c_eq hv) (VO.ve (vo_call al.d_ancestors_of hr gd rfl (va_cons (VO.ve (vo_call al.d_part_of hr gd rfl (va_cons (ve_var 0) (va_cons (ve_var 3) va_nil)))) (va_cons (ve_var 4) va_nil)))) (ve_var 3)))) vss_nil)))))
theorem sc__law_draws : FnScope N__law_draws ["script"] (defScope s__law_draws) := ⟨rfl, rfl, rfl, by decide +kernel, rfl, by decide +kernel, by decide +kernel⟩
theorem t__law_draws (g : Glob mg) (al : All P w K mg base n) (cdv : Value) (A : Around) (outer : List PySem.Env) (s : Shared) (H : Hp) (hr : Room n (A.deeper (envOfC "_law_draws" (defScope s__law_draws) s.heap.objs.size f cdv))) (gd : A.guards = some []) :
    VSs (bodyCx P w K mg base N__law_draws "_law_draws" (defScope s__law_draws) f cdv A outer s H).nox (pp Pr n) k__law_draws.fr (defBody s__law_draws) k__law_draws.body := by
  have hu := Room_u hr
  have hv := Room_v hr
  have nd := sc__law_draws.nd
  exact (vss_cons (vs_set 1 nd (vo_lst vas_nil)) (vss_cons (vs_for rfl PassesOwn.never (vi_range1 (hm := g.b_range) (ha := (va_cons (ve_min g.b_min ve_int (ve_len g.b_len (ve_var 0))) va_nil))) (vg_name 2 nd) (vss_cons (vs_set 3 nd (VE.vo (ve_abs g.b_abs (ve_idx (ve_var 0) (ve_var 2))))) (vss_cons (vs_if (vt_c (c_ge hv) (ve_var 3) (ve_pow ve_int ve_int)) (vss_cons (vs_for rfl PassesOwn.never (vi_range1 (hm := g.b_range) (ha := (va_cons ve_int va_nil))) (vg_name 4 nd) (vss_cons (vs_if (vt_c (c_gt) (ve_var 3) ve_int) (vss_cons (vs_app 1 (VE.vo (ve_mod (ve_intc g.b_int (ve_var 3)) ve_int))) (vss_cons (vs_set 3 nd (VE.vo (ve_fdiv (ve_var 3) ve_int))) vss_nil)) vss_nil) vss_nil)) vss_nil) (vss_cons (vs_set 5 nd (VE.vo (ve_mod (ve_intc g.b_int (VO.ve (vo_add (ve_mul (ve_var 3) ve_int) (ve_mul (VO.ve (vo_add (ve_var 2) ve_int)) ve_int)))) ve_int))) (vss_cons (vs_set 5 nd (VE.vo (ve_mod (ve_intc g.b_int (VO.ve (vo_add (VO.ve (vo_add (ve_mul (ve_var 5) ve_int) (ve_mul ve_int (ve_var 2)))) ve_int))) ve_int))) (vss_cons (vs_app 1 (VE.vo (ve_mod (ve_intc g.b_int (ve_var 5)) ve_int))) (vss_cons (vs_app 1 (VE.vo (ve_mod (ve_intc g.b_int (ve_fdiv (ve_var 5) ve_int)) ve_int))) vss_nil))))) vss_nil))) (vss_cons (vs_retv 1) vss_nil)))
theorem sc__law_mix : FnScope N__law_mix ["draws", "k", "many"] (defScope s__law_mix) := ⟨rfl, rfl, rfl, by decide +kernel, rfl, by decide +kernel, by decide +kernel⟩
theorem t__law_mix (g : Glob mg) (al : All P w K mg base n) (cdv : Value) (A : Around) (outer : List PySem.Env) (s : Shared) (H : Hp) (hr : Room n (A.deeper (envOfC "_law_mix" (defScope s__law_mix) s.heap.objs.size f cdv))) (gd : A.guards = some []) :
    VSs (bodyCx P w K mg base N__law_mix "_law_mix" (defScope s__law_mix) f cdv A outer s H).nox (pp Pr n) k__law_mix.fr (defBody s__law_mix) k__law_mix.body := by
  have hu := Room_u hr
  have hv := Room_v hr
  have nd := sc__law_mix.nd
  exact (vss_cons (vs_set 3 nd (VE.vo ve_int)) (vss_cons (vs_if (vt_c (c_gt) (ve_len g.b_len (ve_var 0)) ve_int) (vss_cons (vs_set 3 nd (VE.vo (ve_idx (ve_var 0) (ve_mod (ve_intc g.b_int (ve_var 1)) (ve_len g.b_len (ve_var 0)))))) vss_nil) vss_nil) (vss_cons (vs_if (vt_c (c_lt hv) (ve_var 1) (ve_len g.b_len (ve_var 0))) (vss_cons (vs_ret (VE.vo (ve_mod (ve_intc g.b_int (ve_var 3)) (ve_var 2)))) vss_nil) vss_nil) (vss_cons (vs_ret (VE.vo (ve_mod (ve_intc g.b_int (ve_fdiv (ve_intc g.b_int (VO.ve (vo_add (ve_mul (ve_var 3) ve_int) (ve_mul (ve_var 1) ve_int)))) ve_int)) (ve_var 2)))) vss_nil))))
theorem sc__law_order : FnScope N__law_order ["draws", "k", "many"] (defScope s__law_order) := ⟨rfl, rfl, rfl, by decide +kernel, rfl, by decide +kernel, by decide +kernel⟩
theorem t__law_order (g : Glob mg) (al : All P w K mg base n) (cdv : Value) (A : Around) (outer : List PySem.Env) (s : Shared) (H : Hp) (hr : Room n (A.deeper (envOfC "_law_order" (defScope s__law_order) s.heap.objs.size f cdv))) (gd : A.guards = some []) :
    VSs (bodyCx P w K mg base N__law_order "_law_order" (defScope s__law_order) f cdv A outer s H).nox (pp Pr n) k__law_order_v3.fr (defBody s__law_order) k__law_order_v3.body := by
  have hu := Room_u hr
  have hv := Room_v hr
  have nd := sc__law_order.nd
  exact (vss_cons (vs_set 3 nd (VE.vo (VO.ve (vo_lst vas_nil)))) (vss_cons (vs_for rfl PassesOwn.never (vi_range1 (hm := g.b_range) (ha := (va_cons (ve_var 2) va_nil))) (vg_name 4 nd) (vss_cons (vs_set 5 nd (VE.vo (VO.ve (vo_call al.d__law_mix hr gd rfl (va_cons (ve_var 0) (va_cons (VO.ve (vo_add (ve_var 1) (ve_var 4))) (va_cons (VO.ve (vo_add (ve_len g.b_len (ve_var 3)) ve_int)) va_nil))))))) (vss_cons (vs_set 3 nd (VE.vo (VO.ve (vo_add (VO.ve (vo_add (VO.ve (ve_sliceH (ve_var 3) (ve_var 5))) (VO.ve (vo_lst (vas_cons (ve_var 4) vas_nil))))) (VO.ve (ve_sliceL (ve_var 3) (ve_var 5))))))) vss_nil))) (vss_cons (vs_retv 3) vss_nil)))
theorem sc__law_drawing : FnScope N__law_drawing ["draws", "k", "many"] (defScope s__law_drawing) := ⟨rfl, rfl, rfl, by decide +kernel, rfl, by decide +kernel, by decide +kernel⟩
theorem t__law_drawing (g : Glob mg) (al : All P w K mg base n) (cdv : Value) (A : Around) (outer : List PySem.Env) (s : Shared) (H : Hp) (hr : Room n (A.deeper (envOfC "_law_drawing" (defScope s__law_drawing) s.heap.objs.size f cdv))) (gd : A.guards = some []) :
    VSs (bodyCx P w K mg base N__law_drawing "_law_drawing" (defScope s__law_drawing) f cdv A outer s H).nox (pp Pr n) k__law_drawing_v2.fr (defBody s__law_drawing) k__law_drawing_v2.body := by
  have hu := Room_u hr
  have hv := Room_v hr
  have nd := sc__law_drawing.nd
  exact (vss_cons (vs_set 3 nd (VE.vo (VO.ve (vo_call al.d__law_order hr gd rfl (va_cons (ve_var 0) (va_cons (ve_var 1) (va_cons (ve_var 2) va_nil))))))) (vss_cons (vs_set 4 nd (VE.vo (VO.ve (vo_lst (vas_cons (VO.ve (vo_add ve_int (VO.ve (vo_call al.d__law_mix hr gd rfl (va_cons (ve_var 0) (va_cons (VO.ve (vo_add (ve_var 1) ve_int)) (va_cons ve_int va_nil))))))) (vas_cons (VO.ve (vo_call al.d__law_mix hr gd rfl (va_cons (ve_var 0) (va_cons (VO.ve (vo_add (ve_var 1) ve_int)) (va_cons ve_int va_nil))))) vas_nil)))))) (vss_cons (vs_set 5 nd (vo_lstN (vao_cons (vo_lst vas_nil) (vao_cons (vo_lst vas_nil) vao_nil)))) (vss_cons (vs_for rfl PassesOwn.never (vi_range1 (hm := g.b_range) (ha := (va_cons (ve_var 2) va_nil))) (vg_name 6 nd) (vss_cons (vs_for rfl PassesOwn.never (vi_range2 (hm := g.b_range) (ha := (va_cons (VO.ve (vo_add (ve_var 6) ve_int)) (va_cons (ve_var 2) va_nil)))) (vg_name 7 nd) (vss_cons (vs_for rfl PassesOwn.never (vi_range1 (hm := g.b_range) (ha := (va_cons ve_int va_nil))) (vg_name 8 nd) (vss_cons (vs_if (vt_c (c_lt hv) (VO.ve (vo_call al.d__law_mix hr gd rfl (va_cons (ve_var 0) (va_cons (VO.ve (vo_add (VO.ve (vo_add (VO.ve (vo_add (ve_var 1) ve_int)) (ve_mul ve_int (VO.ve (vo_add (ve_mul ve_int (ve_var 6)) (ve_var 7)))))) (ve_var 8))) (va_cons ve_int va_nil))))) (ve_idx (ve_var 4) (ve_var 8))) (vss_cons (vs_app2 5 (ve_idx (VO.ve (vo_lst (vas_cons (ve_tup (vas_cons (ve_idx (ve_var 3) (ve_var 6)) (vas_cons (ve_idx (ve_var 3) (ve_var 7)) vas_nil))) (vas_cons (ve_tup (vas_cons (ve_min g.b_min (ve_idx (ve_var 3) (ve_var 6)) (ve_idx (ve_var 3) (ve_var 7))) (vas_cons (ve_max g.b_max (ve_idx (ve_var 3) (ve_var 6)) (ve_idx (ve_var 3) (ve_var 7))) vas_nil))) vas_nil)))) (ve_var 8)) (ve_var 8)) vss_nil) vss_nil) vss_nil)) vss_nil)) vss_nil)) (vss_cons (vs_ret (VE.vo (ve_tup (vas_cons (ve_var 2) (vas_cons (VO.ve (vo_sorted hu g.b_sorted (ve_idx (ve_var 5) ve_int))) (vas_cons (VO.ve (vo_sorted hu g.b_sorted (ve_idx (ve_var 5) ve_int))) vas_nil)))))) vss_nil)))))
theorem sc__law_question : FnScope N__law_question ["draws", "k", "many"] (defScope s__law_question) := ⟨rfl, rfl, rfl, by decide +kernel, rfl, by decide +kernel, by decide +kernel⟩
theorem t__law_question (g : Glob mg) (al : All P w K mg base n) (cdv : Value) (A : Around) (outer : List PySem.Env) (s : Shared) (H : Hp) (hr : Room n (A.deeper (envOfC "_law_question" (defScope s__law_question) s.heap.objs.size f cdv))) (gd : A.guards = some []) :
    VSs (bodyCx P w K mg base N__law_question "_law_question" (defScope s__law_question) f cdv A outer s H).nox (pp Pr n) k__law_question.fr (defBody s__law_question) k__law_question.body := by
  have hu := Room_u hr
  have hv := Room_v hr
  have nd := sc__law_question.nd
  exact (vss_cons (vs_set 3 nd (VE.vo (VO.ve (vo_comp rfl nd (own := [("v", 5)]) (vi_range1 (hm := g.b_range) (ha := (va_cons (ve_var 2) va_nil))) (blkOk_by (by kernel_rfl)) rfl (by decide) (fun _ _ _ _ _ => (vg_name 5 nd)) (fun _ _ _ _ _ => vts_nil) (fun _ _ _ _ _ => (VE.vo (VO.ve (vo_call al.d__law_mix hr gd rfl (va_cons (ve_var 0) (va_cons (VO.ve (vo_add (VO.ve (vo_add (ve_var 1) ve_int)) (ve_var 5))) (va_cons (VO.ve (vo_add ve_int (VO.ve (vo_call al.d__law_mix hr gd rfl (va_cons (ve_var 0) (va_cons (ve_var 1) (va_cons ve_int va_nil))))))) va_nil))))))))))) (vss_cons (vs_set 4 nd (VE.vo (VO.ve (vo_comp rfl nd (own := [("v", 5)]) (vi_range1 (hm := g.b_range) (ha := (va_cons (ve_var 2) va_nil))) (blkOk_by (by kernel_rfl)) rfl (by decide) (fun _ _ _ _ _ => (vg_name 5 nd)) (fun _ _ _ _ _ => (vts_one (vt_c (c_eq hv) (ve_idx (ve_var 3) (ve_var 5)) ve_int))) (fun _ _ _ _ _ => (VE.vo (ve_var 5))))))) (vss_cons (vs_if (vt_c (c_eq hv) (ve_var 4) (VO.ve (vo_lst vas_nil))) (vss_cons (vs_set 4 nd (VE.vo (VO.ve (vo_lst (vas_cons (VO.ve (vo_call al.d__law_mix hr gd rfl (va_cons (ve_var 0) (va_cons (VO.ve (vo_add (ve_var 1) ve_int)) (va_cons (ve_var 2) va_nil))))) vas_nil))))) vss_nil) vss_nil) (vss_cons (vs_ret (VE.vo (ve_tup (vas_cons (VO.ve (vo_comp rfl nd (own := [("v", 5)]) (vi_range1 (hm := g.b_range) (ha := (va_cons (ve_var 2) va_nil))) (blkOk_by (by kernel_rfl)) rfl (by decide) (fun _ _ _ _ _ => (vg_name 5 nd)) (fun _ _ _ _ _ => (vts_one (VW.vt (vw_and (vt_c (c_eq hv) (ve_idx (ve_var 3) (ve_var 5)) ve_int) (vw_and1 (vt_c (c_notin hv) (ve_var 5) (ve_var 4))))))) (fun _ _ _ _ _ => (VE.vo (ve_var 5))))) (vas_cons (ve_var 4) vas_nil))))) vss_nil))))
theorem sc__law_said : FnScope N__law_said ["drawing", "deed", "asked"] (defScope s__law_said) := ⟨rfl, rfl, rfl, by decide +kernel, rfl, by decide +kernel, by decide +kernel⟩
theorem t__law_said (g : Glob mg) (al : All P w K mg base n) (cdv : Value) (A : Around) (outer : List PySem.Env) (s : Shared) (H : Hp) (hr : Room n (A.deeper (envOfC "_law_said" (defScope s__law_said) s.heap.objs.size f cdv))) (gd : A.guards = some []) :
    VSs (bodyCx P w K mg base N__law_said "_law_said" (defScope s__law_said) f cdv A outer s H).nox (pp Pr n) k__law_said.fr (defBody s__law_said) k__law_said.body := by
  have hu := Room_u hr
  have hv := Room_v hr
  have nd := sc__law_said.nd
  exact (vss_cons (vs_set 3 nd (VE.vo (VO.ve (vo_call al.d_is_told hr gd rfl (va_cons (ve_var 0) (va_cons (ve_var 1) (va_cons (ve_var 2) va_nil))))))) (vss_cons (vs_set 4 nd (VE.vo (VO.ve (vo_call al.d_derivation hr gd rfl (va_cons (ve_var 0) (va_cons (ve_var 1) (va_cons (ve_var 2) va_nil))))))) (vss_cons (vs_set 5 nd (VE.vo (VO.ve (vo_call al.d_hedge hr gd rfl (va_cons (ve_var 0) (va_cons (ve_var 1) (va_cons (ve_var 2) va_nil))))))) (vss_cons (vs_if (VW.vt (vw_and (vt_isB (ve_var 3)) (vw_and (vt_notN (ve_var 4)) (vw_and1 (vt_isN (ve_var 5)))))) (vss_cons (vs_ret (VE.vo (ve_idx (VO.ve (vo_lst (vas_cons ve_non (vas_cons ve_bl vas_nil)))) (ve_intc g.b_int (ve_isB (VO.ve (vo_call al.d_check_derivation hr gd rfl (va_cons (ve_var 0) (va_cons (ve_var 1) (va_cons (ve_var 2) (va_cons (ve_idx (ve_var 4) ve_int) (va_cons (ve_idx (ve_var 4) ve_int) va_nil)))))))))))) vss_nil) vss_nil) (vss_cons (vs_if (VW.vt (vw_and (vt_isB (ve_var 3)) (vw_and (vt_isN (ve_var 4)) (vw_and1 (vt_notN (ve_var 5)))))) (vss_cons (vs_ret (VE.vo (ve_idx (VO.ve (vo_lst (vas_cons ve_non (vas_cons ve_bl vas_nil)))) (ve_intc g.b_int (ve_isB (VO.ve (vo_call al.d_check_hedge hr gd rfl (va_cons (ve_var 0) (va_cons (ve_var 1) (va_cons (ve_var 2) (va_cons (ve_idx (ve_var 5) ve_int) (va_cons (ve_idx (ve_var 5) ve_int) va_nil)))))))))))) vss_nil) vss_nil) (vss_cons (vs_ret (VE.vo ve_non)) vss_nil))))))
theorem sc__law_fewer_and_more : FnScope N__law_fewer_and_more ["draws", "k", "drawing", "deed", "asked"] (defScope s__law_fewer_and_more) := ⟨rfl, rfl, rfl, by decide +kernel, rfl, by decide +kernel, by decide +kernel⟩
theorem t__law_fewer_and_more (g : Glob mg) (al : All P w K mg base n) (cdv : Value) (A : Around) (outer : List PySem.Env) (s : Shared) (H : Hp) (hr : Room n (A.deeper (envOfC "_law_fewer_and_more" (defScope s__law_fewer_and_more) s.heap.objs.size f cdv))) (gd : A.guards = some []) :
    VSs (bodyCx P w K mg base N__law_fewer_and_more "_law_fewer_and_more" (defScope s__law_fewer_and_more) f cdv A outer s H).nox (pp Pr n) k__law_fewer_and_more.fr (defBody s__law_fewer_and_more) k__law_fewer_and_more.body := by
  have hu := Room_u hr
  have hv := Room_v hr
  have nd := sc__law_fewer_and_more.nd
  exact (vss_cons (vs_set 5 nd (VE.vo (VO.ve (vo_call al.d__law_said hr gd rfl (va_cons (ve_var 2) (va_cons (ve_var 3) (va_cons (ve_var 4) va_nil))))))) (vss_cons (vs_setLc 6 rfl nd (own := [("v", 11)]) (vi_range1 (hm := g.b_range) (ha := (va_cons (ve_idx (ve_var 2) ve_int) va_nil))) (blkOk_by (by kernel_rfl)) rfl (by decide) (fun _ _ _ _ _ => (vg_name 11 nd)) (fun _ _ _ _ _ => (vts_one (vt_c (c_notin hv) (ve_var 11) (VO.ve (vo_add (ve_var 3) (ve_var 4)))))) (fun _ _ _ _ _ => (VE.vo (ve_var 11))) (sw_true rfl rfl rfl (by decide +kernel))) (vss_frz _ (vss_cons (vs_setLc 7 rfl nd (own := [("v", 11)]) (vi_seq (ve_var 4)) (blkOk_by (by kernel_rfl)) rfl (by decide) (fun _ _ _ _ _ => (vg_name 11 nd)) (fun _ _ _ _ _ => (vts_one (vt_c (c_eq hv) (VO.ve (vo_call al.d__law_mix hr gd rfl (va_cons (ve_var 0) (va_cons (VO.ve (vo_add (ve_var 1) (ve_var 11))) (va_cons ve_int va_nil))))) ve_int))) (fun _ _ _ _ _ => (VE.vo (ve_var 11))) (sw_true rfl rfl rfl (by decide +kernel))) (vss_frz _ (vss_cons (vs_set 8 nd (VE.vo (VO.ve (vo_sorted hu g.b_sorted (VO.ve (vo_add (ve_var 4) (VO.ve (vo_comp rfl nd (own := [("v", 11)]) (vi_seq (ve_var 6)) (blkOk_by (by kernel_rfl)) rfl (by decide) (fun _ _ _ _ _ => (vg_name 11 nd)) (fun _ _ _ _ _ => (vts_one (vt_c (c_eq hv) (VO.ve (vo_call al.d__law_mix hr gd rfl (va_cons (ve_var 0) (va_cons (VO.ve (vo_add (VO.ve (vo_add (ve_var 1) ve_int)) (ve_var 11))) (va_cons ve_int va_nil))))) ve_int))) (fun _ _ _ _ _ => (VE.vo (ve_var 11))))))))))) (vss_cons (vs_if (vt_isN (ve_var 5)) (vss_cons (vs_ret (VE.vo ve_bl)) vss_nil) vss_nil) (vss_cons (vs_if (vt_c (c_ne hv) (ve_var 7) (VO.ve (vo_lst vas_nil))) (vss_cons (vs_set 10 nd (VE.vo (VO.ve (vo_call al.d__law_said hr gd rfl (va_cons (ve_var 2) (va_cons (ve_var 3) (va_cons (ve_var 7) va_nil))))))) (vss_cons (vs_if (VW.vt (vw_or (vt_isN (ve_var 10)) (vw_or1 (VW.vt (vw_and (VE.vt (ve_var 5)) (vw_and1 (vt_not (VE.vt (ve_var 10))))))))) (vss_cons (vs_ret (VE.vo ve_bl)) vss_nil) vss_nil) vss_nil)) vss_nil) (vss_cons (vs_set 9 nd (VE.vo (VO.ve (vo_call al.d__law_said hr gd rfl (va_cons (ve_var 2) (va_cons (ve_var 3) (va_cons (ve_var 8) va_nil))))))) (vss_cons (vs_if (VW.vt (vw_or (vt_isN (ve_var 9)) (vw_or1 (VW.vt (vw_and (VE.vt (ve_var 9)) (vw_and1 (vt_not (VE.vt (ve_var 5))))))))) (vss_cons (vs_ret (VE.vo ve_bl)) vss_nil) vss_nil) (vss_cons (vs_if (vt_not (VE.vt (ve_var 5))) (vss_cons (vs_asg (VO.ve (vo_call al.d_hedge hr gd rfl (va_cons (ve_var 2) (va_cons (ve_var 3) (va_cons (ve_var 4) va_nil))))) (vg_tup rfl (vgs_cons (vg_name 12 nd) (vgs_cons (vg_name 13 nd) vgs_nil)))) (vss_cons (vs_ret (VE.vo (ve_isB (VO.ve (vo_call al.d_check_hedge hr gd rfl (va_cons (ve_var 2) (va_cons (ve_var 3) (va_cons (ve_var 8) (va_cons (ve_var 12) (va_cons (ve_var 13) va_nil)))))))))) vss_nil)) vss_nil) (vss_cons (vs_ret (VE.vo ve_bl)) vss_nil))))))))))))
theorem sc__law_height : FnScope N__law_height ["drawing"] (defScope s__law_height) := ⟨rfl, rfl, rfl, by decide +kernel, rfl, by decide +kernel, by decide +kernel⟩
theorem t__law_height (g : Glob mg) (al : All P w K mg base n) (cdv : Value) (A : Around) (outer : List PySem.Env) (s : Shared) (H : Hp) (hr : Room n (A.deeper (envOfC "_law_height" (defScope s__law_height) s.heap.objs.size f cdv))) (gd : A.guards = some []) :
    VSs (bodyCx P w K mg base N__law_height "_law_height" (defScope s__law_height) f cdv A outer s H).nox (pp Pr n) k__law_height_v2.fr (defBody s__law_height) k__law_height_v2.body := by
  have hu := Room_u hr
  have hv := Room_v hr
  have nd := sc__law_height.nd
  exact (vss_cons (vs_setLc 1 rfl nd (own := [("v", 3)]) (vi_range1 (hm := g.b_range) (ha := (va_cons (ve_idx (ve_var 0) ve_int) va_nil))) (blkOk_by (by kernel_rfl)) rfl (by decide) (fun _ _ _ _ _ => (vg_name 3 nd)) (fun _ _ _ _ _ => vts_nil) (fun _ _ _ _ _ => (VE.vo ve_int)) (sw_true rfl rfl rfl (by decide +kernel))) (vss_cons (vs_for rfl PassesOwn.never (vi_range1 (hm := g.b_range) (ha := (va_cons (ve_idx (ve_var 0) ve_int) va_nil))) (vg_name 2 nd) (vss_cons (vs_for rfl PassesOwn.never (vi_seq (ve_idx (ve_var 0) ve_int)) (vg_tup rfl (vgs_cons (vg_name 4 nd) (vgs_cons (vg_name 5 nd) vgs_nil))) (vss_cons (vs_sto 1 (VE.vo (ve_max g.b_max (ve_idx (ve_var 1) (ve_var 5)) (VO.ve (vo_add (ve_idx (ve_var 1) (ve_var 4)) ve_int)))) (ve_var 5)) vss_nil)) vss_nil)) (vss_cons (vs_retv 1) vss_nil)))
theorem sc__law_other_drawings : FnScope N__law_other_drawings ["draws", "k", "drawing"] (defScope s__law_other_drawings) := ⟨rfl, rfl, rfl, by decide +kernel, rfl, by decide +kernel, by decide +kernel⟩
theorem t__law_other_drawings (g : Glob mg) (al : All P w K mg base n) (cdv : Value) (A : Around) (outer : List PySem.Env) (s : Shared) (H : Hp) (hr : Room n (A.deeper (envOfC "_law_other_drawings" (defScope s__law_other_drawings) s.heap.objs.size f cdv))) (gd : A.guards = some []) :
    VSs (bodyCx P w K mg base N__law_other_drawings "_law_other_drawings" (defScope s__law_other_drawings) f cdv A outer s H).nox (pp Pr n) k__law_other_drawings.fr (defBody s__law_other_drawings) k__law_other_drawings.body := by
  have hu := Room_u hr
  have hv := Room_v hr
  have nd := sc__law_other_drawings.nd
  exact (vss_cons (vs_asg (ve_var 2) (vg_tup rfl (vgs_cons (vg_name 7 nd) (vgs_cons (vg_name 8 nd) (vgs_cons (vg_name 9 nd) vgs_nil))))) (vss_cons (vs_set 3 nd (vo_lst vas_nil)) (vss_cons (vs_if (vt_c (c_ne hv) (ve_var 8) (VO.ve (vo_lst vas_nil))) (vss_cons (vs_set 10 nd (VE.vo (VO.ve (vo_call al.d__law_mix hr gd rfl (va_cons (ve_var 0) (va_cons (ve_var 1) (va_cons (ve_len g.b_len (ve_var 8)) va_nil))))))) (vss_cons (vs_app 3 (VE.vo (ve_tup (vas_cons (ve_tup (vas_cons (ve_var 7) (vas_cons (VO.ve (vo_add (VO.ve (ve_sliceH (ve_var 8) (ve_var 10))) (VO.ve (ve_sliceL (ve_var 8) (VO.ve (vo_add (ve_var 10) ve_int)))))) (vas_cons (ve_var 9) vas_nil)))) (vas_cons (ve_var 2) vas_nil))))) vss_nil)) vss_nil) (vss_cons (vs_if (vt_c (c_ne hv) (ve_var 9) (VO.ve (vo_lst vas_nil))) (vss_cons (vs_set 10 nd (VE.vo (VO.ve (vo_call al.d__law_mix hr gd rfl (va_cons (ve_var 0) (va_cons (VO.ve (vo_add (ve_var 1) ve_int)) (va_cons (ve_len g.b_len (ve_var 9)) va_nil))))))) (vss_cons (vs_app 3 (VE.vo (ve_tup (vas_cons (ve_tup (vas_cons (ve_var 7) (vas_cons (ve_var 8) (vas_cons (VO.ve (vo_add (VO.ve (ve_sliceH (ve_var 9) (ve_var 10))) (VO.ve (ve_sliceL (ve_var 9) (VO.ve (vo_add (ve_var 10) ve_int)))))) vas_nil)))) (vas_cons (ve_var 2) vas_nil))))) vss_nil)) vss_nil) (vss_cons (vs_set 4 nd (VE.vo (VO.ve (vo_call al.d__law_mix hr gd rfl (va_cons (ve_var 0) (va_cons (VO.ve (vo_add (ve_var 1) ve_int)) (va_cons (ve_var 7) va_nil))))))) (vss_cons (vs_set 5 nd (VE.vo (VO.ve (vo_call al.d__law_mix hr gd rfl (va_cons (ve_var 0) (va_cons (VO.ve (vo_add (ve_var 1) ve_int)) (va_cons (ve_var 7) va_nil))))))) (vss_cons (vs_set 6 nd (VE.vo (VO.ve (vo_call al.d__law_height hr gd rfl (va_cons (ve_var 2) va_nil))))) (vss_cons (vs_if (VW.vt (vw_and (vt_c (c_lt hv) (ve_var 4) (ve_var 5)) (vw_and1 (vt_c (c_notin hv) (ve_tup (vas_cons (ve_var 4) (vas_cons (ve_var 5) vas_nil))) (ve_var 9))))) (vss_cons (vs_app 3 (VE.vo (ve_tup (vas_cons (ve_var 2) (vas_cons (ve_tup (vas_cons (ve_var 7) (vas_cons (ve_var 8) (vas_cons (VO.ve (vo_sorted hu g.b_sorted (VO.ve (vo_add (ve_var 9) (VO.ve (vo_lst (vas_cons (ve_tup (vas_cons (ve_var 4) (vas_cons (ve_var 5) vas_nil))) vas_nil))))))) vas_nil)))) vas_nil))))) vss_nil) vss_nil) (vss_cons (vs_if (VW.vt (vw_and (vt_c (c_lt hv) (ve_idx (ve_var 6) (ve_var 4)) (ve_idx (ve_var 6) (ve_var 5))) (vw_and1 (vt_c (c_notin hv) (ve_tup (vas_cons (ve_var 4) (vas_cons (ve_var 5) vas_nil))) (ve_var 8))))) (vss_cons (vs_app 3 (VE.vo (ve_tup (vas_cons (ve_var 2) (vas_cons (ve_tup (vas_cons (ve_var 7) (vas_cons (VO.ve (vo_sorted hu g.b_sorted (VO.ve (vo_add (ve_var 8) (VO.ve (vo_lst (vas_cons (ve_tup (vas_cons (ve_var 4) (vas_cons (ve_var 5) vas_nil))) vas_nil))))))) (vas_cons (ve_var 9) vas_nil)))) vas_nil))))) vss_nil) vss_nil) (vss_cons (vs_retv 3) vss_nil))))))))))
theorem sc_law : FnScope N_law ["script"] (defScope s_law) := ⟨rfl, rfl, rfl, by decide +kernel, rfl, by decide +kernel, by decide +kernel⟩
theorem t_law (g : Glob mg) (al : All P w K mg base n) (cdv : Value) (A : Around) (outer : List PySem.Env) (s : Shared) (H : Hp) (hr : Room n (A.deeper (envOfC "law" (defScope s_law) s.heap.objs.size f cdv))) (gd : A.guards = some []) :
    VSs (bodyCx P w K mg base N_law "law" (defScope s_law) f cdv A outer s H).nox (pp Pr n) k_law_v57.fr (defBody s_law) k_law_v57.body := by
  have hu := Room_u hr
  have hv := Room_v hr
  have nd := sc_law.nd
  exact (vss_cons (vs_set 1 nd (VE.vo (VO.ve (vo_call al.d__law_draws hr gd rfl (va_cons (ve_var 0) va_nil))))) (vss_cons (vs_set 2 nd (VE.vo (VO.ve (vo_add ve_int (VO.ve (vo_call al.d__law_mix hr gd rfl (va_cons (ve_var 1) (va_cons ve_int (va_cons ve_int va_nil))))))))) (vss_cons (vs_set 3 nd (VE.vo (VO.ve (vo_call al.d__law_drawing hr gd rfl (va_cons (ve_var 1) (va_cons ve_int (va_cons (ve_var 2) va_nil))))))) (vss_cons (vs_for rfl PassesOwn.never (vi_range1 (hm := g.b_range) (ha := (va_cons ve_int va_nil))) (vg_name 4 nd) (vss_cons (vs_asg (VO.ve (vo_call al.d__law_question hr gd rfl (va_cons (ve_var 1) (va_cons (VO.ve (vo_add ve_int (ve_mul ve_int (ve_var 4)))) (va_cons (ve_var 2) va_nil))))) (vg_tup rfl (vgs_cons (vg_name 6 nd) (vgs_cons (vg_name 7 nd) vgs_nil)))) (vss_cons (vs_set 5 nd (VE.vo (ve_repr gd hu g.b_repr (ve_tup (vas_cons (ve_var 3) (vas_cons (ve_var 6) (vas_cons (ve_var 7) vas_nil))))))) (vss_cons (vs_if (vt_not (VE.vt (VO.ve (vo_call al.d__law_fewer_and_more hr gd rfl (va_cons (ve_var 1) (va_cons (VO.ve (vo_add ve_int (ve_mul ve_int (ve_var 4)))) (va_cons (ve_var 3) (va_cons (ve_var 6) (va_cons (ve_var 7) va_nil))))))))) (vss_cons (vs_ret (VE.vo ve_bl)) vss_nil) vss_nil) (vss_cons (vs_for rfl PassesOwn.never (vi_seq (VO.ve (vo_call al.d__law_other_drawings hr gd rfl (va_cons (ve_var 1) (va_cons (VO.ve (vo_add ve_int (ve_mul ve_int (ve_var 4)))) (va_cons (ve_var 3) va_nil)))))) (vg_tup rfl (vgs_cons (vg_name 8 nd) (vgs_cons (vg_name 9 nd) vgs_nil))) (vss_cons (vs_set 10 nd (VE.vo (VO.ve (vo_call al.d__law_said hr gd rfl (va_cons (ve_var 8) (va_cons (ve_var 6) (va_cons (ve_var 7) va_nil))))))) (vss_cons (vs_set 11 nd (VE.vo (VO.ve (vo_call al.d__law_said hr gd rfl (va_cons (ve_var 9) (va_cons (ve_var 6) (va_cons (ve_var 7) va_nil))))))) (vss_cons (vs_if (VW.vt (vw_or (vt_isN (ve_var 10)) (vw_or (vt_isN (ve_var 11)) (vw_or1 (VW.vt (vw_and (VE.vt (ve_var 11)) (vw_and1 (vt_not (VE.vt (ve_var 10)))))))))) (vss_cons (vs_ret (VE.vo ve_bl)) vss_nil) vss_nil) vss_nil)))) (vss_cons (vs_if (vt_c (c_ne hv) (ve_repr gd hu g.b_repr (ve_tup (vas_cons (ve_var 3) (vas_cons (ve_var 6) (vas_cons (ve_var 7) vas_nil))))) (ve_var 5)) (vss_cons (vs_ret (VE.vo ve_bl)) vss_nil) vss_nil) vss_nil)))))) (vss_cons (vs_ret (VE.vo ve_bl)) vss_nil)))))
/-- the defs, as they stand behind the top -/
structure Funs (K : PySem.W.Frag) (mg : Str → Option Value) : Prop where
  f_first_bad : ∃ fd, FunD K "first_bad" "first_bad" (defArgs s_first_bad) (defBody s_first_bad) (defScope s_first_bad) [] [] (He.ga K "first_bad") fd
  m_first_bad : mg "first_bad" = some (.ref (He.ga K "first_bad"))
  f_rest_of : ∃ fd, FunD K "rest_of" "rest_of" (defArgs s_rest_of) (defBody s_rest_of) (defScope s_rest_of) [] [] (He.ga K "rest_of") fd
  m_rest_of : mg "rest_of" = some (.ref (He.ga K "rest_of"))
  f_on_rounds : ∃ fd, FunD K "on_rounds" "on_rounds" (defArgs s_on_rounds) (defBody s_on_rounds) (defScope s_on_rounds) [] [] (He.ga K "on_rounds") fd
  m_on_rounds : mg "on_rounds" = some (.ref (He.ga K "on_rounds"))
  f_check_drawing : ∃ fd, FunD K "check_drawing" "check_drawing" (defArgs s_check_drawing) (defBody s_check_drawing) (defScope s_check_drawing) [] [] (He.ga K "check_drawing") fd
  m_check_drawing : mg "check_drawing" = some (.ref (He.ga K "check_drawing"))
  f_check_set : ∃ fd, FunD K "check_set" "check_set" (defArgs s_check_set) (defBody s_check_set) (defScope s_check_set) [] [] (He.ga K "check_set") fd
  m_check_set : mg "check_set" = some (.ref (He.ga K "check_set"))
  f_reached : ∃ fd, FunD K "reached" "reached" (defArgs s_reached) (defBody s_reached) (defScope s_reached) [] [] (He.ga K "reached") fd
  m_reached : mg "reached" = some (.ref (He.ga K "reached"))
  f_ancestors_of : ∃ fd, FunD K "ancestors_of" "ancestors_of" (defArgs s_ancestors_of) (defBody s_ancestors_of) (defScope s_ancestors_of) [] [] (He.ga K "ancestors_of") fd
  m_ancestors_of : mg "ancestors_of" = some (.ref (He.ga K "ancestors_of"))
  f_districts_of : ∃ fd, FunD K "districts_of" "districts_of" (defArgs s_districts_of) (defBody s_districts_of) (defScope s_districts_of) [] [] (He.ga K "districts_of") fd
  m_districts_of : mg "districts_of" = some (.ref (He.ga K "districts_of"))
  f_part_of : ∃ fd, FunD K "part_of" "part_of" (defArgs s_part_of) (defBody s_part_of) (defScope s_part_of) [] [] (He.ga K "part_of") fd
  m_part_of : mg "part_of" = some (.ref (He.ga K "part_of"))
  f_is_inside : ∃ fd, FunD K "is_inside" "is_inside" (defArgs s_is_inside) (defBody s_is_inside) (defScope s_is_inside) [] [] (He.ga K "is_inside") fd
  m_is_inside : mg "is_inside" = some (.ref (He.ga K "is_inside"))
  f_is_step : ∃ fd, FunD K "is_step" "is_step" (defArgs s_is_step) (defBody s_is_step) (defScope s_is_step) [] [] (He.ga K "is_step") fd
  m_is_step : mg "is_step" = some (.ref (He.ga K "is_step"))
  f_first_bad_step : ∃ fd, FunD K "first_bad_step" "first_bad_step" (defArgs s_first_bad_step) (defBody s_first_bad_step) (defScope s_first_bad_step) [] [] (He.ga K "first_bad_step") fd
  m_first_bad_step : mg "first_bad_step" = some (.ref (He.ga K "first_bad_step"))
  f_check_question : ∃ fd, FunD K "check_question" "check_question" (defArgs s_check_question) (defBody s_check_question) (defScope s_check_question) [] [] (He.ga K "check_question") fd
  m_check_question : mg "check_question" = some (.ref (He.ga K "check_question"))
  f_inner_of : ∃ fd, FunD K "inner_of" "inner_of" (defArgs s_inner_of) (defBody s_inner_of) (defScope s_inner_of) [] [] (He.ga K "inner_of") fd
  m_inner_of : mg "inner_of" = some (.ref (He.ga K "inner_of"))
  f_home_of : ∃ fd, FunD K "home_of" "home_of" (defArgs s_home_of) (defBody s_home_of) (defScope s_home_of) [] [] (He.ga K "home_of") fd
  m_home_of : mg "home_of" = some (.ref (He.ga K "home_of"))
  f_led_to : ∃ fd, FunD K "led_to" "led_to" (defArgs s_led_to) (defBody s_led_to) (defScope s_led_to) [] [] (He.ga K "led_to") fd
  m_led_to : mg "led_to" = some (.ref (He.ga K "led_to"))
  f_joined : ∃ fd, FunD K "joined" "joined" (defArgs s_joined) (defBody s_joined) (defScope s_joined) [] [] (He.ga K "joined") fd
  m_joined : mg "joined" = some (.ref (He.ga K "joined"))
  f_derivation_of : ∃ fd, FunD K "derivation_of" "derivation_of" (defArgs s_derivation_of) (defBody s_derivation_of) (defScope s_derivation_of) [] [] (He.ga K "derivation_of") fd
  m_derivation_of : mg "derivation_of" = some (.ref (He.ga K "derivation_of"))
  f_derivation : ∃ fd, FunD K "derivation" "derivation" (defArgs s_derivation) (defBody s_derivation) (defScope s_derivation) [] [] (He.ga K "derivation") fd
  m_derivation : mg "derivation" = some (.ref (He.ga K "derivation"))
  f_is_told : ∃ fd, FunD K "is_told" "is_told" (defArgs s_is_told) (defBody s_is_told) (defScope s_is_told) [] [] (He.ga K "is_told") fd
  m_is_told : mg "is_told" = some (.ref (He.ga K "is_told"))
  f_accepts : ∃ fd, FunD K "accepts" "accepts" (defArgs s_accepts) (defBody s_accepts) (defScope s_accepts) [] [] (He.ga K "accepts") fd
  m_accepts : mg "accepts" = some (.ref (He.ga K "accepts"))
  f_check_derivation : ∃ fd, FunD K "check_derivation" "check_derivation" (defArgs s_check_derivation) (defBody s_check_derivation) (defScope s_check_derivation) [] [] (He.ga K "check_derivation") fd
  m_check_derivation : mg "check_derivation" = some (.ref (He.ga K "check_derivation"))
  f_hedge_of : ∃ fd, FunD K "hedge_of" "hedge_of" (defArgs s_hedge_of) (defBody s_hedge_of) (defScope s_hedge_of) [] [] (He.ga K "hedge_of") fd
  m_hedge_of : mg "hedge_of" = some (.ref (He.ga K "hedge_of"))
  f_hedge : ∃ fd, FunD K "hedge" "hedge" (defArgs s_hedge) (defBody s_hedge) (defScope s_hedge) [] [] (He.ga K "hedge") fd
  m_hedge : mg "hedge" = some (.ref (He.ga K "hedge"))
  f_check_hedge : ∃ fd, FunD K "check_hedge" "check_hedge" (defArgs s_check_hedge) (defBody s_check_hedge) (defScope s_check_hedge) [] [] (He.ga K "check_hedge") fd
  m_check_hedge : mg "check_hedge" = some (.ref (He.ga K "check_hedge"))
  f__law_draws : ∃ fd, FunD K "_law_draws" "_law_draws" (defArgs s__law_draws) (defBody s__law_draws) (defScope s__law_draws) [] [] (He.ga K "_law_draws") fd
  m__law_draws : mg "_law_draws" = some (.ref (He.ga K "_law_draws"))
  f__law_mix : ∃ fd, FunD K "_law_mix" "_law_mix" (defArgs s__law_mix) (defBody s__law_mix) (defScope s__law_mix) [] [] (He.ga K "_law_mix") fd
  m__law_mix : mg "_law_mix" = some (.ref (He.ga K "_law_mix"))
  f__law_order : ∃ fd, FunD K "_law_order" "_law_order" (defArgs s__law_order) (defBody s__law_order) (defScope s__law_order) [] [] (He.ga K "_law_order") fd
  m__law_order : mg "_law_order" = some (.ref (He.ga K "_law_order"))
  f__law_drawing : ∃ fd, FunD K "_law_drawing" "_law_drawing" (defArgs s__law_drawing) (defBody s__law_drawing) (defScope s__law_drawing) [] [] (He.ga K "_law_drawing") fd
  m__law_drawing : mg "_law_drawing" = some (.ref (He.ga K "_law_drawing"))
  f__law_question : ∃ fd, FunD K "_law_question" "_law_question" (defArgs s__law_question) (defBody s__law_question) (defScope s__law_question) [] [] (He.ga K "_law_question") fd
  m__law_question : mg "_law_question" = some (.ref (He.ga K "_law_question"))
  f__law_said : ∃ fd, FunD K "_law_said" "_law_said" (defArgs s__law_said) (defBody s__law_said) (defScope s__law_said) [] [] (He.ga K "_law_said") fd
  m__law_said : mg "_law_said" = some (.ref (He.ga K "_law_said"))
  f__law_fewer_and_more : ∃ fd, FunD K "_law_fewer_and_more" "_law_fewer_and_more" (defArgs s__law_fewer_and_more) (defBody s__law_fewer_and_more) (defScope s__law_fewer_and_more) [] [] (He.ga K "_law_fewer_and_more") fd
  m__law_fewer_and_more : mg "_law_fewer_and_more" = some (.ref (He.ga K "_law_fewer_and_more"))
  f__law_height : ∃ fd, FunD K "_law_height" "_law_height" (defArgs s__law_height) (defBody s__law_height) (defScope s__law_height) [] [] (He.ga K "_law_height") fd
  m__law_height : mg "_law_height" = some (.ref (He.ga K "_law_height"))
  f__law_other_drawings : ∃ fd, FunD K "_law_other_drawings" "_law_other_drawings" (defArgs s__law_other_drawings) (defBody s__law_other_drawings) (defScope s__law_other_drawings) [] [] (He.ga K "_law_other_drawings") fd
  m__law_other_drawings : mg "_law_other_drawings" = some (.ref (He.ga K "_law_other_drawings"))
  f_law : ∃ fd, FunD K "law" "law" (defArgs s_law) (defBody s_law) (defScope s_law) [] [] (He.ga K "law") fd
  m_law : mg "law" = some (.ref (He.ga K "law"))
theorem z_first_bad (F : Funs K mg) (h : ∀ fd, FunD K "first_bad" "first_bad" (defArgs s_first_bad) (defBody s_first_bad) (defScope s_first_bad) [] [] (He.ga K "first_bad") fd → FnG P w K mg base n (He.ga K "first_bad") fd ["many", "pairs", "both"] (spF Pr n 0 0 K)) : Cal P w K mg base n "first_bad" ["many", "pairs", "both"] (spF Pr n 0 0 K) := by
  obtain ⟨fd, X⟩ := F.f_first_bad
  exact ⟨_, fd, F.m_first_bad, X.kp, X.bindsN fun _ _ _ _ _ _ us hl => match us, hl with | [_, _, _], _ => rfl, h fd X⟩
theorem z_rest_of (F : Funs K mg) (h : ∀ fd, FunD K "rest_of" "rest_of" (defArgs s_rest_of) (defBody s_rest_of) (defScope s_rest_of) [] [] (He.ga K "rest_of") fd → FnG P w K mg base n (He.ga K "rest_of") fd ["many", "arrows"] (spF Pr n 1 0 K)) : Cal P w K mg base n "rest_of" ["many", "arrows"] (spF Pr n 1 0 K) := by
  obtain ⟨fd, X⟩ := F.f_rest_of
  exact ⟨_, fd, F.m_rest_of, X.kp, X.bindsN fun _ _ _ _ _ _ us hl => match us, hl with | [_, _], _ => rfl, h fd X⟩
theorem z_on_rounds (F : Funs K mg) (h : ∀ fd, FunD K "on_rounds" "on_rounds" (defArgs s_on_rounds) (defBody s_on_rounds) (defScope s_on_rounds) [] [] (He.ga K "on_rounds") fd → FnG P w K mg base n (He.ga K "on_rounds") fd ["many", "arrows"] (spF Pr n 2 0 K)) : Cal P w K mg base n "on_rounds" ["many", "arrows"] (spF Pr n 2 0 K) := by
  obtain ⟨fd, X⟩ := F.f_on_rounds
  exact ⟨_, fd, F.m_on_rounds, X.kp, X.bindsN fun _ _ _ _ _ _ us hl => match us, hl with | [_, _], _ => rfl, h fd X⟩
theorem z_check_drawing (F : Funs K mg) (h : ∀ fd, FunD K "check_drawing" "check_drawing" (defArgs s_check_drawing) (defBody s_check_drawing) (defScope s_check_drawing) [] [] (He.ga K "check_drawing") fd → FnG P w K mg base n (He.ga K "check_drawing") fd ["drawing"] (spF Pr n 3 0 K)) : Cal P w K mg base n "check_drawing" ["drawing"] (spF Pr n 3 0 K) := by
  obtain ⟨fd, X⟩ := F.f_check_drawing
  exact ⟨_, fd, F.m_check_drawing, X.kp, X.bindsN fun _ _ _ _ _ _ us hl => match us, hl with | [_], _ => rfl, h fd X⟩
theorem z_check_set (F : Funs K mg) (h : ∀ fd, FunD K "check_set" "check_set" (defArgs s_check_set) (defBody s_check_set) (defScope s_check_set) [] [] (He.ga K "check_set") fd → FnG P w K mg base n (He.ga K "check_set") fd ["many", "told"] (spF Pr n 12 0 K)) : Cal P w K mg base n "check_set" ["many", "told"] (spF Pr n 12 0 K) := by
  obtain ⟨fd, X⟩ := F.f_check_set
  exact ⟨_, fd, F.m_check_set, X.kp, X.bindsN fun _ _ _ _ _ _ us hl => match us, hl with | [_, _], _ => rfl, h fd X⟩
theorem z_reached (F : Funs K mg) (h : ∀ fd, FunD K "reached" "reached" (defArgs s_reached) (defBody s_reached) (defScope s_reached) [] [] (He.ga K "reached") fd → FnG P w K mg base n (He.ga K "reached") fd ["arrows", "starts"] (spF Pr n 4 0 K)) : Cal P w K mg base n "reached" ["arrows", "starts"] (spF Pr n 4 0 K) := by
  obtain ⟨fd, X⟩ := F.f_reached
  exact ⟨_, fd, F.m_reached, X.kp, X.bindsN fun _ _ _ _ _ _ us hl => match us, hl with | [_, _], _ => rfl, h fd X⟩
theorem z_ancestors_of (F : Funs K mg) (h : ∀ fd, FunD K "ancestors_of" "ancestors_of" (defArgs s_ancestors_of) (defBody s_ancestors_of) (defScope s_ancestors_of) [] [] (He.ga K "ancestors_of") fd → FnG P w K mg base n (He.ga K "ancestors_of") fd ["drawing", "told"] (spF Pr n 28 0 K)) : Cal P w K mg base n "ancestors_of" ["drawing", "told"] (spF Pr n 28 0 K) := by
  obtain ⟨fd, X⟩ := F.f_ancestors_of
  exact ⟨_, fd, F.m_ancestors_of, X.kp, X.bindsN fun _ _ _ _ _ _ us hl => match us, hl with | [_, _], _ => rfl, h fd X⟩
theorem z_districts_of (F : Funs K mg) (h : ∀ fd, FunD K "districts_of" "districts_of" (defArgs s_districts_of) (defBody s_districts_of) (defScope s_districts_of) [] [] (He.ga K "districts_of") fd → FnG P w K mg base n (He.ga K "districts_of") fd ["drawing", "told"] (spF Pr n 32 0 K)) : Cal P w K mg base n "districts_of" ["drawing", "told"] (spF Pr n 32 0 K) := by
  obtain ⟨fd, X⟩ := F.f_districts_of
  exact ⟨_, fd, F.m_districts_of, X.kp, X.bindsN fun _ _ _ _ _ _ us hl => match us, hl with | [_, _], _ => rfl, h fd X⟩
theorem z_part_of (F : Funs K mg) (h : ∀ fd, FunD K "part_of" "part_of" (defArgs s_part_of) (defBody s_part_of) (defScope s_part_of) [] [] (He.ga K "part_of") fd → FnG P w K mg base n (He.ga K "part_of") fd ["drawing", "told"] (spF Pr n 16 0 K)) : Cal P w K mg base n "part_of" ["drawing", "told"] (spF Pr n 16 0 K) := by
  obtain ⟨fd, X⟩ := F.f_part_of
  exact ⟨_, fd, F.m_part_of, X.kp, X.bindsN fun _ _ _ _ _ _ us hl => match us, hl with | [_, _], _ => rfl, h fd X⟩
theorem z_is_inside (F : Funs K mg) (h : ∀ fd, FunD K "is_inside" "is_inside" (defArgs s_is_inside) (defBody s_is_inside) (defScope s_is_inside) [] [] (He.ga K "is_inside") fd → FnG P w K mg base n (He.ga K "is_inside") fd ["inner", "outer"] (spF Pr n 486 0 K)) : Cal P w K mg base n "is_inside" ["inner", "outer"] (spF Pr n 486 0 K) := by
  obtain ⟨fd, X⟩ := F.f_is_inside
  exact ⟨_, fd, F.m_is_inside, X.kp, X.bindsN fun _ _ _ _ _ _ us hl => match us, hl with | [_, _], _ => rfl, h fd X⟩
theorem z_is_step (F : Funs K mg) (h : ∀ fd, FunD K "is_step" "is_step" (defArgs s_is_step) (defBody s_is_step) (defScope s_is_step) [] [] (He.ga K "is_step") fd → FnG P w K mg base n (He.ga K "is_step") fd ["drawing", "steps", "k"] (spF Pr n 487 0 K)) : Cal P w K mg base n "is_step" ["drawing", "steps", "k"] (spF Pr n 487 0 K) := by
  obtain ⟨fd, X⟩ := F.f_is_step
  exact ⟨_, fd, F.m_is_step, X.kp, X.bindsN fun _ _ _ _ _ _ us hl => match us, hl with | [_, _, _], _ => rfl, h fd X⟩
theorem z_first_bad_step (F : Funs K mg) (h : ∀ fd, FunD K "first_bad_step" "first_bad_step" (defArgs s_first_bad_step) (defBody s_first_bad_step) (defScope s_first_bad_step) [] [] (He.ga K "first_bad_step") fd → FnG P w K mg base n (He.ga K "first_bad_step") fd ["drawing", "steps"] (spF Pr n 488 0 K)) : Cal P w K mg base n "first_bad_step" ["drawing", "steps"] (spF Pr n 488 0 K) := by
  obtain ⟨fd, X⟩ := F.f_first_bad_step
  exact ⟨_, fd, F.m_first_bad_step, X.kp, X.bindsN fun _ _ _ _ _ _ us hl => match us, hl with | [_, _], _ => rfl, h fd X⟩
theorem z_check_question (F : Funs K mg) (h : ∀ fd, FunD K "check_question" "check_question" (defArgs s_check_question) (defBody s_check_question) (defScope s_check_question) [] [] (He.ga K "check_question") fd → FnG P w K mg base n (He.ga K "check_question") fd ["drawing", "deed", "asked"] (spF Pr n 162 0 K)) : Cal P w K mg base n "check_question" ["drawing", "deed", "asked"] (spF Pr n 162 0 K) := by
  obtain ⟨fd, X⟩ := F.f_check_question
  exact ⟨_, fd, F.m_check_question, X.kp, X.bindsN fun _ _ _ _ _ _ us hl => match us, hl with | [_, _, _], _ => rfl, h fd X⟩
theorem z_inner_of (F : Funs K mg) (h : ∀ fd, FunD K "inner_of" "inner_of" (defArgs s_inner_of) (defBody s_inner_of) (defScope s_inner_of) [] [] (He.ga K "inner_of") fd → FnG P w K mg base n (He.ga K "inner_of") fd ["drawing", "deed", "asked"] (spF Pr n 163 0 K)) : Cal P w K mg base n "inner_of" ["drawing", "deed", "asked"] (spF Pr n 163 0 K) := by
  obtain ⟨fd, X⟩ := F.f_inner_of
  exact ⟨_, fd, F.m_inner_of, X.kp, X.bindsN fun _ _ _ _ _ _ us hl => match us, hl with | [_, _, _], _ => rfl, h fd X⟩
theorem z_home_of (F : Funs K mg) (h : ∀ fd, FunD K "home_of" "home_of" (defArgs s_home_of) (defBody s_home_of) (defScope s_home_of) [] [] (He.ga K "home_of") fd → FnG P w K mg base n (He.ga K "home_of") fd ["drawing", "outer", "told"] (spF Pr n 164 0 K)) : Cal P w K mg base n "home_of" ["drawing", "outer", "told"] (spF Pr n 164 0 K) := by
  obtain ⟨fd, X⟩ := F.f_home_of
  exact ⟨_, fd, F.m_home_of, X.kp, X.bindsN fun _ _ _ _ _ _ us hl => match us, hl with | [_, _, _], _ => rfl, h fd X⟩
theorem z_led_to (F : Funs K mg) (h : ∀ fd, FunD K "led_to" "led_to" (defArgs s_led_to) (defBody s_led_to) (defScope s_led_to) [] [] (He.ga K "led_to") fd → FnG P w K mg base n (He.ga K "led_to") fd ["drawing", "told"] (spF Pr n 165 0 K)) : Cal P w K mg base n "led_to" ["drawing", "told"] (spF Pr n 165 0 K) := by
  obtain ⟨fd, X⟩ := F.f_led_to
  exact ⟨_, fd, F.m_led_to, X.kp, X.bindsN fun _ _ _ _ _ _ us hl => match us, hl with | [_, _], _ => rfl, h fd X⟩
theorem z_joined (F : Funs K mg) (h : ∀ fd, FunD K "joined" "joined" (defArgs s_joined) (defBody s_joined) (defScope s_joined) [] [] (He.ga K "joined") fd → FnG P w K mg base n (He.ga K "joined") fd ["ways"] (spF Pr n 166 2 K)) : Cal P w K mg base n "joined" ["ways"] (spF Pr n 166 2 K) := by
  obtain ⟨fd, X⟩ := F.f_joined
  exact ⟨_, fd, F.m_joined, X.kp, X.bindsN fun _ _ _ _ _ _ us hl => match us, hl with | [_], _ => rfl, h fd X⟩
theorem z_derivation_of (F : Funs K mg) (h : ∀ fd, FunD K "derivation_of" "derivation_of" (defArgs s_derivation_of) (defBody s_derivation_of) (defScope s_derivation_of) [] [] (He.ga K "derivation_of") fd → FnG P w K mg base n (He.ga K "derivation_of") fd ["drawing", "deed", "asked"] (spF Pr n 167 2 K)) : Cal P w K mg base n "derivation_of" ["drawing", "deed", "asked"] (spF Pr n 167 2 K) := by
  obtain ⟨fd, X⟩ := F.f_derivation_of
  exact ⟨_, fd, F.m_derivation_of, X.kp, X.bindsN fun _ _ _ _ _ _ us hl => match us, hl with | [_, _, _], _ => rfl, h fd X⟩
theorem z_derivation (F : Funs K mg) (h : ∀ fd, FunD K "derivation" "derivation" (defArgs s_derivation) (defBody s_derivation) (defScope s_derivation) [] [] (He.ga K "derivation") fd → FnG P w K mg base n (He.ga K "derivation") fd ["drawing", "deed", "asked"] (spF Pr n 516 2 K)) : Cal P w K mg base n "derivation" ["drawing", "deed", "asked"] (spF Pr n 516 2 K) := by
  obtain ⟨fd, X⟩ := F.f_derivation
  exact ⟨_, fd, F.m_derivation, X.kp, X.bindsN fun _ _ _ _ _ _ us hl => match us, hl with | [_, _, _], _ => rfl, h fd X⟩
theorem z_is_told (F : Funs K mg) (h : ∀ fd, FunD K "is_told" "is_told" (defArgs s_is_told) (defBody s_is_told) (defScope s_is_told) [] [] (He.ga K "is_told") fd → FnG P w K mg base n (He.ga K "is_told") fd ["drawing", "deed", "asked"] (spF Pr n 168 0 K)) : Cal P w K mg base n "is_told" ["drawing", "deed", "asked"] (spF Pr n 168 0 K) := by
  obtain ⟨fd, X⟩ := F.f_is_told
  exact ⟨_, fd, F.m_is_told, X.kp, X.bindsN fun _ _ _ _ _ _ us hl => match us, hl with | [_, _, _], _ => rfl, h fd X⟩
theorem z_accepts (F : Funs K mg) (h : ∀ fd, FunD K "accepts" "accepts" (defArgs s_accepts) (defBody s_accepts) (defScope s_accepts) [] [] (He.ga K "accepts") fd → FnG P w K mg base n (He.ga K "accepts") fd ["drawing", "deed", "asked", "steps", "ends"] (spF Pr n 517 0 K)) : Cal P w K mg base n "accepts" ["drawing", "deed", "asked", "steps", "ends"] (spF Pr n 517 0 K) := by
  obtain ⟨fd, X⟩ := F.f_accepts
  exact ⟨_, fd, F.m_accepts, X.kp, X.bindsN fun _ _ _ _ _ _ us hl => match us, hl with | [_, _, _, _, _], _ => rfl, h fd X⟩
theorem z_check_derivation (F : Funs K mg) (h : ∀ fd, FunD K "check_derivation" "check_derivation" (defArgs s_check_derivation) (defBody s_check_derivation) (defScope s_check_derivation) [] [] (He.ga K "check_derivation") fd → FnG P w K mg base n (He.ga K "check_derivation") fd ["drawing", "deed", "asked", "steps", "ends"] (spF Pr n 518 0 K)) : Cal P w K mg base n "check_derivation" ["drawing", "deed", "asked", "steps", "ends"] (spF Pr n 518 0 K) := by
  obtain ⟨fd, X⟩ := F.f_check_derivation
  exact ⟨_, fd, F.m_check_derivation, X.kp, X.bindsN fun _ _ _ _ _ _ us hl => match us, hl with | [_, _, _, _, _], _ => rfl, h fd X⟩
theorem z_hedge_of (F : Funs K mg) (h : ∀ fd, FunD K "hedge_of" "hedge_of" (defArgs s_hedge_of) (defBody s_hedge_of) (defScope s_hedge_of) [] [] (He.ga K "hedge_of") fd → FnG P w K mg base n (He.ga K "hedge_of") fd ["drawing", "deed", "asked"] (spF Pr n 528 0 K)) : Cal P w K mg base n "hedge_of" ["drawing", "deed", "asked"] (spF Pr n 528 0 K) := by
  obtain ⟨fd, X⟩ := F.f_hedge_of
  exact ⟨_, fd, F.m_hedge_of, X.kp, X.bindsN fun _ _ _ _ _ _ us hl => match us, hl with | [_, _, _], _ => rfl, h fd X⟩
theorem z_hedge (F : Funs K mg) (h : ∀ fd, FunD K "hedge" "hedge" (defArgs s_hedge) (defBody s_hedge) (defScope s_hedge) [] [] (He.ga K "hedge") fd → FnG P w K mg base n (He.ga K "hedge") fd ["drawing", "deed", "asked"] (spF Pr n 529 0 K)) : Cal P w K mg base n "hedge" ["drawing", "deed", "asked"] (spF Pr n 529 0 K) := by
  obtain ⟨fd, X⟩ := F.f_hedge
  exact ⟨_, fd, F.m_hedge, X.kp, X.bindsN fun _ _ _ _ _ _ us hl => match us, hl with | [_, _, _], _ => rfl, h fd X⟩
theorem z_check_hedge (F : Funs K mg) (h : ∀ fd, FunD K "check_hedge" "check_hedge" (defArgs s_check_hedge) (defBody s_check_hedge) (defScope s_check_hedge) [] [] (He.ga K "check_hedge") fd → FnG P w K mg base n (He.ga K "check_hedge") fd ["drawing", "deed", "asked", "outer", "inner"] (spF Pr n 530 0 K)) : Cal P w K mg base n "check_hedge" ["drawing", "deed", "asked", "outer", "inner"] (spF Pr n 530 0 K) := by
  obtain ⟨fd, X⟩ := F.f_check_hedge
  exact ⟨_, fd, F.m_check_hedge, X.kp, X.bindsN fun _ _ _ _ _ _ us hl => match us, hl with | [_, _, _, _, _], _ => rfl, h fd X⟩
theorem z__law_draws (F : Funs K mg) (h : ∀ fd, FunD K "_law_draws" "_law_draws" (defArgs s__law_draws) (defBody s__law_draws) (defScope s__law_draws) [] [] (He.ga K "_law_draws") fd → FnG P w K mg base n (He.ga K "_law_draws") fd ["script"] (spF Pr n 5 0 K)) : Cal P w K mg base n "_law_draws" ["script"] (spF Pr n 5 0 K) := by
  obtain ⟨fd, X⟩ := F.f__law_draws
  exact ⟨_, fd, F.m__law_draws, X.kp, X.bindsN fun _ _ _ _ _ _ us hl => match us, hl with | [_], _ => rfl, h fd X⟩
theorem z__law_mix (F : Funs K mg) (h : ∀ fd, FunD K "_law_mix" "_law_mix" (defArgs s__law_mix) (defBody s__law_mix) (defScope s__law_mix) [] [] (He.ga K "_law_mix") fd → FnG P w K mg base n (He.ga K "_law_mix") fd ["draws", "k", "many"] (spF Pr n 6 0 K)) : Cal P w K mg base n "_law_mix" ["draws", "k", "many"] (spF Pr n 6 0 K) := by
  obtain ⟨fd, X⟩ := F.f__law_mix
  exact ⟨_, fd, F.m__law_mix, X.kp, X.bindsN fun _ _ _ _ _ _ us hl => match us, hl with | [_, _, _], _ => rfl, h fd X⟩
theorem z__law_order (F : Funs K mg) (h : ∀ fd, FunD K "_law_order" "_law_order" (defArgs s__law_order) (defBody s__law_order) (defScope s__law_order) [] [] (He.ga K "_law_order") fd → FnG P w K mg base n (He.ga K "_law_order") fd ["draws", "k", "many"] (spF Pr n 494 0 K)) : Cal P w K mg base n "_law_order" ["draws", "k", "many"] (spF Pr n 494 0 K) := by
  obtain ⟨fd, X⟩ := F.f__law_order
  exact ⟨_, fd, F.m__law_order, X.kp, X.bindsN fun _ _ _ _ _ _ us hl => match us, hl with | [_, _, _], _ => rfl, h fd X⟩
theorem z__law_drawing (F : Funs K mg) (h : ∀ fd, FunD K "_law_drawing" "_law_drawing" (defArgs s__law_drawing) (defBody s__law_drawing) (defScope s__law_drawing) [] [] (He.ga K "_law_drawing") fd → FnG P w K mg base n (He.ga K "_law_drawing") fd ["draws", "k", "many"] (spF Pr n 495 0 K)) : Cal P w K mg base n "_law_drawing" ["draws", "k", "many"] (spF Pr n 495 0 K) := by
  obtain ⟨fd, X⟩ := F.f__law_drawing
  exact ⟨_, fd, F.m__law_drawing, X.kp, X.bindsN fun _ _ _ _ _ _ us hl => match us, hl with | [_, _, _], _ => rfl, h fd X⟩
theorem z__law_question (F : Funs K mg) (h : ∀ fd, FunD K "_law_question" "_law_question" (defArgs s__law_question) (defBody s__law_question) (defScope s__law_question) [] [] (He.ga K "_law_question") fd → FnG P w K mg base n (He.ga K "_law_question") fd ["draws", "k", "many"] (spF Pr n 519 0 K)) : Cal P w K mg base n "_law_question" ["draws", "k", "many"] (spF Pr n 519 0 K) := by
  obtain ⟨fd, X⟩ := F.f__law_question
  exact ⟨_, fd, F.m__law_question, X.kp, X.bindsN fun _ _ _ _ _ _ us hl => match us, hl with | [_, _, _], _ => rfl, h fd X⟩
theorem z__law_said (F : Funs K mg) (h : ∀ fd, FunD K "_law_said" "_law_said" (defArgs s__law_said) (defBody s__law_said) (defScope s__law_said) [] [] (He.ga K "_law_said") fd → FnG P w K mg base n (He.ga K "_law_said") fd ["drawing", "deed", "asked"] (spF Pr n 623 0 K)) : Cal P w K mg base n "_law_said" ["drawing", "deed", "asked"] (spF Pr n 623 0 K) := by
  obtain ⟨fd, X⟩ := F.f__law_said
  exact ⟨_, fd, F.m__law_said, X.kp, X.bindsN fun _ _ _ _ _ _ us hl => match us, hl with | [_, _, _], _ => rfl, h fd X⟩
theorem z__law_fewer_and_more (F : Funs K mg) (h : ∀ fd, FunD K "_law_fewer_and_more" "_law_fewer_and_more" (defArgs s__law_fewer_and_more) (defBody s__law_fewer_and_more) (defScope s__law_fewer_and_more) [] [] (He.ga K "_law_fewer_and_more") fd → FnG P w K mg base n (He.ga K "_law_fewer_and_more") fd ["draws", "k", "drawing", "deed", "asked"] (spF Pr n 624 0 K)) : Cal P w K mg base n "_law_fewer_and_more" ["draws", "k", "drawing", "deed", "asked"] (spF Pr n 624 0 K) := by
  obtain ⟨fd, X⟩ := F.f__law_fewer_and_more
  exact ⟨_, fd, F.m__law_fewer_and_more, X.kp, X.bindsN fun _ _ _ _ _ _ us hl => match us, hl with | [_, _, _, _, _], _ => rfl, h fd X⟩
theorem z__law_height (F : Funs K mg) (h : ∀ fd, FunD K "_law_height" "_law_height" (defArgs s__law_height) (defBody s__law_height) (defScope s__law_height) [] [] (He.ga K "_law_height") fd → FnG P w K mg base n (He.ga K "_law_height") fd ["drawing"] (spF Pr n 625 0 K)) : Cal P w K mg base n "_law_height" ["drawing"] (spF Pr n 625 0 K) := by
  obtain ⟨fd, X⟩ := F.f__law_height
  exact ⟨_, fd, F.m__law_height, X.kp, X.bindsN fun _ _ _ _ _ _ us hl => match us, hl with | [_], _ => rfl, h fd X⟩
theorem z__law_other_drawings (F : Funs K mg) (h : ∀ fd, FunD K "_law_other_drawings" "_law_other_drawings" (defArgs s__law_other_drawings) (defBody s__law_other_drawings) (defScope s__law_other_drawings) [] [] (He.ga K "_law_other_drawings") fd → FnG P w K mg base n (He.ga K "_law_other_drawings") fd ["draws", "k", "drawing"] (spF Pr n 626 0 K)) : Cal P w K mg base n "_law_other_drawings" ["draws", "k", "drawing"] (spF Pr n 626 0 K) := by
  obtain ⟨fd, X⟩ := F.f__law_other_drawings
  exact ⟨_, fd, F.m__law_other_drawings, X.kp, X.bindsN fun _ _ _ _ _ _ us hl => match us, hl with | [_, _, _], _ => rfl, h fd X⟩
theorem z_law (F : Funs K mg) (h : ∀ fd, FunD K "law" "law" (defArgs s_law) (defBody s_law) (defScope s_law) [] [] (He.ga K "law") fd → FnG P w K mg base n (He.ga K "law") fd ["script"] (spF Pr n 627 0 K)) : Cal P w K mg base n "law" ["script"] (spF Pr n 627 0 K) := by
  obtain ⟨fd, X⟩ := F.f_law
  exact ⟨_, fd, F.m_law, X.kp, X.bindsN fun _ _ _ _ _ _ us hl => match us, hl with | [_], _ => rfl, h fd X⟩
theorem all_zero (F : Funs K mg) : All P w K mg base 0 where
  d_first_bad := z_first_bad F fun fd X => ⟨fun vs H Q ⟨_, _, _, _, _, e, _⟩ => (nomatch e), fun A outer s H args us vs Q _ _ _ _ _ ⟨_, _, _, _, _, e, _⟩ => (nomatch e)⟩
  d_rest_of := z_rest_of F fun fd X => ⟨fun vs H Q ⟨_, _, _, _, _, e, _⟩ => (nomatch e), fun A outer s H args us vs Q _ _ _ _ _ ⟨_, _, _, _, _, e, _⟩ => (nomatch e)⟩
  d_on_rounds := z_on_rounds F fun fd X => ⟨fun vs H Q ⟨_, _, _, _, _, e, _⟩ => (nomatch e), fun A outer s H args us vs Q _ _ _ _ _ ⟨_, _, _, _, _, e, _⟩ => (nomatch e)⟩
  d_check_drawing := z_check_drawing F fun fd X => ⟨fun vs H Q ⟨_, _, _, _, _, e, _⟩ => (nomatch e), fun A outer s H args us vs Q _ _ _ _ _ ⟨_, _, _, _, _, e, _⟩ => (nomatch e)⟩
  d_check_set := z_check_set F fun fd X => ⟨fun vs H Q ⟨_, _, _, _, _, e, _⟩ => (nomatch e), fun A outer s H args us vs Q _ _ _ _ _ ⟨_, _, _, _, _, e, _⟩ => (nomatch e)⟩
  d_reached := z_reached F fun fd X => ⟨fun vs H Q ⟨_, _, _, _, _, e, _⟩ => (nomatch e), fun A outer s H args us vs Q _ _ _ _ _ ⟨_, _, _, _, _, e, _⟩ => (nomatch e)⟩
  d_ancestors_of := z_ancestors_of F fun fd X => ⟨fun vs H Q ⟨_, _, _, _, _, e, _⟩ => (nomatch e), fun A outer s H args us vs Q _ _ _ _ _ ⟨_, _, _, _, _, e, _⟩ => (nomatch e)⟩
  d_districts_of := z_districts_of F fun fd X => ⟨fun vs H Q ⟨_, _, _, _, _, e, _⟩ => (nomatch e), fun A outer s H args us vs Q _ _ _ _ _ ⟨_, _, _, _, _, e, _⟩ => (nomatch e)⟩
  d_part_of := z_part_of F fun fd X => ⟨fun vs H Q ⟨_, _, _, _, _, e, _⟩ => (nomatch e), fun A outer s H args us vs Q _ _ _ _ _ ⟨_, _, _, _, _, e, _⟩ => (nomatch e)⟩
  d_is_inside := z_is_inside F fun fd X => ⟨fun vs H Q ⟨_, _, _, _, _, e, _⟩ => (nomatch e), fun A outer s H args us vs Q _ _ _ _ _ ⟨_, _, _, _, _, e, _⟩ => (nomatch e)⟩
  d_is_step := z_is_step F fun fd X => ⟨fun vs H Q ⟨_, _, _, _, _, e, _⟩ => (nomatch e), fun A outer s H args us vs Q _ _ _ _ _ ⟨_, _, _, _, _, e, _⟩ => (nomatch e)⟩
  d_first_bad_step := z_first_bad_step F fun fd X => ⟨fun vs H Q ⟨_, _, _, _, _, e, _⟩ => (nomatch e), fun A outer s H args us vs Q _ _ _ _ _ ⟨_, _, _, _, _, e, _⟩ => (nomatch e)⟩
  d_check_question := z_check_question F fun fd X => ⟨fun vs H Q ⟨_, _, _, _, _, e, _⟩ => (nomatch e), fun A outer s H args us vs Q _ _ _ _ _ ⟨_, _, _, _, _, e, _⟩ => (nomatch e)⟩
  d_inner_of := z_inner_of F fun fd X => ⟨fun vs H Q ⟨_, _, _, _, _, e, _⟩ => (nomatch e), fun A outer s H args us vs Q _ _ _ _ _ ⟨_, _, _, _, _, e, _⟩ => (nomatch e)⟩
  d_home_of := z_home_of F fun fd X => ⟨fun vs H Q ⟨_, _, _, _, _, e, _⟩ => (nomatch e), fun A outer s H args us vs Q _ _ _ _ _ ⟨_, _, _, _, _, e, _⟩ => (nomatch e)⟩
  d_led_to := z_led_to F fun fd X => ⟨fun vs H Q ⟨_, _, _, _, _, e, _⟩ => (nomatch e), fun A outer s H args us vs Q _ _ _ _ _ ⟨_, _, _, _, _, e, _⟩ => (nomatch e)⟩
  d_joined := z_joined F fun fd X => ⟨fun vs H Q ⟨_, _, _, _, _, e, _⟩ => (nomatch e), fun A outer s H args us vs Q _ _ _ _ _ ⟨_, _, _, _, _, e, _⟩ => (nomatch e)⟩
  d_derivation_of := z_derivation_of F fun fd X => ⟨fun vs H Q ⟨_, _, _, _, _, e, _⟩ => (nomatch e), fun A outer s H args us vs Q _ _ _ _ _ ⟨_, _, _, _, _, e, _⟩ => (nomatch e)⟩
  d_derivation := z_derivation F fun fd X => ⟨fun vs H Q ⟨_, _, _, _, _, e, _⟩ => (nomatch e), fun A outer s H args us vs Q _ _ _ _ _ ⟨_, _, _, _, _, e, _⟩ => (nomatch e)⟩
  d_is_told := z_is_told F fun fd X => ⟨fun vs H Q ⟨_, _, _, _, _, e, _⟩ => (nomatch e), fun A outer s H args us vs Q _ _ _ _ _ ⟨_, _, _, _, _, e, _⟩ => (nomatch e)⟩
  d_accepts := z_accepts F fun fd X => ⟨fun vs H Q ⟨_, _, _, _, _, e, _⟩ => (nomatch e), fun A outer s H args us vs Q _ _ _ _ _ ⟨_, _, _, _, _, e, _⟩ => (nomatch e)⟩
  d_check_derivation := z_check_derivation F fun fd X => ⟨fun vs H Q ⟨_, _, _, _, _, e, _⟩ => (nomatch e), fun A outer s H args us vs Q _ _ _ _ _ ⟨_, _, _, _, _, e, _⟩ => (nomatch e)⟩
  d_hedge_of := z_hedge_of F fun fd X => ⟨fun vs H Q ⟨_, _, _, _, _, e, _⟩ => (nomatch e), fun A outer s H args us vs Q _ _ _ _ _ ⟨_, _, _, _, _, e, _⟩ => (nomatch e)⟩
  d_hedge := z_hedge F fun fd X => ⟨fun vs H Q ⟨_, _, _, _, _, e, _⟩ => (nomatch e), fun A outer s H args us vs Q _ _ _ _ _ ⟨_, _, _, _, _, e, _⟩ => (nomatch e)⟩
  d_check_hedge := z_check_hedge F fun fd X => ⟨fun vs H Q ⟨_, _, _, _, _, e, _⟩ => (nomatch e), fun A outer s H args us vs Q _ _ _ _ _ ⟨_, _, _, _, _, e, _⟩ => (nomatch e)⟩
  d__law_draws := z__law_draws F fun fd X => ⟨fun vs H Q ⟨_, _, _, _, _, e, _⟩ => (nomatch e), fun A outer s H args us vs Q _ _ _ _ _ ⟨_, _, _, _, _, e, _⟩ => (nomatch e)⟩
  d__law_mix := z__law_mix F fun fd X => ⟨fun vs H Q ⟨_, _, _, _, _, e, _⟩ => (nomatch e), fun A outer s H args us vs Q _ _ _ _ _ ⟨_, _, _, _, _, e, _⟩ => (nomatch e)⟩
  d__law_order := z__law_order F fun fd X => ⟨fun vs H Q ⟨_, _, _, _, _, e, _⟩ => (nomatch e), fun A outer s H args us vs Q _ _ _ _ _ ⟨_, _, _, _, _, e, _⟩ => (nomatch e)⟩
  d__law_drawing := z__law_drawing F fun fd X => ⟨fun vs H Q ⟨_, _, _, _, _, e, _⟩ => (nomatch e), fun A outer s H args us vs Q _ _ _ _ _ ⟨_, _, _, _, _, e, _⟩ => (nomatch e)⟩
  d__law_question := z__law_question F fun fd X => ⟨fun vs H Q ⟨_, _, _, _, _, e, _⟩ => (nomatch e), fun A outer s H args us vs Q _ _ _ _ _ ⟨_, _, _, _, _, e, _⟩ => (nomatch e)⟩
  d__law_said := z__law_said F fun fd X => ⟨fun vs H Q ⟨_, _, _, _, _, e, _⟩ => (nomatch e), fun A outer s H args us vs Q _ _ _ _ _ ⟨_, _, _, _, _, e, _⟩ => (nomatch e)⟩
  d__law_fewer_and_more := z__law_fewer_and_more F fun fd X => ⟨fun vs H Q ⟨_, _, _, _, _, e, _⟩ => (nomatch e), fun A outer s H args us vs Q _ _ _ _ _ ⟨_, _, _, _, _, e, _⟩ => (nomatch e)⟩
  d__law_height := z__law_height F fun fd X => ⟨fun vs H Q ⟨_, _, _, _, _, e, _⟩ => (nomatch e), fun A outer s H args us vs Q _ _ _ _ _ ⟨_, _, _, _, _, e, _⟩ => (nomatch e)⟩
  d__law_other_drawings := z__law_other_drawings F fun fd X => ⟨fun vs H Q ⟨_, _, _, _, _, e, _⟩ => (nomatch e), fun A outer s H args us vs Q _ _ _ _ _ ⟨_, _, _, _, _, e, _⟩ => (nomatch e)⟩
  d_law := z_law F fun fd X => ⟨fun vs H Q ⟨_, _, _, _, _, e, _⟩ => (nomatch e), fun A outer s H args us vs Q _ _ _ _ _ ⟨_, _, _, _, _, e, _⟩ => (nomatch e)⟩
theorem all_succ (g : Glob mg) (F : Funs K mg) (al : All P w K mg base n) : All P w K mg base (n + 1) where
  d_first_bad := z_first_bad F fun fd X => cal_step X sc_first_bad rfl rfl rfl fun cdv A outer s H hr gd => VSs.nox (t_first_bad g al cdv A outer s H hr gd)
  d_rest_of := z_rest_of F fun fd X => cal_step X sc_rest_of rfl rfl rfl fun cdv A outer s H hr gd => VSs.nox (t_rest_of g al cdv A outer s H hr gd)
  d_on_rounds := z_on_rounds F fun fd X => cal_step X sc_on_rounds rfl rfl rfl fun cdv A outer s H hr gd => VSs.nox (t_on_rounds g al cdv A outer s H hr gd)
  d_check_drawing := z_check_drawing F fun fd X => cal_step X sc_check_drawing rfl rfl rfl fun cdv A outer s H hr gd => VSs.nox (t_check_drawing g al cdv A outer s H hr gd)
  d_check_set := z_check_set F fun fd X => cal_step X sc_check_set rfl rfl rfl fun cdv A outer s H hr gd => VSs.nox (t_check_set g al cdv A outer s H hr gd)
  d_reached := z_reached F fun fd X => cal_step X sc_reached rfl rfl rfl fun cdv A outer s H hr gd => VSs.nox (t_reached g al cdv A outer s H hr gd)
  d_ancestors_of := z_ancestors_of F fun fd X => cal_step X sc_ancestors_of rfl rfl rfl fun cdv A outer s H hr gd => VSs.nox (t_ancestors_of g al cdv A outer s H hr gd)
  d_districts_of := z_districts_of F fun fd X => cal_step X sc_districts_of rfl rfl rfl fun cdv A outer s H hr gd => VSs.nox (t_districts_of g al cdv A outer s H hr gd)
  d_part_of := z_part_of F fun fd X => cal_step X sc_part_of rfl rfl rfl fun cdv A outer s H hr gd => VSs.nox (t_part_of g al cdv A outer s H hr gd)
  d_is_inside := z_is_inside F fun fd X => cal_step X sc_is_inside rfl rfl rfl fun cdv A outer s H hr gd => VSs.nox (t_is_inside g al cdv A outer s H hr gd)
  d_is_step := z_is_step F fun fd X => cal_step X sc_is_step rfl rfl rfl fun cdv A outer s H hr gd => VSs.nox (t_is_step g al cdv A outer s H hr gd)
  d_first_bad_step := z_first_bad_step F fun fd X => cal_step X sc_first_bad_step rfl rfl rfl fun cdv A outer s H hr gd => VSs.nox (t_first_bad_step g al cdv A outer s H hr gd)
  d_check_question := z_check_question F fun fd X => cal_step X sc_check_question rfl rfl rfl fun cdv A outer s H hr gd => VSs.nox (t_check_question g al cdv A outer s H hr gd)
  d_inner_of := z_inner_of F fun fd X => cal_step X sc_inner_of rfl rfl rfl fun cdv A outer s H hr gd => VSs.nox (t_inner_of g al cdv A outer s H hr gd)
  d_home_of := z_home_of F fun fd X => cal_step X sc_home_of rfl rfl rfl fun cdv A outer s H hr gd => VSs.nox (t_home_of g al cdv A outer s H hr gd)
  d_led_to := z_led_to F fun fd X => cal_step X sc_led_to rfl rfl rfl fun cdv A outer s H hr gd => VSs.nox (t_led_to g al cdv A outer s H hr gd)
  d_joined := z_joined F fun fd X => cal_step X sc_joined rfl rfl rfl fun cdv A outer s H hr gd => VSs.nox (t_joined g al cdv A outer s H hr gd)
  d_derivation_of := z_derivation_of F fun fd X => cal_step X sc_derivation_of rfl rfl rfl fun cdv A outer s H hr gd => VSs.nox (t_derivation_of g al cdv A outer s H hr gd)
  d_derivation := z_derivation F fun fd X => cal_step X sc_derivation rfl rfl rfl fun cdv A outer s H hr gd => VSs.nox (t_derivation g al cdv A outer s H hr gd)
  d_is_told := z_is_told F fun fd X => cal_step X sc_is_told rfl rfl rfl fun cdv A outer s H hr gd => VSs.nox (t_is_told g al cdv A outer s H hr gd)
  d_accepts := z_accepts F fun fd X => cal_step X sc_accepts rfl rfl rfl fun cdv A outer s H hr gd => VSs.nox (t_accepts g al cdv A outer s H hr gd)
  d_check_derivation := z_check_derivation F fun fd X => cal_step X sc_check_derivation rfl rfl rfl fun cdv A outer s H hr gd => VSs.nox (t_check_derivation g al cdv A outer s H hr gd)
  d_hedge_of := z_hedge_of F fun fd X => cal_step X sc_hedge_of rfl rfl rfl fun cdv A outer s H hr gd => VSs.nox (t_hedge_of g al cdv A outer s H hr gd)
  d_hedge := z_hedge F fun fd X => cal_step X sc_hedge rfl rfl rfl fun cdv A outer s H hr gd => VSs.nox (t_hedge g al cdv A outer s H hr gd)
  d_check_hedge := z_check_hedge F fun fd X => cal_step X sc_check_hedge rfl rfl rfl fun cdv A outer s H hr gd => VSs.nox (t_check_hedge g al cdv A outer s H hr gd)
  d__law_draws := z__law_draws F fun fd X => cal_step X sc__law_draws rfl rfl rfl fun cdv A outer s H hr gd => VSs.nox (t__law_draws g al cdv A outer s H hr gd)
  d__law_mix := z__law_mix F fun fd X => cal_step X sc__law_mix rfl rfl rfl fun cdv A outer s H hr gd => VSs.nox (t__law_mix g al cdv A outer s H hr gd)
  d__law_order := z__law_order F fun fd X => cal_step X sc__law_order rfl rfl rfl fun cdv A outer s H hr gd => VSs.nox (t__law_order g al cdv A outer s H hr gd)
  d__law_drawing := z__law_drawing F fun fd X => cal_step X sc__law_drawing rfl rfl rfl fun cdv A outer s H hr gd => VSs.nox (t__law_drawing g al cdv A outer s H hr gd)
  d__law_question := z__law_question F fun fd X => cal_step X sc__law_question rfl rfl rfl fun cdv A outer s H hr gd => VSs.nox (t__law_question g al cdv A outer s H hr gd)
  d__law_said := z__law_said F fun fd X => cal_step X sc__law_said rfl rfl rfl fun cdv A outer s H hr gd => VSs.nox (t__law_said g al cdv A outer s H hr gd)
  d__law_fewer_and_more := z__law_fewer_and_more F fun fd X => cal_step X sc__law_fewer_and_more rfl rfl rfl fun cdv A outer s H hr gd => VSs.nox (t__law_fewer_and_more g al cdv A outer s H hr gd)
  d__law_height := z__law_height F fun fd X => cal_step X sc__law_height rfl rfl rfl fun cdv A outer s H hr gd => VSs.nox (t__law_height g al cdv A outer s H hr gd)
  d__law_other_drawings := z__law_other_drawings F fun fd X => cal_step X sc__law_other_drawings rfl rfl rfl fun cdv A outer s H hr gd => VSs.nox (t__law_other_drawings g al cdv A outer s H hr gd)
  d_law := z_law F fun fd X => cal_step X sc_law rfl rfl rfl fun cdv A outer s H hr gd => VSs.nox (t_law g al cdv A outer s H hr gd)
theorem all (g : Glob mg) (F : Funs K mg) : ∀ n, All P w K mg base n
  | 0 => all_zero F
  | n + 1 => all_succ g F (all g F n)
end
/-! ### the head -/
def dd_first_bad : He.DefD := ⟨("first_bad", none), "first_bad", "first_bad", defArgs s_first_bad, defBody s_first_bad, defScope s_first_bad, [], []⟩
def dd_rest_of : He.DefD := ⟨("rest_of", none), "rest_of", "rest_of", defArgs s_rest_of, defBody s_rest_of, defScope s_rest_of, [], []⟩
def dd_on_rounds : He.DefD := ⟨("on_rounds", none), "on_rounds", "on_rounds", defArgs s_on_rounds, defBody s_on_rounds, defScope s_on_rounds, [], []⟩
def dd_check_drawing : He.DefD := ⟨("check_drawing", none), "check_drawing", "check_drawing", defArgs s_check_drawing, defBody s_check_drawing, defScope s_check_drawing, [], []⟩
def dd_check_set : He.DefD := ⟨("check_set", none), "check_set", "check_set", defArgs s_check_set, defBody s_check_set, defScope s_check_set, [], []⟩
def dd_reached : He.DefD := ⟨("reached", none), "reached", "reached", defArgs s_reached, defBody s_reached, defScope s_reached, [], []⟩
def dd_ancestors_of : He.DefD := ⟨("ancestors_of", none), "ancestors_of", "ancestors_of", defArgs s_ancestors_of, defBody s_ancestors_of, defScope s_ancestors_of, [], []⟩
def dd_districts_of : He.DefD := ⟨("districts_of", none), "districts_of", "districts_of", defArgs s_districts_of, defBody s_districts_of, defScope s_districts_of, [], []⟩
def dd_part_of : He.DefD := ⟨("part_of", none), "part_of", "part_of", defArgs s_part_of, defBody s_part_of, defScope s_part_of, [], []⟩
def dd_is_inside : He.DefD := ⟨("is_inside", none), "is_inside", "is_inside", defArgs s_is_inside, defBody s_is_inside, defScope s_is_inside, [], []⟩
def dd_is_step : He.DefD := ⟨("is_step", none), "is_step", "is_step", defArgs s_is_step, defBody s_is_step, defScope s_is_step, [], []⟩
def dd_first_bad_step : He.DefD := ⟨("first_bad_step", none), "first_bad_step", "first_bad_step", defArgs s_first_bad_step, defBody s_first_bad_step, defScope s_first_bad_step, [], []⟩
def dd_check_question : He.DefD := ⟨("check_question", none), "check_question", "check_question", defArgs s_check_question, defBody s_check_question, defScope s_check_question, [], []⟩
def dd_inner_of : He.DefD := ⟨("inner_of", none), "inner_of", "inner_of", defArgs s_inner_of, defBody s_inner_of, defScope s_inner_of, [], []⟩
def dd_home_of : He.DefD := ⟨("home_of", none), "home_of", "home_of", defArgs s_home_of, defBody s_home_of, defScope s_home_of, [], []⟩
def dd_led_to : He.DefD := ⟨("led_to", none), "led_to", "led_to", defArgs s_led_to, defBody s_led_to, defScope s_led_to, [], []⟩
def dd_joined : He.DefD := ⟨("joined", none), "joined", "joined", defArgs s_joined, defBody s_joined, defScope s_joined, [], []⟩
def dd_derivation_of : He.DefD := ⟨("derivation_of", none), "derivation_of", "derivation_of", defArgs s_derivation_of, defBody s_derivation_of, defScope s_derivation_of, [], []⟩
def dd_derivation : He.DefD := ⟨("derivation", none), "derivation", "derivation", defArgs s_derivation, defBody s_derivation, defScope s_derivation, [], []⟩
def dd_is_told : He.DefD := ⟨("is_told", none), "is_told", "is_told", defArgs s_is_told, defBody s_is_told, defScope s_is_told, [], []⟩
def dd_accepts : He.DefD := ⟨("accepts", none), "accepts", "accepts", defArgs s_accepts, defBody s_accepts, defScope s_accepts, [], []⟩
def dd_check_derivation : He.DefD := ⟨("check_derivation", none), "check_derivation", "check_derivation", defArgs s_check_derivation, defBody s_check_derivation, defScope s_check_derivation, [], []⟩
def dd_hedge_of : He.DefD := ⟨("hedge_of", none), "hedge_of", "hedge_of", defArgs s_hedge_of, defBody s_hedge_of, defScope s_hedge_of, [], []⟩
def dd_hedge : He.DefD := ⟨("hedge", none), "hedge", "hedge", defArgs s_hedge, defBody s_hedge, defScope s_hedge, [], []⟩
def dd_check_hedge : He.DefD := ⟨("check_hedge", none), "check_hedge", "check_hedge", defArgs s_check_hedge, defBody s_check_hedge, defScope s_check_hedge, [], []⟩
def dd__law_draws : He.DefD := ⟨("_law_draws", none), "_law_draws", "_law_draws", defArgs s__law_draws, defBody s__law_draws, defScope s__law_draws, [], []⟩
def dd__law_mix : He.DefD := ⟨("_law_mix", none), "_law_mix", "_law_mix", defArgs s__law_mix, defBody s__law_mix, defScope s__law_mix, [], []⟩
def dd__law_order : He.DefD := ⟨("_law_order", none), "_law_order", "_law_order", defArgs s__law_order, defBody s__law_order, defScope s__law_order, [], []⟩
def dd__law_drawing : He.DefD := ⟨("_law_drawing", none), "_law_drawing", "_law_drawing", defArgs s__law_drawing, defBody s__law_drawing, defScope s__law_drawing, [], []⟩
def dd__law_question : He.DefD := ⟨("_law_question", none), "_law_question", "_law_question", defArgs s__law_question, defBody s__law_question, defScope s__law_question, [], []⟩
def dd__law_said : He.DefD := ⟨("_law_said", none), "_law_said", "_law_said", defArgs s__law_said, defBody s__law_said, defScope s__law_said, [], []⟩
def dd__law_fewer_and_more : He.DefD := ⟨("_law_fewer_and_more", none), "_law_fewer_and_more", "_law_fewer_and_more", defArgs s__law_fewer_and_more, defBody s__law_fewer_and_more, defScope s__law_fewer_and_more, [], []⟩
def dd__law_height : He.DefD := ⟨("_law_height", none), "_law_height", "_law_height", defArgs s__law_height, defBody s__law_height, defScope s__law_height, [], []⟩
def dd__law_other_drawings : He.DefD := ⟨("_law_other_drawings", none), "_law_other_drawings", "_law_other_drawings", defArgs s__law_other_drawings, defBody s__law_other_drawings, defScope s__law_other_drawings, [], []⟩
def dd_law : He.DefD := ⟨("law", none), "law", "law", defArgs s_law, defBody s_law, defScope s_law, [], []⟩
def hfn : List He.DefD := [dd_first_bad, dd_rest_of, dd_on_rounds, dd_check_drawing, dd_check_set, dd_reached, dd_ancestors_of, dd_districts_of, dd_part_of, dd_is_inside, dd_is_step, dd_first_bad_step, dd_check_question, dd_inner_of, dd_home_of, dd_led_to, dd_joined, dd_derivation_of, dd_derivation, dd_is_told, dd_accepts, dd_check_derivation, dd_hedge_of, dd_hedge, dd_check_hedge, dd__law_draws, dd__law_mix, dd__law_order, dd__law_drawing, dd__law_question, dd__law_said, dd__law_fewer_and_more, dd__law_height, dd__law_other_drawings, dd_law]
def hfa : List He.Fa := [.glo "first_bad", .glo "rest_of", .glo "on_rounds", .glo "check_drawing", .glo "check_set", .glo "reached", .glo "ancestors_of", .glo "districts_of", .glo "part_of", .glo "is_inside", .glo "is_step", .glo "first_bad_step", .glo "check_question", .glo "inner_of", .glo "home_of", .glo "led_to", .glo "joined", .glo "derivation_of", .glo "derivation", .glo "is_told", .glo "accepts", .glo "check_derivation", .glo "hedge_of", .glo "hedge", .glo "check_hedge", .glo "_law_draws", .glo "_law_mix", .glo "_law_order", .glo "_law_drawing", .glo "_law_question", .glo "_law_said", .glo "_law_fewer_and_more", .glo "_law_height", .glo "_law_other_drawings", .glo "law", .free "abs", .free "all", .free "enumerate", .free "int", .free "len", .free "list", .free "max", .free "min", .free "range", .free "repr", .free "sorted", .int "MOST_VARIABLES" 12]
def loose0 : List PySem.Str := ["WayError", "OutOfRange", "WrongSize", "NotASet", "BadArrow", "BadTie", "Round", "Overlap", "MOST_VARIABLES", "first_bad", "rest_of", "on_rounds", "check_drawing", "check_set", "reached", "ancestors_of", "districts_of", "part_of", "is_inside", "is_step", "first_bad_step", "check_question", "inner_of", "home_of", "led_to", "joined", "derivation_of", "derivation", "is_told", "accepts"]
def loose1 : List PySem.Str := ["check_derivation", "hedge_of", "hedge", "check_hedge", "_law_draws", "_law_mix", "_law_order", "_law_drawing", "_law_question", "_law_said", "_law_fewer_and_more", "_law_height", "_law_other_drawings"]
abbrev hk : PySem.W.Hook := He.hookD 4 hfa hfn
def hob (s : PySem.W.SharedT) : He.AlD := He.obsDG 4 hfa hfn (HandSHeadRun.getT s)
theorem hob_eq (s : PySem.W.SharedT) : hob s = hk.obs s.abs := He.obsDG_eq (HandSHeadRun.getT_eq s)
abbrev R0 : PySem.W.OpenRow := PySem.W.OpenLaw.row rw0
abbrev looseN : List PySem.Str := loose0 ++ loose1
theorem hrun (w : World) : HandSHeadRun.RunEq R0 (PySem.W.view R0.prog [48]) hk hob 4000 looseN w := by
  intro os
  kernel_rfl
theorem glob_of {K : PySem.W.Frag} {h : Heap} {mg : Str → Option Value} (X : K.In h) (G : h.Ns mainGlobals mg) (c : He.SaysD hfa hfn K) : Glob mg where
  b_abs := He.free_ok X G (c.fact 35 (f := .free "abs") rfl)
  b_all := He.free_ok X G (c.fact 36 (f := .free "all") rfl)
  b_enumerate := He.free_ok X G (c.fact 37 (f := .free "enumerate") rfl)
  b_int := He.free_ok X G (c.fact 38 (f := .free "int") rfl)
  b_len := He.free_ok X G (c.fact 39 (f := .free "len") rfl)
  b_list := He.free_ok X G (c.fact 40 (f := .free "list") rfl)
  b_max := He.free_ok X G (c.fact 41 (f := .free "max") rfl)
  b_min := He.free_ok X G (c.fact 42 (f := .free "min") rfl)
  b_range := He.free_ok X G (c.fact 43 (f := .free "range") rfl)
  b_repr := He.free_ok X G (c.fact 44 (f := .free "repr") rfl)
  b_sorted := He.free_ok X G (c.fact 45 (f := .free "sorted") rfl)
  c_MOST_VARIABLES := He.int_ok X G (c.fact 46 (f := .int "MOST_VARIABLES" 12) rfl)
theorem funs_of {K : PySem.W.Frag} {h : Heap} {mg : Str → Option Value} (X : K.In h) (G : h.Ns mainGlobals mg) (c : He.SaysD hfa hfn K) : Funs K mg where
  f_first_bad := c.def_ 0 (d := dd_first_bad) rfl
  m_first_bad := He.glo_ok X G (c.fact 0 (f := .glo "first_bad") rfl)
  f_rest_of := c.def_ 1 (d := dd_rest_of) rfl
  m_rest_of := He.glo_ok X G (c.fact 1 (f := .glo "rest_of") rfl)
  f_on_rounds := c.def_ 2 (d := dd_on_rounds) rfl
  m_on_rounds := He.glo_ok X G (c.fact 2 (f := .glo "on_rounds") rfl)
  f_check_drawing := c.def_ 3 (d := dd_check_drawing) rfl
  m_check_drawing := He.glo_ok X G (c.fact 3 (f := .glo "check_drawing") rfl)
  f_check_set := c.def_ 4 (d := dd_check_set) rfl
  m_check_set := He.glo_ok X G (c.fact 4 (f := .glo "check_set") rfl)
  f_reached := c.def_ 5 (d := dd_reached) rfl
  m_reached := He.glo_ok X G (c.fact 5 (f := .glo "reached") rfl)
  f_ancestors_of := c.def_ 6 (d := dd_ancestors_of) rfl
  m_ancestors_of := He.glo_ok X G (c.fact 6 (f := .glo "ancestors_of") rfl)
  f_districts_of := c.def_ 7 (d := dd_districts_of) rfl
  m_districts_of := He.glo_ok X G (c.fact 7 (f := .glo "districts_of") rfl)
  f_part_of := c.def_ 8 (d := dd_part_of) rfl
  m_part_of := He.glo_ok X G (c.fact 8 (f := .glo "part_of") rfl)
  f_is_inside := c.def_ 9 (d := dd_is_inside) rfl
  m_is_inside := He.glo_ok X G (c.fact 9 (f := .glo "is_inside") rfl)
  f_is_step := c.def_ 10 (d := dd_is_step) rfl
  m_is_step := He.glo_ok X G (c.fact 10 (f := .glo "is_step") rfl)
  f_first_bad_step := c.def_ 11 (d := dd_first_bad_step) rfl
  m_first_bad_step := He.glo_ok X G (c.fact 11 (f := .glo "first_bad_step") rfl)
  f_check_question := c.def_ 12 (d := dd_check_question) rfl
  m_check_question := He.glo_ok X G (c.fact 12 (f := .glo "check_question") rfl)
  f_inner_of := c.def_ 13 (d := dd_inner_of) rfl
  m_inner_of := He.glo_ok X G (c.fact 13 (f := .glo "inner_of") rfl)
  f_home_of := c.def_ 14 (d := dd_home_of) rfl
  m_home_of := He.glo_ok X G (c.fact 14 (f := .glo "home_of") rfl)
  f_led_to := c.def_ 15 (d := dd_led_to) rfl
  m_led_to := He.glo_ok X G (c.fact 15 (f := .glo "led_to") rfl)
  f_joined := c.def_ 16 (d := dd_joined) rfl
  m_joined := He.glo_ok X G (c.fact 16 (f := .glo "joined") rfl)
  f_derivation_of := c.def_ 17 (d := dd_derivation_of) rfl
  m_derivation_of := He.glo_ok X G (c.fact 17 (f := .glo "derivation_of") rfl)
  f_derivation := c.def_ 18 (d := dd_derivation) rfl
  m_derivation := He.glo_ok X G (c.fact 18 (f := .glo "derivation") rfl)
  f_is_told := c.def_ 19 (d := dd_is_told) rfl
  m_is_told := He.glo_ok X G (c.fact 19 (f := .glo "is_told") rfl)
  f_accepts := c.def_ 20 (d := dd_accepts) rfl
  m_accepts := He.glo_ok X G (c.fact 20 (f := .glo "accepts") rfl)
  f_check_derivation := c.def_ 21 (d := dd_check_derivation) rfl
  m_check_derivation := He.glo_ok X G (c.fact 21 (f := .glo "check_derivation") rfl)
  f_hedge_of := c.def_ 22 (d := dd_hedge_of) rfl
  m_hedge_of := He.glo_ok X G (c.fact 22 (f := .glo "hedge_of") rfl)
  f_hedge := c.def_ 23 (d := dd_hedge) rfl
  m_hedge := He.glo_ok X G (c.fact 23 (f := .glo "hedge") rfl)
  f_check_hedge := c.def_ 24 (d := dd_check_hedge) rfl
  m_check_hedge := He.glo_ok X G (c.fact 24 (f := .glo "check_hedge") rfl)
  f__law_draws := c.def_ 25 (d := dd__law_draws) rfl
  m__law_draws := He.glo_ok X G (c.fact 25 (f := .glo "_law_draws") rfl)
  f__law_mix := c.def_ 26 (d := dd__law_mix) rfl
  m__law_mix := He.glo_ok X G (c.fact 26 (f := .glo "_law_mix") rfl)
  f__law_order := c.def_ 27 (d := dd__law_order) rfl
  m__law_order := He.glo_ok X G (c.fact 27 (f := .glo "_law_order") rfl)
  f__law_drawing := c.def_ 28 (d := dd__law_drawing) rfl
  m__law_drawing := He.glo_ok X G (c.fact 28 (f := .glo "_law_drawing") rfl)
  f__law_question := c.def_ 29 (d := dd__law_question) rfl
  m__law_question := He.glo_ok X G (c.fact 29 (f := .glo "_law_question") rfl)
  f__law_said := c.def_ 30 (d := dd__law_said) rfl
  m__law_said := He.glo_ok X G (c.fact 30 (f := .glo "_law_said") rfl)
  f__law_fewer_and_more := c.def_ 31 (d := dd__law_fewer_and_more) rfl
  m__law_fewer_and_more := He.glo_ok X G (c.fact 31 (f := .glo "_law_fewer_and_more") rfl)
  f__law_height := c.def_ 32 (d := dd__law_height) rfl
  m__law_height := He.glo_ok X G (c.fact 32 (f := .glo "_law_height") rfl)
  f__law_other_drawings := c.def_ 33 (d := dd__law_other_drawings) rfl
  m__law_other_drawings := He.glo_ok X G (c.fact 33 (f := .glo "_law_other_drawings") rfl)
  f_law := c.def_ 34 (d := dd_law) rfl
  m_law := He.glo_ok X G (c.fact 34 (f := .glo "law") rfl)
set_option maxHeartbeats 8000000 in
/-- all that is left: the law's core tells true -/
theorem holds_of (L : Nat) (hL : Nat.ble L 60 = true) (core : ∀ ns : List Int, ns.length ≤ 63 → (∀ z ∈ ns, Builtin.Int.intBits z ≤ 1048576) → evalD Pr (L + 1) 627 [.list (ns.map .int)] = .ok (.bool true)) : rw0.Holds := by
  w_on; o_law
  refine HandSHeadRun.head_any (r := OpenLaw.row rw0) (q := view (OpenLaw.row rw0).prog [48]) (H := hk) (ob := hob) (M := 4000) (loose := looseN) (d := HandSHeadRun.topDef (OpenLaw.row rw0).prog 48) (kwd := []) hob_eq
    (by kernel_rfl) (fun s => by kernel_rfl) hrun (by kernel_rfl) (by kernel_rfl) (by kernel_rfl) (by rfl) (by first | assumption | decide +kernel) (by decide +kernel) ⟨rfl, rfl, rfl, rfl, rfl, by decide +kernel⟩ ?hw ?hc
  case hw => w_witness2
  case hc =>
    have hL60 : L ≤ 60 := Nat.le_of_ble_eq_true hL
    refine walk_g (l := rw0) (n := 63) (k := L + 1) (x := "script") rfl (by decide) (by kernel_rfl) ⟨rfl, by show 1 + claimMargin + 3 * (L + 1) + 5 < 1000; have : claimMargin ≤ 700 := (by decide); omega, by show 4 + 16 * (L + 1) + 200 < 9900; omega⟩ ?F
    intro w mg fa h Y G hmg0
    obtain ⟨K, KX, c⟩ := Y
    have hmg : mg ("law" : PySem.Str) = some (.ref fa) := by
      have e : (HandSHeadRun.topDef (OpenLaw.row rw0).prog 48).name = ("law" : PySem.Str) := by kernel_rfl
      rw [← e]
      exact hmg0
    have FF := funs_of KX G c
    have e := hmg.symm.trans FF.m_law
    cases e
    obtain ⟨fd, X⟩ := FF.f_law
    have b := FunD.bindsA (ps := ["script"]) X fun _ _ _ _ _ _ us hl => match us, hl with | [_], _ => rfl
    refine ⟨K, fd, spF Pr (L + 1) 627 0 K, KX, fun s u => b s [u] rfl, fun H a ns hl hb _ hS => law_pr hS (core ns hl hb), fun base _ _ => ?_⟩
    exact cal_step X sc_law rfl rfl rfl fun cdv A outer s H hr gd => VSs.nox (t_law (glob_of KX G c) (all (glob_of KX G c) FF L) cdv A outer s H hr gd)

end Law
theorem PySem.Challenge.cw_causeway_k82_whole_more_and_fewer_holds : PySem.Challenge.rw_causeway_k82_whole_more_and_fewer.Holds := by
  refine Law.holds_of 10 rfl fun ns hl _ => ?_
  exact VL.ev_law82 (Pr := Law.Pr) (n := 0) { p0 := rfl, p1 := rfl, p2 := rfl, p3 := rfl, p4 := rfl, p12 := rfl, p16 := rfl, p28 := rfl, p32 := rfl, p162 := rfl, p163 := rfl, p164 := rfl, p165 := rfl, p166 := rfl, p167 := rfl, p168 := rfl, p516 := rfl, p486 := rfl, p487 := rfl, p488 := rfl, p517 := rfl, p518 := rfl, p5 := rfl, p6 := rfl, p494 := rfl, p495 := rfl, p519 := rfl, p528 := rfl, p529 := rfl, p530 := rfl, p623 := rfl, p624 := rfl, p625 := rfl, p626 := rfl, p627 := rfl } hl
