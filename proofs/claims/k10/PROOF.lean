import PyProof.Rows.All
import Wide.All
import OpenK.AllK
import Wide.FinOn
import HandS.ForMost
import HandS.Exc
import HandS.WordsExc
import HandS.CallSlots
import HandS.Walk
import HandS.TryOnly
import HandS.ExcOwn
import HandS.TupAny
import HandS.TupMul
import HandS.Style
import HandS.Deep
import HandS.DictEq
import HandS.IsInst
import HandS.Conv
import HandS.StrMore
import HandS.Zip
import HandS.Rev
import HandS.ExcIs
import HandS.ExcField
import HandS.RaiseMore
import HandS.TryElse
import KE.GoesMore
import KE.GoesZip
import KE.KExcIs
import HandS.Set
import HandS.Strs
import HandS.SetFor
import PyProof.Rows.SortShellAny
import PyProof.StrLawsFirst
import HandS.ExcInit
import PySem.Challenge.RW_cutreach_k10_refusals_made
set_option Elab.async false
set_option linter.all false
set_option maxRecDepth 100000
/-! T0: mirrors. Universal trees, memory of mutable cells, combinators. No machine of Python in sight. -/
namespace TT
open PySem
theorem nr {α : Sort _} {a b : α} (h : a = b) : a = b := h

inductive D where
  | non | bl (b : Bool) | int (i : Int) | str (s : Str)
  | lst (xs : List D) | tup (xs : List D)
  | dct (ps : List (D × D))
  | obj (c : Str) (fs : List (Str × D))
  | exc (c : Str) (fs : List (Str × D))
  | cls (c : Str) | ty (n : String)
  | loc (n : Nat)

inductive Cell where
  | lst (xs : List D) | dct (ps : List (D × D)) | obj (c : Str) (fs : List (Str × D)) | dead

abbrev Mem := List Cell
abbrev Ev := List (Option D)

inductive R (α : Type) where
  | ok (a : α) (m : Mem) | exc (e : D) (m : Mem) | bad

def R.bind {α β : Type} (r : R α) (k : α → Mem → R β) : R β := match r with
  | .ok a m => k a m
  | .exc e m => .exc e m
  | .bad => .bad
@[simp] theorem R.bind_ok {α β : Type} (a : α) (m : Mem) (k : α → Mem → R β) : (R.ok a m).bind k = k a m := nr rfl
@[simp] theorem R.bind_exc {α β : Type} (e : D) (m : Mem) (k : α → Mem → R β) : (R.exc e m : R α).bind k = .exc e m := nr rfl
@[simp] theorem R.bind_bad {α β : Type} (k : α → Mem → R β) : (R.bad : R α).bind k = .bad := nr rfl
def R.of {α : Type} (m : Mem) : Option α → R α
  | some a => .ok a m
  | none => .bad
@[simp] theorem R.of_some {α : Type} (m : Mem) (a : α) : R.of m (some a) = .ok a m := nr rfl
@[simp] theorem R.of_none {α : Type} (m : Mem) : (R.of m (none : Option α)) = .bad := nr rfl

abbrev E := Ev → Mem → R D
abbrev EL := Ev → Mem → R (List D)
abbrev ET := Ev → Mem → R Bool

/-- the largest size -/
abbrev LN : Nat := 16777216

def view (m : Mem) : D → D
  | .loc n => match m[n]? with
    | some (.lst xs) => .lst xs
    | some (.dct ps) => .dct ps
    | _ => .loc n
  | d => d
@[simp] theorem view_non (m : Mem) : view m .non = .non := nr rfl
@[simp] theorem view_bl (m : Mem) (b : Bool) : view m (.bl b) = .bl b := nr rfl
@[simp] theorem view_int (m : Mem) (i : Int) : view m (.int i) = .int i := nr rfl
@[simp] theorem view_str (m : Mem) (i : Str) : view m (.str i) = .str i := nr rfl
@[simp] theorem view_lst (m : Mem) (i : List D) : view m (.lst i) = .lst i := nr rfl
@[simp] theorem view_tup (m : Mem) (i : List D) : view m (.tup i) = .tup i := nr rfl
@[simp] theorem view_dct (m : Mem) (i : List (D × D)) : view m (.dct i) = .dct i := nr rfl

/-! ### expressions -/
def eVar (i : Nat) : E := fun ρ m => match ρ[i]? with
  | some (some d) => .ok d m
  | _ => .bad
def eC (d : D) : E := fun _ m => .ok d m
/-- two values, by views -/
def eOp (g : D → D → Option D) (a b : E) : E := fun ρ m => (a ρ m).bind fun x m => (b ρ m).bind fun y m => .of m (g (view m x) (view m y))
def eUn (g : D → Option D) (a : E) : E := fun ρ m => (a ρ m).bind fun x m => .of m (g (view m x))
def eCmp (g : D → D → Option Bool) (a b : E) : E := fun ρ m => (a ρ m).bind fun x m => (b ρ m).bind fun y m => .of m ((g (view m x) (view m y)).map D.bl)
def tCmp (g : D → D → Option Bool) (a b : E) : ET := fun ρ m => (a ρ m).bind fun x m => (b ρ m).bind fun y m => .of m (g (view m x) (view m y))
def eChain (g g' : D → D → Option Bool) (a b c : E) : E := fun ρ m => (a ρ m).bind fun x m => (b ρ m).bind fun y m =>
  (R.of m (g (view m x) (view m y))).bind fun k m => if k = true then (c ρ m).bind fun z m => .of m ((g' (view m y) (view m z)).map D.bl) else .ok (.bl false) m
def tChain (g g' : D → D → Option Bool) (a b c : E) : ET := fun ρ m => (a ρ m).bind fun x m => (b ρ m).bind fun y m =>
  (R.of m (g (view m x) (view m y))).bind fun k m => if k = true then (c ρ m).bind fun z m => .of m (g' (view m y) (view m z)) else .ok false m
/-- a value's truth -/
def dTruth : D → Option Bool
  | .non => some false
  | .bl b => some b
  | .int i => some (i != 0)
  | .str s => if s.length ≤ LN then some (s.length != 0) else none
  | .lst xs => some (!xs.isEmpty)
  | .tup xs => some (!xs.isEmpty)
  | _ => none
def tVal (a : E) : ET := fun ρ m => (a ρ m).bind fun x m => .of m (dTruth (view m x))
def tNot (t : ET) : ET := fun ρ m => (t ρ m).bind fun b m => .ok (!b) m
def tAnd (t u : ET) : ET := fun ρ m => (t ρ m).bind fun b m => if b = true then u ρ m else .ok false m
def tOr (t u : ET) : ET := fun ρ m => (t ρ m).bind fun b m => if b = true then .ok true m else u ρ m
/-- as values: the left one True or False -/
def dBool : D → Option Bool
  | .bl b => some b
  | _ => none
def eAnd (a b : E) : E := fun ρ m => (a ρ m).bind fun x m => (R.of m (dBool x)).bind fun k m => if k = true then b ρ m else .ok (.bl false) m
def eOr (a b : E) : E := fun ρ m => (a ρ m).bind fun x m => (R.of m (dBool x)).bind fun k m => if k = true then .ok (.bl true) m else b ρ m
def eNot (a : E) : E := fun ρ m => (a ρ m).bind fun x m => (R.of m (dBool x)).bind fun k m => .ok (.bl (!k)) m
def eIf (t : ET) (a b : E) : E := fun ρ m => (t ρ m).bind fun k m => if k = true then a ρ m else b ρ m
/-! lists of expressions -/
def lNil : EL := fun _ m => .ok [] m
def lCons (a : E) (r : EL) : EL := fun ρ m => (a ρ m).bind fun x m => (r ρ m).bind fun xs m => .ok (x :: xs) m
def eTup (l : EL) : E := fun ρ m => (l ρ m).bind fun xs m => if xs.length ≤ LN then .ok (.tup xs) m else .bad
/-- a new list: a tree, or (M) a cell, to be changed -/
def mkL (M : Bool) (xs : List D) (m : Mem) : R D := if M = true then .ok (.loc m.length) (m ++ [.lst xs]) else .ok (.lst xs) m
@[simp] theorem mkL_false (xs : List D) (m : Mem) : mkL false xs m = .ok (.lst xs) m := nr rfl
@[simp] theorem mkL_true (xs : List D) (m : Mem) : mkL true xs m = .ok (.loc m.length) (m ++ [.lst xs]) := nr rfl
def eLst (M : Bool) (l : EL) : E := fun ρ m => (l ρ m).bind fun xs m => if xs.length ≤ LN then mkL M xs m else .bad
/-- a cell that changes no more -/
def eFrz (a : E) : E := fun ρ m => (a ρ m).bind fun x m => match x with
  | .loc n => (match m[n]? with
    | some (.lst xs) => .ok (.lst xs) (m.set n .dead)
    | _ => .bad)
  | x => .ok x m
/-- built-ins by values: the arguments' views -/
def eFun (g : List D → Option D) (l : EL) : E := fun ρ m => (l ρ m).bind fun xs m => .of m (g (xs.map (view m)))
/-- built-ins that give a new list -/
def eFunL (M : Bool) (g : List D → Option (List D)) (l : EL) : E := fun ρ m => (l ρ m).bind fun xs m => (R.of m (g (xs.map (view m)))).bind fun ys m => mkL M ys m
/-! what is walked -/
/-- a list, a tuple, a text -/
def dItems : D → Option (List D)
  | .lst xs => some xs
  | .tup xs => some xs
  | .str s => some (s.cps.toList.map fun c => .str ⟨#[c]⟩)
  | _ => none
def iSeq (a : E) : EL := fun ρ m => (a ρ m).bind fun x m => .of m (dItems x)
def dRange (n : Int) : List D := (List.range n.toNat).map fun i => D.int (i : Nat)
def iRange (a : E) : EL := fun ρ m => (a ρ m).bind fun x m => match x with
  | .int n => if -(2 ^ 62) ≤ n ∧ n < 2 ^ 62 then .ok (dRange n) m else .bad
  | _ => .bad

/-! ### statements -/
inductive O where
  | nx (ρ : Ev) (m : Mem) | rt (d : D) (m : Mem) | bk (ρ : Ev) (m : Mem) | ct (ρ : Ev) (m : Mem) | exc (e : D) (ρ : Ev) (m : Mem) | bad
abbrev S := Ev → Mem → O
def R.then {α : Type} (r : R α) (ρ : Ev) (k : α → Mem → O) : O := match r with
  | .ok a m => k a m
  | .exc e m => .exc e ρ m
  | .bad => .bad
@[simp] theorem R.then_ok {α : Type} (a : α) (m : Mem) (ρ : Ev) (k : α → Mem → O) : (R.ok a m).then ρ k = k a m := nr rfl
@[simp] theorem R.then_exc {α : Type} (e : D) (m : Mem) (ρ : Ev) (k : α → Mem → O) : (R.exc e m : R α).then ρ k = .exc e ρ m := nr rfl
@[simp] theorem R.then_bad {α : Type} (ρ : Ev) (k : α → Mem → O) : (R.bad : R α).then ρ k = .bad := nr rfl
def sNext : S := fun ρ m => .nx ρ m
def sSeq (a b : S) : S := fun ρ m => match a ρ m with
  | .nx ρ m => b ρ m
  | o => o
def sIf (t : ET) (a b : S) : S := fun ρ m => (t ρ m).then ρ fun k m => if k = true then a ρ m else b ρ m
def sRet (a : E) : S := fun ρ m => (a ρ m).then ρ fun d m => .rt d m
def sRetN : S := fun _ m => .rt .non m
def sExpr (a : E) : S := fun ρ m => (a ρ m).then ρ fun _ m => .nx ρ m
def sBreak : S := fun ρ m => .bk ρ m
def sCont : S := fun ρ m => .ct ρ m
/-! targets -/
abbrev T := D → Ev → Option Ev
abbrev Ts := List D → Ev → Option Ev
def gName (i : Nat) : T := fun d ρ => some (ρ.set i (some d))
def gsNil : Ts := fun ds ρ => match ds with
  | [] => some ρ
  | _ => none
def gsCons (t : T) (u : Ts) : Ts := fun ds ρ => match ds with
  | d :: r => (t d ρ).bind fun ρ => u r ρ
  | [] => none
/-- n names from a tuple or a list -/
def gTup (n : Nat) (t : Ts) : T := fun d ρ => match d with
  | .tup xs => if xs.length = n then t xs ρ else none
  | .lst xs => if xs.length = n then t xs ρ else none
  | _ => none
def sAsg (a : E) (g : T) : S := fun ρ m => (a ρ m).then ρ fun d m => match g d ρ with
  | some ρ => .nx ρ m
  | none => .bad
def sSet (i : Nat) (a : E) : S := fun ρ m => (a ρ m).then ρ fun d m => .nx (ρ.set i (some d)) m
/-- two names at once -/
def sPar (i j : Nat) (a b : E) : S := fun ρ m => (a ρ m).then ρ fun x m => (b ρ m).then ρ fun y m => .nx ((ρ.set i (some x)).set j (some y)) m
/-! loops -/
def forL (g : T) (b : S) : List D → S
  | [], ρ, m => .nx ρ m
  | d :: ds, ρ, m => match g d ρ with
    | none => .bad
    | some ρ => match b ρ m with
      | .nx ρ m => forL g b ds ρ m
      | .ct ρ m => forL g b ds ρ m
      | .bk ρ m => .nx ρ m
      | o => o
def sFor (i : EL) (g : T) (b : S) : S := fun ρ m => (i ρ m).then ρ fun ds m => forL g b ds ρ m
def whileN (t : ET) (b : S) : Nat → S
  | 0, _, _ => .bad
  | n + 1, ρ, m => (t ρ m).then ρ fun k m => if k = true then (match b ρ m with
      | .nx ρ m => whileN t b n ρ m
      | .ct ρ m => whileN t b n ρ m
      | .bk ρ m => .nx ρ m
      | o => o) else .nx ρ m
/-- comprehension: the block's own slots vs are wiped; the element raises nothing -/
def wipeE (ρ : Ev) : List Nat → Ev
  | [] => ρ
  | v :: vs => (wipeE ρ vs).set v none
def compL (g : T) (t : ET) (e : E) (ρ : Ev) : List D → List D → Mem → R (List D)
  | [], acc, m => .ok acc m
  | d :: ds, acc, m => match g d ρ with
    | none => .bad
    | some ρ' => match t ρ' m with
      | .ok true m => (match e ρ' m with
        | .ok y m => if acc.length < LN then compL g t e ρ ds (acc ++ [y]) m else .bad
        | _ => .bad)
      | .ok false m => compL g t e ρ ds acc m
      | _ => .bad
def tYes : ET := fun _ m => .ok true m
def eComp (M : Bool) (i : EL) (g : T) (t : ET) (e : E) (vs : List Nat) : E := fun ρ m => (i ρ m).bind fun ds m => (compL g t e (wipeE ρ vs) ds [] m).bind fun ys m => mkL M ys m

/-! ### defs -/
abbrev F := List D → Mem → R D
def O.end : O → R D
  | .nx _ m => .ok .non m
  | .rt d m => .ok d m
  | .exc e _ m => .exc e m
  | _ => .bad
/-- a def with n slots: its parameters first -/
def runDef (n : Nat) (b : S) : F := fun ds m => (b (ds.map some ++ List.replicate (n - ds.length) none) m).end

mutual
def noLoc : D → Bool
  | .lst xs => noLocs xs
  | .tup xs => noLocs xs
  | .dct ps => noLocP ps
  | .obj _ fs => noLocF fs
  | .exc _ _ => false
  | .loc _ => false
  | .non => true | .bl _ => true | .int _ => true | .str _ => true | .cls _ => true | .ty _ => true
def noLocs : List D → Bool
  | [] => true
  | x :: xs => noLoc x && noLocs xs
def noLocP : List (D × D) → Bool
  | [] => true
  | (k, v) :: r => noLoc k && noLoc v && noLocP r
def noLocF : List (Str × D) → Bool
  | [] => true
  | (_, v) :: r => noLoc v && noLocF r
end
/-- a call that sees no cell of the caller's, and leaves none (M: the new list that it hands back is to be changed) -/
def eCall (M : Bool) (n : Nat) (f : F) (l : EL) : E := fun ρ m => (l ρ m).bind fun ds m => if ds.length = n ∧ noLocs ds = true then (match f ds [] with
  | .ok d m' => (match d with
    | .loc j => (match m'[j]? with
      | some (.lst xs) => if noLocs xs = true then mkL M xs m else .bad
      | _ => .bad)
    | d => if noLoc d = true ∧ M = false then .ok d m else .bad)
  | .exc e _ => .exc e m
  | .bad => .bad) else .bad

/-! ### operations by values -/
def okS (s : Str) : Bool := s.cps.all (· < 0x110000)
def dAdd : D → D → Option D
  | .int i, .int j => some (.int (i + j))
  | .str x, .str y => if x.length + y.length ≤ LN then some (.str (x ++ y)) else none
  | .lst xs, .lst ys => if xs.length + ys.length ≤ LN then some (.lst (xs ++ ys)) else none
  | .tup xs, .tup ys => if xs.length + ys.length ≤ LN then some (.tup (xs ++ ys)) else none
  | _, _ => none
def dSub : D → D → Option D
  | .int i, .int j => some (.int (i - j))
  | _, _ => none
def dMul : D → D → Option D
  | .int i, .int j => if (-(2 ^ 64) < i ∧ i < 2 ^ 64) ∨ (-(2 ^ 64) < j ∧ j < 2 ^ 64) then some (.int (i * j)) else none
  | .lst xs, .int k => if -(2 ^ 63) ≤ k ∧ k < 2 ^ 63 ∧ xs.length * k.toNat ≤ LN then some (.lst (List.replicate k.toNat xs).flatten) else none
  | .tup xs, .int k => if xs ≠ [] ∧ 2 ≤ k ∧ k ≤ 1000 ∧ xs.length ≤ 1000 then some (.tup (List.replicate k.toNat xs).flatten) else none
  | .str s, .int k => if -1000000 ≤ k ∧ k ≤ 1000000 ∧ s.length * k.toNat ≤ LN then some (.str ⟨(List.replicate k.toNat s.cps.toList).flatten.toArray⟩) else none
  | _, _ => none
def dMod : D → D → Option D
  | .int i, .int j => if 0 < j then some (.int (i % j)) else none
  | _, _ => none
def dDiv : D → D → Option D
  | .int i, .int j => if 0 < j ∧ j < 1073741824 then some (.int (i / j)) else none
  | _, _ => none
def dPow : D → D → Option D
  | .int i, .int j => if 0 ≤ j ∧ j ≤ 1000000 ∧ i.natAbs < 2 ^ 64 then some (.int (i ^ j.toNat)) else none
  | _, _ => none
def dNeg : D → Option D
  | .int i => some (.int (-i))
  | _ => none
/-! equality -/
mutual
def eqvD : D → D → Bool
  | .non, .non => true
  | .bl a, .bl b => a == b
  | .bl a, .int j => (if a then 1 else 0) == j
  | .int i, .bl b => i == (if b then 1 else 0)
  | .int i, .int j => i == j
  | .str x, .str y => x == y
  | .lst xs, .lst ys => eqvL xs ys
  | .tup xs, .tup ys => eqvL xs ys
  | _, _ => false
def eqvL : List D → List D → Bool
  | [], [] => true
  | x :: xs, y :: ys => eqvD x y && eqvL xs ys
  | _, _ => false
end
/-- plain data, at most so deep -/
def dataN : Nat → D → Bool
  | _, .non => true
  | _, .bl _ => true
  | _, .int _ => true
  | _, .str _ => true
  | n + 1, .lst xs => xs.all (dataN n)
  | n + 1, .tup xs => xs.all (dataN n)
  | _, _ => false
def isData (d : D) : Bool := dataN 16 d
/-- two empty dicts -/
def noDct : D → D → Option Bool
  | .dct [], .dct [] => some true
  | _, _ => none
def dEq (x y : D) : Option Bool := if isData x = true ∧ isData y = true then some (eqvD x y) else noDct x y
def dNe (x y : D) : Option Bool := (dEq x y).map (!·)
/-! order -/
def dLt : D → D → Option Bool
  | .int i, .int j => some (decide (i < j))
  | _, _ => none
def dLe : D → D → Option Bool
  | .int i, .int j => some (decide (i ≤ j))
  | _, _ => none
def dGt : D → D → Option Bool
  | .int i, .int j => some (decide (j < i))
  | _, _ => none
def dGe : D → D → Option Bool
  | .int i, .int j => some (decide (j ≤ i))
  | _, _ => none
/-! is -/
def dIs : D → D → Option Bool
  | .non, .non => some true
  | .bl a, .bl b => some (decide (a = b))
  | .bl _, .non => some false
  | .int _, .non => some false
  | .str _, .non => some false
  | .lst _, .non => some false
  | .tup _, .non => some false
  | .dct _, .non => some false
  | .obj _ _, .non => some false
  | .exc _ _, .non => some false
  | .loc _, .non => some false
  | .non, .bl _ => some false
  | _, _ => none
def dIsNot (x y : D) : Option Bool := (dIs x y).map (!·)
/-! in -/
def flatB : D → Bool
  | .non => true
  | .bl _ => true
  | .int _ => true
  | .str _ => true
  | _ => false
def dIn (x y : D) : Option Bool := match y with
  | .str z => (match x with
    | .str s => (match s.cps.toList with
      | [c] => some (decide (c ∈ z.cps.toList))
      | _ => none)
    | _ => none)
  | .lst ys => if isData x = true ∧ isData (.lst ys) = true then some (ys.any fun y => eqvD y x) else none
  | .tup ys => if flatB x = true ∧ ys.all flatB = true then some (ys.any fun y => eqvD y x) else none
  | _ => none
def dNotIn (x y : D) : Option Bool := (dIn x y).map (!·)
/-! places -/
def dIxN (n : Nat) (i : Int) : Option Nat := if 0 ≤ i then (if i < n then some i.toNat else none) else if -(n : Int) ≤ i then some (i + n).toNat else none
def dIx : D → D → Option D
  | .lst xs, .int i => (dIxN xs.length i).bind fun j => xs[j]?
  | .tup xs, .int i => (dIxN xs.length i).bind fun j => xs[j]?
  | .str s, .int i => if s.length ≤ LN then ((dIxN s.cps.toList.length i).bind fun j => s.cps.toList[j]?).map fun c => .str ⟨#[c]⟩ else none
  | _, _ => none
/-- a bound of a slice as a place among n -/
def sIxD (n d : Nat) : Option Int → Nat
  | none => d
  | some i => if i < 0 then (i + n).toNat else min i.toNat n
def cutD {α : Type} (xs : List α) (lo hi : Option Int) : List α := (xs.drop (sIxD xs.length 0 lo)).take (sIxD xs.length xs.length hi - sIxD xs.length 0 lo)
def dCut (lo hi : Option Int) : D → Option D
  | .lst xs => some (.lst (cutD xs lo hi))
  | .tup xs => some (.tup (cutD xs lo hi))
  | .str s => if s.length ≤ LN then some (.str ⟨(cutD s.cps.toList lo hi).toArray⟩) else none
  | _ => none
/-- a part of a slice -/
abbrev EO := Ev → Mem → R (Option Int)
def oNo : EO := fun _ m => .ok none m
def oSome (a : E) : EO := fun ρ m => (a ρ m).bind fun x m => match x with
  | .int i => .ok (some i) m
  | _ => .bad
def eCut (a : E) (lo hi : EO) : E := fun ρ m => (a ρ m).bind fun x m => (lo ρ m).bind fun l m => (hi ρ m).bind fun h m => .of m (dCut l h (view m x))
/-- .. of a list: a new list that is to be changed -/
def eCutM (a : E) (lo hi : EO) : E := fun ρ m => (a ρ m).bind fun x m => (lo ρ m).bind fun l m => (hi ρ m).bind fun h m => match view m x with
  | .lst xs => mkL true (cutD xs l h) m
  | _ => .bad
/-- backwards -/
def dRev : D → Option D
  | .lst xs => some (.lst xs.reverse)
  | .tup xs => some (.tup xs.reverse)
  | .str s => if s.length ≤ LN then some (.str ⟨s.cps.toList.reverse.toArray⟩) else none
  | _ => none
/-! built-ins -/
def dLen : List D → Option D
  | [.str s] => if s.length ≤ LN then some (.int s.length) else none
  | [.lst xs] => some (.int xs.length)
  | [.tup xs] => some (.int xs.length)
  | _ => none
def dInt : List D → Option D
  | [.int i] => some (.int i)
  | [.bl b] => some (.int (if b then 1 else 0))
  | _ => none
def dList : List D → Option (List D)
  | [.lst xs] => some xs
  | [.tup xs] => some xs
  | [.str s] => if s.length ≤ LN then some (s.cps.toList.map fun c => .str ⟨#[c]⟩) else none
  | _ => none
def dTuple : List D → Option D
  | [.lst xs] => some (.tup xs)
  | [.tup xs] => some (.tup xs)
  | _ => none
def dMax : List D → Option D
  | [.int i, .int j] => some (.int (if j > i then j else i))
  | _ => none
def dMin : List D → Option D
  | [.int i, .int j] => some (.int (if j < i then j else i))
  | _ => none
def dBools : List D → Option (List Bool)
  | [] => some []
  | .bl b :: r => (dBools r).map (b :: ·)
  | _ => none
def dInts : List D → Option (List Int)
  | [] => some []
  | .int b :: r => (dInts r).map (b :: ·)
  | _ => none
def dStrs : List D → Option (List Str)
  | [] => some []
  | .str b :: r => (dStrs r).map (b :: ·)
  | _ => none
def dAll : List D → Option D
  | [.lst xs] => (dBools xs).map fun bs => .bl (bs.all id)
  | _ => none
def dSum : List D → Option D
  | [.lst xs] => (dInts xs).map fun bs => .int bs.sum
  | _ => none
/-- texts by their codes -/
def leS (x y : Str) : Bool := decide (x.cps.toList ≤ y.cps.toList)
def dSortS : List D → Option (List D)
  | [.lst xs] => (dStrs xs).bind fun ss => if ss.length < 64 then some ((ss.mergeSort leS).map D.str) else none
  | _ => none
/-- isinstance with a built-in class -/
def tyIs (T : String) : D → Option Bool
  | .non => some false
  | .bl _ => some (T == "bool" || T == "int")
  | .int _ => some (T == "int")
  | .str _ => some (T == "str")
  | .lst _ => some (T == "list")
  | .tup _ => some (T == "tuple")
  | .dct _ => some (T == "dict")
  | _ => none
def dIsInst : List D → Option D
  | [x, .ty T] => if T ∈ ["bool", "int", "str", "list", "tuple", "dict"] then (tyIs T x).map D.bl else none
  | _ => none
/-! methods of texts and lists -/
def eMeth (T : String) (g : D → List D → Option D) (a : E) (l : EL) : E := fun ρ m => (a ρ m).bind fun x m => if tyIs T (view m x) = some true then (l ρ m).bind fun xs m => .of m (g (view m x) (xs.map (view m))) else .bad
def mJoin : D → List D → Option D
  | .str a, [.lst xs] => (dStrs xs).bind fun ss => if (ss.map (·.length)).sum + ss.length * a.length ≤ LN then some (.str (Str.join a ss)) else none
  | .str a, [.tup xs] => (dStrs xs).bind fun ss => if (ss.map (·.length)).sum + ss.length * a.length ≤ LN then some (.str (Str.join a ss)) else none
  | _, _ => none
/-- the first place of equal data -/
def findD (x : D) : List D → Option Nat
  | [] => none
  | y :: ys => if eqvD y x = true then some 0 else (findD x ys).map (· + 1)
def mIndex : D → List D → Option D
  | .lst xs, [y] => if isData (.lst xs) = true ∧ isData y = true then (findD y xs).map fun j => .int (j : Nat) else none
  | _, _ => none
/-! cells that change -/
/-- xs.append(e) -/
def eAppend (a : E) (l : E) : E := fun ρ m => (a ρ m).bind fun x m => if tyIs "list" (view m x) = some true then (l ρ m).bind fun y m => (match x with
  | .loc n => (match m[n]? with
    | some (.lst xs) => if xs.length < LN then .ok .non (m.set n (.lst (xs ++ [y]))) else .bad
    | _ => .bad)
  | _ => .bad) else .bad
/-- xs[i] = e: the value first -/
def sSetIx (v o i : E) : S := fun ρ m => (v ρ m).then ρ fun y m => (o ρ m).then ρ fun x m => (i ρ m).then ρ fun k m => match x, k with
  | .loc n, .int k => (match m[n]? with
    | some (.lst xs) => (match dIxN xs.length k with
      | some j => .nx ρ (m.set n (.lst (xs.set j y)))
      | none => .bad)
    | _ => .bad)
  | _, _ => .bad

/-! ### more that is walked -/
def dEnum (xs : List D) : List D := xs.zipIdx.map fun p => .tup [.int (p.2 : Nat), p.1]
def iEnum (l : EL) : EL := fun ρ m => (l ρ m).bind fun ds m => match ds with
  | [.lst xs] => .ok (dEnum xs) m
  | _ => .bad
def dZip (xs ys : List D) : List D := (xs.zip ys).map fun p => .tup [p.1, p.2]
def iZip (l : EL) : EL := fun ρ m => (l ρ m).bind fun ds m => match ds with
  | [x, y] => R.of m ((dItems x).bind fun xs => (dItems y).bind fun ys => some (dZip xs ys))
  | _ => .bad
/-- zip(a, reversed(b)), b a tuple -/
def dTupI : D → Option (List D)
  | .tup xs => some xs
  | _ => none
def iZipR (a b : E) : EL := fun ρ m => (a ρ m).bind fun x m => (b ρ m).bind fun y m => R.of m ((dItems x).bind fun xs => (dTupI y).bind fun ys => some (dZip xs ys.reverse))
/-! methods more -/
def mIdxS : D → List D → Option D
  | .str s, [.str z] => (match z.cps.toList with
    | [c] => if c ∈ s.cps.toList then some (.int (s.cps.toList.idxOf c : Nat)) else none
    | _ => none)
  | _, _ => none

/-! calls that see the caller's cells; a name's cell that changes no more -/
def eCallW (n : Nat) (f : F) (l : EL) : E := fun ρ m => (l ρ m).bind fun ds m => if ds.length = n then f ds m else .bad
def frzAt (i : Nat) (ρ : Ev) (m : Mem) : O := match ρ[i]? with
  | some (some (.loc n)) => (match m[n]? with
    | some (.lst xs) => .nx (ρ.set i (some (.lst xs))) (m.set n .dead)
    | _ => .nx ρ m)
  | _ => .nx ρ m
/-- two lists put together: a new one that is to be changed -/
def eCatM (a b : E) : E := fun ρ m => (a ρ m).bind fun x m => (b ρ m).bind fun y m => match view m x, view m y with
  | .lst xs, .lst ys => if xs.length + ys.length ≤ LN then mkL true (xs ++ ys) m else .bad
  | _, _ => .bad
/-- {}, never changed -/
def eDct0 : E := fun _ m => .ok (.dct []) m
/-- b, then the name's cell changes no more -/
def sThenF (b : S) (i : Nat) : S := fun ρ m => match b ρ m with
  | .nx ρ m => frzAt i ρ m
  | o => o
/-- what names no cell -/
def hide : Option D → Option D
  | some d => if noLoc d = true then some d else none
  | none => none
/-- a value of plain kind, made while the name i's cell (to be changed later) lies still -/
def eLend (i : Nat) (f : E) : E := fun ρ m => match ρ[i]? with
  | some (some (.loc n)) => (match m[n]? with
    | some (.lst xs) => if noLocs xs = true then (match f ((ρ.map hide).set i (some (.lst xs))) [] with
      | .ok d _ => if flatB d = true then .ok d m else .bad
      | _ => .bad) else .bad
    | _ => .bad)
  | _ => .bad

/-! errors -/
mutual
/-- no error within -/
def noX : D → Bool
  | .lst xs => noXs xs
  | .tup xs => noXs xs
  | .dct ps => noXP ps
  | .obj _ fs => noXF fs
  | .exc _ _ => false
  | .loc _ => true
  | .non => true | .bl _ => true | .int _ => true | .str _ => true | .cls _ => true | .ty _ => true
def noXs : List D → Bool
  | [] => true
  | x :: xs => noX x && noXs xs
def noXP : List (D × D) → Bool
  | [] => true
  | (k, v) :: r => noX k && noX v && noXP r
def noXF : List (Str × D) → Bool
  | [] => true
  | (_, v) :: r => noX v && noXF r
end
def unD : Option D → Option D
  | some d => if noX d = true then some d else none
  | none => none
def unC : Cell → Cell
  | .lst xs => if noXs xs = true then .lst xs else .dead
  | .dct ps => if noXP ps = true then .dct ps else .dead
  | .obj c fs => if noXF fs = true then .obj c fs else .dead
  | .dead => .dead
/-- what of the slots and the cells knows no error -/
def unX (ρ : Ev) : Ev := ρ.map unD
def unM (m : Mem) : Mem := m.map unC
/-- raise C('..') -/
def sRaise (c : Str) : S := fun ρ m => .exc (.exc c []) ρ m
/-- raise C(a) -/
def sRaise1 (c : Str) (a : E) : S := fun ρ m => (a ρ m).then ρ fun _ m => .exc (.exc c []) ρ m
/-- raise C(a), whose __init__ keeps it as field f -/
def sRaiseF (c f : Str) (a : E) : S := fun ρ m => (a ρ m).then ρ fun d m => if flatB d = true then .exc (.exc c [(f, d)]) ρ m else .bad
/-- e.f, e the error that the suite holds -/
def dXf (c f : Str) : D → Option D
  | .exc c' fs => if c' = c then (match fs.lookup f with
    | some (.int i) => some (.int i)
    | _ => none) else none
  | _ => none
/-- what of the classes of errors is told: (c, d): is c under d -/
abbrev XTab := List ((Str × Str) × Bool)
/-- isinstance(e, d), e the error that the suite holds -/
def dIsX (t : XTab) : List D → Option D
  | [.exc c _, .cls d] => (t.lookup (c, d)).map D.bl
  | [.exc c _, .ty n] => if n = "ValueError" then (t.lookup (c, ("ValueError" : Str))).map D.bl else none
  | _ => none
def outX (i : Option Nat) (ρ : Ev) : Ev := match i with
  | some i => (unX ρ).set i none
  | none => unX ρ
def inX (i : Option Nat) (e : D) (ρ : Ev) : Ev := match i with
  | some i => ρ.set i (some e)
  | none => ρ
def endX (i : Option Nat) : O → O
  | .nx ρ m => .nx (outX i ρ) (unM m)
  | .bk ρ m => .bk (outX i ρ) (unM m)
  | .ct ρ m => .ct (outX i ρ) (unM m)
  | .rt d m => if noX d = true then .rt d (unM m) else .bad
  | _ => .bad
/-- try: b / except d (as i): su / else: el -/
def sTry (t : XTab) (d : Str) (i : Option Nat) (b su el : S) : S := fun ρ m => match b ρ m with
  | .nx ρ m => el ρ m
  | .exc (.exc c fs) ρ1 m1 => (match t.lookup (c, d) with
    | some true => endX i (su (inX i (.exc c fs) ρ1) m1)
    | some false => .exc (.exc c fs) ρ1 m1
    | none => .bad)
  | .exc _ _ _ => .bad
  | o => o
/-! sets, asked at once -/
def dedupL {α : Type} [DecidableEq α] : List α → List α
  | [] => []
  | x :: l => if x ∈ l then dedupL l else x :: dedupL l
/-- len(set(x)) -/
def dLenSet (d : D) : Option D := match (dItems d).bind dStrs with
  | some ks => if ks.length < 4000 then some (.int ((dedupL ks).length : Nat)) else none
  | none => match (dItems d).bind dInts with
    | some ks => if ks.length < 4000 then some (.int ((dedupL ks).length : Nat)) else none
    | none => none
/-- sorted(set(x)) -/
def dSortSet (d : D) : Option (List D) := match (dItems d).bind dStrs with
  | some ks => if ks.length < 4000 then some (((dedupL ks).mergeSort leS).map D.str) else none
  | none => match (dItems d).bind dInts with
    | some ks => if ks.length < 4000 then some (((dedupL ks).mergeSort fun a b => decide (a ≤ b)).map D.int) else none
    | none => none
def eSortSet (M : Bool) (a : E) : E := fun ρ m => (a ρ m).bind fun x m => (R.of m (dSortSet (view m x))).bind fun ys m => mkL M ys m
/-- behind b these slots are wiped -/
def sW (b : S) (vs : List Nat) : S := fun ρ m => match b ρ m with
  | .nx ρ m => .nx (wipeE ρ vs) m
  | .ct ρ m => .ct (wipeE ρ vs) m
  | .bk ρ m => .bk (wipeE ρ vs) m
  | o => o
/-- s.upper() -/
def upC (c : Nat) : Nat := if 97 ≤ c ∧ c ≤ 122 then c - 32 else c
def mUpper : D → List D → Option D
  | .str s, [] => (match s.cps.toList with
    | [c] => if c < 128 then some (.str ⟨#[upC c]⟩) else none
    | _ => none)
  | _, _ => none
end TT

set_option maxHeartbeats 2000000
/-! T1: the mirror's trees and cells over the heap of HandS; the judgements; blocks, loops, calls. -/
namespace TT
open PySem PySem.Spec PyProof.Rows L2

/-- the exception that an except suite holds: where it lies, its class, its own dict -/
abbrev XO := Option (Addr × Value × Option Addr)
structure Ct where
  K : PySem.W.Frag
  mg : Str → Option Value
  xo : XO
  B : Hp
  G0 : Hp
  W : WX

def flatD : D → Option V
  | .non => some .non
  | .bl b => some (.bl b)
  | .int i => some (.int i)
  | .str s => some (.str s)
  | _ => none
/-- fields of an exception: flat -/
def FlatF : List (Str × D) → List (Str × V) → Prop := Paired fun p q => p.1 = q.1 ∧ flatD p.2 = some q.2
/-- an error of the class c with the fields fs: its class, its own dict -/
def ExcAt (mg : Str → Option Value) (e : D) (cc : Value) (dd : Option Addr) (H : Hp) : Prop := match e with
  | .exc c fs => ∃ C, mg c = some (.ref C) ∧ cc = .ref C ∧ ((fs = [] ∧ dd = none) ∨ (fs ≠ [] ∧ ∃ d fv, dd = some d ∧ H d = some (.xd fv) ∧ FlatF fs fv))
  | _ => False

section
variable (K : PySem.W.Frag) (mg : Str → Option Value) (xo : XO) (G : Hp) (μ : List Addr)
mutual
inductive Rep : D → V → Prop
  | non : Rep .non .non
  | bl (b : Bool) : Rep (.bl b) (.bl b)
  | int (i : Int) : Rep (.int i) (.int i)
  | str (s : Str) (h : okS s = true) : Rep (.str s) (.str s)
  | ty (n : String) : Rep (.ty n) (.ty n)
  | cls {c : Str} {C : Addr} : mg c = some (.ref C) → Rep (.cls c) (.ref C)
  | lst {a : Addr} {vs : List V} {ds : List D} : SqL K G a vs → RepL ds vs → Rep (.lst ds) (.ref a)
  | tup {a : Addr} {vs : List V} {ds : List D} : SqT K G a vs → RepL ds vs → Rep (.tup ds) (.ref a)
  | dct {a : Addr} {kvs : List (Key × V)} {ps : List (D × D)} : G a = some (.dK kvs) → RepP ps kvs → Rep (.dct ps) (.ref a)
  | obj {a C dx : Addr} {fv : List (Str × V)} {c : Str} {fs : List (Str × D)} : mg c = some (.ref C) → G a = some (.ins C dx fv) → G dx = some (.own a) → RepF fs fv → Rep (.obj c fs) (.ref a)
  | exc {a : Addr} {cc : Value} {dd : Option Addr} {c : Str} {fs : List (Str × D)} : xo = some (a, cc, dd) → ExcAt mg (.exc c fs) cc dd G → Rep (.exc c fs) (.ref a)
  | loc {n : Nat} {a : Addr} : μ[n]? = some a → Rep (.loc n) (.ref a)
inductive RepL : List D → List V → Prop
  | nil : RepL [] []
  | cons {d : D} {v : V} {ds : List D} {vs : List V} : Rep d v → RepL ds vs → RepL (d :: ds) (v :: vs)
inductive RepP : List (D × D) → List (Key × V) → Prop
  | nil : RepP [] []
  | int {i : Int} {d : D} {v : V} {ps : List (D × D)} {kvs : List (Key × V)} : Rep d v → RepP ps kvs → RepP ((.int i, d) :: ps) ((.inl i, v) :: kvs)
  | str {s : Str} {d : D} {v : V} {ps : List (D × D)} {kvs : List (Key × V)} : okS s = true → Rep d v → RepP ps kvs → RepP ((.str s, d) :: ps) ((.inr s, v) :: kvs)
inductive RepF : List (Str × D) → List (Str × V) → Prop
  | nil : RepF [] []
  | cons {f : Str} {d : D} {v : V} {fs : List (Str × D)} {fv : List (Str × V)} : Rep d v → RepF fs fv → RepF ((f, d) :: fs) ((f, v) :: fv)
end
end

section
variable {K : PySem.W.Frag} {mg : Str → Option Value} {xo xo' : XO} {G G' : Hp} {μ μ' : List Addr}
theorem Same.tupS {K : PySem.W.Frag} {H H' : Hp} {a : Addr} {xs : List V} (e : Same H H') (h : SqT K H a xs) : SqT K H' a xs := by
  rcases h with (h | ⟨o, h⟩) | h
  · exact .inl (.inl (e _ _ h))
  · exact .inl (.inr ⟨o, e _ _ h⟩)
  · exact .inr h
theorem ExcAt.mono {e : D} {cc : Value} {dd : Option Addr} {H H' : Hp} (s : Same H H') (h : ExcAt mg e cc dd H) : ExcAt mg e cc dd H' := by
  cases e with
  | exc c fs =>
    obtain ⟨C, h1, h2, h3⟩ := h
    refine ⟨C, h1, h2, ?_⟩
    rcases h3 with h3 | ⟨h0, d, fv, h3, h4, h5⟩
    · exact .inl h3
    · exact .inr ⟨h0, d, fv, h3, s _ _ h4, h5⟩
  | _ => exact h.elim
theorem pre_get {μ μ' : List Addr} (p : μ <+: μ') {n : Nat} {a : Addr} (h : μ[n]? = some a) : μ'[n]? = some a := by
  obtain ⟨t, rfl⟩ := p
  rw [List.getElem?_append_left (List.getElem?_eq_some_iff.mp h).1]
  exact h
mutual
theorem Rep.mono (s : Same G G') (p : μ <+: μ') (hx : xo = none ∨ xo = xo') : ∀ {d : D} {v : V}, Rep K mg xo G μ d v → Rep K mg xo' G' μ' d v
  | _, _, .non => .non
  | _, _, .bl b => .bl b
  | _, _, .int i => .int i
  | _, _, .str x h => .str x h
  | _, _, .ty n => .ty n
  | _, _, .cls h => .cls h
  | _, _, .lst h t => .lst (s.seq h) (RepL.mono s p hx t)
  | _, _, .tup h t => .tup (Same.tupS s h) (RepL.mono s p hx t)
  | _, _, .dct h t => .dct (s _ _ h) (RepP.mono s p hx t)
  | _, _, .obj h1 h2 h3 t => .obj h1 (s _ _ h2) (s _ _ h3) (RepF.mono s p hx t)
  | _, _, .exc h1 h2 => by
    rcases hx with e | e
    · rw [e] at h1
      cases h1
    · exact .exc (e ▸ h1) (h2.mono s)
  | _, _, .loc h => .loc (pre_get p h)
theorem RepL.mono (s : Same G G') (p : μ <+: μ') (hx : xo = none ∨ xo = xo') : ∀ {d : List D} {v : List V}, RepL K mg xo G μ d v → RepL K mg xo' G' μ' d v
  | _, _, .nil => .nil
  | _, _, .cons h t => .cons (Rep.mono s p hx h) (RepL.mono s p hx t)
theorem RepP.mono (s : Same G G') (p : μ <+: μ') (hx : xo = none ∨ xo = xo') : ∀ {d : List (D × D)} {v : List (Key × V)}, RepP K mg xo G μ d v → RepP K mg xo' G' μ' d v
  | _, _, .nil => .nil
  | _, _, .int h t => .int (Rep.mono s p hx h) (RepP.mono s p hx t)
  | _, _, .str o h t => .str o (Rep.mono s p hx h) (RepP.mono s p hx t)
theorem RepF.mono (s : Same G G') (p : μ <+: μ') (hx : xo = none ∨ xo = xo') : ∀ {d : List (Str × D)} {v : List (Str × V)}, RepF K mg xo G μ d v → RepF K mg xo' G' μ' d v
  | _, _, .nil => .nil
  | _, _, .cons h t => .cons (Rep.mono s p hx h) (RepF.mono s p hx t)
end
mutual
/-- where no cell is named the cells don't matter -/
theorem Rep.off : ∀ {d : D} {v : V}, noLoc d = true → Rep K mg xo G μ d v → Rep K mg xo G μ' d v
  | _, _, _, .non => .non
  | _, _, _, .bl b => .bl b
  | _, _, _, .int i => .int i
  | _, _, _, .str x h => .str x h
  | _, _, _, .ty n => .ty n
  | _, _, _, .cls h => .cls h
  | _, _, n, .lst h t => .lst h (RepL.off (by simpa [noLoc] using n) t)
  | _, _, n, .tup h t => .tup h (RepL.off (by simpa [noLoc] using n) t)
  | _, _, n, .dct h t => .dct h (RepP.off (by simpa [noLoc] using n) t)
  | _, _, n, .obj h1 h2 h3 t => .obj h1 h2 h3 (RepF.off (by simpa [noLoc] using n) t)
  | _, _, _, .exc h1 h2 => .exc h1 h2
  | _, _, n, .loc h => by simp [noLoc] at n
theorem RepL.off : ∀ {d : List D} {v : List V}, noLocs d = true → RepL K mg xo G μ d v → RepL K mg xo G μ' d v
  | _, _, _, .nil => .nil
  | _, _, n, .cons h t => by
    simp only [noLocs, Bool.and_eq_true] at n
    exact .cons (Rep.off n.1 h) (RepL.off n.2 t)
theorem RepP.off : ∀ {d : List (D × D)} {v : List (Key × V)}, noLocP d = true → RepP K mg xo G μ d v → RepP K mg xo G μ' d v
  | _, _, _, .nil => .nil
  | _, _, n, .int h t => by
    simp only [noLocP, noLoc, Bool.and_eq_true] at n
    exact .int (Rep.off n.1.2 h) (RepP.off n.2 t)
  | _, _, n, .str o h t => by
    simp only [noLocP, noLoc, Bool.and_eq_true] at n
    exact .str o (Rep.off n.1.2 h) (RepP.off n.2 t)
theorem RepF.off : ∀ {d : List (Str × D)} {v : List (Str × V)}, noLocF d = true → RepF K mg xo G μ d v → RepF K mg xo G μ' d v
  | _, _, _, .nil => .nil
  | _, _, n, .cons h t => by
    simp only [noLocF, Bool.and_eq_true] at n
    exact .cons (Rep.off n.1 h) (RepF.off n.2 t)
end
theorem RepL.length : ∀ {d : List D} {v : List V}, RepL K mg xo G μ d v → d.length = v.length
  | _, _, .nil => rfl
  | _, _, .cons _ t => by rw [List.length_cons, List.length_cons, RepL.length t]
theorem RepL.get : ∀ {ds : List D} {vs : List V} {i : Nat} {d : D}, RepL K mg xo G μ ds vs → ds[i]? = some d → ∃ v, vs[i]? = some v ∧ Rep K mg xo G μ d v
  | _, _, _, _, .nil, e => by simp at e
  | _, _, 0, _, .cons r _, e => by simp at e; subst e; exact ⟨_, rfl, r⟩
  | _, _, i + 1, _, .cons _ t, e => by
    obtain ⟨v, h1, h2⟩ := RepL.get (i := i) t (by simpa using e)
    exact ⟨v, by simpa using h1, h2⟩
theorem RepL.getV : ∀ {ds : List D} {vs : List V} {i : Nat} {v : V}, RepL K mg xo G μ ds vs → vs[i]? = some v → ∃ d, ds[i]? = some d ∧ Rep K mg xo G μ d v
  | _, _, _, _, .nil, e => by simp at e
  | _, _, 0, _, .cons r _, e => by simp at e; subst e; exact ⟨_, rfl, r⟩
  | _, _, i + 1, _, .cons _ t, e => by
    obtain ⟨v, h1, h2⟩ := RepL.getV (i := i) t (by simpa using e)
    exact ⟨v, by simpa using h1, h2⟩
theorem RepL.append : ∀ {ds es : List D} {vs ws : List V}, RepL K mg xo G μ ds vs → RepL K mg xo G μ es ws → RepL K mg xo G μ (ds ++ es) (vs ++ ws)
  | _, _, _, _, .nil, s => s
  | _, _, _, _, .cons r t, s => .cons r (RepL.append t s)
theorem RepL.take : ∀ {ds : List D} {vs : List V} (n : Nat), RepL K mg xo G μ ds vs → RepL K mg xo G μ (ds.take n) (vs.take n)
  | _, _, 0, _ => .nil
  | _, _, _ + 1, .nil => .nil
  | _, _, n + 1, .cons r t => .cons r (RepL.take n t)
theorem RepL.drop : ∀ {ds : List D} {vs : List V} (n : Nat), RepL K mg xo G μ ds vs → RepL K mg xo G μ (ds.drop n) (vs.drop n)
  | _, _, 0, r => r
  | _, _, _ + 1, .nil => .nil
  | _, _, n + 1, .cons _ t => RepL.drop n t
theorem RepL.reverse {ds : List D} {vs : List V} (h : RepL K mg xo G μ ds vs) : RepL K mg xo G μ ds.reverse vs.reverse := by
  induction ds generalizing vs with
  | nil => cases h; exact .nil
  | cons d ds ih =>
    cases h with
    | cons r t =>
      rw [List.reverse_cons, List.reverse_cons]
      exact (ih t).append (.cons r .nil)
theorem RepL.set : ∀ {ds : List D} {vs : List V} {d : D} {v : V} (i : Nat), RepL K mg xo G μ ds vs → Rep K mg xo G μ d v → RepL K mg xo G μ (ds.set i d) (vs.set i v)
  | _, _, _, _, _, .nil, _ => .nil
  | _, _, _, _, 0, .cons _ t, r => .cons r t
  | _, _, _, _, i + 1, .cons q t, r => .cons q (RepL.set i t r)
theorem RepL.dropLast {ds : List D} {vs : List V} (h : RepL K mg xo G μ ds vs) : RepL K mg xo G μ ds.dropLast vs.dropLast := by
  rw [List.dropLast_eq_take, List.dropLast_eq_take, h.length]
  exact h.take _
theorem RepL.map {α : Type} (f : α → D) (g : α → V) (hr : ∀ x, Rep K mg xo G μ (f x) (g x)) : ∀ xs : List α, RepL K mg xo G μ (xs.map f) (xs.map g)
  | [] => .nil
  | x :: xs => .cons (hr x) (RepL.map f g hr xs)
end

/-- a cell as it stands -/
def CellOk (c : Ct) (G : Hp) (μ : List Addr) (H : Hp) (a : Addr) : Cell → Prop
  | .dead => True
  | .lst xs => G a = none ∧ c.B a = none ∧ ∃ vs, H a = some (.lst vs) ∧ RepL c.K c.mg c.xo G μ xs vs
  | .dct ps => G a = none ∧ c.B a = none ∧ ∃ kvs, H a = some (.dK kvs) ∧ RepP c.K c.mg c.xo G μ ps kvs
  | .obj n fs => G a = none ∧ c.B a = none ∧ ∃ C dx fv, c.mg n = some (.ref C) ∧ H a = some (.ins C dx fv) ∧ H dx = some (.own a) ∧ G dx = none ∧ c.B dx = none ∧ RepF c.K c.mg c.xo G μ fs fv
structure MemOk (c : Ct) (G : Hp) (μ : List Addr) (m : Mem) (H : Hp) : Prop where
  gh : Same G H
  bh : Same c.B H
  g0 : Same c.G0 G
  gb : ∀ a o, c.B a = some o → c.G0 a = none → G a = none
  ml : μ.length = m.length
  nd : μ.Nodup
  cell : ∀ (n : Nat) (a : Addr) (k : Cell), μ[n]? = some a → m[n]? = some k → CellOk c G μ H a k
  used : ∀ a ∈ μ, H a ≠ none
  mb : ∀ a ∈ μ, c.B a = none
structure Sim (c : Ct) (G : Hp) (μ : List Addr) (ρ : Ev) (m : Mem) (σ : L2.St) (H : Hp) : Prop where
  mem : MemOk c G μ m H
  env : ∀ (i : Nat) (d : D), ρ[i]? = some (some d) → ∃ v, σ[i]? = some (some v) ∧ Rep c.K c.mg c.xo G μ d v
  len : ρ.length = σ.length
/-- growth: earlier values keep their meaning -/
structure Gr (G : Hp) (μ : List Addr) (G' : Hp) (μ' : List Addr) : Prop where
  g : Same G G'
  m : μ <+: μ'
theorem Gr.refl {G : Hp} {μ : List Addr} : Gr G μ G μ := ⟨Same.refl _, List.prefix_refl _⟩
theorem Gr.trans {G G1 G2 : Hp} {μ μ1 μ2 : List Addr} (a : Gr G μ G1 μ1) (b : Gr G1 μ1 G2 μ2) : Gr G μ G2 μ2 := ⟨a.g.trans b.g, a.m.trans b.m⟩
theorem Rep.gr {K : PySem.W.Frag} {mg : Str → Option Value} {xo : XO} {G G' : Hp} {μ μ' : List Addr} {d : D} {v : V} (h : Rep K mg xo G μ d v) (g : Gr G μ G' μ') : Rep K mg xo G' μ' d v := Rep.mono g.g g.m (.inr rfl) h
theorem RepL.gr {K : PySem.W.Frag} {mg : Str → Option Value} {xo : XO} {G G' : Hp} {μ μ' : List Addr} {d : List D} {v : List V} (h : RepL K mg xo G μ d v) (g : Gr G μ G' μ') : RepL K mg xo G' μ' d v := RepL.mono g.g g.m (.inr rfl) h

section
variable {c : Ct} {G G' : Hp} {μ μ' : List Addr} {ρ ρ' : Ev} {m m' : Mem} {σ σ' : L2.St} {H H' : Hp}
/-- fresh addresses -/
theorem MemOk.fresh (h : MemOk c G μ m H) {p : Addr} (hp : H p = none) : G p = none ∧ c.B p = none ∧ p ∉ μ := by
  refine ⟨h.gh.free hp, h.bh.free hp, fun q => h.used p q hp⟩
theorem CellOk.mono {a : Addr} {k : Cell} (g : Gr G μ G' μ') (hg : G a = none → G' a = none) (hd : ∀ b, H b = some (.own a) → G b = none → G' b = none) (hH : ∀ b o, (b = a ∨ o = .own a) → H b = some o → H' b = some o) (h : CellOk c G μ H a k) : CellOk c G' μ' H' a k := by
  cases k with
  | dead => trivial
  | lst xs =>
    obtain ⟨h1, h2, vs, h3, h4⟩ := h
    exact ⟨hg h1, h2, vs, hH _ _ (.inl rfl) h3, h4.gr g⟩
  | dct ps =>
    obtain ⟨h1, h2, vs, h3, h4⟩ := h
    exact ⟨hg h1, h2, vs, hH _ _ (.inl rfl) h3, RepP.mono g.g g.m (.inr rfl) h4⟩
  | obj n fs =>
    obtain ⟨h1, h2, C, dx, fv, e, h3, h4, h5, h6, h7⟩ := h
    exact ⟨hg h1, h2, C, dx, fv, e, hH _ _ (.inl rfl) h3, hH _ _ (.inr rfl) h4, hd dx h4 h5, h6, RepF.mono g.g g.m (.inr rfl) h7⟩
/-- a new object that never changes -/
theorem MemOk.alloc (h : MemOk c G μ m H) {p : Addr} (hp : H p = none) (o : HO) : MemOk c (upd G p o) μ m (upd H p o) ∧ Gr G μ (upd G p o) μ := by
  obtain ⟨gp, bp, mp⟩ := h.fresh hp
  have g : Gr G μ (upd G p o) μ := ⟨fun b u e => by rw [upd_ne (ne_of_none e gp)]; exact e, List.prefix_refl _⟩
  refine ⟨⟨fun b u e => ?_, fun b u e => by rw [upd_ne (ne_of_none e bp)]; exact h.bh _ _ e, h.g0.trans g.g, fun a u e1 e2 => ?_, h.ml, h.nd, fun n a k e1 e2 => ?_, fun a ha => ?_, h.mb⟩, g⟩
  · by_cases hb : b = p
    · subst hb
      rw [upd_same] at e ⊢
      exact e
    · rw [upd_ne hb] at e ⊢
      exact h.gh _ _ e
  · rw [upd_ne (ne_of_none e1 bp)]
    exact h.gb a u e1 e2
  · have na : a ≠ p := fun q => mp (q ▸ List.mem_of_getElem? e1)
    refine CellOk.mono g (fun q => by rw [upd_ne na]; exact q) (fun b e q => by rw [upd_ne (ne_of_none e hp)]; exact q) (fun b u _ e => by rw [upd_ne (ne_of_none e hp)]; exact e) (h.cell n a k e1 e2)
  · by_cases hb : a = p
    · subst hb
      exact absurd ha mp
    · rw [upd_ne hb]
      exact h.used a ha
/-- the heap grows by what is not ours -/
theorem Sim.gr (S : Sim c G μ ρ m σ H) (hm : MemOk c G' μ' m' H') (g : Gr G μ G' μ') : Sim c G' μ' ρ m' σ H' :=
  ⟨hm, fun i d e => let ⟨v, h1, h2⟩ := S.env i d e; ⟨v, h1, h2.gr g⟩, S.len⟩
theorem Sim.alloc (S : Sim c G μ ρ m σ H) {p : Addr} (hp : H p = none) (o : HO) : Sim c (upd G p o) μ ρ m σ (upd H p o) ∧ Gr G μ (upd G p o) μ :=
  let ⟨a, b⟩ := S.mem.alloc hp o
  ⟨S.gr a b, b⟩
/-- a new list that is a cell -/
theorem MemOk.allocM (h : MemOk c G μ m H) {p : Addr} (hp : H p = none) {xs : List D} {vs : List V} (hr : RepL c.K c.mg c.xo G μ xs vs) :
    MemOk c G (μ ++ [p]) (m ++ [.lst xs]) (upd H p (.lst vs)) ∧ Gr G μ G (μ ++ [p]) := by
  obtain ⟨gp, bp, mp⟩ := h.fresh hp
  have g : Gr G μ G (μ ++ [p]) := ⟨Same.refl _, List.prefix_append _ _⟩
  refine ⟨⟨fun b u e => by rw [upd_ne (ne_of_none e gp)]; exact h.gh _ _ e, fun b u e => by rw [upd_ne (ne_of_none e bp)]; exact h.bh _ _ e, h.g0, h.gb, by simp [h.ml], ?_, fun n a k e1 e2 => ?_, fun a ha => ?_, fun a ha => ?_⟩, g⟩
  · rw [List.nodup_append]
    exact ⟨h.nd, by simp, fun a ha b hb => by
      have : b = p := by simpa using hb
      subst this
      exact fun q => mp (q ▸ ha)⟩
  · by_cases hn : n < μ.length
    · rw [List.getElem?_append_left hn] at e1
      rw [List.getElem?_append_left (by rw [← h.ml]; exact hn)] at e2
      have na : a ≠ p := fun q => mp (q ▸ List.mem_of_getElem? e1)
      exact CellOk.mono g (fun q => q) (fun b _ q => q) (fun b u _ e => by rw [upd_ne (ne_of_none e hp)]; exact e) (h.cell n a k e1 e2)
    · have hn' : μ.length ≤ n := Nat.le_of_not_lt hn
      rw [List.getElem?_append_right hn'] at e1
      rw [List.getElem?_append_right (by rw [← h.ml]; exact hn')] at e2
      rw [h.ml] at e1
      cases q : n - m.length with
      | zero =>
        rw [q] at e1 e2
        obtain rfl : p = a := by simpa using e1
        obtain rfl : Cell.lst xs = k := by simpa using e2
        exact ⟨gp, bp, vs, upd_same, hr.gr g⟩
      | succ j =>
        rw [q] at e1
        simp at e1
  · rcases List.mem_append.mp ha with q | q
    · have na : a ≠ p := fun z => mp (z ▸ q)
      rw [upd_ne na]
      exact h.used a q
    · have : a = p := by simpa using q
      subst this
      rw [upd_same]
      simp
  · rcases List.mem_append.mp ha with q | q
    · exact h.mb a q
    · have : a = p := by simpa using q
      subst this
      exact bp
end

/-! ### the judgements -/
section
variable (c : Ct)
def PostE (G : Hp) (μ : List Addr) (ρ : Ev) (σ : L2.St) (Q : VK) : R D → Prop
  | .ok d m => ∀ v H G' μ', Sim c G' μ' ρ m σ H → Rep c.K c.mg c.xo G' μ' d v → Gr G μ G' μ' → Q v H
  | .exc e m => ∀ cc dd H G' μ', Sim c G' μ' ρ m σ H → Gr G μ G' μ' → ExcAt c.mg e cc dd G' → c.W cc dd σ H
  | .bad => False
def PostL (G : Hp) (μ : List Addr) (ρ : Ev) (σ : L2.St) (Q : List V → Hp → Prop) : R (List D) → Prop
  | .ok d m => ∀ v H G' μ', Sim c G' μ' ρ m σ H → RepL c.K c.mg c.xo G' μ' d v → Gr G μ G' μ' → Q v H
  | .exc e m => ∀ cc dd H G' μ', Sim c G' μ' ρ m σ H → Gr G μ G' μ' → ExcAt c.mg e cc dd G' → c.W cc dd σ H
  | .bad => False
def PostT (G : Hp) (μ : List Addr) (ρ : Ev) (σ : L2.St) (Q : Bool → Hp → Prop) : R Bool → Prop
  | .ok b m => ∀ H G' μ', Sim c G' μ' ρ m σ H → Gr G μ G' μ' → Q b H
  | .exc e m => ∀ cc dd H G' μ', Sim c G' μ' ρ m σ H → Gr G μ G' μ' → ExcAt c.mg e cc dd G' → c.W cc dd σ H
  | .bad => False
def PostS (G : Hp) (μ : List Addr) (D : Ends) : O → Prop
  | .nx ρ m => ∀ σ H G' μ', Sim c G' μ' ρ m σ H → Gr G μ G' μ' → D.nx σ H
  | .bk ρ m => ∀ σ H G' μ', Sim c G' μ' ρ m σ H → Gr G μ G' μ' → D.bk σ H
  | .ct ρ m => ∀ σ H G' μ', Sim c G' μ' ρ m σ H → Gr G μ G' μ' → D.ct σ H
  | .rt d m => ∀ v H G' μ', MemOk c G' μ' m H → Gr G μ G' μ' → Rep c.K c.mg c.xo G' μ' d v → D.rt v H
  | .exc e ρ m => ∀ cc dd σ H G' μ', Sim c G' μ' ρ m σ H → Gr G μ G' μ' → ExcAt c.mg e cc dd G' → c.W cc dd σ H
  | .bad => False
def rE (f : E) : TE := fun σ H Q => ∃ ρ m G μ, Sim c G μ ρ m σ H ∧ PostE c G μ ρ σ Q (f ρ m)
def rL (f : EL) : TA := fun σ H Q => ∃ ρ m G μ, Sim c G μ ρ m σ H ∧ PostL c G μ ρ σ Q (f ρ m)
def rT (f : ET) : TT := fun σ H Q => ∃ ρ m G μ, Sim c G μ ρ m σ H ∧ PostT c G μ ρ σ Q (f ρ m)
def rS (f : S) : TS := fun D σ H => ∃ ρ m G μ, Sim c G μ ρ m σ H ∧ PostS c G μ D (f ρ m)
end
section
variable {X : Cx} {c : Ct}
theorem _root_.L2.PE.imp {e : Expr} {t t' : TE} (h : PE X e t) (i : ∀ σ H Q, t' σ H Q → t σ H Q) : PE X e t' := ⟨fun pins s σ H Q I q => h.run pins s σ H Q I (i σ H Q q)⟩
theorem _root_.L2.PT.imp {e : Expr} {t t' : TT} (h : PT X e t) (i : ∀ σ H Q, t' σ H Q → t σ H Q) : PT X e t' := ⟨fun pins s σ H Q I q => h.run pins s σ H Q I (i σ H Q q)⟩
theorem _root_.L2.PW.imp {e : Expr} {t t' : TT} (h : PW X e t) (i : ∀ σ H Q, t' σ H Q → t σ H Q) : PW X e t' := ⟨fun w pins s σ H Q I q => h.run w pins s σ H Q I (i σ H Q q)⟩
theorem _root_.L2.PA.imp {e : List Expr} {t t' : TA} (h : PA X e t) (i : ∀ σ H Q, t' σ H Q → t σ H Q) : PA X e t' := ⟨fun p pins s σ H Q I q => h.run p pins s σ H Q I (i σ H Q q)⟩
theorem _root_.L2.PS.imp {e : Stmt} {t t' : TS} (h : PS X e t) (i : ∀ D σ H, t' D σ H → t D σ H) : PS X e t' := ⟨fun pins s σ H D I q => h.run pins s σ H D I (i D σ H q)⟩
theorem _root_.L2.PSs.imp {e : List Stmt} {t t' : TS} (h : PSs X e t) (i : ∀ D σ H, t' D σ H → t D σ H) : PSs X e t' := ⟨fun pins s σ H D I q => h.run pins s σ H D I (i D σ H q)⟩

variable {G : Hp} {μ : List Addr} {ρ : Ev} {m : Mem} {σ : L2.St} {H : Hp}
/-- a value, then more -/
theorem rE_bindE {f : E} {k : D → Mem → R D} {Q Q' : VK} (S : Sim c G μ ρ m σ H) (h : PostE c G μ ρ σ Q ((f ρ m).bind k))
    (q : ∀ d m1 v H1 G1 μ1, Sim c G1 μ1 ρ m1 σ H1 → Rep c.K c.mg c.xo G1 μ1 d v → Gr G μ G1 μ1 → PostE c G1 μ1 ρ σ Q (k d m1) → Q' v H1) : rE c f σ H Q' := by
  refine ⟨ρ, m, G, μ, S, ?_⟩
  cases e : f ρ m with
  | ok d m1 =>
    rw [e] at h
    intro v H1 G1 μ1 S1 R1 g1
    refine q d m1 v H1 G1 μ1 S1 R1 g1 ?_
    simp only [R.bind_ok] at h
    cases e2 : k d m1 with
    | ok d2 m2 =>
      rw [e2] at h
      exact fun v2 H2 G2 μ2 S2 R2 g2 => h v2 H2 G2 μ2 S2 R2 (g1.trans g2)
    | exc x m2 =>
      rw [e2] at h
      exact fun cc dd H2 G2 μ2 S2 g2 => h cc dd H2 G2 μ2 S2 (g1.trans g2)
    | bad =>
      rw [e2] at h
      exact h
  | exc x m1 =>
    rw [e] at h
    exact h
  | bad =>
    rw [e] at h
    exact h
theorem rE_bindL {f : E} {k : D → Mem → R (List D)} {Q : List V → Hp → Prop} {Q' : VK} (S : Sim c G μ ρ m σ H) (h : PostL c G μ ρ σ Q ((f ρ m).bind k))
    (q : ∀ d m1 v H1 G1 μ1, Sim c G1 μ1 ρ m1 σ H1 → Rep c.K c.mg c.xo G1 μ1 d v → Gr G μ G1 μ1 → PostL c G1 μ1 ρ σ Q (k d m1) → Q' v H1) : rE c f σ H Q' := by
  refine ⟨ρ, m, G, μ, S, ?_⟩
  cases e : f ρ m with
  | ok d m1 =>
    rw [e] at h
    intro v H1 G1 μ1 S1 R1 g1
    refine q d m1 v H1 G1 μ1 S1 R1 g1 ?_
    simp only [R.bind_ok] at h
    cases e2 : k d m1 with
    | ok d2 m2 =>
      rw [e2] at h
      exact fun v2 H2 G2 μ2 S2 R2 g2 => h v2 H2 G2 μ2 S2 R2 (g1.trans g2)
    | exc x m2 =>
      rw [e2] at h
      exact fun cc dd H2 G2 μ2 S2 g2 => h cc dd H2 G2 μ2 S2 (g1.trans g2)
    | bad =>
      rw [e2] at h
      exact h
  | exc x m1 =>
    rw [e] at h
    exact h
  | bad =>
    rw [e] at h
    exact h
theorem rE_bindT {f : E} {k : D → Mem → R Bool} {Q : Bool → Hp → Prop} {Q' : VK} (S : Sim c G μ ρ m σ H) (h : PostT c G μ ρ σ Q ((f ρ m).bind k))
    (q : ∀ d m1 v H1 G1 μ1, Sim c G1 μ1 ρ m1 σ H1 → Rep c.K c.mg c.xo G1 μ1 d v → Gr G μ G1 μ1 → PostT c G1 μ1 ρ σ Q (k d m1) → Q' v H1) : rE c f σ H Q' := by
  refine ⟨ρ, m, G, μ, S, ?_⟩
  cases e : f ρ m with
  | ok d m1 =>
    rw [e] at h
    intro v H1 G1 μ1 S1 R1 g1
    refine q d m1 v H1 G1 μ1 S1 R1 g1 ?_
    simp only [R.bind_ok] at h
    cases e2 : k d m1 with
    | ok d2 m2 =>
      rw [e2] at h
      exact fun H2 G2 μ2 S2 g2 => h H2 G2 μ2 S2 (g1.trans g2)
    | exc x m2 =>
      rw [e2] at h
      exact fun cc dd H2 G2 μ2 S2 g2 => h cc dd H2 G2 μ2 S2 (g1.trans g2)
    | bad =>
      rw [e2] at h
      exact h
  | exc x m1 =>
    rw [e] at h
    exact h
  | bad =>
    rw [e] at h
    exact h
theorem PostS.weak {D : Ends} {o : O} {G1 : Hp} {μ1 : List Addr} (h : PostS c G μ D o) (g : Gr G μ G1 μ1) : PostS c G1 μ1 D o := by
  cases o with
  | nx ρ m => exact fun σ H G' μ' S g' => h σ H G' μ' S (g.trans g')
  | bk ρ m => exact fun σ H G' μ' S g' => h σ H G' μ' S (g.trans g')
  | ct ρ m => exact fun σ H G' μ' S g' => h σ H G' μ' S (g.trans g')
  | rt d m => exact fun v H G' μ' S g' => h v H G' μ' S (g.trans g')
  | exc e ρ m => exact fun cc dd σ H G' μ' S g' => h cc dd σ H G' μ' S (g.trans g')
  | bad => exact h
theorem rE_then {f : E} {k : D → Mem → O} {D : Ends} {Q' : VK} (S : Sim c G μ ρ m σ H) (h : PostS c G μ D ((f ρ m).then ρ k))
    (q : ∀ d m1 v H1 G1 μ1, Sim c G1 μ1 ρ m1 σ H1 → Rep c.K c.mg c.xo G1 μ1 d v → Gr G μ G1 μ1 → PostS c G1 μ1 D (k d m1) → Q' v H1) : rE c f σ H Q' := by
  refine ⟨ρ, m, G, μ, S, ?_⟩
  cases e : f ρ m with
  | ok d m1 =>
    rw [e] at h
    exact fun v H1 G1 μ1 S1 R1 g1 => q d m1 v H1 G1 μ1 S1 R1 g1 (PostS.weak h g1)
  | exc x m1 =>
    rw [e] at h
    exact fun cc dd H1 G1 μ1 S1 g1 x1 => h cc dd σ H1 G1 μ1 S1 g1 x1
  | bad =>
    rw [e] at h
    exact h
theorem rT_then {f : ET} {k : Bool → Mem → O} {D : Ends} {Q' : Bool → Hp → Prop} (S : Sim c G μ ρ m σ H) (h : PostS c G μ D ((f ρ m).then ρ k))
    (q : ∀ b m1 H1 G1 μ1, Sim c G1 μ1 ρ m1 σ H1 → Gr G μ G1 μ1 → PostS c G1 μ1 D (k b m1) → Q' b H1) : rT c f σ H Q' := by
  refine ⟨ρ, m, G, μ, S, ?_⟩
  cases e : f ρ m with
  | ok d m1 =>
    rw [e] at h
    exact fun H1 G1 μ1 S1 g1 => q d m1 H1 G1 μ1 S1 g1 (PostS.weak h g1)
  | exc x m1 =>
    rw [e] at h
    exact fun cc dd H1 G1 μ1 S1 g1 x1 => h cc dd σ H1 G1 μ1 S1 g1 x1
  | bad =>
    rw [e] at h
    exact h
theorem rT_bindE {f : ET} {k : Bool → Mem → R D} {Q : VK} {Q' : Bool → Hp → Prop} (S : Sim c G μ ρ m σ H) (h : PostE c G μ ρ σ Q ((f ρ m).bind k))
    (q : ∀ b m1 H1 G1 μ1, Sim c G1 μ1 ρ m1 σ H1 → Gr G μ G1 μ1 → PostE c G1 μ1 ρ σ Q (k b m1) → Q' b H1) : rT c f σ H Q' := by
  refine ⟨ρ, m, G, μ, S, ?_⟩
  cases e : f ρ m with
  | ok d m1 =>
    rw [e] at h
    intro H1 G1 μ1 S1 g1
    refine q d m1 H1 G1 μ1 S1 g1 ?_
    simp only [R.bind_ok] at h
    cases e2 : k d m1 with
    | ok d2 m2 =>
      rw [e2] at h
      exact fun v2 H2 G2 μ2 S2 R2 g2 => h v2 H2 G2 μ2 S2 R2 (g1.trans g2)
    | exc x m2 =>
      rw [e2] at h
      exact fun cc dd H2 G2 μ2 S2 g2 => h cc dd H2 G2 μ2 S2 (g1.trans g2)
    | bad =>
      rw [e2] at h
      exact h
  | exc x m1 =>
    rw [e] at h
    exact h
  | bad =>
    rw [e] at h
    exact h
theorem rT_bindT {f : ET} {k : Bool → Mem → R Bool} {Q Q' : Bool → Hp → Prop} (S : Sim c G μ ρ m σ H) (h : PostT c G μ ρ σ Q ((f ρ m).bind k))
    (q : ∀ b m1 H1 G1 μ1, Sim c G1 μ1 ρ m1 σ H1 → Gr G μ G1 μ1 → PostT c G1 μ1 ρ σ Q (k b m1) → Q' b H1) : rT c f σ H Q' := by
  refine ⟨ρ, m, G, μ, S, ?_⟩
  cases e : f ρ m with
  | ok d m1 =>
    rw [e] at h
    intro H1 G1 μ1 S1 g1
    refine q d m1 H1 G1 μ1 S1 g1 ?_
    simp only [R.bind_ok] at h
    cases e2 : k d m1 with
    | ok d2 m2 =>
      rw [e2] at h
      exact fun H2 G2 μ2 S2 g2 => h H2 G2 μ2 S2 (g1.trans g2)
    | exc x m2 =>
      rw [e2] at h
      exact fun cc dd H2 G2 μ2 S2 g2 => h cc dd H2 G2 μ2 S2 (g1.trans g2)
    | bad =>
      rw [e2] at h
      exact h
  | exc x m1 =>
    rw [e] at h
    exact h
  | bad =>
    rw [e] at h
    exact h
theorem rL_bindE {f : EL} {k : List D → Mem → R D} {Q : VK} {Q' : List V → Hp → Prop} (S : Sim c G μ ρ m σ H) (h : PostE c G μ ρ σ Q ((f ρ m).bind k))
    (q : ∀ d m1 v H1 G1 μ1, Sim c G1 μ1 ρ m1 σ H1 → RepL c.K c.mg c.xo G1 μ1 d v → Gr G μ G1 μ1 → PostE c G1 μ1 ρ σ Q (k d m1) → Q' v H1) : rL c f σ H Q' := by
  refine ⟨ρ, m, G, μ, S, ?_⟩
  cases e : f ρ m with
  | ok d m1 =>
    rw [e] at h
    intro v H1 G1 μ1 S1 R1 g1
    refine q d m1 v H1 G1 μ1 S1 R1 g1 ?_
    simp only [R.bind_ok] at h
    cases e2 : k d m1 with
    | ok d2 m2 =>
      rw [e2] at h
      exact fun v2 H2 G2 μ2 S2 R2 g2 => h v2 H2 G2 μ2 S2 R2 (g1.trans g2)
    | exc x m2 =>
      rw [e2] at h
      exact fun cc dd H2 G2 μ2 S2 g2 => h cc dd H2 G2 μ2 S2 (g1.trans g2)
    | bad =>
      rw [e2] at h
      exact h
  | exc x m1 =>
    rw [e] at h
    exact h
  | bad =>
    rw [e] at h
    exact h
theorem rL_bindL {f : EL} {k : List D → Mem → R (List D)} {Q Q' : List V → Hp → Prop} (S : Sim c G μ ρ m σ H) (h : PostL c G μ ρ σ Q ((f ρ m).bind k))
    (q : ∀ d m1 v H1 G1 μ1, Sim c G1 μ1 ρ m1 σ H1 → RepL c.K c.mg c.xo G1 μ1 d v → Gr G μ G1 μ1 → PostL c G1 μ1 ρ σ Q (k d m1) → Q' v H1) : rL c f σ H Q' := by
  refine ⟨ρ, m, G, μ, S, ?_⟩
  cases e : f ρ m with
  | ok d m1 =>
    rw [e] at h
    intro v H1 G1 μ1 S1 R1 g1
    refine q d m1 v H1 G1 μ1 S1 R1 g1 ?_
    simp only [R.bind_ok] at h
    cases e2 : k d m1 with
    | ok d2 m2 =>
      rw [e2] at h
      exact fun v2 H2 G2 μ2 S2 R2 g2 => h v2 H2 G2 μ2 S2 R2 (g1.trans g2)
    | exc x m2 =>
      rw [e2] at h
      exact fun cc dd H2 G2 μ2 S2 g2 => h cc dd H2 G2 μ2 S2 (g1.trans g2)
    | bad =>
      rw [e2] at h
      exact h
  | exc x m1 =>
    rw [e] at h
    exact h
  | bad =>
    rw [e] at h
    exact h

/-! ### names, constants -/
theorem xe_var (i : Nat) {x : Str} {pos : Pos} (hN : X.N[i]? = some x := by rfl) (hv : Vis X.env.scope x := by first | exact Or.inl rfl | exact Or.inr (Or.inl rfl) | exact Or.inr (Or.inr rfl)) (hd : (x == ("__debug__" : Str)) = false := by decide)
    (hcd : (x == ("__classdict__" : Str)) = false := by decide) : PE X (.Name x pos) (rE c (eVar i)) := by
  refine (pv i hN hv hd hcd).imp ?_
  rintro σ H Q ⟨ρ, m, G, μ, S, h⟩
  unfold eVar at h
  split at h
  · rename_i d e
    obtain ⟨v, h1, h2⟩ := S.env i d e
    exact ⟨v, h1, h v H G μ S h2 Gr.refl⟩
  · exact h.elim
theorem rE_const {d : D} {v : V} {Q : VK} (hr : ∀ G μ, Rep c.K c.mg c.xo G μ d v) (h : rE c (eC d) σ H Q) : tC v σ H Q := by
  obtain ⟨ρ, m, G, μ, S, h⟩ := h
  exact h v H G μ S (hr _ _) Gr.refl
theorem xe_int {i j pos} : PE X (.Constant (.int i) j pos) (rE c (eC (.int i))) := pe_int.imp fun _ _ _ h => rE_const (fun _ _ => .int i) h
theorem xe_bl {b j pos} : PE X (.Constant (.bool b) j pos) (rE c (eC (.bl b))) := pe_bl.imp fun _ _ _ h => rE_const (fun _ _ => .bl b) h
theorem xe_non {j pos} : PE X (.Constant .none j pos) (rE c (eC .non)) := pe_non.imp fun _ _ _ h => rE_const (fun _ _ => .non) h
theorem xe_str {x j pos} (ho : okS x = true := by decide +kernel) : PE X (.Constant (.str x) j pos) (rE c (eC (.str x))) := pe_str.imp fun _ _ _ h => rE_const (fun _ _ => .str x ho) h
/-- a global that is flat -/
theorem xe_glob {x : Str} {d : D} {v : V} {u : Value} {pos : Pos} (hg : Gl X x) (hm : X.mg x = some u) (hr : ∀ G μ, Rep c.K c.mg c.xo G μ d v) (r : RelV v u) (hd : (x == ("__debug__" : Str)) = false := by decide) : PE X (.Name x pos) (rE c (eC d)) :=
  (pe_glob hg hm r hd).imp fun _ _ _ h => rE_const hr h

/-! ### operators -/
/-- a rule of values serves the mirror's function: x, y are the VIEWS (over the heap as it stands) -/
def OpSim (c : Ct) (g : D → D → Option D) (r : R2) : Prop := ∀ G μ ρ m σ H x y d u v Q, Sim c G μ ρ m σ H → Rep c.K c.mg c.xo G μ x u → Rep c.K c.mg c.xo G μ y v → g (view m x) (view m y) = some d →
  (∀ w H' G' μ', Sim c G' μ' ρ m σ H' → Rep c.K c.mg c.xo G' μ' d w → Gr G μ G' μ' → Q w H') → r u v H Q
theorem PostE.of {f : Option D} {Q : VK} {m : Mem} (h : PostE c G μ ρ σ Q (R.of m f)) : ∃ d, f = some d ∧ PostE c G μ ρ σ Q (.ok d m) := by
  cases f with
  | none => exact h.elim
  | some d => exact ⟨d, rfl, h⟩
theorem PostT.of {f : Option Bool} {Q : Bool → Hp → Prop} {m : Mem} (h : PostT c G μ ρ σ Q (R.of m f)) : ∃ d, f = some d ∧ PostT c G μ ρ σ Q (.ok d m) := by
  cases f with
  | none => exact h.elim
  | some d => exact ⟨d, rfl, h⟩
theorem rE_op {g : D → D → Option D} {r : R2} {fa fb : E} {Q : VK} (hs : OpSim c g r) (h : rE c (eOp g fa fb) σ H Q) : tOp r (rE c fa) (rE c fb) σ H Q := by
  obtain ⟨ρ, m, G, μ, S, h⟩ := h
  refine rE_bindE S h fun x m1 u H1 G1 μ1 S1 R1 g1 h1 => ?_
  refine rE_bindE S1 h1 fun y m2 v H2 G2 μ2 S2 R2 g2 h2 => ?_
  obtain ⟨d, e, h2⟩ := PostE.of h2
  exact hs G2 μ2 ρ m2 σ H2 x y d u v Q S2 (R1.gr g2) R2 e h2
theorem xe_op {op : Operator} {r : R2} {g : D → D → Option D} {a b : Expr} {fa fb : E} {pos : Pos} (ho : OpR X (binaryOp op) r) (hs : OpSim c g r) (ha : PE X a (rE c fa)) (hb : PE X b (rE c fb)) : PE X (.BinOp a op b pos) (rE c (eOp g fa fb)) :=
  (pe_op ho ha hb).imp fun _ _ _ h => rE_op hs h
/-- a comparison's rule -/
def CmpSim (c : Ct) (g : D → D → Option Bool) (r : R2) : Prop := ∀ G μ ρ m σ H x y k u v (Q : VK), Sim c G μ ρ m σ H → Rep c.K c.mg c.xo G μ x u → Rep c.K c.mg c.xo G μ y v → g (view m x) (view m y) = some k → Q (.bl k) H → r u v H Q
theorem rE_cmp {g : D → D → Option Bool} {r : R2} {fa fb : E} {Q : VK} (hs : CmpSim c g r) (h : rE c (eCmp g fa fb) σ H Q) : tOp r (rE c fa) (rE c fb) σ H Q := by
  obtain ⟨ρ, m, G, μ, S, h⟩ := h
  refine rE_bindE S h fun x m1 u H1 G1 μ1 S1 R1 g1 h1 => ?_
  refine rE_bindE S1 h1 fun y m2 v H2 G2 μ2 S2 R2 g2 h2 => ?_
  obtain ⟨d, e, h2⟩ := PostE.of h2
  obtain ⟨k, e1, rfl⟩ := Option.map_eq_some_iff.mp e
  exact hs G2 μ2 ρ m2 σ H2 x y k u v Q S2 (R1.gr g2) R2 e1 (h2 _ _ _ _ S2 (.bl k) Gr.refl)
theorem xe_cmp {op : CmpOp} {r : R2} {g : D → D → Option Bool} {a b : Expr} {fa fb : E} {pos : Pos} (ho : OpR X (compareOp op) r) (hs : CmpSim c g r) (ha : PE X a (rE c fa)) (hb : PE X b (rE c fb)) (hm : behindInMarks op b = false) : PE X (.Compare a [op] [b] pos) (rE c (eCmp g fa fb)) :=
  (pe_cmpR ho ha hb hm).imp fun _ _ _ h => rE_cmp hs h
theorem rT_cmp {g : D → D → Option Bool} {r : R2} {fa fb : E} {Q : Bool → Hp → Prop} (hs : CmpSim c g r) (h : rT c (tCmp g fa fb) σ H Q) : tTest (tOp r (rE c fa) (rE c fb)) σ H Q := by
  obtain ⟨ρ, m, G, μ, S, h⟩ := h
  refine rE_bindT S h fun x m1 u H1 G1 μ1 S1 R1 g1 h1 => ?_
  refine rE_bindT S1 h1 fun y m2 v H2 G2 μ2 S2 R2 g2 h2 => ?_
  obtain ⟨k, e, h2⟩ := PostT.of h2
  exact hs G2 μ2 ρ m2 σ H2 x y k u v _ S2 (R1.gr g2) R2 e ⟨k, rfl, h2 _ _ _ S2 Gr.refl⟩
theorem xt_cmp {op : CmpOp} {r : R2} {g : D → D → Option Bool} {a b : Expr} {fa fb : E} {pos : Pos} (ho : OpR X (compareOp op) r) (hs : CmpSim c g r) (ha : PE X a (rE c fa)) (hb : PE X b (rE c fb)) (hm : behindInMarks op b = false) : PT X (.Compare a [op] [b] pos) (rT c (tCmp g fa fb)) :=
  (pt_cmpR ho ha hb hm).imp fun _ _ _ h => rT_cmp hs h

/-! ### and, or, not -/
theorem xt_not {a : Expr} {f : ET} {pos : Pos} (h : PT X a (rT c f)) : PT X (.UnaryOp .Not a pos) (rT c (tNot f)) := by
  refine (pt_not h).imp ?_
  rintro σ H Q ⟨ρ, m, G, μ, S, h⟩
  exact rT_bindT S h fun b m1 H1 G1 μ1 S1 g1 h1 => h1 _ _ _ S1 Gr.refl
theorem xw_and1 {a : Expr} {f : ET} {pos : Pos} (h : PT X a (rT c f)) : PW X (.BoolOp .And [a] pos) (rT c f) := pw_and1 h
theorem xw_or1 {a : Expr} {f : ET} {pos : Pos} (h : PT X a (rT c f)) : PW X (.BoolOp .Or [a] pos) (rT c f) := pw_or1 h
theorem xw_and {a b : Expr} {rest : List Expr} {f g : ET} {pos : Pos} (ha : PT X a (rT c f)) (hb : PW X (.BoolOp .And (b :: rest) pos) (rT c g)) : PW X (.BoolOp .And (a :: b :: rest) pos) (rT c (tAnd f g)) := by
  refine (pw_and ha hb).imp ?_
  rintro σ H Q ⟨ρ, m, G, μ, S, h⟩
  refine rT_bindT S h fun b m1 H1 G1 μ1 S1 g1 h1 => ?_
  cases b with
  | true => exact ⟨ρ, m1, G1, μ1, S1, h1⟩
  | false => exact h1 _ _ _ S1 Gr.refl
theorem xw_or {a b : Expr} {rest : List Expr} {f g : ET} {pos : Pos} (ha : PT X a (rT c f)) (hb : PW X (.BoolOp .Or (b :: rest) pos) (rT c g)) : PW X (.BoolOp .Or (a :: b :: rest) pos) (rT c (tOr f g)) := by
  refine (pw_or ha hb).imp ?_
  rintro σ H Q ⟨ρ, m, G, μ, S, h⟩
  refine rT_bindT S h fun b m1 H1 G1 μ1 S1 g1 h1 => ?_
  cases b with
  | false => exact ⟨ρ, m1, G1, μ1, S1, h1⟩
  | true => exact h1 _ _ _ S1 Gr.refl
theorem dBool_rep {x : D} {k : Bool} {u : V} (e : dBool x = some k) (R1 : Rep c.K c.mg c.xo G μ x u) : u = .bl k := by
  cases x <;> simp [dBool] at e
  subst e
  cases R1
  rfl
theorem xe_not {a : Expr} {f : E} {pos : Pos} (h : PE X a (rE c f)) : PE X (.UnaryOp .Not a pos) (rE c (eNot f)) := by
  refine (pe_not h).imp ?_
  rintro σ H Q ⟨ρ, m, G, μ, S, h⟩
  refine rE_bindE S h fun x m1 u H1 G1 μ1 S1 R1 g1 h1 => ?_
  cases e : dBool x with
  | none => rw [e] at h1; exact h1.elim
  | some k =>
    rw [e] at h1
    exact ⟨k, dBool_rep e R1, h1 _ _ _ _ S1 (.bl _) Gr.refl⟩
theorem xe_one {op} {a : Expr} {f : E} {pos : Pos} (h : PE X a (rE c f)) : PE X (.BoolOp op [a] pos) (rE c f) := pe_one h
theorem xe_and {a b : Expr} {rest : List Expr} {f g : E} {pos : Pos} (ha : PE X a (rE c f)) (hb : PE X (.BoolOp .And (b :: rest) pos) (rE c g)) : PE X (.BoolOp .And (a :: b :: rest) pos) (rE c (eAnd f g)) := by
  refine (pe_and ha hb).imp ?_
  rintro σ H Q ⟨ρ, m, G, μ, S, h⟩
  refine rE_bindE S h fun x m1 u H1 G1 μ1 S1 R1 g1 h1 => ?_
  cases e : dBool x with
  | none => rw [e] at h1; exact h1.elim
  | some k =>
    rw [e] at h1
    refine ⟨k, dBool_rep e R1, ?_⟩
    cases k with
    | true => exact ⟨ρ, m1, G1, μ1, S1, h1⟩
    | false => exact h1 _ _ _ _ S1 (.bl _) Gr.refl
theorem xe_or {a b : Expr} {rest : List Expr} {f g : E} {pos : Pos} (ha : PE X a (rE c f)) (hb : PE X (.BoolOp .Or (b :: rest) pos) (rE c g)) : PE X (.BoolOp .Or (a :: b :: rest) pos) (rE c (eOr f g)) := by
  refine (pe_or ha hb).imp ?_
  rintro σ H Q ⟨ρ, m, G, μ, S, h⟩
  refine rE_bindE S h fun x m1 u H1 G1 μ1 S1 R1 g1 h1 => ?_
  cases e : dBool x with
  | none => rw [e] at h1; exact h1.elim
  | some k =>
    rw [e] at h1
    refine ⟨k, dBool_rep e R1, ?_⟩
    cases k with
    | false => exact ⟨ρ, m1, G1, μ1, S1, h1⟩
    | true => exact h1 _ _ _ _ S1 (.bl _) Gr.refl
theorem xe_if {t a b : Expr} {ft : ET} {fa fb : E} {pos : Pos} (ht : PT X t (rT c ft)) (ha : PE X a (rE c fa)) (hb : PE X b (rE c fb)) : PE X (.IfExp t a b pos) (rE c (eIf ft fa fb)) := by
  refine (pe_ifExp ht ha hb).imp ?_
  rintro σ H Q ⟨ρ, m, G, μ, S, h⟩
  refine rT_bindE S h fun b m1 H1 G1 μ1 S1 g1 h1 => ?_
  cases b with
  | true => exact ⟨ρ, m1, G1, μ1, S1, h1⟩
  | false => exact ⟨ρ, m1, G1, μ1, S1, h1⟩

/-! ### arguments, displays -/
theorem xa_nil : PA X [] (rL c lNil) := by
  refine pa_nil.imp ?_
  rintro σ H Q ⟨ρ, m, G, μ, S, h⟩
  exact h _ _ _ _ S .nil Gr.refl
theorem xa_cons {e : Expr} {es : List Expr} {f : E} {g : EL} (ha : PE X e (rE c f)) (hr : PA X es (rL c g)) (hs : starEach (e :: es) X.env = (false, eval e X.env) :: starEach es X.env := by rfl) : PA X (e :: es) (rL c (lCons f g)) := by
  refine (pa_cons ha hr hs).imp ?_
  rintro σ H Q ⟨ρ, m, G, μ, S, h⟩
  refine rE_bindL S h fun x m1 u H1 G1 μ1 S1 R1 g1 h1 => ?_
  refine rL_bindL S1 h1 fun xs m2 us H2 G2 μ2 S2 R2 g2 h2 => ?_
  exact h2 _ _ _ _ S2 (.cons (R1.gr g2) R2) Gr.refl
theorem xe_tup {es : List Expr} {f : EL} {x1 pos} (h : PA X es (rL c f)) : PE X (.Tuple es x1 pos) (rE c (eTup f)) := by
  refine (pe_tup h).imp ?_
  rintro σ H Q ⟨ρ, m, G, μ, S, h⟩
  refine rL_bindE S h fun xs m1 us H1 G1 μ1 S1 R1 g1 h1 => ?_
  split at h1
  · rename_i hl
    refine ⟨by rw [← R1.length, sizeLine_eq]; exact hl, fun p hp => ?_⟩
    obtain ⟨S2, g2⟩ := S1.alloc hp (.tup us)
    exact h1 _ _ _ _ S2 (.tup (SqT.of upd_same) (R1.gr g2)) g2
  · exact h1.elim
/-- a new list that is a tree -/
theorem Sim.newL {M : Bool} {xs : List D} {vs : List V} {d : D} {m' : Mem} {p : Addr} (S : Sim c G μ ρ m σ H) (hp : H p = none) (r : RepL c.K c.mg c.xo G μ xs vs) {Q : VK}
    (h : PostE c G μ ρ σ Q (mkL M xs m)) : Q (.ref p) (upd H p (.lst vs)) := by
  cases M with
  | true =>
    obtain ⟨M2, g2⟩ := S.mem.allocM hp r
    refine h _ _ _ _ (S.gr M2 g2) (.loc ?_) g2
    rw [← S.mem.ml]
    simp
  | false =>
    obtain ⟨S2, g2⟩ := S.alloc hp (.lst vs)
    exact h _ _ _ _ S2 (.lst (SqL.of upd_same) (r.gr g2)) g2
theorem xe_lst {M : Bool} {es : List Expr} {f : EL} {pos : Pos} (h : PA X es (rL c f)) : PE X (.List es pos) (rE c (eLst M f)) := by
  refine (pe_lst h).imp ?_
  rintro σ H Q ⟨ρ, m, G, μ, S, h⟩
  refine rL_bindE S h fun xs m1 us H1 G1 μ1 S1 R1 g1 h1 => ?_
  split at h1
  · rename_i hl
    exact ⟨by rw [← R1.length, sizeLine_eq]; exact hl, fun p hp => S1.newL (d := .non) (m' := m1) hp R1 h1⟩
  · exact h1.elim

/-! ### blocks and statements -/
theorem xss_nil : PSs X [] (rS c sNext) := by
  refine pss_nil.imp ?_
  rintro D σ H ⟨ρ, m, G, μ, S, h⟩
  exact h _ _ _ _ S Gr.refl
theorem PostS.seq {D : Ends} {a b : S} {ρ : Ev} {m : Mem} (h : PostS c G μ D (sSeq a b ρ m)) : PostS c G μ { D with nx := rS c b D } (a ρ m) := by
  unfold sSeq at h
  cases e : a ρ m with
  | nx ρ1 m1 =>
    rw [e] at h
    exact fun σ H G' μ' S g => ⟨ρ1, m1, G', μ', S, PostS.weak h g⟩
  | bk ρ1 m1 => rw [e] at h; exact h
  | ct ρ1 m1 => rw [e] at h; exact h
  | rt d m1 => rw [e] at h; exact h
  | exc x ρ1 m1 => rw [e] at h; exact h
  | bad => rw [e] at h; exact h
theorem xss_cons {st : Stmt} {rest : List Stmt} {a b : S} (h1 : PS X st (rS c a)) (h2 : PSs X rest (rS c b)) : PSs X (st :: rest) (rS c (sSeq a b)) := by
  refine (pss_cons h1 h2).imp ?_
  rintro D σ H ⟨ρ, m, G, μ, S, h⟩
  exact ⟨ρ, m, G, μ, S, PostS.seq h⟩
theorem xss_one {st : Stmt} {a : S} (h1 : PS X st (rS c a)) : PSs X [st] (rS c a) := pss_one h1
theorem xs_pass {pos : Pos} : PS X (.Pass pos) (rS c sNext) := by
  refine ps_pass.imp ?_
  rintro D σ H ⟨ρ, m, G, μ, S, h⟩
  exact h _ _ _ _ S Gr.refl
theorem xs_break {pos : Pos} : PS X (.Break pos) (rS c sBreak) := by
  refine ps_break.imp ?_
  rintro D σ H ⟨ρ, m, G, μ, S, h⟩
  exact h _ _ _ _ S Gr.refl
theorem xs_cont {pos : Pos} : PS X (.Continue pos) (rS c sCont) := by
  refine ps_continue.imp ?_
  rintro D σ H ⟨ρ, m, G, μ, S, h⟩
  exact h _ _ _ _ S Gr.refl
theorem xs_if {t : Expr} {a b : List Stmt} {ft : ET} {fa fb : S} {pos : Pos} (ht : PT X t (rT c ft)) (ha : PSs X a (rS c fa)) (hb : PSs X b (rS c fb)) : PS X (.If t a b pos) (rS c (sIf ft fa fb)) := by
  refine (ps_if ht ha hb).imp ?_
  rintro D σ H ⟨ρ, m, G, μ, S, h⟩
  refine rT_then S h fun k m1 H1 G1 μ1 S1 g1 h1 => ?_
  cases k with
  | true => exact ⟨ρ, m1, G1, μ1, S1, h1⟩
  | false => exact ⟨ρ, m1, G1, μ1, S1, h1⟩
theorem xs_ret {e : Expr} {f : E} {pos : Pos} (he : PE X e (rE c f)) : PS X (.Return (some e) pos) (rS c (sRet f)) := by
  refine (ps_ret he).imp ?_
  rintro D σ H ⟨ρ, m, G, μ, S, h⟩
  exact rE_then S h fun d m1 v H1 G1 μ1 S1 R1 g1 h1 => h1 _ _ _ _ S1.mem Gr.refl R1
theorem xs_retN {pos : Pos} : PS X (.Return none pos) (rS c sRetN) := by
  refine ps_retN.imp ?_
  rintro D σ H ⟨ρ, m, G, μ, S, h⟩
  exact h _ _ _ _ S.mem Gr.refl .non
theorem xs_expr {e : Expr} {f : E} {pos : Pos} (he : PE X e (rE c f)) (hs : swapsWith e none pos.line X.env = pure false := by rfl) : PS X (.Expr e pos) (rS c (sExpr f)) := by
  refine (ps_expr he hs).imp ?_
  rintro D σ H ⟨ρ, m, G, μ, S, h⟩
  exact rE_then S h fun d m1 v H1 G1 μ1 S1 R1 g1 h1 => h1 _ _ _ _ S1 Gr.refl
/-- a slot is stored -/
theorem Sim.put {i : Nat} {d : D} {v : V} (S : Sim c G μ ρ m σ H) (r : Rep c.K c.mg c.xo G μ d v) : Sim c G μ (ρ.set i (some d)) m (σ.set i (some v)) H := by
  refine ⟨S.mem, fun j e h => ?_, by simp [S.len]⟩
  by_cases hj : i = j
  · subst hj
    by_cases hl : i < ρ.length
    · rw [List.getElem?_set_self hl] at h
      obtain rfl : d = e := by simpa using h
      exact ⟨v, List.getElem?_set_self (by rw [← S.len]; exact hl), r⟩
    · rw [List.getElem?_eq_none (by simpa using hl)] at h
      cases h
  · rw [List.getElem?_set_ne hj] at h ⊢
    exact S.env j e h
theorem xs_set {i : Nat} {x : Str} {e : Expr} {f : E} {pos pos' : Pos} (hN : X.N.Nodup) (hi : X.N[i]? = some x) (hx : Loc X.env.scope x) (he : PE X e (rE c f)) (hs : swapsWith e (some (.Name x pos')) pos.line X.env = pure false := by rfl) (hf : X.fn x = true ∨ X.env.scope.names.lookup x = some .local := by first | exact .inl rfl | exact .inr rfl | assumption) :
    PS X (.Assign [.Name x pos'] e pos) (rS c (sSet i f)) := by
  refine (ps_set hN hi hx he hs hf).imp ?_
  rintro D σ H ⟨ρ, m, G, μ, S, h⟩
  exact rE_then S h fun d m1 v H1 G1 μ1 S1 R1 g1 h1 => h1 _ _ _ _ (S1.put R1) Gr.refl
/-! targets -/
def rG (c : Ct) (sl : List Nat) (g : T) : TG := fun v σ H Q => ∃ d ρ ρ' m G μ, Sim c G μ ρ m σ H ∧ Rep c.K c.mg c.xo G μ d v ∧ g d ρ = some ρ' ∧ ∀ σ', Sim c G μ ρ' m σ' H → (∀ vs, (∀ i ∈ sl, i ∈ vs) → wipe σ' vs = wipe σ vs) → Q σ' H
def rGs (c : Ct) (sl : List Nat) (g : Ts) : TGs := fun v σ H Q => ∃ d ρ ρ' m G μ, Sim c G μ ρ m σ H ∧ RepL c.K c.mg c.xo G μ d v ∧ g d ρ = some ρ' ∧ ∀ σ', Sim c G μ ρ' m σ' H → (∀ vs, (∀ i ∈ sl, i ∈ vs) → wipe σ' vs = wipe σ vs) → Q σ' H
theorem wipe_at (σ : L2.St) : ∀ (vs : List Nat) (i : Nat), (wipe σ vs)[i]? = if i ∈ vs then (σ[i]?).map fun _ => none else σ[i]?
  | [], i => by simp [wipe]
  | v :: vs, i => by
    have ih := wipe_at σ vs i
    unfold wipe
    by_cases hv : v = i
    · subst hv
      by_cases hl : v < σ.length
      · rw [List.getElem?_set_self (by rw [wipe_length]; exact hl)]
        simp [hl]
      · rw [List.getElem?_eq_none (by simp [wipe_length]; omega)]
        simp [List.getElem?_eq_none (Nat.le_of_not_lt hl)]
    · rw [List.getElem?_set_ne hv, ih]
      have : (i ∈ v :: vs) = (i ∈ vs) := by simp [Ne.symm hv]
      simp only [this]
theorem wipe_set {σ : L2.St} {i : Nat} {x : Option V} {vs : List Nat} (h : i ∈ vs) : wipe (σ.set i x) vs = wipe σ vs := by
  apply List.ext_getElem?
  intro j
  rw [wipe_at, wipe_at]
  by_cases hj : i = j
  · subst hj
    rw [if_pos h, if_pos h]
    by_cases hl : i < σ.length
    · simp [hl]
    · have hl' := Nat.le_of_not_lt hl
      simp [List.getElem?_eq_none hl', hl']
  · rw [List.getElem?_set_ne hj]
theorem wipe_wipe (σ : L2.St) (vs : List Nat) : wipe (wipe σ vs) vs = wipe σ vs := by
  apply List.ext_getElem?
  intro j
  rw [wipe_at (wipe σ vs), wipe_at σ]
  split
  · cases σ[j]? <;> rfl
  · rfl
theorem _root_.L2.PG.imp {e : Expr} {t t' : TG} (h : PG X e t) (i : ∀ v σ H Q, t' v σ H Q → t v σ H Q) : PG X e t' := ⟨fun pins s σ H v u Q I r q => h.run pins s σ H v u Q I r (i v σ H Q q)⟩
theorem _root_.L2.PGs.imp {e : List Expr} {t t' : TGs} (h : PGs X e t) (i : ∀ v σ H Q, t' v σ H Q → t v σ H Q) : PGs X e t' := ⟨fun pins s σ H v u Q I r q => h.run pins s σ H v u Q I r (i v σ H Q q)⟩
theorem xg_name {i : Nat} {x : Str} {pos : Pos} (hN : X.N.Nodup) (hi : X.N[i]? = some x) (hx : Loc X.env.scope x) (hf : X.fn x = true ∨ X.env.scope.names.lookup x = some .local := by first | exact .inl rfl | exact .inr rfl | assumption) : PG X (.Name x pos) (rG c [i] (gName i)) := by
  refine (pg_name hN hi hx hf).imp ?_
  rintro v σ H Q ⟨d, ρ, ρ', m, G, μ, S, R1, e, q⟩
  obtain rfl : ρ.set i (some d) = ρ' := by simpa [gName] using e
  exact q _ (S.put R1) fun vs h => wipe_set (h i (by simp))
theorem xgs_nil : PGs X [] (rGs c [] gsNil) := by
  refine pgs_nil.imp ?_
  rintro v σ H Q ⟨d, ρ, ρ', m, G, μ, S, R1, e, q⟩
  cases d with
  | nil =>
    cases R1
    obtain rfl : ρ = ρ' := by simpa [gsNil] using e
    exact ⟨rfl, q σ S fun _ _ => rfl⟩
  | cons _ _ => simp [gsNil] at e
theorem xgs_cons {e : Expr} {es : List Expr} {g : T} {gs : Ts} {sl sl' : List Nat} (h1 : PG X e (rG c sl g)) (h2 : PGs X es (rGs c sl' gs)) (hs : (assignEach (e :: es) X.env).map (·.2) = assign e X.env :: (assignEach es X.env).map (·.2) := by rfl) : PGs X (e :: es) (rGs c (sl ++ sl') (gsCons g gs)) := by
  refine (pgs_cons h1 h2 hs).imp ?_
  rintro v σ H Q ⟨d, ρ, ρ', m, G, μ, S, R1, e, q⟩
  cases d with
  | nil => simp [gsCons] at e
  | cons d ds =>
    cases R1 with
    | cons r rs =>
      refine ⟨_, _, rfl, ?_⟩
      cases eg : g d ρ with
      | none => simp [gsCons, eg] at e
      | some ρ1 =>
        have e2 : gs ds ρ1 = some ρ' := by simpa [gsCons, eg] using e
        exact ⟨d, ρ, ρ1, m, G, μ, S, r, eg, fun σ1 S1 w1 => ⟨ds, ρ1, ρ', m, G, μ, S1, rs, e2, fun σ2 S2 w2 => q σ2 S2 fun vs hv => (w2 vs fun i hi => hv i (by simp [hi])).trans (w1 vs fun i hi => hv i (by simp [hi]))⟩⟩
theorem xg_tup {es : List Expr} {gs : Ts} {sl : List Nat} {kk : Nat} {n : Nat} {pos : Pos} (hK : c.K = X.K) (hc : X.calm = true) (h : PGs X es (rGs c sl gs)) (hn : (assignEach es X.env).length = n := by rfl) (hst : (assignEach es X.env).findIdx? (·.1) = none := by rfl) :
    PG X (.Tuple es kk pos) (rG c sl (gTup n gs)) := by
  have A := pg_tup (pos := pos) (k := kk) hc h hn hst
  have B := pg_lst (pos := pos) (k := kk) hc h hn hst
  refine ⟨fun pins s σ H v u Q I r q => ?_⟩
  obtain ⟨d, ρ, ρ', m, G, μ, S, R1, e, q⟩ := q
  cases d with
  | tup xs =>
    cases R1 with
    | tup hs ha =>
      have e' : (if xs.length = n then gs xs ρ else none) = some ρ' := e
      split at e'
      · rename_i hl
        exact A.run pins s σ H _ u Q I r ⟨_, _, rfl, hK ▸ Same.tupS S.mem.gh hs, by rw [← ha.length]; exact hl, xs, ρ, ρ', m, G, μ, S, ha, e', q⟩
      · cases e'
  | lst xs =>
    cases R1 with
    | lst hs ha =>
      have e' : (if xs.length = n then gs xs ρ else none) = some ρ' := e
      split at e'
      · rename_i hl
        exact B.run pins s σ H _ u Q I r ⟨_, _, rfl, hK ▸ S.mem.gh.seq hs, by rw [← ha.length]; exact hl, xs, ρ, ρ', m, G, μ, S, ha, e', q⟩
      · cases e'
  | _ => cases e
theorem xs_asg {tg e : Expr} {f : E} {g : T} {sl : List Nat} {pos : Pos} (he : PE X e (rE c f)) (hg : PG X tg (rG c sl g)) (hs : swapsWithSole [tg] e pos.line X.env = pure false := by rfl) (hw : swappedStores [tg] e X.env = pure none := by rfl)
    (h1 : (assignEach [tg] X.env).map (·.2) = [assign tg X.env] := by rfl) : PS X (.Assign [tg] e pos) (rS c (sAsg f g)) := by
  refine (ps_asg he hg hs hw h1).imp ?_
  rintro D σ H ⟨ρ, m, G, μ, S, h⟩
  refine rE_then S h fun d m1 v H1 G1 μ1 S1 R1 g1 h1 => ?_
  cases eg : g d ρ with
  | none => rw [eg] at h1; exact h1.elim
  | some ρ' =>
    rw [eg] at h1
    exact ⟨d, ρ, ρ', m1, G1, μ1, S1, R1, eg, fun σ' S2 _ => h1 _ _ _ _ S2 Gr.refl⟩

/-! ### the context fits -/
structure Fit (X : Cx) (c : Ct) (k : Nat) : Prop where
  K : c.K = X.K
  mg : c.mg = X.mg
  calm : X.calm = true
  tk : Takes X c.W
  po : PassesOwn (model X.prog X.w) X.A X.env X.xe
  rm : Room k X.A
  nd : X.N.Nodup

structure Fit0 (X : Cx) (c : Ct) (k : Nat) : Prop where
  K : c.K = X.K
  mg : c.mg = X.mg
  nd : X.N.Nodup
theorem Fit.z {X : Cx} {c : Ct} {k : Nat} (F : Fit X c k) : Fit0 X c k := ⟨F.K, F.mg, F.nd⟩

/-! ### what is walked -/
/-- what the i-th turn gives -/
def YD (c : Ct) (G : Hp) (μ : List Addr) (ds : List D) (i : Nat) (H : Hp) (x : V) (H' : Hp) : Prop :=
  ∃ d, ds[i]? = some d ∧ ((H' = H ∧ Rep c.K c.mg c.xo G μ d x) ∨ ∃ T es vs, d = .tup es ∧ x = .ref T ∧ H T = none ∧ H' = upd H T (.tup vs) ∧ RepL c.K c.mg c.xo G μ es vs)
def WalkD (c : Ct) (J : It) (G : Hp) (μ : List Addr) (ds : List D) : Prop := Walk J ds.length (fun H => Same G H) (YD c G μ ds)
def rIt (c : Ct) (f : EL) : TI := fun σ H R => ∃ ρ m G μ, Sim c G μ ρ m σ H ∧ match f ρ m with
  | .ok ds m1 => ∀ J H1 G1 μ1, Sim c G1 μ1 ρ m1 σ H1 → Gr G μ G1 μ1 → WalkD c J G1 μ1 ds → R J H1
  | .exc e m1 => ∀ cc dd H1 G1 μ1, Sim c G1 μ1 ρ m1 σ H1 → Gr G μ G1 μ1 → ExcAt c.mg e cc dd G1 → c.W cc dd σ H1
  | .bad => False
theorem _root_.L2.PI.imp {tg e : Expr} {t t' : TI} (h : PI X tg e t) (i : ∀ σ H Q, t' σ H Q → t σ H Q) : PI X tg e t' := ⟨fun pins s σ H Q I q => h.run pins s σ H Q I (i σ H Q q)⟩
theorem _root_.L2.PI.or {tg e : Expr} {t t' : TI} (h : PI X tg e t) (h' : PI X tg e t') : PI X tg e (fun σ H Q => t σ H Q ∨ t' σ H Q) := ⟨fun pins s σ H Q I q => q.elim (h.run pins s σ H Q I) (h'.run pins s σ H Q I)⟩
/-- the item of a turn, with the state -/
theorem YD.sim {ds : List D} {i : Nat} {x : V} {H' G1 : Hp} {μ1 : List Addr} (S : Sim c G μ ρ m σ H) (g : Gr G1 μ1 G μ) (y : YD c G1 μ1 ds i H x H') :
    ∃ d G', ds[i]? = some d ∧ Sim c G' μ ρ m σ H' ∧ Gr G μ G' μ ∧ Rep c.K c.mg c.xo G' μ d x := by
  obtain ⟨d, hd, ⟨rfl, r⟩ | ⟨T, es, vs, rfl, rfl, hT, rfl, r⟩⟩ := y
  · exact ⟨d, G, hd, S, Gr.refl, r.gr g⟩
  · obtain ⟨S2, g2⟩ := S.alloc hT (.tup vs)
    exact ⟨_, _, hd, S2, g2, .tup (SqT.of upd_same) (r.gr (g.trans g2))⟩

/-! ### for -/
theorem forL_drop {g : T} {b : S} {ds : List D} {i : Nat} {d : D} (h : ds[i]? = some d) (ρ : Ev) (m : Mem) : forL g b (ds.drop i) ρ m = match g d ρ with
    | none => .bad
    | some ρ => match b ρ m with
      | .nx ρ m => forL g b (ds.drop (i + 1)) ρ m
      | .ct ρ m => forL g b (ds.drop (i + 1)) ρ m
      | .bk ρ m => .nx ρ m
      | o => o := by
  have e : ds.drop i = d :: ds.drop (i + 1) := by
    obtain ⟨h1, h2⟩ := List.getElem?_eq_some_iff.mp h
    rw [← h2]
    exact (List.drop_eq_getElem_cons h1)
  rw [e]
  rfl
theorem xs_for {k : Nat} {tg iter : Expr} {body : List Stmt} {f : EL} {g : T} {sl : List Nat} {b : S} {pos : Pos} (F : Fit X c k) (hi : PI X tg iter (rIt c f)) (hg : PG X tg (rG c sl g)) (hb : PSs X body (rS c b)) (hs : ∀ x, foldedSetIterable iter X.env x = pure x := by intro _; rfl) :
    PS X (.For tg iter body [] pos) (rS c (sFor f g b)) := by
  refine (ps_for F.po F.calm hi hg hb hs).imp ?_
  rintro D σ H ⟨ρ, m, G, μ, S, h⟩
  refine ⟨ρ, m, G, μ, S, ?_⟩
  have h : PostS c G μ D ((f ρ m).then ρ fun ds m => forL g b ds ρ m) := h
  cases ef : f ρ m with
  | bad => rw [ef] at h; exact h
  | exc x m1 => rw [ef] at h; exact fun cc dd H1 G1 μ1 S1 g1 x1 => h cc dd σ H1 G1 μ1 S1 g1 x1
  | ok ds m1 =>
    rw [ef] at h
    have h : PostS c G μ D (forL g b ds ρ m1) := h
    intro J H1 G1 μ1 S1 g1 wk
    refine for_it wk (fun i σ H => ∃ ρ m G μ, Sim c G μ ρ m σ H ∧ Gr G1 μ1 G μ ∧ PostS c G μ D (forL g b (ds.drop i) ρ m)) ⟨ρ, m1, G1, μ1, S1, Gr.refl, h.weak g1⟩ (fun i σ H _ ⟨_, _, G, μ, S, g, _⟩ => g.g.trans S.mem.gh) ?_ ?_
    · rintro i x σ H H' hi ⟨ρ, m, G, μ, S, gg, h⟩ y
      obtain ⟨d, G', hd, S2, g2, r⟩ := y.sim S gg
      rw [forL_drop hd] at h
      cases eg : g d ρ with
      | none => rw [eg] at h; exact h.elim
      | some ρ' =>
        rw [eg] at h
        refine ⟨d, ρ, ρ', m, G', μ, S2, r, eg, fun σ' S3 _ => ⟨ρ', m, G', μ, S3, ?_⟩⟩
        have h := h.weak g2
        simp only at h
        cases eb : b ρ' m with
        | nx ρ3 m3 =>
          rw [eb] at h
          exact fun σ3 H3 G3 μ3 S3 g3 => ⟨ρ3, m3, G3, μ3, S3, (gg.trans g2).trans g3, h.weak g3⟩
        | ct ρ3 m3 =>
          rw [eb] at h
          exact fun σ3 H3 G3 μ3 S3 g3 => ⟨ρ3, m3, G3, μ3, S3, (gg.trans g2).trans g3, h.weak g3⟩
        | bk ρ3 m3 => rw [eb] at h; exact h
        | rt d3 m3 => rw [eb] at h; exact h
        | exc x3 ρ3 m3 => rw [eb] at h; exact h
        | bad => rw [eb] at h; exact h
    · rintro σ H ⟨ρ, m, G, μ, S, gg, h⟩
      rw [List.drop_length] at h
      exact h _ _ _ _ S Gr.refl

/-! ### while -/
theorem xs_while {k : Nat} {t : Expr} {body : List Stmt} {ft : ET} {b : S} {pos : Pos} (n : Nat) (F : Fit X c k) (ht : PT X t (rT c ft)) (hb : PSs X body (rS c b)) : PS X (.While t body [] pos) (rS c (whileN ft b n)) := by
  refine (ps_while F.po ht hb).imp ?_
  rintro D σ H ⟨ρ, m, G, μ, S, h⟩
  refine ⟨fun j σ H => ∃ ρ m G μ, Sim c G μ ρ m σ H ∧ PostS c G μ D (whileN ft b j ρ m), ⟨n, ρ, m, G, μ, S, h⟩, ?_⟩
  rintro j σ H ⟨ρ, m, G, μ, S, h⟩
  cases j with
  | zero => exact h.elim
  | succ j =>
    unfold whileN at h
    refine rT_then S h fun k m1 H1 G1 μ1 S1 g1 h1 => ?_
    cases k with
    | false => exact h1 _ _ _ _ S1 Gr.refl
    | true =>
      rw [if_pos rfl]
      refine ⟨fun σ H => ∃ ρ m G μ, Sim c G μ ρ m σ H ∧ PostS c G μ D (whileN ft b j ρ m), fun σ' H' q => ⟨j, Nat.lt_succ_self _, q⟩, ρ, m1, G1, μ1, S1, ?_⟩
      rw [if_pos rfl] at h1
      cases eb : b ρ m1 with
      | nx ρ3 m3 =>
        rw [eb] at h1
        exact fun σ3 H3 G3 μ3 S3 g3 => ⟨ρ3, m3, G3, μ3, S3, h1.weak g3⟩
      | ct ρ3 m3 =>
        rw [eb] at h1
        exact fun σ3 H3 G3 μ3 S3 g3 => ⟨ρ3, m3, G3, μ3, S3, h1.weak g3⟩
      | bk ρ3 m3 => rw [eb] at h1; exact h1
      | rt d3 m3 => rw [eb] at h1; exact h1
      | exc x3 ρ3 m3 => rw [eb] at h1; exact h1
      | bad => rw [eb] at h1; exact h1

/-! ### list comprehensions -/
/-- the base, one list beside -/
abbrev Ct.acc (c : Ct) (D : Addr) (vs : List V) : Ct := { c with B := upd c.B D (.lst vs), W := fun _ _ _ _ => False }
theorem CellOk.reB {c c' : Ct} {a : Addr} {k : Cell} (hK : c'.K = c.K) (hm : c'.mg = c.mg) (hx : c'.xo = c.xo) (hb : ∀ b, c.B b = none → (b = a ∨ H b = some (.own a)) → c'.B b = none) (h : CellOk c G μ H a k) : CellOk c' G μ H a k := by
  cases k with
  | dead => trivial
  | lst xs =>
    obtain ⟨h1, h2, h3⟩ := h
    exact ⟨h1, hb _ h2 (.inl rfl), by rw [hK, hm, hx]; exact h3⟩
  | dct xs =>
    obtain ⟨h1, h2, h3⟩ := h
    exact ⟨h1, hb _ h2 (.inl rfl), by rw [hK, hm, hx]; exact h3⟩
  | obj n fs =>
    obtain ⟨h1, h2, C, dx, fv, e, h3, h4, h5, h6, h7⟩ := h
    exact ⟨h1, hb _ h2 (.inl rfl), C, dx, fv, by rw [hm]; exact e, h3, h4, h5, hb _ h6 (.inr h4), by rw [hK, hm, hx]; exact h7⟩
theorem wipe_get {ρ : Ev} {σ : L2.St} (hl : ρ.length = σ.length) (K : PySem.W.Frag) (mg : Str → Option Value) (xo : XO) (h : ∀ (i : Nat) (d : D), ρ[i]? = some (some d) → ∃ v, σ[i]? = some (some v) ∧ Rep K mg xo G μ d v) :
    ∀ vs : List Nat, (wipeE ρ vs).length = (wipe σ vs).length ∧ ∀ (i : Nat) (d : D), (wipeE ρ vs)[i]? = some (some d) → ∃ v, (wipe σ vs)[i]? = some (some v) ∧ Rep K mg xo G μ d v
  | [] => ⟨hl, h⟩
  | x :: vs => by
    obtain ⟨h1, h2⟩ := wipe_get hl K mg xo h vs
    refine ⟨by unfold wipeE wipe; simp [h1], fun i d e => ?_⟩
    unfold wipeE at e
    unfold wipe
    by_cases hx : x = i
    · subst hx
      by_cases hl2 : x < (wipeE ρ vs).length
      · rw [List.getElem?_set_self hl2] at e; cases e
      · rw [List.getElem?_eq_none (by simpa using hl2)] at e; cases e
    · rw [List.getElem?_set_ne hx] at e ⊢
      exact h2 i d e
/-- the block's start: the new list stands at D -/
theorem Sim.blk {D : Addr} (S : Sim c G μ ρ m σ H) (hD : H D = none) (vs : List Nat) : Sim (c.acc D []) G μ (wipeE ρ vs) m (wipe σ vs) (upd H D (.lst [])) := by
  obtain ⟨gD, bD, mD⟩ := S.mem.fresh hD
  obtain ⟨h1, h2⟩ := wipe_get S.len c.K c.mg c.xo S.env vs
  have nD : ∀ b, c.B b = none → b ≠ D → (c.acc D []).B b = none := fun b hb nb => (upd_ne nb).trans hb
  refine ⟨⟨fun b u e => by rw [upd_ne (ne_of_none e gD)]; exact S.mem.gh _ _ e, fun b u e => ?_, S.mem.g0, fun a u e1 e2 => ?_, S.mem.ml, S.mem.nd, fun n a k e1 e2 => ?_, fun a ha => ?_, fun a ha => nD a (S.mem.mb a ha) fun q => mD (q ▸ ha)⟩, h2, h1⟩
  · have e : upd c.B D (.lst []) b = some u := e
    by_cases hb : b = D
    · subst hb
      rw [upd_same] at e ⊢
      exact e
    · rw [upd_ne hb] at e ⊢
      exact S.mem.bh _ _ e
  · have e1 : upd c.B D (.lst []) a = some u := e1
    by_cases hb : a = D
    · subst hb
      exact gD
    · rw [upd_ne hb] at e1
      exact S.mem.gb a u e1 e2
  · have na : a ≠ D := fun q => mD (q ▸ List.mem_of_getElem? e1)
    have q := S.mem.cell n a k e1 e2
    refine CellOk.reB (c := c) rfl rfl rfl (fun b hb hw => nD b hb ?_) (CellOk.mono Gr.refl (fun q => q) (fun b _ q => q) (fun b u _ e => by rw [upd_ne (ne_of_none e hD)]; exact e) q)
    rcases hw with hw | hw
    · exact hw ▸ na
    · intro z
      rw [z, upd_same] at hw
      cases hw
  · have na : a ≠ D := fun q => mD (q ▸ ha)
    rw [upd_ne na]
    exact S.mem.used a ha
/-- an item more -/
theorem Sim.blkMore {D : Addr} {vs ws : List V} (S : Sim (c.acc D vs) G μ ρ m σ H) (g0 : c.G0 D = none) : Sim (c.acc D ws) G μ ρ m σ (upd H D (.lst ws)) := by
  have bD : (c.acc D vs).B D = some (.lst vs) := upd_same
  have hD : H D = some (.lst vs) := S.mem.bh _ _ bD
  have gD : G D = none := S.mem.gb _ _ bD g0
  have nD : ∀ b, (c.acc D vs).B b = none → b ≠ D := fun b hb z => by rw [z, bD] at hb; cases hb
  have nD2 : ∀ b, (c.acc D vs).B b = none → (c.acc D ws).B b = none := fun b hb => by
    have q : upd c.B D (.lst vs) b = none := hb
    show upd c.B D (.lst ws) b = none
    rw [upd_ne (nD b hb)] at q ⊢
    exact q
  refine ⟨⟨fun b u e => by rw [upd_ne (ne_of_none e gD)]; exact S.mem.gh _ _ e, fun b u e => ?_, S.mem.g0, fun a u e1 e2 => ?_, S.mem.ml, S.mem.nd, fun n a k e1 e2 => ?_, fun a ha => ?_, fun a ha => nD2 a (S.mem.mb a ha)⟩, S.env, S.len⟩
  · have e : upd c.B D (.lst ws) b = some u := e
    by_cases hb : b = D
    · subst hb
      rw [upd_same] at e ⊢
      exact e
    · rw [upd_ne hb] at e ⊢
      refine S.mem.bh b u ?_
      show upd c.B D (.lst vs) b = some u
      rw [upd_ne hb]
      exact e
  · have e1 : upd c.B D (.lst ws) a = some u := e1
    by_cases hb : a = D
    · subst hb
      exact gD
    · rw [upd_ne hb] at e1
      refine S.mem.gb a u ?_ e2
      show upd c.B D (.lst vs) a = some u
      rw [upd_ne hb]
      exact e1
  · have q := S.mem.cell n a k e1 e2
    have na : a ≠ D := nD a (S.mem.mb a (List.mem_of_getElem? e1))
    have q2 : CellOk (c.acc D ws) G μ H a k := CellOk.reB (c := c.acc D vs) rfl rfl rfl (fun b hb _ => nD2 b hb) q
    refine CellOk.mono Gr.refl (fun q => q) (fun b _ q => q) (fun b u hw e => ?_) q2
    have nb : b ≠ D := by
      rcases hw with hw | hw
      · exact hw ▸ na
      · intro z
        rw [z, hD] at e
        rw [hw] at e
        cases e
    rw [upd_ne nb]
    exact e
  · by_cases hb : a = D
    · subst hb
      rw [upd_same]
      simp
    · rw [upd_ne hb]
      exact S.mem.used a ha
theorem PostE.weak {Q : VK} {o : R D} {G1 : Hp} {μ1 : List Addr} (h : PostE c G μ ρ σ Q o) (g : Gr G μ G1 μ1) : PostE c G1 μ1 ρ σ Q o := by
  cases o with
  | ok d m => exact fun v H G' μ' S R1 g' => h v H G' μ' S R1 (g.trans g')
  | exc e m => exact fun cc dd H G' μ' S g' => h cc dd H G' μ' S (g.trans g')
  | bad => exact h
/-- a list that stands already and is nobody's: a tree, or a cell -/
theorem Sim.adopt {D : Addr} {M : Bool} {acc : List TT.D} {vs : List V} {Q : VK} (S : Sim c G μ ρ m σ H) (hD : H D = some (.lst vs)) (gD : G D = none) (b0 : c.B D = none) (mD : D ∉ μ)
    (r : RepL c.K c.mg c.xo G μ acc vs) (h : PostE c G μ ρ σ Q (mkL M acc m)) : Q (.ref D) H := by
  have M0 := S.mem
  cases M with
  | false =>
    have g2 : Gr G μ (upd G D (.lst vs)) μ := ⟨fun b u e => by rw [upd_ne (ne_of_none e gD)]; exact e, List.prefix_refl _⟩
    refine h _ _ _ _ (S.gr (G' := upd G D (.lst vs)) (μ' := μ) ⟨fun b u e => ?_, M0.bh, M0.g0.trans g2.g, fun a u e1 e2 => ?_, M0.ml, M0.nd, fun n a k e1 e2 => ?_, M0.used, M0.mb⟩ g2) (.lst (SqL.of upd_same) (r.gr g2)) g2
    · by_cases hb : b = D
      · subst hb
        rw [upd_same] at e
        rw [hD]
        exact e
      · rw [upd_ne hb] at e
        exact M0.gh _ _ e
    · have na : a ≠ D := fun z => by rw [z, b0] at e1; cases e1
      rw [upd_ne na]
      exact M0.gb a u e1 e2
    · have na : a ≠ D := fun q => mD (q ▸ List.mem_of_getElem? e1)
      exact CellOk.mono g2 (fun q => by rw [upd_ne na]; exact q) (fun b e q => by
        have nb : b ≠ D := fun z => by rw [z, hD] at e; cases e
        rw [upd_ne nb]; exact q) (fun b u _ e => e) (M0.cell n a k e1 e2)
  | true =>
    have g2 : Gr G μ G (μ ++ [D]) := ⟨Same.refl _, List.prefix_append _ _⟩
    refine h _ _ _ _ (S.gr (G' := G) (μ' := μ ++ [D]) ⟨M0.gh, M0.bh, M0.g0, M0.gb, by simp [M0.ml], ?_, fun n a k e1 e2 => ?_, fun a ha => ?_, fun a ha => ?_⟩ g2) (.loc (by rw [← M0.ml]; simp)) g2
    · rw [List.nodup_append]
      exact ⟨M0.nd, by simp, fun a ha b hb => by
        have : b = D := by simpa using hb
        subst this
        exact fun q => mD (q ▸ ha)⟩
    · by_cases hn : n < μ.length
      · rw [List.getElem?_append_left hn] at e1
        rw [List.getElem?_append_left (by rw [← M0.ml]; exact hn)] at e2
        exact CellOk.mono g2 (fun q => q) (fun b _ q => q) (fun b u _ e => e) (M0.cell n a k e1 e2)
      · have hn' : μ.length ≤ n := Nat.le_of_not_lt hn
        rw [List.getElem?_append_right hn'] at e1
        rw [List.getElem?_append_right (by rw [← M0.ml]; exact hn')] at e2
        rw [M0.ml] at e1
        cases q : n - m.length with
        | zero =>
          rw [q] at e1 e2
          obtain rfl : D = a := by simpa using e1
          obtain rfl : Cell.lst acc = k := by simpa using e2
          exact ⟨gD, b0, vs, hD, r.gr g2⟩
        | succ j =>
          rw [q] at e1
          simp at e1
    · rcases List.mem_append.mp ha with q | q
      · exact M0.used a q
      · have : a = D := by simpa using q
        subst this
        rw [hD]
        simp
    · rcases List.mem_append.mp ha with q | q
      · exact M0.mb a q
      · have : a = D := by simpa using q
        subst this
        exact b0

/-- the block's end -/
theorem Sim.blkEnd {D : Addr} {M : Bool} {acc : List TT.D} {vs : List V} {ρ0 : Ev} {σ0 : L2.St} {G1 : Hp} {μ1 : List Addr} {m1 : Mem} {H1 : Hp} {Q : VK} (S : Sim (c.acc D vs) G μ ρ m σ H) (g0 : c.G0 D = none) (b0 : c.B D = none) (S1 : Sim c G1 μ1 ρ0 m1 σ0 H1) (g : Gr G1 μ1 G μ)
    (r : RepL c.K c.mg c.xo G μ acc vs) (h : PostE c G μ ρ0 σ0 Q (mkL M acc m)) : Q (.ref D) H := by
  have bD : (c.acc D vs).B D = some (.lst vs) := upd_same
  have hD : H D = some (.lst vs) := S.mem.bh _ _ bD
  have gD : G D = none := S.mem.gb _ _ bD g0
  have nD : ∀ b, (c.acc D vs).B b = none → b ≠ D ∧ c.B b = none := fun b hb => by
    have z : b ≠ D := fun z => by rw [z, bD] at hb; cases hb
    have q : upd c.B D (.lst vs) b = none := hb
    rw [upd_ne z] at q
    exact ⟨z, q⟩
  have fr : ∀ b, c.B b ≠ none → (c.acc D vs).B b = c.B b := fun b hb => upd_ne fun z => hb (z ▸ b0)
  have M0 : MemOk c G μ m H := by
    refine ⟨S.mem.gh, fun b u e => S.mem.bh b u ((fr b (by rw [e]; simp)).trans e), S.mem.g0, fun a u e1 e2 => S.mem.gb a u ((fr a (by rw [e1]; simp)).trans e1) e2, S.mem.ml, S.mem.nd, fun n a k e1 e2 => ?_, S.mem.used, fun a ha => (nD a (S.mem.mb a ha)).2⟩
    exact CellOk.reB (c := c.acc D vs) rfl rfl rfl (fun b hb _ => (nD b hb).2) (S.mem.cell n a k e1 e2)
  have mD : D ∉ μ := fun z => (nD D (S.mem.mb D z)).1 rfl
  exact (S1.gr M0 g).adopt hD gD b0 mD r h
theorem compL_drop {g : T} {t : ET} {e : E} {ρ : Ev} {ds : List D} {i : Nat} {d : D} (h : ds[i]? = some d) (acc : List D) (m : Mem) : compL g t e ρ (ds.drop i) acc m = match g d ρ with
    | none => .bad
    | some ρ' => match t ρ' m with
      | .ok true m => (match e ρ' m with
        | .ok y m => if acc.length < LN then compL g t e ρ (ds.drop (i + 1)) (acc ++ [y]) m else .bad
        | _ => .bad)
      | .ok false m => compL g t e ρ (ds.drop (i + 1)) acc m
      | _ => .bad := by
  have e : ds.drop i = d :: ds.drop (i + 1) := by
    obtain ⟨h1, h2⟩ := List.getElem?_eq_some_iff.mp h
    rw [← h2]
    exact (List.drop_eq_getElem_cons h1)
  rw [e]
  rfl
abbrev Ct.inn (c : Ct) (B : Hp) : Ct := { c with B := B, W := fun _ _ _ _ => False }
theorem rE_comp {M : Bool} {f : EL} {g : T} {sl vs : List Nat} {t : ET} {e : E} (hsl : (sl.all fun i => decide (i ∈ vs)) = true) : ∀ (σ : L2.St) (H : Hp) (Q : VK), rE c (eComp M f g t e vs) σ H Q →
    tLc (rIt c f) (fun v σ H Q => ∃ B, rG (c.inn B) sl g v σ H Q) (fun σ H Q => ∃ B, rT (c.inn B) t σ H Q) (fun σ H Q => ∃ B, rE (c.inn B) e σ H Q) vs σ H Q := by
  rintro σ H Q ⟨ρ, m, G, μ, S, h⟩
  refine ⟨ρ, m, G, μ, S, ?_⟩
  have h : PostE c G μ ρ σ Q ((f ρ m).bind fun ds m => (compL g t e (wipeE ρ vs) ds [] m).bind fun ys m => mkL M ys m) := h
  cases ef : f ρ m with
  | bad => rw [ef] at h; exact h
  | exc x m1 => rw [ef] at h; exact fun cc dd H1 G1 μ1 S1 g1 x1 => h cc dd H1 G1 μ1 S1 g1 x1
  | ok ds m1 =>
    rw [ef] at h
    have h : PostE c G μ ρ σ Q ((compL g t e (wipeE ρ vs) ds [] m1).bind fun ys m => mkL M ys m) := h
    intro J H1 G1 μ1 S1 g1 wk P hP
    obtain ⟨gP, bP, mP⟩ := S1.mem.fresh hP
    have g0 : c.G0 P = none := S1.mem.g0.free gP
    refine lc_it (g := fun v σ H Q => ∃ B, rG (c.inn B) sl g v σ H Q) (tt := fun σ H Q => ∃ B, rT (c.inn B) t σ H Q) (te := fun σ H Q => ∃ B, rE (c.inn B) e σ H Q) (vs := vs) (σ := σ) (Qd := fun H => Q (.ref P) H) wk (fun i H => ∃ acc av m G μ, Sim (c.acc P av) G μ (wipeE ρ vs) m (wipe σ vs) H ∧ RepL c.K c.mg c.xo G μ acc av ∧ Gr G1 μ1 G μ ∧ PostE c G μ ρ σ Q ((compL g t e (wipeE ρ vs) (ds.drop i) acc m).bind fun ys m => mkL M ys m))
      ⟨[], [], m1, G1, μ1, S1.blk hP vs, .nil, Gr.refl, h.weak g1⟩ (fun i H _ ⟨_, _, _, G, μ, S, _, g, _⟩ => g.g.trans S.mem.gh) ?_ ?_
    · rintro i x H H' hi ⟨acc, av, m, G, μ, S, ra, gg, h⟩ y
      obtain ⟨d, G', hd, S2, g2, r⟩ := YD.sim (c := c.acc P av) S gg y
      rw [compL_drop hd] at h
      have h := h.weak g2
      cases eg : g d (wipeE ρ vs) with
      | none => rw [eg] at h; exact h.elim
      | some ρ' =>
        rw [eg] at h
        simp only at h
        refine ⟨_, d, wipeE ρ vs, ρ', m, G', μ, S2, r, eg, fun σ' S3 hw => ⟨?_, ?_⟩⟩
        · rw [hw vs fun i hi => by simpa using (List.all_eq_true.mp hsl) i hi, wipe_wipe]
        · refine ⟨_, ρ', m, G', μ, S3, ?_⟩
          cases et : t ρ' m with
          | bad => rw [et] at h; exact h.elim
          | exc x3 m3 => rw [et] at h; exact h.elim
          | ok b m3 =>
            rw [et] at h
            intro H3 G3 μ3 S4 g3
            have h := h.weak g3
            cases b with
            | false =>
              rw [if_neg Bool.false_ne_true]
              exact ⟨acc, av, m3, G3, μ3, S.gr S4.mem (g2.trans g3), ra.gr (g2.trans g3), (gg.trans g2).trans g3, h⟩
            | true =>
              rw [if_pos rfl]
              refine ⟨_, ρ', m3, G3, μ3, S4, ?_⟩
              simp only at h
              cases ee : e ρ' m3 with
              | bad => rw [ee] at h; exact h.elim
              | exc x3 m4 => rw [ee] at h; exact h.elim
              | ok yd m4 =>
                rw [ee] at h
                simp only at h
                split at h
                · rename_i hlen
                  intro yv H4 G4 μ4 S5 ry g4
                  have hl := ra.length
                  refine ⟨av, S5.mem.bh P _ upd_same, by rw [← hl, sizeLine_eq]; exact hlen, acc ++ [yd], av ++ [yv], m4, G4, μ4, (S.gr S5.mem ((g2.trans g3).trans g4)).blkMore g0, (ra.gr ((g2.trans g3).trans g4)).append (.cons ry .nil), ((gg.trans g2).trans g3).trans g4, h.weak g4⟩
                · exact h.elim
    · rintro H ⟨acc, av, m, G, μ, S, ra, gg, h⟩
      rw [List.drop_length] at h
      exact S.blkEnd g0 bP S1 gg ra h
theorem xe_comp {k : Nat} {M : Bool} {elt tg iter : Expr} {ifs : List Expr} {scope : Scope} {own : List (Str × Nat)} {pos : Pos} {f : EL} {g : T} {sl : List Nat} {t : ET} {e : E} (F : Fit X c k) (hi : PI X tg iter (rIt c f)) (ok : BlkOk X.N X.env.scope scope own) (hsl : (sl.all fun i => decide (i ∈ own.map (·.2))) = true)
    (hg : ∀ (B : Hp) (s : Shared) (H : Hp) (C : Addr) (cl : List (Str × Addr)) (fp : List Addr), Fit (X.blk s H scope (compEnvC scope cl C X.env) fp) (c.inn B) k → PG (X.blk s H scope (compEnvC scope cl C X.env) fp) tg (rG (c.inn B) sl g))
    (ht : ∀ (B : Hp) (s : Shared) (H : Hp) (C : Addr) (cl : List (Str × Addr)) (fp : List Addr), Fit (X.blk s H scope (compEnvC scope cl C X.env) fp) (c.inn B) k → PTs (X.blk s H scope (compEnvC scope cl C X.env) fp) ifs (rT (c.inn B) t))
    (he : ∀ (B : Hp) (s : Shared) (H : Hp) (C : Addr) (cl : List (Str × Addr)) (fp : List Addr), Fit (X.blk s H scope (compEnvC scope cl C X.env) fp) (c.inn B) k → PE (X.blk s H scope (compEnvC scope cl C X.env) fp) elt (rE (c.inn B) e))
    (hs : ∀ x, foldedSetIterable iter X.env x = pure x := by intro _; rfl) :
    PE X (.ListComp elt [⟨tg, iter, ifs, 0⟩] scope pos) (rE c (eComp M f g t e (own.map (·.2)))) := by
  have fit : ∀ (B : Hp) (s : Shared) (H : Hp) (C : Addr) (cl : List (Str × Addr)) (fp : List Addr), Fit (X.blk s H scope (compEnvC scope cl C X.env) fp) (c.inn B) k := fun B s H C cl fp => ⟨F.K, F.mg, F.calm, takes0, .never, F.rm, F.nd⟩
  refine (pe_lc (g := fun v σ H Q => ∃ B, rG (c.inn B) sl g v σ H Q) (tt := fun σ H Q => ∃ B, rT (c.inn B) t σ H Q) (te := fun σ H Q => ∃ B, rE (c.inn B) e σ H Q) F.calm F.nd hi ok
    (fun s H C cl fp => ⟨fun pins s' σ H' v u Q I r ⟨B, q⟩ => (hg B s H C cl fp (fit B s H C cl fp)).run pins s' σ H' v u Q I r q⟩)
    (fun s H C cl fp => ⟨fun pins s' σ H' Q I ⟨B, q⟩ => (ht B s H C cl fp (fit B s H C cl fp)).run pins s' σ H' Q I q⟩)
    (fun s H C cl fp => ⟨fun pins s' σ H' Q I ⟨B, q⟩ => (he B s H C cl fp (fit B s H C cl fp)).run pins s' σ H' Q I q⟩) hs).imp (rE_comp hsl)
/-- y = [..] on one line, y a local -/
theorem xs_setLc {i : Nat} {y : Str} {py : Pos} {spos : Pos} {k : Nat} {M : Bool} {elt tg iter : Expr} {ifs : List Expr} {scope : Scope} {own : List (Str × Nat)} {pos : Pos} {f : EL} {g : T} {sl : List Nat} {t : ET} {e : E} (F : Fit X c k) (hy : X.N[i]? = some y) (hyl : X.env.scope.names.lookup y = some .local)
    (hsw : swapsWith (.ListComp elt [⟨tg, iter, ifs, 0⟩] scope pos) (some (.Name y py)) spos.line X.env = pure true) (hi : PI X tg iter (rIt c f)) (ok : BlkOk X.N X.env.scope scope own) (hsl : (sl.all fun i => decide (i ∈ own.map (·.2))) = true)
    (hg : ∀ (B : Hp) (s : Shared) (H : Hp) (C : Addr) (cl : List (Str × Addr)) (fp : List Addr), Fit (X.blk s H scope (compEnvC scope cl C X.env) fp) (c.inn B) k → PG (X.blk s H scope (compEnvC scope cl C X.env) fp) tg (rG (c.inn B) sl g))
    (ht : ∀ (B : Hp) (s : Shared) (H : Hp) (C : Addr) (cl : List (Str × Addr)) (fp : List Addr), Fit (X.blk s H scope (compEnvC scope cl C X.env) fp) (c.inn B) k → PTs (X.blk s H scope (compEnvC scope cl C X.env) fp) ifs (rT (c.inn B) t))
    (he : ∀ (B : Hp) (s : Shared) (H : Hp) (C : Addr) (cl : List (Str × Addr)) (fp : List Addr), Fit (X.blk s H scope (compEnvC scope cl C X.env) fp) (c.inn B) k → PE (X.blk s H scope (compEnvC scope cl C X.env) fp) elt (rE (c.inn B) e))
    (hs : ∀ x, foldedSetIterable iter X.env x = pure x := by intro _; rfl) :
    PS X (.Assign [.Name y py] (.ListComp elt [⟨tg, iter, ifs, 0⟩] scope pos) spos) (rS c (sSet i (eComp M f g t e (own.map (·.2))))) := by
  have fit : ∀ (B : Hp) (s : Shared) (H : Hp) (C : Addr) (cl : List (Str × Addr)) (fp : List Addr), Fit (X.blk s H scope (compEnvC scope cl C X.env) fp) (c.inn B) k := fun B s H C cl fp => ⟨F.K, F.mg, F.calm, takes0, .never, F.rm, F.nd⟩
  refine (ps_setLc (g := fun v σ H Q => ∃ B, rG (c.inn B) sl g v σ H Q) (tt := fun σ H Q => ∃ B, rT (c.inn B) t σ H Q) (te := fun σ H Q => ∃ B, rE (c.inn B) e σ H Q) F.calm F.nd hy hyl hsw hi ok
    (fun s H C cl fp => ⟨fun pins s' σ H' v u Q I r ⟨B, q⟩ => (hg B s H C cl fp (fit B s H C cl fp)).run pins s' σ H' v u Q I r q⟩)
    (fun s H C cl fp => ⟨fun pins s' σ H' Q I ⟨B, q⟩ => (ht B s H C cl fp (fit B s H C cl fp)).run pins s' σ H' Q I q⟩)
    (fun s H C cl fp => ⟨fun pins s' σ H' Q I ⟨B, q⟩ => (he B s H C cl fp (fit B s H C cl fp)).run pins s' σ H' Q I q⟩) hs).imp ?_
  rintro D σ H ⟨ρ, m, G, μ, S, h⟩
  exact rE_comp hsl σ H _ (rE_then S h fun d m1 v H1 G1 μ1 S1 R1 g1 h1 => h1 _ _ _ _ (S1.put R1) Gr.refl)

/-! ### calls -/
/-- a def's promise by its mirror: n arguments; the cells that it may see are m -/
def spD (K : PySem.W.Frag) (mg : Str → Option Value) (n : Nat) (f : F) : Sp := fun vs H Q E => vs.length = n ∧ ∃ ds m B G μ, MemOk ⟨K, mg, none, B, G, fun _ _ _ _ => False⟩ G μ m H ∧ RepL K mg none G μ ds vs ∧ match f ds m with
  | .ok d m' => ∀ v H' G' μ', MemOk ⟨K, mg, none, B, G, fun _ _ _ _ => False⟩ G' μ' m' H' → Gr G μ G' μ' → Rep K mg none G' μ' d v → Q v H'
  | .exc e m' => ∀ cc dd H' G' μ', MemOk ⟨K, mg, none, B, G, fun _ _ _ _ => False⟩ G' μ' m' H' → Gr G μ G' μ' → ExcAt mg e cc dd G' → E cc dd H'
  | .bad => False
structure Callee (P : Program) (w : World) (K : PySem.W.Frag) (mg : Str → Option Value) (base : Heap) (k : Nat) (x : Str) (n : Nat) (f : F) : Prop where
  ex : ∃ a fd ps, FnOk P w K mg base (L2.CX P w) k a fd ps (spD K mg n f) ∧ mg x = some (.ref a) ∧ PySem.W.keepIn K (.ref a) = true ∧ Binds K fd ps []
theorem MemOk.w {W : WX} (h : MemOk c G μ m H) : MemOk { c with W := W } G μ m H :=
  ⟨h.gh, h.bh, h.g0, h.gb, h.ml, h.nd, fun n a k e1 e2 => CellOk.reB (c := c) rfl rfl rfl (fun b hb _ => hb) (h.cell n a k e1 e2), h.used, h.mb⟩
theorem MemOk.ct {c c' : Ct} (hK : c'.K = c.K) (hm : c'.mg = c.mg) (hx : c'.xo = c.xo) (hB : c'.B = c.B) (hG : c'.G0 = c.G0) (h : MemOk c G μ m H) : MemOk c' G μ m H :=
  ⟨h.gh, hB ▸ h.bh, hG ▸ h.g0, fun a o e1 e2 => h.gb a o (hB ▸ e1) (hG ▸ e2), h.ml, h.nd, fun n a k e1 e2 => CellOk.reB hK hm hx (fun b hb _ => hB ▸ hb) (h.cell n a k e1 e2), h.used, fun a ha => hB ▸ h.mb a ha⟩
/-- a def by its body -/
theorem fn_mk {P : Program} {w : World} {K : PySem.W.Frag} {mg : Str → Option Value} {base : Heap} {x qual : Str} {st : Stmt} {a : Addr} {fd : FuncData} {N ps : List Str} {k : Nat} {b : S} {n : Nat}
    (Fn : Fun K x qual st a fd) (Sc : FnScope N ps (defScope st)) (hn : ps.length = n)
    (hbody : ∀ (c : Ct) (xo : c.xo = none) (cdv : Value) (A : Around) (outer : List Env) (s : Shared) (H : Hp) (E : XK), Fit (cxOf (L2.CX P w) P w K mg base N qual (defScope st) a cdv A outer s H E) c k →
      PSs (cxOf (L2.CX P w) P w K mg base N qual (defScope st) a cdv A outer s H E) (defBody st) (rS c b)) :
    FnOk P w K mg base (L2.CX P w) (k + 1) a fd ps (spD K mg n (runDef N.length b)) := by
  refine Fn.okX Sc (fun vs H Q E h => h.1.trans hn.symm) (fun cdv A outer s H vs Q E hr h => ?_)
  obtain ⟨hl, ds, m, B, G, μ, M, R1, h⟩ := h
  refine ⟨rS ⟨K, mg, none, B, G, fun cc d _ H => E cc d H⟩ b, hbody _ rfl cdv A outer s H E ⟨rfl, rfl, rfl, takes_of rfl rfl rfl rfl, passes_of rfl, hr, Sc.nd⟩, ds.map some ++ List.replicate (N.length - ds.length) none, m, G, μ, ⟨M.w, fun i d e => ?_, ?_⟩, ?_⟩
  · by_cases hi : i < ds.length
    · rw [List.getElem?_append_left (by simpa using hi), List.getElem?_map] at e
      have e : ds[i]? = some d := by
        cases q : ds[i]? with
        | none => rw [q] at e; simp at e
        | some z => rw [q] at e; simpa using e
      obtain ⟨v, hv, r⟩ := R1.get e
      refine ⟨v, ?_, r⟩
      unfold L2.start
      rw [List.getElem?_append_left (by rw [List.length_map, ← R1.length]; exact hi), List.getElem?_map, hv]
      rfl
    · rw [List.getElem?_append_right (by simpa using hi)] at e
      obtain ⟨h1, h2⟩ := List.getElem?_eq_some_iff.mp e
      rw [List.getElem_replicate] at h2
      cases h2
  · unfold L2.start
    simp [R1.length]
  · have h : match (b (ds.map some ++ List.replicate (N.length - ds.length) none) m).end with
      | .ok d m' => ∀ v H' G' μ', MemOk ⟨K, mg, none, B, G, fun _ _ _ _ => False⟩ G' μ' m' H' → Gr G μ G' μ' → Rep K mg none G' μ' d v → Q v H'
      | .exc e m' => ∀ cc dd H' G' μ', MemOk ⟨K, mg, none, B, G, fun _ _ _ _ => False⟩ G' μ' m' H' → Gr G μ G' μ' → ExcAt mg e cc dd G' → E cc dd H'
      | .bad => False := h
    cases eb : b (ds.map some ++ List.replicate (N.length - ds.length) none) m with
    | nx ρ3 m3 =>
      rw [eb] at h
      exact fun σ3 H3 G3 μ3 S3 g3 => h .non H3 G3 μ3 S3.mem.w g3 .non
    | rt d3 m3 =>
      rw [eb] at h
      exact fun v H3 G3 μ3 M3 g3 r3 => h v H3 G3 μ3 M3.w g3 r3
    | exc x3 ρ3 m3 =>
      rw [eb] at h
      exact fun cc dd σ3 H3 G3 μ3 S3 g3 x1 => h cc dd H3 G3 μ3 S3.mem.w g3 x1
    | bk ρ3 m3 => rw [eb] at h; exact h.elim
    | ct ρ3 m3 => rw [eb] at h; exact h.elim
    | bad => rw [eb] at h; exact h.elim
theorem callee_mk {P : Program} {w : World} {K : PySem.W.Frag} {mg : Str → Option Value} {base : Heap} {x qual : Str} {st : Stmt} {a : Addr} {fd : FuncData} {ps : List Str} {k : Nat} {f : F} {y : Str} {n : Nat}
    (Fn : Fun K x qual st a fd) (hmg : mg y = some (.ref a)) (hb : Binds K fd ps []) (h : FnOk P w K mg base (L2.CX P w) k a fd ps (spD K mg n f)) : Callee P w K mg base k y n f := ⟨a, fd, ps, h, hmg, Fn.kp, hb⟩
/-- a caller sees what a callee left of a heap that it knew -/
theorem Sim.after {B' G' : Hp} {μ' : List Addr} {m' : Mem} {W' : WX} {H' : Hp} (S : Sim c G μ ρ m σ H) (M : MemOk ⟨c.K, c.mg, none, H, G, W'⟩ G' μ' m' H') : Sim c G' μ ρ m σ H' ∧ Gr G μ G' μ := by
  have hs : Same H H' := M.bh
  have gs : Same G G' := M.g0
  have gb : ∀ a o, H a = some o → G a = none → G' a = none := M.gb
  have g : Gr G μ G' μ := ⟨gs, List.prefix_refl _⟩
  refine ⟨S.gr ⟨M.gh, S.mem.bh.trans hs, S.mem.g0.trans gs, fun a o e1 e2 => gb a o (S.mem.bh a o e1) (S.mem.gb a o e1 e2), S.mem.ml, S.mem.nd, fun n a k e1 e2 => ?_, fun a ha => ?_, S.mem.mb⟩ g, g⟩
  · have ha := S.mem.used a (List.mem_of_getElem? e1)
    refine CellOk.mono g (fun q => ?_) (fun b e q => gb b _ e q) (fun b u _ e => hs b u e) (S.mem.cell n a k e1 e2)
    cases q2 : H a with
    | none => exact absurd q2 ha
    | some o => exact gb a o q2 q
  · have h1 := S.mem.used a ha
    cases q2 : H a with
    | none => exact absurd q2 h1
    | some o => rw [hs a o q2]; simp
/-- f(..): the callee sees no cell -/
theorem rE_call {M : Bool} {n : Nat} {f : F} {l : EL} (hx : c.xo = none) : ∀ (σ : L2.St) (H : Hp) (Q : VK), rE c (eCall M n f l) σ H Q → tCallSD (spD c.K c.mg n f) [] (WE c.W) (rL c l) σ H Q := by
  rintro σ H Q ⟨ρ, m, G, μ, S, h⟩
  refine rL_bindE S h fun ds m1 vs H1 G1 μ1 S1 R1 g1 h1 => ?_
  split at h1
  · rename_i hd
    obtain ⟨hl, hd⟩ := hd
    rw [List.append_nil]
    have M0 : MemOk ⟨c.K, c.mg, none, H1, G1, fun _ _ _ _ => False⟩ G1 [] [] H1 :=
      ⟨S1.mem.gh, Same.refl _, Same.refl _, fun a o _ q => q, rfl, List.nodup_nil, fun n a k e => by simp at e, fun a ha => by simp at ha, fun a ha => by simp at ha⟩
    refine ⟨by rw [← R1.length]; exact hl, ds, [], H1, G1, [], M0, (hx ▸ R1).off hd, ?_⟩
    cases ef : f ds [] with
    | bad => rw [ef] at h1; exact h1.elim
    | exc e m' =>
      rw [ef] at h1
      intro cc dd H' G' μ' M' g' x'
      obtain ⟨S2, g2⟩ := S1.after (B' := H1) M'
      exact h1 cc dd H' G' μ1 S2 g2 x'
    | ok d m' =>
      rw [ef] at h1
      intro v H' G' μ' M' g' r'
      obtain ⟨S2, g2⟩ := S1.after (B' := H1) M'
      have plain : noLoc d = true ∧ M = false → PostE c G1 μ1 ρ σ Q (.ok d m1) → Q v H' := fun hn h1 => h1 v H' G' μ1 S2 (Rep.mono (Same.refl _) (List.prefix_refl _) (.inl rfl) (r'.off hn.1)) g2
      cases d with
      | loc j =>
        simp only at h1
        split at h1
        · rename_i xs hj
          split at h1
          · rename_i hxs
            cases r' with
            | loc hμ =>
              rename_i a
              obtain ⟨ga, ba, ws, ha, rx⟩ := M'.cell j a _ hμ hj
              have ba : H1 a = none := ba
              have rx : RepL c.K c.mg none G' μ' xs ws := rx
              exact S2.adopt ha ga (S1.mem.bh.free ba) (fun z => S1.mem.used a z ba) (RepL.mono (Same.refl _) (List.prefix_refl _) (.inl rfl) (rx.off hxs)) (h1.weak g2)
          · exact h1.elim
        · exact h1.elim
      | _ =>
        simp only at h1
        split at h1
        · rename_i hn
          exact plain hn h1
        · exact h1.elim
  · exact h1.elim
theorem xe_call {M : Bool} {k j n : Nat} {f : F} {l : EL} {x : Str} {p pos : Pos} {e : Expr} {es : List Expr} (F : Fit X c k) (hxo : c.xo = none) (C : Callee X.prog X.w X.K X.mg X.base j x n f) (hj : j ≤ k) (hg : Gl X x) (ha : PA X (e :: es) (rL c l)) (hdb : (x == ("__debug__" : Str)) = false := by decide)
    (he : starEach (e :: es) X.env = (false, eval e X.env) :: starEach es X.env := by rfl) (hpl : (backTo pos (starEach es X.env)).any (·.1) = false := by rfl) : PE X (.Call (.Name x p) (e :: es) [] pos) (rE c (eCall M n f l)) := by
  obtain ⟨a, fd, ps, h1, h2, h3, h4⟩ := C.ex
  have h1 : FnOk X.prog X.w X.K X.mg X.base (L2.CX X.prog X.w) j a fd ps (spD c.K c.mg n f) := by
    rw [F.K, F.mg]
    exact h1
  exact (pe_callSD (E := WE c.W) h1 (F.rm.mono hj) hg h2 h3 h4 .nil (fun σ => passAt F.tk σ) ha hdb he hpl).imp (rE_call hxo)
end
end TT

set_option maxHeartbeats 2000000
/-! T2: the operations over the heap. -/
namespace TT
open PySem PySem.Spec PyProof.Rows L2
section
variable {X : Cx} {c : Ct} {G : Hp} {μ : List Addr} {ρ : Ev} {m : Mem} {σ : L2.St} {H : Hp}
/-! ### views -/
theorem view_loc (n : Nat) : (∃ xs, m[n]? = some (.lst xs) ∧ view m (.loc n) = .lst xs) ∨ (∃ ps, m[n]? = some (.dct ps) ∧ view m (.loc n) = .dct ps) ∨ view m (.loc n) = .loc n := by
  cases e : m[n]? with
  | none => exact .inr (.inr (by simp [view, e]))
  | some k =>
    cases k with
    | lst xs => exact .inl ⟨xs, rfl, by simp [view, e]⟩
    | dct ps => exact .inr (.inl ⟨ps, rfl, by simp [view, e]⟩)
    | obj n fs => exact .inr (.inr (by simp [view, e]))
    | dead => exact .inr (.inr (by simp [view, e]))
/-- what has a flat view is it -/
theorem view_flat {x y : D} (h : view m x = y) (hy : ∀ xs, y ≠ .lst xs) (hy2 : ∀ ps, y ≠ .dct ps) (hy3 : ∀ n, y ≠ .loc n) : x = y := by
  cases x with
  | loc n =>
    rcases view_loc (m := m) n with ⟨xs, _, e⟩ | ⟨ps, _, e⟩ | e
    · exact absurd (h.symm.trans e) (hy xs)
    · exact absurd (h.symm.trans e) (hy2 ps)
    · exact absurd (h.symm.trans e) (hy3 n)
  | _ => exact h
theorem v_int {x : D} {u : V} {i : Int} (r : Rep c.K c.mg c.xo G μ x u) (h : view m x = .int i) : u = .int i := by
  obtain rfl := view_flat h (by intro _ q; cases q) (by intro _ q; cases q) (by intro _ q; cases q)
  cases r
  rfl
theorem v_str {x : D} {u : V} {i : Str} (r : Rep c.K c.mg c.xo G μ x u) (h : view m x = .str i) : u = .str i ∧ okS i = true := by
  obtain rfl := view_flat h (by intro _ q; cases q) (by intro _ q; cases q) (by intro _ q; cases q)
  cases r with
  | str _ h => exact ⟨rfl, h⟩
theorem v_bl {x : D} {u : V} {i : Bool} (r : Rep c.K c.mg c.xo G μ x u) (h : view m x = .bl i) : u = .bl i := by
  obtain rfl := view_flat h (by intro _ q; cases q) (by intro _ q; cases q) (by intro _ q; cases q)
  cases r
  rfl
theorem v_non {x : D} {u : V} (r : Rep c.K c.mg c.xo G μ x u) (h : view m x = .non) : u = .non := by
  obtain rfl := view_flat h (by intro _ q; cases q) (by intro _ q; cases q) (by intro _ q; cases q)
  cases r
  rfl
theorem v_ty {x : D} {u : V} {n : String} (r : Rep c.K c.mg c.xo G μ x u) (h : view m x = .ty n) : u = .ty n := by
  obtain rfl := view_flat h (by intro _ q; cases q) (by intro _ q; cases q) (by intro _ q; cases q)
  cases r
  rfl
theorem v_tup {x : D} {u : V} {xs : List D} (M : MemOk c G μ m H) (r : Rep c.K c.mg c.xo G μ x u) (h : view m x = .tup xs) : ∃ a vs, u = .ref a ∧ SqT c.K H a vs ∧ RepL c.K c.mg c.xo G μ xs vs := by
  obtain rfl := view_flat h (by intro _ q; cases q) (by intro _ q; cases q) (by intro _ q; cases q)
  cases r with
  | tup hs ha => exact ⟨_, _, rfl, Same.tupS M.gh hs, ha⟩
theorem v_lst {x : D} {u : V} {xs : List D} (M : MemOk c G μ m H) (r : Rep c.K c.mg c.xo G μ x u) (h : view m x = .lst xs) : ∃ a vs, u = .ref a ∧ SqL c.K H a vs ∧ RepL c.K c.mg c.xo G μ xs vs := by
  cases x with
  | loc n =>
    rcases view_loc (m := m) n with ⟨ys, e1, e⟩ | ⟨ps, _, e⟩ | e
    · obtain rfl : ys = xs := by simpa using e.symm.trans h
      cases r with
      | loc hμ =>
        obtain ⟨_, _, vs, h1, h2⟩ := M.cell _ _ _ hμ e1
        exact ⟨_, vs, rfl, SqL.of h1, h2⟩
    · cases e.symm.trans h
    · cases e.symm.trans h
  | lst ys =>
    obtain rfl : ys = xs := by simpa [view] using h
    cases r with
    | lst hs ha => exact ⟨_, _, rfl, M.gh.seq hs, ha⟩
  | _ => cases h
theorem v_lstT {u : V} {xs : List D} (r : Rep c.K c.mg c.xo G μ (.lst xs) u) : ∃ a vs, u = .ref a ∧ SqL c.K G a vs ∧ RepL c.K c.mg c.xo G μ xs vs := by
  cases r with
  | lst hs ha => exact ⟨_, _, rfl, hs, ha⟩

/-! ### lists, glued -/
def rCatL (K : PySem.W.Frag) : R2 := fun x y H Q => ∃ a b xs ys, x = .ref a ∧ y = .ref b ∧ SqL K H a xs ∧ SqL K H b ys ∧ xs.length + ys.length ≤ sizeLine ∧ ∀ p, H p = none → Q (.ref p) (upd H p (.lst (xs ++ ys)))
theorem op_catL : OpR X (binaryOp .Add) (rCatL X.K) := by
  intro pins s σ H x y v u Q I rx ry ⟨a, b, xs, ys, ex, ey, ha, hb, hz, q⟩
  subst ex ey
  cases rx
  cases ry
  obtain ⟨its, r, ⟨⟨cls, dd, data, sl⟩, n, ho, hc, hd, hs⟩, _⟩ := I.list ha
  obtain ⟨its2, r2, ⟨⟨cls2, dd2, data2, sl2⟩, n2, ho2, hc2, hd2, hs2⟩, _⟩ := I.list hb
  simp only at hc hd hs hc2 hd2 hs2
  subst hc hd hs hc2 hd2 hs2
  have e : its.toArray ++ its2.toArray = (its ++ its2).toArray := by simp
  have l1 := r.length
  have l2 := r2.length
  refine concat_meets ⟨_, ho, rfl⟩ ⟨_, ho2, rfl⟩ noFill_list_add seq_list_add PySem.F.slot_list_add PySem.F.entry_list_add (PySem.F.args_list_add_2 _ _)
    (list_addW a b its.toArray its2.toArray n n2 none none sl sl2 (by simp only [List.size_toArray]; omega)) ⟨ho, ho2, ?_⟩
  rw [e]
  exact ⟨.ref _, _, I.lnew (t' := s.toks) (r.append r2) (by rw [List.length_append]; omega), rfl, q _ I.fresh⟩

/-! ### + - * % // ** -/
abbrev rrAdd (K : PySem.W.Frag) : R2 := fun x y H Q => rI0 (fun i j => .int (i + j)) x y H Q ∨ ((∃ i j, x = .str i ∧ y = .str j ∧ i.length + j.length ≤ sizeLine ∧ Q (.str (i ++ j)) H) ∨ (rCatL K x y H Q ∨ rCatA K x y H Q))
theorem or_add : OpR X (binaryOp .Add) (rrAdd X.K) := op_add.or (op_add_str.or (op_catL.or op_catA))
theorem okS_append {x y : Str} (h : okS x = true) (h' : okS y = true) : okS (x ++ y) = true := by
  unfold okS at h h' ⊢
  show ((x.cps ++ y.cps).all _) = true
  rw [Array.all_append, h, h']
  rfl
theorem sim_add : OpSim c dAdd (rrAdd c.K) := by
  intro G μ ρ m σ H x y d u v Q S r1 r2 e k
  generalize e1 : view m x = x' at e
  generalize e2 : view m y = y' at e
  unfold dAdd at e
  split at e
  · cases e
    exact .inl ⟨_, _, v_int r1 e1, v_int r2 e2, k _ _ _ _ S (.int _) Gr.refl⟩
  · split at e
    · rename_i hl
      cases e
      obtain ⟨q1, o1⟩ := v_str r1 e1
      obtain ⟨q2, o2⟩ := v_str r2 e2
      exact .inr (.inl ⟨_, _, q1, q2, by rw [sizeLine_eq]; exact hl, k _ _ _ _ S (.str _ (okS_append o1 o2)) Gr.refl⟩)
    · cases e
  · split at e
    · rename_i hl
      cases e
      obtain ⟨a, vs, ea, ha, ra⟩ := v_lst S.mem r1 e1
      obtain ⟨b, ws, eb, hb, rb⟩ := v_lst S.mem r2 e2
      refine .inr (.inr (.inl ⟨a, b, vs, ws, ea, eb, ha, hb, by rw [← ra.length, ← rb.length, sizeLine_eq]; exact hl, fun p hp => ?_⟩))
      obtain ⟨S2, g2⟩ := S.alloc hp (.lst (vs ++ ws))
      exact k _ _ _ _ S2 (.lst (SqL.of upd_same) ((ra.append rb).gr g2)) g2
    · cases e
  · split at e
    · rename_i hl
      cases e
      obtain ⟨a, vs, ea, ha, ra⟩ := v_tup S.mem r1 e1
      obtain ⟨b, ws, eb, hb, rb⟩ := v_tup S.mem r2 e2
      obtain rfl := view_flat e1 (by intro _ q; cases q) (by intro _ q; cases q) (by intro _ q; cases q)
      obtain rfl := view_flat e2 (by intro _ q; cases q) (by intro _ q; cases q) (by intro _ q; cases q)
      have l1 := ra.length
      have l2 := rb.length
      refine .inr (.inr (.inr ⟨a, b, vs, ws, ea, eb, ha, hb, by rw [← l1, ← l2, sizeLine_eq]; exact hl, fun q => ?_, fun _ q => ?_, fun _ _ p hp => ?_⟩))
      · subst q
        cases ra
        exact k _ _ _ _ S (eb ▸ r2) Gr.refl
      · subst q
        cases rb
        rw [List.append_nil] at k
        exact k _ _ _ _ S (ea ▸ r1) Gr.refl
      · obtain ⟨S2, g2⟩ := S.alloc hp (.tup (vs ++ ws))
        exact k _ _ _ _ S2 (.tup (SqT.of upd_same) ((ra.append rb).gr g2)) g2
    · cases e
  · cases e
theorem sim_sub : OpSim c dSub (rI0 fun i j => .int (i - j)) := by
  intro G μ ρ m σ H x y d u v Q S r1 r2 e k
  generalize e1 : view m x = x' at e
  generalize e2 : view m y = y' at e
  unfold dSub at e
  split at e
  · cases e
    exact ⟨_, _, v_int r1 e1, v_int r2 e2, k _ _ _ _ S (.int _) Gr.refl⟩
  · cases e
theorem sim_mod : OpSim c dMod (L2.rI (fun _ j => 0 < j) fun i j => .int (i % j)) := by
  intro G μ ρ m σ H x y d u v Q S r1 r2 e k
  generalize e1 : view m x = x' at e
  generalize e2 : view m y = y' at e
  unfold dMod at e
  split at e
  · split at e
    · rename_i hl
      cases e
      exact ⟨_, _, v_int r1 e1, v_int r2 e2, hl, k _ _ _ _ S (.int _) Gr.refl⟩
    · cases e
  · cases e
theorem sim_div : OpSim c dDiv (rI CDiv fun i j => .int (i / j)) := by
  intro G μ ρ m σ H x y d u v Q S r1 r2 e k
  generalize e1 : view m x = x' at e
  generalize e2 : view m y = y' at e
  unfold dDiv at e
  split at e
  · split at e
    · rename_i hl
      cases e
      exact ⟨_, _, v_int r1 e1, v_int r2 e2, hl, k _ _ _ _ S (.int _) Gr.refl⟩
    · cases e
  · cases e
theorem sim_pow : OpSim c dPow (rI CPow fun i j => .int (i ^ j.toNat)) := by
  intro G μ ρ m σ H x y d u v Q S r1 r2 e k
  generalize e1 : view m x = x' at e
  generalize e2 : view m y = y' at e
  unfold dPow at e
  split at e
  · split at e
    · rename_i hl
      cases e
      exact ⟨_, _, v_int r1 e1, v_int r2 e2, hl, k _ _ _ _ S (.int _) Gr.refl⟩
    · cases e
  · cases e
theorem RepL.rep {ds : List D} {vs : List V} (h : RepL c.K c.mg c.xo G μ ds vs) : ∀ k : Nat, RepL c.K c.mg c.xo G μ (List.replicate k ds).flatten (List.replicate k vs).flatten
  | 0 => .nil
  | k + 1 => by
    rw [List.replicate_succ, List.replicate_succ, List.flatten_cons, List.flatten_cons]
    exact h.append (RepL.rep h k)
/-- a list times an int -/
def rRepL (K : PySem.W.Frag) : R2 := fun x y H Q => ∃ l k xs, x = .ref l ∧ y = .int k ∧ SqL K H l xs ∧ -(2 ^ 63) ≤ k ∧ k < 2 ^ 63 ∧ xs.length * k.toNat ≤ sizeLine ∧ ∀ p, H p = none → Q (.ref p) (upd H p (.lst (List.replicate k.toNat xs).flatten))
theorem op_repL : OpR X (binaryOp .Mult) (rRepL X.K) := by
  intro pins s σ H x y v u Q I rx ry ⟨l, k, xs, ex, ey, hl, h1, h2, hz, q⟩
  subst ex ey
  cases rx
  obtain ⟨t, rfl⟩ := ry
  obtain ⟨its, r, ⟨⟨cls, dd, data, sl⟩, n, ho, hc, hd, hs⟩, _⟩ := I.list hl
  simp only at hc hd hs
  subst hc hd hs
  have hsz : its.toArray.size = xs.length := by rw [List.size_toArray]; exact r.length.symm
  have big : (sizeLine : Nat) ≤ (2 ^ 63 - 1) / 8 := by decide
  have c0 : ¬ (!Builtin.List.listFitsIndex k) = true := by rw [fitsIndex_both h1 h2]; exact Bool.false_ne_true
  have c1 : ¬ its.toArray.size * k.toNat > (2 ^ 63 - 1) / 8 := by rw [hsz]; omega
  have c2 : ¬ Builtin.List.listTooLong (its.toArray.size * k.toNat) = true := by rw [hsz, notLongL hz]; exact Bool.false_ne_true
  have flat : ∀ j : Nat, List.foldl (fun x1 x2 => x1 ++ x2) #[] (List.replicate j its.toArray) = (List.replicate j its).flatten.toArray := fun j => by simpa using foldl_rep its j []
  have new : List.foldl (fun x1 x2 => x1 ++ x2) #[] (List.replicate (if its.toArray.isEmpty = true then 0 else k.toNat) its.toArray) = (List.replicate k.toNat its).flatten.toArray := by
    rw [flat]
    cases its with
    | nil => simp
    | cons a r' => simp
  have dn : Meets (Builtin.«list.__mul__» ⟨[.ref l, .int k t], []⟩) _ := lm_list_mul_any l its.toArray n none sl k t c0 c1 c2
  refine wpAny_binaryOp_repeat_ref (T := "list") (U := "int") (by decide) ⟨_, ho, rfl⟩ (fun s' => typeIs_int s' k t) noFill_list_mul
    F.fills_int_mul F.slot_int_rmul repeat_list F.slot_int_index.lookup (call_meets F.slot_int_rmul (typeIs_int s k t) F.entry_int_rmul (F.args_int_rmul_2 _ _) (lm_int_rmul_list_any k t l its.toArray n none sl) ⟨ho, ?_⟩)
  refine ⟨rfl, ⟨_, ho, rfl⟩, call_meets F.slot_list_mul ⟨_, ho, rfl⟩ F.entry_list_mul (F.args_list_mul_2 _ _) dn ⟨ho, ?_⟩⟩
  rw [new]
  exact ⟨.ref _, _, I.lnew (t' := s.toks) (r.rep k.toNat) (by rw [PyProof.Rows.lm_len_rep_flat, Nat.mul_comm]; exact hz), rfl, q _ I.fresh⟩
def rRepS : R2 := fun x y H Q => ∃ (s : Str) (k : Int), x = .str s ∧ y = .int k ∧ -1000000 ≤ k ∧ k ≤ 1000000 ∧ s.length * k.toNat ≤ sizeLine ∧ Q (.str ⟨(List.replicate k.toNat s.cps.toList).flatten.toArray⟩) H
theorem flat_eq (x : Str) (n : Nat) : (List.replicate n x.cps).foldl (fun a b => a ++ b) #[] = (List.replicate n x.cps.toList).flatten.toArray := by
  have go : ∀ (n : Nat) (acc : List Nat), (List.replicate n x.cps).foldl (fun a b => a ++ b) acc.toArray = (acc ++ (List.replicate n x.cps.toList).flatten).toArray := by
    intro n
    induction n with
    | zero => intro acc; simp
    | succ n ih =>
      intro acc
      rw [List.replicate_succ, List.replicate_succ, List.foldl_cons, List.flatten_cons]
      have e : acc.toArray ++ x.cps = (acc ++ x.cps.toList).toArray := by
        apply Array.toList_inj.mp
        simp
      rw [e, ih, List.append_assoc]
  simpa using go n []
theorem op_mulS : OpR X (binaryOp .Mult) rRepS := by
  intro pins s σ H x y v u Q I rx ry ⟨a, k, ex, ey, h1, h2, hz, q⟩
  subst ex ey
  obtain ⟨t, rfl⟩ := rx
  obtain ⟨t2, rfl⟩ := ry
  have hp : (2 : Int) ^ 63 = 9223372036854775808 := by decide +kernel
  refine PySem.P.mul_str (by
    rw [decide_eq_false (by rw [hp]; omega), decide_eq_false (by rw [hp]; omega)]; rfl) (fun k1 k2 => ?_) (fun _ _ => ?_) ?_
  · intro hc
    have hk : (1000000 : Int) ≤ 1000000 := by omega
    have hlen : a.length ≤ 16777216 ∨ k.toNat = 0 := by
      by_cases hk0 : k.toNat = 0
      · exact .inr hk0
      · left
        have : a.length * 1 ≤ a.length * k.toNat := Nat.mul_le_mul_left _ (by omega)
        have hz : a.length * k.toNat ≤ 16777216 := by rw [← sizeLine_eq]; exact hz
        omega
    have hd : (9223372036854 : Int) ≤ (2 ^ 63 - 1) / k := by
      rw [hp]
      exact Int.le_ediv_of_mul_le (by omega) (by omega)
    omega
  · show decide (a.length * k.toNat > sizeLine) = false
    rw [decide_eq_false_iff_not]
    omega
  · by_cases h3 : k < 1
    · rw [if_pos h3]
      have e0 : k.toNat = 0 := by omega
      rw [e0] at q
      exact ⟨by decide, ⟨.str ⟨#[]⟩, H, I.tok _, ⟨_, rfl⟩, q⟩⟩
    · rw [if_neg h3]
      by_cases h4 : (k == 1 || a.length == 0) = true
      · rw [if_pos h4]
        refine ⟨.str a, H, I, ⟨_, rfl⟩, ?_⟩
        have e : (⟨(List.replicate k.toNat a.cps.toList).flatten.toArray⟩ : Str) = a := by
          obtain ⟨⟨l⟩⟩ := a
          rw [Bool.or_eq_true, beq_iff_eq, beq_iff_eq] at h4
          rcases h4 with rfl | h4
          · simp
          · have h4 : l.length = 0 := h4
            obtain rfl := List.eq_nil_of_length_eq_zero h4
            simp
        rw [e] at q
        exact q
      · rw [if_neg h4]
        refine ⟨?_, ⟨.str _, H, I.tok _, ⟨_, rfl⟩, ?_⟩⟩
        · rw [flat_eq]
          show ((List.replicate k.toNat a.cps.toList).flatten.toArray).size ≤ sizeLine
          have : a.cps.toList.length = a.length := Array.length_toList
          simp
          rw [Nat.mul_comm] at hz
          exact hz
        · rw [flat_eq]
          exact q
abbrev rrMul (K : PySem.W.Frag) : R2 := fun x y H Q => rI CMul (fun i j => .int (i * j)) x y H Q ∨ (rRepL K x y H Q ∨ (rRepT K x y H Q ∨ rRepS x y H Q))
theorem or_mul : OpR X (binaryOp .Mult) (rrMul X.K) := op_mul.or (op_repL.or (op_repT.or op_mulS))
theorem sim_mul : OpSim c dMul (rrMul c.K) := by
  intro G μ ρ m σ H x y d u v Q S r1 r2 e k
  generalize e1 : view m x = x' at e
  generalize e2 : view m y = y' at e
  unfold dMul at e
  split at e
  · split at e
    · rename_i hl
      cases e
      exact .inl ⟨_, _, v_int r1 e1, v_int r2 e2, hl, k _ _ _ _ S (.int _) Gr.refl⟩
    · cases e
  · split at e
    · rename_i hl
      cases e
      obtain ⟨a, vs, ea, ha, ra⟩ := v_lst S.mem r1 e1
      refine .inr (.inl ⟨a, _, vs, ea, v_int r2 e2, ha, hl.1, hl.2.1, by rw [← ra.length, sizeLine_eq]; exact hl.2.2, fun p hp => ?_⟩)
      obtain ⟨S2, g2⟩ := S.alloc hp (.lst (List.replicate _ vs).flatten)
      exact k _ _ _ _ S2 (.lst (SqL.of upd_same) ((ra.rep _).gr g2)) g2
    · cases e
  · split at e
    · rename_i hl
      cases e
      obtain ⟨a, vs, ea, ha, ra⟩ := v_tup S.mem r1 e1
      have hl0 := ra.length
      refine .inr (.inr (.inl ⟨a, _, vs, ea, v_int r2 e2, ha, fun q => hl.1 (by subst q; exact List.eq_nil_of_length_eq_zero hl0), hl.2.1, hl.2.2.1, by rw [← hl0]; exact hl.2.2.2, fun p hp => ?_⟩))
      obtain ⟨S2, g2⟩ := S.alloc hp (.tup (List.replicate _ vs).flatten)
      exact k _ _ _ _ S2 (.tup (SqT.of upd_same) ((ra.rep _).gr g2)) g2
    · cases e
  · split at e
    · rename_i hl
      cases e
      obtain ⟨q1, o1⟩ := v_str r1 e1
      refine .inr (.inr (.inr ⟨_, _, q1, v_int r2 e2, hl.1, hl.2.1, by rw [sizeLine_eq]; exact hl.2.2, k _ _ _ _ S (.str _ ?_) Gr.refl⟩))
      unfold okS at o1 ⊢
      simp at o1 ⊢
      exact .inr o1
    · cases e
  · cases e

/-! ### equality -/
mutual
def toPy : D → PyData
  | .non => .none
  | .bl b => .bool b
  | .int i => .int i
  | .str s => .str s
  | .lst xs => .list (toPyL xs)
  | .tup xs => .tuple (toPyL xs)
  | .dct _ => .none
  | .obj _ _ => .none
  | .exc _ _ => .none
  | .cls _ => .none
  | .ty _ => .none
  | .loc _ => .none
def toPyL : List D → List PyData
  | [] => []
  | x :: xs => toPy x :: toPyL xs
end
theorem toPyL_map : ∀ xs : List D, toPyL xs = xs.map toPy
  | [] => rfl
  | x :: xs => by rw [toPyL, toPyL_map xs]; rfl
mutual
theorem Rep.py {n : Nat} : ∀ {d : D} {v : V}, Rep c.K c.mg c.xo G μ d v → dataN n d = true → Dp c.K G v (toPy d) ∧ (toPy d).canLay0 = true ∧ (toPy d).depth ≤ n
  | _, _, .non, _ => ⟨.non, rfl, Nat.zero_le _⟩
  | _, _, .bl b, _ => ⟨.bl b, rfl, Nat.zero_le _⟩
  | _, _, .int i, _ => ⟨.int i, rfl, Nat.zero_le _⟩
  | _, _, .str s h, _ => ⟨.str s, h, Nat.zero_le _⟩
  | _, _, .lst (ds := ds) h t, e => by
    cases n with
    | zero => simp [dataN] at e
    | succ n =>
      have e' : ds.all (dataN n) = true := by simpa [dataN] using e
      obtain ⟨h1, h2, h3⟩ := RepL.py (n := n) t e'
      exact ⟨.lst h h1, h2, Nat.succ_le_succ h3⟩
  | _, _, .tup (ds := ds) h t, e => by
    cases n with
    | zero => simp [dataN] at e
    | succ n =>
      have e' : ds.all (dataN n) = true := by simpa [dataN] using e
      obtain ⟨h1, h2, h3⟩ := RepL.py (n := n) t e'
      exact ⟨.tup h h1, h2, Nat.succ_le_succ h3⟩
  | _, _, .dct _ _, e => by cases n <;> simp [dataN] at e
  | _, _, .obj _ _ _ _, e => by cases n <;> simp [dataN] at e
  | _, _, .exc _ _, e => by cases n <;> simp [dataN] at e
  | _, _, .cls _, e => by cases n <;> simp [dataN] at e
  | _, _, .ty _, e => by cases n <;> simp [dataN] at e
  | _, _, .loc _, e => by cases n <;> simp [dataN] at e
theorem RepL.py {n : Nat} : ∀ {ds : List D} {vs : List V}, RepL c.K c.mg c.xo G μ ds vs → ds.all (dataN n) = true → DpAll c.K G vs (toPyL ds) ∧ PyData.canLayAll0 (toPyL ds) = true ∧ PyData.depthAll (toPyL ds) ≤ n
  | _, _, .nil, _ => ⟨.nil, rfl, Nat.zero_le _⟩
  | _, _, .cons (d := d) (ds := ds) h t, e => by
    have e' : dataN n d = true ∧ ds.all (dataN n) = true := by simpa using e
    obtain ⟨h1, h2, h3⟩ := Rep.py h e'.1
    obtain ⟨k1, k2, k3⟩ := RepL.py t e'.2
    refine ⟨.cons h1 k1, ?_, Nat.max_le.mpr ⟨h3, k3⟩⟩
    show (PyData.canLay0 (toPy d) && PyData.canLayAll0 (toPyL ds)) = true
    rw [h2, k2]
    rfl
end
theorem eqv_py : ∀ (n k : Nat) (d e : D), dataN n d = true → dataN k e = true → eqvD d e = PyData.eqv (toPy d) (toPy e) := by
  intro n
  induction n with
  | zero =>
    intro k d e h h'
    cases d <;> simp [dataN] at h <;> cases e <;> first | rfl | (cases k <;> simp [dataN] at h')
  | succ n ih =>
    have lists : ∀ (k : Nat) (xs ys : List D), xs.all (dataN n) = true → ys.all (dataN k) = true → eqvL xs ys = PyData.eqvAll (toPyL xs) (toPyL ys) := by
      intro k xs
      induction xs with
      | nil =>
        intro ys _ _
        cases ys with
        | nil => simp only [eqvL, toPyL, PyData.eqvAll]
        | cons y ys => simp only [eqvL, toPyL, PyData.eqvAll]
      | cons x xs ihx =>
        intro ys h h'
        cases ys with
        | nil => simp only [eqvL, toPyL, PyData.eqvAll]
        | cons y ys =>
          have h1 : dataN n x = true ∧ xs.all (dataN n) = true := by simpa using h
          have h2 : dataN k y = true ∧ ys.all (dataN k) = true := by simpa using h'
          show (eqvD x y && eqvL xs ys) = (PyData.eqv (toPy x) (toPy y) && PyData.eqvAll (toPyL xs) (toPyL ys))
          rw [ih k x y h1.1 h2.1, ihx ys h1.2 h2.2]
    intro k d e h h'
    cases d with
    | lst xs =>
      have hx : xs.all (dataN n) = true := by simpa [dataN] using h
      cases e with
      | lst ys =>
        cases k with
        | zero => simp [dataN] at h'
        | succ k =>
          have hy : ys.all (dataN k) = true := by simpa [dataN] using h'
          simp only [eqvD, toPy, PyData.eqv]
          exact lists k xs ys hx hy
      | _ => first | (simp only [eqvD, toPy, PyData.eqv]; done) | (cases k <;> simp [dataN] at h')
    | tup xs =>
      have hx : xs.all (dataN n) = true := by simpa [dataN] using h
      cases e with
      | tup ys =>
        cases k with
        | zero => simp [dataN] at h'
        | succ k =>
          have hy : ys.all (dataN k) = true := by simpa [dataN] using h'
          simp only [eqvD, toPy, PyData.eqv]
          exact lists k xs ys hx hy
      | _ => first | (simp only [eqvD, toPy, PyData.eqv]; done) | (cases k <;> simp [dataN] at h')
    | non => cases e <;> first | rfl | (cases k <;> simp [dataN] at h')
    | bl b => cases e <;> first | rfl | (cases k <;> simp [dataN] at h')
    | int b => cases e <;> first | rfl | (cases k <;> simp [dataN] at h')
    | str b => cases e <;> first | rfl | (cases k <;> simp [dataN] at h')
    | dct _ => simp [dataN] at h
    | obj _ _ => simp [dataN] at h
    | exc _ _ => simp [dataN] at h
    | cls _ => simp [dataN] at h
    | ty _ => simp [dataN] at h
    | loc _ => simp [dataN] at h
theorem shaped_of {d : PyData} {n : Nat} (h1 : d.canLay0 = true) (h2 : d.depth ≤ n) (hn : n ≤ 64) : SeqAt.shaped d = true := by
  unfold SeqAt.shaped
  rw [h1, decide_eq_true (Nat.le_trans h2 hn)]
  rfl
mutual
theorem _root_.L2.Dp.mono {K : PySem.W.Frag} {H H' : Hp} (s : Same H H') : ∀ {v : V} {d : PyData}, Dp K H v d → Dp K H' v d
  | _, _, .non => .non
  | _, _, .bl b => .bl b
  | _, _, .int i => .int i
  | _, _, .str x => .str x
  | _, _, .lst h t => .lst (s.seq h) (L2.DpAll.mono s t)
  | _, _, .tup h t => .tup (Same.tupS s h) (L2.DpAll.mono s t)
theorem _root_.L2.DpAll.mono {K : PySem.W.Frag} {H H' : Hp} (s : Same H H') : ∀ {v : List V} {d : List PyData}, DpAll K H v d → DpAll K H' v d
  | _, _, .nil => .nil
  | _, _, .cons h t => .cons (L2.Dp.mono s h) (L2.DpAll.mono s t)
end
/-- data by its view -/
theorem v_data {x y : D} {u : V} (M : MemOk c G μ m H) (r : Rep c.K c.mg c.xo G μ x u) (h : view m x = y) (hd : isData y = true) : Dp c.K H u (toPy y) ∧ SeqAt.shaped (toPy y) = true := by
  have tree : Rep c.K c.mg c.xo G μ y u → Dp c.K H u (toPy y) ∧ SeqAt.shaped (toPy y) = true := fun r => by
    obtain ⟨h1, h2, h3⟩ := r.py hd
    exact ⟨h1.mono M.gh, shaped_of h2 h3 (by decide)⟩
  cases x with
  | loc n =>
    rcases view_loc (m := m) n with ⟨ys, e1, e⟩ | ⟨ps, _, e⟩ | e
    · obtain rfl : y = .lst ys := h.symm.trans e
      have hd' : ys.all (dataN 15) = true := by simpa [isData, dataN] using hd
      cases r with
      | loc hμ =>
        obtain ⟨_, _, vs, h1, h2⟩ := M.cell _ _ _ hμ e1
        obtain ⟨k1, k2, k3⟩ := h2.py hd'
        exact ⟨.lst (SqL.of h1) (k1.mono M.gh), shaped_of (d := .list (toPyL ys)) (n := 16) k2 (Nat.succ_le_succ k3) (by decide)⟩
    · obtain rfl : y = .dct ps := h.symm.trans e
      simp [isData, dataN] at hd
    · obtain rfl : y = .loc n := h.symm.trans e
      simp [isData, dataN] at hd
  | _ =>
    have e : _ = y := h
    subst e
    exact tree r
/-- an empty dict -/
theorem v_dct0 {x : D} {u : V} (M : MemOk c G μ m H) (r : Rep c.K c.mg c.xo G μ x u) (h : view m x = .dct []) : ∃ a, u = .ref a ∧ H a = some (.dK []) := by
  have hp : ∀ {kvs : List (Key × V)}, RepP c.K c.mg c.xo G μ [] kvs → kvs = [] := fun h => by cases h; rfl
  cases x with
  | loc n =>
    rcases view_loc (m := m) n with ⟨ys, e1, e⟩ | ⟨ps, e1, e⟩ | e
    · cases e.symm.trans h
    · obtain rfl : ps = [] := by simpa using e.symm.trans h
      cases r with
      | loc hμ =>
        obtain ⟨_, _, kvs, h1, h2⟩ := M.cell _ _ _ hμ e1
        rw [hp h2] at h1
        exact ⟨_, rfl, h1⟩
    · cases e.symm.trans h
  | dct ps =>
    obtain rfl : ps = [] := by simpa [view] using h
    cases r with
    | dct h1 h2 =>
      rw [hp h2] at h1
      exact ⟨_, rfl, M.gh _ _ h1⟩
  | _ => cases h
def rD0 (b : Bool) : R2 := fun x y H Q => ∃ a a', x = .ref a ∧ y = .ref a' ∧ H a = some (.dK []) ∧ H a' = some (.dK []) ∧ Q (.bl b) H
theorem op_eqD0 (hu : X.A.units < cLine) : OpR X (compareOp .Eq) (rD0 true) := by
  intro pins s σ H x y v u Q I rx ry ⟨a, b, ex, ey, ha, hb, q⟩
  subst ex ey
  cases (show v = Value.ref a from rx)
  cases (show u = Value.ref b from ry)
  obtain ⟨_, ya, va, ra, da⟩ := (show ObjOk X.prog X.w H s.heap a (.dK []) from I.hok a _ ha)
  obtain ⟨_, yb, vb, rb, db⟩ := (show ObjOk X.prog X.w H s.heap b (.dK []) from I.hok b _ hb)
  cases ra
  cases rb
  exact PySem.W.keq_eq (knd := mixKind X.prog X.w) (r := true) ya yb da db hu (fun _ => .nil) ⟨.bl true, H, I, rfl, q⟩
theorem op_neD0 (hu : X.A.units < cLine) : OpR X (compareOp .NotEq) (rD0 false) := by
  intro pins s σ H x y v u Q I rx ry ⟨a, b, ex, ey, ha, hb, q⟩
  subst ex ey
  cases (show v = Value.ref a from rx)
  cases (show u = Value.ref b from ry)
  obtain ⟨_, ya, va, ra, da⟩ := (show ObjOk X.prog X.w H s.heap a (.dK []) from I.hok a _ ha)
  obtain ⟨_, yb, vb, rb, db⟩ := (show ObjOk X.prog X.w H s.heap b (.dK []) from I.hok b _ hb)
  cases ra
  cases rb
  exact PySem.W.keq_ne (knd := mixKind X.prog X.w) (r := true) ya yb da db hu (fun _ => .nil) ⟨.bl false, H, I, rfl, q⟩
abbrev rrEq (K : PySem.W.Frag) : R2 := fun x y H Q => rEqD K x y H Q ∨ rD0 true x y H Q
abbrev rrNe (K : PySem.W.Frag) : R2 := fun x y H Q => rNeD K x y H Q ∨ rD0 false x y H Q
theorem noDct_inv {x y : D} {k : Bool} (e : noDct x y = some k) : x = .dct [] ∧ y = .dct [] ∧ k = true := by
  unfold noDct at e
  split at e
  · cases e
    exact ⟨rfl, rfl, rfl⟩
  · cases e
theorem sim_eq : CmpSim c dEq (rrEq c.K) := by
  intro G μ ρ m σ H x y k u v Q S r1 r2 e q
  generalize e1 : view m x = x' at e
  generalize e2 : view m y = y' at e
  unfold dEq at e
  split at e
  · rename_i hd
    cases e
    obtain ⟨a1, a2⟩ := v_data S.mem r1 e1 hd.1
    obtain ⟨b1, b2⟩ := v_data S.mem r2 e2 hd.2
    exact .inl ⟨_, _, a1, b1, a2, b2, by rw [← eqv_py 16 16 x' y' hd.1 hd.2]; exact q⟩
  · obtain ⟨rfl, rfl, rfl⟩ := noDct_inv e
    obtain ⟨a, q1, h1⟩ := v_dct0 S.mem r1 e1
    obtain ⟨b, q2, h2⟩ := v_dct0 S.mem r2 e2
    exact .inr ⟨a, b, q1, q2, h1, h2, q⟩
theorem sim_ne : CmpSim c dNe (rrNe c.K) := by
  intro G μ ρ m σ H x y k u v Q S r1 r2 e q
  generalize e1 : view m x = x' at e
  generalize e2 : view m y = y' at e
  unfold dNe dEq at e
  split at e
  · rename_i hd
    cases e
    obtain ⟨a1, a2⟩ := v_data S.mem r1 e1 hd.1
    obtain ⟨b1, b2⟩ := v_data S.mem r2 e2 hd.2
    exact .inl ⟨_, _, a1, b1, a2, b2, by rw [← eqv_py 16 16 x' y' hd.1 hd.2]; exact q⟩
  · obtain ⟨k', e3, rfl⟩ := Option.map_eq_some_iff.mp e
    obtain ⟨rfl, rfl, rfl⟩ := noDct_inv e3
    obtain ⟨a, q1, h1⟩ := v_dct0 S.mem r1 e1
    obtain ⟨b, q2, h2⟩ := v_dct0 S.mem r2 e2
    exact .inr ⟨a, b, q1, q2, h1, h2, q⟩
theorem sim_lt : CmpSim c dLt (rI0 fun i j => .bl (decide (i < j))) := by
  intro G μ ρ m σ H x y k u v Q S r1 r2 e q
  generalize e1 : view m x = x' at e
  generalize e2 : view m y = y' at e
  unfold dLt at e
  split at e
  · cases e
    exact ⟨_, _, v_int r1 e1, v_int r2 e2, q⟩
  · cases e
theorem sim_le : CmpSim c dLe (rI0 fun i j => .bl (decide (i ≤ j))) := by
  intro G μ ρ m σ H x y k u v Q S r1 r2 e q
  generalize e1 : view m x = x' at e
  generalize e2 : view m y = y' at e
  unfold dLe at e
  split at e
  · cases e
    exact ⟨_, _, v_int r1 e1, v_int r2 e2, q⟩
  · cases e
theorem sim_gt : CmpSim c dGt (rI0 fun i j => .bl (decide (j < i))) := by
  intro G μ ρ m σ H x y k u v Q S r1 r2 e q
  generalize e1 : view m x = x' at e
  generalize e2 : view m y = y' at e
  unfold dGt at e
  split at e
  · cases e
    exact ⟨_, _, v_int r1 e1, v_int r2 e2, q⟩
  · cases e
theorem sim_ge : CmpSim c dGe (rI0 fun i j => .bl (decide (j ≤ i))) := by
  intro G μ ρ m σ H x y k u v Q S r1 r2 e q
  generalize e1 : view m x = x' at e
  generalize e2 : view m y = y' at e
  unfold dGe at e
  split at e
  · cases e
    exact ⟨_, _, v_int r1 e1, v_int r2 e2, q⟩
  · cases e

/-! ### is -/
/-- flat ones, one of them none or a bool -/
def isV : V → V → Option Bool
  | .non, .non => some true
  | .bl a, .bl b => some (decide (a = b))
  | .non, .bl _ => some false
  | _, _ => none
def rIsF (neg : Bool) : R2 := fun x y H Q => (y = .non ∧ Q (.bl (if neg then !decide (x = .non) else decide (x = .non))) H) ∨ ∃ k, isV x y = some k ∧ Q (.bl (if neg then !k else k)) H
theorem op_isF : OpR X (compareOp .Is) (rIsF false) := by
  intro pins s σ H x y v u Q I rx ry h
  rcases h with ⟨e, q⟩ | ⟨k, e, q⟩
  · exact op_isN pins s σ H x y v u Q I rx ry ⟨e, q⟩
  · unfold isV at e
    split at e
    · cases e
      exact op_isN pins s σ H .non .non v u Q I rx ry ⟨rfl, q⟩
    · cases e
      exact op_isBl pins s σ H _ _ v u Q I rx ry ⟨_, _, rfl, rfl, q⟩
    · cases e
      cases (show v = Value.none from rx)
      cases ry
      exact wpAny_is_other rfl (fun z => nomatch z) ⟨.bl false, H, I, rfl, q⟩
    · cases e
theorem op_isNotF : OpR X (compareOp .IsNot) (rIsF true) := by
  intro pins s σ H x y v u Q I rx ry h
  rcases h with ⟨e, q⟩ | ⟨k, e, q⟩
  · exact op_notN pins s σ H x y v u Q I rx ry ⟨e, q⟩
  · unfold isV at e
    split at e
    · cases e
      exact op_notN pins s σ H .non .non v u Q I rx ry ⟨rfl, q⟩
    · cases e
      exact op_notBl pins s σ H _ _ v u Q I rx ry ⟨_, _, rfl, rfl, q⟩
    · cases e
      cases (show v = Value.none from rx)
      cases ry
      exact wpAny_isNot_other rfl (fun z => nomatch z) ⟨.bl true, H, I, rfl, q⟩
    · cases e
theorem is_case {x' y' : D} {x y : D} {u v : V} {k : Bool} (r1 : Rep c.K c.mg c.xo G μ x u) (r2 : Rep c.K c.mg c.xo G μ y v) (e1 : view m x = x') (e2 : view m y = y') (e : dIs x' y' = some k) :
    (v = .non ∧ k = decide (u = .non)) ∨ isV u v = some k := by
  have ref : ∀ x : D, (∀ u, Rep c.K c.mg c.xo G μ x u → u ≠ .non) → True := fun _ _ => trivial
  have nn : ∀ {z : D}, view m x = z → (match z with | .non => False | _ => True) → u ≠ .non := by
    intro z hz hn q
    subst q
    cases r1 with
    | non => subst hz; exact hn
  unfold dIs at e
  split at e
  all_goals first
    | (cases e; done)
    | (cases e; exact .inr (by rw [v_bl r1 e1, v_bl r2 e2]; rfl))
    | (cases e; exact .inr (by rw [v_non r1 e1, v_bl r2 e2]; rfl))
    | (cases e; exact .inl ⟨v_non r2 e2, by rw [v_non r1 e1]; rfl⟩)
    | (cases e; exact .inl ⟨v_non r2 e2, (decide_eq_false (nn e1 trivial)).symm⟩)
theorem sim_is : CmpSim c dIs (rIsF false) := by
  intro G μ ρ m σ H x y k u v Q S r1 r2 e q
  rcases is_case r1 r2 rfl rfl e with ⟨h1, h2⟩ | h
  · exact .inl ⟨h1, by rw [← h2]; exact q⟩
  · exact .inr ⟨k, h, q⟩
theorem sim_isNot : CmpSim c dIsNot (rIsF true) := by
  intro G μ ρ m σ H x y k u v Q S r1 r2 e q
  unfold dIsNot at e
  obtain ⟨k', e', rfl⟩ := Option.map_eq_some_iff.mp e
  rcases is_case r1 r2 rfl rfl e' with ⟨h1, h2⟩ | h
  · exact .inl ⟨h1, by rw [if_pos rfl, ← h2]; exact q⟩
  · exact .inr ⟨k', h, q⟩

/-! ### in -/
def rSgn (neg : Bool) : R2 := fun x y H Q => ∃ (c : Nat) (z : Str), x = .str ⟨#[c]⟩ ∧ y = .str z ∧ Q (.bl (if neg then !decide (c ∈ z.cps.toList) else decide (c ∈ z.cps.toList))) H
abbrev rrIn (K : PySem.W.Frag) : R2 := fun x y H Q => rSgn false x y H Q ∨ (rInD K x y H Q ∨ rIn K false x y H Q)
abbrev rrNotIn (K : PySem.W.Frag) : R2 := fun x y H Q => rSgn true x y H Q ∨ (rNotInD K x y H Q ∨ rIn K true x y H Q)
theorem or_in {k : Nat} (F : Fit X c k) : OpR X (compareOp .In) (rrIn X.K) :=
  (show OpR X (compareOp .In) (rSgn false) from op_in_sign).or ((op_inD (by have := F.rm.un; omega)).or op_in_seq)
theorem or_notIn {k : Nat} (F : Fit X c k) : OpR X (compareOp .NotIn) (rrNotIn X.K) :=
  (show OpR X (compareOp .NotIn) (rSgn true) from op_notIn_sign).or ((op_notInD (by have := F.rm.un; omega)).or op_notIn_seq)
theorem flat_v {x : D} {u : V} (h : flatB x = true) (r : Rep c.K c.mg c.xo G μ x u) : flatV u = true := by
  cases x <;> simp [flatB] at h <;> cases r <;> rfl
theorem eqv_flat {x y : D} {u v : V} (h : flatB x = true) (h' : flatB y = true) (r : Rep c.K c.mg c.xo G μ x u) (r' : Rep c.K c.mg c.xo G μ y v) : eqvD x y = eqV u v := by
  cases x <;> simp [flatB] at h <;> cases r <;> cases y <;> simp [flatB] at h' <;> cases r' <;> simp only [eqvD, eqV]
theorem any_flat {x : D} {u : V} (h : flatB x = true) (r : Rep c.K c.mg c.xo G μ x u) : ∀ (ys : List D) (vs : List V), ys.all flatB = true → RepL c.K c.mg c.xo G μ ys vs → vs.all flatV = true ∧ (ys.any fun y => eqvD y x) = inV u vs := by
  intro ys
  induction ys with
  | nil =>
    intro vs _ rl
    cases rl
    exact ⟨rfl, rfl⟩
  | cons d ds ih =>
    intro vs hy rl
    cases rl with
    | cons ry rt =>
      have hy' : flatB d = true ∧ ds.all flatB = true := by simpa using hy
      obtain ⟨h1, h2⟩ := ih _ hy'.2 rt
      refine ⟨by rw [List.all_cons, flat_v hy'.1 ry, h1]; rfl, ?_⟩
      unfold inV at h2 ⊢
      rw [List.any_cons, List.any_cons, h2, eqv_flat hy'.1 h ry r]
theorem isData_flat {x : D} (h : flatB x = true) : isData x = true := by
  cases x <;> simp [flatB] at h <;> simp [isData, dataN]
theorem any_py {x : D} (h : isData x = true) : ∀ {ys : List D}, ys.all (dataN 15) = true → (ys.any fun y => eqvD y x) = ((toPyL ys).any fun z => PyData.eqv z (toPy x))
  | [], _ => rfl
  | y :: ys, hy => by
    have hy' : dataN 15 y = true ∧ ys.all (dataN 15) = true := by simpa using hy
    rw [toPyL, List.any_cons, List.any_cons, any_py h hy'.2, eqv_py 15 16 y x hy'.1 h]
theorem in_case {x y : D} {k : Bool} {u v : V} (S : Sim c G μ ρ m σ H) (r1 : Rep c.K c.mg c.xo G μ x u) (r2 : Rep c.K c.mg c.xo G μ y v) (e : dIn (view m x) (view m y) = some k) :
    (∃ (cc : Nat) (z : Str), u = .str ⟨#[cc]⟩ ∧ v = .str z ∧ k = decide (cc ∈ z.cps.toList)) ∨
      ((∃ d ds, Dp c.K H u d ∧ Dp c.K H v (.list ds) ∧ SeqAt.shaped d = true ∧ SeqAt.shaped (.list ds) = true ∧ k = ds.any fun z => PyData.eqv z d) ∨
        ∃ p xs, v = .ref p ∧ (SqL c.K H p xs ∨ SqT c.K H p xs) ∧ flatV u = true ∧ xs.all flatV = true ∧ k = inV u xs) := by
  generalize e1 : view m x = x' at e
  generalize e2 : view m y = y' at e
  unfold dIn at e
  split at e
  · rename_i z
    split at e
    · rename_i s
      split at e
      · rename_i cc hs
        cases e
        obtain ⟨q1, _⟩ := v_str r1 e1
        obtain ⟨q2, _⟩ := v_str r2 e2
        refine .inl ⟨cc, z, ?_, q2, rfl⟩
        rw [q1]
        congr 1
        obtain ⟨cs⟩ := s
        have : cs = #[cc] := by
          apply Array.toList_inj.mp
          simpa using hs
        rw [this]
      · cases e
    · cases e
  · rename_i ys
    split at e
    · rename_i hd
      cases e
      obtain ⟨a1, a2⟩ := v_data S.mem r1 e1 hd.1
      obtain ⟨b1, b2⟩ := v_data S.mem r2 e2 hd.2
      refine .inr (.inl ⟨_, _, a1, b1, a2, b2, any_py hd.1 ?_⟩)
      simpa [isData, dataN] using hd.2
    · cases e
  · rename_i ys
    split at e
    · rename_i hd
      cases e
      obtain ⟨p, vs, ev, hv, rv⟩ := v_tup S.mem r2 e2
      have hx : flatB x' = true := hd.1
      have r1' : Rep c.K c.mg c.xo G μ x' u := by
        obtain rfl := view_flat e1 (by intro _ q; rw [q] at hx; cases hx) (by intro _ q; rw [q] at hx; cases hx) (by intro _ q; rw [q] at hx; cases hx)
        exact r1
      obtain ⟨h1, h2⟩ := any_flat hx r1' _ _ hd.2 rv
      exact .inr (.inr ⟨p, vs, ev, .inr hv, flat_v hx r1', h1, h2⟩)
    · cases e
  · cases e
theorem sim_in : CmpSim c dIn (rrIn c.K) := by
  intro G μ ρ m σ H x y k u v Q S r1 r2 e q
  rcases in_case S r1 r2 e with ⟨cc, z, h1, h2, h3⟩ | ⟨d, ds, h1, h2, h3, h4, h5⟩ | ⟨p, xs, h1, h2, h3, h4, h5⟩
  · exact .inl ⟨cc, z, h1, h2, by rw [if_neg Bool.false_ne_true, ← h3]; exact q⟩
  · exact .inr (.inl ⟨d, ds, h1, h2, h3, h4, by rw [← h5]; exact q⟩)
  · exact .inr (.inr ⟨p, xs, h1, h2, h3, h4, by rw [if_neg Bool.false_ne_true, ← h5]; exact q⟩)
theorem sim_notIn : CmpSim c dNotIn (rrNotIn c.K) := by
  intro G μ ρ m σ H x y k u v Q S r1 r2 e q
  unfold dNotIn at e
  obtain ⟨k', e', rfl⟩ := Option.map_eq_some_iff.mp e
  rcases in_case S r1 r2 e' with ⟨cc, z, h1, h2, h3⟩ | ⟨d, ds, h1, h2, h3, h4, h5⟩ | ⟨p, xs, h1, h2, h3, h4, h5⟩
  · exact .inl ⟨cc, z, h1, h2, by rw [if_pos rfl, ← h3]; exact q⟩
  · exact .inr (.inl ⟨d, ds, h1, h2, h3, h4, by rw [← h5]; exact q⟩)
  · exact .inr (.inr ⟨p, xs, h1, h2, h3, h4, by rw [if_pos rfl, ← h5]; exact q⟩)
end
end TT

set_option maxHeartbeats 2000000
/-! T3: places, slices, built-ins, methods, cells, sources. -/
namespace TT
open PySem PySem.Spec PyProof.Rows L2
section
variable {X : Cx} {c : Ct} {G : Hp} {μ : List Addr} {ρ : Ev} {m : Mem} {σ : L2.St} {H : Hp}
/-! ### places -/
theorem okS_sign {s : Str} (h : okS s = true) {j : Nat} {z : Nat} (e : s.cps.toList[j]? = some z) : okS ⟨#[z]⟩ = true := by
  unfold okS at h ⊢
  rw [Array.all_eq_true'] at h
  have hz : z ∈ s.cps := Array.mem_toList_iff.mp (List.mem_of_getElem? e)
  simpa using h z hz
theorem sim_ix : OpSim c dIx (rIx c.K) := by
  intro G μ ρ m σ H x y d u v Q S r1 r2 e k
  generalize e1 : view m x = x' at e
  generalize e2 : view m y = y' at e
  unfold dIx at e
  split at e
  · rename_i xs i
    obtain ⟨a, vs, ea, ha, ra⟩ := v_lst S.mem r1 e1
    obtain ⟨j, h1, h2⟩ := Option.bind_eq_some_iff.mp e
    obtain ⟨w, hw, rw'⟩ := ra.get h2
    refine .inl ⟨a, vs, i, w, ea, v_int r2 e2, ha, ?_, k _ _ _ _ S rw' Gr.refl⟩
    unfold atI
    rw [show ixN vs.length i = some j by rw [← ra.length]; exact h1]
    exact hw
  · rename_i xs i
    obtain ⟨a, vs, ea, ha, ra⟩ := v_tup S.mem r1 e1
    obtain ⟨j, h1, h2⟩ := Option.bind_eq_some_iff.mp e
    obtain ⟨w, hw, rw'⟩ := ra.get h2
    refine .inr (.inl ⟨a, vs, i, w, ea, v_int r2 e2, ha, ?_, k _ _ _ _ S rw' Gr.refl⟩)
    unfold atI
    rw [show ixN vs.length i = some j by rw [← ra.length]; exact h1]
    exact hw
  · rename_i s i
    split at e
    · rename_i hl
      obtain ⟨cc, h1, h2⟩ := Option.map_eq_some_iff.mp e
      obtain ⟨j, h3, h4⟩ := Option.bind_eq_some_iff.mp h1
      cases h2
      obtain ⟨q1, o1⟩ := v_str r1 e1
      refine .inr (.inr ⟨s, i, cc, q1, v_int r2 e2, by rw [sizeLine_eq]; exact hl, ?_, k _ _ _ _ S (.str _ (okS_sign o1 h4)) Gr.refl⟩)
      unfold atI
      rw [show ixN s.cps.toList.length i = some j from h3]
      exact h4
    · cases e
  · cases e
theorem xe_ix {a b : Expr} {fa fb : E} {pos : Pos} {k : Nat} (F : Fit X c k) (ha : PE X a (rE c fa)) (hb : PE X b (rE c fb)) (hs : PlainIx b := by exact fun _ _ => rfl) : PE X (.Subscript a b pos) (rE c (eOp dIx fa fb)) :=
  (pe_ix (r := rIx c.K) (by rw [F.K]; exact ix_seq) ha hb hs).imp fun _ _ _ h => rE_op sim_ix h

/-! ### slices -/
def rO (c : Ct) (f : EO) : TO := fun σ H Q => ∃ ρ m G μ, Sim c G μ ρ m σ H ∧ match f ρ m with
  | .ok o m1 => ∀ H1 G1 μ1, Sim c G1 μ1 ρ m1 σ H1 → Gr G μ G1 μ1 → Q o H1
  | .exc e m1 => ∀ cc dd H1 G1 μ1, Sim c G1 μ1 ρ m1 σ H1 → Gr G μ G1 μ1 → ExcAt c.mg e cc dd G1 → c.W cc dd σ H1
  | .bad => False
theorem _root_.L2.PO.imp {e : Option Expr} {t t' : TO} (h : PO X e t) (i : ∀ σ H Q, t' σ H Q → t σ H Q) : PO X e t' := ⟨fun pins s σ H Q I q => h.run pins s σ H Q I (i σ H Q q)⟩
theorem xo_no : PO X none (rO c oNo) := by
  refine po_none.imp ?_
  rintro σ H Q ⟨ρ, m, G, μ, S, h⟩
  exact h _ _ _ S Gr.refl
theorem rO_bind {f : EO} {k : Option Int → Mem → R D} {Q : VK} {Q' : Option Int → Hp → Prop} (S : Sim c G μ ρ m σ H) (h : PostE c G μ ρ σ Q ((f ρ m).bind k))
    (q : ∀ o m1 H1 G1 μ1, Sim c G1 μ1 ρ m1 σ H1 → Gr G μ G1 μ1 → PostE c G1 μ1 ρ σ Q (k o m1) → Q' o H1) : rO c f σ H Q' := by
  refine ⟨ρ, m, G, μ, S, ?_⟩
  cases e : f ρ m with
  | ok d m1 =>
    rw [e] at h
    exact fun H1 G1 μ1 S1 g1 => q d m1 H1 G1 μ1 S1 g1 (PostE.weak h g1)
  | exc x m1 =>
    rw [e] at h
    exact h
  | bad =>
    rw [e] at h
    exact h
theorem xo_some {e : Expr} {f : E} (h : PE X e (rE c f)) : PO X (some e) (rO c (oSome f)) := by
  refine (po_some h).imp ?_
  rintro σ H Q ⟨ρ, m, G, μ, S, h⟩
  refine ⟨ρ, m, G, μ, S, ?_⟩
  have h : match (f ρ m).bind fun x m => (match x with | .int i => R.ok (some i) m | _ => R.bad) with
    | .ok o m1 => ∀ H1 G1 μ1, Sim c G1 μ1 ρ m1 σ H1 → Gr G μ G1 μ1 → Q o H1
    | .exc e m1 => ∀ cc dd H1 G1 μ1, Sim c G1 μ1 ρ m1 σ H1 → Gr G μ G1 μ1 → ExcAt c.mg e cc dd G1 → c.W cc dd σ H1
    | .bad => False := h
  cases ef : f ρ m with
  | bad => rw [ef] at h; exact h
  | exc x m1 => rw [ef] at h; exact h
  | ok d m1 =>
    rw [ef] at h
    simp only [R.bind_ok] at h
    intro v H1 G1 μ1 S1 R1 g1
    cases d with
    | int i =>
      cases R1
      exact ⟨i, rfl, h H1 G1 μ1 S1 g1⟩
    | _ => exact h.elim
abbrev rrSl (K : PySem.W.Frag) : V → Option Int → Option Int → Hp → VK → Prop := fun x lo hi H Q => rSlL K x lo hi H Q ∨ (rSlA K x lo hi H Q ∨ rSlS x lo hi H Q)
theorem or_sl : SlR X (rrSl X.K) := sl_list.or (sl_tupA.or sl_str)
theorem cut_le {α : Type} (xs : List α) (lo hi : Option Int) : ∃ a b, cutD xs lo hi = (xs.drop a).take b := ⟨_, _, rfl⟩
theorem RepL.cut {ds : List D} {vs : List V} (h : RepL c.K c.mg c.xo G μ ds vs) (lo hi : Option Int) : RepL c.K c.mg c.xo G μ (cutD ds lo hi) (cutV vs lo hi) := by
  show RepL c.K c.mg c.xo G μ ((ds.drop _).take _) ((vs.drop _).take _)
  rw [h.length]
  exact (h.drop _).take _
theorem okS_cut {s : Str} (h : okS s = true) (lo hi : Option Int) : okS ⟨(cutD s.cps.toList lo hi).toArray⟩ = true := by
  unfold okS at h ⊢
  rw [Array.all_eq_true'] at h ⊢
  intro z hz
  have hz' : z ∈ cutD s.cps.toList lo hi := by simpa using hz
  exact h z (Array.mem_toList_iff.mp (List.mem_of_mem_drop (List.mem_of_mem_take hz')))
theorem xe_cut {a : Expr} {lo hi : Option Expr} {fa : E} {fl fh : EO} {p2 pos : Pos} {k : Nat} (F : Fit X c k) (ha : PE X a (rE c fa)) (hl : PO X lo (rO c fl)) (hh : PO X hi (rO c fh)) : PE X (.Subscript a (.Slice lo hi none p2) pos) (rE c (eCut fa fl fh)) := by
  refine (pe_slice or_sl ha hl hh).imp ?_
  rintro σ H Q ⟨ρ, m, G, μ, S, h⟩
  refine rE_bindE S h fun x m1 u H1 G1 μ1 S1 R1 g1 h1 => ?_
  refine rO_bind S1 h1 fun l m2 H2 G2 μ2 S2 g2 h2 => ?_
  refine rO_bind S2 h2 fun hi m3 H3 G3 μ3 S3 g3 h3 => ?_
  have R3 := R1.gr (g2.trans g3)
  obtain ⟨d, e, h4⟩ := PostE.of h3
  clear h3
  have h3 := h4
  clear h1 h2 h4
  generalize e1 : view m3 x = x' at e
  rw [← F.K]
  unfold dCut at e
  split at e
  · cases e
    obtain ⟨a, vs, ea, ha, ra⟩ := v_lst S3.mem R3 e1
    refine .inl ⟨a, vs, ea, ha, fun p hp => ?_⟩
    obtain ⟨S4, g4⟩ := S3.alloc hp (.lst (cutV vs l hi))
    exact h3 _ _ _ _ S4 (.lst (SqL.of upd_same) ((ra.cut l hi).gr g4)) g4
  · rename_i xs
    cases e
    obtain ⟨a, vs, ea, ha, ra⟩ := v_tup S3.mem R3 e1
    obtain rfl := view_flat e1 (by intro _ q; cases q) (by intro _ q; cases q) (by intro _ q; cases q)
    refine .inr (.inl ⟨a, vs, ea, ha, fun hw => ?_, fun _ p hp => ?_⟩)
    · have ex : cutD xs l hi = xs := by
        unfold cutD
        have w1 : sIxD xs.length 0 l = 0 := by rw [ra.length]; exact hw.1
        have w2 : sIxD xs.length xs.length hi = xs.length := by rw [ra.length]; exact hw.2
        rw [w1, w2]
        simp
      rw [ex] at h3
      exact h3 _ _ _ _ S3 (ea ▸ R3) Gr.refl
    · obtain ⟨S4, g4⟩ := S3.alloc hp (.tup (cutV vs l hi))
      exact h3 _ _ _ _ S4 (.tup (SqT.of upd_same) ((ra.cut l hi).gr g4)) g4
  · rename_i s
    split at e
    · rename_i hlen
      cases e
      obtain ⟨q1, o1⟩ := v_str R3 e1
      refine .inr (.inr ⟨s, q1, by rw [sizeLine_eq]; exact hlen, ?_⟩)
      have ec : cutS s l hi = ⟨(cutD s.cps.toList l hi).toArray⟩ := by
        unfold cutS cutD
        rw [Array.length_toList]
        rfl
      rw [ec]
      exact h3 _ _ _ _ S3 (.str _ (okS_cut o1 l hi)) Gr.refl
    · cases e
  · cases e
theorem xe_cutM {a : Expr} {lo hi : Option Expr} {fa : E} {fl fh : EO} {p2 pos : Pos} {k : Nat} (F : Fit X c k) (ha : PE X a (rE c fa)) (hl : PO X lo (rO c fl)) (hh : PO X hi (rO c fh)) : PE X (.Subscript a (.Slice lo hi none p2) pos) (rE c (eCutM fa fl fh)) := by
  refine (pe_slice or_sl ha hl hh).imp ?_
  rintro σ H Q ⟨ρ, m, G, μ, S, h⟩
  refine rE_bindE S h fun x m1 u H1 G1 μ1 S1 R1 g1 h1 => ?_
  refine rO_bind S1 h1 fun l m2 H2 G2 μ2 S2 g2 h2 => ?_
  refine rO_bind S2 h2 fun hi m3 H3 G3 μ3 S3 g3 h3 => ?_
  have R3 := R1.gr (g2.trans g3)
  rw [← F.K]
  generalize e1 : view m3 x = x' at h3
  split at h3
  · obtain ⟨a, vs, ea, ha, ra⟩ := v_lst S3.mem R3 e1
    exact .inl ⟨a, vs, ea, ha, fun p hp => S3.newL (d := .non) (m' := m3) hp (ra.cut l hi) h3⟩
  · exact h3.elim

/-! ### built-ins by values -/
def FunSim (c : Ct) (g : List D → Option D) (r : List V → Hp → VK → Prop) : Prop := ∀ G μ ρ m σ H xs us d Q, Sim c G μ ρ m σ H → RepL c.K c.mg c.xo G μ xs us → g (xs.map (view m)) = some d →
  (∀ w H' G' μ', Sim c G' μ' ρ m σ H' → Rep c.K c.mg c.xo G' μ' d w → Gr G μ G' μ' → Q w H') → r us H Q
def FunLSim (c : Ct) (g : List D → Option (List D)) (r : List V → Hp → VK → Prop) : Prop := ∀ G μ ρ m σ H xs us ys Q, Sim c G μ ρ m σ H → RepL c.K c.mg c.xo G μ xs us → g (xs.map (view m)) = some ys →
  (∀ p ws, H p = none → RepL c.K c.mg c.xo G μ ys ws → Q (.ref p) (upd H p (.lst ws))) → r us H Q
theorem rE_fun {g : List D → Option D} {r : List V → Hp → VK → Prop} {l : EL} (hs : FunSim c g r) : ∀ (σ : L2.St) (H : Hp) (Q : VK), rE c (eFun g l) σ H Q → tCB r (rL c l) σ H Q := by
  rintro σ H Q ⟨ρ, m, G, μ, S, h⟩
  refine rL_bindE S h fun xs m1 us H1 G1 μ1 S1 R1 g1 h1 => ?_
  obtain ⟨d, e, h1⟩ := PostE.of h1
  exact hs G1 μ1 ρ m1 σ H1 xs us d Q S1 R1 e h1
theorem rE_funL {M : Bool} {g : List D → Option (List D)} {r : List V → Hp → VK → Prop} {l : EL} (hs : FunLSim c g r) : ∀ (σ : L2.St) (H : Hp) (Q : VK), rE c (eFunL M g l) σ H Q → tCB r (rL c l) σ H Q := by
  rintro σ H Q ⟨ρ, m, G, μ, S, h⟩
  refine rL_bindE S h fun xs m1 us H1 G1 μ1 S1 R1 g1 h1 => ?_
  cases e : g (xs.map (view m1)) with
  | none => rw [e] at h1; exact h1.elim
  | some ys =>
    rw [e] at h1
    exact hs G1 μ1 ρ m1 σ H1 xs us ys Q S1 R1 e fun p ws hp rw' => S1.newL (d := .non) (m' := m1) hp rw' h1
theorem xe_fun {id : String} {x : Str} {r : List V → Hp → VK → Prop} {g : List D → Option D} {e : Expr} {es : List Expr} {l : EL} {p pos : Pos} (hc : CallR X (.builtin id) r) (hs : FunSim c g r) (hg : Gl X x) (hm : X.mg x = none) (hv : bootBuiltins x = some (.builtin id)) (ha : PA X (e :: es) (rL c l))
    (hn : x ≠ "__name__" := by decide) (hdb : (x == ("__debug__" : Str)) = false := by decide) (hst : starEach (e :: es) X.env = (false, eval e X.env) :: starEach es X.env := by rfl) (hpl : (backTo pos (starEach es X.env)).any (·.1) = false := by rfl) :
    PE X (.Call (.Name x p) (e :: es) [] pos) (rE c (eFun g l)) := (pe_callB hc hg hm hv ha hn hdb hst hpl).imp (rE_fun hs)
theorem xe_funL {M : Bool} {id : String} {x : Str} {r : List V → Hp → VK → Prop} {g : List D → Option (List D)} {e : Expr} {es : List Expr} {l : EL} {p pos : Pos} (hc : CallR X (.builtin id) r) (hs : FunLSim c g r) (hg : Gl X x) (hm : X.mg x = none) (hv : bootBuiltins x = some (.builtin id)) (ha : PA X (e :: es) (rL c l))
    (hn : x ≠ "__name__" := by decide) (hdb : (x == ("__debug__" : Str)) = false := by decide) (hst : starEach (e :: es) X.env = (false, eval e X.env) :: starEach es X.env := by rfl) (hpl : (backTo pos (starEach es X.env)).any (·.1) = false := by rfl) :
    PE X (.Call (.Name x p) (e :: es) [] pos) (rE c (eFunL M g l)) := (pe_callB hc hg hm hv ha hn hdb hst hpl).imp (rE_funL hs)
theorem xe_funT {T : String} {x : Str} {r : List V → Hp → VK → Prop} {g : List D → Option D} {e : Expr} {es : List Expr} {l : EL} {p pos : Pos} (hc : CallR X (.type T) r) (hs : FunSim c g r) (hg : Gl X x) (hm : X.mg x = none) (hv : bootBuiltins x = some (.type T)) (ha : PA X (e :: es) (rL c l))
    (hn : x ≠ "__name__" := by decide) (hdb : (x == ("__debug__" : Str)) = false := by decide) (hst : starEach (e :: es) X.env = (false, eval e X.env) :: starEach es X.env := by rfl) (hpl : (backTo pos (starEach es X.env)).any (·.1) = false := by rfl) :
    PE X (.Call (.Name x p) (e :: es) [] pos) (rE c (eFun g l)) := (pe_callTy hc hg hm hv ha hn hdb hst hpl).imp (rE_fun hs)
theorem xe_funTL {M : Bool} {T : String} {x : Str} {r : List V → Hp → VK → Prop} {g : List D → Option (List D)} {e : Expr} {es : List Expr} {l : EL} {p pos : Pos} (hc : CallR X (.type T) r) (hs : FunLSim c g r) (hg : Gl X x) (hm : X.mg x = none) (hv : bootBuiltins x = some (.type T)) (ha : PA X (e :: es) (rL c l))
    (hn : x ≠ "__name__" := by decide) (hdb : (x == ("__debug__" : Str)) = false := by decide) (hst : starEach (e :: es) X.env = (false, eval e X.env) :: starEach es X.env := by rfl) (hpl : (backTo pos (starEach es X.env)).any (·.1) = false := by rfl) :
    PE X (.Call (.Name x p) (e :: es) [] pos) (rE c (eFunL M g l)) := (pe_callTy hc hg hm hv ha hn hdb hst hpl).imp (rE_funL hs)

/-! ### the built-ins themselves -/
theorem map1 {α β : Type} {f : α → β} {xs : List α} {y : β} (h : xs.map f = [y]) : ∃ x, xs = [x] ∧ f x = y := by
  cases xs with
  | nil => cases h
  | cons x r =>
    cases r with
    | nil => exact ⟨x, rfl, by simpa using h⟩
    | cons _ _ => simp at h
theorem map2 {α β : Type} {f : α → β} {xs : List α} {y z : β} (h : xs.map f = [y, z]) : ∃ x x', xs = [x, x'] ∧ f x = y ∧ f x' = z := by
  cases xs with
  | nil => cases h
  | cons x r =>
    cases r with
    | nil => simp at h
    | cons x' r =>
      cases r with
      | nil => exact ⟨x, x', rfl, by simpa using h⟩
      | cons _ _ => simp at h
theorem rep1 {x : D} {us : List V} (h : RepL c.K c.mg c.xo G μ [x] us) : ∃ u, us = [u] ∧ Rep c.K c.mg c.xo G μ x u := by
  cases h with
  | cons r t => cases t; exact ⟨_, rfl, r⟩
theorem rep2 {x y : D} {us : List V} (h : RepL c.K c.mg c.xo G μ [x, y] us) : ∃ u v, us = [u, v] ∧ Rep c.K c.mg c.xo G μ x u ∧ Rep c.K c.mg c.xo G μ y v := by
  cases h with
  | cons r t =>
    cases t with
    | cons r' t => cases t; exact ⟨_, _, rfl, r, r'⟩
def rLenD (K : PySem.W.Frag) : List V → Hp → VK → Prop := fun xs H Q => (∃ p ys, xs = [.ref p] ∧ (SqL K H p ys ∨ SqT K H p ys) ∧ Q (.int ys.length) H) ∨ ∃ z, xs = [.str z] ∧ z.length ≤ sizeLine ∧ Q (.int z.length) H
theorem cr_len : CallR X (.builtin "len") (rLenD X.K) := call_len_seq.or call_len_str
theorem sim_len : FunSim c dLen (rLenD c.K) := by
  intro G μ ρ m σ H xs us d Q S rs e k
  unfold dLen at e
  split at e
  · rename_i s he
    obtain ⟨x, rfl, hx⟩ := map1 he
    obtain ⟨u, rfl, r⟩ := rep1 rs
    split at e
    · rename_i hl
      cases e
      exact .inr ⟨s, by rw [(v_str r hx).1], by rw [sizeLine_eq]; exact hl, k _ _ _ _ S (.int _) Gr.refl⟩
    · cases e
  · rename_i s he
    obtain ⟨x, rfl, hx⟩ := map1 he
    obtain ⟨u, rfl, r⟩ := rep1 rs
    cases e
    obtain ⟨a, vs, ea, ha, ra⟩ := v_lst S.mem r hx
    exact .inl ⟨a, vs, by rw [ea], .inl ha, by rw [← ra.length]; exact k _ _ _ _ S (.int _) Gr.refl⟩
  · rename_i s he
    obtain ⟨x, rfl, hx⟩ := map1 he
    obtain ⟨u, rfl, r⟩ := rep1 rs
    cases e
    obtain ⟨a, vs, ea, ha, ra⟩ := v_tup S.mem r hx
    exact .inl ⟨a, vs, by rw [ea], .inr ha, by rw [← ra.length]; exact k _ _ _ _ S (.int _) Gr.refl⟩
  · cases e
theorem sim_int : FunSim c dInt (fun xs H Q => (∃ i, xs = [.int i] ∧ Q (.int i) H) ∨ ∃ k, xs = [.bl k] ∧ Q (.int (if k then 1 else 0)) H) := by
  intro G μ ρ m σ H xs us d Q S rs e k
  unfold dInt at e
  split at e
  · rename_i s he
    obtain ⟨x, rfl, hx⟩ := map1 he
    obtain ⟨u, rfl, r⟩ := rep1 rs
    cases e
    exact .inl ⟨s, by rw [v_int r hx], k _ _ _ _ S (.int _) Gr.refl⟩
  · rename_i s he
    obtain ⟨x, rfl, hx⟩ := map1 he
    obtain ⟨u, rfl, r⟩ := rep1 rs
    cases e
    exact .inr ⟨s, by rw [v_bl r hx], k _ _ _ _ S (.int _) Gr.refl⟩
  · cases e
/-- list(a text) -/
def rListS : List V → Hp → VK → Prop := fun xs H Q => ∃ s : Str, xs = [.str s] ∧ s.length ≤ sizeLine ∧ ∀ p, H p = none → Q (.ref p) (upd H p (.lst (s.cps.toList.map fun z => .str ⟨#[z]⟩)))
theorem cr_listS (hc : X.calm = true) : CallR X (.type "list") rListS := by
  intro pins st σ H xs us Q I r ⟨s, ex, hl, q⟩
  subst ex
  obtain ⟨u, rfl, t, rfl⟩ := Vals.one r
  refine call_list_str (I.ok.hd hc) s t (fun h' tk acc cc hk hS ha => ?_) (by exact hl)
  have hv : Vals (s.cps.toList.map fun z => V.str ⟨#[z]⟩) acc.toList := by
    refine vals_of_at (by simp [ha.1]) fun j x u e1 e2 => ?_
    obtain ⟨z, w, hz, rfl⟩ := ha.2 j u (by simpa using e2)
    rw [List.getElem?_map] at e1
    have hz' : s.cps.toList[j]? = some z := by simpa using hz
    rw [hz'] at e1
    obtain rfl : V.str ⟨#[z]⟩ = x := by simpa using e1
    exact ⟨w, rfl⟩
  refine ⟨.ref _, _, I.laid (t' := tk) (o := .lst (s.cps.toList.map fun z => .str ⟨#[z]⟩)) hk (Nat.le_refl _) ⟨?_, acc.toList, cc, hv, by simpa using hS⟩, rfl, q _ I.fresh⟩
  rw [List.length_map, Array.length_toList]
  exact hl
abbrev rrList (K : PySem.W.Frag) : List V → Hp → VK → Prop := fun xs H Q => (∃ p ys, xs = [.ref p] ∧ (SqL K H p ys ∨ SqT K H p ys) ∧ ∀ l, H l = none → Q (.ref l) (upd H l (.lst ys))) ∨ rListS xs H Q
theorem cr_list {k : Nat} (F : Fit X c k) : CallR X (.type "list") (rrList X.K) := call_list_of.or (cr_listS F.calm)
theorem okS_signs {s : Str} (h : okS s = true) : ∀ z ∈ s.cps.toList, okS ⟨#[z]⟩ = true := by
  intro z hz
  obtain ⟨j, hj⟩ := List.mem_iff_getElem?.mp hz
  exact okS_sign h hj
theorem RepL.signs {l : List Nat} (h : ∀ z ∈ l, okS ⟨#[z]⟩ = true) : RepL c.K c.mg c.xo G μ (l.map fun z => D.str ⟨#[z]⟩) (l.map fun z => V.str ⟨#[z]⟩) := by
  induction l with
  | nil => exact .nil
  | cons a l ih => exact .cons (.str _ (h a (by simp))) (ih fun z hz => h z (by simp [hz]))
theorem sim_list : FunLSim c dList (rrList c.K) := by
  intro G μ ρ m σ H xs us ys Q S rs e k
  unfold dList at e
  split at e
  · rename_i s he
    obtain ⟨x, rfl, hx⟩ := map1 he
    obtain ⟨u, rfl, r⟩ := rep1 rs
    cases e
    obtain ⟨a, vs, ea, ha, ra⟩ := v_lst S.mem r hx
    exact .inl ⟨a, vs, by rw [ea], .inl ha, fun l hl => k l vs hl ra⟩
  · rename_i s he
    obtain ⟨x, rfl, hx⟩ := map1 he
    obtain ⟨u, rfl, r⟩ := rep1 rs
    cases e
    obtain ⟨a, vs, ea, ha, ra⟩ := v_tup S.mem r hx
    exact .inl ⟨a, vs, by rw [ea], .inr ha, fun l hl => k l vs hl ra⟩
  · rename_i s he
    obtain ⟨x, rfl, hx⟩ := map1 he
    obtain ⟨u, rfl, r⟩ := rep1 rs
    split at e
    · rename_i hl
      cases e
      obtain ⟨q1, o1⟩ := v_str r hx
      exact .inr ⟨s, by rw [q1], by rw [sizeLine_eq]; exact hl, fun p hp => k p _ hp (RepL.signs (okS_signs o1))⟩
    · cases e
  · cases e
theorem sim_tuple : FunSim c dTuple (fun xs H Q => ∃ p ys, xs = [.ref p] ∧ ((SqL c.K H p ys ∧ ∀ l, H l = none → Q (.ref l) (upd H l (.tup ys))) ∨ (SqT c.K H p ys ∧ Q (.ref p) H))) := by
  intro G μ ρ m σ H xs us d Q S rs e k
  unfold dTuple at e
  split at e
  · rename_i s he
    obtain ⟨x, rfl, hx⟩ := map1 he
    obtain ⟨u, rfl, r⟩ := rep1 rs
    cases e
    obtain ⟨a, vs, ea, ha, ra⟩ := v_lst S.mem r hx
    refine ⟨a, vs, by rw [ea], .inl ⟨ha, fun l hl => ?_⟩⟩
    obtain ⟨S2, g2⟩ := S.alloc hl (.tup vs)
    exact k _ _ _ _ S2 (.tup (SqT.of upd_same) (ra.gr g2)) g2
  · rename_i s he
    obtain ⟨x, rfl, hx⟩ := map1 he
    obtain ⟨u, rfl, r⟩ := rep1 rs
    cases e
    obtain ⟨a, vs, ea, ha, ra⟩ := v_tup S.mem r hx
    obtain rfl := view_flat hx (by intro _ q; cases q) (by intro _ q; cases q) (by intro _ q; cases q)
    exact ⟨a, vs, by rw [ea], .inr ⟨ha, k _ _ _ _ S (ea ▸ r) Gr.refl⟩⟩
  · cases e
theorem sim_max : FunSim c dMax (fun xs H Q => ∃ i j, xs = [.int i, .int j] ∧ Q (.int (if j > i then j else i)) H) := by
  intro G μ ρ m σ H xs us d Q S rs e k
  unfold dMax at e
  split at e
  · rename_i i j he
    obtain ⟨x, y, rfl, hx, hy⟩ := map2 he
    obtain ⟨u, v, rfl, r, r'⟩ := rep2 rs
    cases e
    exact ⟨i, j, by rw [v_int r hx, v_int r' hy], k _ _ _ _ S (.int _) Gr.refl⟩
  · cases e
theorem sim_min : FunSim c dMin (fun xs H Q => ∃ i j, xs = [.int i, .int j] ∧ Q (.int (if j < i then j else i)) H) := by
  intro G μ ρ m σ H xs us d Q S rs e k
  unfold dMin at e
  split at e
  · rename_i i j he
    obtain ⟨x, y, rfl, hx, hy⟩ := map2 he
    obtain ⟨u, v, rfl, r, r'⟩ := rep2 rs
    cases e
    exact ⟨i, j, by rw [v_int r hx, v_int r' hy], k _ _ _ _ S (.int _) Gr.refl⟩
  · cases e
theorem dBools_rep : ∀ {xs : List D} {vs : List V} {bs : List Bool}, dBools xs = some bs → RepL c.K c.mg c.xo G μ xs vs → vs = bs.map V.bl := by
  intro xs
  induction xs with
  | nil => intro vs bs e r; cases r; cases e; rfl
  | cons x xs ih =>
    intro vs bs e r
    cases r with
    | cons r1 r2 =>
      cases x <;> simp [dBools] at e
      obtain ⟨bs', e1, rfl⟩ := e
      cases r1
      rw [ih e1 r2]
      rfl
theorem dInts_rep : ∀ {xs : List D} {vs : List V} {bs : List Int}, dInts xs = some bs → RepL c.K c.mg c.xo G μ xs vs → vs = bs.map V.int := by
  intro xs
  induction xs with
  | nil => intro vs bs e r; cases r; cases e; rfl
  | cons x xs ih =>
    intro vs bs e r
    cases r with
    | cons r1 r2 =>
      cases x <;> simp [dInts] at e
      obtain ⟨bs', e1, rfl⟩ := e
      cases r1
      rw [ih e1 r2]
      rfl
theorem dStrs_rep : ∀ {xs : List D} {vs : List V} {bs : List Str}, dStrs xs = some bs → RepL c.K c.mg c.xo G μ xs vs → vs = bs.map V.str ∧ ∀ s ∈ bs, okS s = true := by
  intro xs
  induction xs with
  | nil => intro vs bs e r; cases r; cases e; exact ⟨rfl, fun s h => by cases h⟩
  | cons x xs ih =>
    intro vs bs e r
    cases r with
    | cons r1 r2 =>
      cases x <;> simp [dStrs] at e
      obtain ⟨bs', e1, rfl⟩ := e
      cases r1 with
      | str _ ho =>
        obtain ⟨h1, h2⟩ := ih e1 r2
        refine ⟨by rw [h1]; rfl, fun s hs => ?_⟩
        rcases List.mem_cons.mp hs with rfl | hs
        · exact ho
        · exact h2 s hs
theorem sim_all : FunSim c dAll (rAll c.K) := by
  intro G μ ρ m σ H xs us d Q S rs e k
  unfold dAll at e
  split at e
  · rename_i s he
    obtain ⟨x, rfl, hx⟩ := map1 he
    obtain ⟨u, rfl, r⟩ := rep1 rs
    obtain ⟨bs, e1, e2⟩ := Option.map_eq_some_iff.mp e
    cases e2
    obtain ⟨a, vs, ea, ha, ra⟩ := v_lst S.mem r hx
    obtain rfl := dBools_rep e1 ra
    exact ⟨a, bs, by rw [ea], ha, k _ _ _ _ S (.bl _) Gr.refl⟩
  · cases e
theorem sim_sum : FunSim c dSum (rSum c.K) := by
  intro G μ ρ m σ H xs us d Q S rs e k
  unfold dSum at e
  split at e
  · rename_i s he
    obtain ⟨x, rfl, hx⟩ := map1 he
    obtain ⟨u, rfl, r⟩ := rep1 rs
    obtain ⟨bs, e1, e2⟩ := Option.map_eq_some_iff.mp e
    cases e2
    obtain ⟨a, vs, ea, ha, ra⟩ := v_lst S.mem r hx
    obtain rfl := dInts_rep e1 ra
    exact ⟨a, bs, by rw [ea], ha, k _ _ _ _ S (.int _) Gr.refl⟩
  · cases e

/-! ### texts, sorted -/
theorem tl_ext {x y : Str} (h : x.cps.toList = y.cps.toList) : x = y := by
  obtain ⟨a⟩ := x
  obtain ⟨b⟩ := y
  have : a = b := Array.toList_inj.mp h
  rw [this]
theorem risingS_mem {x : Str} : ∀ {l : List Str} {p : Str}, PyProof.Rows.risingS p l = true → x ∈ l → leS p x = true
  | [], _, _, h => by cases h
  | y :: l, p, h, hx => by
    have h' : (!ltCps y.cps.toList p.cps.toList) = true ∧ PyProof.Rows.risingS y l = true := by simpa [PyProof.Rows.risingS] using h
    rw [PyProof.Rows.ltCps_eq] at h'
    have hpy : p.cps.toList ≤ y.cps.toList := by simpa using h'.1
    rcases List.mem_cons.mp hx with rfl | hx
    · simpa [leS] using hpy
    · have ih := risingS_mem (p := y) h'.2 hx
      have hyx : y.cps.toList ≤ x.cps.toList := by simpa [leS] using ih
      simpa [leS] using List.le_trans hpy hyx
theorem risingS_pw : ∀ {l : List Str} {p : Str}, PyProof.Rows.risingS p l = true → (p :: l).Pairwise fun a b => leS a b = true
  | [], p, _ => by simp
  | y :: l, p, h => by
    have h' : (!ltCps y.cps.toList p.cps.toList) = true ∧ PyProof.Rows.risingS y l = true := by simpa [PyProof.Rows.risingS] using h
    rw [List.pairwise_cons]
    exact ⟨fun x hx => risingS_mem h hx, risingS_pw h'.2⟩
theorem sortedS_pw {l : List Str} (h : sortedS l = true) : l.Pairwise fun a b => leS a b = true := by
  cases l with
  | nil => exact .nil
  | cons x l => exact risingS_pw h
theorem leS_trans (a b c : Str) (h : leS a b = true) (h' : leS b c = true) : leS a c = true := by
  simp only [leS, decide_eq_true_eq] at h h' ⊢
  exact List.le_trans h h'
theorem leS_total (a b : Str) : (leS a b || leS b a) = true := by
  simp only [leS, Bool.or_eq_true, decide_eq_true_eq]
  exact List.le_total _ _
theorem leS_anti {a b : Str} (h : leS a b = true) (h' : leS b a = true) : a = b := by
  simp only [leS, decide_eq_true_eq] at h h'
  exact tl_ext (List.le_antisymm h h')
theorem sorted_is {ys ss : List Str} (hp : ys.Perm ss) (h : ys.Pairwise fun a b => leS a b = true) : ys = ss.mergeSort leS := by
  refine List.Perm.eq_of_pairwise (le := fun a b => leS a b = true) (fun a b _ _ h1 h2 => leS_anti h1 h2) h (List.pairwise_mergeSort leS_trans leS_total ss) (hp.trans (List.mergeSort_perm ss leS).symm)
theorem RepL.strs {l : List Str} (h : ∀ s ∈ l, okS s = true) : RepL c.K c.mg c.xo G μ (l.map D.str) (l.map V.str) := by
  induction l with
  | nil => exact .nil
  | cons a l ih => exact .cons (.str _ (h a (by simp))) (ih fun z hz => h z (by simp [hz]))
theorem sim_sortS : FunLSim c dSortS (rSortedS c.K) := by
  intro G μ ρ m σ H xs us ys Q S rs e k
  unfold dSortS at e
  split at e
  · rename_i s he
    obtain ⟨x, rfl, hx⟩ := map1 he
    obtain ⟨u, rfl, r⟩ := rep1 rs
    obtain ⟨ss, e1, e2⟩ := Option.bind_eq_some_iff.mp e
    split at e2
    · rename_i hl
      cases e2
      obtain ⟨a, vs, ea, ha, ra⟩ := v_lst S.mem r hx
      obtain ⟨rfl, ho⟩ := dStrs_rep e1 ra
      refine ⟨a, ss, by rw [ea], ha, hl, fun ys p hp hs hf => k p _ hf ?_⟩
      rw [sorted_is hp (sortedS_pw hs)]
      exact RepL.strs fun s hs => ho s ((List.mergeSort_perm ss leS).subset hs)
    · cases e2
  · cases e

/-! ### isinstance -/
def tyNm : D → String
  | .non => "NoneType"
  | .bl _ => "bool"
  | .int _ => "int"
  | .str _ => "str"
  | .lst _ => "list"
  | .tup _ => "tuple"
  | .dct _ => "dict"
  | _ => ""
theorem kit_tab : ∀ T ∈ ["bool", "int", "str", "list", "tuple", "dict"], kitB "NoneType" T = some false ∧ kitB "bool" T = some (T == "bool" || T == "int") ∧ kitB "int" T = some (T == "int") ∧ kitB "str" T = some (T == "str") ∧
    kitB "list" T = some (T == "list") ∧ kitB "tuple" T = some (T == "tuple") ∧ kitB "dict" T = some (T == "dict") := by
  intro T hT
  simp only [List.mem_cons, List.not_mem_nil, or_false] at hT
  rcases hT with rfl | rfl | rfl | rfl | rfl | rfl <;> decide +kernel
theorem kit_is {T : String} (hT : T ∈ ["bool", "int", "str", "list", "tuple", "dict"]) {d : D} {b : Bool} (h : tyIs T d = some b) : kitB (tyNm d) T = some b := by
  obtain ⟨h1, h2, h3, h4, h5, h6, h7⟩ := kit_tab T hT
  cases d <;> simp only [tyIs, Option.some.injEq, reduceCtorEq] at h <;> (subst h; first | exact h1 | exact h2 | exact h3 | exact h4 | exact h5 | exact h6 | exact h7)
theorem ty_lst {K : PySem.W.Frag} {a : Addr} {vs : List V} (h : SqL K H a vs) : TyX K H (.ref a) (.type "list") := by
  rcases h with (h | ⟨o, h⟩) | ⟨o, its, n, h, h2, _⟩
  · exact .base (.lst h)
  · exact .base (.frz h)
  · exact .kList h h2
theorem ty_tup {K : PySem.W.Frag} {a : Addr} {vs : List V} (h : SqT K H a vs) : TyX K H (.ref a) (.type "tuple") := by
  rcases h with (h | ⟨o, h⟩) | ⟨o, its, n, h, h2, _⟩
  · exact .base (.tup h)
  · exact .fTuple h
  · exact .kTuple h h2
theorem v_dct {x : D} {u : V} {ps : List (D × D)} (M : MemOk c G μ m H) (r : Rep c.K c.mg c.xo G μ x u) (h : view m x = .dct ps) : ∃ a kvs, u = .ref a ∧ H a = some (.dK kvs) ∧ RepP c.K c.mg c.xo G μ ps kvs := by
  cases x with
  | loc n =>
    rcases view_loc (m := m) n with ⟨ys, _, e⟩ | ⟨qs, e1, e⟩ | e
    · cases e.symm.trans h
    · obtain rfl : qs = ps := by simpa using e.symm.trans h
      cases r with
      | loc hμ =>
        obtain ⟨_, _, kvs, h1, h2⟩ := M.cell _ _ _ hμ e1
        exact ⟨_, kvs, rfl, h1, h2⟩
    · cases e.symm.trans h
  | dct ys =>
    obtain rfl : ys = ps := by simpa [view] using h
    cases r with
    | dct hs ha => exact ⟨_, _, rfl, M.gh _ _ hs, ha⟩
  | _ => cases h
theorem v_tyX {x y : D} {u : V} {T : String} {b : Bool} (M : MemOk c G μ m H) (r : Rep c.K c.mg c.xo G μ x u) (h : view m x = y) (ht : tyIs T y = some b) : TyX c.K H u (.type (tyNm y)) := by
  cases y with
  | non => rw [v_non r h]; exact .base .non
  | bl i => rw [v_bl r h]; exact .base (.bl i)
  | int i => rw [v_int r h]; exact .base (.int i)
  | str i => rw [(v_str r h).1]; exact .base (.str i)
  | lst xs =>
    obtain ⟨a, vs, rfl, ha, _⟩ := v_lst M r h
    exact ty_lst ha
  | tup xs =>
    obtain ⟨a, vs, rfl, ha, _⟩ := v_tup M r h
    exact ty_tup ha
  | dct ps =>
    obtain ⟨a, kvs, rfl, ha, _⟩ := v_dct M r h
    exact .base (.dK ha)
  | _ => cases ht
theorem sim_isInst : FunSim c dIsInst (rIsi c.K) := by
  intro G μ ρ m σ H xs us d Q S rs e k
  unfold dIsInst at e
  split at e
  · rename_i z T he
    obtain ⟨x, y, rfl, hx, hy⟩ := map2 he
    obtain ⟨u, v, rfl, r, r'⟩ := rep2 rs
    split at e
    · rename_i hT
      obtain ⟨b, e1, e2⟩ := Option.map_eq_some_iff.mp e
      cases e2
      have ev := v_ty r' hy
      subst ev
      exact ⟨u, .ty T, .type (tyNm z), .type T, b, rfl, .ty T, v_tyX S.mem r hx e1, kit_ty (kit_is hT e1), k _ _ _ _ S (.bl b) Gr.refl⟩
    · cases e
  · cases e
/-- a built-in class as a value -/
theorem xe_bltn {x : Str} {T : String} {pos : Pos} (hg : Gl X x) (hm : X.mg x = none) (hv : bootBuiltins x = some (.type T)) (hn : x ≠ "__name__" := by decide) (hd : (x == ("__debug__" : Str)) = false := by decide) : PE X (.Name x pos) (rE c (eC (.ty T))) :=
  (pe_bltn (v := .ty T) hg hm hv rfl hn hd).imp fun _ _ _ h => rE_const (fun _ _ => .ty T) h

/-! ### truth -/
theorem natz (n : Nat) : (n != 0) = ((n : Int) != 0) := by
  rw [Bool.eq_iff_iff, bne_iff_ne, bne_iff_ne]
  omega
theorem sim_truth : ∀ (σ : L2.St) (H : Hp) (Q : Bool → Hp → Prop) (f : E), rT c (tVal f) σ H Q → rE c f σ H fun x H' => ∃ k, TruV c.K x H' k ∧ Q k H' := by
  rintro σ H Q f ⟨ρ, m, G, μ, S, h⟩
  refine rE_bindT S h fun x m1 u H1 G1 μ1 S1 R1 g1 h1 => ?_
  obtain ⟨k, e, h1⟩ := PostT.of h1
  refine ⟨k, ?_, h1 _ _ _ S1 Gr.refl⟩
  generalize e1 : view m1 x = y at e
  cases y with
  | non => rw [v_non R1 e1]; cases e; exact rfl
  | bl b => rw [v_bl R1 e1]; cases e; exact rfl
  | int i => rw [v_int R1 e1]; cases e; exact rfl
  | str s =>
    have e : (if s.length ≤ LN then some (s.length != 0) else none) = some k := e
    split at e
    · rename_i hl
      cases e
      rw [(v_str R1 e1).1]
      exact ⟨by rw [sizeLine_eq]; exact hl, natz _⟩
    · cases e
  | lst xs =>
    cases e
    obtain ⟨a, vs, rfl, ha, ra⟩ := v_lst S1.mem R1 e1
    refine .inl ⟨vs, ha, ?_⟩
    cases ra <;> rfl
  | tup xs =>
    cases e
    obtain ⟨a, vs, rfl, ha, ra⟩ := v_tup S1.mem R1 e1
    refine .inr (.inl ⟨vs, ha, ?_⟩)
    cases ra <;> rfl
  | _ => cases e
theorem xt_val {a : Expr} {f : E} {k : Nat} (F : Fit0 X c k) (h : PE X a (rE c f)) (he : ∀ whole, isTrue a X.env whole = (do let v ← whole; standAt a.pos; holding [v] (truthy v)) := by intro _; rfl) : PT X a (rT c (tVal f)) :=
  (pt_truth h he).imp fun σ H Q q => by
    have z := sim_truth σ H Q f q
    rw [F.K] at z
    exact z
end
end TT

set_option maxHeartbeats 2000000
/-! T4: methods, cells that change, what is walked, calls without arguments. -/
namespace TT
open PySem PySem.Spec PyProof.Rows L2
section
variable {X : Cx} {c : Ct} {G : Hp} {μ : List Addr} {ρ : Ev} {m : Mem} {σ : L2.St} {H : Hp}
/-! ### chains -/
theorem rE_chain {g g' : D → D → Option Bool} {r r' : R2} {fa fb fc : E} {Q : VK} (hs : CmpSim c g r) (hs' : CmpSim c g' r') (h : rE c (eChain g g' fa fb fc) σ H Q) : L2.tChain r r' (rE c fa) (rE c fb) (rE c fc) σ H Q := by
  obtain ⟨ρ, m, G, μ, S, h⟩ := h
  refine rE_bindE S h fun x m1 u H1 G1 μ1 S1 R1 g1 h1 => ?_
  refine rE_bindE S1 h1 fun y m2 v H2 G2 μ2 S2 R2 g2 h2 => ?_
  cases e : g (view m2 x) (view m2 y) with
  | none => rw [e] at h2; exact h2.elim
  | some k =>
    rw [e] at h2
    simp only [R.of_some, R.bind_ok] at h2
    refine hs G2 μ2 ρ m2 σ H2 x y k u v _ S2 (R1.gr g2) R2 e ⟨k, rfl, ?_⟩
    cases k with
    | false => exact h2 _ _ _ _ S2 (.bl false) Gr.refl
    | true =>
      rw [if_pos rfl] at h2 ⊢
      refine rE_bindE S2 h2 fun z m3 w H3 G3 μ3 S3 R3 g3 h3 => ?_
      obtain ⟨d, e2, h4⟩ := PostE.of h3
      obtain ⟨k2, e3, rfl⟩ := Option.map_eq_some_iff.mp e2
      exact hs' G3 μ3 ρ m3 σ H3 y z k2 v w _ S3 (R2.gr g3) R3 e3 (h4 _ _ _ _ S3 (.bl k2) Gr.refl)
theorem xe_chain {op op' : CmpOp} {r r' : R2} {g g' : D → D → Option Bool} {a b d : Expr} {fa fb fc : E} {pos : Pos} (ho : OpR X (compareOp op) r) (ho' : OpR X (compareOp op') r') (hs : CmpSim c g r) (hs' : CmpSim c g' r') (ha : PE X a (rE c fa)) (hb : PE X b (rE c fb)) (hd : PE X d (rE c fc))
    (hm : lastMarks [op, op'] [b, d] = false := by with_unfolding_all rfl) : PE X (.Compare a [op, op'] [b, d] pos) (rE c (eChain g g' fa fb fc)) := (pe_chain ho ho' ha hb hd hm).imp fun _ _ _ h => rE_chain hs hs' h
theorem rT_chain {g g' : D → D → Option Bool} {r r' : R2} {fa fb fc : E} {Q : Bool → Hp → Prop} (hs : CmpSim c g r) (hs' : CmpSim c g' r') (h : rT c (tChain g g' fa fb fc) σ H Q) : tTest (L2.tChain r r' (rE c fa) (rE c fb) (rE c fc)) σ H Q := by
  obtain ⟨ρ, m, G, μ, S, h⟩ := h
  refine rE_bindT S h fun x m1 u H1 G1 μ1 S1 R1 g1 h1 => ?_
  refine rE_bindT S1 h1 fun y m2 v H2 G2 μ2 S2 R2 g2 h2 => ?_
  cases e : g (view m2 x) (view m2 y) with
  | none => rw [e] at h2; exact h2.elim
  | some k =>
    rw [e] at h2
    simp only [R.of_some, R.bind_ok] at h2
    refine hs G2 μ2 ρ m2 σ H2 x y k u v _ S2 (R1.gr g2) R2 e ⟨k, rfl, ?_⟩
    cases k with
    | false => exact ⟨false, rfl, h2 _ _ _ S2 Gr.refl⟩
    | true =>
      rw [if_pos rfl] at h2 ⊢
      refine rE_bindT S2 h2 fun z m3 w H3 G3 μ3 S3 R3 g3 h3 => ?_
      obtain ⟨k2, e3, h4⟩ := PostT.of h3
      exact hs' G3 μ3 ρ m3 σ H3 y z k2 v w _ S3 (R2.gr g3) R3 e3 ⟨k2, rfl, h4 _ _ _ S3 Gr.refl⟩
theorem xt_chain {op op' : CmpOp} {r r' : R2} {g g' : D → D → Option Bool} {a b d : Expr} {fa fb fc : E} {pos : Pos} (ho : OpR X (compareOp op) r) (ho' : OpR X (compareOp op') r') (hs : CmpSim c g r) (hs' : CmpSim c g' r') (ha : PE X a (rE c fa)) (hb : PE X b (rE c fb)) (hd : PE X d (rE c fc))
    (hm : lastMarks [op, op'] [b, d] = false := by with_unfolding_all rfl) : PT X (.Compare a [op, op'] [b, d] pos) (rT c (tChain g g' fa fb fc)) := (pt_chain ho ho' ha hb hd hm).imp fun _ _ _ h => rT_chain hs hs' h

/-! ### methods -/
def MethSim (c : Ct) (T : String) (g : D → List D → Option D) (r : V → List V → Hp → VK → Prop) : Prop := ∀ G μ ρ m σ H x u xs us d Q, Sim c G μ ρ m σ H → Rep c.K c.mg c.xo G μ x u → RepL c.K c.mg c.xo G μ xs us → g (view m x) (xs.map (view m)) = some d →
  (∀ w H' G' μ', Sim c G' μ' ρ m σ H' → Rep c.K c.mg c.xo G' μ' d w → Gr G μ G' μ' → Q w H') → r u us H Q
theorem tyV_of {x : D} {u : V} {T : String} (M : MemOk c G μ m H) (r : Rep c.K c.mg c.xo G μ x u) (h : tyIs T (view m x) = some true) (hT : T = "str" ∨ T = "list") : tyV c.K T u H := by
  generalize e1 : view m x = y at h
  cases y with
  | str s =>
    rw [(v_str r e1).1]
    show T = "str"
    simpa [tyIs] using h
  | lst xs =>
    obtain ⟨a, vs, rfl, ha, _⟩ := v_lst M r e1
    exact .inl ⟨by simpa [tyIs] using h, vs, ha⟩
  | non => cases h
  | bl b => rcases hT with rfl | rfl <;> simp [tyIs] at h
  | int b => rcases hT with rfl | rfl <;> simp [tyIs] at h
  | tup b => rcases hT with rfl | rfl <;> simp [tyIs] at h
  | dct b => rcases hT with rfl | rfl <;> simp [tyIs] at h
  | _ => cases h
theorem rE_meth {T : String} {g : D → List D → Option D} {r : V → List V → Hp → VK → Prop} {fo : E} {l : EL} (hT : T = "str" ∨ T = "list") (hs : MethSim c T g r) : ∀ (σ : L2.St) (H : Hp) (Q : VK), rE c (eMeth T g fo l) σ H Q → tBM c.K T r (rE c fo) (rL c l) σ H Q := by
  rintro σ H Q ⟨ρ, m, G, μ, S, h⟩
  refine rE_bindE S h fun x m1 u H1 G1 μ1 S1 R1 g1 h1 => ?_
  split at h1
  · rename_i ht
    refine ⟨tyV_of S1.mem R1 ht hT, rL_bindE S1 h1 fun xs m2 us H2 G2 μ2 S2 R2 g2 h2 => ?_⟩
    obtain ⟨d, e, h2⟩ := PostE.of h2
    exact hs G2 μ2 ρ m2 σ H2 x u xs us d Q S2 (R1.gr g2) R2 e h2
  · exact h1.elim
theorem xe_meth {T id : String} {name : Str} {r : V → List V → Hp → VK → Prop} {g : D → List D → Option D} {o e : Expr} {es : List Expr} {fo : E} {l : EL} {apos cpos : Pos} {k : Nat} (F : Fit X c k) (pa : PlainAttrs T) (slot : Slot T name id) (hty : typeOf (.builtin id) = pure (.type "method_descriptor"))
    (hT : T = "str" ∨ T = "list") (hm : MtR X id r) (hs : MethSim c T g r) (ho : PE X o (rE c fo)) (ha : PA X (e :: es) (rL c l))
    (hbase : attributeBase o name X.env (eval o X.env) = eval o X.env := by rfl)
    (hfew : ((backTo cpos (starEach (e :: es) X.env)).all (fun x => !x.1) && (backToKw cpos (keywordEach [] X.env)).all (fun x => x.1.isSome)
      && decide ((e :: es).length + ([] : List Keyword).length + (if ([] : List Keyword).isEmpty then 0 else 1) < 30)) = true := by rfl)
    (hline : (apos.endLine == cpos.line) = true := by rfl) (hst : starEach (e :: es) X.env = (false, eval e X.env) :: starEach es X.env := by rfl) (hpl : (backTo cpos (starEach es X.env)).any (·.1) = false := by rfl) :
    PE X (.Call (.Attribute o name apos) (e :: es) [] cpos) (rE c (eMeth T g fo l)) :=
  (pe_bm pa slot hty hm ho ha hbase hfew hline hst hpl).imp fun σ H Q h => by
    have z := rE_meth hT hs σ H Q h
    rw [F.K] at z
    exact z
/-! join -/
theorem okS_mk {l : List Nat} : okS ⟨l.toArray⟩ = l.all (· < 0x110000) := by
  unfold okS
  simp
theorem okS_list {s : Str} : okS s = s.cps.toList.all (· < 0x110000) := by
  unfold okS
  rw [Array.all_toList]
theorem okS_join {a : Str} (ha : okS a = true) : ∀ {ys : List Str}, (∀ s ∈ ys, okS s = true) → okS (Str.join a ys) = true
  | [], _ => by
    show okS Str.empty = true
    simp [okS, Str.empty]
  | [x], h => h x (by simp)
  | x :: y :: r, h => by
    show okS (x ++ a ++ Str.join a (y :: r)) = true
    exact okS_append (okS_append (h x (by simp)) ha) (okS_join ha fun s hs => h s (by simp [hs]))
abbrev rJoin (K : PySem.W.Frag) : V → List V → Hp → VK → Prop := fun x xs H Q => ∃ a p, ∃ ys : List Str, x = .str a ∧ xs = [.ref p] ∧ (SqL K H p (ys.map V.str) ∨ SqT K H p (ys.map V.str)) ∧ (ys.map (·.length)).sum + ys.length * a.length ≤ 16777216 ∧ Q (.str (Txt.join a ys)) H
theorem sim_join : MethSim c "str" mJoin (rJoin c.K) := by
  intro G μ ρ m σ H x u xs us d Q S r rs e k
  generalize e1 : view m x = x' at e
  unfold mJoin at e
  split at e
  · rename_i a ys he
    obtain ⟨z, rfl, hz⟩ := map1 he
    obtain ⟨w, rfl, rz⟩ := rep1 rs
    obtain ⟨ss, e2, e3⟩ := Option.bind_eq_some_iff.mp e
    split at e3
    · rename_i hl
      cases e3
      obtain ⟨p, vs, ew, hp, rp⟩ := v_lst S.mem rz hz
      obtain ⟨rfl, ho⟩ := dStrs_rep e2 rp
      obtain ⟨q1, o1⟩ := v_str r e1
      exact ⟨a, p, ss, q1, by rw [ew], .inl hp, hl, by rw [TL.join_eq]; exact k _ _ _ _ S (.str _ (okS_join o1 ho)) Gr.refl⟩
    · cases e3
  · rename_i a ys he
    obtain ⟨z, rfl, hz⟩ := map1 he
    obtain ⟨w, rfl, rz⟩ := rep1 rs
    obtain ⟨ss, e2, e3⟩ := Option.bind_eq_some_iff.mp e
    split at e3
    · rename_i hl
      cases e3
      obtain ⟨p, vs, ew, hp, rp⟩ := v_tup S.mem rz hz
      obtain ⟨rfl, ho⟩ := dStrs_rep e2 rp
      obtain ⟨q1, o1⟩ := v_str r e1
      exact ⟨a, p, ss, q1, by rw [ew], .inr hp, hl, by rw [TL.join_eq]; exact k _ _ _ _ S (.str _ (okS_join o1 ho)) Gr.refl⟩
    · cases e3
  · cases e
/-! index -/
theorem findD_py {x : D} (h : isData x = true) : ∀ {ys : List D} {j : Nat}, ys.all (dataN 15) = true → findD x ys = some j → ∃ z, (toPyL ys)[j]? = some z ∧ PyData.eqv z (toPy x) = true ∧ ∀ (i : Nat) (z' : PyData), i < j → (toPyL ys)[i]? = some z' → PyData.eqv z' (toPy x) = false := by
  intro ys
  induction ys with
  | nil => intro j _ e; cases e
  | cons y ys ih =>
    intro j hy e
    have hy' : dataN 15 y = true ∧ ys.all (dataN 15) = true := by simpa using hy
    unfold findD at e
    split at e
    · rename_i hq
      cases e
      exact ⟨toPy y, rfl, by rw [← eqv_py 15 16 y x hy'.1 h]; exact hq, fun i z' hi => absurd hi (Nat.not_lt_zero _)⟩
    · rename_i hq
      obtain ⟨j', e1, rfl⟩ := Option.map_eq_some_iff.mp e
      obtain ⟨z, h1, h2, h3⟩ := ih hy'.2 e1
      refine ⟨z, by simpa [toPyL] using h1, h2, fun i z' hi hz => ?_⟩
      cases i with
      | zero =>
        obtain rfl : toPy y = z' := by simpa [toPyL] using hz
        rw [← eqv_py 15 16 y x hy'.1 h]
        simpa using hq
      | succ i => exact h3 i z' (Nat.lt_of_succ_lt_succ hi) (by simpa [toPyL] using hz)
theorem sim_index : MethSim c "list" mIndex (rIndexD c.K) := by
  intro G μ ρ m σ H x u xs us d Q S r rs e k
  generalize e1 : view m x = x' at e
  unfold mIndex at e
  split at e
  · rename_i ys y he
    obtain ⟨z, rfl, hz⟩ := map1 he
    obtain ⟨w, rfl, rz⟩ := rep1 rs
    split at e
    · rename_i hd
      obtain ⟨j, e2, e3⟩ := Option.map_eq_some_iff.mp e
      cases e3
      obtain ⟨a1, a2⟩ := v_data S.mem r e1 hd.1
      obtain ⟨b1, b2⟩ := v_data S.mem rz hz hd.2
      obtain ⟨p, vs, eu, hp, rp⟩ := v_lst S.mem r e1
      subst eu
      obtain ⟨z', h1, h2, h3⟩ := findD_py hd.2 (by simpa [isData, dataN] using hd.1) e2
      exact ⟨p, w, toPy y, toPyL ys, j, z', rfl, rfl, a1, b1, a2, b2, h1, h2, h3, k _ _ _ _ S (.int _) Gr.refl⟩
    · cases e
  · cases e

/-! ### cells that change -/
theorem nodup_at {l : List Addr} (h : l.Nodup) {i j : Nat} {x : Addr} (a : l[i]? = some x) (b : l[j]? = some x) : i = j := by
  obtain ⟨h1, e1⟩ := List.getElem?_eq_some_iff.mp a
  obtain ⟨h2, e2⟩ := List.getElem?_eq_some_iff.mp b
  exact (List.getElem_inj h).mp (e1.trans e2.symm)
theorem MemOk.setL (h : MemOk c G μ m H) {n : Nat} {a : Addr} {xs ys : List D} {vs : List V} (hμ : μ[n]? = some a) (hm : m[n]? = some (.lst xs)) (r : RepL c.K c.mg c.xo G μ ys vs) : MemOk c G μ (m.set n (.lst ys)) (upd H a (.lst vs)) := by
  obtain ⟨ga, ba, ws, ha, _⟩ := h.cell n a _ hμ hm
  have nG : ∀ b o, G b = some o → b ≠ a := fun b o e z => by rw [z, ga] at e; cases e
  have nB : ∀ b o, c.B b = some o → b ≠ a := fun b o e z => by rw [z, ba] at e; cases e
  refine ⟨fun b o e => by rw [upd_ne (nG b o e)]; exact h.gh b o e, fun b o e => by rw [upd_ne (nB b o e)]; exact h.bh b o e, h.g0, h.gb, by simp [h.ml], h.nd, fun i b k e1 e2 => ?_, fun b hb => ?_, h.mb⟩
  · by_cases hi : n = i
    · subst hi
      have hl : n < m.length := (List.getElem?_eq_some_iff.mp hm).1
      rw [List.getElem?_set_self hl] at e2
      obtain rfl : Cell.lst ys = k := by simpa using e2
      rw [hμ] at e1
      obtain rfl : a = b := by simpa using e1
      exact ⟨ga, ba, vs, upd_same, r⟩
    · rw [List.getElem?_set_ne hi] at e2
      have nb : b ≠ a := fun z => hi (nodup_at h.nd hμ (z ▸ e1))
      refine CellOk.mono Gr.refl (fun q => q) (fun _ _ q => q) (fun x o hw e => ?_) (h.cell i b k e1 e2)
      have nx : x ≠ a := by
        rcases hw with rfl | rfl
        · exact nb
        · intro z
          rw [z, ha] at e
          cases e
      rw [upd_ne nx]
      exact e
  · by_cases hq : b = a
    · subst hq
      rw [upd_same]
      simp
    · rw [upd_ne hq]
      exact h.used b hb
/-- xs.append(e) -/
theorem xe_append {o e : Expr} {fo fe : E} {apos cpos : Pos} {k : Nat} (F : Fit0 X c k) (ho : PE X o (rE c fo)) (he : PE X e (rE c fe))
    (hbase : attributeBase o "append" X.env (eval o X.env) = eval o X.env := by rfl)
    (hfew : ((backTo cpos (starEach [e] X.env)).all (fun x => !x.1) && (backToKw cpos (keywordEach [] X.env)).all (fun x => x.1.isSome)
      && decide ([e].length + ([] : List Keyword).length + (if ([] : List Keyword).isEmpty then 0 else 1) < 30)) = true := by rfl)
    (hline : (apos.endLine == cpos.line) = true := by rfl) (hst : starEach [e] X.env = (false, eval e X.env) :: starEach [] X.env := by rfl) (hpl : (backTo cpos (starEach [] X.env)).any (·.1) = false := by rfl) :
    PE X (.Call (.Attribute o "append" apos) [e] [] cpos) (rE c (eAppend fo fe)) := by
  refine (pe_bm (r := rAppend) PySem.F.plainAttrs_list PySem.F.slot_list_append PySem.F.type_list_append mt_append ho (pa_cons he pa_nil hst) hbase hfew hline hst hpl).imp ?_
  rintro σ H Q ⟨ρ, m, G, μ, S, h⟩
  refine rE_bindE S h fun x m1 u H1 G1 μ1 S1 R1 g1 h1 => ?_
  split at h1
  · rename_i ht
    rw [← F.K]
    refine ⟨tyV_of S1.mem R1 ht (.inr rfl), rE_bindE S1 h1 fun y m2 v H2 G2 μ2 S2 R2 g2 h2 => ?_⟩
    cases x with
    | loc n =>
      cases R1 with
      | loc hμ =>
        rename_i a
        have h2 : PostE c G2 μ2 ρ σ Q (match m2[n]? with
          | some (.lst xs) => if xs.length < LN then .ok .non (m2.set n (.lst (xs ++ [y]))) else .bad
          | _ => .bad) := h2
        split at h2
        · rename_i xs hm
          split at h2
          · rename_i hl
            have hμ2 := pre_get g2.m hμ
            obtain ⟨_, _, vs, ha, ra⟩ := S2.mem.cell n a _ hμ2 hm
            refine ⟨a, vs, v, rfl, rfl, ha, by rw [← ra.length, sizeLine_eq]; exact hl, ?_⟩
            exact h2 _ _ _ _ (S2.gr (S2.mem.setL hμ2 hm (ra.append (.cons R2 .nil))) Gr.refl) .non Gr.refl
          · exact h2.elim
        · exact h2.elim
    | _ => exact h2.elim
  · exact h1.elim
/-- xs[i] = e -/
theorem xs_setIx {o i e : Expr} {fo fi fe : E} {tpos pos : Pos} (he : PE X e (rE c fe)) (ho : PE X o (rE c fo)) (hi : PE X i (rE c fi))
    (ha : ∀ v, assign (.Subscript o i tpos) X.env v = (do
      let ov ← holding [v] (eval o X.env)
      let iv ← holding [v, ov] (eval i X.env)
      standAt tpos
      holding [v, ov, iv] (setItem ov iv v)
      release [v, ov, iv] []) := by intro _; rfl) (hs : swapsWithSole [.Subscript o i tpos] e pos.line X.env = pure false := by rfl) (hw : swappedStores [.Subscript o i tpos] e X.env = pure none := by rfl)
    (h1 : (assignEach [.Subscript o i tpos] X.env).map (·.2) = [assign (.Subscript o i tpos) X.env] := by rfl) : PS X (.Assign [.Subscript o i tpos] e pos) (rS c (sSetIx fe fo fi)) := by
  refine (ps_asg he (pg_sub ho hi set_list ha) hs hw h1).imp ?_
  rintro D σ H ⟨ρ, m, G, μ, S, h⟩
  refine rE_then S h fun y m1 v H1 G1 μ1 S1 R1 g1 h1 => ?_
  refine rE_then S1 h1 fun x m2 u H2 G2 μ2 S2 R2 g2 h2 => ?_
  refine rE_then S2 h2 fun k m3 w H3 G3 μ3 S3 R3 g3 h3 => ?_
  cases x with
  | loc n =>
    cases k with
    | int k =>
      have h3 : PostS c G3 μ3 D (match m3[n]? with
        | some (.lst xs) => (match dIxN xs.length k with
          | some j => .nx ρ (m3.set n (.lst (xs.set j y)))
          | none => .bad)
        | _ => .bad) := h3
      cases R2 with
      | loc hμ =>
        rename_i a
        cases R3
        split at h3
        · rename_i xs hm
          have hμ3 := pre_get g3.m hμ
          obtain ⟨_, _, vs, ha, ra⟩ := S3.mem.cell n a _ hμ3 hm
          cases ej : dIxN xs.length k with
          | none => rw [ej] at h3; exact h3.elim
          | some j =>
            rw [ej] at h3
            refine ⟨a, vs, k, j, rfl, rfl, ha, by rw [← ra.length]; exact ej, ?_⟩
            exact h3 _ _ _ _ (S3.gr (S3.mem.setL hμ3 hm (ra.set j ((R1.gr g2).gr g3))) Gr.refl) Gr.refl
        · exact h3.elim
    | _ => exact h3.elim
  | _ => exact h3.elim
/-- a cell that changes no more -/
theorem Sim.frz {n : Nat} {a : Addr} {xs : List D} (S : Sim c G μ ρ m σ H) (hμ : μ[n]? = some a) (hm : m[n]? = some (.lst xs)) : ∃ vs, Sim c (upd G a (.lst vs)) μ ρ (m.set n .dead) σ H ∧ Gr G μ (upd G a (.lst vs)) μ ∧ Rep c.K c.mg c.xo (upd G a (.lst vs)) μ (.lst xs) (.ref a) := by
  obtain ⟨ga, ba, vs, ha, ra⟩ := S.mem.cell n a _ hμ hm
  have g : Gr G μ (upd G a (.lst vs)) μ := ⟨fun b o e => by rw [upd_ne (ne_of_none e ga)]; exact e, List.prefix_refl _⟩
  refine ⟨vs, S.gr ⟨fun b o e => ?_, S.mem.bh, S.mem.g0.trans g.g, fun b o e1 e2 => ?_, by simp [S.mem.ml], S.mem.nd, fun i b k e1 e2 => ?_, S.mem.used, S.mem.mb⟩ g, g, .lst (SqL.of upd_same) (ra.gr g)⟩
  · by_cases hb : b = a
    · subst hb
      rw [upd_same] at e
      rw [ha]
      exact e
    · rw [upd_ne hb] at e
      exact S.mem.gh b o e
  · have nb : b ≠ a := fun z => by rw [z, ba] at e1; cases e1
    rw [upd_ne nb]
    exact S.mem.gb b o e1 e2
  · by_cases hi : n = i
    · subst hi
      have hl : n < m.length := (List.getElem?_eq_some_iff.mp hm).1
      rw [List.getElem?_set_self hl] at e2
      obtain rfl : Cell.dead = k := by simpa using e2
      trivial
    · rw [List.getElem?_set_ne hi] at e2
      have nb : b ≠ a := fun z => hi (nodup_at S.mem.nd hμ (z ▸ e1))
      refine CellOk.mono g (fun q => by rw [upd_ne nb]; exact q) (fun x e q => ?_) (fun _ _ _ e => e) (S.mem.cell i b k e1 e2)
      have nx : x ≠ a := fun z => by rw [z, ha] at e; cases e
      rw [upd_ne nx]
      exact q
theorem xe_frz {e : Expr} {f : E} (h : PE X e (rE c f)) : PE X e (rE c (eFrz f)) := by
  refine h.imp ?_
  rintro σ H Q ⟨ρ, m, G, μ, S, h⟩
  refine rE_bindE S h fun x m1 u H1 G1 μ1 S1 R1 g1 h1 => ?_
  cases x with
  | loc n =>
    have h1 : PostE c G1 μ1 ρ σ Q (match m1[n]? with
      | some (.lst xs) => .ok (.lst xs) (m1.set n .dead)
      | _ => .bad) := h1
    cases R1 with
    | loc hμ =>
      split at h1
      · rename_i xs hm
        obtain ⟨vs, S2, g2, r2⟩ := S1.frz hμ hm
        exact h1 _ _ _ _ S2 r2 g2
      · exact h1.elim
  | _ => exact h1 _ _ _ _ S1 R1 Gr.refl

/-! ### what is walked -/
theorem walkD_list {a : Addr} {ds : List D} {vs : List V} (h : SqL c.K G a vs) (r : RepL c.K c.mg c.xo G μ ds vs) : WalkD c (Itl c.K a) G μ ds := by
  unfold WalkD
  rw [r.length]
  refine walk_list.mono (fun H s => Same.seq s h) fun i H x H' _ _ y => ?_
  obtain ⟨d, h1, h2⟩ := r.getV y.2
  exact ⟨d, h1, .inl ⟨y.1, h2⟩⟩
theorem walkD_tup {a : Addr} {ds : List D} {vs : List V} (h : SqT c.K G a vs) (r : RepL c.K c.mg c.xo G μ ds vs) : WalkD c (Itt c.K a) G μ ds := by
  unfold WalkD
  rw [r.length]
  refine walk_tup.mono (fun H s => Same.tupS s h) fun i H x H' _ _ y => ?_
  obtain ⟨d, h1, h2⟩ := r.getV y.2
  exact ⟨d, h1, .inl ⟨y.1, h2⟩⟩
theorem walkD_str {s : Str} (h : okS s = true) : WalkD c (Its s) G μ (s.cps.toList.map fun z => .str ⟨#[z]⟩) := by
  unfold WalkD
  rw [List.length_map, Array.length_toList]
  refine walk_str.mono (fun H _ => trivial) fun i H x H' _ _ y => ?_
  obtain ⟨e, z, hz, rfl⟩ := y
  have hz' : s.cps.toList[i]? = some z := by simpa using hz
  exact ⟨_, by rw [List.getElem?_map, hz']; rfl, .inl ⟨e, .str _ (okS_sign h hz')⟩⟩
theorem rI_bind {f : E} {k : D → Mem → R (List D)} {R' : It → Hp → Prop} {Q' : VK} (S : Sim c G μ ρ m σ H)
    (h : match (f ρ m).bind k with
      | .ok ds m1 => ∀ J H1 G1 μ1, Sim c G1 μ1 ρ m1 σ H1 → Gr G μ G1 μ1 → WalkD c J G1 μ1 ds → R' J H1
      | .exc e m1 => ∀ cc dd H1 G1 μ1, Sim c G1 μ1 ρ m1 σ H1 → Gr G μ G1 μ1 → ExcAt c.mg e cc dd G1 → c.W cc dd σ H1
      | .bad => False)
    (q : ∀ d m1 v H1 G1 μ1, Sim c G1 μ1 ρ m1 σ H1 → Rep c.K c.mg c.xo G1 μ1 d v → Gr G μ G1 μ1 → (match k d m1 with
      | .ok ds m1 => ∀ J H2 G2 μ2, Sim c G2 μ2 ρ m1 σ H2 → Gr G μ G2 μ2 → WalkD c J G2 μ2 ds → R' J H2
      | .exc e m1 => ∀ cc dd H1 G1 μ1, Sim c G1 μ1 ρ m1 σ H1 → Gr G μ G1 μ1 → ExcAt c.mg e cc dd G1 → c.W cc dd σ H1
      | .bad => False) → Q' v H1) : rE c f σ H Q' := by
  refine ⟨ρ, m, G, μ, S, ?_⟩
  cases e : f ρ m with
  | ok d m1 =>
    rw [e] at h
    exact fun v H1 G1 μ1 S1 R1 g1 => q d m1 v H1 G1 μ1 S1 R1 g1 h
  | exc x m1 =>
    rw [e] at h
    exact h
  | bad =>
    rw [e] at h
    exact h
theorem rI_seq {f : E} : ∀ (σ : L2.St) (H : Hp) (R' : It → Hp → Prop), rIt c (iSeq f) σ H R' → iList c.K (rE c f) σ H R' ∨ (iTup c.K (rE c f) σ H R' ∨ iStr (rE c f) σ H R') := by
  rintro σ H R' ⟨ρ, m, G, μ, S, h⟩
  have h : match (f ρ m).bind fun x m => R.of m (dItems x) with
      | .ok ds m1 => ∀ J H1 G1 μ1, Sim c G1 μ1 ρ m1 σ H1 → Gr G μ G1 μ1 → WalkD c J G1 μ1 ds → R' J H1
      | .exc e m1 => ∀ cc dd H1 G1 μ1, Sim c G1 μ1 ρ m1 σ H1 → Gr G μ G1 μ1 → ExcAt c.mg e cc dd G1 → c.W cc dd σ H1
      | .bad => False := h
  cases e : f ρ m with
  | bad => rw [e] at h; exact h.elim
  | exc x m1 =>
    rw [e] at h
    refine .inl ⟨ρ, m, G, μ, S, ?_⟩
    rw [e]
    exact h
  | ok d m1 =>
    rw [e] at h
    have key : ∀ {Q : VK}, (∀ v H1 G1 μ1, Sim c G1 μ1 ρ m1 σ H1 → Rep c.K c.mg c.xo G1 μ1 d v → Gr G μ G1 μ1 → Q v H1) → rE c f σ H Q := fun q => ⟨ρ, m, G, μ, S, by rw [e]; exact q⟩
    cases d with
    | lst xs =>
      refine .inl (key fun v H1 G1 μ1 S1 R1 g1 => ?_)
      obtain ⟨a, vs, rfl, ha, ra⟩ := v_lstT R1
      exact ⟨a, rfl, ⟨vs, S1.mem.gh.seq ha⟩, h _ _ _ _ S1 g1 (walkD_list ha ra)⟩
    | tup xs =>
      refine .inr (.inl (key fun v H1 G1 μ1 S1 R1 g1 => ?_))
      cases R1 with
      | tup ha ra => exact ⟨_, rfl, ⟨_, Same.tupS S1.mem.gh ha⟩, h _ _ _ _ S1 g1 (walkD_tup ha ra)⟩
    | str s =>
      refine .inr (.inr (key fun v H1 G1 μ1 S1 R1 g1 => ?_))
      cases R1 with
      | str _ ho => exact ⟨s, rfl, h _ _ _ _ S1 g1 (walkD_str ho)⟩
    | _ => exact h.elim
theorem xi_seq {tg l : Expr} {f : E} {k : Nat} (F : Fit X c k) (hl : PE X l (rE c f)) : PI X tg l (rIt c (iSeq f)) :=
  ((pi_list hl).or ((pi_tup hl).or (pi_str hl))).imp fun σ H R h => by
    have z := rI_seq σ H R h
    rw [F.K] at z
    exact z
theorem walkD_range {n : Int} : WalkD c (Itr 0 n.toNat) G μ (dRange n) := by
  unfold WalkD dRange
  rw [List.length_map, List.length_range]
  refine walk_range.mono (fun H _ => trivial) fun i H x H' hi _ y => ?_
  refine ⟨.int (i : Nat), by rw [List.getElem?_map, List.getElem?_range hi]; rfl, .inl ⟨y.1, ?_⟩⟩
  rw [y.2]
  show Rep c.K c.mg c.xo G μ (.int (i : Nat)) (.int (0 + (i : Nat)))
  rw [Int.zero_add]
  exact .int _
/-- for x in range(n) -/
theorem xi_range {tg a : Expr} {f : E} {p pos : Pos} {k : Nat} (F : Fit X c k) (hg : Gl X "range") (hm : X.mg "range" = none) (ha : PE X a (rE c f)) (hs : starEach [a] X.env = [(false, eval a X.env)] := by rfl) (hs2 : starEach [a] X.env = (false, eval a X.env) :: starEach [] X.env := by rfl) :
    PI X tg (.Call (.Name "range" p) [a] [] pos) (rIt c (iRange f)) := by
  refine (pi_range1 hg hm (pa_cons ha pa_nil hs2) hs).imp ?_
  rintro σ H R' ⟨ρ, m, G, μ, S, h⟩
  refine rI_bind (R' := R') S h fun d m1 v H1 G1 μ1 S1 R1 g1 h1 => ?_
  cases d with
  | int n =>
    cases R1
    have h1 : match (if -(2 ^ 62) ≤ n ∧ n < 2 ^ 62 then R.ok (dRange n) m1 else R.bad) with
      | .ok ds m1 => ∀ J H2 G2 μ2, Sim c G2 μ2 ρ m1 σ H2 → Gr G μ G2 μ2 → WalkD c J G2 μ2 ds → R' J H2
      | .exc e m1 => ∀ cc dd H1 G1 μ1, Sim c G1 μ1 ρ m1 σ H1 → Gr G μ G1 μ1 → ExcAt c.mg e cc dd G1 → c.W cc dd σ H1
      | .bad => False := h1
    split at h1
    · rename_i hn
      split at hn
      · rename_i hb
        cases hn
        exact ⟨n, rfl, hb.1, hb.2, h1 _ _ _ _ S1 g1 walkD_range⟩
      · cases hn
    · rename_i hn
      split at hn <;> cases hn
    · exact h1.elim
  | _ => exact h1.elim
theorem rL_bindI {f : EL} {k : List D → Mem → R (List D)} {R' : It → Hp → Prop} {Q' : List V → Hp → Prop} (S : Sim c G μ ρ m σ H)
    (h : match (f ρ m).bind k with
      | .ok ds m1 => ∀ J H1 G1 μ1, Sim c G1 μ1 ρ m1 σ H1 → Gr G μ G1 μ1 → WalkD c J G1 μ1 ds → R' J H1
      | .exc e m1 => ∀ cc dd H1 G1 μ1, Sim c G1 μ1 ρ m1 σ H1 → Gr G μ G1 μ1 → ExcAt c.mg e cc dd G1 → c.W cc dd σ H1
      | .bad => False)
    (q : ∀ d m1 v H1 G1 μ1, Sim c G1 μ1 ρ m1 σ H1 → RepL c.K c.mg c.xo G1 μ1 d v → Gr G μ G1 μ1 → (match k d m1 with
      | .ok ds m1 => ∀ J H2 G2 μ2, Sim c G2 μ2 ρ m1 σ H2 → Gr G μ G2 μ2 → WalkD c J G2 μ2 ds → R' J H2
      | .exc e m1 => ∀ cc dd H1 G1 μ1, Sim c G1 μ1 ρ m1 σ H1 → Gr G μ G1 μ1 → ExcAt c.mg e cc dd G1 → c.W cc dd σ H1
      | .bad => False) → Q' v H1) : rL c f σ H Q' := by
  refine ⟨ρ, m, G, μ, S, ?_⟩
  cases e : f ρ m with
  | ok d m1 =>
    rw [e] at h
    exact fun v H1 G1 μ1 S1 R1 g1 => q d m1 v H1 G1 μ1 S1 R1 g1 h
  | exc x m1 =>
    rw [e] at h
    exact h
  | bad =>
    rw [e] at h
    exact h
theorem walkD_enum {a : Addr} {ds : List D} {vs : List V} (h : SqL c.K G a vs) (r : RepL c.K c.mg c.xo G μ ds vs) : WalkD c (Ite c.K a) G μ (dEnum ds) := by
  unfold WalkD dEnum
  rw [List.length_map, List.length_zipIdx, r.length]
  refine walk_enum.mono (fun H s => Same.seq s h) fun i H x H' _ _ y => ?_
  obtain ⟨T, u, v, rfl, hT, rfl, hu, hv⟩ := y
  obtain ⟨d, h1, h2⟩ := r.getV hv
  cases hu
  refine ⟨.tup [.int (i : Nat), d], ?_, .inr ⟨T, [.int (i : Nat), d], [.int (i : Nat), v], rfl, rfl, hT, rfl, .cons (.int _) (.cons h2 .nil)⟩⟩
  rw [List.getElem?_map, List.getElem?_zipIdx, h1]
  simp
theorem xi_enum {e : Expr} {l : EL} {p pos tpos : Pos} {elts : List Expr} {kk : Nat} {k : Nat} (F : Fit X c k) (hg : Gl X "enumerate") (hm : X.mg "enumerate" = none) (ha : PA X [e] (rL c l)) (hs : starEach [e] X.env = [(false, eval e X.env)] := by rfl) :
    PI X (.Tuple elts kk tpos) (.Call (.Name "enumerate" p) [e] [] pos) (rIt c (iEnum l)) := by
  refine (pi_enum hg hm ha hs).imp ?_
  rintro σ H R' ⟨ρ, m, G, μ, S, h⟩
  refine rL_bindI (R' := R') S h fun ds m1 vs H1 G1 μ1 S1 R1 g1 h1 => ?_
  split at h1
  · rename_i hk
    split at hk
    · cases hk
      obtain ⟨u, rfl, r⟩ := rep1 R1
      obtain ⟨a, ws, rfl, ha, ra⟩ := v_lstT r
      rw [← F.K]
      exact ⟨a, ws, rfl, S1.mem.gh.seq ha, h1 _ _ _ _ S1 g1 (walkD_enum ha ra)⟩
    · cases hk
  · rename_i hk
    split at hk <;> cases hk
  · exact h1.elim
theorem zip_at {ds es : List D} {i : Nat} {d e : D} (h1 : ds[i]? = some d) (h2 : es[i]? = some e) : (dZip ds es)[i]? = some (.tup [d, e]) := by
  unfold dZip
  have z : (ds.zip es)[i]? = some (d, e) := List.getElem?_zip_eq_some.mpr ⟨h1, h2⟩
  rw [List.getElem?_map, z]
  rfl
theorem walkD_zip {a b : Addr} {ds es : List D} {vs ws : List V} (h : SqL c.K G a vs) (h' : SqL c.K G b ws) (r : RepL c.K c.mg c.xo G μ ds vs) (r' : RepL c.K c.mg c.xo G μ es ws) : WalkD c (Itz c.K a b) G μ (dZip ds es) := by
  unfold WalkD
  have hl : (dZip ds es).length = min vs.length ws.length := by simp [dZip, r.length, r'.length]
  rw [hl]
  refine (walk_zip rfl).mono (fun H s => ⟨Same.seq s h, Same.seq s h'⟩) fun i H x H' _ _ y => ?_
  obtain ⟨T, u, v, rfl, hT, rfl, hu, hv⟩ := y
  obtain ⟨d, h1, h2⟩ := r.getV hu
  obtain ⟨e, k1, k2⟩ := r'.getV hv
  exact ⟨.tup [d, e], zip_at h1 k1, .inr ⟨T, _, _, rfl, rfl, hT, rfl, .cons h2 (.cons k2 .nil)⟩⟩
theorem walk_zipT {K : PySem.W.Frag} {a b : Addr} {xs ys : List V} : Walk (RZ.ItzT K a b) (min xs.length ys.length) (fun H => SqT K H a xs ∧ SqT K H b ys) (YPair (fun i => xs[i]?) (fun i => ys[i]?)) := by
  refine ⟨fun i _ hi q => ?_, fun _ q => ⟨xs, ys, q.1, q.2, by omega⟩, fun i H v H' _ q y => ?_⟩
  · have h1 : i < xs.length := by omega
    have h2 : i < ys.length := by omega
    exact ⟨xs, ys, xs[i], ys[i], q.1, q.2, by simp [h1], by simp [h2]⟩
  · obtain ⟨T, x, z, h1, h2, h3, h4, h5⟩ := y
    exact ⟨T, x, z, h1, h2, h3, h4 xs q.1, h5 ys q.2⟩
theorem walkD_zipT {a b : Addr} {ds es : List D} {vs ws : List V} (h : SqT c.K G a vs) (h' : SqT c.K G b ws) (r : RepL c.K c.mg c.xo G μ ds vs) (r' : RepL c.K c.mg c.xo G μ es ws) : WalkD c (RZ.ItzT c.K a b) G μ (dZip ds es) := by
  unfold WalkD
  have hl : (dZip ds es).length = min vs.length ws.length := by simp [dZip, r.length, r'.length]
  rw [hl]
  refine walk_zipT.mono (fun H s => ⟨Same.tupS s h, Same.tupS s h'⟩) fun i H x H' _ _ y => ?_
  obtain ⟨T, u, v, rfl, hT, rfl, hu, hv⟩ := y
  obtain ⟨d, h1, h2⟩ := r.getV hu
  obtain ⟨e, k1, k2⟩ := r'.getV hv
  exact ⟨.tup [d, e], zip_at h1 k1, .inr ⟨T, _, _, rfl, rfl, hT, rfl, .cons h2 (.cons k2 .nil)⟩⟩
/-! ### f(), no argument -/
theorem xe_call0 {M : Bool} {k j : Nat} {f : F} {x : Str} {p pos : Pos} (F : Fit X c k) (hxo : c.xo = none) (C : Callee X.prog X.w X.K X.mg X.base j x 0 f) (hj : j ≤ k) (hg : Gl X x) (hdb : (x == ("__debug__" : Str)) = false := by decide) : PE X (.Call (.Name x p) [] [] pos) (rE c (eCall M 0 f lNil)) := by
  obtain ⟨a, fd, ps, h1, h2, h3, h4⟩ := C.ex
  have h1 : FnOk X.prog X.w X.K X.mg X.base (L2.CX X.prog X.w) j a fd ps (spD c.K c.mg 0 f) := by
    rw [F.K, F.mg]
    exact h1
  refine ⟨fun pins s σ H Q I h => ?_⟩
  have z := rE_call hxo σ H Q h
  obtain ⟨ρ, m, G, μ, S, z⟩ := z
  have z : spD c.K c.mg 0 f ([] ++ []) H Q (WE c.W σ) := z [] H G μ S .nil Gr.refl
  refine wpAny_Call_Name_kw (ld_glob I hg h2 ?_ hdb)
  exact PySem.W.callWith_K0 I.kIn h3 (run_fnSD (us := []) h1 (F.rm.mono hj) h4 .nil (passAt F.tk σ) I .nil z)
end
end TT

set_option maxHeartbeats 2000000
/-! T5: short words for the printed derivations; the end. -/
namespace TT
open PySem PySem.Spec PyProof.Rows L2
section
variable {X : Cx} {c : Ct} {k : Nat} {a b d : Expr} {fa fb fc : E} {pos : Pos}
theorem xe_add (F : Fit0 X c k) (ha : PE X a (rE c fa)) (hb : PE X b (rE c fb)) : PE X (.BinOp a .Add b pos) (rE c (eOp dAdd fa fb)) := xe_op (by rw [F.K]; exact or_add) sim_add ha hb
theorem xe_sub (ha : PE X a (rE c fa)) (hb : PE X b (rE c fb)) : PE X (.BinOp a .Sub b pos) (rE c (eOp dSub fa fb)) := xe_op op_sub sim_sub ha hb
theorem xe_mul (F : Fit X c k) (ha : PE X a (rE c fa)) (hb : PE X b (rE c fb)) : PE X (.BinOp a .Mult b pos) (rE c (eOp dMul fa fb)) := xe_op (by rw [F.K]; exact or_mul) sim_mul ha hb
theorem xe_mod (ha : PE X a (rE c fa)) (hb : PE X b (rE c fb)) : PE X (.BinOp a .Mod b pos) (rE c (eOp dMod fa fb)) := xe_op op_mod sim_mod ha hb
theorem xe_div (ha : PE X a (rE c fa)) (hb : PE X b (rE c fb)) : PE X (.BinOp a .FloorDiv b pos) (rE c (eOp dDiv fa fb)) := xe_op op_fdiv sim_div ha hb
theorem xe_pow (ha : PE X a (rE c fa)) (hb : PE X b (rE c fb)) : PE X (.BinOp a .Pow b pos) (rE c (eOp dPow fa fb)) := xe_op op_pow sim_pow ha hb
theorem xe_neg (ha : PE X a (rE c fa)) : PE X (.UnaryOp .USub a pos) (rE c (eUn dNeg fa)) := by
  refine (pe_un un_neg ha).imp ?_
  rintro σ H Q ⟨ρ, m, G, μ, S, h⟩
  refine rE_bindE S h fun x m1 u H1 G1 μ1 S1 R1 g1 h1 => ?_
  obtain ⟨e, he, h1⟩ := PostE.of h1
  generalize e1 : view m1 x = y at he
  cases y with
  | int i =>
    cases he
    exact ⟨i, v_int R1 e1, h1 _ _ _ _ S1 (.int _) Gr.refl⟩
  | _ => cases he
theorem or_eq (F : Fit X c k) : OpR X (compareOp .Eq) (rrEq c.K) := by rw [F.K]; exact (op_eqD F.rm.units).or (op_eqD0 (Nat.lt_of_le_of_lt (Nat.le_add_right _ _) F.rm.units))
theorem or_ne (F : Fit X c k) : OpR X (compareOp .NotEq) (rrNe c.K) := by rw [F.K]; exact (op_neD F.rm.units).or (op_neD0 (Nat.lt_of_le_of_lt (Nat.le_add_right _ _) F.rm.units))
theorem or_inF (F : Fit X c k) : OpR X (compareOp .In) (rrIn c.K) := by rw [F.K]; exact or_in F
theorem or_notInF (F : Fit X c k) : OpR X (compareOp .NotIn) (rrNotIn c.K) := by rw [F.K]; exact or_notIn F
theorem xe_eq (F : Fit X c k) (ha : PE X a (rE c fa)) (hb : PE X b (rE c fb)) : PE X (.Compare a [.Eq] [b] pos) (rE c (eCmp dEq fa fb)) := xe_cmp (or_eq F) sim_eq ha hb (nomark _)
theorem xt_eq (F : Fit X c k) (ha : PE X a (rE c fa)) (hb : PE X b (rE c fb)) : PT X (.Compare a [.Eq] [b] pos) (rT c (tCmp dEq fa fb)) := xt_cmp (or_eq F) sim_eq ha hb (nomark _)
theorem xe_ne (F : Fit X c k) (ha : PE X a (rE c fa)) (hb : PE X b (rE c fb)) : PE X (.Compare a [.NotEq] [b] pos) (rE c (eCmp dNe fa fb)) := xe_cmp (or_ne F) sim_ne ha hb (nomark _)
theorem xt_ne (F : Fit X c k) (ha : PE X a (rE c fa)) (hb : PE X b (rE c fb)) : PT X (.Compare a [.NotEq] [b] pos) (rT c (tCmp dNe fa fb)) := xt_cmp (or_ne F) sim_ne ha hb (nomark _)
theorem xe_lt (ha : PE X a (rE c fa)) (hb : PE X b (rE c fb)) : PE X (.Compare a [.Lt] [b] pos) (rE c (eCmp dLt fa fb)) := xe_cmp op_lt sim_lt ha hb (nomark _)
theorem xt_lt (ha : PE X a (rE c fa)) (hb : PE X b (rE c fb)) : PT X (.Compare a [.Lt] [b] pos) (rT c (tCmp dLt fa fb)) := xt_cmp op_lt sim_lt ha hb (nomark _)
theorem xe_le (ha : PE X a (rE c fa)) (hb : PE X b (rE c fb)) : PE X (.Compare a [.LtE] [b] pos) (rE c (eCmp dLe fa fb)) := xe_cmp op_le sim_le ha hb (nomark _)
theorem xt_le (ha : PE X a (rE c fa)) (hb : PE X b (rE c fb)) : PT X (.Compare a [.LtE] [b] pos) (rT c (tCmp dLe fa fb)) := xt_cmp op_le sim_le ha hb (nomark _)
theorem xe_gt (ha : PE X a (rE c fa)) (hb : PE X b (rE c fb)) : PE X (.Compare a [.Gt] [b] pos) (rE c (eCmp dGt fa fb)) := xe_cmp op_gt sim_gt ha hb (nomark _)
theorem xt_gt (ha : PE X a (rE c fa)) (hb : PE X b (rE c fb)) : PT X (.Compare a [.Gt] [b] pos) (rT c (tCmp dGt fa fb)) := xt_cmp op_gt sim_gt ha hb (nomark _)
theorem xe_ge (ha : PE X a (rE c fa)) (hb : PE X b (rE c fb)) : PE X (.Compare a [.GtE] [b] pos) (rE c (eCmp dGe fa fb)) := xe_cmp op_ge sim_ge ha hb (nomark _)
theorem xt_ge (ha : PE X a (rE c fa)) (hb : PE X b (rE c fb)) : PT X (.Compare a [.GtE] [b] pos) (rT c (tCmp dGe fa fb)) := xt_cmp op_ge sim_ge ha hb (nomark _)
theorem xe_is (ha : PE X a (rE c fa)) (hb : PE X b (rE c fb)) : PE X (.Compare a [.Is] [b] pos) (rE c (eCmp dIs fa fb)) := xe_cmp op_isF sim_is ha hb (nomark _)
theorem xt_is (ha : PE X a (rE c fa)) (hb : PE X b (rE c fb)) : PT X (.Compare a [.Is] [b] pos) (rT c (tCmp dIs fa fb)) := xt_cmp op_isF sim_is ha hb (nomark _)
theorem xe_isNot (ha : PE X a (rE c fa)) (hb : PE X b (rE c fb)) : PE X (.Compare a [.IsNot] [b] pos) (rE c (eCmp dIsNot fa fb)) := xe_cmp op_isNotF sim_isNot ha hb (nomark _)
theorem xt_isNot (ha : PE X a (rE c fa)) (hb : PE X b (rE c fb)) : PT X (.Compare a [.IsNot] [b] pos) (rT c (tCmp dIsNot fa fb)) := xt_cmp op_isNotF sim_isNot ha hb (nomark _)
theorem xe_in (F : Fit X c k) (ha : PE X a (rE c fa)) (hb : PE X b (rE c fb)) (hm : behindInMarks .In b = false := by rfl) : PE X (.Compare a [.In] [b] pos) (rE c (eCmp dIn fa fb)) := xe_cmp (or_inF F) sim_in ha hb hm
theorem xt_in (F : Fit X c k) (ha : PE X a (rE c fa)) (hb : PE X b (rE c fb)) (hm : behindInMarks .In b = false := by rfl) : PT X (.Compare a [.In] [b] pos) (rT c (tCmp dIn fa fb)) := xt_cmp (or_inF F) sim_in ha hb hm
theorem xe_notIn (F : Fit X c k) (ha : PE X a (rE c fa)) (hb : PE X b (rE c fb)) (hm : behindInMarks .NotIn b = false := by rfl) : PE X (.Compare a [.NotIn] [b] pos) (rE c (eCmp dNotIn fa fb)) := xe_cmp (or_notInF F) sim_notIn ha hb hm
theorem xt_notIn (F : Fit X c k) (ha : PE X a (rE c fa)) (hb : PE X b (rE c fb)) (hm : behindInMarks .NotIn b = false := by rfl) : PT X (.Compare a [.NotIn] [b] pos) (rT c (tCmp dNotIn fa fb)) := xt_cmp (or_notInF F) sim_notIn ha hb hm
/-! module constants -/
theorem xe_gstr {x s : Str} (ho : okS s = true) (hg : Gl X x) (hm : ∃ t, X.mg x = some (.str s t)) (hd : (x == ("__debug__" : Str)) = false := by decide) : PE X (.Name x pos) (rE c (eC (.str s))) := by
  obtain ⟨t, hm⟩ := hm
  exact xe_glob hg hm (v := .str s) (fun _ _ => .str s ho) ⟨t, rfl⟩ hd
theorem xe_gint {x : Str} {i : Int} (hg : Gl X x) (hm : ∃ t, X.mg x = some (.int i t)) (hd : (x == ("__debug__" : Str)) = false := by decide) : PE X (.Name x pos) (rE c (eC (.int i))) := by
  obtain ⟨t, hm⟩ := hm
  exact xe_glob hg hm (v := .int i) (fun _ _ => .int i) ⟨t, rfl⟩ hd
/-! built-ins -/
section
variable {e : Expr} {es : List Expr} {l : EL} {p : Pos}
theorem xe_len (F : Fit X c k) (hm : X.mg "len" = none) (ha : PA X [e] (rL c l)) (hg : Gl X "len" := by rfl) (hst : starEach [e] X.env = (false, eval e X.env) :: starEach [] X.env := by rfl) : PE X (.Call (.Name "len" p) [e] [] pos) (rE c (eFun dLen l)) :=
  xe_fun (r := rLenD c.K) (by rw [F.K]; exact cr_len) sim_len hg hm PySem.boot_len ha (by decide) (by decide) hst (by rfl)
theorem xe_intF (F : Fit X c k) (hm : X.mg "int" = none) (ha : PA X [e] (rL c l)) (hg : Gl X "int" := by rfl) (hst : starEach [e] X.env = (false, eval e X.env) :: starEach [] X.env := by rfl) : PE X (.Call (.Name "int" p) [e] [] pos) (rE c (eFun dInt l)) :=
  xe_funT call_int1 sim_int hg hm (by decide +kernel) ha (by decide) (by decide) hst (by rfl)
theorem xe_listF {M : Bool} (F : Fit X c k) (hm : X.mg "list" = none) (ha : PA X [e] (rL c l)) (hg : Gl X "list" := by rfl) (hst : starEach [e] X.env = (false, eval e X.env) :: starEach [] X.env := by rfl) : PE X (.Call (.Name "list" p) [e] [] pos) (rE c (eFunL M dList l)) :=
  xe_funTL (r := rrList c.K) (by rw [F.K]; exact cr_list F) sim_list hg hm (by decide +kernel) ha (by decide) (by decide) hst (by rfl)
theorem xe_tupleF (F : Fit X c k) (hm : X.mg "tuple" = none) (ha : PA X [e] (rL c l)) (hg : Gl X "tuple" := by rfl) (hst : starEach [e] X.env = (false, eval e X.env) :: starEach [] X.env := by rfl) : PE X (.Call (.Name "tuple" p) [e] [] pos) (rE c (eFun dTuple l)) :=
  xe_funT (by rw [F.K]; exact call_tuple_of) sim_tuple hg hm (by decide +kernel) ha (by decide) (by decide) hst (by rfl)
theorem xe_allF (F : Fit X c k) (hm : X.mg "all" = none) (ha : PA X [e] (rL c l)) (hg : Gl X "all" := by rfl) (hst : starEach [e] X.env = (false, eval e X.env) :: starEach [] X.env := by rfl) : PE X (.Call (.Name "all" p) [e] [] pos) (rE c (eFun dAll l)) :=
  xe_fun (r := rAll c.K) (by rw [F.K]; exact cr_all F.calm) sim_all hg hm (by decide +kernel) ha (by decide) (by decide) hst (by rfl)
theorem xe_sumF (F : Fit X c k) (hm : X.mg "sum" = none) (ha : PA X [e] (rL c l)) (hg : Gl X "sum" := by rfl) (hst : starEach [e] X.env = (false, eval e X.env) :: starEach [] X.env := by rfl) : PE X (.Call (.Name "sum" p) [e] [] pos) (rE c (eFun dSum l)) :=
  xe_fun (r := rSum c.K) (by rw [F.K]; exact cr_sum F.calm) sim_sum hg hm (by decide +kernel) ha (by decide) (by decide) hst (by rfl)
theorem xe_sortedF {M : Bool} (F : Fit X c k) (hm : X.mg "sorted" = none) (ha : PA X [e] (rL c l)) (hg : Gl X "sorted" := by rfl) (hst : starEach [e] X.env = (false, eval e X.env) :: starEach [] X.env := by rfl) : PE X (.Call (.Name "sorted" p) [e] [] pos) (rE c (eFunL M dSortS l)) :=
  xe_funL (r := rSortedS c.K) (by rw [F.K]; exact cr_sortedS) sim_sortS hg hm (by decide +kernel) ha (by decide) (by decide) hst (by rfl)
theorem xe_maxF {e2 : Expr} (F : Fit X c k) (hm : X.mg "max" = none) (ha : PA X [e, e2] (rL c l)) (hg : Gl X "max" := by rfl) (hst : starEach [e, e2] X.env = (false, eval e X.env) :: starEach [e2] X.env := by rfl) (hpl : (backTo pos (starEach [e2] X.env)).any (·.1) = false := by rfl) : PE X (.Call (.Name "max" p) [e, e2] [] pos) (rE c (eFun dMax l)) :=
  xe_fun (call_max2 F.calm) sim_max hg hm (by decide +kernel) ha (by decide) (by decide) hst hpl
theorem xe_minF {e2 : Expr} (F : Fit X c k) (hm : X.mg "min" = none) (ha : PA X [e, e2] (rL c l)) (hg : Gl X "min" := by rfl) (hst : starEach [e, e2] X.env = (false, eval e X.env) :: starEach [e2] X.env := by rfl) (hpl : (backTo pos (starEach [e2] X.env)).any (·.1) = false := by rfl) : PE X (.Call (.Name "min" p) [e, e2] [] pos) (rE c (eFun dMin l)) :=
  xe_fun (call_min2 F.calm) sim_min hg hm (by decide +kernel) ha (by decide) (by decide) hst hpl
theorem xe_isinst {e2 : Expr} (F : Fit X c k) (hm : X.mg "isinstance" = none) (ha : PA X [e, e2] (rL c l)) (hg : Gl X "isinstance" := by rfl) (hst : starEach [e, e2] X.env = (false, eval e X.env) :: starEach [e2] X.env := by rfl) (hpl : (backTo pos (starEach [e2] X.env)).any (·.1) = false := by rfl) : PE X (.Call (.Name "isinstance" p) [e, e2] [] pos) (rE c (eFun dIsInst l)) :=
  xe_fun (r := rIsi c.K) (by rw [F.K]; exact call_isi) sim_isInst hg hm (by decide +kernel) ha (by decide) (by decide) hst hpl
end
end

/-! ### the end of a law row -/
def spLaw (K : PySem.W.Frag) : Sp := fun vs H Q _ => ∃ (a : Addr) (ns : List Int), vs = [.ref a] ∧ SqL K H a (ns.map V.int) ∧ ns.length ≤ 63 ∧ ∀ H', Q (.bl true) H'
theorem law_fn {P : Program} {w : World} {K : PySem.W.Frag} {mg : Str → Option Value} {base : Heap} {k : Nat} {f : F} {fa : Addr} {fd : FuncData} {ps : List Str} (h1 : FnOk P w K mg base (L2.CX P w) k fa fd ps (spD K mg 1 f)) (hf : ∀ ns : List Int, ns.length ≤ 63 → ∃ m', f [.lst (ns.map D.int)] [] = .ok (.bl true) m') :
    FnOk P w K mg base (L2.CX P w) k fa fd ps (spLaw K) := by
  refine h1.imp ?_
  rintro vs H Q E ⟨b, ns, rfl, hs, hl, q⟩
  obtain ⟨m', e⟩ := hf ns hl
  have hr : ∀ ms : List Int, RepL K mg none H [] (ms.map D.int) (ms.map V.int) := fun ms => by
    induction ms with
    | nil => exact .nil
    | cons m ms ih => exact .cons (.int m) ih
  refine ⟨rfl, [.lst (ns.map D.int)], [], H, H, [], ⟨Same.refl _, Same.refl _, Same.refl _, fun a o _ q => q, rfl, List.nodup_nil, fun n a k e => by simp at e, fun a ha => by simp at ha, fun a ha => by simp at ha⟩, .cons (.lst hs (hr ns)) .nil, ?_⟩
  rw [e]
  intro v H' G' μ' _ _ r
  cases r
  exact q _
end TT

set_option maxHeartbeats 2000000
/-! T6: calls that see the caller's cells; a cell held by a name that changes no more. -/
namespace TT
open PySem PySem.Spec PyProof.Rows L2
section
variable {X : Cx} {c : Ct} {G : Hp} {μ : List Addr} {ρ : Ev} {m : Mem} {σ : L2.St} {H : Hp}
theorem Sim.frzVar {i n : Nat} {xs : List D} (S : Sim c G μ ρ m σ H) (hi : ρ[i]? = some (some (.loc n))) (hm : m[n]? = some (.lst xs)) : ∃ G', Sim c G' μ (ρ.set i (some (.lst xs))) (m.set n .dead) σ H ∧ Gr G μ G' μ := by
  obtain ⟨v, hv, r⟩ := S.env i _ hi
  cases r with
  | loc hμ =>
    rename_i a
    obtain ⟨vs, S2, g2, r2⟩ := S.frz hμ hm
    refine ⟨_, ⟨S2.mem, fun j d e => ?_, by simp [S2.len]⟩, g2⟩
    by_cases hj : i = j
    · subst hj
      have hl : i < ρ.length := (List.getElem?_eq_some_iff.mp hi).1
      rw [List.getElem?_set_self hl] at e
      obtain rfl : D.lst xs = d := by simpa using e
      exact ⟨_, hv, r2⟩
    · rw [List.getElem?_set_ne hj] at e
      exact S2.env j d e
theorem xs_frz {st : Stmt} {b : S} (i : Nat) (h : PS X st (rS c b)) : PS X st (rS c (sThenF b i)) := by
  refine h.imp ?_
  rintro D σ H ⟨ρ, m, G, μ, S, h⟩
  refine ⟨ρ, m, G, μ, S, ?_⟩
  unfold sThenF at h
  cases e : b ρ m with
  | nx ρ1 m1 =>
    rw [e] at h
    intro σ1 H1 G1 μ1 S1 g1
    have h : PostS c G μ D (frzAt i ρ1 m1) := h
    have same : PostS c G μ D (.nx ρ1 m1) → D.nx σ1 H1 := fun z => z σ1 H1 G1 μ1 S1 g1
    unfold frzAt at h
    split at h
    · rename_i n hi
      split at h
      · rename_i xs hm
        obtain ⟨G', S2, g2⟩ := S1.frzVar hi hm
        exact h σ1 H1 G' μ1 S2 (g1.trans g2)
      · exact same h
    · exact same h
  | bk ρ1 m1 => rw [e] at h; exact h
  | ct ρ1 m1 => rw [e] at h; exact h
  | rt d m1 => rw [e] at h; exact h
  | exc x ρ1 m1 => rw [e] at h; exact h
  | bad => rw [e] at h; exact h
theorem rE_callW {n : Nat} {f : F} {l : EL} (hx : c.xo = none) : ∀ (σ : L2.St) (H : Hp) (Q : VK), rE c (eCallW n f l) σ H Q → tCallSD (spD c.K c.mg n f) [] (WE c.W) (rL c l) σ H Q := by
  rintro σ H Q ⟨ρ, m, G, μ, S, h⟩
  refine rL_bindE S h fun ds m1 vs H1 G1 μ1 S1 R1 g1 h1 => ?_
  split at h1
  · rename_i hl
    rw [List.append_nil]
    refine ⟨by rw [← R1.length]; exact hl, ds, m1, c.B, G1, μ1, ⟨S1.mem.gh, S1.mem.bh, Same.refl _, fun a o e1 e2 => e2, S1.mem.ml, S1.mem.nd, fun n a k e1 e2 => CellOk.reB (c := c) rfl rfl hx.symm (fun b hb _ => hb) (S1.mem.cell n a k e1 e2), S1.mem.used, S1.mem.mb⟩, hx ▸ R1, ?_⟩
    have up : ∀ {H' G' μ' m'}, MemOk ⟨c.K, c.mg, none, c.B, G1, fun _ _ _ _ => False⟩ G' μ' m' H' → MemOk c G' μ' m' H' := fun {H' G' μ' m'} M =>
      ⟨M.gh, M.bh, S1.mem.g0.trans M.g0, fun a o e1 e2 => M.gb a o e1 (S1.mem.gb a o e1 e2), M.ml, M.nd, fun n a k e1 e2 => CellOk.reB (c := ⟨c.K, c.mg, none, c.B, G1, fun _ _ _ _ => False⟩) rfl rfl hx (fun b hb _ => hb) (M.cell n a k e1 e2), M.used, M.mb⟩
    cases ef : f ds m1 with
    | bad => rw [ef] at h1; exact h1.elim
    | exc e m' =>
      rw [ef] at h1
      intro cc dd H' G' μ' M' g' x'
      exact h1 cc dd H' G' μ' (S1.gr (up M') g') g' x'
    | ok d m' =>
      rw [ef] at h1
      intro v H' G' μ' M' g' r'
      exact h1 v H' G' μ' (S1.gr (up M') g') (hx.symm ▸ r') g'
  · exact h1.elim
theorem xe_callW {k j n : Nat} {f : F} {l : EL} {x : Str} {p pos : Pos} {e : Expr} {es : List Expr} (F : Fit X c k) (hxo : c.xo = none) (C : Callee X.prog X.w X.K X.mg X.base j x n f) (hj : j ≤ k) (hg : Gl X x) (ha : PA X (e :: es) (rL c l)) (hdb : (x == ("__debug__" : Str)) = false := by decide)
    (he : starEach (e :: es) X.env = (false, eval e X.env) :: starEach es X.env := by rfl) (hpl : (backTo pos (starEach es X.env)).any (·.1) = false := by rfl) : PE X (.Call (.Name x p) (e :: es) [] pos) (rE c (eCallW n f l)) := by
  obtain ⟨a, fd, ps, h1, h2, h3, h4⟩ := C.ex
  have h1 : FnOk X.prog X.w X.K X.mg X.base (L2.CX X.prog X.w) j a fd ps (spD c.K c.mg n f) := by
    rw [F.K, F.mg]
    exact h1
  exact (pe_callSD (E := WE c.W) h1 (F.rm.mono hj) hg h2 h3 h4 .nil (fun σ => passAt F.tk σ) ha hdb he hpl).imp (rE_callW hxo)
theorem xe_catM {a b : Expr} {fa fb : E} {pos : Pos} {k : Nat} (F : Fit X c k) (ha : PE X a (rE c fa)) (hb : PE X b (rE c fb)) : PE X (.BinOp a .Add b pos) (rE c (eCatM fa fb)) := by
  refine (pe_op (r := rCatL c.K) (by rw [F.K]; exact op_catL) ha hb).imp ?_
  rintro σ H Q ⟨ρ, m, G, μ, S, h⟩
  refine rE_bindE S h fun x m1 u H1 G1 μ1 S1 R1 g1 h1 => ?_
  refine rE_bindE S1 h1 fun y m2 v H2 G2 μ2 S2 R2 g2 h2 => ?_
  generalize e1 : view m2 x = x' at h2
  generalize e2 : view m2 y = y' at h2
  cases x' with
  | lst xs =>
    cases y' with
    | lst ys =>
      simp only at h2
      split at h2
      · rename_i hl
        obtain ⟨a, vs, ea, ha, ra⟩ := v_lst S2.mem (R1.gr g2) e1
        obtain ⟨b, ws, eb, hb, rb⟩ := v_lst S2.mem R2 e2
        exact ⟨a, b, vs, ws, ea, eb, ha, hb, by rw [← ra.length, ← rb.length, sizeLine_eq]; exact hl, fun p hp => S2.newL (d := .non) (m' := m2) hp (ra.append rb) h2⟩
      · exact h2.elim
    | _ => exact h2.elim
  | _ => exact h2.elim
theorem Rep.flat {d : D} {v : V} {K : PySem.W.Frag} {mg : Str → Option Value} {xo xo' : XO} {G G' : Hp} {μ μ' : List Addr} (hf : flatB d = true) (r : Rep K mg xo G μ d v) : Rep K mg xo' G' μ' d v := by
  cases d with
  | non => cases r; exact .non
  | bl b => cases r; exact .bl b
  | int i => cases r; exact .int i
  | str s => cases r with | str _ h => exact .str s h
  | _ => cases hf
theorem xe_lend {e : Expr} {f : E} {k : Nat} (i : Nat) (F : Fit X c k) (hxo : c.xo = none) (h : ∀ c' : Ct, c'.xo = none → Fit X c' k → PE X e (rE c' f)) : PE X e (rE c (eLend i f)) := by
  refine ⟨fun pins s σ H Q I q => ?_⟩
  obtain ⟨ρ, m, G, μ, S, q⟩ := q
  unfold eLend at q
  split at q
  · rename_i n hi
    split at q
    · rename_i xs hm
      split at q
      · rename_i hn
        obtain ⟨v0, hv0, r0⟩ := S.env i _ hi
        cases r0 with
        | loc hμ =>
          rename_i a
          obtain ⟨ga, ba, vs, ha, ra⟩ := S.mem.cell n a _ hμ hm
          have g1 : Same G (upd G a (.lst vs)) := fun b o e => by rw [upd_ne (ne_of_none e ga)]; exact e
          let c' : Ct := ⟨c.K, c.mg, none, H, upd G a (.lst vs), fun _ _ _ _ => False⟩
          refine (h c' rfl ⟨F.K, F.mg, F.calm, takes0, F.po, F.rm, F.nd⟩).run pins s σ H Q I ⟨(ρ.map hide).set i (some (.lst xs)), [], upd G a (.lst vs), [], ⟨⟨fun b o e => ?_, Same.refl _, Same.refl _, fun b o _ z => z, rfl, List.nodup_nil, fun n a k e => by simp at e, fun a ha => by simp at ha, fun a ha => by simp at ha⟩, fun j d e => ?_, by simp [S.len]⟩, ?_⟩
          · by_cases hb : b = a
            · subst hb
              rw [upd_same] at e
              rw [ha]
              exact e
            · rw [upd_ne hb] at e
              exact S.mem.gh b o e
          · by_cases hj : i = j
            · subst hj
              have hl : i < (ρ.map hide).length := by rw [List.length_map]; exact (List.getElem?_eq_some_iff.mp hi).1
              rw [List.getElem?_set_self hl] at e
              obtain rfl : D.lst xs = d := by simpa using e
              refine ⟨_, hv0, .lst (SqL.of upd_same) ?_⟩
              exact RepL.mono g1 (List.prefix_refl _) (.inl rfl) (RepL.off hn (hxo ▸ ra))
            · rw [List.getElem?_set_ne hj, List.getElem?_map] at e
              cases er : ρ[j]? with
              | none => rw [er] at e; simp at e
              | some o =>
                cases o with
                | none => rw [er] at e; simp [hide] at e
                | some d' =>
                  rw [er] at e
                  by_cases hd : noLoc d' = true
                  · obtain rfl : d' = d := by simpa [hide, hd] using e
                    obtain ⟨v, hv, r⟩ := S.env j _ er
                    exact ⟨v, hv, Rep.mono g1 (List.prefix_refl _) (.inl rfl) (Rep.off hd (hxo ▸ r))⟩
                  · simp [hide, hd] at e
          · cases ef : f ((ρ.map hide).set i (some (.lst xs))) [] with
            | bad => rw [ef] at q; exact q.elim
            | exc x m1 => rw [ef] at q; exact q.elim
            | ok d m1 =>
              rw [ef] at q
              simp only at q
              split at q
              · rename_i hf
                intro v H1 G1 μ1 S1 R1 gr1
                have hs : Same H H1 := S1.mem.bh
                have gs : Same (upd G a (.lst vs)) G1 := S1.mem.g0
                have gb : ∀ b o, H b = some o → upd G a (.lst vs) b = none → G1 b = none := S1.mem.gb
                let G2 : Hp := fun b => if b = a then none else G1 b
                have g2 : Gr G μ G2 μ := ⟨fun b o e => by
                  show (if b = a then none else G1 b) = _
                  rw [if_neg (ne_of_none e ga)]
                  exact gs b o (g1 b o e), List.prefix_refl _⟩
                have keep : ∀ b o, H b = some o → G b = none → G2 b = none := fun b o e z => by
                  show (if b = a then none else G1 b) = _
                  by_cases hb : b = a
                  · rw [if_pos hb]
                  · rw [if_neg hb]
                    exact gb b o e (by rw [upd_ne hb]; exact z)
                refine q v H1 G2 μ (S.gr ⟨fun b o e => ?_, S.mem.bh.trans hs, S.mem.g0.trans g2.g, fun b o e1 e2 => keep b o (S.mem.bh b o e1) (S.mem.gb b o e1 e2), S.mem.ml, S.mem.nd, fun n' b k' e1 e2 => ?_, fun b hb => ?_, S.mem.mb⟩ g2) (Rep.flat hf R1) g2
                · have e : (if b = a then none else G1 b) = some o := e
                  split at e
                  · cases e
                  · exact S1.mem.gh b o e
                · have hb := S.mem.used b (List.mem_of_getElem? e1)
                  refine CellOk.mono g2 (fun z => ?_) (fun x e z => keep x _ e z) (fun x u _ e => hs x u e) (S.mem.cell n' b k' e1 e2)
                  cases z2 : H b with
                  | none => exact absurd z2 hb
                  | some o => exact keep b o z2 z
                · have h1 := S.mem.used b hb
                  cases z2 : H b with
                  | none => exact absurd z2 h1
                  | some o => rw [hs b o z2]; simp
              · exact q.elim
      · exact q.elim
    · exact q.elim
  · exact q.elim
theorem xts_nil : PTs X [] (rT c tYes) := by
  refine ⟨fun pins s σ H Q I q => pts_nil.run pins s σ H Q I ?_⟩
  obtain ⟨ρ, m, G, μ, S, h⟩ := q
  exact h _ _ _ S Gr.refl
theorem xe_dct0 {pos : Pos} : PE X (.Dict [] [] pos) (rE c eDct0) := by
  refine pe_dnewK.imp ?_
  rintro σ H Q ⟨ρ, m, G, μ, S, h⟩
  intro p hp
  obtain ⟨S2, g2⟩ := S.alloc hp (.dK [])
  exact h _ _ _ _ S2 (.dct upd_same .nil) g2
theorem xe_joinM {k : Nat} {o e : Expr} {fo : E} {l : EL} {apos cpos : Pos} (F : Fit X c k) (ho : PE X o (rE c fo)) (ha : PA X [e] (rL c l))
    (hbase : attributeBase o "join" X.env (eval o X.env) = eval o X.env := by rfl)
    (hfew : ((backTo cpos (starEach [e] X.env)).all (fun x => !x.1) && (backToKw cpos (keywordEach [] X.env)).all (fun x => x.1.isSome)
      && decide ([e].length + ([] : List Keyword).length + (if ([] : List Keyword).isEmpty then 0 else 1) < 30)) = true := by rfl)
    (hline : (apos.endLine == cpos.line) = true := by rfl) (hst : starEach [e] X.env = (false, eval e X.env) :: starEach [] X.env := by rfl) (hpl : (backTo cpos (starEach [] X.env)).any (·.1) = false := by rfl) :
    PE X (.Call (.Attribute o "join" apos) [e] [] cpos) (rE c (eMeth "str" mJoin fo l)) :=
  xe_meth F PySem.F.plainAttrs_str PySem.F.slot_str_join PySem.F.type_str_join (.inl rfl) (by rw [F.K]; exact mt_join) sim_join ho ha hbase hfew hline hst hpl
theorem xe_indexM {k : Nat} {o e : Expr} {fo : E} {l : EL} {apos cpos : Pos} (F : Fit X c k) (ho : PE X o (rE c fo)) (ha : PA X [e] (rL c l))
    (hbase : attributeBase o "index" X.env (eval o X.env) = eval o X.env := by rfl)
    (hfew : ((backTo cpos (starEach [e] X.env)).all (fun x => !x.1) && (backToKw cpos (keywordEach [] X.env)).all (fun x => x.1.isSome)
      && decide ([e].length + ([] : List Keyword).length + (if ([] : List Keyword).isEmpty then 0 else 1) < 30)) = true := by rfl)
    (hline : (apos.endLine == cpos.line) = true := by rfl) (hst : starEach [e] X.env = (false, eval e X.env) :: starEach [] X.env := by rfl) (hpl : (backTo cpos (starEach [] X.env)).any (·.1) = false := by rfl) :
    PE X (.Call (.Attribute o "index" apos) [e] [] cpos) (rE c (eMeth "list" mIndex fo l)) :=
  xe_meth F PySem.F.plainAttrs_list PySem.F.slot_list_index PySem.F.type_list_index (.inr rfl) (by rw [F.K]; exact mt_indexD (by have := F.rm.un; omega)) sim_index ho ha hbase hfew hline hst hpl
end
end TT

/-! T7: plain law's words: what mirrors do, step by step. -/
namespace TT
open PySem
section
variable (ρ : Ev) (m : Mem)
@[simp] theorem eC_a (d : D) : eC d ρ m = .ok d m := nr rfl
@[simp] theorem eVar_a (i : Nat) : eVar i ρ m = match ρ[i]? with
  | some (some d) => .ok d m
  | _ => .bad := nr rfl
@[simp] theorem eOp_a (g : D → D → Option D) (a b : E) : eOp g a b ρ m = (a ρ m).bind fun x m => (b ρ m).bind fun y m => .of m (g (view m x) (view m y)) := nr rfl
@[simp] theorem eUn_a (g : D → Option D) (a : E) : eUn g a ρ m = (a ρ m).bind fun x m => .of m (g (view m x)) := nr rfl
@[simp] theorem eCmp_a (g : D → D → Option Bool) (a b : E) : eCmp g a b ρ m = (a ρ m).bind fun x m => (b ρ m).bind fun y m => .of m ((g (view m x) (view m y)).map D.bl) := nr rfl
@[simp] theorem tCmp_a (g : D → D → Option Bool) (a b : E) : tCmp g a b ρ m = (a ρ m).bind fun x m => (b ρ m).bind fun y m => .of m (g (view m x) (view m y)) := nr rfl
@[simp] theorem tVal_a (a : E) : tVal a ρ m = (a ρ m).bind fun x m => .of m (dTruth (view m x)) := nr rfl
@[simp] theorem tNot_a (t : ET) : tNot t ρ m = (t ρ m).bind fun b m => .ok (!b) m := nr rfl
@[simp] theorem tAnd_a (t u : ET) : tAnd t u ρ m = (t ρ m).bind fun b m => if b = true then u ρ m else .ok false m := nr rfl
@[simp] theorem tOr_a (t u : ET) : tOr t u ρ m = (t ρ m).bind fun b m => if b = true then .ok true m else u ρ m := nr rfl
@[simp] theorem eAnd_a (a b : E) : eAnd a b ρ m = (a ρ m).bind fun x m => (R.of m (dBool x)).bind fun k m => if k = true then b ρ m else .ok (.bl false) m := nr rfl
@[simp] theorem eOr_a (a b : E) : eOr a b ρ m = (a ρ m).bind fun x m => (R.of m (dBool x)).bind fun k m => if k = true then .ok (.bl true) m else b ρ m := nr rfl
@[simp] theorem eNot_a (a : E) : eNot a ρ m = (a ρ m).bind fun x m => (R.of m (dBool x)).bind fun k m => .ok (.bl (!k)) m := nr rfl
@[simp] theorem eIf_a (t : ET) (a b : E) : eIf t a b ρ m = (t ρ m).bind fun k m => if k = true then a ρ m else b ρ m := nr rfl
@[simp] theorem lNil_a : lNil ρ m = .ok [] m := nr rfl
@[simp] theorem lCons_a (a : E) (r : EL) : lCons a r ρ m = (a ρ m).bind fun x m => (r ρ m).bind fun xs m => .ok (x :: xs) m := nr rfl
@[simp] theorem eTup_a (l : EL) : eTup l ρ m = (l ρ m).bind fun xs m => if xs.length ≤ LN then .ok (.tup xs) m else .bad := nr rfl
@[simp] theorem eLst_a (M : Bool) (l : EL) : eLst M l ρ m = (l ρ m).bind fun xs m => if xs.length ≤ LN then mkL M xs m else .bad := nr rfl
@[simp] theorem eFun_a (g : List D → Option D) (l : EL) : eFun g l ρ m = (l ρ m).bind fun xs m => .of m (g (xs.map (view m))) := nr rfl
@[simp] theorem eFunL_a (M : Bool) (g : List D → Option (List D)) (l : EL) : eFunL M g l ρ m = (l ρ m).bind fun xs m => (R.of m (g (xs.map (view m)))).bind fun ys m => mkL M ys m := nr rfl
@[simp] theorem eDct0_a : eDct0 ρ m = .ok (.dct []) m := nr rfl
@[simp] theorem iSeq_a (a : E) : iSeq a ρ m = (a ρ m).bind fun x m => .of m (dItems x) := nr rfl
def rangeOf (n : Int) (m : Mem) : R (List D) := if -(2 ^ 62) ≤ n ∧ n < 2 ^ 62 then .ok (dRange n) m else .bad
theorem rangeOf_nat {n : Nat} {m : Mem} (h : n ≤ 16777216) : rangeOf (n : Nat) m = .ok (dRange (n : Nat)) m := if_pos (by
  have : (2 : Int) ^ 62 = 4611686018427387904 := by decide +kernel
  rw [this]
  omega)
@[simp] theorem iRange_a (a : E) : iRange a ρ m = (a ρ m).bind fun x m => match x with
  | .int n => rangeOf n m
  | _ => .bad := nr rfl
@[simp] theorem iEnum_a (l : EL) : iEnum l ρ m = (l ρ m).bind fun ds m => match ds with
  | [.lst xs] => .ok (dEnum xs) m
  | _ => .bad := nr rfl
@[simp] theorem sNext_a : sNext ρ m = .nx ρ m := nr rfl
@[simp] theorem sSeq_a (a b : S) : sSeq a b ρ m = match a ρ m with
  | .nx ρ m => b ρ m
  | o => o := nr rfl
@[simp] theorem sIf_a (t : ET) (a b : S) : sIf t a b ρ m = (t ρ m).then ρ fun k m => if k = true then a ρ m else b ρ m := nr rfl
@[simp] theorem sRet_a (a : E) : sRet a ρ m = (a ρ m).then ρ fun d m => .rt d m := nr rfl
@[simp] theorem sRetN_a : sRetN ρ m = .rt .non m := nr rfl
@[simp] theorem sExpr_a (a : E) : sExpr a ρ m = (a ρ m).then ρ fun _ m => .nx ρ m := nr rfl
@[simp] theorem sBreak_a : sBreak ρ m = .bk ρ m := nr rfl
@[simp] theorem sCont_a : sCont ρ m = .ct ρ m := nr rfl
@[simp] theorem sSet_a (i : Nat) (a : E) : sSet i a ρ m = (a ρ m).then ρ fun d m => .nx (ρ.set i (some d)) m := nr rfl
@[simp] theorem sAsg_a (a : E) (g : T) : sAsg a g ρ m = (a ρ m).then ρ fun d m => match g d ρ with
  | some ρ => .nx ρ m
  | none => .bad := nr rfl
@[simp] theorem gName_a (i : Nat) (d : D) : gName i d ρ = some (ρ.set i (some d)) := nr rfl
@[simp] theorem gsNil_a : gsNil [] ρ = some ρ := nr rfl
@[simp] theorem gsCons_a (t : T) (u : Ts) (d : D) (r : List D) : gsCons t u (d :: r) ρ = (t d ρ).bind fun ρ => u r ρ := nr rfl
@[simp] theorem gTup_t (n : Nat) (t : Ts) (xs : List D) : gTup n t (.tup xs) ρ = if xs.length = n then t xs ρ else none := nr rfl
@[simp] theorem gTup_l (n : Nat) (t : Ts) (xs : List D) : gTup n t (.lst xs) ρ = if xs.length = n then t xs ρ else none := nr rfl
@[simp] theorem sFor_a (i : EL) (g : T) (b : S) : sFor i g b ρ m = (i ρ m).then ρ fun ds m => forL g b ds ρ m := nr rfl
@[simp] theorem forL_nil (g : T) (b : S) : forL g b [] ρ m = .nx ρ m := nr rfl
@[simp] theorem sThenF_a (b : S) (i : Nat) : sThenF b i ρ m = match b ρ m with
  | .nx ρ m => frzAt i ρ m
  | o => o := nr rfl
@[simp] theorem eComp_a (M : Bool) (i : EL) (g : T) (t : ET) (e : E) (vs : List Nat) : eComp M i g t e vs ρ m = (i ρ m).bind fun ds m => (compL g t e (wipeE ρ vs) ds [] m).bind fun ys m => mkL M ys m := nr rfl
@[simp] theorem tYes_a : tYes ρ m = .ok true m := nr rfl
@[simp] theorem eCut_a (a : E) (lo hi : EO) : eCut a lo hi ρ m = (a ρ m).bind fun x m => (lo ρ m).bind fun l m => (hi ρ m).bind fun h m => .of m (dCut l h (view m x)) := nr rfl
@[simp] theorem oNo_a : oNo ρ m = .ok none m := nr rfl
@[simp] theorem oSome_a (a : E) : oSome a ρ m = (a ρ m).bind fun x m => match x with
  | .int i => .ok (some i) m
  | _ => .bad := nr rfl
@[simp] theorem eMeth_a (T : String) (g : D → List D → Option D) (a : E) (l : EL) : eMeth T g a l ρ m = (a ρ m).bind fun x m => if tyIs T (view m x) = some true then (l ρ m).bind fun xs m => .of m (g (view m x) (xs.map (view m))) else .bad := nr rfl
@[simp] theorem eAppend_a (a l : E) : eAppend a l ρ m = (a ρ m).bind fun x m => if tyIs "list" (view m x) = some true then (l ρ m).bind fun y m => (match x with
  | .loc n => (match m[n]? with
    | some (.lst xs) => if xs.length < LN then .ok .non (m.set n (.lst (xs ++ [y]))) else .bad
    | _ => .bad)
  | _ => .bad) else .bad := nr rfl
@[simp] theorem sSetIx_a (v o i : E) : sSetIx v o i ρ m = (v ρ m).then ρ fun y m => (o ρ m).then ρ fun x m => (i ρ m).then ρ fun k m => match x, k with
  | .loc n, .int k => (match m[n]? with
    | some (.lst xs) => (match dIxN xs.length k with
      | some j => .nx ρ (m.set n (.lst (xs.set j y)))
      | none => .bad)
    | _ => .bad)
  | _, _ => .bad := nr rfl
@[simp] theorem wipeE_nil : wipeE ρ [] = ρ := nr rfl
@[simp] theorem wipeE_cons (v : Nat) (vs : List Nat) : wipeE ρ (v :: vs) = (wipeE ρ vs).set v none := nr rfl
@[simp] theorem runDef_a (n : Nat) (b : S) (ds : List D) : runDef n b ds m = (b (ds.map some ++ List.replicate (n - ds.length) none) m).end := nr rfl
@[simp] theorem end_nx : (O.nx ρ m).end = .ok .non m := nr rfl
@[simp] theorem end_rt (d : D) : (O.rt d m).end = .ok d m := nr rfl
@[simp] theorem end_exc (e : D) : (O.exc e ρ m).end = .exc e m := nr rfl
theorem forL_cons (g : T) (b : S) (d : D) (ds : List D) : forL g b (d :: ds) ρ m = match g d ρ with
    | none => .bad
    | some ρ => match b ρ m with
      | .nx ρ m => forL g b ds ρ m
      | .ct ρ m => forL g b ds ρ m
      | .bk ρ m => .nx ρ m
      | o => o := nr rfl
theorem compL_cons (g : T) (t : ET) (e : E) (d : D) (ds acc : List D) : compL g t e ρ (d :: ds) acc m = match g d ρ with
    | none => .bad
    | some ρ' => match t ρ' m with
      | .ok true m => (match e ρ' m with
        | .ok y m => if acc.length < LN then compL g t e ρ ds (acc ++ [y]) m else .bad
        | _ => .bad)
      | .ok false m => compL g t e ρ ds acc m
      | _ => .bad := nr rfl
@[simp] theorem compL_nil (g : T) (t : ET) (e : E) (acc : List D) : compL g t e ρ [] acc m = .ok acc m := nr rfl
end
/-! calls -/
theorem eCall_eq {M : Bool} {n : Nat} {f : F} {l : EL} {ρ : Ev} {m m1 : Mem} {ds : List D} {d : D} (hl : l ρ m = .ok ds m1) (hn : ds.length = n) (hd : noLocs ds = true) (hf : ∃ m', f ds [] = .ok d m') (h : noLoc d = true) : eCall false n f l ρ m = .ok d m1 := by
  obtain ⟨m', hf⟩ := hf
  unfold eCall
  rw [hl]
  simp only [R.bind_ok, hn, hd, and_self, if_true, hf]
  cases d with
  | loc j => simp [noLoc] at h
  | _ => simp only [h, and_self, if_true]
/-! loops -/
/-- a loop with an invariant by the number of turns; R: what shall be told of its end -/
theorem forL_inv {g : T} {b : S} {R : O → Prop} (I : Nat → Ev → Mem → Prop) : ∀ (ds : List D) (i : Nat) (ρ : Ev) (m : Mem), I i ρ m →
    (∀ (j : Nat) (d : D) (ρ : Ev) (m : Mem), ds[j]? = some d → I (i + j) ρ m → ∃ ρ1, g d ρ = some ρ1 ∧ ((∃ ρ2 m2, (b ρ1 m = .nx ρ2 m2 ∨ b ρ1 m = .ct ρ2 m2) ∧ I (i + j + 1) ρ2 m2) ∨ (∃ ρ2 m2, b ρ1 m = .bk ρ2 m2 ∧ R (.nx ρ2 m2)) ∨ ∃ d2 m2, b ρ1 m = .rt d2 m2 ∧ R (.rt d2 m2))) →
    (∀ ρ m, I (i + ds.length) ρ m → R (.nx ρ m)) → R (forL g b ds ρ m)
  | [], i, ρ, m, h0, _, he => he ρ m h0
  | d :: ds, i, ρ, m, h0, hs, he => by
    obtain ⟨ρ1, e1, h⟩ := hs 0 d ρ m rfl h0
    rw [forL_cons, e1]
    have next : ∀ ρ2 m2, I (i + 0 + 1) ρ2 m2 → R (forL g b ds ρ2 m2) := fun ρ2 m2 h2 => forL_inv I ds (i + 1) ρ2 m2 h2 (fun j d ρ m e q => by
      have := hs (j + 1) d ρ m (by simpa using e) (by rw [show i + (j + 1) = i + 1 + j by omega]; exact q)
      rw [show i + (j + 1) = i + 1 + j by omega] at this
      exact this) (fun ρ m q => he ρ m (by rw [List.length_cons, show i + (ds.length + 1) = i + 1 + ds.length by omega]; exact q))
    rcases h with ⟨ρ2, m2, e2 | e2, h2⟩ | ⟨ρ2, m2, e2, h2⟩ | ⟨d2, m2, e2, h2⟩
    · simp only [e2]; exact next _ _ h2
    · simp only [e2]; exact next _ _ h2
    · simp only [e2]; exact h2
    · simp only [e2]; exact h2
/-- a comprehension without tests whose elements are known -/
theorem compL_map {g : T} {e : E} {ρ : Ev} (f : D → D) : ∀ (ds acc : List D) (m : Mem), (∀ d ∈ ds, ∃ ρ', g d ρ = some ρ' ∧ e ρ' m = .ok (f d) m) → acc.length + ds.length ≤ LN → compL g tYes e ρ ds acc m = .ok (acc ++ ds.map f) m
  | [], acc, m, _, _ => by simp
  | d :: ds, acc, m, h, hl => by
    obtain ⟨ρ', h1, h2⟩ := h d (by simp)
    rw [compL_cons, h1]
    simp only [tYes_a, h2]
    rw [if_pos (by rw [List.length_cons] at hl; omega), compL_map f ds (acc ++ [f d]) m (fun x hx => h x (by simp [hx])) (by simp at hl ⊢; omega)]
    simp
/-- .. with a test -/
theorem compL_filter {g : T} {t : ET} {e : E} {ρ : Ev} (p : D → Bool) (f : D → D) : ∀ (ds acc : List D) (m : Mem), (∀ d ∈ ds, ∃ ρ', g d ρ = some ρ' ∧ t ρ' m = .ok (p d) m ∧ (p d = true → e ρ' m = .ok (f d) m)) → acc.length + ds.length ≤ LN → compL g t e ρ ds acc m = .ok (acc ++ (ds.filter p).map f) m
  | [], acc, m, _, _ => by simp
  | d :: ds, acc, m, h, hl => by
    obtain ⟨ρ', h1, h2, h3⟩ := h d (by simp)
    rw [compL_cons, h1]
    simp only [h2]
    cases hp : p d with
    | true =>
      simp only [h3 hp]
      rw [if_pos (by rw [List.length_cons] at hl; omega), compL_filter p f ds (acc ++ [f d]) m (fun x hx => h x (by simp [hx])) (by simp at hl ⊢; omega)]
      simp [hp]
    | false =>
      simp only
      rw [compL_filter p f ds acc m (fun x hx => h x (by simp [hx])) (by simp at hl ⊢; omega)]
      simp [hp]
/-! data -/
abbrev sg (c : Nat) : D := .str ⟨#[c]⟩
@[simp] theorem noLocs_ints (xs : List Int) : noLocs (xs.map D.int) = true := by induction xs <;> simp_all [noLocs, noLoc]
@[simp] theorem noLocs_strs (xs : List Str) : noLocs (xs.map D.str) = true := by induction xs <;> simp_all [noLocs, noLoc]
theorem noLocs_map {α : Type} (f : α → D) (h : ∀ x, noLoc (f x) = true) (xs : List α) : noLocs (xs.map f) = true := by induction xs <;> simp_all [noLocs]
theorem noLocs_all : ∀ {xs : List D}, (∀ x ∈ xs, noLoc x = true) → noLocs xs = true
  | [], _ => rfl
  | x :: xs, h => by simp only [noLocs, h x (by simp), Bool.true_and]; exact noLocs_all fun y hy => h y (by simp [hy])
end TT
namespace TT
@[simp] theorem dIx_lst (xs : List D) (j : Nat) : dIx (.lst xs) (.int (j : Nat)) = xs[j]? := by
  unfold dIx dIxN
  simp only [Int.natCast_nonneg, if_true, Int.ofNat_lt]
  by_cases h : j < xs.length
  · simp [h]
  · rw [if_neg h, List.getElem?_eq_none (Nat.le_of_not_lt h)]; rfl
@[simp] theorem dIx_tup (xs : List D) (j : Nat) : dIx (.tup xs) (.int (j : Nat)) = xs[j]? := by
  unfold dIx dIxN
  simp only [Int.natCast_nonneg, if_true, Int.ofNat_lt]
  by_cases h : j < xs.length
  · simp [h]
  · rw [if_neg h, List.getElem?_eq_none (Nat.le_of_not_lt h)]; rfl
theorem dIx_str (s : PySem.Str) (j : Nat) (hs : s.length ≤ LN) : dIx (.str s) (.int (j : Nat)) = (s.cps.toList[j]?).map sg := by
  unfold dIx dIxN
  simp only [Int.natCast_nonneg, if_true, Int.ofNat_lt, hs]
  by_cases h : j < s.cps.toList.length
  · rw [if_pos h]; rfl
  · rw [if_neg h, List.getElem?_eq_none (Nat.le_of_not_lt h)]; rfl
theorem dRange_get {n : Nat} {j : Nat} {d : D} (h : (dRange (n : Nat))[j]? = some d) : j < n ∧ d = .int (j : Nat) := by
  unfold dRange at h
  rw [Int.toNat_natCast, List.getElem?_map, Option.map_eq_some_iff] at h
  obtain ⟨i, h1, h2⟩ := h
  obtain ⟨hj, e⟩ := List.getElem?_eq_some_iff.mp h1
  rw [List.getElem_range] at e
  subst e
  exact ⟨by simpa using hj, h2.symm⟩
@[simp] theorem dRange_length (n : Nat) : (dRange (n : Nat)).length = n := by simp [dRange]

@[simp] theorem dAdd_ii (i j : Int) : dAdd (.int i) (.int j) = some (.int (i + j)) := nr rfl
@[simp] theorem dSub_ii (i j : Int) : dSub (.int i) (.int j) = some (.int (i - j)) := nr rfl
theorem dMul_l {i j : Int} (h : -18446744073709551616 < i ∧ i < 18446744073709551616) : dMul (.int i) (.int j) = some (.int (i * j)) := by
  unfold dMul
  exact if_pos (.inl h)
theorem dMul_r {i j : Int} (h : -18446744073709551616 < j ∧ j < 18446744073709551616) : dMul (.int i) (.int j) = some (.int (i * j)) := by
  unfold dMul
  exact if_pos (.inr h)
theorem dMod_ii {i j : Int} (h : 0 < j) : dMod (.int i) (.int j) = some (.int (i % j)) := if_pos h
theorem dDiv_ii {i j : Int} (h : 0 < j ∧ j < 1073741824) : dDiv (.int i) (.int j) = some (.int (i / j)) := if_pos h
@[simp] theorem dGe_ii (i j : Int) : dGe (.int i) (.int j) = some (decide (j ≤ i)) := nr rfl
@[simp] theorem dGt_ii (i j : Int) : dGt (.int i) (.int j) = some (decide (j < i)) := nr rfl
@[simp] theorem dLe_ii (i j : Int) : dLe (.int i) (.int j) = some (decide (i ≤ j)) := nr rfl
@[simp] theorem dLt_ii (i j : Int) : dLt (.int i) (.int j) = some (decide (i < j)) := nr rfl
@[simp] theorem dLen_l (xs : List D) : dLen [.lst xs] = some (.int xs.length) := nr rfl
@[simp] theorem dLen_t (xs : List D) : dLen [.tup xs] = some (.int xs.length) := nr rfl
theorem dLen_s {s : PySem.Str} (h : s.length ≤ LN) : dLen [.str s] = some (.int s.length) := if_pos h
@[simp] theorem dEq_ii (i j : Int) : dEq (.int i) (.int j) = some (i == j) := nr rfl
@[simp] theorem dNe_ii (i j : Int) : dNe (.int i) (.int j) = some (i != j) := nr rfl
@[simp] theorem dEq_ss (i j : PySem.Str) : dEq (.str i) (.str j) = some (i == j) := nr rfl
@[simp] theorem dNe_ss (i j : PySem.Str) : dNe (.str i) (.str j) = some (i != j) := nr rfl
@[simp] theorem dInt_i (i : Int) : dInt [.int i] = some (.int i) := nr rfl
@[simp] theorem dInt_b (b : Bool) : dInt [.bl b] = some (.int (if b then 1 else 0)) := nr rfl
@[simp] theorem dBool_b (b : Bool) : dBool (.bl b) = some b := nr rfl
@[simp] theorem dTruth_b (b : Bool) : dTruth (.bl b) = some b := nr rfl
@[simp] theorem dTruth_l (xs : List D) : dTruth (.lst xs) = some (!xs.isEmpty) := nr rfl
theorem dPow_ok {i j k : Int} (h : (0 ≤ j ∧ j ≤ 1000000) ∧ i.natAbs < 18446744073709551616) (e : i ^ j.toNat = k) : dPow (.int i) (.int j) = some (.int k) := by
  unfold dPow
  rw [← e]
  exact if_pos ⟨h.1.1, h.1.2, h.2⟩
@[simp] theorem dPow_1018 : dPow (.int 10) (.int 18) = some (.int 1000000000000000000) := dPow_ok (by decide) (by decide +kernel)
@[simp] theorem dPow_263 : dPow (.int 26) (.int 3) = some (.int 17576) := dPow_ok (by decide) (by decide +kernel)
@[simp] theorem dPow_106 : dPow (.int 10) (.int 6) = some (.int 1000000) := dPow_ok (by decide) (by decide +kernel)
@[simp] theorem dPow_1020 : dPow (.int 10) (.int 20) = some (.int 100000000000000000000) := dPow_ok (by decide) (by decide +kernel)
@[simp] theorem dPow_1030 : dPow (.int 10) (.int 30) = some (.int 1000000000000000000000000000000) := dPow_ok (by decide) (by decide +kernel)
@[simp] theorem tyIs_l (xs : List D) (T : String) : tyIs T (.lst xs) = some (T == "list") := nr rfl
@[simp] theorem tyIs_s (s : PySem.Str) (T : String) : tyIs T (.str s) = some (T == "str") := nr rfl
theorem viewLoc {m : Mem} {n : Nat} {xs : List D} (h : m[n]? = some (.lst xs)) : view m (.loc n) = .lst xs := by
  show (match m[n]? with
    | some (.lst xs) => D.lst xs
    | some (.dct ps) => .dct ps
    | _ => .loc n) = .lst xs
  rw [h]
end TT
namespace TT
abbrev tx (l : List Nat) : D := .str ⟨l.toArray⟩
theorem tx_len (l : List Nat) : (PySem.Str.mk l.toArray).length = l.length := by simp [PySem.Str.length]
theorem dAdd_tx {a b : List Nat} (h : a.length + b.length ≤ 16777216) : dAdd (tx a) (tx b) = some (tx (a ++ b)) := by
  show (if (PySem.Str.mk a.toArray).length + (PySem.Str.mk b.toArray).length ≤ LN then some (D.str (PySem.Str.mk a.toArray ++ PySem.Str.mk b.toArray)) else none) = _
  rw [if_pos (by rw [tx_len, tx_len]; exact h)]
  congr 2
  show PySem.Str.mk (a.toArray ++ b.toArray) = _
  rw [List.append_toArray]
theorem dIx_tx {l : List Nat} {i : Int} {c : Nat} (h : l.length ≤ 16777216) (h0 : 0 ≤ i) (hc : l[i.toNat]? = some c) : dIx (tx l) (.int i) = some (sg c) := by
  have := dIx_str ⟨l.toArray⟩ i.toNat (by rw [tx_len]; exact h)
  rw [Int.toNat_of_nonneg h0] at this
  rw [this]
  simp [hc]
theorem letters_eq : PySem.Str.ofString "abcdefghijklmnopqrstuvwxyz" = ⟨((List.range 26).map (97 + ·)).toArray⟩ := by decide +kernel
end TT
namespace TT
/-- the plain signs -/
def pl (i : Nat) : Nat := if i < 5 then 32 + i else 33 + i
def pln : List Nat := (List.range 94).map pl
theorem plain_eq : PySem.Str.ofString " !\"#$&'()*+,-./0123456789:;<=>?@ABCDEFGHIJKLMNOPQRSTUVWXYZ[\\]^_`abcdefghijklmnopqrstuvwxyz{|}~" = ⟨pln.toArray⟩ := by decide +kernel
theorem pln_nodup : pln.Nodup := by decide +kernel
theorem pln_len : pln.length = 94 := by decide +kernel
theorem pl_inj {i j : Nat} (h : pl i = pl j) : i = j := by
  unfold pl at h
  split at h <;> split at h <;> omega
theorem pln_get {i : Nat} (h : i < 94) : pln[i]? = some (pl i) := by
  unfold pln
  rw [List.getElem?_map, List.getElem?_range h]
  rfl
theorem mem_pln {c : Nat} : c ∈ pln ↔ 32 ≤ c ∧ c ≤ 126 ∧ c ≠ 37 := by
  unfold pln
  rw [List.mem_map]
  constructor
  · rintro ⟨i, hi, rfl⟩
    have := List.mem_range.mp hi
    unfold pl
    split <;> omega
  · rintro ⟨h1, h2, h3⟩
    by_cases h : c < 37
    · exact ⟨c - 32, List.mem_range.mpr (by omega), by unfold pl; rw [if_pos (by omega)]; omega⟩
    · exact ⟨c - 33, List.mem_range.mpr (by omega), by unfold pl; rw [if_neg (by omega)]; omega⟩
/-! texts of signs -/
theorem dStrs_map : ∀ xs : List PySem.Str, dStrs (xs.map D.str) = some xs
  | [] => rfl
  | x :: xs => by
    rw [List.map_cons]
    show (dStrs (xs.map D.str)).map (x :: ·) = _
    rw [dStrs_map xs]
    rfl
def srt (cs : List Nat) : List Nat := cs.mergeSort fun a b => decide (a ≤ b)
theorem mem_srt {cs : List Nat} {c : Nat} : c ∈ srt cs ↔ c ∈ cs := List.mem_mergeSort
theorem srt_length (cs : List Nat) : (srt cs).length = cs.length := List.length_mergeSort _
theorem srt_perm (cs : List Nat) : (srt cs).Perm cs := List.mergeSort_perm _ _
theorem le1 (a b : Nat) : ([a] ≤ [b]) ↔ a ≤ b := by
  rw [List.cons_le_cons_iff]
  constructor
  · rintro (h | ⟨h, _⟩) <;> omega
  · intro h
    rcases Nat.lt_or_eq_of_le h with h | h
    · exact .inl h
    · exact .inr ⟨h, by simp⟩
theorem dSortS_sgs {cs : List Nat} (h : cs.length < 64) : dSortS [.lst (cs.map sg)] = some ((srt cs).map sg) := by
  have e : cs.map sg = (cs.map fun c => PySem.Str.mk #[c]).map D.str := by rw [List.map_map]; rfl
  show (dStrs (cs.map sg)).bind _ = _
  rw [e, dStrs_map]
  show (if (cs.map fun c => PySem.Str.mk #[c]).length < 64 then some (((cs.map fun c => PySem.Str.mk #[c]).mergeSort leS).map D.str) else none) = _
  rw [if_pos (by rw [List.length_map]; exact h), srt, ← List.map_mergeSort (f := fun c => PySem.Str.mk #[c]) (r := fun a b => decide (a ≤ b)) (fun a _ b _ => ?_), List.map_map]
  · rfl
  · show decide (a ≤ b) = decide ([a] ≤ [b])
    rw [decide_eq_decide]
    exact (le1 a b).symm
theorem e0 : PySem.Str.ofString "" = ⟨([] : List Nat).toArray⟩ := by decide +kernel
theorem join_txs : ∀ ls : List (List Nat), PySem.Str.join ⟨([] : List Nat).toArray⟩ (ls.map fun l => ⟨l.toArray⟩) = ⟨ls.flatten.toArray⟩
  | [] => rfl
  | [l] => by simp [PySem.Str.join]
  | l :: l2 :: ls => by
    have ih := join_txs (l2 :: ls)
    rw [List.map_cons, List.map_cons]
    show (PySem.Str.mk l.toArray ++ PySem.Str.mk ([] : List Nat).toArray) ++ PySem.Str.join ⟨([] : List Nat).toArray⟩ ((l2 :: ls).map fun l => ⟨l.toArray⟩) = _
    rw [ih]
    show PySem.Str.mk ((l.toArray ++ ([] : List Nat).toArray) ++ (l2 :: ls).flatten.toArray) = _
    rw [List.append_toArray, List.append_toArray, List.append_nil]
    rfl
theorem mJoin_txs {ls : List (List Nat)} (h : ls.flatten.length ≤ 16777216) : mJoin (.str "") [.lst (ls.map tx)] = some (tx ls.flatten) := by
  have e : ls.map tx = (ls.map fun c => PySem.Str.mk c.toArray).map D.str := by rw [List.map_map]; rfl
  rw [e0]
  show (dStrs (ls.map tx)).bind _ = _
  rw [e, dStrs_map]
  show (if ((ls.map fun c => PySem.Str.mk c.toArray).map (·.length)).sum + (ls.map fun c => PySem.Str.mk c.toArray).length * (PySem.Str.mk ([] : List Nat).toArray).length ≤ LN then some (D.str (PySem.Str.join ⟨([] : List Nat).toArray⟩ (ls.map fun c => PySem.Str.mk c.toArray))) else none) = _
  rw [join_txs, if_pos]
  have : ((ls.map fun c => PySem.Str.mk c.toArray).map (·.length)).sum = ls.flatten.length := by
    rw [List.length_flatten, List.map_map]
    congr 1
  rw [this, tx_len, List.length_nil, Nat.mul_zero]
  exact h
theorem flat1 (cs : List Nat) : (cs.map fun c => [c]).flatten = cs := by induction cs <;> simp_all
theorem mJoin_sgs {cs : List Nat} (h : cs.length ≤ 16777216) : mJoin (.str "") [.lst (cs.map sg)] = some (tx cs) := by
  have := mJoin_txs (ls := cs.map fun c => [c]) (by rw [flat1]; exact h)
  rw [List.map_map, flat1] at this
  exact this
theorem dList_tx {l : List Nat} (h : l.length ≤ 16777216) : dList [tx l] = some (l.map sg) := by
  show (if (PySem.Str.mk l.toArray).length ≤ LN then some ((PySem.Str.mk l.toArray).cps.toList.map fun c => D.str ⟨#[c]⟩) else none) = _
  rw [if_pos (by rw [tx_len]; exact h)]
@[simp] theorem dItems_tx (l : List Nat) : dItems (tx l) = some (l.map sg) := nr rfl
@[simp] theorem dItems_l (l : List D) : dItems (.lst l) = some l := nr rfl
@[simp] theorem dItems_t (l : List D) : dItems (.tup l) = some l := nr rfl
@[simp] theorem dList_l (l : List D) : dList [.lst l] = some l := nr rfl
@[simp] theorem dList_t (l : List D) : dList [.tup l] = some l := nr rfl
@[simp] theorem dIn_sgtx (c : Nat) (l : List Nat) : dIn (sg c) (tx l) = some (decide (c ∈ l)) := nr rfl
/-- a comprehension of new cells -/
theorem compL_cells {g : T} {ρ : Ev} : ∀ (ds acc : List D) (m : Mem), (∀ d ∈ ds, ∃ ρ', g d ρ = some ρ') → acc.length + ds.length ≤ LN → compL g tYes (eLst true lNil) ρ ds acc m = .ok (acc ++ (List.range ds.length).map fun i => D.loc (m.length + i)) (m ++ List.replicate ds.length (.lst []))
  | [], acc, m, _, _ => by simp
  | d :: ds, acc, m, h, hl => by
    obtain ⟨ρ', h1⟩ := h d (by simp)
    rw [compL_cons, h1]
    have hz : ([] : List D).length ≤ LN := Nat.zero_le _
    simp -implicitDefEqProofs only [tYes_a, eLst_a, lNil_a, R.bind_ok, hz, if_true, mkL_true]
    have ih := compL_cells ds (acc ++ [D.loc m.length]) (m ++ [Cell.lst []]) (fun x hx => h x (by simp [hx])) (by simp at hl ⊢; omega)
    rw [if_pos (by rw [List.length_cons] at hl; omega), ih]
    congr 1
    · rw [List.length_cons, List.range_succ_eq_map, List.map_cons, List.map_map, List.append_assoc]
      congr 1
      simp
      intro a _
      omega
    · rw [List.length_cons, List.replicate_succ, List.append_assoc]
      rfl
end TT
namespace TT
/-- small sizes -/
theorem LN1 {n : Nat} : (n ≤ LN) = (n ≤ 16777216) := rfl
theorem then_if {α : Type} {c : Prop} [Decidable c] {a b : R α} {ρ : Ev} {k : α → Mem → O} : (if c then a else b).then ρ k = if c then a.then ρ k else b.then ρ k := by split <;> rfl
end TT
namespace TT
theorem intsOf : ∀ (xs : List Int), (∀ x ∈ xs, 0 ≤ x) → xs.map D.int = (xs.map Int.toNat).map fun x => D.int (x : Nat)
  | [], _ => rfl
  | x :: xs, h => by
    rw [List.map_cons, List.map_cons, List.map_cons, ← intsOf xs fun y hy => h y (by simp [hy]), Int.toNat_of_nonneg (h x (by simp))]
theorem gTup_ok {n : Nat} {t : Ts} {xs : List D} {ρ : Ev} (h : xs.length = n) : gTup n t (.lst xs) ρ = t xs ρ := if_pos h
theorem noLocs_sgs (l : List Nat) : noLocs (l.map sg) = true := noLocs_map _ (fun _ => rfl) l
end TT
namespace TT
theorem rangeLit (n : Nat) (m : Mem) (h : n ≤ 16777216) {i : Int} (e : i = (n : Nat)) : rangeOf i m = .ok (dRange (n : Nat)) m := by
  subst e
  exact rangeOf_nat h
/-- over a range, each element known -/
theorem compL_range {g : T} {e : E} {ρ : Ev} {n : Nat} (f : Nat → D) (m : Mem) (hn : n ≤ 16777216) (h : ∀ k < n, ∃ ρ', g (.int (k : Nat)) ρ = some ρ' ∧ e ρ' m = .ok (f k) m) : compL g tYes e ρ (dRange (n : Nat)) [] m = .ok ((List.range n).map f) m := by
  have hd : dRange (n : Nat) = (List.range n).map fun k => D.int (k : Nat) := by unfold dRange; rw [Int.toNat_natCast]
  have := compL_map (g := g) (e := e) (ρ := ρ) (fun d => match d with | .int i => f i.toNat | d => d) (dRange (n : Nat)) [] m (fun d hdm => by
    rw [hd] at hdm
    obtain ⟨k, hk, rfl⟩ := List.mem_map.mp hdm
    obtain ⟨ρ', h1, h2⟩ := h k (List.mem_range.mp hk)
    exact ⟨ρ', h1, by rw [h2]; simp⟩) (by rw [dRange_length]; simpa using hn)
  rw [this, List.nil_append, hd, List.map_map]
  congr 1
theorem dMul_ln {xs : List D} {k : Int} (h : -(2 ^ 63) ≤ k ∧ k < 2 ^ 63 ∧ xs.length * k.toNat ≤ LN) : dMul (.lst xs) (.int k) = some (.lst (List.replicate k.toNat xs).flatten) := if_pos h
theorem flatten_rep1 (x : D) : ∀ k : Nat, (List.replicate k [x]).flatten = List.replicate k x
  | 0 => rfl
  | k + 1 => by rw [List.replicate_succ, List.replicate_succ, List.flatten_cons, flatten_rep1 x k]; rfl
theorem p63 : (2 : Int) ^ 63 = 9223372036854775808 := by decide +kernel
theorem dMul_l1 (x : D) (k : Nat) (h : k ≤ 1000) : dMul (.lst [x]) (.int (k : Nat)) = some (.lst (List.replicate k x)) := by
  rw [dMul_ln, Int.toNat_natCast, flatten_rep1]
  rw [p63]
  refine ⟨by omega, by omega, ?_⟩
  rw [Int.toNat_natCast]
  show 1 * k ≤ 16777216
  omega
end TT
namespace TT
@[simp] theorem eCatM_a (a b : E) (ρ : Ev) (m : Mem) : eCatM a b ρ m = (a ρ m).bind fun x m => (b ρ m).bind fun y m => match view m x, view m y with
  | .lst xs, .lst ys => if xs.length + ys.length ≤ LN then mkL true (xs ++ ys) m else .bad
  | _, _ => .bad := nr rfl
theorem eCall_loc {M : Bool} {n j : Nat} {f : F} {l : EL} {ρ : Ev} {m m1 : Mem} {ds xs : List D} (hl : l ρ m = .ok ds m1) (hn : ds.length = n) (hd : noLocs ds = true) (hf : ∃ m', f ds [] = .ok (.loc j) m' ∧ m'[j]? = some (.lst xs)) (h : noLocs xs = true) : eCall M n f l ρ m = mkL M xs m1 := by
  obtain ⟨m', hf, hj⟩ := hf
  unfold eCall
  rw [hl]
  simp -implicitDefEqProofs only [R.bind_ok, hn, hd, and_self, if_true, hf, hj, h]
theorem eqvL_refl : ∀ {xs : List D}, (∀ x ∈ xs, eqvD x x = true) → eqvL xs xs = true
  | [], _ => rfl
  | x :: xs, h => by
    show (eqvD x x && eqvL xs xs) = true
    rw [h x (by simp), eqvL_refl fun y hy => h y (by simp [hy])]
    rfl
theorem eqv_refl (n : Nat) : ∀ (d : D), dataN n d = true → eqvD d d = true := by
  induction n with
  | zero =>
    intro d h
    cases d with
    | non => rfl
    | bl b => show (b == b) = true; simp
    | int b => show (b == b) = true; simp
    | str b => show (b == b) = true; simp
    | _ => cases h
  | succ n ih =>
    intro d h
    cases d with
    | non => rfl
    | bl b => show (b == b) = true; simp
    | int b => show (b == b) = true; simp
    | str b => show (b == b) = true; simp
    | lst xs => exact eqvL_refl fun x hx => ih x (List.all_eq_true.mp (show xs.all (dataN n) = true from h) x hx)
    | tup xs => exact eqvL_refl fun x hx => ih x (List.all_eq_true.mp (show xs.all (dataN n) = true from h) x hx)
    | _ => cases h
theorem dNe_self {d : D} (h : isData d = true) : dNe d d = some false := by
  show (if isData d = true ∧ isData d = true then some (eqvD d d) else noDct d d).map (!·) = _
  rw [if_pos ⟨h, h⟩, eqv_refl 16 d h]
  rfl
theorem dEq_self {d : D} (h : isData d = true) : dEq d d = some true := by
  show (if isData d = true ∧ isData d = true then some (eqvD d d) else noDct d d) = _
  rw [if_pos ⟨h, h⟩, eqv_refl 16 d h]
theorem isData_lst {xs : List D} (h : ∀ x ∈ xs, dataN 15 x = true) : isData (.lst xs) = true := List.all_eq_true.mpr h
theorem isi_of {x : D} {T : String} (h : T ∈ ["bool", "int", "str", "list", "tuple", "dict"]) : dIsInst [x, .ty T] = (tyIs T x).map D.bl := if_pos h
theorem isi_list (xs : List D) : dIsInst [.lst xs, .ty "list"] = some (.bl true) := isi_of (by decide)
theorem isi_str (s : PySem.Str) : dIsInst [.str s, .ty "str"] = some (.bl true) := isi_of (by decide)
@[simp] theorem view_ty (m : Mem) (n : String) : view m (.ty n) = .ty n := nr rfl
@[simp] theorem view_0 (xs : List D) (m : Mem) : view (.lst xs :: m) (.loc 0) = .lst xs := nr rfl
@[simp] theorem view_cls (m : Mem) (n : PySem.Str) : view m (.cls n) = .cls n := nr rfl
end TT
namespace TT
theorem nodup_len {α : Type} [DecidableEq α] : ∀ {l l2 : List α}, l.Nodup → (∀ x ∈ l, x ∈ l2) → l.length ≤ l2.length
  | [], _, _, _ => Nat.zero_le _
  | x :: l, l2, hn, hs => by
    have hn := List.nodup_cons.mp hn
    have ih := nodup_len (l := l) (l2 := l2.erase x) hn.2 fun y hy => (List.mem_erase_of_ne (fun e => hn.1 (by rw [← e]; exact hy))).mpr (hs y (by simp [hy]))
    have h1 := List.length_erase_of_mem (hs x (by simp))
    have h2 : 0 < l2.length := List.length_pos_of_mem (hs x (by simp))
    rw [List.length_cons]
    omega
end TT
namespace TT
@[simp] theorem dNotIn_sgtx (c : Nat) (l : List Nat) : dNotIn (sg c) (tx l) = some (!decide (c ∈ l)) := nr rfl
/-- the signs that pass -/
theorem compL_signs {g : T} {t : ET} {e : E} {ρ : Ev} {m : Mem} (p : Nat → Bool) : ∀ (cs acc : List Nat), (∀ c ∈ cs, ∃ ρ', g (sg c) ρ = some ρ' ∧ t ρ' m = .ok (p c) m ∧ e ρ' m = .ok (sg c) m) → acc.length + cs.length ≤ 16777216 → compL g t e ρ (cs.map sg) (acc.map sg) m = .ok ((acc ++ cs.filter p).map sg) m
  | [], acc, _, _ => by simp
  | c :: cs, acc, h, hl => by
    obtain ⟨ρ', h1, h2, h3⟩ := h c (by simp)
    rw [List.length_cons] at hl
    rw [List.map_cons, compL_cons, h1]
    cases hp : p c with
    | true =>
      have ih := compL_signs (g := g) (t := t) (e := e) (ρ := ρ) (m := m) p cs (acc ++ [c]) (fun x hx => h x (by simp [hx])) (by simp; omega)
      have hlen : (acc.map sg).length < LN := by
        rw [List.length_map]
        show _ < 16777216
        omega
      simp -implicitDefEqProofs only [h2, h3, hp, hlen, if_true]
      rw [List.map_append] at ih
      rw [List.filter_cons_of_pos hp]
      simpa using ih
    | false =>
      have ih := compL_signs (g := g) (t := t) (e := e) (ρ := ρ) (m := m) p cs acc (fun x hx => h x (by simp [hx])) (by omega)
      simp -implicitDefEqProofs only [h2, hp]
      rw [List.filter_cons_of_neg (by simp [hp])]
      exact ih
theorem cutD_map {α β : Type} (f : α → β) (xs : List α) (lo hi : Option Int) : cutD (xs.map f) lo hi = (cutD xs lo hi).map f := by
  unfold cutD
  rw [List.length_map, List.map_take, List.map_drop]
theorem dCut_map {α : Type} (f : α → D) (xs : List α) (lo hi : Option Int) : dCut lo hi (.lst (xs.map f)) = some (.lst ((cutD xs lo hi).map f)) := by
  show some (D.lst (cutD (xs.map f) lo hi)) = _
  rw [cutD_map]
theorem cutD_mem {α : Type} {xs : List α} {lo hi : Option Int} {x : α} (h : x ∈ cutD xs lo hi) : x ∈ xs := List.mem_of_mem_drop (List.mem_of_mem_take h)
theorem cutD_len {α : Type} (xs : List α) (n : Nat) : (cutD xs none (some (n : Nat))).length ≤ n := by
  have h : cutD xs none (some (n : Nat)) = (xs.drop 0).take (min n xs.length - 0) := by
    have h2 : ¬ ((n : Nat) : Int) < 0 := by omega
    unfold cutD sIxD
    simp [h2]
  rw [h, List.length_take]
  omega
@[simp] theorem eLend_a (i : Nat) (f : E) (ρ : Ev) (m : Mem) : eLend i f ρ m = match ρ[i]? with
  | some (some (.loc n)) => (match m[n]? with
    | some (.lst xs) => if noLocs xs = true then (match f ((ρ.map hide).set i (some (.lst xs))) [] with
      | .ok d _ => if flatB d = true then .ok d m else .bad
      | _ => .bad) else .bad
    | _ => .bad)
  | _ => .bad := nr rfl
theorem hide_ok {d : D} (h : noLoc d = true) : hide (some d) = some d := if_pos h
@[simp] theorem hide_none : hide none = none := nr rfl
@[simp] theorem hide_loc (n : Nat) : hide (some (.loc n)) = none := nr rfl
@[simp] theorem eCallW_a (n : Nat) (f : F) (l : EL) (ρ : Ev) (m : Mem) : eCallW n f l ρ m = (l ρ m).bind fun ds m => if ds.length = n then f ds m else .bad := nr rfl
end TT

set_option maxHeartbeats 2000000
/-! T8: backwards; dicts; errors. -/
namespace PySem
namespace HRev
open PySem PySem.Spec PySem.Builtin PyProof.Rows HT
section
variable {prog : Program} {w : World} {A : Around} {E : Value → Shared → Prop} {s : Shared}
theorem adjust_rev (n : Nat) : Builtin.Slice.sliceAdjust none none (-1) (n : Int) = ((n : Int) - 1, -1) := by
  unfold Builtin.Slice.sliceAdjust
  simp
theorem places_rev (n : Nat) : Builtin.Slice.slicePlaces ((n : Int) - 1) (-1) (-1) = n := by
  unfold Builtin.Slice.slicePlaces
  have h1 : ¬ ((-1 : Int) > 0) := by omega
  simp only [h1, if_false]
  have e : (- -1 : Int) = 1 := by decide
  rw [e, Int.ediv_one]
  split <;> omega
theorem sliceApplied_rev {sl : Addr} {vs : Value} {n : Nat} {Q : Int × Int × Nat → Shared → Prop} {vl vu : Value} (hs : s.heap.IsSliceOf sl vl vu vs) (pl : IsPart vl none) (pu : IsPart vu none) (ps : IsPart vs (some (-1)))
    (h : Q ((n : Int) - 1, -1, n) s) : wpAny (model prog w) A (Builtin.Slice.sliceApplied (.ref sl) (pure (n : Int))) Q E s := by
  obtain ⟨os, hos, hcs, hds⟩ := id hs
  unfold Builtin.Slice.sliceApplied Builtin.Slice.sliceFields
  refine wpAny_bind (wpAny_bind (wpAny_field hos hds (x := vl) rfl (wpAny_bind (wpAny_field hos hds (x := vu) rfl (wpAny_bind (wpAny_field hos hds (x := vs) rfl (wpAny_pure ?_)))))))
  refine wpAny_bind (slicePart_ ps ?_)
  show wpAny _ _ (if ((-1 : Int) == 0) = true then _ else _) _ _ s
  rw [if_neg (by decide)]
  refine wpAny_bind (slicePart_ pl (wpAny_bind (slicePart_ pu (wpAny_bind (wpAny_pure ?_)))))
  show wpAny _ _ (match Builtin.Slice.sliceAdjust none none (-1) (n : Int) with | (lo, hi) => pure (lo, (-1 : Int), Builtin.Slice.slicePlaces lo hi (-1))) _ _ s
  rw [adjust_rev n]
  show wpAny _ _ (pure ((n : Int) - 1, (-1 : Int), Builtin.Slice.slicePlaces ((n : Int) - 1) (-1) (-1))) _ _ s
  rw [places_rev]
  exact wpAny_pure h
theorem fm_congr {α β : Type} {f g : α → Option β} : ∀ {l : List α}, (∀ x ∈ l, f x = g x) → l.filterMap f = l.filterMap g
  | [], _ => rfl
  | x :: l, h => by rw [List.filterMap_cons, List.filterMap_cons, h x (by simp), fm_congr fun y hy => h y (by simp [hy])]
theorem pick_rev (xs : Array Value) : ((List.range xs.size).filterMap fun (m : Nat) => xs[((xs.size : Int) - 1 + (m : Int) * (-1)).toNat]?).toArray = xs.toList.reverse.toArray := by
  have e : (List.range xs.size).filterMap (fun (m : Nat) => xs[((xs.size : Int) - 1 + (m : Int) * (-1)).toNat]?) = ((List.range xs.size).map fun k => xs.size - 1 - k).filterMap (xs[·]?) := by
    rw [List.filterMap_map]
    refine fm_congr fun m hm => ?_
    have := List.mem_range.mp hm
    have e2 : ((xs.size : Int) - 1 + (m : Int) * (-1)).toNat = xs.size - 1 - m := by omega
    show xs[((xs.size : Int) - 1 + (m : Int) * (-1)).toNat]? = xs[xs.size - 1 - m]?
    rw [e2]
  rw [e, PySem.W.krv_range, List.filterMap_reverse, PySem.W.krv_all]
theorem getItem_tuple_rev {t sl : Addr} {items : Array Value} {vl vu vs : Value} {Q : Value → Shared → Prop} (ht : IsTup s.heap t items) (hs : s.heap.IsSliceOf sl vl vu vs) (pl : IsPart vl none) (pu : IsPart vu none) (ps : IsPart vs (some (-1)))
    (h : Q (.ref s.heap.objs.size) { s with heap := s.heap.push { cls := .type "tuple", data := .seq items.toList.reverse.toArray } })
    (hsz : items.size ≤ sizeLine) : wpAny (model prog w) A (getItem (.ref t) (.ref sl)) Q E s := by
  have htake : sizeOk (.seq items.toList.reverse.toArray) := by
    show items.toList.reverse.toArray.size ≤ sizeLine
    rw [List.size_toArray, List.length_reverse, Array.length_toList]
    exact hsz
  obtain ⟨os, hos, hcs, hds⟩ := id hs
  have hTs : s.TypeIs (.ref sl) "slice" := ⟨os, hos, hcs⟩
  unfold getItem
  try with_reducible refine wpAny_holding ?_
  first | refine wpAny_bind (wpAny_pure ?_) | skip
  refine wpAny_bind (wpAny_sequenceKey ht.typeIs (by decide) ?_)
  refine wpAny_bind (wpAny_callSpecial?_slot (name := Str.ofString "__getitem__") ht.typeIs PyProof.Rows.slot_tuple_getitem
    (wpAny_call_entry PyProof.Rows.slot_tuple_getitem ht.typeIs entry_tuple_getitem ?_ (args_tuple_getitem _ _)))
  show wpAny _ _ (Builtin.Tuple.tupleItemsOf (.ref t) >>= _) _ _ s
  refine wpAny_bind (tupleItemsOf_ ht ?_)
  refine wpAny_bind (wpAny_typeOf hTs ?_)
  rw [if_pos (by decide)]
  refine wpAny_bind (sliceApplied_rev hs pl pu ps ?_)
  show wpAny _ _ (if ((((items.size : Int) - 1) == 0 && (-1 : Int) == 1 && items.size == items.size) = true) then _ else _) _ _ s
  rw [if_neg (by simp), pick_rev]
  first
    | exact wpAny_bind (m := Builtin.Tuple.tupleExact _) (wpAny_newObj_type (wpAny_pure ⟨_, rfl, wpAny_pure h⟩) htake)
    | exact wpAny_bind (m := Builtin.Tuple.tupleExact _) (wpAny_newObj_type (wpAny_bind (wpAny_pure (wpAny_pure ⟨_, rfl, wpAny_pure h⟩))) htake)
end
end HRev
end PySem

namespace L2
open PySem PySem.Spec PyProof.Rows
/-! ### x[::-1] of a list, a tuple, a text -/
def revS (s : Str) : Str := ⟨s.cps.toList.reverse.toArray⟩
def tRevD (K : PySem.W.Frag) (te : TE) : TE := fun σ H Q => te σ H fun x H1 => (∃ a xs, x = .ref a ∧ SqL K H1 a xs ∧ ∀ p, H1 p = none → Q (.ref p) (upd H1 p (.lst xs.reverse)))
  ∨ (∃ a xs, x = .ref a ∧ SqT K H1 a xs ∧ ∀ p, H1 p = none → Q (.ref p) (upd H1 p (.tup xs.reverse))) ∨ ∃ z, x = .str z ∧ z.length ≤ sizeLine ∧ Q (.str (revS z)) H1
theorem sliceBy_rev (x : Str) (u : Tok) : PySem.Txt.sliceBy x none none (-1, u) = revS x := by
  have h := step_rev_list x u
  generalize PySem.Txt.sliceBy x none none (-1, u) = y at h
  obtain ⟨l⟩ := y
  unfold revS
  congr 1
  apply Array.toList_inj.mp
  rw [h, List.toList_toArray]
  apply List.ext_getElem
  · simp [Str.length]
  · intro i h1 h2
    have h3 : i < x.cps.size := by simpa [Str.length] using h1
    rw [List.getElem_map, List.getElem_reverse, List.getElem_range]
    simp only [Str.length, Array.length_toList, Array.getElem_toList]
    rw [Array.getD_eq_getD_getElem?, Array.getElem?_eq_getElem (by omega)]
    rfl
variable {X : Cx}
theorem pe_revD {e : Expr} {te : TE} {k : Nat} {p1 p2 p3 pos : Pos} (he : PE X e te) : PE X (.Subscript e (.Slice none none (some (.UnaryOp .USub (.Constant (.int 1) k p1) p2)) p3) pos) (tRevD X.K te) := by
  refine ⟨fun pins s σ H Q I h => ?_⟩
  refine Subscript_ (thn (he.run pins s σ H _ I h) fun v s1 ⟨x, H1, I1, r1, q1⟩ => ?_)
  have hst : PO X (some (.UnaryOp .USub (.Constant (.int 1) k p1) p2)) (tPart (tUn (rU fun i => .int (-i)) (tC (.int 1)))) := po_some (pe_un un_neg pe_int)
  refine wpAny_Slice (thn (po_none.run pins s1 σ H1 (fun o H2 => o = none ∧ H2 = H1) I1 ⟨rfl, rfl⟩) fun vl s2 ⟨l, H2, I2, pl, el, e2⟩ => ?_)
  subst el e2
  refine thn (po_none.run pins s2 σ H2 (fun o H3 => o = none ∧ H3 = H2) I2 ⟨rfl, rfl⟩) fun vu s3 ⟨u, H3, I3, pu, eu, e3⟩ => ?_
  subst eu e3
  refine thn (hst.run pins s3 σ H3 (fun o H4 => o = some (-1) ∧ H4 = H3) I3 ⟨1, rfl, -1, rfl, rfl, rfl⟩) fun vs s4 ⟨o, H4, I4, ps, eo, e4⟩ => ?_
  subst eo e4
  have I5 : Inv X pins σ H4 { s4 with heap := s4.heap.push { cls := .type "slice", data := .fields #[vl, vu, vs] } } := I4.kept (t' := s4.toks) fun b ob q => Heap.get?_push_of_some _ q
  rcases q1 with ⟨a, xs, ex, hx, q⟩ | ⟨a, xs, ex, hx, q⟩ | ⟨z, ex, hz, q⟩
  · subst ex
    cases r1
    obtain ⟨its, r, ht, hz⟩ := I5.list hx
    have hlen := r.length
    show wpAny (model X.prog X.w) X.A (subscriptTail e (.Slice none none (some (.UnaryOp .USub (.Constant (.int 1) k p1) p2)) p3) (.ref a) (.ref s4.heap.objs.size)) (EP X pins σ Q) X.xe { s4 with heap := s4.heap.push { cls := .type "slice", data := .fields #[vl, vu, vs] } }
    refine tail_any (ops := [.ref a, .ref s4.heap.objs.size]) ht.isList.typeIs (PySem.slot_list_getitem.lookup) ?_ (by with_unfolding_all rfl)
    refine wpAny_getItem_list_slice ht.isList (Heap.IsSliceOf.new _ vl vu vs) pl pu ps (by decide) ?_ (by rw [List.size_toArray]; omega)
    rw [PySem.W.krv_pick]
    refine ⟨.ref _, _, I5.laid (t' := s4.toks) (o := .lst xs.reverse) (fun b ob q => Heap.get?_push_of_some _ q) (Nat.le_refl _) ?_, rfl, q _ (I5.hok.fresh (Nat.le_refl _))⟩
    exact ⟨by rw [List.length_reverse]; exact hz, _, 0, r.reverse, Heap.get?_push_size _ rfl⟩
  · subst ex
    cases r1
    obtain ⟨its, r, ht, hz⟩ := I5.tuple hx
    have hlen := r.length
    show wpAny (model X.prog X.w) X.A (subscriptTail e (.Slice none none (some (.UnaryOp .USub (.Constant (.int 1) k p1) p2)) p3) (.ref a) (.ref s4.heap.objs.size)) (EP X pins σ Q) X.xe { s4 with heap := s4.heap.push { cls := .type "slice", data := .fields #[vl, vu, vs] } }
    refine tail_any (ops := [.ref a, .ref s4.heap.objs.size]) ht.typeIs (PyProof.Rows.slot_tuple_getitem.lookup) ?_ (by with_unfolding_all rfl)
    refine PySem.HRev.getItem_tuple_rev ht (Heap.IsSliceOf.new _ vl vu vs) pl pu ps ?_ (by rw [List.size_toArray]; omega)
    refine ⟨.ref _, _, I5.laid (t' := s4.toks) (o := .tup xs.reverse) (fun b ob q => Heap.get?_push_of_some _ q) (Nat.le_refl _) ?_, rfl, q _ (I5.hok.fresh (Nat.le_refl _))⟩
    exact ⟨by rw [List.length_reverse]; exact hz, _, r.reverse, IsTup.new _ _⟩
  · subst ex
    obtain ⟨t, rfl⟩ := r1
    cases pl
    cases pu
    cases ps with
    | int _ ot =>
    show wpAny (model X.prog X.w) X.A (subscriptTail e (.Slice none none (some (.UnaryOp .USub (.Constant (.int 1) k p1) p2)) p3) (.str z t) (.ref s4.heap.objs.size)) (EP X pins σ Q) X.xe { s4 with heap := s4.heap.push { cls := .type "slice", data := .fields #[.none, .none, .int (-1) ot] } }
    refine tail_any (ops := [.str z t, .ref s4.heap.objs.size]) (typeIs_str _ _ _) F.slot_str_getitem.lookup ?_ (by with_unfolding_all rfl)
    refine wpAny_getItem_str_slice (l := none) (u := none) (st := some (-1, ot)) ⟨_, Heap.get?_push_size _ rfl, rfl, rfl⟩ rfl ?_
    have hy := sliceBy_rev z ot
    unfold PySem.Txt.sliceBy at hy
    show Made.post (sliceMade z t none none (some (-1, ot))) (EP X pins σ Q) _
    unfold sliceMade
    rw [if_neg (by simp)] at hy ⊢
    rw [hy]
    refine ⟨?_, .str _, _, I5.tok _, ⟨_, rfl⟩, q⟩
    show (List.toArray _).size ≤ _
    rw [List.size_toArray, List.length_reverse, Array.length_toList]
    exact hz
end L2

namespace TT
open PySem PySem.Spec PyProof.Rows L2
section
variable {X : Cx} {c : Ct} {G : Hp} {μ : List Addr} {ρ : Ev} {m : Mem} {σ : L2.St} {H : Hp}
theorem okS_rev {s : Str} (h : okS s = true) : okS (revS s) = true := by
  rw [okS_list] at h ⊢
  show (List.toArray _).toList.all _ = true
  rw [List.toList_toArray, List.all_reverse]
  exact h
theorem xe_rev {e : Expr} {fa : E} {kk : Nat} {p1 p2 p3 pos : Pos} {k : Nat} (F : Fit X c k) (he : PE X e (rE c fa)) : PE X (.Subscript e (.Slice none none (some (.UnaryOp .USub (.Constant (.int 1) kk p1) p2)) p3) pos) (rE c (eUn dRev fa)) := by
  refine (pe_revD he).imp ?_
  rintro σ H Q ⟨ρ, m, G, μ, S, h⟩
  refine rE_bindE S h fun x m1 u H1 G1 μ1 S1 R1 g1 h1 => ?_
  obtain ⟨d, e, h1⟩ := PostE.of h1
  rw [← F.K]
  generalize e1 : view m1 x = x' at e
  cases x' with
  | lst xs =>
    cases e
    obtain ⟨a, vs, ea, ha, ra⟩ := v_lst S1.mem R1 e1
    refine .inl ⟨a, vs, ea, ha, fun p hp => ?_⟩
    obtain ⟨S2, g2⟩ := S1.alloc hp (.lst vs.reverse)
    exact h1 _ _ _ _ S2 (.lst (SqL.of upd_same) (ra.reverse.gr g2)) g2
  | tup xs =>
    cases e
    obtain ⟨a, vs, ea, ha, ra⟩ := v_tup S1.mem R1 e1
    refine .inr (.inl ⟨a, vs, ea, ha, fun p hp => ?_⟩)
    obtain ⟨S2, g2⟩ := S1.alloc hp (.tup vs.reverse)
    exact h1 _ _ _ _ S2 (.tup (SqT.of upd_same) (ra.reverse.gr g2)) g2
  | str s =>
    have e : (if s.length ≤ LN then some (D.str (revS s)) else none) = some d := e
    split at e
    · rename_i hl
      cases e
      obtain ⟨ea, ho⟩ := v_str R1 e1
      exact .inr (.inr ⟨s, ea, by rw [sizeLine_eq]; exact hl, h1 _ _ _ _ S1 (.str _ (okS_rev ho)) Gr.refl⟩)
    · cases e
  | _ => cases e
end
end TT

set_option maxHeartbeats 2000000
/-! T9: zip of any two of lists, tuples, texts. -/
namespace ZG
open PySem PySem.Spec PyProof.Rows L2 RT
section
variable {prog : Program} {w : World} {A : Around} {E : Value → Shared → Prop} {s : Shared}
theorem nextOf_rt_item {it t : Addr} {i : Nat} {items : Array Value} {x : Value} {Q : Value → Shared → Prop} (hit : IsRt s.heap it t (i : Int)) (ht : IsTup s.heap t items) (hx : items[i]? = some x) (hsz : items.size ≤ sizeLine)
    (hQ : ∀ h', IsRt h' it t ((i : Int) - 1) → Heap.SameBut it s.heap h' → Q x { s with heap := h', toks := s.toks + 1 }) : wpAny (model prog w) A (Builtin.SmallTypes.nextOf (.ref it)) Q E s := by
  obtain ⟨o, ho, hc, hd⟩ := id hit
  have hi : i < items.size := (Array.getElem?_eq_some_iff.mp hx).1
  have hT : s.TypeIs (.ref t) "tuple" := IsTup.typeOf' ht
  rw [sizeLine_eq] at hsz
  unfold Builtin.SmallTypes.nextOf
  refine wpAny_bind (wpAny_callSpecial?_slot (name := Str.ofString "__next__") hit.typeIs slot_rt_next
    (wpAny_call_entry slot_rt_next hit.typeIs entry_rt_next ?_ (args_rt_next _)))
  unfold Builtin.«reversed.__next__»
  refine wpAny_bind (wpAny_of_eq (a := (Value.ref it, [])) rfl ?_)
  try dsimp only
  refine wpAny_bind (wpAny_field ho hd (x := .ref t) rfl ?_)
  try dsimp only
  refine wpAny_bind (wpAny_field ho hd (x := rawInt (i : Int)) rfl ?_)
  show wpAny _ _ (if (i : Int) < 0 then _ else _) _ _ s
  rw [if_neg (by omega)]
  try dsimp only
  refine wpAny_bind (wpAny_specialOf hT get_tuple ?_)
  try dsimp only
  try rw [if_neg (by decide)]
  try dsimp only
  refine wpAny_bind (wpAny_mkInt ?_)
  refine wpAny_bind (wpAny_attempt ?_)
  have fin : seqIndex? (i : Int) items.size = some i := seqIndex_of (by omega) (by omega)
  refine PyProof.Rows.getItem_tuple (s := { s with toks := s.toks + 1 }) ht (by omega) (by omega) fin hx ?_
  try dsimp only
  refine wpAny_bind (wpAny_field (s := { s with toks := s.toks + 1 }) ho hd (x := rawInt (i : Int)) rfl ?_)
  try dsimp only
  refine wpAny_bind (wpAny_setField (s := { s with toks := s.toks + 1 }) ho hd (by simp) ?_)
  first
  | refine wpAny_pure ⟨x, rfl, wpAny_pure (hQ _ ?_ (Heap.SameBut.update ..))⟩
  | refine wpAny_bind (wpAny_pure (wpAny_pure ⟨x, rfl, wpAny_pure (hQ _ ?_ (Heap.SameBut.update ..))⟩))
  exact ⟨_, Heap.get?_update_self _ ho (Obj.isFreed_of_fields (Obj.data_mapFields hd _)), (Obj.cls_mapFields ..).trans hc, by
    rw [Obj.data_mapFields hd]; simp⟩
theorem nextOf_rt_end {it t : Addr} {Q : Value → Shared → Prop} (hh : A.handled = none) (hit : IsRt s.heap it t (-1))
    (hE : ∀ h' e, Heap.ExtBut it s.heap h' → (∃ o, h'.get? e = some o ∧ o.cls = .type "StopIteration") → E (.ref e) { s with heap := h' }) : wpAny (model prog w) A (Builtin.SmallTypes.nextOf (.ref it)) Q E s := by
  obtain ⟨o, ho, hc, hd⟩ := id hit
  unfold Builtin.SmallTypes.nextOf
  refine wpAny_bind (wpAny_callSpecial?_slot (name := Str.ofString "__next__") hit.typeIs slot_rt_next
    (wpAny_call_entry slot_rt_next hit.typeIs entry_rt_next ?_ (args_rt_next _)))
  unfold Builtin.«reversed.__next__»
  refine wpAny_bind (wpAny_of_eq (a := (Value.ref it, [])) rfl ?_)
  try dsimp only
  refine wpAny_bind (wpAny_field ho hd (x := .ref t) rfl ?_)
  try dsimp only
  refine wpAny_bind (wpAny_field ho hd (x := rawInt (-1)) rfl ?_)
  show wpAny _ _ (if (-1 : Int) < 0 then _ else _) _ _ s
  rw [if_pos (by decide)]
  try dsimp only
  refine wpAny_bind (wpAny_rule ?_)
  refine wpAny_bind ?_
  wp_delta
  refine wpAny_bind (wpAny_setField ho hd (by simp) ?_)
  have ho2 := Heap.get?_update_self (Obj.mapFields (·.setIfInBounds 1 (rawInt (-1)))) ho (Obj.isFreed_of_fields (Obj.data_mapFields hd _))
  refine wpAny_setField (s := { s with heap := s.heap.update it (Obj.mapFields (·.setIfInBounds 1 (rawInt (-1)))) }) ho2 (Obj.data_mapFields hd _) (by simp) ?_
  try dsimp only
  first
  | show wpAny _ _ (newExc (.type "StopIteration") [] >>= _) _ _ _
  | (refine wpAny_bind ?_; show wpAny _ _ (newExc (.type "StopIteration") [] >>= _) _ _ _)
  | (refine wpAny_bind ?_; wp_delta; show wpAny _ _ (newExc (.type "StopIteration") [] >>= _) _ _ _)
  refine wpAny_bind ?_
  simp only [newExc, newTuple]
  refine wpAny_bind (wpAny_newObj_type ?_ (by size_fits))
  refine wpAny_bind (m := firstArgMember _ _) (wpAny_of_eq (a := Value.none) (by first | rfl | (simp only [firstArgMember]; rfl)) ?_)
  refine wpAny_newObj_type ?_ (by size_fits)
  simp only [raiseNew]
  refine wpAny_bind (wpAny_handled ?_)
  first | rw [show A.in1.handled = none from hh] | rw [hh]
  refine wpAny_bind (wpAny_pure (wpAny_throw ?_))
  refine hE _ _ ?_ ⟨_, Heap.get?_push_size _ rfl, rfl⟩
  refine ((?_ : Heap.ExtBut it s.heap _).push _).push _
  exact fun b ob hb e => (Heap.get?_update_other _ _ (Ne.symm hb)).trans ((Heap.get?_update_other _ _ (Ne.symm hb)).trans e)
end
theorem draws_rt {prog : Program} {w : World} {A : Around} (hh : A.handled = none) (it t : Addr) (hne : t ≠ it) (items : Array Value) (hsz : items.size ≤ sizeLine) :
    Draws prog w A it [it, t] items.size (fun i v => items[items.size - 1 - i]? = some v) (fun i h => i ≤ items.size ∧ IsRt h it t ((items.size : Int) - 1 - (i : Nat)) ∧ IsTup h t items) where
  live := fun _ _ st => let ⟨o, ho, _⟩ := st.2.1; ⟨o, ho⟩
  frame := fun _ _ _ st hk => ⟨st.1, st.2.1.at fun o e => hk it (by simp) o e, by
    obtain ⟨o, e, r⟩ := st.2.2
    exact ⟨o, hk t (by simp) o e, r⟩⟩
  item := fun i s Q E hi st hQ => by
    obtain ⟨_, h1, h2⟩ := st
    have e1 : (items.size : Int) - 1 - ((i : Nat) : Int) = ((items.size - 1 - i : Nat) : Int) := by omega
    rw [e1] at h1
    have hx : items[items.size - 1 - i]? = some items[items.size - 1 - i] := by
      rw [Array.getElem?_eq_getElem]
    refine nextOf_rt_item h1 h2 hx hsz fun h' st' sb => ?_
    have e2 : ((items.size - 1 - i : Nat) : Int) - 1 = (items.size : Int) - 1 - ((i + 1 : Nat) : Int) := by omega
    rw [e2] at st'
    refine hQ _ h' (s.toks + 1) hx ⟨hi, st', ?_⟩ sb
    obtain ⟨o, e, r⟩ := h2
    exact ⟨o, sb.extBut _ _ hne e, r⟩
  done := fun s Q E st hE => by
    obtain ⟨_, h1, _⟩ := st
    have e1 : (items.size : Int) - 1 - ((items.size : Nat) : Int) = -1 := by omega
    rw [e1] at h1
    exact nextOf_rt_end hh h1 hE
end ZG
namespace ZG
open PySem PySem.Spec PyProof.Rows L2
inductive ZK where
  | l (a : Addr) | t (a : Addr) | s (z : Str) (tk : Tok) | r (a : Addr) (n : Nat)
def ZK.v : ZK → Value
  | .l a => .ref a
  | .t a => .ref a
  | .s z tk => .str z tk
  | .r a _ => .ref a
def ZK.o : ZK → Obj
  | .l a => { cls := .type "list_iterator", data := .fields #[.ref a, .int 0 0] }
  | .t a => { cls := .type "tuple_iterator", data := .fields #[.ref a, .int 0 0] }
  | .s z tk => { cls := .type (strIterType z), data := .fields #[.str z tk, .int 0 0] }
  | .r a n => RT.rtObj a ((n : Int) - 1)
/-- what it holds -/
def ZK.N (k : ZK) (K : PySem.W.Frag) (H : Hp) (xs : List V) : Prop := match k with
  | .l a => SqL K H a xs
  | .t a => SqT K H a xs
  | .s z _ => xs = z.cps.toList.map fun c => V.str ⟨#[c]⟩
  | .r a n => ∃ ys, SqT K H a ys ∧ ys.length = n ∧ xs = ys.reverse
def ZK.It (k : ZK) (it : Addr) (i : Nat) (h : Heap) : Prop := match k with
  | .l a => h.IsListIter it a i
  | .t a => h.IsTupleIter it a i
  | .s z tk => h.IsStrIter it (strIterType z) z tk i
  | .r a n => i ≤ n ∧ RT.IsRt h it a ((n : Int) - 1 - (i : Nat))
def ZK.src : ZK → List Addr
  | .l a => [a]
  | .t a => [a]
  | .s _ _ => []
  | .r a _ => [a]
theorem ZK.It.at {k : ZK} {it : Addr} {i : Nat} {h h' : Heap} (x : k.It it i h) (e : ∀ o, h.get? it = some o → h'.get? it = some o) : k.It it i h' := by
  cases k with
  | l a => exact Heap.IsListIter.at x e
  | t a => exact Heap.IsTupleIter.at x e
  | s z tk =>
    obtain ⟨o, ho, r⟩ := x
    exact ⟨o, e o ho, r⟩
  | r a n => exact ⟨x.1, x.2.at e⟩
theorem ZK.It.obj {k : ZK} {it : Addr} {i : Nat} {h : Heap} (x : k.It it i h) : ∃ o, h.get? it = some o ∧ ∀ v, o.data ≠ .cell v := by
  cases k with
  | l a =>
    obtain ⟨o, ho, _, d⟩ := x
    exact ⟨o, ho, fun v q => by rw [d] at q; cases q⟩
  | t a =>
    obtain ⟨o, ho, _, d⟩ := x
    exact ⟨o, ho, fun v q => by rw [d] at q; cases q⟩
  | s z tk =>
    obtain ⟨o, ho, _, d⟩ := x
    exact ⟨o, ho, fun v q => by rw [d] at q; cases q⟩
  | r a n =>
    obtain ⟨_, o, ho, _, d⟩ := x
    exact ⟨o, ho, fun v q => by rw [d] at q; cases q⟩
theorem ZK.start {k : ZK} {it : Addr} {h : Heap} (e : h.get? it = some k.o) : k.It it 0 h := by
  cases k with
  | l a => exact ⟨_, e, rfl, rfl⟩
  | t a => exact ⟨_, e, rfl, rfl⟩
  | s z tk => exact ⟨_, e, rfl, rfl⟩
  | r a n =>
    have z : (n : Int) - 1 - ((0 : Nat) : Int) = (n : Int) - 1 := by omega
    refine ⟨Nat.zero_le _, ?_⟩
    rw [z]
    exact ⟨_, e, rfl, rfl⟩
section
variable {X : Cx} {pins : List (Addr × Obj)} {σ : L2.St} {H : Hp} {s : Shared}
theorem ZK.inj {k : ZK} {xs ys : List V} (I : Inv X pins σ H s) (h : k.N X.K H xs) (h' : k.N X.K H ys) : xs = ys := by
  cases k with
  | l a => exact I.list_inj h h'
  | t a => exact I.tuple_inj h h'
  | s z tk => exact Eq.trans h (Eq.symm h')
  | r a n =>
    obtain ⟨us, q1, _, rfl⟩ := h
    obtain ⟨vs, q2, _, rfl⟩ := h'
    rw [I.tuple_inj q1 q2]
theorem ZK.draws {k : ZK} {it : Addr} {xs : List V} (I : Inv X pins σ H s) (hh : X.A.handled = none) (q : k.N X.K H xs) (hne : it ∉ k.src) :
    ∃ (P : Nat → Value → Prop) (St : Nat → Heap → Prop), Draws X.prog X.w X.A.in1 it (it :: k.src) xs.length P St ∧ (∀ i, k.It it i s.heap → St i s.heap) ∧ (∀ i h', St i h' → k.It it i h') ∧ ∀ i u x, P i u → xs[i]? = some x → RelV x u := by
  cases k with
  | l a =>
    obtain ⟨its, r, p, _⟩ := I.list q
    have hn : a ≠ it := fun z => hne (by simp [ZK.src, z])
    have D := Draws.list (prog := X.prog) (w := X.w) (A := X.A.in1) hh it a hn its.toArray
    have e : its.toArray.size = xs.length := by rw [List.size_toArray]; exact r.length.symm
    rw [e] at D
    refine ⟨_, _, D, fun i h => ⟨h, p.isList⟩, fun i h' h => h.1, fun i u x hu hx => ?_⟩
    obtain ⟨u', hu', ru⟩ := r.get hx
    have : its[i]? = some u := by simpa using hu
    rw [this] at hu'
    cases hu'
    exact ru
  | t a =>
    obtain ⟨its, r, p, _⟩ := I.tuple q
    have hn : a ≠ it := fun z => hne (by simp [ZK.src, z])
    have D := Draws.tuple (prog := X.prog) (w := X.w) (A := X.A.in1) hh it a hn its.toArray
    have e : its.toArray.size = xs.length := by rw [List.size_toArray]; exact r.length.symm
    rw [e] at D
    refine ⟨_, _, D, fun i h => ⟨h, p⟩, fun i h' h => h.1, fun i u x hu hx => ?_⟩
    obtain ⟨u', hu', ru⟩ := r.get hx
    have : its[i]? = some u := by simpa using hu
    rw [this] at hu'
    cases hu'
    exact ru
  | s z tk =>
    have q : xs = z.cps.toList.map fun c => V.str ⟨#[c]⟩ := q
    have D := Draws.text (prog := X.prog) (w := X.w) (A := X.A.in1) hh it z tk
    have e : z.cps.size = xs.length := by rw [q]; simp
    rw [e] at D
    refine ⟨_, _, D, fun i h => h, fun i h' h => h, fun i u x hu hx => ?_⟩
    obtain ⟨c, t, hc, rfl⟩ := hu
    rw [q, List.getElem?_map] at hx
    have hc' : z.cps.toList[i]? = some c := by simpa using hc
    rw [hc'] at hx
    cases hx
    exact ⟨t, rfl⟩
  | r a n =>
    obtain ⟨us, q, hl, rfl⟩ := q
    obtain ⟨its, r, p, hz⟩ := I.tuple q
    have hn : a ≠ it := fun z => hne (by simp [ZK.src, z])
    have e : its.toArray.size = us.length := by rw [List.size_toArray]; exact r.length.symm
    have hsz : its.toArray.size ≤ sizeLine := by rw [e]; exact hz
    have D := draws_rt (prog := X.prog) (w := X.w) (A := X.A.in1) hh it a hn its.toArray hsz
    have e2 : its.toArray.size = us.reverse.length := by rw [List.length_reverse]; exact e
    have e3 : n = us.reverse.length := by omega
    rw [e2] at D
    refine ⟨_, _, D, fun i h => ⟨?_, ?_, p⟩, fun i h' h => ⟨?_, ?_⟩, fun i u x hu hx => ?_⟩
    · have := h.1; omega
    · have h2 := h.2
      rw [e3] at h2
      exact h2
    · have := h.1; omega
    · have h2 := h.2.1
      rw [e3]
      exact h2
    · have hi : i < us.length := by
        have := (List.getElem?_eq_some_iff.mp hx).1
        simpa using this
      rw [List.getElem?_reverse hi] at hx
      obtain ⟨u', hu', ru⟩ := r.get hx
      have : its[us.length - 1 - i]? = some u := by simpa using hu
      rw [this] at hu'
      cases hu'
      exact ru
end
def ItzG (K : PySem.W.Frag) (k1 k2 : ZK) : It :=
  ⟨fun i H => ∃ (xs ys : List V) (x y : V), k1.N K H xs ∧ k2.N K H ys ∧ xs[i]? = some x ∧ ys[i]? = some y,
    fun i H v H' => ∃ T x y, v = .ref T ∧ H T = none ∧ H' = upd H T (.tup [x, y]) ∧ (∀ xs, k1.N K H xs → xs[i]? = some x) ∧ ∀ ys, k2.N K H ys → ys[i]? = some y,
    fun i H => ∃ xs ys : List V, k1.N K H xs ∧ k2.N K H ys ∧ i = min xs.length ys.length⟩
/-- the cells lie apart -/
structure Sep (z TI TO i1 i2 : Addr) (k1 k2 : ZK) : Prop where
  TIz : TI ≠ z
  TOz : TO ≠ z
  TITO : TI ≠ TO
  TIi1 : TI ≠ i1
  TIi2 : TI ≠ i2
  zi1 : z ≠ i1
  zi2 : z ≠ i2
  TOi1 : TO ≠ i1
  TOi2 : TO ≠ i2
  i12 : i1 ≠ i2
  s1 : ∀ b ∈ k1.src, b ≠ z ∧ b ≠ TO ∧ b ≠ i1 ∧ b ≠ i2
  s2 : ∀ b ∈ k2.src, b ≠ z ∧ b ≠ TO ∧ b ≠ i1 ∧ b ≠ i2
theorem Sep.zs {z TI TO i1 i2 : Addr} {k1 k2 : ZK} (D : Sep z TI TO i1 i2 k1 k2) : ZipSep2 z TI TO i1 i2 (i1 :: k1.src) (i2 :: k2.src) where
  TIz := D.TIz
  TOz := D.TOz
  TITO := D.TITO
  TIi1 := D.TIi1
  mem1 := by simp
  zf1 := fun q => by
    rcases List.mem_cons.mp q with q | q
    · exact D.zi1 q
    · exact (D.s1 _ q).1 rfl
  Tf1 := fun q => by
    rcases List.mem_cons.mp q with q | q
    · exact D.TOi1 q
    · exact (D.s1 _ q).2.1 rfl
  TIi2 := D.TIi2
  mem2 := by simp
  zf2 := fun q => by
    rcases List.mem_cons.mp q with q | q
    · exact D.zi2 q
    · exact (D.s2 _ q).1 rfl
  Tf2 := fun q => by
    rcases List.mem_cons.mp q with q | q
    · exact D.TOi2 q
    · exact (D.s2 _ q).2.1 rfl
  sep1_2 := fun q => by
    rcases List.mem_cons.mp q with q | q
    · exact D.i12 q
    · exact (D.s2 _ q).2.2.1 rfl
  sep2_1 := fun q => by
    rcases List.mem_cons.mp q with q | q
    · exact D.i12 q.symm
    · exact (D.s1 _ q).2.2.2 rfl
theorem turn_zipG {P : Program} {w : World} {K : PySem.W.Frag} {elts : List Expr} {kk : Nat} {tpos : Pos} {k1 k2 : ZK} {z TI TO i1 i2 : Addr} (D : Sep z TI TO i1 i2 k1 k2) :
    Turn P w K (.Tuple elts kk tpos) (ItzG K k1 k2) [z, TI, TO, i1, i2] z (fun i h => IsZip h z TI TO .none ∧ IsTupOf2 h TI (.ref i1) (.ref i2) ∧ (∃ x y, IsTupOf2 h TO x y) ∧ k1.It i1 i h ∧ k2.It i2 i h) where
  mem := by simp
  obj := fun i h st c hc => by
    obtain ⟨hz, hTI, ⟨x, y, hTO⟩, h1, h2⟩ := st
    have e' : c = z ∨ c = TI ∨ c = TO ∨ c = i1 ∨ c = i2 := by simpa using hc
    rcases e' with q | q | q | q | q
    · rw [q]; exact ⟨_, hz, fun v q => nomatch q⟩
    · rw [q]; exact ⟨_, hTI, fun v q => nomatch q⟩
    · rw [q]; exact ⟨_, hTO, fun v q => nomatch q⟩
    · rw [q]; exact h1.obj
    · rw [q]; exact h2.obj
  keep := fun i h h' st k => by
    obtain ⟨hz, hTI, ⟨x, y, hTO⟩, h1, h2⟩ := st
    exact ⟨k z (by simp) _ hz, k TI (by simp) _ hTI, ⟨x, y, k TO (by simp) _ hTO⟩, h1.at fun o q => k i1 (by simp) o q, h2.at fun o q => k i2 (by simp) o q⟩
  item := by
    intro X hP hw hK hc i pins s σ H E I hf st hg
    subst hP hw hK
    obtain ⟨hz, hTI, ⟨x0, y0, hTO⟩, h1, h2⟩ := st
    obtain ⟨xs, ys, x, y, hqx, hqy, hx, hy⟩ := hg
    have hzl : z < s.heap.objs.size := Heap.lt_size hz
    have hh := I.ok.hd hc
    obtain ⟨P1, St1, D1, a1, b1, c1⟩ := k1.draws I hh hqx (it := i1) (fun q => (D.s1 _ q).2.2.1 rfl)
    obtain ⟨P2, St2, D2, a2, b2, c2⟩ := k2.draws I hh hqy (it := i2) (fun q => (D.s2 _ q).2.2.2 rfl)
    refine wpAny_pyNext_zipD2_item D.zs D1 D2 hz hTI hTO (a1 i h1) (a2 i h2) (List.getElem?_eq_some_iff.mp hx).1 (List.getElem?_eq_some_iff.mp hy).1 fun u u2 h' tk hu hu2 z' TO' h1' h2' hT hsz hk => ?_
    have ru := c1 i u x hu hx
    have ru2 := c2 i u2 y hu2 hy
    refine ⟨_, rfl, wpAny_letOwnedTupleGo_zip (s := { s with heap := h', toks := tk }) z' fun h'' z'' sb => ?_⟩
    have hT2 : h''.get? s.heap.objs.size = some { cls := .type "tuple", data := .seq #[u, u2] } := (sb.2 _ (Nat.ne_of_gt hzl)).trans hT
    have new : ObjOk X.prog X.w (upd H s.heap.objs.size (.tup [x, y])) h'' s.heap.objs.size (.tup [x, y]) :=
      ⟨by show 2 ≤ sizeLine; decide, [u, u2], .cons ru (.cons ru2 .nil), ⟨_, hT2, rfl, _, rfl⟩⟩
    have I1 : Inv X pins σ (upd H s.heap.objs.size (.tup [x, y])) { s with heap := h'', toks := tk } :=
      I.turnedNew (t' := tk) (ch := [z, TI, TO, i1, i2]) (fun c o hb q => (sb.2 c (fun q' => hb (by simp [q']))).trans (hk c o (fun q' => hb (by simp [q'])) (fun q' => hb (by simp [q'])) (fun q' => hb (by simp [q'])) (fun q' => hb (by simp [q'])) q)) hf (Nat.le_refl _) new
    refine ⟨.ref s.heap.objs.size, _, I1, rfl, ⟨_, x, y, rfl, I.hok.fresh (Nat.le_refl _), rfl, fun l hl => by rw [k1.inj I hl hqx]; exact hx, fun l hl => by rw [k2.inj I hl hqy]; exact hy⟩, ⟨z'', ?_, ⟨u, u2, ?_⟩, ?_, ?_⟩, fun c hcm => ?_⟩
    · exact (sb.2 _ D.TIz).trans (hk _ _ D.TIz D.TITO D.TIi1 D.TIi2 hTI)
    · exact (sb.2 _ D.TOz).trans TO'
    · exact (b1 _ _ h1').at fun o q => (sb.2 _ D.zi1.symm).trans q
    · exact (b2 _ _ h2').at fun o q => (sb.2 _ D.zi2.symm).trans q
    · have hlt : c < s.heap.objs.size := by
        have e' : c = z ∨ c = TI ∨ c = TO ∨ c = i1 ∨ c = i2 := by simpa using hcm
        rcases e' with q | q | q | q | q
        · rw [q]; exact hzl
        · rw [q]; exact Heap.lt_size hTI
        · rw [q]; exact Heap.lt_size hTO
        · rw [q]; obtain ⟨_, e1, _⟩ := h1.obj; exact Heap.lt_size e1
        · rw [q]; obtain ⟨_, e2, _⟩ := h2.obj; exact Heap.lt_size e2
      rw [upd_ne (Nat.ne_of_lt hlt)]
      exact (hf c hcm).1
  done := by
    intro X hP hw hK hc i pins s σ H E I hf st hg
    subst hP hw hK
    obtain ⟨hz, hTI, ⟨x0, y0, hTO⟩, h1, h2⟩ := st
    obtain ⟨xs, ys, hqx, hqy, hend⟩ := hg
    have hh := I.ok.hd hc
    obtain ⟨P1, St1, D1, a1, b1, c1⟩ := k1.draws I hh hqx (it := i1) (fun q => (D.s1 _ q).2.2.1 rfl)
    obtain ⟨P2, St2, D2, a2, b2, c2⟩ := k2.draws I hh hqy (it := i2) (fun q => (D.s2 _ q).2.2.2 rfl)
    exact wpAny_pyNext_zipD2_end D.zs D1 D2 hz hTI hTO (a1 i h1) (a2 i h2) (by omega) (by omega) (by omega) fun h' tk hk => ⟨rfl, I.turnedL (t' := tk) (ch := [z, TI, TO, i1, i2]) (fun c o hb q =>
      hk c o (fun q' => hb (by simp [q'])) (fun q' => hb (by simp [q'])) (fun q' => hb (by simp [q'])) (fun q' => hb (by simp [q'])) q) hf⟩
  self := fun A i s Q E st h => wpAny_pyIter_zip st.1 h
inductive Sh where
  | l | t | s
/-- as values -/
def ZKV : ZK → Sh → V → Prop
  | .l a, .l, v => v = .ref a
  | .t a, .t, v => v = .ref a
  | .s z _, .s, v => v = .str z
  | _, _, _ => False
inductive Src (K : PySem.W.Frag) (H : Hp) : Sh → V → List V → Prop
  | l {a : Addr} {xs : List V} : SqL K H a xs → Src K H .l (.ref a) xs
  | t {a : Addr} {xs : List V} : SqT K H a xs → Src K H .t (.ref a) xs
  | s (z : Str) : Src K H .s (.str z) (z.cps.toList.map fun c => V.str ⟨#[c]⟩)
def iZipG (K : PySem.W.Frag) (ta : TA) : TI := fun σ H R => ta σ H fun vs H1 => ∃ s1 s2 u v xs ys, vs = [u, v] ∧ Src K H1 s1 u xs ∧ Src K H1 s2 v ys ∧ ∀ k1 k2 : ZK, ZKV k1 s1 u → ZKV k2 s2 v → R (ItzG K k1 k2) H1
/-- what a source is -/
theorem Src.kind {X : Cx} {pins : List (Addr × Obj)} {σ : L2.St} {H : Hp} {s : Shared} {sh : Sh} {v : V} {u : Value} {xs : List V} (I : Inv X pins σ H s) (q : Src X.K H sh v xs) (r : RelV v u) :
    ∃ k : ZK, u = k.v ∧ ZKV k sh v ∧ (∀ b ∈ k.src, b < s.heap.objs.size) ∧ ∃ G, Begins k.v k.o G ∧ G s.heap := by
  cases q with
  | l h =>
    rename_i a
    cases r
    obtain ⟨its, _, p, _⟩ := I.list h
    exact ⟨.l a, rfl, rfl, fun b hb => by obtain rfl : b = a := by simpa [ZK.src] using hb
                                          exact p.lt, _, begins_list a its.toArray, p.isList⟩
  | t h =>
    rename_i a
    cases r
    obtain ⟨its, _, p, _⟩ := I.tuple h
    exact ⟨.t a, rfl, rfl, fun b hb => by obtain rfl : b = a := by simpa [ZK.src] using hb
                                          obtain ⟨o, ho, _⟩ := p
                                          exact Heap.lt_size ho, _, begins_tuple a its.toArray, p⟩
  | s z =>
    obtain ⟨t, rfl⟩ := r
    exact ⟨.s z t, rfl, rfl, fun b hb => by simp [ZK.src] at hb, _, begins_text z t, trivial⟩
theorem pi_zipG {X : Cx} {e e2 : Expr} {ta : TA} {p pos tpos : Pos} {elts : List Expr} {kk : Nat} (hg : Gl X "zip") (hm : X.mg "zip" = none) (ha : PA X [e, e2] ta)
    (hs : starEach [e, e2] X.env = (false, eval e X.env) :: starEach [e2] X.env := by rfl) (hpl : (backTo pos (starEach [e2] X.env)).any (·.1) = false := by rfl) :
    PI X (.Tuple elts kk tpos) (.Call (.Name "zip" p) [e, e2] [] pos) (iZipG X.K ta) := by
  refine ⟨fun pins s σ H R I h => ?_⟩
  refine Call_ (ld_blt I hg hm PyProof.Rows.boot_zip (PyProof.Rows.callWith_type1 (thn (ha.run pos pins s σ H _ I h) fun us s1 ⟨vs, H1, I1, r1, q1⟩ => ?_) hs hpl))
  obtain ⟨sh1, sh2, u, v, xs, ys, ex, qx, qy, q⟩ := q1
  subst ex
  obtain ⟨u1, u2, rfl, r, r'⟩ := vals2 r1
  obtain ⟨k1, e1, v1, l1, G1, B1, g1⟩ := qx.kind I1 r
  obtain ⟨k2, e2, v2, l2, G2, B2, g2⟩ := qy.kind I1 r'
  subst e1 e2
  have fresh5 : ∀ c, c ∈ [s1.heap.objs.size + 4, s1.heap.objs.size + 2, s1.heap.objs.size + 3, s1.heap.objs.size, s1.heap.objs.size + 1] → FpOk X pins H1 c := fun c hcm => by
    have e' : c = s1.heap.objs.size + 4 ∨ c = s1.heap.objs.size + 2 ∨ c = s1.heap.objs.size + 3 ∨ c = s1.heap.objs.size ∨ c = s1.heap.objs.size + 1 := by simpa using hcm
    have hle : s1.heap.objs.size ≤ c := by omega
    exact I1.fpOk hle (I1.hok.fresh hle)
  refine zip_begins2 B1 B2 g1 g2 fun h' hz hTI hTO h1 h2 hsz hk => wpAny_pyIter_zip hz ?_
  have I2 : Inv X pins σ H1 { s1 with heap := h' } := I1.kept (t' := s1.toks) hk
  have D : Sep (s1.heap.objs.size + 4) (s1.heap.objs.size + 2) (s1.heap.objs.size + 3) s1.heap.objs.size (s1.heap.objs.size + 1) k1 k2 :=
    have ne : ∀ {a b : Nat}, (a < b ∨ b < a) → a ≠ b := fun h => by omega
    ⟨ne (by omega), ne (by omega), ne (by omega), ne (by omega), ne (by omega), ne (by omega), ne (by omega), ne (by omega), ne (by omega), ne (by omega), fun b hb => by
      have h0 : b < s1.heap.objs.size := l1 b hb
      exact ⟨Nat.ne_of_lt (Nat.lt_of_lt_of_le h0 (Nat.le_add_right _ _)), Nat.ne_of_lt (Nat.lt_of_lt_of_le h0 (Nat.le_add_right _ _)), Nat.ne_of_lt h0, Nat.ne_of_lt (Nat.lt_of_lt_of_le h0 (Nat.le_add_right _ _))⟩, fun b hb => by
      have h0 : b < s1.heap.objs.size := l2 b hb
      exact ⟨Nat.ne_of_lt (Nat.lt_of_lt_of_le h0 (Nat.le_add_right _ _)), Nat.ne_of_lt (Nat.lt_of_lt_of_le h0 (Nat.le_add_right _ _)), Nat.ne_of_lt h0, Nat.ne_of_lt (Nat.lt_of_lt_of_le h0 (Nat.le_add_right _ _))⟩⟩
  exact ⟨s1.heap.objs.size + 4, [s1.heap.objs.size + 4, s1.heap.objs.size + 2, s1.heap.objs.size + 3, s1.heap.objs.size, s1.heap.objs.size + 1], _, _, H1, rfl, I2, turn_zipG D, ⟨hz, hTI, ⟨_, _, hTO⟩, ZK.start h1, ZK.start h2⟩, fresh5, q k1 k2 v1 v2⟩
theorem walk_zipG {K : PySem.W.Frag} {k1 k2 : ZK} {xs ys : List V} : Walk (ItzG K k1 k2) (min xs.length ys.length) (fun H => k1.N K H xs ∧ k2.N K H ys) (YPair (fun i => xs[i]?) (fun i => ys[i]?)) := by
  refine ⟨fun i _ hi q => ?_, fun _ q => ⟨xs, ys, q.1, q.2, rfl⟩, fun i H v H' _ q y => ?_⟩
  · have h1 : i < xs.length := by omega
    have h2 : i < ys.length := by omega
    exact ⟨xs, ys, xs[i], ys[i], q.1, q.2, by simp [h1], by simp [h2]⟩
  · obtain ⟨T, x, z, h1, h2, h3, h4, h5⟩ := y
    exact ⟨T, x, z, h1, h2, h3, h4 xs q.1, h5 ys q.2⟩
end ZG
namespace TT
open PySem PySem.Spec PyProof.Rows L2
section
variable {X : Cx} {c : Ct} {G : Hp} {μ : List Addr} {ρ : Ev} {m : Mem} {σ : L2.St} {H : Hp}
theorem walkD_zipG {k1 k2 : ZG.ZK} {ds es : List D} {vs ws : List V} (h : ∀ H, Same G H → k1.N c.K H vs ∧ k2.N c.K H ws) (r : RepL c.K c.mg c.xo G μ ds vs) (r' : RepL c.K c.mg c.xo G μ es ws) : WalkD c (ZG.ItzG c.K k1 k2) G μ (dZip ds es) := by
  unfold WalkD
  have hl : (dZip ds es).length = min vs.length ws.length := by simp [dZip, r.length, r'.length]
  rw [hl]
  refine ZG.walk_zipG.mono h fun i H x H' _ _ y => ?_
  obtain ⟨T, u, v, rfl, hT, rfl, hu, hv⟩ := y
  obtain ⟨d, h1, h2⟩ := r.getV hu
  obtain ⟨e, k1, k2⟩ := r'.getV hv
  exact ⟨.tup [d, e], zip_at h1 k1, .inr ⟨T, _, _, rfl, rfl, hT, rfl, .cons h2 (.cons k2 .nil)⟩⟩
/-- a source by its tree -/
theorem src_rep {d : D} {v : V} {xs : List D} (r : Rep c.K c.mg c.xo G μ d v) (e : dItems d = some xs) : ∃ sh vs, RepL c.K c.mg c.xo G μ xs vs ∧ (∀ H, Same G H → ZG.Src c.K H sh v vs) ∧ ∀ k : ZG.ZK, ZG.ZKV k sh v → ∀ H, Same G H → k.N c.K H vs := by
  cases r with
  | lst h t =>
    cases e
    refine ⟨.l, _, t, fun H s => .l (s.seq h), fun k hk H s => ?_⟩
    cases k with
    | l a => cases hk; exact s.seq h
    | t a => exact hk.elim
    | s z tk => exact hk.elim
    | r a n => exact hk.elim
  | tup h t =>
    cases e
    refine ⟨.t, _, t, fun H s => .t (Same.tupS s h), fun k hk H s => ?_⟩
    cases k with
    | l a => exact hk.elim
    | t a => cases hk; exact Same.tupS s h
    | s z tk => exact hk.elim
    | r a n => exact hk.elim
  | str s ho =>
    cases e
    refine ⟨.s, _, RepL.signs (okS_signs ho), fun H _ => .s s, fun k hk H s => ?_⟩
    cases k with
    | l a => exact hk.elim
    | t a => exact hk.elim
    | s z tk => cases hk; exact rfl
    | r a n => exact hk.elim
  | _ => cases e
theorem xi_zipG {e e2 : Expr} {l : EL} {p pos tpos : Pos} {elts : List Expr} {kk : Nat} {k : Nat} (F : Fit X c k) (hg : Gl X "zip") (hm : X.mg "zip" = none) (ha : PA X [e, e2] (rL c l))
    (hs : starEach [e, e2] X.env = (false, eval e X.env) :: starEach [e2] X.env := by rfl) (hpl : (backTo pos (starEach [e2] X.env)).any (·.1) = false := by rfl) : PI X (.Tuple elts kk tpos) (.Call (.Name "zip" p) [e, e2] [] pos) (rIt c (iZip l)) := by
  refine (ZG.pi_zipG hg hm ha hs hpl).imp ?_
  rintro σ H R' ⟨ρ, m, G, μ, S, h⟩
  refine rL_bindI (R' := R') S h fun ds m1 vs H1 G1 μ1 S1 R1 g1 h1 => ?_
  split at h1
  · rename_i hk
    split at hk
    · rename_i x y
      obtain ⟨u, v, rfl, r, r'⟩ := rep2 R1
      cases e1 : dItems x with
      | none => simp [e1, R.of] at hk
      | some xs =>
        cases e2 : dItems y with
        | none => simp [e1, e2, R.of] at hk
        | some ys =>
          simp only [e1, e2, Option.bind_some, R.of_some] at hk
          cases hk
          obtain ⟨s1, ws, ra, q1, n1⟩ := src_rep r e1
          obtain ⟨s2, zs, rb, q2, n2⟩ := src_rep r' e2
          rw [← F.K]
          exact ⟨s1, s2, u, v, ws, zs, rfl, q1 _ S1.mem.gh, q2 _ S1.mem.gh, fun k1 k2 z1 z2 => h1 _ _ _ _ S1 g1 (walkD_zipG (fun H s => ⟨n1 k1 z1 H s, n2 k2 z2 H s⟩) ra rb)⟩
    · cases hk
  · rename_i hk
    split at hk
    · rename_i x y
      cases e1 : dItems x with
      | none => simp [e1, R.of] at hk
      | some xs =>
        cases e2 : dItems y with
        | none => simp [e1, e2, R.of] at hk
        | some ys => simp only [e1, e2, Option.bind_some, R.of_some] at hk; cases hk
    · cases hk
  · exact h1.elim
end
end TT

set_option maxHeartbeats 2000000
/-! T10: errors: raise, try. -/
namespace L2
open PySem PySem.Spec PyProof.Rows
section
variable {X : Cx} {x n : Str} {c : Value} {i : Nat} {body suite els : List Stmt} {b₀ : Stmt} {np pos pos' : Pos} {tb : WX → TS} {u : TS} {ts : Addr → Value → Option Addr → TS} {Wout : WX}
/-- try: body / except x as n: suite / else: els -/
theorem ps_try_asE (ho : PSs X els u) (hs : X.stack = X.env :: X.outer) (hf : X.env.frame = some X.env.locals) (hN : X.N.Nodup) (hi : X.N[i]? = some n) (hln : X.env.kindOf n = some .local) (hc : Names X x c) (tk : Takes X Wout)
    (hb : ∀ (W : WX) (pn : List (Addr × Obj)) (xe : Value → Shared → Prop), Takes (X.tr pn xe) W → PassesOwn (model X.prog X.w) X.A X.env xe → PSs (X.tr pn xe) body (tb W))
    (hsu : ∀ (a : Addr) (oe : Obj) (cls : Value) (d : Option Addr) (pn : List (Addr × Obj)), Zc cls d oe → (∃ vs, oe.data = .fields vs) → PSs (X.suite a ((a, oe) :: pn)) (b₀ :: suite) (ts a cls d)) :
    PS X (.Try body [.ExceptHandler (some (.Name x np)) (some n) (b₀ :: suite) pos'] els [] pos) (fun D σ H => tb (wAs X.K c i ts Wout D) { D with nx := u D } σ H) := by
  refine ⟨fun pins s σ H D I h => ?_⟩
  have ok := I.ok
  have hfr : X.A.frames = some (X.env :: X.outer) := by rw [ok.frames, hs]
  refine wpAny_Try_except ?_
  have body' := hb (wAs X.K c i ts Wout D) (X.pn ++ pins) (fun e s₁ => wpAny (model X.prog X.w) X.A (noteFrame e X.env) (fun _ s₂ => wpAny (model X.prog X.w) X.A (setFlight e none) (fun _ s₃ =>
    wpAny (model X.prog X.w) X.A (handleBy e X.env [.ExceptHandler (some (.Name x np)) (some n) (b₀ :: suite) pos']) (SP X pins D) X.xe s₃) X.xe s₂) X.xe s₁) ?caught PassesOwn.looking
  · refine wpAny_mono (body'.run [] s σ H { D with nx := u D } (I.toTry _) h) (fun f s1 hsp => ?_) (fun e s1 he => he)
    cases f with
    | next => obtain ⟨σ', H', J', q⟩ := hsp; exact ho.run pins s1 σ' H' D (J'.ofTry ok) q
    | brk => obtain ⟨σ', H', J', q⟩ := hsp; exact ⟨σ', H', J'.ofTry ok, q⟩
    | cont => obtain ⟨σ', H', J', q⟩ := hsp; exact ⟨σ', H', J'.ofTry ok, q⟩
    | ret w => obtain ⟨v, σ', H', J', r, q⟩ := hsp; exact ⟨v, σ', H', J'.ofTry ok, r, q⟩
  · intro u' s' xx
    obtain ⟨a, B, sI, pins', σ', H', cls, d, rfl, J', nb, up, sky, na, os, ag, b, hb1, hyes, hno⟩ := xx
    have J : Inv X pins σ' H' sI := J'.ofTry ok
    have sky' : Sky B (X.env :: X.outer) a (Zc cls d) X.env.locals s'.heap := by rw [← hs]; exact sky
    show wpAny (model X.prog X.w) X.A (noteFrame (.ref a) X.env) _ _ _
    refine Sky.land Zc.steady hfr hf sky' fun h3 fl3 up3 => ?_
    have J3 : Inv X pins σ' H' { s' with heap := h3 } := J.landed nb fl3.1 (up.trans up3) os ag
    obtain ⟨oe3, vs3, he3, hz3, hd3⟩ := fl3.there
    have nfr : a ∉ frs (X.env :: X.outer) := fun hm => by
      obtain ⟨_, o', e', hnf⟩ := fl3.2.2.1.mem hm
      rw [he3] at e'
      cases e'
      exact hnf _ hd3
    have nL : a ≠ X.env.locals := fun z => nfr (List.mem_filterMap.mpr ⟨X.env, List.mem_cons_self, by rw [hf, z]⟩)
    have nF : a ∉ X.fs := fun hm => by
      obtain ⟨e, he, q⟩ := List.mem_filterMap.mp hm
      exact nfr (List.mem_filterMap.mpr ⟨e, List.mem_cons_of_mem _ he, q⟩)
    have S3 := J3.suite he3 hd3 na nL nF
    refine wpAny_handleBy_cons (codeAny_handlers_test ?_) (by intro q; cases q)
    have LT : PySem.W.Looks (model X.prog X.w) h3 (typeOf (.ref a)) cls := fun A Q E s k q => wpAny_typeOf_ref (k _ _ he3) (by rw [hz3.1]; exact q)
    have LM := PySem.W.exm_one (M := model X.prog X.w) (J3.kIn) LT hb1
    have test : ∀ {Q : Value → Shared → Prop} {E : Value → Shared → Prop}, Q c { s' with heap := h3 } → wpAny (model X.prog X.w) (X.A.mark (some (.ref a))) (eval (.Name x np) X.env) Q E { s' with heap := h3 } := fun {Q E} q => by
      obtain ⟨hg, hdbg, hm | ⟨hm, hv, hnn⟩⟩ := hc
      · exact ld_glob (X := X.suite a ((a, oe3) :: (X.pn ++ pins))) S3 hg hm q hdbg
      · exact ld_blt (X := X.suite a ((a, oe3) :: (X.pn ++ pins))) S3 hg hm hv q hnn hdbg
    refine test (LM.here ?_)
    cases b with
    | false =>
      show wpAny _ X.A (handleBy (.ref a) X.env []) _ _ _
      refine wpAny_handleBy_nil ?_
      obtain ⟨k1, k2, k3, oe, vs, T, oT, ts', he, hz, hd, h1, hr⟩ := id fl3
      unfold PySem.passOn
      refine wpAny_bind (wpAny_field he hd h1 ?_)
      rw [if_neg (show ¬ ((Value.ref T == Value.none) = true) from by simp)]
      have fin : wpAny (model X.prog X.w) X.A (setFlight (.ref a) X.env.frame) (fun _ s4 => wpAny (model X.prog X.w) X.A (throw (.ref a) : Sem Flow) (SP X pins D) X.xe s4) X.xe { s' with heap := h3 } := by
        rw [hf]
        refine HandSPX.setFlight_upZ fl3 fun h4 hh4 up4 => wpAny_throw (tk _ _ ?_)
        exact ⟨a, B, sI, pins, σ', H', cls, d, rfl, J, nb, (up.trans up3).trans up4, .inr (.inr (by rw [hs]; exact hh4)), na, os, ag, hno rfl⟩
      first
        | exact wpAny_bind (wpAny_pure (wpAny_bind fin))
        | exact wpAny_bind fin
    | true =>
      refine codeAny_handlers_suite_as ?_
      refine HandSPX.lands_againZ fl3 fun h4 fl4 up4 => ?_
      have J4 : Inv X pins σ' H' { s' with heap := h4 } := J.landed nb fl4.1 ((up.trans up3).trans up4) os ag
      obtain ⟨oe4, vs4, he4, hz4, hd4⟩ := fl4.there
      have S4 := J4.suite he4 hd4 na nL nF
      refine store_ok (X := X.suite a ((a, oe4) :: (X.pn ++ pins))) (v := .ref a) S4 hN hi (.inl hln) rfl (fun s5 S5 => ?_) (.inr hln)
      refine wpAny_mono ((hsu a oe4 cls d (X.pn ++ pins) hz4 ⟨_, hd4⟩).run [] s5 _ H' _ S5 (hyes rfl a na)) (fun f s6 hsp => ?_) (fun _ _ z => False.elim z)
      have gone : ∀ {σ6 : St} {H6 : Hp} {Q : Shared → Prop}, Inv (X.suite a ((a, oe4) :: (X.pn ++ pins))) [] σ6 H6 s6 → (∀ s7, Inv X pins (σ6.set i none) H6 s7 → Q s7) →
          wpAny (model X.prog X.w) X.A (do bindName X.env n .none; unbindBehindTheSuite X.env n pos') (fun _ s7 => Q s7) X.xe s6 := fun {σ6 H6 Q} S6 hq => gone_ok (S6.unsuite ok) hN hi hln hq
      cases f with
      | next => obtain ⟨σ6, H6, S6, q6⟩ := hsp; exact gone S6 fun s7 J7 => ⟨_, _, J7, q6⟩
      | brk => obtain ⟨σ6, H6, S6, q6⟩ := hsp; exact gone S6 fun s7 J7 => ⟨_, _, J7, q6⟩
      | cont => obtain ⟨σ6, H6, S6, q6⟩ := hsp; exact gone S6 fun s7 J7 => ⟨_, _, J7, q6⟩
      | ret w => obtain ⟨v6, σ6, H6, S6, r6, q6⟩ := hsp; exact gone S6 fun s7 J7 => ⟨_, _, _, J7, r6, q6⟩
end
end L2
namespace TT
open PySem PySem.Spec PyProof.Rows L2
/-- an own class of errors, without __init__: what the written part says of it -/
structure XC (K : PySem.W.Frag) (mg : Str → Option Value) (c : Str) (C : Addr) : Prop where
  g : mg c = some (.ref C)
  q : PySem.W.excIn K C [.type "ValueError", .type "Exception", .type "BaseException", .type "object"] "ValueError.__new__" = true
  k : PySem.W.keepIn K (.ref C) = true
  t : PySem.W.typeIn K (.ref C) = some (.type "type")
  e : ExcC K C
/-- .. of any own class of errors -/
structure XG (K : PySem.W.Frag) (mg : Str → Option Value) (c : Str) (C : Addr) : Prop where
  g : mg c = some (.ref C)
  e : ExcC K C
theorem XC.toG {K : PySem.W.Frag} {mg : Str → Option Value} {c : Str} {C : Addr} (h : XC K mg c C) : XG K mg c C := ⟨h.g, h.e⟩
/-- c under d -/
structure XP (K : PySem.W.Frag) (mg : Str → Option Value) (c d : Str) (b : Bool) (C : Addr) (v : Value) : Prop where
  g : mg c = some (.ref C)
  n : (mg d = some v ∧ d ≠ ("ValueError" : Str)) ∨ (d = ("ValueError" : Str) ∧ mg d = none ∧ v = .type "ValueError")
  k : PySem.W.kitCls K (.ref C) v = some b
  s : PySem.W.subIn K v (.type "BaseException") = some true
  r : (Value.ref C == v) = true → b = true
def XTok (K : PySem.W.Frag) (mg : Str → Option Value) (t : XTab) : Prop := ∀ p ∈ t, (∃ C v, XP K mg p.1.1 p.1.2 p.2 C v) ∧ ∃ C, XG K mg p.1.1 C
theorem lookup_mem {α β : Type} [BEq α] [LawfulBEq α] {x : α} {y : β} : ∀ {l : List (α × β)}, l.lookup x = some y → (x, y) ∈ l
  | [], h => by simp at h
  | (a, b) :: l, h => by
    rw [List.lookup_cons] at h
    split at h
    · rename_i e
      cases h
      rw [eq_of_beq e]
      exact List.mem_cons_self
    · exact List.mem_cons_of_mem _ (lookup_mem h)
section
variable {X : Cx} {c : Ct} {G : Hp} {μ : List Addr} {ρ : Ev} {m : Mem} {σ : L2.St} {H : Hp}
theorem xs_raise {x ms : Str} {j k : Nat} {p p2 pos pos2 : Pos} {C : Addr} (F : Fit X c k) (Y : XC X.K X.mg x C) (hg : Gl X x) (hdb : (x == ("__debug__" : Str)) = false := by decide) :
    PS X (.Raise (some (.Call (.Name x p) [.Constant (.str ms) j p2] [] pos)) none pos2) (rS c (sRaise x)) := by
  refine PS.imp (ps_raise F.calm F.tk (SkE.pmk_own1 PySem.F.excBase_ValueError Y.q Y.g Y.k (raises_own Y.e.hs Y.t) hg pe_str (by rfl) hdb)) ?_
  rintro D σ H ⟨ρ, m, G, μ, S, h⟩
  exact h _ _ _ _ _ _ S Gr.refl ⟨C, F.mg ▸ Y.g, rfl, .inl ⟨rfl, rfl⟩⟩
theorem xs_raise1 {x : Str} {k : Nat} {e : Expr} {fa : E} {p pos pos2 : Pos} {C : Addr} (F : Fit X c k) (Y : XC X.K X.mg x C) (hg : Gl X x) (ha : PE X e (rE c fa)) (hs : starEach [e] X.env = (false, eval e X.env) :: starEach [] X.env := by rfl) (hdb : (x == ("__debug__" : Str)) = false := by decide) :
    PS X (.Raise (some (.Call (.Name x p) [e] [] pos)) none pos2) (rS c (sRaise1 x fa)) := by
  refine PS.imp (ps_raise F.calm F.tk (SkE.pmk_own1 PySem.F.excBase_ValueError Y.q Y.g Y.k (raises_own Y.e.hs Y.t) hg (ha.imp fun _ _ _ h => h) hs hdb)) ?_
  rintro D σ H ⟨ρ, m, G, μ, S, h⟩
  exact rE_then S h fun d m1 v H1 G1 μ1 S1 R1 g1 h1 => h1 _ _ _ _ _ _ S1 Gr.refl ⟨C, F.mg ▸ Y.g, rfl, .inl ⟨rfl, rfl⟩⟩
/-! ### the suite -/
structure Caught (X : Cx) (c : Ct) (a : Addr) (oe : Obj) (pn : List (Addr × Obj)) (D : Addr) (dd : Option Addr) : Prop where
  z : Zc (.ref D) dd oe
  f : ∃ vs, oe.data = .fields vs
  e : ExcC X.K D
  x : c.xo = some (a, .ref D, dd)
mutual
theorem Rep.noX {K : PySem.W.Frag} {mg : Str → Option Value} {xo xo' : XO} {G : Hp} {μ : List Addr} : ∀ {d : D} {v : V}, TT.noX d = true → Rep K mg xo G μ d v → Rep K mg xo' G μ d v
  | _, _, _, .non => .non
  | _, _, _, .bl b => .bl b
  | _, _, _, .int i => .int i
  | _, _, _, .str x h => .str x h
  | _, _, _, .ty n => .ty n
  | _, _, _, .cls h => .cls h
  | _, _, n, .lst h t => .lst h (RepL.noX (by simpa [TT.noX] using n) t)
  | _, _, n, .tup h t => .tup h (RepL.noX (by simpa [TT.noX] using n) t)
  | _, _, n, .dct h t => .dct h (RepP.noX (by simpa [TT.noX] using n) t)
  | _, _, n, .obj h1 h2 h3 t => .obj h1 h2 h3 (RepF.noX (by simpa [TT.noX] using n) t)
  | _, _, n, .exc h1 h2 => by simp [TT.noX] at n
  | _, _, _, .loc h => .loc h
theorem RepL.noX {K : PySem.W.Frag} {mg : Str → Option Value} {xo xo' : XO} {G : Hp} {μ : List Addr} : ∀ {d : List D} {v : List V}, TT.noXs d = true → RepL K mg xo G μ d v → RepL K mg xo' G μ d v
  | _, _, _, .nil => .nil
  | _, _, n, .cons h t => by
    simp only [TT.noXs, Bool.and_eq_true] at n
    exact .cons (Rep.noX n.1 h) (RepL.noX n.2 t)
theorem RepP.noX {K : PySem.W.Frag} {mg : Str → Option Value} {xo xo' : XO} {G : Hp} {μ : List Addr} : ∀ {d : List (D × D)} {v : List (Key × V)}, TT.noXP d = true → RepP K mg xo G μ d v → RepP K mg xo' G μ d v
  | _, _, _, .nil => .nil
  | _, _, n, .int h t => by
    simp only [TT.noXP, Bool.and_eq_true] at n
    exact .int (Rep.noX n.1.2 h) (RepP.noX n.2 t)
  | _, _, n, .str o h t => by
    simp only [TT.noXP, Bool.and_eq_true] at n
    exact .str o (Rep.noX n.1.2 h) (RepP.noX n.2 t)
theorem RepF.noX {K : PySem.W.Frag} {mg : Str → Option Value} {xo xo' : XO} {G : Hp} {μ : List Addr} : ∀ {d : List (Str × D)} {v : List (Str × V)}, TT.noXF d = true → RepF K mg xo G μ d v → RepF K mg xo' G μ d v
  | _, _, _, .nil => .nil
  | _, _, n, .cons h t => by
    simp only [TT.noXF, Bool.and_eq_true] at n
    exact .cons (Rep.noX n.1 h) (RepF.noX n.2 t)
end
/-- the context of the suite -/
abbrev Ct.sx (c : Ct) (x : XO) (W : WX) : Ct := { c with xo := x, W := W }
theorem MemOk.unX {x : XO} {W : WX} (h : MemOk (c.sx x W) G μ m H) : MemOk c G μ (unM m) H := by
  refine ⟨h.gh, h.bh, h.g0, h.gb, by rw [h.ml]; unfold unM; simp, h.nd, fun n a k e1 e2 => ?_, h.used, h.mb⟩
  unfold unM at e2
  rw [List.getElem?_map] at e2
  obtain ⟨k0, e3, rfl⟩ := Option.map_eq_some_iff.mp e2
  have q := h.cell n a k0 e1 e3
  cases k0 with
  | dead => trivial
  | lst xs =>
    show CellOk c G μ H a (if noXs xs = true then .lst xs else .dead)
    by_cases hn : noXs xs = true
    · rw [if_pos hn]
      obtain ⟨h1, h2, vs, h3, h4⟩ := q
      exact ⟨h1, h2, vs, h3, h4.noX hn⟩
    · rw [if_neg hn]; trivial
  | dct ps =>
    show CellOk c G μ H a (if noXP ps = true then .dct ps else .dead)
    by_cases hn : noXP ps = true
    · rw [if_pos hn]
      obtain ⟨h1, h2, vs, h3, h4⟩ := q
      exact ⟨h1, h2, vs, h3, h4.noX hn⟩
    · rw [if_neg hn]; trivial
  | obj n fs =>
    show CellOk c G μ H a (if noXF fs = true then .obj n fs else .dead)
    by_cases hn : noXF fs = true
    · rw [if_pos hn]
      obtain ⟨h1, h2, C, dx, fv, e, h3, h4, h5, h6, h7⟩ := q
      exact ⟨h1, h2, C, dx, fv, e, h3, h4, h5, h6, h7.noX hn⟩
    · rw [if_neg hn]; trivial
theorem Sim.unX {x : XO} {W : WX} (h : Sim (c.sx x W) G μ ρ m σ H) : Sim c G μ (TT.unX ρ) (unM m) σ H := by
  refine ⟨h.mem.unX, fun j d e => ?_, by unfold TT.unX; simp [h.len]⟩
  unfold TT.unX at e
  rw [List.getElem?_map] at e
  obtain ⟨o, e1, e2⟩ := Option.map_eq_some_iff.mp e
  cases o with
  | none => cases e2
  | some d0 =>
    have e2 : (if noX d0 = true then some d0 else none) = some d := e2
    by_cases hn : noX d0 = true
    · rw [if_pos hn] at e2
      cases e2
      obtain ⟨v, hv, r⟩ := h.env j d e1
      exact ⟨v, hv, r.noX hn⟩
    · rw [if_neg hn] at e2
      cases e2
theorem Sim.sx {x : XO} {W : WX} (hx : c.xo = none) (h : Sim c G μ ρ m σ H) : Sim (c.sx x W) G μ ρ m σ H := by
  refine ⟨⟨h.mem.gh, h.mem.bh, h.mem.g0, h.mem.gb, h.mem.ml, h.mem.nd, fun n a k e1 e2 => ?_, h.mem.used, h.mem.mb⟩, fun j d e => ?_, h.len⟩
  · have q := h.mem.cell n a k e1 e2
    cases k with
    | dead => trivial
    | lst xs =>
      obtain ⟨h1, h2, vs, h3, h4⟩ := q
      exact ⟨h1, h2, vs, h3, RepL.mono (Same.refl _) (List.prefix_refl _) (.inl hx) h4⟩
    | dct ps =>
      obtain ⟨h1, h2, vs, h3, h4⟩ := q
      exact ⟨h1, h2, vs, h3, RepP.mono (Same.refl _) (List.prefix_refl _) (.inl hx) h4⟩
    | obj n fs =>
      obtain ⟨h1, h2, C, dx, fv, e, h3, h4, h5, h6, h7⟩ := q
      exact ⟨h1, h2, C, dx, fv, e, h3, h4, h5, h6, RepF.mono (Same.refl _) (List.prefix_refl _) (.inl hx) h7⟩
  · obtain ⟨v, hv, r⟩ := h.env j d e
    exact ⟨v, hv, Rep.mono (Same.refl _) (List.prefix_refl _) (.inl hx) r⟩
theorem Sim.clear {i : Nat} (h : Sim c G μ ρ m σ H) : Sim c G μ (ρ.set i none) m (σ.set i none) H := by
  refine ⟨h.mem, fun j d e => ?_, by simp [h.len]⟩
  by_cases hj : i = j
  · subst hj
    by_cases hl : i < ρ.length
    · rw [List.getElem?_set_self hl] at e; cases e
    · rw [List.getElem?_eq_none (by simpa using hl)] at e; cases e
  · rw [List.getElem?_set_ne hj] at e ⊢
    exact h.env j d e
/-- the wish of a caught error -/
def tsX (c : Ct) (su : S) : Addr → Value → Option Addr → TS := fun a cls d D σ H => (∃ C, cls = .ref C ∧ ExcC c.K C) ∧ rS (c.sx (some (a, cls, d)) fun _ _ _ _ => False) su D σ H
theorem XP.exm {x d : Str} {b : Bool} {C : Addr} {v : Value} {K : PySem.W.Frag} {mg : Str → Option Value} (P : XP K mg x d b C v) : PySem.W.exmOne K (.ref C) v = some b := by
  unfold PySem.W.exmOne
  rw [P.s, P.k]
  rfl
theorem XP.kit {x d : Str} {b : Bool} {C : Addr} {v : Value} {K : PySem.W.Frag} {mg : Str → Option Value} (P : XP K mg x d b C v) : PySem.W.kitOne K (.ref C) v = some b := by
  unfold PySem.W.kitOne
  split
  · rename_i h
    rw [P.r h]
  · exact P.k
theorem PostS.sxEnd {D : Ends} {x : XO} {i : Nat} {o : O} (h : PostS c G μ D (endX (some i) o)) :
    PostS (c.sx x fun _ _ _ _ => False) G μ { nx := fun σ' H' => D.nx (σ'.set i none) H', rt := D.rt, bk := fun σ' H' => D.bk (σ'.set i none) H', ct := fun σ' H' => D.ct (σ'.set i none) H' } o := by
  cases o with
  | nx ρ m => exact fun σ H G' μ' S g => h _ _ _ _ S.unX.clear g
  | bk ρ m => exact fun σ H G' μ' S g => h _ _ _ _ S.unX.clear g
  | ct ρ m => exact fun σ H G' μ' S g => h _ _ _ _ S.unX.clear g
  | rt d m =>
    intro v H G' μ' M g r
    have h : PostS c G μ D (if noX d = true then .rt d (unM m) else .bad) := h
    by_cases hn : noX d = true
    · rw [if_pos hn] at h
      exact h v H G' μ' M.unX g (r.noX hn)
    · rw [if_neg hn] at h
      exact h.elim
  | exc e ρ m => exact h.elim
  | bad => exact h.elim
theorem PostS.sxEnd0 {D : Ends} {x : XO} {o : O} (h : PostS c G μ D (endX none o)) : PostS (c.sx x fun _ _ _ _ => False) G μ D o := by
  cases o with
  | nx ρ m => exact fun σ H G' μ' S g => h _ _ _ _ S.unX g
  | bk ρ m => exact fun σ H G' μ' S g => h _ _ _ _ S.unX g
  | ct ρ m => exact fun σ H G' μ' S g => h _ _ _ _ S.unX g
  | rt d m =>
    intro v H G' μ' M g r
    have h : PostS c G μ D (if noX d = true then .rt d (unM m) else .bad) := h
    by_cases hn : noX d = true
    · rw [if_pos hn] at h
      exact h v H G' μ' M.unX g (r.noX hn)
    · rw [if_neg hn] at h
      exact h.elim
  | exc e ρ m => exact h.elim
  | bad => exact h.elim
theorem Sim.ofW {W : WX} (S : Sim { c with W := W } G μ ρ m σ H) : Sim c G μ ρ m σ H := ⟨MemOk.ct (c := { c with W := W }) (c' := c) rfl rfl rfl rfl rfl S.mem, S.env, S.len⟩
theorem Sim.toW {W : WX} (S : Sim c G μ ρ m σ H) : Sim { c with W := W } G μ ρ m σ H := ⟨MemOk.ct (c := c) (c' := { c with W := W }) rfl rfl rfl rfl rfl S.mem, S.env, S.len⟩
/-- the wish of a try's body -/
theorem PostS.tryB {t : XTab} {d : Str} {oi : Option Nat} {b su el : S} {D : Ends} {wx : WX} (hxo : c.xo = none)
    (h : PostS c G μ D (sTry t d oi b su el ρ m))
    (hy : ∀ cn fs ρ1 m1 cc dd σ H G' μ', t.lookup (cn, d) = some true → PostS c G' μ' D (endX oi (su (inX oi (.exc cn fs) ρ1) m1)) → Sim c G' μ' ρ1 m1 σ H → ExcAt c.mg (.exc cn fs) cc dd G' → wx cc dd σ H)
    (hn : ∀ cn fs ρ1 m1 cc dd σ H G' μ', t.lookup (cn, d) = some false → PostS c G' μ' D (.exc (.exc cn fs) ρ1 m1) → Sim c G' μ' ρ1 m1 σ H → ExcAt c.mg (.exc cn fs) cc dd G' → wx cc dd σ H) :
    PostS { c with W := wx } G μ { D with nx := rS c el D } (b ρ m) := by
  unfold sTry at h
  have down : ∀ {G' μ' ρ m σ H}, Sim { c with W := wx } G' μ' ρ m σ H → Sim c G' μ' ρ m σ H := fun S => S.ofW
  cases e : b ρ m with
  | nx ρ1 m1 =>
    rw [e] at h
    exact fun σ H G' μ' S g => ⟨ρ1, m1, G', μ', down S, PostS.weak h g⟩
  | bk ρ1 m1 => rw [e] at h; exact fun σ H G' μ' S g => h σ H G' μ' (down S) g
  | ct ρ1 m1 => rw [e] at h; exact fun σ H G' μ' S g => h σ H G' μ' (down S) g
  | rt dd m1 => rw [e] at h; exact fun v H G' μ' S g => h v H G' μ' (MemOk.ct (c := { c with W := wx }) (c' := c) rfl rfl rfl rfl rfl S) g
  | bad => rw [e] at h; exact h
  | exc x ρ1 m1 =>
    rw [e] at h
    cases x with
    | exc cn fs =>
      simp only at h
      intro cc dd σ H G' μ' S g x1
      cases el : t.lookup (cn, d) with
      | none => rw [el] at h; exact h.elim
      | some bb =>
        rw [el] at h
        cases bb with
        | false => exact hn cn fs ρ1 m1 cc dd σ H G' μ' el (PostS.weak h g) (down S) x1
        | true =>
          exact hy cn fs ρ1 m1 cc dd σ H G' μ' el (PostS.weak h g) (down S) x1
    | _ => exact h.elim
theorem xs_tryAs {k i : Nat} {d n : Str} {Dd : Addr} {t : XTab} {body suite els : List Stmt} {b₀ : Stmt} {np pos pos' : Pos} {b su el : S} (F : Fit X c k) (hxo : c.xo = none) (T : XTok X.K X.mg t) (gd : X.mg d = some (.ref Dd)) (hg : Gl X d) (hs : X.stack = X.env :: X.outer) (hf : X.env.frame = some X.env.locals)
    (hi : X.N[i]? = some n) (hln : X.env.kindOf n = some .local)
    (hb : ∀ (pn : List (Addr × Obj)) (xe : Value → Shared → Prop) (c : Ct), c.xo = none → Fit (X.tr pn xe) c k → PSs (X.tr pn xe) body (rS c b))
    (hsu : ∀ (pn : List (Addr × Obj)) (a : Addr) (oe : Obj) (C : Addr) (dd : Option Addr) (c : Ct), Caught X c a oe pn C dd → Fit0 (X.suite a ((a, oe) :: pn)) c k → PSs (X.suite a ((a, oe) :: pn)) (b₀ :: suite) (rS c su))
    (ho : PSs X els (rS c el)) (hdb : (d == ("__debug__" : Str)) = false := by decide) :
    PS X (.Try body [.ExceptHandler (some (.Name d np)) (some n) (b₀ :: suite) pos'] els [] pos) (rS c (sTry t d (some i) b su el)) := by
  refine PS.imp (ps_try_asE (tb := fun W => rS { c with W := W } b) (ts := tsX c su) ho hs hf F.nd hi hln ⟨hg, hdb, .inl gd⟩ F.tk (fun W pn xe tk po => ?_) (fun a oe cls dd pn hz hff => ?_)) ?_
  · exact hb pn xe { c with W := W } hxo ⟨F.K, F.mg, F.calm, tk, po, F.rm, F.nd⟩
  · refine ⟨fun pins s σ H D I q => ?_⟩
    obtain ⟨⟨C, rfl, ec⟩, q⟩ := q
    exact (hsu pn a oe C dd (c.sx (some (a, .ref C, dd)) fun _ _ _ _ => False) ⟨hz, hff, by rw [← F.K]; exact ec, rfl⟩ ⟨F.K, F.mg, F.nd⟩).run pins s σ H D I q
  · rintro D σ H ⟨ρ, m, G, μ, S, h⟩
    refine ⟨ρ, m, G, μ, S.toW, h.tryB hxo (fun cn fs ρ1 m1 cc dd σ H G' μ' el h1 S1 x1 => ?_) (fun cn fs ρ1 m1 cc dd σ H G' μ' el h1 S1 x1 => ?_)⟩
    · obtain ⟨⟨C, v, P⟩, C', Y⟩ := T _ (lookup_mem el)
      obtain ⟨C2, h2, h3, _⟩ := id x1
      rw [F.mg] at h2
      have e1 : C = C2 := Value.ref.inj (Option.some.inj (P.g.symm.trans h2))
      subst e1
      have e2 : C' = C := Value.ref.inj (Option.some.inj (Y.g.symm.trans h2))
      subst e2
      have hv : v = .ref Dd := by
        rcases P.n with ⟨q, _⟩ | ⟨_, q, _⟩
        · exact Option.some.inj (q.symm.trans gd)
        · rw [show X.mg d = some _ from gd] at q; cases q
      subst hv
      subst h3
      refine ⟨true, P.exm, fun _ a ha => ?_, fun q => by cases q⟩
      refine ⟨⟨_, rfl, by rw [F.K]; exact Y.e⟩, _, m1, G', μ', ?_, h1.sxEnd⟩
      exact (S1.sx (x := some (a, .ref C', dd)) (W := fun _ _ _ _ => False) hxo).put (.exc rfl x1)
    · obtain ⟨⟨C, v, P⟩, _⟩ := T _ (lookup_mem el)
      obtain ⟨C2, h2, h3, _⟩ := id x1
      rw [F.mg] at h2
      have e1 : C = C2 := Value.ref.inj (Option.some.inj (P.g.symm.trans h2))
      subst e1
      have hv : v = .ref Dd := by
        rcases P.n with ⟨q, _⟩ | ⟨_, q, _⟩
        · exact Option.some.inj (q.symm.trans gd)
        · rw [show X.mg d = some _ from gd] at q; cases q
      subst hv
      subst h3
      exact ⟨false, P.exm, (fun q => by cases q), fun _ => h1 _ _ _ _ _ _ S1 Gr.refl x1⟩
theorem xs_tryOnly {k : Nat} {d : Str} {Dd : Addr} {t : XTab} {body suite els : List Stmt} {b₀ : Stmt} {np pos pos' : Pos} {b su el : S} (F : Fit X c k) (hxo : c.xo = none) (T : XTok X.K X.mg t) (gd : X.mg d = some (.ref Dd)) (hg : Gl X d) (hs : X.stack = X.env :: X.outer) (hf : X.env.frame = some X.env.locals)
    (hb : ∀ (pn : List (Addr × Obj)) (xe : Value → Shared → Prop) (c : Ct), c.xo = none → Fit (X.tr pn xe) c k → PSs (X.tr pn xe) body (rS c b))
    (hsu : ∀ (pn : List (Addr × Obj)) (a : Addr) (oe : Obj) (C : Addr) (dd : Option Addr) (c : Ct), Caught X c a oe pn C dd → Fit0 (X.suite a ((a, oe) :: pn)) c k → PSs (X.suite a ((a, oe) :: pn)) (b₀ :: suite) (rS c su))
    (ho : PSs X els (rS c el)) (hdb : (d == ("__debug__" : Str)) = false := by decide) :
    PS X (.Try body [.ExceptHandler (some (.Name d np)) none (b₀ :: suite) pos'] els [] pos) (rS c (sTry t d none b su el)) := by
  refine PS.imp (ps_try_onlyE (tb := fun W => rS { c with W := W } b) (ts := tsX c su) ho hs hf ⟨hg, hdb, .inl gd⟩ F.tk (fun W pn xe tk po => ?_) (fun a oe cls dd pn hz hff => ?_)) ?_
  · exact hb pn xe { c with W := W } hxo ⟨F.K, F.mg, F.calm, tk, po, F.rm, F.nd⟩
  · refine ⟨fun pins s σ H D I q => ?_⟩
    obtain ⟨⟨C, rfl, ec⟩, q⟩ := q
    exact (hsu pn a oe C dd (c.sx (some (a, .ref C, dd)) fun _ _ _ _ => False) ⟨hz, hff, by rw [← F.K]; exact ec, rfl⟩ ⟨F.K, F.mg, F.nd⟩).run pins s σ H D I q
  · rintro D σ H ⟨ρ, m, G, μ, S, h⟩
    refine ⟨ρ, m, G, μ, S.toW, h.tryB hxo (fun cn fs ρ1 m1 cc dd σ H G' μ' el h1 S1 x1 => ?_) (fun cn fs ρ1 m1 cc dd σ H G' μ' el h1 S1 x1 => ?_)⟩
    · obtain ⟨⟨C, v, P⟩, C', Y⟩ := T _ (lookup_mem el)
      obtain ⟨C2, h2, h3, _⟩ := id x1
      rw [F.mg] at h2
      have e1 : C = C2 := Value.ref.inj (Option.some.inj (P.g.symm.trans h2))
      subst e1
      have e2 : C' = C := Value.ref.inj (Option.some.inj (Y.g.symm.trans h2))
      subst e2
      have hv : v = .ref Dd := by
        rcases P.n with ⟨q, _⟩ | ⟨_, q, _⟩
        · exact Option.some.inj (q.symm.trans gd)
        · rw [show X.mg d = some _ from gd] at q; cases q
      subst hv
      subst h3
      refine ⟨true, P.exm, fun _ a ha => ?_, fun q => by cases q⟩
      exact ⟨⟨_, rfl, by rw [F.K]; exact Y.e⟩, _, m1, G', μ', S1.sx (x := some (a, .ref C', dd)) (W := fun _ _ _ _ => False) hxo, h1.sxEnd0⟩
    · obtain ⟨⟨C, v, P⟩, _⟩ := T _ (lookup_mem el)
      obtain ⟨C2, h2, h3, _⟩ := id x1
      rw [F.mg] at h2
      have e1 : C = C2 := Value.ref.inj (Option.some.inj (P.g.symm.trans h2))
      subst e1
      have hv : v = .ref Dd := by
        rcases P.n with ⟨q, _⟩ | ⟨_, q, _⟩
        · exact Option.some.inj (q.symm.trans gd)
        · rw [show X.mg d = some _ from gd] at q; cases q
      subst hv
      subst h3
      exact ⟨false, P.exm, (fun q => by cases q), fun _ => h1 _ _ _ _ _ _ S1 Gr.refl x1⟩
/-- isinstance(e, c), e the error that the suite holds, with a dict or without -/
def rIsE2 (K : PySem.W.Frag) (D a : Addr) (dd : Option Addr) : List V → Hp → VK → Prop := fun xs H Q => (∀ dx, dd = some dx → ∃ fv, H dx = some (.xd fv)) ∧ rIsE K D a xs H Q
theorem call_isE2 {X : Cx} {a D : Addr} {oe : Obj} {dd : Option Addr} {pn : List (Addr × Obj)} (C : ExcC X.K D) (hz : Zc (.ref D) dd oe) (hf : ∃ vs, oe.data = .fields vs) : CallR (X.suite a ((a, oe) :: pn)) (.builtin "isinstance") (rIsE2 X.K D a dd) := by
  intro pins s σ H xs us Q I r h
  obtain ⟨hdd, c, cv, b, rfl, hcv, e, q⟩ := h
  cases r with
  | cons rx rr =>
    cases rr with
    | cons rt rr =>
      cases rr
      cases rx
      have ec := hcv _ rt
      subst ec
      obtain ⟨hget, hpin⟩ := I.pin (a, oe) (List.mem_append.mpr (.inl List.mem_cons_self))
      obtain ⟨vs, hv⟩ := hf
      have J : ∃ od, PySem.W.InstAt s.heap a oe D od := by
        obtain ⟨oc, od, oda, osl⟩ := oe
        obtain ⟨h1, h2⟩ := hz
        dsimp only at h1 h2 hv
        subst h1 h2 hv
        cases od with
        | none => exact ⟨none, hget, rfl, rfl, trivial⟩
        | some dx =>
          obtain ⟨fv, hH⟩ := hdd dx rfl
          obtain ⟨mA, hns, _⟩ := (show ObjOk X.prog X.w H s.heap dx (.xd fv) from I.hok dx _ hH)
          obtain ⟨o, ho, _⟩ := lookIn_ns hns
          exact ⟨some o, hget, rfl, rfl, ho⟩
      obtain ⟨od, J⟩ := J
      have hcl : (PySem.W.clsIn X.K D).isSome = true := by
        have := C.hd
        unfold PySem.W.hasDictIn at this
        cases hq : PySem.W.clsIn X.K D with
        | none => rw [hq] at this; cases this
        | some _ => rfl
      exact PySem.W.kia_one (PySem.W.kitx_exc (od := od) hcl C.hg C.hk C.hs C.ha C.hn C.ht C.hm) I.kIn J e (fun z => nomatch z) fun tk => ⟨.bl b, H, I.kept (t' := tk) fun _ _ z => z, rfl, q⟩
/-- isinstance(e, d) -/
theorem sim_isX {t : XTab} {a Cd : Addr} {dd : Option Addr} (T : XTok c.K c.mg t) (hx : c.xo = some (a, .ref Cd, dd)) : FunSim c (dIsX t) (rIsE2 c.K Cd a dd) := by
  intro G μ ρ m σ H xs us d Q S rs e k
  unfold dIsX at e
  split at e
  · rename_i cn fs dn he
    obtain ⟨x, y, rfl, hx1, hy1⟩ := map2 he
    obtain ⟨u, v, rfl, r, r'⟩ := rep2 rs
    obtain ⟨b, e1, e2⟩ := Option.map_eq_some_iff.mp e
    cases e2
    have ex : x = .exc cn fs := view_flat hx1 (by simp) (by simp) (by simp)
    have ey : y = .cls dn := view_flat hy1 (by simp) (by simp) (by simp)
    subst ex ey
    cases r with
    | exc h1 h2 =>
      rename_i a' cc dd
      rw [hx] at h1
      cases h1
      cases r' with
      | cls hD =>
        rename_i D
        obtain ⟨⟨C, v, P⟩, _⟩ := T _ (lookup_mem e1)
        obtain ⟨C2, h3, h4, h5⟩ := h2
        have hfr : ∀ dx, dd = some dx → ∃ fv, H dx = some (.xd fv) := fun dx e => by
          rcases h5 with ⟨_, q⟩ | ⟨_, d2, fv, q, hG, _⟩
          · rw [q] at e; cases e
          · rw [q] at e; cases e; exact ⟨fv, S.mem.gh _ _ hG⟩
        have e3 : C = C2 := Value.ref.inj (Option.some.inj (P.g.symm.trans h3))
        subst e3
        obtain rfl : Cd = C := Value.ref.inj h4
        have hv : v = .ref D := by
          rcases P.n with ⟨q, _⟩ | ⟨_, q, _⟩
          · exact Option.some.inj (q.symm.trans hD)
          · rw [show c.mg dn = some _ from hD] at q; cases q
        subst hv
        exact ⟨hfr, .ref D, .ref D, b, rfl, fun u h => h, P.kit, k _ _ _ _ S (.bl b) Gr.refl⟩
  · rename_i cn fs n he
    obtain ⟨x, y, rfl, hx1, hy1⟩ := map2 he
    obtain ⟨u, v, rfl, r, r'⟩ := rep2 rs
    split at e
    · rename_i hn
      subst hn
      obtain ⟨b, e1, e2⟩ := Option.map_eq_some_iff.mp e
      cases e2
      have ex : x = .exc cn fs := view_flat hx1 (by simp) (by simp) (by simp)
      have ey : y = .ty "ValueError" := view_flat hy1 (by simp) (by simp) (by simp)
      subst ex ey
      cases r with
      | exc h1 h2 =>
        rename_i a' cc dd
        rw [hx] at h1
        cases h1
        cases r'
        obtain ⟨⟨C, v, P⟩, _⟩ := T _ (lookup_mem e1)
        obtain ⟨C2, h3, h4, h5⟩ := h2
        have hfr : ∀ dx, dd = some dx → ∃ fv, H dx = some (.xd fv) := fun dx e => by
          rcases h5 with ⟨_, q⟩ | ⟨_, d2, fv, q, hG, _⟩
          · rw [q] at e; cases e
          · rw [q] at e; cases e; exact ⟨fv, S.mem.gh _ _ hG⟩
        have e3 : C = C2 := Value.ref.inj (Option.some.inj (P.g.symm.trans h3))
        subst e3
        obtain rfl : Cd = C := Value.ref.inj h4
        have hv : v = .type "ValueError" := by
          rcases P.n with ⟨_, q⟩ | ⟨_, _, q⟩
          · exact absurd rfl q
          · exact q
        subst hv
        exact ⟨hfr, .ty "ValueError", .type "ValueError", b, rfl, fun u h => h, P.kit, k _ _ _ _ S (.bl b) Gr.refl⟩
    · cases e
  · cases e
theorem xe_isX {e1 e2 : Expr} {t : XTab} {l : EL} {k : Nat} {a C : Addr} {oe : Obj} {dd : Option Addr} {pn : List (Addr × Obj)} {p pos : Pos} (T : XTok X.K X.mg t) (Y : Caught X c a oe pn C dd) (F : Fit0 (X.suite a ((a, oe) :: pn)) c k) (hm : X.mg "isinstance" = none)
    (ha : PA (X.suite a ((a, oe) :: pn)) [e1, e2] (rL c l)) (hg : Gl (X.suite a ((a, oe) :: pn)) "isinstance" := by rfl)
    (hst : starEach [e1, e2] X.env = (false, eval e1 X.env) :: starEach [e2] X.env := by rfl) (hpl : (backTo pos (starEach [e2] X.env)).any (·.1) = false := by rfl) :
    PE (X.suite a ((a, oe) :: pn)) (.Call (.Name "isinstance" p) [e1, e2] [] pos) (rE c (eFun (dIsX t) l)) :=
  xe_fun (X := X.suite a ((a, oe) :: pn)) (r := rIsE2 c.K C a dd) (by rw [F.K]; exact call_isE2 Y.e Y.z Y.f) (sim_isX (by rw [F.K, F.mg]; exact T) Y.x) hg hm (by decide +kernel) ha (by decide) (by decide) hst hpl
/-- a class of errors as a value -/
theorem xe_cls {d : Str} {D : Addr} {k : Nat} {pos : Pos} (F : Fit0 X c k) (hg : Gl X d) (gd : X.mg d = some (.ref D)) (hdb : (d == ("__debug__" : Str)) = false := by decide) : PE X (.Name d pos) (rE c (eC (.cls d))) :=
  xe_glob hg gd (fun _ _ => .cls (by rw [F.mg]; exact gd)) rfl hdb
theorem xe_vErr {k : Nat} {pos : Pos} (F : Fit0 X c k) (hg : Gl X "ValueError") (hm : X.mg "ValueError" = none) : PE X (.Name "ValueError" pos) (rE c (eC (.ty "ValueError"))) :=
  (pe_bltn (v := .ty "ValueError") hg hm (by decide +kernel) rfl (by decide) (by decide)).imp fun _ _ _ h => rE_const (fun _ _ => .ty "ValueError") h
theorem Sim.wipe (S : Sim c G μ ρ m σ H) : ∀ vs : List Nat, Sim c G μ (wipeE ρ vs) m σ H
  | [] => S
  | v :: vs => by
    have h := S.wipe vs
    refine ⟨h.mem, fun j d e => ?_, by simp [wipeE, h.len]⟩
    have e : ((wipeE ρ vs).set v none)[j]? = some (some d) := e
    by_cases hj : v = j
    · subst hj
      by_cases hl : v < (wipeE ρ vs).length
      · rw [List.getElem?_set_self hl] at e; cases e
      · rw [List.getElem?_eq_none (by simpa using hl)] at e; cases e
    · rw [List.getElem?_set_ne hj] at e
      exact h.env j d e
theorem PostS.wiped {D : Ends} {b : S} {vs : List Nat} (h : PostS c G μ D (sW b vs ρ m)) : PostS c G μ D (b ρ m) := by
  unfold sW at h
  cases e : b ρ m with
  | nx ρ1 m1 => rw [e] at h; exact fun σ H G' μ' S g => h _ _ _ _ (S.wipe vs) g
  | bk ρ1 m1 => rw [e] at h; exact fun σ H G' μ' S g => h _ _ _ _ (S.wipe vs) g
  | ct ρ1 m1 => rw [e] at h; exact fun σ H G' μ' S g => h _ _ _ _ (S.wipe vs) g
  | rt d m1 => rw [e] at h; exact h
  | exc x ρ1 m1 => rw [e] at h; exact h
  | bad => rw [e] at h; exact h
theorem xs_wipe {st : Stmt} {b : S} (vs : List Nat) (h : PS X st (rS c b)) : PS X st (rS c (sW b vs)) :=
  h.imp fun D σ H ⟨ρ, m, G, μ, S, q⟩ => ⟨ρ, m, G, μ, S, q.wiped⟩
theorem xss_wipe {st : List Stmt} {b : S} (vs : List Nat) (h : PSs X st (rS c b)) : PSs X st (rS c (sW b vs)) :=
  h.imp fun D σ H ⟨ρ, m, G, μ, S, q⟩ => ⟨ρ, m, G, μ, S, q.wiped⟩
end
end TT

set_option maxHeartbeats 4000000
/-! T11: len(set(..)), sorted(set(..)) of signs, texts, ints. -/
namespace SG
open PySem PySem.Spec PyProof.Rows L2
/-- keys that a set holds -/
structure KI (P : Program) (w : World) (K : Type) [DecidableEq K] where
  knd : PySem.KeyKind P w K
  val : K → Tok → Value
  key : Value → K
  kv : ∀ k t, key (val k t) = k
  iv : ∀ k t, knd.is k (val k t) = true
  ii : ∀ k k0 t, knd.is k (val k0 t) = true ↔ k0 = k
  sc : ∀ k t, (val k t).scannable = true
def kiStr (P : Program) (w : World) : KI P w Str where
  knd := PySem.strKind P w
  val := fun x t => .str x t
  key := fun v => match v with | .str x _ => x | _ => Str.empty
  kv := fun _ _ => rfl
  iv := fun k t => PySem.strKind_is P w k t
  ii := fun k k0 t => by simp [PySem.strKind, Value.isStrOf]
  sc := fun _ _ => rfl
def kiInt (P : Program) (w : World) : KI P w Int where
  knd := PySem.intKind P w
  val := fun x t => .int x t
  key := fun v => match v with | .int x _ => x | _ => 0
  kv := fun _ _ => rfl
  iv := fun k t => PySem.intKind_is P w k t
  ii := fun k k0 t => by simp [PySem.intKind, Value.isInt]
  sc := fun _ _ => rfl
section
variable {K : Type} [DecidableEq K] {P : Program} {w : World} (J : KI P w K)
def Good (e : Int × Value) : Prop := ∃ k tk, e.2 = J.val k tk ∧ e.1 = J.knd.hash k
def keyE (e : Int × Value) : K := J.key e.2
/-- the set at a: S its members, n their number; its table rises and can be walked -/
def SetG (h : Heap) (a : Addr) (S : K → Bool) (n : Nat) : Prop :=
  ∃ o es ep t, h.get? a = some o ∧ o.ExactSet ∧ o.data = .set es ep t ∧ (∀ e ∈ es.toList, Good J e) ∧ (es.toList.map (keyE J)).Nodup ∧ (∀ k, S k = true ↔ k ∈ es.toList.map (keyE J)) ∧
    es.size < scanBound ∧ t.fits es.size = true ∧ es.size = n ∧ Ris t.place.toList ∧ (w.params.followText "set-order" = true ∨ t.led = true)
variable {J} {h h' : Heap} {a : Addr} {S : K → Bool} {n : Nat}
theorem SetG.at (R : SetG J h a S n) (k : ∀ o, h.get? a = some o → h'.get? a = some o) : SetG J h' a S n := by
  obtain ⟨o, es, ep, t, ho, r⟩ := R
  exact ⟨o, es, ep, t, k o ho, r⟩
theorem SetG.congr {S' : K → Bool} (R : SetG J h a S n) (e : ∀ k, S' k = S k) : SetG J h a S' n := (funext e : S' = S) ▸ R
theorem good_elemsG {l : List (Int × Value)} (g : ∀ e ∈ l, Good J e) : ElemsOf J.knd l := fun e he => by
  obtain ⟨k, tk, h1, h2⟩ := g e he
  exact ⟨⟨k, by rw [h1]; exact J.iv k tk, h2⟩, by rw [h1]; exact J.sc k tk⟩
theorem good_isG {e : Int × Value} (g : Good J e) (k : K) : J.knd.is k e.2 = true ↔ keyE J e = k := by
  obtain ⟨k0, tk, h1, _⟩ := g
  unfold keyE
  rw [h1, J.kv]
  exact J.ii k k0 tk
theorem good_memG {l : List (Int × Value)} (g : ∀ e ∈ l, Good J e) (k : K) : k ∈ l.map (keyE J) ↔ ∃ e ∈ l, J.knd.is k e.2 = true := by
  rw [List.mem_map]
  exact ⟨fun ⟨e, he, q⟩ => ⟨e, he, (good_isG (g e he) k).2 q⟩, fun ⟨e, he, q⟩ => ⟨e, he, (good_isG (g e he) k).1 q⟩⟩
theorem setG_new {S : K → Bool} (ho : h.get? a = some { cls := .type "set", dict := none, data := .set #[] 0 (.fresh 0 0 (!w.params.followText "set-order")) }) (hS : ∀ k, S k = false) : SetG J h a S 0 :=
  ⟨_, #[], 0, _, ho, ⟨rfl, rfl, rfl⟩, rfl, (fun e he => by simp at he), (by simp), (fun k => by simp [hS k]), (by decide), (by rfl), rfl, List.Pairwise.nil, by
    show _ ∨ (!w.params.followText "set-order") = true
    cases w.params.followText "set-order"
    · exact .inr rfl
    · exact .inl rfl⟩
variable {A : Around} {E : Value → Shared → Prop} {s : Shared}
theorem setG_tail {g : Bool → Sem Unit} (hg : ∀ (b : Bool) (s₁ : Shared) (Q' : Unit → Shared → Prop), Q' () s₁ → wpAny (model P w) A (g b) Q' E s₁)
    {o : Obj} {es : Array (Int × Value)} {ep : Nat} {t : SetTable} (ho : s.heap.get? a = some o) (hex : o.ExactSet) (hd : o.data = .set es ep t)
    {es1 : Array (Int × Value)} {t2 : SetTable} {S' : K → Bool} (g1 : ∀ e ∈ es1.toList, Good J e) (nd1 : (es1.toList.map (keyE J)).Nodup) (m1 : ∀ k, S' k = true ↔ k ∈ es1.toList.map (keyE J))
    (hb1 : es1.size < scanBound) (hf2 : t2.fits es1.size = true) (hr : Ris t2.place.toList) (hl : w.params.followText "set-order" = true ∨ t2.led = true) {wasDummy : Bool} {R : Option Bool → Shared → Prop}
    (hR : ∀ h', Heap.SameBut a s.heap h' → SetG J h' a S' es1.size → R (some true) { s with heap := h' }) :
    wpAny (model P w) A (do
        storeSet a es1 t2
        if (!wasDummy && t2.tooFull) = true then do
            g (relayAll t2 es1 (SetTable.grown es1.size)).2.2
            storeSet a (relayAll t2 es1 (SetTable.grown es1.size)).1 (relayAll t2 es1 (SetTable.grown es1.size)).2.1
            pure (some true)
          else pure (some true)) R E s := by
  refine wpAny_bind (wpAny_storeSet_of ho hd ?_ (fits_of_scanBound hb1))
  have ho1 := store_at (es' := es1) (t' := t2) ho hd
  have sb1 := Heap.SameBut.update s.heap a (Obj.putSet es1 t2)
  split
  · have pm := relayAll_perm t2 es1 (SetTable.grown es1.size)
    have hf3 := relayAll_fits t2 es1 (SetTable.grown es1.size)
    have hr3 := relayAll_ris t2 es1 (SetTable.grown es1.size)
    have hl3 := relayAll_led t2 es1 (SetTable.grown es1.size)
    generalize relayAll t2 es1 (SetTable.grown es1.size) = Z at pm hf3 hr3 hl3 ⊢
    obtain ⟨es2, t3, gave⟩ := Z
    dsimp only at pm hf3 hr3 hl3 ⊢
    have hsz : es2.size = es1.size := by rw [← Array.length_toList, pm.length_eq, Array.length_toList]
    have hb2 : es2.size < scanBound := by rw [hsz]; exact hb1
    refine wpAny_bind (hg _ _ _ ?_)
    refine wpAny_bind (wpAny_storeSet_of ho1 rfl ?_ (fits_of_scanBound hb2))
    have ho2 := store_at (es' := es2) (t' := t3) ho1 rfl
    exact wpAny_pure (hR _ (sb1.trans (Heap.SameBut.update _ a _)) ⟨_, es2, _, t3, ho2, hex, rfl, fun e he => g1 e (pm.mem_iff.mp he), (pm.map (keyE J)).nodup_iff.mpr nd1, fun k => (m1 k).trans (pm.map (keyE J)).mem_iff.symm, hb2, hf3, hsz, hr3,
      hl.imp id fun z => by rw [hl3]; exact z⟩)
  · exact wpAny_pure (hR _ sb1 ⟨_, es1, _, t2, ho1, hex, rfl, g1, nd1, m1, hb1, hf2, rfl, hr, hl⟩)
theorem setG_add {k : K} {tk : Tok} {Q : Bool → Shared → Prop} (R : SetG J s.heap a S n) (room : n + 1 < scanBound)
    (hQ : ∀ h', Heap.SameBut a s.heap h' → SetG J h' a (fun j => S j || decide (j = k)) (if S k = true then n else n + 1) → Q (!S k) { s with heap := h' }) :
    wpAny (model P w) A (setAddHashed a (J.val k tk) (J.knd.hash k)) Q E s := by
  obtain ⟨o, es, ep, t, ho, hex, hd, g, nd, hm, hb, hf, hn, hr, hl⟩ := R
  have hkey : J.knd.is k (J.val k tk) = true := J.iv k tk
  have hsc : (J.val k tk).scannable = true := J.sc k tk
  have hel : ElemsOf J.knd es.toList := good_elemsG g
  unfold setAddHashed setAddHashedIn
  refine wpAny_holding (wpAny_bind (wpAny_setState_of ho hd hf ?_))
  dsimp only
  rw [byScan_of hsc hb hel]
  simp only [↓reduceIte]
  unfold setAddByScan
  refine wpAny_bind ?_
  refine wpAny_bind (wpAny_rule ?_)
  refine wpAny_bind (wpAny_setScan_of hkey ho hd hf hel ?_)
  cases hfi : List.findIdx? (fun e => J.knd.is k e.2) es.toList with
  | some j =>
    dsimp only
    obtain ⟨hj, pj, _⟩ := List.findIdx?_eq_some_iff_getElem.mp hfi
    have hSk : S k = true := (hm k).2 ((good_memG g k).2 ⟨es.toList[j], List.getElem_mem hj, pj⟩)
    refine wpAny_pure (wpAny_pure ?_)
    have q := hQ s.heap (Heap.SameBut.refl a s.heap) ⟨o, es, ep, t, ho, hex, hd, g, nd, fun i => by
      rw [Bool.or_eq_true, decide_eq_true_eq, ← hm i]
      exact ⟨fun z => z.elim id (fun e => e ▸ hSk), .inl⟩, hb, hf, by rw [if_pos hSk]; exact hn, hr, hl⟩
    rw [hSk] at q
    exact q
  | none =>
    dsimp only
    have hnk : k ∉ es.toList.map (keyE J) := fun z => by
      obtain ⟨e, he, q⟩ := (good_memG g k).1 z
      have c := List.findIdx?_eq_none_iff.mp hfi e he
      rw [q] at c
      cases c
    have hSk : S k = false := by
      cases q : S k with
      | false => rfl
      | true => exact absurd ((hm k).1 q) hnk
    have hgw : ∀ (b : Bool) {s₁ : Shared} {Q' : Unit → Shared → Prop}, Q' () s₁ → wpAny (model P w) A (match b with | true => rule "set.scan.the-table-gave-way" | false => pure ()) Q' E s₁ :=
      fun b s₁ Q' q => by cases b <;> first | exact wpAny_pure q | exact wpAny_rule q
    have pm := layNew_perm t es (J.knd.hash k) (J.val k tk)
    have hf1 := layNew_fits t es (J.knd.hash k) (J.val k tk)
    have hr1 := layNew_ris t es (J.knd.hash k) (J.val k tk) hr
    have hl1 := layNew_led t es (J.knd.hash k) (J.val k tk)
    generalize layNew t es (J.knd.hash k) (J.val k tk) = Z at pm hf1 hr1 hl1 ⊢
    obtain ⟨es1, t1, wasDummy, gave⟩ := Z
    dsimp only at pm hf1 hr1 hl1 ⊢
    rw [Array.toList_push] at pm
    have pc : es1.toList.Perm ((J.knd.hash k, J.val k tk) :: es.toList) := pm.trans (List.perm_append_singleton _ _)
    have pk : (es1.toList.map (keyE J)).Perm (k :: es.toList.map (keyE J)) := by
      have z := pc.map (keyE J)
      rw [List.map_cons, show keyE J (J.knd.hash k, J.val k tk) = k from J.kv k tk] at z
      exact z
    have g1 : ∀ e ∈ es1.toList, Good J e := fun e he => by
      rcases List.mem_cons.mp (pc.mem_iff.mp he) with z | z
      · rw [z]; exact ⟨k, tk, rfl, rfl⟩
      · exact g e z
    have nd1 : (es1.toList.map (keyE J)).Nodup := pk.nodup_iff.mpr (List.nodup_cons.mpr ⟨hnk, nd⟩)
    have m1 : ∀ i, (S i || decide (i = k)) = true ↔ i ∈ es1.toList.map (keyE J) := fun i => by
      rw [Bool.or_eq_true, decide_eq_true_eq, hm i, pk.mem_iff, List.mem_cons]
      exact Or.comm
    have hsz : es1.size = n + 1 := by rw [← Array.length_toList, pc.length_eq, List.length_cons, Array.length_toList, hn]
    have hb1 : es1.size < scanBound := by rw [hsz]; exact room
    have hled : w.params.followText "set-order" = true ∨ t1.led = true := hl.imp id fun z => by rw [hl1]; exact z
    have fin : ∀ h', Heap.SameBut a s.heap h' → SetG J h' a (fun j => S j || decide (j = k)) es1.size → Q true { s with heap := h' } := fun h' sb r => by
      have q := hQ h' sb
      rw [hSk] at q
      rw [hsz] at r
      exact q r
    refine wpAny_bind (hgw _ ?_)
    split
    · refine wpAny_bind ?_
      rw [hashByValue_scannable 8 hsc]
      refine wpAny_pure ?_
      refine setG_tail ?_ ho hex hd g1 nd1 m1 hb1 ?_ ?_ ?_ ?_
      · intro b s₁ Q' q; cases b <;> first | exact wpAny_pure q | exact wpAny_rule q
      · first | (split <;> first | exact hf1 | exact SetTable.fits_plain_off hf1) | exact hf1
      · first | (split <;> exact hr1) | exact hr1
      · first | (split <;> exact hled) | exact hled
      · intro h' sb r; dsimp only; exact wpAny_pure (fin h' sb r)
    · refine wpAny_bind (wpAny_pure ?_)
      simp only [↓reduceIte]
      refine setG_tail ?_ ho hex hd g1 nd1 m1 hb1 hf1 hr1 hled ?_
      · intro b s₁ Q' q; cases b <;> first | exact wpAny_pure q | exact wpAny_rule q
      · intro h' sb r; dsimp only; exact wpAny_pure (fin h' sb r)
/-- the loop over what is walked -/
theorem setG_loop {I : Addr} {fp wr : List Addr} {G : Array GenState → Array GenState → Prop} {n : Nat} {Pv : Nat → Value → Prop} {St : Nat → Shared → Prop} {R : Result → Shared → Prop}
    (W : WalksS P w A.in1 I fp wr G n Pv St) (X : Addr) (hXf : X ∉ fp) (ks : List K) (hn : n = ks.length) (hb : ks.length + 1 < scanBound) (hval : ∀ i v, Pv i v → ∃ k t, ks[i]? = some k ∧ v = J.val k t) :
    ∀ (k i : Nat) (s : Shared), n - i = k → i ≤ n → St i s → (∃ c, c ≤ i ∧ SetG J s.heap X (fun j => decide (j ∈ ks.take i)) c) →
      (∀ s' c, Moved (X :: wr) G s s' → SetG J s'.heap X (fun j => decide (j ∈ ks)) c → R (.ok (.ret .none)) s') →
      codeAny (model P w) A (.builtin "set.update.loop" ⟨[.ref X, .ref I], []⟩) R s := by
  have hXw : X ∉ wr := fun h => hXf (W.sub _ h)
  have hsub : ∀ b ∈ wr, b ∈ X :: wr := fun b hb => List.mem_cons_of_mem _ hb
  intro k
  induction k with
  | zero =>
    intro i s hk' hi hst ⟨c, hc, hS⟩ hR
    have hin : i = n := by omega
    subst hin
    refine codeAny_builtin PyProof.Rows.F.entry_set_update_loop ?_
    rw [Around.under_plainId PyProof.Rows.F.plain_set_update_loop _]
    show wpAny _ A.in1 (pyNext (.ref I) >>= _) _ _ s
    refine wpAny_bind (W.done s _ _ hst fun s' hm => ?_)
    show wpAny _ A.in1 (ret Value.none) _ _ s'
    have e : ks.take i = ks := List.take_of_length_le (by omega)
    rw [e] at hS
    exact wpAny_pure (hR s' c (hm.mono hsub) (hS.at fun o e => hm.heap X o hXw e))
  | succ k ih =>
    intro i s hk' hi hst ⟨c, hc, hS⟩ hR
    have hlt : i < n := by omega
    refine codeAny_builtin PyProof.Rows.F.entry_set_update_loop ?_
    rw [Around.under_plainId PyProof.Rows.F.plain_set_update_loop _]
    show wpAny _ A.in1 (pyNext (.ref I) >>= _) _ _ s
    refine wpAny_bind (W.item i s _ _ hlt hst fun v s' hP hst' hm => ?_)
    obtain ⟨z, t, hz, rfl⟩ := hval i v hP
    have hS' : SetG J s'.heap X (fun j => decide (j ∈ ks.take i)) c := hS.at fun o e => hm.heap X o hXw e
    show wpAny _ A.in1 (holding [J.val z t] (setAdd X (J.val z t)) >>= _) _ _ s'
    refine wpAny_bind (wpAny_holding ?_)
    unfold setAdd
    refine wpAny_holding ?_
    refine wpAny_bind (J.knd.pyHash (k := z) (J.iv _ _) ?_)
    refine setG_add (s := { s' with toks := s'.toks + 1 }) hS' (by omega) fun h' hsb hS2 => ?_
    have hS3 : SetG J h' X (fun j => decide (j ∈ ks.take (i + 1))) (if decide (z ∈ ks.take i) = true then c else c + 1) := hS2.congr fun j => by
      rw [List.take_add_one, hz]
      simp [List.mem_append]
    have hc3 : (if decide (z ∈ ks.take i) = true then c else c + 1) ≤ i + 1 := by
      split <;> omega
    refine wpAny_pure ⟨plainId_quiet PyProof.Rows.F.plain_set_update_loop _, ih (i + 1) _ (by omega) hlt (W.frame _ s' _ _ hst' (Nat.le_succ _) fun b hb o e => ?_) ⟨_, hc3, hS3⟩ fun s'' c2 hm'' hS'' => ?_⟩
    · rw [hsb.2 b (fun h : b = X => hXf (by rw [← h]; exact hb))]; exact e
    · refine hR s'' c2 (Moved.trans W.gtrans ((hm.mono hsub).then_heap (Nat.le_succ _) fun b o hb e => ?_) hm'') hS''
      rw [hsb.2 b (fun h : b = X => hb (by rw [h]; exact List.mem_cons_self))]; exact e
end
end SG
namespace SG
open PySem PySem.Spec PyProof.Rows L2
section
variable {K : Type} [DecidableEq K] {P : Program} {w : World} {J : KI P w K} {A : Around} {E : Value → Shared → Prop} {s : Shared}
abbrev freshSet (w : World) : Obj := { cls := .type "set", dict := none, data := .set #[] 0 (.fresh 0 0 (!w.params.followText "set-order")) }
set_option maxHeartbeats 6400000 in
theorem call_setG {v : Value} {T : String} {o : Obj} {G : Heap → Prop} {src : List Addr} {n : Nat} {Pv : Nat → Value → Prop} {St : Addr → Nat → Heap → Prop} {Q : Value → Shared → Prop} (ks : List K)
    (B : Begins v o G) (hT : ∀ s' : Shared, (∀ b o, s.heap.get? b = some o → s'.heap.get? b = some o) → s'.TypeIs v T) (hh : A.handled = none) (h1 : isSubtype (.type T) (.type "set") = pure false) (h2 : isSubtype (.type T) (.type "frozenset") = pure false) (hnd : (Value.type T == Value.type "dict") = false)
    (g : G s.heap) (hsrc : ∀ b ∈ src, b < s.heap.objs.size) (W : ∀ (A' : Around) (I : Addr), A'.handled = none → I ∉ src → Walks P w A' I (I :: src) [I] n Pv (St I)) (start : ∀ I h, h.get? I = some o → G h → St I 0 h)
    (hn : n = ks.length) (hb : ks.length + 1 < scanBound) (hval : ∀ i v, Pv i v → ∃ k t, ks[i]? = some k ∧ v = J.val k t)
    (h : ∀ (h' : Heap) (tk c : Nat), SetG J h' s.heap.objs.size (fun j => decide (j ∈ ks)) c → (∀ b o, s.heap.get? b = some o → h'.get? b = some o) → Q (.ref s.heap.objs.size) { s with heap := h', toks := tk }) :
    wpAny (model P w) A (call (.type "set") [v]) Q E s := by
  obtain ⟨c, tl, hmro⟩ := PySem.F.called_set.mro
  have hmade := PySem.F.called_set.made
  have hsub := PySem.F.called_set.sub
  refine wpAny_call (codeAny_of_tree ?_)
  show wpAny _ _ (callAny (.type "set") _) _ _ _
  refine wpAny_pure ⟨Code.quiet_builtin _ (by decide +kernel), codeAny_builtin F.entry_type_call ?_⟩
  rw [Around.under_plain (weight_type_call_type "set" [v] []) rfl]
  have e1 := PySem.F.called_set.notType
  have e2 := PySem.F.called_set.canCreate
  have hct := PySem.F.typeCall_set_1 v
  repeat (any_goals (first | assumption | wp_step))
  refine codeAny_mono (code_set_led1 v (E := E) (Q₁ := fun obj s₁ => obj = .ref s.heap.objs.size ∧ s₁ = { s with heap := s.heap.push (freshSet w) }) ⟨rfl, rfl⟩) fun r s₁ hr => ?_
  cases r with
  | error e => exact hr
  | ok fl =>
    cases fl with
    | ret obj =>
      obtain ⟨rfl, rfl⟩ := hr
      have hS : (s.heap.push (freshSet w)).get? s.heap.objs.size = some (freshSet w) := Heap.get?_push_size _ rfl
      have hTs : Shared.TypeIs { s with heap := s.heap.push (freshSet w) } (.ref s.heap.objs.size) "set" := ⟨_, hS, rfl⟩
      have hli := PySem.F.called_set.init.lookup
      have hbi := PySem.F.called_set.init.bind (.ref s.heap.objs.size)
      repeat (any_goals (first | assumption | wp_step))
      refine codeAny_mono (codeAny_call_builtin (R := wants (fun r s₂ => r = .none ∧ ∃ h' tk c, s₂ = { s with heap := h', toks := tk } ∧ SetG J h' s.heap.objs.size (fun j => decide (j ∈ ks)) c ∧
          (∀ b o, s.heap.get? b = some o → h'.get? b = some o)) E) PySem.F.called_set.init.plain PySem.F.entry_set_init (check_set_init_1 hTs ?_)) fun r₂ s₂ hr₂ => ?_
      · have hTv := hT { s with heap := s.heap.push (freshSet w) } fun b o e => Heap.get?_push_of_some _ e
        unfold Builtin.«set.__init__» noKeywords
        generalize hPI : Builtin.Frozenset.updateFrom = PI
        wp_walk
        subst hPI
        unfold Builtin.Frozenset.updateFrom
        refine wpAny_bind ?_
        refine wpAny_bind (wpAny_isInstance (b := false) hTv h1 (wpAny_isInstance (b := false) hTv h2 ?_))
        simp only [Bool.false_eq_true, if_false]
        refine wpAny_bind (wpAny_typeOf hTv ?_)
        simp only [hnd, Bool.false_eq_true, if_false]
        refine wpAny_bind (B.iter P w _ _ _ _ (B.keeps _ _ g fun b o' e => Heap.get?_push_of_some _ e) ?_)
        refine wpAny_bind (wpAny_runValue ?_)
        have hz1 : (s.heap.push (freshSet w)).objs.size = s.heap.objs.size + 1 := Heap.size_push ..
        have hI : (s.heap.push (freshSet w)).objs.size ∉ src := fun q => by
          have z := hsrc _ q
          rw [hz1] at z
          exact Nat.lt_irrefl _ (Nat.lt_of_succ_lt z)
        have hSf : s.heap.objs.size ∉ (s.heap.push (freshSet w)).objs.size :: src := fun q => by
          rcases List.mem_cons.mp q with q | q
          · rw [hz1] at q; omega
          · exact Nat.lt_irrefl _ (hsrc _ q)
        have hh3 : A.in1.in1.in1.handled = none := by simp [hh]
        refine setG_loop ((W _ _ hh3 hI).toS) s.heap.objs.size hSf ks hn hb hval (n - 0) 0 _ (by omega) (Nat.zero_le _)
          (start _ _ (Heap.get?_push_size _ B.free) (B.keeps _ _ g fun b o' e => Heap.get?_push_of_some _ (Heap.get?_push_of_some _ e))) ⟨0, Nat.le_refl 0, setG_new (Heap.get?_push_of_some _ hS) (by simp)⟩ ?hR
        intro s' c' hm hS'
        obtain ⟨h', g2, d', tk', os'⟩ := s'
        have eg : g2 = s.gens := hm.gens
        have ed : d' = s.drawn := hm.drawn
        have eo : os' = s.os := hm.os
        subst eg; subst ed; subst eo
        show wpAny _ _ _ _ _ _
        refine wpAny_pure ?_
        show wpAny _ _ (ret Value.none) _ _ _
        refine wpAny_pure ⟨rfl, h', tk', c', rfl, hS', fun b o e => ?_⟩
        have hb0 : b < s.heap.objs.size := Heap.lt_size e
        refine hm.heap b o (fun q => ?_) (Heap.get?_push_of_some _ (Heap.get?_push_of_some _ e))
        rcases List.mem_cons.mp q with q | q
        · exact absurd hb0 (by rw [q]; exact Nat.lt_irrefl _)
        · have q := List.mem_singleton.mp q
          rw [q, hz1] at hb0
          exact Nat.lt_irrefl _ (Nat.lt_of_succ_lt hb0)
      · cases r₂ with
        | error e => exact hr₂
        | ok fl₂ =>
          cases fl₂ with
          | ret r =>
            obtain ⟨rfl, h', tk, c', rfl, hS', hk'⟩ := hr₂
            repeat (any_goals (first | assumption | wp_step))
            exact h _ _ _ hS' hk'
          | _ => exact hr₂.elim
    | _ => exact hr.elim
end
end SG

set_option maxHeartbeats 4000000
/-! T12: sorted(set(..)), len(set(..)). -/
namespace SG
open PySem PySem.Spec PyProof.Rows L2
section
variable {P : Program} {w : World} {A : Around} {E : Value → Shared → Prop} {s : Shared}
/-- sorted(a set of texts) -/
theorem strs_ofG (P : Program) (w : World) : ∀ (l : List Value), (∀ v ∈ l, ∃ k tk, v = (kiStr P w).val k tk) → StrsAre l (l.map (kiStr P w).key)
  | [], _ => .nil
  | v :: l, h => by
    obtain ⟨k, tk, rfl⟩ := h v List.mem_cons_self
    exact .cons k tk (strs_ofG P w l fun u hu => h u (List.mem_cons_of_mem _ hu))
theorem ints_ofG (P : Program) (w : World) : ∀ (l : List Value), (∀ v ∈ l, ∃ k tk, v = (kiInt P w).val k tk) → IntsAre l (l.map (kiInt P w).key)
  | [], _ => .nil
  | v :: l, h => by
    obtain ⟨k, tk, rfl⟩ := h v List.mem_cons_self
    exact .cons k tk (ints_ofG P w l fun u hu => h u (List.mem_cons_of_mem _ hu))
theorem sorted_setS {a : Addr} {S : Str → Bool} {n : Nat} {Q : Value → Shared → Prop} (R : SetG (kiStr P w) s.heap a S n) (hh : A.handled = none)
    (hQ : ∀ s' p (out : Array Value) (c : Nat) (ns : List Str), (∀ b o, s.heap.get? b = some o → s'.heap.get? b = some o) → s'.gens = s.gens → s'.os = s.os → s.heap.objs.size ≤ p →
      s'.heap.get? p = some (seqObj "list" out c) → StrsAre out.toList ns → sortedS ns = true → ns.Nodup → (∀ k, k ∈ ns ↔ S k = true) → ns.length < scanBound → Q (.ref p) s') :
    wpAny (model P w) A (call (.builtin "sorted") [.ref a]) Q E s := by
  obtain ⟨o, es, ep, t, ho, hex, hd, g, nd, hm, hb, hf, hn, hr, hl⟩ := R
  refine Calls.call_function_entry kind_sorted plain_sorted entry_sorted (args_sorted1 _) ?_
  unfold Builtin.«sorted»
  refine wpAny_bind (m := checkCount "sorted" 1 1 _) (wpAny_pure ?_)
  refine wpAny_bind (collect_set (A := A.in1) hh ⟨o, ho, hex.1, hd⟩ hf hb hr hl fun s1 vs k1 hz g1 o1 pm => ?_)
  have hvl : vs.length = n := by rw [pm.length_eq, List.length_map, Array.length_toList]; exact hn
  have hvb : vs.length < scanBound := by rw [hvl, ← hn]; exact hb
  have hI : StrsAre vs (vs.map (kiStr P w).key) := strs_ofG P w vs fun v hv => by
    obtain ⟨e, he, q⟩ := List.mem_map.mp (pm.mem_iff.mp hv)
    obtain ⟨k, tk, h1, _⟩ := g e he
    exact ⟨k, tk, by rw [← q]; exact h1⟩
  have pk : (vs.map (kiStr P w).key).Perm (es.toList.map (keyE (kiStr P w))) := by
    have q := pm.map (kiStr P w).key
    rw [List.map_map] at q
    exact q
  have hsl : vs.length ≤ sizeLine := by
    have : scanBound = 4096 := rfl
    rw [sizeLine_eq]
    omega
  refine wpAny_bind (wpAny_newList ?_ hsl)
  have hoL : (s1.heap.push (seqObj "list" vs.toArray 0)).get? s1.heap.objs.size = some (seqObj "list" vs.toArray 0) := Heap.get?_push_size _ rfl
  refine wpAny_bind (wpAny_holding (wpAny_call_entry slot_list_sort ⟨_, hoL, rfl⟩ entry_list_sort (list_sort_treeKAny strKind_oneLt hoL hI.keysOf (fun v₁ v₂ rest e => keyKind_strs (by rw [← e]; exact hI)) hsl fun st' hp hs => ⟨_, rfl, ?_⟩) (args_list_sort _)))
  obtain ⟨ns', a1, a2, a3⟩ := sorted_out_str hI hp hs
  obtain ⟨c, hc⟩ := sortedHeap_at (vs := vs) (out := (arrOf st').map (·.2)) hoL
  have pn : ns'.Perm (es.toList.map (keyE (kiStr P w))) := a2.trans pk
  refine wpAny_pure ⟨_, rfl, hQ _ s1.heap.objs.size _ c ns' (fun b u e => ?_) g1 o1 hz hc a1 a3 (pn.nodup_iff.mpr nd) (fun k => by rw [pn.mem_iff, ← hm k]) (by rw [a2.length_eq, List.length_map]; exact hvb)⟩
  have q := k1 b u e
  have hlt := Heap.lt_size q
  show (sortedHeap (s1.heap.push (seqObj "list" vs.toArray 0)) s1.heap.objs.size vs _).get? b = some u
  rw [sortedHeap_old (Nat.ne_of_lt hlt) (by rw [size_push']; exact Nat.lt_succ_of_lt hlt)]
  exact Heap.get?_push_of_some _ q
theorem sorted_setI {a : Addr} {S : Int → Bool} {n : Nat} {Q : Value → Shared → Prop} (R : SetG (kiInt P w) s.heap a S n) (hh : A.handled = none)
    (hQ : ∀ s' p (out : Array Value) (c : Nat) (ns : List Int), (∀ b o, s.heap.get? b = some o → s'.heap.get? b = some o) → s'.gens = s.gens → s'.os = s.os → s.heap.objs.size ≤ p →
      s'.heap.get? p = some (seqObj "list" out c) → IntsAre out.toList ns → ns.Pairwise (· < ·) → (∀ k, k ∈ ns ↔ S k = true) → ns.length < scanBound → Q (.ref p) s') :
    wpAny (model P w) A (call (.builtin "sorted") [.ref a]) Q E s := by
  obtain ⟨o, es, ep, t, ho, hex, hd, g, nd, hm, hb, hf, hn, hr, hl⟩ := R
  refine Calls.call_function_entry kind_sorted plain_sorted entry_sorted (args_sorted1 _) ?_
  unfold Builtin.«sorted»
  refine wpAny_bind (m := checkCount "sorted" 1 1 _) (wpAny_pure ?_)
  refine wpAny_bind (collect_set (A := A.in1) hh ⟨o, ho, hex.1, hd⟩ hf hb hr hl fun s1 vs k1 hz g1 o1 pm => ?_)
  have hvl : vs.length = n := by rw [pm.length_eq, List.length_map, Array.length_toList]; exact hn
  have hvb : vs.length < scanBound := by rw [hvl, ← hn]; exact hb
  have hI : IntsAre vs (vs.map (kiInt P w).key) := ints_ofG P w vs fun v hv => by
    obtain ⟨e, he, q⟩ := List.mem_map.mp (pm.mem_iff.mp hv)
    obtain ⟨k, tk, h1, _⟩ := g e he
    exact ⟨k, tk, by rw [← q]; exact h1⟩
  have pk : (vs.map (kiInt P w).key).Perm (es.toList.map (keyE (kiInt P w))) := by
    have q := pm.map (kiInt P w).key
    rw [List.map_map] at q
    exact q
  have hsl : vs.length ≤ sizeLine := by
    have : scanBound = 4096 := rfl
    rw [sizeLine_eq]
    omega
  refine wpAny_bind (wpAny_newList ?_ hsl)
  have hoL : (s1.heap.push (seqObj "list" vs.toArray 0)).get? s1.heap.objs.size = some (seqObj "list" vs.toArray 0) := Heap.get?_push_size _ rfl
  refine wpAny_bind (wpAny_holding (wpAny_call_entry slot_list_sort ⟨_, hoL, rfl⟩ entry_list_sort (list_sort_treeAny hoL hI hsl fun out ns' a1 a2 a3 => ⟨_, rfl, ?_⟩) (args_list_sort _)))
  obtain ⟨c, hc⟩ := sortedHeap_at (vs := vs) (out := out) hoL
  have pn : ns'.Perm (es.toList.map (keyE (kiInt P w))) := a2.trans pk
  refine wpAny_pure ⟨_, rfl, hQ _ s1.heap.objs.size _ c ns' (fun b u e => ?_) g1 o1 hz hc a1 (lt_of_le_nodup ns' a3 (pn.nodup_iff.mpr nd)) (fun k => by rw [pn.mem_iff, ← hm k]) (by rw [a2.length_eq, List.length_map]; exact hvb)⟩
  have q := k1 b u e
  have hlt := Heap.lt_size q
  show (sortedHeap (s1.heap.push (seqObj "list" vs.toArray 0)) s1.heap.objs.size vs _).get? b = some u
  rw [sortedHeap_old (Nat.ne_of_lt hlt) (by rw [size_push']; exact Nat.lt_succ_of_lt hlt)]
  exact Heap.get?_push_of_some _ q
end
theorem paired_get {α β : Type} {F : α → β → Prop} : ∀ {l₁ : List α} {l₂ : List β} {j : Nat} {x : β}, Paired F l₁ l₂ → l₂[j]? = some x → ∃ y, l₁[j]? = some y ∧ F y x
  | _, _, _, _, .nil, h => by simp at h
  | _, _, 0, _, .cons a _, h => by
    obtain rfl := by simpa using h
    exact ⟨_, rfl, a⟩
  | _, _, j + 1, _, .cons _ t, h => by
    obtain ⟨y, h1, h2⟩ := paired_get (j := j) t (by simpa using h)
    exact ⟨y, by simpa using h1, h2⟩
/-! ### as objects of the layer -/
section
variable {K : Type} [DecidableEq K]
def SetX (P : Program) (w : World) (J : KI P w K) (a : Addr) (S : K → Bool) (n : Nat) : HO := .ext fun h => SetG J h a S n
theorem setX_new {P : Program} {w : World} {J : KI P w K} {H : Hp} {h : Heap} {a : Addr} {S : K → Bool} {n : Nat} (R : SetG J h a S n) : ObjOk P w H h a (SetX P w J a S n) := by
  have ⟨o, _, _, _, ho, _⟩ := R
  exact ⟨R, ⟨o, ho⟩, fun h1 h2 p k => SetG.at p k⟩
theorem setX_get {X : Cx} {J : KI X.prog X.w K} {pins : List (Addr × Obj)} {σ : L2.St} {H : Hp} {s : Shared} {a : Addr} {S : K → Bool} {n : Nat} (I : Inv X pins σ H s) (ha : H a = some (SetX X.prog X.w J a S n)) : SetG J s.heap a S n := (I.hok a _ ha).1
end
/-- set(x): x a list or a tuple of texts, or a text -/
def rSetS (P : Program) (w : World) (K : PySem.W.Frag) : List V → Hp → VK → Prop := fun xs H Q => ∃ (x : V) (ks : List Str), xs = [x] ∧ (∃ sh, ZG.Src K H sh x (ks.map V.str)) ∧ ks.length + 1 < scanBound ∧
  ∀ a c, H a = none → Q (.ref a) (upd H a (SetX P w (kiStr P w) a (fun j => decide (j ∈ ks)) c))
def rSetI (P : Program) (w : World) (K : PySem.W.Frag) : List V → Hp → VK → Prop := fun xs H Q => ∃ (x : V) (ks : List Int), xs = [x] ∧ (∃ sh, ZG.Src K H sh x (ks.map V.int)) ∧ ks.length + 1 < scanBound ∧
  ∀ a c, H a = none → Q (.ref a) (upd H a (SetX P w (kiInt P w) a (fun j => decide (j ∈ ks)) c))
section
variable {X : Cx} {pins : List (Addr × Obj)} {σ : L2.St} {H : Hp} {s : Shared}
theorem set_src {K : Type} [DecidableEq K] {J : KI X.prog X.w K} {sh : ZG.Sh} {x : V} {u : Value} {vs : List V} {Q : Value → Shared → Prop} {E : Value → Shared → Prop} (I : Inv X pins σ H s) (hh : X.A.handled = none) (r : RelV x u) (q : ZG.Src X.K H sh x vs) (ks : List K) (hk : vs.length = ks.length)
    (hv : ∀ (i : Nat) (y : V) (v : Value), vs[i]? = some y → RelV y v → ∃ k t, ks[i]? = some k ∧ v = J.val k t) (hb : ks.length + 1 < scanBound)
    (h : ∀ (h' : Heap) (tk c : Nat), SetG J h' s.heap.objs.size (fun j => decide (j ∈ ks)) c → (∀ b o, s.heap.get? b = some o → h'.get? b = some o) → Q (.ref s.heap.objs.size) { s with heap := h', toks := tk }) :
    wpAny (model X.prog X.w) X.A (call (.type "set") [u]) Q E s := by
  cases q with
  | l hs =>
    rename_i a
    cases r
    obtain ⟨its, rv, p, _⟩ := I.list hs
    obtain ⟨o, n0, ho, hc, _, hd⟩ := id p
    have hl := rv.length
    refine call_setG (J := J) (T := "list") (src := [a]) (n := its.toArray.size) (Pv := fun i v => its.toArray[i]? = some v) (St := fun I i h => h.IsListIter I a i ∧ h.IsList a its.toArray) ks (begins_list a its.toArray) (fun s' k => ⟨o, k _ _ ho, hc⟩) hh PySem.F.sub_list_set PySem.F.sub_list_frozenset (by decide) p.isList
      (fun b hb => by obtain rfl : b = a := by simpa using hb
                      exact p.lt) (fun A' I0 h0 hI => Walks.list h0 I0 a (fun z => hI (by simp [z])) its.toArray) (fun I0 h0 e g => ⟨⟨_, e, rfl, rfl⟩, g⟩) (by rw [List.size_toArray, ← hl]; exact hk) hb (fun i v hv' => ?_) h
    have hv' : its[i]? = some v := by simpa using hv'
    obtain ⟨y, hy, ry⟩ := paired_get rv hv'
    exact hv i y v hy ry
  | t hs =>
    rename_i a
    cases r
    obtain ⟨its, rv, p, _⟩ := I.tuple hs
    obtain ⟨o, ho, hc, hd⟩ := id p
    have hl := rv.length
    refine call_setG (J := J) (T := "tuple") (src := [a]) (n := its.toArray.size) (Pv := fun i v => its.toArray[i]? = some v) (St := fun I i h => h.IsTupleIter I a i ∧ h.IsTuple a its.toArray) ks (begins_tuple a its.toArray) (fun s' k => ⟨o, k _ _ ho, hc⟩) hh PySem.F.sub_tuple_set PySem.F.sub_tuple_frozenset (by decide) p
      (fun b hb => by obtain rfl : b = a := by simpa using hb
                      exact Heap.lt_size ho) (fun A' I0 h0 hI => Walks.tuple h0 I0 a (fun z => hI (by simp [z])) its.toArray) (fun I0 h0 e g => ⟨⟨_, e, rfl, rfl⟩, g⟩) (by rw [List.size_toArray, ← hl]; exact hk) hb (fun i v hv' => ?_) h
    have hv' : its[i]? = some v := by simpa using hv'
    obtain ⟨y, hy, ry⟩ := paired_get rv hv'
    exact hv i y v hy ry
  | s z =>
    obtain ⟨t, rfl⟩ := r
    have hl : z.cps.size = ks.length := by rw [← hk]; simp
    refine call_setG (J := J) (T := "str") (src := []) (n := z.cps.size) (Pv := SignAt z) (St := fun I i h => h.IsStrIter I (strIterType z) z t i) ks (begins_text z t) (fun s' k => typeIs_str _ _ _) hh PySem.F.sub_str_set PySem.F.sub_str_frozenset (by decide) trivial
      (fun b hb => by simp at hb) (fun A' I0 h0 hI => ?_) (fun I0 h0 e g => ⟨_, e, rfl, rfl⟩) hl hb (fun i v hv' => ?_) h
    · cases ha : z.cps.all (· < 128)
      · simp only [strIterType, ha, Bool.false_eq_true, if_false]
        exact Walks.strWide h0 I0 z t
      · simp only [strIterType, ha, if_true]
        exact Walks.strAscii h0 I0 z t
    · obtain ⟨c, u, hc, rfl⟩ := hv'
      have hc' : z.cps.toList[i]? = some c := by simpa using hc
      exact hv i (.str ⟨#[c]⟩) _ (by rw [List.getElem?_map, hc']; rfl) ⟨u, rfl⟩
theorem cr_setS (hc : X.calm = true) : CallR X (.type "set") (rSetS X.prog X.w X.K) := by
  intro pins s σ H xs us Q I r h
  obtain ⟨x, ks, rfl, ⟨sh, hs⟩, hb, q⟩ := h
  obtain ⟨u, rfl, ru⟩ := vals1 r
  refine set_src (J := kiStr X.prog X.w) I (I.ok.hd hc) ru hs ks (by simp) (fun i y v hy ry => ?_) hb fun h' tk c R k => ?_
  · rw [List.getElem?_map] at hy
    obtain ⟨z, hz, rfl⟩ := Option.map_eq_some_iff.mp hy
    obtain ⟨t, rfl⟩ := ry
    exact ⟨z, t, hz, rfl⟩
  · exact ⟨.ref _, upd H s.heap.objs.size (SetX X.prog X.w (kiStr X.prog X.w) s.heap.objs.size (fun j => decide (j ∈ ks)) c), I.laid (t' := tk) k (Nat.le_refl _) (setX_new R), rfl, q _ c (I.hok.fresh (Nat.le_refl _))⟩
theorem cr_setI (hc : X.calm = true) : CallR X (.type "set") (rSetI X.prog X.w X.K) := by
  intro pins s σ H xs us Q I r h
  obtain ⟨x, ks, rfl, ⟨sh, hs⟩, hb, q⟩ := h
  obtain ⟨u, rfl, ru⟩ := vals1 r
  refine set_src (J := kiInt X.prog X.w) I (I.ok.hd hc) ru hs ks (by simp) (fun i y v hy ry => ?_) hb fun h' tk c R k => ?_
  · rw [List.getElem?_map] at hy
    obtain ⟨z, hz, rfl⟩ := Option.map_eq_some_iff.mp hy
    obtain ⟨t, rfl⟩ := ry
    exact ⟨z, t, hz, rfl⟩
  · exact ⟨.ref _, upd H s.heap.objs.size (SetX X.prog X.w (kiInt X.prog X.w) s.heap.objs.size (fun j => decide (j ∈ ks)) c), I.laid (t' := tk) k (Nat.le_refl _) (setX_new R), rfl, q _ c (I.hok.fresh (Nat.le_refl _))⟩
def rSortSS (P : Program) (w : World) : List V → Hp → VK → Prop := fun vs H Q => ∃ (a : Addr) (S : Str → Bool) (n : Nat), vs = [V.ref a] ∧ H a = some (SetX P w (kiStr P w) a S n) ∧
  ∀ (ns : List Str) (p : Addr), sortedS ns = true → ns.Nodup → (∀ k, k ∈ ns ↔ S k = true) → H p = none → Q (.ref p) (upd H p (.lst (ns.map V.str)))
def rSortSI (P : Program) (w : World) : List V → Hp → VK → Prop := fun vs H Q => ∃ (a : Addr) (S : Int → Bool) (n : Nat), vs = [V.ref a] ∧ H a = some (SetX P w (kiInt P w) a S n) ∧
  ∀ (ns : List Int) (p : Addr), ns.Pairwise (· < ·) → (∀ k, k ∈ ns ↔ S k = true) → H p = none → Q (.ref p) (upd H p (.lst (ns.map V.int)))
theorem shared_eta {s s' : Shared} (o : s'.os = s.os) : s' = { s with heap := s'.heap, gens := s'.gens, drawn := s'.drawn, toks := s'.toks } := by
  cases s'
  cases s
  cases o
  rfl
theorem cr_sortSS (hc : X.calm = true) : CallR X (.builtin "sorted") (rSortSS X.prog X.w) := by
  intro pins s σ H vs us Q I r h
  obtain ⟨a, S, n, rfl, ha, q⟩ := h
  have R := setX_get I ha
  rw [Vals.ref1 r]
  refine sorted_setS R (I.ok.hd hc) fun s' p out c ns k g o hp hg hi hs hn hm hl => ?_
  have hlen : (ns.map V.str).length ≤ sizeLine := by
    have : scanBound = 4096 := rfl
    rw [List.length_map, sizeLine_eq]; omega
  have hno : H p = none := I.hok.fresh hp
  have J : Inv X pins σ (upd H p (.lst (ns.map V.str))) { s with heap := s'.heap, gens := s'.gens, drawn := s'.drawn, toks := s'.toks } :=
    I.call (ch := []) (Un.laid k hp hno) (I.hok.laid k hp ⟨hlen, out.toList, c, vals_of_strs hi, hg⟩) (by rw [g]; exact I.bare) (fun _ z => nomatch z)
  rw [shared_eta o]
  exact ⟨.ref p, _, J, rfl, q ns p hs hn hm hno⟩
theorem cr_sortSI (hc : X.calm = true) : CallR X (.builtin "sorted") (rSortSI X.prog X.w) := by
  intro pins s σ H vs us Q I r h
  obtain ⟨a, S, n, rfl, ha, q⟩ := h
  have R := setX_get I ha
  rw [Vals.ref1 r]
  refine sorted_setI R (I.ok.hd hc) fun s' p out c ns k g o hp hg hi hs hm hl => ?_
  have hlen : (ns.map V.int).length ≤ sizeLine := by
    have : scanBound = 4096 := rfl
    rw [List.length_map, sizeLine_eq]; omega
  have hno : H p = none := I.hok.fresh hp
  have J : Inv X pins σ (upd H p (.lst (ns.map V.int))) { s with heap := s'.heap, gens := s'.gens, drawn := s'.drawn, toks := s'.toks } :=
    I.call (ch := []) (Un.laid k hp hno) (I.hok.laid k hp ⟨hlen, out.toList, c, vals_of_ints hi, hg⟩) (by rw [g]; exact I.bare) (fun _ z => nomatch z)
  rw [shared_eta o]
  exact ⟨.ref p, _, J, rfl, q ns p hs hm hno⟩
/-- len(a set): some n members, all told once -/
def rLenSX (P : Program) (w : World) : List V → Hp → VK → Prop := fun vs H Q => (∃ (a : Addr) (S : Str → Bool) (n : Nat), vs = [V.ref a] ∧ H a = some (SetX P w (kiStr P w) a S n) ∧
    ∀ L : List Str, L.Nodup → (∀ k, k ∈ L ↔ S k = true) → Q (.int (L.length : Nat)) H) ∨
  ∃ (a : Addr) (S : Int → Bool) (n : Nat), vs = [V.ref a] ∧ H a = some (SetX P w (kiInt P w) a S n) ∧ ∀ L : List Int, L.Nodup → (∀ k, k ∈ L ↔ S k = true) → Q (.int (L.length : Nat)) H
theorem cr_lenSX : CallR X (.builtin "len") (rLenSX X.prog X.w) := by
  intro pins s σ H vs us Q I r h
  rcases h with ⟨a, S, n, rfl, ha, q⟩ | ⟨a, S, n, rfl, ha, q⟩
  · obtain ⟨o, es, ep, t, ho, hex, hd, g, nd, hm, hb, hf, hn, hr, hl⟩ := setX_get I ha
    rw [Vals.ref1 r]
    refine call_len_set ho hex hd hf (by have : scanBound = 4096 := rfl; omega) ⟨.int (es.size : Nat), H, I.tok _, ⟨_, rfl⟩, ?_⟩
    have z := q _ nd fun k => (hm k).symm
    rw [List.length_map, Array.length_toList] at z
    exact z
  · obtain ⟨o, es, ep, t, ho, hex, hd, g, nd, hm, hb, hf, hn, hr, hl⟩ := setX_get I ha
    rw [Vals.ref1 r]
    refine call_len_set ho hex hd hf (by have : scanBound = 4096 := rfl; omega) ⟨.int (es.size : Nat), H, I.tok _, ⟨_, rfl⟩, ?_⟩
    have z := q _ nd fun k => (hm k).symm
    rw [List.length_map, Array.length_toList] at z
    exact z
end
end SG
namespace TT
open PySem PySem.Spec PyProof.Rows L2
/-! ### the mirrors' rules -/
section
variable {X : Cx} {c : Ct} {G : Hp} {μ : List Addr} {ρ : Ev} {m : Mem} {σ : L2.St} {H : Hp}
theorem dedup_spec {α : Type} [DecidableEq α] : ∀ (l : List α), (dedupL l).Nodup ∧ ∀ k, k ∈ dedupL l ↔ k ∈ l
  | [] => ⟨List.nodup_nil, fun k => Iff.rfl⟩
  | x :: l => by
    obtain ⟨h1, h2⟩ := dedup_spec l
    unfold dedupL
    by_cases hx : x ∈ l
    · rw [if_pos hx]
      refine ⟨h1, fun k => (h2 k).trans ⟨fun q => List.mem_cons_of_mem _ q, fun q => ?_⟩⟩
      rcases List.mem_cons.mp q with q | q
      · subst q; exact hx
      · exact q
    · rw [if_neg hx]
      refine ⟨List.nodup_cons.mpr ⟨fun q => hx ((h2 x).mp q), h1⟩, fun k => ?_⟩
      rw [List.mem_cons, List.mem_cons, h2]
theorem nodup_lenE {α : Type} [DecidableEq α] {l l' : List α} (h : l.Nodup) (h' : l'.Nodup) (e : ∀ k, k ∈ l ↔ k ∈ l') : l.length = l'.length :=
  ((List.perm_ext_iff_of_nodup h h').mpr e).length_eq
/-- a source, seen -/
theorem src_view {x : D} {u : V} {xs : List D} (M : MemOk c G μ m H) (r : Rep c.K c.mg c.xo G μ x u) (e : dItems (view m x) = some xs) : ∃ sh vs, RepL c.K c.mg c.xo G μ xs vs ∧ ZG.Src c.K H sh u vs := by
  generalize e1 : view m x = y at e
  cases y with
  | lst ys =>
    cases e
    obtain ⟨a, vs, rfl, ha, ra⟩ := v_lst M r e1
    exact ⟨.l, vs, ra, .l ha⟩
  | tup ys =>
    cases e
    obtain ⟨a, vs, rfl, ha, ra⟩ := v_tup M r e1
    exact ⟨.t, vs, ra, .t ha⟩
  | str s =>
    cases e
    obtain ⟨rfl, ho⟩ := v_str r e1
    exact ⟨.s, _, RepL.signs (okS_signs ho), .s s⟩
  | _ => cases e
theorem sorted_dedup {ns ks : List Str} (h : sortedS ns = true) (nd : ns.Nodup) (e : ∀ k, k ∈ ns ↔ k ∈ ks) : ns = (dedupL ks).mergeSort leS :=
  sorted_is ((List.perm_ext_iff_of_nodup nd (dedup_spec ks).1).mpr fun k => (e k).trans ((dedup_spec ks).2 k).symm) (sortedS_pw h)
theorem sortedI_dedup {ns ks : List Int} (h : ns.Pairwise (· < ·)) (e : ∀ k, k ∈ ns ↔ k ∈ ks) : ns = (dedupL ks).mergeSort fun a b => decide (a ≤ b) := by
  have nd : ns.Nodup := h.imp fun q => by omega
  have p : ns.Perm (dedupL ks) := (List.perm_ext_iff_of_nodup nd (dedup_spec ks).1).mpr fun k => (e k).trans ((dedup_spec ks).2 k).symm
  refine List.Perm.eq_of_pairwise (le := fun a b : Int => a ≤ b) (fun a b _ _ h1 h2 => Int.le_antisymm h1 h2) (h.imp fun q => Int.le_of_lt q) ?_ (p.trans (List.mergeSort_perm _ _).symm)
  have z := List.pairwise_mergeSort (le := fun a b : Int => decide (a ≤ b)) (fun a b c h1 h2 => by simp only [decide_eq_true_eq] at *; omega) (fun a b => by simp only [Bool.or_eq_true, decide_eq_true_eq]; omega) (dedupL ks)
  exact z.imp fun q => by simpa using q
theorem xe_lenSet {a : Expr} {fa : E} {k : Nat} {p p2 q pos : Pos} (F : Fit X c k) (hm : X.mg "len" = none) (hm2 : X.mg "set" = none) (ha : PE X a (rE c fa)) (hg : Gl X "len" := by rfl) (hg2 : Gl X "set" := by rfl)
    (na : starEach [a] X.env = (false, eval a X.env) :: starEach [] X.env := by rfl)
    (nb : starEach [.Call (.Name "set" p2) [a] [] q] X.env = (false, eval (.Call (.Name "set" p2) [a] [] q) X.env) :: starEach [] X.env := by rfl) (hpl : (backTo pos (starEach [] X.env)).any (·.1) = false := by rfl) (hpl2 : (backTo q (starEach [] X.env)).any (·.1) = false := by rfl) :
    PE X (.Call (.Name "len" p) [.Call (.Name "set" p2) [a] [] q] [] pos) (rE c (eUn dLenSet fa)) := by
  refine (pe_callB (p := p) (pos := pos) SG.cr_lenSX hg hm PySem.boot_len (pa_cons (pe_callTy (p := p2) (pos := q) ((SG.cr_setS F.calm).or (SG.cr_setI F.calm)) hg2 hm2 boot_set (pa_cons ha pa_nil na) (by decide) (by decide) na hpl2) pa_nil nb) (by decide) (by decide) nb hpl).imp ?_
  rintro σ H Q ⟨ρ, m, G, μ, S, h⟩
  refine rE_bindE S h fun x m1 u H1 G1 μ1 S1 R1 g1 h1 => ?_
  obtain ⟨d, e, h1⟩ := PostE.of h1
  have R2 : CallR X (.type "set") _ := (SG.cr_setS F.calm).or (SG.cr_setI F.calm)
  unfold dLenSet at e
  split at e
  · rename_i ks hk
    split at e
    · rename_i hl
      cases e
      obtain ⟨xs, k1, k2⟩ := Option.bind_eq_some_iff.mp hk
      obtain ⟨sh, vs, ra, q⟩ := src_view S1.mem R1 k1
      obtain ⟨h2, _⟩ := dStrs_rep k2 ra
      subst h2
      refine .inl ⟨u, ks, rfl, ⟨sh, by rw [← F.K]; exact q⟩, by have : scanBound = 4096 := rfl; omega, fun p n hp => .inl ⟨p, _, n, rfl, upd_same, fun L nd hL => ?_⟩⟩
      obtain ⟨S2, g2⟩ := S1.alloc hp (SG.SetX X.prog X.w (SG.kiStr X.prog X.w) p (fun j => decide (j ∈ ks)) n)
      have z : L.length = (dedupL ks).length := nodup_lenE nd (dedup_spec ks).1 fun k => by rw [hL, (dedup_spec ks).2]; simp
      rw [z]
      exact h1 _ _ _ _ S2 (.int _) g2
    · cases e
  · split at e
    · rename_i ks hk
      split at e
      · rename_i hl
        cases e
        obtain ⟨xs, k1, k2⟩ := Option.bind_eq_some_iff.mp hk
        obtain ⟨sh, vs, ra, q⟩ := src_view S1.mem R1 k1
        have h2 := dInts_rep k2 ra
        subst h2
        refine .inr ⟨u, ks, rfl, ⟨sh, by rw [← F.K]; exact q⟩, by have : scanBound = 4096 := rfl; omega, fun p n hp => .inr ⟨p, _, n, rfl, upd_same, fun L nd hL => ?_⟩⟩
        obtain ⟨S2, g2⟩ := S1.alloc hp (SG.SetX X.prog X.w (SG.kiInt X.prog X.w) p (fun j => decide (j ∈ ks)) n)
        have z : L.length = (dedupL ks).length := nodup_lenE nd (dedup_spec ks).1 fun k => by rw [hL, (dedup_spec ks).2]; simp
        rw [z]
        exact h1 _ _ _ _ S2 (.int _) g2
      · cases e
    · cases e
def rSortX (X : Cx) : List V → Hp → VK → Prop := fun vs H Q => SG.rSortSS X.prog X.w vs H Q ∨ SG.rSortSI X.prog X.w vs H Q
theorem xe_sortSet {M : Bool} {a : Expr} {fa : E} {k : Nat} {p p2 q pos : Pos} (F : Fit X c k) (hm : X.mg "sorted" = none) (hm2 : X.mg "set" = none) (ha : PE X a (rE c fa)) (hg : Gl X "sorted" := by rfl) (hg2 : Gl X "set" := by rfl)
    (na : starEach [a] X.env = (false, eval a X.env) :: starEach [] X.env := by rfl)
    (nb : starEach [.Call (.Name "set" p2) [a] [] q] X.env = (false, eval (.Call (.Name "set" p2) [a] [] q) X.env) :: starEach [] X.env := by rfl) (hpl : (backTo pos (starEach [] X.env)).any (·.1) = false := by rfl) (hpl2 : (backTo q (starEach [] X.env)).any (·.1) = false := by rfl) :
    PE X (.Call (.Name "sorted" p) [.Call (.Name "set" p2) [a] [] q] [] pos) (rE c (eSortSet M fa)) := by
  refine (pe_callB (p := p) (pos := pos) ((SG.cr_sortSS F.calm).or (SG.cr_sortSI F.calm)) hg hm (by decide +kernel) (pa_cons (pe_callTy (p := p2) (pos := q) ((SG.cr_setS F.calm).or (SG.cr_setI F.calm)) hg2 hm2 boot_set (pa_cons ha pa_nil na) (by decide) (by decide) na hpl2) pa_nil nb) (by decide) (by decide) nb hpl).imp ?_
  rintro σ H Q ⟨ρ, m, G, μ, S, h⟩
  refine rE_bindE S h fun x m1 u H1 G1 μ1 S1 R1 g1 h1 => ?_
  cases e : dSortSet (view m1 x) with
  | none => rw [e] at h1; exact h1.elim
  | some ys =>
  rw [e] at h1
  have h1 : PostE c G1 μ1 _ σ Q (mkL M ys m1) := h1
  unfold dSortSet at e
  split at e
  · rename_i ks hk
    split at e
    · rename_i hl
      cases e
      obtain ⟨xs, k1, k2⟩ := Option.bind_eq_some_iff.mp hk
      obtain ⟨sh, vs, ra, q⟩ := src_view S1.mem R1 k1
      obtain ⟨h2, ho⟩ := dStrs_rep k2 ra
      subst h2
      refine .inl ⟨u, ks, rfl, ⟨sh, by rw [← F.K]; exact q⟩, by have : scanBound = 4096 := rfl; omega, fun p n hp => .inl ⟨p, _, n, rfl, upd_same, fun L p2 hs nd hL hp2 => ?_⟩⟩
      obtain ⟨S2, g2⟩ := S1.alloc hp (SG.SetX X.prog X.w (SG.kiStr X.prog X.w) p (fun j => decide (j ∈ ks)) n)
      have z : L = (dedupL ks).mergeSort leS := sorted_dedup hs nd fun k => by rw [hL]; simp
      subst z
      refine S2.newL (d := .non) (m' := m1) hp2 (RepL.strs fun s hs => ho s ?_) (h1.weak g2)
      exact ((dedup_spec ks).2 s).mp ((List.mergeSort_perm _ _).mem_iff.mp hs)
    · cases e
  · split at e
    · rename_i ks hk
      split at e
      · rename_i hl
        cases e
        obtain ⟨xs, k1, k2⟩ := Option.bind_eq_some_iff.mp hk
        obtain ⟨sh, vs, ra, q⟩ := src_view S1.mem R1 k1
        have h2 := dInts_rep k2 ra
        subst h2
        refine .inr ⟨u, ks, rfl, ⟨sh, by rw [← F.K]; exact q⟩, by have : scanBound = 4096 := rfl; omega, fun p n hp => .inr ⟨p, _, n, rfl, upd_same, fun L p2 hs hL hp2 => ?_⟩⟩
        obtain ⟨S2, g2⟩ := S1.alloc hp (SG.SetX X.prog X.w (SG.kiInt X.prog X.w) p (fun j => decide (j ∈ ks)) n)
        have z : L = (dedupL ks).mergeSort fun a b => decide (a ≤ b) := sortedI_dedup hs fun k => by rw [hL]; simp
        subst z
        exact S2.newL (d := .non) (m' := m1) hp2 (RepL.map D.int V.int (fun x => .int x) _) (h1.weak g2)
      · cases e
    · cases e
end
end TT

set_option maxHeartbeats 2000000
/-! T13: more methods. -/
namespace TT
open PySem PySem.Spec PyProof.Rows L2
section
variable {X : Cx} {c : Ct} {G : Hp} {μ : List Addr} {ρ : Ev} {m : Mem} {σ : L2.St} {H : Hp}
theorem upper_sg : ∀ c, c < 128 → Txt.upper ⟨#[c]⟩ = ⟨#[upC c]⟩ := by decide +kernel
theorem upC_lt {c : Nat} (h : c < 128) : upC c < 128 := by
  unfold upC
  split <;> omega
theorem str_of_list {s : Str} {l : List Nat} (h : s.cps.toList = l) : s = ⟨l.toArray⟩ := by
  obtain ⟨a⟩ := s
  simp only at h
  subst h
  simp
theorem xe_upper {o : Expr} {fo : E} {apos pos : Pos} {k : Nat} (F : Fit X c k) (ho : PE X o (rE c fo)) (hbase : attributeBase o "upper" X.env (eval o X.env) = eval o X.env := by rfl) (hline : (apos.endLine == pos.line) = true := by rfl) :
    PE X (.Call (.Attribute o "upper" apos) [] [] pos) (rE c (eMeth "str" mUpper fo lNil)) := by
  refine (pe_upper ho hbase hline).imp ?_
  rintro σ H Q ⟨ρ, m, G, μ, S, h⟩
  refine rE_bindE S h fun x m1 u H1 G1 μ1 S1 R1 g1 h1 => ?_
  split at h1
  · have h1 : PostE c G1 μ1 _ σ Q (R.of m1 (mUpper (view m1 x) [])) := h1
    obtain ⟨d, e, h1⟩ := PostE.of h1
    generalize e1 : view m1 x = y at e
    cases y with
    | str s =>
      obtain ⟨rfl, ho⟩ := v_str R1 e1
      have e : (match s.cps.toList with
        | [c] => if c < 128 then some (D.str ⟨#[upC c]⟩) else none
        | _ => none) = some d := e
      cases hc : s.cps.toList with
      | nil => rw [hc] at e; cases e
      | cons cc r =>
        cases r with
        | cons _ _ => rw [hc] at e; cases e
        | nil =>
          rw [hc] at e
          have e : (if cc < 128 then some (D.str ⟨#[upC cc]⟩) else none) = some d := e
          by_cases hl : cc < 128
          · rw [if_pos hl] at e
            cases e
            have es := str_of_list hc
            subst es
            refine ⟨⟨_, rfl⟩, _, rfl, rfl, by show 1 ≤ 5592405; decide, ?_⟩
            have z : Txt.upper ⟨[cc].toArray⟩ = ⟨#[upC cc]⟩ := upper_sg cc hl
            rw [z]
            refine h1 _ _ _ _ S1 (.str _ ?_) Gr.refl
            have := upC_lt hl
            rw [okS_list]
            simp
            omega
          · rw [if_neg hl] at e
            cases e
    | _ => cases e
  · exact h1.elim
end
end TT

set_option maxHeartbeats 2000000
/-! T14: the place of a sign in a text. -/
namespace TT
open PySem PySem.Spec PyProof.Rows L2
section
variable {X : Cx} {c : Ct} {G : Hp} {μ : List Addr} {ρ : Ev} {m : Mem} {σ : L2.St} {H : Hp}
theorem at_sg {s : Str} {c hi i : Nat} (hh : hi = s.length) : StrLaws.At s ⟨#[c]⟩ hi i ↔ s.cps.toList[i]? = some c := by
  subst hh
  obtain ⟨⟨l⟩⟩ := s
  have hl : (Str.mk ⟨l⟩).length = l.length := rfl
  have h1 : (Str.mk #[c]).length = 1 := rfl
  unfold StrLaws.At Builtin.Str.subAt
  rw [hl, h1]
  have he : ((Array.mk l).extract i (i + 1) == #[c]) = true ↔ (l.drop i).take 1 = [c] := by
    rw [beq_iff_eq]
    constructor
    · intro h
      have := congrArg Array.toList h
      simpa [List.extract_eq_drop_take] using this
    · intro h
      apply Array.toList_inj.mp
      simpa [List.extract_eq_drop_take] using h
  show i + 1 ≤ l.length ∧ ((Array.mk l).extract i (i + 1) == #[c]) = true ↔ l[i]? = some c
  rw [he]
  constructor
  · rintro ⟨h2, h3⟩
    have h4 : l[i]? = (l.drop i)[0]? := by simp
    have h5 : (l.drop i)[0]? = ((l.drop i).take 1)[0]? := by simp
    rw [h4, h5, h3]
    rfl
  · intro h
    obtain ⟨h2, h3⟩ := List.getElem?_eq_some_iff.mp h
    refine ⟨h2, ?_⟩
    rw [List.drop_eq_getElem_cons h2, h3]
    rfl
theorem idxOf_first : ∀ {l : List Nat} {c a : Nat}, l[a]? = some c → (∀ i, i < a → l[i]? ≠ some c) → l.idxOf c = a
  | [], _, _, h, _ => by simp at h
  | x :: l, c, 0, h, _ => by
    obtain rfl : x = c := by simpa using h
    simp
  | x :: l, c, a + 1, h, hn => by
    have h0 : x ≠ c := fun e => hn 0 (Nat.succ_pos _) (by simp [e])
    have h1 : (x :: l).idxOf c = l.idxOf c + 1 := by
      rw [List.idxOf_cons, show (x == c) = false from by simpa using h0]
      rfl
    rw [h1, idxOf_first (l := l) (a := a) (by simpa using h) fun i hi => by simpa using hn (i + 1) (Nat.succ_lt_succ hi)]
theorem occ_sg {s : Str} {c : Nat} (h : c ∈ s.cps.toList) : ∃ r, Builtin.Str.occurrences s ⟨#[c]⟩ 0 s.length 1 = s.cps.toList.idxOf c :: r := by
  rw [StrLaws.occ_eq]
  rcases StrLaws.occ_first s ⟨#[c]⟩ s.length 1 (Nat.le_refl 1) (List.range' 0 (s.length + 1 - 0)) 0 (fun i _ => Nat.zero_le _) with ⟨_, h2⟩ | ⟨pre, a, post, e1, e2, e3, e4⟩
  · obtain ⟨i, hi, e⟩ := List.mem_iff_getElem.mp h
    refine absurd ((at_sg rfl).mpr (List.getElem?_eq_some_iff.mpr ⟨hi, e⟩)) (h2 i (List.mem_range'_1.mpr ⟨Nat.zero_le _, ?_⟩))
    have : s.cps.toList.length = s.length := Array.length_toList
    omega
  · have hp : pre.length = a := by
      have := congrArg (fun l => l[pre.length]?) e1
      simp only [List.getElem?_append_right (Nat.le_refl _), Nat.sub_self, List.getElem?_cons_zero] at this
      rw [List.getElem?_range'] at this
      · simpa using this
      · have l := congrArg List.length e1
        simp only [List.length_range', List.length_append, List.length_cons] at l
        omega
    have ha := idxOf_first ((at_sg rfl).mp e3) fun i hi e => by
      refine e4 i ?_ ((at_sg rfl).mpr e)
      have hi2 : i < pre.length := by omega
      have := congrArg (fun l => l[i]?) e1
      simp only [List.getElem?_append_left hi2] at this
      rw [List.getElem?_range'] at this
      · exact List.mem_of_getElem? (this.symm.trans (by simp))
      · have l := congrArg List.length e1
        simp only [List.length_range', List.length_append, List.length_cons] at l
        omega
    rw [ha]
    generalize (forIn (m := Id) (List.range' 0 (s.length + 1 - 0)) ((#[] : Array Nat), 0) (StrLaws.occBody s ⟨#[c]⟩ s.length 1)).run.fst = z at e2
    obtain ⟨z⟩ := z
    cases z with
    | nil => simp at e2
    | cons x r =>
      obtain rfl : x = a := by simpa using e2
      exact ⟨r, rfl⟩
abbrev rIdxS : V → List V → Hp → VK → Prop := fun x xs H Q => ∃ (a b : Str) (i : Nat) (r : List Nat), x = .str a ∧ xs = [.str b] ∧ Builtin.Str.occurrences a b 0 a.length 1 = i :: r ∧ Q (.int (i : Nat)) H
theorem mt_idxS : MtR X "str.index" rIdxS := by
  intro pins s σ H x xs v us Q I rx rs h
  obtain ⟨a, b, i, r, rfl, rfl, q, w⟩ := h
  obtain ⟨t, rfl⟩ := rx
  cases rs with
  | cons r1 rs =>
    cases rs
    obtain ⟨u, rfl⟩ := r1
    exact PySem.SC.index q ⟨.int (i : Nat), H, I.tok _, ⟨_, rfl⟩, w⟩
theorem sim_idxS : MethSim c "str" mIdxS rIdxS := by
  intro G μ ρ m σ H x u xs us d Q S r rs e k
  generalize e1 : view m x = x' at e
  unfold mIdxS at e
  split at e
  · rename_i s z he
    obtain ⟨z', rfl, hz⟩ := map1 he
    obtain ⟨w, rfl, rz⟩ := rep1 rs
    obtain ⟨q1, _⟩ := v_str r e1
    obtain ⟨q2, _⟩ := v_str rz hz
    split at e
    · rename_i cc hc
      split at e
      · rename_i hm
        cases e
        obtain ⟨rr, ho⟩ := occ_sg hm
        have es := str_of_list hc
        subst es
        exact ⟨s, _, _, rr, q1, by rw [q2], ho, k _ _ _ _ S (.int _) Gr.refl⟩
      · cases e
    · cases e
  · cases e
theorem xe_idxS {k : Nat} {o e : Expr} {fo : E} {l : EL} {apos cpos : Pos} (F : Fit X c k) (ho : PE X o (rE c fo)) (ha : PA X [e] (rL c l))
    (hbase : attributeBase o "index" X.env (eval o X.env) = eval o X.env := by rfl)
    (hfew : ((backTo cpos (starEach [e] X.env)).all (fun x => !x.1) && (backToKw cpos (keywordEach [] X.env)).all (fun x => x.1.isSome)
      && decide ([e].length + ([] : List Keyword).length + (if ([] : List Keyword).isEmpty then 0 else 1) < 30)) = true := by rfl)
    (hline : (apos.endLine == cpos.line) = true := by rfl) (hst : starEach [e] X.env = (false, eval e X.env) :: starEach [] X.env := by rfl) (hpl : (backTo cpos (starEach [] X.env)).any (·.1) = false := by rfl) :
    PE X (.Call (.Attribute o "index" apos) [e] [] cpos) (rE c (eMeth "str" mIdxS fo l)) :=
  xe_meth F PySem.F.plainAttrs_str PySem.F.slot_str_index PySem.F.type_str_index (.inl rfl) mt_idxS sim_idxS ho ha hbase hfew hline hst hpl
end
section
variable {K : PySem.W.Frag} {mg : Str → Option Value} {c d : Str} {b : Bool} {C D : Addr}
theorem xtok_nil : XTok K mg [] := fun p h => nomatch h
theorem xtok_cons {r : XTab} (h : ∃ C v, XP K mg c d b C v) (x : ∃ C, XG K mg c C) (t : XTok K mg r) : XTok K mg (((c, d), b) :: r) := fun p hp => by
  rcases List.mem_cons.mp hp with rfl | hp
  · exact ⟨h, x⟩
  · exact t p hp
theorem xp_own (g : mg c = some (.ref C)) (h : mg d = some (.ref D)) (hd : d ≠ ("ValueError" : Str)) (hi : PySem.W.isClsIn K D = true) (ht : PySem.W.typeIn K (.ref D) = some (.type "type")) (hs : PySem.W.subIn K (.ref D) (.type "BaseException") = some true) (hr : PySem.W.subIn K (.ref D) (.ref D) = some true) (p : PySem.W.subIn K (.ref C) (.ref D) = some b) : ∃ C v, XP K mg c d b C v := by
  refine ⟨C, .ref D, g, .inl ⟨h, hd⟩, ?_, hs, fun e => ?_⟩
  · show (if ((PySem.W.clsIn K D).isSome && PySem.W.typeIn K (.ref D) == some (.type "type")) = true then PySem.W.subIn K (.ref C) (.ref D) else none) = some b
    have hi : (PySem.W.clsIn K D).isSome = true := hi
    rw [hi, ht, if_pos (by simp), p]
  · have e := eq_of_beq e
    cases e
    exact (Option.some.inj (hr.symm.trans p)).symm
theorem xp_val (g : mg c = some (.ref C)) (h : mg "ValueError" = none) (hs : PySem.W.subIn K (.type "ValueError") (.type "BaseException") = some true) (p : PySem.W.subIn K (.ref C) (.type "ValueError") = some b) : ∃ C v, XP K mg c "ValueError" b C v := by
  refine ⟨C, .type "ValueError", g, .inr ⟨rfl, h, rfl⟩, ?_, hs, fun e => ?_⟩
  · show (if PySem.W.kitMeta "ValueError" = true then PySem.W.subIn K (.ref C) (.type "ValueError") else none) = some b
    rw [if_pos (by decide +kernel), p]
  · cases eq_of_beq e
end
end TT

set_option maxHeartbeats 2000000
/-! T15: zip of a list, a tuple or a text and a tuple backwards. -/
namespace PySem
open Sem (wp)
open Builtin RT
abbrev zrT (h : Heap) (o1 : Obj) (i2 : Addr) : Heap := (h.push o1).push { cls := .type "tuple", data := .seq #[.ref h.objs.size, .ref i2] }
abbrev zrO (h : Heap) (o1 : Obj) (i2 : Addr) : Heap := (zrT h o1 i2).push { cls := .type "tuple", data := .seq #[.none, .none] }
abbrev zrZ (h : Heap) (o1 : Obj) (i2 : Addr) : Heap := (zrO h o1 i2).push { cls := .type "zip", data := .fields #[.none, .bool false, .bool false, .ref (h.push o1).objs.size, .ref (zrT h o1 i2).objs.size] }
theorem meets_zip_newR {v1 : Value} {o1 : Obj} {H1 : Heap → Prop} {i2 a : Addr} {k : Int} (B1 : Begins v1 o1 H1) :
    Meets (Builtin.«zip.__new__» ⟨[.type "zip", v1, .ref i2], []⟩) (fun _ R s => (H1 s.heap ∧ IsRt s.heap i2 a k) ∧
      R (.ok (.ret (.ref (zrO s.heap o1 i2).objs.size))) { s with heap := zrZ s.heap o1 i2 }) :=
  .of_wp fun prog w A R s h => by
    obtain ⟨hp, g, d, tk, os⟩ := s; obtain ⟨⟨h1, h2⟩, h⟩ := h
    have hsub := sub_zip
    have q1 : ∀ {A' : Around} {E : Value → Shared → Prop} {Q : Value → Shared → Prop}, Q (.ref hp.objs.size) ⟨(hp.push o1), g, d, tk, os⟩ → wpAny (model prog w) A' (pyIter v1) Q E ⟨hp, g, d, tk, os⟩ :=
      fun q => B1.iter prog w _ _ ⟨hp, g, d, tk, os⟩ _ (B1.keeps _ _ h1 fun b o' e => e) q
    have q2 : ∀ {A' : Around} {E : Value → Shared → Prop} {Q : Value → Shared → Prop}, Q (.ref i2) ⟨(hp.push o1), g, d, tk, os⟩ → wpAny (model prog w) A' (pyIter (.ref i2)) Q E ⟨(hp.push o1), g, d, tk, os⟩ :=
      fun q => iter_rt (h2.at fun o e => Heap.get?_push_of_some _ e) q
    wp_walk using q1, q2
    exact ⟨_, rfl, h⟩
section
variable {prog : Program} {w : World} {A : Around} {E : Value → Shared → Prop} {s : Shared}
/-- zip(v1, reversed(t)): its 4 new cells -/
theorem zip_beginsR {v1 : Value} {o1 : Obj} {H1 : Heap → Prop} {i2 a : Addr} {k : Int} {Q : Value → Shared → Prop} (B1 : Begins v1 o1 H1) (h1 : H1 s.heap) (h2 : IsRt s.heap i2 a k)
    (h : ∀ h', IsZip h' (s.heap.objs.size + 3) (s.heap.objs.size + 1) (s.heap.objs.size + 2) .none → IsTupOf2 h' (s.heap.objs.size + 1) (.ref s.heap.objs.size) (.ref i2) →
      IsTupOf2 h' (s.heap.objs.size + 2) .none .none → h'.get? s.heap.objs.size = some o1 → h'.objs.size = s.heap.objs.size + 4 →
      (∀ c o, s.heap.get? c = some o → h'.get? c = some o) → Q (.ref (s.heap.objs.size + 3)) { s with heap := h' }) :
    wpAny (model prog w) A (call (.type "zip") [v1, .ref i2]) Q E s := by
  refine callType_new F.called_zip (by decide) (F.typeCall_zip_2 _ _) (F.newCall_zip_2 _ _) (fun obj => F.args_object_init_3 obj _ _) F.entry_zip_new
    (meets_zip_newR (a := a) (k := k) B1) ⟨⟨h1, h2⟩, ?_⟩
  have z1 : (s.heap.push o1).objs.size = s.heap.objs.size + 1 := by rw [Heap.size_push]
  have zT : (zrT s.heap o1 i2).objs.size = s.heap.objs.size + 2 := by rw [Heap.size_push, z1]
  have zO : (zrO s.heap o1 i2).objs.size = s.heap.objs.size + 3 := by rw [Heap.size_push, zT]
  have zZ : (zrZ s.heap o1 i2).objs.size = s.heap.objs.size + 4 := by rw [Heap.size_push, zO]
  have gZ : (zrZ s.heap o1 i2).get? (zrO s.heap o1 i2).objs.size = some { cls := .type "zip", data := .fields #[.none, .bool false, .bool false, .ref (s.heap.push o1).objs.size, .ref (zrT s.heap o1 i2).objs.size] } := Heap.get?_push_size _ rfl
  have gO : (zrZ s.heap o1 i2).get? (zrT s.heap o1 i2).objs.size = some { cls := .type "tuple", data := .seq #[.none, .none] } := Heap.get?_push_of_some _ (Heap.get?_push_size _ rfl)
  have gT : (zrZ s.heap o1 i2).get? (s.heap.push o1).objs.size = some { cls := .type "tuple", data := .seq #[.ref s.heap.objs.size, .ref i2] } := Heap.get?_push_of_some _ (Heap.get?_push_of_some _ (Heap.get?_push_size _ rfl))
  have g1 : (zrZ s.heap o1 i2).get? s.heap.objs.size = some o1 := Heap.get?_push_of_some _ (Heap.get?_push_of_some _ (Heap.get?_push_of_some _ (Heap.get?_push_size _ B1.free)))
  rw [zO, zT, z1] at gZ
  rw [zT] at gO
  rw [z1] at gT
  show _ ∧ _
  rw [zO]
  exact ⟨⟨_, gZ, rfl⟩, h _ gZ gT gO g1 zZ fun c o e => Heap.get?_push_of_some _ (Heap.get?_push_of_some _ (Heap.get?_push_of_some _ (Heap.get?_push_of_some _ e)))⟩
end
end PySem
namespace ZG
open PySem PySem.Spec PyProof.Rows L2
def iZipRT (K : PySem.W.Frag) (ta tb : TE) : TI := fun σ H R => ta σ H fun u H1 => tb σ H1 fun v H2 => ∃ s1 xs a ys, Src K H2 s1 u xs ∧ v = .ref a ∧ SqT K H2 a ys ∧ ∀ k1 : ZK, ZKV k1 s1 u → R (ItzG K k1 (.r a ys.length)) H2
theorem pi_zipR {X : Cx} {e e2 : Expr} {ta tb : TE} {p p2 pos pos2 tpos : Pos} {elts : List Expr} {kk : Nat} (hg : Gl X "zip") (hm : X.mg "zip" = none) (hg2 : Gl X "reversed") (hm2 : X.mg "reversed" = none) (ha : PE X e ta) (hb : PE X e2 tb)
    (hs : starEach [e, .Call (.Name "reversed" p2) [e2] [] pos2] X.env = (false, eval e X.env) :: starEach [.Call (.Name "reversed" p2) [e2] [] pos2] X.env := by rfl)
    (hs1 : starEach [.Call (.Name "reversed" p2) [e2] [] pos2] X.env = (false, eval (.Call (.Name "reversed" p2) [e2] [] pos2) X.env) :: starEach [] X.env := by rfl)
    (hs2 : starEach [e2] X.env = (false, eval e2 X.env) :: starEach [] X.env := by rfl)
    (hpl : (backTo pos (starEach [.Call (.Name "reversed" p2) [e2] [] pos2] X.env)).any (·.1) = false := by rfl) :
    PI X (.Tuple elts kk tpos) (.Call (.Name "zip" p) [e, .Call (.Name "reversed" p2) [e2] [] pos2] [] pos) (iZipRT X.K ta tb) := by
  refine ⟨fun pins s σ H R I h => ?_⟩
  refine Call_ (ld_blt I hg hm PyProof.Rows.boot_zip (PyProof.Rows.callWith_type1 (args_cons (thn (ha.run pins s σ H _ I h) fun u1 s1 ⟨v1, H1, I1, r1, q1⟩ => args_cons ?_ hs1) hs) hs hpl))
  refine Call_ (ld_blt I1 hg2 hm2 PyProof.Rows.boot_reversed (PyProof.Rows.callWith_type1 (args_cons (thn (hb.run pins s1 σ H1 _ I1 q1) fun u2 s2 ⟨v2, H2, I2, r2, q2⟩ => args_nil ?_) hs2) hs2 rfl))
  obtain ⟨sh1, xs, a, ys, qx, ev, qy, q⟩ := q2
  subst ev
  obtain rfl : u2 = Value.ref a := r2
  obtain ⟨its, rv, p', hz⟩ := I2.tuple qy
  have hl := rv.length
  have hn := line63
  have e1 : ((its.toArray.size : Nat) : Int) - 1 = (ys.length : Int) - 1 - ((0 : Nat) : Int) := by simp only [List.size_toArray]; omega
  refine RT.call_reversed_tup p' (fun A E Q k => len_tuple p' (by simp only [List.size_toArray] <;> omega) k) (args_nil ?_)
  obtain ⟨k1, ek, vk, l1, G1, B1, g1⟩ := qx.kind I2 r1
  subst ek
  have hk0 : ∀ c o, s2.heap.get? c = some o → (s2.heap.push (RT.rtObj a ((its.toArray.size : Int) - 1))).get? c = some o := fun c o e => Heap.get?_push_of_some _ e
  have I3 : Inv X pins σ H2 { s2 with heap := s2.heap.push (RT.rtObj a ((its.toArray.size : Int) - 1)), toks := s2.toks + 1 + 1 } := I2.kept (t' := s2.toks + 1 + 1) hk0
  have hrt : RT.IsRt (s2.heap.push (RT.rtObj a ((its.toArray.size : Int) - 1))) s2.heap.objs.size a ((its.toArray.size : Int) - 1) := ⟨_, Heap.get?_push_size _ rfl, rfl, rfl⟩
  have hsz1 : (s2.heap.push (RT.rtObj a ((its.toArray.size : Int) - 1))).objs.size = s2.heap.objs.size + 1 := by rw [Heap.size_push]
  have la : a < s2.heap.objs.size := by
    obtain ⟨o, ho, _⟩ := p'
    exact Heap.lt_size ho
  refine zip_beginsR (s := { s2 with heap := s2.heap.push (RT.rtObj a ((its.toArray.size : Int) - 1)), toks := s2.toks + 1 + 1 }) B1 (B1.keeps _ _ g1 hk0) hrt fun h' hz hTI hTO h1 hsz hk => wpAny_pyIter_zip hz ?_
  have hz : IsZip h' ((s2.heap.push (RT.rtObj a ((its.toArray.size : Int) - 1))).objs.size + 3) ((s2.heap.push (RT.rtObj a ((its.toArray.size : Int) - 1))).objs.size + 1) ((s2.heap.push (RT.rtObj a ((its.toArray.size : Int) - 1))).objs.size + 2) .none := hz
  have hTI : IsTupOf2 h' ((s2.heap.push (RT.rtObj a ((its.toArray.size : Int) - 1))).objs.size + 1) (.ref (s2.heap.push (RT.rtObj a ((its.toArray.size : Int) - 1))).objs.size) (.ref s2.heap.objs.size) := hTI
  have hTO : IsTupOf2 h' ((s2.heap.push (RT.rtObj a ((its.toArray.size : Int) - 1))).objs.size + 2) .none .none := hTO
  have h1 : h'.get? (s2.heap.push (RT.rtObj a ((its.toArray.size : Int) - 1))).objs.size = some k1.o := h1
  have I4 : Inv X pins σ H2 { s2 with heap := h', toks := s2.toks + 1 + 1 } := I3.kept (t' := s2.toks + 1 + 1) hk
  have h2 : (ZK.r a ys.length).It s2.heap.objs.size 0 h' := ⟨Nat.zero_le _, by
    rw [← e1]
    exact hrt.at fun o e => hk _ _ e⟩
  generalize hN : (s2.heap.push (RT.rtObj a ((its.toArray.size : Int) - 1))).objs.size = N at *
  have fresh5 : ∀ c, c ∈ [N + 3, N + 1, N + 2, N, s2.heap.objs.size] → FpOk X pins H2 c := fun c hcm => by
    have e' : c = N + 3 ∨ c = N + 1 ∨ c = N + 2 ∨ c = N ∨ c = s2.heap.objs.size := by simpa using hcm
    have hle : s2.heap.objs.size ≤ c := by omega
    exact I2.fpOk hle (I2.hok.fresh hle)
  have hle : s2.heap.objs.size ≤ N := by omega
  have D : Sep (N + 3) (N + 1) (N + 2) N s2.heap.objs.size k1 (.r a ys.length) :=
    have ne : ∀ {a b : Nat}, (a < b ∨ b < a) → a ≠ b := fun h => by omega
    ⟨ne (by omega), ne (by omega), ne (by omega), ne (by omega), ne (by omega), ne (by omega), ne (by omega), ne (by omega), ne (by omega), ne (by omega), fun b hb => by
      have h0 : b < s2.heap.objs.size := l1 b hb
      exact ⟨Nat.ne_of_lt (Nat.lt_of_lt_of_le h0 (Nat.le_trans hle (Nat.le_add_right _ _))), Nat.ne_of_lt (Nat.lt_of_lt_of_le h0 (Nat.le_trans hle (Nat.le_add_right _ _))), Nat.ne_of_lt (Nat.lt_of_lt_of_le h0 hle), Nat.ne_of_lt h0⟩, fun b hb => by
      obtain rfl : b = a := by simpa [ZK.src] using hb
      exact ⟨Nat.ne_of_lt (Nat.lt_of_lt_of_le la (Nat.le_trans hle (Nat.le_add_right _ _))), Nat.ne_of_lt (Nat.lt_of_lt_of_le la (Nat.le_trans hle (Nat.le_add_right _ _))), Nat.ne_of_lt (Nat.lt_of_lt_of_le la hle), Nat.ne_of_lt la⟩⟩
  exact ⟨N + 3, [N + 3, N + 1, N + 2, N, s2.heap.objs.size], _, _, H2, rfl, I4, turn_zipG D, ⟨hz, hTI, ⟨_, _, hTO⟩, ZK.start h1, h2⟩, fresh5, q k1 vk⟩
end ZG
namespace TT
open PySem PySem.Spec PyProof.Rows L2
section
variable {X : Cx} {c : Ct} {G : Hp} {μ : List Addr} {ρ : Ev} {m : Mem} {σ : L2.St} {H : Hp}
theorem weakI {r : R (List D)} {R' : It → Hp → Prop} {G1 : Hp} {μ1 : List Addr} (g1 : Gr G μ G1 μ1) : (match r with
      | .ok ds m1 => ∀ J H2 G2 μ2, Sim c G2 μ2 ρ m1 σ H2 → Gr G μ G2 μ2 → WalkD c J G2 μ2 ds → R' J H2
      | .exc e m1 => ∀ cc dd H2 G2 μ2, Sim c G2 μ2 ρ m1 σ H2 → Gr G μ G2 μ2 → ExcAt c.mg e cc dd G2 → c.W cc dd σ H2
      | .bad => False) → match r with
      | .ok ds m1 => ∀ J H2 G2 μ2, Sim c G2 μ2 ρ m1 σ H2 → Gr G1 μ1 G2 μ2 → WalkD c J G2 μ2 ds → R' J H2
      | .exc e m1 => ∀ cc dd H2 G2 μ2, Sim c G2 μ2 ρ m1 σ H2 → Gr G1 μ1 G2 μ2 → ExcAt c.mg e cc dd G2 → c.W cc dd σ H2
      | .bad => False := by
  intro h
  cases r with
  | ok ds m1 => exact fun J H2 G2 μ2 a1 a2 a3 => h J H2 G2 μ2 a1 (g1.trans a2) a3
  | exc e m1 => exact fun cc dd H2 G2 μ2 a1 a2 a3 => h cc dd H2 G2 μ2 a1 (g1.trans a2) a3
  | bad => exact h
theorem xi_zipR {e e2 : Expr} {fa fb : E} {p p2 pos pos2 tpos : Pos} {elts : List Expr} {kk : Nat} {k : Nat} (F : Fit X c k) (hg : Gl X "zip") (hm : X.mg "zip" = none) (hg2 : Gl X "reversed") (hm2 : X.mg "reversed" = none) (ha : PE X e (rE c fa)) (hb : PE X e2 (rE c fb))
    (hs : starEach [e, .Call (.Name "reversed" p2) [e2] [] pos2] X.env = (false, eval e X.env) :: starEach [.Call (.Name "reversed" p2) [e2] [] pos2] X.env := by rfl)
    (hs1 : starEach [.Call (.Name "reversed" p2) [e2] [] pos2] X.env = (false, eval (.Call (.Name "reversed" p2) [e2] [] pos2) X.env) :: starEach [] X.env := by rfl)
    (hs2 : starEach [e2] X.env = (false, eval e2 X.env) :: starEach [] X.env := by rfl)
    (hpl : (backTo pos (starEach [.Call (.Name "reversed" p2) [e2] [] pos2] X.env)).any (·.1) = false := by rfl) :
    PI X (.Tuple elts kk tpos) (.Call (.Name "zip" p) [e, .Call (.Name "reversed" p2) [e2] [] pos2] [] pos) (rIt c (iZipR fa fb)) := by
  refine (ZG.pi_zipR hg hm hg2 hm2 ha hb hs hs1 hs2 hpl).imp ?_
  rintro σ H R' ⟨ρ, m, G, μ, S, h⟩
  refine rI_bind (R' := R') S h fun x m1 u H1 G1 μ1 S1 R1 g1 h1 => ?_
  have h1 : match (fb ρ m1).bind fun y m => R.of m ((dItems x).bind fun xs => (dTupI y).bind fun ys => some (dZip xs ys.reverse)) with
      | .ok ds m1 => ∀ J H2 G2 μ2, Sim c G2 μ2 ρ m1 σ H2 → Gr G1 μ1 G2 μ2 → WalkD c J G2 μ2 ds → R' J H2
      | .exc e m1 => ∀ cc dd H2 G2 μ2, Sim c G2 μ2 ρ m1 σ H2 → Gr G1 μ1 G2 μ2 → ExcAt c.mg e cc dd G2 → c.W cc dd σ H2
      | .bad => False := weakI g1 h1
  refine rI_bind (R' := R') S1 h1 fun y m2 v H2 G2 μ2 S2 R2 g2 h2 => ?_
  cases e1 : dItems x with
  | none =>
    rw [e1] at h2
    exact h2.elim
  | some xs =>
    cases y with
    | tup ys =>
      rw [e1] at h2
      cases R2 with
      | tup hq r' =>
        obtain ⟨s1, ws, ra, q1, n1⟩ := src_rep (R1.gr g2) e1
        rw [← F.K]
        refine ⟨s1, ws, _, _, q1 _ S2.mem.gh, rfl, Same.tupS S2.mem.gh hq, fun k1 z1 => ?_⟩
        exact h2 _ _ _ _ S2 g2 (walkD_zipG (fun H s => ⟨n1 k1 z1 H s, ⟨_, Same.tupS s hq, rfl, rfl⟩⟩) ra r'.reverse)
    | _ =>
      rw [e1] at h2
      exact h2.elim
end
end TT

set_option maxHeartbeats 2000000
/-! T16: errors whose class has an __init__ that keeps one thing. -/
namespace L2
open PySem PySem.Spec PyProof.Rows
section
variable {X : Cx} {e : Expr} {es : List Expr} {ta : TA} {p1 p2 pos : Pos}
/-- B.__init__(self, ..), B an own class over ValueError -/
theorem pe_cinit {x : Str} {D : Addr} {pl : Sem Bool} (hg : Gl X x) (gm : X.mg x = some (.ref D)) (hs : PySem.W.specialIn X.K (.ref D) "__getattribute__" = some (some (.builtin "type.__getattribute__"))) (hr : PySem.W.readsIn X.K D (.type "type") = true)
    (hf : PySem.W.findCls X.K (.ref D) (.type "type") "__init__" = some (.val (.builtin "ValueError.__init__"))) (ha : PA X (e :: es) ta)
    (hc : eval (.Call (.Attribute (.Name x p1) "__init__" p2) (e :: es) [] pos) X.env = (do
      let ov ← eval (.Name x p1) X.env
      standAt p2.atName
      let (f, first) ← holding [ov] (getMethod ov "__init__" pl)
      callWith pos f first (backTo pos (starEach (e :: es) X.env)) (backToKw pos (keywordEach [] X.env))) := by rfl)
    (he : starEach (e :: es) X.env = (false, eval e X.env) :: starEach es X.env := by rfl) (hpl : (backTo pos (starEach es X.env)).any (·.1) = false := by rfl) (hdb : (x == ("__debug__" : Str)) = false := by decide) :
    PE X (.Call (.Attribute (.Name x p1) "__init__" p2) (e :: es) [] pos) (tVeI X.K ta) := by
  refine ⟨fun pins s σ H Q I h => ?_⟩
  refine PySem.W.methodCall_KW (ld_glob I hg gm ?_ hdb) hc
  refine PySem.W.method_cls I.kIn hs (PySem.W.cls_value I.kIn hr hf (by decide +kernel) ?_)
  show wpAny _ _ (callWith pos (Value.builtin "ValueError.__init__") [] (backTo pos (starEach (e :: es) X.env)) []) _ _ _
  refine PyProof.Rows.callWith_method1 (thn (ha.run pos pins _ σ H _ (I.tok _) h) fun us s1 ⟨vs, H1, I1, r1, a, C, ws, ev, hl, T, ea, q⟩ => ?_) he hpl
  subst ev
  cases r1 with
  | @cons _ u0 _ ur ra rw' =>
    obtain rfl : u0 = Value.ref a := ra
    have hlen : ur.length ≤ sizeLine := by
      rw [← Paired.length rw', sizeLine_eq]
      omega
    exact oinit_ok T I1 ea hlen fun s' J => ⟨.non, H1, J, rfl, q⟩
end
/-- what such an __init__ does -/
def spKeep (K : PySem.W.Frag) (f : Str) : Sp := fun vs H Q E => ∃ (a C : Addr) (y : V), vs = [.ref a, y] ∧ OexC K C ∧ PySem.W.findIn K (.ref C) f = some none ∧ H a = some (exo a C none) ∧
  ∀ dx, H dx = none → dx ≠ a → Q .non (upd (upd H dx (exd dx [(f, y)])) a (exo a C (some dx)))
theorem init_keep {P : Program} {w : World} {K : PySem.W.Frag} {mg : Str → Option Value} {base : Heap} {qual f ms s0 y0 : Str} {st : Stmt} {fa : Addr} {fd : FuncData}
    (Fn : Fun K "__init__" qual st fa fd) (Sc : FnScope [s0, y0] [s0, y0] (defScope st))
    (hbody : ∀ (cdv : Value) (A : Around) (outer : List Env) (s : Shared) (H : Hp) (E : XK), PSs (cxOf CX0 P w K mg base [s0, y0] qual (defScope st) fa cdv A outer s H E).nox (defBody st)
      (tSeq (tDrop (tVeI K (tCons (tVar 0) (tCons (tC (.str ms)) tNil)))) (tOst K f (tVar 0) (tVar 1)))) : FnOk P w K mg base CX0 1 fa fd [s0, y0] (spKeep K f) := by
  refine Fn.ok (k := 0) Sc (fun vs H Q E ⟨_, _, _, e, _⟩ => by rw [e]; rfl) fun cdv A outer s H vs Q E hr h => ?_
  obtain ⟨a, C, y, rfl, T, hno, ha, q⟩ := h
  refine ⟨_, hbody cdv A outer s H E, ?_⟩
  exact ⟨.ref a, rfl, a, C, [.str ms], rfl, (by show 1 ≤ 1000; decide), T, ha, y, rfl, .ref a, rfl, a, C, rfl, T, hno, .inl ⟨ha, fun dx n ne => q dx n ne⟩⟩
end L2
namespace TT
open PySem PySem.Spec PyProof.Rows L2
/-- an own class of errors whose __init__ keeps its one argument as field f -/
structure XI (P : Program) (w : World) (K : PySem.W.Frag) (mg : Str → Option Value) (base : Heap) (c f : Str) (C : Addr) : Prop where
  g : mg c = some (.ref C)
  o : OexC K C
  no : PySem.W.findIn K (.ref C) f = some none
  fn : ∃ (fI : Addr) (fd : FuncData) (ps : List Str), PySem.W.findIn K (.ref C) "__init__" = some (some (.ref fI)) ∧ PySem.W.typeIn K (.ref fI) = some (.type "function") ∧ FnOk P w K mg base CX0 1 fI fd ps (spKeep K f) ∧ Binds K fd ps []
section
variable {X : Cx} {c : Ct} {G : Hp} {μ : List Addr} {ρ : Ev} {m : Mem} {σ : L2.St} {H : Hp}
theorem flat_of {d : D} {v : V} (h : flatB d = true) (r : Rep c.K c.mg c.xo G μ d v) : flatD d = some v := by
  cases d <;> first | (cases r; rfl) | cases h
theorem xs_raiseF {x f : Str} {k : Nat} {e : Expr} {fa : E} {p pos pos2 : Pos} {C : Addr} (F : Fit X c (k + 2)) (Y : XI X.prog X.w X.K X.mg X.base x f C) (hg : Gl X x) (ha : PE X e (rE c fa)) (hs : starEach [e] X.env = (false, eval e X.env) :: starEach [] X.env := by rfl) (hdb : (x == ("__debug__" : Str)) = false := by decide) :
    PS X (.Raise (some (.Call (.Name x p) [e] [] pos)) none pos2) (rS c (sRaiseF x f fa)) := by
  obtain ⟨fI, fd, ps, i1, i2, i3, i4⟩ := Y.fn
  refine PS.imp (ps_raise F.calm F.tk (pmk_oex Y.o i1 i2 i3 (F.rm.mono (by omega)) i4 .nil pass0 hg Y.g (pa_cons ha pa_nil hs) hdb hs)) ?_
  rintro D σ H ⟨ρ, m, G, μ, S, h⟩
  refine rE_then S h fun d m1 v H1 G1 μ1 S1 R1 g1 h1 => ?_
  by_cases hf : flatB d = true
  · rw [if_pos hf] at h1
    refine ⟨by show 1 ≤ 1000; decide, fun a hn => ⟨a, C, v, rfl, Y.o, Y.no, upd_same, fun dx hd ne => ⟨rfl, dx, [(f, v)], ?_, ?_, ?_, ?_⟩⟩⟩
    · exact upd_same
    · rw [upd_ne (Ne.symm (Ne.symm ne)), upd_same]
    · rw [upd_ne ne] at hd
      exact hd
    · have hd1 : H1 dx = none := by
        rw [upd_ne ne] at hd
        exact hd
      have eH : upd (del (upd (upd (upd H1 a (exo a C none)) dx (exd dx [(f, v)])) a (exo a C (some dx))) a) dx (.xd [(f, v)]) = upd H1 dx (.xd [(f, v)]) := by
        funext b
        by_cases hb : b = dx
        · subst hb
          rw [upd_same, upd_same]
        · rw [upd_ne hb, upd_ne hb]
          by_cases hb2 : b = a
          · subst hb2
            rw [del_same, hn]
          · rw [del_ne hb2, upd_ne hb2, upd_ne hb, upd_ne hb2]
      rw [eH]
      obtain ⟨S2, g2⟩ := S1.alloc hd1 (.xd [(f, v)])
      refine h1 _ _ _ _ _ _ S2 g2 ⟨C, F.mg ▸ Y.g, rfl, .inr ⟨by simp, dx, [(f, v)], rfl, upd_same, .cons ⟨rfl, flat_of hf R1⟩ .nil⟩⟩
  · rw [if_neg hf] at h1
    exact h1.elim
theorem flat_lookup {f : Str} {d : D} : ∀ {fs : List (Str × D)} {fv : List (Str × V)}, FlatF fs fv → fs.lookup f = some d → ∃ v, fv.lookup f = some v ∧ flatD d = some v
  | _, _, .nil, h => by cases h
  | (g, x) :: fs, (g', y) :: fv, .cons ⟨e, hx⟩ t, h => by
    have e : g = g' := e
    subst e
    rw [List.lookup_cons] at h ⊢
    by_cases hg : (f == g) = true
    · rw [hg] at h ⊢
      cases h
      exact ⟨y, rfl, hx⟩
    · have hg : (f == g) = false := by simpa using hg
      rw [hg] at h ⊢
      exact flat_lookup t h
/-- e.f, e the error that the suite holds -/
theorem xe_xf {e1 : Expr} {fe : E} {cn f : Str} {C0 a C : Addr} {oe : Obj} {dd : Option Addr} {pn : List (Addr × Obj)} {k : Nat} {pos : Pos} (g : X.mg cn = some (.ref C0)) (xf : XfC X.K C0) (no : PySem.W.findIn X.K (.ref C0) f = some none) (Y : Caught X c a oe pn C dd) (F : Fit0 (X.suite a ((a, oe) :: pn)) c k)
    (he : PE (X.suite a ((a, oe) :: pn)) e1 (rE c fe)) (hb : attributeBase e1 f X.env (eval e1 X.env) = eval e1 X.env := by rfl) :
    PE (X.suite a ((a, oe) :: pn)) (.Attribute e1 f pos) (rE c (eUn (dXf cn f) fe)) := by
  refine (pe_xf (cls := .ref C) xf no Y.z Y.f he hb).imp ?_
  rintro σ H Q ⟨ρ, m, G, μ, S, h⟩
  refine rE_bindE S h fun x m1 u H1 G1 μ1 S1 R1 g1 h1 => ?_
  have h1 : PostE c G1 μ1 ρ σ Q (R.of m1 (dXf cn f (view m1 x))) := h1
  obtain ⟨d, e, h1⟩ := PostE.of h1
  generalize e1 : view m1 x = y at e
  cases y with
  | exc c' fs =>
    have ex : x = .exc c' fs := view_flat e1 (by simp) (by simp) (by simp)
    subst ex
    have e7 : (if c' = cn then (match fs.lookup f with
      | some (.int i) => some (D.int i)
      | _ => none) else none) = some d := e
    by_cases hc : c' = cn
    · rw [if_pos hc] at e7
      subst hc
      cases R1 with
      | exc q1 q2 =>
        rw [Y.x] at q1
        cases q1
        obtain ⟨C2, h3, h4, h5⟩ := q2
        rw [F.mg] at h3
        have e3 : C0 = C2 := Value.ref.inj (Option.some.inj (g.symm.trans h3))
        subst e3
        cases hl : fs.lookup f with
        | none => rw [hl] at e7; cases e7
        | some z =>
          rw [hl] at e7
          cases z with
          | int i =>
            cases e7
            rcases h5 with ⟨q, _⟩ | ⟨_, d2, fv, q, hG, hF⟩
            · rw [q] at hl; cases hl
            · obtain ⟨v, hv, hfl⟩ := flat_lookup hF hl
              cases hfl
              exact ⟨rfl, h4, d2, fv, .int i, q, S1.mem.gh _ _ hG, hv, h1 _ _ _ _ S1 (.int i) Gr.refl⟩
          | _ => cases e7
    · rw [if_neg hc] at e7
      cases e7
  | _ => cases e
end
end TT

/-! Mk10: mirrors, printed by gen.py -/
namespace TT
open PySem
def xtab_k10 : XTab := [((("NoRow" : Str), ("CutError" : Str)), true), ((("NoRow" : Str), ("NoRow" : Str)), true), ((("NoRow" : Str), ("NoKinds" : Str)), false), ((("NoRow" : Str), ("NoBook" : Str)), false), ((("NoRow" : Str), ("NoText" : Str)), false), ((("NoRow" : Str), ("NoPlace" : Str)), false), ((("NoRow" : Str), ("NoSide" : Str)), false), ((("NoRow" : Str), ("NoStand" : Str)), false), ((("NoRow" : Str), ("NoSnippet" : Str)), false), ((("NoRow" : Str), ("NoCount" : Str)), false), ((("NoRow" : Str), ("NoChange" : Str)), false), ((("NoRow" : Str), ("Ended" : Str)), false), ((("NoRow" : Str), ("NoRule" : Str)), false), ((("NoRow" : Str), ("Unlike" : Str)), false), ((("NoRow" : Str), ("TooMany" : Str)), false), ((("NoRow" : Str), ("NoName" : Str)), false), ((("NoRow" : Str), ("ValueError" : Str)), true), ((("NoKinds" : Str), ("CutError" : Str)), true), ((("NoKinds" : Str), ("NoRow" : Str)), false), ((("NoKinds" : Str), ("NoKinds" : Str)), true), ((("NoKinds" : Str), ("NoBook" : Str)), false), ((("NoKinds" : Str), ("NoText" : Str)), false), ((("NoKinds" : Str), ("NoPlace" : Str)), false), ((("NoKinds" : Str), ("NoSide" : Str)), false), ((("NoKinds" : Str), ("NoStand" : Str)), false), ((("NoKinds" : Str), ("NoSnippet" : Str)), false), ((("NoKinds" : Str), ("NoCount" : Str)), false), ((("NoKinds" : Str), ("NoChange" : Str)), false), ((("NoKinds" : Str), ("Ended" : Str)), false), ((("NoKinds" : Str), ("NoRule" : Str)), false), ((("NoKinds" : Str), ("Unlike" : Str)), false), ((("NoKinds" : Str), ("TooMany" : Str)), false), ((("NoKinds" : Str), ("NoName" : Str)), false), ((("NoKinds" : Str), ("ValueError" : Str)), true), ((("NoBook" : Str), ("CutError" : Str)), true), ((("NoBook" : Str), ("NoRow" : Str)), false), ((("NoBook" : Str), ("NoKinds" : Str)), false), ((("NoBook" : Str), ("NoBook" : Str)), true), ((("NoBook" : Str), ("NoText" : Str)), false), ((("NoBook" : Str), ("NoPlace" : Str)), false), ((("NoBook" : Str), ("NoSide" : Str)), false), ((("NoBook" : Str), ("NoStand" : Str)), false), ((("NoBook" : Str), ("NoSnippet" : Str)), false), ((("NoBook" : Str), ("NoCount" : Str)), false), ((("NoBook" : Str), ("NoChange" : Str)), false), ((("NoBook" : Str), ("Ended" : Str)), false), ((("NoBook" : Str), ("NoRule" : Str)), false), ((("NoBook" : Str), ("Unlike" : Str)), false), ((("NoBook" : Str), ("TooMany" : Str)), false), ((("NoBook" : Str), ("NoName" : Str)), false), ((("NoBook" : Str), ("ValueError" : Str)), true), ((("NoText" : Str), ("CutError" : Str)), true), ((("NoText" : Str), ("NoRow" : Str)), false), ((("NoText" : Str), ("NoKinds" : Str)), false), ((("NoText" : Str), ("NoBook" : Str)), false), ((("NoText" : Str), ("NoText" : Str)), true), ((("NoText" : Str), ("NoPlace" : Str)), false), ((("NoText" : Str), ("NoSide" : Str)), false), ((("NoText" : Str), ("NoStand" : Str)), false), ((("NoText" : Str), ("NoSnippet" : Str)), false), ((("NoText" : Str), ("NoCount" : Str)), false), ((("NoText" : Str), ("NoChange" : Str)), false), ((("NoText" : Str), ("Ended" : Str)), false), ((("NoText" : Str), ("NoRule" : Str)), false), ((("NoText" : Str), ("Unlike" : Str)), false), ((("NoText" : Str), ("TooMany" : Str)), false), ((("NoText" : Str), ("NoName" : Str)), false), ((("NoText" : Str), ("ValueError" : Str)), true), ((("NoPlace" : Str), ("CutError" : Str)), true), ((("NoPlace" : Str), ("NoRow" : Str)), false), ((("NoPlace" : Str), ("NoKinds" : Str)), false), ((("NoPlace" : Str), ("NoBook" : Str)), false), ((("NoPlace" : Str), ("NoText" : Str)), false), ((("NoPlace" : Str), ("NoPlace" : Str)), true), ((("NoPlace" : Str), ("NoSide" : Str)), false), ((("NoPlace" : Str), ("NoStand" : Str)), false), ((("NoPlace" : Str), ("NoSnippet" : Str)), false), ((("NoPlace" : Str), ("NoCount" : Str)), false), ((("NoPlace" : Str), ("NoChange" : Str)), false), ((("NoPlace" : Str), ("Ended" : Str)), false), ((("NoPlace" : Str), ("NoRule" : Str)), false), ((("NoPlace" : Str), ("Unlike" : Str)), false), ((("NoPlace" : Str), ("TooMany" : Str)), false), ((("NoPlace" : Str), ("NoName" : Str)), false), ((("NoPlace" : Str), ("ValueError" : Str)), true), ((("NoSide" : Str), ("CutError" : Str)), true), ((("NoSide" : Str), ("NoRow" : Str)), false), ((("NoSide" : Str), ("NoKinds" : Str)), false), ((("NoSide" : Str), ("NoBook" : Str)), false), ((("NoSide" : Str), ("NoText" : Str)), false), ((("NoSide" : Str), ("NoPlace" : Str)), false), ((("NoSide" : Str), ("NoSide" : Str)), true), ((("NoSide" : Str), ("NoStand" : Str)), false), ((("NoSide" : Str), ("NoSnippet" : Str)), false), ((("NoSide" : Str), ("NoCount" : Str)), false), ((("NoSide" : Str), ("NoChange" : Str)), false), ((("NoSide" : Str), ("Ended" : Str)), false), ((("NoSide" : Str), ("NoRule" : Str)), false), ((("NoSide" : Str), ("Unlike" : Str)), false), ((("NoSide" : Str), ("TooMany" : Str)), false), ((("NoSide" : Str), ("NoName" : Str)), false), ((("NoSide" : Str), ("ValueError" : Str)), true), ((("NoStand" : Str), ("CutError" : Str)), true), ((("NoStand" : Str), ("NoRow" : Str)), false), ((("NoStand" : Str), ("NoKinds" : Str)), false), ((("NoStand" : Str), ("NoBook" : Str)), false), ((("NoStand" : Str), ("NoText" : Str)), false), ((("NoStand" : Str), ("NoPlace" : Str)), false), ((("NoStand" : Str), ("NoSide" : Str)), false), ((("NoStand" : Str), ("NoStand" : Str)), true), ((("NoStand" : Str), ("NoSnippet" : Str)), false), ((("NoStand" : Str), ("NoCount" : Str)), false), ((("NoStand" : Str), ("NoChange" : Str)), false), ((("NoStand" : Str), ("Ended" : Str)), false), ((("NoStand" : Str), ("NoRule" : Str)), false), ((("NoStand" : Str), ("Unlike" : Str)), false), ((("NoStand" : Str), ("TooMany" : Str)), false), ((("NoStand" : Str), ("NoName" : Str)), false), ((("NoStand" : Str), ("ValueError" : Str)), true), ((("NoSnippet" : Str), ("CutError" : Str)), true), ((("NoSnippet" : Str), ("NoRow" : Str)), false), ((("NoSnippet" : Str), ("NoKinds" : Str)), false), ((("NoSnippet" : Str), ("NoBook" : Str)), false), ((("NoSnippet" : Str), ("NoText" : Str)), false), ((("NoSnippet" : Str), ("NoPlace" : Str)), false), ((("NoSnippet" : Str), ("NoSide" : Str)), false), ((("NoSnippet" : Str), ("NoStand" : Str)), false), ((("NoSnippet" : Str), ("NoSnippet" : Str)), true), ((("NoSnippet" : Str), ("NoCount" : Str)), false), ((("NoSnippet" : Str), ("NoChange" : Str)), false), ((("NoSnippet" : Str), ("Ended" : Str)), false), ((("NoSnippet" : Str), ("NoRule" : Str)), false), ((("NoSnippet" : Str), ("Unlike" : Str)), false), ((("NoSnippet" : Str), ("TooMany" : Str)), false), ((("NoSnippet" : Str), ("NoName" : Str)), false), ((("NoSnippet" : Str), ("ValueError" : Str)), true), ((("NoCount" : Str), ("CutError" : Str)), true), ((("NoCount" : Str), ("NoRow" : Str)), false), ((("NoCount" : Str), ("NoKinds" : Str)), false), ((("NoCount" : Str), ("NoBook" : Str)), false), ((("NoCount" : Str), ("NoText" : Str)), false), ((("NoCount" : Str), ("NoPlace" : Str)), false), ((("NoCount" : Str), ("NoSide" : Str)), false), ((("NoCount" : Str), ("NoStand" : Str)), false), ((("NoCount" : Str), ("NoSnippet" : Str)), false), ((("NoCount" : Str), ("NoCount" : Str)), true), ((("NoCount" : Str), ("NoChange" : Str)), false), ((("NoCount" : Str), ("Ended" : Str)), false), ((("NoCount" : Str), ("NoRule" : Str)), false), ((("NoCount" : Str), ("Unlike" : Str)), false), ((("NoCount" : Str), ("TooMany" : Str)), false), ((("NoCount" : Str), ("NoName" : Str)), false), ((("NoCount" : Str), ("ValueError" : Str)), true), ((("NoChange" : Str), ("CutError" : Str)), true), ((("NoChange" : Str), ("NoRow" : Str)), false), ((("NoChange" : Str), ("NoKinds" : Str)), false), ((("NoChange" : Str), ("NoBook" : Str)), false), ((("NoChange" : Str), ("NoText" : Str)), false), ((("NoChange" : Str), ("NoPlace" : Str)), false), ((("NoChange" : Str), ("NoSide" : Str)), false), ((("NoChange" : Str), ("NoStand" : Str)), false), ((("NoChange" : Str), ("NoSnippet" : Str)), false), ((("NoChange" : Str), ("NoCount" : Str)), false), ((("NoChange" : Str), ("NoChange" : Str)), true), ((("NoChange" : Str), ("Ended" : Str)), false), ((("NoChange" : Str), ("NoRule" : Str)), false), ((("NoChange" : Str), ("Unlike" : Str)), false), ((("NoChange" : Str), ("TooMany" : Str)), false), ((("NoChange" : Str), ("NoName" : Str)), false), ((("NoChange" : Str), ("ValueError" : Str)), true), ((("Ended" : Str), ("CutError" : Str)), true), ((("Ended" : Str), ("NoRow" : Str)), false), ((("Ended" : Str), ("NoKinds" : Str)), false), ((("Ended" : Str), ("NoBook" : Str)), false), ((("Ended" : Str), ("NoText" : Str)), false), ((("Ended" : Str), ("NoPlace" : Str)), false), ((("Ended" : Str), ("NoSide" : Str)), false), ((("Ended" : Str), ("NoStand" : Str)), false), ((("Ended" : Str), ("NoSnippet" : Str)), false), ((("Ended" : Str), ("NoCount" : Str)), false), ((("Ended" : Str), ("NoChange" : Str)), false), ((("Ended" : Str), ("Ended" : Str)), true), ((("Ended" : Str), ("NoRule" : Str)), false), ((("Ended" : Str), ("Unlike" : Str)), false), ((("Ended" : Str), ("TooMany" : Str)), false), ((("Ended" : Str), ("NoName" : Str)), false), ((("Ended" : Str), ("ValueError" : Str)), true), ((("NoRule" : Str), ("CutError" : Str)), true), ((("NoRule" : Str), ("NoRow" : Str)), false), ((("NoRule" : Str), ("NoKinds" : Str)), false), ((("NoRule" : Str), ("NoBook" : Str)), false), ((("NoRule" : Str), ("NoText" : Str)), false), ((("NoRule" : Str), ("NoPlace" : Str)), false), ((("NoRule" : Str), ("NoSide" : Str)), false), ((("NoRule" : Str), ("NoStand" : Str)), false), ((("NoRule" : Str), ("NoSnippet" : Str)), false), ((("NoRule" : Str), ("NoCount" : Str)), false), ((("NoRule" : Str), ("NoChange" : Str)), false), ((("NoRule" : Str), ("Ended" : Str)), false), ((("NoRule" : Str), ("NoRule" : Str)), true), ((("NoRule" : Str), ("Unlike" : Str)), false), ((("NoRule" : Str), ("TooMany" : Str)), false), ((("NoRule" : Str), ("NoName" : Str)), false), ((("NoRule" : Str), ("ValueError" : Str)), true), ((("Unlike" : Str), ("CutError" : Str)), true), ((("Unlike" : Str), ("NoRow" : Str)), false), ((("Unlike" : Str), ("NoKinds" : Str)), false), ((("Unlike" : Str), ("NoBook" : Str)), false), ((("Unlike" : Str), ("NoText" : Str)), false), ((("Unlike" : Str), ("NoPlace" : Str)), false), ((("Unlike" : Str), ("NoSide" : Str)), false), ((("Unlike" : Str), ("NoStand" : Str)), false), ((("Unlike" : Str), ("NoSnippet" : Str)), false), ((("Unlike" : Str), ("NoCount" : Str)), false), ((("Unlike" : Str), ("NoChange" : Str)), false), ((("Unlike" : Str), ("Ended" : Str)), false), ((("Unlike" : Str), ("NoRule" : Str)), false), ((("Unlike" : Str), ("Unlike" : Str)), true), ((("Unlike" : Str), ("TooMany" : Str)), false), ((("Unlike" : Str), ("NoName" : Str)), false), ((("Unlike" : Str), ("ValueError" : Str)), true), ((("TooMany" : Str), ("CutError" : Str)), true), ((("TooMany" : Str), ("NoRow" : Str)), false), ((("TooMany" : Str), ("NoKinds" : Str)), false), ((("TooMany" : Str), ("NoBook" : Str)), false), ((("TooMany" : Str), ("NoText" : Str)), false), ((("TooMany" : Str), ("NoPlace" : Str)), false), ((("TooMany" : Str), ("NoSide" : Str)), false), ((("TooMany" : Str), ("NoStand" : Str)), false), ((("TooMany" : Str), ("NoSnippet" : Str)), false), ((("TooMany" : Str), ("NoCount" : Str)), false), ((("TooMany" : Str), ("NoChange" : Str)), false), ((("TooMany" : Str), ("Ended" : Str)), false), ((("TooMany" : Str), ("NoRule" : Str)), false), ((("TooMany" : Str), ("Unlike" : Str)), false), ((("TooMany" : Str), ("TooMany" : Str)), true), ((("TooMany" : Str), ("NoName" : Str)), false), ((("TooMany" : Str), ("ValueError" : Str)), true), ((("NoName" : Str), ("CutError" : Str)), true), ((("NoName" : Str), ("NoRow" : Str)), false), ((("NoName" : Str), ("NoKinds" : Str)), false), ((("NoName" : Str), ("NoBook" : Str)), false), ((("NoName" : Str), ("NoText" : Str)), false), ((("NoName" : Str), ("NoPlace" : Str)), false), ((("NoName" : Str), ("NoSide" : Str)), false), ((("NoName" : Str), ("NoStand" : Str)), false), ((("NoName" : Str), ("NoSnippet" : Str)), false), ((("NoName" : Str), ("NoCount" : Str)), false), ((("NoName" : Str), ("NoChange" : Str)), false), ((("NoName" : Str), ("Ended" : Str)), false), ((("NoName" : Str), ("NoRule" : Str)), false), ((("NoName" : Str), ("Unlike" : Str)), false), ((("NoName" : Str), ("TooMany" : Str)), false), ((("NoName" : Str), ("NoName" : Str)), true), ((("NoName" : Str), ("ValueError" : Str)), true)]
def b__law_cell_at : S :=
  (sSeq (sIf (tCmp dLt (eVar 1) (eFun dLen (lCons (eVar 0) lNil)))
  (sRet (eOp dIx (eVar 0) (eVar 1)))
  sNext)
  (sRet (eC (.int 0))))
def m__law_cell_at : F := runDef 2 b__law_cell_at
def l__law_text_0 : S :=
  (sW (sSet 2 (eOp dAdd (eVar 2) (eOp dIx (eVar 1) (eOp dMod (eOp dAdd (eOp dDiv (eVar 0) (eC (.int 10))) (eOp dMul (eOp dMul (eC (.int 11)) (eVar 3)) (eVar 3))) (eC (.int 37)))))) [3])
def b__law_text : S :=
  (sSeq (sSet 1 (eC (.str "abcdefghijklmnopqrstuvwxyz 0123456789")))
  (sSeq (sSet 2 (eC (.str "")))
  (sSeq (sFor (iRange (eOp dMod (eVar 0) (eC (.int 10)))) (gName 3)
  l__law_text_0)
  (sRet (eVar 2)))))
def m__law_text : F := runDef 4 b__law_text
def b__law_made_more : S :=
  (sSeq (sIf (tCmp dEq (eVar 0) (eC (.int 8)))
  (sRaise1 "NoChange" (eVar 1))
  sNext)
  (sSeq (sIf (tCmp dEq (eVar 0) (eC (.int 9)))
  (sRaise1 "Ended" (eVar 1))
  sNext)
  (sSeq (sIf (tCmp dEq (eVar 0) (eC (.int 10)))
  (sRaise1 "NoRule" (eVar 1))
  sNext)
  (sSeq (sIf (tCmp dEq (eVar 0) (eC (.int 11)))
  (sRaise1 "Unlike" (eVar 1))
  sNext)
  (sSeq (sIf (tCmp dEq (eVar 0) (eC (.int 12)))
  (sRaise1 "TooMany" (eVar 1))
  sNext)
  (sSeq (sIf (tCmp dEq (eVar 0) (eC (.int 13)))
  (sRaise1 "NoName" (eVar 1))
  sNext)
  (sRaiseF "NoRow" "row" (eVar 2))))))))
def m__law_made_more : F := runDef 3 b__law_made_more
def b__law_made : S :=
  (sSeq (sIf (tCmp dEq (eVar 0) (eC (.int 0)))
  (sRaise1 "NoKinds" (eVar 1))
  sNext)
  (sSeq (sIf (tCmp dEq (eVar 0) (eC (.int 1)))
  (sRaise1 "NoBook" (eVar 1))
  sNext)
  (sSeq (sIf (tCmp dEq (eVar 0) (eC (.int 2)))
  (sRaise1 "NoText" (eVar 1))
  sNext)
  (sSeq (sIf (tCmp dEq (eVar 0) (eC (.int 3)))
  (sRaise1 "NoPlace" (eVar 1))
  sNext)
  (sSeq (sIf (tCmp dEq (eVar 0) (eC (.int 4)))
  (sRaise1 "NoSide" (eVar 1))
  sNext)
  (sSeq (sIf (tCmp dEq (eVar 0) (eC (.int 5)))
  (sRaise1 "NoStand" (eVar 1))
  sNext)
  (sSeq (sIf (tCmp dEq (eVar 0) (eC (.int 6)))
  (sRaise1 "NoSnippet" (eVar 1))
  sNext)
  (sSeq (sIf (tCmp dEq (eVar 0) (eC (.int 7)))
  (sRaise1 "NoCount" (eVar 1))
  sNext)
  (sExpr (eCall false 3 m__law_made_more (lCons (eVar 0) (lCons (eVar 1) (lCons (eVar 2) lNil)))))))))))))
def m__law_made : F := runDef 3 b__law_made
def l__law_marks_0 : S :=
  (sExpr (eCall false 3 m__law_made (lCons (eVar 0) (lCons (eVar 1) (lCons (eVar 2) lNil)))))
def l__law_marks_1 : S :=
  (sSeq (sSet 3 (eLst false (lCons (eFun (dIsX xtab_k10) (lCons (eVar 4) (lCons (eC (.cls "NoKinds")) lNil))) (lCons (eFun (dIsX xtab_k10) (lCons (eVar 4) (lCons (eC (.cls "NoBook")) lNil))) (lCons (eFun (dIsX xtab_k10) (lCons (eVar 4) (lCons (eC (.cls "NoText")) lNil))) (lCons (eFun (dIsX xtab_k10) (lCons (eVar 4) (lCons (eC (.cls "NoPlace")) lNil))) lNil))))))
  (sSeq (sSet 3 (eOp dAdd (eVar 3) (eLst false (lCons (eFun (dIsX xtab_k10) (lCons (eVar 4) (lCons (eC (.cls "NoSide")) lNil))) (lCons (eFun (dIsX xtab_k10) (lCons (eVar 4) (lCons (eC (.cls "NoStand")) lNil))) (lCons (eFun (dIsX xtab_k10) (lCons (eVar 4) (lCons (eC (.cls "NoSnippet")) lNil))) lNil))))))
  (sSeq (sSet 3 (eOp dAdd (eVar 3) (eLst false (lCons (eFun (dIsX xtab_k10) (lCons (eVar 4) (lCons (eC (.cls "NoCount")) lNil))) (lCons (eFun (dIsX xtab_k10) (lCons (eVar 4) (lCons (eC (.cls "NoChange")) lNil))) (lCons (eFun (dIsX xtab_k10) (lCons (eVar 4) (lCons (eC (.cls "Ended")) lNil))) (lCons (eFun (dIsX xtab_k10) (lCons (eVar 4) (lCons (eC (.cls "NoRule")) lNil))) lNil)))))))
  (sSeq (sSet 3 (eOp dAdd (eVar 3) (eLst false (lCons (eFun (dIsX xtab_k10) (lCons (eVar 4) (lCons (eC (.cls "Unlike")) lNil))) (lCons (eFun (dIsX xtab_k10) (lCons (eVar 4) (lCons (eC (.cls "TooMany")) lNil))) (lCons (eFun (dIsX xtab_k10) (lCons (eVar 4) (lCons (eC (.cls "NoName")) lNil))) (lCons (eFun (dIsX xtab_k10) (lCons (eVar 4) (lCons (eC (.cls "NoRow")) lNil))) lNil)))))))
  (sSet 3 (eOp dAdd (eVar 3) (eLst false (lCons (eFun (dIsX xtab_k10) (lCons (eVar 4) (lCons (eC (.ty "ValueError")) lNil))) lNil))))))))
def b__law_marks : S :=
  (sSeq (sSet 3 (eLst false lNil))
  (sSeq (sTry xtab_k10 "CutError" (some 4)
  l__law_marks_0 l__law_marks_1
  sNext)
  (sRet (eVar 3))))
def m__law_marks : F := runDef 5 b__law_marks
def l__law_row_0 : S :=
  (sRaiseF "NoRow" "row" (eVar 0))
def l__law_row_1 : S :=
  (sSet 1 (eUn (dXf "NoRow" "row") (eVar 2)))
def b__law_row : S :=
  (sSeq (sSet 1 (eC .non))
  (sSeq (sTry xtab_k10 "NoRow" (some 2)
  l__law_row_0 l__law_row_1
  sNext)
  (sRet (eVar 1))))
def m__law_row : F := runDef 3 b__law_row
def e_law_0 : E :=
  (eCmp dEq (eVar 5) (eVar 3))
def l_law_0 : S :=
  (sW (sSeq (sSet 2 (eCall false 2 m__law_cell_at (lCons (eVar 0) (lCons (eVar 1) lNil))))
  (sSeq (sSet 3 (eOp dMod (eVar 2) (eC (.int 15))))
  (sSeq (sSet 4 (eOp dMod (eOp dDiv (eVar 2) (eC (.int 15))) (eOp dPow (eC (.int 10)) (eC (.int 20)))))
  (sSeq (sIf (tCmp dNe (eCall false 3 m__law_marks (lCons (eVar 3) (lCons (eCall false 1 m__law_text (lCons (eOp dDiv (eVar 2) (eC (.int 15))) lNil)) (lCons (eVar 4) lNil)))) (eOp dAdd (eComp false (iRange (eC (.int 15))) (gName 5) tYes e_law_0 [5]) (eLst false (lCons (eC (.bl true)) lNil))))
  (sRet (eC (.bl false)))
  sNext)
  (sIf (tOr (tCmp dNe (eCall false 1 m__law_row (lCons (eVar 4) lNil)) (eVar 4)) (tCmp dNe (eCall false 1 m__law_row (lCons (eOp dAdd (eVar 4) (eC (.int 1))) lNil)) (eOp dAdd (eVar 4) (eC (.int 1)))))
  (sRet (eC (.bl false)))
  sNext))))) [1, 2, 3, 4])
def b_law : S :=
  (sSeq (sFor (iRange (eFun dMax (lCons (eC (.int 1)) (lCons (eFun dMin (lCons (eFun dLen (lCons (eVar 0) lNil)) (lCons (eC (.int 40)) lNil))) lNil)))) (gName 1)
  l_law_0)
  (sRet (eC (.bl true))))
def m_law : F := runDef 6 b_law
end TT

namespace TT
open PySem
theorem call2 {f : F} {a b : E} {x y d : D} {ρ : Ev} {m m1 m2 : Mem} (ha : a ρ m = .ok x m1) (hb : b ρ m1 = .ok y m2) (nx : noLoc x = true) (ny : noLoc y = true) (hf : ∃ m', f [x, y] [] = .ok d m') (h : noLoc d = true) : eCall false 2 f (lCons a (lCons b lNil)) ρ m = .ok d m2 := by
  refine eCall_eq (M := false) (ds := [x, y]) ?_ rfl ?_ hf h
  · simp -implicitDefEqProofs only [sSeq_a, sSet_a, sIf_a, sExpr_a, sRet_a, sRetN_a, sNext_a, sBreak_a, sCont_a, sAsg_a, sFor_a, sThenF_a, sSetIx_a, eOp_a, eUn_a, eVar_a, eC_a, eFun_a, eFunL_a, eCmp_a, tCmp_a, tVal_a, tNot_a, tAnd_a, tOr_a, eAnd_a, eOr_a, eNot_a, eIf_a, eLst_a, eTup_a, eMeth_a, eAppend_a, eCut_a, oNo_a, oSome_a, eDct0_a, eComp_a, iSeq_a, iRange_a, tYes_a, lCons_a, lNil_a, R.bind_ok, R.bind_exc, R.then_ok, R.then_exc, R.of_some, Option.map_some, Option.bind_some, gName_a, gsNil_a, gsCons_a, gTup_t, gTup_l, wipeE_nil, wipeE_cons, runDef_a, end_nx, end_rt, end_exc, List.getElem?_cons_succ, List.getElem?_cons_zero, List.set_cons_succ, List.set_cons_zero, view_non, view_bl, view_int, view_str, view_lst, view_tup, view_dct, if_true, if_false, ite_true, ite_false, Bool.false_eq_true, Bool.not_true, Bool.not_false, Bool.true_eq_false, List.map_cons, List.map_nil, List.length_cons, List.length_nil, Nat.reduceAdd, Nat.reduceSub, Nat.reduceLeDiff, Nat.zero_add, List.replicate, List.cons_append, List.nil_append, mkL_false, mkL_true, dBool_b, dTruth_b, dTruth_l, dAdd_ii, dSub_ii, dLt_ii, dLe_ii, dGt_ii, dGe_ii, dLen_l, dLen_t, dEq_ii, dNe_ii, dInt_i, dInt_b, dItems_tx, dItems_l, dItems_t, dList_l, dList_t, tyIs_l, tyIs_s, beq_self_eq_true, LN1, eCatM_a, dNotIn_sgtx, view_ty, view_0, view_cls, ha, hb]
  · simp [noLocs, nx, ny]
theorem call1 {f : F} {a : E} {x d : D} {ρ : Ev} {m m1 : Mem} (ha : a ρ m = .ok x m1) (nx : noLoc x = true) (hf : ∃ m', f [x] [] = .ok d m') (h : noLoc d = true) : eCall false 1 f (lCons a lNil) ρ m = .ok d m1 := by
  refine eCall_eq (M := false) (ds := [x]) ?_ rfl ?_ hf h
  · simp -implicitDefEqProofs only [sSeq_a, sSet_a, sIf_a, sExpr_a, sRet_a, sRetN_a, sNext_a, sBreak_a, sCont_a, sAsg_a, sFor_a, sThenF_a, sSetIx_a, eOp_a, eUn_a, eVar_a, eC_a, eFun_a, eFunL_a, eCmp_a, tCmp_a, tVal_a, tNot_a, tAnd_a, tOr_a, eAnd_a, eOr_a, eNot_a, eIf_a, eLst_a, eTup_a, eMeth_a, eAppend_a, eCut_a, oNo_a, oSome_a, eDct0_a, eComp_a, iSeq_a, iRange_a, tYes_a, lCons_a, lNil_a, R.bind_ok, R.bind_exc, R.then_ok, R.then_exc, R.of_some, Option.map_some, Option.bind_some, gName_a, gsNil_a, gsCons_a, gTup_t, gTup_l, wipeE_nil, wipeE_cons, runDef_a, end_nx, end_rt, end_exc, List.getElem?_cons_succ, List.getElem?_cons_zero, List.set_cons_succ, List.set_cons_zero, view_non, view_bl, view_int, view_str, view_lst, view_tup, view_dct, if_true, if_false, ite_true, ite_false, Bool.false_eq_true, Bool.not_true, Bool.not_false, Bool.true_eq_false, List.map_cons, List.map_nil, List.length_cons, List.length_nil, Nat.reduceAdd, Nat.reduceSub, Nat.reduceLeDiff, Nat.zero_add, List.replicate, List.cons_append, List.nil_append, mkL_false, mkL_true, dBool_b, dTruth_b, dTruth_l, dAdd_ii, dSub_ii, dLt_ii, dLe_ii, dGt_ii, dGe_ii, dLen_l, dLen_t, dEq_ii, dNe_ii, dInt_i, dInt_b, dItems_tx, dItems_l, dItems_t, dList_l, dList_t, tyIs_l, tyIs_s, beq_self_eq_true, LN1, eCatM_a, dNotIn_sgtx, view_ty, view_0, view_cls, ha]
  · simp [noLocs, nx]
theorem x_cell (ns : List Int) (k : Nat) : ∃ (v : Int) (m' : Mem), m__law_cell_at [.lst (ns.map D.int), .int (k : Nat)] [] = .ok (.int v) m' := by
  unfold m__law_cell_at b__law_cell_at
  by_cases h : k < ns.length
  · refine ⟨ns[k], [], ?_⟩
    simp [h]
  · refine ⟨0, [], ?_⟩
    simp [h]
/-! values that are data -/
def tyOk : D → Bool
  | .non => true | .bl _ => true | .int _ => true | .str _ => true | .lst _ => true | .tup _ => true | .dct _ => true
  | _ => false
theorem data_ok {n : Nat} {d : D} (h : dataN n d = true) : tyOk d = true := by
  cases d <;> first | rfl | (cases n <;> cases h)
mutual
theorem data_noLoc : ∀ {n : Nat} {d : D}, dataN n d = true → noLoc d = true
  | _, .non, _ => rfl
  | _, .bl _, _ => rfl
  | _, .int _, _ => rfl
  | _, .str _, _ => rfl
  | n + 1, .lst xs, h => data_noLocs (n := n) (xs := xs) fun x hx => List.all_eq_true.mp (show xs.all (dataN n) = true from h) x hx
  | n + 1, .tup xs, h => data_noLocs (n := n) (xs := xs) fun x hx => List.all_eq_true.mp (show xs.all (dataN n) = true from h) x hx
  | 0, .lst _, h => by cases h
  | 0, .tup _, h => by cases h
  | n, .dct _, h => by cases n <;> cases h
  | n, .obj _ _, h => by cases n <;> cases h
  | n, .exc _ _, h => by cases n <;> cases h
  | n, .cls _, h => by cases n <;> cases h
  | n, .ty _, h => by cases n <;> cases h
  | n, .loc _, h => by cases n <;> cases h
theorem data_noLocs : ∀ {n : Nat} {xs : List D}, (∀ x ∈ xs, dataN n x = true) → noLocs xs = true
  | _, [], _ => rfl
  | n, x :: xs, h => by
    show (noLoc x && noLocs xs) = true
    rw [data_noLoc (h x (by simp)), data_noLocs (n := n) fun y hy => h y (by simp [hy])]
    rfl
end
mutual
theorem data_noX : ∀ {n : Nat} {d : D}, dataN n d = true → noX d = true
  | _, .non, _ => rfl
  | _, .bl _, _ => rfl
  | _, .int _, _ => rfl
  | _, .str _, _ => rfl
  | n + 1, .lst xs, h => data_noXs (n := n) (xs := xs) fun x hx => List.all_eq_true.mp (show xs.all (dataN n) = true from h) x hx
  | n + 1, .tup xs, h => data_noXs (n := n) (xs := xs) fun x hx => List.all_eq_true.mp (show xs.all (dataN n) = true from h) x hx
  | 0, .lst _, h => by cases h
  | 0, .tup _, h => by cases h
  | n, .dct _, h => by cases n <;> cases h
  | n, .obj _ _, h => by cases n <;> cases h
  | n, .exc _ _, h => by cases n <;> cases h
  | n, .cls _, h => by cases n <;> cases h
  | n, .ty _, h => by cases n <;> cases h
  | n, .loc _, h => by cases n <;> cases h
theorem data_noXs : ∀ {n : Nat} {xs : List D}, (∀ x ∈ xs, dataN n x = true) → noXs xs = true
  | _, [], _ => rfl
  | n, x :: xs, h => by
    show (noX x && noXs xs) = true
    rw [data_noX (h x (by simp)), data_noXs (n := n) fun y hy => h y (by simp [hy])]
    rfl
end
theorem view_ok {m : Mem} {d : D} (h : tyOk d = true) : view m d = d := by
  cases d <;> first | rfl | cases h
theorem data_lst {n : Nat} {xs : List D} (h : dataN (n + 1) (.lst xs) = true) : ∀ x ∈ xs, dataN n x = true := fun x hx => List.all_eq_true.mp (show xs.all (dataN n) = true from h) x hx
theorem data_tup {n : Nat} {xs : List D} (h : dataN (n + 1) (.tup xs) = true) : ∀ x ∈ xs, dataN n x = true := fun x hx => List.all_eq_true.mp (show xs.all (dataN n) = true from h) x hx
/-! texts -/
def strOf : D → Option (List Nat)
  | .str s => some s.cps.toList
  | _ => none
theorem strOf_inv {d : D} {l : List Nat} (h : strOf d = some l) : d = tx l := by
  cases d with
  | str s =>
    obtain ⟨a⟩ := s
    have h : some a.toList = some l := h
    cases h
    simp
  | _ => cases h
@[simp] theorem strOf_tx (l : List Nat) : strOf (tx l) = some l := nr rfl
theorem isi_ok {d : D} {T : String} (h : tyOk d = true) (hT : T ∈ ["bool", "int", "str", "list", "tuple", "dict"]) : ∃ b, dIsInst [d, .ty T] = some (.bl b) := by
  rw [isi_of hT]
  cases d <;> first | exact ⟨_, rfl⟩ | cases h
theorem isi_s {d : D} (h : tyOk d = true) : dIsInst [d, .ty "str"] = some (.bl (strOf d).isSome) := by
  rw [isi_of (by decide)]
  cases d <;> first | (cases h; done) | rfl | simp [tyIs, strOf]
def isTup : D → Bool
  | .tup _ => true
  | _ => false
def isLst : D → Bool
  | .lst _ => true
  | _ => false
theorem isi_t {d : D} (h : tyOk d = true) : dIsInst [d, .ty "tuple"] = some (.bl (isTup d)) := by
  rw [isi_of (by decide)]
  cases d <;> first | (cases h; done) | rfl | simp [tyIs, isTup]
theorem isi_l {d : D} (h : tyOk d = true) : dIsInst [d, .ty "list"] = some (.bl (isLst d)) := by
  rw [isi_of (by decide)]
  cases d <;> first | (cases h; done) | rfl | simp [tyIs, isLst]
theorem beq_tx (a b : List Nat) : ((⟨a.toArray⟩ : PySem.Str) == ⟨b.toArray⟩) = decide (a = b) := by
  rw [Bool.eq_iff_iff, beq_iff_eq, decide_eq_true_iff]
  constructor
  · intro h
    injection h with h
    simpa using h
  · rintro rfl
    rfl
theorem eqv_tx (a b : List Nat) : eqvD (tx a) (tx b) = decide (a = b) := beq_tx a b
theorem dEq_tx (a b : List Nat) : dEq (tx a) (tx b) = some (decide (a = b)) := by
  rw [dEq_ss, beq_tx]
theorem dLen_tx {l : List Nat} (h : l.length ≤ 16777216) : dLen [tx l] = some (.int (l.length : Nat)) := by
  rw [dLen_s (by rw [tx_len]; exact h), tx_len]
theorem isData_txs (l : List (List Nat)) : isData (.lst (l.map tx)) = true := isData_lst fun x hx => by
  obtain ⟨c, _, rfl⟩ := List.mem_map.mp hx
  rfl
theorem dIn_txs (c : List Nat) (l : List (List Nat)) : dIn (tx c) (.lst (l.map tx)) = some (decide (c ∈ l)) := by
  show (if isData (tx c) = true ∧ isData (.lst (l.map tx)) = true then some ((l.map tx).any fun y => eqvD y (tx c)) else none) = _
  rw [if_pos ⟨rfl, isData_txs l⟩, List.any_map]
  congr 1
  rw [Bool.eq_iff_iff, List.any_eq_true, decide_eq_true_iff]
  simp only [Function.comp_apply, eqv_tx, decide_eq_true_iff]
  exact ⟨fun ⟨x, h1, h2⟩ => h2 ▸ h1, fun h => ⟨c, h, rfl⟩⟩
/-- a comprehension over a text's signs -/
theorem compL_sgs {g : T} {e : E} {ρ : Ev} {m : Mem} (f : Nat → D) : ∀ (cs : List Nat) (acc : List D), (∀ c ∈ cs, ∃ ρ', g (sg c) ρ = some ρ' ∧ e ρ' m = .ok (f c) m) → acc.length + cs.length ≤ 16777216 → compL g tYes e ρ (cs.map sg) acc m = .ok (acc ++ cs.map f) m
  | [], acc, _, _ => by simp
  | c :: cs, acc, h, hl => by
    obtain ⟨ρ', h1, h2⟩ := h c (by simp)
    rw [List.length_cons] at hl
    rw [List.map_cons, compL_cons, h1]
    have hlen : acc.length < LN := by
      show _ < 16777216
      omega
    have ih := compL_sgs (g := g) (e := e) (ρ := ρ) (m := m) f cs (acc ++ [f c]) (fun x hx => h x (by simp [hx])) (by simp; omega)
    simp -implicitDefEqProofs only [tYes_a, h2, hlen, if_true, ih]
    simp
theorem dBools_map {α : Type} (p : α → Bool) : ∀ l : List α, dBools (l.map fun c => .bl (p c)) = some (l.map p)
  | [] => rfl
  | c :: l => by
    show (dBools (l.map fun c => .bl (p c))).map (p c :: ·) = _
    rw [dBools_map p l]
    rfl
theorem dAll_map {α : Type} (p : α → Bool) (l : List α) : dAll [.lst (l.map fun c => .bl (p c))] = some (.bl (l.all p)) := by
  show (dBools (l.map fun c => .bl (p c))).map _ = _
  rw [dBools_map]
  simp [List.all_map, Function.comp_def]
/-! sets of signs -/
theorem mem_dedupL {α : Type} [DecidableEq α] {x : α} : ∀ {l : List α}, x ∈ dedupL l ↔ x ∈ l
  | [] => Iff.rfl
  | y :: l => by
    unfold dedupL
    by_cases h : y ∈ l
    · rw [if_pos h, mem_dedupL, List.mem_cons]
      constructor
      · exact .inr
      · rintro (rfl | h2)
        · exact h
        · exact h2
    · rw [if_neg h, List.mem_cons, List.mem_cons, mem_dedupL]
theorem dedupL_nodup {α : Type} [DecidableEq α] : ∀ l : List α, (dedupL l).Nodup
  | [] => .nil
  | y :: l => by
    unfold dedupL
    by_cases h : y ∈ l
    · rw [if_pos h]
      exact dedupL_nodup l
    · rw [if_neg h]
      exact List.nodup_cons.mpr ⟨fun z => h (mem_dedupL.mp z), dedupL_nodup l⟩
theorem dedupL_id {α : Type} [DecidableEq α] : ∀ {l : List α}, l.Nodup → dedupL l = l
  | [], _ => rfl
  | y :: l, h => by
    unfold dedupL
    rw [if_neg (List.nodup_cons.mp h).1, dedupL_id (List.nodup_cons.mp h).2]
theorem dedupL_le {α : Type} [DecidableEq α] : ∀ l : List α, (dedupL l).length ≤ l.length
  | [] => Nat.le_refl _
  | y :: l => by
    unfold dedupL
    have := dedupL_le l
    by_cases h : y ∈ l
    · rw [if_pos h, List.length_cons]; omega
    · rw [if_neg h, List.length_cons, List.length_cons]; omega
theorem dedupL_len {α : Type} [DecidableEq α] : ∀ {l : List α}, (dedupL l).length = l.length → l.Nodup
  | [], _ => .nil
  | y :: l, h => by
    unfold dedupL at h
    have := dedupL_le l
    by_cases hy : y ∈ l
    · rw [if_pos hy, List.length_cons] at h; omega
    · rw [if_neg hy, List.length_cons, List.length_cons] at h
      exact List.nodup_cons.mpr ⟨hy, dedupL_len (by omega)⟩
theorem dedupL_map {α β : Type} [DecidableEq α] [DecidableEq β] (f : α → β) (hf : ∀ a b, f a = f b → a = b) : ∀ l : List α, dedupL (l.map f) = (dedupL l).map f
  | [] => rfl
  | y :: l => by
    rw [List.map_cons]
    unfold dedupL
    by_cases h : y ∈ l
    · rw [if_pos h, if_pos (List.mem_map.mpr ⟨y, h, rfl⟩), dedupL_map f hf l]
    · rw [if_neg h, if_neg (fun z => by
        obtain ⟨x, hx, e⟩ := List.mem_map.mp z
        exact h (hf _ _ e ▸ hx)), dedupL_map f hf l, List.map_cons]
theorem sg_inj (a b : Nat) (h : PySem.Str.mk #[a] = PySem.Str.mk #[b]) : a = b := by
  injection h with h
  simpa using h
theorem sgs_strs (cs : List Nat) : dStrs (cs.map sg) = some (cs.map fun c => PySem.Str.mk #[c]) := by
  have e : cs.map sg = (cs.map fun c => PySem.Str.mk #[c]).map D.str := by rw [List.map_map]; rfl
  rw [e, dStrs_map]
theorem dLenSet_tx {l : List Nat} (h : l.length < 4000) : dLenSet (tx l) = some (.int ((dedupL l).length : Nat)) := by
  unfold dLenSet
  rw [dItems_tx, Option.bind_some, sgs_strs]
  show (if (l.map fun c => PySem.Str.mk #[c]).length < 4000 then some (D.int ((dedupL (l.map fun c => PySem.Str.mk #[c])).length : Nat)) else none) = _
  rw [if_pos (by rw [List.length_map]; exact h), dedupL_map _ sg_inj, List.length_map]
theorem dSortSet_items {x : D} {l : List Nat} (hx : dItems x = some (l.map sg)) (h : l.length < 4000) : dSortSet x = some ((srt (dedupL l)).map sg) := by
  unfold dSortSet
  rw [hx, Option.bind_some, sgs_strs]
  show (if (l.map fun c => PySem.Str.mk #[c]).length < 4000 then some (((dedupL (l.map fun c => PySem.Str.mk #[c])).mergeSort leS).map D.str) else none) = _
  rw [if_pos (by rw [List.length_map]; exact h), dedupL_map _ sg_inj, srt, ← List.map_mergeSort (f := fun c => PySem.Str.mk #[c]) (r := fun a b => decide (a ≤ b)) (fun a _ b _ => ?_), List.map_map]
  · rfl
  · show decide (a ≤ b) = decide ([a] ≤ [b])
    rw [decide_eq_decide]
    exact (le1 a b).symm
theorem srt_sorted (l : List Nat) : (srt l).Pairwise (· ≤ ·) := by
  have := List.pairwise_mergeSort (le := fun a b : Nat => decide (a ≤ b)) (fun a b c h1 h2 => by simp at *; omega) (fun a b => by simp; omega) l
  exact this.imp fun h => by simpa using h
theorem lt_nodup {l : List Nat} (h : l.Pairwise (· < ·)) : l.Nodup := by
  rw [List.nodup_iff_pairwise_ne]
  exact h.imp fun h => Nat.ne_of_lt h
theorem srt_set {l : List Nat} : l = srt (dedupL l) ↔ l.Pairwise (· < ·) := by
  constructor
  · intro e
    have h1 := srt_sorted (dedupL l)
    have h2 : (srt (dedupL l)).Nodup := (srt_perm _).nodup_iff.mpr (dedupL_nodup l)
    rw [← e] at h1 h2
    rw [List.nodup_iff_pairwise_ne] at h2
    exact (h1.and h2).imp fun h => Nat.lt_of_le_of_ne h.1 h.2
  · intro h
    rw [dedupL_id (lt_nodup h)]
    refine (List.mergeSort_of_pairwise ?_).symm
    exact h.imp fun h => by simp; omega
theorem data_sgs (l : List Nat) : isData (.lst (l.map sg)) = true := isData_lst fun x hx => by
  obtain ⟨c, _, rfl⟩ := List.mem_map.mp hx
  rfl
theorem eqvL_nil (xs : List D) : eqvL xs [] = xs.isEmpty := by cases xs <;> rfl
theorem dEq_nil {xs : List D} (h : isData (.lst xs) = true) : dEq (.lst xs) (.lst []) = some xs.isEmpty := by
  show (if isData (.lst xs) = true ∧ isData (.lst []) = true then some (eqvL xs []) else noDct (.lst xs) (.lst [])) = _
  rw [if_pos ⟨h, rfl⟩, eqvL_nil]
theorem dNe_nil {xs : List D} (h : isData (.lst xs) = true) : dNe (.lst xs) (.lst []) = some (!xs.isEmpty) := by
  show (dEq (.lst xs) (.lst [])).map _ = _
  rw [dEq_nil h]
  rfl
theorem dIx2_0 (a b : D) : dIx (.tup [a, b]) (.int 0) = some a := rfl
theorem dIx2_1 (a b : D) : dIx (.tup [a, b]) (.int 1) = some b := rfl
theorem frz_1 {n : Nat} {xs : List D} {a0 : Option D} {r : Ev} {m : Mem} (h : m[n]? = some (.lst xs)) : frzAt 1 (a0 :: some (.loc n) :: r) m = .nx (a0 :: some (.lst xs) :: r) (m.set n .dead) := by
  unfold frzAt
  simp -implicitDefEqProofs only [List.getElem?_cons_succ, List.getElem?_cons_zero, h, List.set_cons_succ, List.set_cons_zero]
theorem sRaise_a (c : PySem.Str) (ρ : Ev) (m : Mem) : sRaise c ρ m = .exc (.exc c []) ρ m := rfl
theorem sW_a (b : S) (vs : List Nat) (ρ : Ev) (m : Mem) : sW b vs ρ m = match b ρ m with
  | .nx ρ m => .nx (wipeE ρ vs) m
  | .ct ρ m => .ct (wipeE ρ vs) m
  | .bk ρ m => .bk (wipeE ρ vs) m
  | o => o := rfl
theorem dAdd_ll {a b : List D} (h : a.length + b.length ≤ 16777216) : dAdd (.lst a) (.lst b) = some (.lst (a ++ b)) := if_pos h
theorem isTup_inv {d : D} (h : isTup d = true) : ∃ xs, d = .tup xs := by
  cases d <;> first | exact ⟨_, rfl⟩ | cases h
theorem isLst_inv {d : D} (h : isLst d = true) : ∃ xs, d = .lst xs := by
  cases d <;> first | exact ⟨_, rfl⟩ | cases h
def cRest : List Nat := [114, 101, 115, 116]
theorem rest_eq : PySem.Str.ofString "rest" = ⟨cRest.toArray⟩ := by decide +kernel
theorem str_tx (s : PySem.Str) : D.str s = tx s.cps.toList := by
  obtain ⟨a⟩ := s
  simp
theorem pick_list {xs : List D} {i : Nat} {P : D → Prop} (h : ∀ x ∈ xs, P x) (hi : i < xs.length) : ∃ d, dIx (.lst xs) (.int (i : Nat)) = some d ∧ P d :=
  ⟨xs[i], by rw [dIx_lst, List.getElem?_eq_getElem hi], h _ (List.getElem_mem hi)⟩
theorem all_cons {α : Type} {P : α → Prop} {x : α} {l : List α} (h : P x) (t : ∀ y ∈ l, P y) : ∀ y ∈ x :: l, P y := fun y hy => by
  rcases List.mem_cons.mp hy with rfl | hy
  · exact h
  · exact t y hy
theorem all_nil {α : Type} {P : α → Prop} : ∀ y ∈ ([] : List α), P y := fun _ h => nomatch h
theorem cutD_le {α : Type} (l : List α) (lo hi : Option Int) : (cutD l lo hi).length ≤ l.length := by
  unfold cutD
  rw [List.length_take, List.length_drop]
  omega
def cEdge : List Nat := [101, 100, 103, 101]
theorem edge_eq : PySem.Str.ofString "edge" = ⟨cEdge.toArray⟩ := by decide +kernel
def lett : List Nat := (List.range 26).map (97 + ·)
theorem forL_step {g : T} {b : S} {d : D} {ds : List D} {ρ ρ1 ρ2 : Ev} {m m2 : Mem} (hg : g d ρ = some ρ1) (hb : b ρ1 m = .nx ρ2 m2) : forL g b (d :: ds) ρ m = forL g b ds ρ2 m2 := by
  rw [forL_cons, hg]
  simp only [hb]
/-- a comprehension over known items -/
theorem compL_emb {α : Type} {g : T} {e : E} {ρ : Ev} {m : Mem} (i f : α → D) : ∀ (xs : List α) (acc : List D), (∀ x ∈ xs, ∃ ρ', g (i x) ρ = some ρ' ∧ e ρ' m = .ok (f x) m) → acc.length + xs.length ≤ 16777216 → compL g tYes e ρ (xs.map i) acc m = .ok (acc ++ xs.map f) m
  | [], acc, _, _ => by simp
  | x :: xs, acc, h, hl => by
    obtain ⟨ρ', h1, h2⟩ := h x (by simp)
    rw [List.length_cons] at hl
    rw [List.map_cons, compL_cons, h1]
    have hlen : acc.length < LN := by
      show _ < 16777216
      omega
    have ih := compL_emb (g := g) (e := e) (ρ := ρ) (m := m) i f xs (acc ++ [f x]) (fun y hy => h y (by simp [hy])) (by simp; omega)
    simp -implicitDefEqProofs only [tYes_a, h2, hlen, if_true, ih]
    simp
theorem dSum_map {α : Type} (f : α → Int) (l : List α) : dSum [.lst (l.map fun x => .int (f x))] = some (.int (l.map f).sum) := by
  have h : ∀ l : List α, dInts (l.map fun x => .int (f x)) = some (l.map f) := fun l => by
    induction l with
    | nil => rfl
    | cons x l ih =>
      show (dInts (l.map fun x => .int (f x))).map (f x :: ·) = _
      rw [ih]
      rfl
  show (dInts (l.map fun x => .int (f x))).map _ = _
  rw [h]
  rfl
theorem sTry_a (t : XTab) (d : PySem.Str) (i : Option Nat) (b su el : S) (ρ : Ev) (m : Mem) : sTry t d i b su el ρ m = match b ρ m with
  | .nx ρ m => el ρ m
  | .exc (.exc c fs) ρ1 m1 => (match t.lookup (c, d) with
    | some true => endX i (su (inX i (.exc c fs) ρ1) m1)
    | some false => .exc (.exc c fs) ρ1 m1
    | none => .bad)
  | .exc _ _ _ => .bad
  | o => o := rfl
def nm15 (k : Nat) : PySem.Str := ([("NoKinds" : PySem.Str), "NoBook", "NoText", "NoPlace", "NoSide", "NoStand", "NoSnippet", "NoCount", "NoChange", "Ended", "NoRule", "Unlike", "TooMany", "NoName", "NoRow"]).getD k ""
theorem tab15 : ∀ k < 15, (∀ j < 15, xtab_k10.lookup (nm15 k, nm15 j) = some (decide (j = k))) ∧ xtab_k10.lookup (nm15 k, ("CutError" : PySem.Str)) = some true ∧ xtab_k10.lookup (nm15 k, ("ValueError" : PySem.Str)) = some true := by decide +kernel
def fs15 (k : Nat) (r : Int) : List (PySem.Str × D) := if k = 14 then [("row", .int r)] else []
theorem call3X {f : F} {a b c : E} {x y z e : D} {ρ : Ev} {m m1 m2 m3 : Mem} (ha : a ρ m = .ok x m1) (hb : b ρ m1 = .ok y m2) (hc : c ρ m2 = .ok z m3) (nx : noLoc x = true) (ny : noLoc y = true) (nz : noLoc z = true) (hf : ∃ m', f [x, y, z] [] = .exc e m') : eCall false 3 f (lCons a (lCons b (lCons c lNil))) ρ m = .exc e m3 := by
  obtain ⟨m', hf⟩ := hf
  have hl : (lCons a (lCons b (lCons c lNil))) ρ m = .ok [x, y, z] m3 := by simp -implicitDefEqProofs only [sSeq_a, sSet_a, sIf_a, sExpr_a, sRet_a, sRetN_a, sNext_a, sBreak_a, sCont_a, sAsg_a, sFor_a, sThenF_a, sSetIx_a, eOp_a, eUn_a, eVar_a, eC_a, eFun_a, eFunL_a, eCmp_a, tCmp_a, tVal_a, tNot_a, tAnd_a, tOr_a, eAnd_a, eOr_a, eNot_a, eIf_a, eLst_a, eTup_a, eMeth_a, eAppend_a, eCut_a, oNo_a, oSome_a, eDct0_a, eComp_a, iSeq_a, iRange_a, tYes_a, lCons_a, lNil_a, R.bind_ok, R.bind_exc, R.then_ok, R.then_exc, R.of_some, Option.map_some, Option.bind_some, gName_a, gsNil_a, gsCons_a, gTup_t, gTup_l, wipeE_nil, wipeE_cons, runDef_a, end_nx, end_rt, end_exc, List.getElem?_cons_succ, List.getElem?_cons_zero, List.set_cons_succ, List.set_cons_zero, view_non, view_bl, view_int, view_str, view_lst, view_tup, view_dct, if_true, if_false, ite_true, ite_false, Bool.false_eq_true, Bool.not_true, Bool.not_false, Bool.true_eq_false, List.map_cons, List.map_nil, List.length_cons, List.length_nil, Nat.reduceAdd, Nat.reduceSub, Nat.reduceLeDiff, Nat.zero_add, List.replicate, List.cons_append, List.nil_append, mkL_false, mkL_true, dBool_b, dTruth_b, dTruth_l, dAdd_ii, dSub_ii, dLt_ii, dLe_ii, dGt_ii, dGe_ii, dLen_l, dLen_t, dEq_ii, dNe_ii, dInt_i, dInt_b, dItems_tx, dItems_l, dItems_t, dList_l, dList_t, tyIs_l, tyIs_s, beq_self_eq_true, LN1, eCatM_a, dNotIn_sgtx, view_ty, view_0, view_cls, ha, hb, hc]
  have hn : noLocs [x, y, z] = true := by simp [noLocs, nx, ny, nz]
  unfold eCall
  rw [hl]
  simp -implicitDefEqProofs only [R.bind_ok, List.length_cons, List.length_nil, Nat.zero_add, Nat.reduceAdd, hn, and_self, if_true, hf]
theorem call3 {f : F} {a b c : E} {x y z d : D} {ρ : Ev} {m m1 m2 m3 : Mem} (ha : a ρ m = .ok x m1) (hb : b ρ m1 = .ok y m2) (hc : c ρ m2 = .ok z m3) (nx : noLoc x = true) (ny : noLoc y = true) (nz : noLoc z = true) (hf : ∃ m', f [x, y, z] [] = .ok d m') (h : noLoc d = true) : eCall false 3 f (lCons a (lCons b (lCons c lNil))) ρ m = .ok d m3 := by
  refine eCall_eq (M := false) (ds := [x, y, z]) ?_ rfl ?_ hf h
  · simp -implicitDefEqProofs only [sSeq_a, sSet_a, sIf_a, sExpr_a, sRet_a, sRetN_a, sNext_a, sBreak_a, sCont_a, sAsg_a, sFor_a, sThenF_a, sSetIx_a, eOp_a, eUn_a, eVar_a, eC_a, eFun_a, eFunL_a, eCmp_a, tCmp_a, tVal_a, tNot_a, tAnd_a, tOr_a, eAnd_a, eOr_a, eNot_a, eIf_a, eLst_a, eTup_a, eMeth_a, eAppend_a, eCut_a, oNo_a, oSome_a, eDct0_a, eComp_a, iSeq_a, iRange_a, tYes_a, lCons_a, lNil_a, R.bind_ok, R.bind_exc, R.then_ok, R.then_exc, R.of_some, Option.map_some, Option.bind_some, gName_a, gsNil_a, gsCons_a, gTup_t, gTup_l, wipeE_nil, wipeE_cons, runDef_a, end_nx, end_rt, end_exc, List.getElem?_cons_succ, List.getElem?_cons_zero, List.set_cons_succ, List.set_cons_zero, view_non, view_bl, view_int, view_str, view_lst, view_tup, view_dct, if_true, if_false, ite_true, ite_false, Bool.false_eq_true, Bool.not_true, Bool.not_false, Bool.true_eq_false, List.map_cons, List.map_nil, List.length_cons, List.length_nil, Nat.reduceAdd, Nat.reduceSub, Nat.reduceLeDiff, Nat.zero_add, List.replicate, List.cons_append, List.nil_append, mkL_false, mkL_true, dBool_b, dTruth_b, dTruth_l, dAdd_ii, dSub_ii, dLt_ii, dLe_ii, dGt_ii, dGe_ii, dLen_l, dLen_t, dEq_ii, dNe_ii, dInt_i, dInt_b, dItems_tx, dItems_l, dItems_t, dList_l, dList_t, tyIs_l, tyIs_s, beq_self_eq_true, LN1, eCatM_a, dNotIn_sgtx, view_ty, view_0, view_cls, ha, hb, hc]
  · simp [noLocs, nx, ny, nz]
theorem sRaise1_a (c : PySem.Str) (a : E) (ρ : Ev) (m : Mem) : sRaise1 c a ρ m = (a ρ m).then ρ fun _ m => .exc (.exc c []) ρ m := rfl
theorem sRaiseF_a (c f : PySem.Str) (a : E) (ρ : Ev) (m : Mem) : sRaiseF c f a ρ m = (a ρ m).then ρ fun d m => if flatB d = true then .exc (.exc c [(f, d)]) ρ m else .bad := rfl
theorem x_more {k : Nat} (h8 : 8 ≤ k) (hk : k < 15) (t : D) (r : Int) : ∃ m', m__law_made_more [.int (k : Nat), t, .int r] [] = .exc (.exc (nm15 k) (fs15 k r)) m' := by
  have fi : flatB (.int r) = true := rfl
  unfold m__law_made_more b__law_made_more
  rcases (by omega : k = 8 ∨ k = 9 ∨ k = 10 ∨ k = 11 ∨ k = 12 ∨ k = 13 ∨ k = 14) with rfl | rfl | rfl | rfl | rfl | rfl | rfl <;> exact ⟨[], by first | rfl | (simp -implicitDefEqProofs only [sSeq_a, sSet_a, sIf_a, sExpr_a, sRet_a, sRetN_a, sNext_a, sBreak_a, sCont_a, sAsg_a, sFor_a, sThenF_a, sSetIx_a, eOp_a, eUn_a, eVar_a, eC_a, eFun_a, eFunL_a, eCmp_a, tCmp_a, tVal_a, tNot_a, tAnd_a, tOr_a, eAnd_a, eOr_a, eNot_a, eIf_a, eLst_a, eTup_a, eMeth_a, eAppend_a, eCut_a, oNo_a, oSome_a, eDct0_a, eComp_a, iSeq_a, iRange_a, tYes_a, lCons_a, lNil_a, R.bind_ok, R.bind_exc, R.then_ok, R.then_exc, R.of_some, Option.map_some, Option.bind_some, gName_a, gsNil_a, gsCons_a, gTup_t, gTup_l, wipeE_nil, wipeE_cons, runDef_a, end_nx, end_rt, end_exc, List.getElem?_cons_succ, List.getElem?_cons_zero, List.set_cons_succ, List.set_cons_zero, view_non, view_bl, view_int, view_str, view_lst, view_tup, view_dct, if_true, if_false, ite_true, ite_false, Bool.false_eq_true, Bool.not_true, Bool.not_false, Bool.true_eq_false, List.map_cons, List.map_nil, List.length_cons, List.length_nil, Nat.reduceAdd, Nat.reduceSub, Nat.reduceLeDiff, Nat.zero_add, List.replicate, List.cons_append, List.nil_append, mkL_false, mkL_true, dBool_b, dTruth_b, dTruth_l, dAdd_ii, dSub_ii, dLt_ii, dLe_ii, dGt_ii, dGe_ii, dLen_l, dLen_t, dEq_ii, dNe_ii, dInt_i, dInt_b, dItems_tx, dItems_l, dItems_t, dList_l, dList_t, tyIs_l, tyIs_s, beq_self_eq_true, LN1, eCatM_a, dNotIn_sgtx, view_ty, view_0, view_cls, sRaise1_a, sRaiseF_a, fi]; rfl)⟩
theorem x_made {k : Nat} (hk : k < 15) {t : D} (nt : noLoc t = true) (r : Int) : ∃ m', m__law_made [.int (k : Nat), t, .int r] [] = .exc (.exc (nm15 k) (fs15 k r)) m' := by
  by_cases h8 : 8 ≤ k
  · have hc : ∀ ρ m, eCall false 3 m__law_made_more (lCons (eVar 0) (lCons (eVar 1) (lCons (eVar 2) lNil))) (some (.int (k : Nat)) :: some t :: some (.int r) :: ρ) m = .exc (.exc (nm15 k) (fs15 k r)) m := fun ρ m =>
      call3X rfl rfl rfl rfl nt rfl (x_more h8 hk t r)
    have n : ∀ j : Nat, j < 8 → ((k : Int) == (j : Nat)) = false := fun j hj => by simp; omega
    have n0 := n 0 (by omega)
    have n1 := n 1 (by omega)
    have n2 := n 2 (by omega)
    have n3 := n 3 (by omega)
    have n4 := n 4 (by omega)
    have n5 := n 5 (by omega)
    have n6 := n 6 (by omega)
    have n7 := n 7 (by omega)
    refine ⟨[], ?_⟩
    unfold m__law_made b__law_made
    generalize m__law_made_more = MM at hc ⊢
    have e0 : ((0 : Nat) : Int) = 0 := rfl
    have e1 : ((1 : Nat) : Int) = 1 := rfl
    have e2 : ((2 : Nat) : Int) = 2 := rfl
    have e3 : ((3 : Nat) : Int) = 3 := rfl
    have e4 : ((4 : Nat) : Int) = 4 := rfl
    have e5 : ((5 : Nat) : Int) = 5 := rfl
    have e6 : ((6 : Nat) : Int) = 6 := rfl
    have e7 : ((7 : Nat) : Int) = 7 := rfl
    rw [e0] at n0
    rw [e1] at n1
    rw [e2] at n2
    rw [e3] at n3
    rw [e4] at n4
    rw [e5] at n5
    rw [e6] at n6
    rw [e7] at n7
    simp -implicitDefEqProofs only [sSeq_a, sSet_a, sIf_a, sExpr_a, sRet_a, sRetN_a, sNext_a, sBreak_a, sCont_a, sAsg_a, sFor_a, sThenF_a, sSetIx_a, eOp_a, eUn_a, eVar_a, eC_a, eFun_a, eFunL_a, eCmp_a, tCmp_a, tVal_a, tNot_a, tAnd_a, tOr_a, eAnd_a, eOr_a, eNot_a, eIf_a, eLst_a, eTup_a, eMeth_a, eAppend_a, eCut_a, oNo_a, oSome_a, eDct0_a, eComp_a, iSeq_a, iRange_a, tYes_a, lCons_a, lNil_a, R.bind_ok, R.bind_exc, R.then_ok, R.then_exc, R.of_some, Option.map_some, Option.bind_some, gName_a, gsNil_a, gsCons_a, gTup_t, gTup_l, wipeE_nil, wipeE_cons, runDef_a, end_nx, end_rt, end_exc, List.getElem?_cons_succ, List.getElem?_cons_zero, List.set_cons_succ, List.set_cons_zero, view_non, view_bl, view_int, view_str, view_lst, view_tup, view_dct, if_true, if_false, ite_true, ite_false, Bool.false_eq_true, Bool.not_true, Bool.not_false, Bool.true_eq_false, List.map_cons, List.map_nil, List.length_cons, List.length_nil, Nat.reduceAdd, Nat.reduceSub, Nat.reduceLeDiff, Nat.zero_add, List.replicate, List.cons_append, List.nil_append, mkL_false, mkL_true, dBool_b, dTruth_b, dTruth_l, dAdd_ii, dSub_ii, dLt_ii, dLe_ii, dGt_ii, dGe_ii, dLen_l, dLen_t, dEq_ii, dNe_ii, dInt_i, dInt_b, dItems_tx, dItems_l, dItems_t, dList_l, dList_t, tyIs_l, tyIs_s, beq_self_eq_true, LN1, eCatM_a, dNotIn_sgtx, view_ty, view_0, view_cls, n0, n1, n2, n3, n4, n5, n6, n7, hc]
  · unfold m__law_made b__law_made
    rcases (by omega : k = 0 ∨ k = 1 ∨ k = 2 ∨ k = 3 ∨ k = 4 ∨ k = 5 ∨ k = 6 ∨ k = 7) with rfl | rfl | rfl | rfl | rfl | rfl | rfl | rfl <;> exact ⟨[], by first | rfl | (simp -implicitDefEqProofs only [sSeq_a, sSet_a, sIf_a, sExpr_a, sRet_a, sRetN_a, sNext_a, sBreak_a, sCont_a, sAsg_a, sFor_a, sThenF_a, sSetIx_a, eOp_a, eUn_a, eVar_a, eC_a, eFun_a, eFunL_a, eCmp_a, tCmp_a, tVal_a, tNot_a, tAnd_a, tOr_a, eAnd_a, eOr_a, eNot_a, eIf_a, eLst_a, eTup_a, eMeth_a, eAppend_a, eCut_a, oNo_a, oSome_a, eDct0_a, eComp_a, iSeq_a, iRange_a, tYes_a, lCons_a, lNil_a, R.bind_ok, R.bind_exc, R.then_ok, R.then_exc, R.of_some, Option.map_some, Option.bind_some, gName_a, gsNil_a, gsCons_a, gTup_t, gTup_l, wipeE_nil, wipeE_cons, runDef_a, end_nx, end_rt, end_exc, List.getElem?_cons_succ, List.getElem?_cons_zero, List.set_cons_succ, List.set_cons_zero, view_non, view_bl, view_int, view_str, view_lst, view_tup, view_dct, if_true, if_false, ite_true, ite_false, Bool.false_eq_true, Bool.not_true, Bool.not_false, Bool.true_eq_false, List.map_cons, List.map_nil, List.length_cons, List.length_nil, Nat.reduceAdd, Nat.reduceSub, Nat.reduceLeDiff, Nat.zero_add, List.replicate, List.cons_append, List.nil_append, mkL_false, mkL_true, dBool_b, dTruth_b, dTruth_l, dAdd_ii, dSub_ii, dLt_ii, dLe_ii, dGt_ii, dGe_ii, dLen_l, dLen_t, dEq_ii, dNe_ii, dInt_i, dInt_b, dItems_tx, dItems_l, dItems_t, dList_l, dList_t, tyIs_l, tyIs_s, beq_self_eq_true, LN1, eCatM_a, dNotIn_sgtx, view_ty, view_0, view_cls, sRaise1_a]; rfl)⟩
def marks15 (k : Nat) : List D := (List.range 15).map (fun (j : Nat) => D.bl ((j : Int) == (k : Int))) ++ [.bl true]
theorem x_marks {k : Nat} (hk : k < 15) {t : D} (nt : noLoc t = true) (xt : noX t = true) (r : Int) : ∃ m', m__law_marks [.int (k : Nat), t, .int r] [] = .ok (.lst (marks15 k)) m' := by
  obtain ⟨t1, t2, t3⟩ := tab15 k hk
  have e1 : l__law_marks_0 [some (.int (k : Nat)), some t, some (.int r), some (.lst []), none] [] = .exc (.exc (nm15 k) (fs15 k r)) [some (.int (k : Nat)), some t, some (.int r), some (.lst []), none] [] := by
    unfold l__law_marks_0
    rw [sExpr_a, call3X (x := .int (k : Nat)) (y := t) (z := .int r) (m1 := []) (m2 := []) (m3 := []) rfl rfl rfl rfl nt rfl (x_made hk nt r)]
    rfl
  have isx : ∀ j < 15, dIsX xtab_k10 [.exc (nm15 k) (fs15 k r), .cls (nm15 j)] = some (.bl ((j : Int) == (k : Int))) := fun j hj => by
    show (xtab_k10.lookup (nm15 k, nm15 j)).map D.bl = _
    rw [t1 j hj]
    show some (D.bl (decide (j = k))) = _
    congr 2
    rw [Bool.eq_iff_iff, decide_eq_true_iff, beq_iff_eq]
    omega
  have isv : dIsX xtab_k10 [.exc (nm15 k) (fs15 k r), .ty "ValueError"] = some (.bl true) := by
    show (if "ValueError" = "ValueError" then (xtab_k10.lookup (nm15 k, ("ValueError" : PySem.Str))).map D.bl else none) = _
    rw [if_pos rfl, t3]
    rfl
  have v : ∀ m, view m (.exc (nm15 k) (fs15 k r)) = .exc (nm15 k) (fs15 k r) := fun _ => rfl
  have i0 : dIsX xtab_k10 [.exc (nm15 k) (fs15 k r), .cls "NoKinds"] = some (.bl (((0 : Nat) : Int) == (k : Int))) := isx 0 (by omega)
  have i1 : dIsX xtab_k10 [.exc (nm15 k) (fs15 k r), .cls "NoBook"] = some (.bl (((1 : Nat) : Int) == (k : Int))) := isx 1 (by omega)
  have i2 : dIsX xtab_k10 [.exc (nm15 k) (fs15 k r), .cls "NoText"] = some (.bl (((2 : Nat) : Int) == (k : Int))) := isx 2 (by omega)
  have i3 : dIsX xtab_k10 [.exc (nm15 k) (fs15 k r), .cls "NoPlace"] = some (.bl (((3 : Nat) : Int) == (k : Int))) := isx 3 (by omega)
  have i4 : dIsX xtab_k10 [.exc (nm15 k) (fs15 k r), .cls "NoSide"] = some (.bl (((4 : Nat) : Int) == (k : Int))) := isx 4 (by omega)
  have i5 : dIsX xtab_k10 [.exc (nm15 k) (fs15 k r), .cls "NoStand"] = some (.bl (((5 : Nat) : Int) == (k : Int))) := isx 5 (by omega)
  have i6 : dIsX xtab_k10 [.exc (nm15 k) (fs15 k r), .cls "NoSnippet"] = some (.bl (((6 : Nat) : Int) == (k : Int))) := isx 6 (by omega)
  have i7 : dIsX xtab_k10 [.exc (nm15 k) (fs15 k r), .cls "NoCount"] = some (.bl (((7 : Nat) : Int) == (k : Int))) := isx 7 (by omega)
  have i8 : dIsX xtab_k10 [.exc (nm15 k) (fs15 k r), .cls "NoChange"] = some (.bl (((8 : Nat) : Int) == (k : Int))) := isx 8 (by omega)
  have i9 : dIsX xtab_k10 [.exc (nm15 k) (fs15 k r), .cls "Ended"] = some (.bl (((9 : Nat) : Int) == (k : Int))) := isx 9 (by omega)
  have i10 : dIsX xtab_k10 [.exc (nm15 k) (fs15 k r), .cls "NoRule"] = some (.bl (((10 : Nat) : Int) == (k : Int))) := isx 10 (by omega)
  have i11 : dIsX xtab_k10 [.exc (nm15 k) (fs15 k r), .cls "Unlike"] = some (.bl (((11 : Nat) : Int) == (k : Int))) := isx 11 (by omega)
  have i12 : dIsX xtab_k10 [.exc (nm15 k) (fs15 k r), .cls "TooMany"] = some (.bl (((12 : Nat) : Int) == (k : Int))) := isx 12 (by omega)
  have i13 : dIsX xtab_k10 [.exc (nm15 k) (fs15 k r), .cls "NoName"] = some (.bl (((13 : Nat) : Int) == (k : Int))) := isx 13 (by omega)
  have i14 : dIsX xtab_k10 [.exc (nm15 k) (fs15 k r), .cls "NoRow"] = some (.bl (((14 : Nat) : Int) == (k : Int))) := isx 14 (by omega)
  have ad : ∀ a b : List D, a.length + b.length ≤ 16777216 → dAdd (.lst a) (.lst b) = some (.lst (a ++ b)) := fun a b h => if_pos h
  have e2 : l__law_marks_1 [some (.int (k : Nat)), some t, some (.int r), some (.lst []), some (.exc (nm15 k) (fs15 k r))] [] = .nx [some (.int (k : Nat)), some t, some (.int r), some (.lst (marks15 k)), some (.exc (nm15 k) (fs15 k r))] [] := by
    have em : marks15 k = [.bl (((0 : Nat) : Int) == (k : Int)), .bl (((1 : Nat) : Int) == (k : Int)), .bl (((2 : Nat) : Int) == (k : Int)), .bl (((3 : Nat) : Int) == (k : Int)), .bl (((4 : Nat) : Int) == (k : Int)), .bl (((5 : Nat) : Int) == (k : Int)), .bl (((6 : Nat) : Int) == (k : Int)), .bl (((7 : Nat) : Int) == (k : Int)), .bl (((8 : Nat) : Int) == (k : Int)), .bl (((9 : Nat) : Int) == (k : Int)), .bl (((10 : Nat) : Int) == (k : Int)), .bl (((11 : Nat) : Int) == (k : Int)), .bl (((12 : Nat) : Int) == (k : Int)), .bl (((13 : Nat) : Int) == (k : Int)), .bl (((14 : Nat) : Int) == (k : Int)), .bl true] := rfl
    rw [em]
    generalize D.exc (nm15 k) (fs15 k r) = X at *
    unfold l__law_marks_1
    simp -implicitDefEqProofs only [sSeq_a, sSet_a, sIf_a, sExpr_a, sRet_a, sRetN_a, sNext_a, sBreak_a, sCont_a, sAsg_a, sFor_a, sThenF_a, sSetIx_a, eOp_a, eUn_a, eVar_a, eC_a, eFun_a, eFunL_a, eCmp_a, tCmp_a, tVal_a, tNot_a, tAnd_a, tOr_a, eAnd_a, eOr_a, eNot_a, eIf_a, eLst_a, eTup_a, eMeth_a, eAppend_a, eCut_a, oNo_a, oSome_a, eDct0_a, eComp_a, iSeq_a, iRange_a, tYes_a, lCons_a, lNil_a, R.bind_ok, R.bind_exc, R.then_ok, R.then_exc, R.of_some, Option.map_some, Option.bind_some, gName_a, gsNil_a, gsCons_a, gTup_t, gTup_l, wipeE_nil, wipeE_cons, runDef_a, end_nx, end_rt, end_exc, List.getElem?_cons_succ, List.getElem?_cons_zero, List.set_cons_succ, List.set_cons_zero, view_non, view_bl, view_int, view_str, view_lst, view_tup, view_dct, if_true, if_false, ite_true, ite_false, Bool.false_eq_true, Bool.not_true, Bool.not_false, Bool.true_eq_false, List.map_cons, List.map_nil, List.length_cons, List.length_nil, Nat.reduceAdd, Nat.reduceSub, Nat.reduceLeDiff, Nat.zero_add, List.replicate, List.cons_append, List.nil_append, mkL_false, mkL_true, dBool_b, dTruth_b, dTruth_l, dAdd_ii, dSub_ii, dLt_ii, dLe_ii, dGt_ii, dGe_ii, dLen_l, dLen_t, dEq_ii, dNe_ii, dInt_i, dInt_b, dItems_tx, dItems_l, dItems_t, dList_l, dList_t, tyIs_l, tyIs_s, beq_self_eq_true, LN1, eCatM_a, dNotIn_sgtx, view_ty, view_0, view_cls, v, i0, i1, i2, i3, i4, i5, i6, i7, i8, i9, i10, i11, i12, i13, i14, isv, ad]
  have en : endX (some 4) (.nx [some (.int (k : Nat)), some t, some (.int r), some (.lst (marks15 k)), some (.exc (nm15 k) (fs15 k r))] []) = .nx [some (.int (k : Nat)), some t, some (.int r), some (.lst (marks15 k)), none] [] := by
    have u : unD (some t) = some t := by
      show (if noX t = true then some t else none) = _
      rw [if_pos xt]
    show O.nx (([some (D.int (k : Nat)), some t, some (.int r), some (.lst (marks15 k)), some (.exc (nm15 k) (fs15 k r))].map unD).set 4 none) [] = _
    rw [List.map_cons, List.map_cons, u]
    rfl
  refine ⟨[], ?_⟩
  unfold m__law_marks b__law_marks
  simp -implicitDefEqProofs only [runDef_a, List.map_cons, List.map_nil, List.length_cons, List.length_nil, Nat.zero_add, Nat.reduceAdd, Nat.reduceSub, List.replicate, List.cons_append, List.nil_append, sSeq_a, sSet_a, eLst_a, lNil_a, R.bind_ok, mkL_false, R.then_ok, List.set_cons_succ, List.set_cons_zero, Nat.zero_le, if_true, sTry_a, e1, t2, inX, e2, en, sRet_a, eVar_a, List.getElem?_cons_succ, List.getElem?_cons_zero, end_rt, LN1]
theorem x_row (r : Int) : ∃ m', m__law_row [.int r] [] = .ok (.int r) m' := by
  have lk : xtab_k10.lookup (("NoRow" : PySem.Str), ("NoRow" : PySem.Str)) = some true := by decide +kernel
  have dx : dXf "NoRow" "row" (.exc "NoRow" [("row", .int r)]) = some (.int r) := rfl
  have e1 : l__law_row_0 [some (.int r), some .non, none] [] = .exc (.exc "NoRow" [("row", .int r)]) [some (.int r), some .non, none] [] := rfl
  have v : ∀ m, view m (.exc ("NoRow" : PySem.Str) [("row", .int r)]) = .exc ("NoRow" : PySem.Str) [("row", .int r)] := fun _ => rfl
  have e2 : l__law_row_1 [some (.int r), some .non, some (.exc "NoRow" [("row", .int r)])] [] = .nx [some (.int r), some (.int r), some (.exc "NoRow" [("row", .int r)])] [] := by
    unfold l__law_row_1
    simp -implicitDefEqProofs only [sSeq_a, sSet_a, sIf_a, sExpr_a, sRet_a, sRetN_a, sNext_a, sBreak_a, sCont_a, sAsg_a, sFor_a, sThenF_a, sSetIx_a, eOp_a, eUn_a, eVar_a, eC_a, eFun_a, eFunL_a, eCmp_a, tCmp_a, tVal_a, tNot_a, tAnd_a, tOr_a, eAnd_a, eOr_a, eNot_a, eIf_a, eLst_a, eTup_a, eMeth_a, eAppend_a, eCut_a, oNo_a, oSome_a, eDct0_a, eComp_a, iSeq_a, iRange_a, tYes_a, lCons_a, lNil_a, R.bind_ok, R.bind_exc, R.then_ok, R.then_exc, R.of_some, Option.map_some, Option.bind_some, gName_a, gsNil_a, gsCons_a, gTup_t, gTup_l, wipeE_nil, wipeE_cons, runDef_a, end_nx, end_rt, end_exc, List.getElem?_cons_succ, List.getElem?_cons_zero, List.set_cons_succ, List.set_cons_zero, view_non, view_bl, view_int, view_str, view_lst, view_tup, view_dct, if_true, if_false, ite_true, ite_false, Bool.false_eq_true, Bool.not_true, Bool.not_false, Bool.true_eq_false, List.map_cons, List.map_nil, List.length_cons, List.length_nil, Nat.reduceAdd, Nat.reduceSub, Nat.reduceLeDiff, Nat.zero_add, List.replicate, List.cons_append, List.nil_append, mkL_false, mkL_true, dBool_b, dTruth_b, dTruth_l, dAdd_ii, dSub_ii, dLt_ii, dLe_ii, dGt_ii, dGe_ii, dLen_l, dLen_t, dEq_ii, dNe_ii, dInt_i, dInt_b, dItems_tx, dItems_l, dItems_t, dList_l, dList_t, tyIs_l, tyIs_s, beq_self_eq_true, LN1, eCatM_a, dNotIn_sgtx, view_ty, view_0, view_cls, eUn_a, v, dx]
  have en : endX (some 2) (.nx [some (.int r), some (.int r), some (.exc "NoRow" [("row", .int r)])] []) = .nx [some (.int r), some (.int r), none] [] := rfl
  refine ⟨[], ?_⟩
  unfold m__law_row b__law_row
  simp -implicitDefEqProofs only [runDef_a, List.map_cons, List.map_nil, List.length_cons, List.length_nil, Nat.zero_add, Nat.reduceAdd, Nat.reduceSub, List.replicate, List.cons_append, List.nil_append, sSeq_a, sSet_a, eC_a, R.then_ok, List.set_cons_succ, List.set_cons_zero, sTry_a, e1, lk, inX, e2, en, sRet_a, eVar_a, List.getElem?_cons_succ, List.getElem?_cons_zero, end_rt]
def sg37 : List Nat := (List.range 26).map (97 + ·) ++ [32] ++ (List.range 10).map (48 + ·)
theorem sg37_eq : PySem.Str.ofString "abcdefghijklmnopqrstuvwxyz 0123456789" = ⟨sg37.toArray⟩ := by decide +kernel
theorem sg37_len : sg37.length = 37 := by decide
theorem l_text (c : Int) (j : Nat) (hj : j < 10) (l : List Nat) (hl : l.length ≤ 100) : ∃ x, l__law_text_0 [some (.int c), some (tx sg37), some (tx l), some (.int (j : Nat))] [] = .nx [some (.int c), some (tx sg37), some (tx (l ++ [x])), none] [] := by
  have k1 : dDiv (.int c) (.int 10) = some (.int (c / 10)) := dDiv_ii (by omega)
  have k2 : dMul (.int 11) (.int (j : Nat)) = some (.int (11 * (j : Nat))) := dMul_l (by omega)
  have k3 : dMul (.int (11 * (j : Nat))) (.int (j : Nat)) = some (.int (11 * (j : Nat) * (j : Nat))) := dMul_l (by omega)
  have k4 : dMod (.int (c / 10 + 11 * (j : Nat) * (j : Nat))) (.int 37) = some (.int ((c / 10 + 11 * (j : Nat) * (j : Nat)) % 37)) := dMod_ii (by omega)
  obtain ⟨i, ei⟩ := Int.eq_ofNat_of_zero_le (Int.emod_nonneg (c / 10 + 11 * (j : Int) * (j : Int)) (b := 37) (by omega))
  have hi : i < 37 := by have := Int.emod_lt_of_pos (c / 10 + 11 * (j : Int) * (j : Int)) (b := 37) (by omega); omega
  rw [ei] at k4
  obtain ⟨x, hx⟩ : ∃ x, sg37[i]? = some x := ⟨_, List.getElem?_eq_getElem (by rw [sg37_len]; exact hi)⟩
  have k5 : dIx (tx sg37) (.int (i : Nat)) = some (sg x) := dIx_tx (by rw [sg37_len]; omega) (by omega) (by rw [Int.toNat_natCast]; exact hx)
  have k6 := dAdd_tx (a := l) (b := [x]) (by simp; omega)
  refine ⟨x, ?_⟩
  unfold l__law_text_0
  simp -implicitDefEqProofs only [sSeq_a, sSet_a, sIf_a, sExpr_a, sRet_a, sRetN_a, sNext_a, sBreak_a, sCont_a, sAsg_a, sFor_a, sThenF_a, sSetIx_a, eOp_a, eUn_a, eVar_a, eC_a, eFun_a, eFunL_a, eCmp_a, tCmp_a, tVal_a, tNot_a, tAnd_a, tOr_a, eAnd_a, eOr_a, eNot_a, eIf_a, eLst_a, eTup_a, eMeth_a, eAppend_a, eCut_a, oNo_a, oSome_a, eDct0_a, eComp_a, iSeq_a, iRange_a, tYes_a, lCons_a, lNil_a, R.bind_ok, R.bind_exc, R.then_ok, R.then_exc, R.of_some, Option.map_some, Option.bind_some, gName_a, gsNil_a, gsCons_a, gTup_t, gTup_l, wipeE_nil, wipeE_cons, runDef_a, end_nx, end_rt, end_exc, List.getElem?_cons_succ, List.getElem?_cons_zero, List.set_cons_succ, List.set_cons_zero, view_non, view_bl, view_int, view_str, view_lst, view_tup, view_dct, if_true, if_false, ite_true, ite_false, Bool.false_eq_true, Bool.not_true, Bool.not_false, Bool.true_eq_false, List.map_cons, List.map_nil, List.length_cons, List.length_nil, Nat.reduceAdd, Nat.reduceSub, Nat.reduceLeDiff, Nat.zero_add, List.replicate, List.cons_append, List.nil_append, mkL_false, mkL_true, dBool_b, dTruth_b, dTruth_l, dAdd_ii, dSub_ii, dLt_ii, dLe_ii, dGt_ii, dGe_ii, dLen_l, dLen_t, dEq_ii, dNe_ii, dInt_i, dInt_b, dItems_tx, dItems_l, dItems_t, dList_l, dList_t, tyIs_l, tyIs_s, beq_self_eq_true, LN1, eCatM_a, dNotIn_sgtx, view_ty, view_0, view_cls, sW_a, k1, k2, k3, k4, k5, k6]
theorem x_text (c : Int) : ∃ (l : List Nat) (m' : Mem), m__law_text [.int c] [] = .ok (tx l) m' := by
  have k1 : dMod (.int c) (.int 10) = some (.int (c % 10)) := dMod_ii (by omega)
  obtain ⟨n, en⟩ := Int.eq_ofNat_of_zero_le (Int.emod_nonneg c (b := 10) (by omega))
  have hn : n < 10 := by have := Int.emod_lt_of_pos c (b := 10) (by omega); omega
  rw [en] at k1
  have loop : ∃ l : List Nat, forL (gName 3) l__law_text_0 (dRange (n : Nat)) [some (.int c), some (tx sg37), some (tx []), none] [] = .nx [some (.int c), some (tx sg37), some (tx l), none] [] := by
    refine forL_inv (R := fun o => ∃ l : List Nat, o = .nx [some (.int c), some (tx sg37), some (tx l), none] []) (fun i ρ m' => ∃ l : List Nat, l.length = i ∧ ρ = [some (.int c), some (tx sg37), some (tx l), none] ∧ m' = []) _ 0 _ _ ⟨[], rfl, rfl, rfl⟩ ?_ ?_
    · rintro j d ρ m' hd ⟨l, hl, rfl, rfl⟩
      obtain ⟨hj, rfl⟩ := dRange_get hd
      obtain ⟨x, e⟩ := l_text c j (by omega) l (by omega)
      exact ⟨_, rfl, .inl ⟨_, _, .inl e, l ++ [x], by rw [List.length_append, List.length_singleton]; omega, rfl, rfl⟩⟩
    · rintro ρ m' ⟨l, hl, rfl, rfl⟩
      exact ⟨l, rfl⟩
  obtain ⟨l, e⟩ := loop
  refine ⟨l, [], ?_⟩
  unfold m__law_text b__law_text
  simp -implicitDefEqProofs only [sSeq_a, sSet_a, sIf_a, sExpr_a, sRet_a, sRetN_a, sNext_a, sBreak_a, sCont_a, sAsg_a, sFor_a, sThenF_a, sSetIx_a, eOp_a, eUn_a, eVar_a, eC_a, eFun_a, eFunL_a, eCmp_a, tCmp_a, tVal_a, tNot_a, tAnd_a, tOr_a, eAnd_a, eOr_a, eNot_a, eIf_a, eLst_a, eTup_a, eMeth_a, eAppend_a, eCut_a, oNo_a, oSome_a, eDct0_a, eComp_a, iSeq_a, iRange_a, tYes_a, lCons_a, lNil_a, R.bind_ok, R.bind_exc, R.then_ok, R.then_exc, R.of_some, Option.map_some, Option.bind_some, gName_a, gsNil_a, gsCons_a, gTup_t, gTup_l, wipeE_nil, wipeE_cons, runDef_a, end_nx, end_rt, end_exc, List.getElem?_cons_succ, List.getElem?_cons_zero, List.set_cons_succ, List.set_cons_zero, view_non, view_bl, view_int, view_str, view_lst, view_tup, view_dct, if_true, if_false, ite_true, ite_false, Bool.false_eq_true, Bool.not_true, Bool.not_false, Bool.true_eq_false, List.map_cons, List.map_nil, List.length_cons, List.length_nil, Nat.reduceAdd, Nat.reduceSub, Nat.reduceLeDiff, Nat.zero_add, List.replicate, List.cons_append, List.nil_append, mkL_false, mkL_true, dBool_b, dTruth_b, dTruth_l, dAdd_ii, dSub_ii, dLt_ii, dLe_ii, dGt_ii, dGe_ii, dLen_l, dLen_t, dEq_ii, dNe_ii, dInt_i, dInt_b, dItems_tx, dItems_l, dItems_t, dList_l, dList_t, tyIs_l, tyIs_s, beq_self_eq_true, LN1, eCatM_a, dNotIn_sgtx, view_ty, view_0, view_cls, sg37_eq, e0, k1, fun m => rangeOf_nat (n := n) (m := m) (by omega), e]
theorem l_law (ns : List Int) (j : Nat) (hj : j ≤ 1000) : l_law_0 [some (.lst (ns.map D.int)), some (.int (j : Nat)), none, none, none, none] [] = .nx [some (.lst (ns.map D.int)), none, none, none, none, none] [] := by
  obtain ⟨v, mv, ev⟩ := x_cell ns j
  obtain ⟨k, ek⟩ := Int.eq_ofNat_of_zero_le (Int.emod_nonneg v (b := 15) (by omega))
  have hk : k < 15 := by have := Int.emod_lt_of_pos v (b := 15) (by omega); omega
  have k1 : dMod (.int v) (.int 15) = some (.int (k : Nat)) := by rw [dMod_ii (by omega), ek]
  have k2 : dDiv (.int v) (.int 15) = some (.int (v / 15)) := dDiv_ii (by omega)
  have k3 : dMod (.int (v / 15)) (.int 100000000000000000000) = some (.int (v / 15 % 100000000000000000000)) := dMod_ii (by omega)
  generalize v / 15 % 100000000000000000000 = r at k3
  obtain ⟨l, mt, et⟩ := x_text (v / 15)
  obtain ⟨mm, em⟩ := x_marks hk (t := tx l) rfl rfl r
  obtain ⟨m1, e1⟩ := x_row r
  obtain ⟨m2, e2⟩ := x_row (r + 1)
  have c0 : ∀ ρ m, eCall false 2 m__law_cell_at (lCons (eVar 0) (lCons (eVar 1) lNil)) (some (.lst (ns.map D.int)) :: some (.int (j : Nat)) :: ρ) m = .ok (.int v) m := fun ρ m =>
    call2 (x := .lst (ns.map D.int)) (y := .int (j : Nat)) (m1 := m) rfl rfl (noLocs_ints ns) rfl ⟨mv, ev⟩ rfl
  have c1 : ∀ a0 a1 ρ m, eCall false 1 m__law_text (lCons (eOp dDiv (eVar 2) (eC (.int 15))) lNil) (a0 :: a1 :: some (.int v) :: ρ) m = .ok (tx l) m := fun a0 a1 ρ m =>
    call1 (x := .int (v / 15)) (by simp -implicitDefEqProofs only [sSeq_a, sSet_a, sIf_a, sExpr_a, sRet_a, sRetN_a, sNext_a, sBreak_a, sCont_a, sAsg_a, sFor_a, sThenF_a, sSetIx_a, eOp_a, eUn_a, eVar_a, eC_a, eFun_a, eFunL_a, eCmp_a, tCmp_a, tVal_a, tNot_a, tAnd_a, tOr_a, eAnd_a, eOr_a, eNot_a, eIf_a, eLst_a, eTup_a, eMeth_a, eAppend_a, eCut_a, oNo_a, oSome_a, eDct0_a, eComp_a, iSeq_a, iRange_a, tYes_a, lCons_a, lNil_a, R.bind_ok, R.bind_exc, R.then_ok, R.then_exc, R.of_some, Option.map_some, Option.bind_some, gName_a, gsNil_a, gsCons_a, gTup_t, gTup_l, wipeE_nil, wipeE_cons, runDef_a, end_nx, end_rt, end_exc, List.getElem?_cons_succ, List.getElem?_cons_zero, List.set_cons_succ, List.set_cons_zero, view_non, view_bl, view_int, view_str, view_lst, view_tup, view_dct, if_true, if_false, ite_true, ite_false, Bool.false_eq_true, Bool.not_true, Bool.not_false, Bool.true_eq_false, List.map_cons, List.map_nil, List.length_cons, List.length_nil, Nat.reduceAdd, Nat.reduceSub, Nat.reduceLeDiff, Nat.zero_add, List.replicate, List.cons_append, List.nil_append, mkL_false, mkL_true, dBool_b, dTruth_b, dTruth_l, dAdd_ii, dSub_ii, dLt_ii, dLe_ii, dGt_ii, dGe_ii, dLen_l, dLen_t, dEq_ii, dNe_ii, dInt_i, dInt_b, dItems_tx, dItems_l, dItems_t, dList_l, dList_t, tyIs_l, tyIs_s, beq_self_eq_true, LN1, eCatM_a, dNotIn_sgtx, view_ty, view_0, view_cls, k2]) rfl ⟨mt, et⟩ rfl
  have dm : isData (.lst (marks15 k)) = true := isData_lst fun x hx => by
    rcases List.mem_append.mp hx with hx | hx
    · obtain ⟨i, _, rfl⟩ := List.mem_map.mp hx
      rfl
    · obtain rfl := List.mem_singleton.mp hx
      rfl
  have nm := data_noLoc dm
  have c2 : ∀ a0 a1 ρ m, eCall false 3 m__law_marks (lCons (eVar 3) (lCons (eCall false 1 m__law_text (lCons (eOp dDiv (eVar 2) (eC (.int 15))) lNil)) (lCons (eVar 4) lNil))) (a0 :: a1 :: some (.int v) :: some (.int (k : Nat)) :: some (.int r) :: ρ) m = .ok (.lst (marks15 k)) m := fun a0 a1 ρ m =>
    call3 (x := .int (k : Nat)) (y := tx l) (z := .int r) rfl (c1 _ _ _ _) rfl rfl rfl rfl ⟨mm, em⟩ nm
  have c3 : ∀ a0 a1 a2 a3 ρ m, eCall false 1 m__law_row (lCons (eVar 4) lNil) (a0 :: a1 :: a2 :: a3 :: some (.int r) :: ρ) m = .ok (.int r) m := fun a0 a1 a2 a3 ρ m =>
    call1 (x := .int r) rfl rfl ⟨m1, e1⟩ rfl
  have c4 : ∀ a0 a1 a2 a3 ρ m, eCall false 1 m__law_row (lCons (eOp dAdd (eVar 4) (eC (.int 1))) lNil) (a0 :: a1 :: a2 :: a3 :: some (.int r) :: ρ) m = .ok (.int (r + 1)) m := fun a0 a1 a2 a3 ρ m =>
    call1 (x := .int (r + 1)) rfl rfl ⟨m2, e2⟩ rfl
  have cm : ∀ a0 a1 a2 a4 m, compL (gName 5) tYes e_law_0 [a0, a1, a2, some (.int (k : Nat)), a4, none] (dRange ((15 : Nat) : Int)) [] m = .ok ((List.range 15).map fun (j : Nat) => D.bl ((j : Int) == (k : Int))) m := fun a0 a1 a2 a4 m =>
    compL_range (fun (j : Nat) => D.bl ((j : Int) == (k : Int))) m (by omega) fun i hi => ⟨_, rfl, by
      unfold e_law_0
      simp -implicitDefEqProofs only [sSeq_a, sSet_a, sIf_a, sExpr_a, sRet_a, sRetN_a, sNext_a, sBreak_a, sCont_a, sAsg_a, sFor_a, sThenF_a, sSetIx_a, eOp_a, eUn_a, eVar_a, eC_a, eFun_a, eFunL_a, eCmp_a, tCmp_a, tVal_a, tNot_a, tAnd_a, tOr_a, eAnd_a, eOr_a, eNot_a, eIf_a, eLst_a, eTup_a, eMeth_a, eAppend_a, eCut_a, oNo_a, oSome_a, eDct0_a, eComp_a, iSeq_a, iRange_a, tYes_a, lCons_a, lNil_a, R.bind_ok, R.bind_exc, R.then_ok, R.then_exc, R.of_some, Option.map_some, Option.bind_some, gName_a, gsNil_a, gsCons_a, gTup_t, gTup_l, wipeE_nil, wipeE_cons, runDef_a, end_nx, end_rt, end_exc, List.getElem?_cons_succ, List.getElem?_cons_zero, List.set_cons_succ, List.set_cons_zero, view_non, view_bl, view_int, view_str, view_lst, view_tup, view_dct, if_true, if_false, ite_true, ite_false, Bool.false_eq_true, Bool.not_true, Bool.not_false, Bool.true_eq_false, List.map_cons, List.map_nil, List.length_cons, List.length_nil, Nat.reduceAdd, Nat.reduceSub, Nat.reduceLeDiff, Nat.zero_add, List.replicate, List.cons_append, List.nil_append, mkL_false, mkL_true, dBool_b, dTruth_b, dTruth_l, dAdd_ii, dSub_ii, dLt_ii, dLe_ii, dGt_ii, dGe_ii, dLen_l, dLen_t, dEq_ii, dNe_ii, dInt_i, dInt_b, dItems_tx, dItems_l, dItems_t, dList_l, dList_t, tyIs_l, tyIs_s, beq_self_eq_true, LN1, eCatM_a, dNotIn_sgtx, view_ty, view_0, view_cls]⟩
  have ad : dAdd (.lst ((List.range 15).map fun (j : Nat) => D.bl ((j : Int) == (k : Int)))) (.lst [.bl true]) = some (.lst (marks15 k)) := dAdd_ll (by simp)
  have ne := dNe_self dm
  have nr1 : dNe (.int r) (.int r) = some false := dNe_self rfl
  have nr2 : dNe (.int (r + 1)) (.int (r + 1)) = some false := dNe_self rfl
  have rg : ∀ m, rangeOf 15 m = .ok (dRange ((15 : Nat) : Int)) m := fun m => rangeLit 15 m (by omega) (i := 15) rfl
  generalize (List.range 15).map (fun (j : Nat) => D.bl ((j : Int) == (k : Int))) = L at cm ad
  generalize marks15 k = MK at *
  unfold l_law_0
  simp -implicitDefEqProofs only [sSeq_a, sSet_a, sIf_a, sExpr_a, sRet_a, sRetN_a, sNext_a, sBreak_a, sCont_a, sAsg_a, sFor_a, sThenF_a, sSetIx_a, eOp_a, eUn_a, eVar_a, eC_a, eFun_a, eFunL_a, eCmp_a, tCmp_a, tVal_a, tNot_a, tAnd_a, tOr_a, eAnd_a, eOr_a, eNot_a, eIf_a, eLst_a, eTup_a, eMeth_a, eAppend_a, eCut_a, oNo_a, oSome_a, eDct0_a, eComp_a, iSeq_a, iRange_a, tYes_a, lCons_a, lNil_a, R.bind_ok, R.bind_exc, R.then_ok, R.then_exc, R.of_some, Option.map_some, Option.bind_some, gName_a, gsNil_a, gsCons_a, gTup_t, gTup_l, wipeE_nil, wipeE_cons, runDef_a, end_nx, end_rt, end_exc, List.getElem?_cons_succ, List.getElem?_cons_zero, List.set_cons_succ, List.set_cons_zero, view_non, view_bl, view_int, view_str, view_lst, view_tup, view_dct, if_true, if_false, ite_true, ite_false, Bool.false_eq_true, Bool.not_true, Bool.not_false, Bool.true_eq_false, List.map_cons, List.map_nil, List.length_cons, List.length_nil, Nat.reduceAdd, Nat.reduceSub, Nat.reduceLeDiff, Nat.zero_add, List.replicate, List.cons_append, List.nil_append, mkL_false, mkL_true, dBool_b, dTruth_b, dTruth_l, dAdd_ii, dSub_ii, dLt_ii, dLe_ii, dGt_ii, dGe_ii, dLen_l, dLen_t, dEq_ii, dNe_ii, dInt_i, dInt_b, dItems_tx, dItems_l, dItems_t, dList_l, dList_t, tyIs_l, tyIs_s, beq_self_eq_true, LN1, eCatM_a, dNotIn_sgtx, view_ty, view_0, view_cls, sW_a, c0, k1, k2, dPow_1020, k3, c2, rg, cm, ad, ne, c3, c4, nr1, nr2]
theorem law_true (ns : List Int) (h : ns.length ≤ 63) : ∃ m', m_law [.lst (ns.map D.int)] [] = .ok (.bl true) m' := by
  obtain ⟨n, hn, en⟩ : ∃ n : Nat, n ≤ 40 ∧ (fun ρ m => eFun dMax (lCons (eC (.int 1)) (lCons (eFun dMin (lCons (eFun dLen (lCons (eVar 0) lNil)) (lCons (eC (.int 40)) lNil))) lNil)) ρ m) [some (.lst (ns.map D.int)), none, none, none, none, none] [] = .ok (.int (n : Nat)) [] := by
    have mn : dMin [.int (ns.length : Nat), .int 40] = some (.int ((min ns.length 40 : Nat) : Int)) := by
      show some (D.int (if (40 : Int) < (ns.length : Nat) then 40 else (ns.length : Nat))) = _
      congr 2
      by_cases hc : (40 : Int) < (ns.length : Nat)
      · rw [if_pos hc]; omega
      · rw [if_neg hc]; omega
    have mx : dMax [.int 1, .int ((min ns.length 40 : Nat) : Int)] = some (.int ((max 1 (min ns.length 40) : Nat) : Int)) := by
      show some (D.int (if ((min ns.length 40 : Nat) : Int) > 1 then ((min ns.length 40 : Nat) : Int) else 1)) = _
      congr 2
      by_cases hc : ((min ns.length 40 : Nat) : Int) > 1
      · rw [if_pos hc]; omega
      · rw [if_neg hc]; omega
    refine ⟨max 1 (min ns.length 40), by omega, ?_⟩
    simp -implicitDefEqProofs only [sSeq_a, sSet_a, sIf_a, sExpr_a, sRet_a, sRetN_a, sNext_a, sBreak_a, sCont_a, sAsg_a, sFor_a, sThenF_a, sSetIx_a, eOp_a, eUn_a, eVar_a, eC_a, eFun_a, eFunL_a, eCmp_a, tCmp_a, tVal_a, tNot_a, tAnd_a, tOr_a, eAnd_a, eOr_a, eNot_a, eIf_a, eLst_a, eTup_a, eMeth_a, eAppend_a, eCut_a, oNo_a, oSome_a, eDct0_a, eComp_a, iSeq_a, iRange_a, tYes_a, lCons_a, lNil_a, R.bind_ok, R.bind_exc, R.then_ok, R.then_exc, R.of_some, Option.map_some, Option.bind_some, gName_a, gsNil_a, gsCons_a, gTup_t, gTup_l, wipeE_nil, wipeE_cons, runDef_a, end_nx, end_rt, end_exc, List.getElem?_cons_succ, List.getElem?_cons_zero, List.set_cons_succ, List.set_cons_zero, view_non, view_bl, view_int, view_str, view_lst, view_tup, view_dct, if_true, if_false, ite_true, ite_false, Bool.false_eq_true, Bool.not_true, Bool.not_false, Bool.true_eq_false, List.map_cons, List.map_nil, List.length_cons, List.length_nil, Nat.reduceAdd, Nat.reduceSub, Nat.reduceLeDiff, Nat.zero_add, List.replicate, List.cons_append, List.nil_append, mkL_false, mkL_true, dBool_b, dTruth_b, dTruth_l, dAdd_ii, dSub_ii, dLt_ii, dLe_ii, dGt_ii, dGe_ii, dLen_l, dLen_t, dEq_ii, dNe_ii, dInt_i, dInt_b, dItems_tx, dItems_l, dItems_t, dList_l, dList_t, tyIs_l, tyIs_s, beq_self_eq_true, LN1, eCatM_a, dNotIn_sgtx, view_ty, view_0, view_cls, List.length_map, mn, mx]
  have loop : forL (gName 1) l_law_0 (dRange (n : Nat)) [some (.lst (ns.map D.int)), none, none, none, none, none] [] = .nx [some (.lst (ns.map D.int)), none, none, none, none, none] [] := by
    refine forL_inv (R := fun o => o = .nx [some (.lst (ns.map D.int)), none, none, none, none, none] []) (fun i ρ m' => ρ = [some (.lst (ns.map D.int)), none, none, none, none, none] ∧ m' = []) _ 0 _ _ ⟨rfl, rfl⟩ ?_ ?_
    · rintro j d ρ m' hd ⟨rfl, rfl⟩
      obtain ⟨hj, rfl⟩ := dRange_get hd
      exact ⟨_, rfl, .inl ⟨_, _, .inl (l_law ns j (by omega)), rfl, rfl⟩⟩
    · rintro ρ m' ⟨rfl, rfl⟩
      rfl
  refine ⟨[], ?_⟩
  unfold m_law b_law
  have en : eFun dMax (lCons (eC (.int 1)) (lCons (eFun dMin (lCons (eFun dLen (lCons (eVar 0) lNil)) (lCons (eC (.int 40)) lNil))) lNil)) [some (.lst (ns.map D.int)), none, none, none, none, none] [] = .ok (.int (n : Nat)) [] := en
  generalize eFun dMax (lCons (eC (.int 1)) (lCons (eFun dMin (lCons (eFun dLen (lCons (eVar 0) lNil)) (lCons (eC (.int 40)) lNil))) lNil)) = EE at en ⊢
  generalize l_law_0 = L0 at loop ⊢
  simp -implicitDefEqProofs only [sSeq_a, sSet_a, sIf_a, sExpr_a, sRet_a, sRetN_a, sNext_a, sBreak_a, sCont_a, sAsg_a, sFor_a, sThenF_a, sSetIx_a, eOp_a, eUn_a, eVar_a, eC_a, eFun_a, eFunL_a, eCmp_a, tCmp_a, tVal_a, tNot_a, tAnd_a, tOr_a, eAnd_a, eOr_a, eNot_a, eIf_a, eLst_a, eTup_a, eMeth_a, eAppend_a, eCut_a, oNo_a, oSome_a, eDct0_a, eComp_a, iSeq_a, iRange_a, tYes_a, lCons_a, lNil_a, R.bind_ok, R.bind_exc, R.then_ok, R.then_exc, R.of_some, Option.map_some, Option.bind_some, gName_a, gsNil_a, gsCons_a, gTup_t, gTup_l, wipeE_nil, wipeE_cons, runDef_a, end_nx, end_rt, end_exc, List.getElem?_cons_succ, List.getElem?_cons_zero, List.set_cons_succ, List.set_cons_zero, view_non, view_bl, view_int, view_str, view_lst, view_tup, view_dct, if_true, if_false, ite_true, ite_false, Bool.false_eq_true, Bool.not_true, Bool.not_false, Bool.true_eq_false, List.map_cons, List.map_nil, List.length_cons, List.length_nil, Nat.reduceAdd, Nat.reduceSub, Nat.reduceLeDiff, Nat.zero_add, List.replicate, List.cons_append, List.nil_append, mkL_false, mkL_true, dBool_b, dTruth_b, dTruth_l, dAdd_ii, dSub_ii, dLt_ii, dLe_ii, dGt_ii, dGe_ii, dLen_l, dLen_t, dEq_ii, dNe_ii, dInt_i, dInt_b, dItems_tx, dItems_l, dItems_t, dList_l, dList_t, tyIs_l, tyIs_s, beq_self_eq_true, LN1, eCatM_a, dNotIn_sgtx, view_ty, view_0, view_cls, en, fun m => rangeOf_nat (n := n) (m := m) (by omega), loop]
end TT

set_option maxHeartbeats 2000000
/-! Wk10: derivations, printed by gen.py -/
namespace TT
open PySem PySem.Spec PyProof.Rows L2
def top (i : Nat) : Stmt := PySem.Challenge.pw_cutreach_k10_refusals_made.main.body.getD i (.Pass ⟨0, 0, 0, 0⟩)
structure Facts (K : PySem.W.Frag) (mg : Str → Option Value) : Prop where
  b_ValueError : mg "ValueError" = none
  b_isinstance : mg "isinstance" = none
  b_len : mg "len" = none
  b_max : mg "max" = none
  b_min : mg "min" = none
  b_range : mg "range" = none
  f_NoRow : ∃ C, mg "NoRow" = some (.ref C) ∧ XfC K C ∧ PySem.W.findIn K (.ref C) "row" = some none
  i_NoRow : ∃ D, mg "CutError" = some (.ref D) ∧ PySem.W.specialIn K (.ref D) "__getattribute__" = some (some (.builtin "type.__getattribute__")) ∧ PySem.W.readsIn K D (.type "type") = true ∧ PySem.W.findCls K (.ref D) (.type "type") "__init__" = some (.val (.builtin "ValueError.__init__"))
  x_NoKinds : ∃ C, XC K mg "NoKinds" C
  x_NoBook : ∃ C, XC K mg "NoBook" C
  x_NoText : ∃ C, XC K mg "NoText" C
  x_NoPlace : ∃ C, XC K mg "NoPlace" C
  x_NoSide : ∃ C, XC K mg "NoSide" C
  x_NoStand : ∃ C, XC K mg "NoStand" C
  x_NoSnippet : ∃ C, XC K mg "NoSnippet" C
  x_NoCount : ∃ C, XC K mg "NoCount" C
  x_NoChange : ∃ C, XC K mg "NoChange" C
  x_Ended : ∃ C, XC K mg "Ended" C
  x_NoRule : ∃ C, XC K mg "NoRule" C
  x_Unlike : ∃ C, XC K mg "Unlike" C
  x_TooMany : ∃ C, XC K mg "TooMany" C
  x_NoName : ∃ C, XC K mg "NoName" C
  h_CutError : ∃ C, mg "CutError" = some (.ref C)
  h_NoRow : ∃ C, mg "NoRow" = some (.ref C)
  h_NoKinds : ∃ C, mg "NoKinds" = some (.ref C)
  h_NoBook : ∃ C, mg "NoBook" = some (.ref C)
  h_NoText : ∃ C, mg "NoText" = some (.ref C)
  h_NoPlace : ∃ C, mg "NoPlace" = some (.ref C)
  h_NoSide : ∃ C, mg "NoSide" = some (.ref C)
  h_NoStand : ∃ C, mg "NoStand" = some (.ref C)
  h_NoSnippet : ∃ C, mg "NoSnippet" = some (.ref C)
  h_NoCount : ∃ C, mg "NoCount" = some (.ref C)
  h_NoChange : ∃ C, mg "NoChange" = some (.ref C)
  h_Ended : ∃ C, mg "Ended" = some (.ref C)
  h_NoRule : ∃ C, mg "NoRule" = some (.ref C)
  h_Unlike : ∃ C, mg "Unlike" = some (.ref C)
  h_TooMany : ∃ C, mg "TooMany" = some (.ref C)
  h_NoName : ∃ C, mg "NoName" = some (.ref C)
  xt : XTok K mg xtab_k10
section
variable {P : Program} {w : World} {K : PySem.W.Frag} {mg : Str → Option Value} {base : Heap}
abbrev si_NoRow : Stmt := inClass (top 16) 0
theorem sci_NoRow : FnScope ["self", "row"] ["self", "row"] (defScope si_NoRow) := ⟨rfl, rfl, rfl, by decide +kernel, rfl, by decide +kernel, by decide +kernel⟩
theorem oki_NoRow (Y : Facts K mg) {a : Addr} {fd : FuncData} (Fn : Fun K "__init__" "NoRow.__init__" si_NoRow a fd) : FnOk P w K mg base CX0 1 a fd ["self", "row"] (spKeep K "row") :=
  init_keep (ms := "a row that is none") Fn sci_NoRow fun cdv A outer s H E => pss_cons (ps_expr (pe_cinit rfl Y.i_NoRow.choose_spec.1 Y.i_NoRow.choose_spec.2.1 Y.i_NoRow.choose_spec.2.2.1 Y.i_NoRow.choose_spec.2.2.2 (pa_cons (pv 0) (pa_cons pe_str pa_nil)))) (pss_one (ps_ost (pv 0) (pv 1)))
abbrev s__law_cell_at : Stmt := top 18
theorem sc__law_cell_at : FnScope ["_law_script", "_law_k"] ["_law_script", "_law_k"] (defScope s__law_cell_at) := ⟨rfl, rfl, rfl, by decide +kernel, rfl, by decide +kernel, by decide +kernel⟩
theorem dv__law_cell_at (Y : Facts K mg) {a : Addr} (c : Ct) (xo : c.xo = none) (cdv : Value) (A : Around) (outer : List Env) (s : Shared) (H : Hp) (E : XK) (F : Fit (cxOf (L2.CX P w) P w K mg base ["_law_script", "_law_k"] "_law_cell_at" (defScope s__law_cell_at) a cdv A outer s H E) c 0) :
    PSs (cxOf (L2.CX P w) P w K mg base ["_law_script", "_law_k"] "_law_cell_at" (defScope s__law_cell_at) a cdv A outer s H E) (defBody s__law_cell_at) (rS c b__law_cell_at) := by
  unfold b__law_cell_at
  exact (xss_cons (xs_if (xt_lt (xe_var 1) (xe_len F Y.b_len (xa_cons (xe_var 0) xa_nil)))
  (xss_one (xs_ret (xe_ix F (xe_var 0) (xe_var 1))))
  xss_nil)
  (xss_one (xs_ret xe_int)))
theorem ok__law_cell_at (Y : Facts K mg) {a : Addr} {fd : FuncData} (Fn : Fun K "_law_cell_at" "_law_cell_at" s__law_cell_at a fd) : FnOk P w K mg base (L2.CX P w) 1 a fd ["_law_script", "_law_k"] (spD K mg 2 m__law_cell_at) := by
  have h := fn_mk (P := P) (w := w) (mg := mg) (base := base) (k := 0) (n := 2) (b := b__law_cell_at) Fn sc__law_cell_at rfl (dv__law_cell_at Y)
  exact h
abbrev s__law_text : Stmt := top 19
theorem sc__law_text : FnScope ["_law_cell", "_law_signs", "_law_text_here", "_law_k"] ["_law_cell"] (defScope s__law_text) := ⟨rfl, rfl, rfl, by decide +kernel, rfl, by decide +kernel, by decide +kernel⟩
theorem dv__law_text (Y : Facts K mg) {a : Addr} (c : Ct) (xo : c.xo = none) (cdv : Value) (A : Around) (outer : List Env) (s : Shared) (H : Hp) (E : XK) (F : Fit (cxOf (L2.CX P w) P w K mg base ["_law_cell", "_law_signs", "_law_text_here", "_law_k"] "_law_text" (defScope s__law_text) a cdv A outer s H E) c 0) :
    PSs (cxOf (L2.CX P w) P w K mg base ["_law_cell", "_law_signs", "_law_text_here", "_law_k"] "_law_text" (defScope s__law_text) a cdv A outer s H E) (defBody s__law_text) (rS c b__law_text) := by
  unfold b__law_text
  exact (xss_cons (xs_set F.nd rfl (.inl rfl) (xe_str))
  (xss_cons (xs_set F.nd rfl (.inl rfl) (xe_str))
  (xss_cons (xs_for F (xi_range F rfl Y.b_range (xe_mod (xe_var 0) xe_int)) (xg_name F.nd rfl (.inl rfl))
  (xss_wipe [3] (xss_one (xs_set F.nd rfl (.inl rfl) (xe_add F.z (xe_var 2) (xe_ix F (xe_var 1) (xe_mod (xe_add F.z (xe_div (xe_var 0) xe_int) (xe_mul F (xe_mul F xe_int (xe_var 3)) (xe_var 3))) xe_int)))))))
  (xss_one (xs_ret (xe_var 2))))))
theorem ok__law_text (Y : Facts K mg) {a : Addr} {fd : FuncData} (Fn : Fun K "_law_text" "_law_text" s__law_text a fd) : FnOk P w K mg base (L2.CX P w) 1 a fd ["_law_cell"] (spD K mg 1 m__law_text) := by
  have h := fn_mk (P := P) (w := w) (mg := mg) (base := base) (k := 0) (n := 1) (b := b__law_text) Fn sc__law_text rfl (dv__law_text Y)
  exact h
abbrev s__law_made_more : Stmt := top 21
theorem sc__law_made_more : FnScope ["_law_kind", "_law_text_here", "_law_row_here"] ["_law_kind", "_law_text_here", "_law_row_here"] (defScope s__law_made_more) := ⟨rfl, rfl, rfl, by decide +kernel, rfl, by decide +kernel, by decide +kernel⟩
theorem dv__law_made_more (Y : Facts K mg) (I_NoRow : ∃ C, XI P w K mg base "NoRow" "row" C) {a : Addr} (c : Ct) (xo : c.xo = none) (cdv : Value) (A : Around) (outer : List Env) (s : Shared) (H : Hp) (E : XK) (F : Fit (cxOf (L2.CX P w) P w K mg base ["_law_kind", "_law_text_here", "_law_row_here"] "_law_made_more" (defScope s__law_made_more) a cdv A outer s H E) c 2) :
    PSs (cxOf (L2.CX P w) P w K mg base ["_law_kind", "_law_text_here", "_law_row_here"] "_law_made_more" (defScope s__law_made_more) a cdv A outer s H E) (defBody s__law_made_more) (rS c b__law_made_more) := by
  unfold b__law_made_more
  exact (xss_cons (xs_if (xt_eq F (xe_var 0) xe_int)
  (xss_one (xs_raise1 F Y.x_NoChange.choose_spec rfl (xe_var 1)))
  xss_nil)
  (xss_cons (xs_if (xt_eq F (xe_var 0) xe_int)
  (xss_one (xs_raise1 F Y.x_Ended.choose_spec rfl (xe_var 1)))
  xss_nil)
  (xss_cons (xs_if (xt_eq F (xe_var 0) xe_int)
  (xss_one (xs_raise1 F Y.x_NoRule.choose_spec rfl (xe_var 1)))
  xss_nil)
  (xss_cons (xs_if (xt_eq F (xe_var 0) xe_int)
  (xss_one (xs_raise1 F Y.x_Unlike.choose_spec rfl (xe_var 1)))
  xss_nil)
  (xss_cons (xs_if (xt_eq F (xe_var 0) xe_int)
  (xss_one (xs_raise1 F Y.x_TooMany.choose_spec rfl (xe_var 1)))
  xss_nil)
  (xss_cons (xs_if (xt_eq F (xe_var 0) xe_int)
  (xss_one (xs_raise1 F Y.x_NoName.choose_spec rfl (xe_var 1)))
  xss_nil)
  (xss_one (xs_raiseF F I_NoRow.choose_spec rfl (xe_var 2)))))))))
theorem ok__law_made_more (Y : Facts K mg) {a : Addr} {fd : FuncData} (Fn : Fun K "_law_made_more" "_law_made_more" s__law_made_more a fd) (I_NoRow : ∃ C, XI P w K mg base "NoRow" "row" C) : FnOk P w K mg base (L2.CX P w) 3 a fd ["_law_kind", "_law_text_here", "_law_row_here"] (spD K mg 3 m__law_made_more) := by
  have h := fn_mk (P := P) (w := w) (mg := mg) (base := base) (k := 2) (n := 3) (b := b__law_made_more) Fn sc__law_made_more rfl (dv__law_made_more Y I_NoRow)
  exact h
abbrev s__law_made : Stmt := top 20
theorem sc__law_made : FnScope ["_law_kind", "_law_text_here", "_law_row_here"] ["_law_kind", "_law_text_here", "_law_row_here"] (defScope s__law_made) := ⟨rfl, rfl, rfl, by decide +kernel, rfl, by decide +kernel, by decide +kernel⟩
theorem dv__law_made (Y : Facts K mg) (C__law_made_more : Callee P w K mg base 3 "_law_made_more" 3 m__law_made_more) {a : Addr} (c : Ct) (xo : c.xo = none) (cdv : Value) (A : Around) (outer : List Env) (s : Shared) (H : Hp) (E : XK) (F : Fit (cxOf (L2.CX P w) P w K mg base ["_law_kind", "_law_text_here", "_law_row_here"] "_law_made" (defScope s__law_made) a cdv A outer s H E) c 3) :
    PSs (cxOf (L2.CX P w) P w K mg base ["_law_kind", "_law_text_here", "_law_row_here"] "_law_made" (defScope s__law_made) a cdv A outer s H E) (defBody s__law_made) (rS c b__law_made) := by
  unfold b__law_made
  exact (xss_cons (xs_if (xt_eq F (xe_var 0) xe_int)
  (xss_one (xs_raise1 F Y.x_NoKinds.choose_spec rfl (xe_var 1)))
  xss_nil)
  (xss_cons (xs_if (xt_eq F (xe_var 0) xe_int)
  (xss_one (xs_raise1 F Y.x_NoBook.choose_spec rfl (xe_var 1)))
  xss_nil)
  (xss_cons (xs_if (xt_eq F (xe_var 0) xe_int)
  (xss_one (xs_raise1 F Y.x_NoText.choose_spec rfl (xe_var 1)))
  xss_nil)
  (xss_cons (xs_if (xt_eq F (xe_var 0) xe_int)
  (xss_one (xs_raise1 F Y.x_NoPlace.choose_spec rfl (xe_var 1)))
  xss_nil)
  (xss_cons (xs_if (xt_eq F (xe_var 0) xe_int)
  (xss_one (xs_raise1 F Y.x_NoSide.choose_spec rfl (xe_var 1)))
  xss_nil)
  (xss_cons (xs_if (xt_eq F (xe_var 0) xe_int)
  (xss_one (xs_raise1 F Y.x_NoStand.choose_spec rfl (xe_var 1)))
  xss_nil)
  (xss_cons (xs_if (xt_eq F (xe_var 0) xe_int)
  (xss_one (xs_raise1 F Y.x_NoSnippet.choose_spec rfl (xe_var 1)))
  xss_nil)
  (xss_cons (xs_if (xt_eq F (xe_var 0) xe_int)
  (xss_one (xs_raise1 F Y.x_NoCount.choose_spec rfl (xe_var 1)))
  xss_nil)
  (xss_one (xs_expr (xe_call F xo C__law_made_more (by decide) rfl (xa_cons (xe_var 0) (xa_cons (xe_var 1) (xa_cons (xe_var 2) xa_nil))))))))))))))
theorem ok__law_made (Y : Facts K mg) {a : Addr} {fd : FuncData} (Fn : Fun K "_law_made" "_law_made" s__law_made a fd) (C__law_made_more : Callee P w K mg base 3 "_law_made_more" 3 m__law_made_more) : FnOk P w K mg base (L2.CX P w) 4 a fd ["_law_kind", "_law_text_here", "_law_row_here"] (spD K mg 3 m__law_made) := by
  have h := fn_mk (P := P) (w := w) (mg := mg) (base := base) (k := 3) (n := 3) (b := b__law_made) Fn sc__law_made rfl (dv__law_made Y C__law_made_more)
  exact h
abbrev s__law_marks : Stmt := top 22
theorem sc__law_marks : FnScope ["_law_kind", "_law_text_here", "_law_row_here", "_law_marks_here", "e"] ["_law_kind", "_law_text_here", "_law_row_here"] (defScope s__law_marks) := ⟨rfl, rfl, rfl, by decide +kernel, rfl, by decide +kernel, by decide +kernel⟩
theorem dv__law_marks (Y : Facts K mg) (C__law_made : Callee P w K mg base 4 "_law_made" 3 m__law_made) {a : Addr} (c : Ct) (xo : c.xo = none) (cdv : Value) (A : Around) (outer : List Env) (s : Shared) (H : Hp) (E : XK) (F : Fit (cxOf (L2.CX P w) P w K mg base ["_law_kind", "_law_text_here", "_law_row_here", "_law_marks_here", "e"] "_law_marks" (defScope s__law_marks) a cdv A outer s H E) c 4) :
    PSs (cxOf (L2.CX P w) P w K mg base ["_law_kind", "_law_text_here", "_law_row_here", "_law_marks_here", "e"] "_law_marks" (defScope s__law_marks) a cdv A outer s H E) (defBody s__law_marks) (rS c b__law_marks) := by
  unfold b__law_marks
  exact (xss_cons (xs_set F.nd rfl (.inl rfl) (xe_lst xa_nil))
  (xss_cons (xs_tryAs F xo Y.xt Y.h_CutError.choose_spec rfl rfl rfl rfl rfl (fun pn xe c xo F => (xss_one (xs_expr (xe_call F xo C__law_made (by decide) rfl (xa_cons (xe_var 0) (xa_cons (xe_var 1) (xa_cons (xe_var 2) xa_nil)))))))
  (fun pn a oe C dd c cY F => (xss_cons (xs_set F.nd rfl (.inl rfl) (xe_lst (xa_cons (xe_isX Y.xt cY F Y.b_isinstance (xa_cons (xe_var 4) (xa_cons (xe_cls F rfl Y.h_NoKinds.choose_spec) xa_nil))) (xa_cons (xe_isX Y.xt cY F Y.b_isinstance (xa_cons (xe_var 4) (xa_cons (xe_cls F rfl Y.h_NoBook.choose_spec) xa_nil))) (xa_cons (xe_isX Y.xt cY F Y.b_isinstance (xa_cons (xe_var 4) (xa_cons (xe_cls F rfl Y.h_NoText.choose_spec) xa_nil))) (xa_cons (xe_isX Y.xt cY F Y.b_isinstance (xa_cons (xe_var 4) (xa_cons (xe_cls F rfl Y.h_NoPlace.choose_spec) xa_nil))) xa_nil))))))
  (xss_cons (xs_set F.nd rfl (.inl rfl) (xe_add F (xe_var 3) (xe_lst (xa_cons (xe_isX Y.xt cY F Y.b_isinstance (xa_cons (xe_var 4) (xa_cons (xe_cls F rfl Y.h_NoSide.choose_spec) xa_nil))) (xa_cons (xe_isX Y.xt cY F Y.b_isinstance (xa_cons (xe_var 4) (xa_cons (xe_cls F rfl Y.h_NoStand.choose_spec) xa_nil))) (xa_cons (xe_isX Y.xt cY F Y.b_isinstance (xa_cons (xe_var 4) (xa_cons (xe_cls F rfl Y.h_NoSnippet.choose_spec) xa_nil))) xa_nil))))))
  (xss_cons (xs_set F.nd rfl (.inl rfl) (xe_add F (xe_var 3) (xe_lst (xa_cons (xe_isX Y.xt cY F Y.b_isinstance (xa_cons (xe_var 4) (xa_cons (xe_cls F rfl Y.h_NoCount.choose_spec) xa_nil))) (xa_cons (xe_isX Y.xt cY F Y.b_isinstance (xa_cons (xe_var 4) (xa_cons (xe_cls F rfl Y.h_NoChange.choose_spec) xa_nil))) (xa_cons (xe_isX Y.xt cY F Y.b_isinstance (xa_cons (xe_var 4) (xa_cons (xe_cls F rfl Y.h_Ended.choose_spec) xa_nil))) (xa_cons (xe_isX Y.xt cY F Y.b_isinstance (xa_cons (xe_var 4) (xa_cons (xe_cls F rfl Y.h_NoRule.choose_spec) xa_nil))) xa_nil)))))))
  (xss_cons (xs_set F.nd rfl (.inl rfl) (xe_add F (xe_var 3) (xe_lst (xa_cons (xe_isX Y.xt cY F Y.b_isinstance (xa_cons (xe_var 4) (xa_cons (xe_cls F rfl Y.h_Unlike.choose_spec) xa_nil))) (xa_cons (xe_isX Y.xt cY F Y.b_isinstance (xa_cons (xe_var 4) (xa_cons (xe_cls F rfl Y.h_TooMany.choose_spec) xa_nil))) (xa_cons (xe_isX Y.xt cY F Y.b_isinstance (xa_cons (xe_var 4) (xa_cons (xe_cls F rfl Y.h_NoName.choose_spec) xa_nil))) (xa_cons (xe_isX Y.xt cY F Y.b_isinstance (xa_cons (xe_var 4) (xa_cons (xe_cls F rfl Y.h_NoRow.choose_spec) xa_nil))) xa_nil)))))))
  (xss_one (xs_set F.nd rfl (.inl rfl) (xe_add F (xe_var 3) (xe_lst (xa_cons (xe_isX Y.xt cY F Y.b_isinstance (xa_cons (xe_var 4) (xa_cons (xe_vErr F rfl Y.b_ValueError) xa_nil))) xa_nil))))))))))
  xss_nil)
  (xss_one (xs_ret (xe_var 3)))))
theorem ok__law_marks (Y : Facts K mg) {a : Addr} {fd : FuncData} (Fn : Fun K "_law_marks" "_law_marks" s__law_marks a fd) (C__law_made : Callee P w K mg base 4 "_law_made" 3 m__law_made) : FnOk P w K mg base (L2.CX P w) 5 a fd ["_law_kind", "_law_text_here", "_law_row_here"] (spD K mg 3 m__law_marks) := by
  have h := fn_mk (P := P) (w := w) (mg := mg) (base := base) (k := 4) (n := 3) (b := b__law_marks) Fn sc__law_marks rfl (dv__law_marks Y C__law_made)
  exact h
abbrev s__law_row : Stmt := top 23
theorem sc__law_row : FnScope ["_law_row_here", "_law_found", "e"] ["_law_row_here"] (defScope s__law_row) := ⟨rfl, rfl, rfl, by decide +kernel, rfl, by decide +kernel, by decide +kernel⟩
theorem dv__law_row (Y : Facts K mg) (I_NoRow : ∃ C, XI P w K mg base "NoRow" "row" C) {a : Addr} (c : Ct) (xo : c.xo = none) (cdv : Value) (A : Around) (outer : List Env) (s : Shared) (H : Hp) (E : XK) (F : Fit (cxOf (L2.CX P w) P w K mg base ["_law_row_here", "_law_found", "e"] "_law_row" (defScope s__law_row) a cdv A outer s H E) c 2) :
    PSs (cxOf (L2.CX P w) P w K mg base ["_law_row_here", "_law_found", "e"] "_law_row" (defScope s__law_row) a cdv A outer s H E) (defBody s__law_row) (rS c b__law_row) := by
  unfold b__law_row
  exact (xss_cons (xs_set F.nd rfl (.inl rfl) xe_non)
  (xss_cons (xs_tryAs F xo Y.xt Y.h_NoRow.choose_spec rfl rfl rfl rfl rfl (fun pn xe c xo F => (xss_one (xs_raiseF F I_NoRow.choose_spec rfl (xe_var 0))))
  (fun pn a oe C dd c cY F => (xss_one (xs_set F.nd rfl (.inl rfl) (xe_xf Y.f_NoRow.choose_spec.1 Y.f_NoRow.choose_spec.2.1 Y.f_NoRow.choose_spec.2.2 cY F (xe_var 2)))))
  xss_nil)
  (xss_one (xs_ret (xe_var 1)))))
theorem ok__law_row (Y : Facts K mg) {a : Addr} {fd : FuncData} (Fn : Fun K "_law_row" "_law_row" s__law_row a fd) (I_NoRow : ∃ C, XI P w K mg base "NoRow" "row" C) : FnOk P w K mg base (L2.CX P w) 3 a fd ["_law_row_here"] (spD K mg 1 m__law_row) := by
  have h := fn_mk (P := P) (w := w) (mg := mg) (base := base) (k := 2) (n := 1) (b := b__law_row) Fn sc__law_row rfl (dv__law_row Y I_NoRow)
  exact h
abbrev s_law : Stmt := top 24
theorem sc_law : FnScope ["_law_script", "_law_k", "_law_cell", "_law_kind", "_law_row_here", "_law_j"] ["_law_script"] (defScope s_law) := ⟨rfl, rfl, rfl, by decide +kernel, rfl, by decide +kernel, by decide +kernel⟩
theorem dv_law (Y : Facts K mg) (C__law_cell_at : Callee P w K mg base 1 "_law_cell_at" 2 m__law_cell_at) (C__law_marks : Callee P w K mg base 5 "_law_marks" 3 m__law_marks) (C__law_text : Callee P w K mg base 1 "_law_text" 1 m__law_text) (C__law_row : Callee P w K mg base 3 "_law_row" 1 m__law_row) {a : Addr} (c : Ct) (xo : c.xo = none) (cdv : Value) (A : Around) (outer : List Env) (s : Shared) (H : Hp) (E : XK) (F : Fit (cxOf (L2.CX P w) P w K mg base ["_law_script", "_law_k", "_law_cell", "_law_kind", "_law_row_here", "_law_j"] "law" (defScope s_law) a cdv A outer s H E) c 5) :
    PSs (cxOf (L2.CX P w) P w K mg base ["_law_script", "_law_k", "_law_cell", "_law_kind", "_law_row_here", "_law_j"] "law" (defScope s_law) a cdv A outer s H E) (defBody s_law) (rS c b_law) := by
  unfold b_law
  exact (xss_cons (xs_for F (xi_range F rfl Y.b_range (xe_maxF F Y.b_max (xa_cons xe_int (xa_cons (xe_minF F Y.b_min (xa_cons (xe_len F Y.b_len (xa_cons (xe_var 0) xa_nil)) (xa_cons xe_int xa_nil))) xa_nil)))) (xg_name F.nd rfl (.inl rfl))
  (xss_wipe [1, 2, 3, 4] (xss_cons (xs_set F.nd rfl (.inl rfl) (xe_call F xo C__law_cell_at (by decide) rfl (xa_cons (xe_var 0) (xa_cons (xe_var 1) xa_nil))))
  (xss_cons (xs_set F.nd rfl (.inr rfl) (xe_mod (xe_var 2) xe_int))
  (xss_cons (xs_set F.nd rfl (.inl rfl) (xe_mod (xe_div (xe_var 2) xe_int) (xe_pow xe_int xe_int)))
  (xss_cons (xs_if (xt_ne F (xe_call F xo C__law_marks (by decide) rfl (xa_cons (xe_var 3) (xa_cons (xe_call F xo C__law_text (by decide) rfl (xa_cons (xe_div (xe_var 2) xe_int) xa_nil)) (xa_cons (xe_var 4) xa_nil)))) (xe_add F.z (xe_comp F (xi_range F rfl Y.b_range xe_int) (blkOk_by (own := [("_law_j", 5)]) (by kernel_rfl)) (by decide +kernel)
    (fun B s H C cl fp F => (xg_name F.nd rfl (.inl rfl)))
    (fun B s H C cl fp F => xts_nil)
    (fun B s H C cl fp F => (xe_eq F (xe_var 5) (xe_var 3)))) (xe_lst (xa_cons xe_bl xa_nil))))
  (xss_one (xs_ret xe_bl))
  xss_nil)
  (xss_one (xs_if (PW.pt (xw_or (xt_ne F (xe_call F xo C__law_row (by decide) rfl (xa_cons (xe_var 4) xa_nil)) (xe_var 4)) (xw_or1 (xt_ne F (xe_call F xo C__law_row (by decide) rfl (xa_cons (xe_add F.z (xe_var 4) xe_int) xa_nil)) (xe_add F.z (xe_var 4) xe_int)))))
  (xss_one (xs_ret xe_bl))
  xss_nil))))))))
  (xss_one (xs_ret xe_bl)))
theorem ok_law (Y : Facts K mg) {a : Addr} {fd : FuncData} (Fn : Fun K "law" "law" s_law a fd) (C__law_cell_at : Callee P w K mg base 1 "_law_cell_at" 2 m__law_cell_at) (C__law_marks : Callee P w K mg base 5 "_law_marks" 3 m__law_marks) (C__law_text : Callee P w K mg base 1 "_law_text" 1 m__law_text) (C__law_row : Callee P w K mg base 3 "_law_row" 1 m__law_row) : FnOk P w K mg base (L2.CX P w) 6 a fd ["_law_script"] (spD K mg 1 m_law) := by
  have h := fn_mk (P := P) (w := w) (mg := mg) (base := base) (k := 5) (n := 1) (b := b_law) Fn sc_law rfl (dv_law Y C__law_cell_at C__law_marks C__law_text C__law_row)
  exact h
end
end TT

set_option maxHeartbeats 2000000
/-! Ek10: the end, printed by gen.py -/
namespace TT
open PySem PySem.Spec PyProof.Rows L2
theorem all_mk {P : Program} {w : World} {K : PySem.W.Frag} {h : Heap} {mg : Str → Option Value} {fa : Addr} (X : K.In h) (G : h.Ns mainGlobals mg) (hfa : mg "law" = some (.ref fa)) {f0 f1 f2 f3 f4 f5 f6 : Addr}
    {od0 an0 : Option Addr} {sl0 : Array (Option Value)} {oc0 kV0 dc0 pm0 cd0 ct0 : Value}
    (a0 : PySem.W.nsIn K mainGlobals "_law_cell_at" = some (some (.ref f0))) (l0 : K.lookup f0 = some ⟨oc0, od0, .func (PySem.W.fnOf "_law_cell_at" "_law_cell_at" (defArgs s__law_cell_at) (defBody s__law_cell_at) (defScope s__law_cell_at) .none kV0 dc0 pm0 an0 cd0 ct0), sl0⟩) (c0 : PySem.W.codeIn K cd0 "_law_cell_at" = true) (k0 : PySem.W.keepIn K (.ref f0) = true)
    {od1 an1 : Option Addr} {sl1 : Array (Option Value)} {oc1 kV1 dc1 pm1 cd1 ct1 : Value}
    (a1 : PySem.W.nsIn K mainGlobals "_law_text" = some (some (.ref f1))) (l1 : K.lookup f1 = some ⟨oc1, od1, .func (PySem.W.fnOf "_law_text" "_law_text" (defArgs s__law_text) (defBody s__law_text) (defScope s__law_text) .none kV1 dc1 pm1 an1 cd1 ct1), sl1⟩) (c1 : PySem.W.codeIn K cd1 "_law_text" = true) (k1 : PySem.W.keepIn K (.ref f1) = true)
    {od2 an2 : Option Addr} {sl2 : Array (Option Value)} {oc2 kV2 dc2 pm2 cd2 ct2 : Value}
    (a2 : PySem.W.nsIn K mainGlobals "_law_made_more" = some (some (.ref f2))) (l2 : K.lookup f2 = some ⟨oc2, od2, .func (PySem.W.fnOf "_law_made_more" "_law_made_more" (defArgs s__law_made_more) (defBody s__law_made_more) (defScope s__law_made_more) .none kV2 dc2 pm2 an2 cd2 ct2), sl2⟩) (c2 : PySem.W.codeIn K cd2 "_law_made_more" = true) (k2 : PySem.W.keepIn K (.ref f2) = true)
    {od3 an3 : Option Addr} {sl3 : Array (Option Value)} {oc3 kV3 dc3 pm3 cd3 ct3 : Value}
    (a3 : PySem.W.nsIn K mainGlobals "_law_made" = some (some (.ref f3))) (l3 : K.lookup f3 = some ⟨oc3, od3, .func (PySem.W.fnOf "_law_made" "_law_made" (defArgs s__law_made) (defBody s__law_made) (defScope s__law_made) .none kV3 dc3 pm3 an3 cd3 ct3), sl3⟩) (c3 : PySem.W.codeIn K cd3 "_law_made" = true) (k3 : PySem.W.keepIn K (.ref f3) = true)
    {od4 an4 : Option Addr} {sl4 : Array (Option Value)} {oc4 kV4 dc4 pm4 cd4 ct4 : Value}
    (a4 : PySem.W.nsIn K mainGlobals "_law_marks" = some (some (.ref f4))) (l4 : K.lookup f4 = some ⟨oc4, od4, .func (PySem.W.fnOf "_law_marks" "_law_marks" (defArgs s__law_marks) (defBody s__law_marks) (defScope s__law_marks) .none kV4 dc4 pm4 an4 cd4 ct4), sl4⟩) (c4 : PySem.W.codeIn K cd4 "_law_marks" = true) (k4 : PySem.W.keepIn K (.ref f4) = true)
    {od5 an5 : Option Addr} {sl5 : Array (Option Value)} {oc5 kV5 dc5 pm5 cd5 ct5 : Value}
    (a5 : PySem.W.nsIn K mainGlobals "_law_row" = some (some (.ref f5))) (l5 : K.lookup f5 = some ⟨oc5, od5, .func (PySem.W.fnOf "_law_row" "_law_row" (defArgs s__law_row) (defBody s__law_row) (defScope s__law_row) .none kV5 dc5 pm5 an5 cd5 ct5), sl5⟩) (c5 : PySem.W.codeIn K cd5 "_law_row" = true) (k5 : PySem.W.keepIn K (.ref f5) = true)
    {od6 an6 : Option Addr} {sl6 : Array (Option Value)} {oc6 kV6 dc6 pm6 cd6 ct6 : Value}
    (a6 : PySem.W.nsIn K mainGlobals "law" = some (some (.ref f6))) (l6 : K.lookup f6 = some ⟨oc6, od6, .func (PySem.W.fnOf "law" "law" (defArgs s_law) (defBody s_law) (defScope s_law) .none kV6 dc6 pm6 an6 cd6 ct6), sl6⟩) (c6 : PySem.W.codeIn K cd6 "law" = true) (k6 : PySem.W.keepIn K (.ref f6) = true)
    (z_ValueError : PySem.W.nsIn K mainGlobals "ValueError" = some none)
    (z_isinstance : PySem.W.nsIn K mainGlobals "isinstance" = some none)
    (z_len : PySem.W.nsIn K mainGlobals "len" = some none)
    (z_max : PySem.W.nsIn K mainGlobals "max" = some none)
    (z_min : PySem.W.nsIn K mainGlobals "min" = some none)
    (z_range : PySem.W.nsIn K mainGlobals "range" = some none)
    {C_CutError : Addr} (xa_CutError : PySem.W.nsIn K mainGlobals "CutError" = some (some (.ref C_CutError)))
    (xt_CutError : PySem.W.typeIn K (.ref C_CutError) = some (.type "type"))
    (xs_CutError : PySem.W.subIn K (.ref C_CutError) (.type "BaseException") = some true)
    (xi_CutError : PySem.W.isClsIn K C_CutError = true)
    (xr_CutError : PySem.W.subIn K (.ref C_CutError) (.ref C_CutError) = some true)
    {C_NoRow : Addr} (xa_NoRow : PySem.W.nsIn K mainGlobals "NoRow" = some (some (.ref C_NoRow)))
    (xt_NoRow : PySem.W.typeIn K (.ref C_NoRow) = some (.type "type"))
    (xs_NoRow : PySem.W.subIn K (.ref C_NoRow) (.type "BaseException") = some true)
    (xk_NoRow : PySem.W.keepIn K (.ref C_NoRow) = true)
    {nm_NoRow q_NoRow : Str} {N_NoRow fi_NoRow : Addr} {bs_NoRow bm_NoRow sub_NoRow : List Value} {sn_NoRow : List Str} {ab_NoRow : Bool} {col_NoRow : Option Bool} {dd_NoRow : Option Addr} {k0_NoRow k1_NoRow k2_NoRow k3_NoRow k5_NoRow : Option Value}
    (ol_NoRow : K.lookup C_NoRow = some ⟨.type "type", dd_NoRow, .cls { name := nm_NoRow, bases := bs_NoRow, mro := .ref C_NoRow :: bm_NoRow, ns := N_NoRow, qualname := q_NoRow, hasDict := true, slotNames := sn_NoRow, subclasses := sub_NoRow, abstract := ab_NoRow, collection := col_NoRow, hasDel := false }, #[k0_NoRow, k1_NoRow, k2_NoRow, k3_NoRow, some (.builtin "ValueError.__new__"), k5_NoRow]⟩)
    (ob_NoRow : PySem.HandSPX.refsVE bm_NoRow = true)
    (os_NoRow : PySem.W.findIn K (.ref C_NoRow) "__setattr__" = some (some (.builtin "object.__setattr__")))
    (on_NoRow : PySem.W.findIn K (.ref C_NoRow) "row" = some none)
    (oi_NoRow : PySem.W.findIn K (.ref C_NoRow) "__init__" = some (some (.ref fi_NoRow))) (ot_NoRow : PySem.W.typeIn K (.ref fi_NoRow) = some (.type "function"))
    {io_NoRow ia_NoRow : Option Addr} {is_NoRow : Array (Option Value)} {ic_NoRow ik_NoRow id_NoRow ip_NoRow ie_NoRow iz_NoRow : Value}
    (il_NoRow : K.lookup fi_NoRow = some ⟨ic_NoRow, io_NoRow, .func (PySem.W.fnOf "__init__" "NoRow.__init__" (defArgs si_NoRow) (defBody si_NoRow) (defScope si_NoRow) .none ik_NoRow id_NoRow ip_NoRow ia_NoRow ie_NoRow iz_NoRow), is_NoRow⟩) (iq_NoRow : PySem.W.codeIn K ie_NoRow "NoRow.__init__" = true) (iw_NoRow : PySem.W.keepIn K (.ref fi_NoRow) = true)
    (bg_NoRow : PySem.W.specialIn K (.ref C_CutError) "__getattribute__" = some (some (.builtin "type.__getattribute__"))) (br_NoRow : PySem.W.readsIn K C_CutError (.type "type") = true) (bf_NoRow : PySem.W.findCls K (.ref C_CutError) (.type "type") "__init__" = some (.val (.builtin "ValueError.__init__")))
    (xe1_NoRow : PySem.W.findIn K (.ref C_NoRow) "__getattribute__" = some (some (.builtin "BaseException.__getattribute__")))
    (xe2_NoRow : PySem.W.findIn K (.ref C_NoRow) "__getattr__" = some none)
    (xe3_NoRow : PySem.W.hasDictIn K C_NoRow = true)
    (xe4_NoRow : PySem.W.findIn K (.ref C_NoRow) "__class__" = some (some (.builtin "object.__class__")))
    (xe5_NoRow : PySem.W.mroIn K C_NoRow (.type "object") = some true)
    (xi_NoRow : PySem.W.isClsIn K C_NoRow = true)
    (xr_NoRow : PySem.W.subIn K (.ref C_NoRow) (.ref C_NoRow) = some true)
    {C_NoKinds : Addr} (xa_NoKinds : PySem.W.nsIn K mainGlobals "NoKinds" = some (some (.ref C_NoKinds)))
    (xt_NoKinds : PySem.W.typeIn K (.ref C_NoKinds) = some (.type "type"))
    (xs_NoKinds : PySem.W.subIn K (.ref C_NoKinds) (.type "BaseException") = some true)
    (xk_NoKinds : PySem.W.keepIn K (.ref C_NoKinds) = true)
    (xb_NoKinds : PySem.W.excIn K C_NoKinds [.type "ValueError", .type "Exception", .type "BaseException", .type "object"] "ValueError.__new__" = true)
    (xe1_NoKinds : PySem.W.findIn K (.ref C_NoKinds) "__getattribute__" = some (some (.builtin "BaseException.__getattribute__")))
    (xe2_NoKinds : PySem.W.findIn K (.ref C_NoKinds) "__getattr__" = some none)
    (xe3_NoKinds : PySem.W.hasDictIn K C_NoKinds = true)
    (xe4_NoKinds : PySem.W.findIn K (.ref C_NoKinds) "__class__" = some (some (.builtin "object.__class__")))
    (xe5_NoKinds : PySem.W.mroIn K C_NoKinds (.type "object") = some true)
    (xi_NoKinds : PySem.W.isClsIn K C_NoKinds = true)
    (xr_NoKinds : PySem.W.subIn K (.ref C_NoKinds) (.ref C_NoKinds) = some true)
    {C_NoBook : Addr} (xa_NoBook : PySem.W.nsIn K mainGlobals "NoBook" = some (some (.ref C_NoBook)))
    (xt_NoBook : PySem.W.typeIn K (.ref C_NoBook) = some (.type "type"))
    (xs_NoBook : PySem.W.subIn K (.ref C_NoBook) (.type "BaseException") = some true)
    (xk_NoBook : PySem.W.keepIn K (.ref C_NoBook) = true)
    (xb_NoBook : PySem.W.excIn K C_NoBook [.type "ValueError", .type "Exception", .type "BaseException", .type "object"] "ValueError.__new__" = true)
    (xe1_NoBook : PySem.W.findIn K (.ref C_NoBook) "__getattribute__" = some (some (.builtin "BaseException.__getattribute__")))
    (xe2_NoBook : PySem.W.findIn K (.ref C_NoBook) "__getattr__" = some none)
    (xe3_NoBook : PySem.W.hasDictIn K C_NoBook = true)
    (xe4_NoBook : PySem.W.findIn K (.ref C_NoBook) "__class__" = some (some (.builtin "object.__class__")))
    (xe5_NoBook : PySem.W.mroIn K C_NoBook (.type "object") = some true)
    (xi_NoBook : PySem.W.isClsIn K C_NoBook = true)
    (xr_NoBook : PySem.W.subIn K (.ref C_NoBook) (.ref C_NoBook) = some true)
    {C_NoText : Addr} (xa_NoText : PySem.W.nsIn K mainGlobals "NoText" = some (some (.ref C_NoText)))
    (xt_NoText : PySem.W.typeIn K (.ref C_NoText) = some (.type "type"))
    (xs_NoText : PySem.W.subIn K (.ref C_NoText) (.type "BaseException") = some true)
    (xk_NoText : PySem.W.keepIn K (.ref C_NoText) = true)
    (xb_NoText : PySem.W.excIn K C_NoText [.type "ValueError", .type "Exception", .type "BaseException", .type "object"] "ValueError.__new__" = true)
    (xe1_NoText : PySem.W.findIn K (.ref C_NoText) "__getattribute__" = some (some (.builtin "BaseException.__getattribute__")))
    (xe2_NoText : PySem.W.findIn K (.ref C_NoText) "__getattr__" = some none)
    (xe3_NoText : PySem.W.hasDictIn K C_NoText = true)
    (xe4_NoText : PySem.W.findIn K (.ref C_NoText) "__class__" = some (some (.builtin "object.__class__")))
    (xe5_NoText : PySem.W.mroIn K C_NoText (.type "object") = some true)
    (xi_NoText : PySem.W.isClsIn K C_NoText = true)
    (xr_NoText : PySem.W.subIn K (.ref C_NoText) (.ref C_NoText) = some true)
    {C_NoPlace : Addr} (xa_NoPlace : PySem.W.nsIn K mainGlobals "NoPlace" = some (some (.ref C_NoPlace)))
    (xt_NoPlace : PySem.W.typeIn K (.ref C_NoPlace) = some (.type "type"))
    (xs_NoPlace : PySem.W.subIn K (.ref C_NoPlace) (.type "BaseException") = some true)
    (xk_NoPlace : PySem.W.keepIn K (.ref C_NoPlace) = true)
    (xb_NoPlace : PySem.W.excIn K C_NoPlace [.type "ValueError", .type "Exception", .type "BaseException", .type "object"] "ValueError.__new__" = true)
    (xe1_NoPlace : PySem.W.findIn K (.ref C_NoPlace) "__getattribute__" = some (some (.builtin "BaseException.__getattribute__")))
    (xe2_NoPlace : PySem.W.findIn K (.ref C_NoPlace) "__getattr__" = some none)
    (xe3_NoPlace : PySem.W.hasDictIn K C_NoPlace = true)
    (xe4_NoPlace : PySem.W.findIn K (.ref C_NoPlace) "__class__" = some (some (.builtin "object.__class__")))
    (xe5_NoPlace : PySem.W.mroIn K C_NoPlace (.type "object") = some true)
    (xi_NoPlace : PySem.W.isClsIn K C_NoPlace = true)
    (xr_NoPlace : PySem.W.subIn K (.ref C_NoPlace) (.ref C_NoPlace) = some true)
    {C_NoSide : Addr} (xa_NoSide : PySem.W.nsIn K mainGlobals "NoSide" = some (some (.ref C_NoSide)))
    (xt_NoSide : PySem.W.typeIn K (.ref C_NoSide) = some (.type "type"))
    (xs_NoSide : PySem.W.subIn K (.ref C_NoSide) (.type "BaseException") = some true)
    (xk_NoSide : PySem.W.keepIn K (.ref C_NoSide) = true)
    (xb_NoSide : PySem.W.excIn K C_NoSide [.type "ValueError", .type "Exception", .type "BaseException", .type "object"] "ValueError.__new__" = true)
    (xe1_NoSide : PySem.W.findIn K (.ref C_NoSide) "__getattribute__" = some (some (.builtin "BaseException.__getattribute__")))
    (xe2_NoSide : PySem.W.findIn K (.ref C_NoSide) "__getattr__" = some none)
    (xe3_NoSide : PySem.W.hasDictIn K C_NoSide = true)
    (xe4_NoSide : PySem.W.findIn K (.ref C_NoSide) "__class__" = some (some (.builtin "object.__class__")))
    (xe5_NoSide : PySem.W.mroIn K C_NoSide (.type "object") = some true)
    (xi_NoSide : PySem.W.isClsIn K C_NoSide = true)
    (xr_NoSide : PySem.W.subIn K (.ref C_NoSide) (.ref C_NoSide) = some true)
    {C_NoStand : Addr} (xa_NoStand : PySem.W.nsIn K mainGlobals "NoStand" = some (some (.ref C_NoStand)))
    (xt_NoStand : PySem.W.typeIn K (.ref C_NoStand) = some (.type "type"))
    (xs_NoStand : PySem.W.subIn K (.ref C_NoStand) (.type "BaseException") = some true)
    (xk_NoStand : PySem.W.keepIn K (.ref C_NoStand) = true)
    (xb_NoStand : PySem.W.excIn K C_NoStand [.type "ValueError", .type "Exception", .type "BaseException", .type "object"] "ValueError.__new__" = true)
    (xe1_NoStand : PySem.W.findIn K (.ref C_NoStand) "__getattribute__" = some (some (.builtin "BaseException.__getattribute__")))
    (xe2_NoStand : PySem.W.findIn K (.ref C_NoStand) "__getattr__" = some none)
    (xe3_NoStand : PySem.W.hasDictIn K C_NoStand = true)
    (xe4_NoStand : PySem.W.findIn K (.ref C_NoStand) "__class__" = some (some (.builtin "object.__class__")))
    (xe5_NoStand : PySem.W.mroIn K C_NoStand (.type "object") = some true)
    (xi_NoStand : PySem.W.isClsIn K C_NoStand = true)
    (xr_NoStand : PySem.W.subIn K (.ref C_NoStand) (.ref C_NoStand) = some true)
    {C_NoSnippet : Addr} (xa_NoSnippet : PySem.W.nsIn K mainGlobals "NoSnippet" = some (some (.ref C_NoSnippet)))
    (xt_NoSnippet : PySem.W.typeIn K (.ref C_NoSnippet) = some (.type "type"))
    (xs_NoSnippet : PySem.W.subIn K (.ref C_NoSnippet) (.type "BaseException") = some true)
    (xk_NoSnippet : PySem.W.keepIn K (.ref C_NoSnippet) = true)
    (xb_NoSnippet : PySem.W.excIn K C_NoSnippet [.type "ValueError", .type "Exception", .type "BaseException", .type "object"] "ValueError.__new__" = true)
    (xe1_NoSnippet : PySem.W.findIn K (.ref C_NoSnippet) "__getattribute__" = some (some (.builtin "BaseException.__getattribute__")))
    (xe2_NoSnippet : PySem.W.findIn K (.ref C_NoSnippet) "__getattr__" = some none)
    (xe3_NoSnippet : PySem.W.hasDictIn K C_NoSnippet = true)
    (xe4_NoSnippet : PySem.W.findIn K (.ref C_NoSnippet) "__class__" = some (some (.builtin "object.__class__")))
    (xe5_NoSnippet : PySem.W.mroIn K C_NoSnippet (.type "object") = some true)
    (xi_NoSnippet : PySem.W.isClsIn K C_NoSnippet = true)
    (xr_NoSnippet : PySem.W.subIn K (.ref C_NoSnippet) (.ref C_NoSnippet) = some true)
    {C_NoCount : Addr} (xa_NoCount : PySem.W.nsIn K mainGlobals "NoCount" = some (some (.ref C_NoCount)))
    (xt_NoCount : PySem.W.typeIn K (.ref C_NoCount) = some (.type "type"))
    (xs_NoCount : PySem.W.subIn K (.ref C_NoCount) (.type "BaseException") = some true)
    (xk_NoCount : PySem.W.keepIn K (.ref C_NoCount) = true)
    (xb_NoCount : PySem.W.excIn K C_NoCount [.type "ValueError", .type "Exception", .type "BaseException", .type "object"] "ValueError.__new__" = true)
    (xe1_NoCount : PySem.W.findIn K (.ref C_NoCount) "__getattribute__" = some (some (.builtin "BaseException.__getattribute__")))
    (xe2_NoCount : PySem.W.findIn K (.ref C_NoCount) "__getattr__" = some none)
    (xe3_NoCount : PySem.W.hasDictIn K C_NoCount = true)
    (xe4_NoCount : PySem.W.findIn K (.ref C_NoCount) "__class__" = some (some (.builtin "object.__class__")))
    (xe5_NoCount : PySem.W.mroIn K C_NoCount (.type "object") = some true)
    (xi_NoCount : PySem.W.isClsIn K C_NoCount = true)
    (xr_NoCount : PySem.W.subIn K (.ref C_NoCount) (.ref C_NoCount) = some true)
    {C_NoChange : Addr} (xa_NoChange : PySem.W.nsIn K mainGlobals "NoChange" = some (some (.ref C_NoChange)))
    (xt_NoChange : PySem.W.typeIn K (.ref C_NoChange) = some (.type "type"))
    (xs_NoChange : PySem.W.subIn K (.ref C_NoChange) (.type "BaseException") = some true)
    (xk_NoChange : PySem.W.keepIn K (.ref C_NoChange) = true)
    (xb_NoChange : PySem.W.excIn K C_NoChange [.type "ValueError", .type "Exception", .type "BaseException", .type "object"] "ValueError.__new__" = true)
    (xe1_NoChange : PySem.W.findIn K (.ref C_NoChange) "__getattribute__" = some (some (.builtin "BaseException.__getattribute__")))
    (xe2_NoChange : PySem.W.findIn K (.ref C_NoChange) "__getattr__" = some none)
    (xe3_NoChange : PySem.W.hasDictIn K C_NoChange = true)
    (xe4_NoChange : PySem.W.findIn K (.ref C_NoChange) "__class__" = some (some (.builtin "object.__class__")))
    (xe5_NoChange : PySem.W.mroIn K C_NoChange (.type "object") = some true)
    (xi_NoChange : PySem.W.isClsIn K C_NoChange = true)
    (xr_NoChange : PySem.W.subIn K (.ref C_NoChange) (.ref C_NoChange) = some true)
    {C_Ended : Addr} (xa_Ended : PySem.W.nsIn K mainGlobals "Ended" = some (some (.ref C_Ended)))
    (xt_Ended : PySem.W.typeIn K (.ref C_Ended) = some (.type "type"))
    (xs_Ended : PySem.W.subIn K (.ref C_Ended) (.type "BaseException") = some true)
    (xk_Ended : PySem.W.keepIn K (.ref C_Ended) = true)
    (xb_Ended : PySem.W.excIn K C_Ended [.type "ValueError", .type "Exception", .type "BaseException", .type "object"] "ValueError.__new__" = true)
    (xe1_Ended : PySem.W.findIn K (.ref C_Ended) "__getattribute__" = some (some (.builtin "BaseException.__getattribute__")))
    (xe2_Ended : PySem.W.findIn K (.ref C_Ended) "__getattr__" = some none)
    (xe3_Ended : PySem.W.hasDictIn K C_Ended = true)
    (xe4_Ended : PySem.W.findIn K (.ref C_Ended) "__class__" = some (some (.builtin "object.__class__")))
    (xe5_Ended : PySem.W.mroIn K C_Ended (.type "object") = some true)
    (xi_Ended : PySem.W.isClsIn K C_Ended = true)
    (xr_Ended : PySem.W.subIn K (.ref C_Ended) (.ref C_Ended) = some true)
    {C_NoRule : Addr} (xa_NoRule : PySem.W.nsIn K mainGlobals "NoRule" = some (some (.ref C_NoRule)))
    (xt_NoRule : PySem.W.typeIn K (.ref C_NoRule) = some (.type "type"))
    (xs_NoRule : PySem.W.subIn K (.ref C_NoRule) (.type "BaseException") = some true)
    (xk_NoRule : PySem.W.keepIn K (.ref C_NoRule) = true)
    (xb_NoRule : PySem.W.excIn K C_NoRule [.type "ValueError", .type "Exception", .type "BaseException", .type "object"] "ValueError.__new__" = true)
    (xe1_NoRule : PySem.W.findIn K (.ref C_NoRule) "__getattribute__" = some (some (.builtin "BaseException.__getattribute__")))
    (xe2_NoRule : PySem.W.findIn K (.ref C_NoRule) "__getattr__" = some none)
    (xe3_NoRule : PySem.W.hasDictIn K C_NoRule = true)
    (xe4_NoRule : PySem.W.findIn K (.ref C_NoRule) "__class__" = some (some (.builtin "object.__class__")))
    (xe5_NoRule : PySem.W.mroIn K C_NoRule (.type "object") = some true)
    (xi_NoRule : PySem.W.isClsIn K C_NoRule = true)
    (xr_NoRule : PySem.W.subIn K (.ref C_NoRule) (.ref C_NoRule) = some true)
    {C_Unlike : Addr} (xa_Unlike : PySem.W.nsIn K mainGlobals "Unlike" = some (some (.ref C_Unlike)))
    (xt_Unlike : PySem.W.typeIn K (.ref C_Unlike) = some (.type "type"))
    (xs_Unlike : PySem.W.subIn K (.ref C_Unlike) (.type "BaseException") = some true)
    (xk_Unlike : PySem.W.keepIn K (.ref C_Unlike) = true)
    (xb_Unlike : PySem.W.excIn K C_Unlike [.type "ValueError", .type "Exception", .type "BaseException", .type "object"] "ValueError.__new__" = true)
    (xe1_Unlike : PySem.W.findIn K (.ref C_Unlike) "__getattribute__" = some (some (.builtin "BaseException.__getattribute__")))
    (xe2_Unlike : PySem.W.findIn K (.ref C_Unlike) "__getattr__" = some none)
    (xe3_Unlike : PySem.W.hasDictIn K C_Unlike = true)
    (xe4_Unlike : PySem.W.findIn K (.ref C_Unlike) "__class__" = some (some (.builtin "object.__class__")))
    (xe5_Unlike : PySem.W.mroIn K C_Unlike (.type "object") = some true)
    (xi_Unlike : PySem.W.isClsIn K C_Unlike = true)
    (xr_Unlike : PySem.W.subIn K (.ref C_Unlike) (.ref C_Unlike) = some true)
    {C_TooMany : Addr} (xa_TooMany : PySem.W.nsIn K mainGlobals "TooMany" = some (some (.ref C_TooMany)))
    (xt_TooMany : PySem.W.typeIn K (.ref C_TooMany) = some (.type "type"))
    (xs_TooMany : PySem.W.subIn K (.ref C_TooMany) (.type "BaseException") = some true)
    (xk_TooMany : PySem.W.keepIn K (.ref C_TooMany) = true)
    (xb_TooMany : PySem.W.excIn K C_TooMany [.type "ValueError", .type "Exception", .type "BaseException", .type "object"] "ValueError.__new__" = true)
    (xe1_TooMany : PySem.W.findIn K (.ref C_TooMany) "__getattribute__" = some (some (.builtin "BaseException.__getattribute__")))
    (xe2_TooMany : PySem.W.findIn K (.ref C_TooMany) "__getattr__" = some none)
    (xe3_TooMany : PySem.W.hasDictIn K C_TooMany = true)
    (xe4_TooMany : PySem.W.findIn K (.ref C_TooMany) "__class__" = some (some (.builtin "object.__class__")))
    (xe5_TooMany : PySem.W.mroIn K C_TooMany (.type "object") = some true)
    (xi_TooMany : PySem.W.isClsIn K C_TooMany = true)
    (xr_TooMany : PySem.W.subIn K (.ref C_TooMany) (.ref C_TooMany) = some true)
    {C_NoName : Addr} (xa_NoName : PySem.W.nsIn K mainGlobals "NoName" = some (some (.ref C_NoName)))
    (xt_NoName : PySem.W.typeIn K (.ref C_NoName) = some (.type "type"))
    (xs_NoName : PySem.W.subIn K (.ref C_NoName) (.type "BaseException") = some true)
    (xk_NoName : PySem.W.keepIn K (.ref C_NoName) = true)
    (xb_NoName : PySem.W.excIn K C_NoName [.type "ValueError", .type "Exception", .type "BaseException", .type "object"] "ValueError.__new__" = true)
    (xe1_NoName : PySem.W.findIn K (.ref C_NoName) "__getattribute__" = some (some (.builtin "BaseException.__getattribute__")))
    (xe2_NoName : PySem.W.findIn K (.ref C_NoName) "__getattr__" = some none)
    (xe3_NoName : PySem.W.hasDictIn K C_NoName = true)
    (xe4_NoName : PySem.W.findIn K (.ref C_NoName) "__class__" = some (some (.builtin "object.__class__")))
    (xe5_NoName : PySem.W.mroIn K C_NoName (.type "object") = some true)
    (xi_NoName : PySem.W.isClsIn K C_NoName = true)
    (xr_NoName : PySem.W.subIn K (.ref C_NoName) (.ref C_NoName) = some true)
    (y1 : PySem.W.specialIn K (.builtin "object.__class__") "__get__" = some (some (.builtin "getset_descriptor.__get__"))) (y2 : PySem.W.takesIn K (.builtin "object.__class__") = some true)
    (y3 : PySem.W.subIn K (.type "ValueError") (.type "BaseException") = some true)
    (pp_NoRow_CutError : PySem.W.subIn K (.ref C_NoRow) (.ref C_CutError) = some true)
    (pp_NoRow_NoRow : PySem.W.subIn K (.ref C_NoRow) (.ref C_NoRow) = some true)
    (pp_NoRow_NoKinds : PySem.W.subIn K (.ref C_NoRow) (.ref C_NoKinds) = some false)
    (pp_NoRow_NoBook : PySem.W.subIn K (.ref C_NoRow) (.ref C_NoBook) = some false)
    (pp_NoRow_NoText : PySem.W.subIn K (.ref C_NoRow) (.ref C_NoText) = some false)
    (pp_NoRow_NoPlace : PySem.W.subIn K (.ref C_NoRow) (.ref C_NoPlace) = some false)
    (pp_NoRow_NoSide : PySem.W.subIn K (.ref C_NoRow) (.ref C_NoSide) = some false)
    (pp_NoRow_NoStand : PySem.W.subIn K (.ref C_NoRow) (.ref C_NoStand) = some false)
    (pp_NoRow_NoSnippet : PySem.W.subIn K (.ref C_NoRow) (.ref C_NoSnippet) = some false)
    (pp_NoRow_NoCount : PySem.W.subIn K (.ref C_NoRow) (.ref C_NoCount) = some false)
    (pp_NoRow_NoChange : PySem.W.subIn K (.ref C_NoRow) (.ref C_NoChange) = some false)
    (pp_NoRow_Ended : PySem.W.subIn K (.ref C_NoRow) (.ref C_Ended) = some false)
    (pp_NoRow_NoRule : PySem.W.subIn K (.ref C_NoRow) (.ref C_NoRule) = some false)
    (pp_NoRow_Unlike : PySem.W.subIn K (.ref C_NoRow) (.ref C_Unlike) = some false)
    (pp_NoRow_TooMany : PySem.W.subIn K (.ref C_NoRow) (.ref C_TooMany) = some false)
    (pp_NoRow_NoName : PySem.W.subIn K (.ref C_NoRow) (.ref C_NoName) = some false)
    (pp_NoRow_ValueError : PySem.W.subIn K (.ref C_NoRow) (.type "ValueError") = some true)
    (pp_NoKinds_CutError : PySem.W.subIn K (.ref C_NoKinds) (.ref C_CutError) = some true)
    (pp_NoKinds_NoRow : PySem.W.subIn K (.ref C_NoKinds) (.ref C_NoRow) = some false)
    (pp_NoKinds_NoKinds : PySem.W.subIn K (.ref C_NoKinds) (.ref C_NoKinds) = some true)
    (pp_NoKinds_NoBook : PySem.W.subIn K (.ref C_NoKinds) (.ref C_NoBook) = some false)
    (pp_NoKinds_NoText : PySem.W.subIn K (.ref C_NoKinds) (.ref C_NoText) = some false)
    (pp_NoKinds_NoPlace : PySem.W.subIn K (.ref C_NoKinds) (.ref C_NoPlace) = some false)
    (pp_NoKinds_NoSide : PySem.W.subIn K (.ref C_NoKinds) (.ref C_NoSide) = some false)
    (pp_NoKinds_NoStand : PySem.W.subIn K (.ref C_NoKinds) (.ref C_NoStand) = some false)
    (pp_NoKinds_NoSnippet : PySem.W.subIn K (.ref C_NoKinds) (.ref C_NoSnippet) = some false)
    (pp_NoKinds_NoCount : PySem.W.subIn K (.ref C_NoKinds) (.ref C_NoCount) = some false)
    (pp_NoKinds_NoChange : PySem.W.subIn K (.ref C_NoKinds) (.ref C_NoChange) = some false)
    (pp_NoKinds_Ended : PySem.W.subIn K (.ref C_NoKinds) (.ref C_Ended) = some false)
    (pp_NoKinds_NoRule : PySem.W.subIn K (.ref C_NoKinds) (.ref C_NoRule) = some false)
    (pp_NoKinds_Unlike : PySem.W.subIn K (.ref C_NoKinds) (.ref C_Unlike) = some false)
    (pp_NoKinds_TooMany : PySem.W.subIn K (.ref C_NoKinds) (.ref C_TooMany) = some false)
    (pp_NoKinds_NoName : PySem.W.subIn K (.ref C_NoKinds) (.ref C_NoName) = some false)
    (pp_NoKinds_ValueError : PySem.W.subIn K (.ref C_NoKinds) (.type "ValueError") = some true)
    (pp_NoBook_CutError : PySem.W.subIn K (.ref C_NoBook) (.ref C_CutError) = some true)
    (pp_NoBook_NoRow : PySem.W.subIn K (.ref C_NoBook) (.ref C_NoRow) = some false)
    (pp_NoBook_NoKinds : PySem.W.subIn K (.ref C_NoBook) (.ref C_NoKinds) = some false)
    (pp_NoBook_NoBook : PySem.W.subIn K (.ref C_NoBook) (.ref C_NoBook) = some true)
    (pp_NoBook_NoText : PySem.W.subIn K (.ref C_NoBook) (.ref C_NoText) = some false)
    (pp_NoBook_NoPlace : PySem.W.subIn K (.ref C_NoBook) (.ref C_NoPlace) = some false)
    (pp_NoBook_NoSide : PySem.W.subIn K (.ref C_NoBook) (.ref C_NoSide) = some false)
    (pp_NoBook_NoStand : PySem.W.subIn K (.ref C_NoBook) (.ref C_NoStand) = some false)
    (pp_NoBook_NoSnippet : PySem.W.subIn K (.ref C_NoBook) (.ref C_NoSnippet) = some false)
    (pp_NoBook_NoCount : PySem.W.subIn K (.ref C_NoBook) (.ref C_NoCount) = some false)
    (pp_NoBook_NoChange : PySem.W.subIn K (.ref C_NoBook) (.ref C_NoChange) = some false)
    (pp_NoBook_Ended : PySem.W.subIn K (.ref C_NoBook) (.ref C_Ended) = some false)
    (pp_NoBook_NoRule : PySem.W.subIn K (.ref C_NoBook) (.ref C_NoRule) = some false)
    (pp_NoBook_Unlike : PySem.W.subIn K (.ref C_NoBook) (.ref C_Unlike) = some false)
    (pp_NoBook_TooMany : PySem.W.subIn K (.ref C_NoBook) (.ref C_TooMany) = some false)
    (pp_NoBook_NoName : PySem.W.subIn K (.ref C_NoBook) (.ref C_NoName) = some false)
    (pp_NoBook_ValueError : PySem.W.subIn K (.ref C_NoBook) (.type "ValueError") = some true)
    (pp_NoText_CutError : PySem.W.subIn K (.ref C_NoText) (.ref C_CutError) = some true)
    (pp_NoText_NoRow : PySem.W.subIn K (.ref C_NoText) (.ref C_NoRow) = some false)
    (pp_NoText_NoKinds : PySem.W.subIn K (.ref C_NoText) (.ref C_NoKinds) = some false)
    (pp_NoText_NoBook : PySem.W.subIn K (.ref C_NoText) (.ref C_NoBook) = some false)
    (pp_NoText_NoText : PySem.W.subIn K (.ref C_NoText) (.ref C_NoText) = some true)
    (pp_NoText_NoPlace : PySem.W.subIn K (.ref C_NoText) (.ref C_NoPlace) = some false)
    (pp_NoText_NoSide : PySem.W.subIn K (.ref C_NoText) (.ref C_NoSide) = some false)
    (pp_NoText_NoStand : PySem.W.subIn K (.ref C_NoText) (.ref C_NoStand) = some false)
    (pp_NoText_NoSnippet : PySem.W.subIn K (.ref C_NoText) (.ref C_NoSnippet) = some false)
    (pp_NoText_NoCount : PySem.W.subIn K (.ref C_NoText) (.ref C_NoCount) = some false)
    (pp_NoText_NoChange : PySem.W.subIn K (.ref C_NoText) (.ref C_NoChange) = some false)
    (pp_NoText_Ended : PySem.W.subIn K (.ref C_NoText) (.ref C_Ended) = some false)
    (pp_NoText_NoRule : PySem.W.subIn K (.ref C_NoText) (.ref C_NoRule) = some false)
    (pp_NoText_Unlike : PySem.W.subIn K (.ref C_NoText) (.ref C_Unlike) = some false)
    (pp_NoText_TooMany : PySem.W.subIn K (.ref C_NoText) (.ref C_TooMany) = some false)
    (pp_NoText_NoName : PySem.W.subIn K (.ref C_NoText) (.ref C_NoName) = some false)
    (pp_NoText_ValueError : PySem.W.subIn K (.ref C_NoText) (.type "ValueError") = some true)
    (pp_NoPlace_CutError : PySem.W.subIn K (.ref C_NoPlace) (.ref C_CutError) = some true)
    (pp_NoPlace_NoRow : PySem.W.subIn K (.ref C_NoPlace) (.ref C_NoRow) = some false)
    (pp_NoPlace_NoKinds : PySem.W.subIn K (.ref C_NoPlace) (.ref C_NoKinds) = some false)
    (pp_NoPlace_NoBook : PySem.W.subIn K (.ref C_NoPlace) (.ref C_NoBook) = some false)
    (pp_NoPlace_NoText : PySem.W.subIn K (.ref C_NoPlace) (.ref C_NoText) = some false)
    (pp_NoPlace_NoPlace : PySem.W.subIn K (.ref C_NoPlace) (.ref C_NoPlace) = some true)
    (pp_NoPlace_NoSide : PySem.W.subIn K (.ref C_NoPlace) (.ref C_NoSide) = some false)
    (pp_NoPlace_NoStand : PySem.W.subIn K (.ref C_NoPlace) (.ref C_NoStand) = some false)
    (pp_NoPlace_NoSnippet : PySem.W.subIn K (.ref C_NoPlace) (.ref C_NoSnippet) = some false)
    (pp_NoPlace_NoCount : PySem.W.subIn K (.ref C_NoPlace) (.ref C_NoCount) = some false)
    (pp_NoPlace_NoChange : PySem.W.subIn K (.ref C_NoPlace) (.ref C_NoChange) = some false)
    (pp_NoPlace_Ended : PySem.W.subIn K (.ref C_NoPlace) (.ref C_Ended) = some false)
    (pp_NoPlace_NoRule : PySem.W.subIn K (.ref C_NoPlace) (.ref C_NoRule) = some false)
    (pp_NoPlace_Unlike : PySem.W.subIn K (.ref C_NoPlace) (.ref C_Unlike) = some false)
    (pp_NoPlace_TooMany : PySem.W.subIn K (.ref C_NoPlace) (.ref C_TooMany) = some false)
    (pp_NoPlace_NoName : PySem.W.subIn K (.ref C_NoPlace) (.ref C_NoName) = some false)
    (pp_NoPlace_ValueError : PySem.W.subIn K (.ref C_NoPlace) (.type "ValueError") = some true)
    (pp_NoSide_CutError : PySem.W.subIn K (.ref C_NoSide) (.ref C_CutError) = some true)
    (pp_NoSide_NoRow : PySem.W.subIn K (.ref C_NoSide) (.ref C_NoRow) = some false)
    (pp_NoSide_NoKinds : PySem.W.subIn K (.ref C_NoSide) (.ref C_NoKinds) = some false)
    (pp_NoSide_NoBook : PySem.W.subIn K (.ref C_NoSide) (.ref C_NoBook) = some false)
    (pp_NoSide_NoText : PySem.W.subIn K (.ref C_NoSide) (.ref C_NoText) = some false)
    (pp_NoSide_NoPlace : PySem.W.subIn K (.ref C_NoSide) (.ref C_NoPlace) = some false)
    (pp_NoSide_NoSide : PySem.W.subIn K (.ref C_NoSide) (.ref C_NoSide) = some true)
    (pp_NoSide_NoStand : PySem.W.subIn K (.ref C_NoSide) (.ref C_NoStand) = some false)
    (pp_NoSide_NoSnippet : PySem.W.subIn K (.ref C_NoSide) (.ref C_NoSnippet) = some false)
    (pp_NoSide_NoCount : PySem.W.subIn K (.ref C_NoSide) (.ref C_NoCount) = some false)
    (pp_NoSide_NoChange : PySem.W.subIn K (.ref C_NoSide) (.ref C_NoChange) = some false)
    (pp_NoSide_Ended : PySem.W.subIn K (.ref C_NoSide) (.ref C_Ended) = some false)
    (pp_NoSide_NoRule : PySem.W.subIn K (.ref C_NoSide) (.ref C_NoRule) = some false)
    (pp_NoSide_Unlike : PySem.W.subIn K (.ref C_NoSide) (.ref C_Unlike) = some false)
    (pp_NoSide_TooMany : PySem.W.subIn K (.ref C_NoSide) (.ref C_TooMany) = some false)
    (pp_NoSide_NoName : PySem.W.subIn K (.ref C_NoSide) (.ref C_NoName) = some false)
    (pp_NoSide_ValueError : PySem.W.subIn K (.ref C_NoSide) (.type "ValueError") = some true)
    (pp_NoStand_CutError : PySem.W.subIn K (.ref C_NoStand) (.ref C_CutError) = some true)
    (pp_NoStand_NoRow : PySem.W.subIn K (.ref C_NoStand) (.ref C_NoRow) = some false)
    (pp_NoStand_NoKinds : PySem.W.subIn K (.ref C_NoStand) (.ref C_NoKinds) = some false)
    (pp_NoStand_NoBook : PySem.W.subIn K (.ref C_NoStand) (.ref C_NoBook) = some false)
    (pp_NoStand_NoText : PySem.W.subIn K (.ref C_NoStand) (.ref C_NoText) = some false)
    (pp_NoStand_NoPlace : PySem.W.subIn K (.ref C_NoStand) (.ref C_NoPlace) = some false)
    (pp_NoStand_NoSide : PySem.W.subIn K (.ref C_NoStand) (.ref C_NoSide) = some false)
    (pp_NoStand_NoStand : PySem.W.subIn K (.ref C_NoStand) (.ref C_NoStand) = some true)
    (pp_NoStand_NoSnippet : PySem.W.subIn K (.ref C_NoStand) (.ref C_NoSnippet) = some false)
    (pp_NoStand_NoCount : PySem.W.subIn K (.ref C_NoStand) (.ref C_NoCount) = some false)
    (pp_NoStand_NoChange : PySem.W.subIn K (.ref C_NoStand) (.ref C_NoChange) = some false)
    (pp_NoStand_Ended : PySem.W.subIn K (.ref C_NoStand) (.ref C_Ended) = some false)
    (pp_NoStand_NoRule : PySem.W.subIn K (.ref C_NoStand) (.ref C_NoRule) = some false)
    (pp_NoStand_Unlike : PySem.W.subIn K (.ref C_NoStand) (.ref C_Unlike) = some false)
    (pp_NoStand_TooMany : PySem.W.subIn K (.ref C_NoStand) (.ref C_TooMany) = some false)
    (pp_NoStand_NoName : PySem.W.subIn K (.ref C_NoStand) (.ref C_NoName) = some false)
    (pp_NoStand_ValueError : PySem.W.subIn K (.ref C_NoStand) (.type "ValueError") = some true)
    (pp_NoSnippet_CutError : PySem.W.subIn K (.ref C_NoSnippet) (.ref C_CutError) = some true)
    (pp_NoSnippet_NoRow : PySem.W.subIn K (.ref C_NoSnippet) (.ref C_NoRow) = some false)
    (pp_NoSnippet_NoKinds : PySem.W.subIn K (.ref C_NoSnippet) (.ref C_NoKinds) = some false)
    (pp_NoSnippet_NoBook : PySem.W.subIn K (.ref C_NoSnippet) (.ref C_NoBook) = some false)
    (pp_NoSnippet_NoText : PySem.W.subIn K (.ref C_NoSnippet) (.ref C_NoText) = some false)
    (pp_NoSnippet_NoPlace : PySem.W.subIn K (.ref C_NoSnippet) (.ref C_NoPlace) = some false)
    (pp_NoSnippet_NoSide : PySem.W.subIn K (.ref C_NoSnippet) (.ref C_NoSide) = some false)
    (pp_NoSnippet_NoStand : PySem.W.subIn K (.ref C_NoSnippet) (.ref C_NoStand) = some false)
    (pp_NoSnippet_NoSnippet : PySem.W.subIn K (.ref C_NoSnippet) (.ref C_NoSnippet) = some true)
    (pp_NoSnippet_NoCount : PySem.W.subIn K (.ref C_NoSnippet) (.ref C_NoCount) = some false)
    (pp_NoSnippet_NoChange : PySem.W.subIn K (.ref C_NoSnippet) (.ref C_NoChange) = some false)
    (pp_NoSnippet_Ended : PySem.W.subIn K (.ref C_NoSnippet) (.ref C_Ended) = some false)
    (pp_NoSnippet_NoRule : PySem.W.subIn K (.ref C_NoSnippet) (.ref C_NoRule) = some false)
    (pp_NoSnippet_Unlike : PySem.W.subIn K (.ref C_NoSnippet) (.ref C_Unlike) = some false)
    (pp_NoSnippet_TooMany : PySem.W.subIn K (.ref C_NoSnippet) (.ref C_TooMany) = some false)
    (pp_NoSnippet_NoName : PySem.W.subIn K (.ref C_NoSnippet) (.ref C_NoName) = some false)
    (pp_NoSnippet_ValueError : PySem.W.subIn K (.ref C_NoSnippet) (.type "ValueError") = some true)
    (pp_NoCount_CutError : PySem.W.subIn K (.ref C_NoCount) (.ref C_CutError) = some true)
    (pp_NoCount_NoRow : PySem.W.subIn K (.ref C_NoCount) (.ref C_NoRow) = some false)
    (pp_NoCount_NoKinds : PySem.W.subIn K (.ref C_NoCount) (.ref C_NoKinds) = some false)
    (pp_NoCount_NoBook : PySem.W.subIn K (.ref C_NoCount) (.ref C_NoBook) = some false)
    (pp_NoCount_NoText : PySem.W.subIn K (.ref C_NoCount) (.ref C_NoText) = some false)
    (pp_NoCount_NoPlace : PySem.W.subIn K (.ref C_NoCount) (.ref C_NoPlace) = some false)
    (pp_NoCount_NoSide : PySem.W.subIn K (.ref C_NoCount) (.ref C_NoSide) = some false)
    (pp_NoCount_NoStand : PySem.W.subIn K (.ref C_NoCount) (.ref C_NoStand) = some false)
    (pp_NoCount_NoSnippet : PySem.W.subIn K (.ref C_NoCount) (.ref C_NoSnippet) = some false)
    (pp_NoCount_NoCount : PySem.W.subIn K (.ref C_NoCount) (.ref C_NoCount) = some true)
    (pp_NoCount_NoChange : PySem.W.subIn K (.ref C_NoCount) (.ref C_NoChange) = some false)
    (pp_NoCount_Ended : PySem.W.subIn K (.ref C_NoCount) (.ref C_Ended) = some false)
    (pp_NoCount_NoRule : PySem.W.subIn K (.ref C_NoCount) (.ref C_NoRule) = some false)
    (pp_NoCount_Unlike : PySem.W.subIn K (.ref C_NoCount) (.ref C_Unlike) = some false)
    (pp_NoCount_TooMany : PySem.W.subIn K (.ref C_NoCount) (.ref C_TooMany) = some false)
    (pp_NoCount_NoName : PySem.W.subIn K (.ref C_NoCount) (.ref C_NoName) = some false)
    (pp_NoCount_ValueError : PySem.W.subIn K (.ref C_NoCount) (.type "ValueError") = some true)
    (pp_NoChange_CutError : PySem.W.subIn K (.ref C_NoChange) (.ref C_CutError) = some true)
    (pp_NoChange_NoRow : PySem.W.subIn K (.ref C_NoChange) (.ref C_NoRow) = some false)
    (pp_NoChange_NoKinds : PySem.W.subIn K (.ref C_NoChange) (.ref C_NoKinds) = some false)
    (pp_NoChange_NoBook : PySem.W.subIn K (.ref C_NoChange) (.ref C_NoBook) = some false)
    (pp_NoChange_NoText : PySem.W.subIn K (.ref C_NoChange) (.ref C_NoText) = some false)
    (pp_NoChange_NoPlace : PySem.W.subIn K (.ref C_NoChange) (.ref C_NoPlace) = some false)
    (pp_NoChange_NoSide : PySem.W.subIn K (.ref C_NoChange) (.ref C_NoSide) = some false)
    (pp_NoChange_NoStand : PySem.W.subIn K (.ref C_NoChange) (.ref C_NoStand) = some false)
    (pp_NoChange_NoSnippet : PySem.W.subIn K (.ref C_NoChange) (.ref C_NoSnippet) = some false)
    (pp_NoChange_NoCount : PySem.W.subIn K (.ref C_NoChange) (.ref C_NoCount) = some false)
    (pp_NoChange_NoChange : PySem.W.subIn K (.ref C_NoChange) (.ref C_NoChange) = some true)
    (pp_NoChange_Ended : PySem.W.subIn K (.ref C_NoChange) (.ref C_Ended) = some false)
    (pp_NoChange_NoRule : PySem.W.subIn K (.ref C_NoChange) (.ref C_NoRule) = some false)
    (pp_NoChange_Unlike : PySem.W.subIn K (.ref C_NoChange) (.ref C_Unlike) = some false)
    (pp_NoChange_TooMany : PySem.W.subIn K (.ref C_NoChange) (.ref C_TooMany) = some false)
    (pp_NoChange_NoName : PySem.W.subIn K (.ref C_NoChange) (.ref C_NoName) = some false)
    (pp_NoChange_ValueError : PySem.W.subIn K (.ref C_NoChange) (.type "ValueError") = some true)
    (pp_Ended_CutError : PySem.W.subIn K (.ref C_Ended) (.ref C_CutError) = some true)
    (pp_Ended_NoRow : PySem.W.subIn K (.ref C_Ended) (.ref C_NoRow) = some false)
    (pp_Ended_NoKinds : PySem.W.subIn K (.ref C_Ended) (.ref C_NoKinds) = some false)
    (pp_Ended_NoBook : PySem.W.subIn K (.ref C_Ended) (.ref C_NoBook) = some false)
    (pp_Ended_NoText : PySem.W.subIn K (.ref C_Ended) (.ref C_NoText) = some false)
    (pp_Ended_NoPlace : PySem.W.subIn K (.ref C_Ended) (.ref C_NoPlace) = some false)
    (pp_Ended_NoSide : PySem.W.subIn K (.ref C_Ended) (.ref C_NoSide) = some false)
    (pp_Ended_NoStand : PySem.W.subIn K (.ref C_Ended) (.ref C_NoStand) = some false)
    (pp_Ended_NoSnippet : PySem.W.subIn K (.ref C_Ended) (.ref C_NoSnippet) = some false)
    (pp_Ended_NoCount : PySem.W.subIn K (.ref C_Ended) (.ref C_NoCount) = some false)
    (pp_Ended_NoChange : PySem.W.subIn K (.ref C_Ended) (.ref C_NoChange) = some false)
    (pp_Ended_Ended : PySem.W.subIn K (.ref C_Ended) (.ref C_Ended) = some true)
    (pp_Ended_NoRule : PySem.W.subIn K (.ref C_Ended) (.ref C_NoRule) = some false)
    (pp_Ended_Unlike : PySem.W.subIn K (.ref C_Ended) (.ref C_Unlike) = some false)
    (pp_Ended_TooMany : PySem.W.subIn K (.ref C_Ended) (.ref C_TooMany) = some false)
    (pp_Ended_NoName : PySem.W.subIn K (.ref C_Ended) (.ref C_NoName) = some false)
    (pp_Ended_ValueError : PySem.W.subIn K (.ref C_Ended) (.type "ValueError") = some true)
    (pp_NoRule_CutError : PySem.W.subIn K (.ref C_NoRule) (.ref C_CutError) = some true)
    (pp_NoRule_NoRow : PySem.W.subIn K (.ref C_NoRule) (.ref C_NoRow) = some false)
    (pp_NoRule_NoKinds : PySem.W.subIn K (.ref C_NoRule) (.ref C_NoKinds) = some false)
    (pp_NoRule_NoBook : PySem.W.subIn K (.ref C_NoRule) (.ref C_NoBook) = some false)
    (pp_NoRule_NoText : PySem.W.subIn K (.ref C_NoRule) (.ref C_NoText) = some false)
    (pp_NoRule_NoPlace : PySem.W.subIn K (.ref C_NoRule) (.ref C_NoPlace) = some false)
    (pp_NoRule_NoSide : PySem.W.subIn K (.ref C_NoRule) (.ref C_NoSide) = some false)
    (pp_NoRule_NoStand : PySem.W.subIn K (.ref C_NoRule) (.ref C_NoStand) = some false)
    (pp_NoRule_NoSnippet : PySem.W.subIn K (.ref C_NoRule) (.ref C_NoSnippet) = some false)
    (pp_NoRule_NoCount : PySem.W.subIn K (.ref C_NoRule) (.ref C_NoCount) = some false)
    (pp_NoRule_NoChange : PySem.W.subIn K (.ref C_NoRule) (.ref C_NoChange) = some false)
    (pp_NoRule_Ended : PySem.W.subIn K (.ref C_NoRule) (.ref C_Ended) = some false)
    (pp_NoRule_NoRule : PySem.W.subIn K (.ref C_NoRule) (.ref C_NoRule) = some true)
    (pp_NoRule_Unlike : PySem.W.subIn K (.ref C_NoRule) (.ref C_Unlike) = some false)
    (pp_NoRule_TooMany : PySem.W.subIn K (.ref C_NoRule) (.ref C_TooMany) = some false)
    (pp_NoRule_NoName : PySem.W.subIn K (.ref C_NoRule) (.ref C_NoName) = some false)
    (pp_NoRule_ValueError : PySem.W.subIn K (.ref C_NoRule) (.type "ValueError") = some true)
    (pp_Unlike_CutError : PySem.W.subIn K (.ref C_Unlike) (.ref C_CutError) = some true)
    (pp_Unlike_NoRow : PySem.W.subIn K (.ref C_Unlike) (.ref C_NoRow) = some false)
    (pp_Unlike_NoKinds : PySem.W.subIn K (.ref C_Unlike) (.ref C_NoKinds) = some false)
    (pp_Unlike_NoBook : PySem.W.subIn K (.ref C_Unlike) (.ref C_NoBook) = some false)
    (pp_Unlike_NoText : PySem.W.subIn K (.ref C_Unlike) (.ref C_NoText) = some false)
    (pp_Unlike_NoPlace : PySem.W.subIn K (.ref C_Unlike) (.ref C_NoPlace) = some false)
    (pp_Unlike_NoSide : PySem.W.subIn K (.ref C_Unlike) (.ref C_NoSide) = some false)
    (pp_Unlike_NoStand : PySem.W.subIn K (.ref C_Unlike) (.ref C_NoStand) = some false)
    (pp_Unlike_NoSnippet : PySem.W.subIn K (.ref C_Unlike) (.ref C_NoSnippet) = some false)
    (pp_Unlike_NoCount : PySem.W.subIn K (.ref C_Unlike) (.ref C_NoCount) = some false)
    (pp_Unlike_NoChange : PySem.W.subIn K (.ref C_Unlike) (.ref C_NoChange) = some false)
    (pp_Unlike_Ended : PySem.W.subIn K (.ref C_Unlike) (.ref C_Ended) = some false)
    (pp_Unlike_NoRule : PySem.W.subIn K (.ref C_Unlike) (.ref C_NoRule) = some false)
    (pp_Unlike_Unlike : PySem.W.subIn K (.ref C_Unlike) (.ref C_Unlike) = some true)
    (pp_Unlike_TooMany : PySem.W.subIn K (.ref C_Unlike) (.ref C_TooMany) = some false)
    (pp_Unlike_NoName : PySem.W.subIn K (.ref C_Unlike) (.ref C_NoName) = some false)
    (pp_Unlike_ValueError : PySem.W.subIn K (.ref C_Unlike) (.type "ValueError") = some true)
    (pp_TooMany_CutError : PySem.W.subIn K (.ref C_TooMany) (.ref C_CutError) = some true)
    (pp_TooMany_NoRow : PySem.W.subIn K (.ref C_TooMany) (.ref C_NoRow) = some false)
    (pp_TooMany_NoKinds : PySem.W.subIn K (.ref C_TooMany) (.ref C_NoKinds) = some false)
    (pp_TooMany_NoBook : PySem.W.subIn K (.ref C_TooMany) (.ref C_NoBook) = some false)
    (pp_TooMany_NoText : PySem.W.subIn K (.ref C_TooMany) (.ref C_NoText) = some false)
    (pp_TooMany_NoPlace : PySem.W.subIn K (.ref C_TooMany) (.ref C_NoPlace) = some false)
    (pp_TooMany_NoSide : PySem.W.subIn K (.ref C_TooMany) (.ref C_NoSide) = some false)
    (pp_TooMany_NoStand : PySem.W.subIn K (.ref C_TooMany) (.ref C_NoStand) = some false)
    (pp_TooMany_NoSnippet : PySem.W.subIn K (.ref C_TooMany) (.ref C_NoSnippet) = some false)
    (pp_TooMany_NoCount : PySem.W.subIn K (.ref C_TooMany) (.ref C_NoCount) = some false)
    (pp_TooMany_NoChange : PySem.W.subIn K (.ref C_TooMany) (.ref C_NoChange) = some false)
    (pp_TooMany_Ended : PySem.W.subIn K (.ref C_TooMany) (.ref C_Ended) = some false)
    (pp_TooMany_NoRule : PySem.W.subIn K (.ref C_TooMany) (.ref C_NoRule) = some false)
    (pp_TooMany_Unlike : PySem.W.subIn K (.ref C_TooMany) (.ref C_Unlike) = some false)
    (pp_TooMany_TooMany : PySem.W.subIn K (.ref C_TooMany) (.ref C_TooMany) = some true)
    (pp_TooMany_NoName : PySem.W.subIn K (.ref C_TooMany) (.ref C_NoName) = some false)
    (pp_TooMany_ValueError : PySem.W.subIn K (.ref C_TooMany) (.type "ValueError") = some true)
    (pp_NoName_CutError : PySem.W.subIn K (.ref C_NoName) (.ref C_CutError) = some true)
    (pp_NoName_NoRow : PySem.W.subIn K (.ref C_NoName) (.ref C_NoRow) = some false)
    (pp_NoName_NoKinds : PySem.W.subIn K (.ref C_NoName) (.ref C_NoKinds) = some false)
    (pp_NoName_NoBook : PySem.W.subIn K (.ref C_NoName) (.ref C_NoBook) = some false)
    (pp_NoName_NoText : PySem.W.subIn K (.ref C_NoName) (.ref C_NoText) = some false)
    (pp_NoName_NoPlace : PySem.W.subIn K (.ref C_NoName) (.ref C_NoPlace) = some false)
    (pp_NoName_NoSide : PySem.W.subIn K (.ref C_NoName) (.ref C_NoSide) = some false)
    (pp_NoName_NoStand : PySem.W.subIn K (.ref C_NoName) (.ref C_NoStand) = some false)
    (pp_NoName_NoSnippet : PySem.W.subIn K (.ref C_NoName) (.ref C_NoSnippet) = some false)
    (pp_NoName_NoCount : PySem.W.subIn K (.ref C_NoName) (.ref C_NoCount) = some false)
    (pp_NoName_NoChange : PySem.W.subIn K (.ref C_NoName) (.ref C_NoChange) = some false)
    (pp_NoName_Ended : PySem.W.subIn K (.ref C_NoName) (.ref C_Ended) = some false)
    (pp_NoName_NoRule : PySem.W.subIn K (.ref C_NoName) (.ref C_NoRule) = some false)
    (pp_NoName_Unlike : PySem.W.subIn K (.ref C_NoName) (.ref C_Unlike) = some false)
    (pp_NoName_TooMany : PySem.W.subIn K (.ref C_NoName) (.ref C_TooMany) = some false)
    (pp_NoName_NoName : PySem.W.subIn K (.ref C_NoName) (.ref C_NoName) = some true)
    (pp_NoName_ValueError : PySem.W.subIn K (.ref C_NoName) (.type "ValueError") = some true)
    : ∃ fd : FuncData, (∀ (s : Shared) (v : Value), BindsTo s fd ⟨[v], []⟩ [("_law_script", v)]) ∧ ∀ base : Heap, K.In base → base.Ns mainGlobals mg → FnOk P w K mg base (L2.CX P w) 6 fa fd ["_law_script"] (spLaw K) := by
  cases hfa.symm.trans (PySem.W.mg_of X G a6)
  have G_NoRow : XG K mg "NoRow" C_NoRow := ⟨PySem.W.mg_of X G xa_NoRow, ⟨xe1_NoRow, xe2_NoRow, xs_NoRow, xe3_NoRow, xe4_NoRow, y1, y2, xe5_NoRow⟩⟩
  have X_NoKinds : XC K mg "NoKinds" C_NoKinds := ⟨PySem.W.mg_of X G xa_NoKinds, xb_NoKinds, xk_NoKinds, xt_NoKinds, ⟨xe1_NoKinds, xe2_NoKinds, xs_NoKinds, xe3_NoKinds, xe4_NoKinds, y1, y2, xe5_NoKinds⟩⟩
  have X_NoBook : XC K mg "NoBook" C_NoBook := ⟨PySem.W.mg_of X G xa_NoBook, xb_NoBook, xk_NoBook, xt_NoBook, ⟨xe1_NoBook, xe2_NoBook, xs_NoBook, xe3_NoBook, xe4_NoBook, y1, y2, xe5_NoBook⟩⟩
  have X_NoText : XC K mg "NoText" C_NoText := ⟨PySem.W.mg_of X G xa_NoText, xb_NoText, xk_NoText, xt_NoText, ⟨xe1_NoText, xe2_NoText, xs_NoText, xe3_NoText, xe4_NoText, y1, y2, xe5_NoText⟩⟩
  have X_NoPlace : XC K mg "NoPlace" C_NoPlace := ⟨PySem.W.mg_of X G xa_NoPlace, xb_NoPlace, xk_NoPlace, xt_NoPlace, ⟨xe1_NoPlace, xe2_NoPlace, xs_NoPlace, xe3_NoPlace, xe4_NoPlace, y1, y2, xe5_NoPlace⟩⟩
  have X_NoSide : XC K mg "NoSide" C_NoSide := ⟨PySem.W.mg_of X G xa_NoSide, xb_NoSide, xk_NoSide, xt_NoSide, ⟨xe1_NoSide, xe2_NoSide, xs_NoSide, xe3_NoSide, xe4_NoSide, y1, y2, xe5_NoSide⟩⟩
  have X_NoStand : XC K mg "NoStand" C_NoStand := ⟨PySem.W.mg_of X G xa_NoStand, xb_NoStand, xk_NoStand, xt_NoStand, ⟨xe1_NoStand, xe2_NoStand, xs_NoStand, xe3_NoStand, xe4_NoStand, y1, y2, xe5_NoStand⟩⟩
  have X_NoSnippet : XC K mg "NoSnippet" C_NoSnippet := ⟨PySem.W.mg_of X G xa_NoSnippet, xb_NoSnippet, xk_NoSnippet, xt_NoSnippet, ⟨xe1_NoSnippet, xe2_NoSnippet, xs_NoSnippet, xe3_NoSnippet, xe4_NoSnippet, y1, y2, xe5_NoSnippet⟩⟩
  have X_NoCount : XC K mg "NoCount" C_NoCount := ⟨PySem.W.mg_of X G xa_NoCount, xb_NoCount, xk_NoCount, xt_NoCount, ⟨xe1_NoCount, xe2_NoCount, xs_NoCount, xe3_NoCount, xe4_NoCount, y1, y2, xe5_NoCount⟩⟩
  have X_NoChange : XC K mg "NoChange" C_NoChange := ⟨PySem.W.mg_of X G xa_NoChange, xb_NoChange, xk_NoChange, xt_NoChange, ⟨xe1_NoChange, xe2_NoChange, xs_NoChange, xe3_NoChange, xe4_NoChange, y1, y2, xe5_NoChange⟩⟩
  have X_Ended : XC K mg "Ended" C_Ended := ⟨PySem.W.mg_of X G xa_Ended, xb_Ended, xk_Ended, xt_Ended, ⟨xe1_Ended, xe2_Ended, xs_Ended, xe3_Ended, xe4_Ended, y1, y2, xe5_Ended⟩⟩
  have X_NoRule : XC K mg "NoRule" C_NoRule := ⟨PySem.W.mg_of X G xa_NoRule, xb_NoRule, xk_NoRule, xt_NoRule, ⟨xe1_NoRule, xe2_NoRule, xs_NoRule, xe3_NoRule, xe4_NoRule, y1, y2, xe5_NoRule⟩⟩
  have X_Unlike : XC K mg "Unlike" C_Unlike := ⟨PySem.W.mg_of X G xa_Unlike, xb_Unlike, xk_Unlike, xt_Unlike, ⟨xe1_Unlike, xe2_Unlike, xs_Unlike, xe3_Unlike, xe4_Unlike, y1, y2, xe5_Unlike⟩⟩
  have X_TooMany : XC K mg "TooMany" C_TooMany := ⟨PySem.W.mg_of X G xa_TooMany, xb_TooMany, xk_TooMany, xt_TooMany, ⟨xe1_TooMany, xe2_TooMany, xs_TooMany, xe3_TooMany, xe4_TooMany, y1, y2, xe5_TooMany⟩⟩
  have X_NoName : XC K mg "NoName" C_NoName := ⟨PySem.W.mg_of X G xa_NoName, xb_NoName, xk_NoName, xt_NoName, ⟨xe1_NoName, xe2_NoName, xs_NoName, xe3_NoName, xe4_NoName, y1, y2, xe5_NoName⟩⟩
  have Y : Facts K mg := ⟨PySem.W.mg_none_of X G z_ValueError, PySem.W.mg_none_of X G z_isinstance, PySem.W.mg_none_of X G z_len, PySem.W.mg_none_of X G z_max, PySem.W.mg_none_of X G z_min, PySem.W.mg_none_of X G z_range, ⟨_, PySem.W.mg_of X G xa_NoRow, ⟨xe1_NoRow, xe2_NoRow, xs_NoRow, xe3_NoRow⟩, on_NoRow⟩, ⟨_, PySem.W.mg_of X G xa_CutError, bg_NoRow, br_NoRow, bf_NoRow⟩, ⟨_, X_NoKinds⟩, ⟨_, X_NoBook⟩, ⟨_, X_NoText⟩, ⟨_, X_NoPlace⟩, ⟨_, X_NoSide⟩, ⟨_, X_NoStand⟩, ⟨_, X_NoSnippet⟩, ⟨_, X_NoCount⟩, ⟨_, X_NoChange⟩, ⟨_, X_Ended⟩, ⟨_, X_NoRule⟩, ⟨_, X_Unlike⟩, ⟨_, X_TooMany⟩, ⟨_, X_NoName⟩, ⟨_, PySem.W.mg_of X G xa_CutError⟩, ⟨_, PySem.W.mg_of X G xa_NoRow⟩, ⟨_, PySem.W.mg_of X G xa_NoKinds⟩, ⟨_, PySem.W.mg_of X G xa_NoBook⟩, ⟨_, PySem.W.mg_of X G xa_NoText⟩, ⟨_, PySem.W.mg_of X G xa_NoPlace⟩, ⟨_, PySem.W.mg_of X G xa_NoSide⟩, ⟨_, PySem.W.mg_of X G xa_NoStand⟩, ⟨_, PySem.W.mg_of X G xa_NoSnippet⟩, ⟨_, PySem.W.mg_of X G xa_NoCount⟩, ⟨_, PySem.W.mg_of X G xa_NoChange⟩, ⟨_, PySem.W.mg_of X G xa_Ended⟩, ⟨_, PySem.W.mg_of X G xa_NoRule⟩, ⟨_, PySem.W.mg_of X G xa_Unlike⟩, ⟨_, PySem.W.mg_of X G xa_TooMany⟩, ⟨_, PySem.W.mg_of X G xa_NoName⟩, (xtok_cons (xp_own (PySem.W.mg_of X G xa_NoRow) (PySem.W.mg_of X G xa_CutError) (by decide) xi_CutError xt_CutError xs_CutError xr_CutError pp_NoRow_CutError) ⟨_, G_NoRow⟩ (xtok_cons (xp_own (PySem.W.mg_of X G xa_NoRow) (PySem.W.mg_of X G xa_NoRow) (by decide) xi_NoRow xt_NoRow xs_NoRow xr_NoRow pp_NoRow_NoRow) ⟨_, G_NoRow⟩ (xtok_cons (xp_own (PySem.W.mg_of X G xa_NoRow) (PySem.W.mg_of X G xa_NoKinds) (by decide) xi_NoKinds xt_NoKinds xs_NoKinds xr_NoKinds pp_NoRow_NoKinds) ⟨_, G_NoRow⟩ (xtok_cons (xp_own (PySem.W.mg_of X G xa_NoRow) (PySem.W.mg_of X G xa_NoBook) (by decide) xi_NoBook xt_NoBook xs_NoBook xr_NoBook pp_NoRow_NoBook) ⟨_, G_NoRow⟩ (xtok_cons (xp_own (PySem.W.mg_of X G xa_NoRow) (PySem.W.mg_of X G xa_NoText) (by decide) xi_NoText xt_NoText xs_NoText xr_NoText pp_NoRow_NoText) ⟨_, G_NoRow⟩ (xtok_cons (xp_own (PySem.W.mg_of X G xa_NoRow) (PySem.W.mg_of X G xa_NoPlace) (by decide) xi_NoPlace xt_NoPlace xs_NoPlace xr_NoPlace pp_NoRow_NoPlace) ⟨_, G_NoRow⟩ (xtok_cons (xp_own (PySem.W.mg_of X G xa_NoRow) (PySem.W.mg_of X G xa_NoSide) (by decide) xi_NoSide xt_NoSide xs_NoSide xr_NoSide pp_NoRow_NoSide) ⟨_, G_NoRow⟩ (xtok_cons (xp_own (PySem.W.mg_of X G xa_NoRow) (PySem.W.mg_of X G xa_NoStand) (by decide) xi_NoStand xt_NoStand xs_NoStand xr_NoStand pp_NoRow_NoStand) ⟨_, G_NoRow⟩ (xtok_cons (xp_own (PySem.W.mg_of X G xa_NoRow) (PySem.W.mg_of X G xa_NoSnippet) (by decide) xi_NoSnippet xt_NoSnippet xs_NoSnippet xr_NoSnippet pp_NoRow_NoSnippet) ⟨_, G_NoRow⟩ (xtok_cons (xp_own (PySem.W.mg_of X G xa_NoRow) (PySem.W.mg_of X G xa_NoCount) (by decide) xi_NoCount xt_NoCount xs_NoCount xr_NoCount pp_NoRow_NoCount) ⟨_, G_NoRow⟩ (xtok_cons (xp_own (PySem.W.mg_of X G xa_NoRow) (PySem.W.mg_of X G xa_NoChange) (by decide) xi_NoChange xt_NoChange xs_NoChange xr_NoChange pp_NoRow_NoChange) ⟨_, G_NoRow⟩ (xtok_cons (xp_own (PySem.W.mg_of X G xa_NoRow) (PySem.W.mg_of X G xa_Ended) (by decide) xi_Ended xt_Ended xs_Ended xr_Ended pp_NoRow_Ended) ⟨_, G_NoRow⟩ (xtok_cons (xp_own (PySem.W.mg_of X G xa_NoRow) (PySem.W.mg_of X G xa_NoRule) (by decide) xi_NoRule xt_NoRule xs_NoRule xr_NoRule pp_NoRow_NoRule) ⟨_, G_NoRow⟩ (xtok_cons (xp_own (PySem.W.mg_of X G xa_NoRow) (PySem.W.mg_of X G xa_Unlike) (by decide) xi_Unlike xt_Unlike xs_Unlike xr_Unlike pp_NoRow_Unlike) ⟨_, G_NoRow⟩ (xtok_cons (xp_own (PySem.W.mg_of X G xa_NoRow) (PySem.W.mg_of X G xa_TooMany) (by decide) xi_TooMany xt_TooMany xs_TooMany xr_TooMany pp_NoRow_TooMany) ⟨_, G_NoRow⟩ (xtok_cons (xp_own (PySem.W.mg_of X G xa_NoRow) (PySem.W.mg_of X G xa_NoName) (by decide) xi_NoName xt_NoName xs_NoName xr_NoName pp_NoRow_NoName) ⟨_, G_NoRow⟩ (xtok_cons (xp_val (PySem.W.mg_of X G xa_NoRow) (PySem.W.mg_none_of X G z_ValueError) y3 pp_NoRow_ValueError) ⟨_, G_NoRow⟩ (xtok_cons (xp_own (PySem.W.mg_of X G xa_NoKinds) (PySem.W.mg_of X G xa_CutError) (by decide) xi_CutError xt_CutError xs_CutError xr_CutError pp_NoKinds_CutError) ⟨_, X_NoKinds.toG⟩ (xtok_cons (xp_own (PySem.W.mg_of X G xa_NoKinds) (PySem.W.mg_of X G xa_NoRow) (by decide) xi_NoRow xt_NoRow xs_NoRow xr_NoRow pp_NoKinds_NoRow) ⟨_, X_NoKinds.toG⟩ (xtok_cons (xp_own (PySem.W.mg_of X G xa_NoKinds) (PySem.W.mg_of X G xa_NoKinds) (by decide) xi_NoKinds xt_NoKinds xs_NoKinds xr_NoKinds pp_NoKinds_NoKinds) ⟨_, X_NoKinds.toG⟩ (xtok_cons (xp_own (PySem.W.mg_of X G xa_NoKinds) (PySem.W.mg_of X G xa_NoBook) (by decide) xi_NoBook xt_NoBook xs_NoBook xr_NoBook pp_NoKinds_NoBook) ⟨_, X_NoKinds.toG⟩ (xtok_cons (xp_own (PySem.W.mg_of X G xa_NoKinds) (PySem.W.mg_of X G xa_NoText) (by decide) xi_NoText xt_NoText xs_NoText xr_NoText pp_NoKinds_NoText) ⟨_, X_NoKinds.toG⟩ (xtok_cons (xp_own (PySem.W.mg_of X G xa_NoKinds) (PySem.W.mg_of X G xa_NoPlace) (by decide) xi_NoPlace xt_NoPlace xs_NoPlace xr_NoPlace pp_NoKinds_NoPlace) ⟨_, X_NoKinds.toG⟩ (xtok_cons (xp_own (PySem.W.mg_of X G xa_NoKinds) (PySem.W.mg_of X G xa_NoSide) (by decide) xi_NoSide xt_NoSide xs_NoSide xr_NoSide pp_NoKinds_NoSide) ⟨_, X_NoKinds.toG⟩ (xtok_cons (xp_own (PySem.W.mg_of X G xa_NoKinds) (PySem.W.mg_of X G xa_NoStand) (by decide) xi_NoStand xt_NoStand xs_NoStand xr_NoStand pp_NoKinds_NoStand) ⟨_, X_NoKinds.toG⟩ (xtok_cons (xp_own (PySem.W.mg_of X G xa_NoKinds) (PySem.W.mg_of X G xa_NoSnippet) (by decide) xi_NoSnippet xt_NoSnippet xs_NoSnippet xr_NoSnippet pp_NoKinds_NoSnippet) ⟨_, X_NoKinds.toG⟩ (xtok_cons (xp_own (PySem.W.mg_of X G xa_NoKinds) (PySem.W.mg_of X G xa_NoCount) (by decide) xi_NoCount xt_NoCount xs_NoCount xr_NoCount pp_NoKinds_NoCount) ⟨_, X_NoKinds.toG⟩ (xtok_cons (xp_own (PySem.W.mg_of X G xa_NoKinds) (PySem.W.mg_of X G xa_NoChange) (by decide) xi_NoChange xt_NoChange xs_NoChange xr_NoChange pp_NoKinds_NoChange) ⟨_, X_NoKinds.toG⟩ (xtok_cons (xp_own (PySem.W.mg_of X G xa_NoKinds) (PySem.W.mg_of X G xa_Ended) (by decide) xi_Ended xt_Ended xs_Ended xr_Ended pp_NoKinds_Ended) ⟨_, X_NoKinds.toG⟩ (xtok_cons (xp_own (PySem.W.mg_of X G xa_NoKinds) (PySem.W.mg_of X G xa_NoRule) (by decide) xi_NoRule xt_NoRule xs_NoRule xr_NoRule pp_NoKinds_NoRule) ⟨_, X_NoKinds.toG⟩ (xtok_cons (xp_own (PySem.W.mg_of X G xa_NoKinds) (PySem.W.mg_of X G xa_Unlike) (by decide) xi_Unlike xt_Unlike xs_Unlike xr_Unlike pp_NoKinds_Unlike) ⟨_, X_NoKinds.toG⟩ (xtok_cons (xp_own (PySem.W.mg_of X G xa_NoKinds) (PySem.W.mg_of X G xa_TooMany) (by decide) xi_TooMany xt_TooMany xs_TooMany xr_TooMany pp_NoKinds_TooMany) ⟨_, X_NoKinds.toG⟩ (xtok_cons (xp_own (PySem.W.mg_of X G xa_NoKinds) (PySem.W.mg_of X G xa_NoName) (by decide) xi_NoName xt_NoName xs_NoName xr_NoName pp_NoKinds_NoName) ⟨_, X_NoKinds.toG⟩ (xtok_cons (xp_val (PySem.W.mg_of X G xa_NoKinds) (PySem.W.mg_none_of X G z_ValueError) y3 pp_NoKinds_ValueError) ⟨_, X_NoKinds.toG⟩ (xtok_cons (xp_own (PySem.W.mg_of X G xa_NoBook) (PySem.W.mg_of X G xa_CutError) (by decide) xi_CutError xt_CutError xs_CutError xr_CutError pp_NoBook_CutError) ⟨_, X_NoBook.toG⟩ (xtok_cons (xp_own (PySem.W.mg_of X G xa_NoBook) (PySem.W.mg_of X G xa_NoRow) (by decide) xi_NoRow xt_NoRow xs_NoRow xr_NoRow pp_NoBook_NoRow) ⟨_, X_NoBook.toG⟩ (xtok_cons (xp_own (PySem.W.mg_of X G xa_NoBook) (PySem.W.mg_of X G xa_NoKinds) (by decide) xi_NoKinds xt_NoKinds xs_NoKinds xr_NoKinds pp_NoBook_NoKinds) ⟨_, X_NoBook.toG⟩ (xtok_cons (xp_own (PySem.W.mg_of X G xa_NoBook) (PySem.W.mg_of X G xa_NoBook) (by decide) xi_NoBook xt_NoBook xs_NoBook xr_NoBook pp_NoBook_NoBook) ⟨_, X_NoBook.toG⟩ (xtok_cons (xp_own (PySem.W.mg_of X G xa_NoBook) (PySem.W.mg_of X G xa_NoText) (by decide) xi_NoText xt_NoText xs_NoText xr_NoText pp_NoBook_NoText) ⟨_, X_NoBook.toG⟩ (xtok_cons (xp_own (PySem.W.mg_of X G xa_NoBook) (PySem.W.mg_of X G xa_NoPlace) (by decide) xi_NoPlace xt_NoPlace xs_NoPlace xr_NoPlace pp_NoBook_NoPlace) ⟨_, X_NoBook.toG⟩ (xtok_cons (xp_own (PySem.W.mg_of X G xa_NoBook) (PySem.W.mg_of X G xa_NoSide) (by decide) xi_NoSide xt_NoSide xs_NoSide xr_NoSide pp_NoBook_NoSide) ⟨_, X_NoBook.toG⟩ (xtok_cons (xp_own (PySem.W.mg_of X G xa_NoBook) (PySem.W.mg_of X G xa_NoStand) (by decide) xi_NoStand xt_NoStand xs_NoStand xr_NoStand pp_NoBook_NoStand) ⟨_, X_NoBook.toG⟩ (xtok_cons (xp_own (PySem.W.mg_of X G xa_NoBook) (PySem.W.mg_of X G xa_NoSnippet) (by decide) xi_NoSnippet xt_NoSnippet xs_NoSnippet xr_NoSnippet pp_NoBook_NoSnippet) ⟨_, X_NoBook.toG⟩ (xtok_cons (xp_own (PySem.W.mg_of X G xa_NoBook) (PySem.W.mg_of X G xa_NoCount) (by decide) xi_NoCount xt_NoCount xs_NoCount xr_NoCount pp_NoBook_NoCount) ⟨_, X_NoBook.toG⟩ (xtok_cons (xp_own (PySem.W.mg_of X G xa_NoBook) (PySem.W.mg_of X G xa_NoChange) (by decide) xi_NoChange xt_NoChange xs_NoChange xr_NoChange pp_NoBook_NoChange) ⟨_, X_NoBook.toG⟩ (xtok_cons (xp_own (PySem.W.mg_of X G xa_NoBook) (PySem.W.mg_of X G xa_Ended) (by decide) xi_Ended xt_Ended xs_Ended xr_Ended pp_NoBook_Ended) ⟨_, X_NoBook.toG⟩ (xtok_cons (xp_own (PySem.W.mg_of X G xa_NoBook) (PySem.W.mg_of X G xa_NoRule) (by decide) xi_NoRule xt_NoRule xs_NoRule xr_NoRule pp_NoBook_NoRule) ⟨_, X_NoBook.toG⟩ (xtok_cons (xp_own (PySem.W.mg_of X G xa_NoBook) (PySem.W.mg_of X G xa_Unlike) (by decide) xi_Unlike xt_Unlike xs_Unlike xr_Unlike pp_NoBook_Unlike) ⟨_, X_NoBook.toG⟩ (xtok_cons (xp_own (PySem.W.mg_of X G xa_NoBook) (PySem.W.mg_of X G xa_TooMany) (by decide) xi_TooMany xt_TooMany xs_TooMany xr_TooMany pp_NoBook_TooMany) ⟨_, X_NoBook.toG⟩ (xtok_cons (xp_own (PySem.W.mg_of X G xa_NoBook) (PySem.W.mg_of X G xa_NoName) (by decide) xi_NoName xt_NoName xs_NoName xr_NoName pp_NoBook_NoName) ⟨_, X_NoBook.toG⟩ (xtok_cons (xp_val (PySem.W.mg_of X G xa_NoBook) (PySem.W.mg_none_of X G z_ValueError) y3 pp_NoBook_ValueError) ⟨_, X_NoBook.toG⟩ (xtok_cons (xp_own (PySem.W.mg_of X G xa_NoText) (PySem.W.mg_of X G xa_CutError) (by decide) xi_CutError xt_CutError xs_CutError xr_CutError pp_NoText_CutError) ⟨_, X_NoText.toG⟩ (xtok_cons (xp_own (PySem.W.mg_of X G xa_NoText) (PySem.W.mg_of X G xa_NoRow) (by decide) xi_NoRow xt_NoRow xs_NoRow xr_NoRow pp_NoText_NoRow) ⟨_, X_NoText.toG⟩ (xtok_cons (xp_own (PySem.W.mg_of X G xa_NoText) (PySem.W.mg_of X G xa_NoKinds) (by decide) xi_NoKinds xt_NoKinds xs_NoKinds xr_NoKinds pp_NoText_NoKinds) ⟨_, X_NoText.toG⟩ (xtok_cons (xp_own (PySem.W.mg_of X G xa_NoText) (PySem.W.mg_of X G xa_NoBook) (by decide) xi_NoBook xt_NoBook xs_NoBook xr_NoBook pp_NoText_NoBook) ⟨_, X_NoText.toG⟩ (xtok_cons (xp_own (PySem.W.mg_of X G xa_NoText) (PySem.W.mg_of X G xa_NoText) (by decide) xi_NoText xt_NoText xs_NoText xr_NoText pp_NoText_NoText) ⟨_, X_NoText.toG⟩ (xtok_cons (xp_own (PySem.W.mg_of X G xa_NoText) (PySem.W.mg_of X G xa_NoPlace) (by decide) xi_NoPlace xt_NoPlace xs_NoPlace xr_NoPlace pp_NoText_NoPlace) ⟨_, X_NoText.toG⟩ (xtok_cons (xp_own (PySem.W.mg_of X G xa_NoText) (PySem.W.mg_of X G xa_NoSide) (by decide) xi_NoSide xt_NoSide xs_NoSide xr_NoSide pp_NoText_NoSide) ⟨_, X_NoText.toG⟩ (xtok_cons (xp_own (PySem.W.mg_of X G xa_NoText) (PySem.W.mg_of X G xa_NoStand) (by decide) xi_NoStand xt_NoStand xs_NoStand xr_NoStand pp_NoText_NoStand) ⟨_, X_NoText.toG⟩ (xtok_cons (xp_own (PySem.W.mg_of X G xa_NoText) (PySem.W.mg_of X G xa_NoSnippet) (by decide) xi_NoSnippet xt_NoSnippet xs_NoSnippet xr_NoSnippet pp_NoText_NoSnippet) ⟨_, X_NoText.toG⟩ (xtok_cons (xp_own (PySem.W.mg_of X G xa_NoText) (PySem.W.mg_of X G xa_NoCount) (by decide) xi_NoCount xt_NoCount xs_NoCount xr_NoCount pp_NoText_NoCount) ⟨_, X_NoText.toG⟩ (xtok_cons (xp_own (PySem.W.mg_of X G xa_NoText) (PySem.W.mg_of X G xa_NoChange) (by decide) xi_NoChange xt_NoChange xs_NoChange xr_NoChange pp_NoText_NoChange) ⟨_, X_NoText.toG⟩ (xtok_cons (xp_own (PySem.W.mg_of X G xa_NoText) (PySem.W.mg_of X G xa_Ended) (by decide) xi_Ended xt_Ended xs_Ended xr_Ended pp_NoText_Ended) ⟨_, X_NoText.toG⟩ (xtok_cons (xp_own (PySem.W.mg_of X G xa_NoText) (PySem.W.mg_of X G xa_NoRule) (by decide) xi_NoRule xt_NoRule xs_NoRule xr_NoRule pp_NoText_NoRule) ⟨_, X_NoText.toG⟩ (xtok_cons (xp_own (PySem.W.mg_of X G xa_NoText) (PySem.W.mg_of X G xa_Unlike) (by decide) xi_Unlike xt_Unlike xs_Unlike xr_Unlike pp_NoText_Unlike) ⟨_, X_NoText.toG⟩ (xtok_cons (xp_own (PySem.W.mg_of X G xa_NoText) (PySem.W.mg_of X G xa_TooMany) (by decide) xi_TooMany xt_TooMany xs_TooMany xr_TooMany pp_NoText_TooMany) ⟨_, X_NoText.toG⟩ (xtok_cons (xp_own (PySem.W.mg_of X G xa_NoText) (PySem.W.mg_of X G xa_NoName) (by decide) xi_NoName xt_NoName xs_NoName xr_NoName pp_NoText_NoName) ⟨_, X_NoText.toG⟩ (xtok_cons (xp_val (PySem.W.mg_of X G xa_NoText) (PySem.W.mg_none_of X G z_ValueError) y3 pp_NoText_ValueError) ⟨_, X_NoText.toG⟩ (xtok_cons (xp_own (PySem.W.mg_of X G xa_NoPlace) (PySem.W.mg_of X G xa_CutError) (by decide) xi_CutError xt_CutError xs_CutError xr_CutError pp_NoPlace_CutError) ⟨_, X_NoPlace.toG⟩ (xtok_cons (xp_own (PySem.W.mg_of X G xa_NoPlace) (PySem.W.mg_of X G xa_NoRow) (by decide) xi_NoRow xt_NoRow xs_NoRow xr_NoRow pp_NoPlace_NoRow) ⟨_, X_NoPlace.toG⟩ (xtok_cons (xp_own (PySem.W.mg_of X G xa_NoPlace) (PySem.W.mg_of X G xa_NoKinds) (by decide) xi_NoKinds xt_NoKinds xs_NoKinds xr_NoKinds pp_NoPlace_NoKinds) ⟨_, X_NoPlace.toG⟩ (xtok_cons (xp_own (PySem.W.mg_of X G xa_NoPlace) (PySem.W.mg_of X G xa_NoBook) (by decide) xi_NoBook xt_NoBook xs_NoBook xr_NoBook pp_NoPlace_NoBook) ⟨_, X_NoPlace.toG⟩ (xtok_cons (xp_own (PySem.W.mg_of X G xa_NoPlace) (PySem.W.mg_of X G xa_NoText) (by decide) xi_NoText xt_NoText xs_NoText xr_NoText pp_NoPlace_NoText) ⟨_, X_NoPlace.toG⟩ (xtok_cons (xp_own (PySem.W.mg_of X G xa_NoPlace) (PySem.W.mg_of X G xa_NoPlace) (by decide) xi_NoPlace xt_NoPlace xs_NoPlace xr_NoPlace pp_NoPlace_NoPlace) ⟨_, X_NoPlace.toG⟩ (xtok_cons (xp_own (PySem.W.mg_of X G xa_NoPlace) (PySem.W.mg_of X G xa_NoSide) (by decide) xi_NoSide xt_NoSide xs_NoSide xr_NoSide pp_NoPlace_NoSide) ⟨_, X_NoPlace.toG⟩ (xtok_cons (xp_own (PySem.W.mg_of X G xa_NoPlace) (PySem.W.mg_of X G xa_NoStand) (by decide) xi_NoStand xt_NoStand xs_NoStand xr_NoStand pp_NoPlace_NoStand) ⟨_, X_NoPlace.toG⟩ (xtok_cons (xp_own (PySem.W.mg_of X G xa_NoPlace) (PySem.W.mg_of X G xa_NoSnippet) (by decide) xi_NoSnippet xt_NoSnippet xs_NoSnippet xr_NoSnippet pp_NoPlace_NoSnippet) ⟨_, X_NoPlace.toG⟩ (xtok_cons (xp_own (PySem.W.mg_of X G xa_NoPlace) (PySem.W.mg_of X G xa_NoCount) (by decide) xi_NoCount xt_NoCount xs_NoCount xr_NoCount pp_NoPlace_NoCount) ⟨_, X_NoPlace.toG⟩ (xtok_cons (xp_own (PySem.W.mg_of X G xa_NoPlace) (PySem.W.mg_of X G xa_NoChange) (by decide) xi_NoChange xt_NoChange xs_NoChange xr_NoChange pp_NoPlace_NoChange) ⟨_, X_NoPlace.toG⟩ (xtok_cons (xp_own (PySem.W.mg_of X G xa_NoPlace) (PySem.W.mg_of X G xa_Ended) (by decide) xi_Ended xt_Ended xs_Ended xr_Ended pp_NoPlace_Ended) ⟨_, X_NoPlace.toG⟩ (xtok_cons (xp_own (PySem.W.mg_of X G xa_NoPlace) (PySem.W.mg_of X G xa_NoRule) (by decide) xi_NoRule xt_NoRule xs_NoRule xr_NoRule pp_NoPlace_NoRule) ⟨_, X_NoPlace.toG⟩ (xtok_cons (xp_own (PySem.W.mg_of X G xa_NoPlace) (PySem.W.mg_of X G xa_Unlike) (by decide) xi_Unlike xt_Unlike xs_Unlike xr_Unlike pp_NoPlace_Unlike) ⟨_, X_NoPlace.toG⟩ (xtok_cons (xp_own (PySem.W.mg_of X G xa_NoPlace) (PySem.W.mg_of X G xa_TooMany) (by decide) xi_TooMany xt_TooMany xs_TooMany xr_TooMany pp_NoPlace_TooMany) ⟨_, X_NoPlace.toG⟩ (xtok_cons (xp_own (PySem.W.mg_of X G xa_NoPlace) (PySem.W.mg_of X G xa_NoName) (by decide) xi_NoName xt_NoName xs_NoName xr_NoName pp_NoPlace_NoName) ⟨_, X_NoPlace.toG⟩ (xtok_cons (xp_val (PySem.W.mg_of X G xa_NoPlace) (PySem.W.mg_none_of X G z_ValueError) y3 pp_NoPlace_ValueError) ⟨_, X_NoPlace.toG⟩ (xtok_cons (xp_own (PySem.W.mg_of X G xa_NoSide) (PySem.W.mg_of X G xa_CutError) (by decide) xi_CutError xt_CutError xs_CutError xr_CutError pp_NoSide_CutError) ⟨_, X_NoSide.toG⟩ (xtok_cons (xp_own (PySem.W.mg_of X G xa_NoSide) (PySem.W.mg_of X G xa_NoRow) (by decide) xi_NoRow xt_NoRow xs_NoRow xr_NoRow pp_NoSide_NoRow) ⟨_, X_NoSide.toG⟩ (xtok_cons (xp_own (PySem.W.mg_of X G xa_NoSide) (PySem.W.mg_of X G xa_NoKinds) (by decide) xi_NoKinds xt_NoKinds xs_NoKinds xr_NoKinds pp_NoSide_NoKinds) ⟨_, X_NoSide.toG⟩ (xtok_cons (xp_own (PySem.W.mg_of X G xa_NoSide) (PySem.W.mg_of X G xa_NoBook) (by decide) xi_NoBook xt_NoBook xs_NoBook xr_NoBook pp_NoSide_NoBook) ⟨_, X_NoSide.toG⟩ (xtok_cons (xp_own (PySem.W.mg_of X G xa_NoSide) (PySem.W.mg_of X G xa_NoText) (by decide) xi_NoText xt_NoText xs_NoText xr_NoText pp_NoSide_NoText) ⟨_, X_NoSide.toG⟩ (xtok_cons (xp_own (PySem.W.mg_of X G xa_NoSide) (PySem.W.mg_of X G xa_NoPlace) (by decide) xi_NoPlace xt_NoPlace xs_NoPlace xr_NoPlace pp_NoSide_NoPlace) ⟨_, X_NoSide.toG⟩ (xtok_cons (xp_own (PySem.W.mg_of X G xa_NoSide) (PySem.W.mg_of X G xa_NoSide) (by decide) xi_NoSide xt_NoSide xs_NoSide xr_NoSide pp_NoSide_NoSide) ⟨_, X_NoSide.toG⟩ (xtok_cons (xp_own (PySem.W.mg_of X G xa_NoSide) (PySem.W.mg_of X G xa_NoStand) (by decide) xi_NoStand xt_NoStand xs_NoStand xr_NoStand pp_NoSide_NoStand) ⟨_, X_NoSide.toG⟩ (xtok_cons (xp_own (PySem.W.mg_of X G xa_NoSide) (PySem.W.mg_of X G xa_NoSnippet) (by decide) xi_NoSnippet xt_NoSnippet xs_NoSnippet xr_NoSnippet pp_NoSide_NoSnippet) ⟨_, X_NoSide.toG⟩ (xtok_cons (xp_own (PySem.W.mg_of X G xa_NoSide) (PySem.W.mg_of X G xa_NoCount) (by decide) xi_NoCount xt_NoCount xs_NoCount xr_NoCount pp_NoSide_NoCount) ⟨_, X_NoSide.toG⟩ (xtok_cons (xp_own (PySem.W.mg_of X G xa_NoSide) (PySem.W.mg_of X G xa_NoChange) (by decide) xi_NoChange xt_NoChange xs_NoChange xr_NoChange pp_NoSide_NoChange) ⟨_, X_NoSide.toG⟩ (xtok_cons (xp_own (PySem.W.mg_of X G xa_NoSide) (PySem.W.mg_of X G xa_Ended) (by decide) xi_Ended xt_Ended xs_Ended xr_Ended pp_NoSide_Ended) ⟨_, X_NoSide.toG⟩ (xtok_cons (xp_own (PySem.W.mg_of X G xa_NoSide) (PySem.W.mg_of X G xa_NoRule) (by decide) xi_NoRule xt_NoRule xs_NoRule xr_NoRule pp_NoSide_NoRule) ⟨_, X_NoSide.toG⟩ (xtok_cons (xp_own (PySem.W.mg_of X G xa_NoSide) (PySem.W.mg_of X G xa_Unlike) (by decide) xi_Unlike xt_Unlike xs_Unlike xr_Unlike pp_NoSide_Unlike) ⟨_, X_NoSide.toG⟩ (xtok_cons (xp_own (PySem.W.mg_of X G xa_NoSide) (PySem.W.mg_of X G xa_TooMany) (by decide) xi_TooMany xt_TooMany xs_TooMany xr_TooMany pp_NoSide_TooMany) ⟨_, X_NoSide.toG⟩ (xtok_cons (xp_own (PySem.W.mg_of X G xa_NoSide) (PySem.W.mg_of X G xa_NoName) (by decide) xi_NoName xt_NoName xs_NoName xr_NoName pp_NoSide_NoName) ⟨_, X_NoSide.toG⟩ (xtok_cons (xp_val (PySem.W.mg_of X G xa_NoSide) (PySem.W.mg_none_of X G z_ValueError) y3 pp_NoSide_ValueError) ⟨_, X_NoSide.toG⟩ (xtok_cons (xp_own (PySem.W.mg_of X G xa_NoStand) (PySem.W.mg_of X G xa_CutError) (by decide) xi_CutError xt_CutError xs_CutError xr_CutError pp_NoStand_CutError) ⟨_, X_NoStand.toG⟩ (xtok_cons (xp_own (PySem.W.mg_of X G xa_NoStand) (PySem.W.mg_of X G xa_NoRow) (by decide) xi_NoRow xt_NoRow xs_NoRow xr_NoRow pp_NoStand_NoRow) ⟨_, X_NoStand.toG⟩ (xtok_cons (xp_own (PySem.W.mg_of X G xa_NoStand) (PySem.W.mg_of X G xa_NoKinds) (by decide) xi_NoKinds xt_NoKinds xs_NoKinds xr_NoKinds pp_NoStand_NoKinds) ⟨_, X_NoStand.toG⟩ (xtok_cons (xp_own (PySem.W.mg_of X G xa_NoStand) (PySem.W.mg_of X G xa_NoBook) (by decide) xi_NoBook xt_NoBook xs_NoBook xr_NoBook pp_NoStand_NoBook) ⟨_, X_NoStand.toG⟩ (xtok_cons (xp_own (PySem.W.mg_of X G xa_NoStand) (PySem.W.mg_of X G xa_NoText) (by decide) xi_NoText xt_NoText xs_NoText xr_NoText pp_NoStand_NoText) ⟨_, X_NoStand.toG⟩ (xtok_cons (xp_own (PySem.W.mg_of X G xa_NoStand) (PySem.W.mg_of X G xa_NoPlace) (by decide) xi_NoPlace xt_NoPlace xs_NoPlace xr_NoPlace pp_NoStand_NoPlace) ⟨_, X_NoStand.toG⟩ (xtok_cons (xp_own (PySem.W.mg_of X G xa_NoStand) (PySem.W.mg_of X G xa_NoSide) (by decide) xi_NoSide xt_NoSide xs_NoSide xr_NoSide pp_NoStand_NoSide) ⟨_, X_NoStand.toG⟩ (xtok_cons (xp_own (PySem.W.mg_of X G xa_NoStand) (PySem.W.mg_of X G xa_NoStand) (by decide) xi_NoStand xt_NoStand xs_NoStand xr_NoStand pp_NoStand_NoStand) ⟨_, X_NoStand.toG⟩ (xtok_cons (xp_own (PySem.W.mg_of X G xa_NoStand) (PySem.W.mg_of X G xa_NoSnippet) (by decide) xi_NoSnippet xt_NoSnippet xs_NoSnippet xr_NoSnippet pp_NoStand_NoSnippet) ⟨_, X_NoStand.toG⟩ (xtok_cons (xp_own (PySem.W.mg_of X G xa_NoStand) (PySem.W.mg_of X G xa_NoCount) (by decide) xi_NoCount xt_NoCount xs_NoCount xr_NoCount pp_NoStand_NoCount) ⟨_, X_NoStand.toG⟩ (xtok_cons (xp_own (PySem.W.mg_of X G xa_NoStand) (PySem.W.mg_of X G xa_NoChange) (by decide) xi_NoChange xt_NoChange xs_NoChange xr_NoChange pp_NoStand_NoChange) ⟨_, X_NoStand.toG⟩ (xtok_cons (xp_own (PySem.W.mg_of X G xa_NoStand) (PySem.W.mg_of X G xa_Ended) (by decide) xi_Ended xt_Ended xs_Ended xr_Ended pp_NoStand_Ended) ⟨_, X_NoStand.toG⟩ (xtok_cons (xp_own (PySem.W.mg_of X G xa_NoStand) (PySem.W.mg_of X G xa_NoRule) (by decide) xi_NoRule xt_NoRule xs_NoRule xr_NoRule pp_NoStand_NoRule) ⟨_, X_NoStand.toG⟩ (xtok_cons (xp_own (PySem.W.mg_of X G xa_NoStand) (PySem.W.mg_of X G xa_Unlike) (by decide) xi_Unlike xt_Unlike xs_Unlike xr_Unlike pp_NoStand_Unlike) ⟨_, X_NoStand.toG⟩ (xtok_cons (xp_own (PySem.W.mg_of X G xa_NoStand) (PySem.W.mg_of X G xa_TooMany) (by decide) xi_TooMany xt_TooMany xs_TooMany xr_TooMany pp_NoStand_TooMany) ⟨_, X_NoStand.toG⟩ (xtok_cons (xp_own (PySem.W.mg_of X G xa_NoStand) (PySem.W.mg_of X G xa_NoName) (by decide) xi_NoName xt_NoName xs_NoName xr_NoName pp_NoStand_NoName) ⟨_, X_NoStand.toG⟩ (xtok_cons (xp_val (PySem.W.mg_of X G xa_NoStand) (PySem.W.mg_none_of X G z_ValueError) y3 pp_NoStand_ValueError) ⟨_, X_NoStand.toG⟩ (xtok_cons (xp_own (PySem.W.mg_of X G xa_NoSnippet) (PySem.W.mg_of X G xa_CutError) (by decide) xi_CutError xt_CutError xs_CutError xr_CutError pp_NoSnippet_CutError) ⟨_, X_NoSnippet.toG⟩ (xtok_cons (xp_own (PySem.W.mg_of X G xa_NoSnippet) (PySem.W.mg_of X G xa_NoRow) (by decide) xi_NoRow xt_NoRow xs_NoRow xr_NoRow pp_NoSnippet_NoRow) ⟨_, X_NoSnippet.toG⟩ (xtok_cons (xp_own (PySem.W.mg_of X G xa_NoSnippet) (PySem.W.mg_of X G xa_NoKinds) (by decide) xi_NoKinds xt_NoKinds xs_NoKinds xr_NoKinds pp_NoSnippet_NoKinds) ⟨_, X_NoSnippet.toG⟩ (xtok_cons (xp_own (PySem.W.mg_of X G xa_NoSnippet) (PySem.W.mg_of X G xa_NoBook) (by decide) xi_NoBook xt_NoBook xs_NoBook xr_NoBook pp_NoSnippet_NoBook) ⟨_, X_NoSnippet.toG⟩ (xtok_cons (xp_own (PySem.W.mg_of X G xa_NoSnippet) (PySem.W.mg_of X G xa_NoText) (by decide) xi_NoText xt_NoText xs_NoText xr_NoText pp_NoSnippet_NoText) ⟨_, X_NoSnippet.toG⟩ (xtok_cons (xp_own (PySem.W.mg_of X G xa_NoSnippet) (PySem.W.mg_of X G xa_NoPlace) (by decide) xi_NoPlace xt_NoPlace xs_NoPlace xr_NoPlace pp_NoSnippet_NoPlace) ⟨_, X_NoSnippet.toG⟩ (xtok_cons (xp_own (PySem.W.mg_of X G xa_NoSnippet) (PySem.W.mg_of X G xa_NoSide) (by decide) xi_NoSide xt_NoSide xs_NoSide xr_NoSide pp_NoSnippet_NoSide) ⟨_, X_NoSnippet.toG⟩ (xtok_cons (xp_own (PySem.W.mg_of X G xa_NoSnippet) (PySem.W.mg_of X G xa_NoStand) (by decide) xi_NoStand xt_NoStand xs_NoStand xr_NoStand pp_NoSnippet_NoStand) ⟨_, X_NoSnippet.toG⟩ (xtok_cons (xp_own (PySem.W.mg_of X G xa_NoSnippet) (PySem.W.mg_of X G xa_NoSnippet) (by decide) xi_NoSnippet xt_NoSnippet xs_NoSnippet xr_NoSnippet pp_NoSnippet_NoSnippet) ⟨_, X_NoSnippet.toG⟩ (xtok_cons (xp_own (PySem.W.mg_of X G xa_NoSnippet) (PySem.W.mg_of X G xa_NoCount) (by decide) xi_NoCount xt_NoCount xs_NoCount xr_NoCount pp_NoSnippet_NoCount) ⟨_, X_NoSnippet.toG⟩ (xtok_cons (xp_own (PySem.W.mg_of X G xa_NoSnippet) (PySem.W.mg_of X G xa_NoChange) (by decide) xi_NoChange xt_NoChange xs_NoChange xr_NoChange pp_NoSnippet_NoChange) ⟨_, X_NoSnippet.toG⟩ (xtok_cons (xp_own (PySem.W.mg_of X G xa_NoSnippet) (PySem.W.mg_of X G xa_Ended) (by decide) xi_Ended xt_Ended xs_Ended xr_Ended pp_NoSnippet_Ended) ⟨_, X_NoSnippet.toG⟩ (xtok_cons (xp_own (PySem.W.mg_of X G xa_NoSnippet) (PySem.W.mg_of X G xa_NoRule) (by decide) xi_NoRule xt_NoRule xs_NoRule xr_NoRule pp_NoSnippet_NoRule) ⟨_, X_NoSnippet.toG⟩ (xtok_cons (xp_own (PySem.W.mg_of X G xa_NoSnippet) (PySem.W.mg_of X G xa_Unlike) (by decide) xi_Unlike xt_Unlike xs_Unlike xr_Unlike pp_NoSnippet_Unlike) ⟨_, X_NoSnippet.toG⟩ (xtok_cons (xp_own (PySem.W.mg_of X G xa_NoSnippet) (PySem.W.mg_of X G xa_TooMany) (by decide) xi_TooMany xt_TooMany xs_TooMany xr_TooMany pp_NoSnippet_TooMany) ⟨_, X_NoSnippet.toG⟩ (xtok_cons (xp_own (PySem.W.mg_of X G xa_NoSnippet) (PySem.W.mg_of X G xa_NoName) (by decide) xi_NoName xt_NoName xs_NoName xr_NoName pp_NoSnippet_NoName) ⟨_, X_NoSnippet.toG⟩ (xtok_cons (xp_val (PySem.W.mg_of X G xa_NoSnippet) (PySem.W.mg_none_of X G z_ValueError) y3 pp_NoSnippet_ValueError) ⟨_, X_NoSnippet.toG⟩ (xtok_cons (xp_own (PySem.W.mg_of X G xa_NoCount) (PySem.W.mg_of X G xa_CutError) (by decide) xi_CutError xt_CutError xs_CutError xr_CutError pp_NoCount_CutError) ⟨_, X_NoCount.toG⟩ (xtok_cons (xp_own (PySem.W.mg_of X G xa_NoCount) (PySem.W.mg_of X G xa_NoRow) (by decide) xi_NoRow xt_NoRow xs_NoRow xr_NoRow pp_NoCount_NoRow) ⟨_, X_NoCount.toG⟩ (xtok_cons (xp_own (PySem.W.mg_of X G xa_NoCount) (PySem.W.mg_of X G xa_NoKinds) (by decide) xi_NoKinds xt_NoKinds xs_NoKinds xr_NoKinds pp_NoCount_NoKinds) ⟨_, X_NoCount.toG⟩ (xtok_cons (xp_own (PySem.W.mg_of X G xa_NoCount) (PySem.W.mg_of X G xa_NoBook) (by decide) xi_NoBook xt_NoBook xs_NoBook xr_NoBook pp_NoCount_NoBook) ⟨_, X_NoCount.toG⟩ (xtok_cons (xp_own (PySem.W.mg_of X G xa_NoCount) (PySem.W.mg_of X G xa_NoText) (by decide) xi_NoText xt_NoText xs_NoText xr_NoText pp_NoCount_NoText) ⟨_, X_NoCount.toG⟩ (xtok_cons (xp_own (PySem.W.mg_of X G xa_NoCount) (PySem.W.mg_of X G xa_NoPlace) (by decide) xi_NoPlace xt_NoPlace xs_NoPlace xr_NoPlace pp_NoCount_NoPlace) ⟨_, X_NoCount.toG⟩ (xtok_cons (xp_own (PySem.W.mg_of X G xa_NoCount) (PySem.W.mg_of X G xa_NoSide) (by decide) xi_NoSide xt_NoSide xs_NoSide xr_NoSide pp_NoCount_NoSide) ⟨_, X_NoCount.toG⟩ (xtok_cons (xp_own (PySem.W.mg_of X G xa_NoCount) (PySem.W.mg_of X G xa_NoStand) (by decide) xi_NoStand xt_NoStand xs_NoStand xr_NoStand pp_NoCount_NoStand) ⟨_, X_NoCount.toG⟩ (xtok_cons (xp_own (PySem.W.mg_of X G xa_NoCount) (PySem.W.mg_of X G xa_NoSnippet) (by decide) xi_NoSnippet xt_NoSnippet xs_NoSnippet xr_NoSnippet pp_NoCount_NoSnippet) ⟨_, X_NoCount.toG⟩ (xtok_cons (xp_own (PySem.W.mg_of X G xa_NoCount) (PySem.W.mg_of X G xa_NoCount) (by decide) xi_NoCount xt_NoCount xs_NoCount xr_NoCount pp_NoCount_NoCount) ⟨_, X_NoCount.toG⟩ (xtok_cons (xp_own (PySem.W.mg_of X G xa_NoCount) (PySem.W.mg_of X G xa_NoChange) (by decide) xi_NoChange xt_NoChange xs_NoChange xr_NoChange pp_NoCount_NoChange) ⟨_, X_NoCount.toG⟩ (xtok_cons (xp_own (PySem.W.mg_of X G xa_NoCount) (PySem.W.mg_of X G xa_Ended) (by decide) xi_Ended xt_Ended xs_Ended xr_Ended pp_NoCount_Ended) ⟨_, X_NoCount.toG⟩ (xtok_cons (xp_own (PySem.W.mg_of X G xa_NoCount) (PySem.W.mg_of X G xa_NoRule) (by decide) xi_NoRule xt_NoRule xs_NoRule xr_NoRule pp_NoCount_NoRule) ⟨_, X_NoCount.toG⟩ (xtok_cons (xp_own (PySem.W.mg_of X G xa_NoCount) (PySem.W.mg_of X G xa_Unlike) (by decide) xi_Unlike xt_Unlike xs_Unlike xr_Unlike pp_NoCount_Unlike) ⟨_, X_NoCount.toG⟩ (xtok_cons (xp_own (PySem.W.mg_of X G xa_NoCount) (PySem.W.mg_of X G xa_TooMany) (by decide) xi_TooMany xt_TooMany xs_TooMany xr_TooMany pp_NoCount_TooMany) ⟨_, X_NoCount.toG⟩ (xtok_cons (xp_own (PySem.W.mg_of X G xa_NoCount) (PySem.W.mg_of X G xa_NoName) (by decide) xi_NoName xt_NoName xs_NoName xr_NoName pp_NoCount_NoName) ⟨_, X_NoCount.toG⟩ (xtok_cons (xp_val (PySem.W.mg_of X G xa_NoCount) (PySem.W.mg_none_of X G z_ValueError) y3 pp_NoCount_ValueError) ⟨_, X_NoCount.toG⟩ (xtok_cons (xp_own (PySem.W.mg_of X G xa_NoChange) (PySem.W.mg_of X G xa_CutError) (by decide) xi_CutError xt_CutError xs_CutError xr_CutError pp_NoChange_CutError) ⟨_, X_NoChange.toG⟩ (xtok_cons (xp_own (PySem.W.mg_of X G xa_NoChange) (PySem.W.mg_of X G xa_NoRow) (by decide) xi_NoRow xt_NoRow xs_NoRow xr_NoRow pp_NoChange_NoRow) ⟨_, X_NoChange.toG⟩ (xtok_cons (xp_own (PySem.W.mg_of X G xa_NoChange) (PySem.W.mg_of X G xa_NoKinds) (by decide) xi_NoKinds xt_NoKinds xs_NoKinds xr_NoKinds pp_NoChange_NoKinds) ⟨_, X_NoChange.toG⟩ (xtok_cons (xp_own (PySem.W.mg_of X G xa_NoChange) (PySem.W.mg_of X G xa_NoBook) (by decide) xi_NoBook xt_NoBook xs_NoBook xr_NoBook pp_NoChange_NoBook) ⟨_, X_NoChange.toG⟩ (xtok_cons (xp_own (PySem.W.mg_of X G xa_NoChange) (PySem.W.mg_of X G xa_NoText) (by decide) xi_NoText xt_NoText xs_NoText xr_NoText pp_NoChange_NoText) ⟨_, X_NoChange.toG⟩ (xtok_cons (xp_own (PySem.W.mg_of X G xa_NoChange) (PySem.W.mg_of X G xa_NoPlace) (by decide) xi_NoPlace xt_NoPlace xs_NoPlace xr_NoPlace pp_NoChange_NoPlace) ⟨_, X_NoChange.toG⟩ (xtok_cons (xp_own (PySem.W.mg_of X G xa_NoChange) (PySem.W.mg_of X G xa_NoSide) (by decide) xi_NoSide xt_NoSide xs_NoSide xr_NoSide pp_NoChange_NoSide) ⟨_, X_NoChange.toG⟩ (xtok_cons (xp_own (PySem.W.mg_of X G xa_NoChange) (PySem.W.mg_of X G xa_NoStand) (by decide) xi_NoStand xt_NoStand xs_NoStand xr_NoStand pp_NoChange_NoStand) ⟨_, X_NoChange.toG⟩ (xtok_cons (xp_own (PySem.W.mg_of X G xa_NoChange) (PySem.W.mg_of X G xa_NoSnippet) (by decide) xi_NoSnippet xt_NoSnippet xs_NoSnippet xr_NoSnippet pp_NoChange_NoSnippet) ⟨_, X_NoChange.toG⟩ (xtok_cons (xp_own (PySem.W.mg_of X G xa_NoChange) (PySem.W.mg_of X G xa_NoCount) (by decide) xi_NoCount xt_NoCount xs_NoCount xr_NoCount pp_NoChange_NoCount) ⟨_, X_NoChange.toG⟩ (xtok_cons (xp_own (PySem.W.mg_of X G xa_NoChange) (PySem.W.mg_of X G xa_NoChange) (by decide) xi_NoChange xt_NoChange xs_NoChange xr_NoChange pp_NoChange_NoChange) ⟨_, X_NoChange.toG⟩ (xtok_cons (xp_own (PySem.W.mg_of X G xa_NoChange) (PySem.W.mg_of X G xa_Ended) (by decide) xi_Ended xt_Ended xs_Ended xr_Ended pp_NoChange_Ended) ⟨_, X_NoChange.toG⟩ (xtok_cons (xp_own (PySem.W.mg_of X G xa_NoChange) (PySem.W.mg_of X G xa_NoRule) (by decide) xi_NoRule xt_NoRule xs_NoRule xr_NoRule pp_NoChange_NoRule) ⟨_, X_NoChange.toG⟩ (xtok_cons (xp_own (PySem.W.mg_of X G xa_NoChange) (PySem.W.mg_of X G xa_Unlike) (by decide) xi_Unlike xt_Unlike xs_Unlike xr_Unlike pp_NoChange_Unlike) ⟨_, X_NoChange.toG⟩ (xtok_cons (xp_own (PySem.W.mg_of X G xa_NoChange) (PySem.W.mg_of X G xa_TooMany) (by decide) xi_TooMany xt_TooMany xs_TooMany xr_TooMany pp_NoChange_TooMany) ⟨_, X_NoChange.toG⟩ (xtok_cons (xp_own (PySem.W.mg_of X G xa_NoChange) (PySem.W.mg_of X G xa_NoName) (by decide) xi_NoName xt_NoName xs_NoName xr_NoName pp_NoChange_NoName) ⟨_, X_NoChange.toG⟩ (xtok_cons (xp_val (PySem.W.mg_of X G xa_NoChange) (PySem.W.mg_none_of X G z_ValueError) y3 pp_NoChange_ValueError) ⟨_, X_NoChange.toG⟩ (xtok_cons (xp_own (PySem.W.mg_of X G xa_Ended) (PySem.W.mg_of X G xa_CutError) (by decide) xi_CutError xt_CutError xs_CutError xr_CutError pp_Ended_CutError) ⟨_, X_Ended.toG⟩ (xtok_cons (xp_own (PySem.W.mg_of X G xa_Ended) (PySem.W.mg_of X G xa_NoRow) (by decide) xi_NoRow xt_NoRow xs_NoRow xr_NoRow pp_Ended_NoRow) ⟨_, X_Ended.toG⟩ (xtok_cons (xp_own (PySem.W.mg_of X G xa_Ended) (PySem.W.mg_of X G xa_NoKinds) (by decide) xi_NoKinds xt_NoKinds xs_NoKinds xr_NoKinds pp_Ended_NoKinds) ⟨_, X_Ended.toG⟩ (xtok_cons (xp_own (PySem.W.mg_of X G xa_Ended) (PySem.W.mg_of X G xa_NoBook) (by decide) xi_NoBook xt_NoBook xs_NoBook xr_NoBook pp_Ended_NoBook) ⟨_, X_Ended.toG⟩ (xtok_cons (xp_own (PySem.W.mg_of X G xa_Ended) (PySem.W.mg_of X G xa_NoText) (by decide) xi_NoText xt_NoText xs_NoText xr_NoText pp_Ended_NoText) ⟨_, X_Ended.toG⟩ (xtok_cons (xp_own (PySem.W.mg_of X G xa_Ended) (PySem.W.mg_of X G xa_NoPlace) (by decide) xi_NoPlace xt_NoPlace xs_NoPlace xr_NoPlace pp_Ended_NoPlace) ⟨_, X_Ended.toG⟩ (xtok_cons (xp_own (PySem.W.mg_of X G xa_Ended) (PySem.W.mg_of X G xa_NoSide) (by decide) xi_NoSide xt_NoSide xs_NoSide xr_NoSide pp_Ended_NoSide) ⟨_, X_Ended.toG⟩ (xtok_cons (xp_own (PySem.W.mg_of X G xa_Ended) (PySem.W.mg_of X G xa_NoStand) (by decide) xi_NoStand xt_NoStand xs_NoStand xr_NoStand pp_Ended_NoStand) ⟨_, X_Ended.toG⟩ (xtok_cons (xp_own (PySem.W.mg_of X G xa_Ended) (PySem.W.mg_of X G xa_NoSnippet) (by decide) xi_NoSnippet xt_NoSnippet xs_NoSnippet xr_NoSnippet pp_Ended_NoSnippet) ⟨_, X_Ended.toG⟩ (xtok_cons (xp_own (PySem.W.mg_of X G xa_Ended) (PySem.W.mg_of X G xa_NoCount) (by decide) xi_NoCount xt_NoCount xs_NoCount xr_NoCount pp_Ended_NoCount) ⟨_, X_Ended.toG⟩ (xtok_cons (xp_own (PySem.W.mg_of X G xa_Ended) (PySem.W.mg_of X G xa_NoChange) (by decide) xi_NoChange xt_NoChange xs_NoChange xr_NoChange pp_Ended_NoChange) ⟨_, X_Ended.toG⟩ (xtok_cons (xp_own (PySem.W.mg_of X G xa_Ended) (PySem.W.mg_of X G xa_Ended) (by decide) xi_Ended xt_Ended xs_Ended xr_Ended pp_Ended_Ended) ⟨_, X_Ended.toG⟩ (xtok_cons (xp_own (PySem.W.mg_of X G xa_Ended) (PySem.W.mg_of X G xa_NoRule) (by decide) xi_NoRule xt_NoRule xs_NoRule xr_NoRule pp_Ended_NoRule) ⟨_, X_Ended.toG⟩ (xtok_cons (xp_own (PySem.W.mg_of X G xa_Ended) (PySem.W.mg_of X G xa_Unlike) (by decide) xi_Unlike xt_Unlike xs_Unlike xr_Unlike pp_Ended_Unlike) ⟨_, X_Ended.toG⟩ (xtok_cons (xp_own (PySem.W.mg_of X G xa_Ended) (PySem.W.mg_of X G xa_TooMany) (by decide) xi_TooMany xt_TooMany xs_TooMany xr_TooMany pp_Ended_TooMany) ⟨_, X_Ended.toG⟩ (xtok_cons (xp_own (PySem.W.mg_of X G xa_Ended) (PySem.W.mg_of X G xa_NoName) (by decide) xi_NoName xt_NoName xs_NoName xr_NoName pp_Ended_NoName) ⟨_, X_Ended.toG⟩ (xtok_cons (xp_val (PySem.W.mg_of X G xa_Ended) (PySem.W.mg_none_of X G z_ValueError) y3 pp_Ended_ValueError) ⟨_, X_Ended.toG⟩ (xtok_cons (xp_own (PySem.W.mg_of X G xa_NoRule) (PySem.W.mg_of X G xa_CutError) (by decide) xi_CutError xt_CutError xs_CutError xr_CutError pp_NoRule_CutError) ⟨_, X_NoRule.toG⟩ (xtok_cons (xp_own (PySem.W.mg_of X G xa_NoRule) (PySem.W.mg_of X G xa_NoRow) (by decide) xi_NoRow xt_NoRow xs_NoRow xr_NoRow pp_NoRule_NoRow) ⟨_, X_NoRule.toG⟩ (xtok_cons (xp_own (PySem.W.mg_of X G xa_NoRule) (PySem.W.mg_of X G xa_NoKinds) (by decide) xi_NoKinds xt_NoKinds xs_NoKinds xr_NoKinds pp_NoRule_NoKinds) ⟨_, X_NoRule.toG⟩ (xtok_cons (xp_own (PySem.W.mg_of X G xa_NoRule) (PySem.W.mg_of X G xa_NoBook) (by decide) xi_NoBook xt_NoBook xs_NoBook xr_NoBook pp_NoRule_NoBook) ⟨_, X_NoRule.toG⟩ (xtok_cons (xp_own (PySem.W.mg_of X G xa_NoRule) (PySem.W.mg_of X G xa_NoText) (by decide) xi_NoText xt_NoText xs_NoText xr_NoText pp_NoRule_NoText) ⟨_, X_NoRule.toG⟩ (xtok_cons (xp_own (PySem.W.mg_of X G xa_NoRule) (PySem.W.mg_of X G xa_NoPlace) (by decide) xi_NoPlace xt_NoPlace xs_NoPlace xr_NoPlace pp_NoRule_NoPlace) ⟨_, X_NoRule.toG⟩ (xtok_cons (xp_own (PySem.W.mg_of X G xa_NoRule) (PySem.W.mg_of X G xa_NoSide) (by decide) xi_NoSide xt_NoSide xs_NoSide xr_NoSide pp_NoRule_NoSide) ⟨_, X_NoRule.toG⟩ (xtok_cons (xp_own (PySem.W.mg_of X G xa_NoRule) (PySem.W.mg_of X G xa_NoStand) (by decide) xi_NoStand xt_NoStand xs_NoStand xr_NoStand pp_NoRule_NoStand) ⟨_, X_NoRule.toG⟩ (xtok_cons (xp_own (PySem.W.mg_of X G xa_NoRule) (PySem.W.mg_of X G xa_NoSnippet) (by decide) xi_NoSnippet xt_NoSnippet xs_NoSnippet xr_NoSnippet pp_NoRule_NoSnippet) ⟨_, X_NoRule.toG⟩ (xtok_cons (xp_own (PySem.W.mg_of X G xa_NoRule) (PySem.W.mg_of X G xa_NoCount) (by decide) xi_NoCount xt_NoCount xs_NoCount xr_NoCount pp_NoRule_NoCount) ⟨_, X_NoRule.toG⟩ (xtok_cons (xp_own (PySem.W.mg_of X G xa_NoRule) (PySem.W.mg_of X G xa_NoChange) (by decide) xi_NoChange xt_NoChange xs_NoChange xr_NoChange pp_NoRule_NoChange) ⟨_, X_NoRule.toG⟩ (xtok_cons (xp_own (PySem.W.mg_of X G xa_NoRule) (PySem.W.mg_of X G xa_Ended) (by decide) xi_Ended xt_Ended xs_Ended xr_Ended pp_NoRule_Ended) ⟨_, X_NoRule.toG⟩ (xtok_cons (xp_own (PySem.W.mg_of X G xa_NoRule) (PySem.W.mg_of X G xa_NoRule) (by decide) xi_NoRule xt_NoRule xs_NoRule xr_NoRule pp_NoRule_NoRule) ⟨_, X_NoRule.toG⟩ (xtok_cons (xp_own (PySem.W.mg_of X G xa_NoRule) (PySem.W.mg_of X G xa_Unlike) (by decide) xi_Unlike xt_Unlike xs_Unlike xr_Unlike pp_NoRule_Unlike) ⟨_, X_NoRule.toG⟩ (xtok_cons (xp_own (PySem.W.mg_of X G xa_NoRule) (PySem.W.mg_of X G xa_TooMany) (by decide) xi_TooMany xt_TooMany xs_TooMany xr_TooMany pp_NoRule_TooMany) ⟨_, X_NoRule.toG⟩ (xtok_cons (xp_own (PySem.W.mg_of X G xa_NoRule) (PySem.W.mg_of X G xa_NoName) (by decide) xi_NoName xt_NoName xs_NoName xr_NoName pp_NoRule_NoName) ⟨_, X_NoRule.toG⟩ (xtok_cons (xp_val (PySem.W.mg_of X G xa_NoRule) (PySem.W.mg_none_of X G z_ValueError) y3 pp_NoRule_ValueError) ⟨_, X_NoRule.toG⟩ (xtok_cons (xp_own (PySem.W.mg_of X G xa_Unlike) (PySem.W.mg_of X G xa_CutError) (by decide) xi_CutError xt_CutError xs_CutError xr_CutError pp_Unlike_CutError) ⟨_, X_Unlike.toG⟩ (xtok_cons (xp_own (PySem.W.mg_of X G xa_Unlike) (PySem.W.mg_of X G xa_NoRow) (by decide) xi_NoRow xt_NoRow xs_NoRow xr_NoRow pp_Unlike_NoRow) ⟨_, X_Unlike.toG⟩ (xtok_cons (xp_own (PySem.W.mg_of X G xa_Unlike) (PySem.W.mg_of X G xa_NoKinds) (by decide) xi_NoKinds xt_NoKinds xs_NoKinds xr_NoKinds pp_Unlike_NoKinds) ⟨_, X_Unlike.toG⟩ (xtok_cons (xp_own (PySem.W.mg_of X G xa_Unlike) (PySem.W.mg_of X G xa_NoBook) (by decide) xi_NoBook xt_NoBook xs_NoBook xr_NoBook pp_Unlike_NoBook) ⟨_, X_Unlike.toG⟩ (xtok_cons (xp_own (PySem.W.mg_of X G xa_Unlike) (PySem.W.mg_of X G xa_NoText) (by decide) xi_NoText xt_NoText xs_NoText xr_NoText pp_Unlike_NoText) ⟨_, X_Unlike.toG⟩ (xtok_cons (xp_own (PySem.W.mg_of X G xa_Unlike) (PySem.W.mg_of X G xa_NoPlace) (by decide) xi_NoPlace xt_NoPlace xs_NoPlace xr_NoPlace pp_Unlike_NoPlace) ⟨_, X_Unlike.toG⟩ (xtok_cons (xp_own (PySem.W.mg_of X G xa_Unlike) (PySem.W.mg_of X G xa_NoSide) (by decide) xi_NoSide xt_NoSide xs_NoSide xr_NoSide pp_Unlike_NoSide) ⟨_, X_Unlike.toG⟩ (xtok_cons (xp_own (PySem.W.mg_of X G xa_Unlike) (PySem.W.mg_of X G xa_NoStand) (by decide) xi_NoStand xt_NoStand xs_NoStand xr_NoStand pp_Unlike_NoStand) ⟨_, X_Unlike.toG⟩ (xtok_cons (xp_own (PySem.W.mg_of X G xa_Unlike) (PySem.W.mg_of X G xa_NoSnippet) (by decide) xi_NoSnippet xt_NoSnippet xs_NoSnippet xr_NoSnippet pp_Unlike_NoSnippet) ⟨_, X_Unlike.toG⟩ (xtok_cons (xp_own (PySem.W.mg_of X G xa_Unlike) (PySem.W.mg_of X G xa_NoCount) (by decide) xi_NoCount xt_NoCount xs_NoCount xr_NoCount pp_Unlike_NoCount) ⟨_, X_Unlike.toG⟩ (xtok_cons (xp_own (PySem.W.mg_of X G xa_Unlike) (PySem.W.mg_of X G xa_NoChange) (by decide) xi_NoChange xt_NoChange xs_NoChange xr_NoChange pp_Unlike_NoChange) ⟨_, X_Unlike.toG⟩ (xtok_cons (xp_own (PySem.W.mg_of X G xa_Unlike) (PySem.W.mg_of X G xa_Ended) (by decide) xi_Ended xt_Ended xs_Ended xr_Ended pp_Unlike_Ended) ⟨_, X_Unlike.toG⟩ (xtok_cons (xp_own (PySem.W.mg_of X G xa_Unlike) (PySem.W.mg_of X G xa_NoRule) (by decide) xi_NoRule xt_NoRule xs_NoRule xr_NoRule pp_Unlike_NoRule) ⟨_, X_Unlike.toG⟩ (xtok_cons (xp_own (PySem.W.mg_of X G xa_Unlike) (PySem.W.mg_of X G xa_Unlike) (by decide) xi_Unlike xt_Unlike xs_Unlike xr_Unlike pp_Unlike_Unlike) ⟨_, X_Unlike.toG⟩ (xtok_cons (xp_own (PySem.W.mg_of X G xa_Unlike) (PySem.W.mg_of X G xa_TooMany) (by decide) xi_TooMany xt_TooMany xs_TooMany xr_TooMany pp_Unlike_TooMany) ⟨_, X_Unlike.toG⟩ (xtok_cons (xp_own (PySem.W.mg_of X G xa_Unlike) (PySem.W.mg_of X G xa_NoName) (by decide) xi_NoName xt_NoName xs_NoName xr_NoName pp_Unlike_NoName) ⟨_, X_Unlike.toG⟩ (xtok_cons (xp_val (PySem.W.mg_of X G xa_Unlike) (PySem.W.mg_none_of X G z_ValueError) y3 pp_Unlike_ValueError) ⟨_, X_Unlike.toG⟩ (xtok_cons (xp_own (PySem.W.mg_of X G xa_TooMany) (PySem.W.mg_of X G xa_CutError) (by decide) xi_CutError xt_CutError xs_CutError xr_CutError pp_TooMany_CutError) ⟨_, X_TooMany.toG⟩ (xtok_cons (xp_own (PySem.W.mg_of X G xa_TooMany) (PySem.W.mg_of X G xa_NoRow) (by decide) xi_NoRow xt_NoRow xs_NoRow xr_NoRow pp_TooMany_NoRow) ⟨_, X_TooMany.toG⟩ (xtok_cons (xp_own (PySem.W.mg_of X G xa_TooMany) (PySem.W.mg_of X G xa_NoKinds) (by decide) xi_NoKinds xt_NoKinds xs_NoKinds xr_NoKinds pp_TooMany_NoKinds) ⟨_, X_TooMany.toG⟩ (xtok_cons (xp_own (PySem.W.mg_of X G xa_TooMany) (PySem.W.mg_of X G xa_NoBook) (by decide) xi_NoBook xt_NoBook xs_NoBook xr_NoBook pp_TooMany_NoBook) ⟨_, X_TooMany.toG⟩ (xtok_cons (xp_own (PySem.W.mg_of X G xa_TooMany) (PySem.W.mg_of X G xa_NoText) (by decide) xi_NoText xt_NoText xs_NoText xr_NoText pp_TooMany_NoText) ⟨_, X_TooMany.toG⟩ (xtok_cons (xp_own (PySem.W.mg_of X G xa_TooMany) (PySem.W.mg_of X G xa_NoPlace) (by decide) xi_NoPlace xt_NoPlace xs_NoPlace xr_NoPlace pp_TooMany_NoPlace) ⟨_, X_TooMany.toG⟩ (xtok_cons (xp_own (PySem.W.mg_of X G xa_TooMany) (PySem.W.mg_of X G xa_NoSide) (by decide) xi_NoSide xt_NoSide xs_NoSide xr_NoSide pp_TooMany_NoSide) ⟨_, X_TooMany.toG⟩ (xtok_cons (xp_own (PySem.W.mg_of X G xa_TooMany) (PySem.W.mg_of X G xa_NoStand) (by decide) xi_NoStand xt_NoStand xs_NoStand xr_NoStand pp_TooMany_NoStand) ⟨_, X_TooMany.toG⟩ (xtok_cons (xp_own (PySem.W.mg_of X G xa_TooMany) (PySem.W.mg_of X G xa_NoSnippet) (by decide) xi_NoSnippet xt_NoSnippet xs_NoSnippet xr_NoSnippet pp_TooMany_NoSnippet) ⟨_, X_TooMany.toG⟩ (xtok_cons (xp_own (PySem.W.mg_of X G xa_TooMany) (PySem.W.mg_of X G xa_NoCount) (by decide) xi_NoCount xt_NoCount xs_NoCount xr_NoCount pp_TooMany_NoCount) ⟨_, X_TooMany.toG⟩ (xtok_cons (xp_own (PySem.W.mg_of X G xa_TooMany) (PySem.W.mg_of X G xa_NoChange) (by decide) xi_NoChange xt_NoChange xs_NoChange xr_NoChange pp_TooMany_NoChange) ⟨_, X_TooMany.toG⟩ (xtok_cons (xp_own (PySem.W.mg_of X G xa_TooMany) (PySem.W.mg_of X G xa_Ended) (by decide) xi_Ended xt_Ended xs_Ended xr_Ended pp_TooMany_Ended) ⟨_, X_TooMany.toG⟩ (xtok_cons (xp_own (PySem.W.mg_of X G xa_TooMany) (PySem.W.mg_of X G xa_NoRule) (by decide) xi_NoRule xt_NoRule xs_NoRule xr_NoRule pp_TooMany_NoRule) ⟨_, X_TooMany.toG⟩ (xtok_cons (xp_own (PySem.W.mg_of X G xa_TooMany) (PySem.W.mg_of X G xa_Unlike) (by decide) xi_Unlike xt_Unlike xs_Unlike xr_Unlike pp_TooMany_Unlike) ⟨_, X_TooMany.toG⟩ (xtok_cons (xp_own (PySem.W.mg_of X G xa_TooMany) (PySem.W.mg_of X G xa_TooMany) (by decide) xi_TooMany xt_TooMany xs_TooMany xr_TooMany pp_TooMany_TooMany) ⟨_, X_TooMany.toG⟩ (xtok_cons (xp_own (PySem.W.mg_of X G xa_TooMany) (PySem.W.mg_of X G xa_NoName) (by decide) xi_NoName xt_NoName xs_NoName xr_NoName pp_TooMany_NoName) ⟨_, X_TooMany.toG⟩ (xtok_cons (xp_val (PySem.W.mg_of X G xa_TooMany) (PySem.W.mg_none_of X G z_ValueError) y3 pp_TooMany_ValueError) ⟨_, X_TooMany.toG⟩ (xtok_cons (xp_own (PySem.W.mg_of X G xa_NoName) (PySem.W.mg_of X G xa_CutError) (by decide) xi_CutError xt_CutError xs_CutError xr_CutError pp_NoName_CutError) ⟨_, X_NoName.toG⟩ (xtok_cons (xp_own (PySem.W.mg_of X G xa_NoName) (PySem.W.mg_of X G xa_NoRow) (by decide) xi_NoRow xt_NoRow xs_NoRow xr_NoRow pp_NoName_NoRow) ⟨_, X_NoName.toG⟩ (xtok_cons (xp_own (PySem.W.mg_of X G xa_NoName) (PySem.W.mg_of X G xa_NoKinds) (by decide) xi_NoKinds xt_NoKinds xs_NoKinds xr_NoKinds pp_NoName_NoKinds) ⟨_, X_NoName.toG⟩ (xtok_cons (xp_own (PySem.W.mg_of X G xa_NoName) (PySem.W.mg_of X G xa_NoBook) (by decide) xi_NoBook xt_NoBook xs_NoBook xr_NoBook pp_NoName_NoBook) ⟨_, X_NoName.toG⟩ (xtok_cons (xp_own (PySem.W.mg_of X G xa_NoName) (PySem.W.mg_of X G xa_NoText) (by decide) xi_NoText xt_NoText xs_NoText xr_NoText pp_NoName_NoText) ⟨_, X_NoName.toG⟩ (xtok_cons (xp_own (PySem.W.mg_of X G xa_NoName) (PySem.W.mg_of X G xa_NoPlace) (by decide) xi_NoPlace xt_NoPlace xs_NoPlace xr_NoPlace pp_NoName_NoPlace) ⟨_, X_NoName.toG⟩ (xtok_cons (xp_own (PySem.W.mg_of X G xa_NoName) (PySem.W.mg_of X G xa_NoSide) (by decide) xi_NoSide xt_NoSide xs_NoSide xr_NoSide pp_NoName_NoSide) ⟨_, X_NoName.toG⟩ (xtok_cons (xp_own (PySem.W.mg_of X G xa_NoName) (PySem.W.mg_of X G xa_NoStand) (by decide) xi_NoStand xt_NoStand xs_NoStand xr_NoStand pp_NoName_NoStand) ⟨_, X_NoName.toG⟩ (xtok_cons (xp_own (PySem.W.mg_of X G xa_NoName) (PySem.W.mg_of X G xa_NoSnippet) (by decide) xi_NoSnippet xt_NoSnippet xs_NoSnippet xr_NoSnippet pp_NoName_NoSnippet) ⟨_, X_NoName.toG⟩ (xtok_cons (xp_own (PySem.W.mg_of X G xa_NoName) (PySem.W.mg_of X G xa_NoCount) (by decide) xi_NoCount xt_NoCount xs_NoCount xr_NoCount pp_NoName_NoCount) ⟨_, X_NoName.toG⟩ (xtok_cons (xp_own (PySem.W.mg_of X G xa_NoName) (PySem.W.mg_of X G xa_NoChange) (by decide) xi_NoChange xt_NoChange xs_NoChange xr_NoChange pp_NoName_NoChange) ⟨_, X_NoName.toG⟩ (xtok_cons (xp_own (PySem.W.mg_of X G xa_NoName) (PySem.W.mg_of X G xa_Ended) (by decide) xi_Ended xt_Ended xs_Ended xr_Ended pp_NoName_Ended) ⟨_, X_NoName.toG⟩ (xtok_cons (xp_own (PySem.W.mg_of X G xa_NoName) (PySem.W.mg_of X G xa_NoRule) (by decide) xi_NoRule xt_NoRule xs_NoRule xr_NoRule pp_NoName_NoRule) ⟨_, X_NoName.toG⟩ (xtok_cons (xp_own (PySem.W.mg_of X G xa_NoName) (PySem.W.mg_of X G xa_Unlike) (by decide) xi_Unlike xt_Unlike xs_Unlike xr_Unlike pp_NoName_Unlike) ⟨_, X_NoName.toG⟩ (xtok_cons (xp_own (PySem.W.mg_of X G xa_NoName) (PySem.W.mg_of X G xa_TooMany) (by decide) xi_TooMany xt_TooMany xs_TooMany xr_TooMany pp_NoName_TooMany) ⟨_, X_NoName.toG⟩ (xtok_cons (xp_own (PySem.W.mg_of X G xa_NoName) (PySem.W.mg_of X G xa_NoName) (by decide) xi_NoName xt_NoName xs_NoName xr_NoName pp_NoName_NoName) ⟨_, X_NoName.toG⟩ (xtok_cons (xp_val (PySem.W.mg_of X G xa_NoName) (PySem.W.mg_none_of X G z_ValueError) y3 pp_NoName_ValueError) ⟨_, X_NoName.toG⟩ xtok_nil)))))))))))))))))))))))))))))))))))))))))))))))))))))))))))))))))))))))))))))))))))))))))))))))))))))))))))))))))))))))))))))))))))))))))))))))))))))))))))))))))))))))))))))))))))))))))))))))))))))))))))))))))))))))))))))))))))))))))))))))))))))))))))))))⟩
  have F0 := fun_mk (st := s__law_cell_at) l0 c0 k0
  have F1 := fun_mk (st := s__law_text) l1 c1 k1
  have F2 := fun_mk (st := s__law_made_more) l2 c2 k2
  have F3 := fun_mk (st := s__law_made) l3 c3 k3
  have F4 := fun_mk (st := s__law_marks) l4 c4 k4
  have F5 := fun_mk (st := s__law_row) l5 c5 k5
  have F6 := fun_mk (st := s_law) l6 c6 k6
  refine ⟨PySem.W.fnOf "law" "law" (defArgs s_law) (defBody s_law) (defScope s_law) .none kV6 dc6 pm6 an6 cd6 ct6, fun s v => .of_eq rfl, fun base _ _ => ?_⟩
  have FI_NoRow := fun_mk (st := si_NoRow) il_NoRow iq_NoRow iw_NoRow
  have I_NoRow : ∃ C, XI P w K mg base "NoRow" "row" C := ⟨C_NoRow, PySem.W.mg_of X G xa_NoRow, ⟨⟨_, _, _, _, _, _, _, _, _, _, _, _, _, _, _, ol_NoRow, ob_NoRow⟩, os_NoRow, xs_NoRow, xt_NoRow, xk_NoRow⟩, on_NoRow, _, _, _, oi_NoRow, ot_NoRow, oki_NoRow Y FI_NoRow, FI_NoRow.binds (ps := ["self", "row"]) fun _ _ _ _ _ _ us hl => match us, hl with | [_, _], _ => rfl⟩
  have C0 : Callee P w K mg base 1 "_law_cell_at" 2 m__law_cell_at := callee_mk F0 (PySem.W.mg_of X G a0) (F0.binds (ps := ["_law_script", "_law_k"]) fun _ _ _ _ _ _ us hl => match us, hl with | [_, _], _ => rfl) (ok__law_cell_at Y F0)
  have C1 : Callee P w K mg base 1 "_law_text" 1 m__law_text := callee_mk F1 (PySem.W.mg_of X G a1) (F1.binds (ps := ["_law_cell"]) fun _ _ _ _ _ _ us hl => match us, hl with | [_], _ => rfl) (ok__law_text Y F1)
  have C2 : Callee P w K mg base 3 "_law_made_more" 3 m__law_made_more := callee_mk F2 (PySem.W.mg_of X G a2) (F2.binds (ps := ["_law_kind", "_law_text_here", "_law_row_here"]) fun _ _ _ _ _ _ us hl => match us, hl with | [_, _, _], _ => rfl) (ok__law_made_more Y F2 I_NoRow)
  have C3 : Callee P w K mg base 4 "_law_made" 3 m__law_made := callee_mk F3 (PySem.W.mg_of X G a3) (F3.binds (ps := ["_law_kind", "_law_text_here", "_law_row_here"]) fun _ _ _ _ _ _ us hl => match us, hl with | [_, _, _], _ => rfl) (ok__law_made Y F3 C2)
  have C4 : Callee P w K mg base 5 "_law_marks" 3 m__law_marks := callee_mk F4 (PySem.W.mg_of X G a4) (F4.binds (ps := ["_law_kind", "_law_text_here", "_law_row_here"]) fun _ _ _ _ _ _ us hl => match us, hl with | [_, _, _], _ => rfl) (ok__law_marks Y F4 C3)
  have C5 : Callee P w K mg base 3 "_law_row" 1 m__law_row := callee_mk F5 (PySem.W.mg_of X G a5) (F5.binds (ps := ["_law_row_here"]) fun _ _ _ _ _ _ us hl => match us, hl with | [_], _ => rfl) (ok__law_row Y F5 I_NoRow)
  exact law_fn (ok_law (P := P) (w := w) (base := base) Y F6 C0 C4 C1 C5) law_true
end TT
open PySem PySem.W PyProof.Rows
set_option maxHeartbeats 0 in
theorem PySem.Challenge.cw_cutreach_k10_refusals_made_holds : PySem.Challenge.rw_cutreach_k10_refusals_made.Holds := by
  w_on; o_law; k_head; (case hw => w_witness2)
  k_fill
  refine L2.walk_of (l := PySem.Challenge.rw_cutreach_k10_refusals_made) (n := 63) (k := 6) (x := "_law_script") (CX := fun w => L2.CX PySem.Challenge.pw_cutreach_k10_refusals_made w) (sp := fun w => TT.spLaw _) rfl (by decide) rfl ⟨rfl, by decide, by decide⟩ (fun w h Y => PySem.W.kIn_of Y) ?F (fun _ _ a ns hl _ hS => ⟨a, ns, rfl, hS, hl, fun _ => rfl⟩) ?hCX
  case hCX =>
    intro w H s e s' h
    obtain ⟨_, _, _, _, _, _, _, _, _, _, _, _, z⟩ := h
    exact z.elim
  case F =>
    intro w mg fa h KX G hmg
    refine' TT.all_mk KX G hmg ?a0 ?l0 ?c0 ?k0 ?a1 ?l1 ?c1 ?k1 ?a2 ?l2 ?c2 ?k2 ?a3 ?l3 ?c3 ?k3 ?a4 ?l4 ?c4 ?k4 ?a5 ?l5 ?c5 ?k5 ?a6 ?l6 ?c6 ?k6 ?z_ValueError ?z_isinstance ?z_len ?z_max ?z_min ?z_range ?xa_CutError ?xt_CutError ?xs_CutError ?xi_CutError ?xr_CutError ?xa_NoRow ?xt_NoRow ?xs_NoRow ?xk_NoRow ?ol_NoRow ?ob_NoRow ?os_NoRow ?on_NoRow ?oi_NoRow ?ot_NoRow ?il_NoRow ?iq_NoRow ?iw_NoRow ?bg_NoRow ?br_NoRow ?bf_NoRow ?xe1_NoRow ?xe2_NoRow ?xe3_NoRow ?xe4_NoRow ?xe5_NoRow ?xi_NoRow ?xr_NoRow ?xa_NoKinds ?xt_NoKinds ?xs_NoKinds ?xk_NoKinds ?xb_NoKinds ?xe1_NoKinds ?xe2_NoKinds ?xe3_NoKinds ?xe4_NoKinds ?xe5_NoKinds ?xi_NoKinds ?xr_NoKinds ?xa_NoBook ?xt_NoBook ?xs_NoBook ?xk_NoBook ?xb_NoBook ?xe1_NoBook ?xe2_NoBook ?xe3_NoBook ?xe4_NoBook ?xe5_NoBook ?xi_NoBook ?xr_NoBook ?xa_NoText ?xt_NoText ?xs_NoText ?xk_NoText ?xb_NoText ?xe1_NoText ?xe2_NoText ?xe3_NoText ?xe4_NoText ?xe5_NoText ?xi_NoText ?xr_NoText ?xa_NoPlace ?xt_NoPlace ?xs_NoPlace ?xk_NoPlace ?xb_NoPlace ?xe1_NoPlace ?xe2_NoPlace ?xe3_NoPlace ?xe4_NoPlace ?xe5_NoPlace ?xi_NoPlace ?xr_NoPlace ?xa_NoSide ?xt_NoSide ?xs_NoSide ?xk_NoSide ?xb_NoSide ?xe1_NoSide ?xe2_NoSide ?xe3_NoSide ?xe4_NoSide ?xe5_NoSide ?xi_NoSide ?xr_NoSide ?xa_NoStand ?xt_NoStand ?xs_NoStand ?xk_NoStand ?xb_NoStand ?xe1_NoStand ?xe2_NoStand ?xe3_NoStand ?xe4_NoStand ?xe5_NoStand ?xi_NoStand ?xr_NoStand ?xa_NoSnippet ?xt_NoSnippet ?xs_NoSnippet ?xk_NoSnippet ?xb_NoSnippet ?xe1_NoSnippet ?xe2_NoSnippet ?xe3_NoSnippet ?xe4_NoSnippet ?xe5_NoSnippet ?xi_NoSnippet ?xr_NoSnippet ?xa_NoCount ?xt_NoCount ?xs_NoCount ?xk_NoCount ?xb_NoCount ?xe1_NoCount ?xe2_NoCount ?xe3_NoCount ?xe4_NoCount ?xe5_NoCount ?xi_NoCount ?xr_NoCount ?xa_NoChange ?xt_NoChange ?xs_NoChange ?xk_NoChange ?xb_NoChange ?xe1_NoChange ?xe2_NoChange ?xe3_NoChange ?xe4_NoChange ?xe5_NoChange ?xi_NoChange ?xr_NoChange ?xa_Ended ?xt_Ended ?xs_Ended ?xk_Ended ?xb_Ended ?xe1_Ended ?xe2_Ended ?xe3_Ended ?xe4_Ended ?xe5_Ended ?xi_Ended ?xr_Ended ?xa_NoRule ?xt_NoRule ?xs_NoRule ?xk_NoRule ?xb_NoRule ?xe1_NoRule ?xe2_NoRule ?xe3_NoRule ?xe4_NoRule ?xe5_NoRule ?xi_NoRule ?xr_NoRule ?xa_Unlike ?xt_Unlike ?xs_Unlike ?xk_Unlike ?xb_Unlike ?xe1_Unlike ?xe2_Unlike ?xe3_Unlike ?xe4_Unlike ?xe5_Unlike ?xi_Unlike ?xr_Unlike ?xa_TooMany ?xt_TooMany ?xs_TooMany ?xk_TooMany ?xb_TooMany ?xe1_TooMany ?xe2_TooMany ?xe3_TooMany ?xe4_TooMany ?xe5_TooMany ?xi_TooMany ?xr_TooMany ?xa_NoName ?xt_NoName ?xs_NoName ?xk_NoName ?xb_NoName ?xe1_NoName ?xe2_NoName ?xe3_NoName ?xe4_NoName ?xe5_NoName ?xi_NoName ?xr_NoName ?y1 ?y2 ?y3 ?pp_NoRow_CutError ?pp_NoRow_NoRow ?pp_NoRow_NoKinds ?pp_NoRow_NoBook ?pp_NoRow_NoText ?pp_NoRow_NoPlace ?pp_NoRow_NoSide ?pp_NoRow_NoStand ?pp_NoRow_NoSnippet ?pp_NoRow_NoCount ?pp_NoRow_NoChange ?pp_NoRow_Ended ?pp_NoRow_NoRule ?pp_NoRow_Unlike ?pp_NoRow_TooMany ?pp_NoRow_NoName ?pp_NoRow_ValueError ?pp_NoKinds_CutError ?pp_NoKinds_NoRow ?pp_NoKinds_NoKinds ?pp_NoKinds_NoBook ?pp_NoKinds_NoText ?pp_NoKinds_NoPlace ?pp_NoKinds_NoSide ?pp_NoKinds_NoStand ?pp_NoKinds_NoSnippet ?pp_NoKinds_NoCount ?pp_NoKinds_NoChange ?pp_NoKinds_Ended ?pp_NoKinds_NoRule ?pp_NoKinds_Unlike ?pp_NoKinds_TooMany ?pp_NoKinds_NoName ?pp_NoKinds_ValueError ?pp_NoBook_CutError ?pp_NoBook_NoRow ?pp_NoBook_NoKinds ?pp_NoBook_NoBook ?pp_NoBook_NoText ?pp_NoBook_NoPlace ?pp_NoBook_NoSide ?pp_NoBook_NoStand ?pp_NoBook_NoSnippet ?pp_NoBook_NoCount ?pp_NoBook_NoChange ?pp_NoBook_Ended ?pp_NoBook_NoRule ?pp_NoBook_Unlike ?pp_NoBook_TooMany ?pp_NoBook_NoName ?pp_NoBook_ValueError ?pp_NoText_CutError ?pp_NoText_NoRow ?pp_NoText_NoKinds ?pp_NoText_NoBook ?pp_NoText_NoText ?pp_NoText_NoPlace ?pp_NoText_NoSide ?pp_NoText_NoStand ?pp_NoText_NoSnippet ?pp_NoText_NoCount ?pp_NoText_NoChange ?pp_NoText_Ended ?pp_NoText_NoRule ?pp_NoText_Unlike ?pp_NoText_TooMany ?pp_NoText_NoName ?pp_NoText_ValueError ?pp_NoPlace_CutError ?pp_NoPlace_NoRow ?pp_NoPlace_NoKinds ?pp_NoPlace_NoBook ?pp_NoPlace_NoText ?pp_NoPlace_NoPlace ?pp_NoPlace_NoSide ?pp_NoPlace_NoStand ?pp_NoPlace_NoSnippet ?pp_NoPlace_NoCount ?pp_NoPlace_NoChange ?pp_NoPlace_Ended ?pp_NoPlace_NoRule ?pp_NoPlace_Unlike ?pp_NoPlace_TooMany ?pp_NoPlace_NoName ?pp_NoPlace_ValueError ?pp_NoSide_CutError ?pp_NoSide_NoRow ?pp_NoSide_NoKinds ?pp_NoSide_NoBook ?pp_NoSide_NoText ?pp_NoSide_NoPlace ?pp_NoSide_NoSide ?pp_NoSide_NoStand ?pp_NoSide_NoSnippet ?pp_NoSide_NoCount ?pp_NoSide_NoChange ?pp_NoSide_Ended ?pp_NoSide_NoRule ?pp_NoSide_Unlike ?pp_NoSide_TooMany ?pp_NoSide_NoName ?pp_NoSide_ValueError ?pp_NoStand_CutError ?pp_NoStand_NoRow ?pp_NoStand_NoKinds ?pp_NoStand_NoBook ?pp_NoStand_NoText ?pp_NoStand_NoPlace ?pp_NoStand_NoSide ?pp_NoStand_NoStand ?pp_NoStand_NoSnippet ?pp_NoStand_NoCount ?pp_NoStand_NoChange ?pp_NoStand_Ended ?pp_NoStand_NoRule ?pp_NoStand_Unlike ?pp_NoStand_TooMany ?pp_NoStand_NoName ?pp_NoStand_ValueError ?pp_NoSnippet_CutError ?pp_NoSnippet_NoRow ?pp_NoSnippet_NoKinds ?pp_NoSnippet_NoBook ?pp_NoSnippet_NoText ?pp_NoSnippet_NoPlace ?pp_NoSnippet_NoSide ?pp_NoSnippet_NoStand ?pp_NoSnippet_NoSnippet ?pp_NoSnippet_NoCount ?pp_NoSnippet_NoChange ?pp_NoSnippet_Ended ?pp_NoSnippet_NoRule ?pp_NoSnippet_Unlike ?pp_NoSnippet_TooMany ?pp_NoSnippet_NoName ?pp_NoSnippet_ValueError ?pp_NoCount_CutError ?pp_NoCount_NoRow ?pp_NoCount_NoKinds ?pp_NoCount_NoBook ?pp_NoCount_NoText ?pp_NoCount_NoPlace ?pp_NoCount_NoSide ?pp_NoCount_NoStand ?pp_NoCount_NoSnippet ?pp_NoCount_NoCount ?pp_NoCount_NoChange ?pp_NoCount_Ended ?pp_NoCount_NoRule ?pp_NoCount_Unlike ?pp_NoCount_TooMany ?pp_NoCount_NoName ?pp_NoCount_ValueError ?pp_NoChange_CutError ?pp_NoChange_NoRow ?pp_NoChange_NoKinds ?pp_NoChange_NoBook ?pp_NoChange_NoText ?pp_NoChange_NoPlace ?pp_NoChange_NoSide ?pp_NoChange_NoStand ?pp_NoChange_NoSnippet ?pp_NoChange_NoCount ?pp_NoChange_NoChange ?pp_NoChange_Ended ?pp_NoChange_NoRule ?pp_NoChange_Unlike ?pp_NoChange_TooMany ?pp_NoChange_NoName ?pp_NoChange_ValueError ?pp_Ended_CutError ?pp_Ended_NoRow ?pp_Ended_NoKinds ?pp_Ended_NoBook ?pp_Ended_NoText ?pp_Ended_NoPlace ?pp_Ended_NoSide ?pp_Ended_NoStand ?pp_Ended_NoSnippet ?pp_Ended_NoCount ?pp_Ended_NoChange ?pp_Ended_Ended ?pp_Ended_NoRule ?pp_Ended_Unlike ?pp_Ended_TooMany ?pp_Ended_NoName ?pp_Ended_ValueError ?pp_NoRule_CutError ?pp_NoRule_NoRow ?pp_NoRule_NoKinds ?pp_NoRule_NoBook ?pp_NoRule_NoText ?pp_NoRule_NoPlace ?pp_NoRule_NoSide ?pp_NoRule_NoStand ?pp_NoRule_NoSnippet ?pp_NoRule_NoCount ?pp_NoRule_NoChange ?pp_NoRule_Ended ?pp_NoRule_NoRule ?pp_NoRule_Unlike ?pp_NoRule_TooMany ?pp_NoRule_NoName ?pp_NoRule_ValueError ?pp_Unlike_CutError ?pp_Unlike_NoRow ?pp_Unlike_NoKinds ?pp_Unlike_NoBook ?pp_Unlike_NoText ?pp_Unlike_NoPlace ?pp_Unlike_NoSide ?pp_Unlike_NoStand ?pp_Unlike_NoSnippet ?pp_Unlike_NoCount ?pp_Unlike_NoChange ?pp_Unlike_Ended ?pp_Unlike_NoRule ?pp_Unlike_Unlike ?pp_Unlike_TooMany ?pp_Unlike_NoName ?pp_Unlike_ValueError ?pp_TooMany_CutError ?pp_TooMany_NoRow ?pp_TooMany_NoKinds ?pp_TooMany_NoBook ?pp_TooMany_NoText ?pp_TooMany_NoPlace ?pp_TooMany_NoSide ?pp_TooMany_NoStand ?pp_TooMany_NoSnippet ?pp_TooMany_NoCount ?pp_TooMany_NoChange ?pp_TooMany_Ended ?pp_TooMany_NoRule ?pp_TooMany_Unlike ?pp_TooMany_TooMany ?pp_TooMany_NoName ?pp_TooMany_ValueError ?pp_NoName_CutError ?pp_NoName_NoRow ?pp_NoName_NoKinds ?pp_NoName_NoBook ?pp_NoName_NoText ?pp_NoName_NoPlace ?pp_NoName_NoSide ?pp_NoName_NoStand ?pp_NoName_NoSnippet ?pp_NoName_NoCount ?pp_NoName_NoChange ?pp_NoName_Ended ?pp_NoName_NoRule ?pp_NoName_Unlike ?pp_NoName_TooMany ?pp_NoName_NoName ?pp_NoName_ValueError
    (case a0 => k_is)
    (case l0 => k_is)
    (case c0 => k_is)
    (case k0 => k_is)
    (case a1 => k_is)
    (case l1 => k_is)
    (case c1 => k_is)
    (case k1 => k_is)
    (case a2 => k_is)
    (case l2 => k_is)
    (case c2 => k_is)
    (case k2 => k_is)
    (case a3 => k_is)
    (case l3 => k_is)
    (case c3 => k_is)
    (case k3 => k_is)
    (case a4 => k_is)
    (case l4 => k_is)
    (case c4 => k_is)
    (case k4 => k_is)
    (case a5 => k_is)
    (case l5 => k_is)
    (case c5 => k_is)
    (case k5 => k_is)
    (case a6 => k_is)
    (case l6 => k_is)
    (case c6 => k_is)
    (case k6 => k_is)
    (case z_ValueError => k_is)
    (case z_isinstance => k_is)
    (case z_len => k_is)
    (case z_max => k_is)
    (case z_min => k_is)
    (case z_range => k_is)
    (case xa_CutError => k_is)
    (case xt_CutError => k_is)
    (case xs_CutError => k_is)
    (case xi_CutError => k_is)
    (case xr_CutError => k_is)
    (case xa_NoRow => k_is)
    (case xt_NoRow => k_is)
    (case xs_NoRow => k_is)
    (case xk_NoRow => k_is)
    (case ol_NoRow => k_is)
    (case ob_NoRow => exact (by decide +kernel))
    (case os_NoRow => k_is)
    (case on_NoRow => k_is)
    (case oi_NoRow => k_is)
    (case ot_NoRow => k_is)
    (case il_NoRow => k_is)
    (case iq_NoRow => k_is)
    (case iw_NoRow => k_is)
    (case bg_NoRow => k_is)
    (case br_NoRow => k_is)
    (case bf_NoRow => k_is)
    (case xe1_NoRow => k_is)
    (case xe2_NoRow => k_is)
    (case xe3_NoRow => k_is)
    (case xe4_NoRow => k_is)
    (case xe5_NoRow => k_is)
    (case xi_NoRow => k_is)
    (case xr_NoRow => k_is)
    (case xa_NoKinds => k_is)
    (case xt_NoKinds => k_is)
    (case xs_NoKinds => k_is)
    (case xk_NoKinds => k_is)
    (case xb_NoKinds => k_exc)
    (case xe1_NoKinds => k_is)
    (case xe2_NoKinds => k_is)
    (case xe3_NoKinds => k_is)
    (case xe4_NoKinds => k_is)
    (case xe5_NoKinds => k_is)
    (case xi_NoKinds => k_is)
    (case xr_NoKinds => k_is)
    (case xa_NoBook => k_is)
    (case xt_NoBook => k_is)
    (case xs_NoBook => k_is)
    (case xk_NoBook => k_is)
    (case xb_NoBook => k_exc)
    (case xe1_NoBook => k_is)
    (case xe2_NoBook => k_is)
    (case xe3_NoBook => k_is)
    (case xe4_NoBook => k_is)
    (case xe5_NoBook => k_is)
    (case xi_NoBook => k_is)
    (case xr_NoBook => k_is)
    (case xa_NoText => k_is)
    (case xt_NoText => k_is)
    (case xs_NoText => k_is)
    (case xk_NoText => k_is)
    (case xb_NoText => k_exc)
    (case xe1_NoText => k_is)
    (case xe2_NoText => k_is)
    (case xe3_NoText => k_is)
    (case xe4_NoText => k_is)
    (case xe5_NoText => k_is)
    (case xi_NoText => k_is)
    (case xr_NoText => k_is)
    (case xa_NoPlace => k_is)
    (case xt_NoPlace => k_is)
    (case xs_NoPlace => k_is)
    (case xk_NoPlace => k_is)
    (case xb_NoPlace => k_exc)
    (case xe1_NoPlace => k_is)
    (case xe2_NoPlace => k_is)
    (case xe3_NoPlace => k_is)
    (case xe4_NoPlace => k_is)
    (case xe5_NoPlace => k_is)
    (case xi_NoPlace => k_is)
    (case xr_NoPlace => k_is)
    (case xa_NoSide => k_is)
    (case xt_NoSide => k_is)
    (case xs_NoSide => k_is)
    (case xk_NoSide => k_is)
    (case xb_NoSide => k_exc)
    (case xe1_NoSide => k_is)
    (case xe2_NoSide => k_is)
    (case xe3_NoSide => k_is)
    (case xe4_NoSide => k_is)
    (case xe5_NoSide => k_is)
    (case xi_NoSide => k_is)
    (case xr_NoSide => k_is)
    (case xa_NoStand => k_is)
    (case xt_NoStand => k_is)
    (case xs_NoStand => k_is)
    (case xk_NoStand => k_is)
    (case xb_NoStand => k_exc)
    (case xe1_NoStand => k_is)
    (case xe2_NoStand => k_is)
    (case xe3_NoStand => k_is)
    (case xe4_NoStand => k_is)
    (case xe5_NoStand => k_is)
    (case xi_NoStand => k_is)
    (case xr_NoStand => k_is)
    (case xa_NoSnippet => k_is)
    (case xt_NoSnippet => k_is)
    (case xs_NoSnippet => k_is)
    (case xk_NoSnippet => k_is)
    (case xb_NoSnippet => k_exc)
    (case xe1_NoSnippet => k_is)
    (case xe2_NoSnippet => k_is)
    (case xe3_NoSnippet => k_is)
    (case xe4_NoSnippet => k_is)
    (case xe5_NoSnippet => k_is)
    (case xi_NoSnippet => k_is)
    (case xr_NoSnippet => k_is)
    (case xa_NoCount => k_is)
    (case xt_NoCount => k_is)
    (case xs_NoCount => k_is)
    (case xk_NoCount => k_is)
    (case xb_NoCount => k_exc)
    (case xe1_NoCount => k_is)
    (case xe2_NoCount => k_is)
    (case xe3_NoCount => k_is)
    (case xe4_NoCount => k_is)
    (case xe5_NoCount => k_is)
    (case xi_NoCount => k_is)
    (case xr_NoCount => k_is)
    (case xa_NoChange => k_is)
    (case xt_NoChange => k_is)
    (case xs_NoChange => k_is)
    (case xk_NoChange => k_is)
    (case xb_NoChange => k_exc)
    (case xe1_NoChange => k_is)
    (case xe2_NoChange => k_is)
    (case xe3_NoChange => k_is)
    (case xe4_NoChange => k_is)
    (case xe5_NoChange => k_is)
    (case xi_NoChange => k_is)
    (case xr_NoChange => k_is)
    (case xa_Ended => k_is)
    (case xt_Ended => k_is)
    (case xs_Ended => k_is)
    (case xk_Ended => k_is)
    (case xb_Ended => k_exc)
    (case xe1_Ended => k_is)
    (case xe2_Ended => k_is)
    (case xe3_Ended => k_is)
    (case xe4_Ended => k_is)
    (case xe5_Ended => k_is)
    (case xi_Ended => k_is)
    (case xr_Ended => k_is)
    (case xa_NoRule => k_is)
    (case xt_NoRule => k_is)
    (case xs_NoRule => k_is)
    (case xk_NoRule => k_is)
    (case xb_NoRule => k_exc)
    (case xe1_NoRule => k_is)
    (case xe2_NoRule => k_is)
    (case xe3_NoRule => k_is)
    (case xe4_NoRule => k_is)
    (case xe5_NoRule => k_is)
    (case xi_NoRule => k_is)
    (case xr_NoRule => k_is)
    (case xa_Unlike => k_is)
    (case xt_Unlike => k_is)
    (case xs_Unlike => k_is)
    (case xk_Unlike => k_is)
    (case xb_Unlike => k_exc)
    (case xe1_Unlike => k_is)
    (case xe2_Unlike => k_is)
    (case xe3_Unlike => k_is)
    (case xe4_Unlike => k_is)
    (case xe5_Unlike => k_is)
    (case xi_Unlike => k_is)
    (case xr_Unlike => k_is)
    (case xa_TooMany => k_is)
    (case xt_TooMany => k_is)
    (case xs_TooMany => k_is)
    (case xk_TooMany => k_is)
    (case xb_TooMany => k_exc)
    (case xe1_TooMany => k_is)
    (case xe2_TooMany => k_is)
    (case xe3_TooMany => k_is)
    (case xe4_TooMany => k_is)
    (case xe5_TooMany => k_is)
    (case xi_TooMany => k_is)
    (case xr_TooMany => k_is)
    (case xa_NoName => k_is)
    (case xt_NoName => k_is)
    (case xs_NoName => k_is)
    (case xk_NoName => k_is)
    (case xb_NoName => k_exc)
    (case xe1_NoName => k_is)
    (case xe2_NoName => k_is)
    (case xe3_NoName => k_is)
    (case xe4_NoName => k_is)
    (case xe5_NoName => k_is)
    (case xi_NoName => k_is)
    (case xr_NoName => k_is)
    (case y1 => k_is)
    (case y2 => k_is)
    (case y3 => k_is)
    (case pp_NoRow_CutError => k_is)
    (case pp_NoRow_NoRow => k_is)
    (case pp_NoRow_NoKinds => k_is)
    (case pp_NoRow_NoBook => k_is)
    (case pp_NoRow_NoText => k_is)
    (case pp_NoRow_NoPlace => k_is)
    (case pp_NoRow_NoSide => k_is)
    (case pp_NoRow_NoStand => k_is)
    (case pp_NoRow_NoSnippet => k_is)
    (case pp_NoRow_NoCount => k_is)
    (case pp_NoRow_NoChange => k_is)
    (case pp_NoRow_Ended => k_is)
    (case pp_NoRow_NoRule => k_is)
    (case pp_NoRow_Unlike => k_is)
    (case pp_NoRow_TooMany => k_is)
    (case pp_NoRow_NoName => k_is)
    (case pp_NoRow_ValueError => k_is)
    (case pp_NoKinds_CutError => k_is)
    (case pp_NoKinds_NoRow => k_is)
    (case pp_NoKinds_NoKinds => k_is)
    (case pp_NoKinds_NoBook => k_is)
    (case pp_NoKinds_NoText => k_is)
    (case pp_NoKinds_NoPlace => k_is)
    (case pp_NoKinds_NoSide => k_is)
    (case pp_NoKinds_NoStand => k_is)
    (case pp_NoKinds_NoSnippet => k_is)
    (case pp_NoKinds_NoCount => k_is)
    (case pp_NoKinds_NoChange => k_is)
    (case pp_NoKinds_Ended => k_is)
    (case pp_NoKinds_NoRule => k_is)
    (case pp_NoKinds_Unlike => k_is)
    (case pp_NoKinds_TooMany => k_is)
    (case pp_NoKinds_NoName => k_is)
    (case pp_NoKinds_ValueError => k_is)
    (case pp_NoBook_CutError => k_is)
    (case pp_NoBook_NoRow => k_is)
    (case pp_NoBook_NoKinds => k_is)
    (case pp_NoBook_NoBook => k_is)
    (case pp_NoBook_NoText => k_is)
    (case pp_NoBook_NoPlace => k_is)
    (case pp_NoBook_NoSide => k_is)
    (case pp_NoBook_NoStand => k_is)
    (case pp_NoBook_NoSnippet => k_is)
    (case pp_NoBook_NoCount => k_is)
    (case pp_NoBook_NoChange => k_is)
    (case pp_NoBook_Ended => k_is)
    (case pp_NoBook_NoRule => k_is)
    (case pp_NoBook_Unlike => k_is)
    (case pp_NoBook_TooMany => k_is)
    (case pp_NoBook_NoName => k_is)
    (case pp_NoBook_ValueError => k_is)
    (case pp_NoText_CutError => k_is)
    (case pp_NoText_NoRow => k_is)
    (case pp_NoText_NoKinds => k_is)
    (case pp_NoText_NoBook => k_is)
    (case pp_NoText_NoText => k_is)
    (case pp_NoText_NoPlace => k_is)
    (case pp_NoText_NoSide => k_is)
    (case pp_NoText_NoStand => k_is)
    (case pp_NoText_NoSnippet => k_is)
    (case pp_NoText_NoCount => k_is)
    (case pp_NoText_NoChange => k_is)
    (case pp_NoText_Ended => k_is)
    (case pp_NoText_NoRule => k_is)
    (case pp_NoText_Unlike => k_is)
    (case pp_NoText_TooMany => k_is)
    (case pp_NoText_NoName => k_is)
    (case pp_NoText_ValueError => k_is)
    (case pp_NoPlace_CutError => k_is)
    (case pp_NoPlace_NoRow => k_is)
    (case pp_NoPlace_NoKinds => k_is)
    (case pp_NoPlace_NoBook => k_is)
    (case pp_NoPlace_NoText => k_is)
    (case pp_NoPlace_NoPlace => k_is)
    (case pp_NoPlace_NoSide => k_is)
    (case pp_NoPlace_NoStand => k_is)
    (case pp_NoPlace_NoSnippet => k_is)
    (case pp_NoPlace_NoCount => k_is)
    (case pp_NoPlace_NoChange => k_is)
    (case pp_NoPlace_Ended => k_is)
    (case pp_NoPlace_NoRule => k_is)
    (case pp_NoPlace_Unlike => k_is)
    (case pp_NoPlace_TooMany => k_is)
    (case pp_NoPlace_NoName => k_is)
    (case pp_NoPlace_ValueError => k_is)
    (case pp_NoSide_CutError => k_is)
    (case pp_NoSide_NoRow => k_is)
    (case pp_NoSide_NoKinds => k_is)
    (case pp_NoSide_NoBook => k_is)
    (case pp_NoSide_NoText => k_is)
    (case pp_NoSide_NoPlace => k_is)
    (case pp_NoSide_NoSide => k_is)
    (case pp_NoSide_NoStand => k_is)
    (case pp_NoSide_NoSnippet => k_is)
    (case pp_NoSide_NoCount => k_is)
    (case pp_NoSide_NoChange => k_is)
    (case pp_NoSide_Ended => k_is)
    (case pp_NoSide_NoRule => k_is)
    (case pp_NoSide_Unlike => k_is)
    (case pp_NoSide_TooMany => k_is)
    (case pp_NoSide_NoName => k_is)
    (case pp_NoSide_ValueError => k_is)
    (case pp_NoStand_CutError => k_is)
    (case pp_NoStand_NoRow => k_is)
    (case pp_NoStand_NoKinds => k_is)
    (case pp_NoStand_NoBook => k_is)
    (case pp_NoStand_NoText => k_is)
    (case pp_NoStand_NoPlace => k_is)
    (case pp_NoStand_NoSide => k_is)
    (case pp_NoStand_NoStand => k_is)
    (case pp_NoStand_NoSnippet => k_is)
    (case pp_NoStand_NoCount => k_is)
    (case pp_NoStand_NoChange => k_is)
    (case pp_NoStand_Ended => k_is)
    (case pp_NoStand_NoRule => k_is)
    (case pp_NoStand_Unlike => k_is)
    (case pp_NoStand_TooMany => k_is)
    (case pp_NoStand_NoName => k_is)
    (case pp_NoStand_ValueError => k_is)
    (case pp_NoSnippet_CutError => k_is)
    (case pp_NoSnippet_NoRow => k_is)
    (case pp_NoSnippet_NoKinds => k_is)
    (case pp_NoSnippet_NoBook => k_is)
    (case pp_NoSnippet_NoText => k_is)
    (case pp_NoSnippet_NoPlace => k_is)
    (case pp_NoSnippet_NoSide => k_is)
    (case pp_NoSnippet_NoStand => k_is)
    (case pp_NoSnippet_NoSnippet => k_is)
    (case pp_NoSnippet_NoCount => k_is)
    (case pp_NoSnippet_NoChange => k_is)
    (case pp_NoSnippet_Ended => k_is)
    (case pp_NoSnippet_NoRule => k_is)
    (case pp_NoSnippet_Unlike => k_is)
    (case pp_NoSnippet_TooMany => k_is)
    (case pp_NoSnippet_NoName => k_is)
    (case pp_NoSnippet_ValueError => k_is)
    (case pp_NoCount_CutError => k_is)
    (case pp_NoCount_NoRow => k_is)
    (case pp_NoCount_NoKinds => k_is)
    (case pp_NoCount_NoBook => k_is)
    (case pp_NoCount_NoText => k_is)
    (case pp_NoCount_NoPlace => k_is)
    (case pp_NoCount_NoSide => k_is)
    (case pp_NoCount_NoStand => k_is)
    (case pp_NoCount_NoSnippet => k_is)
    (case pp_NoCount_NoCount => k_is)
    (case pp_NoCount_NoChange => k_is)
    (case pp_NoCount_Ended => k_is)
    (case pp_NoCount_NoRule => k_is)
    (case pp_NoCount_Unlike => k_is)
    (case pp_NoCount_TooMany => k_is)
    (case pp_NoCount_NoName => k_is)
    (case pp_NoCount_ValueError => k_is)
    (case pp_NoChange_CutError => k_is)
    (case pp_NoChange_NoRow => k_is)
    (case pp_NoChange_NoKinds => k_is)
    (case pp_NoChange_NoBook => k_is)
    (case pp_NoChange_NoText => k_is)
    (case pp_NoChange_NoPlace => k_is)
    (case pp_NoChange_NoSide => k_is)
    (case pp_NoChange_NoStand => k_is)
    (case pp_NoChange_NoSnippet => k_is)
    (case pp_NoChange_NoCount => k_is)
    (case pp_NoChange_NoChange => k_is)
    (case pp_NoChange_Ended => k_is)
    (case pp_NoChange_NoRule => k_is)
    (case pp_NoChange_Unlike => k_is)
    (case pp_NoChange_TooMany => k_is)
    (case pp_NoChange_NoName => k_is)
    (case pp_NoChange_ValueError => k_is)
    (case pp_Ended_CutError => k_is)
    (case pp_Ended_NoRow => k_is)
    (case pp_Ended_NoKinds => k_is)
    (case pp_Ended_NoBook => k_is)
    (case pp_Ended_NoText => k_is)
    (case pp_Ended_NoPlace => k_is)
    (case pp_Ended_NoSide => k_is)
    (case pp_Ended_NoStand => k_is)
    (case pp_Ended_NoSnippet => k_is)
    (case pp_Ended_NoCount => k_is)
    (case pp_Ended_NoChange => k_is)
    (case pp_Ended_Ended => k_is)
    (case pp_Ended_NoRule => k_is)
    (case pp_Ended_Unlike => k_is)
    (case pp_Ended_TooMany => k_is)
    (case pp_Ended_NoName => k_is)
    (case pp_Ended_ValueError => k_is)
    (case pp_NoRule_CutError => k_is)
    (case pp_NoRule_NoRow => k_is)
    (case pp_NoRule_NoKinds => k_is)
    (case pp_NoRule_NoBook => k_is)
    (case pp_NoRule_NoText => k_is)
    (case pp_NoRule_NoPlace => k_is)
    (case pp_NoRule_NoSide => k_is)
    (case pp_NoRule_NoStand => k_is)
    (case pp_NoRule_NoSnippet => k_is)
    (case pp_NoRule_NoCount => k_is)
    (case pp_NoRule_NoChange => k_is)
    (case pp_NoRule_Ended => k_is)
    (case pp_NoRule_NoRule => k_is)
    (case pp_NoRule_Unlike => k_is)
    (case pp_NoRule_TooMany => k_is)
    (case pp_NoRule_NoName => k_is)
    (case pp_NoRule_ValueError => k_is)
    (case pp_Unlike_CutError => k_is)
    (case pp_Unlike_NoRow => k_is)
    (case pp_Unlike_NoKinds => k_is)
    (case pp_Unlike_NoBook => k_is)
    (case pp_Unlike_NoText => k_is)
    (case pp_Unlike_NoPlace => k_is)
    (case pp_Unlike_NoSide => k_is)
    (case pp_Unlike_NoStand => k_is)
    (case pp_Unlike_NoSnippet => k_is)
    (case pp_Unlike_NoCount => k_is)
    (case pp_Unlike_NoChange => k_is)
    (case pp_Unlike_Ended => k_is)
    (case pp_Unlike_NoRule => k_is)
    (case pp_Unlike_Unlike => k_is)
    (case pp_Unlike_TooMany => k_is)
    (case pp_Unlike_NoName => k_is)
    (case pp_Unlike_ValueError => k_is)
    (case pp_TooMany_CutError => k_is)
    (case pp_TooMany_NoRow => k_is)
    (case pp_TooMany_NoKinds => k_is)
    (case pp_TooMany_NoBook => k_is)
    (case pp_TooMany_NoText => k_is)
    (case pp_TooMany_NoPlace => k_is)
    (case pp_TooMany_NoSide => k_is)
    (case pp_TooMany_NoStand => k_is)
    (case pp_TooMany_NoSnippet => k_is)
    (case pp_TooMany_NoCount => k_is)
    (case pp_TooMany_NoChange => k_is)
    (case pp_TooMany_Ended => k_is)
    (case pp_TooMany_NoRule => k_is)
    (case pp_TooMany_Unlike => k_is)
    (case pp_TooMany_TooMany => k_is)
    (case pp_TooMany_NoName => k_is)
    (case pp_TooMany_ValueError => k_is)
    (case pp_NoName_CutError => k_is)
    (case pp_NoName_NoRow => k_is)
    (case pp_NoName_NoKinds => k_is)
    (case pp_NoName_NoBook => k_is)
    (case pp_NoName_NoText => k_is)
    (case pp_NoName_NoPlace => k_is)
    (case pp_NoName_NoSide => k_is)
    (case pp_NoName_NoStand => k_is)
    (case pp_NoName_NoSnippet => k_is)
    (case pp_NoName_NoCount => k_is)
    (case pp_NoName_NoChange => k_is)
    (case pp_NoName_Ended => k_is)
    (case pp_NoName_NoRule => k_is)
    (case pp_NoName_Unlike => k_is)
    (case pp_NoName_TooMany => k_is)
    (case pp_NoName_NoName => k_is)
    (case pp_NoName_ValueError => k_is)

