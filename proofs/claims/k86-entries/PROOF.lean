import PyProof.Rows.All
import Wide.All
import OpenK.AllK
import Wide.FinOn
import HandS.ForMost
import HandS.Deep
import HandS.Conv
import HandS.Wide
import HandS.IsInst
import HandS.TupAny
import KE.KDictDisplayH
import HandS.Iter
import KE.GoesEnum
import HandS.NoneIn
import HandS.Small
import HandS.Words
import PySem.Challenge.RW_whywait_k86_entries
set_option Elab.async false
set_option linter.all false
set_option maxRecDepth 100000
/-! PyA: pure values, a small slot-indexed syntax, its evaluator. No heap. -/
namespace PY
open PySem

abbrev PKey := Sum Int Str

/-- a pure value; a dict by its keys (tuples of ints and texts) and its values -/
inductive PV where
  | non
  | bl (b : Bool)
  | int (i : Int)
  | str (x : Str)
  | tup (xs : List PV)
  | lst (xs : List PV)
  | dct (ks : List (List PKey)) (vs : List PV)
  /-- the script -/
  | scr (ns : List Int)
instance : Inhabited PV := ⟨.non⟩

/-- an exception: its class (a number of one's own), its fields -/
structure Exn where
  cls : Nat
  args : List PV

inductive R (α : Type) where
  | ok (a : α)
  | ex (e : Exn)
  | bad
def R.bind {α β : Type} : R α → (α → R β) → R β
  | .ok a, f => f a
  | .ex e, _ => .ex e
  | .bad, _ => .bad
instance : Monad R where
  pure := .ok
  bind := R.bind
@[simp] theorem R.bind_ok {α β : Type} (a : α) (f : α → R β) : R.bind (.ok a) f = f a := rfl
@[simp] theorem R.bind_ex {α β : Type} (e : Exn) (f : α → R β) : R.bind (.ex e) f = .ex e := rfl
@[simp] theorem R.bind_bad {α β : Type} (f : α → R β) : R.bind .bad f = .bad := rfl
theorem R.bind_eq_ok {α β : Type} {x : R α} {f : α → R β} {b : β} (h : x.bind f = .ok b) : ∃ a, x = .ok a ∧ f a = .ok b := by
  cases x with
  | ok a => exact ⟨a, rfl, h⟩
  | ex e => cases h
  | bad => cases h

/-- the most items of a list, signs of a text -/
abbrev lim : Nat := 16777216

abbrev PEnv := List (Option PV)
def getS (env : PEnv) (i : Nat) : R PV := match env[i]? with
  | some (some v) => .ok v
  | _ => .bad
def wipeP (env : PEnv) : List Nat → PEnv
  | [] => env
  | v :: vs => (wipeP env vs).set v none

inductive Bin where | add | sub | mul | fdiv | mod | pow
  deriving DecidableEq
inductive Cmp where | eq | ne | lt | le | gt | ge | is | isnot | inn | notin
  deriving DecidableEq
/-- built-in functions and types, called -/
inductive Bi where | len | int | list | tuple | min2 | max2 | maxl | abs
  deriving DecidableEq
inductive Ty where | int | bool | tuple | str | list
  deriving DecidableEq
inductive Tg where
  | var (i : Nat)
  | tup (is : List Nat)

mutual
inductive CE where
  | cnon
  | cbl (b : Bool)
  | cint (i : Int)
  | cstr (x : Str)
  | var (i : Nat)
  | bor (i : Nat)
  | bin (op : Bin) (a b : CE)
  | neg (a : CE)
  | cmp (op : Cmp) (a b : CE)
  | bop (isAnd : Bool) (es : List CE)
  | not (a : CE)
  | ite (c a b : CE)
  | tup (es : List CE)
  | lst (n : Nat) (es : List CE)
  | dct1 (k v : CE)
  | idx (a i : CE)
  | slc (a lo hi : CE)
  | call (f : Nat) (es : List CE)
  | bi (b : Bi) (es : List CE)
  | isi (a : CE) (t : Ty)
  | comp (elt : CE) (tg : Tg) (it : CI) (conds : List CE) (own : List Nat)
inductive CI where
  | seq (e : CE)
  | rng1 (a : CE)
  | rng2 (a b : CE)
  | enu (e : CE)
  | keys (e : CE)
end

/-- a slice's part left out -/
def isNoE : CE → Bool
  | .cnon => true
  | _ => false

/-! ### values' own functions -/
mutual
def depthP : PV → Nat
  | .tup xs => depthPs xs + 1
  | .lst xs => depthPs xs + 1
  | _ => 0
def depthPs : List PV → Nat
  | [] => 0
  | x :: xs => max (depthP x) (depthPs xs)
end
mutual
/-- no dict within -/
def dataP : PV → Bool
  | .tup xs => dataPs xs
  | .lst xs => dataPs xs
  | .dct _ _ => false
  | .scr _ => false
  | _ => true
def dataPs : List PV → Bool
  | [] => true
  | x :: xs => dataP x && dataPs xs
end
mutual
def eqv : PV → PV → Bool
  | .non, .non => true
  | .bl a, .bl b => a == b
  | .bl a, .int j => (if a then 1 else 0) == j
  | .int i, .bl b => i == (if b then 1 else 0)
  | .int i, .int j => i == j
  | .str x, .str y => x == y
  | .lst xs, .lst ys => eqvs xs ys
  | .tup xs, .tup ys => eqvs xs ys
  | _, _ => false
def eqvs : List PV → List PV → Bool
  | [], [] => true
  | x :: xs, y :: ys => eqv x y && eqvs xs ys
  | _, _ => false
end
def shapedP (v : PV) : Bool := dataP v && decide (depthP v ≤ 64)
def eqP (x y : PV) : R Bool := if shapedP x && shapedP y then .ok (eqv x y) else .bad

def keyOf1 : PV → Option PKey
  | .int i => some (.inl i)
  | .str x => some (.inr x)
  | _ => none
def keysOf : List PV → Option (List PKey)
  | [] => some []
  | v :: vs => match keyOf1 v, keysOf vs with
    | some k, some ks => some (k :: ks)
    | _, _ => none
def keyOf : PV → Option (List PKey)
  | .tup xs => keysOf xs
  | _ => none
def pvOfKey1 : PKey → PV
  | .inl i => .int i
  | .inr x => .str x
def pvOfKey (k : List PKey) : PV := .tup (k.map pvOfKey1)

/-- d[k] = v -/
def dput (ks : List (List PKey)) (vs : List PV) (k : List PKey) (v : PV) : List (List PKey) × List PV :=
  match ks, vs with
  | k' :: ks', v' :: vs' => if k' = k then (k' :: ks', v :: vs') else ((k' :: (dput ks' vs' k v).1), (v' :: (dput ks' vs' k v).2))
  | _, _ => ([k], [v])
def dget (ks : List (List PKey)) (vs : List PV) (k : List PKey) : Option PV :=
  match ks, vs with
  | k' :: ks', v' :: vs' => if k' = k then some v' else dget ks' vs' k
  | _, _ => none

/-- the place that an index of any sign means -/
def ixP (n : Nat) (i : Int) : Option Nat := if 0 ≤ i then (if i < n then some i.toNat else none) else if -(n : Int) ≤ i then some (i + n).toNat else none
def atP (xs : List PV) (i : Int) : R PV := match ixP xs.length i with
  | some j => match xs[j]? with
    | some v => .ok v
    | none => .bad
  | none => .bad
def idxP : PV → PV → R PV
  | .lst xs, .int i => atP xs i
  | .tup xs, .int i => atP xs i
  | .dct ks vs, k => match keyOf k with
    | some k => match dget ks vs k with
      | some v => .ok v
      | none => .bad
    | none => .bad
  | .scr ns, .int i => atP (ns.map .int) i
  | _, _ => .bad

/-- a slice's bound as a place among n -/
def sIxP (n d : Nat) : Option Int → Nat
  | none => d
  | some v => if v < 0 then (v + (n : Int)).toNat else min v.toNat n
def cutP (xs : List PV) (lo hi : Option Int) : List PV := (xs.drop (sIxP xs.length 0 lo)).take (sIxP xs.length xs.length hi - sIxP xs.length 0 lo)
def partP (no : Bool) (v : PV) : R (Option Int) := if no then .ok none else match v with
  | .int i => .ok (some i)
  | _ => .bad
def slcP (x : PV) (lo hi : Option Int) : R PV := match x with
  | .lst xs => .ok (.lst (cutP xs lo hi))
  | .tup xs => .ok (.tup (cutP xs lo hi))
  | _ => .bad

def mulOk (i j : Int) : Bool := decide ((-(2 ^ 64) < i ∧ i < 2 ^ 64) ∨ (-(2 ^ 64) < j ∧ j < 2 ^ 64))
def repP (xs : List PV) (k : Nat) : List PV := (List.replicate k xs).flatten
def binP : Bin → PV → PV → R PV
  | .add, .int i, .int j => .ok (.int (i + j))
  | .add, .lst xs, .lst ys => if xs.length + ys.length ≤ lim then .ok (.lst (xs ++ ys)) else .bad
  | .sub, .int i, .int j => .ok (.int (i - j))
  | .mul, .int i, .int j => if mulOk i j then .ok (.int (i * j)) else .bad
  | .mul, .lst xs, .int j => if decide (-(2 ^ 63) ≤ j) && decide (j < 2 ^ 63) && decide (xs.length * j.toNat ≤ lim) then .ok (.lst (repP xs j.toNat)) else .bad
  | .fdiv, .int i, .int j => if decide (0 < j ∧ j < 2 ^ 64) then .ok (.int (i / j)) else .bad
  | .mod, .int i, .int j => if decide (0 < j) then .ok (.int (i % j)) else .bad
  | .pow, .int i, .int j => if decide (0 ≤ j ∧ j ≤ 1000000 ∧ i.natAbs < 2 ^ 64) then .ok (.int (i ^ j.toNat)) else .bad
  | _, _, _ => .bad

def inSeqP (x : PV) (ys : List PV) : R Bool := if shapedP x && shapedP (.lst ys) then .ok (ys.any fun y => eqv y x) else .bad
def inP (x : PV) : PV → R Bool
  | .lst ys => inSeqP x ys
  | .tup ys => inSeqP x ys
  | .dct ks vs => match keyOf x with
    | some k => .ok (dget ks vs k).isSome
    | none => .bad
  | _ => .bad
def isNon : PV → Bool
  | .non => true
  | _ => false
def cmpP : Cmp → PV → PV → R Bool
  | .eq, x, y => eqP x y
  | .ne, x, y => (eqP x y).bind fun b => .ok (!b)
  | .lt, .int i, .int j => .ok (decide (i < j))
  | .le, .int i, .int j => .ok (decide (i ≤ j))
  | .gt, .int i, .int j => .ok (decide (j < i))
  | .ge, .int i, .int j => .ok (decide (j ≤ i))
  | .is, x, .non => .ok (isNon x)
  | .isnot, x, .non => .ok (!isNon x)
  | .inn, x, y => inP x y
  | .notin, x, y => (inP x y).bind fun b => .ok (!b)
  | _, _, _ => .bad

def maxI : Int → List Int → Int
  | m, [] => m
  | m, x :: xs => maxI (if m < x then x else m) xs
def intsOf : List PV → Option (List Int)
  | [] => some []
  | .int i :: vs => match intsOf vs with
    | some is => some (i :: is)
    | none => none
  | _ :: _ => none
def lenP : PV → R Int
  | .tup xs => .ok xs.length
  | .lst xs => .ok xs.length
  | .scr ns => .ok ns.length
  | _ => .bad
def bi1 : Bi → PV → R PV
  | .len, x => (lenP x).bind fun n => .ok (.int n)
  | .int, .int i => .ok (.int i)
  | .int, .bl b => .ok (.int (if b then 1 else 0))
  | .list, .lst xs => .ok (.lst xs)
  | .list, .tup xs => .ok (.lst xs)
  | .tuple, .lst xs => .ok (.tup xs)
  | .tuple, .tup xs => .ok (.tup xs)
  | .maxl, .lst xs => match intsOf xs with
    | some (i :: is) => .ok (.int (maxI i is))
    | _ => .bad
  | .abs, .int i => .ok (.int (if i < 0 then -i else i))
  | _, _ => .bad
def bi2 : Bi → PV → PV → R PV
  | .min2, .int i, .int j => .ok (.int (if j < i then j else i))
  | .max2, .int i, .int j => .ok (.int (if j > i then j else i))
  | _, _, _ => .bad
def biP (b : Bi) : List PV → R PV
  | [x] => bi1 b x
  | [x, y] => bi2 b x y
  | _ => .bad
def isiP : Ty → PV → Bool
  | .int, .int _ => true
  | .int, .bl _ => true
  | .bool, .bl _ => true
  | .tuple, .tup _ => true
  | .list, .lst _ => true
  | .str, .str _ => true
  | _, _ => false
/-- isinstance is asked of no dict -/
def isiOk : PV → Bool
  | .dct _ _ => false
  | .scr _ => false
  | _ => true

def setMany (env : PEnv) : List Nat → List PV → Option PEnv
  | [], [] => some env
  | i :: is, v :: vs => setMany (env.set i (some v)) is vs
  | _, _ => none
/-- a target takes a value -/
def bindT (tg : Tg) (v : PV) (env : PEnv) : R PEnv := match tg with
  | .var i => .ok (env.set i (some v))
  | .tup is => match v with
    | .tup vs => match setMany env is vs with
      | some e => .ok e
      | none => .bad
    | .lst vs => match setMany env is vs with
      | some e => .ok e
      | none => .bad
    | _ => .bad
def tgL : Tg → List Nat
  | .var i => [i]
  | .tup is => is

def compL (f : PV → R (Option PV)) : List PV → R (List PV)
  | [] => .ok []
  | v :: vs => (f v).bind fun o => (compL f vs).bind fun r => .ok (match o with
    | some y => y :: r
    | none => r)
def rangeP (lo hi : Int) : List PV := (List.range (hi - lo).toNat).map fun (k : Nat) => PV.int (lo + k)
def rngOk (lo hi : Int) : Bool := decide (-(2 ^ 62) ≤ lo ∧ lo < 2 ^ 62 ∧ -(2 ^ 62) ≤ hi ∧ hi < 2 ^ 62) && decide ((hi - lo).toNat ≤ lim)
def enumP (k : Nat) : List PV → List PV
  | [] => []
  | v :: vs => .tup [.int k, v] :: enumP (k + 1) vs

abbrev Fns := Nat → List PV → R PV
section
variable (Φ : Fns)
mutual
def evE : CE → PEnv → R PV
  | .cnon, _ => .ok .non
  | .cbl b, _ => .ok (.bl b)
  | .cint i, _ => .ok (.int i)
  | .cstr x, _ => .ok (.str x)
  | .var i, env => getS env i
  | .bor i, env => getS env i
  | .bin op a b, env => (evE a env).bind fun x => (evE b env).bind fun y => binP op x y
  | .neg a, env => (evE a env).bind fun x => match x with
    | .int i => .ok (.int (-i))
    | _ => .bad
  | .cmp op a b, env => (evE a env).bind fun x => (evE b env).bind fun y => (cmpP op x y).bind fun b => .ok (.bl b)
  | .bop k es, env => evB k es env
  | .not a, env => (evE a env).bind fun x => match x with
    | .bl b => .ok (.bl (!b))
    | _ => .bad
  | .ite c a b, env => (evE c env).bind fun x => match x with
    | .bl k => if k then evE a env else evE b env
    | _ => .bad
  | .tup es, env => (evEs es env).bind fun xs => .ok (.tup xs)
  | .lst _ es, env => (evEs es env).bind fun xs => .ok (.lst xs)
  | .dct1 k v, env => (evE k env).bind fun x => (evE v env).bind fun y => match keyOf x with
    | some q => .ok (.dct [q] [y])
    | none => .bad
  | .idx a i, env => (evE a env).bind fun x => (evE i env).bind fun y => idxP x y
  | .slc a lo hi, env => (evE a env).bind fun x => (evE lo env).bind fun l => (evE hi env).bind fun h => (partP (isNoE lo) l).bind fun l => (partP (isNoE hi) h).bind fun h => slcP x l h
  | .call f es, env => (evEs es env).bind fun xs => Φ f xs
  | .bi b es, env => (evEs es env).bind fun xs => biP b xs
  | .isi a t, env => (evE a env).bind fun x => if isiOk x then .ok (.bl (isiP t x)) else .bad
  | .comp elt tg it conds own, env => (evI it env).bind fun vs => (compL (fun v => (bindT tg v (wipeP env own)).bind fun e1 => (evC conds e1).bind fun b => if b then (evE elt e1).bind fun y => .ok (some y) else .ok none) vs).bind fun r => .ok (.lst r)
def evEs : List CE → PEnv → R (List PV)
  | [], _ => .ok []
  | e :: es, env => (evE e env).bind fun x => (evEs es env).bind fun xs => .ok (x :: xs)
def evB (k : Bool) : List CE → PEnv → R PV
  | [], _ => .bad
  | e :: es, env => (evE e env).bind fun x => match es with
    | [] => .ok x
    | _ :: _ => match x with
      | .bl c => if c == k then evB k es env else .ok (.bl c)
      | _ => .bad
/-- a comprehension's tests: none or one -/
def evC : List CE → PEnv → R Bool
  | [], _ => .ok true
  | e :: es, env => (evE e env).bind fun x => match x with
    | .bl b => match es with
      | [] => .ok b
      | _ :: _ => .bad
    | _ => .bad
def evI : CI → PEnv → R (List PV)
  | .seq e, env => (evE e env).bind fun x => match x with
    | .lst xs => .ok xs
    | .tup xs => .ok xs
    | .scr ns => .ok (ns.map .int)
    | _ => .bad
  | .rng1 a, env => (evE a env).bind fun x => match x with
    | .int n => if rngOk 0 n then .ok (rangeP 0 n) else .bad
    | _ => .bad
  | .rng2 a b, env => (evE a env).bind fun x => (evE b env).bind fun y => match x, y with
    | .int n, .int m => if rngOk n m then .ok (rangeP n m) else .bad
    | _, _ => .bad
  | .enu e, env => (evE e env).bind fun x => match x with
    | .lst xs => .ok (enumP 0 xs)
    | .tup xs => .ok (enumP 0 xs)
    | _ => .bad
  | .keys e, env => (evE e env).bind fun x => match x with
    | .dct ks _ => .ok (ks.map pvOfKey)
    | _ => .bad
end
end

/-! ### statements -/
inductive CS where
  | asg (k : Nat) (tg : Tg) (e : CE)
  | setI (i : Nat) (ix e : CE)
  | app (i : Nat) (e : CE)
  | app1 (i : Nat) (ix e : CE)
  | appPop (i j : Nat) (ix : CE)
  | asgPop (tg : Tg) (j : Nat) (ix : CE)
  | ite (c : CE) (a b : List CS)
  | for (tg : Tg) (it : CI) (body : List CS)
  | while (c : CE) (body : List CS)
  | ret (e : CE)
  | retN
  | raise (cls : Nat) (es : List CE)
  | pass
  | brk
  | cont
  | exp (e : CE)
  | frz (i : Nat)

inductive SR where
  | nx (env : PEnv)
  | rt (v : PV)
  | bk (env : PEnv)
  | ct (env : PEnv)
  | ex (e : Exn)
  | bad
def R.st {α : Type} : R α → (α → SR) → SR
  | .ok a, f => f a
  | .ex e, _ => .ex e
  | .bad, _ => .bad
@[simp] theorem R.st_ok {α : Type} (a : α) (f : α → SR) : R.st (.ok a) f = f a := rfl
@[simp] theorem R.st_bad {α : Type} (f : α → SR) : R.st .bad f = .bad := rfl
@[simp] theorem R.st_ex {α : Type} (e : Exn) (f : α → SR) : R.st (.ex e) f = .ex e := rfl
def SR.next : SR → (PEnv → SR) → SR
  | .nx env, f => f env
  | r, _ => r
@[simp] theorem SR.next_nx (env : PEnv) (f : PEnv → SR) : SR.next (.nx env) f = f env := rfl
@[simp] theorem SR.next_rt (v : PV) (f : PEnv → SR) : SR.next (.rt v) f = .rt v := rfl
@[simp] theorem SR.next_bk (v : PEnv) (f : PEnv → SR) : SR.next (.bk v) f = .bk v := rfl
@[simp] theorem SR.next_ct (v : PEnv) (f : PEnv → SR) : SR.next (.ct v) f = .ct v := rfl

def forL (f : PV → PEnv → SR) : List PV → PEnv → SR
  | [], env => .nx env
  | v :: vs, env => match f v env with
    | .nx e => forL f vs e
    | .ct e => forL f vs e
    | .bk e => .nx e
    | r => r
def whileL (c : PEnv → R PV) (f : PEnv → SR) : Nat → PEnv → SR
  | 0, _ => .bad
  | n + 1, env => (c env).st fun x => match x with
    | .bl true => match f env with
      | .nx e => whileL c f n e
      | .ct e => whileL c f n e
      | .bk e => .nx e
      | r => r
    | .bl false => .nx env
    | _ => .bad

/-- x[ix] = v -/
def setP (x : PV) (ix v : PV) : R PV := match x with
  | .lst xs => match ix with
    | .int k => match ixP xs.length k with
      | some j => .ok (.lst (xs.set j v))
      | none => .bad
    | _ => .bad
  | .dct ks vs => match keyOf ix with
    | some k => if ks.length < lim then .ok (.dct (dput ks vs k v).1 (dput ks vs k v).2) else .bad
    | none => .bad
  | _ => .bad
def appP (x v : PV) : R PV := match x with
  | .lst xs => if xs.length < lim then .ok (.lst (xs ++ [v])) else .bad
  | _ => .bad
/-- x[ix].append(v): the new x -/
def app1P (x ix v : PV) : R PV := match x, ix with
  | .lst xs, .int k => match ixP xs.length k with
    | some j => match xs[j]? with
      | some y => (appP y v).bind fun z => .ok (.lst (xs.set j z))
      | none => .bad
    | none => .bad
  | _, _ => .bad
/-- x.pop(ix): the item, the new x -/
def popP (x ix : PV) : R (PV × PV) := match x, ix with
  | .lst xs, .int k => if decide (-(2 ^ 63) ≤ k ∧ k < 2 ^ 63) then match ixP xs.length k with
    | some j => match xs[j]? with
      | some y => .ok (y, .lst (xs.eraseIdx j))
      | none => .bad
    | none => .bad else .bad
  | _, _ => .bad

section
variable (Φ : Fns) (fu : Nat)
mutual
def evS : CS → PEnv → SR
  | .asg _ tg e, env => (evE Φ e env).st fun v => (bindT tg v env).st .nx
  | .setI i ix e, env => (evE Φ e env).st fun v => (getS env i).st fun x => (evE Φ ix env).st fun k => (setP x k v).st fun y => .nx (env.set i (some y))
  | .app i e, env => (getS env i).st fun x => (evE Φ e env).st fun v => (appP x v).st fun y => .nx (env.set i (some y))
  | .app1 i ix e, env => (getS env i).st fun x => (evE Φ ix env).st fun k => (evE Φ e env).st fun v => (app1P x k v).st fun y => .nx (env.set i (some y))
  | .appPop i j ix, env => (getS env i).st fun x => (getS env j).st fun y => (evE Φ ix env).st fun k => (popP y k).st fun p => (appP x p.1).st fun z => .nx ((env.set j (some p.2)).set i (some z))
  | .asgPop tg j ix, env => (getS env j).st fun y => (evE Φ ix env).st fun k => (popP y k).st fun p => (bindT tg p.1 (env.set j (some p.2))).st .nx
  | .ite c a b, env => (evE Φ c env).st fun x => match x with
    | .bl k => if k then evSs a env else evSs b env
    | _ => .bad
  | .for tg it body, env => (evI Φ it env).st fun vs => forL (fun v e => (bindT tg v e).st (evSs body)) vs env
  | .while c body, env => whileL (evE Φ c) (evSs body) fu env
  | .ret e, env => (evE Φ e env).st .rt
  | .retN, _ => .rt .non
  | .raise c es, env => (evEs Φ es env).st fun xs => .ex ⟨c, xs⟩
  | .pass, env => .nx env
  | .brk, env => .bk env
  | .cont, env => .ct env
  | .exp e, env => (evE Φ e env).st fun _ => .nx env
  | .frz _, env => .nx env
def evSs : List CS → PEnv → SR
  | [], env => .nx env
  | s :: ss, env => (evS s env).next (evSs ss)
end
end

/-- a def: its names (the parameters first), how many are parameters, its body, how deep its answer is its caller's own -/
structure FnD where
  name : Str
  N : List Str
  ar : Nat
  body : List CS
  fr : Nat
def runD (Φ : Fns) (fu : Nat) (d : FnD) (vs : List PV) : R PV :=
  if vs.length = d.ar then
    match evSs Φ fu d.body (vs.map some ++ List.replicate (d.N.length - vs.length) none) with
    | .nx _ => .ok .non
    | .rt v => .ok v
    | .ex e => .ex e
    | _ => .bad
  else .bad
def fnsOf (Γ : List FnD) (fu : Nat) : Nat → Fns
  | 0 => fun _ _ => .bad
  | n + 1 => fun f vs => match Γ[f]? with
    | some d => runD (fnsOf Γ fu n) fu d vs
    | none => .bad
end PY

/-! PyB1: how pure values stand in the abstract heap; growth; ownership. -/
namespace PY
open PySem L2
open PySem.Spec PyProof.Rows
abbrev Frag := PySem.W.Frag

theorem lim_eq : sizeLine = lim := sizeLine_eq

/-- the texts of a key are texts of ours -/
def kGood (k : List Key) : Prop := (∀ x : Str, Sum.inr x ∈ k → PySem.PyData.strOk x = true ∧ x.length ≤ lim) ∧ k.length ≤ lim
mutual
/-- x stands for v; all that v has within stands in F -/
inductive Rep (K : Frag) (F : Hp) : V → PV → Prop
  | non : Rep K F .non .non
  | bl (b : Bool) : Rep K F (.bl b) (.bl b)
  | int (i : Int) : Rep K F (.int i) (.int i)
  | str (x : Str) (ok : PySem.PyData.strOk x = true) (l : x.length ≤ lim) : Rep K F (.str x) (.str x)
  | tup {a : Addr} {xs : List V} {vs : List PV} : F a = some (.tup xs) → xs.length ≤ lim → Reps K F xs vs → Rep K F (.ref a) (.tup vs)
  | lst {a : Addr} {xs : List V} {vs : List PV} : F a = some (.lst xs) → xs.length ≤ lim → Reps K F xs vs → Rep K F (.ref a) (.lst vs)
  | dct {a : Addr} {kvs : List (List Key × V)} {vs : List PV} : Rd F a (.dT kvs) → (kvs.length ≤ lim ∧ (∀ p ∈ kvs, kGood p.1) ∧ (kvs.map (·.1)).Nodup) → Reps K F (kvs.map (·.2)) vs → Rep K F (.ref a) (.dct (kvs.map (·.1)) vs)
  | scr {a : Addr} {ns : List Int} : SqL K F a (ns.map V.int) → ns.length ≤ lim → Rep K F (.ref a) (.scr ns)
inductive Reps (K : Frag) (F : Hp) : List V → List PV → Prop
  | nil : Reps K F [] []
  | cons {x : V} {v : PV} {xs : List V} {vs : List PV} : Rep K F x v → Reps K F xs vs → Reps K F (x :: xs) (v :: vs)
end

/-- a dict may have been locked for good -/
def LockOf (o o' : HO) : Prop := o' = o ∨ ∃ ob kvs, o = .dT kvs ∧ o' = .frz ob o
def FG (F F' : Hp) : Prop := ∀ a o, F a = some o → ∃ o', F' a = some o' ∧ LockOf o o'
def FLe (F H : Hp) : Prop := ∀ a o, F a = some o → H a = some o
theorem FLe.fg {F H : Hp} (h : FLe F H) : FG F H := fun a o e => ⟨o, h a o e, .inl rfl⟩
theorem FG.refl (F : Hp) : FG F F := fun a o e => ⟨o, e, .inl rfl⟩
theorem LockOf.frzE {ob : Obj} {u o' : HO} (h : LockOf (.frz ob u) o') : o' = .frz ob u := by
  rcases h with h | ⟨_, _, m, _⟩
  · exact h
  · cases m
theorem LockOf.tupE {xs : List V} {o' : HO} (h : LockOf (.tup xs) o') : o' = .tup xs := by
  rcases h with h | ⟨_, _, m, _⟩
  · exact h
  · cases m
theorem LockOf.lstE {xs : List V} {o' : HO} (h : LockOf (.lst xs) o') : o' = .lst xs := by
  rcases h with h | ⟨_, _, m, _⟩
  · exact h
  · cases m
theorem FG.lst {F F' : Hp} {a : Addr} {xs : List V} (h : ∀ a o, F a = some o → ∃ o', F' a = some o' ∧ LockOf o o') (e : F a = some (.lst xs)) : F' a = some (.lst xs) := by
  obtain ⟨o', e', l⟩ := h a _ e
  rw [e', l.lstE]
theorem LockOf.trans {a b c : HO} (h : LockOf a b) (h' : LockOf b c) : LockOf a c := by
  rcases h with h | ⟨ob, kvs, m, h⟩
  · rw [← h]; exact h'
  · subst h; rw [h'.frzE]; exact .inr ⟨ob, kvs, m, rfl⟩
theorem FG.tup {F F' : Hp} {a : Addr} {xs : List V} (h : ∀ a o, F a = some o → ∃ o', F' a = some o' ∧ LockOf o o') (e : F a = some (.tup xs)) : F' a = some (.tup xs) := by
  obtain ⟨o', e', l⟩ := h a _ e
  rw [e', l.tupE]
theorem FG.trans {F F1 F2 : Hp} (h : FG F F1) (h' : FG F1 F2) : FG F F2 := fun a o e => by
  obtain ⟨o1, e1, l1⟩ := h a o e
  obtain ⟨o2, e2, l2⟩ := h' a o1 e1
  exact ⟨o2, e2, l1.trans l2⟩
theorem FG.rd {F F' : Hp} {a : Addr} {u : HO} (h : FG F F') (r : Rd F a u) : Rd F' a u := by
  rcases r with r | ⟨ob, r⟩
  · obtain ⟨o', e, l⟩ := h a u r
    rcases l with l | ⟨ob, _, _, l⟩
    · exact .inl (by rw [e, l])
    · exact .inr ⟨ob, by rw [e, l]⟩
  · obtain ⟨o', e, l⟩ := h a _ r
    exact .inr ⟨ob, by rw [e, l.frzE]⟩
theorem FG.sqL {K : Frag} {F F' : Hp} {a : Addr} {xs : List V} (h : FG F F') (r : SqL K F a xs) : SqL K F' a xs := r.imp h.rd id
theorem FG.sqT {K : Frag} {F F' : Hp} {a : Addr} {xs : List V} (h : FG F F') (r : SqT K F a xs) : SqT K F' a xs := r.imp h.rd id
mutual
theorem Rep.mono {K : Frag} {F F' : Hp} (h : FG F F') : ∀ {x : V} {v : PV}, Rep K F x v → Rep K F' x v
  | _, _, .non => .non
  | _, _, .bl b => .bl b
  | _, _, .int i => .int i
  | _, _, .str x k l => .str x k l
  | _, _, .tup s l r => .tup (FG.tup h s) l (Reps.mono h r)
  | _, _, .lst s l r => .lst (FG.lst h s) l (Reps.mono h r)
  | _, _, .dct s l r => .dct (h.rd s) l (Reps.mono h r)
  | _, _, .scr s l => .scr (h.sqL s) l
theorem Reps.mono {K : Frag} {F F' : Hp} (h : FG F F') : ∀ {xs : List V} {vs : List PV}, Reps K F xs vs → Reps K F' xs vs
  | _, _, .nil => .nil
  | _, _, .cons r rs => .cons (Rep.mono h r) (Reps.mono h rs)
end
section
variable {K : Frag} {F : Hp}
theorem Reps.length : ∀ {xs : List V} {vs : List PV}, Reps K F xs vs → xs.length = vs.length
  | _, _, .nil => rfl
  | _, _, .cons _ r => congrArg (· + 1) r.length
theorem Reps.get : ∀ {xs : List V} {vs : List PV} {i : Nat} {v : PV}, Reps K F xs vs → vs[i]? = some v → ∃ x, xs[i]? = some x ∧ Rep K F x v
  | _, _, _, _, .nil, e => by simp at e
  | _, _, 0, _, .cons r _, e => by simp at e; subst e; exact ⟨_, rfl, r⟩
  | _, _, i + 1, v, .cons _ t, e => by
    obtain ⟨x, h1, h2⟩ := Reps.get (i := i) (v := v) t (by simpa using e)
    exact ⟨x, by simpa using h1, h2⟩
theorem Reps.getX : ∀ {xs : List V} {vs : List PV} {i : Nat} {x : V}, Reps K F xs vs → xs[i]? = some x → ∃ v, vs[i]? = some v ∧ Rep K F x v
  | _, _, _, _, .nil, e => by simp at e
  | _, _, 0, _, .cons r _, e => by simp at e; subst e; exact ⟨_, rfl, r⟩
  | _, _, i + 1, v, .cons _ t, e => by
    obtain ⟨x, h1, h2⟩ := Reps.getX (i := i) (x := v) t (by simpa using e)
    exact ⟨x, by simpa using h1, h2⟩
theorem Reps.append : ∀ {xs ys : List V} {vs ws : List PV}, Reps K F xs vs → Reps K F ys ws → Reps K F (xs ++ ys) (vs ++ ws)
  | _, _, _, _, .nil, s => s
  | _, _, _, _, .cons r t, s => .cons r (Reps.append t s)
theorem Reps.take : ∀ {xs : List V} {vs : List PV} (n : Nat), Reps K F xs vs → Reps K F (xs.take n) (vs.take n)
  | _, _, 0, _ => .nil
  | _, _, _ + 1, .nil => .nil
  | _, _, n + 1, .cons r t => .cons r (Reps.take n t)
theorem Reps.drop : ∀ {xs : List V} {vs : List PV} (n : Nat), Reps K F xs vs → Reps K F (xs.drop n) (vs.drop n)
  | _, _, 0, r => r
  | _, _, _ + 1, .nil => .nil
  | _, _, n + 1, .cons _ t => Reps.drop n t
theorem Reps.set {x : V} {v : PV} (r : Rep K F x v) : ∀ {xs : List V} {vs : List PV} (i : Nat), Reps K F xs vs → Reps K F (xs.set i x) (vs.set i v)
  | _, _, _, .nil => .nil
  | _, _, 0, .cons _ t => .cons r t
  | _, _, i + 1, .cons q t => .cons q (Reps.set r i t)
theorem Reps.erase : ∀ {xs : List V} {vs : List PV} (i : Nat), Reps K F xs vs → Reps K F (xs.eraseIdx i) (vs.eraseIdx i)
  | _, _, _, .nil => .nil
  | _, _, 0, .cons _ t => t
  | _, _, i + 1, .cons q t => .cons q (Reps.erase i t)
theorem Reps.rep {xs : List V} {vs : List PV} (r : Reps K F xs vs) : ∀ k : Nat, Reps K F (List.replicate k xs).flatten (List.replicate k vs).flatten
  | 0 => .nil
  | k + 1 => by
    rw [List.replicate_succ, List.replicate_succ, List.flatten_cons, List.flatten_cons]
    exact r.append (Reps.rep r k)
theorem Reps.snoc {xs : List V} {vs : List PV} {x : V} {v : PV} (r : Reps K F xs vs) (q : Rep K F x v) : Reps K F (xs ++ [x]) (vs ++ [v]) := r.append (.cons q .nil)
end

/-! ### growth -/
/-- what may be one's own -/
def Ow : Option HO → Prop
  | some (.lst _) => True
  | some (.dT _) => True
  | _ => False
theorem Ow.not_tup {H : Hp} {a : Addr} (h : Ow (H a)) : ¬ (H a = none ∨ ∃ xs, H a = some (.tup xs)) := by
  rintro (e | ⟨xs, e⟩) <;> rw [e] at h <;> exact h
structure Grow (H F H' F' : Hp) : Prop where
  le : FLe F' H'
  fg : FG F F'
  keep : ∀ a o, F a = none → H a = some o → H' a = some o
  new : ∀ a o, F' a = some o → F a = none → H a = none ∨ ∃ xs, H a = some (.tup xs)
theorem Grow.refl {H F : Hp} (h : FLe F H) : Grow H F H F := ⟨h, .refl F, fun _ _ _ e => e, fun a o e n => by rw [n] at e; cases e⟩
theorem Grow.fnone {H F H' F' : Hp} (g : Grow H F H' F') {a : Addr} (n : F a = none) (e : Ow (H a)) : F' a = none := by
  cases q : F' a with
  | none => rfl
  | some u => exact absurd (g.new a u q n) e.not_tup
theorem Grow.trans {H F H1 F1 H2 F2 : Hp} (g : Grow H F H1 F1) (g' : Grow H1 F1 H2 F2) : Grow H F H2 F2 where
  le := g'.le
  fg := g.fg.trans g'.fg
  keep := fun a o n e => by
    cases q : F1 a with
    | none => exact g'.keep a o q (g.keep a o n e)
    | some u =>
      have h1 := g.le a u q
      rw [g.keep a o n e] at h1
      cases h1
      rcases g.new a _ q n with z | ⟨xs, z⟩
      · rw [z] at e; cases e
      · rw [z] at e; cases e
        exact g'.le a _ (FG.tup g'.fg q)
  new := fun a o e n => by
    cases q : F1 a with
    | some u => exact g.new a u q n
    | none =>
      cases r : H a with
      | none => exact .inl rfl
      | some u =>
        have h2 := g.keep a u n r
        rcases g'.new a o e q with z | ⟨xs, z⟩
        · rw [z] at h2; cases h2
        · rw [z] at h2; cases h2
          exact .inr ⟨xs, rfl⟩
/-- what was there is there -/
theorem Grow.someE {H F H' F' : Hp} (g : Grow H F H' F') (h : FLe F H) {a : Addr} {o : HO} (e : H a = some o) : ∃ o', H' a = some o' := by
  cases q : F a with
  | none => exact ⟨o, g.keep a o q e⟩
  | some u =>
    obtain ⟨o', e', _⟩ := g.fg a u q
    exact ⟨o', g.le a o' e'⟩
theorem Grow.noneE {H F H' F' : Hp} (g : Grow H F H' F') (h : FLe F H) {a : Addr} (e : H' a = none) : H a = none := by
  cases q : H a with
  | none => rfl
  | some u =>
    obtain ⟨o', e'⟩ := g.someE h q
    rw [e] at e'; cases e'
/-- a new object is laid, frozen at once -/
theorem Grow.laid {H F : Hp} (h : FLe F H) {p : Addr} (np : H p = none) (o : HO) : Grow H F (upd H p o) (upd F p o) where
  le := fun a u e => by
    by_cases ha : a = p
    · subst ha; rw [upd_same] at e ⊢; exact e
    · rw [upd_ne ha] at e ⊢; exact h a u e
  fg := fun a u e => by
    have ha : a ≠ p := fun z => by subst z; rw [h _ _ e] at np; cases np
    exact ⟨u, by rw [upd_ne ha]; exact e, .inl rfl⟩
  keep := fun a u _ e => by
    have ha : a ≠ p := ne_of_none e np
    rw [upd_ne ha]; exact e
  new := fun a u e n => by
    by_cases ha : a = p
    · subst ha; exact .inl np
    · rw [upd_ne ha, n] at e; cases e
/-- .. not frozen -/
theorem Grow.laid' {H F : Hp} (h : FLe F H) {p : Addr} (np : H p = none) (o : HO) : Grow H F (upd H p o) F where
  le := fun a u e => by
    have ha : a ≠ p := fun z => by subst z; rw [h _ _ e] at np; cases np
    rw [upd_ne ha]; exact h a u e
  fg := .refl F
  keep := fun a u _ e => by
    have ha : a ≠ p := ne_of_none e np
    rw [upd_ne ha]; exact e
  new := fun a u e n => by rw [n] at e; cases e

/-! ### ownership -/
inductive Owns (P : V → PV → List Addr → Prop) : List V → List PV → List Addr → Prop
  | nil : Owns P [] [] []
  | cons {x : V} {v : PV} {xs : List V} {vs : List PV} {A B : List Addr} : P x v A → Owns P xs vs B → Owns P (x :: xs) (v :: vs) (A ++ B)
/-- x stands for v; the lists and dicts of v down to depth d are one's own, at the addresses A -/
def OwnV (K : Frag) (H F : Hp) : Nat → V → PV → List Addr → Prop
  | 0, x, v, A => Rep K F x v ∧ A = []
  | d + 1, x, v, A => ∃ (a : Addr) (B : List Addr), x = .ref a ∧ A = a :: B ∧
      ((∃ xs vs, v = .lst vs ∧ H a = some (.lst xs) ∧ xs.length ≤ lim ∧ Owns (OwnV K H F d) xs vs B) ∨
       (∃ (kvs : List (List Key × V)) (vs : List PV), v = .dct (kvs.map (·.1)) vs ∧ H a = some (.dT kvs) ∧ (kvs.length ≤ lim ∧ (∀ p ∈ kvs, kGood p.1) ∧ (kvs.map (·.1)).Nodup) ∧ Owns (OwnV K H F d) (kvs.map (·.2)) vs B))
theorem Owns.imp {P Q : V → PV → List Addr → Prop} {xs : List V} {vs : List PV} {A : List Addr} (h : Owns P xs vs A) (f : ∀ x v B, (∀ a ∈ B, a ∈ A) → P x v B → Q x v B) : Owns Q xs vs A := by
  induction h with
  | nil => exact .nil
  | @cons x v xs vs A B p _ ih => exact .cons (f x v A (fun a h => List.mem_append_left _ h) p) (ih fun x v B' hb => f x v B' fun a h => List.mem_append_right _ (hb a h))
theorem Owns.zero {K : Frag} {H F : Hp} {xs : List V} {vs : List PV} {A : List Addr} (h : Owns (OwnV K H F 0) xs vs A) : Reps K F xs vs ∧ A = [] := by
  induction h with
  | nil => exact ⟨.nil, rfl⟩
  | cons p _ ih =>
    obtain ⟨r, e⟩ := p
    obtain ⟨rs, e'⟩ := ih
    exact ⟨.cons r rs, by rw [e, e']; rfl⟩
theorem Owns.ofReps {K : Frag} {H F : Hp} : ∀ {xs : List V} {vs : List PV}, Reps K F xs vs → Owns (OwnV K H F 0) xs vs []
  | _, _, .nil => .nil
  | _, _, .cons r rs => Owns.cons (A := []) (B := []) ⟨r, rfl⟩ (Owns.ofReps rs)
theorem Owns.length {P : V → PV → List Addr → Prop} {xs : List V} {vs : List PV} {A : List Addr} (h : Owns P xs vs A) : xs.length = vs.length := by
  induction h with
  | nil => rfl
  | cons _ _ ih => exact congrArg (· + 1) ih
theorem OwnV.mono {K : Frag} {H F H' F' : Hp} (hf : FG F F') : ∀ {d : Nat} {x : V} {v : PV} {A : List Addr}, (∀ a ∈ A, ∀ o, H a = some o → H' a = some o) → OwnV K H F d x v A → OwnV K H' F' d x v A
  | 0, _, _, _, _, ⟨r, e⟩ => ⟨r.mono hf, e⟩
  | d + 1, _, _, _, hk, ⟨a, B, ex, eA, h⟩ => by
    subst ex eA
    refine ⟨a, B, rfl, rfl, ?_⟩
    have sub : ∀ b ∈ B, ∀ o, H b = some o → H' b = some o := fun b hb => hk b (List.mem_cons_of_mem _ hb)
    rcases h with ⟨xs, vs, ev, e, l, os⟩ | ⟨kvs, vs, ev, e, l, os⟩
    · exact .inl ⟨xs, vs, ev, hk a List.mem_cons_self _ e, l, os.imp fun x v C hc p => OwnV.mono hf (fun b hb => sub b (hc b hb)) p⟩
    · exact .inr ⟨kvs, vs, ev, hk a List.mem_cons_self _ e, l, os.imp fun x v C hc p => OwnV.mono hf (fun b hb => sub b (hc b hb)) p⟩
theorem OwnV.thereO {K : Frag} {H F : Hp} : ∀ {d : Nat} {x : V} {v : PV} {A : List Addr}, OwnV K H F d x v A → ∀ a ∈ A, Ow (H a)
  | 0, _, _, _, ⟨_, e⟩, a, ha => by subst e; cases ha
  | d + 1, _, _, _, ⟨a, B, ex, eA, h⟩, b, hb => by
    subst eA
    have k : ∀ {xs vs C}, Owns (OwnV K H F d) xs vs C → b ∈ C → Ow (H b) := fun {xs vs C} os => by
      induction os with
      | nil => intro h; cases h
      | @cons x v xs vs A' B' p _ ih =>
        intro h
        rcases List.mem_append.mp h with h | h
        · exact OwnV.thereO p b h
        · exact ih h
    rcases h with ⟨xs, vs, _, e, _, os⟩ | ⟨kvs, vs, _, e, _, os⟩
    · rcases List.mem_cons.mp hb with rfl | hb
      · rw [e]; exact True.intro
      · exact k os hb
    · rcases List.mem_cons.mp hb with rfl | hb
      · rw [e]; exact True.intro
      · exact k os hb
theorem Ow.ne {H : Hp} {a : Addr} (h : Ow (H a)) : H a ≠ none := fun e => by rw [e] at h; exact h
theorem OwnV.there {K : Frag} {H F : Hp} {d : Nat} {x : V} {v : PV} {A : List Addr} (o : OwnV K H F d x v A) : ∀ a ∈ A, H a ≠ none := fun a ha => (o.thereO a ha).ne
/-- what is one's own at A is frozen -/
def froz (F H : Hp) (A : List Addr) : Hp := fun a => if a ∈ A then H a else F a
theorem froz_in {F H : Hp} {A : List Addr} {a : Addr} (h : a ∈ A) : froz F H A a = H a := by unfold froz; rw [if_pos h]
theorem froz_out {F H : Hp} {A : List Addr} {a : Addr} (h : a ∉ A) : froz F H A a = F a := by unfold froz; rw [if_neg h]
theorem froz_le {F H : Hp} (h : FLe F H) (A : List Addr) : FLe (froz F H A) H := fun a o e => by
  by_cases ha : a ∈ A
  · rw [froz_in ha] at e; exact e
  · rw [froz_out ha] at e; exact h a o e
theorem froz_fg {F H : Hp} (h : FLe F H) (A : List Addr) : FG F (froz F H A) := fun a o e => by
  refine ⟨o, ?_, .inl rfl⟩
  by_cases ha : a ∈ A
  · rw [froz_in ha]; exact h a o e
  · rw [froz_out ha]; exact e
theorem froz_sub {F H : Hp} (h : FLe F H) {A B : List Addr} (s : ∀ a ∈ A, a ∈ B) : FG (froz F H A) (froz F H B) := fun a o e => by
  refine ⟨o, ?_, .inl rfl⟩
  by_cases ha : a ∈ A
  · rw [froz_in ha] at e; rw [froz_in (s a ha)]; exact e
  · rw [froz_out ha] at e
    by_cases hb : a ∈ B
    · rw [froz_in hb]; exact h a o e
    · rw [froz_out hb]; exact e
theorem OwnV.frozen {K : Frag} {H F : Hp} (h : FLe F H) : ∀ {d : Nat} {x : V} {v : PV} {A : List Addr}, OwnV K H F d x v A → Rep K (froz F H A) x v
  | 0, _, _, _, ⟨r, e⟩ => by subst e; exact r.mono (froz_fg h [])
  | d + 1, _, _, _, ⟨a, B, ex, eA, q⟩ => by
    subst ex eA
    have k : ∀ {xs vs C}, Owns (OwnV K H F d) xs vs C → (∀ b ∈ C, b ∈ a :: B) → Reps K (froz F H (a :: B)) xs vs := fun {xs vs C} os => by
      induction os with
      | nil => intro _; exact .nil
      | @cons x v xs vs A' B' p _ ih =>
        intro hs
        exact .cons ((OwnV.frozen h p).mono (froz_sub h fun b hb => hs b (List.mem_append_left _ hb))) (ih fun b hb => hs b (List.mem_append_right _ hb))
    rcases q with ⟨xs, vs, rfl, e, l, os⟩ | ⟨kvs, vs, rfl, e, l, os⟩
    · exact .lst (by rw [froz_in List.mem_cons_self]; exact e) l (k os fun b hb => List.mem_cons_of_mem _ hb)
    · exact .dct (.inl (by rw [froz_in List.mem_cons_self]; exact e)) l (k os fun b hb => List.mem_cons_of_mem _ hb)
/-- seen in the whole heap -/
theorem OwnV.seen {K : Frag} {H F : Hp} (h : FLe F H) {d : Nat} {x : V} {v : PV} {A : List Addr} (o : OwnV K H F d x v A) : Rep K H x v := (o.frozen h).mono (froz_le h A).fg
theorem Grow.frozen {Hs Fs H F : Hp} (g : Grow Hs Fs H F) {A : List Addr} (hA : ∀ a ∈ A, Hs a = none) : Grow Hs Fs H (froz F H A) where
  le := froz_le g.le A
  fg := g.fg.trans (froz_fg g.le A)
  keep := g.keep
  new := fun a o e n => by
    by_cases ha : a ∈ A
    · exact .inl (hA a ha)
    · rw [froz_out ha] at e; exact g.new a o e n

/-- a fresh answer: its own addresses are new -/
def OwnF (K : Frag) (H0 H F : Hp) (d : Nat) (x : V) (v : PV) (A : List Addr) : Prop := OwnV K H F d x v A ∧ A.Nodup ∧ ∀ a ∈ A, H0 a = none ∧ F a = none
theorem OwnF.rep {K : Frag} {H0 H F : Hp} {x : V} {v : PV} {A : List Addr} (o : OwnF K H0 H F 0 x v A) : Rep K F x v := o.1.1
theorem OwnF.of {K : Frag} {H0 H F : Hp} {x : V} {v : PV} (r : Rep K F x v) : OwnF K H0 H F 0 x v [] := ⟨⟨r, rfl⟩, List.nodup_nil, fun a h => by cases h⟩
/-- behind a fresh answer: it is frozen -/
theorem OwnF.drop {K : Frag} {H F H' F' : Hp} {d : Nat} {x : V} {v : PV} {A : List Addr} (g : Grow H F H' F') (o : OwnF K H H' F' d x v A) : Grow H F H' (froz F' H' A) ∧ Rep K (froz F' H' A) x v :=
  ⟨g.frozen fun a ha => (o.2.2 a ha).1, o.1.frozen g.le⟩

/-! ### the situation of a body -/
abbrev Dps := List Nat
def dp (δ : Dps) (i : Nat) : Nat := δ.getD i 0
structure Sit (K : Frag) (H F : Hp) (σ : L2.St) (env : PEnv) (δ : Dps) (As : Nat → List Addr) : Prop where
  le : FLe F H
  len : σ.length = env.length
  at' : ∀ i v, env[i]? = some (some v) → ∃ x, σ[i]? = some (some x) ∧ OwnV K H F (dp δ i) x v (As i)
  nd : ∀ i, (As i).Nodup
  dj : ∀ i j, i ≠ j → ∀ a ∈ As i, a ∉ As j
  fr : ∀ i, ∀ a ∈ As i, F a = none ∧ Ow (H a)
theorem Sit.grow {K : Frag} {H F H' F' : Hp} {σ : L2.St} {env : PEnv} {δ : Dps} {As : Nat → List Addr} (S : Sit K H F σ env δ As) (g : Grow H F H' F') : Sit K H' F' σ env δ As where
  le := g.le
  len := S.len
  at' := fun i v e => by
    obtain ⟨x, hx, o⟩ := S.at' i v e
    exact ⟨x, hx, o.mono g.fg fun a ha o' h => g.keep a o' (S.fr i a ha).1 h⟩
  nd := S.nd
  dj := S.dj
  fr := fun i a ha => by
    obtain ⟨n, t⟩ := S.fr i a ha
    refine ⟨g.fnone n t, ?_⟩
    cases q : H a with
    | none => exact absurd q t.ne
    | some o => rw [g.keep a o n q]; rw [q] at t; exact t
theorem getS_ok {env : PEnv} {i : Nat} {v : PV} (h : getS env i = .ok v) : env[i]? = some (some v) := by
  unfold getS at h
  split at h
  · injection h with h; subst h; assumption
  · cases h
end PY

/-! PyB2: operations on values, over the layer's rules. -/
namespace PY
open PySem L2
open PySem.Spec PyProof.Rows

section
variable {X : Cx}
theorem PE_weak {e : Expr} {t t' : TE} (h : PE X e t) (f : ∀ σ H Q, t' σ H Q → t σ H Q) : PE X e t' := ⟨fun pins s σ H Q I q => h.run pins s σ H Q I (f _ _ _ q)⟩
theorem PT_weak {e : Expr} {t t' : TT} (h : PT X e t) (f : ∀ σ H Q, t' σ H Q → t σ H Q) : PT X e t' := ⟨fun pins s σ H Q I q => h.run pins s σ H Q I (f _ _ _ q)⟩
theorem PA_weak {e : List Expr} {t t' : TA} (h : PA X e t) (f : ∀ σ H Q, t' σ H Q → t σ H Q) : PA X e t' := ⟨fun p pins s σ H Q I q => h.run p pins s σ H Q I (f _ _ _ q)⟩
theorem PI_weak {tg e : Expr} {t t' : TI} (h : PI X tg e t) (f : ∀ σ H Q, t' σ H Q → t σ H Q) : PI X tg e t' := ⟨fun pins s σ H Q I q => h.run pins s σ H Q I (f _ _ _ q)⟩
theorem PS_weak {e : Stmt} {t t' : TS} (h : PS X e t) (f : ∀ D σ H, t' D σ H → t D σ H) : PS X e t' := ⟨fun pins s σ H D I q => h.run pins s σ H D I (f _ _ _ q)⟩
theorem PSs_weak {e : List Stmt} {t t' : TS} (h : PSs X e t) (f : ∀ D σ H, t' D σ H → t D σ H) : PSs X e t' := ⟨fun pins s σ H D I q => h.run pins s σ H D I (f _ _ _ q)⟩
theorem PG_weak {e : Expr} {t t' : TG} (h : PG X e t) (f : ∀ v σ H Q, t' v σ H Q → t v σ H Q) : PG X e t' := ⟨fun pins s σ H v u Q I r q => h.run pins s σ H v u Q I r (f _ _ _ _ q)⟩
end

/-! ### pure data as the library's data -/
mutual
def toD : PV → PyData
  | .non => .none
  | .bl b => .bool b
  | .int i => .int i
  | .str x => .str x
  | .tup xs => .tuple (toDs xs)
  | .lst xs => .list (toDs xs)
  | .dct _ _ => .none
  | .scr _ => .none
def toDs : List PV → List PyData
  | [] => []
  | x :: xs => toD x :: toDs xs
end
mutual
theorem Rep.dp {K : Frag} {H : Hp} : ∀ {x : V} {v : PV}, Rep K H x v → dataP v = true → Dp K H x (toD v) ∧ (toD v).canLay0 = true
  | _, _, .non, _ => ⟨.non, rfl⟩
  | _, _, .bl b, _ => ⟨.bl b, rfl⟩
  | _, _, .int i, _ => ⟨.int i, rfl⟩
  | _, _, .str x k l, _ => ⟨.str x, by simp only [toD, PyData.canLay0]; exact k⟩
  | _, _, .tup s l r, h => by
    obtain ⟨a, b⟩ := Reps.dp r (by simpa [dataP] using h)
    exact ⟨by simp only [toD]; exact .tup (SqT.of s) a, by simp only [toD, PyData.canLay0]; exact b⟩
  | _, _, .lst s l r, h => by
    obtain ⟨a, b⟩ := Reps.dp r (by simpa [dataP] using h)
    exact ⟨by simp only [toD]; exact .lst (SqL.of s) a, by simp only [toD, PyData.canLay0]; exact b⟩
  | _, _, .dct s l r, h => by simp [dataP] at h
  | _, _, .scr s l, h => by simp [dataP] at h
theorem Reps.dp {K : Frag} {H : Hp} : ∀ {xs : List V} {vs : List PV}, Reps K H xs vs → dataPs vs = true → DpAll K H xs (toDs vs) ∧ PyData.canLayAll0 (toDs vs) = true
  | _, _, .nil, _ => ⟨.nil, rfl⟩
  | _, _, .cons (v := v) (vs := vs) r rs, h => by
    have h' : dataP v = true ∧ dataPs vs = true := by simpa [dataPs] using h
    obtain ⟨a, b⟩ := Rep.dp r h'.1
    obtain ⟨c, d⟩ := Reps.dp rs h'.2
    exact ⟨by simp only [toDs]; exact .cons a c, by simp only [toDs, PyData.canLayAll0, b, d]; rfl⟩
end
mutual
theorem depth_toD : ∀ v : PV, (toD v).depth = depthP v
  | .non => rfl
  | .bl b => rfl
  | .int i => rfl
  | .str x => rfl
  | .tup xs => by simp only [toD, PyData.depth, depthP, depth_toDs xs]
  | .lst xs => by simp only [toD, PyData.depth, depthP, depth_toDs xs]
  | .dct _ _ => rfl
  | .scr _ => rfl
theorem depth_toDs : ∀ vs : List PV, PyData.depthAll (toDs vs) = depthPs vs
  | [] => rfl
  | x :: xs => by simp only [toDs, PyData.depthAll, depthPs, depth_toD x, depth_toDs xs]
end
mutual
theorem eqv_toD : ∀ a b : PV, dataP a = true → dataP b = true → PyData.eqv (toD a) (toD b) = eqv a b
  | .non, b, _, hb => by cases b <;> first | rfl | (simp [dataP] at hb)
  | .bl a, b, _, hb => by cases b <;> first | rfl | (simp [dataP] at hb)
  | .int a, b, _, hb => by cases b <;> first | rfl | (simp [dataP] at hb)
  | .str a, b, _, hb => by cases b <;> first | rfl | (simp [dataP] at hb)
  | .tup xs, b, ha, hb => by
    cases b with
    | tup ys => simp only [toD, PyData.eqv, eqv]; exact eqv_toDs xs ys (by simpa [dataP] using ha) (by simpa [dataP] using hb)
    | dct _ _ => simp [dataP] at hb
    | scr _ => simp [dataP] at hb
    | _ => rfl
  | .lst xs, b, ha, hb => by
    cases b with
    | lst ys => simp only [toD, PyData.eqv, eqv]; exact eqv_toDs xs ys (by simpa [dataP] using ha) (by simpa [dataP] using hb)
    | dct _ _ => simp [dataP] at hb
    | scr _ => simp [dataP] at hb
    | _ => rfl
  | .dct _ _, _, ha, _ => by simp [dataP] at ha
  | .scr _, _, ha, _ => by simp [dataP] at ha
theorem eqv_toDs : ∀ xs ys : List PV, dataPs xs = true → dataPs ys = true → PyData.eqvAll (toDs xs) (toDs ys) = eqvs xs ys
  | [], [], _, _ => rfl
  | [], _ :: _, _, _ => rfl
  | _ :: _, [], _, _ => rfl
  | x :: xs, y :: ys, ha, hb => by
    have h1 : dataP x = true ∧ dataPs xs = true := by simpa [dataPs] using ha
    have h2 : dataP y = true ∧ dataPs ys = true := by simpa [dataPs] using hb
    simp only [toDs, PyData.eqvAll, eqvs, eqv_toD x y h1.1 h2.1, eqv_toDs xs ys h1.2 h2.2]
end
theorem shaped_toD {K : Frag} {H : Hp} {x : V} {v : PV} (r : Rep K H x v) (h : shapedP v = true) : Dp K H x (toD v) ∧ SeqAt.shaped (toD v) = true ∧ dataP v = true := by
  unfold shapedP at h
  rw [Bool.and_eq_true, decide_eq_true_eq] at h
  obtain ⟨a, b⟩ := r.dp h.1
  refine ⟨a, ?_, h.1⟩
  show ((toD v).canLay0 && decide ((toD v).depth ≤ 64)) = true
  rw [b, depth_toD, Bool.true_and]
  exact decide_eq_true h.2

/-! ### keys -/
theorem kV_of1 {K : Frag} {F : Hp} {x : V} {v : PV} {k : PKey} (r : Rep K F x v) (h : keyOf1 v = some k) : x = kV k := by
  cases r <;> first | (cases h; rfl) | (cases h)
theorem kVs_of {K : Frag} {F : Hp} : ∀ {xs : List V} {vs : List PV} {ks : List PKey}, Reps K F xs vs → keysOf vs = some ks → xs = ks.map kV
  | _, _, ks, .nil, h => by cases h; rfl
  | _, _, ks, .cons r rs, h => by
    unfold keysOf at h
    split at h
    · rename_i k ks' h1 h2
      cases h
      rw [kV_of1 r h1, kVs_of rs h2]; rfl
    · cases h
theorem key_of_rep {K : Frag} {F : Hp} {x : V} {v : PV} {k : List PKey} (r : Rep K F x v) (h : keyOf v = some k) : ∃ b, x = .ref b ∧ F b = some (.tup (k.map kV)) := by
  cases r with
  | tup s l rs =>
    have h' : keysOf _ = some k := h
    rw [kVs_of rs h'] at s
    exact ⟨_, rfl, s⟩
  | non => cases h
  | bl b => cases h
  | int i => cases h
  | str x _ _ => cases h
  | lst _ _ _ => cases h
  | dct _ _ _ => cases h
  | scr _ _ => cases h
theorem key_good {K : Frag} {F : Hp} {x : V} {v : PV} {k : List PKey} (r : Rep K F x v) (h : keyOf v = some k) : kGood k := by
  obtain ⟨b, rfl, eb⟩ := key_of_rep r h
  cases r with
  | tup s l rs =>
    rw [s] at eb
    have hx := HO.tup.inj (Option.some.inj eb)
    subst hx
    refine ⟨fun z hz => ?_, by simpa using l⟩
    have hm : V.str z ∈ k.map kV := List.mem_map.mpr ⟨_, hz, rfl⟩
    obtain ⟨i, hi⟩ := List.getElem?_of_mem hm
    obtain ⟨w, _, rw'⟩ := rs.getX hi
    cases rw' with
    | str _ ok l => exact ⟨ok, l⟩
  | lst _ _ _ => cases h
  | dct _ _ _ => cases h
  | scr _ _ => cases h
theorem dget_val {P : List V → List PV → Prop} {K : Frag} {F : Hp} : ∀ {kvs : List (List PKey × V)} {vs : List PV} {k : List PKey}, Reps K F (kvs.map (·.2)) vs →
    (dget (kvs.map (·.1)) vs k = none ∧ valV kvs k = none) ∨ ∃ v x, dget (kvs.map (·.1)) vs k = some v ∧ valV kvs k = some x ∧ Rep K F x v
  | [], _, k, .nil => .inl ⟨rfl, rfl⟩
  | (q, x) :: kvs, _, k, .cons (v := v) (vs := vs) r rs => by
    by_cases h : q = k
    · subst h
      exact .inr ⟨v, x, by simp [dget], valV_pos rfl, r⟩
    · rcases dget_val (P := P) (k := k) rs with ⟨a, b⟩ | ⟨v', x', a, b, c⟩
      · exact .inl ⟨by simp only [List.map_cons, dget, if_neg h]; exact a, by rw [valV_neg (p := (q, x)) h]; exact b⟩
      · exact .inr ⟨v', x', by simp only [List.map_cons, dget, if_neg h]; exact a, by rw [valV_neg (p := (q, x)) h]; exact b, c⟩

/-! ### places -/
theorem ixP_eq (n : Nat) (i : Int) : ixP n i = ixN n i := rfl
theorem sIxP_eq (n d : Nat) (o : Option Int) : sIxP n d o = HT.sIx n d o := by
  unfold sIxP HT.sIx
  cases o with
  | none => rfl
  | some v =>
    first
      | rfl
      | (simp only; split <;> first | rfl | omega)
theorem atP_ok {K : Frag} {F : Hp} {xs : List V} {vs : List PV} {i : Int} {v : PV} (r : Reps K F xs vs) (h : atP vs i = .ok v) : ∃ x, atI xs i = some x ∧ Rep K F x v := by
  unfold atP at h
  split at h
  · rename_i j hj
    split at h
    · rename_i w hw
      cases h
      obtain ⟨x, hx, q⟩ := r.get hw
      refine ⟨x, ?_, q⟩
      unfold atI
      rw [r.length, ← ixP_eq, hj]
      exact hx
    · cases h
  · cases h
end PY

/-! PyB3: ownership lowered; readings of expressions; operators. -/
namespace PY
open PySem L2
open PySem.Spec PyProof.Rows

theorem Owns.lower_of {K : Frag} {H F : Hp} (h : FLe F H) {d m : Nat} (ih : ∀ {x : V} {v : PV} {A : List Addr}, OwnV K H F d x v A → A.Nodup → ∃ A' B, A'.Sublist A ∧ (∀ a ∈ B, a ∈ A ∧ a ∉ A') ∧ OwnV K H (froz F H B) m x v A') :
    ∀ {xs : List V} {vs : List PV} {A : List Addr}, Owns (OwnV K H F d) xs vs A → A.Nodup → ∃ A' B, A'.Sublist A ∧ (∀ a ∈ B, a ∈ A ∧ a ∉ A') ∧ Owns (OwnV K H (froz F H B) m) xs vs A' := fun {xs vs A} os => by
  induction os with
  | nil => intro _; exact ⟨[], [], .slnil, (fun a ha => by cases ha), Owns.nil⟩
  | @cons x v xs vs A1 A2 p _ ih2 =>
    intro nd
    obtain ⟨n1, n2, dj⟩ := List.nodup_append.mp nd
    obtain ⟨B1, C1, s1, c1, o1⟩ := ih p n1
    obtain ⟨B2, C2, s2, c2, o2⟩ := ih2 n2
    refine ⟨B1 ++ B2, C1 ++ C2, s1.append s2, fun a ha => ?_, ?_⟩
    · rcases List.mem_append.mp ha with ha | ha
      · refine ⟨List.mem_append_left _ (c1 a ha).1, fun hb => ?_⟩
        rcases List.mem_append.mp hb with hb | hb
        · exact (c1 a ha).2 hb
        · exact dj a (c1 a ha).1 a (s2.subset hb) rfl
      · refine ⟨List.mem_append_right _ (c2 a ha).1, fun hb => ?_⟩
        rcases List.mem_append.mp hb with hb | hb
        · exact dj a (s1.subset hb) a (c2 a ha).1 rfl
        · exact (c2 a ha).2 hb
    · exact .cons (o1.mono (froz_sub h fun a ha => List.mem_append_left _ ha) fun a _ o e => e)
        (o2.imp fun x v B _ q => q.mono (froz_sub h fun a ha => List.mem_append_right _ ha) fun a _ o e => e)
theorem OwnV.lower {K : Frag} {H F : Hp} (h : FLe F H) : ∀ {d m : Nat} {x : V} {v : PV} {A : List Addr}, m ≤ d → OwnV K H F d x v A → A.Nodup → ∃ A' B, A'.Sublist A ∧ (∀ a ∈ B, a ∈ A ∧ a ∉ A') ∧ OwnV K H (froz F H B) m x v A'
  | d, 0, x, v, A, _, o, _ => ⟨[], A, List.nil_sublist _, fun a ha => ⟨ha, by simp⟩, o.frozen h, rfl⟩
  | 0, m + 1, _, _, _, hm, _, _ => absurd hm (by omega)
  | d + 1, m + 1, _, _, _, hm, ⟨a, B, ex, eA, q⟩, nd => by
    subst ex eA
    obtain ⟨na, nB⟩ := List.nodup_cons.mp nd
    rcases q with ⟨xs, vs, rfl, e, l, os⟩ | ⟨kvs, vs, rfl, e, l, os⟩
    · obtain ⟨A', C, s, c, o⟩ := Owns.lower_of h (fun p n => OwnV.lower h (Nat.le_of_succ_le_succ hm) p n) os nB
      refine ⟨a :: A', C, s.cons₂ a, fun b hb => ⟨List.mem_cons_of_mem _ (c b hb).1, fun z => ?_⟩, a, A', rfl, rfl, .inl ⟨xs, vs, rfl, e, l, o⟩⟩
      rcases List.mem_cons.mp z with rfl | z
      · exact na (c b hb).1
      · exact (c b hb).2 z
    · obtain ⟨A', C, s, c, o⟩ := Owns.lower_of h (fun p n => OwnV.lower h (Nat.le_of_succ_le_succ hm) p n) os nB
      refine ⟨a :: A', C, s.cons₂ a, fun b hb => ⟨List.mem_cons_of_mem _ (c b hb).1, fun z => ?_⟩, a, A', rfl, rfl, .inr ⟨kvs, vs, rfl, e, l, o⟩⟩
      rcases List.mem_cons.mp z with rfl | z
      · exact na (c b hb).1
      · exact (c b hb).2 z
theorem OwnF.lower {K : Frag} {H F H' F' : Hp} {d m : Nat} {x : V} {v : PV} {A : List Addr} (g : Grow H F H' F') (hm : m ≤ d) (o : OwnF K H H' F' d x v A) : ∃ F'' A', Grow H F H' F'' ∧ OwnF K H H' F'' m x v A' := by
  obtain ⟨A', B, s, c, o'⟩ := o.1.lower g.le hm o.2.1
  refine ⟨froz F' H' B, A', g.frozen fun a ha => (o.2.2 a (c a ha).1).1, o', o.2.1.sublist s, fun a ha => ?_⟩
  have hb : a ∉ B := fun z => (c a z).2 ha
  exact ⟨(o.2.2 a (s.subset ha)).1, by rw [froz_out hb]; exact (o.2.2 a (s.subset ha)).2⟩

/-- a new list over frozen items: frozen, or one's own -/
theorem laid_lst {K : Frag} {H F : Hp} (le : FLe F H) {p : Addr} (np : H p = none) {xs : List V} {vs : List PV} (r : Reps K F xs vs) (l : xs.length ≤ lim) :
    Grow H F (upd H p (.lst xs)) F ∧ OwnF K H (upd H p (.lst xs)) F 1 (.ref p) (.lst vs) [p] := by
  have nf : F p = none := by
    cases q : F p with
    | none => rfl
    | some u => rw [le _ _ q] at np; cases np
  refine ⟨.laid' le np _, ⟨p, [], rfl, rfl, .inl ⟨xs, vs, rfl, upd_same, l, Owns.ofReps r⟩⟩, by simp, fun a ha => ?_⟩
  have e : a = p := by simpa using ha
  subst e
  exact ⟨np, nf⟩
theorem laid_tup {K : Frag} {H F : Hp} (le : FLe F H) {p : Addr} (np : H p = none) {xs : List V} {vs : List PV} (r : Reps K F xs vs) (l : xs.length ≤ lim) :
    Grow H F (upd H p (.tup xs)) (upd F p (.tup xs)) ∧ Rep K (upd F p (.tup xs)) (.ref p) (.tup vs) := by
  have g := Grow.laid le np (.tup xs)
  exact ⟨g, .tup upd_same l (r.mono g.fg)⟩
/-- .. over items of one's own -/
theorem laid_own {K : Frag} {H0 H F : Hp} (le : FLe F H) {p : Addr} (np : H p = none) (n0 : H0 p = none) {m : Nat} {xs : List V} {vs : List PV} {A : List Addr} (os : Owns (OwnV K H F m) xs vs A) (nd : A.Nodup) (nw : ∀ a ∈ A, H0 a = none ∧ F a = none)
    (th : ∀ a ∈ A, H a ≠ none) (l : xs.length ≤ lim) : OwnF K H0 (upd H p (.lst xs)) F (m + 1) (.ref p) (.lst vs) (p :: A) := by
  have nf : F p = none := by
    cases q : F p with
    | none => rfl
    | some u => rw [le _ _ q] at np; cases np
  have pA : p ∉ A := fun z => th p z np
  refine ⟨⟨p, A, rfl, rfl, .inl ⟨xs, vs, rfl, upd_same, l, os.imp fun x v B hb q => q.mono (.refl F) fun a ha o e => ?_⟩⟩, List.nodup_cons.mpr ⟨pA, nd⟩, fun a ha => ?_⟩
  · rw [upd_ne (fun z => by subst z; exact pA (hb _ ha))]; exact e
  · rcases List.mem_cons.mp ha with rfl | ha
    · exact ⟨n0, nf⟩
    · exact nw a ha

/-! ### readings -/
section
variable (K : Frag) (Φ : Fns) (δ : Dps)
/-- e stands for c; its answer is one's own to depth m -/
def tO (m : Nat) (c : CE) : TE := fun σ H Q => ∃ F env As, Sit K H F σ env δ As ∧ ∃ v, evE Φ c env = .ok v ∧ ∀ x H' F' A, Grow H F H' F' → OwnF K H H' F' m x v A → Q x H'
def OwnsF (H0 H F : Hp) (m : Nat) (xs : List V) (vs : List PV) (A : List Addr) : Prop := Owns (OwnV K H F m) xs vs A ∧ A.Nodup ∧ ∀ a ∈ A, H0 a = none ∧ F a = none
def tOs (m : Nat) (cs : List CE) : TA := fun σ H Q => ∃ F env As, Sit K H F σ env δ As ∧ ∃ vs, evEs Φ cs env = .ok vs ∧ ∀ xs H' F' A, Grow H F H' F' → OwnsF K H H' F' m xs vs A → Q xs H'
/-- a test -/
def tT (c : CE) : TT := fun σ H Q => ∃ F env As, Sit K H F σ env δ As ∧ ∃ b, evE Φ c env = .ok (.bl b) ∧ ∀ H' F', Grow H F H' F' → Q b H'
/-- borrowed: own to depth d or frozen, seen where it stands -/
def tW (d : Nat) (c : CE) : TE := fun σ H Q => ∃ F env As, Sit K H F σ env δ As ∧ ∃ v, evE Φ c env = .ok v ∧ ∀ x H' F' A, Grow H F H' F' → OwnV K H' F' d x v A → (∀ a ∈ A, F' a = none) → Q x H'
end
variable {K : Frag} {Φ : Fns} {δ : Dps} {X : Cx}
theorem tO_lower {m n : Nat} (h : m ≤ n) {c : CE} {σ : L2.St} {H : Hp} {Q : VK} (q : tO K Φ δ m c σ H Q) : tO K Φ δ n c σ H Q := by
  obtain ⟨F, env, As, S, v, hv, k⟩ := q
  refine ⟨F, env, As, S, v, hv, fun x H' F' A g o => ?_⟩
  obtain ⟨F'', A', g', o'⟩ := o.lower g h
  exact k x H' F'' A' g' o'
theorem tOs_zero {cs : List CE} {σ : L2.St} {H : Hp} {Q : List V → Hp → Prop} (q : ∃ F env As, Sit K H F σ env δ As ∧ ∃ vs, evEs Φ cs env = .ok vs ∧ ∀ xs H' F', Grow H F H' F' → Reps K F' xs vs → Q xs H') : tOs K Φ δ 0 cs σ H Q := by
  obtain ⟨F, env, As, S, vs, hv, k⟩ := q
  exact ⟨F, env, As, S, vs, hv, fun xs H' F' A g o => k xs H' F' g o.1.zero.1⟩

theorem Owns.there {H F : Hp} {m : Nat} {xs : List V} {vs : List PV} {A : List Addr} (os : Owns (OwnV K H F m) xs vs A) : ∀ a ∈ A, H a ≠ none := by
  induction os with
  | nil => intro a ha; cases ha
  | cons p _ ih =>
    intro a ha
    rcases List.mem_append.mp ha with ha | ha
    · exact p.there a ha
    · exact ih a ha
theorem tOs_nil {m : Nat} {σ : L2.St} {H : Hp} {Q : List V → Hp → Prop} (q : tOs K Φ δ m [] σ H Q) : tNil σ H Q := by
  obtain ⟨F, env, As, S, vs, hv, k⟩ := q
  cases hv
  exact k [] H F [] (.refl S.le) ⟨Owns.nil, List.nodup_nil, (fun a h => by cases h)⟩
theorem tOs_cons {m : Nat} {c : CE} {cs : List CE} {σ : L2.St} {H : Hp} {Q : List V → Hp → Prop} (q : tOs K Φ δ m (c :: cs) σ H Q) : tCons (tO K Φ δ m c) (tOs K Φ δ m cs) σ H Q := by
  obtain ⟨F, env, As, S, vs, hv, k⟩ := q
  unfold evEs at hv
  obtain ⟨v, h1, hv⟩ := R.bind_eq_ok hv
  obtain ⟨ws, h2, hv⟩ := R.bind_eq_ok hv
  cases hv
  refine ⟨F, env, As, S, v, h1, fun x H1 F1 A1 g1 o1 => ⟨F1, env, As, S.grow g1, ws, h2, fun xs H2 F2 A2 g2 o2 => ?_⟩⟩
  refine k _ _ _ (A1 ++ A2) (g1.trans g2) ⟨.cons (o1.1.mono g2.fg fun a ha o e => g2.keep a o (o1.2.2 a ha).2 e) o2.1, ?_, fun a ha => ?_⟩
  · refine List.nodup_append.mpr ⟨o1.2.1, o2.2.1, fun a ha b hb e => ?_⟩
    subst e
    exact o1.1.there a ha (o2.2.2 a hb).1
  · rcases List.mem_append.mp ha with ha | ha
    · exact ⟨(o1.2.2 a ha).1, g2.fnone (o1.2.2 a ha).2 (o1.1.thereO a ha)⟩
    · exact ⟨g1.noneE S.le (o2.2.2 a ha).1, (o2.2.2 a ha).2⟩

/-! ### operators -/
def opB : Bin → Operator
  | .add => .Add | .sub => .Sub | .mul => .Mult | .fdiv => .FloorDiv | .mod => .Mod | .pow => .Pow
/-- what a binary operation owns of its answer -/
def rBin (K : Frag) (op : Bin) (m : Nat) : R2 := fun x y H Q => ∃ F vx vy v, FLe F H ∧ Rep K F x vx ∧ Rep K F y vy ∧ binP op vx vy = .ok v ∧ (m = 0 ∨ m = 1 ∧ ∃ l, v = .lst l) ∧ ∀ z H' F' A, Grow H F H' F' → OwnF K H H' F' m z v A → Q z H'
theorem lowerK {H F H' F' : Hp} {m d : Nat} {z : V} {v : PV} {Q : V → Hp → Prop} {A : List Addr} (hm : m ≤ d) (g : Grow H F H' F') (o : OwnF K H H' F' d z v A) (k : ∀ z H' F' A, Grow H F H' F' → OwnF K H H' F' m z v A → Q z H') : Q z H' := by
  obtain ⟨F'', A', g', o'⟩ := o.lower g hm
  exact k z H' F'' A' g' o'
theorem atom_int {H F : Hp} (le : FLe F H) {m : Nat} {i : Int} {Q : V → Hp → Prop} (hm : m = 0 ∨ m = 1 ∧ ∃ l, PV.int i = .lst l) (k : ∀ z H' F' A, Grow H F H' F' → OwnF K H H' F' m z (.int i) A → Q z H') : Q (.int i) H := by
  rcases hm with rfl | ⟨_, l, e⟩
  · exact k _ _ _ _ (.refl le) (OwnF.of (.int i))
  · cases e
theorem repP_eq (xs : List PV) (k : Nat) : repP xs k = (List.replicate k xs).flatten := rfl
theorem or_bin (op : Bin) (m : Nat) : OpR X (binaryOp (opB op)) (rBin X.K op m) := by
  intro pins s σ H x y v u Q I rx ry h
  obtain ⟨F, vx, vy, w, le, px, py, hb, hm, k⟩ := h
  have hml : m ≤ 1 := by rcases hm with rfl | ⟨rfl, _⟩ <;> omega
  cases op with
  | add =>
    cases px <;> cases py <;> first | (simp [binP] at hb; done) | skip
    · simp only [binP] at hb; cases hb
      exact op_add pins s σ H _ _ v u Q I rx ry ⟨_, _, rfl, rfl, atom_int le hm k⟩
    · rename_i a xs vs hx lx rxs b ys ws hy ly rys
      simp only [binP] at hb
      split at hb
      · rename_i hl
        cases hb
        refine op_cat pins s σ H _ _ v u Q I rx ry ⟨a, b, xs, ys, rfl, rfl, le _ _ hx, le _ _ hy, by rw [lim_eq, rxs.length, rys.length]; exact hl, fun p np => ?_⟩
        obtain ⟨g, o⟩ := laid_lst le np (rxs.append rys) (by rw [List.length_append, rxs.length, rys.length]; exact hl)
        exact lowerK hml g o k
      · cases hb
  | sub =>
    cases px <;> cases py <;> first | (simp [binP] at hb; done) | skip
    simp only [binP] at hb; cases hb
    exact op_sub pins s σ H _ _ v u Q I rx ry ⟨_, _, rfl, rfl, atom_int le hm k⟩
  | mul =>
    cases px <;> cases py <;> first | (simp [binP] at hb; done) | skip
    · simp only [binP] at hb
      split at hb
      · rename_i hc
        cases hb
        unfold mulOk at hc
        exact op_mul pins s σ H _ _ v u Q I rx ry ⟨_, _, rfl, rfl, (by have q := of_decide_eq_true hc; exact q), atom_int le hm k⟩
      · cases hb
    · rename_i a xs vs hx lx rxs j
      simp only [binP] at hb
      split at hb
      · rename_i hc
        cases hb
        simp only [Bool.and_eq_true, decide_eq_true_eq] at hc
        obtain ⟨⟨h1, h2⟩, h3⟩ := hc
        refine op_rep pins s σ H _ _ v u Q I rx ry ⟨a, j, xs, rfl, rfl, le _ _ hx, h1, h2, by rw [lim_eq, rxs.length]; exact h3, fun p np => ?_⟩
        obtain ⟨g, o⟩ := laid_lst le np (rxs.rep j.toNat) (by rw [PyProof.Rows.lm_len_rep_flat, Nat.mul_comm, rxs.length]; exact h3)
        exact lowerK hml g o k
      · cases hb
  | fdiv =>
    cases px <;> cases py <;> first | (simp [binP] at hb; done) | skip
    simp only [binP] at hb
    split at hb
    · rename_i hc
      cases hb
      have hc := of_decide_eq_true hc
      refine op_fdivW pins s σ H _ _ v u Q I rx ry ⟨_, _, rfl, rfl, wide_div (b := 64) hc.1 (by have := hc.2; omega) (by decide) (by decide), atom_int le hm k⟩
    · cases hb
  | mod =>
    cases px <;> cases py <;> first | (simp [binP] at hb; done) | skip
    simp only [binP] at hb
    split at hb
    · rename_i hc
      cases hb
      exact op_mod pins s σ H _ _ v u Q I rx ry ⟨_, _, rfl, rfl, of_decide_eq_true hc, atom_int le hm k⟩
    · cases hb
  | pow =>
    cases px <;> cases py <;> first | (simp [binP] at hb; done) | skip
    simp only [binP] at hb
    split at hb
    · rename_i hc
      cases hb
      exact op_pow pins s σ H _ _ v u Q I rx ry ⟨_, _, rfl, rfl, (by have q := of_decide_eq_true hc; exact q), atom_int le hm k⟩
    · cases hb
end PY

/-! PyB4: comparisons, places, slices, built-ins, isinstance. -/
namespace PY
open PySem L2
open PySem.Spec PyProof.Rows
variable {K : Frag} {Φ : Fns} {δ : Dps} {X : Cx}

def opC : Cmp → CmpOp
  | .eq => .Eq | .ne => .NotEq | .lt => .Lt | .le => .LtE | .gt => .Gt | .ge => .GtE | .is => .Is | .isnot => .IsNot | .inn => .In | .notin => .NotIn
def rCmp (K : Frag) (op : Cmp) : R2 := fun x y H Q => ∃ vx vy b, Rep K H x vx ∧ Rep K H y vy ∧ cmpP op vx vy = .ok b ∧ Q (.bl b) H
theorem any_eqv {y : PV} : ∀ {xs : List PV}, dataPs xs = true → dataP y = true → ((toDs xs).any fun z => PyData.eqv z (toD y)) = xs.any fun z => eqv z y
  | [], _, _ => rfl
  | x :: xs, h, hy => by
    have h' : dataP x = true ∧ dataPs xs = true := by simpa [dataPs] using h
    simp only [toDs, List.any_cons, eqv_toD x y h'.1 hy, any_eqv h'.2 hy]
theorem data_lst {xs : List PV} (h : dataP (.lst xs) = true) : dataPs xs = true := by simpa [dataP] using h
theorem inSeqP_ok {x : PV} {ys : List PV} {b : Bool} (h : inSeqP x ys = .ok b) : shapedP x = true ∧ shapedP (.lst ys) = true ∧ b = ys.any fun y => eqv y x := by
  unfold inSeqP at h
  split at h
  · rename_i hc
    rw [Bool.and_eq_true] at hc
    cases h
    exact ⟨hc.1, hc.2, rfl⟩
  · cases h
theorem is_non {K : Frag} {H : Hp} {x : V} {v : PV} (r : Rep K H x v) : decide (x = V.non) = isNon v := by
  cases r <;> rfl
theorem shaped_tup {ys : List PV} (h : shapedP (.lst ys) = true) : shapedP (.tup ys) = true := h

/-- x in y, by the library's rules -/
theorem in_core {neg : Bool} (hu : X.A.units + 65 < cLine) {pins : List (Addr × Obj)} {s : Shared} {σ : L2.St} {H : Hp} {x y : V} {v u : Value} {Q : VK} {vx vy : PV} {b : Bool} (I : Inv X pins σ H s) (rx : RelV x v) (ry : RelV y u) (px : Rep X.K H x vx) (py : Rep X.K H y vy)
    (hb : inP vx vy = .ok b) (q : Q (.bl (if neg then !b else b)) H) : wpAny (model X.prog X.w) X.A (compareOp (if neg then .NotIn else .In) v u) (EP X pins σ Q) X.xe s := by
  cases py with
  | lst s1 l rs =>
    rename_i a xs vs
    obtain ⟨h1, h2, e⟩ := inSeqP_ok (show inSeqP vx vs = .ok b from hb)
    obtain ⟨d1, s1', da1⟩ := shaped_toD px h1
    obtain ⟨d2, s2', da2⟩ := shaped_toD (v := .lst vs) (.lst s1 l rs) h2
    obtain ⟨as, r1⟩ := Dp.reads I _ x v d1 rx
    obtain ⟨bs, r2⟩ := Dp.reads I (.list (toDs vs)) _ u (by simpa only [toD] using d2) ry
    have s2'' : SeqAt.shaped (.list (toDs vs)) = true := by simpa only [toD] using s2'
    have ea := any_eqv (y := vx) (data_lst da2) da1
    cases neg with
    | false =>
      refine SeqAt.in_list_reads r2 r1 (SeqAt.canLay_of_shaped s2'') (SeqAt.canLay_of_shaped s1') (room_in_shaped s1' hu) ⟨.bl b, H, I, ?_, q⟩
      rw [ea, ← e]; rfl
    | true =>
      refine SeqAt.notIn_list_reads r2 r1 (SeqAt.canLay_of_shaped s2'') (SeqAt.canLay_of_shaped s1') (room_in_shaped s1' hu) ⟨.bl (!b), H, I, ?_, q⟩
      rw [ea, ← e]; rfl
  | tup s1 l rs =>
    rename_i a xs vs
    obtain ⟨h1, h2, e⟩ := inSeqP_ok (show inSeqP vx vs = .ok b from hb)
    obtain ⟨d1, s1', da1⟩ := shaped_toD px h1
    obtain ⟨d2, s2', da2⟩ := shaped_toD (v := .tup vs) (.tup s1 l rs) (shaped_tup h2)
    obtain ⟨as, r1⟩ := Dp.reads I _ x v d1 rx
    obtain ⟨bs, r2⟩ := Dp.reads I (.tuple (toDs vs)) _ u (by simpa only [toD] using d2) ry
    have s2'' : SeqAt.shaped (.tuple (toDs vs)) = true := by simpa only [toD] using s2'
    have ea := any_eqv (y := vx) (data_lst (show dataP (.lst vs) = true from da2)) da1
    cases neg with
    | false =>
      refine SeqAt.in_tuple_reads r2 r1 (SeqAt.canLay_of_shaped s2'') (SeqAt.canLay_of_shaped s1') (room_in_shaped s1' hu) ⟨.bl b, H, I, ?_, q⟩
      rw [ea, ← e]; rfl
    | true =>
      refine SeqAt.notIn_tuple_reads r2 r1 (SeqAt.canLay_of_shaped s2'') (SeqAt.canLay_of_shaped s1') (room_in_shaped s1' hu) ⟨.bl (!b), H, I, ?_, q⟩
      rw [ea, ← e]; rfl
  | dct s1 _ rs =>
    rename_i a kvs vs _
    simp only [inP] at hb
    split at hb
    · rename_i k hk
      cases hb
      obtain ⟨c, rfl, ec⟩ := key_of_rep px hk
      have e2 : (dget (kvs.map (·.1)) vs k).isSome = (valV kvs k).isSome := by
        rcases dget_val (P := fun _ _ => True) (k := k) rs with ⟨z1, z2⟩ | ⟨v', x', z1, z2, _⟩ <;> rw [z1, z2] <;> rfl
      rw [e2] at q
      cases (show u = Value.ref a from ry)
      cases neg with
      | false => exact d_in (by omega) I (.inr ⟨kvs, k, c, s1, rfl, ec, rfl⟩) rx fun s' I' => ⟨.bl (valV kvs k).isSome, H, I', rfl, q⟩
      | true => exact d_notIn (by omega) I (.inr ⟨kvs, k, c, s1, rfl, ec, rfl⟩) rx fun s' I' => ⟨.bl (!(valV kvs k).isSome), H, I', rfl, q⟩
    · cases hb
  | non => cases hb
  | bl _ => cases hb
  | int _ => cases hb
  | str _ _ _ => cases hb
  | scr _ _ => cases hb
theorem or_cmp (hu : X.A.units + 65 < cLine) (op : Cmp) : OpR X (compareOp (opC op)) (rCmp X.K op) := by
  intro pins s σ H x y v u Q I rx ry h
  obtain ⟨vx, vy, b, px, py, hb, q⟩ := h
  cases op with
  | eq =>
    simp only [cmpP, eqP] at hb
    split at hb
    · rename_i hc
      rw [Bool.and_eq_true] at hc
      cases hb
      obtain ⟨d1, s1, a1⟩ := shaped_toD px hc.1
      obtain ⟨d2, s2, a2⟩ := shaped_toD py hc.2
      exact op_eqD (by omega) pins s σ H x y v u Q I rx ry ⟨_, _, d1, d2, s1, s2, by rw [eqv_toD _ _ a1 a2]; exact q⟩
    · cases hb
  | ne =>
    simp only [cmpP, eqP] at hb
    split at hb
    · rename_i hc
      rw [Bool.and_eq_true] at hc
      cases hb
      obtain ⟨d1, s1, a1⟩ := shaped_toD px hc.1
      obtain ⟨d2, s2, a2⟩ := shaped_toD py hc.2
      exact op_neD (by omega) pins s σ H x y v u Q I rx ry ⟨_, _, d1, d2, s1, s2, by rw [eqv_toD _ _ a1 a2]; exact q⟩
    · cases hb
  | lt =>
    cases px <;> cases py <;> first | (simp [cmpP] at hb; done) | skip
    simp only [cmpP] at hb; cases hb
    exact op_lt pins s σ H _ _ v u Q I rx ry ⟨_, _, rfl, rfl, q⟩
  | le =>
    cases px <;> cases py <;> first | (simp [cmpP] at hb; done) | skip
    simp only [cmpP] at hb; cases hb
    exact op_le pins s σ H _ _ v u Q I rx ry ⟨_, _, rfl, rfl, q⟩
  | gt =>
    cases px <;> cases py <;> first | (simp [cmpP] at hb; done) | skip
    simp only [cmpP] at hb; cases hb
    exact op_gt pins s σ H _ _ v u Q I rx ry ⟨_, _, rfl, rfl, q⟩
  | ge =>
    cases px <;> cases py <;> first | (simp [cmpP] at hb; done) | skip
    simp only [cmpP] at hb; cases hb
    exact op_ge pins s σ H _ _ v u Q I rx ry ⟨_, _, rfl, rfl, q⟩
  | is =>
    cases py <;> first | (simp [cmpP] at hb; done) | skip
    simp only [cmpP] at hb; cases hb
    exact op_isN pins s σ H _ _ v u Q I rx ry ⟨rfl, by rw [is_non px]; exact q⟩
  | isnot =>
    cases py <;> first | (simp [cmpP] at hb; done) | skip
    simp only [cmpP] at hb; cases hb
    exact op_notN pins s σ H _ _ v u Q I rx ry ⟨rfl, by rw [is_non px]; exact q⟩
  | inn => exact in_core (neg := false) hu I rx ry px py hb q
  | notin =>
    simp only [cmpP] at hb
    obtain ⟨c, h1, h2⟩ := R.bind_eq_ok hb
    cases h2
    exact in_core (neg := true) hu I rx ry px py h1 q

/-! ### a[i] -/
/-- the items of a (own to depth d at most 1, or frozen) -/
def rIdx (K : Frag) : R2 := fun x y H Q => ∃ F vx vy v A d, d ≤ 1 ∧ FLe F H ∧ OwnV K H F d x vx A ∧ Rep K F y vy ∧ idxP vx vy = .ok v ∧ ∀ z, Rep K F z v → Q z H
theorem int_of_rep {F : Hp} {y : V} {i : Int} (r : Rep K F y (.int i)) : y = .int i := by cases r; rfl
theorem idx_int {F : Hp} {vx vy v : PV} {xs : List PV} (h : idxP (.lst xs) vy = .ok v) : ∃ i, vy = .int i ∧ atP xs i = .ok v := by
  cases vy <;> first | (exact ⟨_, rfl, h⟩) | (cases h)
theorem idx_intT {vy v : PV} {xs : List PV} (h : idxP (.tup xs) vy = .ok v) : ∃ i, vy = .int i ∧ atP xs i = .ok v := by
  cases vy <;> first | (exact ⟨_, rfl, h⟩) | (cases h)
theorem idx_intS {vy v : PV} {xs : List Int} (h : idxP (.scr xs) vy = .ok v) : ∃ i, vy = .int i ∧ atP (xs.map .int) i = .ok v := by
  cases vy <;> first | (exact ⟨_, rfl, h⟩) | (cases h)
theorem reps_ints {F : Hp} : ∀ ns : List Int, Reps K F (ns.map V.int) (ns.map PV.int)
  | [] => .nil
  | n :: ns => .cons (.int n) (reps_ints ns)
/-- where the items of a list, tuple, script stand -/
theorem ix_items {H F : Hp} {vx vy v : PV} {x y : V} {A : List Addr} {d : Nat} (hd : d ≤ 1) (le : FLe F H) (o : OwnV K H F d x vx A) (py : Rep K F y vy) (hv : idxP vx vy = .ok v) :
    (∃ p xs i z, x = .ref p ∧ y = .int i ∧ SqL K H p xs ∧ atI xs i = some z ∧ Rep K F z v) ∨ (∃ p xs i z, x = .ref p ∧ y = .int i ∧ SqT K H p xs ∧ atI xs i = some z ∧ Rep K F z v) ∨
    ∃ a z, x = .ref a ∧ DGet H a y (some z) ∧ Rep K F z v := by
  have dict : ∀ {a : Addr} {kvs : List (List PKey × V)} {vs : List PV}, Rd H a (.dT kvs) → Reps K F (kvs.map fun (p : List PKey × V) => p.2) vs → idxP (PV.dct (kvs.map fun (p : List PKey × V) => p.1) vs) vy = .ok v → ∃ z, DGet H a y (some z) ∧ Rep K F z v := fun {a kvs vs} s rs hv => by
    have hv' : (match keyOf vy with
      | some k => match dget (kvs.map fun (p : List PKey × V) => p.1) vs k with
        | some v => R.ok v
        | none => .bad
      | none => .bad) = .ok v := by
      cases vy <;> exact hv
    split at hv'
    · rename_i k hk
      obtain ⟨c, rfl, ec⟩ := key_of_rep py hk
      rcases dget_val (P := fun _ _ => True) (k := k) rs with ⟨z1, z2⟩ | ⟨v', x', z1, z2, q⟩
      · rw [z1] at hv'; cases hv'
      · rw [z1] at hv'
        cases hv'
        exact ⟨x', .inr ⟨kvs, k, c, s, rfl, le _ _ ec, z2.symm⟩, q⟩
    · cases hv'
  match d, o with
  | 0, ⟨r, _⟩ =>
    cases r with
    | lst s l rs =>
      obtain ⟨i, rfl, h⟩ := idx_int (F := F) (vx := vy) hv
      obtain ⟨z, hz, q⟩ := atP_ok rs h
      exact .inl ⟨_, _, i, z, rfl, int_of_rep py, SqL.of (le _ _ s), hz, q⟩
    | tup s l rs =>
      obtain ⟨i, rfl, h⟩ := idx_intT hv
      obtain ⟨z, hz, q⟩ := atP_ok rs h
      exact .inr (.inl ⟨_, _, i, z, rfl, int_of_rep py, SqT.of (le _ _ s), hz, q⟩)
    | scr s l =>
      obtain ⟨i, rfl, h⟩ := idx_intS hv
      obtain ⟨z, hz, q⟩ := atP_ok (reps_ints (K := K) (F := F) _) h
      exact .inl ⟨_, _, i, z, rfl, int_of_rep py, le.fg.sqL s, hz, q⟩
    | dct s _ rs =>
      obtain ⟨z, g, q⟩ := dict (le.fg.rd s) rs hv
      exact .inr (.inr ⟨_, z, rfl, g, q⟩)
    | non => cases hv
    | bl _ => cases hv
    | int _ => cases hv
    | str _ _ _ => cases hv
  | 1, ⟨a, B, ex, eA, h⟩ =>
    subst ex
    rcases h with ⟨xs, vs, rfl, e, l, os⟩ | ⟨kvs, vs, rfl, e, _, os⟩
    · have os' : Owns (OwnV K H F 0) xs vs B := os
      obtain ⟨i, rfl, h⟩ := idx_int (F := F) (vx := vy) hv
      obtain ⟨z, hz, q⟩ := atP_ok (Owns.zero os').1 h
      exact .inl ⟨_, _, i, z, rfl, int_of_rep py, SqL.of e, hz, q⟩
    · have os' : Owns (OwnV K H F 0) (kvs.map (·.2)) vs B := os
      obtain ⟨z, g, q⟩ := dict (.inl e) (Owns.zero os').1 hv
      exact .inr (.inr ⟨_, z, rfl, g, q⟩)
theorem ix_idx (hu : X.A.units + 65 < cLine) : IxR X (rIdx X.K) := by
  intro value slice pins s σ H x y v u Q I rx ry h hs
  obtain ⟨F, vx, vy, w, A, d, hd, le, o, py, hv, k⟩ := h
  rcases ix_items hd le o py hv with ⟨p, xs, i, z, rfl, rfl, sq, hz, q⟩ | ⟨p, xs, i, z, rfl, rfl, sq, hz, q⟩ | ⟨a, z, rfl, g, q⟩
  · exact ix_list value slice pins s σ H _ _ v u Q I rx ry ⟨p, xs, i, z, rfl, rfl, sq, hz, k z q⟩ hs
  · exact ix_tup value slice pins s σ H _ _ v u Q I rx ry ⟨p, xs, i, z, rfl, rfl, sq, hz, k z q⟩ hs
  · cases (show v = Value.ref a from rx)
    have hT := dict_typeIs I g
    exact tail_any hT PySem.F.slot_dict_getitem.lookup (d_getItem (by omega) I g ry fun w' s' I' rw' => ⟨z, H, I', rw', k z q⟩) hs

/-! ### slices -/
def rCut (K : Frag) : V → Option Int → Option Int → Hp → VK → Prop := fun x lo hi H Q => ∃ F vx v, FLe F H ∧ Rep K F x vx ∧ slcP vx lo hi = .ok v ∧ ∀ z H' F' A m, m ≤ 1 → (m = 1 → ∃ l, v = .lst l) → Grow H F H' F' → OwnF K H H' F' m z v A → Q z H'
theorem cut_reps {F : Hp} {xs : List V} {vs : List PV} (r : Reps K F xs vs) (lo hi : Option Int) : Reps K F (cutV xs lo hi) (cutP vs lo hi) := by
  unfold cutV cutP
  rw [r.length, sIxP_eq, sIxP_eq]
  exact (r.drop _).take _
theorem cut_whole {xs : List V} {lo hi : Option Int} (h : HT.sIx xs.length 0 lo = 0 ∧ HT.sIx xs.length xs.length hi = xs.length) : cutV xs lo hi = xs := by
  unfold cutV
  rw [h.1, h.2, List.drop_zero, Nat.sub_zero, List.take_length]
theorem sl_cut : SlR X (rCut X.K) := by
  intro pins s σ H x v vl vu lo hi sl Q I rx hs pl pu h
  obtain ⟨F, vx, w, le, px, hw, k⟩ := h
  cases px with
  | lst s1 l rs =>
    cases hw
    refine sl_list pins s σ H _ v vl vu lo hi sl Q I rx hs pl pu ⟨_, _, rfl, SqL.of (le _ _ s1), fun p np => ?_⟩
    obtain ⟨g, o⟩ := laid_lst le np (cut_reps rs lo hi) (Nat.le_trans (cutV_length _ lo hi) l)
    exact k _ _ _ _ 1 (Nat.le_refl _) (fun _ => ⟨_, rfl⟩) g o
  | tup s1 l rs =>
    cases hw
    refine sl_tupA pins s σ H _ v vl vu lo hi sl Q I rx hs pl pu ⟨_, _, rfl, SqT.of (le _ _ s1), fun hc => ?_, fun _ p np => ?_⟩
    · have r2 := cut_reps rs lo hi
      rw [cut_whole hc] at r2
      exact k _ _ _ _ 0 (Nat.zero_le _) (fun z => by cases z) (.refl le) (OwnF.of (.tup s1 l r2))
    · obtain ⟨g, r⟩ := laid_tup le np (cut_reps rs lo hi) (Nat.le_trans (cutV_length _ lo hi) l)
      exact k _ _ _ _ 0 (Nat.zero_le _) (fun z => by cases z) g (OwnF.of r)
  | non => cases hw
  | bl _ => cases hw
  | int _ => cases hw
  | str _ _ _ => cases hw
  | dct _ _ _ => cases hw
  | scr _ _ => cases hw
end PY

/-! PyB5: built-in functions, isinstance, one-place operators. -/
namespace PY
open PySem L2
open PySem.Spec PyProof.Rows
variable {K : Frag} {Φ : Fns} {δ : Dps} {X : Cx}

theorem maxI_spec : ∀ (ns : List Int) (m : Int), maxI m ns ∈ m :: ns ∧ ∀ y ∈ m :: ns, y ≤ maxI m ns
  | [], m => ⟨by simp [maxI], fun y hy => by simp at hy; subst hy; simp [maxI]⟩
  | x :: xs, m => by
    obtain ⟨h1, h2⟩ := maxI_spec xs (if m < x then x else m)
    unfold maxI
    refine ⟨?_, fun y hy => ?_⟩
    · rcases List.mem_cons.mp h1 with h | h
      · rw [h]
        split <;> simp
      · exact List.mem_cons_of_mem _ (List.mem_cons_of_mem _ h)
    · have h3 := h2 _ List.mem_cons_self
      rcases List.mem_cons.mp hy with rfl | hy
      · refine Int.le_trans ?_ h3
        split <;> omega
      · rcases List.mem_cons.mp hy with rfl | hy
        · refine Int.le_trans ?_ h3
          split <;> omega
        · exact h2 y (List.mem_cons_of_mem _ hy)
theorem intsOf_rep {F : Hp} : ∀ {xs : List V} {vs : List PV} {ns : List Int}, Reps K F xs vs → intsOf vs = some ns → xs = ns.map V.int
  | _, _, ns, .nil, h => by cases h; rfl
  | _, _, ns, .cons (v := v) r rs, h => by
    cases v with
    | int i =>
      simp only [intsOf] at h
      split at h
      · rename_i is hi
        cases h
        rw [intsOf_rep rs hi, int_of_rep r]; rfl
      · cases h
    | _ => cases h

def biName : Bi → Str
  | .len => "len" | .int => "int" | .list => "list" | .tuple => "tuple" | .min2 => "min" | .max2 => "max" | .maxl => "max" | .abs => "abs"
def biVal : Bi → Value
  | .len => .builtin "len" | .int => .type "int" | .list => .type "list" | .tuple => .type "tuple" | .min2 => .builtin "min" | .max2 => .builtin "max" | .maxl => .builtin "max" | .abs => .builtin "abs"
def biFd : Bi → Nat
  | .list => 1
  | _ => 0
/-- the operand of len is only looked at -/
def rBi (K : Frag) (b : Bi) : List V → Hp → VK → Prop := fun xs H Q => ∃ F vs v, FLe F H ∧ (Reps K F xs vs ∨ b = .len ∧ ∃ x w d A, d ≠ 0 ∧ OwnV K H F d x w A ∧ xs = [x] ∧ vs = [w]) ∧ biP b vs = .ok v ∧ ∀ z H' F' A, Grow H F H' F' → OwnF K H H' F' (biFd b) z v A → Q z H'
theorem reps1 {F : Hp} {xs : List V} {v : PV} (r : Reps K F xs [v]) : ∃ x, xs = [x] ∧ Rep K F x v := by
  cases r with
  | cons r rs => cases rs; exact ⟨_, rfl, r⟩
theorem reps2 {F : Hp} {xs : List V} {v w : PV} (r : Reps K F xs [v, w]) : ∃ x y, xs = [x, y] ∧ Rep K F x v ∧ Rep K F y w := by
  cases r with
  | cons r rs =>
    obtain ⟨y, rfl, q⟩ := reps1 rs
    exact ⟨_, y, rfl, r, q⟩
theorem atom0 {H F : Hp} (le : FLe F H) {z : V} {v : PV} {Q : V → Hp → Prop} (r : Rep K F z v) (k : ∀ z H' F' A, Grow H F H' F' → OwnF K H H' F' 0 z v A → Q z H') : Q z H := k _ _ _ _ (.refl le) (OwnF.of r)
theorem len_ok {v w : PV} (h : biP .len [w] = .ok v) : ∃ n, lenP w = .ok n ∧ v = .int n := by
  obtain ⟨n, h1, h2⟩ := R.bind_eq_ok (show (lenP w).bind (fun n => R.ok (PV.int n)) = .ok v from h)
  cases h2
  exact ⟨n, h1, rfl⟩
theorem cr_bi (hc : X.calm = true) (b : Bi) : CallR X (biVal b) (rBi X.K b) := by
  intro pins s σ H xs us Q I rv h
  obtain ⟨F, vs, v, le, rs, hv, k⟩ := h
  cases b with
  | len =>
    rcases rs with rs | ⟨_, x, w, d, A, hd, o, rfl, rfl⟩
    · match vs, hv with
      | [w], hv =>
        obtain ⟨n, h1, rfl⟩ := len_ok hv
        obtain ⟨x, rfl, r⟩ := reps1 rs
        have q := atom0 le (.int n) k
        cases r with
        | lst s1 l rs2 =>
          cases h1
          exact call_len_seq pins s σ H _ us Q I rv ⟨_, _, rfl, .inl (SqL.of (le _ _ s1)), by rw [rs2.length]; exact q⟩
        | tup s1 l rs2 =>
          cases h1
          exact call_len_seq pins s σ H _ us Q I rv ⟨_, _, rfl, .inr (SqT.of (le _ _ s1)), by rw [rs2.length]; exact q⟩
        | scr s1 l =>
          cases h1
          exact call_len_seq pins s σ H _ us Q I rv ⟨_, _, rfl, .inl (le.fg.sqL s1), by rw [List.length_map]; exact q⟩
        | non => cases h1
        | bl _ => cases h1
        | int _ => cases h1
        | str _ _ _ => cases h1
        | dct _ _ _ => cases h1
      | [], hv => cases hv
      | [a, b], hv => cases a <;> cases b <;> cases hv
      | _ :: _ :: _ :: _, hv => cases hv
    · obtain ⟨n, h1, rfl⟩ := len_ok hv
      have q := atom0 le (.int n) k
      match d, hd, o with
      | d + 1, _, ⟨a, B, ex, eA, h⟩ =>
        subst ex
        rcases h with ⟨ys, ws, rfl, e, l, os⟩ | ⟨kvs, ws, rfl, e, _, os⟩
        · cases h1
          exact call_len_seq pins s σ H _ us Q I rv ⟨_, _, rfl, .inl (SqL.of e), by rw [os.length]; exact q⟩
        · cases h1
  | int =>
    rcases rs with rs | ⟨e, _⟩
    · match vs, hv with
      | [w], hv =>
        obtain ⟨x, rfl, r⟩ := reps1 rs
        cases r <;> first | (cases hv; done) | skip
        · cases hv
          exact call_int1 pins s σ H _ us Q I rv (.inr ⟨_, rfl, atom0 le (.int _) k⟩)
        · cases hv
          exact call_int1 pins s σ H _ us Q I rv (.inl ⟨_, rfl, atom0 le (.int _) k⟩)
      | [], hv => cases hv
      | [a, b], hv => cases a <;> cases b <;> cases hv
      | _ :: _ :: _ :: _, hv => cases hv
    · cases e
  | list =>
    rcases rs with rs | ⟨e, _⟩
    · match vs, hv with
      | [w], hv =>
        obtain ⟨x, rfl, r⟩ := reps1 rs
        cases r with
        | lst s1 l rs2 =>
          cases hv
          refine call_list_of pins s σ H _ us Q I rv ⟨_, _, rfl, .inl (SqL.of (le _ _ s1)), fun p np => ?_⟩
          obtain ⟨g, o⟩ := laid_lst le np rs2 l
          exact k _ _ _ _ g o
        | tup s1 l rs2 =>
          cases hv
          refine call_list_of pins s σ H _ us Q I rv ⟨_, _, rfl, .inr (SqT.of (le _ _ s1)), fun p np => ?_⟩
          obtain ⟨g, o⟩ := laid_lst le np rs2 l
          exact k _ _ _ _ g o
        | non => cases hv
        | bl _ => cases hv
        | int _ => cases hv
        | str _ _ _ => cases hv
        | dct _ _ _ => cases hv
        | scr _ _ => cases hv
      | [], hv => cases hv
      | [a, b], hv => cases a <;> cases b <;> cases hv
      | _ :: _ :: _ :: _, hv => cases hv
    · cases e
  | tuple =>
    rcases rs with rs | ⟨e, _⟩
    · match vs, hv with
      | [w], hv =>
        obtain ⟨x, rfl, r⟩ := reps1 rs
        cases r with
        | lst s1 l rs2 =>
          cases hv
          refine call_tuple_of pins s σ H _ us Q I rv ⟨_, _, rfl, .inl ⟨SqL.of (le _ _ s1), fun p np => ?_⟩⟩
          obtain ⟨g, r⟩ := laid_tup le np rs2 l
          exact k _ _ _ _ g (OwnF.of r)
        | tup s1 l rs2 =>
          cases hv
          exact call_tuple_of pins s σ H _ us Q I rv ⟨_, _, rfl, .inr ⟨SqT.of (le _ _ s1), atom0 le (.tup s1 l rs2) k⟩⟩
        | non => cases hv
        | bl _ => cases hv
        | int _ => cases hv
        | str _ _ _ => cases hv
        | dct _ _ _ => cases hv
        | scr _ _ => cases hv
      | [], hv => cases hv
      | [a, b], hv => cases a <;> cases b <;> cases hv
      | _ :: _ :: _ :: _, hv => cases hv
    · cases e
  | min2 =>
    rcases rs with rs | ⟨e, _⟩
    · match vs, hv with
      | [w, w'], hv =>
        obtain ⟨x, y, rfl, r, r'⟩ := reps2 rs
        cases r <;> cases r' <;> first | (cases hv; done) | skip
        cases hv
        exact call_min2 hc pins s σ H _ us Q I rv ⟨_, _, rfl, atom0 le (.int _) k⟩
      | [], hv => cases hv
      | [a], hv => cases a <;> cases hv
      | _ :: _ :: _ :: _, hv => cases hv
    · cases e
  | max2 =>
    rcases rs with rs | ⟨e, _⟩
    · match vs, hv with
      | [w, w'], hv =>
        obtain ⟨x, y, rfl, r, r'⟩ := reps2 rs
        cases r <;> cases r' <;> first | (cases hv; done) | skip
        cases hv
        exact call_max2 hc pins s σ H _ us Q I rv ⟨_, _, rfl, atom0 le (.int _) k⟩
      | [], hv => cases hv
      | [a], hv => cases a <;> cases hv
      | _ :: _ :: _ :: _, hv => cases hv
    · cases e
  | maxl =>
    rcases rs with rs | ⟨e, _⟩
    · match vs, hv with
      | [w], hv =>
        obtain ⟨x, rfl, r⟩ := reps1 rs
        cases r with
        | lst s1 l rs2 =>
          simp only [biP, bi1] at hv
          split at hv
          · rename_i i is hi
            cases hv
            have ex := intsOf_rep rs2 hi
            subst ex
            refine cr_max hc pins s σ H _ us Q I rv ⟨_, i :: is, rfl, SqL.of (le _ _ s1), by simp, fun m hm hy => ?_⟩
            obtain ⟨h1, h2⟩ := maxI_spec is i
            have em : m = maxI i is := Int.le_antisymm (h2 m hm) (hy _ h1)
            rw [em]
            exact atom0 le (.int _) k
          · cases hv
        | non => cases hv
        | bl _ => cases hv
        | int _ => cases hv
        | str _ _ _ => cases hv
        | dct _ _ _ => cases hv
        | scr _ _ => cases hv
        | tup _ _ _ => cases hv
      | [], hv => cases hv
      | [a, b], hv => cases a <;> cases b <;> cases hv
      | _ :: _ :: _ :: _, hv => cases hv
    · cases e
  | abs =>
    rcases rs with rs | ⟨e, _⟩
    · match vs, hv with
      | [w], hv =>
        obtain ⟨x, rfl, r⟩ := reps1 rs
        cases r <;> first | (cases hv; done) | skip
        cases hv
        exact call_abs pins s σ H _ us Q I rv ⟨_, rfl, atom0 le (.int _) k⟩
      | [], hv => cases hv
      | [a, b], hv => cases a <;> cases b <;> cases hv
      | _ :: _ :: _ :: _, hv => cases hv
    · cases e
theorem boot_bi (b : Bi) : bootBuiltins (biName b) = some (biVal b) := by cases b <;> decide +kernel

/-! ### isinstance -/
def tyName : Ty → Str
  | .int => "int" | .bool => "bool" | .tuple => "tuple" | .str => "str" | .list => "list"
def tyStr : Ty → String
  | .int => "int" | .bool => "bool" | .tuple => "tuple" | .str => "str" | .list => "list"
theorem boot_ty (t : Ty) : bootBuiltins (tyName t) = some (.type (tyStr t)) := by cases t <;> decide +kernel
theorem boot_isi : bootBuiltins "isinstance" = some (.builtin "isinstance") := by decide +kernel
def ownTy : PV → String
  | .non => "NoneType" | .bl _ => "bool" | .int _ => "int" | .str _ => "str" | .tup _ => "tuple" | .lst _ => "list" | .dct _ _ => "dict" | .scr _ => "list"
theorem kitB_all : ∀ (t : Ty), kitB "NoneType" (tyStr t) = some (isiP t .non) ∧ kitB "bool" (tyStr t) = some (isiP t (.bl true)) ∧ kitB "int" (tyStr t) = some (isiP t (.int 0)) ∧ kitB "str" (tyStr t) = some (isiP t (.str Str.empty)) ∧
    kitB "tuple" (tyStr t) = some (isiP t (.tup [])) ∧ kitB "list" (tyStr t) = some (isiP t (.lst [])) := by
  intro t
  cases t <;> decide +kernel
theorem kit_own (t : Ty) (v : PV) (h : isiOk v = true) : PySem.W.kitOne K (.type (ownTy v)) (.type (tyStr t)) = some (isiP t v) := by
  obtain ⟨h1, h2, h3, h4, h5, h6⟩ := kitB_all t
  cases v with
  | non => exact kit_ty h1
  | bl b => refine (kit_ty h2).trans ?_; cases t <;> rfl
  | int i => refine (kit_ty h3).trans ?_; cases t <;> rfl
  | str x => refine (kit_ty h4).trans ?_; cases t <;> rfl
  | tup x => refine (kit_ty h5).trans ?_; cases t <;> rfl
  | lst x => refine (kit_ty h6).trans ?_; cases t <;> rfl
  | dct _ _ => cases h
  | scr _ => cases h
theorem tyX_of {F H : Hp} (le : FLe F H) {x : V} {v : PV} (r : Rep K F x v) (h : isiOk v = true) : TyX K H x (.type (ownTy v)) := by
  cases r with
  | non => exact .base .non
  | bl b => exact .base (.bl b)
  | int i => exact .base (.int i)
  | str x _ _ => exact .base (.str x)
  | tup s _ _ => exact .base (.tup (le _ _ s))
  | lst s _ _ => exact .base (.lst (le _ _ s))
  | dct _ _ _ => cases h
  | scr _ _ => cases h
end PY

/-! PyB6: what is walked. -/
namespace PY
open PySem L2
open PySem.Spec PyProof.Rows
variable {K : Frag} {Φ : Fns} {δ : Dps} {X : Cx}

/-- J gives what vs tells, from F on -/
def IterV (K : Frag) (J : It) (F : Hp) (vs : List PV) : Prop := vs.length ≤ lim ∧ ∀ F2 H2, FG F F2 → FLe F2 H2 → ∀ i : Nat,
  (∀ v, vs[i]? = some v → J.go i H2 ∧ ∀ x H3, J.yld i H2 x H3 → ∃ F3, Grow H2 F2 H3 F3 ∧ Rep K F3 x v) ∧ (vs.length ≤ i → J.stop i H2)
theorem IterV.mono {J : It} {F F' : Hp} {vs : List PV} (h : IterV K J F vs) (g : FG F F') : IterV K J F' vs := ⟨h.1, fun F2 H2 g2 le => h.2 F2 H2 (g.trans g2) le⟩
theorem iter_sq {F : Hp} {a : Addr} {xs : List V} {vs : List PV} (s : SqL K F a xs) (rs : Reps K F xs vs) (l : xs.length ≤ lim) : IterV K (Itl K a) F vs := by
  refine ⟨by rw [← rs.length]; exact l, fun F2 H2 g le i => ⟨fun v hv => ?_, fun hi => ⟨xs, le.fg.sqL (g.sqL s), by rw [rs.length]; exact hi⟩⟩⟩
  obtain ⟨x, hx, r⟩ := rs.get hv
  refine ⟨⟨xs, x, le.fg.sqL (g.sqL s), hx⟩, fun y H3 hy => ?_⟩
  obtain ⟨rfl, hy⟩ := hy
  have e := hy xs (le.fg.sqL (g.sqL s))
  rw [hx] at e; cases e
  exact ⟨F2, .refl le, r.mono g⟩
theorem iter_tup {F : Hp} {a : Addr} {xs : List V} {vs : List PV} (s : F a = some (.tup xs)) (rs : Reps K F xs vs) (l : xs.length ≤ lim) : IterV K (Itt K a) F vs := by
  have sq : ∀ {F2 H2 : Hp}, FG F F2 → FLe F2 H2 → SqT K H2 a xs := fun g le => SqT.of (le _ _ (FG.tup g s))
  refine ⟨by rw [← rs.length]; exact l, fun F2 H2 g le i => ⟨fun v hv => ?_, fun hi => ⟨xs, sq g le, by rw [rs.length]; exact hi⟩⟩⟩
  obtain ⟨x, hx, r⟩ := rs.get hv
  refine ⟨⟨xs, x, sq g le, hx⟩, fun y H3 hy => ?_⟩
  obtain ⟨rfl, hy⟩ := hy
  have e := hy xs (sq g le)
  rw [hx] at e; cases e
  exact ⟨F2, .refl le, r.mono g⟩
theorem range_get {lo : Int} {n i : Nat} {v : PV} (h : ((List.range n).map fun (k : Nat) => PV.int (lo + k))[i]? = some v) : i < n ∧ v = .int (lo + i) := by
  rw [List.getElem?_map] at h
  by_cases hi : i < n
  · rw [List.getElem?_range hi] at h
    cases h
    exact ⟨hi, rfl⟩
  · rw [List.getElem?_eq_none (by simpa using hi)] at h
    cases h
theorem iter_rng {F : Hp} {lo hi : Int} {n : Nat} (e : n = (hi - lo).toNat) (l : n ≤ lim) : IterV K (Itr lo n) F (rangeP lo hi) := by
  subst e
  refine ⟨by unfold rangeP; rw [List.length_map, List.length_range]; exact l, fun F2 H2 g le i => ⟨fun v hv => ?_, fun hi => ?_⟩⟩
  · obtain ⟨h1, rfl⟩ := range_get hv
    refine ⟨h1, fun y H3 hy => ?_⟩
    obtain ⟨rfl, rfl⟩ := hy
    exact ⟨F2, .refl le, .int _⟩
  · unfold rangeP at hi
    rw [List.length_map, List.length_range] at hi
    exact hi
theorem enumP_length : ∀ (vs : List PV) (k : Nat), (enumP k vs).length = vs.length
  | [], _ => rfl
  | _ :: vs, k => congrArg (· + 1) (enumP_length vs (k + 1))
theorem enumP_get : ∀ {vs : List PV} {k i : Nat} {v : PV}, (enumP k vs)[i]? = some v → ∃ w, vs[i]? = some w ∧ v = .tup [.int ((k + i : Nat) : Int), w]
  | [], _, _, _, h => by simp [enumP] at h
  | w :: vs, k, 0, v, h => by
    simp [enumP] at h
    exact ⟨w, rfl, h.symm⟩
  | w :: vs, k, i + 1, v, h => by
    obtain ⟨u, h1, h2⟩ := enumP_get (vs := vs) (k := k + 1) (i := i) (v := v) (by simpa [enumP] using h)
    exact ⟨u, by simpa using h1, by rw [h2, Nat.add_right_comm, Nat.add_assoc]⟩
theorem lim2 : 2 ≤ lim := by decide
theorem iter_enuL {F : Hp} {a : Addr} {xs : List V} {vs : List PV} (s : F a = some (.lst xs)) (rs : Reps K F xs vs) (l : xs.length ≤ lim) : IterV K (Ite K a) F (enumP 0 vs) := by
  have sq : ∀ {F2 H2 : Hp}, FG F F2 → FLe F2 H2 → SqL K H2 a xs := fun g le => SqL.of (le _ _ (FG.lst g s))
  refine ⟨by rw [enumP_length, ← rs.length]; exact l, fun F2 H2 g le i => ⟨fun v hv => ?_, fun hi => ⟨xs, sq g le, by rw [rs.length]; rw [enumP_length] at hi; exact hi⟩⟩⟩
  obtain ⟨w, hw, rfl⟩ := enumP_get hv
  obtain ⟨x, hx, r⟩ := rs.get hw
  refine ⟨⟨xs, x, sq g le, hx⟩, fun y H3 hy => ?_⟩
  obtain ⟨T, x', rfl, nT, rfl, hy⟩ := hy
  have e := hy xs (sq g le)
  rw [hx] at e; cases e
  obtain ⟨g3, r3⟩ := laid_tup (K := K) le nT (xs := [.int (i : Nat), x]) (vs := [.int ((0 + i : Nat) : Int), w]) (.cons (by rw [Nat.zero_add]; exact .int _) (.cons (r.mono g) .nil)) lim2
  exact ⟨_, g3, r3⟩
/-- enumerate of a tuple -/
def IteT (K : Frag) (a : Addr) : It :=
  ⟨fun i H => ∃ (xs : List V) (x : V), SqT K H a xs ∧ xs[i]? = some x, fun i H v H' => ∃ T x, v = .ref T ∧ H T = none ∧ H' = upd H T (.tup [.int (i : Nat), x]) ∧ ∀ xs, SqT K H a xs → xs[i]? = some x, fun i H => ∃ xs : List V, SqT K H a xs ∧ xs.length ≤ i⟩
theorem iter_enuT {F : Hp} {a : Addr} {xs : List V} {vs : List PV} (s : F a = some (.tup xs)) (rs : Reps K F xs vs) (l : xs.length ≤ lim) : IterV K (IteT K a) F (enumP 0 vs) := by
  have sq : ∀ {F2 H2 : Hp}, FG F F2 → FLe F2 H2 → SqT K H2 a xs := fun g le => SqT.of (le _ _ (FG.tup g s))
  refine ⟨by rw [enumP_length, ← rs.length]; exact l, fun F2 H2 g le i => ⟨fun v hv => ?_, fun hi => ⟨xs, sq g le, by rw [rs.length]; rw [enumP_length] at hi; exact hi⟩⟩⟩
  obtain ⟨w, hw, rfl⟩ := enumP_get hv
  obtain ⟨x, hx, r⟩ := rs.get hw
  refine ⟨⟨xs, x, sq g le, hx⟩, fun y H3 hy => ?_⟩
  obtain ⟨T, x', rfl, nT, rfl, hy⟩ := hy
  have e := hy xs (sq g le)
  rw [hx] at e; cases e
  obtain ⟨g3, r3⟩ := laid_tup (K := K) le nT (xs := [.int (i : Nat), x]) (vs := [.int ((0 + i : Nat) : Int), w]) (.cons (by rw [Nat.zero_add]; exact .int _) (.cons (r.mono g) .nil)) lim2
  exact ⟨_, g3, r3⟩
section
variable {prog : Program} {w : World} {A : Around} {E : Value → Shared → Prop} {s : Shared}
theorem pyNext_enum_endT {e it l : Addr} {i : Nat} {items : Array Value} {old : Value} {Q : Option Value → Shared → Prop} (hh : A.handled = none)
    (he : IsEnum s.heap e it i old) (hit : s.heap.IsTupleIter it l i) (hl : s.heap.IsTuple l items) (hx : items[i]? = none)
    (hQ : ∀ h', Heap.ExtBut it s.heap h' → Q none { s with heap := h' }) : wpAny (model prog w) A (pyNext (.ref e)) Q E s := by
  have hT : s.TypeIs (.ref e) "enumerate" := ⟨_, he, rfl⟩
  unfold pyNext
  refine wpAny_bind (wpAny_attempt (wpAny_callSpecial?_slot (name := Str.ofString "__next__") hT F.slot_enumerate_next
    (wpAny_call_entry F.slot_enumerate_next hT F.entry_enumerate_next ?_ (F.args_enumerate_next_1 _))))
  show wpAny _ _ (field (.ref e) 2 >>= _) _ _ _
  refine wpAny_bind (wpAny_field he rfl (x := .ref it) rfl ?_)
  refine wpAny_bind (wpAny_nextOf_tuple_end hh hit hl hx fun h' x he' hx' => ?_)
  obtain ⟨o, ho, hc⟩ := hx'
  refine wpAny_bind (wpAny_isInstance (T := "StopIteration") (b := true) ⟨o, ho, hc⟩ isSubtype_stop ?_)
  exact wpAny_pure (hQ _ he')
theorem meets_enumerate_new1 {v : Value} {o : Obj} {H : Heap → Prop} (B : Begins v o H) :
    Meets (Builtin.«enumerate.__new__» ⟨[.type "enumerate", v], []⟩) (fun _ R s => H s.heap ∧
      R (.ok (.ret (.ref (s.heap.push o).objs.size))) { s with heap := (s.heap.push o).push { cls := .type "enumerate", data := .fields #[.none, .bool false, .ref s.heap.objs.size, rawInt 0, .none, .none] } }) :=
  .of_wp fun prog w A R s h => by
    obtain ⟨hp, g, d, tk, os⟩ := s; obtain ⟨h1, h⟩ := h
    have hsub := sub_enumerate
    have q1 : ∀ {A' : Around} {E : Value → Shared → Prop} {Q : Value → Shared → Prop}, Q (.ref hp.objs.size) ⟨hp.push o, g, d, tk, os⟩ → wpAny (model prog w) A' (pyIter v) Q E ⟨hp, g, d, tk, os⟩ :=
      fun q => B.iter prog w _ _ ⟨hp, g, d, tk, os⟩ _ h1 q
    wp_walk using q1
    refine wpAny_stack_any fun st => wpAny_pure ?_
    split
    · rename_i c _ _ _ _ _
      cases (c == Value.type "enumerate")
      · wp_walk using q1
        exact ⟨_, rfl, h⟩
      · wp_walk using q1
        exact ⟨_, rfl, h⟩
    · wp_walk using q1
      exact ⟨_, rfl, h⟩
theorem call_enumerate_tuple {l : Addr} {items : Array Value} {Q : Value → Shared → Prop} (hL : s.heap.IsTuple l items)
    (h : ∀ h', IsEnum h' (s.heap.objs.size + 1) s.heap.objs.size 0 .none → h'.IsTupleIter s.heap.objs.size l 0 → h'.objs.size = s.heap.objs.size + 2 →
      (∀ b o, s.heap.get? b = some o → h'.get? b = some o) → Q (.ref (s.heap.objs.size + 1)) { s with heap := h' }) :
    wpAny (model prog w) A (call (.type "enumerate") [.ref l]) Q E s := by
  refine callType_new F.called_enumerate (by decide) (F.typeCall_enumerate_1 _) (F.newCall_enumerate_1 _) (fun obj => F.args_object_init_2 obj _) F.entry_enumerate_new
    (meets_enumerate_new1 (begins_tuple l items)) ⟨hL, ?_⟩
  have hz : (s.heap.push { cls := .type "tuple_iterator", data := .fields #[.ref l, .int 0 0] }).objs.size = s.heap.objs.size + 1 := Heap.size_push ..
  show _ ∧ _
  rw [hz]
  have he : IsEnum ((s.heap.push { cls := .type "tuple_iterator", data := .fields #[.ref l, .int 0 0] }).push
      { cls := .type "enumerate", data := .fields #[.none, .bool false, .ref s.heap.objs.size, rawInt 0, .none, .none] }) (s.heap.objs.size + 1) s.heap.objs.size 0 .none := by
    have := Heap.get?_push_size (s.heap.push { cls := .type "tuple_iterator", data := .fields #[.ref l, .int 0 0] })
      (o := { cls := .type "enumerate", data := .fields #[.none, .bool false, .ref s.heap.objs.size, rawInt 0, .none, .none] }) rfl
    rw [hz] at this; exact this
  refine ⟨⟨_, he, rfl⟩, h _ he ⟨_, Heap.get?_push_of_some _ (Heap.get?_push_size _ rfl), rfl, rfl⟩ (by rw [Heap.size_push, hz]) fun b o x => Heap.get?_push_of_some _ (Heap.get?_push_of_some _ x)⟩
end
theorem turn_enumT {P : Program} {w : World} {elts : List Expr} {kk : Nat} {tpos : Pos} (a e it : Addr) :
    Turn P w K (.Tuple elts kk tpos) (IteT K a) [e, it] e (fun i h => (∃ old, IsEnum h e it ((i : Nat) : Int) old) ∧ h.IsTupleIter it a i ∧ e ≠ it) where
  mem := by simp
  obj := fun i h st b hb => by
    obtain ⟨⟨old, he⟩, ⟨o, ho, hc, hd⟩, _⟩ := st
    have e' : b = e ∨ b = it := by simpa using hb
    rcases e' with z | z
    · rw [z]; exact ⟨_, he, fun v q => nomatch q⟩
    · rw [z]; exact ⟨o, ho, fun v q => by rw [hd] at q; cases q⟩
  keep := fun i h h' st k => let ⟨⟨old, he⟩, hi, hne⟩ := st; ⟨⟨old, k e (by simp) _ he⟩, hi.at fun o q => k it (by simp) o q, hne⟩
  item := by
    intro X hP hw hK hc i pins s σ H E I hf st hg
    subst hP hw hK
    obtain ⟨⟨old, he⟩, hit, hne⟩ := st
    obtain ⟨xs, x, hq, hx⟩ := hg
    obtain ⟨its, rv, p, hz⟩ := I.tuple hq
    obtain ⟨u, hu, ru⟩ := rv.get hx
    have hel : e < s.heap.objs.size := Heap.lt_size he
    have hil : it < s.heap.objs.size := by obtain ⟨_, q, _⟩ := hit; exact Heap.lt_size q
    have pt : s.heap.IsTuple a its.toArray := p
    have nai : a ≠ it := fun z => by
      obtain ⟨o1, h1, c1, _⟩ := hit
      obtain ⟨o2, h2, c2, _⟩ := pt
      rw [z, h1] at h2; cases h2
      rw [c1] at c2; exact absurd c2 (by decide)
    have nae : a ≠ e := fun z => by
      obtain ⟨o2, h2, c2, _⟩ := pt
      rw [z, he] at h2; cases h2
      have c2' : Value.type "enumerate" = Value.type "tuple" := c2
      exact absurd c2' (by decide)
    have hd : X.A.in1.handled = none := I.ok.hd hc
    have hl := rv.length
    have hi : i < its.toArray.size := by
      rw [List.size_toArray, ← hl]
      exact (List.getElem?_eq_some_iff.mp hx).1
    refine wpAny_pyNext_enum_itemD (Draws.tuple hd it a nai its.toArray) he ⟨hit, pt⟩ hi hne (by simp [hne, Ne.symm nae]) fun y h' tk hy ho hst' hT hsz hk => ?_
    have ey : y = u := by
      have hy' : its.toArray[i]? = some y := hy
      have : its.toArray[i]? = some u := by simpa using hu
      rw [this] at hy'; exact (Option.some.inj hy').symm
    subst ey
    refine ⟨_, rfl, wpAny_letOwnedTupleGo_enum (s := { s with heap := h', toks := tk + 1 }) ho fun h'' he' sb => ?_⟩
    have hT2 : h''.get? s.heap.objs.size = some { cls := .type "tuple", data := .seq #[.int i tk, y] } := (sb.2 _ (Nat.ne_of_gt hel)).trans hT
    have new : ObjOk X.prog X.w (upd H s.heap.objs.size (.tup [.int (i : Nat), x])) h'' s.heap.objs.size (.tup [.int (i : Nat), x]) :=
      ⟨by show 2 ≤ sizeLine; decide, [.int i tk, y], .cons ⟨_, rfl⟩ (.cons ru .nil), ⟨_, hT2, rfl, _, rfl⟩⟩
    have I1 : Inv X pins σ (upd H s.heap.objs.size (.tup [.int (i : Nat), x])) { s with heap := h'', toks := tk + 1 } :=
      I.turnedNew (ch := [e, it]) (fun b ob hb q => (sb.2 b (fun z => hb (by simp [z]))).trans (hk b ob (fun z => hb (by simp [z])) (fun z => hb (by simp [z])) q)) hf (Nat.le_refl _) new
    refine ⟨.ref s.heap.objs.size, _, I1, rfl, ⟨_, x, rfl, I.hok.fresh (Nat.le_refl _), rfl, fun ys hy => by rw [I.tuple_inj hy hq]; exact hx⟩, ⟨⟨y, ?_⟩, hst'.1.at fun o q => (sb.2 it (Ne.symm hne)).trans q, hne⟩, fun b hb => ?_⟩
    · have e1 : ((i + 1 : Nat) : Int) = (i : Int) + 1 := by omega
      rw [e1]; exact he'
    · have hb' : b < s.heap.objs.size := by
        have e' : b = e ∨ b = it := by simpa using hb
        rcases e' with z | z
        · rw [z]; exact hel
        · rw [z]; exact hil
      rw [upd_ne (Nat.ne_of_lt hb')]
      exact (hf b hb).1
  done := by
    intro X hP hw hK hc i pins s σ H E I hf st hg
    subst hP hw hK
    obtain ⟨⟨old, he⟩, hit, hne⟩ := st
    obtain ⟨xs, hq, hx⟩ := hg
    obtain ⟨its, rv, p, hz⟩ := I.tuple hq
    obtain ⟨f0, f1, f2, f3, f4, f5⟩ := hf it (by simp)
    have pt : s.heap.IsTuple a its.toArray := p
    have hl := rv.length
    exact pyNext_enum_endT (I.ok.hd hc) he hit pt (by simp; omega) fun h' eb => ⟨rfl, I.turned (t' := s.toks) (fun b o hb q => eb b o hb q) f0 f1 f3 f4 f5⟩
  self := fun A i s Q E st h => let ⟨⟨_, he⟩, _⟩ := st; wpAny_pyIter_enum he h
/-- enumerate of a list or a tuple -/
def iEnu (K : Frag) (ta : TA) : TI := fun σ H R => ta σ H fun vs H1 => (∃ a xs, vs = [.ref a] ∧ SqL K H1 a xs ∧ R (Ite K a) H1) ∨ ∃ a xs, vs = [.ref a] ∧ SqT K H1 a xs ∧ R (IteT K a) H1
theorem pi_enu {e : Expr} {ta : TA} {p pos tpos : Pos} {elts : List Expr} {kk : Nat} (hg : Gl X "enumerate") (hm : X.mg "enumerate" = none) (ha : PA X [e] ta) (hs : starEach [e] X.env = [(false, eval e X.env)]) :
    PI X (.Tuple elts kk tpos) (.Call (.Name "enumerate" p) [e] [] pos) (iEnu X.K ta) := by
  refine ⟨fun pins s σ H R I h => ?_⟩
  refine Call_ (ld_blt I hg hm boot_enumerate (PyProof.Rows.callWith_type1 (thn (ha.run pos pins s σ H _ I h) fun us s1 ⟨vs, H1, I1, r1, q1⟩ => ?_) hs rfl))
  rcases q1 with ⟨a, xs, ex, hq, q⟩ | ⟨a, xs, ex, hq, q⟩
  · subst ex
    cases r1 with
    | cons r rr =>
      cases rr
      cases r
      obtain ⟨its, rv, p', hz⟩ := I1.list hq
      refine call_enumerate_list p'.isList fun h' he hit hsz hk => wpAny_pyIter_enum he ?_
      have I2 : Inv X pins σ H1 { s1 with heap := h' } := I1.kept (t' := s1.toks) hk
      refine ⟨s1.heap.objs.size + 1, [s1.heap.objs.size + 1, s1.heap.objs.size], _, _, H1, rfl, I2, turn_enum a (s1.heap.objs.size + 1) s1.heap.objs.size, ⟨⟨.none, he⟩, hit, Nat.succ_ne_self _⟩, fun b hb => ?_, q⟩
      have e' : b = s1.heap.objs.size + 1 ∨ b = s1.heap.objs.size := by simpa using hb
      have hle : s1.heap.objs.size ≤ b := by
        rcases e' with z | z
        · rw [z]; exact Nat.le_add_right _ _
        · rw [z]; exact Nat.le_refl _
      exact I1.fpOk hle (I1.hok.fresh hle)
  · subst ex
    cases r1 with
    | cons r rr =>
      cases rr
      cases r
      obtain ⟨its, rv, p', hz⟩ := I1.tuple hq
      refine call_enumerate_tuple (show s1.heap.IsTuple a its.toArray from p') fun h' he hit hsz hk => wpAny_pyIter_enum he ?_
      have I2 : Inv X pins σ H1 { s1 with heap := h' } := I1.kept (t' := s1.toks) hk
      refine ⟨s1.heap.objs.size + 1, [s1.heap.objs.size + 1, s1.heap.objs.size], _, _, H1, rfl, I2, turn_enumT a (s1.heap.objs.size + 1) s1.heap.objs.size, ⟨⟨.none, he⟩, hit, Nat.succ_ne_self _⟩, fun b hb => ?_, q⟩
      have e' : b = s1.heap.objs.size + 1 ∨ b = s1.heap.objs.size := by simpa using hb
      have hle : s1.heap.objs.size ≤ b := by
        rcases e' with z | z
        · rw [z]; exact Nat.le_add_right _ _
        · rw [z]; exact Nat.le_refl _
      exact I1.fpOk hle (I1.hok.fresh hle)

/-! ### for k in d: the dict is locked for good -/
def iKeysL (td : TE) : TI := fun σ H R => td σ H fun x H1 => ∃ d kvs, x = .ref d ∧ ((H1 d = some (.dT kvs) ∧ ∀ od, R (Itkt d od kvs) (upd H1 d (.frz od (.dT kvs)))) ∨ ∃ od, H1 d = some (.frz od (.dT kvs)) ∧ R (Itkt d od kvs) H1)
theorem pi_keysL {tg e : Expr} {td : TE} (he : PE X e td) : PI X tg e (iKeysL td) := by
  refine ⟨fun pins s σ H R I h => ?_⟩
  refine thn (he.run pins s σ H _ I h) fun u s1 ⟨x, H1, I1, rx, d, kvs, ex, q⟩ => ?_
  subst ex
  obtain rfl : u = Value.ref d := rx
  have fin : ∀ {H2 : Hp} {od : Obj}, Inv X pins σ H2 s1 → H2 d = some (.frz od (.dT kvs)) → R (Itkt d od kvs) H2 → wpAny (model X.prog X.w) X.A (pyIter (.ref d)) (PIE X pins σ tg R) X.xe s1 := fun {H2 od} I2 hd q => by
    obtain ⟨hs, hgd, hx, es, ep, hdt, hsz, ent⟩ := I2.frzT hd
    refine iter_keys hs hgd hx hdt (pi_one (tk := s1.toks) I2 _ (turn_keysT _ hdt) ⟨_, Heap.get?_push_size _ rfl, rfl, ?_⟩ q)
    rw [hsz] <;> rfl
  rcases q with ⟨hd, q⟩ | ⟨od, hd, q⟩
  · obtain ⟨od, I2⟩ := I1.lock hd True.intro
    exact fin I2 upd_same (q od)
  · exact fin I1 hd q
theorem pvKey_rep {F : Hp} : ∀ (ks : List PKey), (∀ x : Str, Sum.inr x ∈ ks → PyData.strOk x = true ∧ x.length ≤ lim) → Reps K F (ks.map kV) (ks.map pvOfKey1)
  | [], _ => .nil
  | .inl i :: ks, h => .cons (.int i) (pvKey_rep ks fun x hk => h x (List.mem_cons_of_mem _ hk))
  | .inr x :: ks, h => .cons (.str x (h x List.mem_cons_self).1 (h x List.mem_cons_self).2) (pvKey_rep ks fun x hk => h x (List.mem_cons_of_mem _ hk))
/-- a tuple that stands is taken to be frozen -/
theorem Grow.takeTup {H F : Hp} (le : FLe F H) {q : Addr} {xs : List V} (e : H q = some (.tup xs)) : ∃ F', Grow H F H F' ∧ F' q = some (.tup xs) := by
  cases n : F q with
  | some u =>
    have h := le q u n
    rw [e] at h; cases h
    exact ⟨F, .refl le, n⟩
  | none =>
    refine ⟨upd F q (.tup xs), ⟨fun a o z => ?_, fun a o z => ⟨o, ?_, .inl rfl⟩, fun _ _ _ z => z, fun a o z na => ?_⟩, upd_same⟩
    · by_cases ha : a = q
      · subst ha; rw [upd_same] at z; cases z; exact e
      · rw [upd_ne ha] at z; exact le a o z
    · rw [upd_ne (fun w => by subst w; rw [n] at z; cases z)]; exact z
    · by_cases ha : a = q
      · subst ha; exact .inr ⟨xs, e⟩
      · rw [upd_ne ha, na] at z; cases z
theorem iter_keysP {F : Hp} {d : Addr} {od : Obj} {kvs : List (List PKey × V)} (s : F d = some (.frz od (.dT kvs))) (l : kvs.length ≤ lim) (hg : ∀ p ∈ kvs, kGood p.1) : IterV K (Itkt d od kvs) F ((kvs.map (·.1)).map pvOfKey) := by
  have st : ∀ {F2 H2 : Hp}, FG F F2 → FLe F2 H2 → H2 d = some (.frz od (.dT kvs)) := fun g le => by
    obtain ⟨o', e, k⟩ := g d _ s
    rw [k.frzE] at e
    exact le _ _ e
  refine ⟨by simpa using l, fun F2 H2 g le i => ⟨fun v hv => ?_, fun hi => ⟨st g le, by simpa using hi⟩⟩⟩
  rw [List.getElem?_map, List.getElem?_map] at hv
  cases e : kvs[i]? with
  | none => rw [e] at hv; cases hv
  | some p =>
    rw [e] at hv
    cases hv
    refine ⟨⟨st g le, (List.getElem?_eq_some_iff.mp e).1⟩, fun y H3 hy => ?_⟩
    obtain ⟨rfl, k, w, q, hk, rfl, hq⟩ := hy
    rw [e] at hk; cases hk
    have hm := List.mem_of_getElem? e
    obtain ⟨F3, g3, e3⟩ := Grow.takeTup le hq
    refine ⟨F3, g3, .tup e3 ?_ (pvKey_rep k (hg _ hm).1)⟩
    rw [List.length_map]
    exact (hg _ hm).2
end PY

/-! PyB7: a dict display of one tuple key. -/
namespace PY
open PySem L2
open PySem.Spec PyProof.Rows
variable {K : Frag} {Φ : Fns} {δ : Dps} {X : Cx}

def tDct1 (tk tv : TE) : TE := fun σ H Q => ∀ p, H p = none → tk σ (upd H p (.dT [])) fun x H1 => tv σ H1 fun y H2 => ∃ b q, x = .ref b ∧ H2 b = some (.tup (q.map kV)) ∧ H2 p = some (.dT []) ∧ Q (.ref p) (upd H2 p (.dT [(q, y)]))
theorem pe_dct1 (hu : X.A.units + 65 < cLine) {k v : Expr} {tk tv : TE} {pos : Pos} (hk : PE X k tk) (hv : PE X v tv) : PE X (.Dict [some k] [v] pos) (tDct1 tk tv) := by
  refine ⟨fun pins s σ H Q I h => ?_⟩
  have hn := I.hok.fresh (Nat.le_refl s.heap.objs.size)
  have I1 := I.laid (a := s.heap.objs.size) (o := .dT []) (h' := s.heap.push { cls := .type "dict", data := .dict #[] }) (t' := s.toks) (fun _ _ q => Heap.get?_push_of_some _ q) (Nat.le_refl _) (dt_empty s.heap I.big)
  rw [arm_eval_Dict]
  have e1 : evalEachOpt [some k] X.env = [some (eval k X.env)] := rfl
  have e2 : evalEach [v] X.env = [eval v X.env] := rfl
  rw [e1, e2]
  have e3 := dictDisplay_pairs [(eval k X.env, ((do let x ← eval v X.env; standAt pos; pure x) : Sem Value))] (by simp) (Nat.lt_of_lt_of_le Nat.one_lt_two (Nat.le_of_ble_eq_true rfl))
  simp only [List.map_cons, List.map_nil, List.zip_cons_cons, List.zip_nil_right] at e3 ⊢
  rw [e3]
  refine wpAny_bind (wpAny_standAt (wpAny_bind ?_))
  refine wpAny_subDictH (knd := tupleKind (mixKind X.prog X.w)) (show X.A.units < cLine by omega) (Nat.le_of_ble_eq_true rfl) ?_
  refine evalPairs_cons ?_
  refine thn (hk.run pins _ σ _ _ I1 (h _ hn)) fun kv s1 h1 => ?_
  obtain ⟨x, H1, J1, rx, q1⟩ := h1
  refine wpAny_bind ?_
  refine thn (hv.run pins s1 σ H1 _ J1 q1) fun vv s2 h2 => ?_
  obtain ⟨y, H2, J2, ry, b, q, ex, eb, ep, q2⟩ := h2
  refine wpAny_bind (wpAny_standAt (wpAny_pure ?_))
  refine evalPairs_nil ?_
  subst ex
  cases (show kv = Value.ref b from rx)
  obtain ⟨z, hd, xs0, r0, dd⟩ := dt_of J2.hok ep
  cases r0
  refine ⟨[(q, b, vv)], ⟨rfl, rfl, key_of J2.hok eb, trivial⟩, dd, fun h' tk dd' hs => wpAny_pure ?_⟩
  have e1 : storedAllH [] [(q, b, vv)] = [(q, b, vv)] := by simp [storedAllH, storedH, atKey]
  rw [e1] at dd'
  obtain ⟨o, es, ep', h1, h2, h3, h4, h5, h6⟩ := dd'
  have new : ObjOk X.prog X.w (upd H2 s.heap.objs.size (.dT [(q, y)])) h' s.heap.objs.size (.dT [(q, y)]) := by
    refine ⟨by show 1 ≤ sizeLine; decide, hd, [(q, b, vv)], .cons ⟨rfl, ?_, ry⟩ .nil, o, es, ep', h1, h2, h3, h4, h6⟩
    rw [upd_ne (ne_of eb ep (fun z => nomatch z))]
    exact eb
  exact ⟨.ref s.heap.objs.size, _, d_write J2 (by rw [ep]; exact True.intro) hs ⟨o, h1⟩ new, rfl, q2⟩
end PY

/-! PyC1: stores into slots; targets. -/
namespace PY
open PySem L2
open PySem.Spec PyProof.Rows
variable {K : Frag} {Φ : Fns} {δ : Dps} {X : Cx}

theorem dp_set {δ : Dps} {i j k : Nat} (hi : i < δ.length) : dp (δ.set i k) j = if j = i then k else dp δ j := by
  unfold dp
  by_cases h : j = i
  · subst h
    rw [if_pos rfl, List.getD_eq_getElem?_getD, List.getElem?_set_self hi]; rfl
  · rw [if_neg h, List.getD_eq_getElem?_getD, List.getD_eq_getElem?_getD, List.getElem?_set_ne (Ne.symm h)]
def putA (As : Nat → List Addr) (i : Nat) (A : List Addr) : Nat → List Addr := fun j => if j = i then A else As j
theorem putA_same {As : Nat → List Addr} {i : Nat} {A : List Addr} : putA As i A i = A := by unfold putA; rw [if_pos rfl]
theorem putA_ne {As : Nat → List Addr} {i j : Nat} {A : List Addr} (h : j ≠ i) : putA As i A j = As j := by unfold putA; rw [if_neg h]
theorem Sit.set {H F : Hp} {σ : L2.St} {env : PEnv} {As : Nat → List Addr} (S : Sit K H F σ env δ As) {i d : Nat} {x : V} {v : PV} {A : List Addr} (hi : i < δ.length) (o : OwnV K H F d x v A) (nd : A.Nodup) (nf : ∀ a ∈ A, F a = none)
    (dj : ∀ j, j ≠ i → ∀ a ∈ A, a ∉ As j) : Sit K H F (σ.set i (some x)) (env.set i (some v)) (δ.set i d) (putA As i A) where
  le := S.le
  len := by rw [List.length_set, List.length_set]; exact S.len
  at' := fun j w e => by
    rw [dp_set hi]
    by_cases h : j = i
    · subst h
      rw [if_pos rfl, putA_same]
      have hl : j < env.length := by
        have := (List.getElem?_eq_some_iff.mp e).1
        rwa [List.length_set] at this
      rw [List.getElem?_set_self hl] at e
      cases e
      exact ⟨x, List.getElem?_set_self (by rw [S.len]; exact hl), o⟩
    · rw [if_neg h, putA_ne h]
      rw [List.getElem?_set_ne (Ne.symm h)] at e
      obtain ⟨y, hy, q⟩ := S.at' j w e
      exact ⟨y, by rw [List.getElem?_set_ne (Ne.symm h)]; exact hy, q⟩
  nd := fun j => by
    by_cases h : j = i
    · subst h; rw [putA_same]; exact nd
    · rw [putA_ne h]; exact S.nd j
  dj := fun j l hjl a ha => by
    by_cases h : j = i
    · subst h
      rw [putA_same] at ha
      rw [putA_ne (Ne.symm hjl)]
      exact dj l (Ne.symm hjl) a ha
    · rw [putA_ne h] at ha
      by_cases h2 : l = i
      · subst h2
        rw [putA_same]
        exact fun hb => dj j h a hb ha
      · rw [putA_ne h2]
        exact S.dj j l hjl a ha
  fr := fun j a ha => by
    by_cases h : j = i
    · subst h
      rw [putA_same] at ha
      exact ⟨nf a ha, o.thereO a ha⟩
    · rw [putA_ne h] at ha
      exact S.fr j a ha
/-- less is owned: the slot i is frozen -/
theorem Sit.freeze {H F : Hp} {σ : L2.St} {env : PEnv} {As : Nat → List Addr} (S : Sit K H F σ env δ As) (i : Nat) (hi : i < δ.length) : Sit K H (froz F H (As i)) σ env (δ.set i 0) (putA As i []) where
  le := froz_le S.le _
  len := S.len
  at' := fun j w e => by
    obtain ⟨x, hx, o⟩ := S.at' j w e
    refine ⟨x, hx, ?_⟩
    rw [dp_set hi]
    by_cases h : j = i
    · subst h
      rw [if_pos rfl, putA_same]
      exact ⟨o.frozen S.le, rfl⟩
    · rw [if_neg h, putA_ne h]
      exact o.mono (froz_fg S.le _) fun a _ o e => e
  nd := fun j => by
    by_cases h : j = i
    · subst h; rw [putA_same]; exact List.nodup_nil
    · rw [putA_ne h]; exact S.nd j
  dj := fun j l hjl a ha => by
    by_cases h : j = i
    · subst h; rw [putA_same] at ha; cases ha
    · rw [putA_ne h] at ha
      by_cases h2 : l = i
      · subst h2; rw [putA_same]; simp
      · rw [putA_ne h2]; exact S.dj j l hjl a ha
  fr := fun j a ha => by
    by_cases h : j = i
    · subst h; rw [putA_same] at ha; cases ha
    · rw [putA_ne h] at ha
      obtain ⟨n, t⟩ := S.fr j a ha
      exact ⟨by rw [froz_out (S.dj j i h a ha)]; exact n, t⟩

/-! ### targets -/
def setAll (σ : L2.St) : List Nat → List V → L2.St
  | i :: is, x :: xs => setAll (σ.set i (some x)) is xs
  | _, _ => σ
def setD (δ : Dps) (k : Nat) : List Nat → Dps
  | [] => δ
  | i :: is => setD (δ.set i k) k is
theorem setD_length : ∀ (is : List Nat) (δ : Dps) (k : Nat), (setD δ k is).length = δ.length
  | [], _, _ => rfl
  | i :: is, δ, k => by unfold setD; rw [setD_length is, List.length_set]
theorem setAll_length : ∀ (is : List Nat) (xs : List V) (σ : L2.St), (setAll σ is xs).length = σ.length
  | [], _, _ => by unfold setAll; rfl
  | _ :: _, [], _ => by unfold setAll; rfl
  | i :: is, x :: xs, σ => by unfold setAll; rw [setAll_length is, List.length_set]
/-- many stores -/
theorem Sit.setMany {H F : Hp} {d : Nat} : ∀ {is : List Nat} {xs : List V} {vs : List PV} {A : List Addr} {δ : Dps} {σ : L2.St} {env env' : PEnv} {As : Nat → List Addr}, Sit K H F σ env δ As → (∀ i ∈ is, i < δ.length) → Owns (OwnV K H F d) xs vs A → A.Nodup → (∀ a ∈ A, F a = none) →
    (∀ j, ∀ a ∈ A, a ∉ As j) → PY.setMany env is vs = some env' → ∃ As', Sit K H F (setAll σ is xs) env' (setD δ d is) As' ∧ ∀ j a, a ∈ As' j → a ∈ As j ∨ a ∈ A := fun {is} => by
  induction is with
  | nil =>
    intro xs vs A δ σ env env' As S _ os _ _ _ e
    cases os with
    | nil =>
      cases e
      exact ⟨As, S, fun j a h => .inl h⟩
    | cons p os => cases e
  | cons i is ih =>
    intro xs vs A δ σ env env' As S hi os nd nf dj e
    cases os with
    | nil => cases e
    | @cons x v xs vs A1 A2 p os =>
      obtain ⟨n1, n2, n3⟩ := List.nodup_append.mp nd
      have S1 := S.set (hi i List.mem_cons_self) p n1 (fun a ha => nf a (List.mem_append_left _ ha)) fun j _ a ha => dj j a (List.mem_append_left _ ha)
      obtain ⟨As', S2, h2⟩ := ih S1 (fun j hj => by rw [List.length_set]; exact hi j (List.mem_cons_of_mem _ hj)) os n2 (fun a ha => nf a (List.mem_append_right _ ha)) (fun j a ha hb => by
        by_cases h : j = i
        · subst h; rw [putA_same] at hb; exact n3 a hb a ha rfl
        · rw [putA_ne h] at hb; exact dj j a (List.mem_append_right _ ha) hb) e
      refine ⟨As', S2, fun j a ha => ?_⟩
      rcases h2 j a ha with h | h
      · by_cases hj : j = i
        · subst hj; rw [putA_same] at h; exact .inr (List.mem_append_left _ h)
        · rw [putA_ne hj] at h; exact .inl h
      · exact .inr (List.mem_append_right _ h)

section
variable (N : List Str)
/-- a name that is stored: fs tells which scope's cells are this block's own -/
def locOk (sc : Scope) (fs : Option Scope) (x : Str) : Bool := decide (sc.names.lookup x = some .local) || (decide (sc.names.lookup x = some .cell) && match fs with
  | none => true
  | some s => decide (s.names.lookup x = some .cell))
def tnOk (δ : Dps) (sc : Scope) (fs : Option Scope) (i : Nat) (e : Expr) : Bool := match e with
  | .Name x _ => decide (N[i]? = some x) && locOk sc fs x && decide (i < δ.length)
  | _ => false
def tnsOk (δ : Dps) (sc : Scope) (fs : Option Scope) : List Nat → List Expr → Bool
  | [], [] => true
  | i :: is, e :: es => tnOk N δ sc fs i e && tnsOk δ sc fs is es
  | _, _ => false
def ckT (δ : Dps) (sc : Scope) (fs : Option Scope) (tg : Tg) (e : Expr) : Bool := match tg with
  | .var i => tnOk N δ sc fs i e
  | .tup is => match e with
    | .Tuple es _ _ => tnsOk N δ sc fs is es
    | _ => false
end
/-- what the slots own behind a target -/
def tgK (k : Nat) : Tg → Nat
  | .var _ => k
  | .tup _ => k - 1
def gT (K : Frag) (δ : Dps) (k : Nat) (tg : Tg) : TG := fun v σ H Q => ∃ F env As pv A env', Sit K H F σ env δ As ∧ OwnV K H F k v pv A ∧ A.Nodup ∧ (∀ a ∈ A, F a = none) ∧ (∀ j, ∀ a ∈ A, a ∉ As j) ∧ bindT tg pv env = .ok env' ∧
  ∀ xs As', Sit K H F (setAll σ (tgL tg) xs) env' (setD δ (tgK k tg) (tgL tg)) As' → (∀ j a, a ∈ As' j → a ∈ As j ∨ a ∈ A) → Q (setAll σ (tgL tg) xs) H
def FnIs (X : Cx) (fs : Option Scope) : Prop := match fs with
  | none => ∀ x, X.fn x = true
  | some s => ∀ x, X.fn x = (s.names.lookup x == some .cell)
theorem locOk_ok {N : List Str} {sc : Scope} {fs : Option Scope} {x : Str} (h : locOk sc fs x = true) (hs : X.env.scope = sc) (hf : FnIs X fs) : Loc X.env.scope x ∧ (X.fn x = true ∨ X.env.scope.names.lookup x = some .local) := by
  subst hs
  unfold locOk at h
  rw [Bool.or_eq_true, Bool.and_eq_true, decide_eq_true_eq, decide_eq_true_eq] at h
  rcases h with h | ⟨h, h2⟩
  · exact ⟨.inl h, .inr h⟩
  · refine ⟨.inr h, .inl ?_⟩
    cases fs with
    | none => exact hf x
    | some s =>
      have hf' : ∀ x, X.fn x = (s.names.lookup x == some .cell) := hf
      rw [hf' x]
      simpa using h2
def gNs : List Nat → TGs
  | [] => gNil
  | i :: is => gCons (gName i) (gNs is)
theorem pgs_names {N : List Str} {sc : Scope} {fs : Option Scope} (hN : X.N = N) (hnd : X.N.Nodup) (hs : X.env.scope = sc) (hf : FnIs X fs) : ∀ {is : List Nat} {es : List Expr}, tnsOk N δ sc fs is es = true → PGs X es (gNs is) ∧ (assignEach es X.env).length = is.length ∧ (assignEach es X.env).findIdx? (·.1) = none ∧ es.length = is.length
  | [], [], _ => ⟨pgs_nil, rfl, rfl, rfl⟩
  | i :: is, e :: es, h => by
    unfold tnsOk at h
    rw [Bool.and_eq_true] at h
    obtain ⟨h1, h2⟩ := h
    obtain ⟨a, b, c, d⟩ := pgs_names hN hnd hs hf h2
    unfold tnOk at h1
    split at h1
    · rename_i x p
      rw [Bool.and_eq_true, Bool.and_eq_true, decide_eq_true_eq, decide_eq_true_eq] at h1
      obtain ⟨l1, l2⟩ := locOk_ok (N := N) h1.1.2 hs hf
      have e1 : assignEach (.Name x p :: es) X.env = (false, assign (.Name x p) X.env) :: assignEach es X.env := rfl
      refine ⟨pgs_cons (pg_name hnd (by rw [hN]; exact h1.1.1) l1 l2) a rfl, ?_, ?_, by rw [List.length_cons, List.length_cons, d]⟩
      · rw [e1, List.length_cons, List.length_cons, b]
      · rw [e1, List.findIdx?_cons]
        simp [c]
    · cases h1
  | [], _ :: _, h => by simp [tnsOk] at h
  | _ :: _, [], h => by simp [tnsOk] at h
theorem gNs_ok : ∀ {is : List Nat} {xs : List V} {σ : L2.St} {H : Hp} {Q : L2.St → Hp → Prop}, xs.length = is.length → Q (setAll σ is xs) H → gNs is xs σ H Q
  | [], [], _, _, _, _, h => ⟨rfl, h⟩
  | i :: is, x :: xs, σ, H, Q, hl, h => ⟨x, xs, rfl, gNs_ok (by simpa using hl) h⟩
  | [], _ :: _, _, _, _, hl, _ => by simp at hl
  | _ :: _, [], _, _, _, hl, _ => by simp at hl
theorem tns_lt {N : List Str} {sc : Scope} {fs : Option Scope} : ∀ {is : List Nat} {es : List Expr}, tnsOk N δ sc fs is es = true → ∀ i ∈ is, i < δ.length
  | [], [], _, i, hi => nomatch hi
  | i :: is, e :: es, h, j, hj => by
    unfold tnsOk at h
    rw [Bool.and_eq_true] at h
    rcases List.mem_cons.mp hj with rfl | hj
    · have h1 := h.1
      unfold tnOk at h1
      split at h1
      · rw [Bool.and_eq_true, decide_eq_true_eq] at h1
        exact of_decide_eq_true (by simpa using h1.2)
      · cases h1
    · exact tns_lt h.2 j hj
  | [], _ :: _, h, _, _ => by simp [tnsOk] at h
  | _ :: _, [], h, _, _ => by simp [tnsOk] at h
theorem setMany_len : ∀ {is : List Nat} {vs : List PV} {env e : PEnv}, PY.setMany env is vs = some e → vs.length = is.length
  | [], [], _, _, _ => rfl
  | _ :: is, _ :: vs, env, e, h => by
    simp only [PY.setMany] at h
    rw [List.length_cons, List.length_cons, setMany_len h]
  | [], _ :: _, _, _, h => by simp [PY.setMany] at h
  | _ :: _, [], _, _, h => by simp [PY.setMany] at h
theorem bindT_tup {is : List Nat} {v : PV} {env e : PEnv} (h : bindT (.tup is) v env = .ok e) : ∃ vs, (v = .tup vs ∨ v = .lst vs) ∧ PY.setMany env is vs = some e := by
  unfold bindT at h
  simp only at h
  split at h
  · split at h
    · cases h; exact ⟨_, .inl rfl, by assumption⟩
    · cases h
  · split at h
    · cases h; exact ⟨_, .inr rfl, by assumption⟩
    · cases h
  · cases h
/-- either of two readings of a target -/
theorem pg_or {e : Expr} {g g' : TG} (h : PG X e g) (h' : PG X e g') : PG X e (fun v σ H Q => g v σ H Q ∨ g' v σ H Q) := ⟨fun pins s σ H v u Q I r q => q.elim (h.run pins s σ H v u Q I r) (h'.run pins s σ H v u Q I r)⟩
theorem pg_T {N : List Str} {sc : Scope} {fs : Option Scope} (hc : X.calm = true) (hN : X.N = N) (hnd : X.N.Nodup) (hs : X.env.scope = sc) (hf : FnIs X fs) {tg : Tg} {e : Expr} {k : Nat} (h : ckT N δ sc fs tg e = true) : PG X e (gT X.K δ k tg) := by
  cases tg with
  | var i =>
    have h1 : tnOk N δ sc fs i e = true := h
    unfold tnOk at h1
    split at h1
    · rename_i x p
      rw [Bool.and_eq_true, Bool.and_eq_true, decide_eq_true_eq, decide_eq_true_eq] at h1
      obtain ⟨l1, l2⟩ := locOk_ok (N := N) h1.1.2 hs hf
      refine PG_weak (pg_name hnd (by rw [hN]; exact h1.1.1) l1 l2) fun v σ H Q q => ?_
      obtain ⟨F, env, As, pv, A, env', S, o, nd, nf, dj, hb, k'⟩ := q
      cases hb
      exact k' [v] _ (S.set h1.2 o nd nf fun j _ => dj j) fun j a ha => by
        by_cases hj : j = i
        · subst hj; rw [putA_same] at ha; exact .inr ha
        · rw [putA_ne hj] at ha; exact .inl ha
    · cases h1
  | tup is =>
    simp only [ckT] at h
    split at h
    · rename_i es kk p
      have h1 := h
      obtain ⟨hp, h2, h3, h4⟩ := pgs_names hN hnd hs hf h1
      refine PG_weak (pg_or (pg_tup (n := is.length) hc hp h2 h3) (pg_unl (n := is.length) hc hp h2 h3)) fun v σ H Q q => ?_
      obtain ⟨F, env, As, pv, A, env', S, o, nd, nf, dj, hb, k'⟩ := q
      obtain ⟨vs, hv, hm⟩ := bindT_tup hb
      have hlv := setMany_len hm
      have fin : ∀ {xs : List V} {d : Nat} {B : List Addr}, d = k - 1 → Owns (OwnV X.K H F d) xs vs B → B.Nodup → (∀ a ∈ B, a ∈ A) → xs.length = is.length ∧ Q (setAll σ is xs) H := fun {xs d B} ed os nB hBA => by
        subst ed
        obtain ⟨As', S', h'⟩ := S.setMany (tns_lt h1) os nB (fun a ha => nf a (hBA a ha)) (fun j a ha => dj j a (hBA a ha)) hm
        exact ⟨os.length.trans hlv, k' xs As' S' fun j a ha => (h' j a ha).imp id (hBA a)⟩
      match k, o with
      | 0, ⟨r, eA⟩ =>
        rcases hv with rfl | rfl
        · cases r with
          | tup s l rs =>
            obtain ⟨a, b⟩ := fin rfl (Owns.ofReps rs) List.nodup_nil (fun a ha => by cases ha)
            exact .inl ⟨_, _, rfl, SqT.of (S.le _ _ s), a, gNs_ok a b⟩
        · cases r with
          | lst s l rs =>
            obtain ⟨a, b⟩ := fin rfl (Owns.ofReps rs) List.nodup_nil (fun a ha => by cases ha)
            exact .inr ⟨_, _, rfl, SqL.of (S.le _ _ s), a, gNs_ok a b⟩
      | k + 1, ⟨a, B, ex, eA, q⟩ =>
        subst ex eA
        rcases q with ⟨xs, ws, ev, e, l, os⟩ | ⟨kvs, ws, ev, e, l, os⟩
        · have ew : ws = vs := by
            rcases hv with z | z
            · rw [z] at ev; cases ev
            · rw [z] at ev; cases ev; rfl
          subst ew
          obtain ⟨a', b⟩ := fin rfl os (List.nodup_cons.mp nd).2 fun a ha => List.mem_cons_of_mem _ ha
          exact .inr ⟨_, _, rfl, SqL.of e, a', gNs_ok a' b⟩
        · rcases hv with z | z <;> (rw [z] at ev; cases ev)
    · cases h
end PY

/-! PyC2: the check of expressions. -/
namespace PY
open PySem L2
open PySem.Spec PyProof.Rows

def isL : CE → Bool
  | .lst _ _ => true
  | .comp _ _ _ _ _ => true
  | .bin .add a _ => isL a
  | .bin .mul a _ => isL a
  | _ => false
/-- how deep an answer is one's own -/
def fd (Γ : List FnD) : CE → Nat
  | .lst n _ => n
  | .comp elt _ _ _ _ => fd Γ elt + 1
  | .call f _ => match Γ[f]? with
    | some d => d.fr
    | none => 0
  | .bi b _ => biFd b
  | .dct1 _ _ => 1
  | .bin .add a _ => if isL a then 1 else 0
  | .bin .mul a _ => if isL a then 1 else 0
  | _ => 0
def notSlice : Expr → Bool
  | .Slice _ _ _ _ => false
  | _ => true
def tstOk : CE → Bool
  | .ite _ _ _ => false
  | _ => true
section
variable (Γ : List FnD) (N : List Str) (δ : Dps)
def glOk (sc : Scope) (x : Str) : Bool := decide (sc.names.lookup x = some .globalImplicit) && !(x == ("__debug__" : Str))
def visOk (sc : Scope) (x : Str) : Bool := match sc.names.lookup x with
  | some .local => true
  | some .cell => true
  | some .free => true
  | _ => false
def vOk (sc : Scope) (i : Nat) (x : Str) : Bool := decide (N[i]? = some x) && visOk sc x && !(x == ("__debug__" : Str)) && !(x == ("__classdict__" : Str))
/-- a borrowed name -/
def ckB (c : CE) (sc : Scope) (e : Expr) : Bool := match c with
  | .bor i => match e with
    | .Name x _ => vOk N sc i x
    | _ => false
  | _ => false
def ckB1 (c : CE) : Bool := match c with
  | .bor i => decide (dp δ i ≤ 1)
  | _ => false
mutual
def ckE : CE → Scope → Expr → Bool
  | .cnon, _, e => match e with
    | .Constant .none _ _ => true
    | _ => false
  | .cbl b, _, e => match e with
    | .Constant (.bool c) _ _ => decide (b = c)
    | _ => false
  | .cint i, _, e => match e with
    | .Constant (.int j) _ _ => decide (i = j)
    | _ => false
  | .cstr x, _, e => match e with
    | .Constant (.str y) _ _ => decide (x = y) && PyData.strOk x && decide (x.length ≤ lim)
    | _ => false
  | .var i, sc, e => match e with
    | .Name x _ => vOk N sc i x && decide (dp δ i = 0)
    | _ => false
  | .bor _, _, _ => false
  | .bin op a b, sc, e => match e with
    | .BinOp l o r _ => decide (o = opB op) && ckE a sc l && ckE b sc r
    | _ => false
  | .neg a, sc, e => match e with
    | .UnaryOp .USub r _ => ckE a sc r
    | _ => false
  | .cmp op a b, sc, e => match e with
    | .Compare l [o] [r] _ => decide (o = opC op) && (ckE a sc l || ckB N a sc l) && (ckE b sc r || ckB N b sc r) && !behindInMarks o r
    | _ => false
  | .bop k es, sc, e => match e with
    | .BoolOp o vs _ => decide (o = if k then .And else .Or) && !es.isEmpty && es.all tstOk && ckEs es sc vs
    | _ => false
  | .not a, sc, e => match e with
    | .UnaryOp .Not r _ => tstOk a && ckE a sc r
    | _ => false
  | .ite c a b, sc, e => match e with
    | .IfExp t l r _ => tstOk c && ckE c sc t && ckE a sc l && ckE b sc r
    | _ => false
  | .tup es, sc, e => match e with
    | .Tuple vs _ _ => ckEs es sc vs && decide (es.length ≤ lim)
    | _ => false
  | .lst n es, sc, e => match e with
    | .List vs _ => ckEs es sc vs && decide (es.length ≤ lim) && decide (1 ≤ n) && es.all fun c => decide (n ≤ fd Γ c + 1)
    | _ => false
  | .dct1 k v, sc, e => match e with
    | .Dict [some k'] [v'] _ => ckE k sc k' && ckE v sc v'
    | _ => false
  | .idx a i, sc, e => match e with
    | .Subscript l r _ => (ckE a sc l || (ckB N a sc l && ckB1 δ a)) && ckE i sc r
    | _ => false
  | .slc a lo hi, sc, e => match e with
    | .Subscript l (.Slice lo' hi' none _) _ => ckE a sc l && (match lo' with
      | none => isNoE lo
      | some e => !isNoE lo && ckE lo sc e) && (match hi' with
      | none => isNoE hi
      | some e => !isNoE hi && ckE hi sc e)
    | _ => false
  | .call f es, sc, e => match e with
    | .Call (.Name x _) vs [] _ => (match Γ[f]? with
      | some d => decide (d.name = x) && decide (es.length = d.ar)
      | none => false) && glOk sc x && ckEs es sc vs
    | _ => false
  | .bi b es, sc, e => match e with
    | .Call (.Name x _) vs [] _ => decide (x = biName b) && glOk sc x && !es.isEmpty && (ckEs es sc vs || (decide (b = .len) && match es with
      | [c] => match vs with
        | [v] => ckB N c sc v
        | _ => false
      | _ => false))
    | _ => false
  | .isi a t, sc, e => match e with
    | .Call (.Name x _) [v, .Name y _] [] _ => decide (x = "isinstance") && decide (y = tyName t) && glOk sc x && glOk sc y && ckE a sc v
    | _ => false
  | .comp elt tg it conds own, sc, e => match e with
    | .ListComp elt' [⟨tg', it', ifs, 0⟩] scope _ => ckI it sc tg' it' && ckT N δ (relS scope sc) (some scope) tg tg' && (tgL tg).all (fun i => own.contains i) && own.all (fun i => decide (dp δ i = 0)) && blkC N sc scope (own.map fun i => (N.getD i default, i)) && ckEs conds (relS scope sc) ifs && conds.all tstOk && decide (conds.length ≤ 1) && ckE elt (relS scope sc) elt'
    | _ => false
def ckEs : List CE → Scope → List Expr → Bool
  | [], _, vs => vs.isEmpty
  | c :: cs, sc, vs => match vs with
    | v :: vs => ckE c sc v && ckEs cs sc vs
    | [] => false
def ckI : CI → Scope → Expr → Expr → Bool
  | .seq c, sc, _, it => ckE c sc it
  | .rng1 a, sc, _, it => match it with
    | .Call (.Name x _) [v] [] _ => decide (x = "range") && glOk sc x && ckE a sc v
    | _ => false
  | .rng2 a b, sc, _, it => match it with
    | .Call (.Name x _) [v, u] [] _ => decide (x = "range") && glOk sc x && ckE a sc v && ckE b sc u
    | _ => false
  | .enu c, sc, tg, it => match it with
    | .Call (.Name x _) [v] [] _ => decide (x = "enumerate") && glOk sc x && ckE c sc v && (match tg with
      | .Tuple _ _ _ => true
      | _ => false)
    | _ => false
  | .keys c, sc, _, it => ckE c sc it
end
end

/-! ### what a checked expression is not -/
def headOk : Expr → Bool
  | .Starred _ _ => false
  | .Slice _ _ _ _ => false
  | .Set _ _ _ => false
  | _ => true
section
variable {Γ : List FnD} {N : List Str} {δ : Dps}
theorem ck_head {c : CE} {sc : Scope} {e : Expr} (h : ckE Γ N δ c sc e = true) : headOk e = true := by
  cases c <;> (unfold ckE at h; first | (cases h; done) | (split at h <;> first | rfl | (cases h)))
theorem head_star {e : Expr} (h : headOk e = true) (es : List Expr) (env : Env) : starEach (e :: es) env = (false, eval e env) :: starEach es env := by
  cases e <;> first | rfl | (cases h)
theorem head_slice {e : Expr} (h : headOk e = true) : ∀ o i, subscripted e false o i = operate [o, i] (getItem o i) := by
  intro o i
  cases e <;> first | rfl | (cases h)
theorem head_set {e : Expr} (h : headOk e = true) (env : Env) : ∀ x, foldedSetIterable e env x = pure x := by
  intro x
  cases e <;> first | rfl | (cases h)
theorem ckEs_len : ∀ {cs : List CE} {sc : Scope} {vs : List Expr}, ckEs Γ N δ cs sc vs = true → cs.length = vs.length
  | [], _, vs, h => by
    unfold ckEs at h
    cases vs with
    | nil => rfl
    | cons _ _ => cases h
  | c :: cs, sc, vs, h => by
    unfold ckEs at h
    split at h
    · rw [Bool.and_eq_true] at h
      rw [List.length_cons, List.length_cons, ckEs_len h.2]
    · cases h
theorem ckEs_cons {c : CE} {cs : List CE} {sc : Scope} {vs : List Expr} (h : ckEs Γ N δ (c :: cs) sc vs = true) : ∃ v us, vs = v :: us ∧ ckE Γ N δ c sc v = true ∧ ckEs Γ N δ cs sc us = true := by
  unfold ckEs at h
  split at h
  · rw [Bool.and_eq_true] at h
    exact ⟨_, _, rfl, h.1, h.2⟩
  · cases h
theorem ckEs_star : ∀ {cs : List CE} {sc : Scope} {vs : List Expr} (pos : Pos) (env : Env), ckEs Γ N δ cs sc vs = true → (backTo pos (starEach vs env)).any (·.1) = false
  | [], _, vs, pos, env, h => by
    unfold ckEs at h
    cases vs with
    | nil => rfl
    | cons _ _ => cases h
  | c :: cs, sc, vs, pos, env, h => by
    obtain ⟨v, us, rfl, h1, h2⟩ := ckEs_cons h
    rw [head_star (ck_head h1)]
    have ih := ckEs_star pos env h2
    unfold backTo at ih ⊢
    rw [List.map_cons, List.any_cons, ih]
    rfl
end
theorem glOk_ok {X : Cx} {sc : Scope} {x : Str} (hs : X.env.scope = sc) (h : glOk sc x = true) : Gl X x ∧ (x == ("__debug__" : Str)) = false := by
  unfold glOk at h
  rw [Bool.and_eq_true, decide_eq_true_eq] at h
  subst hs
  exact ⟨h.1, by simpa using h.2⟩
theorem vOk_ok {N : List Str} {sc : Scope} {i : Nat} {x : Str} (h : vOk N sc i x = true) : N[i]? = some x ∧ Vis sc x ∧ (x == ("__debug__" : Str)) = false ∧ (x == ("__classdict__" : Str)) = false := by
  unfold vOk at h
  rw [Bool.and_eq_true, Bool.and_eq_true, Bool.and_eq_true, decide_eq_true_eq] at h
  obtain ⟨⟨⟨h1, h2⟩, h3⟩, h4⟩ := h
  refine ⟨h1, ?_, by simpa using h3, by simpa using h4⟩
  unfold visOk at h2
  split at h2
  · exact .inl (by assumption)
  · exact .inr (.inl (by assumption))
  · exact .inr (.inr (by assumption))
  · cases h2
/-- an isL answer is a list -/
theorem isL_ok {Φ : Fns} : ∀ {c : CE} {env : PEnv} {v : PV}, isL c = true → evE Φ c env = .ok v → ∃ l, v = .lst l
  | .lst n es, env, v, _, h => by
    unfold evE at h
    obtain ⟨xs, _, h⟩ := R.bind_eq_ok h
    cases h; exact ⟨_, rfl⟩
  | .comp _ _ _ _ _, env, v, _, h => by
    unfold evE at h
    obtain ⟨xs, _, h⟩ := R.bind_eq_ok h
    obtain ⟨xs, _, h⟩ := R.bind_eq_ok h
    cases h; exact ⟨_, rfl⟩
  | .bin .add a b, env, v, hl, h => by
    unfold evE at h
    obtain ⟨x, h1, h⟩ := R.bind_eq_ok h
    obtain ⟨y, h2, h⟩ := R.bind_eq_ok h
    obtain ⟨l, rfl⟩ := isL_ok (c := a) hl h1
    cases y <;> first | (cases h; done) | skip
    simp only [binP] at h
    split at h
    · cases h; exact ⟨_, rfl⟩
    · cases h
  | .bin .mul a b, env, v, hl, h => by
    unfold evE at h
    obtain ⟨x, h1, h⟩ := R.bind_eq_ok h
    obtain ⟨y, h2, h⟩ := R.bind_eq_ok h
    obtain ⟨l, rfl⟩ := isL_ok (c := a) hl h1
    cases y <;> first | (cases h; done) | skip
    simp only [binP] at h
    split at h
    · cases h; exact ⟨_, rfl⟩
    · cases h
end PY

/-! PyC3: expressions, construct by construct. -/
namespace PY
open PySem L2
open PySem.Spec PyProof.Rows
section
variable (Γ : List FnD) (Φ : Fns) (N : List Str) (δ : Dps)

/-- what a def promises -/
def spF (K : Frag) (φ : List PV → R PV) (ar fr : Nat) : Sp := fun vs H Q _ => ∃ F ps v, FLe F H ∧ Reps K F vs ps ∧ vs.length = ar ∧ φ ps = .ok v ∧ ∀ x H' F' A, Grow H F H' F' → OwnF K H H' F' fr x v A → Q x H'
def bltNames : List Str := ["len", "int", "list", "tuple", "min", "max", "abs", "isinstance", "bool", "str", "range", "enumerate"]
structure Good (X : Cx) : Prop where
  calm : X.calm = true
  hu : X.A.units + 65 < cLine
  nN : X.N = N
  nd : X.N.Nodup
  blt : ∀ x ∈ bltNames, X.mg x = none
  fn : ∀ f d, Γ[f]? = some d → ∃ k a fd, FnOk X.prog X.w X.K X.mg X.base CX0 k a fd (d.N.take d.ar) (spF X.K (Φ f) d.ar d.fr) ∧ Room k X.A ∧ X.mg d.name = some (.ref a) ∧ PySem.W.keepIn X.K (.ref a) = true ∧ Binds X.K fd (d.N.take d.ar) []
def SndE (c : CE) : Prop := ∀ X sc e, Good Γ Φ N X → X.env.scope = sc → ckE Γ N δ c sc e = true → PE X e (tO X.K Φ δ (fd Γ c) c) ∧ (tstOk c = true → PT X e (tT X.K Φ δ c))
end
variable {Γ : List FnD} {Φ : Fns} {N : List Str} {δ : Dps} {X : Cx} {sc : Scope} {e : Expr}
theorem Good.blk (G : Good Γ Φ N X) (s : Shared) (H : Hp) (scope : Scope) (cenv : Env) (fp : List Addr) : Good Γ Φ N (X.blk s H scope cenv fp) := ⟨G.calm, G.hu, G.nN, G.nd, G.blt, G.fn⟩
theorem SndE.pe {c : CE} (h : SndE Γ Φ N δ c) (G : Good Γ Φ N X) (hs : X.env.scope = sc) (hc : ckE Γ N δ c sc e = true) : PE X e (tO X.K Φ δ 0 c) := PE_weak (h X sc e G hs hc).1 fun _ _ _ q => tO_lower (Nat.zero_le _) q
theorem SndE.pem {c : CE} (h : SndE Γ Φ N δ c) (G : Good Γ Φ N X) (hs : X.env.scope = sc) (hc : ckE Γ N δ c sc e = true) {m : Nat} (hm : m ≤ fd Γ c) : PE X e (tO X.K Φ δ m c) := PE_weak (h X sc e G hs hc).1 fun _ _ _ q => tO_lower hm q
/-- a value that is a bool, as a test -/
theorem pt_of {c : CE} (h : PE X e (tO X.K Φ δ 0 c)) (he : ∀ whole, isTrue e X.env whole = (do let v ← whole; standAt e.pos; holding [v] (truthy v))) : PT X e (tT X.K Φ δ c) := by
  refine PT_weak (pt_val h he) fun σ H Q q => ?_
  obtain ⟨F, env, As, S, b, hv, k⟩ := q
  refine ⟨F, env, As, S, _, hv, fun x H' F' A g o => ?_⟩
  have r := o.rep
  cases r
  exact ⟨b, rfl, k H' F' g⟩
theorem both {c : CE} (p : PE X e (tO X.K Φ δ (fd Γ c) c)) (he : ∀ whole, isTrue e X.env whole = (do let v ← whole; standAt e.pos; holding [v] (truthy v))) : PE X e (tO X.K Φ δ (fd Γ c) c) ∧ (tstOk c = true → PT X e (tT X.K Φ δ c)) :=
  ⟨p, fun _ => pt_of (PE_weak p fun _ _ _ q => tO_lower (Nat.zero_le _) q) he⟩
theorem PE_or {t t' : TE} (h : PE X e t) (h' : PE X e t') : PE X e (fun σ H Q => t σ H Q ∨ t' σ H Q) := ⟨fun pins s σ H Q I q => q.elim (h.run pins s σ H Q I) (h'.run pins s σ H Q I)⟩
theorem PT_or {t t' : TT} (h : PT X e t) (h' : PT X e t') : PT X e (fun σ H Q => t σ H Q ∨ t' σ H Q) := ⟨fun pins s σ H Q I q => q.elim (h.run pins s σ H Q I) (h'.run pins s σ H Q I)⟩

/-! ### constants, names -/
theorem s_const {c : CE} {v : PV} {x : V} (hp : PE X e (tC x)) (hv : ∀ env, evE Φ c env = .ok v) (r : ∀ F, Rep X.K F x v) : PE X e (tO X.K Φ δ 0 c) := by
  refine PE_weak hp fun σ H Q q => ?_
  obtain ⟨F, env, As, S, w, hw, k⟩ := q
  rw [hv] at hw; cases hw
  exact k _ _ _ _ (.refl S.le) (OwnF.of (r F))
theorem s_cnon : SndE Γ Φ N δ .cnon := fun X sc e G hs h => by
  unfold ckE at h
  split at h
  · exact both (s_const pe_non (fun _ => rfl) fun F => .non) (by intro _; rfl)
  · cases h
theorem s_cbl (b : Bool) : SndE Γ Φ N δ (.cbl b) := fun X sc e G hs h => by
  unfold ckE at h
  split at h
  · cases of_decide_eq_true h
    exact both (s_const pe_bl (fun _ => rfl) fun F => .bl b) (by intro _; rfl)
  · cases h
theorem s_cint (i : Int) : SndE Γ Φ N δ (.cint i) := fun X sc e G hs h => by
  unfold ckE at h
  split at h
  · cases of_decide_eq_true h
    exact both (s_const pe_int (fun _ => rfl) fun F => .int i) (by intro _; rfl)
  · cases h
theorem s_cstr (x : Str) : SndE Γ Φ N δ (.cstr x) := fun X sc e G hs h => by
  unfold ckE at h
  split at h
  · rw [Bool.and_eq_true, Bool.and_eq_true, decide_eq_true_eq, decide_eq_true_eq] at h
    obtain ⟨⟨h1, h2⟩, h3⟩ := h
    subst h1
    exact both (s_const pe_str (fun _ => rfl) fun F => .str x h2 h3) (by intro _; rfl)
  · cases h
theorem s_var (i : Nat) : SndE Γ Φ N δ (.var i) := fun X sc e G hs h => by
  unfold ckE at h
  split at h
  · rw [Bool.and_eq_true, decide_eq_true_eq] at h
    obtain ⟨h1, h2⟩ := h
    obtain ⟨v1, v2, v3, v4⟩ := vOk_ok h1
    refine both (PE_weak (pe_var (i := i) (by rw [G.nN]; exact v1) (by rw [hs]; exact v2) v3 v4) fun σ H Q q => ?_) (by intro _; rfl)
    obtain ⟨F, env, As, S, v, hv, k⟩ := q
    obtain ⟨x, hx, o⟩ := S.at' i v (getS_ok hv)
    rw [h2] at o
    exact ⟨x, hx, k _ _ _ _ (.refl S.le) (OwnF.of o.1)⟩
  · cases h
/-- a borrowed name -/
theorem s_bor {i : Nat} (G : Good Γ Φ N X) (hs : X.env.scope = sc) (h : ckB N (.bor i) sc e = true) : PE X e (tW X.K Φ δ (dp δ i) (.bor i)) := by
  simp only [ckB] at h
  split at h
  · obtain ⟨v1, v2, v3, v4⟩ := vOk_ok h
    refine PE_weak (pe_var (i := i) (by rw [G.nN]; exact v1) (by rw [hs]; exact v2) v3 v4) fun σ H Q q => ?_
    obtain ⟨F, env, As, S, v, hv, k⟩ := q
    obtain ⟨x, hx, o⟩ := S.at' i v (getS_ok hv)
    exact ⟨x, hx, k _ _ _ _ (.refl S.le) o fun a ha => (S.fr i a ha).1⟩
  · cases h
theorem ckB_bor {c : CE} (h : ckB N c sc e = true) : ∃ i, c = .bor i := by
  cases c <;> first | exact ⟨_, rfl⟩ | (cases h)
/-- plain or borrowed -/
theorem s_any {c : CE} (hE : SndE Γ Φ N δ c) (G : Good Γ Φ N X) (hs : X.env.scope = sc) (h : (ckE Γ N δ c sc e || ckB N c sc e) = true) : ∃ d, PE X e (tW X.K Φ δ d c) ∧ ((ckB N c sc e = true → ckB1 δ c = true) → d ≤ 1) := by
  cases hp : ckE Γ N δ c sc e with
  | true =>
    refine ⟨0, PE_weak (hE.pe G hs hp) fun σ H Q q => ?_, fun _ => Nat.zero_le _⟩
    obtain ⟨F, env, As, S, v, hv, k⟩ := q
    exact ⟨F, env, As, S, v, hv, fun x H' F' A g o => k x H' F' A g o.1 fun a ha => (o.2.2 a ha).2⟩
  | false =>
    rw [hp, Bool.false_or] at h
    obtain ⟨i, rfl⟩ := ckB_bor h
    exact ⟨dp δ i, s_bor G hs h, fun h1 => of_decide_eq_true (h1 h)⟩

/-! ### operators -/
theorem s_bin (op : Bin) {a b : CE} (ha : SndE Γ Φ N δ a) (hb : SndE Γ Φ N δ b) : SndE Γ Φ N δ (.bin op a b) := fun X sc e G hs h => by
  unfold ckE at h
  split at h
  · rw [Bool.and_eq_true, Bool.and_eq_true, decide_eq_true_eq] at h
    obtain ⟨⟨rfl, h1⟩, h2⟩ := h
    refine both ?_ (by intro _; rfl)
    · refine PE_weak (pe_op (or_bin op (fd Γ (.bin op a b))) (ha.pe G hs h1) (hb.pe G hs h2)) fun σ H Q q => ?_
      obtain ⟨F, env, As, S, v, hv, k⟩ := q
      have hv0 := hv
      unfold evE at hv
      obtain ⟨x, e1, hv⟩ := R.bind_eq_ok hv
      obtain ⟨y, e2, hv⟩ := R.bind_eq_ok hv
      refine ⟨F, env, As, S, x, e1, fun vx H1 F1 A1 g1 o1 => ⟨F1, env, As, S.grow g1, y, e2, fun vy H2 F2 A2 g2 o2 => ?_⟩⟩
      refine ⟨F2, x, y, v, g2.le, o1.rep.mono g2.fg, o2.rep, hv, ?_, fun z H' F' A g o => ?_⟩
      · have hl : ∀ op', (op' = .add ∨ op' = .mul) → op = op' → (if isL a then 1 else 0 : Nat) = 0 ∨ (if isL a then 1 else 0 : Nat) = 1 ∧ ∃ l, v = .lst l := fun op' ho e' => by
          subst e'
          cases hla : isL a with
          | false => exact .inl rfl
          | true =>
            refine .inr ⟨rfl, isL_ok (c := .bin op a b) ?_ hv0⟩
            rcases ho with rfl | rfl <;> exact hla
        cases op with
        | add => exact hl .add (.inl rfl) rfl
        | mul => exact hl .mul (.inr rfl) rfl
        | sub => exact .inl rfl
        | fdiv => exact .inl rfl
        | mod => exact .inl rfl
        | pow => exact .inl rfl
      · refine k z H' F' A ((g1.trans g2).trans g) ⟨o.1, o.2.1, fun a ha => ⟨(g1.trans g2).noneE S.le (o.2.2 a ha).1, (o.2.2 a ha).2⟩⟩
  · cases h
theorem s_neg {a : CE} (ha : SndE Γ Φ N δ a) : SndE Γ Φ N δ (.neg a) := fun X sc e G hs h => by
  unfold ckE at h
  split at h
  · refine both ?_ (by intro _; rfl)
    · refine PE_weak (pe_un un_neg (ha.pe G hs h)) fun σ H Q q => ?_
      obtain ⟨F, env, As, S, v, hv, k⟩ := q
      unfold evE at hv
      obtain ⟨x, e1, hv⟩ := R.bind_eq_ok hv
      refine ⟨F, env, As, S, x, e1, fun vx H1 F1 A1 g1 o1 => ?_⟩
      have r := o1.rep
      cases r <;> first | (cases hv; done) | skip
      cases hv
      exact ⟨_, rfl, k _ _ _ _ g1 (OwnF.of (.int _))⟩
  · cases h
theorem own_seen {H F : Hp} (le : FLe F H) {d : Nat} {x : V} {v : PV} {A : List Addr} (o : OwnV X.K H F d x v A) {H' F' : Hp} (g : Grow H F H' F') (nf : ∀ a ∈ A, F a = none) : Rep X.K H' x v :=
  (o.mono (H' := H') g.fg fun a ha o' e => g.keep a o' (nf a ha) e).seen g.le
theorem s_cmp (op : Cmp) {a b : CE} (ha : SndE Γ Φ N δ a) (hb : SndE Γ Φ N δ b) : SndE Γ Φ N δ (.cmp op a b) := fun X sc e G hs h => by
  unfold ckE at h
  split at h
  · rw [Bool.and_eq_true, Bool.and_eq_true, Bool.and_eq_true, decide_eq_true_eq] at h
    obtain ⟨⟨⟨rfl, h1⟩, h2⟩, h3⟩ := h
    have h3' := (Bool.not_eq_true' _).mp h3
    obtain ⟨da, pa, _⟩ := s_any ha G hs h1
    obtain ⟨db, pb, _⟩ := s_any hb G hs h2
    have core : ∀ (σ : L2.St) (H : Hp) (P : V → Hp → Prop) (F : Hp) (env : PEnv) (As : Nat → List Addr) (k : Bool), Sit X.K H F σ env δ As → evE Φ (.cmp op a b) env = .ok (.bl k) → (∀ H' F', Grow H F H' F' → P (.bl k) H') → tOp (rCmp X.K op) (tW X.K Φ δ da a) (tW X.K Φ δ db b) σ H P := by
      intro σ H P F env As k S hv q
      unfold evE at hv
      obtain ⟨x, e1, hv⟩ := R.bind_eq_ok hv
      obtain ⟨y, e2, hv⟩ := R.bind_eq_ok hv
      obtain ⟨c, e3, hv⟩ := R.bind_eq_ok hv
      cases hv
      refine ⟨F, env, As, S, x, e1, fun vx H1 F1 A1 g1 o1 n1 => ⟨F1, env, As, S.grow g1, y, e2, fun vy H2 F2 A2 g2 o2 n2 => ?_⟩⟩
      exact ⟨x, y, k, own_seen g1.le o1 g2 n1, o2.seen g2.le, e3, q H2 F2 (g1.trans g2)⟩
    have ev : ∀ {env v}, evE Φ (.cmp op a b) env = .ok v → ∃ k, v = .bl k := fun {env v} hv => by
      unfold evE at hv
      obtain ⟨x, e1, hv⟩ := R.bind_eq_ok hv
      obtain ⟨y, e2, hv⟩ := R.bind_eq_ok hv
      obtain ⟨c, e3, hv⟩ := R.bind_eq_ok hv
      cases hv; exact ⟨c, rfl⟩
    refine ⟨PE_weak (pe_cmpR (or_cmp G.hu op) pa pb h3') fun σ H Q q => ?_, fun _ => PT_weak (pt_cmpR (or_cmp G.hu op) pa pb h3') fun σ H Q q => ?_⟩
    · obtain ⟨F, env, As, S, v, hv, k⟩ := q
      obtain ⟨c, rfl⟩ := ev hv
      exact core σ H _ F env As c S hv fun H' F' g => k _ _ _ _ g (OwnF.of (.bl c))
    · obtain ⟨F, env, As, S, b, hv, k⟩ := q
      exact core σ H _ F env As b S hv fun H' F' g => ⟨b, rfl, k H' F' g⟩
  · cases h
theorem s_not {a : CE} (ha : SndE Γ Φ N δ a) : SndE Γ Φ N δ (.not a) := fun X sc e G hs h => by
  unfold ckE at h
  split at h
  · rw [Bool.and_eq_true] at h
    obtain ⟨ht, h⟩ := h
    have ev : ∀ {env v}, evE Φ (.not a) env = .ok v → ∃ k, evE Φ a env = .ok (.bl k) ∧ v = .bl (!k) := fun {env v} hv => by
      unfold evE at hv
      obtain ⟨x, e1, hv⟩ := R.bind_eq_ok hv
      cases x <;> first | (cases hv; done) | skip
      cases hv
      exact ⟨_, e1, rfl⟩
    refine ⟨PE_weak (pe_not (ha.pe G hs h)) fun σ H Q q => ?_, fun _ => PT_weak (pt_not ((ha X sc _ G hs h).2 ht)) fun σ H Q q => ?_⟩
    · obtain ⟨F, env, As, S, v, hv, k⟩ := q
      obtain ⟨b, e1, rfl⟩ := ev hv
      refine ⟨F, env, As, S, _, e1, fun vx H1 F1 A1 g1 o1 => ?_⟩
      have r := o1.rep
      cases r
      exact ⟨b, rfl, k _ _ _ _ g1 (OwnF.of (.bl _))⟩
    · obtain ⟨F, env, As, S, b, hv, k⟩ := q
      obtain ⟨c, e1, e2⟩ := ev hv
      cases e2
      exact ⟨F, env, As, S, c, e1, k⟩
  · cases h
end PY

/-! PyC4: and, or, displays, places, calls. -/
namespace PY
open PySem L2
open PySem.Spec PyProof.Rows
variable {Γ : List FnD} {Φ : Fns} {N : List Str} {δ : Dps} {X : Cx} {sc : Scope} {e : Expr}

/-! ### and, or -/
section
variable (K : Frag) (Φ : Fns) (δ : Dps)
def tBv (k : Bool) (cs : List CE) : TE := fun σ H Q => ∃ F env As, Sit K H F σ env δ As ∧ ∃ v, evB Φ k cs env = .ok v ∧ ∀ x H' F' A, Grow H F H' F' → OwnF K H H' F' 0 x v A → Q x H'
def tBt (k : Bool) (cs : List CE) : TT := fun σ H Q => ∃ F env As, Sit K H F σ env δ As ∧ ∃ b, evB Φ k cs env = .ok (.bl b) ∧ ∀ H' F', Grow H F H' F' → Q b H'
end
def opK (k : Bool) : BoolOp := if k then .And else .Or
theorem evB_one {k : Bool} {c : CE} {env : PEnv} : evB Φ k [c] env = evE Φ c env := by
  unfold evB
  cases evE Φ c env <;> rfl
theorem evB_more {k : Bool} {c d : CE} {cs : List CE} {env : PEnv} {v : PV} (h : evB Φ k (c :: d :: cs) env = .ok v) : ∃ b, evE Φ c env = .ok (.bl b) ∧ ((b = k ∧ evB Φ k (d :: cs) env = .ok v) ∨ b ≠ k ∧ v = .bl b) := by
  unfold evB at h
  obtain ⟨x, e1, h⟩ := R.bind_eq_ok h
  cases x <;> first | (cases h; done) | skip
  rename_i b
  refine ⟨b, e1, ?_⟩
  simp only at h
  split at h
  · rename_i hb
    exact .inl ⟨by simpa using hb, h⟩
  · rename_i hb
    cases h
    exact .inr ⟨by simpa using hb, rfl⟩
theorem s_bv (G : Good Γ Φ N X) (hs : X.env.scope = sc) (k : Bool) : ∀ {cs : List CE} {vs : List Expr} {pos : Pos}, (∀ c ∈ cs, SndE Γ Φ N δ c) → cs ≠ [] → ckEs Γ N δ cs sc vs = true → PE X (.BoolOp (opK k) vs pos) (tBv X.K Φ δ k cs)
  | [], _, _, _, h0, _ => absurd rfl h0
  | [c], vs, pos, hE, _, h => by
    obtain ⟨v, us, rfl, h1, h2⟩ := ckEs_cons h
    have e : us = [] := by
      have := ckEs_len h2
      exact List.eq_nil_of_length_eq_zero this.symm
    subst e
    refine PE_weak (pe_one (op := opK k) ((hE c (by simp)).pe G hs h1)) fun σ H Q q => ?_
    obtain ⟨F, env, As, S, w, hv, kk⟩ := q
    rw [evB_one] at hv
    exact ⟨F, env, As, S, w, hv, kk⟩
  | c :: d :: cs, vs, pos, hE, _, h => by
    obtain ⟨v, us, rfl, h1, h2⟩ := ckEs_cons h
    have ih := s_bv G hs k (pos := pos) (fun c hc => hE c (List.mem_cons_of_mem _ hc)) (by simp) h2
    obtain ⟨v2, us2, rfl, _, _⟩ := ckEs_cons h2
    have p1 := (hE c (by simp)).pe G hs h1
    cases k with
    | true =>
      refine PE_weak (pe_and p1 ih) fun σ H Q q => ?_
      obtain ⟨F, env, As, S, w, hv, kk⟩ := q
      obtain ⟨b, e1, hb⟩ := evB_more hv
      refine ⟨F, env, As, S, _, e1, fun x H1 F1 A1 g1 o1 => ?_⟩
      have r := o1.rep
      cases r
      refine ⟨b, rfl, ?_⟩
      rcases hb with ⟨rfl, hb⟩ | ⟨hb, rfl⟩
      · rw [if_pos rfl]
        exact ⟨F1, env, As, S.grow g1, w, hb, fun x H' F' A g o => kk x H' F' A (g1.trans g) ⟨o.1, o.2.1, fun a ha => ⟨g1.noneE S.le (o.2.2 a ha).1, (o.2.2 a ha).2⟩⟩⟩
      · have : b = false := by simpa using hb
        subst this
        rw [if_neg (by simp)]
        exact kk _ _ _ _ g1 (OwnF.of (.bl false))
    | false =>
      refine PE_weak (pe_or p1 ih) fun σ H Q q => ?_
      obtain ⟨F, env, As, S, w, hv, kk⟩ := q
      obtain ⟨b, e1, hb⟩ := evB_more hv
      refine ⟨F, env, As, S, _, e1, fun x H1 F1 A1 g1 o1 => ?_⟩
      have r := o1.rep
      cases r
      refine ⟨b, rfl, ?_⟩
      rcases hb with ⟨rfl, hb⟩ | ⟨hb, rfl⟩
      · rw [if_neg (by simp)]
        exact ⟨F1, env, As, S.grow g1, w, hb, fun x H' F' A g o => kk x H' F' A (g1.trans g) ⟨o.1, o.2.1, fun a ha => ⟨g1.noneE S.le (o.2.2 a ha).1, (o.2.2 a ha).2⟩⟩⟩
      · have : b = true := by simpa using hb
        subst this
        rw [if_pos rfl]
        exact kk _ _ _ _ g1 (OwnF.of (.bl true))
theorem s_bt (G : Good Γ Φ N X) (hs : X.env.scope = sc) (k : Bool) : ∀ {cs : List CE} {vs : List Expr} {pos : Pos}, (∀ c ∈ cs, SndE Γ Φ N δ c ∧ tstOk c = true) → cs ≠ [] → ckEs Γ N δ cs sc vs = true → PW X (.BoolOp (opK k) vs pos) (tBt X.K Φ δ k cs)
  | [], _, _, _, h0, _ => absurd rfl h0
  | [c], vs, pos, hE, _, h => by
    obtain ⟨v, us, rfl, h1, h2⟩ := ckEs_cons h
    have e : us = [] := by
      have := ckEs_len h2
      exact List.eq_nil_of_length_eq_zero this.symm
    subst e
    have p1 := ((hE c (by simp)).1 X sc v G hs h1).2 (hE c (by simp)).2
    have p2 : PW X (.BoolOp (opK k) [v] pos) (tT X.K Φ δ c) := by
      cases k with
      | true => exact pw_and1 p1
      | false => exact pw_or1 p1
    refine ⟨fun whole pins s σ H Q I q => p2.run whole pins s σ H Q I ?_⟩
    obtain ⟨F, env, As, S, w, hv, kk⟩ := q
    rw [evB_one] at hv
    exact ⟨F, env, As, S, w, hv, kk⟩
  | c :: d :: cs, vs, pos, hE, _, h => by
    obtain ⟨v, us, rfl, h1, h2⟩ := ckEs_cons h
    have ih := s_bt G hs k (pos := pos) (fun c hc => hE c (List.mem_cons_of_mem _ hc)) (by simp) h2
    obtain ⟨v2, us2, rfl, _, _⟩ := ckEs_cons h2
    have p1 := ((hE c (by simp)).1 X sc v G hs h1).2 (hE c (by simp)).2
    cases k with
    | true =>
      have p2 := pw_and (pos := pos) p1 ih
      refine ⟨fun whole pins s σ H Q I q => p2.run whole pins s σ H Q I ?_⟩
      obtain ⟨F, env, As, S, w, hv, kk⟩ := q
      obtain ⟨b, e1, hb⟩ := evB_more hv
      refine ⟨F, env, As, S, b, e1, fun H1 F1 g1 => ?_⟩
      rcases hb with ⟨rfl, hb⟩ | ⟨hb, eb⟩
      · rw [if_pos rfl]
        exact ⟨F1, env, As, S.grow g1, w, hb, fun H' F' g => kk H' F' (g1.trans g)⟩
      · cases eb
        have : w = false := by simpa using hb
        subst this
        rw [if_neg (by simp)]
        exact kk _ _ g1
    | false =>
      have p2 := pw_or (pos := pos) p1 ih
      refine ⟨fun whole pins s σ H Q I q => p2.run whole pins s σ H Q I ?_⟩
      obtain ⟨F, env, As, S, w, hv, kk⟩ := q
      obtain ⟨b, e1, hb⟩ := evB_more hv
      refine ⟨F, env, As, S, b, e1, fun H1 F1 g1 => ?_⟩
      rcases hb with ⟨rfl, hb⟩ | ⟨hb, eb⟩
      · rw [if_neg (by simp)]
        exact ⟨F1, env, As, S.grow g1, w, hb, fun H' F' g => kk H' F' (g1.trans g)⟩
      · cases eb
        have : w = true := by simpa using hb
        subst this
        rw [if_pos rfl]
        exact kk _ _ g1
theorem s_bop (k : Bool) {cs : List CE} (hE : ∀ c ∈ cs, SndE Γ Φ N δ c) : SndE Γ Φ N δ (.bop k cs) := fun X sc e G hs h => by
  unfold ckE at h
  split at h
  · rw [Bool.and_eq_true, Bool.and_eq_true, Bool.and_eq_true, decide_eq_true_eq] at h
    obtain ⟨⟨⟨rfl, h0⟩, h1⟩, h2⟩ := h
    have hne : cs ≠ [] := by
      intro z
      rw [z] at h0
      cases h0
    have h1' : ∀ c ∈ cs, tstOk c = true := List.all_eq_true.mp h1
    exact ⟨s_bv G hs k hE hne h2, fun _ => (s_bt G hs k (fun c hc => ⟨hE c hc, h1' c hc⟩) hne h2).pt⟩
  · cases h
theorem own_later {H F H1 F1 H' F' : Hp} {m : Nat} {x : V} {v : PV} {A : List Addr} (le : FLe F H) (g1 : Grow H F H1 F1) (o : OwnF X.K H1 H' F' m x v A) : OwnF X.K H H' F' m x v A := ⟨o.1, o.2.1, fun a ha => ⟨g1.noneE le (o.2.2 a ha).1, (o.2.2 a ha).2⟩⟩
theorem s_ite {c a b : CE} (hc : SndE Γ Φ N δ c) (ha : SndE Γ Φ N δ a) (hb : SndE Γ Φ N δ b) : SndE Γ Φ N δ (.ite c a b) := fun X sc e G hs h => by
  unfold ckE at h
  split at h
  · rw [Bool.and_eq_true, Bool.and_eq_true, Bool.and_eq_true] at h
    obtain ⟨⟨⟨ht, h1⟩, h2⟩, h3⟩ := h
    refine ⟨PE_weak (pe_ifExp ((hc X sc _ G hs h1).2 ht) (ha.pe G hs h2) (hb.pe G hs h3)) fun σ H Q q => ?_, fun z => by cases z⟩
    obtain ⟨F, env, As, S, v, hv, k⟩ := q
    unfold evE at hv
    obtain ⟨x, e1, hv⟩ := R.bind_eq_ok hv
    cases x <;> first | (cases hv; done) | skip
    rename_i t
    refine ⟨F, env, As, S, t, e1, fun H1 F1 g1 => ?_⟩
    cases t with
    | true =>
      rw [if_pos rfl]
      exact ⟨F1, env, As, S.grow g1, v, hv, fun x H' F' A g o => k x H' F' A (g1.trans g) (own_later S.le g1 o)⟩
    | false =>
      rw [if_neg (by simp)]
      exact ⟨F1, env, As, S.grow g1, v, hv, fun x H' F' A g o => k x H' F' A (g1.trans g) (own_later S.le g1 o)⟩
  · cases h

/-! ### argument lists, displays -/
theorem s_args (G : Good Γ Φ N X) (hs : X.env.scope = sc) {m : Nat} : ∀ {cs : List CE} {vs : List Expr}, (∀ c ∈ cs, SndE Γ Φ N δ c ∧ m ≤ fd Γ c) → ckEs Γ N δ cs sc vs = true → PA X vs (tOs X.K Φ δ m cs)
  | [], vs, _, h => by
    unfold ckEs at h
    cases vs with
    | nil => exact PA_weak pa_nil fun _ _ _ q => tOs_nil q
    | cons _ _ => cases h
  | c :: cs, vs, hE, h => by
    obtain ⟨v, us, rfl, h1, h2⟩ := ckEs_cons h
    exact PA_weak (pa_cons ((hE c List.mem_cons_self).1.pem G hs h1 (hE c List.mem_cons_self).2) (s_args G hs (fun c hc => hE c (List.mem_cons_of_mem _ hc)) h2) (head_star (ck_head h1) us X.env)) fun _ _ _ q => tOs_cons q
theorem s_args0 (G : Good Γ Φ N X) (hs : X.env.scope = sc) {cs : List CE} {vs : List Expr} (hE : ∀ c ∈ cs, SndE Γ Φ N δ c) (h : ckEs Γ N δ cs sc vs = true) : PA X vs (tOs X.K Φ δ 0 cs) := s_args G hs (fun c hc => ⟨hE c hc, Nat.zero_le _⟩) h
theorem evEs_len : ∀ {cs : List CE} {env : PEnv} {vs : List PV}, evEs Φ cs env = .ok vs → vs.length = cs.length
  | [], _, _, h => by cases h; rfl
  | c :: cs, env, vs, h => by
    unfold evEs at h
    obtain ⟨x, _, h⟩ := R.bind_eq_ok h
    obtain ⟨xs, e2, h⟩ := R.bind_eq_ok h
    cases h
    rw [List.length_cons, List.length_cons, evEs_len e2]
theorem s_tup {cs : List CE} (hE : ∀ c ∈ cs, SndE Γ Φ N δ c) : SndE Γ Φ N δ (.tup cs) := fun X sc e G hs h => by
  unfold ckE at h
  split at h
  · rw [Bool.and_eq_true, decide_eq_true_eq] at h
    obtain ⟨h1, h2⟩ := h
    refine both (PE_weak (pe_tup (s_args0 G hs hE h1)) fun σ H Q q => ?_) (by intro _; rfl)
    obtain ⟨F, env, As, S, v, hv, k⟩ := q
    unfold evE at hv
    obtain ⟨vs, e1, hv⟩ := R.bind_eq_ok hv
    cases hv
    refine tOs_zero ⟨F, env, As, S, vs, e1, fun xs H1 F1 g1 r1 => ?_⟩
    have hl : xs.length ≤ lim := by rw [r1.length, evEs_len e1]; exact h2
    refine ⟨by rw [lim_eq]; exact hl, fun p np => ?_⟩
    obtain ⟨g, r⟩ := laid_tup g1.le np r1 hl
    exact k _ _ _ _ (g1.trans g) (OwnF.of r)
  · cases h
theorem s_lst (n : Nat) {cs : List CE} (hE : ∀ c ∈ cs, SndE Γ Φ N δ c) : SndE Γ Φ N δ (.lst n cs) := fun X sc e G hs h => by
  unfold ckE at h
  split at h
  · rw [Bool.and_eq_true, Bool.and_eq_true, Bool.and_eq_true, decide_eq_true_eq, decide_eq_true_eq] at h
    obtain ⟨⟨⟨h1, h2⟩, h3⟩, h4⟩ := h
    have h4' : ∀ c ∈ cs, n ≤ fd Γ c + 1 := fun c hc => of_decide_eq_true (List.all_eq_true.mp h4 c hc)
    obtain ⟨m, rfl⟩ : ∃ m, n = m + 1 := ⟨n - 1, by omega⟩
    refine both (PE_weak (pe_lst (s_args G hs (m := m) (fun c hc => ⟨hE c hc, by have := h4' c hc; omega⟩) h1)) fun σ H Q q => ?_) (by intro _; rfl)
    obtain ⟨F, env, As, S, v, hv, k⟩ := q
    unfold evE at hv
    obtain ⟨vs, e1, hv⟩ := R.bind_eq_ok hv
    cases hv
    refine ⟨F, env, As, S, vs, e1, fun xs H1 F1 A1 g1 o1 => ?_⟩
    have hl : xs.length ≤ lim := by rw [o1.1.length, evEs_len e1]; exact h2
    refine ⟨by rw [lim_eq]; exact hl, fun p np => ?_⟩
    exact k _ _ _ _ (g1.trans (.laid' g1.le np _)) (laid_own g1.le np (g1.noneE S.le np) o1.1 o1.2.1 o1.2.2 (Owns.there o1.1) hl)
  · cases h
theorem s_dct1 {a b : CE} (ha : SndE Γ Φ N δ a) (hb : SndE Γ Φ N δ b) : SndE Γ Φ N δ (.dct1 a b) := fun X sc e G hs h => by
  unfold ckE at h
  split at h
  · rw [Bool.and_eq_true] at h
    obtain ⟨h1, h2⟩ := h
    refine both (PE_weak (pe_dct1 G.hu (ha.pe G hs h1) (hb.pe G hs h2)) fun σ H Q q => ?_) (by intro _; rfl)
    obtain ⟨F, env, As, S, v, hv, k⟩ := q
    unfold evE at hv
    obtain ⟨x, e1, hv⟩ := R.bind_eq_ok hv
    obtain ⟨y, e2, hv⟩ := R.bind_eq_ok hv
    split at hv
    · rename_i q0 hq
      cases hv
      intro p np
      have g0 := Grow.laid' S.le np (.dT [])
      have nf : F p = none := by
        cases z : F p with
        | none => rfl
        | some u => rw [S.le _ _ z] at np; cases np
      refine ⟨F, env, As, S.grow g0, x, e1, fun vx H1 F1 A1 g1 o1 => ⟨F1, env, As, (S.grow g0).grow g1, y, e2, fun vy H2 F2 A2 g2 o2 => ?_⟩⟩
      have r1 := o1.rep.mono g2.fg
      obtain ⟨b', rfl, eb⟩ := key_of_rep r1 hq
      have gg := g1.trans g2
      have ep : H2 p = some (.dT []) := gg.keep p _ nf upd_same
      have nf2 : F2 p = none := gg.fnone nf (by rw [upd_same]; exact True.intro)
      refine ⟨b', q0, rfl, g2.le _ _ eb, ep, ?_⟩
      have kg : kGood q0 := by
        cases r1 with
        | tup s l rs =>
          rw [s] at eb
          have hx := HO.tup.inj (Option.some.inj eb)
          subst hx
          refine ⟨fun z hz => ?_, by simpa using l⟩
          have hm : V.str z ∈ q0.map kV := List.mem_map.mpr ⟨_, hz, rfl⟩
          obtain ⟨i, hi⟩ := List.getElem?_of_mem hm
          obtain ⟨w, _, rw'⟩ := rs.getX hi
          cases rw' with
          | str _ ok l => exact ⟨ok, l⟩
        | lst _ _ _ => cases hq
        | dct _ _ _ => cases hq
        | scr _ _ => cases hq
      have g3 : Grow H F (upd H2 p (.dT [(q0, vy)])) F2 := by
        have gA := g0.trans gg
        refine ⟨fun a o z => ?_, gA.fg, fun a o n z => ?_, gA.new⟩
        · rw [upd_ne (fun w => by subst w; rw [nf2] at z; cases z)]; exact gA.le a o z
        · rw [upd_ne (ne_of_none z np)]; exact gA.keep a o n z
      refine k _ _ _ [p] g3 ⟨⟨p, [], rfl, rfl, .inr ⟨[(q0, vy)], [y], rfl, upd_same, ⟨by show 1 ≤ lim; decide, fun z hz => ?_, by simp⟩, ?_⟩⟩, by simp, fun a ha => ?_⟩
      · have : z = (q0, vy) := by simpa using hz
        subst this; exact kg
      · exact Owns.cons (A := []) (B := []) ⟨o2.rep, rfl⟩ .nil
      · have : a = p := by simpa using ha
        subst this
        exact ⟨np, nf2⟩
    · cases hv
  · cases h

/-! ### places -/
theorem s_idx {a i : CE} (ha : SndE Γ Φ N δ a) (hi : SndE Γ Φ N δ i) : SndE Γ Φ N δ (.idx a i) := fun X sc e G hs h => by
  unfold ckE at h
  split at h
  · rename_i l r p
    rw [Bool.and_eq_true] at h
    obtain ⟨h1, h2⟩ := h
    have h1' : (ckE Γ N δ a sc l || ckB N a sc l) = true := by
      rw [Bool.or_eq_true] at h1 ⊢
      exact h1.imp id fun z => (Bool.and_eq_true_iff.mp z).1
    cases hp : ckE Γ N δ a sc l with
    | true =>
      refine both (PE_weak (pe_ix (ix_idx G.hu) (ha.pe G hs hp) (hi.pe G hs h2) (head_slice (ck_head h2))) fun σ H Q q => ?_) (by intro _; rfl)
      obtain ⟨F, env, As, S, v, hv, k⟩ := q
      unfold evE at hv
      obtain ⟨x, e1, hv⟩ := R.bind_eq_ok hv
      obtain ⟨y, e2, hv⟩ := R.bind_eq_ok hv
      refine ⟨F, env, As, S, x, e1, fun vx H1 F1 A1 g1 o1 => ⟨F1, env, As, S.grow g1, y, e2, fun vy H2 F2 A2 g2 o2 => ?_⟩⟩
      exact ⟨F2, x, y, v, [], 0, Nat.zero_le _, g2.le, ⟨o1.rep.mono g2.fg, rfl⟩, o2.rep, hv, fun z rz => k _ _ _ _ (g1.trans g2) (OwnF.of rz)⟩
    | false =>
      rw [hp, Bool.false_or, Bool.and_eq_true] at h1
      obtain ⟨d, pw, hd⟩ := s_any ha G hs h1'
      have hd1 : d ≤ 1 := hd fun _ => h1.2
      refine both (PE_weak (pe_ix (ix_idx G.hu) pw (hi.pe G hs h2) (head_slice (ck_head h2))) fun σ H Q q => ?_) (by intro _; rfl)
      obtain ⟨F, env, As, S, v, hv, k⟩ := q
      unfold evE at hv
      obtain ⟨x, e1, hv⟩ := R.bind_eq_ok hv
      obtain ⟨y, e2, hv⟩ := R.bind_eq_ok hv
      refine ⟨F, env, As, S, x, e1, fun vx H1 F1 A1 g1 o1 n1 => ⟨F1, env, As, S.grow g1, y, e2, fun vy H2 F2 A2 g2 o2 => ?_⟩⟩
      exact ⟨F2, x, y, v, A1, d, hd1, g2.le, o1.mono g2.fg fun a ha o z => g2.keep a o (n1 a ha) z, o2.rep, hv, fun z rz => k _ _ _ _ (g1.trans g2) (OwnF.of rz)⟩
  · cases h
/-- a slice's part -/
def tPt (K : Frag) (Φ : Fns) (δ : Dps) (c : CE) : TO := fun σ H Q => ∃ F env As, Sit K H F σ env δ As ∧ ∃ v o, evE Φ c env = .ok v ∧ partP (isNoE c) v = .ok o ∧ ∀ H' F', Grow H F H' F' → Q o H'
theorem PO_weak {e : Option Expr} {t t' : TO} (h : PO X e t) (f : ∀ σ H Q, t' σ H Q → t σ H Q) : PO X e t' := ⟨fun pins s σ H Q I q => h.run pins s σ H Q I (f _ _ _ q)⟩
theorem s_part (G : Good Γ Φ N X) (hs : X.env.scope = sc) {c : CE} (hE : SndE Γ Φ N δ c) {o : Option Expr} (h : (match o with
      | none => isNoE c
      | some e => !isNoE c && ckE Γ N δ c sc e) = true) : PO X o (tPt X.K Φ δ c) := by
  cases o with
  | none =>
    refine PO_weak po_none fun σ H Q q => ?_
    obtain ⟨F, env, As, S, v, o, hv, ho, k⟩ := q
    have h' : isNoE c = true := h
    unfold partP at ho
    rw [h', if_pos rfl] at ho
    cases ho
    exact k H F (.refl S.le)
  | some e =>
    have h2 : (!isNoE c && ckE Γ N δ c sc e) = true := h
    rw [Bool.and_eq_true] at h2
    refine PO_weak (po_some (hE.pe G hs h2.2)) fun σ H Q q => ?_
    obtain ⟨F, env, As, S, v, o, hv, ho, k⟩ := q
    unfold partP at ho
    rw [(Bool.not_eq_true' _).mp h2.1, if_neg (by simp)] at ho
    refine ⟨F, env, As, S, v, hv, fun x H1 F1 A1 g1 o1 => ?_⟩
    have r := o1.rep
    cases r <;> first | (cases ho; done) | skip
    cases ho
    exact ⟨_, rfl, k H1 F1 g1⟩
theorem s_slc {a lo hi : CE} (ha : SndE Γ Φ N δ a) (hlo : SndE Γ Φ N δ lo) (hhi : SndE Γ Φ N δ hi) : SndE Γ Φ N δ (.slc a lo hi) := fun X sc e G hs h => by
  unfold ckE at h
  split at h
  · rw [Bool.and_eq_true, Bool.and_eq_true] at h
    obtain ⟨⟨h1, h2⟩, h3⟩ := h
    refine both (PE_weak (pe_slice sl_cut (ha.pe G hs h1) (s_part G hs hlo h2) (s_part G hs hhi h3)) fun σ H Q q => ?_) (by intro _; rfl)
    obtain ⟨F, env, As, S, v, hv, k⟩ := q
    unfold evE at hv
    obtain ⟨x, e1, hv⟩ := R.bind_eq_ok hv
    obtain ⟨y, e2, hv⟩ := R.bind_eq_ok hv
    obtain ⟨z, e3, hv⟩ := R.bind_eq_ok hv
    obtain ⟨ol, e4, hv⟩ := R.bind_eq_ok hv
    obtain ⟨oh, e5, hv⟩ := R.bind_eq_ok hv
    refine ⟨F, env, As, S, x, e1, fun vx H1 F1 A1 g1 o1 => ⟨F1, env, As, S.grow g1, y, ol, e2, e4, fun H2 F2 g2 => ⟨F2, env, As, (S.grow g1).grow g2, z, oh, e3, e5, fun H3 F3 g3 => ?_⟩⟩⟩
    refine ⟨F3, x, v, g3.le, o1.rep.mono (g2.fg.trans g3.fg), hv, fun z H' F' A m hm _ g o => ?_⟩
    have gg := (g1.trans g2).trans g3
    exact lowerK (Nat.zero_le _) g o fun z H' F' A g o => k _ _ _ _ (gg.trans g) (own_later S.le gg o)
  · cases h

/-! ### calls -/
theorem s_call (f : Nat) {cs : List CE} (hE : ∀ c ∈ cs, SndE Γ Φ N δ c) : SndE Γ Φ N δ (.call f cs) := fun X sc e G hs h => by
  unfold ckE at h
  split at h
  · rename_i x p vs pos
    rw [Bool.and_eq_true, Bool.and_eq_true] at h
    obtain ⟨⟨h0, h1⟩, h2⟩ := h
    obtain ⟨hg, hdb⟩ := glOk_ok (X := X) hs h1
    split at h0
    · rename_i d hd
      rw [Bool.and_eq_true, decide_eq_true_eq, decide_eq_true_eq] at h0
      obtain ⟨h3, h4⟩ := h0
      subst h3
      obtain ⟨k, a, fdd, FO, hr, hm, hk, hb⟩ := G.fn f d hd
      have hlv := ckEs_len h2
      have pa := s_args0 G hs hE h2
      have rd : ∀ σ H Q, tO X.K Φ δ (fd Γ (.call f cs)) (.call f cs) σ H Q → tCall (spF X.K (Φ f) d.ar d.fr) [] E0 (tOs X.K Φ δ 0 cs) σ H Q := fun σ H Q q => by
        obtain ⟨F, env, As, S, v, hv, k⟩ := q
        unfold evE at hv
        obtain ⟨ws, e1, hv⟩ := R.bind_eq_ok hv
        refine tOs_zero ⟨F, env, As, S, ws, e1, fun xs H1 F1 g1 r1 => ?_⟩
        rw [List.append_nil]
        refine ⟨F1, ws, v, g1.le, r1, by rw [r1.length, evEs_len e1]; exact h4, hv, fun x H' F' A g o => ?_⟩
        have efd : fd Γ (.call f cs) = d.fr := by
          unfold fd
          rw [hd]
        rw [efd] at k
        exact k _ _ _ _ (g1.trans g) (own_later S.le g1 o)
      cases vs with
      | nil =>
        have e0 : cs = [] := List.eq_nil_of_length_eq_zero hlv
        subst e0
        exact both (PE_weak (pe_call0 FO hr hg hm hk hb .nil pass0 hdb) fun σ H Q q => by
          have := rd σ H Q q
          exact tOs_nil this) (by intro _; rfl)
      | cons v vs =>
        obtain ⟨c, cs', ec⟩ : ∃ c cs', cs = c :: cs' := by
          cases cs with
          | nil => simp at hlv
          | cons c cs' => exact ⟨c, cs', rfl⟩
        subst ec
        obtain ⟨v', us', ev, hv1, hv2⟩ := ckEs_cons h2
        cases ev
        exact both (PE_weak (pe_call FO hr hg hm hk hb .nil pass0 pa hdb (head_star (ck_head hv1) vs X.env) (ckEs_star pos X.env hv2)) rd) (by intro _; rfl)
    · cases h0
  · cases h
theorem bi_in (b : Bi) : biName b ∈ bltNames := by cases b <;> decide
theorem bi_ne (b : Bi) : biName b ≠ "__name__" := by cases b <;> decide
theorem pe_callBi (hc : CallR X (biVal b) r) {x : Str} {p pos : Pos} {v : Expr} {vs : List Expr} {t : TA} (hg : Gl X x) (hm : X.mg x = none) (ex : x = biName b) (ha : PA X (v :: vs) t) (hdb : (x == ("__debug__" : Str)) = false)
    (he : starEach (v :: vs) X.env = (false, eval v X.env) :: starEach vs X.env) (hpl : (backTo pos (starEach vs X.env)).any (·.1) = false) : PE X (.Call (.Name x p) (v :: vs) [] pos) (tCB r t) := by
  subst ex
  have hv := boot_bi b
  have hn := bi_ne b
  cases b with
  | len => exact pe_callB hc hg hm hv ha hn hdb he hpl
  | int => exact pe_callTy hc hg hm hv ha hn hdb he hpl
  | list => exact pe_callTy hc hg hm hv ha hn hdb he hpl
  | tuple => exact pe_callTy hc hg hm hv ha hn hdb he hpl
  | min2 => exact pe_callB hc hg hm hv ha hn hdb he hpl
  | max2 => exact pe_callB hc hg hm hv ha hn hdb he hpl
  | maxl => exact pe_callB hc hg hm hv ha hn hdb he hpl
  | abs => exact pe_callB hc hg hm hv ha hn hdb he hpl
theorem s_bi (b : Bi) {cs : List CE} (hE : ∀ c ∈ cs, SndE Γ Φ N δ c) : SndE Γ Φ N δ (.bi b cs) := fun X sc e G hs h => by
  unfold ckE at h
  split at h
  · rename_i x p vs pos
    rw [Bool.and_eq_true, Bool.and_eq_true, Bool.and_eq_true, decide_eq_true_eq] at h
    obtain ⟨⟨⟨ex, h1⟩, h0⟩, h2⟩ := h
    obtain ⟨hg, hdb⟩ := glOk_ok (X := X) hs h1
    have hm : X.mg x = none := G.blt x (by rw [ex]; exact bi_in b)
    rw [Bool.or_eq_true] at h2
    rcases h2 with h2 | h2
    · have hlv := ckEs_len h2
      obtain ⟨c, cs', ec⟩ : ∃ c cs', cs = c :: cs' := by
        cases cs with
        | nil => cases h0
        | cons c cs' => exact ⟨c, cs', rfl⟩
      subst ec
      obtain ⟨v, us, ev, hv1, hv2⟩ := ckEs_cons h2
      subst ev
      refine both (PE_weak (pe_callBi (cr_bi G.calm b) hg hm ex (s_args0 G hs hE h2) hdb (head_star (ck_head hv1) us X.env) (ckEs_star pos X.env hv2)) fun σ H Q q => ?_) (by intro _; rfl)
      obtain ⟨F, env, As, S, v, hv, k⟩ := q
      unfold evE at hv
      obtain ⟨ws, e1, hv⟩ := R.bind_eq_ok hv
      refine tOs_zero ⟨F, env, As, S, ws, e1, fun xs H1 F1 g1 r1 => ?_⟩
      exact ⟨F1, ws, v, g1.le, .inl r1, hv, fun z H' F' A g o => k _ _ _ _ (g1.trans g) (own_later S.le g1 o)⟩
    · rw [Bool.and_eq_true, decide_eq_true_eq] at h2
      obtain ⟨eb, h2⟩ := h2
      subst eb
      split at h2
      · rename_i c
        split at h2
        · rename_i v
          obtain ⟨i, rfl⟩ := ckB_bor h2
          have pw := s_bor (δ := δ) G hs h2
          have hh : headOk v = true := by
            simp only [ckB] at h2
            split at h2
            · rfl
            · cases h2
          by_cases hd0 : dp δ i = 0
          · refine both (PE_weak (pe_callBi (cr_bi G.calm .len) hg hm ex (pa_cons pw pa_nil (head_star hh [] X.env)) hdb (head_star hh [] X.env) rfl) fun σ H Q q => ?_) (by intro _; rfl)
            obtain ⟨F, env, As, S, v, hv, k⟩ := q
            unfold evE at hv
            obtain ⟨ws, e1, hv⟩ := R.bind_eq_ok hv
            unfold evEs at e1
            obtain ⟨w, e1', e2⟩ := R.bind_eq_ok e1
            obtain ⟨ws', e3, e4⟩ := R.bind_eq_ok e2
            cases e3
            cases e4
            refine ⟨F, env, As, S, w, e1', fun y H1 F1 A1 g1 o1 n1 => ?_⟩
            rw [hd0] at o1
            exact ⟨F1, [w], v, g1.le, .inl (.cons o1.1 .nil), hv, fun z H' F' A g o => k _ _ _ _ (g1.trans g) (own_later S.le g1 o)⟩
          · refine both (PE_weak (pe_callBi (cr_bi G.calm .len) hg hm ex (pa_cons pw pa_nil (head_star hh [] X.env)) hdb (head_star hh [] X.env) rfl) fun σ H Q q => ?_) (by intro _; rfl)
            obtain ⟨F, env, As, S, v, hv, k⟩ := q
            unfold evE at hv
            obtain ⟨ws, e1, hv⟩ := R.bind_eq_ok hv
            unfold evEs at e1
            obtain ⟨w, e1', e2⟩ := R.bind_eq_ok e1
            obtain ⟨ws', e3, e4⟩ := R.bind_eq_ok e2
            cases e3
            cases e4
            refine ⟨F, env, As, S, w, e1', fun y H1 F1 A1 g1 o1 n1 => ?_⟩
            exact ⟨F1, [w], v, g1.le, .inr ⟨rfl, y, w, dp δ i, A1, hd0, o1, rfl, rfl⟩, hv, fun z H' F' A g o => k _ _ _ _ (g1.trans g) (own_later S.le g1 o)⟩
        · cases h2
      · cases h2
  · cases h
theorem ty_ne (t : Ty) : tyName t ≠ "__name__" := by cases t <;> decide
theorem ty_in (t : Ty) : tyName t ∈ bltNames := by cases t <;> decide
theorem s_isi {a : CE} (t : Ty) (ha : SndE Γ Φ N δ a) : SndE Γ Φ N δ (.isi a t) := fun X sc e G hs h => by
  unfold ckE at h
  split at h
  · rename_i x p v y p2 pos
    rw [Bool.and_eq_true, Bool.and_eq_true, Bool.and_eq_true, Bool.and_eq_true, decide_eq_true_eq, decide_eq_true_eq] at h
    obtain ⟨⟨⟨⟨ex, ey⟩, h1⟩, h2⟩, h3⟩ := h
    obtain ⟨hg, hdb⟩ := glOk_ok (X := X) hs h1
    obtain ⟨hg2, hdb2⟩ := glOk_ok (X := X) hs h2
    have hm : X.mg x = none := G.blt x (by rw [ex]; decide)
    have hm2 : X.mg y = none := G.blt y (by rw [ey]; exact ty_in t)
    have hne : x ≠ "__name__" := by rw [ex]; decide
    have hne2 : y ≠ "__name__" := by rw [ey]; exact ty_ne t
    have hv : bootBuiltins x = some (.builtin "isinstance") := by rw [ex]; exact boot_isi
    have hv2 : bootBuiltins y = some (.type (tyStr t)) := by rw [ey]; exact boot_ty t
    refine both (PE_weak (pe_callB call_isi hg hm hv (pa_cons (ha.pe G hs h3) (pa_cons (pe_bltn (v := .ty (tyStr t)) hg2 hm2 hv2 rfl hne2 hdb2) pa_nil rfl) (head_star (ck_head h3) _ X.env)) hne hdb (head_star (ck_head h3) _ X.env) rfl) fun σ H Q q => ?_) (by intro _; rfl)
    obtain ⟨F, env, As, S, v, hv, k⟩ := q
    unfold evE at hv
    obtain ⟨w, e1, hv⟩ := R.bind_eq_ok hv
    refine ⟨F, env, As, S, w, e1, fun vx H1 F1 A1 g1 o1 => ?_⟩
    split at hv
    · rename_i hok
      cases hv
      refine ⟨vx, .ty (tyStr t), _, _, isiP t w, rfl, .ty _, tyX_of g1.le o1.rep hok, kit_own t w hok, k _ _ _ _ g1 (OwnF.of (.bl _))⟩
    · cases hv
  · cases h
end PY

/-! PyC5: what is walked, comprehensions; all expressions. -/
namespace PY
open PySem L2
open PySem.Spec PyProof.Rows
section
variable (Γ : List FnD) (Φ : Fns) (N : List Str) (δ : Dps)
def tI (K : Frag) (it : CI) : TI := fun σ H R => ∃ F env As, Sit K H F σ env δ As ∧ ∃ vs, evI Φ it env = .ok vs ∧ ∀ J H' F', Grow H F H' F' → IterV K J F' vs → R J H'
def SndI (it : CI) : Prop := ∀ X sc tg e, Good Γ Φ N X → X.env.scope = sc → ckI Γ N δ it sc tg e = true → PI X tg e (tI Φ δ X.K it) ∧ headOk e = true
end
variable {Γ : List FnD} {Φ : Fns} {N : List Str} {δ : Dps} {X : Cx} {sc : Scope} {e : Expr}

theorem PI_or {tg e : Expr} {t t' : TI} (h : PI X tg e t) (h' : PI X tg e t') : PI X tg e (fun σ H R => t σ H R ∨ t' σ H R) := ⟨fun pins s σ H R I q => q.elim (h.run pins s σ H R I) (h'.run pins s σ H R I)⟩
theorem i_seq {c : CE} (hE : SndE Γ Φ N δ c) : SndI Γ Φ N δ (.seq c) := fun X sc tg e G hs h => by
  unfold ckI at h
  refine ⟨PI_weak (PI_or (pi_list (hE.pe G hs h)) (pi_tup (hE.pe G hs h))) fun σ H RR q => ?_, ck_head h⟩
  obtain ⟨F, env, As, S, vs, hv, k⟩ := q
  unfold evI at hv
  obtain ⟨x, e1, hv⟩ := R.bind_eq_ok hv
  cases x <;> first | (cases hv; done) | skip
  · cases hv
    refine .inr ⟨F, env, As, S, _, e1, fun vx H1 F1 A1 g1 o1 => ?_⟩
    have r := o1.rep
    cases r with
    | tup s l rs => exact ⟨_, rfl, ⟨_, SqT.of (g1.le _ _ s)⟩, k _ _ _ g1 (iter_tup s rs l)⟩
  · cases hv
    refine .inl ⟨F, env, As, S, _, e1, fun vx H1 F1 A1 g1 o1 => ?_⟩
    have r := o1.rep
    cases r with
    | lst s l rs => exact ⟨_, rfl, ⟨_, SqL.of (g1.le _ _ s)⟩, k _ _ _ g1 (iter_sq (SqL.of s) rs l)⟩
  · cases hv
    refine .inl ⟨F, env, As, S, _, e1, fun vx H1 F1 A1 g1 o1 => ?_⟩
    have r := o1.rep
    cases r with
    | scr s l => exact ⟨_, rfl, ⟨_, g1.le.fg.sqL s⟩, k _ _ _ g1 (iter_sq s (reps_ints _) (by rw [List.length_map]; exact l))⟩
theorem rng_ok {lo hi : Int} (h : rngOk lo hi = true) : (-(2 ^ 62) ≤ lo ∧ lo < 2 ^ 62 ∧ -(2 ^ 62) ≤ hi ∧ hi < 2 ^ 62) ∧ (hi - lo).toNat ≤ lim := by
  unfold rngOk at h
  rw [Bool.and_eq_true, decide_eq_true_eq, decide_eq_true_eq] at h
  exact h
theorem i_rng1 {a : CE} (ha : SndE Γ Φ N δ a) : SndI Γ Φ N δ (.rng1 a) := fun X sc tg e G hs h => by
  unfold ckI at h
  split at h
  · rename_i x p v pos
    rw [Bool.and_eq_true, Bool.and_eq_true, decide_eq_true_eq] at h
    obtain ⟨⟨ex, h1⟩, h2⟩ := h
    subst ex
    obtain ⟨hg, hdb⟩ := glOk_ok (X := X) hs h1
    refine ⟨PI_weak (pi_range1 hg (G.blt _ (by decide)) (pa_cons (ha.pe G hs h2) pa_nil (head_star (ck_head h2) [] X.env)) (head_star (ck_head h2) [] X.env)) fun σ H RR q => ?_, rfl⟩
    obtain ⟨F, env, As, S, vs, hv, k⟩ := q
    unfold evI at hv
    obtain ⟨x, e1, hv⟩ := R.bind_eq_ok hv
    cases x <;> first | (cases hv; done) | skip
    simp only at hv
    split at hv
    · rename_i hr
      cases hv
      obtain ⟨⟨_, _, h3, h4⟩, h5⟩ := rng_ok hr
      refine ⟨F, env, As, S, _, e1, fun vx H1 F1 A1 g1 o1 => ?_⟩
      have r := o1.rep
      cases r
      exact ⟨_, rfl, h3, h4, k _ _ _ g1 (iter_rng (by rw [Int.sub_zero]) (by rw [Int.sub_zero] at h5; exact h5))⟩
    · cases hv
  · cases h
theorem i_rng2 {a b : CE} (ha : SndE Γ Φ N δ a) (hb : SndE Γ Φ N δ b) : SndI Γ Φ N δ (.rng2 a b) := fun X sc tg e G hs h => by
  unfold ckI at h
  split at h
  · rename_i x p v u pos
    rw [Bool.and_eq_true, Bool.and_eq_true, Bool.and_eq_true, decide_eq_true_eq] at h
    obtain ⟨⟨⟨ex, h1⟩, h2⟩, h2'⟩ := h
    subst ex
    obtain ⟨hg, hdb⟩ := glOk_ok (X := X) hs h1
    have st2 := head_star (ck_head h2') [] X.env
    have st1 : starEach [v, u] X.env = [(false, eval v X.env), (false, eval u X.env)] := by rw [head_star (ck_head h2) [u] X.env, st2]; rfl
    refine ⟨PI_weak (pi_range2 hg (G.blt _ (by decide)) (pa_cons (ha.pe G hs h2) (pa_cons (hb.pe G hs h2') pa_nil st2) (head_star (ck_head h2) [u] X.env)) st1 st2) fun σ H RR q => ?_, rfl⟩
    obtain ⟨F, env, As, S, vs, hv, k⟩ := q
    unfold evI at hv
    obtain ⟨x, e1, hv⟩ := R.bind_eq_ok hv
    obtain ⟨y, e2, hv⟩ := R.bind_eq_ok hv
    cases x <;> cases y <;> first | (cases hv; done) | skip
    simp only at hv
    split at hv
    · rename_i hr
      cases hv
      obtain ⟨h3, h5⟩ := rng_ok hr
      refine ⟨F, env, As, S, _, e1, fun vx H1 F1 A1 g1 o1 => ⟨F1, env, As, S.grow g1, _, e2, fun vy H2 F2 A2 g2 o2 => ?_⟩⟩
      have r := o1.rep
      cases r
      have r2 := o2.rep
      cases r2
      exact ⟨_, _, rfl, h3, k _ _ _ (g1.trans g2) (iter_rng rfl h5)⟩
    · cases hv
  · cases h
theorem i_enu {c : CE} (hE : SndE Γ Φ N δ c) : SndI Γ Φ N δ (.enu c) := fun X sc tg e G hs h => by
  unfold ckI at h
  split at h
  · rename_i x p v pos
    rw [Bool.and_eq_true, Bool.and_eq_true, Bool.and_eq_true, decide_eq_true_eq] at h
    obtain ⟨⟨⟨ex, h1⟩, h2⟩, h3⟩ := h
    subst ex
    obtain ⟨hg, hdb⟩ := glOk_ok (X := X) hs h1
    split at h3
    · refine ⟨PI_weak (pi_enu hg (G.blt _ (by decide)) (pa_cons (hE.pe G hs h2) pa_nil (head_star (ck_head h2) [] X.env)) (head_star (ck_head h2) [] X.env)) fun σ H RR q => ?_, rfl⟩
      obtain ⟨F, env, As, S, vs, hv, k⟩ := q
      unfold evI at hv
      obtain ⟨x, e1, hv⟩ := R.bind_eq_ok hv
      refine ⟨F, env, As, S, _, e1, fun vx H1 F1 A1 g1 o1 => ?_⟩
      have r := o1.rep
      cases r <;> first | (cases hv; done) | skip
      · cases hv
        rename_i s l rs
        exact .inr ⟨_, _, rfl, SqT.of (g1.le _ _ s), k _ _ _ g1 (iter_enuT s rs l)⟩
      · cases hv
        rename_i s l rs
        exact .inl ⟨_, _, rfl, SqL.of (g1.le _ _ s), k _ _ _ g1 (iter_enuL s rs l)⟩
    · cases h3
  · cases h
theorem i_keys {c : CE} (hE : SndE Γ Φ N δ c) : SndI Γ Φ N δ (.keys c) := fun X sc tg e G hs h => by
  unfold ckI at h
  refine ⟨PI_weak (pi_keysL (hE.pe G hs h)) fun σ H RR q => ?_, ck_head h⟩
  obtain ⟨F, env, As, S, vs, hv, k⟩ := q
  unfold evI at hv
  obtain ⟨x, e1, hv⟩ := R.bind_eq_ok hv
  refine ⟨F, env, As, S, _, e1, fun vx H1 F1 A1 g1 o1 => ?_⟩
  have r := o1.rep
  cases r <;> first | (cases hv; done) | skip
  cases hv
  rename_i a kvs ws s lg rs
  refine ⟨a, kvs, rfl, ?_⟩
  rcases s with s | ⟨od, s⟩
  · refine .inl ⟨g1.le _ _ s, fun od => ?_⟩
    have g2 : Grow H1 F1 (upd H1 a (.frz od (.dT kvs))) (upd F1 a (.frz od (.dT kvs))) := by
      refine ⟨fun b o z => ?_, fun b o z => ?_, fun b o n z => ?_, fun b o z n => ?_⟩
      · by_cases hb : b = a
        · subst hb; rw [upd_same] at z ⊢; exact z
        · rw [upd_ne hb] at z ⊢; exact g1.le b o z
      · by_cases hb : b = a
        · subst hb
          rw [s] at z; cases z
          exact ⟨_, upd_same, .inr ⟨od, kvs, rfl, rfl⟩⟩
        · exact ⟨o, by rw [upd_ne hb]; exact z, .inl rfl⟩
      · rw [upd_ne (fun hb => by subst hb; rw [s] at n; cases n)]; exact z
      · by_cases hb : b = a
        · subst hb; rw [s] at n; cases n
        · rw [upd_ne hb, n] at z; cases z
    exact k _ _ _ (g1.trans g2) (iter_keysP upd_same lg.1 lg.2.1)
  · exact .inr ⟨od, g1.le _ _ s, k _ _ _ g1 (iter_keysP s lg.1 lg.2.1)⟩

/-! ### comprehensions -/
theorem Sit.congr {K : Frag} {H F : Hp} {σ : L2.St} {env : PEnv} {δ' : Dps} {As : Nat → List Addr} (S : Sit K H F σ env δ As) (h : ∀ i, dp δ i = dp δ' i) : Sit K H F σ env δ' As :=
  ⟨S.le, S.len, fun i v e => by rw [← h i]; exact S.at' i v e, S.nd, S.dj, S.fr⟩
theorem wipeP_get {env : PEnv} {i : Nat} {v : PV} : ∀ {own : List Nat}, (wipeP env own)[i]? = some (some v) → env[i]? = some (some v) ∧ i ∉ own
  | [], h => ⟨h, by simp⟩
  | j :: own, h => by
    unfold wipeP at h
    by_cases hj : j = i
    · subst hj
      by_cases hl : j < (wipeP env own).length
      · rw [List.getElem?_set_self hl] at h; cases h
      · rw [List.getElem?_eq_none (by simpa using hl)] at h; cases h
    · rw [List.getElem?_set_ne hj] at h
      obtain ⟨a, b⟩ := wipeP_get h
      exact ⟨a, by simp only [List.mem_cons, not_or]; exact ⟨fun z => hj z.symm, b⟩⟩
theorem wipeP_length (env : PEnv) : ∀ own : List Nat, (wipeP env own).length = env.length
  | [] => rfl
  | j :: own => by unfold wipeP; rw [List.length_set, wipeP_length env own]
theorem Sit.wipe {K : Frag} {H F : Hp} {σ : L2.St} {env : PEnv} {As : Nat → List Addr} (S : Sit K H F σ env δ As) (own : List Nat) : Sit K H F (L2.wipe σ own) (wipeP env own) δ As where
  le := S.le
  len := by rw [L2.wipe_length, wipeP_length]; exact S.len
  at' := fun i v e => by
    obtain ⟨e1, hn⟩ := wipeP_get e
    obtain ⟨x, hx, o⟩ := S.at' i v e1
    exact ⟨x, by rw [L2.wipe_out hn]; exact hx, o⟩
  nd := S.nd
  dj := S.dj
  fr := S.fr
theorem wipe_set {σ : L2.St} {i : Nat} {x : Option V} : ∀ {own : List Nat}, i ∈ own → L2.wipe (σ.set i x) own = L2.wipe σ own
  | [], h => nomatch h
  | j :: own, h => by
    unfold L2.wipe
    by_cases hi : i ∈ own
    · rw [wipe_set hi]
    · have hj : i = j := by
        rcases List.mem_cons.mp h with h | h
        · exact h
        · exact absurd h hi
      subst hj
      apply List.ext_getElem?
      intro k
      by_cases hk : i = k
      · subst hk
        by_cases hl : i < σ.length
        · rw [List.getElem?_set_self (by rw [L2.wipe_length, List.length_set]; exact hl), List.getElem?_set_self (by rw [L2.wipe_length]; exact hl)]
        · rw [List.getElem?_eq_none (by rw [List.length_set, L2.wipe_length, List.length_set]; omega), List.getElem?_eq_none (by rw [List.length_set, L2.wipe_length]; omega)]
      · rw [List.getElem?_set_ne hk, List.getElem?_set_ne hk]
        have out : ∀ {l : List Nat}, i ∉ l → ∀ m, m ≠ i → (L2.wipe (σ.set i x) l)[m]? = (L2.wipe σ l)[m]? := by
          intro l
          induction l with
          | nil => intro _ m hm; unfold L2.wipe; rw [List.getElem?_set_ne (Ne.symm hm)]
          | cons j l ih =>
            intro hl m hm
            simp only [List.mem_cons, not_or] at hl
            unfold L2.wipe
            by_cases hjm : j = m
            · subst hjm
              by_cases hlen : j < σ.length
              · rw [List.getElem?_set_self (by rw [L2.wipe_length, List.length_set]; exact hlen), List.getElem?_set_self (by rw [L2.wipe_length]; exact hlen)]
              · rw [List.getElem?_eq_none (by rw [List.length_set, L2.wipe_length, List.length_set]; omega), List.getElem?_eq_none (by rw [List.length_set, L2.wipe_length]; omega)]
            · rw [List.getElem?_set_ne hjm, List.getElem?_set_ne hjm]
              exact ih hl.2 m hm
        exact out hi k (Ne.symm hk)
theorem wipe_setAll : ∀ {is : List Nat} {xs : List V} {σ : L2.St} {own : List Nat}, (∀ i ∈ is, i ∈ own) → L2.wipe (setAll σ is xs) own = L2.wipe σ own
  | [], _, _, _, _ => by unfold setAll; rfl
  | _ :: _, [], _, _, _ => by unfold setAll; rfl
  | i :: is, x :: xs, σ, own, h => by
    unfold setAll
    rw [wipe_setAll fun j hj => h j (List.mem_cons_of_mem _ hj), wipe_set (h i List.mem_cons_self)]
theorem wipe_idem {σ : L2.St} : ∀ {own : List Nat}, L2.wipe (L2.wipe σ own) own = L2.wipe σ own := fun {own} => by
  apply List.ext_getElem?
  intro k
  by_cases hk : k ∈ own
  · have none_at : ∀ {l : List Nat} (τ : L2.St), k ∈ l → (L2.wipe τ l)[k]? = if k < τ.length then some none else none := by
      intro l
      induction l with
      | nil => intro τ h; cases h
      | cons j l ih =>
        intro τ h
        unfold L2.wipe
        by_cases hj : j = k
        · subst hj
          by_cases hl : j < τ.length
          · rw [List.getElem?_set_self (by rw [L2.wipe_length]; exact hl), if_pos hl]
          · rw [List.getElem?_eq_none (by rw [List.length_set, L2.wipe_length]; omega), if_neg hl]
        · rw [List.getElem?_set_ne hj]
          refine ih τ ?_
          rcases List.mem_cons.mp h with h | h
          · exact absurd h.symm hj
          · exact h
    rw [none_at _ hk, none_at _ hk, L2.wipe_length]
  · rw [L2.wipe_out hk]
theorem dp_setD0 : ∀ {is : List Nat} {δ : Dps}, (∀ i ∈ is, dp δ i = 0 ∧ i < δ.length) → ∀ j, dp (setD δ 0 is) j = dp δ j
  | [], _, _, _ => rfl
  | i :: is, δ, h, j => by
    unfold setD
    have h1 := h i List.mem_cons_self
    have e : ∀ l, dp (δ.set i 0) l = dp δ l := fun l => by
      rw [dp_set h1.2]
      split
      · rename_i hl; rw [hl, h1.1]
      · rfl
    rw [dp_setD0 (fun l hl => by rw [e, List.length_set]; exact h l (List.mem_cons_of_mem _ hl)) j, e]
theorem ckT_lt {N : List Str} {sc : Scope} {fs : Option Scope} {tg : Tg} {e : Expr} (h : ckT N δ sc fs tg e = true) : ∀ i ∈ tgL tg, i < δ.length := by
  cases tg with
  | var j =>
    intro i hi
    have : i = j := by simpa [tgL] using hi
    subst this
    have h1 : tnOk N δ sc fs i e = true := h
    unfold tnOk at h1
    split at h1
    · rw [Bool.and_eq_true, decide_eq_true_eq] at h1
      exact h1.2
    · cases h1
  | tup is =>
    simp only [ckT] at h
    split at h
    · exact tns_lt h
    · cases h
def tCd (K : Frag) (Φ : Fns) (δ : Dps) (cs : List CE) : TT := fun σ H Q => ∃ F env As, Sit K H F σ env δ As ∧ ∃ b, evC Φ cs env = .ok b ∧ ∀ H' F', Grow H F H' F' → Q b H'
theorem s_conds (G : Good Γ Φ N X) (hs : X.env.scope = sc) {cs : List CE} {vs : List Expr} (hE : ∀ c ∈ cs, SndE Γ Φ N δ c) (h : ckEs Γ N δ cs sc vs = true) (ht : ∀ c ∈ cs, tstOk c = true) (hl : cs.length ≤ 1) : PTs X vs (tCd X.K Φ δ cs) := by
  match cs, hl with
  | [], _ =>
    unfold ckEs at h
    cases vs with
    | nil =>
      exact ⟨fun pins s σ H Q I q => pts_nil.run pins s σ H Q I (by
        obtain ⟨F, env, As, S, b, hb, k⟩ := q
        cases hb
        exact k H F (.refl S.le))⟩
    | cons _ _ => cases h
  | [c], _ =>
    obtain ⟨v, us, rfl, h1, h2⟩ := ckEs_cons h
    have e : us = [] := List.eq_nil_of_length_eq_zero (ckEs_len h2).symm
    subst e
    refine ⟨fun pins s σ H Q I q => (pts_one ((hE c (by simp) X sc v G hs h1).2 (ht c (by simp)))).run pins s σ H Q I ?_⟩
    obtain ⟨F, env, As, S, b, hb, k⟩ := q
    unfold evC at hb
    obtain ⟨x, e1, hb⟩ := R.bind_eq_ok hb
    cases x <;> first | (cases hb; done) | skip
    cases hb
    exact ⟨F, env, As, S, b, e1, k⟩
theorem compL_cons {f : PV → R (Option PV)} {v : PV} {vs : List PV} {r : List PV} (h : compL f (v :: vs) = .ok r) : ∃ o rest, f v = .ok o ∧ compL f vs = .ok rest ∧ r = (match o with
    | some y => y :: rest
    | none => rest) := by
  unfold compL at h
  obtain ⟨o, e1, h⟩ := R.bind_eq_ok h
  obtain ⟨rest, e2, h⟩ := R.bind_eq_ok h
  cases h
  exact ⟨o, rest, e1, e2, rfl⟩
theorem own_names {N : List Str} (own : List Nat) : (own.map fun i => (N.getD i default, i)).map (·.2) = own := by
  rw [List.map_map]
  exact List.map_id _
/-- a tracked thing that nobody owns here is replaced -/
theorem Grow.put {H0 F0 H F : Hp} (g : Grow H0 F0 H F) {D : Addr} (n0 : H0 D = none) (nf : F D = none) (o : HO) : Grow H0 F0 (upd H D o) F where
  le := fun a u z => by rw [upd_ne (fun w => by subst w; rw [nf] at z; cases z)]; exact g.le a u z
  fg := g.fg
  keep := fun a u n z => by rw [upd_ne (ne_of_none z n0)]; exact g.keep a u n z
  new := g.new
/-- a comprehension's parts -/
structure LcOk (X : Cx) (e : Expr) (t : TE) : Prop where
  ex : ∃ (elt tg iter : Expr) (ifs : List Expr) (scope : Scope) (pos : Pos) (own : List (Str × Nat)) (wi : TI) (g : TG) (tt : TT) (te : TE), e = .ListComp elt [⟨tg, iter, ifs, 0⟩] scope pos ∧ PI X tg iter wi ∧ BlkOk X.N X.env.scope scope own ∧
    (∀ (s : Shared) (H : Hp) (C : Addr) (cl : List (Str × Addr)) (fp : List Addr), PG (X.blk s H scope (compEnvC scope cl C X.env) fp) tg g) ∧ (∀ (s : Shared) (H : Hp) (C : Addr) (cl : List (Str × Addr)) (fp : List Addr), PTs (X.blk s H scope (compEnvC scope cl C X.env) fp) ifs tt) ∧
    (∀ (s : Shared) (H : Hp) (C : Addr) (cl : List (Str × Addr)) (fp : List Addr), PE (X.blk s H scope (compEnvC scope cl C X.env) fp) elt te) ∧ (∀ x, foldedSetIterable iter X.env x = pure x) ∧ ∀ σ H Q, t σ H Q → tLc wi g tt te (own.map (·.2)) σ H Q
theorem LcOk.pe {t : TE} (h : LcOk X e t) (hc : X.calm = true) (hN : X.N.Nodup) : PE X e t := by
  obtain ⟨elt, tg, iter, ifs, scope, pos, own, wi, g, tt, te, rfl, hi, ok, hg, ht, he, hs, w⟩ := h.ex
  exact PE_weak (pe_lc hc hN hi ok hg ht he hs) w
theorem s_compX {elt : CE} {tg : Tg} {it : CI} {conds : List CE} {own : List Nat} (hE : SndE Γ Φ N δ elt) (hI : SndI Γ Φ N δ it) (hC : ∀ c ∈ conds, SndE Γ Φ N δ c) (G : Good Γ Φ N X) (hs : X.env.scope = sc) (h : ckE Γ N δ (.comp elt tg it conds own) sc e = true) : LcOk X e (tO X.K Φ δ (fd Γ elt + 1) (.comp elt tg it conds own)) := by
  unfold ckE at h
  split at h
  · rename_i elt' tg' it' ifs scope pos
    simp only [Bool.and_eq_true, decide_eq_true_eq] at h
    obtain ⟨⟨⟨⟨⟨⟨⟨⟨h1, h2⟩, h3⟩, h4⟩, h5⟩, h6⟩, h7⟩, h8⟩, h9⟩ := h
    have h3' : ∀ i ∈ tgL tg, i ∈ own := fun i hi => by
      have := List.all_eq_true.mp h3 i hi
      simpa using this
    have h4' : ∀ i ∈ own, dp δ i = 0 := fun i hi => of_decide_eq_true (List.all_eq_true.mp h4 i hi)
    have h7' : ∀ c ∈ conds, tstOk c = true := List.all_eq_true.mp h7
    obtain ⟨pI, hh⟩ := hI X sc tg' it' G hs h1
    have Gb : ∀ s H C cl fp, Good Γ Φ N (X.blk s H scope (compEnvC scope cl C X.env) fp) := fun s H C cl fp => G.blk s H scope _ fp
    have sb : ∀ s H C cl fp, (X.blk s H scope (compEnvC scope cl C X.env) fp).env.scope = relS scope sc := fun s H C cl fp => by
      show relS scope X.env.scope = relS scope sc
      rw [hs]
    refine ⟨_, _, _, _, _, _, own.map fun i => (N.getD i default, i), _, gT X.K δ 0 tg, tCd X.K Φ δ conds, tO X.K Φ δ (fd Γ elt) elt, rfl, pI, by rw [G.nN, hs]; exact blkOk_by h5,
      (fun s H C cl fp => pg_T (X := X.blk s H scope (compEnvC scope cl C X.env) fp) G.calm G.nN G.nd (sb s H C cl fp) (fs := some scope) (fun x => rfl) h2),
      (fun s H C cl fp => s_conds (Gb s H C cl fp) (sb s H C cl fp) hC h6 h7' h8), (fun s H C cl fp => (hE _ _ _ (Gb s H C cl fp) (sb s H C cl fp) h9).1), head_set hh X.env, fun σ H Q q => ?_⟩
    rw [own_names]
    obtain ⟨F, env, As, S, v, hv, k⟩ := q
    unfold evE at hv
    obtain ⟨vs, e1, hv⟩ := R.bind_eq_ok hv
    obtain ⟨r, e2, hv⟩ := R.bind_eq_ok hv
    cases hv
    refine ⟨F, env, As, S, vs, e1, fun J H1 F1 g1 it1 D nD => ?_⟩
    have nF1 : F1 D = none := by
      cases z : F1 D with
      | none => rfl
      | some u => rw [g1.le _ _ z] at nD; cases nD
    generalize hf : (fun v => (bindT tg v (wipeP env own)).bind fun e1 => (evC Φ conds e1).bind fun b => if b = true then (evE Φ elt e1).bind fun y => R.ok (some y) else R.ok none) = f at e2
    let P : Nat → Hp → Prop := fun i H => ∃ F' acc ws A rest, Grow H1 F1 H F' ∧ H D = some (.lst acc) ∧ F' D = none ∧ Owns (OwnV X.K H F' (fd Γ elt)) acc ws A ∧ A.Nodup ∧ (∀ a ∈ A, H1 a = none ∧ F' a = none ∧ a ≠ D) ∧ compL f (vs.drop i) = .ok rest ∧ ws ++ rest = r ∧ ws.length ≤ i
    refine ⟨fun i m H => i + m = vs.length ∧ P i H, ⟨vs.length, by omega, F1, [], [], [], r, (Grow.refl g1.le).put nD nF1 _, upd_same, nF1, .nil, List.nodup_nil, (fun a ha => by cases ha), e2, rfl, Nat.le_refl _⟩, fun i m H2 hW => ?_⟩
    obtain ⟨him, F', acc, ws, A, rest, g, eD, nF, os, nd, nA, eC, er, hl⟩ := hW
    have iv := it1.2 F' H2 g.fg g.le i
    by_cases hi : i < vs.length
    · have ei : vs[i]? = some vs[i] := List.getElem?_eq_getElem hi
      obtain ⟨go, yl⟩ := iv.1 _ ei
      rw [List.drop_eq_getElem_cons hi] at eC
      obtain ⟨o, rest', f1, f2, f3⟩ := compL_cons eC
      rw [← hf] at f1
      simp only at f1
      obtain ⟨env', f4, f1⟩ := R.bind_eq_ok f1
      obtain ⟨b, f5, f1⟩ := R.bind_eq_ok f1
      refine .inr ⟨go, P (i + 1), fun H' p' => ⟨m - 1, by omega, by omega, p'⟩, fun x H3 hy => ?_⟩
      obtain ⟨F3, g3, r3⟩ := yl x H3 hy
      have S3 := (((S.grow g1).grow g).grow g3).wipe own
      refine ⟨F3, _, As, vs[i], [], env', S3, ⟨r3, rfl⟩, List.nodup_nil, (fun a ha => by cases ha), (fun j a ha => by cases ha), f4, fun xs As' S4 _ => ⟨?_, ?_⟩⟩
      · rw [wipe_setAll h3', wipe_idem]
      · have S5 : Sit X.K H3 F3 (setAll (L2.wipe σ own) (tgL tg) xs) env' δ As' := S4.congr fun j => by
          have e0 : tgK 0 tg = 0 := by cases tg <;> rfl
          rw [e0]
          exact dp_setD0 (fun l hl => ⟨h4' l (h3' l hl), ckT_lt h2 l hl⟩) j
        refine ⟨F3, env', As', S5, b, f5, fun H4 F4 g4 => ?_⟩
        have gg := g3.trans g4
        have eD4 : H4 D = some (.lst acc) := gg.keep D _ nF eD
        have nF4 : F4 D = none := gg.fnone nF (by rw [eD]; exact True.intro)
        cases b with
        | false =>
          rw [if_neg (by simp)] at f1
          cases f1
          show P (i + 1) H4
          have os4 := os.imp (Q := OwnV X.K H4 F4 (fd Γ elt)) fun x v B hb p => p.mono gg.fg fun a ha o z => gg.keep a o (nA a (hb a ha)).2.1 z
          exact ⟨F4, acc, ws, A, rest', g.trans gg, eD4, nF4, os4, nd, fun a ha => ⟨(nA a ha).1, gg.fnone (nA a ha).2.1 (by
            have := Owns.there os a ha
            have hO : Ow (H2 a) := by
              clear this
              have : ∀ {xs vs C}, Owns (OwnV X.K H2 F' (fd Γ elt)) xs vs C → a ∈ C → Ow (H2 a) := fun {xs vs C} os => by
                induction os with
                | nil => intro h; cases h
                | cons p _ ih =>
                  intro h
                  rcases List.mem_append.mp h with h | h
                  · exact p.thereO a h
                  · exact ih h
              exact this os ha
            exact hO), (nA a ha).2.2⟩, f2, by rw [← er, f3], by omega⟩
        | true =>
          rw [if_pos rfl] at f1
          obtain ⟨y, f6, f1⟩ := R.bind_eq_ok f1
          cases f1
          show tO X.K Φ δ (fd Γ elt) elt (setAll (L2.wipe σ own) (tgL tg) xs) H4 _
          refine ⟨F4, env', As', S5.grow g4, y, f6, fun z H5 F5 A5 g5 o5 => ?_⟩
          have g35 := gg.trans g5
          have eD5 : H5 D = some (.lst acc) := g35.keep D _ nF eD
          have nF5 : F5 D = none := g35.fnone nF (by rw [eD]; exact True.intro)
          have hOw : ∀ a ∈ A, Ow (H2 a) := fun a ha => by
            have : ∀ {xs vs C}, Owns (OwnV X.K H2 F' (fd Γ elt)) xs vs C → a ∈ C → Ow (H2 a) := fun {xs vs C} os => by
              induction os with
              | nil => intro h; cases h
              | cons p _ ih =>
                intro h
                rcases List.mem_append.mp h with h | h
                · exact p.thereO a h
                · exact ih h
            exact this os ha
          have a5D : ∀ a ∈ A5, a ≠ D := fun a ha w => by
            subst w
            have := (o5.2.2 _ ha).1
            rw [eD4] at this; cases this
          have os5 := os.imp (Q := OwnV X.K (upd H5 D (.lst (acc ++ [z]))) F5 (fd Γ elt)) fun x v B hb p => p.mono g35.fg fun a ha o w => by
            rw [upd_ne (nA a (hb a ha)).2.2]
            exact g35.keep a o (nA a (hb a ha)).2.1 w
          have oz : OwnV X.K (upd H5 D (.lst (acc ++ [z]))) F5 (fd Γ elt) z y A5 := o5.1.mono (.refl F5) fun a ha o w => by
            rw [upd_ne (a5D a ha)]; exact w
          have snoc : ∀ {xs vs C}, Owns (OwnV X.K (upd H5 D (.lst (acc ++ [z]))) F5 (fd Γ elt)) xs vs C → Owns (OwnV X.K (upd H5 D (.lst (acc ++ [z]))) F5 (fd Γ elt)) (xs ++ [z]) (vs ++ [y]) (C ++ A5) := fun {xs vs C} os => by
            induction os with
            | nil =>
              have := Owns.cons oz .nil
              rw [List.append_nil] at this
              exact this
            | cons p _ ih =>
              rw [List.append_assoc]
              exact .cons p ih
          have hlen : acc.length = ws.length := os.length
          refine ⟨acc, eD5, ?_, F5, acc ++ [z], ws ++ [y], A ++ A5, rest', (g.trans g35).put nD nF5 _, upd_same, nF5, snoc os5, ?_, fun a ha => ?_, f2, by rw [List.append_assoc]; rw [← er, f3]; rfl, by rw [List.length_append, List.length_singleton]; omega⟩
          · have : vs.length ≤ lim := it1.1
            rw [lim_eq]
            omega
          · refine List.nodup_append.mpr ⟨nd, o5.2.1, fun a ha b hb w => ?_⟩
            subst w
            have h4n := (o5.2.2 a hb).1
            have h2n := gg.noneE g.le h4n
            have := hOw a ha
            rw [h2n] at this
            exact this
          · rcases List.mem_append.mp ha with ha | ha
            · exact ⟨(nA a ha).1, g35.fnone (nA a ha).2.1 (hOw a ha), (nA a ha).2.2⟩
            · exact ⟨(g.trans gg).noneE g1.le (o5.2.2 a ha).1, (o5.2.2 a ha).2, a5D a ha⟩
    · have ei : i = vs.length := by omega
      refine .inl ⟨iv.2 (by omega), ?_⟩
      rw [List.drop_eq_nil_of_le (by omega)] at eC
      cases eC
      rw [List.append_nil] at er
      subst er
      have hlen : acc.length = ws.length := os.length
      refine k _ _ F' (D :: A) (g1.trans g) ⟨⟨D, A, rfl, rfl, .inl ⟨acc, ws, rfl, eD, ?_, os⟩⟩, ?_, fun a ha => ?_⟩
      · have : vs.length ≤ lim := it1.1
        omega
      · exact List.nodup_cons.mpr ⟨fun z => (nA D z).2.2 rfl, nd⟩
      · rcases List.mem_cons.mp ha with rfl | ha
        · exact ⟨g1.noneE S.le nD, nF⟩
        · exact ⟨g1.noneE S.le (nA a ha).1, (nA a ha).2.1⟩
  · cases h
theorem s_comp {elt : CE} {tg : Tg} {it : CI} {conds : List CE} {own : List Nat} (hE : SndE Γ Φ N δ elt) (hI : SndI Γ Φ N δ it) (hC : ∀ c ∈ conds, SndE Γ Φ N δ c) : SndE Γ Φ N δ (.comp elt tg it conds own) := fun X sc e G hs h => by
  have p := s_compX hE hI hC G hs h
  obtain ⟨_, _, _, _, _, _, _, _, _, _, _, rfl, _⟩ := p.ex
  exact both (p.pe G.calm G.nd) (by intro _; rfl)
mutual
theorem sE : ∀ c : CE, SndE Γ Φ N δ c
  | .cnon => s_cnon
  | .cbl b => s_cbl b
  | .cint i => s_cint i
  | .cstr x => s_cstr x
  | .var i => s_var i
  | .bor i => fun X sc e G hs h => by unfold ckE at h; cases h
  | .bin op a b => s_bin op (sE a) (sE b)
  | .neg a => s_neg (sE a)
  | .cmp op a b => s_cmp op (sE a) (sE b)
  | .bop k es => s_bop k (sEs es)
  | .not a => s_not (sE a)
  | .ite c a b => s_ite (sE c) (sE a) (sE b)
  | .tup es => s_tup (sEs es)
  | .lst n es => s_lst n (sEs es)
  | .dct1 k v => s_dct1 (sE k) (sE v)
  | .idx a i => s_idx (sE a) (sE i)
  | .slc a lo hi => s_slc (sE a) (sE lo) (sE hi)
  | .call f es => s_call f (sEs es)
  | .bi b es => s_bi b (sEs es)
  | .isi a t => s_isi t (sE a)
  | .comp elt tg it conds own => s_comp (sE elt) (sI it) (sEs conds)
theorem sEs : ∀ cs : List CE, ∀ c ∈ cs, SndE Γ Φ N δ c
  | [], _, h => nomatch h
  | c :: cs, d, h => by
    rcases List.mem_cons.mp h with h | h
    · rw [h]; exact sE c
    · exact sEs cs d h
theorem sI : ∀ it : CI, SndI Γ Φ N δ it
  | .seq c => i_seq (sE c)
  | .rng1 a => i_rng1 (sE a)
  | .rng2 a b => i_rng2 (sE a) (sE b)
  | .enu c => i_enu (sE c)
  | .keys c => i_keys (sE c)
end
end PY

/-! PyD1: what a change of one's own list or dict leaves. -/
namespace PY
open PySem L2
open PySem.Spec PyProof.Rows
variable {K : Frag} {δ : Dps}

section
variable {P : V → PV → List Addr → Prop}
theorem Owns.snoc {xs : List V} {vs : List PV} {B A : List Addr} {x : V} {v : PV} (h : Owns P xs vs B) (p : P x v A) : Owns P (xs ++ [x]) (vs ++ [v]) (B ++ A) := by
  induction h with
  | nil =>
    have := Owns.cons p (P := P) .nil
    rw [List.append_nil] at this
    exact this
  | cons q _ ih =>
    rw [List.append_assoc]
    exact .cons q ih
theorem Owns.take_out : ∀ {xs : List V} {vs : List PV} {B : List Addr} {k : Nat} {v : PV}, Owns P xs vs B → vs[k]? = some v → ∃ x A B', xs[k]? = some x ∧ P x v A ∧ Owns P (xs.eraseIdx k) (vs.eraseIdx k) B' ∧ B.Perm (A ++ B')
  | _, _, _, _, _, .nil, e => by simp at e
  | _, _, _, 0, _, .cons p os, e => by
    simp at e; subst e
    exact ⟨_, _, _, rfl, p, os, .refl _⟩
  | _, _, _, k + 1, v, .cons (A := A0) p os, e => by
    obtain ⟨x, A, B', h1, h2, h3, h4⟩ := Owns.take_out (k := k) (v := v) os (by simpa using e)
    refine ⟨x, A, A0 ++ B', by simpa using h1, h2, .cons p h3, ?_⟩
    refine (h4.append_left A0).trans ?_
    rw [← List.append_assoc, ← List.append_assoc]
    exact (List.perm_append_comm).append_right B'
theorem Owns.put {x : V} {v : PV} {A : List Addr} (q : P x v A) : ∀ {xs : List V} {vs : List PV} {B : List Addr} (j : Nat), Owns P xs vs B → B.Nodup → A.Nodup → (∀ a ∈ A, a ∉ B) → ∃ B', Owns P (xs.set j x) (vs.set j v) B' ∧ B'.Nodup ∧ ∀ a ∈ B', a ∈ A ∨ a ∈ B
  | _, _, _, _, .nil, _, _, _ => ⟨[], .nil, List.nodup_nil, fun a ha => nomatch ha⟩
  | _, _, _, 0, .cons (A := A0) (B := B0) p os, nB, nA, dj => by
    obtain ⟨n1, n2, n3⟩ := List.nodup_append.mp nB
    refine ⟨A ++ B0, .cons q os, List.nodup_append.mpr ⟨nA, n2, fun a ha b hb e => ?_⟩, fun a ha => ?_⟩
    · subst e; exact dj a ha (List.mem_append_right _ hb)
    · exact (List.mem_append.mp ha).imp id (List.mem_append_right _)
  | _, _, _, j + 1, .cons (A := A0) (B := B0) p os, nB, nA, dj => by
    obtain ⟨n1, n2, n3⟩ := List.nodup_append.mp nB
    obtain ⟨B', o, n, s⟩ := Owns.put q j os n2 nA (fun a ha hb => dj a ha (List.mem_append_right _ hb))
    refine ⟨A0 ++ B', .cons p o, List.nodup_append.mpr ⟨n1, n, fun a ha b hb e => ?_⟩, fun a ha => ?_⟩
    · subst e
      rcases s a hb with z | z
      · exact dj a z (List.mem_append_left _ ha)
      · exact n3 a ha a z rfl
    · rcases List.mem_append.mp ha with z | z
      · exact .inr (List.mem_append_left _ z)
      · exact (s a z).imp id (List.mem_append_right _)
/-- d[k] = v -/
theorem putK_rec (k k' : List Key) (v w : V) (r : List (List Key × V)) (h : k' ≠ k) : putK ((k', w) :: r) k v = (k', w) :: putK r k v := by
  unfold putK
  rw [List.any_cons, decide_eq_false h, Bool.false_or]
  split
  · rw [List.map_cons, if_neg h]
  · rfl
theorem putK_here (k : List Key) (v w : V) (r : List (List Key × V)) (h : k ∉ r.map (·.1)) : putK ((k, w) :: r) k v = (k, v) :: r := by
  unfold putK
  rw [List.any_cons, decide_eq_true rfl, Bool.true_or, if_pos rfl, List.map_cons, if_pos rfl]
  congr 1
  have : ∀ p ∈ r, (if p.1 = k then (p.1, v) else p) = p := fun p hp => by
    rw [if_neg]
    intro e
    exact h (List.mem_map.mpr ⟨p, hp, e⟩)
  exact (List.map_congr_left this).trans (List.map_id _)
theorem Owns.dput {x : V} {v : PV} {A : List Addr} (q : P x v A) (k : List Key) : ∀ {kvs : List (List Key × V)} {vs : List PV} {B : List Addr}, (kvs.map (·.1)).Nodup → Owns P (kvs.map (·.2)) vs B → B.Nodup → A.Nodup → (∀ a ∈ A, a ∉ B) →
    (PY.dput (kvs.map (·.1)) vs k v).1 = (putK kvs k x).map (·.1) ∧ (∀ p ∈ putK kvs k x, p.1 = k ∨ p.1 ∈ kvs.map (·.1)) ∧ ((putK kvs k x).map (·.1)).Nodup ∧ ∃ B', Owns P ((putK kvs k x).map (·.2)) (PY.dput (kvs.map (·.1)) vs k v).2 B' ∧ B'.Nodup ∧ ∀ a ∈ B', a ∈ A ∨ a ∈ B
  | [], _, _, _, .nil, _, nA, _ => by
    refine ⟨rfl, fun p hp => ?_, by simp [putK], A, ?_, nA, fun a ha => .inl ha⟩
    · have : p = (k, x) := by simpa [putK] using hp
      subst this; exact .inl rfl
    · have := Owns.cons q (P := P) .nil
      rw [List.append_nil] at this
      exact this
  | (k', w) :: r, _, _, hk, .cons (A := A0) (B := B0) (v := u) (vs := us) p os, nB, nA, dj => by
    obtain ⟨n1, n2, n3⟩ := List.nodup_append.mp nB
    rw [List.map_cons, List.nodup_cons] at hk
    obtain ⟨hk1, hk2⟩ := hk
    by_cases h : k' = k
    · subst h
      rw [putK_here _ _ _ _ hk1]
      have e : PY.dput ((k' , w).1 :: r.map (·.1)) (u :: us) k' v = (k' :: r.map (·.1), v :: us) := by
        show (if k' = k' then _ else _) = _
        rw [if_pos rfl]
      rw [List.map_cons, e]
      refine ⟨rfl, fun p hp => ?_, List.nodup_cons.mpr ⟨hk1, hk2⟩, A ++ B0, .cons q os, List.nodup_append.mpr ⟨nA, n2, fun a ha b hb e => ?_⟩, fun a ha => ?_⟩
      · rcases List.mem_cons.mp hp with rfl | hp
        · exact .inl rfl
        · exact .inr (List.mem_cons_of_mem _ (List.mem_map.mpr ⟨p, hp, rfl⟩))
      · subst e; exact dj a ha (List.mem_append_right _ hb)
      · exact (List.mem_append.mp ha).imp id (List.mem_append_right _)
    · rw [putK_rec _ _ _ _ _ h]
      obtain ⟨e1, e2, e3, B', o, n, s⟩ := Owns.dput q k hk2 os n2 nA (fun a ha hb => dj a ha (List.mem_append_right _ hb))
      have e : PY.dput ((k' , w).1 :: r.map (·.1)) (u :: us) k v = (k' :: (PY.dput (r.map (·.1)) us k v).1, u :: (PY.dput (r.map (·.1)) us k v).2) := by
        show (if k' = k then _ else _) = _
        rw [if_neg h]
      rw [List.map_cons, e]
      refine ⟨?_, fun p hp => ?_, ?_, A0 ++ B', .cons p o, List.nodup_append.mpr ⟨n1, n, fun a ha b hb e => ?_⟩, fun a ha => ?_⟩
      · show k' :: _ = k' :: _
        rw [e1]
      · rcases List.mem_cons.mp hp with rfl | hp
        · exact .inr List.mem_cons_self
        · exact (e2 p hp).imp id (List.mem_cons_of_mem _)
      · rw [List.map_cons]
        refine List.nodup_cons.mpr ⟨fun z => ?_, e3⟩
        obtain ⟨p, hp, ep⟩ := List.mem_map.mp z
        rcases e2 p hp with z | z
        · exact h (ep.symm.trans z)
        · rw [ep] at z; exact hk1 z
      · subst e
        rcases s a hb with z | z
        · exact dj a z (List.mem_append_left _ ha)
        · exact n3 a ha a z rfl
      · rcases List.mem_append.mp ha with z | z
        · exact .inr (List.mem_append_left _ z)
        · exact (s a z).imp id (List.mem_append_right _)
end
/-- a tracked thing elsewhere is changed -/
theorem Owns.away {H F : Hp} {d : Nat} {xs : List V} {vs : List PV} {B : List Addr} {p : Addr} {o : HO} (h : Owns (OwnV K H F d) xs vs B) (hp : p ∉ B) : Owns (OwnV K (upd H p o) F d) xs vs B :=
  h.imp fun x v C hC q => q.mono (.refl F) fun a ha o' e => by
    rw [upd_ne (fun z => by subst z; exact hp (hC _ ha))]; exact e
theorem OwnV.away {H F : Hp} {d : Nat} {x : V} {v : PV} {B : List Addr} {p : Addr} {o : HO} (h : OwnV K H F d x v B) (hp : p ∉ B) : OwnV K (upd H p o) F d x v B :=
  h.mono (.refl F) fun a ha o' e => by
    rw [upd_ne (fun z => by subst z; exact hp ha)]; exact e
/-- the thing at slot i is changed at its top -/
theorem Sit.write {H F : Hp} {σ : L2.St} {env : PEnv} {As : Nat → List Addr} (S : Sit K H F σ env δ As) {i d : Nat} {p : Addr} {o : HO} {x : V} {v : PV} {A : List Addr} (hi : i < δ.length) (hd : dp δ i = d) (hp : p ∈ As i) (hx : σ[i]? = some (some x)) (ow : OwnV K (upd H p o) F d x v A) (nd : A.Nodup) (nf : ∀ a ∈ A, F a = none)
    (dj : ∀ j, j ≠ i → ∀ a ∈ A, a ∉ As j) (hO : Ow (some o)) : Sit K (upd H p o) F σ (env.set i (some v)) δ (putA As i A) where
  le := fun a u z => by
    rw [upd_ne (fun w => by subst w; rw [(S.fr i _ hp).1] at z; cases z)]; exact S.le a u z
  len := by rw [List.length_set]; exact S.len
  at' := fun j w e => by
    by_cases h : j = i
    · subst h
      rw [putA_same]
      have hl : j < env.length := by
        have := (List.getElem?_eq_some_iff.mp e).1
        rwa [List.length_set] at this
      rw [List.getElem?_set_self hl] at e
      cases e
      rw [hd]
      exact ⟨x, hx, ow⟩
    · rw [putA_ne h]
      rw [List.getElem?_set_ne (Ne.symm h)] at e
      obtain ⟨y, hy, q⟩ := S.at' j w e
      exact ⟨y, hy, q.away fun z => S.dj i j (Ne.symm h) p hp z⟩
  nd := fun j => by
    by_cases h : j = i
    · subst h; rw [putA_same]; exact nd
    · rw [putA_ne h]; exact S.nd j
  dj := fun j l hjl a ha => by
    by_cases h : j = i
    · subst h
      rw [putA_same] at ha
      rw [putA_ne (Ne.symm hjl)]
      exact dj l (Ne.symm hjl) a ha
    · rw [putA_ne h] at ha
      by_cases h2 : l = i
      · subst h2
        rw [putA_same]
        exact fun hb => dj j h a hb ha
      · rw [putA_ne h2]
        exact S.dj j l hjl a ha
  fr := fun j a ha => by
    by_cases h : j = i
    · subst h
      rw [putA_same] at ha
      exact ⟨nf a ha, ow.thereO a ha⟩
    · rw [putA_ne h] at ha
      obtain ⟨n, t⟩ := S.fr j a ha
      refine ⟨n, ?_⟩
      rw [upd_ne (fun z => by subst z; exact S.dj i j (Ne.symm h) _ hp ha)]
      exact t
end PY

/-! PyD2: statements: their reading, their check. -/
namespace PY
open PySem L2
open PySem.Spec PyProof.Rows

/-- what a statement leaves: none: it never falls through -/
abbrev DR := Option Dps
section
variable (K : Frag) (H0 F0 : Hp) (Fb : Hp)
/-- the situation in a body: H0, F0 as the call found the heap; Fb what was frozen at some earlier time -/
structure StSit (H F : Hp) (σ : L2.St) (env : PEnv) (δ : Dps) (As : Nat → List Addr) : Prop where
  sit : Sit K H F σ env δ As
  gr : Grow H0 F0 H F
  le0 : FLe F0 H0
  nw : ∀ i, ∀ a ∈ As i, H0 a = none
  fb : FG Fb F
def Post (fr : Nat) (δ' : DR) (lp : DR) (D : Ends) : SR → Prop
  | .nx env => ∀ d, δ' = some d → ∀ σ H F As, StSit K H0 F0 Fb H F σ env d As → D.nx σ H
  | .rt v => ∀ x H F A, Grow H0 F0 H F → OwnF K H0 H F fr x v A → D.rt x H
  | .bk env => ∃ d, lp = some d ∧ ∀ σ H F As, StSit K H0 F0 Fb H F σ env d As → D.bk σ H
  | .ct env => ∃ d, lp = some d ∧ ∀ σ H F As, StSit K H0 F0 Fb H F σ env d As → D.ct σ H
  | .ex _ => False
  | .bad => False
end
section
variable (K : Frag) (Φ : Fns) (fu fr : Nat) (δ : Dps) (δ' lp : DR)
def tS (c : CS) : TS := fun D σ H => ∃ H0 F0 Fb F env As, StSit K H0 F0 Fb H F σ env δ As ∧ Post K H0 F0 Fb fr δ' lp D (evS Φ fu c env)
def tSs (cs : List CS) : TS := fun D σ H => ∃ H0 F0 Fb F env As, StSit K H0 F0 Fb H F σ env δ As ∧ Post K H0 F0 Fb fr δ' lp D (evSs Φ fu cs env)
end

def isTupE : Expr → Bool
  | .Tuple _ _ _ => true
  | _ => false
def pairOk (t v : Expr) : Bool := !(isTupE t && isTupE v)
def notLc : Expr → Bool
  | .ListComp _ _ _ _ => false
  | .SetComp _ _ _ _ => false
  | .DictComp _ _ _ _ _ => false
  | _ => true
/-- a list's own method, one argument: the list's name, the argument -/
def methOk (N : List Str) (sc : Scope) (i : Nat) (m : Str) (e : Expr) : Option Expr := match e with
  | .Call (.Attribute (.Name x _) m' ap) [v] [] cp => if decide (m' = m) && vOk N sc i x && (ap.endLine == cp.line) then some v else none
  | _ => none
def frzOf : CS → Option Nat
  | .frz i => some i
  | _ => none
def joinD : Option DR → Option DR → Option DR
  | some none, b => b
  | a, some none => a
  | some (some a), some (some b) => if a = b then some (some a) else none
  | _, _ => none
def loopOk (δ : Dps) : Option DR → Bool
  | some none => true
  | some (some d) => decide (d = δ)
  | none => false
section
variable (Γ : List FnD) (N : List Str) (fr : Nat)
def ckRet (δ : Dps) (sc : Scope) (e : CE) (v : Expr) : Bool := (ckE Γ N δ e sc v && decide (fr ≤ fd Γ e)) || match e with
  | .bor i => ckB N (.bor i) sc v && decide (fr ≤ dp δ i)
  | _ => false
mutual
def ckS : CS → Scope → Stmt → Dps → DR → Option DR
  | .asg k tg e, sc, st, δ, _ => match st with
    | .Assign [t] v _ => if ckE Γ N δ e sc v && ckT N δ sc none tg t && decide (k ≤ fd Γ e) && pairOk t v then some (some (setD δ (tgK k tg) (tgL tg))) else none
    | _ => none
  | .setI i ix e, sc, st, δ, _ => match st with
    | .Assign [.Subscript (.Name x _) r _] v _ => if ckE Γ N δ e sc v && ckE Γ N δ ix sc r && vOk N sc i x && decide (1 ≤ dp δ i) && decide (dp δ i ≤ fd Γ e + 1) && decide (i < δ.length) then some (some δ) else none
    | _ => none
  | .app i e, sc, st, δ, _ => match st with
    | .Expr c _ => match methOk N sc i "append" c with
      | some v => if ckE Γ N δ e sc v && decide (1 ≤ dp δ i) && decide (dp δ i ≤ fd Γ e + 1) && decide (i < δ.length) then some (some δ) else none
      | none => none
    | _ => none
  | .appPop i j ix, sc, st, δ, _ => match st with
    | .Expr c _ => match methOk N sc i "append" c with
      | some v => match methOk N sc j "pop" v with
        | some r => if ckE Γ N δ ix sc r && decide (1 ≤ dp δ i) && decide (dp δ j = dp δ i) && decide (i ≠ j) && decide (i < δ.length) && decide (j < δ.length) then some (some δ) else none
        | none => none
      | none => none
    | _ => none
  | .asgPop tg j ix, sc, st, δ, _ => match st with
    | .Assign [t] v _ => match methOk N sc j "pop" v with
      | some r => if ckE Γ N δ ix sc r && ckT N δ sc none tg t && decide (1 ≤ dp δ j) && decide (j < δ.length) then some (some (setD δ (tgK (dp δ j - 1) tg) (tgL tg))) else none
      | none => none
    | _ => none
  | .app1 _ _ _, _, _, _, _ => none
  | .ite c a b, sc, st, δ, lp => match st with
    | .If t p q _ => if tstOk c && ckE Γ N δ c sc t then joinD (ckSs a sc p δ lp) (ckSs b sc q δ lp) else none
    | _ => none
  | .for tg it body, sc, st, δ, _ => match st with
    | .For t e p [] _ => if ckI Γ N δ it sc t e && ckT N δ sc none tg t && (tgL tg).all (fun i => decide (dp δ i = 0)) && loopOk δ (ckSs body sc p δ (some δ)) then some (some δ) else none
    | _ => none
  | .while c body, sc, st, δ, _ => match st with
    | .While t p [] _ => if tstOk c && ckE Γ N δ c sc t && loopOk δ (ckSs body sc p δ (some δ)) then some (some δ) else none
    | _ => none
  | .ret e, sc, st, δ, _ => match st with
    | .Return (some v) _ => if ckRet Γ N fr δ sc e v then some none else none
    | _ => none
  | .retN, _, st, _, _ => match st with
    | .Return none _ => if fr = 0 then some none else none
    | _ => none
  | .raise _ _, _, st, _, _ => match st with
    | .Raise _ _ _ => some none
    | _ => none
  | .pass, _, st, δ, _ => match st with
    | .Pass _ => some (some δ)
    | _ => none
  | .brk, _, st, δ, lp => match st with
    | .Break _ => if lp = some δ then some none else none
    | _ => none
  | .cont, _, st, δ, lp => match st with
    | .Continue _ => if lp = some δ then some none else none
    | _ => none
  | .exp e, sc, st, δ, _ => match st with
    | .Expr v _ => if ckE Γ N δ e sc v && notLc v then some (some δ) else none
    | _ => none
  | .frz _, _, _, _, _ => none
def ckSs : List CS → Scope → List Stmt → Dps → DR → Option DR
  | [], _, sts, δ, _ => if sts.isEmpty then some (some δ) else none
  | c :: cs, sc, sts, δ, lp => match frzOf c with
    | some i => if i < δ.length then ckSs cs sc sts (δ.set i 0) lp else none
    | none => match sts with
      | [] => none
      | st :: rest => match ckS c sc st δ lp with
        | none => none
        | some none => if rest.isEmpty && cs.isEmpty then some none else none
        | some (some d) => ckSs cs sc rest d lp
end
end

/-! ### post -/
section
variable {K : Frag} {H0 F0 Fb : Hp} {fr : Nat} {δ' lp : DR} {D : Ends}
theorem Post.none {r : SR} (h : Post K H0 F0 Fb fr δ' lp D r) : Post K H0 F0 Fb fr none lp D r := by
  cases r with
  | nx env => intro d e; cases e
  | rt v => exact h
  | bk env => exact h
  | ct env => exact h
  | ex e => exact h
  | bad => exact h
/-- for a result from the left -/
theorem Post.joinL {a b : Option DR} {d : DR} (hj : joinD a b = some d) {r : SR} (h : Post K H0 F0 Fb fr d lp D r) : ∃ da, a = some da ∧ Post K H0 F0 Fb fr da lp D r := by
  unfold joinD at hj
  split at hj
  · exact ⟨_, rfl, h.none⟩
  · cases hj; exact ⟨_, rfl, h⟩
  · split at hj
    · cases hj; exact ⟨_, rfl, h⟩
    · cases hj
  · cases hj
theorem Post.joinR {a b : Option DR} {d : DR} (hj : joinD a b = some d) {r : SR} (h : Post K H0 F0 Fb fr d lp D r) : ∃ db, b = some db ∧ Post K H0 F0 Fb fr db lp D r := by
  unfold joinD at hj
  split at hj
  · exact ⟨_, hj, h⟩
  · cases hj; exact ⟨_, rfl, h.none⟩
  · split at hj
    · rename_i e
      cases hj; exact ⟨_, by rw [e], h⟩
    · cases hj
  · cases hj
theorem joinD_some {a b : Option DR} {d : DR} (hj : joinD a b = some d) : (∃ da, a = some da) ∧ ∃ db, b = some db := by
  unfold joinD at hj
  split at hj
  · exact ⟨⟨_, rfl⟩, ⟨_, hj⟩⟩
  · exact ⟨⟨_, hj⟩, ⟨_, rfl⟩⟩
  · exact ⟨⟨_, rfl⟩, ⟨_, rfl⟩⟩
  · cases hj
theorem Post.st_ok {α : Type} {x : R α} {f : α → SR} (h : Post K H0 F0 Fb fr δ' lp D (x.st f)) : ∃ a, x = .ok a ∧ Post K H0 F0 Fb fr δ' lp D (f a) := by
  cases x with
  | ok a => exact ⟨a, rfl, h⟩
  | ex e => exact h.elim
  | bad => exact h.elim
theorem StSit.grow {H F H' F' : Hp} {σ : L2.St} {env : PEnv} {δ : Dps} {As : Nat → List Addr} (S : StSit K H0 F0 Fb H F σ env δ As) (g : Grow H F H' F') : StSit K H0 F0 Fb H' F' σ env δ As :=
  ⟨S.sit.grow g, S.gr.trans g, S.le0, S.nw, S.fb.trans g.fg⟩
theorem StSit.none0 {H F : Hp} {σ : L2.St} {env : PEnv} {δ : Dps} {As : Nat → List Addr} (S : StSit K H0 F0 Fb H F σ env δ As) {a : Addr} (h : H a = none) : H0 a = none := S.gr.noneE S.le0 h
theorem StSit.base {H F : Hp} {σ : L2.St} {env : PEnv} {δ : Dps} {As : Nat → List Addr} (S : StSit K H0 F0 Fb H F σ env δ As) {Fb' : Hp} (g : FG Fb' F) : StSit K H0 F0 Fb' H F σ env δ As :=
  ⟨S.sit, S.gr, S.le0, S.nw, g⟩
theorem Post.base {Fb' : Hp} (g : FG Fb Fb') {r : SR} (h : Post K H0 F0 Fb fr δ' lp D r) : Post K H0 F0 Fb' fr δ' lp D r := by
  cases r with
  | nx env => exact fun d e σ H F As S => h d e σ H F As (S.base (g.trans S.fb))
  | rt v => exact h
  | bk env =>
    obtain ⟨d, e, h⟩ := h
    exact ⟨d, e, fun σ H F As S => h σ H F As (S.base (g.trans S.fb))⟩
  | ct env =>
    obtain ⟨d, e, h⟩ := h
    exact ⟨d, e, fun σ H F As S => h σ H F As (S.base (g.trans S.fb))⟩
  | ex e => exact h
  | bad => exact h
theorem StSit.freeze {H F : Hp} {σ : L2.St} {env : PEnv} {δ : Dps} {As : Nat → List Addr} (S : StSit K H0 F0 Fb H F σ env δ As) {i : Nat} (hi : i < δ.length) : StSit K H0 F0 Fb H (froz F H (As i)) σ env (δ.set i 0) (putA As i []) where
  sit := S.sit.freeze i hi
  gr := S.gr.frozen fun a ha => S.nw i a ha
  le0 := S.le0
  nw := fun j a ha => by
    by_cases h : j = i
    · subst h; rw [putA_same] at ha; cases ha
    · rw [putA_ne h] at ha; exact S.nw j a ha
  fb := S.fb.trans (froz_fg S.sit.le _)
end
end PY

/-! PyD3: statements, one by one. -/
namespace PY
open PySem L2
open PySem.Spec PyProof.Rows

section
variable (Γ : List FnD) (Φ : Fns) (N : List Str) (fu fr : Nat)
structure GoodS (X : Cx) : Prop extends Good Γ Φ N X where
  hp : PassesOwn (model X.prog X.w) X.A X.env X.xe
  fnI : FnIs X none
def SndS (c : CS) : Prop := ∀ X sc st δ δ' lp, GoodS Γ Φ N X → X.env.scope = sc → ckS Γ N fr c sc st δ lp = some δ' → PS X st (tS X.K Φ fu fr δ δ' lp c)
def SndSs (cs : List CS) : Prop := ∀ X sc sts δ δ' lp, GoodS Γ Φ N X → X.env.scope = sc → ckSs Γ N fr cs sc sts δ lp = some δ' → PSs X sts (tSs X.K Φ fu fr δ δ' lp cs)
end
variable {Γ : List FnD} {Φ : Fns} {N : List Str} {fu fr : Nat} {δ : Dps} {δ' lp : DR} {X : Cx} {sc : Scope} {e : Expr}

/-! ### assignments -/
theorem gT_name {K : Frag} {k i : Nat} {v : V} {σ : L2.St} {H : Hp} {Q : L2.St → Hp → Prop} (hi : i < δ.length) (h : gT K δ k (.var i) v σ H Q) : gName i v σ H Q := by
  obtain ⟨F, env, As, pv, A, env', S, o, nd, nf, dj, hb, k'⟩ := h
  cases hb
  exact k' [v] _ (S.set hi o nd nf fun j _ => dj j) fun j a ha => by
    by_cases hj : j = i
    · subst hj; rw [putA_same] at ha; exact .inr ha
    · rw [putA_ne hj] at ha; exact .inl ha
theorem asg_core {K : Frag} {H0 F0 Fb : Hp} {tg : Tg} {k : Nat} {D : Ends} {σ : L2.St} {H F H' F' : Hp} {env env' : PEnv} {As : Nat → List Addr} {x : V} {v : PV} {A : List Addr} (S : StSit K H0 F0 Fb H F σ env δ As) (g : Grow H F H' F') (o : OwnF K H H' F' k x v A) (hb : bindT tg v env = .ok env')
    (P : Post K H0 F0 Fb fr (some (setD δ (tgK k tg) (tgL tg))) lp D (.nx env')) : gT K δ k tg x σ H' D.nx := by
  refine ⟨F', env, As, v, A, env', S.sit.grow g, o.1, o.2.1, fun a ha => (o.2.2 a ha).2, fun j a ha hb => (S.sit.fr j a hb).2.ne (o.2.2 a ha).1, hb, fun xs As' S' hsub => P _ rfl _ _ F' As' ⟨S', S.gr.trans g, S.le0, fun j a ha => ?_, S.fb.trans g.fg⟩⟩
  rcases hsub j a ha with z | z
  · exact S.nw j a z
  · exact S.none0 (o.2.2 a z).1
theorem tsw_tup {es : List Expr} {p : Pos} {kk : Nat} {v : Expr} {l : Nat} {env : Env} : swapsWithSole [.Tuple es kk p] v l env = pure false := by cases v <;> rfl
theorem tss_tup {es : List Expr} {p : Pos} {kk : Nat} {v : Expr} {env : Env} (h : isTupE v = false) : swappedStores [.Tuple es kk p] v env = pure none := by
  cases v <;> first | rfl | (cases h)
theorem sw_not {v : Expr} {t : Option Expr} {l : Nat} {env : Env} (h : notLc v = true) : swapsWith v t l env = pure false := by
  cases v <;> first | rfl | (cases h)
theorem notLc_of {v : Expr} (h : headOk v = true) : notLc v = true ∨ (∃ a b c d, v = .ListComp a b c d) ∨ (∃ a b c d, v = .SetComp a b c d) ∨ ∃ a b c d f, v = .DictComp a b c d f := by
  cases v <;> first | exact .inl rfl | exact .inr (.inl ⟨_, _, _, _, rfl⟩) | exact .inr (.inr (.inl ⟨_, _, _, _, rfl⟩)) | exact .inr (.inr (.inr ⟨_, _, _, _, _, rfl⟩))
theorem ck_lc {c : CE} {sc : Scope} {v : Expr} (h : ckE Γ N δ c sc v = true) : notLc v = true ∨ ∃ elt tg it conds own, c = .comp elt tg it conds own := by
  cases c <;> first | exact .inr ⟨_, _, _, _, _, rfl⟩ | (unfold ckE at h; first | (cases h; done) | (split at h <;> first | exact .inl rfl | (cases h)))
theorem sw_lc {elt : Expr} {gs : List Comprehension} {s : Scope} {p py : Pos} {y : Str} {l : Nat} {env : Env} : swapsWith (.ListComp elt gs s p) (some (.Name y py)) l env = pure (env.blockKind == .function && env.kindOf y == some .local && py.line == p.line && !(s.names.any fun (n, k) => n == y && (k == .local || k == .cell))) := rfl
theorem s_asg (k : Nat) (tg : Tg) (c : CE) : SndS Γ Φ N fu fr (.asg k tg c) := fun X sc st δ δ' lp G hs h => by
  unfold ckS at h
  split at h
  · rename_i t v pos
    split at h
    · rename_i hc
      cases h
      simp only [Bool.and_eq_true, decide_eq_true_eq] at hc
      obtain ⟨⟨⟨h1, h2⟩, h3⟩, h4⟩ := hc
      have core : ∀ D σ H, tS X.K Φ fu fr δ (some (setD δ (tgK k tg) (tgL tg))) lp (.asg k tg c) D σ H → tAsg (tO X.K Φ δ k c) (gT X.K δ k tg) D σ H := fun D σ H q => by
        obtain ⟨H0, F0, Fb, F, env, As, S, P⟩ := q
        unfold evS at P
        obtain ⟨v, e1, P⟩ := P.st_ok
        obtain ⟨env', e2, P⟩ := P.st_ok
        exact ⟨F, env, As, S.sit, v, e1, fun x H' F' A g o => asg_core S g o e2 P⟩
      have pE := (sE (Γ := Γ) (Φ := Φ) (N := N) (δ := δ) c).pem G.toGood hs h1 h3
      cases tg with
      | tup is =>
        have pT := pg_T (k := k) G.calm G.nN G.nd hs G.fnI h2
        cases t <;> first | (cases h2; done) | skip
        rename_i es kk p
        have hv : isTupE v = false := by simpa [pairOk, isTupE] using h4
        exact PS_weak (ps_asg pE pT tsw_tup (tss_tup hv) rfl) core
      | var i =>
        have pT := pg_T (k := k) G.calm G.nN G.nd hs G.fnI h2
        have h2' : tnOk N δ sc none i t = true := h2
        unfold tnOk at h2'
        split at h2'
        · rename_i y py
          rw [Bool.and_eq_true, Bool.and_eq_true, decide_eq_true_eq, decide_eq_true_eq] at h2'
          obtain ⟨⟨hy, hl⟩, hi⟩ := h2'
          have plain : swapsWith v (some (.Name y py)) pos.line X.env = pure false → PS X (.Assign [.Name y py] v pos) (tAsg (tO X.K Φ δ k c) (gT X.K δ k (.var i))) := fun sw => ps_asg pE pT (show swapsWith v (some (.Name y py)) pos.line X.env = pure false from sw) rfl rfl
          rcases ck_lc h1 with hn | ⟨elt, tg', it, conds, own, rfl⟩
          · exact PS_weak (plain (sw_not hn)) core
          · have L := s_compX (sE (Γ := Γ) (Φ := Φ) (N := N) (δ := δ) elt) (sI it) (sEs conds) G.toGood hs h1
            obtain ⟨elt', tg1, iter, ifs, scope, p1, ow, wi, g, tt, te, rfl, hi1, ok, hg, ht, he, hs1, w⟩ := L.ex
            cases hb : (X.env.blockKind == .function && X.env.kindOf y == some .local && py.line == p1.line && !(scope.names.any fun (n, k) => n == y && (k == .local || k == .cell))) with
            | false => exact PS_weak (plain (by rw [sw_lc, hb])) core
            | true =>
              have hyl : X.env.scope.names.lookup y = some .local := by
                have hk : (X.env.kindOf y == some .local) = true := by
                  simp only [Bool.and_eq_true] at hb
                  exact hb.1.1.2
                obtain ⟨l1, _⟩ := locOk_ok (N := N) hl hs G.fnI
                rcases l1 with l1 | l1
                · exact l1
                · have : X.env.kindOf y = some .cell := l1
                  rw [this] at hk
                  cases hk
              refine PS_weak (ps_setLc (i := i) G.calm G.nd (by rw [G.nN]; exact hy) hyl (by rw [sw_lc, hb]) hi1 ok hg ht he hs1) fun D σ H q => ?_
              have q1 := core D σ H q
              refine w σ H _ (tO_lower h3 ?_)
              obtain ⟨F, env, As, S, v, e1, k1⟩ := q1
              exact ⟨F, env, As, S, v, e1, fun x H' F' A g o => gT_name hi (k1 x H' F' A g o)⟩
        · cases h2'
    · cases h
  · cases h
end PY

/-! PyD4: changes of lists and dicts. -/
namespace PY
open PySem L2
open PySem.Spec PyProof.Rows
variable {K : Frag} {Γ : List FnD} {Φ : Fns} {N : List Str} {fu fr : Nat} {δ : Dps} {δ' lp : DR} {X : Cx} {sc : Scope} {e : Expr}

theorem PSet_or {t t' : TSet} (h : PSet X t) (h' : PSet X t') : PSet X (fun o i v H Q => t o i v H Q ∨ t' o i v H Q) := by
  intro pins s σ H o i v ov iv u Q I ro ri rv q
  exact q.elim (h pins s σ H o i v ov iv u Q I ro ri rv) (h' pins s σ H o i v ov iv u Q I ro ri rv)
/-- x[ix] = v -/
theorem set_core {H F : Hp} {σ : L2.St} {env : PEnv} {As : Nat → List Addr} (S : Sit K H F σ env δ As) {i d : Nat} (hi : i < δ.length) (hd : dp δ i = d + 1) {px pk v y : PV} {kx z : V} {A : List Addr} (hx : getS env i = .ok px) (rk : Rep K F kx pk) (o : OwnV K H F d z v A) (nd : A.Nodup)
    (nf : ∀ a ∈ A, F a = none) (dj : ∀ j, ∀ a ∈ A, a ∉ As j) (hs : setP px pk v = .ok y) : ∃ p o A', σ[i]? = some (some (.ref p)) ∧ (∀ Q : Hp → Prop, Q (upd H p o) → rSetL (.ref p) kx z H Q ∨ rSetD (.ref p) kx z H Q) ∧
      Sit K (upd H p o) F σ (env.set i (some y)) δ (putA As i A') ∧ p ∈ As i ∧ ∀ a ∈ A', a ∈ As i ∨ a ∈ A := by
  obtain ⟨x, ex, ow⟩ := S.at' i px (getS_ok hx)
  rw [hd] at ow
  obtain ⟨p, B, rfl, eA, q⟩ := ow
  have nA := S.nd i
  rw [eA] at nA
  obtain ⟨np, nB⟩ := List.nodup_cons.mp nA
  have hp : p ∈ As i := by rw [eA]; exact List.mem_cons_self
  have pA : p ∉ A := fun w => dj i p w hp
  have dB : ∀ a ∈ A, a ∉ B := fun a ha hb => dj i a ha (by rw [eA]; exact List.mem_cons_of_mem _ hb)
  rcases q with ⟨xs, vs, rfl, eH, l, os⟩ | ⟨kvs, vs, rfl, eH, l, os⟩
  · unfold setP at hs
    simp only at hs
    cases pk <;> first | (cases hs; done) | skip
    simp only at hs
    split at hs
    · rename_i k j hj
      cases hs
      cases rk
      obtain ⟨B', ob, nB', sB⟩ := os.put o j nB nd dB
      refine ⟨p, .lst (xs.set j z), p :: B', ex, fun Q q => .inl ⟨p, xs, _, j, rfl, rfl, eH, by rw [os.length]; exact hj, q⟩, S.write (d := d + 1) hi hd hp ex ⟨p, B', rfl, rfl, .inl ⟨_, _, rfl, upd_same, by rw [List.length_set]; exact l, ?_⟩⟩ ?_ ?_ ?_ True.intro, hp, ?_⟩
      · refine ob.away fun w => ?_
        rcases sB p w with w | w
        · exact pA w
        · exact np w
      · refine List.nodup_cons.mpr ⟨fun w => ?_, nB'⟩
        rcases sB p w with w | w
        · exact pA w
        · exact np w
      · intro a ha
        rcases List.mem_cons.mp ha with rfl | ha
        · exact (S.fr i _ hp).1
        · rcases sB a ha with w | w
          · exact nf a w
          · exact (S.fr i a (by rw [eA]; exact List.mem_cons_of_mem _ w)).1
      · intro j' hj' a ha
        rcases List.mem_cons.mp ha with rfl | ha
        · exact S.dj i j' (Ne.symm hj') _ hp
        · rcases sB a ha with w | w
          · exact dj j' a w
          · exact S.dj i j' (Ne.symm hj') a (by rw [eA]; exact List.mem_cons_of_mem _ w)
      · intro a ha
        rcases List.mem_cons.mp ha with rfl | ha
        · exact .inl hp
        · rcases sB a ha with w | w
          · exact .inr w
          · exact .inl (by rw [eA]; exact List.mem_cons_of_mem _ w)
    · cases hs
  · unfold setP at hs
    simp only at hs
    split at hs
    · rename_i k hk
      split at hs
      · rename_i hl
        cases hs
        rw [List.length_map] at hl
        obtain ⟨b, rfl, eb⟩ := key_of_rep rk hk
        have kg := key_good rk hk
        obtain ⟨l1, l2, l3⟩ := l
        obtain ⟨e1, e2, e3, B', ob, nB', sB⟩ := Owns.dput o k l3 os nB nd dB
        refine ⟨p, .dT (putK kvs k z), p :: B', ex, fun Q q => .inr ⟨p, _, rfl, DPut.t eH (S.le _ _ eb) (by rw [lim_eq]; exact hl), q⟩, S.write (d := d + 1) hi hd hp ex ⟨p, B', rfl, rfl, .inr ⟨putK kvs k z, _, by rw [e1], upd_same, ⟨?_, ?_, e3⟩, ?_⟩⟩ ?_ ?_ ?_ True.intro, hp, ?_⟩
        · have := length_putK kvs k z
          omega
        · intro q hq
          rcases e2 q hq with w | w
          · rw [w]; exact kg
          · obtain ⟨q', h1, h2⟩ := List.mem_map.mp w
            rw [← h2]; exact l2 q' h1
        · refine ob.away fun w => ?_
          rcases sB p w with w | w
          · exact pA w
          · exact np w
        · refine List.nodup_cons.mpr ⟨fun w => ?_, nB'⟩
          rcases sB p w with w | w
          · exact pA w
          · exact np w
        · intro a ha
          rcases List.mem_cons.mp ha with rfl | ha
          · exact (S.fr i _ hp).1
          · rcases sB a ha with w | w
            · exact nf a w
            · exact (S.fr i a (by rw [eA]; exact List.mem_cons_of_mem _ w)).1
        · intro j' hj' a ha
          rcases List.mem_cons.mp ha with rfl | ha
          · exact S.dj i j' (Ne.symm hj') _ hp
          · rcases sB a ha with w | w
            · exact dj j' a w
            · exact S.dj i j' (Ne.symm hj') a (by rw [eA]; exact List.mem_cons_of_mem _ w)
        · intro a ha
          rcases List.mem_cons.mp ha with rfl | ha
          · exact .inl hp
          · rcases sB a ha with w | w
            · exact .inr w
            · exact .inl (by rw [eA]; exact List.mem_cons_of_mem _ w)
      · cases hs
    · cases hs
/-- x.append(v) -/
theorem app_core {H F : Hp} {σ : L2.St} {env : PEnv} {As : Nat → List Addr} (S : Sit K H F σ env δ As) {i d : Nat} (hi : i < δ.length) (hd : dp δ i = d + 1) {px v y : PV} {z : V} {A : List Addr} (hx : getS env i = .ok px) (o : OwnV K H F d z v A) (nd : A.Nodup)
    (nf : ∀ a ∈ A, F a = none) (dj : ∀ j, ∀ a ∈ A, a ∉ As j) (hs : appP px v = .ok y) : ∃ p o A', σ[i]? = some (some (.ref p)) ∧ (∀ Q : V → Hp → Prop, Q .non (upd H p o) → rAppend (.ref p) [z] H Q) ∧
      Sit K (upd H p o) F σ (env.set i (some y)) δ (putA As i A') ∧ p ∈ As i ∧ ∀ a ∈ A', a ∈ As i ∨ a ∈ A := by
  obtain ⟨x, ex, ow⟩ := S.at' i px (getS_ok hx)
  rw [hd] at ow
  obtain ⟨p, B, rfl, eA, q⟩ := ow
  have nA := S.nd i
  rw [eA] at nA
  obtain ⟨np, nB⟩ := List.nodup_cons.mp nA
  have hp : p ∈ As i := by rw [eA]; exact List.mem_cons_self
  have pA : p ∉ A := fun w => dj i p w hp
  have dB : ∀ a ∈ A, a ∉ B := fun a ha hb => dj i a ha (by rw [eA]; exact List.mem_cons_of_mem _ hb)
  rcases q with ⟨xs, vs, rfl, eH, l, os⟩ | ⟨kvs, vs, rfl, eH, l, os⟩
  · unfold appP at hs
    simp only at hs
    split at hs
    · rename_i hl
      cases hs
      have ob := os.snoc o
      have hlen := os.length
      refine ⟨p, .lst (xs ++ [z]), p :: (B ++ A), ex, fun Q q => ⟨p, xs, z, rfl, rfl, eH, by rw [lim_eq]; omega, q⟩, S.write (d := d + 1) hi hd hp ex ⟨p, B ++ A, rfl, rfl, .inl ⟨_, _, rfl, upd_same, by rw [List.length_append, List.length_singleton]; omega, ?_⟩⟩ ?_ ?_ ?_ True.intro, hp, ?_⟩
      · refine ob.away fun w => ?_
        rcases List.mem_append.mp w with w | w
        · exact np w
        · exact pA w
      · refine List.nodup_cons.mpr ⟨fun w => ?_, List.nodup_append.mpr ⟨nB, nd, fun a ha b hb e => ?_⟩⟩
        · rcases List.mem_append.mp w with w | w
          · exact np w
          · exact pA w
        · subst e; exact dB a hb ha
      · intro a ha
        rcases List.mem_cons.mp ha with rfl | ha
        · exact (S.fr i _ hp).1
        · rcases List.mem_append.mp ha with w | w
          · exact (S.fr i a (by rw [eA]; exact List.mem_cons_of_mem _ w)).1
          · exact nf a w
      · intro j' hj' a ha
        rcases List.mem_cons.mp ha with rfl | ha
        · exact S.dj i j' (Ne.symm hj') _ hp
        · rcases List.mem_append.mp ha with w | w
          · exact S.dj i j' (Ne.symm hj') a (by rw [eA]; exact List.mem_cons_of_mem _ w)
          · exact dj j' a w
      · intro a ha
        rcases List.mem_cons.mp ha with rfl | ha
        · exact .inl hp
        · rcases List.mem_append.mp ha with w | w
          · exact .inl (by rw [eA]; exact List.mem_cons_of_mem _ w)
          · exact .inr w
    · cases hs
  · cases hs
/-- x.pop(ix) -/
theorem pop_core {H F : Hp} {σ : L2.St} {env : PEnv} {As : Nat → List Addr} (S : Sit K H F σ env δ As) {i d : Nat} (hi : i < δ.length) (hd : dp δ i = d + 1) {px pk : PV} {r : PV × PV} {kx : V} (hx : getS env i = .ok px) (rk : Rep K F kx pk) (hs : popP px pk = .ok r) :
    ∃ p o y A A', σ[i]? = some (some (.ref p)) ∧ (∀ Q : V → Hp → Prop, Q y (upd H p o) → rPopAt (.ref p) [kx] H Q) ∧ (∃ xs, H p = some (.lst xs)) ∧
      Sit K (upd H p o) F σ (env.set i (some r.2)) δ (putA As i A') ∧ p ∈ As i ∧ OwnV K (upd H p o) F d y r.1 A ∧ A.Nodup ∧ (∀ a ∈ A, a ∈ As i ∧ a ∉ A') ∧ ∀ a ∈ A', a ∈ As i := by
  obtain ⟨x, ex, ow⟩ := S.at' i px (getS_ok hx)
  rw [hd] at ow
  obtain ⟨p, B, rfl, eA, q⟩ := ow
  have nA := S.nd i
  rw [eA] at nA
  obtain ⟨np, nB⟩ := List.nodup_cons.mp nA
  have hp : p ∈ As i := by rw [eA]; exact List.mem_cons_self
  rcases q with ⟨xs, vs, rfl, eH, l, os⟩ | ⟨kvs, vs, rfl, eH, l, os⟩
  · unfold popP at hs
    cases pk <;> first | (cases hs; done) | skip
    simp only at hs
    split at hs
    · rename_i hk
      have hk' := of_decide_eq_true hk
      split at hs
      · rename_i j hj
        split at hs
        · rename_i w hw
          cases hs
          cases rk
          obtain ⟨y, A, B', ey, oy, ob, pm⟩ := os.take_out hw
          have nAB := pm.nodup_iff.mp nB
          obtain ⟨n1, n2, n3⟩ := List.nodup_append.mp nAB
          have inA : ∀ a ∈ A, a ∈ B := fun a ha => pm.mem_iff.mpr (List.mem_append_left _ ha)
          have inB : ∀ a ∈ B', a ∈ B := fun a ha => pm.mem_iff.mpr (List.mem_append_right _ ha)
          refine ⟨p, .lst (xs.eraseIdx j), y, A, p :: B', ex, fun Q q => ⟨p, xs, _, j, y, rfl, rfl, eH, hk'.1, hk'.2, ?_, ey, q⟩, ⟨xs, eH⟩, S.write (d := d + 1) hi hd hp ex ⟨p, B', rfl, rfl, .inl ⟨_, _, rfl, upd_same, Nat.le_trans (len_erase xs j) l, ob.away fun w => np (inB p w)⟩⟩ (List.nodup_cons.mpr ⟨fun w => np (inB p w), n2⟩) ?_ ?_ True.intro, hp, oy.away fun w => np (inA p w), n1, fun a ha => ⟨?_, ?_⟩, ?_⟩
          · rw [os.length]
            exact (ixN_seq hj).1
          · intro a ha
            rcases List.mem_cons.mp ha with rfl | ha
            · exact (S.fr i _ hp).1
            · exact (S.fr i a (by rw [eA]; exact List.mem_cons_of_mem _ (inB a ha))).1
          · intro j' hj' a ha
            rcases List.mem_cons.mp ha with rfl | ha
            · exact S.dj i j' (Ne.symm hj') _ hp
            · exact S.dj i j' (Ne.symm hj') a (by rw [eA]; exact List.mem_cons_of_mem _ (inB a ha))
          · rw [eA]; exact List.mem_cons_of_mem _ (inA a ha)
          · intro w
            rcases List.mem_cons.mp w with rfl | w
            · exact np (inA _ ha)
            · exact n3 a ha a w rfl
          · intro a ha
            rcases List.mem_cons.mp ha with rfl | ha
            · exact hp
            · rw [eA]; exact List.mem_cons_of_mem _ (inB a ha)
        · cases hs
      · cases hs
    · cases hs
  · cases hs
end PY

/-! PyD5: the other statements; all statements. -/
namespace PY
open PySem L2
open PySem.Spec PyProof.Rows
variable {K : Frag} {Γ : List FnD} {Φ : Fns} {N : List Str} {fu fr : Nat} {δ : Dps} {δ' lp : DR} {X : Cx} {sc : Scope} {e : Expr}

/-- behind a write at p -/
theorem StSit.wrote {H0 F0 Fb H F : Hp} {σ : L2.St} {env env' : PEnv} {As : Nat → List Addr} (S : StSit K H0 F0 Fb H F σ env δ As) {i : Nat} {p : Addr} {o : HO} {A' : List Addr} (hp : p ∈ As i) (S' : Sit K (upd H p o) F σ env' δ (putA As i A')) (sub : ∀ a ∈ A', a ∈ As i ∨ H0 a = none) :
    StSit K H0 F0 Fb (upd H p o) F σ env' δ (putA As i A') where
  sit := S'
  gr := S.gr.put (S.nw i p hp) (S.sit.fr i p hp).1 o
  le0 := S.le0
  nw := fun j a ha => by
    by_cases h : j = i
    · subst h
      rw [putA_same] at ha
      exact (sub a ha).elim (S.nw j a) id
    · rw [putA_ne h] at ha; exact S.nw j a ha
  fb := S.fb
theorem methOk_ok {i : Nat} {m : Str} {v : Expr} (h : methOk N sc i m e = some v) : ∃ x p m' ap cp, e = .Call (.Attribute (.Name x p) m' ap) [v] [] cp ∧ m' = m ∧ vOk N sc i x = true ∧ (ap.endLine == cp.line) = true := by
  unfold methOk at h
  split at h
  · rename_i x p m' ap v' cp
    split at h
    · rename_i hc
      cases h
      simp only [Bool.and_eq_true, decide_eq_true_eq] at hc
      exact ⟨x, p, m', ap, cp, rfl, hc.1.1, hc.1.2, hc.2⟩
    · cases h
  · cases h
theorem pv_ok {i : Nat} {x : Str} {p : Pos} (G : Good Γ Φ N X) (hs : X.env.scope = sc) (h : vOk N sc i x = true) : PE X (.Name x p) (tVar i) := by
  obtain ⟨v1, v2, v3, v4⟩ := vOk_ok h
  exact pe_var (by rw [G.nN]; exact v1) (by rw [hs]; exact v2) v3 v4
theorem pe_app {i : Nat} {x : Str} {p ap cp : Pos} {v : Expr} {te : TE} (G : Good Γ Φ N X) (hs : X.env.scope = sc) (h : vOk N sc i x = true) (hl : (ap.endLine == cp.line) = true) (hh : headOk v = true) (he : PE X v te) : PE X (.Call (.Attribute (.Name x p) "append" ap) [v] [] cp) (tBM X.K "list" rAppend (tVar i) (tCons te tNil)) :=
  pe_bm PySem.F.plainAttrs_list PySem.F.slot_list_append PySem.F.type_list_append mt_append (pv_ok G hs h) (pa_cons he pa_nil (head_star hh [] X.env)) rfl (by rw [head_star hh [] X.env] <;> rfl) hl (head_star hh [] X.env) rfl
theorem pe_popAt {i : Nat} {x : Str} {p ap cp : Pos} {v : Expr} {te : TE} (G : Good Γ Φ N X) (hs : X.env.scope = sc) (h : vOk N sc i x = true) (hl : (ap.endLine == cp.line) = true) (hh : headOk v = true) (he : PE X v te) : PE X (.Call (.Attribute (.Name x p) "pop" ap) [v] [] cp) (tBM X.K "list" rPopAt (tVar i) (tCons te tNil)) :=
  pe_bm PySem.F.plainAttrs_list PySem.F.slot_list_pop PySem.F.type_list_pop mt_popAt (pv_ok G hs h) (pa_cons he pa_nil (head_star hh [] X.env)) rfl (by rw [head_star hh [] X.env] <;> rfl) hl (head_star hh [] X.env) rfl
theorem sub_assign {o r : Expr} {p : Pos} {env : Env} (hh : headOk r = true) : ∀ v, assign (.Subscript o r p) env v = (do
      let ov ← holding [v] (eval o env)
      let iv ← holding [v, ov] (eval r env)
      standAt p
      holding [v, ov, iv] (setItem ov iv v)
      release [v, ov, iv] []) := by
  intro v
  cases r <;> first | rfl | (cases hh)
theorem s_setI (i : Nat) (ix c : CE) : SndS Γ Φ N fu fr (.setI i ix c) := fun X sc st δ δ' lp G hs h => by
  unfold ckS at h
  split at h
  · rename_i x p0 r p1 v pos
    split at h
    · rename_i hc
      cases h
      simp only [Bool.and_eq_true, decide_eq_true_eq] at hc
      obtain ⟨⟨⟨⟨⟨h1, h2⟩, h3⟩, h4⟩, h5⟩, h6⟩ := hc
      have hd : dp δ i = (dp δ i - 1) + 1 := by omega
      have pE := (sE (Γ := Γ) (Φ := Φ) (N := N) (δ := δ) c).pem (m := dp δ i - 1) G.toGood hs h1 (by omega)
      have pI := (sE (Γ := Γ) (Φ := Φ) (N := N) (δ := δ) ix).pe G.toGood hs h2
      have hu1 : X.A.units + 1 < cLine := by have := G.hu; omega
      refine PS_weak (ps_asg pE (pg_sub (pv_ok G.toGood hs h3) pI (PSet_or set_list (set_dict hu1)) (sub_assign (ck_head h2))) (by cases v <;> rfl) rfl rfl) fun D σ H q => ?_
      obtain ⟨H0, F0, Fb, F, env, As, S, P⟩ := q
      unfold evS at P
      obtain ⟨v, e1, P⟩ := P.st_ok
      obtain ⟨px, e2, P⟩ := P.st_ok
      obtain ⟨pk, e3, P⟩ := P.st_ok
      obtain ⟨y, e4, P⟩ := P.st_ok
      refine ⟨F, env, As, S.sit, v, e1, fun z H1 F1 A g1 o1 => ?_⟩
      have S1 := S.grow g1
      obtain ⟨w, ew, _⟩ := S1.sit.at' i px (getS_ok e2)
      refine ⟨w, ew, F1, env, As, S1.sit, pk, e3, fun kx H2 F2 A2 g2 o2 => ?_⟩
      have S2 := S1.grow g2
      have oz := o1.1.mono (H' := H2) g2.fg fun a ha o e => g2.keep a o (o1.2.2 a ha).2 e
      have nfA : ∀ a ∈ A, F2 a = none := fun a ha => g2.fnone (o1.2.2 a ha).2 (o1.1.thereO a ha)
      obtain ⟨p, o, A', s1, s2, s3, s4, s5⟩ := set_core S2.sit h6 hd e2 o2.rep oz o1.2.1 nfA (fun j a ha hb => (S.sit.fr j a hb).2.ne (o1.2.2 a ha).1) e4
      rw [ew] at s1
      cases s1
      refine s2 (fun H3 => D.nx σ H3) (P _ rfl _ _ F2 _ (S2.wrote s4 s3 fun a ha => (s5 a ha).imp id fun z => S.none0 (o1.2.2 a z).1))
    · cases h
  · cases h
theorem s_app (i : Nat) (c : CE) : SndS Γ Φ N fu fr (.app i c) := fun X sc st δ δ' lp G hs h => by
  unfold ckS at h
  split at h
  · rename_i ce pos
    split at h
    · rename_i v hm
      obtain ⟨x, p0, m', ap, cp, rfl, rfl, h3, hl⟩ := methOk_ok hm
      split at h
      · rename_i hc
        cases h
        simp only [Bool.and_eq_true, decide_eq_true_eq] at hc
        obtain ⟨⟨⟨h1, h4⟩, h5⟩, h6⟩ := hc
        have hd : dp δ i = (dp δ i - 1) + 1 := by omega
        have pE := (sE (Γ := Γ) (Φ := Φ) (N := N) (δ := δ) c).pem (m := dp δ i - 1) G.toGood hs h1 (by omega)
        refine PS_weak (ps_expr (pe_app G.toGood hs h3 hl (ck_head h1) pE) rfl) fun D σ H q => ?_
        obtain ⟨H0, F0, Fb, F, env, As, S, P⟩ := q
        unfold evS at P
        obtain ⟨px, e2, P⟩ := P.st_ok
        obtain ⟨v, e1, P⟩ := P.st_ok
        obtain ⟨y, e4, P⟩ := P.st_ok
        obtain ⟨w, ew, ow⟩ := S.sit.at' i px (getS_ok e2)
        have ty : tyV X.K "list" w H := by
          rw [hd] at ow
          obtain ⟨p, B, rfl, eA, q⟩ := ow
          rcases q with ⟨xs, vs, rfl, eH, l, os⟩ | ⟨kvs, vs, rfl, eH, l, os⟩
          · exact .inl ⟨rfl, xs, SqL.of eH⟩
          · cases e4
        refine ⟨w, ew, ty, F, env, As, S.sit, v, e1, fun z H1 F1 A g1 o1 => ?_⟩
        have S1 := S.grow g1
        obtain ⟨p, o, A', s1, s2, s3, s4, s5⟩ := app_core S1.sit h6 hd e2 o1.1 o1.2.1 (fun a ha => (o1.2.2 a ha).2) (fun j a ha hb => (S.sit.fr j a hb).2.ne (o1.2.2 a ha).1) e4
        rw [ew] at s1
        cases s1
        exact s2 (fun _ H3 => D.nx σ H3) (P _ rfl _ _ F1 _ (S1.wrote s4 s3 fun a ha => (s5 a ha).imp id fun z => S.none0 (o1.2.2 a z).1))
      · cases h
    · cases h
  · cases h
theorem popP_lst {px pk : PV} {r : PV × PV} (h : popP px pk = .ok r) : ∃ xs, px = .lst xs := by
  cases px <;> first | exact ⟨_, rfl⟩ | (cases h)
theorem own_ty {H F : Hp} {d : Nat} {x : V} {xs : List PV} {A : List Addr} (h : OwnV K H F (d + 1) x (.lst xs) A) : tyV K "list" x H := by
  obtain ⟨p, B, rfl, eA, q⟩ := h
  rcases q with ⟨xs, vs, ev, eH, l, os⟩ | ⟨kvs, vs, ev, eH, l, os⟩
  · exact .inl ⟨rfl, xs, SqL.of eH⟩
  · cases ev
theorem s_appPop (i j : Nat) (ix : CE) : SndS Γ Φ N fu fr (.appPop i j ix) := fun X sc st δ δ' lp G hs h => by
  unfold ckS at h
  split at h
  · rename_i ce pos
    split at h
    · rename_i v hm
      obtain ⟨x, p0, m', ap, cp, rfl, rfl, h3, hl⟩ := methOk_ok hm
      split at h
      · rename_i r hm2
        obtain ⟨x2, p2, m2, ap2, cp2, rfl, rfl, h32, hl2⟩ := methOk_ok hm2
        split at h
        · rename_i hc
          cases h
          simp only [Bool.and_eq_true, decide_eq_true_eq] at hc
          obtain ⟨⟨⟨⟨⟨h1, h4⟩, h5⟩, hij⟩, h6⟩, h7⟩ := hc
          have hd : dp δ i = (dp δ i - 1) + 1 := by omega
          have hdj : dp δ j = (dp δ i - 1) + 1 := by omega
          have pE := (sE (Γ := Γ) (Φ := Φ) (N := N) (δ := δ) ix).pe G.toGood hs h1
          refine PS_weak (ps_expr (pe_app G.toGood hs h3 hl rfl (pe_popAt G.toGood hs h32 hl2 (ck_head h1) pE)) rfl) fun D σ H q => ?_
          obtain ⟨H0, F0, Fb, F, env, As, S, P⟩ := q
          unfold evS at P
          obtain ⟨px, e2, P⟩ := P.st_ok
          obtain ⟨py, e3, P⟩ := P.st_ok
          obtain ⟨pk, e1, P⟩ := P.st_ok
          obtain ⟨r, e4, P⟩ := P.st_ok
          obtain ⟨y, e5, PP⟩ := P.st_ok
          obtain ⟨w, ew, ow⟩ := S.sit.at' i px (getS_ok e2)
          obtain ⟨w2, ew2, ow2⟩ := S.sit.at' j py (getS_ok e3)
          obtain ⟨vs, rfl⟩ := popP_lst e4
          have hpx : ∃ us, px = .lst us := by
            cases px <;> first | exact ⟨_, rfl⟩ | (cases e5)
          obtain ⟨us, rfl⟩ := hpx
          refine ⟨w, ew, own_ty (by rw [← hd]; exact ow), w2, ew2, own_ty (by rw [← hdj]; exact ow2), F, env, As, S.sit, pk, e1, fun kx H1 F1 A1 g1 o1 => ?_⟩
          have S1 := S.grow g1
          obtain ⟨p, o, z, A, A', s1, s2, _, s3, s4, s5, s6, s7, s8⟩ := pop_core S1.sit h7 hdj e3 o1.rep e4
          rw [ew2] at s1
          cases s1
          refine s2 (fun z' H3 => rAppend w [z'] H3 fun _ H4 => D.nx σ H4) ?_
          have S2 : StSit X.K H0 F0 Fb (upd H1 p o) F1 σ _ δ (putA As j A') := S1.wrote s4 s3 fun a ha => .inl (s8 a ha)
          have e2' : getS (env.set j (some r.2)) i = .ok (.lst us) := by
            have := getS_ok e2
            unfold getS
            rw [List.getElem?_set_ne (Ne.symm hij), this]
          obtain ⟨p', o', A'', t1, t2, t3, t4, t5⟩ := app_core S2.sit h6 hd e2' s5 s6 (fun a ha => (S1.sit.fr j a (s7 a ha).1).1) (fun k a ha hb => by
            by_cases hk : k = j
            · subst hk; rw [putA_same] at hb; exact (s7 a ha).2 hb
            · rw [putA_ne hk] at hb; exact S1.sit.dj j k (Ne.symm hk) a (s7 a ha).1 hb) e5
          rw [ew] at t1
          cases t1
          exact t2 (fun _ H4 => D.nx σ H4) (PP _ rfl _ _ F1 _ (S2.wrote t4 t3 fun a ha => (t5 a ha).imp id fun z => S.nw j a (s7 a z).1))
        · cases h
      · cases h
    · cases h
  · cases h
theorem s_asgPop (tg : Tg) (j : Nat) (ix : CE) : SndS Γ Φ N fu fr (.asgPop tg j ix) := fun X sc st δ δ' lp G hs h => by
  unfold ckS at h
  split at h
  · rename_i t v pos
    split at h
    · rename_i r hm
      obtain ⟨x, p0, m', ap, cp, rfl, rfl, h3, hl⟩ := methOk_ok hm
      split at h
      · rename_i hc
        cases h
        simp only [Bool.and_eq_true, decide_eq_true_eq] at hc
        obtain ⟨⟨⟨h1, h2⟩, h4⟩, h6⟩ := hc
        have hd : dp δ j = (dp δ j - 1) + 1 := by omega
        have pE := (sE (Γ := Γ) (Φ := Φ) (N := N) (δ := δ) ix).pe G.toGood hs h1
        have pT := pg_T (k := dp δ j - 1) G.calm G.nN G.nd hs G.fnI h2
        have hsw : swapsWithSole [t] (.Call (.Attribute (.Name x p0) "pop" ap) [r] [] cp) pos.line X.env = pure false := by cases t <;> rfl
        have hss : swappedStores [t] (.Call (.Attribute (.Name x p0) "pop" ap) [r] [] cp) X.env = pure none := by cases t <;> rfl
        have hae : (assignEach [t] X.env).map (·.2) = [assign t X.env] := by
          cases tg with
          | var i => cases t <;> first | rfl | (cases h2)
          | tup is => cases t <;> first | rfl | (cases h2)
        refine PS_weak (ps_asg (pe_popAt G.toGood hs h3 hl (ck_head h1) pE) pT hsw hss hae) fun D σ H q => ?_
        obtain ⟨H0, F0, Fb, F, env, As, S, P⟩ := q
        unfold evS at P
        obtain ⟨py, e3, P⟩ := P.st_ok
        obtain ⟨pk, e1, P⟩ := P.st_ok
        obtain ⟨r, e4, P⟩ := P.st_ok
        obtain ⟨env', e5, PP⟩ := P.st_ok
        obtain ⟨w, ew, ow⟩ := S.sit.at' j py (getS_ok e3)
        obtain ⟨vs, rfl⟩ := popP_lst e4
        refine ⟨w, ew, own_ty (by rw [← hd]; exact ow), F, env, As, S.sit, pk, e1, fun kx H1 F1 A1 g1 o1 => ?_⟩
        have S1 := S.grow g1
        obtain ⟨p, o, z, A, A', s1, s2, _, s3, s4, s5, s6, s7, s8⟩ := pop_core S1.sit h6 hd e3 o1.rep e4
        rw [ew] at s1
        cases s1
        refine s2 (fun z' H3 => gT X.K δ (dp δ j - 1) tg z' σ H3 D.nx) ?_
        have S2 : StSit X.K H0 F0 Fb (upd H1 p o) F1 σ _ δ (putA As j A') := S1.wrote s4 s3 fun a ha => .inl (s8 a ha)
        refine ⟨F1, _, _, r.1, A, env', S2.sit, s5, s6, fun a ha => (S1.sit.fr j a (s7 a ha).1).1, fun k a ha hb => ?_, e5, fun xs As' S' hsub => PP _ rfl _ _ F1 As' ⟨S', S2.gr, S2.le0, fun k a ha => ?_, S2.fb⟩⟩
        · by_cases hk : k = j
          · subst hk; rw [putA_same] at hb; exact (s7 a ha).2 hb
          · rw [putA_ne hk] at hb; exact S1.sit.dj j k (Ne.symm hk) a (s7 a ha).1 hb
        · rcases hsub k a ha with z | z
          · exact S2.nw k a z
          · exact S.nw j a (s7 a z).1
      · cases h
    · cases h
  · cases h
end PY

/-! PyD6: the flow; all statements. -/
namespace PY
open PySem L2
open PySem.Spec PyProof.Rows
variable {K : Frag} {Γ : List FnD} {Φ : Fns} {N : List Str} {fu fr : Nat} {δ : Dps} {δ' lp : DR} {X : Cx} {sc : Scope} {e : Expr}

theorem s_if {c : CE} {a b : List CS} (ha : SndSs Γ Φ N fu fr a) (hb : SndSs Γ Φ N fu fr b) : SndS Γ Φ N fu fr (.ite c a b) := fun X sc st δ δ' lp G hs h => by
  unfold ckS at h
  split at h
  · rename_i t p q pos
    split at h
    · rename_i hc
      rw [Bool.and_eq_true] at hc
      obtain ⟨⟨da, eda⟩, db, edb⟩ := joinD_some h
      have pc := ((sE (Γ := Γ) (Φ := Φ) (N := N) (δ := δ) c) X sc t G.toGood hs hc.2).2 hc.1
      refine PS_weak (ps_if pc (ha X sc p δ da lp G hs eda) (hb X sc q δ db lp G hs edb)) fun D σ H q => ?_
      obtain ⟨H0, F0, Fb, F, env, As, S, P⟩ := q
      unfold evS at P
      obtain ⟨x, e1, P⟩ := P.st_ok
      cases x <;> first | (exact P.elim) | skip
      rename_i k
      refine ⟨F, env, As, S.sit, k, e1, fun H' F' g => ?_⟩
      simp only at P
      have S' := S.grow g
      cases k with
      | true =>
        rw [if_pos rfl] at P
        show if true = true then _ else _
        rw [if_pos rfl]
        obtain ⟨da', e', P'⟩ := P.joinL h
        rw [eda] at e'; cases e'
        exact ⟨H0, F0, Fb, F', env, As, S', P'⟩
      | false =>
        rw [if_neg (by simp)] at P
        show if false = true then _ else _
        rw [if_neg (by simp)]
        obtain ⟨db', e', P'⟩ := P.joinR h
        rw [edb] at e'; cases e'
        exact ⟨H0, F0, Fb, F', env, As, S', P'⟩
    · cases h
  · cases h
/-- a turn's ends -/
theorem Post.turn {H0 F0 Fb : Hp} {D : Ends} {d : DR} {Nx : L2.St → Hp → Prop} (hd : d = Option.none ∨ d = some δ) {r : SR} {k : PEnv → SR}
    (P : Post K H0 F0 Fb fr (some δ) lp D (match r with
      | .nx e => k e
      | .ct e => k e
      | .bk e => .nx e
      | r => r))
    (hN : ∀ e, Post K H0 F0 Fb fr (some δ) lp D (k e) → ∀ σ H F As, StSit K H0 F0 Fb H F σ e δ As → Nx σ H) : Post K H0 F0 Fb fr d (some δ) { D with nx := Nx, ct := Nx, bk := D.nx } r := by
  cases r with
  | nx e =>
    intro d' ed σ H F As S
    have : d' = δ := by
      rcases hd with z | z
      · rw [z] at ed; cases ed
      · rw [z] at ed; cases ed; rfl
    subst this
    exact hN e P σ H F As S
  | ct e => exact ⟨δ, rfl, fun σ H F As S => hN e P σ H F As S⟩
  | bk e => exact ⟨δ, rfl, fun σ H F As S => P δ rfl σ H F As S⟩
  | rt v => exact P
  | ex e => exact P
  | bad => exact P
theorem loopOk_ok {o : Option DR} (h : loopOk δ o = true) : ∃ d, o = some d ∧ (d = none ∨ d = some δ) := by
  unfold loopOk at h
  split at h
  · exact ⟨_, rfl, .inl rfl⟩
  · rename_i d
    have : d = δ := of_decide_eq_true h
    exact ⟨_, rfl, .inr (by rw [this])⟩
  · cases h
theorem s_for {tg : Tg} {it : CI} {body : List CS} (hb : SndSs Γ Φ N fu fr body) : SndS Γ Φ N fu fr (.for tg it body) := fun X sc st δ δ' lp G hs h => by
  unfold ckS at h
  split at h
  · rename_i t e p pos
    split at h
    · rename_i hc
      cases h
      simp only [Bool.and_eq_true] at hc
      obtain ⟨⟨⟨h1, h2⟩, h3⟩, h4⟩ := hc
      have h3' : ∀ i ∈ tgL tg, dp δ i = 0 ∧ i < δ.length := fun i hi => ⟨of_decide_eq_true (List.all_eq_true.mp h3 i hi), ckT_lt h2 i hi⟩
      obtain ⟨d, ed, hd⟩ := loopOk_ok h4
      obtain ⟨pI, hh⟩ := sI (Γ := Γ) (Φ := Φ) (N := N) (δ := δ) it X sc t e G.toGood hs h1
      have pT := pg_T (k := 0) G.calm G.nN G.nd hs G.fnI h2
      refine PS_weak (ps_for G.hp G.calm pI pT (hb X sc p δ d (some δ) G hs ed) (head_set hh X.env)) fun D σ H q => ?_
      obtain ⟨H0, F0, Fb, F, env, As, S, P⟩ := q
      unfold evS at P
      obtain ⟨vs, e1, P⟩ := P.st_ok
      refine ⟨F, env, As, S.sit, vs, e1, fun J H1 F1 g1 it1 => ?_⟩
      have S1 := (S.grow g1).base (.refl F1)
      have P1 := P.base (S.fb.trans g1.fg)
      generalize hf : (fun v e => (bindT tg v e).st (evSs Φ fu body)) = f at P1
      refine ⟨fun i m σ H => i + m = vs.length ∧ ∃ F' env' As', StSit X.K H0 F0 F1 H F' σ env' δ As' ∧ Post X.K H0 F0 F1 fr (some δ) lp D (forL f (vs.drop i) env'), ⟨vs.length, by omega, F1, env, As, S1, P1⟩, fun i m σ2 H2 hW => ?_⟩
      obtain ⟨him, F', env', As', S2, P2⟩ := hW
      have iv := it1.2 F' H2 S2.fb S2.sit.le i
      by_cases hi : i < vs.length
      · have ei : vs[i]? = some vs[i] := List.getElem?_eq_getElem hi
        obtain ⟨go, yl⟩ := iv.1 _ ei
        rw [List.drop_eq_getElem_cons hi] at P2
        unfold forL at P2
        refine .inr ⟨go, _, fun σ' H' n => n, fun x H3 hy => ?_⟩
        obtain ⟨F3, g3, r3⟩ := yl x H3 hy
        have S3 := S2.grow g3
        rw [← hf] at P2
        simp only at P2
        have hbt : ∃ env1, bindT tg vs[i] env' = .ok env1 := by
          cases hb1 : bindT tg vs[i] env' with
          | ok a => exact ⟨a, rfl⟩
          | ex e => rw [hb1] at P2; exact P2.elim
          | bad => rw [hb1] at P2; exact P2.elim
        obtain ⟨env1, hb1⟩ := hbt
        rw [hb1] at P2
        simp only [R.st_ok] at P2
        rw [hf] at P2
        refine ⟨F3, env', As', vs[i], [], env1, S3.sit, ⟨r3, rfl⟩, List.nodup_nil, (fun a ha => by cases ha), (fun j a ha => by cases ha), hb1, fun xs As'' S4 hsub => ?_⟩
        have e0 : tgK 0 tg = 0 := by cases tg <;> rfl
        rw [e0] at S4
        refine ⟨H0, F0, F1, F3, env1, As'', ⟨S4.congr (dp_setD0 h3'), S3.gr, S3.le0, fun j a ha => ?_, S3.fb⟩, ?_⟩
        · rcases hsub j a ha with z | z
          · exact S3.nw j a z
          · cases z
        · refine Post.turn (k := forL f (vs.drop (i + 1))) hd ?_ (fun e Pe σ' H' F'' As3 S5 => ⟨m - 1, by omega, by omega, F'', e, As3, S5, Pe⟩)
          exact P2
      · refine .inl ⟨iv.2 (by omega), ?_⟩
        rw [List.drop_eq_nil_of_le (by omega)] at P2
        exact P2 δ rfl σ2 H2 F' As' S2
    · cases h
  · cases h
theorem s_while {c : CE} {body : List CS} (hb : SndSs Γ Φ N fu fr body) : SndS Γ Φ N fu fr (.while c body) := fun X sc st δ δ' lp G hs h => by
  unfold ckS at h
  split at h
  · rename_i t p pos
    split at h
    · rename_i hc
      cases h
      simp only [Bool.and_eq_true] at hc
      obtain ⟨⟨h1, h2⟩, h4⟩ := hc
      obtain ⟨d, ed, hd⟩ := loopOk_ok h4
      have pc := ((sE (Γ := Γ) (Φ := Φ) (N := N) (δ := δ) c) X sc t G.toGood hs h2).2 h1
      refine PS_weak (ps_while G.hp pc (hb X sc p δ d (some δ) G hs ed)) fun D σ H q => ?_
      obtain ⟨H0, F0, Fb, F, env, As, S, P⟩ := q
      unfold evS at P
      refine ⟨fun m σ H => ∃ F' env' As', StSit X.K H0 F0 Fb H F' σ env' δ As' ∧ Post X.K H0 F0 Fb fr (some δ) lp D (whileL (evE Φ c) (evSs Φ fu body) m env'), ⟨fu, F, env, As, S, P⟩, fun m σ2 H2 hW => ?_⟩
      obtain ⟨F', env', As', S2, P2⟩ := hW
      cases m with
      | zero => exact P2.elim
      | succ m =>
        unfold whileL at P2
        obtain ⟨x, e1, P2⟩ := P2.st_ok
        cases x <;> first | (exact P2.elim) | skip
        rename_i b
        refine ⟨F', env', As', S2.sit, b, e1, fun H3 F3 g3 => ?_⟩
        have S3 := S2.grow g3
        cases b with
        | true =>
          show if true = true then _ else _
          rw [if_pos rfl]
          refine ⟨_, fun σ' H' n => n, H0, F0, Fb, F3, env', As', S3, ?_⟩
          refine Post.turn (k := whileL (evE Φ c) (evSs Φ fu body) m) hd ?_ (fun e Pe σ' H' F'' As3 S5 => ⟨m, by omega, F'', e, As3, S5, Pe⟩)
          exact P2
        | false =>
          show if false = true then _ else _
          rw [if_neg (by simp)]
          exact P2 δ rfl σ2 H3 F3 As' S3
    · cases h
  · cases h
theorem s_ret (c : CE) : SndS Γ Φ N fu fr (.ret c) := fun X sc st δ δ' lp G hs h => by
  unfold ckS at h
  split at h
  · rename_i v pos
    split at h
    · rename_i hc
      cases h
      unfold ckRet at hc
      rw [Bool.or_eq_true] at hc
      rcases hc with hc | hc
      · rw [Bool.and_eq_true, decide_eq_true_eq] at hc
        refine PS_weak (ps_ret ((sE (Γ := Γ) (Φ := Φ) (N := N) (δ := δ) c).pem (m := fr) G.toGood hs hc.1 hc.2)) fun D σ H q => ?_
        obtain ⟨H0, F0, Fb, F, env, As, S, P⟩ := q
        unfold evS at P
        obtain ⟨v, e1, P⟩ := P.st_ok
        exact ⟨F, env, As, S.sit, v, e1, fun x H' F' A g o => P x H' F' A (S.gr.trans g) ⟨o.1, o.2.1, fun a ha => ⟨S.none0 (o.2.2 a ha).1, (o.2.2 a ha).2⟩⟩⟩
      · split at hc
        · rename_i i
          rw [Bool.and_eq_true, decide_eq_true_eq] at hc
          obtain ⟨hb, hf⟩ := hc
          simp only [ckB] at hb
          split at hb
          · rename_i x p
            refine PS_weak (ps_ret (pv_ok (i := i) G.toGood hs hb)) fun D σ H q => ?_
            obtain ⟨H0, F0, Fb, F, env, As, S, P⟩ := q
            unfold evS evE at P
            obtain ⟨v, e1, P⟩ := P.st_ok
            obtain ⟨w, ew, ow⟩ := S.sit.at' i v (getS_ok e1)
            refine ⟨w, ew, ?_⟩
            have o : OwnF X.K H0 H F (dp δ i) w v (As i) := ⟨ow, S.sit.nd i, fun a ha => ⟨S.nw i a ha, (S.sit.fr i a ha).1⟩⟩
            obtain ⟨F'', A', g', o'⟩ := o.lower S.gr hf
            exact P w H F'' A' g' o'
          · cases hb
        · cases hc
    · cases h
  · cases h
theorem s_retN : SndS Γ Φ N fu fr .retN := fun X sc st δ δ' lp G hs h => by
  unfold ckS at h
  split at h
  · split at h
    · rename_i hf
      cases h
      subst hf
      refine PS_weak ps_retN fun D σ H q => ?_
      obtain ⟨H0, F0, Fb, F, env, As, S, P⟩ := q
      exact P .non H F [] S.gr (OwnF.of .non)
    · cases h
  · cases h
theorem s_raise (cls : Nat) (es : List CE) : SndS Γ Φ N fu fr (.raise cls es) := fun X sc st δ δ' lp G hs h => by
  refine PS_weak ps_never fun D σ H q => ?_
  obtain ⟨H0, F0, Fb, F, env, As, S, P⟩ := q
  unfold evS at P
  obtain ⟨xs, e1, P⟩ := P.st_ok
  exact P
theorem s_pass : SndS Γ Φ N fu fr .pass := fun X sc st δ δ' lp G hs h => by
  unfold ckS at h
  split at h
  · cases h
    refine PS_weak ps_pass fun D σ H q => ?_
    obtain ⟨H0, F0, Fb, F, env, As, S, P⟩ := q
    exact P _ rfl σ H F As S
  · cases h
theorem s_brk : SndS Γ Φ N fu fr .brk := fun X sc st δ δ' lp G hs h => by
  unfold ckS at h
  split at h
  · split at h
    · rename_i hl
      cases h
      refine PS_weak ps_break fun D σ H q => ?_
      obtain ⟨H0, F0, Fb, F, env, As, S, P⟩ := q
      obtain ⟨d, e, P⟩ := P
      rw [hl] at e; cases e
      exact P σ H F As S
    · cases h
  · cases h
theorem s_cont : SndS Γ Φ N fu fr .cont := fun X sc st δ δ' lp G hs h => by
  unfold ckS at h
  split at h
  · split at h
    · rename_i hl
      cases h
      refine PS_weak ps_continue fun D σ H q => ?_
      obtain ⟨H0, F0, Fb, F, env, As, S, P⟩ := q
      obtain ⟨d, e, P⟩ := P
      rw [hl] at e; cases e
      exact P σ H F As S
    · cases h
  · cases h
theorem s_exp (c : CE) : SndS Γ Φ N fu fr (.exp c) := fun X sc st δ δ' lp G hs h => by
  unfold ckS at h
  split at h
  · rename_i v pos
    split at h
    · rename_i hc
      cases h
      rw [Bool.and_eq_true] at hc
      refine PS_weak (ps_expr ((sE (Γ := Γ) (Φ := Φ) (N := N) (δ := δ) c).pe G.toGood hs hc.1) (sw_not hc.2)) fun D σ H q => ?_
      obtain ⟨H0, F0, Fb, F, env, As, S, P⟩ := q
      unfold evS at P
      obtain ⟨v, e1, P⟩ := P.st_ok
      exact ⟨F, env, As, S.sit, v, e1, fun x H' F' A g o => P _ rfl σ H' F' As (S.grow g)⟩
    · cases h
  · cases h
theorem frzOf_some {c : CS} {i : Nat} (h : frzOf c = some i) : c = .frz i := by
  cases c <;> first | (cases h; done) | (cases h; rfl)
theorem ss_nil : SndSs Γ Φ N fu fr [] := fun X sc sts δ δ' lp G hs h => by
  unfold ckSs at h
  split at h
  · rename_i he
    cases h
    cases sts with
    | nil =>
      refine PSs_weak pss_nil fun D σ H q => ?_
      obtain ⟨H0, F0, Fb, F, env, As, S, P⟩ := q
      unfold evSs at P
      exact P _ rfl σ H F As S
    | cons _ _ => cases he
  · cases h
theorem ss_cons {c : CS} {cs : List CS} (h1 : SndS Γ Φ N fu fr c) (h2 : SndSs Γ Φ N fu fr cs) : SndSs Γ Φ N fu fr (c :: cs) := fun X sc sts δ δ' lp G hs h => by
  unfold ckSs at h
  split at h
  · rename_i i hf
    have := frzOf_some hf
    subst this
    split at h
    · rename_i hi
      refine PSs_weak (h2 X sc sts _ δ' lp G hs h) fun D σ H q => ?_
      obtain ⟨H0, F0, Fb, F, env, As, S, P⟩ := q
      exact ⟨H0, F0, Fb, _, env, _, S.freeze hi, P⟩
    · cases h
  · split at h
    · cases h
    · rename_i st rest
      split at h
      · cases h
      · rename_i hc
        split at h
        · rename_i he
          cases h
          rw [Bool.and_eq_true] at he
          have e1 : rest = [] := by simpa using he.1
          have e2 : cs = [] := by simpa using he.2
          subst e1 e2
          refine PSs_weak (pss_one (h1 X sc st δ none lp G hs hc)) fun D σ H q => ?_
          obtain ⟨H0, F0, Fb, F, env, As, S, P⟩ := q
          refine ⟨H0, F0, Fb, F, env, As, S, ?_⟩
          unfold evSs at P
          cases hr : evS Φ fu c env with
          | nx e => intro d e; cases e
          | rt v => rw [hr] at P; exact P
          | bk e => rw [hr] at P; exact P
          | ct e => rw [hr] at P; exact P
          | ex e => rw [hr] at P; exact P
          | bad => rw [hr] at P; exact P
        · cases h
      · rename_i d hc
        refine PSs_weak (pss_cons (h1 X sc st δ (some d) lp G hs hc) (h2 X sc rest d δ' lp G hs h)) fun D σ H q => ?_
        obtain ⟨H0, F0, Fb, F, env, As, S, P⟩ := q
        refine ⟨H0, F0, Fb, F, env, As, S, ?_⟩
        unfold evSs at P
        cases hr : evS Φ fu c env with
        | nx e =>
          rw [hr] at P
          intro d' ed σ' H' F' As' S'
          cases ed
          exact ⟨H0, F0, Fb, F', e, As', S', P⟩
        | rt v => rw [hr] at P; exact P
        | bk e => rw [hr] at P; exact P
        | ct e => rw [hr] at P; exact P
        | ex e => rw [hr] at P; exact P
        | bad => rw [hr] at P; exact P
mutual
theorem sS : ∀ c : CS, SndS Γ Φ N fu fr c
  | .asg k tg e => s_asg k tg e
  | .setI i ix e => s_setI i ix e
  | .app i e => s_app i e
  | .app1 i ix e => fun X sc st δ δ' lp G hs h => by unfold ckS at h; cases h
  | .appPop i j ix => s_appPop i j ix
  | .asgPop tg j ix => s_asgPop tg j ix
  | .ite c a b => s_if (sSs a) (sSs b)
  | .for tg it body => s_for (sSs body)
  | .while c body => s_while (sSs body)
  | .ret e => s_ret e
  | .retN => s_retN
  | .raise c es => s_raise c es
  | .pass => s_pass
  | .brk => s_brk
  | .cont => s_cont
  | .exp e => s_exp e
  | .frz i => fun X sc st δ δ' lp G hs h => by unfold ckS at h; cases h
theorem sSs : ∀ cs : List CS, SndSs Γ Φ N fu fr cs
  | [] => ss_nil
  | c :: cs => ss_cons (sS c) (sSs cs)
end
end PY

/-! PyE1: defs: from the checks to what a call does. -/
namespace PY
open PySem L2
open PySem.Spec PyProof.Rows
variable {K : Frag} {Γ : List FnD} {Φ : Fns} {N : List Str} {fu fr : Nat} {X : Cx}

/-- the scope of a def -/
def scOk (N ps : List Str) (sc : Scope) : Bool :=
  decide (sc.kind = .function) && !sc.isCoroutine && !sc.isGenerator && decide N.Nodup && decide (N.take ps.length = ps) && ps.all (fun x => match sc.names.lookup x with
    | some .local => true
    | some .cell => true
    | _ => false) && sc.names.all fun y => match y.2 with
    | .free => false
    | _ => true
theorem scOk_ok {N ps : List Str} {sc : Scope} (h : scOk N ps sc = true) : FnScope N ps sc := by
  unfold scOk at h
  simp only [Bool.and_eq_true, decide_eq_true_eq, Bool.not_eq_true'] at h
  obtain ⟨⟨⟨⟨⟨⟨h1, h2⟩, h3⟩, h4⟩, h5⟩, h6⟩, h7⟩ := h
  refine ⟨h1, h2, h3, h4, h5, fun x hx => ?_, fun y hy e => ?_⟩
  · have := List.all_eq_true.mp h6 x hx
    split at this
    · exact .inl (by assumption)
    · exact .inr (by assumption)
    · cases this
  · have := List.all_eq_true.mp h7 y hy
    rw [e] at this
    cases this
/-- a def's table row against its text -/
def ckF (Γ : List FnD) (d : FnD) (st : Stmt) : Bool :=
  scOk d.N (d.N.take d.ar) (defScope st) && decide (d.ar ≤ d.N.length) && match ckSs Γ d.N d.fr d.body (defScope st) (defBody st) (List.replicate d.N.length 0) none with
    | some none => true
    | some (some _) => decide (d.fr = 0)
    | none => false
/-- a def as it stands in the module -/
def FunAt (K : Frag) (mg : Str → Option Value) (d : FnD) (st : Stmt) : Prop := ∃ a fd, Fun K d.name d.name st a fd ∧ Binds K fd (d.N.take d.ar) [] ∧ mg d.name = some (.ref a)
theorem dp_zero (n i : Nat) : dp (List.replicate n 0) i = 0 := by
  unfold dp
  rw [List.getD_eq_getElem?_getD, List.getElem?_replicate]
  split <;> rfl
theorem start_sit {H F : Hp} {vs : List V} {ps : List PV} {n : Nat} (le : FLe F H) (r : Reps K F vs ps) (N : List Str) (hn : ps.length ≤ N.length) : Sit K H F (L2.start N vs) (ps.map some ++ List.replicate (N.length - ps.length) none) (List.replicate N.length 0) fun _ => [] where
  le := le
  len := by
    unfold L2.start
    rw [List.length_append, List.length_append, List.length_map, List.length_map, r.length]
    simp
  at' := fun i v e => by
    rw [dp_zero]
    by_cases hi : i < ps.length
    · rw [List.getElem?_append_left (by simpa using hi), List.getElem?_map] at e
      have e' : ps[i]? = some v := by
        cases h : ps[i]? with
        | none => rw [h] at e; cases e
        | some w => rw [h] at e; cases e; rfl
      obtain ⟨x, hx, rx⟩ := r.get e'
      refine ⟨x, ?_, rx, rfl⟩
      unfold L2.start
      rw [List.getElem?_append_left (by rw [List.length_map, r.length]; exact hi), List.getElem?_map, hx]
      rfl
    · rw [List.getElem?_append_right (by simpa using hi), List.getElem?_replicate] at e
      split at e <;> cases e
  nd := fun i => List.nodup_nil
  dj := fun i j _ a ha => by cases ha
  fr := fun i a ha => by cases ha
theorem fnOk_step {P : Program} {w : World} {mg : Str → Option Value} {base : Heap} {n : Nat} {d : FnD} {st : Stmt} {a : Addr} {fd : FuncData} (F : Fun K d.name d.name st a fd) (ck : ckF Γ d st = true) (blt : ∀ x ∈ bltNames, mg x = none)
    (fn : ∀ f e, Γ[f]? = some e → ∃ a fd, FnOk P w K mg base CX0 n a fd (e.N.take e.ar) (spF K (Φ f) e.ar e.fr) ∧ mg e.name = some (.ref a) ∧ PySem.W.keepIn K (.ref a) = true ∧ Binds K fd (e.N.take e.ar) []) :
    FnOk P w K mg base CX0 (n + 1) a fd (d.N.take d.ar) (spF K (runD Φ fu d) d.ar d.fr) := by
  unfold ckF at ck
  rw [Bool.and_eq_true, Bool.and_eq_true, decide_eq_true_eq] at ck
  obtain ⟨⟨h1, h2⟩, h3⟩ := ck
  have SC := scOk_ok h1
  have htake : (d.N.take d.ar).length = d.ar := by rw [List.length_take]; omega
  refine F.ok SC (fun vs H Q E h => ?_) (fun cdv A outer s H vs Q E hr h => ?_)
  · obtain ⟨F, ps, v, _, _, hl, _⟩ := h
    rw [hl, htake]
  · obtain ⟨F, ps, v, le, r, hl, hv, q⟩ := h
    have G : GoodS Γ Φ d.N (cxOf CX0 P w K mg base d.N d.name (defScope st) a cdv A outer s H E).nox := by
      refine ⟨⟨rfl, ?_, rfl, SC.nd, blt, fun f e he => ?_⟩, PassesOwn.never, fun x => rfl⟩
      · have := hr.un
        show (A.deeper _).units + 65 < cLine
        omega
      · obtain ⟨b, fd', h1, h2, h3, h4⟩ := fn f e he
        exact ⟨n, b, fd', h1, hr, h2, h3, h4⟩
    have hps : ps.length = d.ar := by rw [← r.length]; exact hl
    have S : StSit K H F F H F (L2.start d.N vs) (ps.map some ++ List.replicate (d.N.length - ps.length) none) (List.replicate d.N.length 0) fun _ => [] :=
      ⟨start_sit (n := 0) le r d.N (by omega), .refl le, le, (fun i a ha => by cases ha), FG.refl F⟩
    unfold runD at hv
    rw [if_pos hps] at hv
    have go : ∀ {o : DR}, ckSs Γ d.N d.fr d.body (defScope st) (defBody st) (List.replicate d.N.length 0) none = some o → (∀ x, o = some x → d.fr = 0) → ∃ t, PSs (cxOf CX0 P w K mg base d.N d.name (defScope st) a cdv A outer s H E).nox (defBody st) t ∧ t { nx := fun _ H' => Q .non H', rt := Q } (L2.start d.N vs) H := by
      intro o ho hz
      refine ⟨_, sSs (Γ := Γ) (Φ := Φ) (N := d.N) (fu := fu) (fr := d.fr) d.body _ (defScope st) _ _ o none G rfl ho, H, F, F, F, _, _, S, ?_⟩
      cases hev : evSs Φ fu d.body (ps.map some ++ List.replicate (d.N.length - ps.length) none) with
      | nx env =>
        rw [hev] at hv
        cases hv
        intro x ex σ' H' F' As' S'
        refine q .non H' F' [] S'.gr ?_
        rw [hz x ex]
        exact OwnF.of .non
      | rt u =>
        rw [hev] at hv
        cases hv
        exact fun x H' F' A g o => q x H' F' A g o
      | bk env => rw [hev] at hv; cases hv
      | ct env => rw [hev] at hv; cases hv
      | ex e => rw [hev] at hv; cases hv
      | bad => rw [hev] at hv; cases hv
    split at h3
    · rename_i ho
      exact go ho fun x hx => by cases hx
    · rename_i x ho
      exact go ho fun y hy => of_decide_eq_true h3
    · cases h3
theorem fns_ok {P : Program} {w : World} {mg : Str → Option Value} {base : Heap} (stOf : Nat → Stmt) (hck : ∀ f d, Γ[f]? = some d → ckF Γ d (stOf f) = true) (blt : ∀ x ∈ bltNames, mg x = none)
    (hF : ∀ f d, Γ[f]? = some d → FunAt K mg d (stOf f)) : ∀ (n : Nat) (f : Nat) (d : FnD), Γ[f]? = some d → ∃ a fd, Fun K d.name d.name (stOf f) a fd ∧ Binds K fd (d.N.take d.ar) [] ∧ mg d.name = some (.ref a) ∧
      FnOk P w K mg base CX0 n a fd (d.N.take d.ar) (spF K (fnsOf Γ fu n f) d.ar d.fr)
  | 0, f, d, e => by
    obtain ⟨a, fd, F, B, m⟩ := hF f d e
    refine ⟨a, fd, F, B, m, ⟨fun vs H Q E h => ?_, fun A outer s H args us vs Q E _ _ _ _ h => ?_⟩⟩
    · obtain ⟨F, ps, v, _, _, _, hv, _⟩ := h
      cases hv
    · obtain ⟨F, ps, v, _, _, _, hv, _⟩ := h
      cases hv
  | n + 1, f, d, e => by
    obtain ⟨a, fd, F, B, m⟩ := hF f d e
    refine ⟨a, fd, F, B, m, ?_⟩
    have h := fnOk_step (Γ := Γ) (Φ := fnsOf Γ fu n) (fu := fu) (P := P) (w := w) (base := base) (n := n) F (hck f d e) blt fun g d' e' => by
      obtain ⟨a', fd', F', B', m', ok'⟩ := fns_ok stOf hck blt hF n g d' e'
      exact ⟨a', fd', ok', m', F'.kp, B'⟩
    have e1 : fnsOf Γ fu (n + 1) f = runD (fnsOf Γ fu n) fu d := by
      funext vs
      show (match Γ[f]? with
        | some d => runD (fnsOf Γ fu n) fu d vs
        | none => R.bad) = _
      rw [e]
    rw [e1]
    exact h
/-- a law's end: the def «law», the script -/
def spLaw (K : Frag) : Sp := fun vs H Q _ => ∃ (a : Addr) (ns : List Int), vs = [.ref a] ∧ SqL K H a (ns.map V.int) ∧ ns.length ≤ 63 ∧ ∀ H', Q (.bl true) H'
theorem law_ok {P : Program} {w : World} {mg : Str → Option Value} {base : Heap} {n f : Nat} {a : Addr} {fd : FuncData} {ps : List Str} {fr : Nat} (h : FnOk P w K mg base CX0 n a fd ps (spF K (fnsOf Γ fu n f) 1 fr)) (hf : fr = 0)
    (hlaw : ∀ ns : List Int, ns.length ≤ 63 → fnsOf Γ fu n f [.scr ns] = .ok (.bl true)) : FnOk P w K mg base CX0 n a fd ps (spLaw K) := by
  refine h.imp fun vs H Q E q => ?_
  obtain ⟨b, ns, rfl, hS, hl, q⟩ := q
  refine ⟨H, [.scr ns], .bl true, fun _ _ e => e, .cons (.scr hS (by show ns.length ≤ 16777216; omega)) .nil, rfl, hlaw ns hl, fun x H' F' A g o => ?_⟩
  subst hf
  have r := o.rep
  cases r
  exact q H'
end PY

/-! PyE2: a module's defs, all together; a law's end. -/
namespace PY
open PySem L2
open PySem.Spec PyProof.Rows
variable {K : Frag} {Γ : List FnD} {fu : Nat}
/-- a def as the module's top left it -/
def DefAt (K : Frag) (name : Str) (st : Stmt) : Prop := ∃ (f : Addr) (od an : Option Addr) (osl : Array (Option Value)) (oc kV doc pm cdv ct : Value), PySem.W.nsIn K mainGlobals name = some (some (.ref f)) ∧
  K.lookup f = some ⟨oc, od, .func (PySem.W.fnOf name name (defArgs st) (defBody st) (defScope st) .none kV doc pm an cdv ct), osl⟩ ∧ PySem.W.codeIn K cdv name = true ∧ PySem.W.keepIn K (.ref f) = true
theorem defAt_mk {K : Frag} {name : Str} {st : Stmt} {f : Addr} {od an : Option Addr} {osl : Array (Option Value)} {oc kV doc pm cdv ct : Value} (a : PySem.W.nsIn K mainGlobals name = some (some (.ref f)))
    (l : K.lookup f = some ⟨oc, od, .func (PySem.W.fnOf name name (defArgs st) (defBody st) (defScope st) .none kV doc pm an cdv ct), osl⟩) (c : PySem.W.codeIn K cdv name = true) (k : PySem.W.keepIn K (.ref f) = true) : DefAt K name st := ⟨f, od, an, osl, oc, kV, doc, pm, cdv, ct, a, l, c, k⟩
/-- its arguments bind -/
def BindOk (d : FnD) (st : Stmt) : Prop := ∀ (kV doc pm : Value) (an : Option Addr) (cdv ct : Value) (us : List Value), us.length = (d.N.take d.ar).length → bindArgs (PySem.W.fnOf d.name d.name (defArgs st) (defBody st) (defScope st) .none kV doc pm an cdv ct) ⟨us, []⟩ = pure ((d.N.take d.ar).zip us)
def DefsAt (K : Frag) : List FnD → List Stmt → Prop
  | d :: ds, st :: sts => DefAt K d.name st ∧ DefsAt K ds sts
  | [], _ => True
  | _ :: _, [] => False
def BindsOk : List FnD → List Stmt → Prop
  | d :: ds, st :: sts => BindOk d st ∧ BindsOk ds sts
  | [], _ => True
  | _ :: _, [] => False
theorem defAt_get : ∀ {ds : List FnD} {sts : List Stmt}, DefsAt K ds sts → ∀ {f : Nat} {d : FnD}, ds[f]? = some d → DefAt K d.name (sts.getD f (.Pass ⟨0, 0, 0, 0⟩))
  | d :: ds, st :: sts, h, 0, d', e => by
    have : d = d' := by simpa using e
    subst this; exact h.1
  | d :: ds, st :: sts, h, f + 1, d', e => defAt_get (ds := ds) (sts := sts) h.2 (f := f) (by simpa using e)
  | [], _, _, f, d', e => by simp at e
  | _ :: _, [], h, _, _, _ => h.elim
theorem bindOk_get : ∀ {ds : List FnD} {sts : List Stmt}, BindsOk ds sts → ∀ {f : Nat} {d : FnD}, ds[f]? = some d → BindOk d (sts.getD f (.Pass ⟨0, 0, 0, 0⟩))
  | d :: ds, st :: sts, h, 0, d', e => by
    have : d = d' := by simpa using e
    subst this; exact h.1
  | d :: ds, st :: sts, h, f + 1, d', e => bindOk_get (ds := ds) (sts := sts) h.2 (f := f) (by simpa using e)
  | [], _, _, f, d', e => by simp at e
  | _ :: _, [], h, _, _, _ => h.elim
def cksOk (Γ : List FnD) : List FnD → List Stmt → Bool
  | d :: ds, st :: sts => ckF Γ d st && cksOk Γ ds sts
  | [], _ => true
  | _ :: _, [] => false
theorem cks_get : ∀ {ds : List FnD} {sts : List Stmt}, cksOk Γ ds sts = true → ∀ {f : Nat} {d : FnD}, ds[f]? = some d → ckF Γ d (sts.getD f (.Pass ⟨0, 0, 0, 0⟩)) = true
  | d :: ds, st :: sts, h, 0, d', e => by
    have : d = d' := by simpa using e
    subst this
    unfold cksOk at h
    rw [Bool.and_eq_true] at h
    exact h.1
  | d :: ds, st :: sts, h, f + 1, d', e => by
    unfold cksOk at h
    rw [Bool.and_eq_true] at h
    exact cks_get (ds := ds) (sts := sts) h.2 (f := f) (by simpa using e)
  | [], _, _, f, d', e => by simp at e
  | _ :: _, [], h, _, _, _ => by cases h
/-- the law's own def, behind all: its name «law», one parameter «script» -/
theorem law_end {l : PySem.W.OpenLaw} {w : World} {h : Heap} {mg : Str → Option Value} {fa : Addr} (sts : List Stmt) (X : K.In h) (G : h.Ns mainGlobals mg) (hfa : mg "law" = some (.ref fa)) (n f : Nat) (d : FnD) (hd : Γ[f]? = some d) (hn : d.name = "law") (hp : d.N.take d.ar = (["script"] : List Str)) (ha : d.ar = 1) (hfr : d.fr = 0)
    (hck : cksOk Γ Γ sts = true) (hb : BindsOk Γ sts) (hD : DefsAt K Γ sts) (hz : ∀ x ∈ bltNames, PySem.W.nsIn K mainGlobals x = some none)
    (hlaw : ∀ ns : List Int, ns.length ≤ 63 → fnsOf Γ fu n f [.scr ns] = .ok (.bl true)) :
    ∃ fd : FuncData, (∀ (s : Shared) (v : Value), BindsTo s fd ⟨[v], []⟩ [("script", v)]) ∧ ∀ base : Heap, K.In base → base.Ns mainGlobals mg → FnOk l.prog w K mg base CX0 n fa fd ["script"] (spLaw K) := by
  have blt : ∀ x ∈ bltNames, mg x = none := fun x hx => PySem.W.mg_none_of X G (hz x hx)
  have fat : ∀ g e, Γ[g]? = some e → FunAt K mg e (sts.getD g (.Pass ⟨0, 0, 0, 0⟩)) := fun g e he => by
    obtain ⟨f', od, an, osl, oc, kV, doc, pm, cdv, ct, h1, h2, h3, h4⟩ := defAt_get hD he
    have F := fun_mk (st := sts.getD g (.Pass ⟨0, 0, 0, 0⟩)) h2 h3 h4
    exact ⟨f', _, F, F.binds (ps := e.N.take e.ar) fun kV doc pm an cdv ct us hl => bindOk_get hb he kV doc pm an cdv ct us hl, PySem.W.mg_of X G h1⟩
  have main := fun (base : Heap) => fns_ok (P := l.prog) (w := w) (base := base) (fu := fu) (fun g => sts.getD g (.Pass ⟨0, 0, 0, 0⟩)) (fun g e he => cks_get hck he) blt fat n f d hd
  obtain ⟨f', od, an, osl, oc, kV, doc, pm, cdv, ct, h1, h2, h3, h4⟩ := defAt_get hD hd
  have e1 : mg d.name = some (.ref f') := PySem.W.mg_of X G h1
  rw [hn, hfa] at e1
  cases e1
  refine ⟨PySem.W.fnOf d.name d.name (defArgs (sts.getD f (.Pass ⟨0, 0, 0, 0⟩))) (defBody (sts.getD f (.Pass ⟨0, 0, 0, 0⟩))) (defScope (sts.getD f (.Pass ⟨0, 0, 0, 0⟩))) .none kV doc pm an cdv ct, fun s v => ?_, fun base _ _ => ?_⟩
  · have q := bindOk_get hb hd kV doc pm an cdv ct [v] (by rw [hp]; rfl)
    rw [hp] at q
    exact .of_eq q
  · obtain ⟨a, fd, F, B, m, ok⟩ := main base
    rw [hn, hfa] at m
    cases m
    obtain ⟨oc2, od2, kV2, doc2, pm2, an2, cdv2, ct2, osl2, ef, lk, cd⟩ := F.ex
    rw [h2] at lk
    have e2 := Option.some.inj lk
    have e3 : fd = PySem.W.fnOf d.name d.name (defArgs (sts.getD f (.Pass ⟨0, 0, 0, 0⟩))) (defBody (sts.getD f (.Pass ⟨0, 0, 0, 0⟩))) (defScope (sts.getD f (.Pass ⟨0, 0, 0, 0⟩))) .none kV doc pm an cdv ct := by
      injection e2 with _ _ e4 _
      injection e4 with e4
      exact e4.symm
    rw [e3, hp, ha] at ok
    exact law_ok ok hfr hlaw
end PY

/-! PyF0: the evaluator's rows at a written environment. -/
namespace PY
open PySem
section
variable {Φ : Fns} {fu : Nat} {o : Option PV} {l : List (Option PV)}
def compF (Φ : Fns) (elt : CE) (tg : Tg) (conds : List CE) (env : PEnv) (v : PV) : R (Option PV) := (bindT tg v env).bind fun e1 => (evC Φ conds e1).bind fun b => if b then (evE Φ elt e1).bind fun y => .ok (some y) else .ok none
def forF (Φ : Fns) (fu : Nat) (tg : Tg) (body : List CS) (v : PV) (e : PEnv) : SR := (bindT tg v e).st (evSs Φ fu body)
def boolK (k : Bool) (Φ : Fns) (es : List CE) (env : PEnv) (x : PV) : R PV := match es with
  | [] => .ok x
  | _ :: _ => match x with
    | .bl c => if c == k then evB Φ k es env else .ok (.bl c)
    | _ => .bad
def bK (k c : Bool) (r : R PV) : R PV := if c == k then r else .ok (.bl c)
theorem bK_tt (r) : bK true true r = r := rfl
theorem bK_tf (r) : bK true false r = .ok (.bl false) := rfl
theorem bK_ft (r) : bK false true r = .ok (.bl true) := rfl
theorem bK_ff (r) : bK false false r = r := rfl
theorem bK_and (c d) : bK true c (.ok (.bl d)) = .ok (.bl (c && d)) := by cases c <;> rfl
theorem bK_or (c d) : bK false c (.ok (.bl d)) = .ok (.bl (c || d)) := by cases c <;> rfl
def notV : PV → R PV
  | .bl b => .ok (.bl (!b))
  | _ => .bad
def negV : PV → R PV
  | .int i => .ok (.int (-i))
  | _ => .bad
def iteV (a b : R PV) : PV → R PV
  | .bl k => if k then a else b
  | _ => .bad
def dct1V (x y : PV) : R PV := match keyOf x with
  | some q => .ok (.dct [q] [y])
  | none => .bad
def seqV : PV → R (List PV)
  | .lst xs => .ok xs
  | .tup xs => .ok xs
  | .scr ns => .ok (ns.map .int)
  | _ => .bad
def enuV : PV → R (List PV)
  | .lst xs => .ok (enumP 0 xs)
  | .tup xs => .ok (enumP 0 xs)
  | _ => .bad
def keysV : PV → R (List PV)
  | .dct ks _ => .ok (ks.map pvOfKey)
  | _ => .bad
def rng1V : PV → R (List PV)
  | .int n => if rngOk 0 n then .ok (rangeP 0 n) else .bad
  | _ => .bad
def rng2V : PV → PV → R (List PV)
  | .int n, .int m => if rngOk n m then .ok (rangeP n m) else .bad
  | _, _ => .bad
def condV : PV → R Bool
  | .bl b => .ok b
  | _ => .bad
def iteS (a b : SR) : PV → SR
  | .bl k => if k then a else b
  | _ => .bad
def isiV (t : Ty) (x : PV) : R PV := if isiOk x then .ok (.bl (isiP t x)) else .bad
theorem x_cnon : evE Φ .cnon (o :: l) = .ok .non := by unfold evE; rfl
theorem x_cbl (b) : evE Φ (.cbl b) (o :: l) = .ok (.bl b) := by unfold evE; rfl
theorem x_cint (i) : evE Φ (.cint i) (o :: l) = .ok (.int i) := by unfold evE; rfl
theorem x_cstr (x) : evE Φ (.cstr x) (o :: l) = .ok (.str x) := by unfold evE; rfl
theorem x_var (i) : evE Φ (.var i) (o :: l) = getS (o :: l) i := by unfold evE; rfl
theorem x_bor (i) : evE Φ (.bor i) (o :: l) = getS (o :: l) i := by unfold evE; rfl
theorem x_bin (op a b) : evE Φ (.bin op a b) (o :: l) = (evE Φ a (o :: l)).bind fun x => (evE Φ b (o :: l)).bind fun y => binP op x y := by
  first | rfl | (conv => lhs; unfold evE)
theorem x_neg (a) : evE Φ (.neg a) (o :: l) = (evE Φ a (o :: l)).bind negV := by
  conv => lhs; unfold evE
  first | (congr 1; done) | (congr 1; funext x; cases x <;> rfl)
theorem x_cmp (op a b) : evE Φ (.cmp op a b) (o :: l) = (evE Φ a (o :: l)).bind fun x => (evE Φ b (o :: l)).bind fun y => (cmpP op x y).bind fun b => .ok (.bl b) := by
  first | rfl | (conv => lhs; unfold evE)
theorem x_bop (k es) : evE Φ (.bop k es) (o :: l) = evB Φ k es (o :: l) := by
  first | rfl | (conv => lhs; unfold evE)
theorem x_bcons (k e es) : evB Φ k (e :: es) (o :: l) = (evE Φ e (o :: l)).bind (boolK k Φ es (o :: l)) := by
  conv => lhs; unfold evB
  first | (congr 1; done) | (congr 1; funext x; cases es <;> (first | rfl | (cases x <;> rfl)))
theorem x_not (a) : evE Φ (.not a) (o :: l) = (evE Φ a (o :: l)).bind notV := by
  conv => lhs; unfold evE
  first | (congr 1; done) | (congr 1; funext x; cases x <;> rfl)
theorem x_ite (c a b) : evE Φ (.ite c a b) (o :: l) = (evE Φ c (o :: l)).bind (iteV (evE Φ a (o :: l)) (evE Φ b (o :: l))) := by
  conv => lhs; unfold evE
  first | (congr 1; done) | (congr 1; funext x; cases x <;> rfl)
theorem x_tup (es) : evE Φ (.tup es) (o :: l) = (evEs Φ es (o :: l)).bind fun xs => .ok (.tup xs) := by
  first | rfl | (conv => lhs; unfold evE)
theorem x_lst (n es) : evE Φ (.lst n es) (o :: l) = (evEs Φ es (o :: l)).bind fun xs => .ok (.lst xs) := by
  first | rfl | (conv => lhs; unfold evE)
theorem x_dct1 (k v) : evE Φ (.dct1 k v) (o :: l) = (evE Φ k (o :: l)).bind fun x => (evE Φ v (o :: l)).bind (dct1V x) := by
  conv => lhs; unfold evE
  congr 1
theorem x_idx (a i) : evE Φ (.idx a i) (o :: l) = (evE Φ a (o :: l)).bind fun x => (evE Φ i (o :: l)).bind fun y => idxP x y := by
  first | rfl | (conv => lhs; unfold evE)
theorem x_slc (a lo hi) : evE Φ (.slc a lo hi) (o :: l) = (evE Φ a (o :: l)).bind fun x => (evE Φ lo (o :: l)).bind fun p => (evE Φ hi (o :: l)).bind fun h => (partP (isNoE lo) p).bind fun p => (partP (isNoE hi) h).bind fun h => slcP x p h := by
  first | rfl | (conv => lhs; unfold evE)
theorem x_call (f es) : evE Φ (.call f es) (o :: l) = (evEs Φ es (o :: l)).bind (Φ f) := by
  first | rfl | (conv => lhs; unfold evE)
theorem x_bi (b es) : evE Φ (.bi b es) (o :: l) = (evEs Φ es (o :: l)).bind (biP b) := by
  first | rfl | (conv => lhs; unfold evE)
theorem x_isi (a t) : evE Φ (.isi a t) (o :: l) = (evE Φ a (o :: l)).bind (isiV t) := by
  first | rfl | (conv => lhs; unfold evE)
theorem x_comp (elt tg it conds own) : evE Φ (.comp elt tg it conds own) (o :: l) = (evI Φ it (o :: l)).bind fun vs => (compL (compF Φ elt tg conds (wipeP (o :: l) own)) vs).bind fun r => .ok (.lst r) := by
  first | rfl | (conv => lhs; unfold evE; rfl)
theorem x_nil : evEs Φ [] (o :: l) = .ok [] := by unfold evEs; rfl
theorem x_cons (e es) : evEs Φ (e :: es) (o :: l) = (evE Φ e (o :: l)).bind fun x => (evEs Φ es (o :: l)).bind fun xs => .ok (x :: xs) := by
  first | rfl | (conv => lhs; unfold evEs)
theorem x_c0 : evC Φ [] (o :: l) = .ok true := by unfold evC; rfl
theorem x_c1 (e) : evC Φ [e] (o :: l) = (evE Φ e (o :: l)).bind condV := by
  conv => lhs; unfold evC
  first | (congr 1; done) | (congr 1; funext x; cases x <;> rfl)
theorem x_seq (e) : evI Φ (.seq e) (o :: l) = (evE Φ e (o :: l)).bind seqV := by
  conv => lhs; unfold evI
  first | (congr 1; done) | (congr 1; funext x; cases x <;> rfl)
theorem x_rng1 (e) : evI Φ (.rng1 e) (o :: l) = (evE Φ e (o :: l)).bind rng1V := by
  conv => lhs; unfold evI
  first | (congr 1; done) | (congr 1; funext x; cases x <;> rfl)
theorem x_rng2 (a b) : evI Φ (.rng2 a b) (o :: l) = (evE Φ a (o :: l)).bind fun x => (evE Φ b (o :: l)).bind (rng2V x) := by
  conv => lhs; unfold evI
  first | (congr 1; done) | (congr 1; funext x; congr 1; funext y; cases x <;> cases y <;> rfl)
theorem x_enu (e) : evI Φ (.enu e) (o :: l) = (evE Φ e (o :: l)).bind enuV := by
  conv => lhs; unfold evI
  first | (congr 1; done) | (congr 1; funext x; cases x <;> rfl)
theorem x_keys (e) : evI Φ (.keys e) (o :: l) = (evE Φ e (o :: l)).bind keysV := by
  conv => lhs; unfold evI
  first | (congr 1; done) | (congr 1; funext x; cases x <;> rfl)
/-! statements -/
theorem y_nil : evSs Φ fu [] (o :: l) = .nx (o :: l) := by unfold evSs; rfl
theorem y_cons (s ss) : evSs Φ fu (s :: ss) (o :: l) = (evS Φ fu s (o :: l)).next (evSs Φ fu ss) := by
  first | rfl | (conv => lhs; unfold evSs)
theorem y_asg (k tg e) : evS Φ fu (.asg k tg e) (o :: l) = (evE Φ e (o :: l)).st fun v => (bindT tg v (o :: l)).st .nx := by
  first | rfl | (conv => lhs; unfold evS)
theorem y_setI (i ix e) : evS Φ fu (.setI i ix e) (o :: l) = (evE Φ e (o :: l)).st fun v => (getS (o :: l) i).st fun x => (evE Φ ix (o :: l)).st fun k => (setP x k v).st fun y => .nx ((o :: l).set i (some y)) := by
  first | rfl | (conv => lhs; unfold evS)
theorem y_app (i e) : evS Φ fu (.app i e) (o :: l) = (getS (o :: l) i).st fun x => (evE Φ e (o :: l)).st fun v => (appP x v).st fun y => .nx ((o :: l).set i (some y)) := by
  first | rfl | (conv => lhs; unfold evS)
theorem y_appPop (i j ix) : evS Φ fu (.appPop i j ix) (o :: l) = (getS (o :: l) i).st fun x => (getS (o :: l) j).st fun y => (evE Φ ix (o :: l)).st fun k => (popP y k).st fun p => (appP x p.1).st fun z => .nx (((o :: l).set j (some p.2)).set i (some z)) := by
  first | rfl | (conv => lhs; unfold evS)
theorem y_asgPop (tg j ix) : evS Φ fu (.asgPop tg j ix) (o :: l) = (getS (o :: l) j).st fun y => (evE Φ ix (o :: l)).st fun k => (popP y k).st fun p => (bindT tg p.1 ((o :: l).set j (some p.2))).st .nx := by
  first | rfl | (conv => lhs; unfold evS)
theorem y_ite (c a b) : evS Φ fu (.ite c a b) (o :: l) = (evE Φ c (o :: l)).st (iteS (evSs Φ fu a (o :: l)) (evSs Φ fu b (o :: l))) := by
  conv => lhs; unfold evS
  first | (congr 1; done) | (congr 1; funext x; cases x <;> rfl)
theorem y_for (tg it body) : evS Φ fu (.for tg it body) (o :: l) = (evI Φ it (o :: l)).st fun vs => forL (forF Φ fu tg body) vs (o :: l) := by
  first | rfl | (conv => lhs; unfold evS; rfl)
theorem y_while (c body) : evS Φ fu (.while c body) (o :: l) = whileL (evE Φ c) (evSs Φ fu body) fu (o :: l) := by
  first | rfl | (conv => lhs; unfold evS)
theorem y_ret (e) : evS Φ fu (.ret e) (o :: l) = (evE Φ e (o :: l)).st .rt := by
  first | rfl | (conv => lhs; unfold evS)
theorem y_retN : evS Φ fu .retN (o :: l) = .rt .non := by unfold evS; rfl
theorem y_raise (c es) : evS Φ fu (.raise c es) (o :: l) = (evEs Φ es (o :: l)).st fun xs => .ex ⟨c, xs⟩ := by
  first | rfl | (conv => lhs; unfold evS)
theorem y_pass : evS Φ fu .pass (o :: l) = .nx (o :: l) := by unfold evS; rfl
theorem y_brk : evS Φ fu .brk (o :: l) = .bk (o :: l) := by unfold evS; rfl
theorem y_cont : evS Φ fu .cont (o :: l) = .ct (o :: l) := by unfold evS; rfl
theorem y_exp (e) : evS Φ fu (.exp e) (o :: l) = (evE Φ e (o :: l)).st fun _ => .nx (o :: l) := by
  first | rfl | (conv => lhs; unfold evS)
theorem y_frz (i) : evS Φ fu (.frz i) (o :: l) = .nx (o :: l) := by unfold evS; rfl
/-- targets, slots -/
theorem b_var (i v) : bindT (.var i) v (o :: l) = .ok ((o :: l).set i (some v)) := rfl
def many (is : List Nat) (vs : List PV) (env : PEnv) : R PEnv := match setMany env is vs with
  | some e => .ok e
  | none => .bad
theorem b_tup (is vs) : bindT (.tup is) (.tup vs) (o :: l) = many is vs (o :: l) := rfl
theorem b_lst (is vs) : bindT (.tup is) (.lst vs) (o :: l) = many is vs (o :: l) := rfl
theorem m_nil : many [] [] (o :: l) = .ok (o :: l) := rfl
theorem m_cons (i is v vs) : many (i :: is) (v :: vs) (o :: l) = many is vs ((o :: l).set i (some v)) := rfl
theorem g_zero (v : PV) : getS (some v :: l) 0 = .ok v := rfl
theorem g_succ (i : Nat) : getS (o :: l) (i + 1) = getS l i := by
  unfold getS; rfl
theorem w_nil : wipeP (o :: l) [] = o :: l := rfl
theorem w_cons (i is) : wipeP (o :: l) (i :: is) = (wipeP (o :: l) is).set i none := rfl
theorem next_next (r : SR) (f g : PEnv → SR) : (r.next f).next g = r.next fun e => (f e).next g := by cases r <;> rfl
theorem next_nil (r : SR) : r.next (evSs Φ fu []) = r := by
  cases r <;> first | rfl | (unfold evSs; rfl)
theorem forF_eq (tg body v) : forF Φ fu tg body v (o :: l) = (bindT tg v (o :: l)).st (evSs Φ fu body) := rfl
theorem boolK_nil (k x) : boolK k Φ [] (o :: l) x = .ok x := rfl
theorem boolK_cons (k e es c) : boolK k Φ (e :: es) (o :: l) (.bl c) = bK k c (evB Φ k (e :: es) (o :: l)) := rfl
theorem iteV_bl (a b k) : iteV a b (.bl k) = if k then a else b := rfl
theorem iteS_bl (a b k) : iteS a b (.bl k) = if k then a else b := rfl
theorem notV_bl (b) : notV (.bl b) = .ok (.bl (!b)) := rfl
theorem negV_int (i) : negV (.int i) = .ok (.int (-i)) := rfl
theorem condV_bl (b) : condV (.bl b) = .ok b := rfl
theorem seqV_lst (xs) : seqV (.lst xs) = .ok xs := rfl
theorem seqV_tup (xs) : seqV (.tup xs) = .ok xs := rfl
theorem seqV_scr (ns) : seqV (.scr ns) = .ok (ns.map .int) := rfl
theorem enuV_lst (xs) : enuV (.lst xs) = .ok (enumP 0 xs) := rfl
theorem enuV_tup (xs) : enuV (.tup xs) = .ok (enumP 0 xs) := rfl
theorem keysV_dct (ks vs) : keysV (.dct ks vs) = .ok (ks.map pvOfKey) := rfl
theorem compF_eq (elt tg conds env v) : compF Φ elt tg conds env v = (bindT tg v env).bind fun e1 => (evC Φ conds e1).bind fun b => if b then (evE Φ elt e1).bind fun y => .ok (some y) else .ok none := rfl
end
theorem biP_1 (b x) : biP b [x] = bi1 b x := rfl
theorem biP_2 (b x y) : biP b [x, y] = bi2 b x y := rfl
theorem len_lst (xs) : bi1 .len (.lst xs) = .ok (.int xs.length) := rfl
theorem len_tup (xs) : bi1 .len (.tup xs) = .ok (.int xs.length) := rfl
theorem len_scr (xs) : bi1 .len (.scr xs) = .ok (.int xs.length) := rfl
theorem int_int (i) : bi1 .int (.int i) = .ok (.int i) := rfl
theorem int_bl (b) : bi1 .int (.bl b) = .ok (.int (if b then 1 else 0)) := rfl
theorem list_lst (xs) : bi1 .list (.lst xs) = .ok (.lst xs) := rfl
theorem list_tup (xs) : bi1 .list (.tup xs) = .ok (.lst xs) := rfl
theorem tuple_lst (xs) : bi1 .tuple (.lst xs) = .ok (.tup xs) := rfl
theorem tuple_tup (xs) : bi1 .tuple (.tup xs) = .ok (.tup xs) := rfl
theorem min_int (i j) : bi2 .min2 (.int i) (.int j) = .ok (.int (if j < i then j else i)) := rfl
theorem max_int (i j) : bi2 .max2 (.int i) (.int j) = .ok (.int (if j > i then j else i)) := rfl
theorem abs_int (i) : bi1 .abs (.int i) = .ok (.int (if i < 0 then -i else i)) := rfl
theorem c_eq (x y) : cmpP .eq x y = eqP x y := rfl
theorem c_ne (x y) : cmpP .ne x y = (eqP x y).bind fun b => .ok (!b) := rfl
theorem c_lt (i j) : cmpP .lt (.int i) (.int j) = .ok (decide (i < j)) := rfl
theorem c_le (i j) : cmpP .le (.int i) (.int j) = .ok (decide (i ≤ j)) := rfl
theorem c_gt (i j) : cmpP .gt (.int i) (.int j) = .ok (decide (j < i)) := rfl
theorem c_ge (i j) : cmpP .ge (.int i) (.int j) = .ok (decide (j ≤ i)) := rfl
theorem c_is (x) : cmpP .is x .non = .ok (isNon x) := by cases x <;> rfl
theorem c_isnot (x) : cmpP .isnot x .non = .ok (!isNon x) := by cases x <;> rfl
theorem c_inn (x y) : cmpP .inn x y = inP x y := rfl
theorem c_notin (x y) : cmpP .notin x y = (inP x y).bind fun b => .ok (!b) := rfl
theorem in_lst (x ys) : inP x (.lst ys) = inSeqP x ys := rfl
theorem in_tup (x ys) : inP x (.tup ys) = inSeqP x ys := rfl
theorem ix_lst (xs i) : idxP (.lst xs) (.int i) = atP xs i := rfl
theorem ix_tup (xs i) : idxP (.tup xs) (.int i) = atP xs i := rfl
theorem ix_scr (xs i) : idxP (.scr xs) (.int i) = atP (xs.map .int) i := rfl
theorem part_no (v) : partP true v = .ok none := rfl
theorem part_int (v) : partP false (.int v) = .ok (some v) := rfl
theorem slc_lst (xs lo hi) : slcP (.lst xs) lo hi = .ok (.lst (cutP xs lo hi)) := rfl
theorem slc_tup (xs lo hi) : slcP (.tup xs) lo hi = .ok (.tup (cutP xs lo hi)) := rfl
theorem eq_int (i j : Int) : eqP (.int i) (.int j) = .ok (i == j) := rfl
theorem eq_bl (i j : Bool) : eqP (.bl i) (.bl j) = .ok (i == j) := rfl
theorem eq_str (i j : Str) : eqP (.str i) (.str j) = .ok (i == j) := rfl
theorem at_zero (x : PV) (xs : List PV) : atP (x :: xs) 0 = .ok x := by
  unfold atP ixP
  rw [if_pos (by decide), if_pos (by rw [List.length_cons]; omega)]
  rfl
theorem at_lit (x : PV) (xs : List PV) (i : Nat) : atP (x :: xs) (OfNat.ofNat (i + 1) : Int) = atP (x :: xs) ((i + 1 : Nat) : Int) := rfl
theorem isNon_non : isNon .non = true := rfl
theorem isNon_int (i) : isNon (.int i) = false := rfl
theorem isNon_tup (i) : isNon (.tup i) = false := rfl
theorem isNon_lst (i) : isNon (.lst i) = false := rfl
theorem isNon_dct (i j) : isNon (.dct i j) = false := rfl
theorem isNon_bl (i) : isNon (.bl i) = false := rfl
theorem isNon_str (i) : isNon (.str i) = false := rfl
end PY

/-! PyF1: plain rules of the evaluator, for the laws' own proofs. -/
namespace PY
open PySem

/-- the end of a run -/
def SR.fin : SR → R PV
  | .nx _ => .ok .non
  | .rt v => .ok v
  | .ex e => .ex e
  | _ => .bad
@[simp] theorem SR.fin_nx (e : PEnv) : SR.fin (.nx e) = .ok .non := rfl
@[simp] theorem SR.fin_rt (v : PV) : SR.fin (.rt v) = .ok v := rfl
theorem runD_eq {Φ : Fns} {fu : Nat} {d : FnD} {vs : List PV} (h : vs.length = d.ar) : runD Φ fu d vs = (evSs Φ fu d.body (vs.map some ++ List.replicate (d.N.length - vs.length) none)).fin := by
  unfold runD
  rw [if_pos h]
  cases evSs Φ fu d.body (vs.map some ++ List.replicate (d.N.length - vs.length) none) <;> rfl
/-! ### lists by their places -/
/-- f 0, .., f (n - 1) -/
def rng {α : Type} (n : Nat) (f : Nat → α) : List α := (List.range n).map f
section
variable {α β : Type}
@[simp] theorem rng_length (n : Nat) (f : Nat → α) : (rng n f).length = n := by simp [rng]
@[simp] theorem rng_zero (f : Nat → α) : rng 0 f = [] := rfl
theorem rng_succ (n : Nat) (f : Nat → α) : rng (n + 1) f = rng n f ++ [f n] := by simp [rng, List.range_succ]
theorem rng_get {n i : Nat} {f : Nat → α} (h : i < n) : (rng n f)[i]? = some (f i) := by simp [rng, h]
theorem rng_get_none {n i : Nat} {f : Nat → α} (h : n ≤ i) : (rng n f)[i]? = none := by simp [rng, h]
theorem rng_congr {n : Nat} {f g : Nat → α} (h : ∀ i, i < n → f i = g i) : rng n f = rng n g := by
  unfold rng
  apply List.map_congr_left
  intro i hi
  exact h i (by simpa using hi)
theorem rng_map {n : Nat} {f : Nat → α} {g : α → β} : (rng n f).map g = rng n fun i => g (f i) := by simp [rng]
theorem rng_set {n i : Nat} {f : Nat → α} {v : α} (h : i < n) : (rng n f).set i v = rng n fun j => if j = i then v else f j := by
  apply List.ext_getElem?
  intro j
  rw [List.getElem?_set, rng_length]
  by_cases e : i = j
  · subst e
    rw [if_pos rfl, if_pos h, rng_get h, if_pos rfl]
  · rw [if_neg e]
    by_cases hj : j < n
    · rw [rng_get hj, rng_get hj, if_neg (Ne.symm e)]
    · rw [rng_get_none (by omega), rng_get_none (by omega)]
theorem mem_rng {n : Nat} {f : Nat → α} {x : α} : x ∈ rng n f ↔ ∃ i, i < n ∧ f i = x := by simp [rng]
theorem eq_rng {n : Nat} (l : List α) (d : α) (h : l.length = n) : l = rng n fun i => l.getD i d := by
  apply List.ext_getElem?
  intro j
  by_cases hj : j < n
  · rw [rng_get hj, List.getD_eq_getElem?_getD, List.getElem?_eq_getElem (by omega)]; rfl
  · rw [rng_get_none (by omega), List.getElem?_eq_none (by omega)]
end
/-! ### places -/
theorem ixP_nat {n i : Nat} (h : i < n) : ixP n (i : Int) = some i := by
  unfold ixP
  rw [if_pos (by omega), if_pos (by omega)]
  simp
theorem atP_nat {xs : List PV} {i : Nat} {v : PV} (h : xs[i]? = some v) : atP xs (i : Int) = .ok v := by
  have hl : i < xs.length := (List.getElem?_eq_some_iff.mp h).1
  unfold atP
  rw [ixP_nat hl]
  simp only [h]
theorem at_1 (x y : PV) (l : List PV) : atP (x :: y :: l) 1 = .ok y := atP_nat (i := 1) rfl
theorem at_2 (x y z : PV) (l : List PV) : atP (x :: y :: z :: l) 2 = .ok z := atP_nat (i := 2) rfl
theorem at_3 (x y z w : PV) (l : List PV) : atP (x :: y :: z :: w :: l) 3 = .ok w := atP_nat (i := 3) rfl
theorem atP_rng {n i : Nat} {f : Nat → PV} (h : i < n) : atP (rng n f) (i : Int) = .ok (f i) := atP_nat (rng_get h)
theorem atP_ok' {xs : List PV} {i : Int} (h0 : 0 ≤ i) (h1 : i < xs.length) : ∃ v, v ∈ xs ∧ atP xs i = .ok v := by
  obtain ⟨j, rfl⟩ := Int.eq_ofNat_of_zero_le h0
  have hj : j < xs.length := by omega
  exact ⟨xs[j], List.getElem_mem hj, atP_nat (List.getElem?_eq_getElem hj)⟩
theorem setP_nat {xs : List PV} {i : Nat} {v : PV} (h : i < xs.length) : setP (.lst xs) (.int i) v = .ok (.lst (xs.set i v)) := by
  unfold setP
  simp only [ixP_nat h]

/-! ### loops -/
theorem forL_inv {f : PV → PEnv → SR} (I : Nat → PEnv → Prop) : ∀ {vs : List PV} {env : PEnv}, I 0 env → (∀ i v e, vs[i]? = some v → I i e → ∃ e', (f v e = .nx e' ∨ f v e = .ct e') ∧ I (i + 1) e') → ∃ e', forL f vs env = .nx e' ∧ I vs.length e'
  | [], env, h0, _ => ⟨env, rfl, h0⟩
  | v :: vs, env, h0, hs => by
    obtain ⟨e1, h1, i1⟩ := hs 0 v env rfl h0
    obtain ⟨e2, h2, i2⟩ := forL_inv (fun i e => I (i + 1) e) (vs := vs) (env := e1) i1 fun i w e hw hi => hs (i + 1) w e (by simpa using hw) hi
    refine ⟨e2, ?_, i2⟩
    unfold forL
    rcases h1 with h1 | h1 <;> rw [h1] <;> exact h2
theorem forL_then {f : PV → PEnv → SR} {vs : List PV} {env : PEnv} {k : PEnv → SR} {r : SR} (I : Nat → PEnv → Prop) (h0 : I 0 env) (hs : ∀ i v e, vs[i]? = some v → I i e → ∃ e', (f v e = .nx e' ∨ f v e = .ct e') ∧ I (i + 1) e') (hk : ∀ e, I vs.length e → k e = r) : (forL f vs env).next k = r := by
  obtain ⟨e', h1, h2⟩ := forL_inv I h0 hs
  rw [h1]
  exact hk e' h2
/-- over a range -/
theorem forL_rng {f : PV → PEnv → SR} {n : Nat} {g : Nat → PV} {env : PEnv} {k : PEnv → SR} {r : SR} (I : Nat → PEnv → Prop) (h0 : I 0 env) (hs : ∀ i e, i < n → I i e → ∃ e', f (g i) e = .nx e' ∧ I (i + 1) e') (hk : ∀ e, I n e → k e = r) : (forL f (rng n g) env).next k = r := by
  refine forL_then I h0 (fun i v e hv hi => ?_) fun e he => hk e (by simpa using he)
  by_cases h : i < n
  · rw [rng_get h] at hv
    cases hv
    obtain ⟨e', h1, h2⟩ := hs i e h hi
    exact ⟨e', .inl h1, h2⟩
  · rw [rng_get_none (by omega)] at hv; cases hv
theorem rangeP0 (n : Nat) : rangeP 0 (n : Int) = rng n fun i => .int i := by
  unfold rangeP rng
  simp
theorem rangeP_nat (m n : Nat) : rangeP (m : Int) (n : Int) = rng (n - m) fun i => .int ((m + i : Nat) : Int) := by
  unfold rangeP rng
  have : ((n : Int) - (m : Int)).toNat = n - m := by omega
  rw [this]
  simp
theorem rngOk_nat {m n : Nat} (hm : m ≤ 1000) (h : n ≤ 1000) : rngOk (m : Int) (n : Int) = true := by
  unfold rngOk
  rw [Bool.and_eq_true, decide_eq_true_eq, decide_eq_true_eq]
  refine ⟨⟨by omega, by omega, by omega, by omega⟩, ?_⟩
  show ((n : Int) - m).toNat ≤ 16777216
  omega
theorem rngOk_0 {n : Nat} (h : n ≤ 1000) : rngOk 0 (n : Int) = true := rngOk_nat (m := 0) (by omega) h

/-! ### comprehensions -/
theorem compL_map {f : PV → R (Option PV)} {g : PV → Option PV} : ∀ {vs : List PV}, (∀ v ∈ vs, f v = .ok (g v)) → compL f vs = .ok (vs.filterMap g)
  | [], _ => rfl
  | v :: vs, h => by
    unfold compL
    rw [h v List.mem_cons_self, R.bind_ok, compL_map fun w hw => h w (List.mem_cons_of_mem _ hw), R.bind_ok, List.filterMap_cons]
    cases g v <;> rfl
/-- over a range, all kept -/
theorem compL_rng {f : PV → R (Option PV)} {n : Nat} {g h : Nat → PV} (H : ∀ i, i < n → f (g i) = .ok (some (h i))) : compL f (rng n g) = .ok (rng n h) := by
  induction n with
  | zero => rfl
  | succ n ih =>
    have snoc : ∀ {xs ys : List PV} {v w : PV}, compL f xs = .ok ys → f v = .ok (some w) → compL f (xs ++ [v]) = .ok (ys ++ [w]) := by
      intro xs
      induction xs with
      | nil =>
        intro ys v w h1 h2
        cases h1
        show compL f [v] = _
        unfold compL
        rw [h2]
        rfl
      | cons x xs ih2 =>
        intro ys v w h1 h2
        rw [List.cons_append]
        unfold compL at h1 ⊢
        obtain ⟨o, e1, h1⟩ := R.bind_eq_ok h1
        obtain ⟨r, e2, h1⟩ := R.bind_eq_ok h1
        rw [e1, R.bind_ok, ih2 e2 h2, R.bind_ok]
        cases h1
        cases o <;> rfl
    rw [rng_succ, rng_succ]
    exact snoc (ih fun i hi => H i (by omega)) (H n (by omega))
/-- over a range, some kept -/
theorem compL_rngF {f : PV → R (Option PV)} {n : Nat} {g h : Nat → PV} {p : Nat → Bool} (H : ∀ i, i < n → f (g i) = .ok (if p i then some (h i) else none)) : compL f (rng n g) = .ok (((List.range n).filter p).map h) := by
  have e : ∀ {l : List Nat}, (∀ i ∈ l, i < n) → compL f (l.map g) = .ok ((l.filter p).map h) := by
    intro l
    induction l with
    | nil => intro _; rfl
    | cons i l ih =>
      intro hl
      rw [List.map_cons]
      unfold compL
      rw [H i (hl i List.mem_cons_self), R.bind_ok, ih fun j hj => hl j (List.mem_cons_of_mem _ hj), R.bind_ok, List.filter_cons]
      cases p i <;> rfl
  exact e fun i hi => by simpa using hi

/-! ### shapes -/
theorem dataPs_all : ∀ {xs : List PV}, (∀ x ∈ xs, dataP x = true) → dataPs xs = true
  | [], _ => rfl
  | x :: xs, h => by
    unfold dataPs
    rw [h x List.mem_cons_self, dataPs_all fun y hy => h y (List.mem_cons_of_mem _ hy)]
    rfl
theorem depthPs_all {k : Nat} : ∀ {xs : List PV}, (∀ x ∈ xs, depthP x ≤ k) → depthPs xs ≤ k
  | [], _ => Nat.zero_le _
  | x :: xs, h => by
    unfold depthPs
    have := h x List.mem_cons_self
    have := depthPs_all (xs := xs) fun y hy => h y (List.mem_cons_of_mem _ hy)
    omega
/-- plain data, not deep -/
def Shp (k : Nat) (v : PV) : Prop := dataP v = true ∧ depthP v ≤ k
theorem Shp.ok {k : Nat} {v : PV} (h : Shp k v) (hk : k ≤ 64) : shapedP v = true := by
  unfold shapedP
  rw [h.1, Bool.true_and]
  exact decide_eq_true (Nat.le_trans h.2 hk)
theorem Shp.non (k : Nat) : Shp k .non := ⟨rfl, Nat.zero_le _⟩
theorem Shp.bl (k : Nat) (b : Bool) : Shp k (.bl b) := ⟨rfl, Nat.zero_le _⟩
theorem Shp.int (k : Nat) (i : Int) : Shp k (.int i) := ⟨rfl, Nat.zero_le _⟩
theorem Shp.str (k : Nat) (x : Str) : Shp k (.str x) := ⟨rfl, Nat.zero_le _⟩
theorem Shp.lst {k : Nat} {xs : List PV} (h : ∀ x ∈ xs, Shp k x) : Shp (k + 1) (.lst xs) := ⟨by unfold dataP; exact dataPs_all fun x hx => (h x hx).1, by unfold depthP; exact Nat.succ_le_succ (depthPs_all fun x hx => (h x hx).2)⟩
theorem Shp.tup {k : Nat} {xs : List PV} (h : ∀ x ∈ xs, Shp k x) : Shp (k + 1) (.tup xs) := ⟨by unfold dataP; exact dataPs_all fun x hx => (h x hx).1, by unfold depthP; exact Nat.succ_le_succ (depthPs_all fun x hx => (h x hx).2)⟩
theorem eqP_shp {a b : PV} {k l : Nat} (ha : Shp k a) (hb : Shp l b) (hk : k ≤ 64 := by decide) (hl : l ≤ 64 := by decide) : eqP a b = .ok (eqv a b) := by
  unfold eqP
  rw [ha.ok hk, hb.ok hl]
  rfl
mutual
theorem eqv_refl : ∀ v : PV, dataP v = true → eqv v v = true
  | .non, _ => rfl
  | .bl b, _ => by simp [eqv]
  | .int i, _ => by simp [eqv]
  | .str x, _ => by simp [eqv]
  | .tup xs, h => by
    unfold eqv
    exact eqvs_refl xs (by unfold dataP at h; exact h)
  | .lst xs, h => by
    unfold eqv
    exact eqvs_refl xs (by unfold dataP at h; exact h)
  | .dct _ _, h => by cases h
  | .scr _, h => by cases h
theorem eqvs_refl : ∀ vs : List PV, dataPs vs = true → eqvs vs vs = true
  | [], _ => rfl
  | v :: vs, h => by
    unfold dataPs at h
    rw [Bool.and_eq_true] at h
    unfold eqvs
    rw [eqv_refl v h.1, eqvs_refl vs h.2]
    rfl
end
end PY

/-! PyF2: loops and values, more. -/
namespace PY
open PySem
/-- a loop, any end -/
theorem for_P {P : SR → Prop} {f : PV → PEnv → SR} {k : PEnv → SR} (I : Nat → PEnv → Prop) : ∀ {vs : List PV} {env : PEnv}, I 0 env → (∀ i v e, vs[i]? = some v → I i e → (∃ e', (f v e = .nx e' ∨ f v e = .ct e') ∧ I (i + 1) e') ∨ ∃ w, f v e = .rt w ∧ P (.rt w)) → (∀ e, I vs.length e → P (k e)) → P ((forL f vs env).next k)
  | [], env, h0, _, hk => hk env h0
  | v :: vs, env, h0, hs, hk => by
    rcases hs 0 v env rfl h0 with ⟨e1, h1, i1⟩ | ⟨w, h1, p⟩
    · have := for_P (P := P) (f := f) (k := k) (fun i e => I (i + 1) e) (vs := vs) (env := e1) i1 (fun i w e hw hi => hs (i + 1) w e (by simpa using hw) hi) (fun e he => hk e he)
      have e2 : forL f (v :: vs) env = forL f vs e1 := by
        show (match f v env with
          | .nx e => forL f vs e
          | .ct e => forL f vs e
          | .bk e => .nx e
          | r => r) = _
        rcases h1 with h1 | h1 <;> rw [h1]
      rw [e2]
      exact this
    · have e2 : forL f (v :: vs) env = .rt w := by
        show (match f v env with
          | .nx e => forL f vs e
          | .ct e => forL f vs e
          | .bk e => .nx e
          | r => r) = _
        rw [h1]
      rw [e2]
      exact p
theorem for_fin {f : PV → PEnv → SR} {k : PEnv → SR} {vs : List PV} {env : PEnv} {r : R PV} (I : Nat → PEnv → Prop) (h0 : I 0 env) (hs : ∀ i v e, vs[i]? = some v → I i e → ∃ e', f v e = .nx e' ∧ I (i + 1) e') (hk : ∀ e, I vs.length e → (k e).fin = r) : ((forL f vs env).next k).fin = r :=
  for_P (P := fun s => s.fin = r) I h0 (fun i v e hv hi => .inl (by obtain ⟨e', h1, h2⟩ := hs i v e hv hi; exact ⟨e', .inl h1, h2⟩)) hk
theorem for_ex {f : PV → PEnv → SR} {k : PEnv → SR} {vs : List PV} {env : PEnv} {J : PEnv → Prop} (I : Nat → PEnv → Prop) (h0 : I 0 env) (hs : ∀ i v e, vs[i]? = some v → I i e → ∃ e', f v e = .nx e' ∧ I (i + 1) e') (hk : ∀ e, I vs.length e → ∃ e', k e = .nx e' ∧ J e') : ∃ e', (forL f vs env).next k = .nx e' ∧ J e' :=
  for_P (P := fun s => ∃ e', s = .nx e' ∧ J e') I h0 (fun i v e hv hi => .inl (by obtain ⟨e', h1, h2⟩ := hs i v e hv hi; exact ⟨e', .inl h1, h2⟩)) hk
/-- a step, its end told -/
theorem seq_ex {r : SR} {k : PEnv → SR} {J : PEnv → Prop} (M : PEnv → Prop) (h : ∃ e1, r = .nx e1 ∧ M e1) (hk : ∀ e1, M e1 → ∃ e', k e1 = .nx e' ∧ J e') : ∃ e', r.next k = .nx e' ∧ J e' := by
  obtain ⟨e1, rfl, m⟩ := h
  exact hk e1 m
theorem if_ex {b : Bool} {r s : SR} {J : PEnv → Prop} (h : b = true → ∃ e1, r = .nx e1 ∧ J e1) (h2 : b = false → ∃ e1, s = .nx e1 ∧ J e1) : ∃ e1, (if b = true then r else s) = .nx e1 ∧ J e1 := by
  cases b with
  | true => rw [if_pos rfl]; exact h rfl
  | false => rw [if_neg (by decide)]; exact h2 rfl
/-- over a range, as an end and as a step -/
theorem forR_fin {f : PV → PEnv → SR} {k : PEnv → SR} {n : Nat} {g : Nat → PV} {env : PEnv} {r : R PV} (I : Nat → PEnv → Prop) (h0 : I 0 env) (hs : ∀ i e, i < n → I i e → ∃ e', f (g i) e = .nx e' ∧ I (i + 1) e') (hk : ∀ e, I n e → (k e).fin = r) : ((forL f (rng n g) env).next k).fin = r :=
  for_fin I h0 (fun i v e hv hi => by
    by_cases h : i < n
    · rw [rng_get h] at hv; cases hv; exact hs i e h hi
    · rw [rng_get_none (by omega)] at hv; cases hv) fun e he => hk e (by rwa [rng_length] at he)
theorem forR_ex {f : PV → PEnv → SR} {k : PEnv → SR} {n : Nat} {g : Nat → PV} {env : PEnv} {J : PEnv → Prop} (I : Nat → PEnv → Prop) (h0 : I 0 env) (hs : ∀ i e, i < n → I i e → ∃ e', f (g i) e = .nx e' ∧ I (i + 1) e') (hk : ∀ e, I n e → ∃ e', k e = .nx e' ∧ J e') : ∃ e', (forL f (rng n g) env).next k = .nx e' ∧ J e' :=
  for_ex I h0 (fun i v e hv hi => by
    by_cases h : i < n
    · rw [rng_get h] at hv; cases hv; exact hs i e h hi
    · rw [rng_get_none (by omega)] at hv; cases hv) fun e he => hk e (by rwa [rng_length] at he)
/-- a value comes, and p holds of it -/
def Ok (r : R PV) (p : PV → Prop) : Prop := ∃ v, r = .ok v ∧ p v
theorem Ok_ok {v : PV} {p : PV → Prop} : Ok (.ok v) p = p v := propext ⟨fun ⟨w, e, h⟩ => by cases e; exact h, fun h => ⟨v, rfl, h⟩⟩
theorem Ok.eq {r : R PV} {v : PV} (h : Ok r (· = v)) : r = .ok v := by
  obtain ⟨w, e, rfl⟩ := h
  exact e
theorem ex_nx {e : PEnv} {J : PEnv → Prop} : (∃ e', SR.nx e = .nx e' ∧ J e') = J e := propext ⟨fun ⟨w, e, h⟩ => by cases e; exact h, fun h => ⟨e, rfl, h⟩⟩
theorem seq_ok {r : SR} {k : PEnv → SR} {p : PV → Prop} (M : PEnv → Prop) (h : ∃ e1, r = .nx e1 ∧ M e1) (hk : ∀ e1, M e1 → Ok (k e1).fin p) : Ok (r.next k).fin p := by
  obtain ⟨e1, rfl, m⟩ := h
  exact hk e1 m
theorem for_ok {f : PV → PEnv → SR} {k : PEnv → SR} {vs : List PV} {env : PEnv} {p : PV → Prop} (I : Nat → PEnv → Prop) (h0 : I 0 env) (hs : ∀ i v e, vs[i]? = some v → I i e → ∃ e', f v e = .nx e' ∧ I (i + 1) e') (hk : ∀ e, I vs.length e → Ok (k e).fin p) : Ok ((forL f vs env).next k).fin p :=
  for_P (P := fun s => Ok s.fin p) I h0 (fun i v e hv hi => .inl (by obtain ⟨e', h1, h2⟩ := hs i v e hv hi; exact ⟨e', .inl h1, h2⟩)) hk
theorem forR_ok {f : PV → PEnv → SR} {k : PEnv → SR} {n : Nat} {g : Nat → PV} {env : PEnv} {p : PV → Prop} (I : Nat → PEnv → Prop) (h0 : I 0 env) (hs : ∀ i e, i < n → I i e → ∃ e', f (g i) e = .nx e' ∧ I (i + 1) e') (hk : ∀ e, I n e → Ok (k e).fin p) : Ok ((forL f (rng n g) env).next k).fin p :=
  for_ok I h0 (fun i v e hv hi => by
    by_cases h : i < n
    · rw [rng_get h] at hv; cases hv; exact hs i e h hi
    · rw [rng_get_none (by omega)] at hv; cases hv) fun e he => hk e (by rwa [rng_length] at he)
/-- over a list told by another -/
theorem forI_ex {α : Type} {f : PV → PEnv → SR} {k : PEnv → SR} {ls : List α} {g : α → PV} {env : PEnv} {J : PEnv → Prop} (I : Nat → PEnv → Prop) (h0 : I 0 env) (hs : ∀ i a e, ls[i]? = some a → I i e → ∃ e', f (g a) e = .nx e' ∧ I (i + 1) e') (hk : ∀ e, I ls.length e → ∃ e', k e = .nx e' ∧ J e') : ∃ e', (forL f (ls.map g) env).next k = .nx e' ∧ J e' :=
  for_ex I h0 (fun i v e hv hi => by
    rw [List.getElem?_map] at hv
    cases h : ls[i]? with
    | none => rw [h] at hv; cases hv
    | some a => rw [h] at hv; cases hv; exact hs i a e h hi) fun e he => hk e (by rwa [List.length_map] at he)
theorem forI_ok {α : Type} {f : PV → PEnv → SR} {k : PEnv → SR} {ls : List α} {g : α → PV} {env : PEnv} {p : PV → Prop} (I : Nat → PEnv → Prop) (h0 : I 0 env) (hs : ∀ i a e, ls[i]? = some a → I i e → ∃ e', f (g a) e = .nx e' ∧ I (i + 1) e') (hk : ∀ e, I ls.length e → Ok (k e).fin p) : Ok ((forL f (ls.map g) env).next k).fin p :=
  for_ok I h0 (fun i v e hv hi => by
    rw [List.getElem?_map] at hv
    cases h : ls[i]? with
    | none => rw [h] at hv; cases hv
    | some a => rw [h] at hv; cases hv; exact hs i a e h hi) fun e he => hk e (by rwa [List.length_map] at he)
theorem fold_take {α β : Type} {step : β → α → β} {b : β} {ls : List α} {i : Nat} {a : α} (h : ls[i]? = some a) : (ls.take (i + 1)).foldl step b = step ((ls.take i).foldl step b) a := by
  have e : ls.take (i + 1) = ls.take i ++ [a] := by
    rw [List.take_succ, h]; rfl
  rw [e, List.foldl_append]; rfl
theorem fin_ok {s : SR} {v : PV} (h : s = .rt v) : s.fin = .ok v := by rw [h]; rfl
theorem rng1_nat {n : Nat} (h : n ≤ 1000) : rng1V (.int (n : Int)) = .ok (rng n fun i => .int i) := by
  unfold rng1V
  simp only [rngOk_0 h, rangeP0, if_true]
theorem rng2_nat {m n : Nat} (h : m ≤ 1000) (h : n ≤ 1000) : rng2V (.int (m : Int)) (.int (n : Int)) = .ok (rng (n - m) fun i => .int ((m + i : Nat) : Int)) := by
  unfold rng2V
  simp only [rngOk_nat (m := m) (n := n) (by omega) (by omega), rangeP_nat, if_true]
/-! ### places of ints -/
theorem atP_int {xs : List PV} {i : Int} (h0 : 0 ≤ i) (h1 : i < xs.length) : atP xs i = .ok (xs.getD i.toNat .non) := by
  obtain ⟨j, rfl⟩ := Int.eq_ofNat_of_zero_le h0
  have hj : j < xs.length := by omega
  rw [atP_nat (List.getElem?_eq_getElem hj)]
  congr 1
  rw [Int.toNat_natCast, List.getD_eq_getElem?_getD, List.getElem?_eq_getElem hj]; rfl
theorem atP_rngI {n : Nat} {f : Nat → PV} {i : Int} (h0 : 0 ≤ i) (h1 : i < n) : atP (rng n f) i = .ok (f i.toNat) := by
  obtain ⟨j, rfl⟩ := Int.eq_ofNat_of_zero_le h0
  rw [atP_rng (by omega)]; rfl
theorem atP_ints {ds : List Int} {i : Int} (h0 : 0 ≤ i) (h1 : i < ds.length) : atP (ds.map .int) i = .ok (.int (ds.getD i.toNat 0)) := by
  obtain ⟨j, rfl⟩ := Int.eq_ofNat_of_zero_le h0
  have hj : j < ds.length := by omega
  have e : (ds.map PV.int)[j]? = some (.int ds[j]) := by simp [hj]
  rw [atP_nat e]
  congr 2
  rw [Int.toNat_natCast, List.getD_eq_getElem?_getD, List.getElem?_eq_getElem hj]; rfl
theorem erase_map {α β : Type} {f : α → β} : ∀ (l : List α) (k : Nat), (l.map f).eraseIdx k = (l.eraseIdx k).map f
  | [], _ => rfl
  | _ :: _, 0 => rfl
  | x :: l, k + 1 => by
    rw [List.map_cons, List.eraseIdx_cons_succ, List.eraseIdx_cons_succ, List.map_cons, erase_map l k]
theorem pop_ints {ls : List Int} {k : Int} (h0 : 0 ≤ k) (h1 : k < ls.length) (h2 : ls.length ≤ 1000) : popP (.lst (ls.map .int)) (.int k) = .ok (.int (ls.getD k.toNat 0), .lst ((ls.eraseIdx k.toNat).map .int)) := by
  obtain ⟨j, rfl⟩ := Int.eq_ofNat_of_zero_le h0
  have hj : j < ls.length := by omega
  unfold popP
  simp only [List.length_map]
  have e : (ls.map PV.int)[j]? = some (.int ls[j]) := by simp [hj]
  rw [if_pos (decide_eq_true ⟨by omega, by omega⟩), ixP_nat hj]
  simp only [e]
  congr 2
  · rw [Int.toNat_natCast, List.getD_eq_getElem?_getD, List.getElem?_eq_getElem hj]; rfl
  · rw [Int.toNat_natCast, erase_map]
theorem pop_map {α : Type} {g : α → PV} {ls : List α} {k : Int} (h0 : 0 ≤ k) (h1 : k < ls.length) (h2 : ls.length ≤ 1000) : ∃ a, a ∈ ls ∧ popP (.lst (ls.map g)) (.int k) = .ok (g a, .lst ((ls.eraseIdx k.toNat).map g)) := by
  obtain ⟨j, rfl⟩ := Int.eq_ofNat_of_zero_le h0
  have hj : j < ls.length := by omega
  refine ⟨ls[j], List.getElem_mem hj, ?_⟩
  unfold popP
  simp only [List.length_map]
  have e : (ls.map g)[j]? = some (g ls[j]) := by simp [hj]
  rw [if_pos (decide_eq_true ⟨by omega, by omega⟩), ixP_nat hj]
  simp only [e]
  congr 2
  rw [Int.toNat_natCast, erase_map]
theorem getD_mem {ls : List Int} {k : Nat} (h : k < ls.length) : ls.getD k 0 ∈ ls := by
  rw [List.getD_eq_getElem?_getD, List.getElem?_eq_getElem h]
  exact List.getElem_mem h
theorem getD_append_left' {ls ms : List Int} {k : Nat} (h : k < ls.length) : (ls ++ ms).getD k 0 = ls.getD k 0 := by
  rw [List.getD_eq_getElem?_getD, List.getElem?_append_left h, ← List.getD_eq_getElem?_getD]
theorem filter_ne_length {n a : Nat} (h : a < n) : ((List.range n).filter fun i => !(i == a)).length = n - 1 := by
  have e : (List.range n).filter (fun i => !(i == a)) = (List.range n).erase a := by
    rw [List.Nodup.erase_eq_filter List.nodup_range]
    apply List.filter_congr
    intro x _
    rfl
  rw [e, List.length_erase_of_mem (by simpa using h), List.length_range]
theorem if_ok {α : Type} {b : Bool} {x y : α} : (if b = true then R.ok x else R.ok y) = R.ok (if b = true then x else y) := by cases b <;> rfl
theorem cut_nat {xs : List PV} {a b : Nat} (h1 : a ≤ b) (h2 : b ≤ xs.length) : cutP xs (some (a : Int)) (some (b : Int)) = (xs.drop a).take (b - a) := by
  unfold cutP sIxP
  simp only
  rw [if_neg (by omega), if_neg (by omega)]
  have e1 : min (a : Int).toNat xs.length = a := by omega
  have e2 : min (b : Int).toNat xs.length = b := by omega
  rw [e1, e2]
theorem cut4 {ds : List Int} {a : Nat} (h : a + 4 ≤ ds.length) : cutP (ds.map .int) (some (a : Int)) (some ((a + 4 : Nat) : Int)) = [.int (ds.getD a 0), .int (ds.getD (a + 1) 0), .int (ds.getD (a + 2) 0), .int (ds.getD (a + 3) 0)] := by
  rw [cut_nat (by omega) (by rw [List.length_map]; omega), Nat.add_sub_cancel_left]
  apply List.ext_getElem?
  intro j
  rw [List.getElem?_take, List.getElem?_drop, List.getElem?_map]
  by_cases hj : j < 4
  · rw [if_pos hj, List.getElem?_eq_getElem (by omega)]
    have : j = 0 ∨ j = 1 ∨ j = 2 ∨ j = 3 := by omega
    rcases this with rfl | rfl | rfl | rfl <;> simp [List.getD_eq_getElem?_getD, List.getElem?_eq_getElem (show a < ds.length by omega), List.getElem?_eq_getElem (show a + 1 < ds.length by omega), List.getElem?_eq_getElem (show a + 2 < ds.length by omega), List.getElem?_eq_getElem (show a + 3 < ds.length by omega)]
  · rw [if_neg hj, List.getElem?_eq_none (by simp; omega)]
theorem setP_rng {n : Nat} {g : Nat → PV} {o : Int} {v : PV} (h0 : 0 ≤ o) (h1 : o < n) : setP (.lst (rng n g)) (.int o) v = .ok (.lst (rng n fun h => if (h : Int) = o then v else g h)) := by
  obtain ⟨j, rfl⟩ := Int.eq_ofNat_of_zero_le h0
  rw [setP_nat (by rw [rng_length]; omega), rng_set (by omega)]
  congr 2
  apply rng_congr
  intro i _
  by_cases h : i = j
  · rw [if_pos h, if_pos (by omega)]
  · rw [if_neg h, if_neg (by omega)]
theorem compL_ints {f : PV → R (Option PV)} {p : Int → Bool} {g : Int → PV} : ∀ {ls : List Int}, (∀ z ∈ ls, f (.int z) = .ok (if p z = true then some (g z) else none)) → compL f (ls.map .int) = .ok ((ls.filter p).map g)
  | [], _ => rfl
  | z :: ls, h => by
    rw [List.map_cons]
    unfold compL
    rw [h z List.mem_cons_self, R.bind_ok, compL_ints fun w hw => h w (List.mem_cons_of_mem _ hw), R.bind_ok, List.filter_cons]
    cases p z <;> rfl
theorem inSeq_ints {z : Int} {ls : List Int} : inSeqP (.int z) (ls.map .int) = .ok (ls.any fun y => y == z) := by
  unfold inSeqP
  have h1 : shapedP (.int z) = true := (Shp.int 0 z).ok (by decide)
  have h2 : shapedP (.lst (ls.map .int)) = true := (Shp.lst (k := 0) fun x hx => by
    obtain ⟨w, _, rfl⟩ := List.mem_map.mp hx
    exact Shp.int 0 w).ok (by decide)
  rw [h1, h2]
  simp only [Bool.and_self, if_true, List.any_map]
  rfl
theorem intsOf_map : ∀ ls : List Int, intsOf (ls.map .int) = some ls
  | [] => rfl
  | x :: ls => by
    rw [List.map_cons]
    unfold intsOf
    rw [intsOf_map ls]
theorem maxI_ge : ∀ (ls : List Int) (m : Int), m ≤ maxI m ls ∧ ∀ x ∈ ls, x ≤ maxI m ls
  | [], m => ⟨Int.le_refl _, fun x h => nomatch h⟩
  | y :: ls, m => by
    obtain ⟨h1, h2⟩ := maxI_ge ls (if m < y then y else m)
    unfold maxI
    have h3 : m ≤ if m < y then y else m := by split <;> omega
    have h4 : y ≤ if m < y then y else m := by split <;> omega
    refine ⟨Int.le_trans h3 h1, fun x hx => ?_⟩
    rcases List.mem_cons.mp hx with rfl | hx
    · exact Int.le_trans h4 h1
    · exact h2 x hx
theorem maxI_in : ∀ (ls : List Int) (m : Int), maxI m ls = m ∨ maxI m ls ∈ ls
  | [], m => .inl rfl
  | y :: ls, m => by
    unfold maxI
    rcases maxI_in ls (if m < y then y else m) with h | h
    · rw [h]
      split
      · exact .inr List.mem_cons_self
      · exact .inl rfl
    · exact .inr (List.mem_cons_of_mem _ h)
theorem maxl_def (xs : List PV) : bi1 .maxl (.lst xs) = match intsOf xs with
  | some (i :: is) => .ok (.int (maxI i is))
  | _ => .bad := rfl
theorem maxl_ints {x : Int} {ls : List Int} : bi1 .maxl (.lst (.int x :: ls.map .int)) = .ok (.int (maxI x ls)) := by
  have : intsOf (PV.int x :: ls.map PV.int) = some (x :: ls) := intsOf_map (x :: ls)
  rw [maxl_def, this]
theorem modP {i j : Int} (h : 0 < j) : (if decide (0 < j) = true then R.ok (PV.int (i % j)) else R.bad) = .ok (.int (i % j)) := by
  rw [if_pos (decide_eq_true h)]
theorem appP_lst {xs : List PV} {v : PV} (h : xs.length < 16777216) : appP (.lst xs) v = .ok (.lst (xs ++ [v])) := by
  unfold appP
  exact if_pos h
theorem mulOk_r {i j : Int} (h : -(2 ^ 64) < j ∧ j < 2 ^ 64) : mulOk i j = true := by
  unfold mulOk
  exact decide_eq_true (.inr h)
theorem mulOk_l {i j : Int} (h : -(2 ^ 64) < i ∧ i < 2 ^ 64) : mulOk i j = true := by
  unfold mulOk
  exact decide_eq_true (.inl h)
/-- binary operators on ints -/
theorem bin_mod {i j : Int} (h : 0 < j) : binP .mod (.int i) (.int j) = .ok (.int (i % j)) := by
  unfold binP
  exact if_pos (decide_eq_true h)
theorem bin_fdiv {i j : Int} (h : 0 < j) (h2 : j < 2 ^ 64) : binP .fdiv (.int i) (.int j) = .ok (.int (i / j)) := by
  unfold binP
  exact if_pos (decide_eq_true ⟨h, h2⟩)
theorem bin_mulr {i j : Int} (h : -(2 ^ 64) < j) (h2 : j < 2 ^ 64) : binP .mul (.int i) (.int j) = .ok (.int (i * j)) := by
  unfold binP
  exact if_pos (mulOk_r ⟨h, h2⟩)
theorem bin_mull {i j : Int} (h : -(2 ^ 64) < i) (h2 : i < 2 ^ 64) : binP .mul (.int i) (.int j) = .ok (.int (i * j)) := by
  unfold binP
  exact if_pos (mulOk_l ⟨h, h2⟩)
theorem bin_add {i j : Int} : binP .add (.int i) (.int j) = .ok (.int (i + j)) := rfl
theorem bin_sub {i j : Int} : binP .sub (.int i) (.int j) = .ok (.int (i - j)) := rfl
theorem bin_pow {i j : Int} (h : 0 ≤ j) (h1 : j ≤ 1000000) (h2 : i.natAbs < 2 ^ 64) : binP .pow (.int i) (.int j) = .ok (.int (i ^ j.toNat)) := by
  unfold binP
  exact if_pos (decide_eq_true ⟨h, h1, h2⟩)
theorem bin_cat {xs ys : List PV} (h : xs.length + ys.length ≤ 16777216) : binP .add (.lst xs) (.lst ys) = .ok (.lst (xs ++ ys)) := by
  unfold binP
  exact if_pos h
theorem bin_rep {xs : List PV} {j : Int} (h0 : 0 ≤ j) (h1 : j < 1000) (h : xs.length * j.toNat ≤ 16777216) : binP .mul (.lst xs) (.int j) = .ok (.lst (repP xs j.toNat)) := by
  unfold binP
  refine if_pos ?_
  rw [Bool.and_eq_true, Bool.and_eq_true, decide_eq_true_eq, decide_eq_true_eq, decide_eq_true_eq]
  exact ⟨⟨by omega, by omega⟩, h⟩
end PY

/-! PyG1: a run in a lesser environment tells the run in a greater one; loops by states. -/
namespace PY
open PySem
/-- slots told are the same -/
def Le : PEnv → PEnv → Prop
  | [], [] => True
  | none :: a, _ :: b => Le a b
  | some x :: a, o :: b => o = some x ∧ Le a b
  | _, _ => False
theorem Le.refl : ∀ e : PEnv, Le e e
  | [] => True.intro
  | none :: e => Le.refl e
  | some x :: e => ⟨rfl, Le.refl e⟩
theorem Le.get : ∀ {e f : PEnv} {i : Nat} {v : PV}, Le e f → e[i]? = some (some v) → f[i]? = some (some v)
  | [], [], i, v, _, h => by simp at h
  | none :: a, o :: b, 0, v, _, h => by simp at h
  | none :: a, o :: b, i + 1, v, l, h => by
    rw [List.getElem?_cons_succ] at h ⊢
    exact Le.get (e := a) (f := b) l h
  | some x :: a, o :: b, 0, v, l, h => by
    obtain ⟨rfl, _⟩ := l
    simpa using h
  | some x :: a, o :: b, i + 1, v, l, h => by
    rw [List.getElem?_cons_succ] at h ⊢
    exact Le.get (e := a) (f := b) l.2 h
  | none :: a, [], _, _, l, _ => l.elim
  | some x :: a, [], _, _, l, _ => l.elim
  | [], _ :: _, _, _, l, _ => l.elim
theorem Le.set {v : PV} : ∀ {e f : PEnv} (i : Nat), Le e f → Le (e.set i (some v)) (f.set i (some v))
  | [], [], i, _ => by cases i <;> exact True.intro
  | none :: a, o :: b, 0, l => ⟨rfl, l⟩
  | none :: a, o :: b, i + 1, l => Le.set (e := a) (f := b) i l
  | some x :: a, o :: b, 0, l => ⟨rfl, l.2⟩
  | some x :: a, o :: b, i + 1, l => ⟨l.1, Le.set (e := a) (f := b) i l.2⟩
  | none :: a, [], _, l => l.elim
  | some x :: a, [], _, l => l.elim
  | [], _ :: _, _, l => l.elim
theorem Le.wipe1 : ∀ {e f : PEnv} (i : Nat), Le e f → Le (e.set i none) (f.set i none)
  | [], [], i, _ => by cases i <;> exact True.intro
  | none :: a, o :: b, 0, l => l
  | none :: a, o :: b, i + 1, l => Le.wipe1 (e := a) (f := b) i l
  | some x :: a, o :: b, 0, l => l.2
  | some x :: a, o :: b, i + 1, l => ⟨l.1, Le.wipe1 (e := a) (f := b) i l.2⟩
  | none :: a, [], _, l => l.elim
  | some x :: a, [], _, l => l.elim
  | [], _ :: _, _, l => l.elim
theorem Le.wipe {e f : PEnv} (l : Le e f) : ∀ is : List Nat, Le (wipeP e is) (wipeP f is)
  | [] => l
  | i :: is => (Le.wipe l is).wipe1 i
theorem Le.trans : ∀ {a b c : PEnv}, Le a b → Le b c → Le a c
  | [], [], [], _, _ => True.intro
  | none :: a, o :: b, p :: c, h, h' => by
    cases o with
    | none => exact Le.trans (a := a) (b := b) (c := c) h h'
    | some y => exact Le.trans (a := a) (b := b) (c := c) h h'.2
  | some x :: a, o :: b, p :: c, h, h' => by
    obtain ⟨rfl, h⟩ := h
    exact ⟨h'.1, Le.trans (a := a) (b := b) (c := c) h h'.2⟩
  | [], [], _ :: _, _, h => h.elim
  | [], _ :: _, _, h, _ => h.elim
  | none :: _, [], _, h, _ => h.elim
  | some _ :: _, [], _, h, _ => h.elim
  | none :: _, none :: _, [], _, h => h.elim
  | none :: _, some _ :: _, [], _, h => h.elim
  | some _ :: _, none :: _, [], h, _ => by cases h.1
  | some _ :: _, some _ :: _, [], _, h => h.elim
/-- less defined -/
def RLe {α : Type} (r s : R α) : Prop := r = .bad ∨ r = s
theorem RLe.refl {α : Type} (r : R α) : RLe r r := .inr rfl
theorem RLe.bind {α β : Type} {r s : R α} {f g : α → R β} (h : RLe r s) (k : ∀ a, r = .ok a → RLe (f a) (g a)) : RLe (r.bind f) (s.bind g) := by
  rcases h with rfl | rfl
  · exact .inl rfl
  · cases r with
    | ok a => exact k a rfl
    | ex e => exact .inr rfl
    | bad => exact .inl rfl
def RLeE (r s : R PEnv) : Prop := match r with
  | .ok e => ∃ e', s = .ok e' ∧ Le e e'
  | .ex x => s = .ex x
  | .bad => True
theorem RLeE.bind {β : Type} {r s : R PEnv} {f g : PEnv → R β} (h : RLeE r s) (k : ∀ e e', Le e e' → RLe (f e) (g e')) : RLe (r.bind f) (s.bind g) := by
  cases r with
  | ok e =>
    obtain ⟨e', rfl, l⟩ := h
    exact k e e' l
  | ex x =>
    have : s = .ex x := h
    subst this
    exact .inr rfl
  | bad => exact .inl rfl
theorem setMany_le : ∀ {is : List Nat} {vs : List PV} {e f : PEnv}, Le e f → (setMany e is vs = none ∧ setMany f is vs = none) ∨ ∃ e' f', setMany e is vs = some e' ∧ setMany f is vs = some f' ∧ Le e' f'
  | [], [], e, f, l => .inr ⟨e, f, rfl, rfl, l⟩
  | i :: is, v :: vs, e, f, l => setMany_le (is := is) (vs := vs) (l.set i)
  | [], _ :: _, _, _, _ => .inl ⟨rfl, rfl⟩
  | _ :: _, [], _, _, _ => .inl ⟨rfl, rfl⟩
theorem bindT_le {tg : Tg} {v : PV} {e f : PEnv} (l : Le e f) : RLeE (bindT tg v e) (bindT tg v f) := by
  have m : ∀ (is : List Nat) (vs : List PV), RLeE (match setMany e is vs with
    | some e => .ok e
    | none => .bad) (match setMany f is vs with
    | some e => .ok e
    | none => .bad) := fun is vs => by
    rcases setMany_le (is := is) (vs := vs) l with ⟨h1, h2⟩ | ⟨e', f', h1, h2, h3⟩
    · rw [h1]; exact True.intro
    · rw [h1, h2]; exact ⟨f', rfl, h3⟩
  cases tg with
  | var i => exact ⟨_, rfl, l.set i⟩
  | tup is => cases v <;> first | exact True.intro | exact m is _
theorem getS_ok' {env : PEnv} {i : Nat} {v : PV} (h : getS env i = .ok v) : env[i]? = some (some v) := by
  unfold getS at h
  split at h
  · injection h with h; subst h; assumption
  · cases h
theorem getS_le {e f : PEnv} (l : Le e f) (i : Nat) : RLe (getS e i) (getS f i) := by
  cases h : getS e i with
  | ok v =>
    have := l.get (getS_ok' h)
    unfold getS
    rw [this]
    exact .inr rfl
  | ex x => unfold getS at h; split at h <;> cases h
  | bad => exact .inl rfl
theorem compL_le {f g : PV → R (Option PV)} (h : ∀ v, RLe (f v) (g v)) : ∀ vs, RLe (compL f vs) (compL g vs)
  | [] => .inr rfl
  | v :: vs => RLe.bind (h v) fun o _ => RLe.bind (compL_le h vs) fun r _ => .inr rfl
section
variable {Φ : Fns} {fu : Nat}
mutual
theorem evE_le : ∀ (c : CE) {e f : PEnv}, Le e f → RLe (evE Φ c e) (evE Φ c f)
  | .cnon, _, _, l => .inr rfl
  | .cbl b, _, _, l => .inr rfl
  | .cint i, _, _, l => .inr rfl
  | .cstr x, _, _, l => .inr rfl
  | .var i, _, _, l => by unfold evE; exact getS_le l i
  | .bor i, _, _, l => by unfold evE; exact getS_le l i
  | .bin op a b, _, _, l => by unfold evE; exact (evE_le a l).bind fun x _ => (evE_le b l).bind fun y _ => .inr rfl
  | .neg a, _, _, l => by unfold evE; exact (evE_le a l).bind fun x _ => .inr rfl
  | .cmp op a b, _, _, l => by unfold evE; exact (evE_le a l).bind fun x _ => (evE_le b l).bind fun y _ => .inr rfl
  | .bop k es, _, _, l => by unfold evE; exact evB_le k es l
  | .not a, _, _, l => by unfold evE; exact (evE_le a l).bind fun x _ => .inr rfl
  | .ite c a b, _, _, l => by
    unfold evE
    refine (evE_le c l).bind fun x hx => ?_
    clear hx
    cases x <;> first | exact .inl rfl | skip
    rename_i k
    cases k
    · exact evE_le b l
    · exact evE_le a l
  | .tup es, _, _, l => by unfold evE; exact (evEs_le es l).bind fun x _ => .inr rfl
  | .lst _ es, _, _, l => by unfold evE; exact (evEs_le es l).bind fun x _ => .inr rfl
  | .dct1 k v, _, _, l => by unfold evE; exact (evE_le k l).bind fun x _ => (evE_le v l).bind fun y _ => .inr rfl
  | .idx a i, _, _, l => by unfold evE; exact (evE_le a l).bind fun x _ => (evE_le i l).bind fun y _ => .inr rfl
  | .slc a lo hi, _, _, l => by unfold evE; exact (evE_le a l).bind fun x _ => (evE_le lo l).bind fun y _ => (evE_le hi l).bind fun y _ => .inr rfl
  | .call f es, _, _, l => by unfold evE; exact (evEs_le es l).bind fun x _ => .inr rfl
  | .bi b es, _, _, l => by unfold evE; exact (evEs_le es l).bind fun x _ => .inr rfl
  | .isi a t, _, _, l => by unfold evE; exact (evE_le a l).bind fun x _ => .inr rfl
  | .comp elt tg it conds own, _, _, l => by
    unfold evE
    refine (evI_le it l).bind fun vs _ => (compL_le (fun v => (bindT_le (l.wipe own)).bind fun e1 f1 l1 => (evC_le conds l1).bind fun b hb => ?_) vs).bind fun r _ => .inr rfl
    clear hb
    cases b
    · exact .inr rfl
    · exact (evE_le elt l1).bind fun y _ => .inr rfl
theorem evEs_le : ∀ (c : List CE) {e f : PEnv}, Le e f → RLe (evEs Φ c e) (evEs Φ c f)
  | [], _, _, l => .inr rfl
  | c :: cs, _, _, l => by unfold evEs; exact (evE_le c l).bind fun x _ => (evEs_le cs l).bind fun y _ => .inr rfl
theorem evB_le (k : Bool) : ∀ (c : List CE) {e f : PEnv}, Le e f → RLe (evB Φ k c e) (evB Φ k c f)
  | [], _, _, l => .inr rfl
  | c :: cs, _, _, l => by
    unfold evB
    refine (evE_le c l).bind fun x hx => ?_
    clear hx
    have ih := evB_le k cs l
    cases cs with
    | nil => exact .inr rfl
    | cons d ds =>
      cases x <;> first | exact .inl rfl | skip
      rename_i b
      show RLe (if (b == k) = true then _ else _) (if (b == k) = true then _ else _)
      split
      · exact ih
      · exact .inr rfl
theorem evC_le : ∀ (c : List CE) {e f : PEnv}, Le e f → RLe (evC Φ c e) (evC Φ c f)
  | [], _, _, l => .inr rfl
  | c :: cs, _, _, l => by unfold evC; exact (evE_le c l).bind fun x _ => .inr rfl
theorem evI_le : ∀ (c : CI) {e f : PEnv}, Le e f → RLe (evI Φ c e) (evI Φ c f)
  | .seq c, _, _, l => by unfold evI; exact (evE_le c l).bind fun x _ => .inr rfl
  | .rng1 c, _, _, l => by unfold evI; exact (evE_le c l).bind fun x _ => .inr rfl
  | .rng2 a b, _, _, l => by unfold evI; exact (evE_le a l).bind fun x _ => (evE_le b l).bind fun y _ => .inr rfl
  | .enu c, _, _, l => by unfold evI; exact (evE_le c l).bind fun x _ => .inr rfl
  | .keys c, _, _, l => by unfold evI; exact (evE_le c l).bind fun x _ => .inr rfl
end
def SLe (r s : SR) : Prop := match r with
  | .nx e => ∃ e', s = .nx e' ∧ Le e e'
  | .bk e => ∃ e', s = .bk e' ∧ Le e e'
  | .ct e => ∃ e', s = .ct e' ∧ Le e e'
  | .rt v => s = .rt v
  | .ex x => s = .ex x
  | .bad => True
theorem SLe.refl : ∀ r : SR, SLe r r
  | .nx e => ⟨e, rfl, .refl e⟩
  | .bk e => ⟨e, rfl, .refl e⟩
  | .ct e => ⟨e, rfl, .refl e⟩
  | .rt v => rfl
  | .ex x => rfl
  | .bad => True.intro
theorem SLe.trans {a b c : SR} (h : SLe a b) (h' : SLe b c) : SLe a c := by
  cases a with
  | nx e =>
    obtain ⟨e1, rfl, l⟩ := h
    obtain ⟨e2, rfl, l2⟩ := h'
    exact ⟨e2, rfl, l.trans l2⟩
  | bk e =>
    obtain ⟨e1, rfl, l⟩ := h
    obtain ⟨e2, rfl, l2⟩ := h'
    exact ⟨e2, rfl, l.trans l2⟩
  | ct e =>
    obtain ⟨e1, rfl, l⟩ := h
    obtain ⟨e2, rfl, l2⟩ := h'
    exact ⟨e2, rfl, l.trans l2⟩
  | rt v =>
    have : b = .rt v := h
    subst this
    exact h'
  | ex v =>
    have : b = .ex v := h
    subst this
    exact h'
  | bad => exact True.intro
theorem RLe.st {α : Type} {r s : R α} {f g : α → SR} (h : RLe r s) (k : ∀ a, SLe (f a) (g a)) : SLe (r.st f) (s.st g) := by
  rcases h with rfl | rfl
  · exact True.intro
  · cases r with
    | ok a => exact k a
    | ex e => exact rfl
    | bad => exact True.intro
theorem RLeE.st {r s : R PEnv} {f g : PEnv → SR} (h : RLeE r s) (k : ∀ e e', Le e e' → SLe (f e) (g e')) : SLe (r.st f) (s.st g) := by
  cases r with
  | ok e =>
    obtain ⟨e', rfl, l⟩ := h
    exact k e e' l
  | ex x =>
    have : s = .ex x := h
    subst this
    exact rfl
  | bad => exact True.intro
theorem SLe.next {r s : SR} {f g : PEnv → SR} (h : SLe r s) (k : ∀ e e', Le e e' → SLe (f e) (g e')) : SLe (r.next f) (s.next g) := by
  cases r with
  | nx e =>
    obtain ⟨e', rfl, l⟩ := h
    exact k e e' l
  | bk e =>
    obtain ⟨e', rfl, l⟩ := h
    exact ⟨e', rfl, l⟩
  | ct e =>
    obtain ⟨e', rfl, l⟩ := h
    exact ⟨e', rfl, l⟩
  | rt v =>
    have : s = .rt v := h
    subst this
    exact rfl
  | ex v =>
    have : s = .ex v := h
    subst this
    exact rfl
  | bad => exact True.intro
theorem forL_le {f g : PV → PEnv → SR} (h : ∀ v e e', Le e e' → SLe (f v e) (g v e')) : ∀ (vs : List PV) {e e' : PEnv}, Le e e' → SLe (forL f vs e) (forL g vs e')
  | [], e, e', l => ⟨e', rfl, l⟩
  | v :: vs, e, e', l => by
    have hv := h v e e' l
    unfold forL
    cases hf : f v e with
    | nx a =>
      rw [hf] at hv
      obtain ⟨b, hb, l2⟩ := hv
      rw [hb]
      exact forL_le h vs l2
    | ct a =>
      rw [hf] at hv
      obtain ⟨b, hb, l2⟩ := hv
      rw [hb]
      exact forL_le h vs l2
    | bk a =>
      rw [hf] at hv
      obtain ⟨b, hb, l2⟩ := hv
      rw [hb]
      exact ⟨b, rfl, l2⟩
    | rt a =>
      rw [hf] at hv
      have hb : g v e' = .rt a := hv
      rw [hb]
      exact rfl
    | ex a =>
      rw [hf] at hv
      have hb : g v e' = .ex a := hv
      rw [hb]
      exact rfl
    | bad => exact True.intro
theorem whileL_le {c d : PEnv → R PV} {f g : PEnv → SR} (hc : ∀ e e', Le e e' → RLe (c e) (d e')) (h : ∀ e e', Le e e' → SLe (f e) (g e')) : ∀ (n : Nat) {e e' : PEnv}, Le e e' → SLe (whileL c f n e) (whileL d g n e')
  | 0, _, _, l => True.intro
  | n + 1, e, e', l => by
    unfold whileL
    refine (hc e e' l).st fun x => ?_
    have hv := h e e' l
    cases x <;> first | exact True.intro | skip
    rename_i b
    cases b
    · exact ⟨e', rfl, l⟩
    · show SLe (match f e with
        | .nx e => whileL c f n e
        | .ct e => whileL c f n e
        | .bk e => .nx e
        | r => r) (match g e' with
        | .nx e => whileL d g n e
        | .ct e => whileL d g n e
        | .bk e => .nx e
        | r => r)
      cases hf : f e with
      | nx a =>
        rw [hf] at hv
        obtain ⟨b, hb, l2⟩ := hv
        rw [hb]
        exact whileL_le hc h n l2
      | ct a =>
        rw [hf] at hv
        obtain ⟨b, hb, l2⟩ := hv
        rw [hb]
        exact whileL_le hc h n l2
      | bk a =>
        rw [hf] at hv
        obtain ⟨b, hb, l2⟩ := hv
        rw [hb]
        exact ⟨b, rfl, l2⟩
      | rt a =>
        rw [hf] at hv
        have hb : g e' = .rt a := hv
        rw [hb]
        exact rfl
      | ex a =>
        rw [hf] at hv
        have hb : g e' = .ex a := hv
        rw [hb]
        exact rfl
      | bad => exact True.intro
mutual
theorem evS_le : ∀ (c : CS) {e f : PEnv}, Le e f → SLe (evS Φ fu c e) (evS Φ fu c f)
  | .asg _ tg c, _, _, l => by unfold evS; exact (evE_le c l).st fun v => (bindT_le l).st fun e e' l => ⟨e', rfl, l⟩
  | .setI i ix c, _, _, l => by unfold evS; exact (evE_le c l).st fun v => (getS_le l i).st fun x => (evE_le ix l).st fun k => (RLe.refl _).st fun y => ⟨_, rfl, l.set i⟩
  | .app i c, _, _, l => by unfold evS; exact (getS_le l i).st fun x => (evE_le c l).st fun v => (RLe.refl _).st fun y => ⟨_, rfl, l.set i⟩
  | .app1 i ix c, _, _, l => by unfold evS; exact (getS_le l i).st fun x => (evE_le ix l).st fun k => (evE_le c l).st fun v => (RLe.refl _).st fun y => ⟨_, rfl, l.set i⟩
  | .appPop i j ix, _, _, l => by unfold evS; exact (getS_le l i).st fun x => (getS_le l j).st fun y => (evE_le ix l).st fun k => (RLe.refl _).st fun p => (RLe.refl _).st fun y => ⟨_, rfl, (l.set j).set i⟩
  | .asgPop tg j ix, _, _, l => by unfold evS; exact (getS_le l j).st fun y => (evE_le ix l).st fun k => (RLe.refl _).st fun p => (bindT_le (l.set j)).st fun e e' l => ⟨e', rfl, l⟩
  | .ite c a b, _, _, l => by
    unfold evS
    refine (evE_le c l).st fun x => ?_
    cases x <;> first | exact True.intro | skip
    rename_i k
    cases k
    · exact evSs_le b l
    · exact evSs_le a l
  | .for tg it body, _, _, l => by
    unfold evS
    exact (evI_le it l).st fun vs => forL_le (f := fun v e => (bindT tg v e).st (evSs Φ fu body)) (g := fun v e => (bindT tg v e).st (evSs Φ fu body)) (fun v e e' l => (bindT_le l).st fun e e' l => evSs_le body l) vs l
  | .while c body, _, _, l => by
    unfold evS
    exact whileL_le (fun e e' l => evE_le c l) (fun e e' l => evSs_le body l) fu l
  | .ret c, _, _, l => by unfold evS; exact (evE_le c l).st fun v => rfl
  | .retN, _, _, l => rfl
  | .raise k es, _, _, l => by unfold evS; exact (evEs_le es l).st fun v => rfl
  | .pass, _, _, l => ⟨_, rfl, l⟩
  | .brk, _, _, l => ⟨_, rfl, l⟩
  | .cont, _, _, l => ⟨_, rfl, l⟩
  | .exp c, _, _, l => by unfold evS; exact (evE_le c l).st fun v => ⟨_, rfl, l⟩
  | .frz _, _, _, l => ⟨_, rfl, l⟩
theorem evSs_le : ∀ (c : List CS) {e f : PEnv}, Le e f → SLe (evSs Φ fu c e) (evSs Φ fu c f)
  | [], _, _, l => ⟨_, rfl, l⟩
  | c :: cs, _, _, l => by
    unfold evSs
    exact (evS_le c l).next fun e e' l => evSs_le cs l
end
/-! ### what is shown of a run -/
/-- a step ends, the slots told are there -/
def Nx (s : SR) (e : PEnv) : Prop := SLe (.nx e) s
/-- an end with a value -/
def Ret (s : SR) (v : PV) : Prop := s.fin = .ok v
theorem Nx_nx {e e' : PEnv} : Nx (.nx e') e = Le e e' := propext ⟨fun ⟨w, h, l⟩ => by cases h; exact l, fun l => ⟨_, rfl, l⟩⟩
theorem Ret_rt {v w : PV} : Ret (.rt v) w = (v = w) := propext ⟨fun h => by cases h; rfl, fun h => by rw [h]; rfl⟩
theorem Ret_nx {e : PEnv} {w : PV} : Ret (.nx e) w = (.non = w) := propext ⟨fun h => by cases h; rfl, fun h => by rw [← h]; rfl⟩
theorem le_nil : Le [] [] = True := rfl
theorem le_none {o : Option PV} {a b : PEnv} : Le (none :: a) (o :: b) = Le a b := rfl
theorem le_some {x y : PV} {a b : PEnv} : Le (some x :: a) (some y :: b) = (y = x ∧ Le a b) := propext ⟨fun h => ⟨Option.some.inj h.1, h.2⟩, fun h => ⟨by rw [h.1], h.2⟩⟩
theorem Ret.mono {s t : SR} {v : PV} (h : Ret s v) (l : SLe s t) : Ret t v := by
  cases s with
  | nx e =>
    obtain ⟨e', rfl, _⟩ := l
    exact h
  | rt w =>
    have : t = .rt w := l
    subst this
    exact h
  | ex x => cases h
  | bk e => cases h
  | ct e => cases h
  | bad => cases h
theorem Nx.mono {s t : SR} {e : PEnv} (h : Nx s e) (l : SLe s t) : Nx t e := SLe.trans h l
theorem forF_le {tg : Tg} {body : List CS} (v : PV) (e e' : PEnv) (l : Le e e') : SLe (forF Φ fu tg body v e) (forF Φ fu tg body v e') := (bindT_le l).st fun e e' l => evSs_le body l
/-- a loop by its states -/
theorem forL_st {tg : Tg} {body : List CS} (E : Nat → PEnv) : ∀ {vs : List PV} {env : PEnv}, Le (E 0) env → (∀ i v, vs[i]? = some v → Nx (forF Φ fu tg body v (E i)) (E (i + 1))) → Nx (forL (forF Φ fu tg body) vs env) (E vs.length)
  | [], env, h0, _ => ⟨env, rfl, h0⟩
  | v :: vs, env, h0, hs => by
    obtain ⟨e1, h1, l1⟩ := (hs 0 v rfl).mono (forF_le v _ _ h0)
    have := forL_st (tg := tg) (body := body) (fun i => E (i + 1)) (vs := vs) (env := e1) l1 fun i w hw => hs (i + 1) w (by simpa using hw)
    unfold forL
    rw [h1]
    exact this
theorem for_any {P : SR → Prop} (hP : ∀ s t, P s → SLe s t → P t) {tg : Tg} {body rest : List CS} {vs : List PV} {env : PEnv} (E : Nat → PEnv) (h0 : Le (E 0) env) (hs : ∀ i v, vs[i]? = some v → Nx (forF Φ fu tg body v (E i)) (E (i + 1))) (hk : P (evSs Φ fu rest (E vs.length))) : P ((forL (forF Φ fu tg body) vs env).next (evSs Φ fu rest)) := by
  obtain ⟨e1, h1, l1⟩ := forL_st E h0 hs
  rw [h1]
  exact hP _ _ hk (evSs_le rest l1)
theorem rngN {tg : Tg} {body : List CS} {n : Nat} {g : Nat → PV} {E : Nat → PEnv} (hs : ∀ i, i < n → Nx (forF Φ fu tg body (g i) (E i)) (E (i + 1))) : ∀ i v, (rng n g)[i]? = some v → Nx (forF Φ fu tg body v (E i)) (E (i + 1)) := fun i v hv => by
  by_cases h : i < n
  · rw [rng_get h] at hv; cases hv; exact hs i h
  · rw [rng_get_none (by omega)] at hv; cases hv
theorem mapN {α : Type} {tg : Tg} {body : List CS} {ls : List α} {g : α → PV} {E : Nat → PEnv} (hs : ∀ i a, ls[i]? = some a → Nx (forF Φ fu tg body (g a) (E i)) (E (i + 1))) : ∀ i v, (ls.map g)[i]? = some v → Nx (forF Φ fu tg body v (E i)) (E (i + 1)) := fun i v hv => by
  rw [List.getElem?_map] at hv
  cases h : ls[i]? with
  | none => rw [h] at hv; cases hv
  | some a => rw [h] at hv; cases hv; exact hs i a h
theorem forR_F {tg : Tg} {body rest : List CS} {n : Nat} {g : Nat → PV} {env : PEnv} {r : PV} (E : Nat → PEnv) (h0 : Le (E 0) env) (hs : ∀ i, i < n → Nx (forF Φ fu tg body (g i) (E i)) (E (i + 1))) (hk : Ret (evSs Φ fu rest (E n)) r) : Ret ((forL (forF Φ fu tg body) (rng n g) env).next (evSs Φ fu rest)) r :=
  for_any (P := fun s => Ret s r) (fun s t h l => h.mono l) E h0 (rngN hs) (by rwa [rng_length])
theorem forR_N {tg : Tg} {body rest : List CS} {n : Nat} {g : Nat → PV} {env r : PEnv} (E : Nat → PEnv) (h0 : Le (E 0) env) (hs : ∀ i, i < n → Nx (forF Φ fu tg body (g i) (E i)) (E (i + 1))) (hk : Nx (evSs Φ fu rest (E n)) r) : Nx ((forL (forF Φ fu tg body) (rng n g) env).next (evSs Φ fu rest)) r :=
  for_any (P := fun s => Nx s r) (fun s t h l => h.mono l) E h0 (rngN hs) (by rwa [rng_length])
theorem forR_L {tg : Tg} {body : List CS} {n : Nat} {g : Nat → PV} {env r : PEnv} (E : Nat → PEnv) (h0 : Le (E 0) env) (hs : ∀ i, i < n → Nx (forF Φ fu tg body (g i) (E i)) (E (i + 1))) (hk : Le r (E n)) : Nx (forL (forF Φ fu tg body) (rng n g) env) r := by
  have := forL_st E h0 (rngN hs)
  rw [rng_length] at this
  exact SLe.trans (b := .nx (E n)) ⟨_, rfl, hk⟩ this
theorem forM_F {α : Type} {tg : Tg} {body rest : List CS} {ls : List α} {g : α → PV} {env : PEnv} {r : PV} (E : Nat → PEnv) (h0 : Le (E 0) env) (hs : ∀ i a, ls[i]? = some a → Nx (forF Φ fu tg body (g a) (E i)) (E (i + 1))) (hk : Ret (evSs Φ fu rest (E ls.length)) r) : Ret ((forL (forF Φ fu tg body) (ls.map g) env).next (evSs Φ fu rest)) r :=
  for_any (P := fun s => Ret s r) (fun s t h l => h.mono l) E h0 (mapN hs) (by rwa [List.length_map])
theorem forM_N {α : Type} {tg : Tg} {body rest : List CS} {ls : List α} {g : α → PV} {env r : PEnv} (E : Nat → PEnv) (h0 : Le (E 0) env) (hs : ∀ i a, ls[i]? = some a → Nx (forF Φ fu tg body (g a) (E i)) (E (i + 1))) (hk : Nx (evSs Φ fu rest (E ls.length)) r) : Nx ((forL (forF Φ fu tg body) (ls.map g) env).next (evSs Φ fu rest)) r :=
  for_any (P := fun s => Nx s r) (fun s t h l => h.mono l) E h0 (mapN hs) (by rwa [List.length_map])
theorem forM_L {α : Type} {tg : Tg} {body : List CS} {ls : List α} {g : α → PV} {env r : PEnv} (E : Nat → PEnv) (h0 : Le (E 0) env) (hs : ∀ i a, ls[i]? = some a → Nx (forF Φ fu tg body (g a) (E i)) (E (i + 1))) (hk : Le r (E ls.length)) : Nx (forL (forF Φ fu tg body) (ls.map g) env) r := by
  have := forL_st E h0 (mapN hs)
  rw [List.length_map] at this
  exact SLe.trans (b := .nx (E ls.length)) ⟨_, rfl, hk⟩ this
/-- a loop that may return -/
theorem forL_find {P : SR → Prop} (hP : ∀ s t, P s → SLe s t → P t) {tg : Tg} {body rest : List CS} (E : Nat → PEnv) : ∀ {vs : List PV} {env : PEnv}, Le (E 0) env → (∀ i v, vs[i]? = some v → Nx (forF Φ fu tg body v (E i)) (E (i + 1)) ∨ ∃ w, SLe (.rt w) (forF Φ fu tg body v (E i)) ∧ P (.rt w)) → P (evSs Φ fu rest (E vs.length)) → P ((forL (forF Φ fu tg body) vs env).next (evSs Φ fu rest))
  | [], env, h0, _, hk => hP _ _ hk (evSs_le rest h0)
  | v :: vs, env, h0, hs, hk => by
    rcases hs 0 v rfl with h1 | ⟨w, h1, hw⟩
    · obtain ⟨e1, h1, l1⟩ := h1.mono (forF_le v _ _ h0)
      have := forL_find hP (tg := tg) (body := body) (rest := rest) (fun i => E (i + 1)) (vs := vs) (env := e1) l1 (fun i w hw => hs (i + 1) w (by simpa using hw)) hk
      have e2 : forL (forF Φ fu tg body) (v :: vs) env = forL (forF Φ fu tg body) vs e1 := by
        show (match forF Φ fu tg body v env with
          | .nx e => forL _ vs e
          | .ct e => forL _ vs e
          | .bk e => .nx e
          | r => r) = _
        rw [h1]
      rw [e2]
      exact this
    · have h2 : forF Φ fu tg body v env = .rt w := SLe.trans h1 (forF_le v _ _ h0)
      have e2 : forL (forF Φ fu tg body) (v :: vs) env = .rt w := by
        show (match forF Φ fu tg body v env with
          | .nx e => forL _ vs e
          | .ct e => forL _ vs e
          | .bk e => .nx e
          | r => r) = _
        rw [h2]
      rw [e2]
      exact hw
end
end PY

/-! PyG2: rows with bounds (omega finds them), levels, sequences of either kind. -/
namespace PY
open PySem
/-- one level down -/
theorem lv {Γ : List FnD} {fu k i : Nat} {d : FnD} {vs : List PV} (h : Γ[i]? = some d) : fnsOf Γ fu (k + 1) i vs = runD (fnsOf Γ fu k) fu d vs := by
  show (match Γ[i]? with
    | some d => runD (fnsOf Γ fu k) fu d vs
    | none => R.bad) = _
  rw [h]
theorem goF {Γ : List FnD} {fu k i : Nat} {d : FnD} {vs : List PV} {v : PV} (h : Γ[i]? = some d) (hl : vs.length = d.ar) (H : Ret (evSs (fnsOf Γ fu k) fu d.body (vs.map some ++ List.replicate (d.N.length - vs.length) none)) v) : fnsOf Γ fu (k + 1) i vs = .ok v := by
  rw [lv h, runD_eq hl]
  exact H
/-- a sequence, a tuple or a list -/
def SeqV (v : PV) (xs : List PV) : Prop := v = .tup xs ∨ v = .lst xs
section
variable {v : PV} {xs : List PV}
theorem SeqV.ix (h : SeqV v xs) (i : Int) : idxP v (.int i) = atP xs i := by rcases h with rfl | rfl <;> rfl
theorem SeqV.list (h : SeqV v xs) : bi1 .list v = .ok (.lst xs) := by rcases h with rfl | rfl <;> rfl
theorem SeqV.tuple (h : SeqV v xs) : bi1 .tuple v = .ok (.tup xs) := by rcases h with rfl | rfl <;> rfl
theorem SeqV.len (h : SeqV v xs) : bi1 .len v = .ok (.int xs.length) := by rcases h with rfl | rfl <;> rfl
theorem SeqV.enu (h : SeqV v xs) : enuV v = .ok (enumP 0 xs) := by rcases h with rfl | rfl <;> rfl
theorem SeqV.seq (h : SeqV v xs) : seqV v = .ok xs := by rcases h with rfl | rfl <;> rfl
theorem SeqV.some (h : SeqV v xs) : isNon v = false := by rcases h with rfl | rfl <;> rfl
theorem SeqV.bind (h : SeqV v xs) {o : Option PV} {l : PEnv} {is : List Nat} : bindT (.tup is) v (o :: l) = many is xs (o :: l) := by rcases h with rfl | rfl <;> rfl
theorem SeqV.inn (h : SeqV v xs) (x : PV) : inP x v = inSeqP x xs := by rcases h with rfl | rfl <;> rfl
theorem SeqV.tup (xs : List PV) : SeqV (.tup xs) xs := .inl rfl
theorem SeqV.lst (xs : List PV) : SeqV (.lst xs) xs := .inr rfl
end
/-! ### rows with bounds -/
theorem k_rng1 {n : Nat} (h : n ≤ 1000) : rng1V (.int (n : Int)) = .ok (rng n fun i => .int i) := rng1_nat h
theorem k_rng1s {n : Nat} (h : n + 1 ≤ 1000) : rng1V (.int ((n : Int) + 1)) = .ok (rng (n + 1) fun i => .int i) := rng1_nat (n := n + 1) h
theorem k_at {n i : Nat} {f : Nat → PV} (h : i < n) : atP (rng n f) (i : Int) = .ok (f i) := atP_rng h
theorem k_ats {n i : Nat} {f : Nat → PV} (h : i + 1 < n) : atP (rng n f) ((i : Int) + 1) = .ok (f (i + 1)) := atP_rng (i := i + 1) h
theorem k_at0 {n : Nat} {f : Nat → PV} (h : 0 < n) : atP (rng n f) 0 = .ok (f 0) := atP_rng (i := 0) h
theorem k_at1 {n : Nat} {f : Nat → PV} (h : 1 < n) : atP (rng n f) 1 = .ok (f 1) := atP_rng (i := 1) h
theorem k_set {n i : Nat} {g : Nat → PV} {v : PV} (h : i < n) : setP (.lst (rng n g)) (.int (i : Int)) v = .ok (.lst (rng n fun j => if j = i then v else g j)) := by
  rw [setP_nat (by rw [rng_length]; exact h), rng_set h]
theorem k_app {n : Nat} {g : Nat → PV} {v : PV} (h : n < 1000) : appP (.lst (rng n g)) v = .ok (.lst (rng n g ++ [v])) := appP_lst (by rw [rng_length]; omega)
theorem k_app0 {v : PV} : appP (.lst []) v = .ok (.lst [v]) := rfl
/-- lists told by places -/
theorem kc_nil {f : PV → R (Option PV)} : compL f [] = .ok [] := rfl
def consO (o : Option PV) (r : List PV) : List PV := match o with
  | some y => y :: r
  | none => r
theorem kc_cons {f : PV → R (Option PV)} {v : PV} {vs : List PV} : compL f (v :: vs) = (f v).bind fun o => (compL f vs).bind fun r => .ok (consO o r) := rfl
theorem consO_some {y : PV} {r : List PV} : consO (some y) r = y :: r := rfl
theorem consO_none {r : List PV} : consO none r = r := rfl
theorem if_okP {b : Bool} {x y : PV} : (if b = true then R.ok (some x) else R.ok none) = R.ok (if b = true then some x else none) := by cases b <;> rfl
theorem cast_s (n : Nat) : ((n + 1 : Nat) : Int) = (n : Int) + 1 := by omega
theorem sub_one (i : Int) : i + 1 - 1 = i := by omega
theorem snoc {n : Nat} {g : Nat → PV} : rng n g ++ [g n] = rng (n + 1) g := (rng_succ n g).symm
theorem snoc' {n : Nat} {g : Nat → PV} {v : PV} (h : v = g n) : PV.lst (rng n g ++ [v]) = PV.lst (rng (n + 1) g) := by rw [h, snoc]
theorem upd_if {α : Type} {n i : Nat} {G : α → PV} {a b : Nat → α} {v : PV} (h : v = G (a i)) : PV.lst (rng n fun j => if j = i then v else G (if j < i then a j else b j)) = PV.lst (rng n fun j => G (if j < i + 1 then a j else b j)) := by
  subst h
  refine congrArg PV.lst (rng_congr fun j _ => ?_)
  by_cases h : j = i
  · subst h; rw [if_pos rfl, if_pos (by omega)]
  · rw [if_neg h]
    by_cases h2 : j < i
    · rw [if_pos h2, if_pos (by omega)]
    · rw [if_neg h2, if_neg (by omega)]
theorem upd_none {α : Type} {n i : Nat} {G : α → PV} {a b : Nat → α} (h : a i = b i) : PV.lst (rng n fun j => G (if j < i then a j else b j)) = PV.lst (rng n fun j => G (if j < i + 1 then a j else b j)) := by
  refine congrArg PV.lst (rng_congr fun j _ => ?_)
  by_cases h2 : j < i
  · rw [if_pos h2, if_pos (by omega)]
  · rw [if_neg h2]
    by_cases h3 : j = i
    · subst h3; rw [if_pos (by omega), h]
    · rw [if_neg (by omega)]
/-- the list a comprehension over places makes -/
theorem compR {f : PV → R (Option PV)} {n : Nat} {g : Nat → PV} (h : Nat → PV) (H : ∀ i, i < n → f (g i) = .ok (some (h i))) : compL f (rng n g) = .ok (rng n h) := compL_rng H
theorem compRF {f : PV → R (Option PV)} {n : Nat} {g : Nat → PV} (p : Nat → Bool) (h : Nat → PV) (H : ∀ i, i < n → f (g i) = .ok (if p i = true then some (h i) else none)) : compL f (rng n g) = .ok (((List.range n).filter p).map h) := compL_rngF H
theorem compM {α : Type} {f : PV → R (Option PV)} {g : α → PV} (h : α → PV) : ∀ {ls : List α}, (∀ a, a ∈ ls → f (g a) = .ok (some (h a))) → compL f (ls.map g) = .ok (ls.map h)
  | [], _ => rfl
  | a :: ls, H => by
    rw [List.map_cons]
    unfold compL
    rw [H a List.mem_cons_self, R.bind_ok, compM h fun b hb => H b (List.mem_cons_of_mem _ hb), R.bind_ok]
    rfl
theorem compMF {α : Type} {f : PV → R (Option PV)} {g : α → PV} (p : α → Bool) (h : α → PV) : ∀ {ls : List α}, (∀ a, a ∈ ls → f (g a) = .ok (if p a = true then some (h a) else none)) → compL f (ls.map g) = .ok ((ls.filter p).map h)
  | [], _ => rfl
  | a :: ls, H => by
    rw [List.map_cons]
    unfold compL
    rw [H a List.mem_cons_self, R.bind_ok, compMF p h fun b hb => H b (List.mem_cons_of_mem _ hb), R.bind_ok, List.filter_cons]
    cases p a <;> rfl
theorem upd_ifP {n i : Nat} {a b : Nat → PV} {v : PV} (h : v = a i) : PV.lst (rng n fun j => if j = i then v else if j < i then a j else b j) = PV.lst (rng n fun j => if j < i + 1 then a j else b j) := upd_if (G := fun x => x) h
theorem upd_noneP {n i : Nat} {a b : Nat → PV} (h : a i = b i) : PV.lst (rng n fun j => if j < i then a j else b j) = PV.lst (rng n fun j => if j < i + 1 then a j else b j) := upd_none (G := fun x => x) h
theorem upd_0 {n : Nat} {a b : Nat → PV} : PV.lst (rng n fun j => if j < 0 then a j else b j) = PV.lst (rng n b) := congrArg PV.lst (rng_congr fun j _ => if_neg (by omega))
theorem upd_n {n : Nat} {a b : Nat → PV} : PV.lst (rng n fun j => if j < n then a j else b j) = PV.lst (rng n a) := congrArg PV.lst (rng_congr fun j h => if_pos h)
theorem rngL {n : Nat} {a b : Nat → PV} (h : ∀ i, i < n → a i = b i) : PV.lst (rng n a) = PV.lst (rng n b) := congrArg PV.lst (rng_congr h)
theorem rngT {n : Nat} {a b : Nat → PV} (h : ∀ i, i < n → a i = b i) : PV.tup (rng n a) = PV.tup (rng n b) := congrArg PV.tup (rng_congr h)
theorem take_s {α β : Type} {step : β → α → β} {b : β} {ls : List α} {i : Nat} {a : α} (h : ls[i]? = some a) : (ls.take (i + 1)).foldl step b = step ((ls.take i).foldl step b) a := fold_take h
theorem int_beq {a b : Nat} : ((a : Int) == (b : Int)) = decide (a = b) := by
  rw [Bool.eq_iff_iff, beq_iff_eq, decide_eq_true_eq]
  omega
theorem any_nat {ss : List Nat} {o : Nat} : (ss.any fun y : Nat => (y : Int) == (o : Int)) = decide (o ∈ ss) := by
  rw [Bool.eq_iff_iff, List.any_eq_true, decide_eq_true_eq]
  constructor
  · rintro ⟨x, h1, h2⟩
    have : x = o := by
      have := beq_iff_eq.mp h2
      omega
    subst this
    exact h1
  · intro h
    exact ⟨o, h, beq_self_eq_true _⟩
theorem in_nats {z : Int} {l : List Nat} : inSeqP (.int z) (l.map fun j : Nat => PV.int (j : Int)) = .ok (l.any fun y => (y : Int) == z) := by
  have := inSeq_ints (z := z) (ls := l.map fun j : Nat => (j : Int))
  rw [List.map_map] at this
  rw [List.any_map] at this
  exact this
theorem any_dec {ss : List Nat} {o : Nat} : (ss.any fun y : Nat => decide (y = o)) = decide (o ∈ ss) := by
  rw [← any_nat]
  simp only [int_beq]
theorem succ_ne0 {m : Nat} : ((m : Int) + 1 == 0) = false := by
  rw [beq_eq_false_iff_ne]
  omega
theorem cast_0 : ((0 : Nat) : Int) = 0 := rfl
theorem k_rng_1 : rng1V (.int 1) = .ok (rng 1 fun i => .int i) := rfl
theorem comp_1 {f : PV → R (Option PV)} {g : Nat → PV} : compL f (rng 1 g) = compL f [g 0] := rfl
theorem k_rng_2 : rng1V (.int 2) = .ok (rng 2 fun i => .int i) := rfl
theorem comp_2 {f : PV → R (Option PV)} {g : Nat → PV} : compL f (rng 2 g) = compL f [g 0, g 1] := rfl
theorem k_rng_3 : rng1V (.int 3) = .ok (rng 3 fun i => .int i) := rfl
theorem comp_3 {f : PV → R (Option PV)} {g : Nat → PV} : compL f (rng 3 g) = compL f [g 0, g 1, g 2] := rfl
theorem k_rng_4 : rng1V (.int 4) = .ok (rng 4 fun i => .int i) := rfl
theorem comp_4 {f : PV → R (Option PV)} {g : Nat → PV} : compL f (rng 4 g) = compL f [g 0, g 1, g 2, g 3] := rfl
theorem k_rng_5 : rng1V (.int 5) = .ok (rng 5 fun i => .int i) := rfl
theorem comp_5 {f : PV → R (Option PV)} {g : Nat → PV} : compL f (rng 5 g) = compL f [g 0, g 1, g 2, g 3, g 4] := rfl
theorem k_rng_6 : rng1V (.int 6) = .ok (rng 6 fun i => .int i) := rfl
theorem comp_6 {f : PV → R (Option PV)} {g : Nat → PV} : compL f (rng 6 g) = compL f [g 0, g 1, g 2, g 3, g 4, g 5] := rfl
theorem filt_no {n : Nat} : (List.range n).filter (fun _ => false) = [] := by simp
end PY

namespace K86
open PySem PY
def d0 : FnD := ⟨"entry_of", ["seen", "missed"], 2, [.ite (.cmp .is (.var 1) .cnon) [.ret .cnon] [],
  .ret (.tup [.var 1, .cmp .eq (.var 0) (.bin .sub (.var 1) (.cint 2))])], 0⟩
def d1 : FnD := ⟨"numbers_of", ["moment", "entry", "missed", "is_open"], 2, [.ite (.cmp .is (.var 1) .cnon) [.ret (.tup [.bin .sub (.var 0) (.cint 1), .cnon])] [],
  .asg 0 (.tup [2, 3]) (.var 1),
  .ite (.var 3) [.ret (.tup [.bin .sub (.var 2) (.cint 2), .var 2])] [],
  .ret (.tup [.bin .sub (.var 2) (.cint 1), .var 2])], 0⟩
def d2 : FnD := ⟨"others", ["houses", "house", "other"], 2, [.ret (.comp (.var 2) (.var 2) (.rng1 (.var 0)) [.cmp .ne (.var 2) (.var 1)] [2])], 0⟩
def d3 : FnD := ⟨"stands", ["setting", "story", "house", "moment", "fall"], 4, [.ite (.cmp .eq (.idx (.var 0) (.cint 0)) (.cstr "losses")) [.ret (.cbl true)] [],
  .asg 0 (.var 4) (.idx (.idx (.var 1) (.cint 1)) (.var 2)),
  .ret (.bop false [.cmp .is (.var 4) .cnon, .cmp .lt (.var 3) (.idx (.var 4) (.cint 0))])], 0⟩
def d4 : FnD := ⟨"is_sent", ["setting", "story", "sender", "receiver", "moment", "fall", "lost", "pair"], 5, [.ite (.cmp .eq (.idx (.var 0) (.cint 0)) (.cstr "losses")) [.asg 0 (.var 6) (.comp (.bi .tuple [.var 7]) (.var 7) (.seq (.idx (.idx (.var 1) (.cint 1)) (.bin .sub (.var 4) (.cint 1)))) [] [7]), .ret (.cmp .notin (.tup [.var 2, .var 3]) (.var 6))] [],
  .asg 0 (.var 5) (.idx (.idx (.var 1) (.cint 1)) (.var 2)),
  .ite (.bop false [.cmp .is (.var 5) .cnon, .cmp .lt (.var 4) (.idx (.var 5) (.cint 0))]) [.ret (.cbl true)] [],
  .ret (.bop true [.cmp .eq (.var 4) (.idx (.var 5) (.cint 0)), .cmp .inn (.var 3) (.idx (.var 5) (.cint 1))])], 0⟩
def d5 : FnD := ⟨"check_stands", ["setting", "story", "house", "moment"], 4, [.ite (.not (.call 3 [.var 0, .var 1, .var 2, .var 3])) [.raise 0 []] []], 0⟩
def d6 : FnD := ⟨"heard", ["setting", "story", "house", "moment", "found", "other"], 4, [.exp (.call 5 [.var 0, .var 1, .var 2, .var 3]),
  .asg 0 (.var 4) (.comp (.var 5) (.var 5) (.seq (.call 2 [.idx (.var 0) (.cint 1), .var 2])) [.call 4 [.var 0, .var 1, .var 5, .var 2, .var 3]] [5]),
  .ret (.bi .tuple [.var 4])], 0⟩
def d7 : FnD := ⟨"first_news", ["setting", "story", "house", "known", "seen", "missed", "other"], 3, [.asg 1 (.var 3) (.comp .cnon (.var 6) (.rng1 (.idx (.var 0) (.cint 1))) [] [6]),
  .asg 1 (.var 4) (.comp (.neg (.cint 1)) (.var 6) (.rng1 (.idx (.var 0) (.cint 1))) [] [6]),
  .asg 0 (.var 5) (.comp .cnon (.var 6) (.rng1 (.idx (.var 0) (.cint 1))) [] [6]),
  .setI 3 (.var 2) (.idx (.idx (.var 1) (.cint 0)) (.var 2)),
  .setI 4 (.var 2) (.cint 0),
  .frz 3,
  .frz 4,
  .ret (.tup [.bi .tuple [.var 3], .bi .tuple [.var 4], .bi .tuple [.var 5]])], 0⟩
def d8 : FnD := ⟨"lesser", ["one", "two"], 2, [.ite (.cmp .is (.var 0) .cnon) [.ret (.var 1)] [],
  .ite (.cmp .is (.var 1) .cnon) [.ret (.var 0)] [],
  .ret (.bi .min2 [.var 0, .var 1])], 0⟩
def d9 : FnD := ⟨"later_news", ["setting", "story", "house", "moment", "before", "senders", "sender", "other", "known", "seen", "missed", "part"], 5, [.asg 0 (.var 5) (.call 6 [.var 0, .var 1, .var 2, .var 3]),
  .asg 2 (.tup [8, 9, 10]) (.comp (.bi .list [.var 11]) (.var 11) (.seq (.idx (.var 4) (.var 2))) [] [11]),
  .for (.var 6) (.seq (.var 5)) [.for (.var 7) (.rng1 (.idx (.var 0) (.cint 1))) [.ite (.cmp .isnot (.idx (.idx (.idx (.var 4) (.var 6)) (.cint 0)) (.var 7)) .cnon) [.setI 8 (.var 7) (.idx (.idx (.idx (.var 4) (.var 6)) (.cint 0)) (.var 7))] [], .setI 9 (.var 7) (.bi .max2 [.idx (.bor 9) (.var 7), .idx (.idx (.idx (.var 4) (.var 6)) (.cint 1)) (.var 7)]), .setI 10 (.var 7) (.call 8 [.idx (.bor 10) (.var 7), .idx (.idx (.idx (.var 4) (.var 6)) (.cint 2)) (.var 7)])]],
  .setI 9 (.var 2) (.var 3),
  .for (.var 7) (.rng1 (.idx (.var 0) (.cint 1))) [.ite (.bop true [.cmp .ne (.var 7) (.var 2), .cmp .notin (.var 7) (.var 5)]) [.setI 10 (.var 7) (.call 8 [.idx (.bor 10) (.var 7), .var 3])] []],
  .frz 8,
  .frz 9,
  .frz 10,
  .ret (.tup [.bi .tuple [.var 8], .bi .tuple [.var 9], .bi .tuple [.var 10]])], 0⟩
def d10 : FnD := ⟨"news_table", ["setting", "story", "upto", "rows", "moment", "row", "house"], 3, [.asg 1 (.var 3) (.lst 1 []),
  .for (.var 4) (.rng1 (.bin .add (.var 2) (.cint 1))) [.asg 1 (.var 5) (.lst 1 []), .for (.var 6) (.rng1 (.idx (.var 0) (.cint 1))) [.ite (.not (.call 3 [.var 0, .var 1, .var 6, .var 4])) [.app 5 .cnon] [.ite (.cmp .eq (.var 4) (.cint 0)) [.app 5 (.call 7 [.var 0, .var 1, .var 6])] [.app 5 (.call 9 [.var 0, .var 1, .var 6, .var 4, .idx (.bor 3) (.bin .sub (.var 4) (.cint 1))])]]], .frz 5, .app 3 (.bi .tuple [.var 5])],
  .frz 3,
  .ret (.bi .tuple [.var 3])], 0⟩
def d11 : FnD := ⟨"news", ["setting", "story", "house", "moment"], 4, [.exp (.call 5 [.var 0, .var 1, .var 2, .var 3]),
  .ret (.idx (.idx (.call 10 [.var 0, .var 1, .var 3]) (.var 3)) (.var 2))], 0⟩
def d12 : FnD := ⟨"_law_whole", ["value"], 1, [.ret (.bop true [.isi (.var 0) .int, .not (.isi (.var 0) .bool)])], 0⟩
def d13 : FnD := ⟨"_law_cell", ["script", "k", "seed", "cell"], 2, [.ite (.cmp .lt (.var 1) (.bi .len [.var 0])) [.ret (.idx (.var 0) (.var 1))] [],
  .asg 0 (.var 2) (.cint 17),
  .for (.var 3) (.seq (.var 0)) [.asg 0 (.var 2) (.bin .mod (.bi .int [.bin .add (.bin .mul (.var 2) (.cint 31)) (.bin .mod (.bi .int [.var 3]) (.cint 1000003))]) (.cint 1000003))],
  .ret (.bin .mod (.bi .int [.bin .mul (.bin .mul (.bin .add (.var 2) (.cint 7)) (.bin .add (.var 1) (.cint 3))) (.cint 69621)]) (.cint 2147483647))], 0⟩
def d14 : FnD := ⟨"_law_digits", ["cell", "sizes", "row", "rest", "seed", "k", "size", "twice"], 2, [.asg 1 (.var 2) (.lst 1 []),
  .asg 0 (.var 3) (.bi .int [.var 0]),
  .ite (.cmp .ge (.var 3) (.bin .pow (.cint 10) (.cint 18))) [.asg 0 (.var 3) (.bin .sub (.var 3) (.bin .pow (.cint 10) (.cint 18))), .for (.var 6) (.seq (.var 1)) [.app 2 (.bin .mod (.bi .int [.var 3]) (.var 6)), .asg 0 (.var 3) (.bin .fdiv (.bi .int [.var 3]) (.var 6))], .ret (.bor 2)] [],
  .asg 0 (.var 4) (.bin .mod (.bi .int [.var 3]) (.cint 2147483629)),
  .for (.var 5) (.rng1 (.bi .len [.var 1])) [.asg 0 (.var 4) (.bin .mod (.bi .int [.bin .add (.bin .add (.bin .mul (.var 4) (.cint 48271)) (.bin .mul (.cint 974711) (.var 5))) (.cint 12345)]) (.cint 2147483647)), .asg 0 (.var 7) (.bin .mod (.bi .int [.bin .mul (.var 4) (.bin .add (.bin .fdiv (.var 4) (.cint 65537)) (.cint 3))]) (.cint 2147483629)), .app 2 (.bin .mod (.bin .fdiv (.var 7) (.cint 19)) (.idx (.var 1) (.var 5)))],
  .ret (.bor 2)], 0⟩
def d15 : FnD := ⟨"_law_setting", ["cell", "row", "houses", "most", "faults", "last", "task"], 1, [.asg 0 (.var 1) (.call 14 [.var 0, .lst 1 [.cint 8, .cint 8, .cint 8, .cint 4, .cint 2]]),
  .asg 0 (.var 2) (.idx (.lst 1 [.cint 3, .cint 4, .cint 5, .cint 4, .cint 5, .cint 2, .cint 3, .cint 5]) (.idx (.var 1) (.cint 0))),
  .asg 0 (.var 3) (.bi .max2 [.cint 1, .bin .sub (.var 2) (.cint 2)]),
  .asg 0 (.var 4) (.bi .min2 [.bin .sub (.var 2) (.cint 1), .idx (.lst 1 [.var 3, .var 3, .bin .sub (.var 2) (.cint 1), .bin .sub (.var 2) (.cint 1), .var 3, .cint 1, .cint 2, .cint 0]) (.idx (.var 1) (.cint 1))]),
  .asg 0 (.var 5) (.bi .min2 [.cint 5, .idx (.lst 1 [.bin .add (.var 4) (.cint 1), .bin .add (.var 4) (.cint 1), .bin .add (.var 4) (.cint 2), .cint 5, .cint 4, .cint 3, .cint 2, .cint 1]) (.idx (.var 1) (.cint 2))]),
  .asg 0 (.var 6) (.idx (.lst 1 [.cstr "begun", .cstr "votes", .cstr "leader", .cstr "free"]) (.idx (.var 1) (.cint 3))),
  .ret (.tup [.cstr "falls", .var 2, .var 4, .var 5, .cint 2, .var 6, .idx (.lst 1 [.cstr "lasting", .cstr "standing"]) (.idx (.var 1) (.cint 4))])], 0⟩
def d16 : FnD := ⟨"_law_story", ["setting", "cell", "houses", "row", "style", "left", "order", "k", "begins", "falls", "spare", "many", "part", "others_v", "drawn", "after", "house", "reached", "other", "p"], 2, [.asg 0 (.var 2) (.idx (.var 0) (.cint 1)),
  .asg 0 (.var 3) (.call 14 [.var 1, .bin .add (.bin .add (.bin .add (.lst 1 [.cint 10, .cint 4]) (.bin .mul (.lst 1 [.cint 60]) (.cint 5))) (.bin .mul (.lst 1 [.cint 8]) (.cint 5))) (.bin .mul (.lst 1 [.cint 4, .cint 60, .cint 4, .cint 16]) (.cint 5))]),
  .asg 0 (.var 4) (.idx (.lst 1 [.cint 0, .cint 1, .cint 0, .cint 2, .cint 0, .cint 3, .cint 1, .cint 4, .cint 0, .cint 5]) (.idx (.var 3) (.cint 0))),
  .asg 1 (.var 5) (.comp (.var 16) (.var 16) (.rng1 (.var 2)) [] [16]),
  .asg 1 (.var 6) (.lst 1 []),
  .for (.var 7) (.rng1 (.var 2)) [.appPop 6 5 (.bin .mod (.bi .int [.idx (.var 3) (.bin .add (.cint 2) (.var 7))]) (.bi .len [.bor 5]))],
  .asg 1 (.var 8) (.comp (.idx (.lst 1 [.cint 1, .cint 1, .bi .int [.cmp .gt (.idx (.var 3) (.bin .add (.cint 7) (.var 16))) (.cint 0)], .cint 1]) (.idx (.var 3) (.cint 1))) (.var 16) (.rng1 (.var 2)) [] [16]),
  .ite (.cmp .eq (.bin .mod (.idx (.var 3) (.cint 1)) (.cint 2)) (.cint 1)) [.setI 8 (.idx (.bor 6) (.cint 0)) (.cint 0)] [],
  .asg 1 (.var 9) (.comp .cnon (.var 16) (.rng1 (.var 2)) [] [16]),
  .asg 0 (.var 10) (.idx (.var 0) (.cint 2)),
  .asg 0 (.var 11) (.bi .min2 [.idx (.var 0) (.cint 2), .idx (.var 0) (.cint 3)]),
  .asg 0 (.var 11) (.bin .sub (.var 11) (.bi .int [.bop true [.cmp .eq (.idx (.var 3) (.cint 12)) (.cint 3), .cmp .gt (.var 11) (.cint 1)]])),
  .for (.var 7) (.rng1 (.var 2)) [.asg 0 (.var 12) (.slc (.var 3) (.bin .add (.cint 12) (.bin .mul (.cint 4) (.var 7))) (.bin .add (.cint 16) (.bin .mul (.cint 4) (.var 7)))), .asg 0 (.var 13) (.comp (.var 18) (.var 18) (.rng1 (.var 2)) [.cmp .ne (.var 18) (.idx (.bor 6) (.var 7))] [18]), .asg 0 (.var 14) (.comp (.idx (.var 13) (.var 19)) (.var 19) (.rng1 (.bin .sub (.var 2) (.cint 1))) [.cmp .eq (.bin .mod (.bin .fdiv (.idx (.var 12) (.cint 3)) (.idx (.lst 1 [.cint 1, .cint 2, .cint 4, .cint 8]) (.var 19))) (.cint 2)) (.cint 1)] [19]), .asg 0 (.var 15) (.idx (.bor 6) (.bin .mod (.bi .int [.bin .add (.var 7) (.cint 1)]) (.var 2))), .ite (.bop true [.cmp .eq (.var 4) (.cint 0), .cmp .gt (.var 10) (.cint 0), .cmp .lt (.idx (.var 12) (.cint 0)) (.cint 3)]) [.asg 0 (.var 10) (.bin .sub (.var 10) (.cint 1)), .setI 9 (.idx (.bor 6) (.var 7)) (.tup [.bin .add (.cint 1) (.bin .mod (.bi .int [.idx (.var 12) (.cint 1)]) (.idx (.var 0) (.cint 3))), .bi .tuple [.idx (.lst 1 [.lst 1 [], .lst 1 [.var 15], .var 14, .var 14]) (.idx (.var 12) (.cint 2))]])] [], .ite (.bop true [.cmp .gt (.var 4) (.cint 0), .cmp .lt (.var 7) (.var 11)]) [.asg 0 (.var 17) (.lst 1 [.var 15]), .ite (.cmp .eq (.var 4) (.cint 2)) [.asg 0 (.var 17) (.lst 1 [.idx (.bor 6) (.bin .sub (.var 2) (.cint 1))])] [], .ite (.cmp .eq (.var 4) (.cint 3)) [.asg 0 (.var 17) (.idx (.lst 1 [.lst 1 [.var 15], .lst 1 [], .comp (.var 18) (.var 18) (.seq (.var 13)) [.bop false [.cmp .inn (.var 18) (.var 14), .cmp .eq (.var 18) (.var 15)]] [18], .var 13]) (.idx (.var 12) (.cint 2)))] [], .ite (.bop true [.cmp .eq (.var 4) (.cint 4), .cmp .eq (.var 7) (.bin .sub (.var 11) (.cint 1))]) [.asg 0 (.var 17) (.lst 1 [])] [], .ite (.bop true [.cmp .eq (.var 4) (.cint 5), .cmp .eq (.bin .mod (.var 7) (.cint 2)) (.cint 0)]) [.asg 0 (.var 17) (.comp (.var 18) (.var 18) (.seq (.var 13)) [.cmp .ne (.var 18) (.var 15)] [18])] [], .setI 9 (.idx (.bor 6) (.var 7)) (.tup [.bin .add (.var 7) (.cint 1), .bi .tuple [.var 17]])] []],
  .frz 8,
  .frz 9,
  .ret (.tup [.bi .tuple [.var 8], .bi .tuple [.var 9]])], 0⟩
def d17 : FnD := ⟨"_law_heard", ["setting", "story", "table", "moment", "row", "house", "found", "other", "fall", "sent"], 2, [.asg 1 (.var 2) (.lst 1 []),
  .for (.var 3) (.rng1 (.bin .add (.idx (.var 0) (.cint 3)) (.cint 1))) [.asg 1 (.var 4) (.lst 1 []), .for (.var 5) (.rng1 (.idx (.var 0) (.cint 1))) [.asg 1 (.var 6) (.lst 1 []), .for (.var 7) (.rng1 (.idx (.var 0) (.cint 1))) [.asg 0 (.var 8) (.idx (.idx (.var 1) (.cint 1)) (.var 7)), .asg 0 (.var 9) (.bop false [.cmp .is (.var 8) .cnon, .cmp .gt (.idx (.var 8) (.cint 0)) (.var 3), .bop true [.cmp .eq (.idx (.var 8) (.cint 0)) (.var 3), .cmp .inn (.var 5) (.idx (.var 8) (.cint 1))]]), .ite (.bop true [.cmp .gt (.var 3) (.cint 0), .cmp .ne (.var 7) (.var 5), .var 9]) [.app 6 (.var 7)] []], .ite (.bop false [.cmp .is (.idx (.idx (.var 1) (.cint 1)) (.var 5)) .cnon, .cmp .lt (.var 3) (.idx (.idx (.idx (.var 1) (.cint 1)) (.var 5)) (.cint 0))]) [.frz 6, .app 4 (.var 6)] [.app 4 .cnon, .frz 6]], .frz 4, .app 2 (.var 4)],
  .ret (.bor 2)], 0⟩
def d18 : FnD := ⟨"_law_come", ["heard_v", "come", "moment", "row", "house", "mine", "other", "node"], 1, [.asg 1 (.var 1) (.lst 1 []),
  .for (.var 2) (.rng1 (.bi .len [.var 0])) [.asg 1 (.var 3) (.lst 1 []), .for (.var 4) (.rng1 (.bi .len [.idx (.var 0) (.cint 0)])) [.ite (.cmp .is (.idx (.idx (.var 0) (.var 2)) (.var 4)) .cnon) [.app 3 .cnon] [.asg 1 (.var 5) (.dct1 (.tup [.var 4, .var 2]) (.cbl true)), .ite (.cmp .gt (.var 2) (.cint 0)) [.for (.var 6) (.seq (.bin .add (.lst 1 [.var 4]) (.idx (.idx (.var 0) (.var 2)) (.var 4)))) [.for (.var 7) (.keys (.idx (.idx (.bor 1) (.bin .sub (.var 2) (.cint 1))) (.var 6))) [.setI 5 (.var 7) (.cbl true)]]] [], .frz 5, .app 3 (.var 5)]], .frz 3, .app 1 (.var 3)],
  .ret (.bor 1)], 0⟩
def d19 : FnD := ⟨"_law_news", ["story", "heard_v", "mine", "moment", "houses", "seen", "known", "missed", "j", "first", "at", "k"], 4, [.asg 0 (.var 4) (.bi .len [.idx (.var 0) (.cint 0)]),
  .asg 0 (.var 5) (.comp (.bi .maxl [.bin .add (.lst 1 [.neg (.cint 1)]) (.comp (.var 10) (.var 10) (.rng1 (.bin .add (.var 3) (.cint 1))) [.cmp .inn (.tup [.var 8, .var 10]) (.var 2)] [10])]) (.var 8) (.rng1 (.var 4)) [] [8]),
  .asg 0 (.var 6) (.comp (.idx (.lst 1 [.cnon, .idx (.idx (.var 0) (.cint 0)) (.var 8)]) (.bi .int [.cmp .ge (.idx (.var 5) (.var 8)) (.cint 0)])) (.var 8) (.rng1 (.var 4)) [] [8]),
  .asg 1 (.var 7) (.lst 1 []),
  .for (.var 8) (.rng1 (.var 4)) [.asg 0 (.var 9) .cnon, .for (.var 10) (.rng2 (.cint 1) (.bin .add (.var 3) (.cint 1))) [.ite (.bop true [.cmp .is (.var 9) .cnon, .cmp .gt (.bi .len [.comp (.var 11) (.var 11) (.rng1 (.var 4)) [.bop true [.cmp .ne (.var 11) (.var 8), .cmp .le (.var 10) (.idx (.var 5) (.var 11)), .cmp .notin (.var 8) (.idx (.idx (.var 1) (.var 10)) (.var 11))]] [11]]) (.cint 0)]) [.asg 0 (.var 9) (.var 10)] []], .app 7 (.var 9)],
  .frz 7,
  .ret (.lst 1 [.var 6, .var 5, .var 7])], 0⟩
def d20 : FnD := ⟨"_law_same_number", ["told", "due"], 2, [.ite (.cmp .is (.var 1) .cnon) [.ret (.cmp .is (.var 0) .cnon)] [],
  .ret (.bop true [.call 12 [.var 0], .cmp .eq (.var 0) (.var 1)])], 0⟩
def d21 : FnD := ⟨"_law_same_numbers", ["told", "due", "k"], 2, [.ite (.bop false [.not (.isi (.var 0) .tuple), .cmp .ne (.bi .len [.var 0]) (.bi .len [.var 1])]) [.ret (.cbl false)] [],
  .ret (.cmp .eq (.bi .len [.comp (.var 2) (.var 2) (.rng1 (.bi .len [.var 1])) [.not (.call 20 [.idx (.var 0) (.var 2), .idx (.var 1) (.var 2)])] [2]]) (.cint 0))], 0⟩
def d22 : FnD := ⟨"_law_same_entry", ["told", "due"], 2, [.ite (.cmp .is (.var 1) .cnon) [.ret (.cmp .is (.var 0) .cnon)] [],
  .ite (.bop false [.not (.isi (.var 0) .tuple), .cmp .ne (.bi .len [.var 0]) (.cint 2), .not (.call 12 [.idx (.var 0) (.cint 0)]), .not (.isi (.idx (.var 0) (.cint 1)) .bool)]) [.ret (.cbl false)] [],
  .ret (.cmp .eq (.var 0) (.var 1))], 0⟩
def d23 : FnD := ⟨"_law_listed", ["value", "item"], 1, [.ite (.isi (.var 0) .tuple) [.ret (.comp (.call 23 [.var 1]) (.var 1) (.seq (.var 0)) [] [1])] [],
  .ret (.var 0)], 0⟩
def d24 : FnD := ⟨"_law_all_hold", ["moment", "rows", "missed", "entry", "numbers"], 0, [.for (.var 0) (.rng1 (.cint 6)) [.asg 1 (.var 1) (.lst 1 [.tup [.cnon, .tup [.bin .sub (.var 0) (.cint 1), .cnon]]]), .for (.var 2) (.rng2 (.cint 1) (.bin .add (.var 0) (.cint 1))) [.app 1 (.tup [.tup [.var 2, .cbl true], .tup [.bin .sub (.var 2) (.cint 2), .var 2]]), .ite (.cmp .lt (.var 2) (.var 0)) [.app 1 (.tup [.tup [.var 2, .cbl false], .tup [.bin .sub (.var 2) (.cint 1), .var 2]])] []], .frz 1, .for (.tup [3, 4]) (.seq (.var 1)) [.ite (.not (.call 21 [.call 1 [.var 0, .var 3], .var 4])) [.ret (.cbl false)] [], .ite (.not (.call 22 [.call 0 [.idx (.var 4) (.cint 0), .idx (.var 4) (.cint 1)], .var 3])) [.ret (.cbl false)] []]],
  .ret (.cbl true)], 0⟩
def d25 : FnD := ⟨"_law_table", ["setting", "story", "heard_v", "come", "table", "moment", "row", "house"], 3, [.asg 0 (.var 3) (.call 18 [.var 2]),
  .asg 1 (.var 4) (.lst 1 []),
  .for (.var 5) (.rng1 (.bin .add (.idx (.var 0) (.cint 3)) (.cint 1))) [.asg 1 (.var 6) (.lst 1 []), .for (.var 7) (.rng1 (.idx (.var 0) (.cint 1))) [.ite (.cmp .is (.idx (.idx (.var 2) (.var 5)) (.var 7)) .cnon) [.app 6 .cnon] [.app 6 (.call 19 [.var 1, .var 2, .idx (.idx (.var 3) (.var 5)) (.var 7), .var 5])]], .frz 6, .app 4 (.var 6)],
  .ret (.bor 4)], 0⟩
def d26 : FnD := ⟨"_law_news_hold", ["setting", "story", "table", "asked", "moment", "house", "due", "passed", "told", "k"], 3, [.asg 0 (.var 3) (.tup [.var 0, .var 1]),
  .for (.var 4) (.rng1 (.bin .add (.idx (.var 0) (.cint 3)) (.cint 1))) [.for (.var 5) (.rng1 (.idx (.var 0) (.cint 1))) [.asg 0 (.var 6) (.idx (.idx (.var 2) (.var 4)) (.var 5)), .ite (.cmp .isnot (.var 6) .cnon) [.asg 0 (.var 7) (.var 3), .ite (.cmp .eq (.bin .mod (.bi .int [.bin .add (.var 4) (.var 5)]) (.cint 2)) (.cint 1)) [.asg 0 (.var 7) (.call 23 [.var 3])] [], .asg 0 (.var 8) (.call 11 [.idx (.var 7) (.cint 0), .idx (.var 7) (.cint 1), .var 5, .var 4]), .ite (.bop false [.not (.isi (.var 8) .tuple), .cmp .ne (.bi .len [.var 8]) (.cint 3), .cmp .ne (.call 23 [.var 3]) (.call 23 [.var 7])]) [.ret (.cbl false)] [], .ite (.cmp .gt (.bi .len [.comp (.var 9) (.var 9) (.rng1 (.cint 3)) [.not (.call 21 [.idx (.var 8) (.var 9), .idx (.var 6) (.var 9)])] [9]]) (.cint 0)) [.ret (.cbl false)] []] []]],
  .ret (.cbl true)], 0⟩
def d27 : FnD := ⟨"_law_can_be", ["fall", "house", "moment", "entry"], 4, [.ite (.bop false [.cmp .is (.var 0) .cnon, .cmp .lt (.var 2) (.idx (.var 0) (.cint 0)), .bop true [.cmp .eq (.var 2) (.idx (.var 0) (.cint 0)), .cmp .inn (.var 1) (.idx (.var 0) (.cint 1))]]) [.ret (.cmp .is (.var 3) .cnon)] [],
  .ret (.cmp .inn (.var 3) (.lst 1 [.tup [.idx (.var 0) (.cint 0), .cbl true], .tup [.idx (.var 0) (.cint 0), .cbl false], .tup [.bin .add (.idx (.var 0) (.cint 0)) (.cint 1), .cbl true]]))], 0⟩
def d28 : FnD := ⟨"_law_entries_hold", ["story", "table", "house", "other", "before", "changes", "moment", "seen", "missed", "due", "entry", "passed"], 4, [.asg 0 (.var 4) .cnon,
  .asg 0 (.var 5) (.cint 0),
  .for (.var 6) (.rng1 (.bi .len [.var 1])) [.ite (.cmp .isnot (.idx (.idx (.var 1) (.var 6)) (.var 2)) .cnon) [.asg 0 (.var 7) (.idx (.idx (.idx (.idx (.var 1) (.var 6)) (.var 2)) (.cint 1)) (.var 3)), .asg 0 (.var 8) (.idx (.idx (.idx (.idx (.var 1) (.var 6)) (.var 2)) (.cint 2)) (.var 3)), .asg 0 (.var 9) .cnon, .ite (.cmp .is (.var 8) .cnon) [.ite (.cmp .ne (.var 7) (.bin .sub (.var 6) (.cint 1))) [.ret (.cbl false)] []] [.asg 0 (.var 9) (.tup [.var 8, .cmp .eq (.var 7) (.bin .sub (.var 8) (.cint 2))]), .ite (.bop true [.cmp .ne (.var 7) (.bin .sub (.var 8) (.cint 2)), .cmp .ne (.var 7) (.bin .sub (.var 8) (.cint 1))]) [.ret (.cbl false)] []], .asg 0 (.var 10) (.call 0 [.var 7, .var 8]), .ite (.bop false [.not (.call 22 [.var 10, .var 9]), .not (.call 27 [.idx (.idx (.var 0) (.cint 1)) (.var 3), .var 2, .var 6, .var 10])]) [.ret (.cbl false)] [], .asg 0 (.var 11) (.call 23 [.var 10]), .ite (.bop false [.not (.call 21 [.call 1 [.var 6, .var 11], .tup [.var 7, .var 8]]), .cmp .ne (.var 11) (.call 23 [.var 9])]) [.ret (.cbl false)] [], .ite (.not (.call 21 [.call 1 [.var 6, .var 9], .tup [.var 7, .var 8]])) [.ret (.cbl false)] [], .ite (.cmp .ne (.var 10) (.var 4)) [.ite (.cmp .is (.var 10) .cnon) [.ret (.cbl false)] [], .asg 0 (.var 5) (.bin .add (.var 5) (.cint 1))] [], .asg 0 (.var 4) (.var 10)] []],
  .ret (.cmp .le (.var 5) (.cint 2))], 0⟩
def d29 : FnD := ⟨"law", ["script", "setting", "stories", "tables", "house", "k", "story", "other"], 1, [.asg 0 (.var 1) (.call 15 [.call 13 [.var 0, .cint 0]]),
  .asg 0 (.var 2) (.lst 1 [.call 16 [.var 1, .call 13 [.var 0, .cint 1]], .call 16 [.var 1, .call 13 [.var 0, .cint 2]]]),
  .asg 0 (.var 3) (.comp (.call 25 [.var 1, .var 6, .call 17 [.var 1, .var 6]]) (.var 6) (.seq (.var 2)) [] [6]),
  .ite (.bop false [.not (.call 24 []), .not (.call 26 [.var 1, .idx (.var 2) (.cint 0), .idx (.var 3) (.cint 0)])]) [.ret (.cbl false)] [],
  .for (.var 4) (.rng1 (.idx (.var 1) (.cint 1))) [.for (.var 5) (.rng1 (.cint 2)) [.for (.var 7) (.rng1 (.idx (.var 1) (.cint 1))) [.ite (.bop true [.cmp .ne (.var 7) (.var 4), .not (.call 28 [.idx (.var 2) (.var 5), .idx (.var 3) (.var 5), .var 4, .var 7])]) [.ret (.cbl false)] []]]],
  .ret (.cbl true)], 0⟩
def tab : List FnD := [d0, d1, d2, d3, d4, d5, d6, d7, d8, d9, d10, d11, d12, d13, d14, d15, d16, d17, d18, d19, d20, d21, d22, d23, d24, d25, d26, d27, d28, d29]
def at_ : List Nat := [1, 2, 7, 8, 9, 10, 11, 13, 14, 15, 16, 17, 19, 20, 21, 22, 23, 24, 25, 26, 27, 28, 29, 30, 31, 32, 33, 34, 35, 36]
/-- an int or None -/
def oP : Option Int → PV
  | none => .non
  | some i => .int i
theorem oP_none : oP none = .non := rfl
theorem oP_some (x : Int) : oP (some x) = .int x := rfl
def lesserO : Option Int → Option Int → Option Int
  | none, b => b
  | a, none => a
  | some a, some b => some (if b < a then b else a)
section
variable {Φ : Fns} {fu : Nat}
theorem f_lesser (a b : Option Int) : runD Φ fu d8 [oP a, oP b] = .ok (oP (lesserO a b)) := by
  rw [runD_eq rfl]
  cases a <;> cases b <;> simp -implicitDefEqProofs only [SR.fin_nx, SR.fin_rt, Ok_ok, ex_nx, R.bind_ok, R.st_ok, SR.next_nx, SR.next_rt, SR.next_bk, SR.next_ct, x_cnon, x_cbl, x_cint, x_cstr, x_var, x_bor, x_bin, x_neg, x_cmp, x_bop, x_bcons, x_not, x_ite, x_tup, x_lst, x_dct1, x_idx, x_slc, x_call, x_bi, x_isi, x_comp, x_nil, x_cons, x_c0, x_c1, x_seq, x_rng1, x_rng2, x_enu, x_keys, y_nil, y_cons, y_asg, y_setI, y_app, y_appPop, y_asgPop, y_ite, y_for, y_while, y_ret, y_retN, y_raise, y_pass, y_brk, y_cont, y_frz, y_exp, b_var, b_tup, b_lst, m_nil, m_cons, g_zero, g_succ, w_nil, w_cons, next_next, next_nil, forF_eq, boolK_nil, boolK_cons, bK_tt, bK_tf, bK_ft, bK_ff, bK_and, bK_or, iteV_bl, iteS_bl, notV_bl, negV_int, condV_bl, seqV_lst, seqV_tup, seqV_scr, enuV_lst, enuV_tup, keysV_dct, compF_eq, biP_1, biP_2, len_lst, len_tup, len_scr, int_int, int_bl, list_lst, list_tup, tuple_lst, tuple_tup, min_int, max_int, abs_int, c_eq, c_ne, c_lt, c_le, c_gt, c_ge, c_is, c_isnot, c_inn, c_notin, in_lst, in_tup, ix_lst, ix_tup, ix_scr, eq_int, eq_bl, eq_str, isNon_non, isNon_int, isNon_tup, isNon_lst, isNon_dct, isNon_bl, isNon_str, bin_add, bin_sub, bin_mod, bin_fdiv, List.set_cons_zero, List.set_cons_succ, List.length_cons, List.length_nil, List.map_cons, List.map_nil, List.cons_append, List.nil_append, List.replicate_succ, List.replicate_zero, ↓reduceIte, Bool.false_eq_true, Int.reduceLT, Int.reducePow, Int.reduceNeg, Int.reduceLE, Int.reduceAdd, Int.reduceSub, Int.reduceMul, Int.reduceMod, Int.reduceDiv, Bool.not_true, Bool.not_false, Bool.true_beq, Bool.false_beq, Bool.and_true, Bool.true_and, Bool.and_false, Bool.false_and, Bool.or_true, Bool.true_or, Bool.or_false, Bool.false_or, Nat.reduceAdd, Nat.reduceSub, Nat.zero_add, Nat.sub_self, part_no, part_int, slc_lst, slc_tup, isNoE, isiV, isiOk, isiP, at_zero, at_1, at_2, at_3, d8, oP, lesserO]
def wholeB : PV → Bool
  | .int _ => true
  | _ => false
theorem f_whole (v : PV) (h : isiOk v = true) : runD Φ fu d12 [v] = .ok (.bl (wholeB v)) := by
  rw [runD_eq rfl]
  cases v <;> first | (cases h; done) | simp -implicitDefEqProofs only [SR.fin_nx, SR.fin_rt, Ok_ok, ex_nx, R.bind_ok, R.st_ok, SR.next_nx, SR.next_rt, SR.next_bk, SR.next_ct, x_cnon, x_cbl, x_cint, x_cstr, x_var, x_bor, x_bin, x_neg, x_cmp, x_bop, x_bcons, x_not, x_ite, x_tup, x_lst, x_dct1, x_idx, x_slc, x_call, x_bi, x_isi, x_comp, x_nil, x_cons, x_c0, x_c1, x_seq, x_rng1, x_rng2, x_enu, x_keys, y_nil, y_cons, y_asg, y_setI, y_app, y_appPop, y_asgPop, y_ite, y_for, y_while, y_ret, y_retN, y_raise, y_pass, y_brk, y_cont, y_frz, y_exp, b_var, b_tup, b_lst, m_nil, m_cons, g_zero, g_succ, w_nil, w_cons, next_next, next_nil, forF_eq, boolK_nil, boolK_cons, bK_tt, bK_tf, bK_ft, bK_ff, bK_and, bK_or, iteV_bl, iteS_bl, notV_bl, negV_int, condV_bl, seqV_lst, seqV_tup, seqV_scr, enuV_lst, enuV_tup, keysV_dct, compF_eq, biP_1, biP_2, len_lst, len_tup, len_scr, int_int, int_bl, list_lst, list_tup, tuple_lst, tuple_tup, min_int, max_int, abs_int, c_eq, c_ne, c_lt, c_le, c_gt, c_ge, c_is, c_isnot, c_inn, c_notin, in_lst, in_tup, ix_lst, ix_tup, ix_scr, eq_int, eq_bl, eq_str, isNon_non, isNon_int, isNon_tup, isNon_lst, isNon_dct, isNon_bl, isNon_str, bin_add, bin_sub, bin_mod, bin_fdiv, List.set_cons_zero, List.set_cons_succ, List.length_cons, List.length_nil, List.map_cons, List.map_nil, List.cons_append, List.nil_append, List.replicate_succ, List.replicate_zero, ↓reduceIte, Bool.false_eq_true, Int.reduceLT, Int.reducePow, Int.reduceNeg, Int.reduceLE, Int.reduceAdd, Int.reduceSub, Int.reduceMul, Int.reduceMod, Int.reduceDiv, Bool.not_true, Bool.not_false, Bool.true_beq, Bool.false_beq, Bool.and_true, Bool.true_and, Bool.and_false, Bool.false_and, Bool.or_true, Bool.true_or, Bool.or_false, Bool.false_or, Nat.reduceAdd, Nat.reduceSub, Nat.zero_add, Nat.sub_self, part_no, part_int, slc_lst, slc_tup, isNoE, isiV, isiOk, isiP, at_zero, at_1, at_2, at_3, d12, wholeB]
/-- the script's cells -/
theorem f_cell (ns : List Int) (k : Nat) (hk : k < 1000) : Ok (runD Φ fu d13 [.scr ns, .int (k : Int)]) fun v => ∃ c : Int, v = .int c := by
  rw [runD_eq rfl]
  by_cases h : (k : Int) < ns.length
  · have e : atP (ns.map .int) (k : Int) = .ok (.int (ns.getD k 0)) := atP_ints (by omega) h
    simp -implicitDefEqProofs only [SR.fin_nx, SR.fin_rt, Ok_ok, ex_nx, R.bind_ok, R.st_ok, SR.next_nx, SR.next_rt, SR.next_bk, SR.next_ct, x_cnon, x_cbl, x_cint, x_cstr, x_var, x_bor, x_bin, x_neg, x_cmp, x_bop, x_bcons, x_not, x_ite, x_tup, x_lst, x_dct1, x_idx, x_slc, x_call, x_bi, x_isi, x_comp, x_nil, x_cons, x_c0, x_c1, x_seq, x_rng1, x_rng2, x_enu, x_keys, y_nil, y_cons, y_asg, y_setI, y_app, y_appPop, y_asgPop, y_ite, y_for, y_while, y_ret, y_retN, y_raise, y_pass, y_brk, y_cont, y_frz, y_exp, b_var, b_tup, b_lst, m_nil, m_cons, g_zero, g_succ, w_nil, w_cons, next_next, next_nil, forF_eq, boolK_nil, boolK_cons, bK_tt, bK_tf, bK_ft, bK_ff, bK_and, bK_or, iteV_bl, iteS_bl, notV_bl, negV_int, condV_bl, seqV_lst, seqV_tup, seqV_scr, enuV_lst, enuV_tup, keysV_dct, compF_eq, biP_1, biP_2, len_lst, len_tup, len_scr, int_int, int_bl, list_lst, list_tup, tuple_lst, tuple_tup, min_int, max_int, abs_int, c_eq, c_ne, c_lt, c_le, c_gt, c_ge, c_is, c_isnot, c_inn, c_notin, in_lst, in_tup, ix_lst, ix_tup, ix_scr, eq_int, eq_bl, eq_str, isNon_non, isNon_int, isNon_tup, isNon_lst, isNon_dct, isNon_bl, isNon_str, bin_add, bin_sub, bin_mod, bin_fdiv, List.set_cons_zero, List.set_cons_succ, List.length_cons, List.length_nil, List.map_cons, List.map_nil, List.cons_append, List.nil_append, List.replicate_succ, List.replicate_zero, ↓reduceIte, Bool.false_eq_true, Int.reduceLT, Int.reducePow, Int.reduceNeg, Int.reduceLE, Int.reduceAdd, Int.reduceSub, Int.reduceMul, Int.reduceMod, Int.reduceDiv, Bool.not_true, Bool.not_false, Bool.true_beq, Bool.false_beq, Bool.and_true, Bool.true_and, Bool.and_false, Bool.false_and, Bool.or_true, Bool.true_or, Bool.or_false, Bool.false_or, Nat.reduceAdd, Nat.reduceSub, Nat.zero_add, Nat.sub_self, part_no, part_int, slc_lst, slc_tup, isNoE, isiV, isiOk, isiP, at_zero, at_1, at_2, at_3, d13, h, decide_true, idxP, e]
    exact ⟨_, rfl⟩
  · simp -implicitDefEqProofs only [SR.fin_nx, SR.fin_rt, Ok_ok, ex_nx, R.bind_ok, R.st_ok, SR.next_nx, SR.next_rt, SR.next_bk, SR.next_ct, x_cnon, x_cbl, x_cint, x_cstr, x_var, x_bor, x_bin, x_neg, x_cmp, x_bop, x_bcons, x_not, x_ite, x_tup, x_lst, x_dct1, x_idx, x_slc, x_call, x_bi, x_isi, x_comp, x_nil, x_cons, x_c0, x_c1, x_seq, x_rng1, x_rng2, x_enu, x_keys, y_nil, y_cons, y_asg, y_setI, y_app, y_appPop, y_asgPop, y_ite, y_for, y_while, y_ret, y_retN, y_raise, y_pass, y_brk, y_cont, y_frz, y_exp, b_var, b_tup, b_lst, m_nil, m_cons, g_zero, g_succ, w_nil, w_cons, next_next, next_nil, forF_eq, boolK_nil, boolK_cons, bK_tt, bK_tf, bK_ft, bK_ff, bK_and, bK_or, iteV_bl, iteS_bl, notV_bl, negV_int, condV_bl, seqV_lst, seqV_tup, seqV_scr, enuV_lst, enuV_tup, keysV_dct, compF_eq, biP_1, biP_2, len_lst, len_tup, len_scr, int_int, int_bl, list_lst, list_tup, tuple_lst, tuple_tup, min_int, max_int, abs_int, c_eq, c_ne, c_lt, c_le, c_gt, c_ge, c_is, c_isnot, c_inn, c_notin, in_lst, in_tup, ix_lst, ix_tup, ix_scr, eq_int, eq_bl, eq_str, isNon_non, isNon_int, isNon_tup, isNon_lst, isNon_dct, isNon_bl, isNon_str, bin_add, bin_sub, bin_mod, bin_fdiv, List.set_cons_zero, List.set_cons_succ, List.length_cons, List.length_nil, List.map_cons, List.map_nil, List.cons_append, List.nil_append, List.replicate_succ, List.replicate_zero, ↓reduceIte, Bool.false_eq_true, Int.reduceLT, Int.reducePow, Int.reduceNeg, Int.reduceLE, Int.reduceAdd, Int.reduceSub, Int.reduceMul, Int.reduceMod, Int.reduceDiv, Bool.not_true, Bool.not_false, Bool.true_beq, Bool.false_beq, Bool.and_true, Bool.true_and, Bool.and_false, Bool.false_and, Bool.or_true, Bool.true_or, Bool.or_false, Bool.false_or, Nat.reduceAdd, Nat.reduceSub, Nat.zero_add, Nat.sub_self, part_no, part_int, slc_lst, slc_tup, isNoE, isiV, isiOk, isiP, at_zero, at_1, at_2, at_3, d13, h, decide_false]
    refine for_ok (fun i e => ∃ (s : Int) (x : Option PV), e = [some (.scr ns), some (.int k), some (.int s), x]) ⟨17, none, rfl⟩ (fun i v e hv hi => ?_) (fun e he => ?_)
    · obtain ⟨s, x, rfl⟩ := hi
      have hv' : ∃ z : Int, v = .int z := by
        rw [List.getElem?_map] at hv
        cases h : ns[i]? with
        | none => rw [h] at hv; cases hv
        | some z => rw [h] at hv; cases hv; exact ⟨z, rfl⟩
      obtain ⟨z, rfl⟩ := hv'
      simp -implicitDefEqProofs only [SR.fin_nx, SR.fin_rt, Ok_ok, ex_nx, R.bind_ok, R.st_ok, SR.next_nx, SR.next_rt, SR.next_bk, SR.next_ct, x_cnon, x_cbl, x_cint, x_cstr, x_var, x_bor, x_bin, x_neg, x_cmp, x_bop, x_bcons, x_not, x_ite, x_tup, x_lst, x_dct1, x_idx, x_slc, x_call, x_bi, x_isi, x_comp, x_nil, x_cons, x_c0, x_c1, x_seq, x_rng1, x_rng2, x_enu, x_keys, y_nil, y_cons, y_asg, y_setI, y_app, y_appPop, y_asgPop, y_ite, y_for, y_while, y_ret, y_retN, y_raise, y_pass, y_brk, y_cont, y_frz, y_exp, b_var, b_tup, b_lst, m_nil, m_cons, g_zero, g_succ, w_nil, w_cons, next_next, next_nil, forF_eq, boolK_nil, boolK_cons, bK_tt, bK_tf, bK_ft, bK_ff, bK_and, bK_or, iteV_bl, iteS_bl, notV_bl, negV_int, condV_bl, seqV_lst, seqV_tup, seqV_scr, enuV_lst, enuV_tup, keysV_dct, compF_eq, biP_1, biP_2, len_lst, len_tup, len_scr, int_int, int_bl, list_lst, list_tup, tuple_lst, tuple_tup, min_int, max_int, abs_int, c_eq, c_ne, c_lt, c_le, c_gt, c_ge, c_is, c_isnot, c_inn, c_notin, in_lst, in_tup, ix_lst, ix_tup, ix_scr, eq_int, eq_bl, eq_str, isNon_non, isNon_int, isNon_tup, isNon_lst, isNon_dct, isNon_bl, isNon_str, bin_add, bin_sub, bin_mod, bin_fdiv, List.set_cons_zero, List.set_cons_succ, List.length_cons, List.length_nil, List.map_cons, List.map_nil, List.cons_append, List.nil_append, List.replicate_succ, List.replicate_zero, ↓reduceIte, Bool.false_eq_true, Int.reduceLT, Int.reducePow, Int.reduceNeg, Int.reduceLE, Int.reduceAdd, Int.reduceSub, Int.reduceMul, Int.reduceMod, Int.reduceDiv, Bool.not_true, Bool.not_false, Bool.true_beq, Bool.false_beq, Bool.and_true, Bool.true_and, Bool.and_false, Bool.false_and, Bool.or_true, Bool.true_or, Bool.or_false, Bool.false_or, Nat.reduceAdd, Nat.reduceSub, Nat.zero_add, Nat.sub_self, part_no, part_int, slc_lst, slc_tup, isNoE, isiV, isiOk, isiP, at_zero, at_1, at_2, at_3, bin_mulr]
      exact ⟨_, _, rfl⟩
    · obtain ⟨s, x, rfl⟩ := he
      have m1 := bin_mulr (i := s + 7) (j := (k : Int) + 3) (by omega) (by omega)
      simp -implicitDefEqProofs only [SR.fin_nx, SR.fin_rt, Ok_ok, ex_nx, R.bind_ok, R.st_ok, SR.next_nx, SR.next_rt, SR.next_bk, SR.next_ct, x_cnon, x_cbl, x_cint, x_cstr, x_var, x_bor, x_bin, x_neg, x_cmp, x_bop, x_bcons, x_not, x_ite, x_tup, x_lst, x_dct1, x_idx, x_slc, x_call, x_bi, x_isi, x_comp, x_nil, x_cons, x_c0, x_c1, x_seq, x_rng1, x_rng2, x_enu, x_keys, y_nil, y_cons, y_asg, y_setI, y_app, y_appPop, y_asgPop, y_ite, y_for, y_while, y_ret, y_retN, y_raise, y_pass, y_brk, y_cont, y_frz, y_exp, b_var, b_tup, b_lst, m_nil, m_cons, g_zero, g_succ, w_nil, w_cons, next_next, next_nil, forF_eq, boolK_nil, boolK_cons, bK_tt, bK_tf, bK_ft, bK_ff, bK_and, bK_or, iteV_bl, iteS_bl, notV_bl, negV_int, condV_bl, seqV_lst, seqV_tup, seqV_scr, enuV_lst, enuV_tup, keysV_dct, compF_eq, biP_1, biP_2, len_lst, len_tup, len_scr, int_int, int_bl, list_lst, list_tup, tuple_lst, tuple_tup, min_int, max_int, abs_int, c_eq, c_ne, c_lt, c_le, c_gt, c_ge, c_is, c_isnot, c_inn, c_notin, in_lst, in_tup, ix_lst, ix_tup, ix_scr, eq_int, eq_bl, eq_str, isNon_non, isNon_int, isNon_tup, isNon_lst, isNon_dct, isNon_bl, isNon_str, bin_add, bin_sub, bin_mod, bin_fdiv, List.set_cons_zero, List.set_cons_succ, List.length_cons, List.length_nil, List.map_cons, List.map_nil, List.cons_append, List.nil_append, List.replicate_succ, List.replicate_zero, ↓reduceIte, Bool.false_eq_true, Int.reduceLT, Int.reducePow, Int.reduceNeg, Int.reduceLE, Int.reduceAdd, Int.reduceSub, Int.reduceMul, Int.reduceMod, Int.reduceDiv, Bool.not_true, Bool.not_false, Bool.true_beq, Bool.false_beq, Bool.and_true, Bool.true_and, Bool.and_false, Bool.false_and, Bool.or_true, Bool.true_or, Bool.or_false, Bool.false_or, Nat.reduceAdd, Nat.reduceSub, Nat.zero_add, Nat.sub_self, part_no, part_int, slc_lst, slc_tup, isNoE, isiV, isiOk, isiP, at_zero, at_1, at_2, at_3, bin_mulr, m1]
      exact ⟨_, rfl⟩
/-- digits below their sizes -/
def Dig (ss ds : List Int) : Prop := ds.length = ss.length ∧ ∀ k, k < ss.length → 0 ≤ ds.getD k 0 ∧ ds.getD k 0 < ss.getD k 0
def DigN (ss ds : List Int) (i : Nat) : Prop := ds.length = i ∧ ∀ k, k < i → 0 ≤ ds.getD k 0 ∧ ds.getD k 0 < ss.getD k 0
theorem DigN.snoc {ss ds : List Int} {i : Nat} {d : Int} (h : DigN ss ds i) (h0 : 0 ≤ d) (h1 : d < ss.getD i 0) : DigN ss (ds ++ [d]) (i + 1) := by
  obtain ⟨hl, hd⟩ := h
  refine ⟨by rw [List.length_append, hl]; rfl, fun k hk => ?_⟩
  by_cases e : k = i
  · subst e
    have : (ds ++ [d]).getD k 0 = d := by rw [List.getD_eq_getElem?_getD, List.getElem?_append_right (by omega), hl]; simp
    rw [this]; exact ⟨h0, h1⟩
  · have : (ds ++ [d]).getD k 0 = ds.getD k 0 := by rw [List.getD_eq_getElem?_getD, List.getElem?_append_left (by omega), ← List.getD_eq_getElem?_getD]
    rw [this]; exact hd k (by omega)
theorem get_int {ss : List Int} {i : Nat} {v : PV} (h : (ss.map PV.int)[i]? = some v) : v = .int (ss.getD i 0) ∧ i < ss.length := by
  rw [List.getElem?_map] at h
  cases e : ss[i]? with
  | none => rw [e] at h; cases h
  | some z =>
    rw [e] at h; cases h
    exact ⟨by rw [List.getD_eq_getElem?_getD, e]; rfl, (List.getElem?_eq_some_iff.mp e).1⟩
theorem f_digits (c : Int) (ss : List Int) (hl : ss.length ≤ 1000) (hs : ∀ k, k < ss.length → 0 < ss.getD k 0 ∧ ss.getD k 0 < 2 ^ 64) : Ok (runD Φ fu d14 [.int c, .lst (ss.map .int)]) fun v => ∃ ds : List Int, v = .lst (ds.map .int) ∧ Dig ss ds := by
  rw [runD_eq rfl]
  have p18 : binP .pow (.int 10) (.int 18) = .ok (.int 1000000000000000000) := by
    rw [bin_pow (by omega) (by omega) (by decide)]
    simp
  simp -implicitDefEqProofs only [SR.fin_nx, SR.fin_rt, Ok_ok, ex_nx, R.bind_ok, R.st_ok, SR.next_nx, SR.next_rt, SR.next_bk, SR.next_ct, x_cnon, x_cbl, x_cint, x_cstr, x_var, x_bor, x_bin, x_neg, x_cmp, x_bop, x_bcons, x_not, x_ite, x_tup, x_lst, x_dct1, x_idx, x_slc, x_call, x_bi, x_isi, x_comp, x_nil, x_cons, x_c0, x_c1, x_seq, x_rng1, x_rng2, x_enu, x_keys, y_nil, y_cons, y_asg, y_setI, y_app, y_appPop, y_asgPop, y_ite, y_for, y_while, y_ret, y_retN, y_raise, y_pass, y_brk, y_cont, y_frz, y_exp, b_var, b_tup, b_lst, m_nil, m_cons, g_zero, g_succ, w_nil, w_cons, next_next, next_nil, forF_eq, boolK_nil, boolK_cons, bK_tt, bK_tf, bK_ft, bK_ff, bK_and, bK_or, iteV_bl, iteS_bl, notV_bl, negV_int, condV_bl, seqV_lst, seqV_tup, seqV_scr, enuV_lst, enuV_tup, keysV_dct, compF_eq, biP_1, biP_2, len_lst, len_tup, len_scr, int_int, int_bl, list_lst, list_tup, tuple_lst, tuple_tup, min_int, max_int, abs_int, c_eq, c_ne, c_lt, c_le, c_gt, c_ge, c_is, c_isnot, c_inn, c_notin, in_lst, in_tup, ix_lst, ix_tup, ix_scr, eq_int, eq_bl, eq_str, isNon_non, isNon_int, isNon_tup, isNon_lst, isNon_dct, isNon_bl, isNon_str, bin_add, bin_sub, bin_mod, bin_fdiv, List.set_cons_zero, List.set_cons_succ, List.length_cons, List.length_nil, List.map_cons, List.map_nil, List.cons_append, List.nil_append, List.replicate_succ, List.replicate_zero, ↓reduceIte, Bool.false_eq_true, Int.reduceLT, Int.reducePow, Int.reduceNeg, Int.reduceLE, Int.reduceAdd, Int.reduceSub, Int.reduceMul, Int.reduceMod, Int.reduceDiv, Bool.not_true, Bool.not_false, Bool.true_beq, Bool.false_beq, Bool.and_true, Bool.true_and, Bool.and_false, Bool.false_and, Bool.or_true, Bool.true_or, Bool.or_false, Bool.false_or, Nat.reduceAdd, Nat.reduceSub, Nat.zero_add, Nat.sub_self, part_no, part_int, slc_lst, slc_tup, isNoE, isiV, isiOk, isiP, at_zero, at_1, at_2, at_3, d14, p18]
  by_cases h : (1000000000000000000 : Int) ≤ c
  · simp -implicitDefEqProofs only [SR.fin_nx, SR.fin_rt, Ok_ok, ex_nx, R.bind_ok, R.st_ok, SR.next_nx, SR.next_rt, SR.next_bk, SR.next_ct, x_cnon, x_cbl, x_cint, x_cstr, x_var, x_bor, x_bin, x_neg, x_cmp, x_bop, x_bcons, x_not, x_ite, x_tup, x_lst, x_dct1, x_idx, x_slc, x_call, x_bi, x_isi, x_comp, x_nil, x_cons, x_c0, x_c1, x_seq, x_rng1, x_rng2, x_enu, x_keys, y_nil, y_cons, y_asg, y_setI, y_app, y_appPop, y_asgPop, y_ite, y_for, y_while, y_ret, y_retN, y_raise, y_pass, y_brk, y_cont, y_frz, y_exp, b_var, b_tup, b_lst, m_nil, m_cons, g_zero, g_succ, w_nil, w_cons, next_next, next_nil, forF_eq, boolK_nil, boolK_cons, bK_tt, bK_tf, bK_ft, bK_ff, bK_and, bK_or, iteV_bl, iteS_bl, notV_bl, negV_int, condV_bl, seqV_lst, seqV_tup, seqV_scr, enuV_lst, enuV_tup, keysV_dct, compF_eq, biP_1, biP_2, len_lst, len_tup, len_scr, int_int, int_bl, list_lst, list_tup, tuple_lst, tuple_tup, min_int, max_int, abs_int, c_eq, c_ne, c_lt, c_le, c_gt, c_ge, c_is, c_isnot, c_inn, c_notin, in_lst, in_tup, ix_lst, ix_tup, ix_scr, eq_int, eq_bl, eq_str, isNon_non, isNon_int, isNon_tup, isNon_lst, isNon_dct, isNon_bl, isNon_str, bin_add, bin_sub, bin_mod, bin_fdiv, List.set_cons_zero, List.set_cons_succ, List.length_cons, List.length_nil, List.map_cons, List.map_nil, List.cons_append, List.nil_append, List.replicate_succ, List.replicate_zero, ↓reduceIte, Bool.false_eq_true, Int.reduceLT, Int.reducePow, Int.reduceNeg, Int.reduceLE, Int.reduceAdd, Int.reduceSub, Int.reduceMul, Int.reduceMod, Int.reduceDiv, Bool.not_true, Bool.not_false, Bool.true_beq, Bool.false_beq, Bool.and_true, Bool.true_and, Bool.and_false, Bool.false_and, Bool.or_true, Bool.true_or, Bool.or_false, Bool.false_or, Nat.reduceAdd, Nat.reduceSub, Nat.zero_add, Nat.sub_self, part_no, part_int, slc_lst, slc_tup, isNoE, isiV, isiOk, isiP, at_zero, at_1, at_2, at_3, h, decide_true, p18]
    refine for_ok (fun i e => ∃ (ds : List Int) (r : Int) (x5 x6 x7 : Option PV), e = [some (.int c), some (.lst (ss.map .int)), some (.lst (ds.map .int)), some (.int r), none, none, x6, none] ∧ DigN ss ds i) ⟨[], _, none, none, none, rfl, rfl, fun k hk => by omega⟩ (fun i v e hv hi => ?_) (fun e he => ?_)
    · obtain ⟨ds, r, x5, x6, x7, rfl, hd⟩ := hi
      obtain ⟨rfl, hi⟩ := get_int hv
      obtain ⟨h1, h2⟩ := hs i hi
      have a1 := appP_lst (xs := ds.map PV.int) (v := .int (r % ss.getD i 0)) (by rw [List.length_map, hd.1]; omega)
      simp -implicitDefEqProofs only [SR.fin_nx, SR.fin_rt, Ok_ok, ex_nx, R.bind_ok, R.st_ok, SR.next_nx, SR.next_rt, SR.next_bk, SR.next_ct, x_cnon, x_cbl, x_cint, x_cstr, x_var, x_bor, x_bin, x_neg, x_cmp, x_bop, x_bcons, x_not, x_ite, x_tup, x_lst, x_dct1, x_idx, x_slc, x_call, x_bi, x_isi, x_comp, x_nil, x_cons, x_c0, x_c1, x_seq, x_rng1, x_rng2, x_enu, x_keys, y_nil, y_cons, y_asg, y_setI, y_app, y_appPop, y_asgPop, y_ite, y_for, y_while, y_ret, y_retN, y_raise, y_pass, y_brk, y_cont, y_frz, y_exp, b_var, b_tup, b_lst, m_nil, m_cons, g_zero, g_succ, w_nil, w_cons, next_next, next_nil, forF_eq, boolK_nil, boolK_cons, bK_tt, bK_tf, bK_ft, bK_ff, bK_and, bK_or, iteV_bl, iteS_bl, notV_bl, negV_int, condV_bl, seqV_lst, seqV_tup, seqV_scr, enuV_lst, enuV_tup, keysV_dct, compF_eq, biP_1, biP_2, len_lst, len_tup, len_scr, int_int, int_bl, list_lst, list_tup, tuple_lst, tuple_tup, min_int, max_int, abs_int, c_eq, c_ne, c_lt, c_le, c_gt, c_ge, c_is, c_isnot, c_inn, c_notin, in_lst, in_tup, ix_lst, ix_tup, ix_scr, eq_int, eq_bl, eq_str, isNon_non, isNon_int, isNon_tup, isNon_lst, isNon_dct, isNon_bl, isNon_str, bin_add, bin_sub, bin_mod, bin_fdiv, List.set_cons_zero, List.set_cons_succ, List.length_cons, List.length_nil, List.map_cons, List.map_nil, List.cons_append, List.nil_append, List.replicate_succ, List.replicate_zero, ↓reduceIte, Bool.false_eq_true, Int.reduceLT, Int.reducePow, Int.reduceNeg, Int.reduceLE, Int.reduceAdd, Int.reduceSub, Int.reduceMul, Int.reduceMod, Int.reduceDiv, Bool.not_true, Bool.not_false, Bool.true_beq, Bool.false_beq, Bool.and_true, Bool.true_and, Bool.and_false, Bool.false_and, Bool.or_true, Bool.true_or, Bool.or_false, Bool.false_or, Nat.reduceAdd, Nat.reduceSub, Nat.zero_add, Nat.sub_self, part_no, part_int, slc_lst, slc_tup, isNoE, isiV, isiOk, isiP, at_zero, at_1, at_2, at_3, bin_mod h1, bin_fdiv h1 h2, a1]
      refine ⟨ds ++ [r % ss.getD i 0], _, none, _, none, by rw [List.map_append]; rfl, hd.snoc (Int.emod_nonneg _ (by omega)) (Int.emod_lt_of_pos _ h1)⟩
    · obtain ⟨ds, r, x5, x6, x7, rfl, hd⟩ := he
      simp -implicitDefEqProofs only [SR.fin_nx, SR.fin_rt, Ok_ok, ex_nx, R.bind_ok, R.st_ok, SR.next_nx, SR.next_rt, SR.next_bk, SR.next_ct, x_cnon, x_cbl, x_cint, x_cstr, x_var, x_bor, x_bin, x_neg, x_cmp, x_bop, x_bcons, x_not, x_ite, x_tup, x_lst, x_dct1, x_idx, x_slc, x_call, x_bi, x_isi, x_comp, x_nil, x_cons, x_c0, x_c1, x_seq, x_rng1, x_rng2, x_enu, x_keys, y_nil, y_cons, y_asg, y_setI, y_app, y_appPop, y_asgPop, y_ite, y_for, y_while, y_ret, y_retN, y_raise, y_pass, y_brk, y_cont, y_frz, y_exp, b_var, b_tup, b_lst, m_nil, m_cons, g_zero, g_succ, w_nil, w_cons, next_next, next_nil, forF_eq, boolK_nil, boolK_cons, bK_tt, bK_tf, bK_ft, bK_ff, bK_and, bK_or, iteV_bl, iteS_bl, notV_bl, negV_int, condV_bl, seqV_lst, seqV_tup, seqV_scr, enuV_lst, enuV_tup, keysV_dct, compF_eq, biP_1, biP_2, len_lst, len_tup, len_scr, int_int, int_bl, list_lst, list_tup, tuple_lst, tuple_tup, min_int, max_int, abs_int, c_eq, c_ne, c_lt, c_le, c_gt, c_ge, c_is, c_isnot, c_inn, c_notin, in_lst, in_tup, ix_lst, ix_tup, ix_scr, eq_int, eq_bl, eq_str, isNon_non, isNon_int, isNon_tup, isNon_lst, isNon_dct, isNon_bl, isNon_str, bin_add, bin_sub, bin_mod, bin_fdiv, List.set_cons_zero, List.set_cons_succ, List.length_cons, List.length_nil, List.map_cons, List.map_nil, List.cons_append, List.nil_append, List.replicate_succ, List.replicate_zero, ↓reduceIte, Bool.false_eq_true, Int.reduceLT, Int.reducePow, Int.reduceNeg, Int.reduceLE, Int.reduceAdd, Int.reduceSub, Int.reduceMul, Int.reduceMod, Int.reduceDiv, Bool.not_true, Bool.not_false, Bool.true_beq, Bool.false_beq, Bool.and_true, Bool.true_and, Bool.and_false, Bool.false_and, Bool.or_true, Bool.true_or, Bool.or_false, Bool.false_or, Nat.reduceAdd, Nat.reduceSub, Nat.zero_add, Nat.sub_self, part_no, part_int, slc_lst, slc_tup, isNoE, isiV, isiOk, isiP, at_zero, at_1, at_2, at_3]
      rw [List.length_map] at hd
      exact ⟨ds, rfl, hd⟩
  · simp -implicitDefEqProofs only [SR.fin_nx, SR.fin_rt, Ok_ok, ex_nx, R.bind_ok, R.st_ok, SR.next_nx, SR.next_rt, SR.next_bk, SR.next_ct, x_cnon, x_cbl, x_cint, x_cstr, x_var, x_bor, x_bin, x_neg, x_cmp, x_bop, x_bcons, x_not, x_ite, x_tup, x_lst, x_dct1, x_idx, x_slc, x_call, x_bi, x_isi, x_comp, x_nil, x_cons, x_c0, x_c1, x_seq, x_rng1, x_rng2, x_enu, x_keys, y_nil, y_cons, y_asg, y_setI, y_app, y_appPop, y_asgPop, y_ite, y_for, y_while, y_ret, y_retN, y_raise, y_pass, y_brk, y_cont, y_frz, y_exp, b_var, b_tup, b_lst, m_nil, m_cons, g_zero, g_succ, w_nil, w_cons, next_next, next_nil, forF_eq, boolK_nil, boolK_cons, bK_tt, bK_tf, bK_ft, bK_ff, bK_and, bK_or, iteV_bl, iteS_bl, notV_bl, negV_int, condV_bl, seqV_lst, seqV_tup, seqV_scr, enuV_lst, enuV_tup, keysV_dct, compF_eq, biP_1, biP_2, len_lst, len_tup, len_scr, int_int, int_bl, list_lst, list_tup, tuple_lst, tuple_tup, min_int, max_int, abs_int, c_eq, c_ne, c_lt, c_le, c_gt, c_ge, c_is, c_isnot, c_inn, c_notin, in_lst, in_tup, ix_lst, ix_tup, ix_scr, eq_int, eq_bl, eq_str, isNon_non, isNon_int, isNon_tup, isNon_lst, isNon_dct, isNon_bl, isNon_str, bin_add, bin_sub, bin_mod, bin_fdiv, List.set_cons_zero, List.set_cons_succ, List.length_cons, List.length_nil, List.map_cons, List.map_nil, List.cons_append, List.nil_append, List.replicate_succ, List.replicate_zero, ↓reduceIte, Bool.false_eq_true, Int.reduceLT, Int.reducePow, Int.reduceNeg, Int.reduceLE, Int.reduceAdd, Int.reduceSub, Int.reduceMul, Int.reduceMod, Int.reduceDiv, Bool.not_true, Bool.not_false, Bool.true_beq, Bool.false_beq, Bool.and_true, Bool.true_and, Bool.and_false, Bool.false_and, Bool.or_true, Bool.true_or, Bool.or_false, Bool.false_or, Nat.reduceAdd, Nat.reduceSub, Nat.zero_add, Nat.sub_self, part_no, part_int, slc_lst, slc_tup, isNoE, isiV, isiOk, isiP, at_zero, at_1, at_2, at_3, h, decide_false]
    have hr := rng1_nat hl
    simp -implicitDefEqProofs only [SR.fin_nx, SR.fin_rt, Ok_ok, ex_nx, R.bind_ok, R.st_ok, SR.next_nx, SR.next_rt, SR.next_bk, SR.next_ct, x_cnon, x_cbl, x_cint, x_cstr, x_var, x_bor, x_bin, x_neg, x_cmp, x_bop, x_bcons, x_not, x_ite, x_tup, x_lst, x_dct1, x_idx, x_slc, x_call, x_bi, x_isi, x_comp, x_nil, x_cons, x_c0, x_c1, x_seq, x_rng1, x_rng2, x_enu, x_keys, y_nil, y_cons, y_asg, y_setI, y_app, y_appPop, y_asgPop, y_ite, y_for, y_while, y_ret, y_retN, y_raise, y_pass, y_brk, y_cont, y_frz, y_exp, b_var, b_tup, b_lst, m_nil, m_cons, g_zero, g_succ, w_nil, w_cons, next_next, next_nil, forF_eq, boolK_nil, boolK_cons, bK_tt, bK_tf, bK_ft, bK_ff, bK_and, bK_or, iteV_bl, iteS_bl, notV_bl, negV_int, condV_bl, seqV_lst, seqV_tup, seqV_scr, enuV_lst, enuV_tup, keysV_dct, compF_eq, biP_1, biP_2, len_lst, len_tup, len_scr, int_int, int_bl, list_lst, list_tup, tuple_lst, tuple_tup, min_int, max_int, abs_int, c_eq, c_ne, c_lt, c_le, c_gt, c_ge, c_is, c_isnot, c_inn, c_notin, in_lst, in_tup, ix_lst, ix_tup, ix_scr, eq_int, eq_bl, eq_str, isNon_non, isNon_int, isNon_tup, isNon_lst, isNon_dct, isNon_bl, isNon_str, bin_add, bin_sub, bin_mod, bin_fdiv, List.set_cons_zero, List.set_cons_succ, List.length_cons, List.length_nil, List.map_cons, List.map_nil, List.cons_append, List.nil_append, List.replicate_succ, List.replicate_zero, ↓reduceIte, Bool.false_eq_true, Int.reduceLT, Int.reducePow, Int.reduceNeg, Int.reduceLE, Int.reduceAdd, Int.reduceSub, Int.reduceMul, Int.reduceMod, Int.reduceDiv, Bool.not_true, Bool.not_false, Bool.true_beq, Bool.false_beq, Bool.and_true, Bool.true_and, Bool.and_false, Bool.false_and, Bool.or_true, Bool.true_or, Bool.or_false, Bool.false_or, Nat.reduceAdd, Nat.reduceSub, Nat.zero_add, Nat.sub_self, part_no, part_int, slc_lst, slc_tup, isNoE, isiV, isiOk, isiP, at_zero, at_1, at_2, at_3, List.length_map, hr]
    refine forR_ok (fun i e => ∃ (ds : List Int) (s : Int) (x5 x7 : Option PV), e = [some (.int c), some (.lst (ss.map .int)), some (.lst (ds.map .int)), some (.int c), some (.int s), x5, none, x7] ∧ DigN ss ds i) ⟨[], _, none, none, rfl, rfl, fun k hk => by omega⟩ (fun i e hi he => ?_) (fun e he => ?_)
    · obtain ⟨ds, s, x5, x7, rfl, hd⟩ := he
      obtain ⟨h1, h2⟩ := hs i hi
      have a0 : atP (ss.map PV.int) (i : Int) = .ok (.int (ss.getD i 0)) := atP_ints (by omega) (by omega)
      have b0 := fun x : Int => Int.emod_nonneg x (show (2147483647 : Int) ≠ 0 by decide)
      have b1 := fun x : Int => Int.emod_lt_of_pos x (show (0 : Int) < 2147483647 by decide)
      have m1 := fun x y : Int => bin_mull (i := x % 2147483647) (j := y) (by have := b0 x; omega) (by have := b1 x; omega)
      have a1 := fun x : Int => appP_lst (xs := ds.map PV.int) (v := .int (x % ss.getD i 0)) (by rw [List.length_map, hd.1]; omega)
      simp -implicitDefEqProofs only [SR.fin_nx, SR.fin_rt, Ok_ok, ex_nx, R.bind_ok, R.st_ok, SR.next_nx, SR.next_rt, SR.next_bk, SR.next_ct, x_cnon, x_cbl, x_cint, x_cstr, x_var, x_bor, x_bin, x_neg, x_cmp, x_bop, x_bcons, x_not, x_ite, x_tup, x_lst, x_dct1, x_idx, x_slc, x_call, x_bi, x_isi, x_comp, x_nil, x_cons, x_c0, x_c1, x_seq, x_rng1, x_rng2, x_enu, x_keys, y_nil, y_cons, y_asg, y_setI, y_app, y_appPop, y_asgPop, y_ite, y_for, y_while, y_ret, y_retN, y_raise, y_pass, y_brk, y_cont, y_frz, y_exp, b_var, b_tup, b_lst, m_nil, m_cons, g_zero, g_succ, w_nil, w_cons, next_next, next_nil, forF_eq, boolK_nil, boolK_cons, bK_tt, bK_tf, bK_ft, bK_ff, bK_and, bK_or, iteV_bl, iteS_bl, notV_bl, negV_int, condV_bl, seqV_lst, seqV_tup, seqV_scr, enuV_lst, enuV_tup, keysV_dct, compF_eq, biP_1, biP_2, len_lst, len_tup, len_scr, int_int, int_bl, list_lst, list_tup, tuple_lst, tuple_tup, min_int, max_int, abs_int, c_eq, c_ne, c_lt, c_le, c_gt, c_ge, c_is, c_isnot, c_inn, c_notin, in_lst, in_tup, ix_lst, ix_tup, ix_scr, eq_int, eq_bl, eq_str, isNon_non, isNon_int, isNon_tup, isNon_lst, isNon_dct, isNon_bl, isNon_str, bin_add, bin_sub, bin_mod, bin_fdiv, List.set_cons_zero, List.set_cons_succ, List.length_cons, List.length_nil, List.map_cons, List.map_nil, List.cons_append, List.nil_append, List.replicate_succ, List.replicate_zero, ↓reduceIte, Bool.false_eq_true, Int.reduceLT, Int.reducePow, Int.reduceNeg, Int.reduceLE, Int.reduceAdd, Int.reduceSub, Int.reduceMul, Int.reduceMod, Int.reduceDiv, Bool.not_true, Bool.not_false, Bool.true_beq, Bool.false_beq, Bool.and_true, Bool.true_and, Bool.and_false, Bool.false_and, Bool.or_true, Bool.true_or, Bool.or_false, Bool.false_or, Nat.reduceAdd, Nat.reduceSub, Nat.zero_add, Nat.sub_self, part_no, part_int, slc_lst, slc_tup, isNoE, isiV, isiOk, isiP, at_zero, at_1, at_2, at_3, bin_mulr, bin_mull, m1, idxP, a0, bin_mod h1, a1]
      refine ⟨ds ++ [_ % ss.getD i 0], _, _, _, by rw [List.map_append]; rfl, hd.snoc (Int.emod_nonneg _ (by omega)) (Int.emod_lt_of_pos _ h1)⟩
    · obtain ⟨ds, s, x5, x7, rfl, hd⟩ := he
      simp -implicitDefEqProofs only [SR.fin_nx, SR.fin_rt, Ok_ok, ex_nx, R.bind_ok, R.st_ok, SR.next_nx, SR.next_rt, SR.next_bk, SR.next_ct, x_cnon, x_cbl, x_cint, x_cstr, x_var, x_bor, x_bin, x_neg, x_cmp, x_bop, x_bcons, x_not, x_ite, x_tup, x_lst, x_dct1, x_idx, x_slc, x_call, x_bi, x_isi, x_comp, x_nil, x_cons, x_c0, x_c1, x_seq, x_rng1, x_rng2, x_enu, x_keys, y_nil, y_cons, y_asg, y_setI, y_app, y_appPop, y_asgPop, y_ite, y_for, y_while, y_ret, y_retN, y_raise, y_pass, y_brk, y_cont, y_frz, y_exp, b_var, b_tup, b_lst, m_nil, m_cons, g_zero, g_succ, w_nil, w_cons, next_next, next_nil, forF_eq, boolK_nil, boolK_cons, bK_tt, bK_tf, bK_ft, bK_ff, bK_and, bK_or, iteV_bl, iteS_bl, notV_bl, negV_int, condV_bl, seqV_lst, seqV_tup, seqV_scr, enuV_lst, enuV_tup, keysV_dct, compF_eq, biP_1, biP_2, len_lst, len_tup, len_scr, int_int, int_bl, list_lst, list_tup, tuple_lst, tuple_tup, min_int, max_int, abs_int, c_eq, c_ne, c_lt, c_le, c_gt, c_ge, c_is, c_isnot, c_inn, c_notin, in_lst, in_tup, ix_lst, ix_tup, ix_scr, eq_int, eq_bl, eq_str, isNon_non, isNon_int, isNon_tup, isNon_lst, isNon_dct, isNon_bl, isNon_str, bin_add, bin_sub, bin_mod, bin_fdiv, List.set_cons_zero, List.set_cons_succ, List.length_cons, List.length_nil, List.map_cons, List.map_nil, List.cons_append, List.nil_append, List.replicate_succ, List.replicate_zero, ↓reduceIte, Bool.false_eq_true, Int.reduceLT, Int.reducePow, Int.reduceNeg, Int.reduceLE, Int.reduceAdd, Int.reduceSub, Int.reduceMul, Int.reduceMod, Int.reduceDiv, Bool.not_true, Bool.not_false, Bool.true_beq, Bool.false_beq, Bool.and_true, Bool.true_and, Bool.and_false, Bool.false_and, Bool.or_true, Bool.true_or, Bool.or_false, Bool.false_or, Nat.reduceAdd, Nat.reduceSub, Nat.zero_add, Nat.sub_self, part_no, part_int, slc_lst, slc_tup, isNoE, isiV, isiOk, isiP, at_zero, at_1, at_2, at_3]
      exact ⟨ds, rfl, hd⟩
/-! ### the setting -/
def H8 (Φ : Fns) : Prop := ∀ (c : Int) (ss : List Int), ss.length ≤ 1000 → (∀ k, k < ss.length → 0 < ss.getD k 0 ∧ ss.getD k 0 < 2 ^ 64) → Ok (Φ 14 [.int c, .lst (ss.map .int)]) fun v => ∃ ds : List Int, v = .lst (ds.map .int) ∧ Dig ss ds
def setV (n F L : Nat) (t s : Str) : PV := .tup [.str "falls", .int n, .int F, .int L, .int 2, .str t, .str s]
def SetOk (v : PV) : Prop := ∃ (n F L : Nat) (t s : Str), v = setV n F L t s ∧ 2 ≤ n ∧ n ≤ 5 ∧ F + 1 ≤ n ∧ 1 ≤ L ∧ L ≤ 5
theorem lt8 {d : Int} (h0 : 0 ≤ d) (h1 : d < 8) : d = 0 ∨ d = 1 ∨ d = 2 ∨ d = 3 ∨ d = 4 ∨ d = 5 ∨ d = 6 ∨ d = 7 := by omega
theorem f_setting (h8 : H8 Φ) (c : Int) : Ok (runD Φ fu d15 [.int c]) SetOk := by
  rw [runD_eq rfl]
  obtain ⟨_, e8, ds, rfl, hl, hd⟩ := h8 c [8, 8, 8, 4, 2] (by decide) (by
    intro k hk
    have hk' : k < 5 := hk
    have : k = 0 ∨ k = 1 ∨ k = 2 ∨ k = 3 ∨ k = 4 := by omega
    rcases this with rfl | rfl | rfl | rfl | rfl <;> decide)
  have b0 := hd 0 (by decide)
  have b1 := hd 1 (by decide)
  have b2 := hd 2 (by decide)
  have b3 := hd 3 (by decide)
  have b4 := hd 4 (by decide)
  match ds, hl with
  | [x0, x1, x2, x3, x4], _ =>
    simp only [List.getD_cons_zero, List.getD_cons_succ] at b0 b1 b2 b3 b4
    simp only [List.map_cons, List.map_nil] at e8
    have a0 : atP [PV.int x0, .int x1, .int x2, .int x3, .int x4] 0 = .ok (.int x0) := rfl
    have a1 : atP [PV.int x0, .int x1, .int x2, .int x3, .int x4] 1 = .ok (.int x1) := rfl
    have a2 : atP [PV.int x0, .int x1, .int x2, .int x3, .int x4] 2 = .ok (.int x2) := rfl
    have a3 : atP [PV.int x0, .int x1, .int x2, .int x3, .int x4] 3 = .ok (.int x3) := rfl
    have a4 : atP [PV.int x0, .int x1, .int x2, .int x3, .int x4] 4 = .ok (.int x4) := rfl
    obtain ⟨n, c0, n0, n1⟩ : ∃ n : Int, atP [PV.int 3, .int 4, .int 5, .int 4, .int 5, .int 2, .int 3, .int 5] x0 = .ok (.int n) ∧ 2 ≤ n ∧ n ≤ 5 := by
      rcases lt8 b0.1 b0.2 with rfl | rfl | rfl | rfl | rfl | rfl | rfl | rfl <;> exact ⟨_, rfl, by decide, by decide⟩
    have hm : ∃ m : Int, (if n - 2 > 1 then n - 2 else 1) = m ∧ 1 ≤ m := ⟨_, rfl, by split <;> omega⟩
    obtain ⟨m, em, m1⟩ := hm
    obtain ⟨f, c1, f0⟩ : ∃ f : Int, atP [PV.int m, .int m, .int (n - 1), .int (n - 1), .int m, .int 1, .int 2, .int 0] x1 = .ok (.int f) ∧ 0 ≤ f := by
      rcases lt8 b1.1 b1.2 with rfl | rfl | rfl | rfl | rfl | rfl | rfl | rfl <;> exact ⟨_, rfl, by omega⟩
    have hF : ∃ F : Int, (if f < n - 1 then f else n - 1) = F ∧ 0 ≤ F ∧ F ≤ n - 1 := ⟨_, rfl, by split <;> omega, by split <;> omega⟩
    obtain ⟨F, eF, F0, F1⟩ := hF
    obtain ⟨l, c2, l0⟩ : ∃ l : Int, atP [PV.int (F + 1), .int (F + 1), .int (F + 2), .int 5, .int 4, .int 3, .int 2, .int 1] x2 = .ok (.int l) ∧ 1 ≤ l := by
      rcases lt8 b2.1 b2.2 with rfl | rfl | rfl | rfl | rfl | rfl | rfl | rfl <;> exact ⟨_, rfl, by omega⟩
    have hL : ∃ L : Int, (if l < 5 then l else 5) = L ∧ 1 ≤ L ∧ L ≤ 5 := ⟨_, rfl, by split <;> omega, by split <;> omega⟩
    obtain ⟨L, eL, L0, L1⟩ := hL
    obtain ⟨t, c3⟩ : ∃ t : Str, atP [PV.str "begun", .str "votes", .str "leader", .str "free"] x3 = .ok (.str t) := by
      have : x3 = 0 ∨ x3 = 1 ∨ x3 = 2 ∨ x3 = 3 := by omega
      rcases this with rfl | rfl | rfl | rfl <;> exact ⟨_, rfl⟩
    obtain ⟨s, c4⟩ : ∃ s : Str, atP [PV.str "lasting", .str "standing"] x4 = .ok (.str s) := by
      have : x4 = 0 ∨ x4 = 1 := by omega
      rcases this with rfl | rfl <;> exact ⟨_, rfl⟩
    simp -implicitDefEqProofs only [SR.fin_nx, SR.fin_rt, Ok_ok, ex_nx, R.bind_ok, R.st_ok, SR.next_nx, SR.next_rt, SR.next_bk, SR.next_ct, x_cnon, x_cbl, x_cint, x_cstr, x_var, x_bor, x_bin, x_neg, x_cmp, x_bop, x_bcons, x_not, x_ite, x_tup, x_lst, x_dct1, x_idx, x_slc, x_call, x_bi, x_isi, x_comp, x_nil, x_cons, x_c0, x_c1, x_seq, x_rng1, x_rng2, x_enu, x_keys, y_nil, y_cons, y_asg, y_setI, y_app, y_appPop, y_asgPop, y_ite, y_for, y_while, y_ret, y_retN, y_raise, y_pass, y_brk, y_cont, y_frz, y_exp, b_var, b_tup, b_lst, m_nil, m_cons, g_zero, g_succ, w_nil, w_cons, next_next, next_nil, forF_eq, boolK_nil, boolK_cons, bK_tt, bK_tf, bK_ft, bK_ff, bK_and, bK_or, iteV_bl, iteS_bl, notV_bl, negV_int, condV_bl, seqV_lst, seqV_tup, seqV_scr, enuV_lst, enuV_tup, keysV_dct, compF_eq, biP_1, biP_2, len_lst, len_tup, len_scr, int_int, int_bl, list_lst, list_tup, tuple_lst, tuple_tup, min_int, max_int, abs_int, c_eq, c_ne, c_lt, c_le, c_gt, c_ge, c_is, c_isnot, c_inn, c_notin, in_lst, in_tup, ix_lst, ix_tup, ix_scr, eq_int, eq_bl, eq_str, isNon_non, isNon_int, isNon_tup, isNon_lst, isNon_dct, isNon_bl, isNon_str, bin_add, bin_sub, bin_mod, bin_fdiv, List.set_cons_zero, List.set_cons_succ, List.length_cons, List.length_nil, List.map_cons, List.map_nil, List.cons_append, List.nil_append, List.replicate_succ, List.replicate_zero, ↓reduceIte, Bool.false_eq_true, Int.reduceLT, Int.reducePow, Int.reduceNeg, Int.reduceLE, Int.reduceAdd, Int.reduceSub, Int.reduceMul, Int.reduceMod, Int.reduceDiv, Bool.not_true, Bool.not_false, Bool.true_beq, Bool.false_beq, Bool.and_true, Bool.true_and, Bool.and_false, Bool.false_and, Bool.or_true, Bool.true_or, Bool.or_false, Bool.false_or, Nat.reduceAdd, Nat.reduceSub, Nat.zero_add, Nat.sub_self, part_no, part_int, slc_lst, slc_tup, isNoE, isiV, isiOk, isiP, at_zero, at_1, at_2, at_3, d15, e8, a0, a1, a2, a3, a4, c0, em, c1, eF, c2, eL, c3, c4]
    obtain ⟨n', rfl⟩ := Int.eq_ofNat_of_zero_le (show 0 ≤ n by omega)
    obtain ⟨F', rfl⟩ := Int.eq_ofNat_of_zero_le F0
    obtain ⟨L', rfl⟩ := Int.eq_ofNat_of_zero_le (show 0 ≤ L by omega)
    exact ⟨n', F', L', t, s, rfl, by omega, by omega, by omega, by omega, by omega⟩
/-! ### the story -/
abbrev Fall := Option (Int × List Int)
def fallV : Fall → PV
  | none => .non
  | some (r, l) => .tup [.int r, .tup (l.map .int)]
/-- of a setting: the first three numbers -/
def storyV (n : Nat) (B : Nat → Int) (f : Nat → Fall) : PV := .tup [.tup (rng n fun h => .int (B h)), .tup (rng n fun h => fallV (f h))]
def FallOk (f : Fall) : Prop := ∀ r l, f = some (r, l) → 1 ≤ r
def StoryOk (n : Nat) (v : PV) : Prop := ∃ B f, v = storyV n B f ∧ ∀ h, FallOk (f h)
theorem l_left (n : Nat) (hn : n ≤ 5) (hp : 1 ≤ n) (ds : List Int) (hl : ds.length = 32) (a b c e4 e7 e8 e9 e10 e11 e12 e13 e14 e15 e16 e17 e18 e19 : Option PV) {k : PEnv → SR} {p : PV → Prop}
    (hk : ∀ (os : List Int) e5 e7, os.length = n → (∀ x ∈ os, 0 ≤ x ∧ x < n) → Ok (k [a, b, c, some (.lst (ds.map .int)), e4, e5, some (.lst (os.map .int)), e7, e8, e9, e10, e11, e12, e13, e14, e15, e16, e17, e18, e19]).fin p) :
    Ok ((forL (forF Φ fu (.var 7) [.appPop 6 5 (.bin .mod (.bi .int [.idx (.var 3) (.bin .add (.cint 2) (.var 7))]) (.bi .len [.bor 5]))]) (rng n fun i => .int i) [a, b, c, some (.lst (ds.map .int)), e4, some (.lst (rng n fun i => .int i)), some (.lst []), e7, e8, e9, e10, e11, e12, e13, e14, e15, e16, e17, e18, e19]).next k).fin p := by
  refine forR_ok (fun i e => ∃ (ls os : List Int) (x7 : Option PV), e = [a, b, c, some (.lst (ds.map .int)), e4, some (.lst (ls.map .int)), some (.lst (os.map .int)), x7, e8, e9, e10, e11, e12, e13, e14, e15, e16, e17, e18, e19] ∧ ls.length = n - i ∧ os.length = i ∧ (∀ x ∈ ls, 0 ≤ x ∧ x < n) ∧ ∀ x ∈ os, 0 ≤ x ∧ x < n) ?_ (fun i e hi he => ?_) (fun e he => ?_)
  · refine ⟨rng n fun i => (i : Int), [], _, by rw [rng_map]; rfl, rng_length _ _, rfl, fun x hx => ?_, fun x hx => nomatch hx⟩
    obtain ⟨j, hj, rfl⟩ := mem_rng.mp hx
    omega
  · obtain ⟨ls, os, x7, rfl, h1, h2, h3, h4⟩ := he
    have a0 : atP (ds.map PV.int) (2 + (i : Int)) = .ok (.int (ds.getD (2 + i) 0)) := by
      rw [atP_ints (by omega) (by omega)]
      congr 3
    have hpos : (0 : Int) < ((ls.map PV.int).length : Int) := by rw [List.length_map]; omega
    have b0 := Int.emod_nonneg (ds.getD (2 + i) 0) (show ((ls.map PV.int).length : Int) ≠ 0 by omega)
    have b1 := Int.emod_lt_of_pos (ds.getD (2 + i) 0) hpos
    rw [List.length_map] at b0 b1 hpos
    have a1 := pop_ints (ls := ls) b0 b1 (by omega)
    have hm : (ds.getD (2 + i) 0 % (ls.length : Int)).toNat < ls.length := by omega
    have a2 := appP_lst (xs := os.map PV.int) (v := .int (ls.getD (ds.getD (2 + i) 0 % (ls.length : Int)).toNat 0)) (by rw [List.length_map]; omega)
    simp -implicitDefEqProofs only [SR.fin_nx, SR.fin_rt, Ok_ok, ex_nx, R.bind_ok, R.st_ok, SR.next_nx, SR.next_rt, SR.next_bk, SR.next_ct, x_cnon, x_cbl, x_cint, x_cstr, x_var, x_bor, x_bin, x_neg, x_cmp, x_bop, x_bcons, x_not, x_ite, x_tup, x_lst, x_dct1, x_idx, x_slc, x_call, x_bi, x_isi, x_comp, x_nil, x_cons, x_c0, x_c1, x_seq, x_rng1, x_rng2, x_enu, x_keys, y_nil, y_cons, y_asg, y_setI, y_app, y_appPop, y_asgPop, y_ite, y_for, y_while, y_ret, y_retN, y_raise, y_pass, y_brk, y_cont, y_frz, y_exp, b_var, b_tup, b_lst, m_nil, m_cons, g_zero, g_succ, w_nil, w_cons, next_next, next_nil, forF_eq, boolK_nil, boolK_cons, bK_tt, bK_tf, bK_ft, bK_ff, bK_and, bK_or, iteV_bl, iteS_bl, notV_bl, negV_int, condV_bl, seqV_lst, seqV_tup, seqV_scr, enuV_lst, enuV_tup, keysV_dct, compF_eq, biP_1, biP_2, len_lst, len_tup, len_scr, int_int, int_bl, list_lst, list_tup, tuple_lst, tuple_tup, min_int, max_int, abs_int, c_eq, c_ne, c_lt, c_le, c_gt, c_ge, c_is, c_isnot, c_inn, c_notin, in_lst, in_tup, ix_lst, ix_tup, ix_scr, eq_int, eq_bl, eq_str, isNon_non, isNon_int, isNon_tup, isNon_lst, isNon_dct, isNon_bl, isNon_str, bin_add, bin_sub, bin_mod, bin_fdiv, List.set_cons_zero, List.set_cons_succ, List.length_cons, List.length_nil, List.map_cons, List.map_nil, List.cons_append, List.nil_append, List.replicate_succ, List.replicate_zero, ↓reduceIte, Bool.false_eq_true, Int.reduceLT, Int.reducePow, Int.reduceNeg, Int.reduceLE, Int.reduceAdd, Int.reduceSub, Int.reduceMul, Int.reduceMod, Int.reduceDiv, Bool.not_true, Bool.not_false, Bool.true_beq, Bool.false_beq, Bool.and_true, Bool.true_and, Bool.and_false, Bool.false_and, Bool.or_true, Bool.true_or, Bool.or_false, Bool.false_or, Nat.reduceAdd, Nat.reduceSub, Nat.zero_add, Nat.sub_self, part_no, part_int, slc_lst, slc_tup, isNoE, isiV, isiOk, isiP, at_zero, at_1, at_2, at_3, a0, List.length_map, bin_mod hpos, a1, a2]
    refine ⟨_, os ++ [_], _, by rw [List.map_append]; rfl, ?_, by rw [List.length_append, h2]; rfl, fun x hx => h3 x (List.mem_of_mem_eraseIdx hx), fun x hx => ?_⟩
    · rw [List.length_eraseIdx, if_pos hm]; omega
    · rcases List.mem_append.mp hx with hx | hx
      · exact h4 x hx
      · rw [List.mem_singleton.mp hx]
        exact h3 _ (PY.getD_mem hm)
  · obtain ⟨ls, os, x7, rfl, h1, h2, h3, h4⟩ := he
    exact hk os _ _ h2 h4
end
end K86

namespace K86
open PySem PY
section
variable {Φ : Fns} {fu : Nat}
theorem l_body (n F L : Nat) (t s : Str) (hn : 2 ≤ n) (hn5 : n ≤ 5) (hL : 1 ≤ L) (hL5 : L ≤ 5) (ds : List Int) (hl : ds.length = 32) (os : List Int) (ho : os.length = n) (hos : ∀ x ∈ os, 0 ≤ x ∧ x < n)
    (h3 : ∀ i, i < 5 → 0 ≤ ds.getD (12 + 4 * i + 2) 0 ∧ ds.getD (12 + 4 * i + 2) 0 < 4) (st mn sp : Int) (i : Nat) (hi : i < n) (f : Nat → Fall) (hf : ∀ h, FallOk (f h)) (b x5 x7 x8 x12 x13 x14 x15 x16 x17 x18 x19 : Option PV) :
    ∃ e', forF Φ fu (.var 7) (match d16.body with
      | [_, _, _, _, _, _, _, _, _, _, _, _, .for _ _ body, _, _, _] => body
      | _ => []) (.int (i : Int)) [some (setV n F L t s), b, some (.int n), some (.lst (ds.map .int)), some (.int st), x5, some (.lst (os.map .int)), x7, x8, some (.lst (rng n fun h => fallV (f h))), some (.int sp), some (.int mn), x12, x13, x14, x15, x16, x17, x18, x19] = .nx e' ∧
      ∃ (f' : Nat → Fall) (sp' : Int) (x7 x12 x13 x14 x15 x16 x17 x18 x19 : Option PV), e' = [some (setV n F L t s), b, some (.int n), some (.lst (ds.map .int)), some (.int st), x5, some (.lst (os.map .int)), x7, x8, some (.lst (rng n fun h => fallV (f' h))), some (.int sp'), some (.int mn), x12, x13, x14, x15, x16, x17, x18, x19] ∧ ∀ h, FallOk (f' h) := by
  have c4 := cut4 (ds := ds) (a := 12 + 4 * i) (by omega)
  have e12 : (12 : Int) + 4 * (i : Int) = ((12 + 4 * i : Nat) : Int) := by omega
  have e16 : (16 : Int) + 4 * (i : Int) = ((12 + 4 * i + 4 : Nat) : Int) := by omega
  generalize hA : ds.getD (12 + 4 * i) 0 = pa at c4
  generalize hB : ds.getD (12 + 4 * i + 1) 0 = pb at c4
  generalize hC : ds.getD (12 + 4 * i + 2) 0 = pc at c4
  generalize hD : ds.getD (12 + 4 * i + 3) 0 = pd at c4
  have hC' := h3 i (by omega)
  rw [hC] at hC'
  have r1 := rng1_nat (show n ≤ 1000 by omega)
  have oi : atP (os.map PV.int) (i : Int) = .ok (.int (os.getD i 0)) := atP_ints (by omega) (by omega)
  obtain ⟨o0, o1⟩ := hos _ (PY.getD_mem (ls := os) (k := i) (by omega))
  generalize os.getD i 0 = o at oi o0 o1
  simp -implicitDefEqProofs only [SR.fin_nx, SR.fin_rt, Ok_ok, ex_nx, R.bind_ok, R.st_ok, SR.next_nx, SR.next_rt, SR.next_bk, SR.next_ct, x_cnon, x_cbl, x_cint, x_cstr, x_var, x_bor, x_bin, x_neg, x_cmp, x_bop, x_bcons, x_not, x_ite, x_tup, x_lst, x_dct1, x_idx, x_slc, x_call, x_bi, x_isi, x_comp, x_nil, x_cons, x_c0, x_c1, x_seq, x_rng1, x_rng2, x_enu, x_keys, y_nil, y_cons, y_asg, y_setI, y_app, y_appPop, y_asgPop, y_ite, y_for, y_while, y_ret, y_retN, y_raise, y_pass, y_brk, y_cont, y_frz, y_exp, b_var, b_tup, b_lst, m_nil, m_cons, g_zero, g_succ, w_nil, w_cons, next_next, next_nil, forF_eq, boolK_nil, boolK_cons, bK_tt, bK_tf, bK_ft, bK_ff, bK_and, bK_or, iteV_bl, iteS_bl, notV_bl, negV_int, condV_bl, seqV_lst, seqV_tup, seqV_scr, enuV_lst, enuV_tup, keysV_dct, compF_eq, biP_1, biP_2, len_lst, len_tup, len_scr, int_int, int_bl, list_lst, list_tup, tuple_lst, tuple_tup, min_int, max_int, abs_int, c_eq, c_ne, c_lt, c_le, c_gt, c_ge, c_is, c_isnot, c_inn, c_notin, in_lst, in_tup, ix_lst, ix_tup, ix_scr, eq_int, eq_bl, eq_str, isNon_non, isNon_int, isNon_tup, isNon_lst, isNon_dct, isNon_bl, isNon_str, bin_add, bin_sub, bin_mod, bin_fdiv, List.set_cons_zero, List.set_cons_succ, List.length_cons, List.length_nil, List.map_cons, List.map_nil, List.cons_append, List.nil_append, List.replicate_succ, List.replicate_zero, ↓reduceIte, Bool.false_eq_true, Int.reduceLT, Int.reducePow, Int.reduceNeg, Int.reduceLE, Int.reduceAdd, Int.reduceSub, Int.reduceMul, Int.reduceMod, Int.reduceDiv, Bool.not_true, Bool.not_false, Bool.true_beq, Bool.false_beq, Bool.and_true, Bool.true_and, Bool.and_false, Bool.false_and, Bool.or_true, Bool.true_or, Bool.or_false, Bool.false_or, Nat.reduceAdd, Nat.reduceSub, Nat.zero_add, Nat.sub_self, part_no, part_int, slc_lst, slc_tup, isNoE, isiV, isiOk, isiP, at_zero, at_1, at_2, at_3, d16, bin_mull, e12, e16, c4, r1]
  rw [compL_rngF (p := fun j => !((j : Int) == o)) (h := fun j => .int j)]
  rotate_left
  · intro j hj
    simp -implicitDefEqProofs only [SR.fin_nx, SR.fin_rt, Ok_ok, ex_nx, R.bind_ok, R.st_ok, SR.next_nx, SR.next_rt, SR.next_bk, SR.next_ct, x_cnon, x_cbl, x_cint, x_cstr, x_var, x_bor, x_bin, x_neg, x_cmp, x_bop, x_bcons, x_not, x_ite, x_tup, x_lst, x_dct1, x_idx, x_slc, x_call, x_bi, x_isi, x_comp, x_nil, x_cons, x_c0, x_c1, x_seq, x_rng1, x_rng2, x_enu, x_keys, y_nil, y_cons, y_asg, y_setI, y_app, y_appPop, y_asgPop, y_ite, y_for, y_while, y_ret, y_retN, y_raise, y_pass, y_brk, y_cont, y_frz, y_exp, b_var, b_tup, b_lst, m_nil, m_cons, g_zero, g_succ, w_nil, w_cons, next_next, next_nil, forF_eq, boolK_nil, boolK_cons, bK_tt, bK_tf, bK_ft, bK_ff, bK_and, bK_or, iteV_bl, iteS_bl, notV_bl, negV_int, condV_bl, seqV_lst, seqV_tup, seqV_scr, enuV_lst, enuV_tup, keysV_dct, compF_eq, biP_1, biP_2, len_lst, len_tup, len_scr, int_int, int_bl, list_lst, list_tup, tuple_lst, tuple_tup, min_int, max_int, abs_int, c_eq, c_ne, c_lt, c_le, c_gt, c_ge, c_is, c_isnot, c_inn, c_notin, in_lst, in_tup, ix_lst, ix_tup, ix_scr, eq_int, eq_bl, eq_str, isNon_non, isNon_int, isNon_tup, isNon_lst, isNon_dct, isNon_bl, isNon_str, bin_add, bin_sub, bin_mod, bin_fdiv, List.set_cons_zero, List.set_cons_succ, List.length_cons, List.length_nil, List.map_cons, List.map_nil, List.cons_append, List.nil_append, List.replicate_succ, List.replicate_zero, ↓reduceIte, Bool.false_eq_true, Int.reduceLT, Int.reducePow, Int.reduceNeg, Int.reduceLE, Int.reduceAdd, Int.reduceSub, Int.reduceMul, Int.reduceMod, Int.reduceDiv, Bool.not_true, Bool.not_false, Bool.true_beq, Bool.false_beq, Bool.and_true, Bool.true_and, Bool.and_false, Bool.false_and, Bool.or_true, Bool.true_or, Bool.or_false, Bool.false_or, Nat.reduceAdd, Nat.reduceSub, Nat.zero_add, Nat.sub_self, part_no, part_int, slc_lst, slc_tup, isNoE, isiV, isiOk, isiP, at_zero, at_1, at_2, at_3, oi, if_ok]
  obtain ⟨ol, eol, hol⟩ : ∃ ol : List Int, (((List.range n).filter fun j : Nat => !((j : Int) == o)).map fun j : Nat => PV.int (j : Int)) = ol.map .int ∧ ol.length = n - 1 := by
    refine ⟨((List.range n).filter fun j : Nat => !((j : Int) == o)).map fun j : Nat => (j : Int), by rw [List.map_map]; rfl, ?_⟩
    obtain ⟨o', rfl⟩ := Int.eq_ofNat_of_zero_le o0
    have e : (List.range n).filter (fun j : Nat => !((j : Int) == (o' : Int))) = (List.range n).filter fun j => !(j == o') := by
      apply List.filter_congr
      intro j _
      have : ((j : Int) == (o' : Int)) = (j == o') := by
        rw [Bool.eq_iff_iff, beq_iff_eq, beq_iff_eq]
        omega
      rw [this]
    rw [List.length_map, e, filter_ne_length (by omega)]
  rw [eol]
  have r2 : rng1V (.int ((n : Int) - 1)) = .ok (rng (n - 1) fun i => .int i) := by
    have := rng1_nat (show n - 1 ≤ 1000 by omega)
    rwa [show ((n - 1 : Nat) : Int) = (n : Int) - 1 by omega] at this
  simp -implicitDefEqProofs only [SR.fin_nx, SR.fin_rt, Ok_ok, ex_nx, R.bind_ok, R.st_ok, SR.next_nx, SR.next_rt, SR.next_bk, SR.next_ct, x_cnon, x_cbl, x_cint, x_cstr, x_var, x_bor, x_bin, x_neg, x_cmp, x_bop, x_bcons, x_not, x_ite, x_tup, x_lst, x_dct1, x_idx, x_slc, x_call, x_bi, x_isi, x_comp, x_nil, x_cons, x_c0, x_c1, x_seq, x_rng1, x_rng2, x_enu, x_keys, y_nil, y_cons, y_asg, y_setI, y_app, y_appPop, y_asgPop, y_ite, y_for, y_while, y_ret, y_retN, y_raise, y_pass, y_brk, y_cont, y_frz, y_exp, b_var, b_tup, b_lst, m_nil, m_cons, g_zero, g_succ, w_nil, w_cons, next_next, next_nil, forF_eq, boolK_nil, boolK_cons, bK_tt, bK_tf, bK_ft, bK_ff, bK_and, bK_or, iteV_bl, iteS_bl, notV_bl, negV_int, condV_bl, seqV_lst, seqV_tup, seqV_scr, enuV_lst, enuV_tup, keysV_dct, compF_eq, biP_1, biP_2, len_lst, len_tup, len_scr, int_int, int_bl, list_lst, list_tup, tuple_lst, tuple_tup, min_int, max_int, abs_int, c_eq, c_ne, c_lt, c_le, c_gt, c_ge, c_is, c_isnot, c_inn, c_notin, in_lst, in_tup, ix_lst, ix_tup, ix_scr, eq_int, eq_bl, eq_str, isNon_non, isNon_int, isNon_tup, isNon_lst, isNon_dct, isNon_bl, isNon_str, bin_add, bin_sub, bin_mod, bin_fdiv, List.set_cons_zero, List.set_cons_succ, List.length_cons, List.length_nil, List.map_cons, List.map_nil, List.cons_append, List.nil_append, List.replicate_succ, List.replicate_zero, ↓reduceIte, Bool.false_eq_true, Int.reduceLT, Int.reducePow, Int.reduceNeg, Int.reduceLE, Int.reduceAdd, Int.reduceSub, Int.reduceMul, Int.reduceMod, Int.reduceDiv, Bool.not_true, Bool.not_false, Bool.true_beq, Bool.false_beq, Bool.and_true, Bool.true_and, Bool.and_false, Bool.false_and, Bool.or_true, Bool.true_or, Bool.or_false, Bool.false_or, Nat.reduceAdd, Nat.reduceSub, Nat.zero_add, Nat.sub_self, part_no, part_int, slc_lst, slc_tup, isNoE, isiV, isiOk, isiP, at_zero, at_1, at_2, at_3, r2]
  have hw : ∀ j : Nat, j < 4 → atP [PV.int 1, .int 2, .int 4, .int 8] (j : Int) = .ok (.int (2 ^ j)) ∧ (0 : Int) < 2 ^ j ∧ (2 : Int) ^ j < 2 ^ 64 := by
    intro j hj
    have : j = 0 ∨ j = 1 ∨ j = 2 ∨ j = 3 := by omega
    rcases this with rfl | rfl | rfl | rfl <;> exact ⟨rfl, by decide, by decide⟩
  have p0 : atP [PV.int pa, .int pb, .int pc, .int pd] 0 = .ok (.int pa) := rfl
  have p1 : atP [PV.int pa, .int pb, .int pc, .int pd] 1 = .ok (.int pb) := rfl
  have p2 : atP [PV.int pa, .int pb, .int pc, .int pd] 2 = .ok (.int pc) := rfl
  have p3 : atP [PV.int pa, .int pb, .int pc, .int pd] 3 = .ok (.int pd) := rfl
  rw [compL_rngF (p := fun j => (pd / 2 ^ j % 2 == 1 : Bool)) (h := fun j => .int (ol.getD j 0))]
  rotate_left
  · intro j hj
    obtain ⟨w1, w2, w3⟩ := hw j (by omega)
    have oj : atP (ol.map PV.int) (j : Int) = .ok (.int (ol.getD j 0)) := atP_ints (by omega) (by omega)
    simp -implicitDefEqProofs only [SR.fin_nx, SR.fin_rt, Ok_ok, ex_nx, R.bind_ok, R.st_ok, SR.next_nx, SR.next_rt, SR.next_bk, SR.next_ct, x_cnon, x_cbl, x_cint, x_cstr, x_var, x_bor, x_bin, x_neg, x_cmp, x_bop, x_bcons, x_not, x_ite, x_tup, x_lst, x_dct1, x_idx, x_slc, x_call, x_bi, x_isi, x_comp, x_nil, x_cons, x_c0, x_c1, x_seq, x_rng1, x_rng2, x_enu, x_keys, y_nil, y_cons, y_asg, y_setI, y_app, y_appPop, y_asgPop, y_ite, y_for, y_while, y_ret, y_retN, y_raise, y_pass, y_brk, y_cont, y_frz, y_exp, b_var, b_tup, b_lst, m_nil, m_cons, g_zero, g_succ, w_nil, w_cons, next_next, next_nil, forF_eq, boolK_nil, boolK_cons, bK_tt, bK_tf, bK_ft, bK_ff, bK_and, bK_or, iteV_bl, iteS_bl, notV_bl, negV_int, condV_bl, seqV_lst, seqV_tup, seqV_scr, enuV_lst, enuV_tup, keysV_dct, compF_eq, biP_1, biP_2, len_lst, len_tup, len_scr, int_int, int_bl, list_lst, list_tup, tuple_lst, tuple_tup, min_int, max_int, abs_int, c_eq, c_ne, c_lt, c_le, c_gt, c_ge, c_is, c_isnot, c_inn, c_notin, in_lst, in_tup, ix_lst, ix_tup, ix_scr, eq_int, eq_bl, eq_str, isNon_non, isNon_int, isNon_tup, isNon_lst, isNon_dct, isNon_bl, isNon_str, bin_add, bin_sub, bin_mod, bin_fdiv, List.set_cons_zero, List.set_cons_succ, List.length_cons, List.length_nil, List.map_cons, List.map_nil, List.cons_append, List.nil_append, List.replicate_succ, List.replicate_zero, ↓reduceIte, Bool.false_eq_true, Int.reduceLT, Int.reducePow, Int.reduceNeg, Int.reduceLE, Int.reduceAdd, Int.reduceSub, Int.reduceMul, Int.reduceMod, Int.reduceDiv, Bool.not_true, Bool.not_false, Bool.true_beq, Bool.false_beq, Bool.and_true, Bool.true_and, Bool.and_false, Bool.false_and, Bool.or_true, Bool.true_or, Bool.or_false, Bool.false_or, Nat.reduceAdd, Nat.reduceSub, Nat.zero_add, Nat.sub_self, part_no, part_int, slc_lst, slc_tup, isNoE, isiV, isiOk, isiP, at_zero, at_1, at_2, at_3, p3, w1, bin_fdiv w2 w3, oj, if_ok]
  obtain ⟨dl, edl⟩ : ∃ dl : List Int, (((List.range (n - 1)).filter fun j => (pd / 2 ^ j % 2 == 1 : Bool)).map fun j : Nat => PV.int (ol.getD j 0)) = dl.map .int := ⟨((List.range (n - 1)).filter fun j => (pd / 2 ^ j % 2 == 1 : Bool)).map fun j : Nat => ol.getD j 0, by rw [List.map_map]; rfl⟩
  rw [edl]
  have hnp : (0 : Int) < n := by omega
  have m0 := Int.emod_nonneg ((i : Int) + 1) (show (n : Int) ≠ 0 by omega)
  have m1 := Int.emod_lt_of_pos ((i : Int) + 1) hnp
  have oa : atP (os.map PV.int) (((i : Int) + 1) % n) = .ok (.int (os.getD (((i : Int) + 1) % n).toNat 0)) := atP_ints m0 (by omega)
  generalize os.getD (((i : Int) + 1) % n).toNat 0 = af at oa
  obtain ⟨l1, q1⟩ : ∃ l1 : List Int, atP [PV.lst [], .lst [.int af], .lst (dl.map .int), .lst (dl.map .int)] pc = .ok (.lst (l1.map .int)) := by
    have : pc = 0 ∨ pc = 1 ∨ pc = 2 ∨ pc = 3 := by omega
    rcases this with rfl | rfl | rfl | rfl
    · exact ⟨[], rfl⟩
    · exact ⟨[af], rfl⟩
    · exact ⟨dl, rfl⟩
    · exact ⟨dl, rfl⟩
  have s3 : atP [PV.str "falls", .int n, .int F, .int L, .int 2, .str t, .str s] 3 = .ok (.int L) := rfl
  have hLp : (0 : Int) < L := by omega
  have setF : ∀ (f : Nat → Fall) (r : Int) (l : List Int), setP (.lst (rng n fun h => fallV (f h))) (.int o) (.tup [.int r, .tup (l.map .int)]) = .ok (.lst (rng n fun h => fallV (if (h : Int) = o then some (r, l) else f h))) := fun f r l => by
    rw [setP_rng o0 o1]
    refine congrArg (fun x => R.ok (PV.lst x)) (rng_congr fun h _ => ?_)
    by_cases hh : (h : Int) = o
    · rw [if_pos hh, if_pos hh]; rfl
    · rw [if_neg hh, if_neg hh]
  have okF : ∀ (f : Nat → Fall), (∀ h, FallOk (f h)) → ∀ (r : Int) (l : List Int), 1 ≤ r → ∀ h : Nat, FallOk (if (h : Int) = o then some (r, l) else f h) := fun f hf r l hr h => by
    by_cases hh : (h : Int) = o
    · rw [if_pos hh]
      intro r' l' e
      cases e
      exact hr
    · rw [if_neg hh]; exact hf h
  simp -implicitDefEqProofs only [SR.fin_nx, SR.fin_rt, Ok_ok, ex_nx, R.bind_ok, R.st_ok, SR.next_nx, SR.next_rt, SR.next_bk, SR.next_ct, x_cnon, x_cbl, x_cint, x_cstr, x_var, x_bor, x_bin, x_neg, x_cmp, x_bop, x_bcons, x_not, x_ite, x_tup, x_lst, x_dct1, x_idx, x_slc, x_call, x_bi, x_isi, x_comp, x_nil, x_cons, x_c0, x_c1, x_seq, x_rng1, x_rng2, x_enu, x_keys, y_nil, y_cons, y_asg, y_setI, y_app, y_appPop, y_asgPop, y_ite, y_for, y_while, y_ret, y_retN, y_raise, y_pass, y_brk, y_cont, y_frz, y_exp, b_var, b_tup, b_lst, m_nil, m_cons, g_zero, g_succ, w_nil, w_cons, next_next, next_nil, forF_eq, boolK_nil, boolK_cons, bK_tt, bK_tf, bK_ft, bK_ff, bK_and, bK_or, iteV_bl, iteS_bl, notV_bl, negV_int, condV_bl, seqV_lst, seqV_tup, seqV_scr, enuV_lst, enuV_tup, keysV_dct, compF_eq, biP_1, biP_2, len_lst, len_tup, len_scr, int_int, int_bl, list_lst, list_tup, tuple_lst, tuple_tup, min_int, max_int, abs_int, c_eq, c_ne, c_lt, c_le, c_gt, c_ge, c_is, c_isnot, c_inn, c_notin, in_lst, in_tup, ix_lst, ix_tup, ix_scr, eq_int, eq_bl, eq_str, isNon_non, isNon_int, isNon_tup, isNon_lst, isNon_dct, isNon_bl, isNon_str, bin_add, bin_sub, bin_mod, bin_fdiv, List.set_cons_zero, List.set_cons_succ, List.length_cons, List.length_nil, List.map_cons, List.map_nil, List.cons_append, List.nil_append, List.replicate_succ, List.replicate_zero, ↓reduceIte, Bool.false_eq_true, Int.reduceLT, Int.reducePow, Int.reduceNeg, Int.reduceLE, Int.reduceAdd, Int.reduceSub, Int.reduceMul, Int.reduceMod, Int.reduceDiv, Bool.not_true, Bool.not_false, Bool.true_beq, Bool.false_beq, Bool.and_true, Bool.true_and, Bool.and_false, Bool.false_and, Bool.or_true, Bool.true_or, Bool.or_false, Bool.false_or, Nat.reduceAdd, Nat.reduceSub, Nat.zero_add, Nat.sub_self, part_no, part_int, slc_lst, slc_tup, isNoE, isiV, isiOk, isiP, at_zero, at_1, at_2, at_3, bin_mod hnp, oa, oi, p0, p1, p2, q1, setV, s3, bin_mod hLp, setF]
  refine seq_ex (fun e => ∃ (f' : Nat → Fall) (sp' : Int), e = [some (setV n F L t s), b, some (.int n), some (.lst (ds.map .int)), some (.int st), x5, some (.lst (os.map .int)), some (.int i), x8, some (.lst (rng n fun h => fallV (f' h))), some (.int sp'), some (.int mn), some (.lst [.int pa, .int pb, .int pc, .int pd]), some (.lst (ol.map .int)), some (.lst (dl.map .int)), some (.int af), x16, x17, x18, x19] ∧ ∀ h, FallOk (f' h)) (if_ex (fun hb => ?_) fun hb => ?_) fun e1 he => ?_
  · rw [ex_nx]
    refine ⟨_, _, rfl, okF f hf _ _ ?_⟩
    have := Int.emod_nonneg pb (show (L : Int) ≠ 0 by omega)
    omega
  · rw [ex_nx]
    exact ⟨_, _, rfl, hf⟩
  · obtain ⟨f', sp', rfl, hf'⟩ := he
    have on1 : atP (os.map PV.int) ((n : Int) - 1) = .ok (.int (os.getD ((n : Int) - 1).toNat 0)) := atP_ints (by omega) (by omega)
    generalize os.getD ((n : Int) - 1).toNat 0 = ol1 at on1
    simp -implicitDefEqProofs only [SR.fin_nx, SR.fin_rt, Ok_ok, ex_nx, R.bind_ok, R.st_ok, SR.next_nx, SR.next_rt, SR.next_bk, SR.next_ct, x_cnon, x_cbl, x_cint, x_cstr, x_var, x_bor, x_bin, x_neg, x_cmp, x_bop, x_bcons, x_not, x_ite, x_tup, x_lst, x_dct1, x_idx, x_slc, x_call, x_bi, x_isi, x_comp, x_nil, x_cons, x_c0, x_c1, x_seq, x_rng1, x_rng2, x_enu, x_keys, y_nil, y_cons, y_asg, y_setI, y_app, y_appPop, y_asgPop, y_ite, y_for, y_while, y_ret, y_retN, y_raise, y_pass, y_brk, y_cont, y_frz, y_exp, b_var, b_tup, b_lst, m_nil, m_cons, g_zero, g_succ, w_nil, w_cons, next_next, next_nil, forF_eq, boolK_nil, boolK_cons, bK_tt, bK_tf, bK_ft, bK_ff, bK_and, bK_or, iteV_bl, iteS_bl, notV_bl, negV_int, condV_bl, seqV_lst, seqV_tup, seqV_scr, enuV_lst, enuV_tup, keysV_dct, compF_eq, biP_1, biP_2, len_lst, len_tup, len_scr, int_int, int_bl, list_lst, list_tup, tuple_lst, tuple_tup, min_int, max_int, abs_int, c_eq, c_ne, c_lt, c_le, c_gt, c_ge, c_is, c_isnot, c_inn, c_notin, in_lst, in_tup, ix_lst, ix_tup, ix_scr, eq_int, eq_bl, eq_str, isNon_non, isNon_int, isNon_tup, isNon_lst, isNon_dct, isNon_bl, isNon_str, bin_add, bin_sub, bin_mod, bin_fdiv, List.set_cons_zero, List.set_cons_succ, List.length_cons, List.length_nil, List.map_cons, List.map_nil, List.cons_append, List.nil_append, List.replicate_succ, List.replicate_zero, ↓reduceIte, Bool.false_eq_true, Int.reduceLT, Int.reducePow, Int.reduceNeg, Int.reduceLE, Int.reduceAdd, Int.reduceSub, Int.reduceMul, Int.reduceMod, Int.reduceDiv, Bool.not_true, Bool.not_false, Bool.true_beq, Bool.false_beq, Bool.and_true, Bool.true_and, Bool.and_false, Bool.false_and, Bool.or_true, Bool.true_or, Bool.or_false, Bool.false_or, Nat.reduceAdd, Nat.reduceSub, Nat.zero_add, Nat.sub_self, part_no, part_int, slc_lst, slc_tup, isNoE, isiV, isiOk, isiP, at_zero, at_1, at_2, at_3, setV, on1]
    refine if_ex (fun hb => ?_) fun hb => ?_
    · refine seq_ex (fun e => ∃ rl : List Int, e = [some (setV n F L t s), b, some (.int n), some (.lst (ds.map .int)), some (.int st), x5, some (.lst (os.map .int)), some (.int i), x8, some (.lst (rng n fun h => fallV (f' h))), some (.int sp'), some (.int mn), some (.lst [.int pa, .int pb, .int pc, .int pd]), some (.lst (ol.map .int)), some (.lst (dl.map .int)), some (.int af), x16, some (.lst (rl.map .int)), x18, x19]) (if_ex (fun hb => ?_) fun hb => ?_) fun e1 he => ?_
      · rw [ex_nx]; exact ⟨[ol1], rfl⟩
      · rw [ex_nx]; exact ⟨[af], rfl⟩
      obtain ⟨rl, rfl⟩ := he
      simp -implicitDefEqProofs only [SR.fin_nx, SR.fin_rt, Ok_ok, ex_nx, R.bind_ok, R.st_ok, SR.next_nx, SR.next_rt, SR.next_bk, SR.next_ct, x_cnon, x_cbl, x_cint, x_cstr, x_var, x_bor, x_bin, x_neg, x_cmp, x_bop, x_bcons, x_not, x_ite, x_tup, x_lst, x_dct1, x_idx, x_slc, x_call, x_bi, x_isi, x_comp, x_nil, x_cons, x_c0, x_c1, x_seq, x_rng1, x_rng2, x_enu, x_keys, y_nil, y_cons, y_asg, y_setI, y_app, y_appPop, y_asgPop, y_ite, y_for, y_while, y_ret, y_retN, y_raise, y_pass, y_brk, y_cont, y_frz, y_exp, b_var, b_tup, b_lst, m_nil, m_cons, g_zero, g_succ, w_nil, w_cons, next_next, next_nil, forF_eq, boolK_nil, boolK_cons, bK_tt, bK_tf, bK_ft, bK_ff, bK_and, bK_or, iteV_bl, iteS_bl, notV_bl, negV_int, condV_bl, seqV_lst, seqV_tup, seqV_scr, enuV_lst, enuV_tup, keysV_dct, compF_eq, biP_1, biP_2, len_lst, len_tup, len_scr, int_int, int_bl, list_lst, list_tup, tuple_lst, tuple_tup, min_int, max_int, abs_int, c_eq, c_ne, c_lt, c_le, c_gt, c_ge, c_is, c_isnot, c_inn, c_notin, in_lst, in_tup, ix_lst, ix_tup, ix_scr, eq_int, eq_bl, eq_str, isNon_non, isNon_int, isNon_tup, isNon_lst, isNon_dct, isNon_bl, isNon_str, bin_add, bin_sub, bin_mod, bin_fdiv, List.set_cons_zero, List.set_cons_succ, List.length_cons, List.length_nil, List.map_cons, List.map_nil, List.cons_append, List.nil_append, List.replicate_succ, List.replicate_zero, ↓reduceIte, Bool.false_eq_true, Int.reduceLT, Int.reducePow, Int.reduceNeg, Int.reduceLE, Int.reduceAdd, Int.reduceSub, Int.reduceMul, Int.reduceMod, Int.reduceDiv, Bool.not_true, Bool.not_false, Bool.true_beq, Bool.false_beq, Bool.and_true, Bool.true_and, Bool.and_false, Bool.false_and, Bool.or_true, Bool.true_or, Bool.or_false, Bool.false_or, Nat.reduceAdd, Nat.reduceSub, Nat.zero_add, Nat.sub_self, part_no, part_int, slc_lst, slc_tup, isNoE, isiV, isiOk, isiP, at_zero, at_1, at_2, at_3, setV]
      refine seq_ex (fun e => ∃ rl : List Int, e = [some (setV n F L t s), b, some (.int n), some (.lst (ds.map .int)), some (.int st), x5, some (.lst (os.map .int)), some (.int i), x8, some (.lst (rng n fun h => fallV (f' h))), some (.int sp'), some (.int mn), some (.lst [.int pa, .int pb, .int pc, .int pd]), some (.lst (ol.map .int)), some (.lst (dl.map .int)), some (.int af), x16, some (.lst (rl.map .int)), x18, x19]) (if_ex (fun hb => ?_) fun hb => ?_) fun e1 he => ?_
      · rw [compL_ints (p := fun z => ((dl.any fun y => y == z) || (z == af))) (g := fun z => .int z)]
        rotate_left
        · intro z _
          simp -implicitDefEqProofs only [SR.fin_nx, SR.fin_rt, Ok_ok, ex_nx, R.bind_ok, R.st_ok, SR.next_nx, SR.next_rt, SR.next_bk, SR.next_ct, x_cnon, x_cbl, x_cint, x_cstr, x_var, x_bor, x_bin, x_neg, x_cmp, x_bop, x_bcons, x_not, x_ite, x_tup, x_lst, x_dct1, x_idx, x_slc, x_call, x_bi, x_isi, x_comp, x_nil, x_cons, x_c0, x_c1, x_seq, x_rng1, x_rng2, x_enu, x_keys, y_nil, y_cons, y_asg, y_setI, y_app, y_appPop, y_asgPop, y_ite, y_for, y_while, y_ret, y_retN, y_raise, y_pass, y_brk, y_cont, y_frz, y_exp, b_var, b_tup, b_lst, m_nil, m_cons, g_zero, g_succ, w_nil, w_cons, next_next, next_nil, forF_eq, boolK_nil, boolK_cons, bK_tt, bK_tf, bK_ft, bK_ff, bK_and, bK_or, iteV_bl, iteS_bl, notV_bl, negV_int, condV_bl, seqV_lst, seqV_tup, seqV_scr, enuV_lst, enuV_tup, keysV_dct, compF_eq, biP_1, biP_2, len_lst, len_tup, len_scr, int_int, int_bl, list_lst, list_tup, tuple_lst, tuple_tup, min_int, max_int, abs_int, c_eq, c_ne, c_lt, c_le, c_gt, c_ge, c_is, c_isnot, c_inn, c_notin, in_lst, in_tup, ix_lst, ix_tup, ix_scr, eq_int, eq_bl, eq_str, isNon_non, isNon_int, isNon_tup, isNon_lst, isNon_dct, isNon_bl, isNon_str, bin_add, bin_sub, bin_mod, bin_fdiv, List.set_cons_zero, List.set_cons_succ, List.length_cons, List.length_nil, List.map_cons, List.map_nil, List.cons_append, List.nil_append, List.replicate_succ, List.replicate_zero, ↓reduceIte, Bool.false_eq_true, Int.reduceLT, Int.reducePow, Int.reduceNeg, Int.reduceLE, Int.reduceAdd, Int.reduceSub, Int.reduceMul, Int.reduceMod, Int.reduceDiv, Bool.not_true, Bool.not_false, Bool.true_beq, Bool.false_beq, Bool.and_true, Bool.true_and, Bool.and_false, Bool.false_and, Bool.or_true, Bool.true_or, Bool.or_false, Bool.false_or, Nat.reduceAdd, Nat.reduceSub, Nat.zero_add, Nat.sub_self, part_no, part_int, slc_lst, slc_tup, isNoE, isiV, isiOk, isiP, at_zero, at_1, at_2, at_3, inSeq_ints, if_ok]
        obtain ⟨l3, q3⟩ : ∃ l3 : List Int, atP [PV.lst [.int af], .lst [], .lst ((ol.filter fun z => ((dl.any fun y => y == z) || (z == af))).map .int), .lst (ol.map .int)] pc = .ok (.lst (l3.map .int)) := by
          have : pc = 0 ∨ pc = 1 ∨ pc = 2 ∨ pc = 3 := by omega
          rcases this with rfl | rfl | rfl | rfl
          · exact ⟨[af], rfl⟩
          · exact ⟨[], rfl⟩
          · exact ⟨_, rfl⟩
          · exact ⟨ol, rfl⟩
        simp -implicitDefEqProofs only [SR.fin_nx, SR.fin_rt, Ok_ok, ex_nx, R.bind_ok, R.st_ok, SR.next_nx, SR.next_rt, SR.next_bk, SR.next_ct, x_cnon, x_cbl, x_cint, x_cstr, x_var, x_bor, x_bin, x_neg, x_cmp, x_bop, x_bcons, x_not, x_ite, x_tup, x_lst, x_dct1, x_idx, x_slc, x_call, x_bi, x_isi, x_comp, x_nil, x_cons, x_c0, x_c1, x_seq, x_rng1, x_rng2, x_enu, x_keys, y_nil, y_cons, y_asg, y_setI, y_app, y_appPop, y_asgPop, y_ite, y_for, y_while, y_ret, y_retN, y_raise, y_pass, y_brk, y_cont, y_frz, y_exp, b_var, b_tup, b_lst, m_nil, m_cons, g_zero, g_succ, w_nil, w_cons, next_next, next_nil, forF_eq, boolK_nil, boolK_cons, bK_tt, bK_tf, bK_ft, bK_ff, bK_and, bK_or, iteV_bl, iteS_bl, notV_bl, negV_int, condV_bl, seqV_lst, seqV_tup, seqV_scr, enuV_lst, enuV_tup, keysV_dct, compF_eq, biP_1, biP_2, len_lst, len_tup, len_scr, int_int, int_bl, list_lst, list_tup, tuple_lst, tuple_tup, min_int, max_int, abs_int, c_eq, c_ne, c_lt, c_le, c_gt, c_ge, c_is, c_isnot, c_inn, c_notin, in_lst, in_tup, ix_lst, ix_tup, ix_scr, eq_int, eq_bl, eq_str, isNon_non, isNon_int, isNon_tup, isNon_lst, isNon_dct, isNon_bl, isNon_str, bin_add, bin_sub, bin_mod, bin_fdiv, List.set_cons_zero, List.set_cons_succ, List.length_cons, List.length_nil, List.map_cons, List.map_nil, List.cons_append, List.nil_append, List.replicate_succ, List.replicate_zero, ↓reduceIte, Bool.false_eq_true, Int.reduceLT, Int.reducePow, Int.reduceNeg, Int.reduceLE, Int.reduceAdd, Int.reduceSub, Int.reduceMul, Int.reduceMod, Int.reduceDiv, Bool.not_true, Bool.not_false, Bool.true_beq, Bool.false_beq, Bool.and_true, Bool.true_and, Bool.and_false, Bool.false_and, Bool.or_true, Bool.true_or, Bool.or_false, Bool.false_or, Nat.reduceAdd, Nat.reduceSub, Nat.zero_add, Nat.sub_self, part_no, part_int, slc_lst, slc_tup, isNoE, isiV, isiOk, isiP, at_zero, at_1, at_2, at_3, p2, q3]
        exact ⟨l3, rfl⟩
      · rw [ex_nx]; exact ⟨rl, rfl⟩
      obtain ⟨rl, rfl⟩ := he
      simp -implicitDefEqProofs only [SR.fin_nx, SR.fin_rt, Ok_ok, ex_nx, R.bind_ok, R.st_ok, SR.next_nx, SR.next_rt, SR.next_bk, SR.next_ct, x_cnon, x_cbl, x_cint, x_cstr, x_var, x_bor, x_bin, x_neg, x_cmp, x_bop, x_bcons, x_not, x_ite, x_tup, x_lst, x_dct1, x_idx, x_slc, x_call, x_bi, x_isi, x_comp, x_nil, x_cons, x_c0, x_c1, x_seq, x_rng1, x_rng2, x_enu, x_keys, y_nil, y_cons, y_asg, y_setI, y_app, y_appPop, y_asgPop, y_ite, y_for, y_while, y_ret, y_retN, y_raise, y_pass, y_brk, y_cont, y_frz, y_exp, b_var, b_tup, b_lst, m_nil, m_cons, g_zero, g_succ, w_nil, w_cons, next_next, next_nil, forF_eq, boolK_nil, boolK_cons, bK_tt, bK_tf, bK_ft, bK_ff, bK_and, bK_or, iteV_bl, iteS_bl, notV_bl, negV_int, condV_bl, seqV_lst, seqV_tup, seqV_scr, enuV_lst, enuV_tup, keysV_dct, compF_eq, biP_1, biP_2, len_lst, len_tup, len_scr, int_int, int_bl, list_lst, list_tup, tuple_lst, tuple_tup, min_int, max_int, abs_int, c_eq, c_ne, c_lt, c_le, c_gt, c_ge, c_is, c_isnot, c_inn, c_notin, in_lst, in_tup, ix_lst, ix_tup, ix_scr, eq_int, eq_bl, eq_str, isNon_non, isNon_int, isNon_tup, isNon_lst, isNon_dct, isNon_bl, isNon_str, bin_add, bin_sub, bin_mod, bin_fdiv, List.set_cons_zero, List.set_cons_succ, List.length_cons, List.length_nil, List.map_cons, List.map_nil, List.cons_append, List.nil_append, List.replicate_succ, List.replicate_zero, ↓reduceIte, Bool.false_eq_true, Int.reduceLT, Int.reducePow, Int.reduceNeg, Int.reduceLE, Int.reduceAdd, Int.reduceSub, Int.reduceMul, Int.reduceMod, Int.reduceDiv, Bool.not_true, Bool.not_false, Bool.true_beq, Bool.false_beq, Bool.and_true, Bool.true_and, Bool.and_false, Bool.false_and, Bool.or_true, Bool.true_or, Bool.or_false, Bool.false_or, Nat.reduceAdd, Nat.reduceSub, Nat.zero_add, Nat.sub_self, part_no, part_int, slc_lst, slc_tup, isNoE, isiV, isiOk, isiP, at_zero, at_1, at_2, at_3, setV]
      refine seq_ex (fun e => ∃ rl : List Int, e = [some (setV n F L t s), b, some (.int n), some (.lst (ds.map .int)), some (.int st), x5, some (.lst (os.map .int)), some (.int i), x8, some (.lst (rng n fun h => fallV (f' h))), some (.int sp'), some (.int mn), some (.lst [.int pa, .int pb, .int pc, .int pd]), some (.lst (ol.map .int)), some (.lst (dl.map .int)), some (.int af), x16, some (.lst (rl.map .int)), x18, x19]) (if_ex (fun hb => ?_) fun hb => ?_) fun e1 he => ?_
      · rw [ex_nx]; exact ⟨[], rfl⟩
      · rw [ex_nx]; exact ⟨rl, rfl⟩
      obtain ⟨rl, rfl⟩ := he
      simp -implicitDefEqProofs only [SR.fin_nx, SR.fin_rt, Ok_ok, ex_nx, R.bind_ok, R.st_ok, SR.next_nx, SR.next_rt, SR.next_bk, SR.next_ct, x_cnon, x_cbl, x_cint, x_cstr, x_var, x_bor, x_bin, x_neg, x_cmp, x_bop, x_bcons, x_not, x_ite, x_tup, x_lst, x_dct1, x_idx, x_slc, x_call, x_bi, x_isi, x_comp, x_nil, x_cons, x_c0, x_c1, x_seq, x_rng1, x_rng2, x_enu, x_keys, y_nil, y_cons, y_asg, y_setI, y_app, y_appPop, y_asgPop, y_ite, y_for, y_while, y_ret, y_retN, y_raise, y_pass, y_brk, y_cont, y_frz, y_exp, b_var, b_tup, b_lst, m_nil, m_cons, g_zero, g_succ, w_nil, w_cons, next_next, next_nil, forF_eq, boolK_nil, boolK_cons, bK_tt, bK_tf, bK_ft, bK_ff, bK_and, bK_or, iteV_bl, iteS_bl, notV_bl, negV_int, condV_bl, seqV_lst, seqV_tup, seqV_scr, enuV_lst, enuV_tup, keysV_dct, compF_eq, biP_1, biP_2, len_lst, len_tup, len_scr, int_int, int_bl, list_lst, list_tup, tuple_lst, tuple_tup, min_int, max_int, abs_int, c_eq, c_ne, c_lt, c_le, c_gt, c_ge, c_is, c_isnot, c_inn, c_notin, in_lst, in_tup, ix_lst, ix_tup, ix_scr, eq_int, eq_bl, eq_str, isNon_non, isNon_int, isNon_tup, isNon_lst, isNon_dct, isNon_bl, isNon_str, bin_add, bin_sub, bin_mod, bin_fdiv, List.set_cons_zero, List.set_cons_succ, List.length_cons, List.length_nil, List.map_cons, List.map_nil, List.cons_append, List.nil_append, List.replicate_succ, List.replicate_zero, ↓reduceIte, Bool.false_eq_true, Int.reduceLT, Int.reducePow, Int.reduceNeg, Int.reduceLE, Int.reduceAdd, Int.reduceSub, Int.reduceMul, Int.reduceMod, Int.reduceDiv, Bool.not_true, Bool.not_false, Bool.true_beq, Bool.false_beq, Bool.and_true, Bool.true_and, Bool.and_false, Bool.false_and, Bool.or_true, Bool.true_or, Bool.or_false, Bool.false_or, Nat.reduceAdd, Nat.reduceSub, Nat.zero_add, Nat.sub_self, part_no, part_int, slc_lst, slc_tup, isNoE, isiV, isiOk, isiP, at_zero, at_1, at_2, at_3, setV]
      refine seq_ex (fun e => ∃ rl : List Int, e = [some (setV n F L t s), b, some (.int n), some (.lst (ds.map .int)), some (.int st), x5, some (.lst (os.map .int)), some (.int i), x8, some (.lst (rng n fun h => fallV (f' h))), some (.int sp'), some (.int mn), some (.lst [.int pa, .int pb, .int pc, .int pd]), some (.lst (ol.map .int)), some (.lst (dl.map .int)), some (.int af), x16, some (.lst (rl.map .int)), x18, x19]) (if_ex (fun hb => ?_) fun hb => ?_) fun e1 he => ?_
      · rw [compL_ints (p := fun z => !(z == af)) (g := fun z => .int z)]
        rotate_left
        · intro z _
          simp -implicitDefEqProofs only [SR.fin_nx, SR.fin_rt, Ok_ok, ex_nx, R.bind_ok, R.st_ok, SR.next_nx, SR.next_rt, SR.next_bk, SR.next_ct, x_cnon, x_cbl, x_cint, x_cstr, x_var, x_bor, x_bin, x_neg, x_cmp, x_bop, x_bcons, x_not, x_ite, x_tup, x_lst, x_dct1, x_idx, x_slc, x_call, x_bi, x_isi, x_comp, x_nil, x_cons, x_c0, x_c1, x_seq, x_rng1, x_rng2, x_enu, x_keys, y_nil, y_cons, y_asg, y_setI, y_app, y_appPop, y_asgPop, y_ite, y_for, y_while, y_ret, y_retN, y_raise, y_pass, y_brk, y_cont, y_frz, y_exp, b_var, b_tup, b_lst, m_nil, m_cons, g_zero, g_succ, w_nil, w_cons, next_next, next_nil, forF_eq, boolK_nil, boolK_cons, bK_tt, bK_tf, bK_ft, bK_ff, bK_and, bK_or, iteV_bl, iteS_bl, notV_bl, negV_int, condV_bl, seqV_lst, seqV_tup, seqV_scr, enuV_lst, enuV_tup, keysV_dct, compF_eq, biP_1, biP_2, len_lst, len_tup, len_scr, int_int, int_bl, list_lst, list_tup, tuple_lst, tuple_tup, min_int, max_int, abs_int, c_eq, c_ne, c_lt, c_le, c_gt, c_ge, c_is, c_isnot, c_inn, c_notin, in_lst, in_tup, ix_lst, ix_tup, ix_scr, eq_int, eq_bl, eq_str, isNon_non, isNon_int, isNon_tup, isNon_lst, isNon_dct, isNon_bl, isNon_str, bin_add, bin_sub, bin_mod, bin_fdiv, List.set_cons_zero, List.set_cons_succ, List.length_cons, List.length_nil, List.map_cons, List.map_nil, List.cons_append, List.nil_append, List.replicate_succ, List.replicate_zero, ↓reduceIte, Bool.false_eq_true, Int.reduceLT, Int.reducePow, Int.reduceNeg, Int.reduceLE, Int.reduceAdd, Int.reduceSub, Int.reduceMul, Int.reduceMod, Int.reduceDiv, Bool.not_true, Bool.not_false, Bool.true_beq, Bool.false_beq, Bool.and_true, Bool.true_and, Bool.and_false, Bool.false_and, Bool.or_true, Bool.true_or, Bool.or_false, Bool.false_or, Nat.reduceAdd, Nat.reduceSub, Nat.zero_add, Nat.sub_self, part_no, part_int, slc_lst, slc_tup, isNoE, isiV, isiOk, isiP, at_zero, at_1, at_2, at_3, if_ok]
        simp -implicitDefEqProofs only [SR.fin_nx, SR.fin_rt, Ok_ok, ex_nx, R.bind_ok, R.st_ok, SR.next_nx, SR.next_rt, SR.next_bk, SR.next_ct, x_cnon, x_cbl, x_cint, x_cstr, x_var, x_bor, x_bin, x_neg, x_cmp, x_bop, x_bcons, x_not, x_ite, x_tup, x_lst, x_dct1, x_idx, x_slc, x_call, x_bi, x_isi, x_comp, x_nil, x_cons, x_c0, x_c1, x_seq, x_rng1, x_rng2, x_enu, x_keys, y_nil, y_cons, y_asg, y_setI, y_app, y_appPop, y_asgPop, y_ite, y_for, y_while, y_ret, y_retN, y_raise, y_pass, y_brk, y_cont, y_frz, y_exp, b_var, b_tup, b_lst, m_nil, m_cons, g_zero, g_succ, w_nil, w_cons, next_next, next_nil, forF_eq, boolK_nil, boolK_cons, bK_tt, bK_tf, bK_ft, bK_ff, bK_and, bK_or, iteV_bl, iteS_bl, notV_bl, negV_int, condV_bl, seqV_lst, seqV_tup, seqV_scr, enuV_lst, enuV_tup, keysV_dct, compF_eq, biP_1, biP_2, len_lst, len_tup, len_scr, int_int, int_bl, list_lst, list_tup, tuple_lst, tuple_tup, min_int, max_int, abs_int, c_eq, c_ne, c_lt, c_le, c_gt, c_ge, c_is, c_isnot, c_inn, c_notin, in_lst, in_tup, ix_lst, ix_tup, ix_scr, eq_int, eq_bl, eq_str, isNon_non, isNon_int, isNon_tup, isNon_lst, isNon_dct, isNon_bl, isNon_str, bin_add, bin_sub, bin_mod, bin_fdiv, List.set_cons_zero, List.set_cons_succ, List.length_cons, List.length_nil, List.map_cons, List.map_nil, List.cons_append, List.nil_append, List.replicate_succ, List.replicate_zero, ↓reduceIte, Bool.false_eq_true, Int.reduceLT, Int.reducePow, Int.reduceNeg, Int.reduceLE, Int.reduceAdd, Int.reduceSub, Int.reduceMul, Int.reduceMod, Int.reduceDiv, Bool.not_true, Bool.not_false, Bool.true_beq, Bool.false_beq, Bool.and_true, Bool.true_and, Bool.and_false, Bool.false_and, Bool.or_true, Bool.true_or, Bool.or_false, Bool.false_or, Nat.reduceAdd, Nat.reduceSub, Nat.zero_add, Nat.sub_self, part_no, part_int, slc_lst, slc_tup, isNoE, isiV, isiOk, isiP, at_zero, at_1, at_2, at_3]
        exact ⟨_, rfl⟩
      · rw [ex_nx]; exact ⟨rl, rfl⟩
      obtain ⟨rl, rfl⟩ := he
      simp -implicitDefEqProofs only [SR.fin_nx, SR.fin_rt, Ok_ok, ex_nx, R.bind_ok, R.st_ok, SR.next_nx, SR.next_rt, SR.next_bk, SR.next_ct, x_cnon, x_cbl, x_cint, x_cstr, x_var, x_bor, x_bin, x_neg, x_cmp, x_bop, x_bcons, x_not, x_ite, x_tup, x_lst, x_dct1, x_idx, x_slc, x_call, x_bi, x_isi, x_comp, x_nil, x_cons, x_c0, x_c1, x_seq, x_rng1, x_rng2, x_enu, x_keys, y_nil, y_cons, y_asg, y_setI, y_app, y_appPop, y_asgPop, y_ite, y_for, y_while, y_ret, y_retN, y_raise, y_pass, y_brk, y_cont, y_frz, y_exp, b_var, b_tup, b_lst, m_nil, m_cons, g_zero, g_succ, w_nil, w_cons, next_next, next_nil, forF_eq, boolK_nil, boolK_cons, bK_tt, bK_tf, bK_ft, bK_ff, bK_and, bK_or, iteV_bl, iteS_bl, notV_bl, negV_int, condV_bl, seqV_lst, seqV_tup, seqV_scr, enuV_lst, enuV_tup, keysV_dct, compF_eq, biP_1, biP_2, len_lst, len_tup, len_scr, int_int, int_bl, list_lst, list_tup, tuple_lst, tuple_tup, min_int, max_int, abs_int, c_eq, c_ne, c_lt, c_le, c_gt, c_ge, c_is, c_isnot, c_inn, c_notin, in_lst, in_tup, ix_lst, ix_tup, ix_scr, eq_int, eq_bl, eq_str, isNon_non, isNon_int, isNon_tup, isNon_lst, isNon_dct, isNon_bl, isNon_str, bin_add, bin_sub, bin_mod, bin_fdiv, List.set_cons_zero, List.set_cons_succ, List.length_cons, List.length_nil, List.map_cons, List.map_nil, List.cons_append, List.nil_append, List.replicate_succ, List.replicate_zero, ↓reduceIte, Bool.false_eq_true, Int.reduceLT, Int.reducePow, Int.reduceNeg, Int.reduceLE, Int.reduceAdd, Int.reduceSub, Int.reduceMul, Int.reduceMod, Int.reduceDiv, Bool.not_true, Bool.not_false, Bool.true_beq, Bool.false_beq, Bool.and_true, Bool.true_and, Bool.and_false, Bool.false_and, Bool.or_true, Bool.true_or, Bool.or_false, Bool.false_or, Nat.reduceAdd, Nat.reduceSub, Nat.zero_add, Nat.sub_self, part_no, part_int, slc_lst, slc_tup, isNoE, isiV, isiOk, isiP, at_zero, at_1, at_2, at_3, setV, oi, setF]
      exact ⟨_, _, _, _, _, _, _, _, _, _, _, rfl, okF f' hf' _ _ (by omega)⟩
    · rw [ex_nx]
      exact ⟨_, _, _, _, _, _, _, _, _, _, _, rfl, hf'⟩
theorem f_story (h8 : H8 Φ) (n F L : Nat) (t s : Str) (hn : 2 ≤ n) (hn5 : n ≤ 5) (hL : 1 ≤ L) (hL5 : L ≤ 5) (c : Int) : Ok (runD Φ fu d16 [setV n F L t s, .int c]) (StoryOk n) := by
  rw [runD_eq rfl]
  obtain ⟨_, e8, ds, rfl, hl, hd⟩ := h8 c [10, 4, 60, 60, 60, 60, 60, 8, 8, 8, 8, 8, 4, 60, 4, 16, 4, 60, 4, 16, 4, 60, 4, 16, 4, 60, 4, 16, 4, 60, 4, 16] (by decide) (by
    intro k hk
    have hk' : k < 32 := hk
    have : ∀ k : Fin 32, 0 < ([10, 4, 60, 60, 60, 60, 60, 8, 8, 8, 8, 8, 4, 60, 4, 16, 4, 60, 4, 16, 4, 60, 4, 16, 4, 60, 4, 16, 4, 60, 4, 16] : List Int).getD k.1 0 ∧ ([10, 4, 60, 60, 60, 60, 60, 8, 8, 8, 8, 8, 4, 60, 4, 16, 4, 60, 4, 16, 4, 60, 4, 16, 4, 60, 4, 16, 4, 60, 4, 16] : List Int).getD k.1 0 < 2 ^ 64 := by decide +kernel
    exact this ⟨k, hk'⟩)
  have hl : ds.length = 32 := hl
  simp only [List.map_cons, List.map_nil] at e8
  have at1 : ∀ (k : Nat), k < 32 → atP (ds.map PV.int) (k : Int) = .ok (.int (ds.getD k 0)) := fun k hk => atP_ints (by omega) (by omega)
  have r0 : atP (ds.map PV.int) 0 = .ok (.int (ds.getD 0 0)) := at1 0 (by omega)
  have r1 : atP (ds.map PV.int) 1 = .ok (.int (ds.getD 1 0)) := at1 1 (by omega)
  have r12 : atP (ds.map PV.int) 12 = .ok (.int (ds.getD 12 0)) := at1 12 (by omega)
  have b0 := hd 0 (by decide)
  have b1 := hd 1 (by decide)
  have b3 : ∀ i, i < 5 → 0 ≤ ds.getD (12 + 4 * i + 2) 0 ∧ ds.getD (12 + 4 * i + 2) 0 < 4 := fun i hi => by
    have := hd (12 + 4 * i + 2) (by show _ < 32; omega)
    have hi' : i = 0 ∨ i = 1 ∨ i = 2 ∨ i = 3 ∨ i = 4 := by omega
    rcases hi' with rfl | rfl | rfl | rfl | rfl <;> exact this
  obtain ⟨st, c0⟩ : ∃ st : Int, atP [PV.int 0, .int 1, .int 0, .int 2, .int 0, .int 3, .int 1, .int 4, .int 0, .int 5] (ds.getD 0 0) = .ok (.int st) := by
    have hb : 0 ≤ ds.getD 0 0 ∧ ds.getD 0 0 < 10 := b0
    generalize ds.getD 0 0 = d at hb
    have : d = 0 ∨ d = 1 ∨ d = 2 ∨ d = 3 ∨ d = 4 ∨ d = 5 ∨ d = 6 ∨ d = 7 ∨ d = 8 ∨ d = 9 := by omega
    rcases this with rfl | rfl | rfl | rfl | rfl | rfl | rfl | rfl | rfl | rfl <;> exact ⟨_, rfl⟩
  have s1 : atP [PV.str "falls", .int n, .int F, .int L, .int 2, .str t, .str s] 1 = .ok (.int n) := rfl
  have s2 : atP [PV.str "falls", .int n, .int F, .int L, .int 2, .str t, .str s] 2 = .ok (.int F) := rfl
  have s3 : atP [PV.str "falls", .int n, .int F, .int L, .int 2, .str t, .str s] 3 = .ok (.int L) := rfl
  have rn := rng1_nat (show n ≤ 1000 by omega)
  have k1 : binP .mul (.lst [.int 60]) (.int 5) = .ok (.lst [.int 60, .int 60, .int 60, .int 60, .int 60]) := rfl
  have k2 : binP .mul (.lst [.int 8]) (.int 5) = .ok (.lst [.int 8, .int 8, .int 8, .int 8, .int 8]) := rfl
  have k3 : binP .mul (.lst [.int 4, .int 60, .int 4, .int 16]) (.int 5) = .ok (.lst [.int 4, .int 60, .int 4, .int 16, .int 4, .int 60, .int 4, .int 16, .int 4, .int 60, .int 4, .int 16, .int 4, .int 60, .int 4, .int 16, .int 4, .int 60, .int 4, .int 16]) := rfl
  have kc : ∀ xs ys : List PV, xs.length + ys.length ≤ 100 → binP .add (.lst xs) (.lst ys) = .ok (.lst (xs ++ ys)) := fun xs ys h => bin_cat (by omega)
  have cc1 := kc [.int 10, .int 4] [.int 60, .int 60, .int 60, .int 60, .int 60] (by decide)
  have cc2 := kc [.int 10, .int 4, .int 60, .int 60, .int 60, .int 60, .int 60] [.int 8, .int 8, .int 8, .int 8, .int 8] (by decide)
  have cc3 := kc [.int 10, .int 4, .int 60, .int 60, .int 60, .int 60, .int 60, .int 8, .int 8, .int 8, .int 8, .int 8] [.int 4, .int 60, .int 4, .int 16, .int 4, .int 60, .int 4, .int 16, .int 4, .int 60, .int 4, .int 16, .int 4, .int 60, .int 4, .int 16, .int 4, .int 60, .int 4, .int 16] (by decide)
  simp -implicitDefEqProofs only [SR.fin_nx, SR.fin_rt, Ok_ok, ex_nx, R.bind_ok, R.st_ok, SR.next_nx, SR.next_rt, SR.next_bk, SR.next_ct, x_cnon, x_cbl, x_cint, x_cstr, x_var, x_bor, x_bin, x_neg, x_cmp, x_bop, x_bcons, x_not, x_ite, x_tup, x_lst, x_dct1, x_idx, x_slc, x_call, x_bi, x_isi, x_comp, x_nil, x_cons, x_c0, x_c1, x_seq, x_rng1, x_rng2, x_enu, x_keys, y_nil, y_cons, y_asg, y_setI, y_app, y_appPop, y_asgPop, y_ite, y_for, y_while, y_ret, y_retN, y_raise, y_pass, y_brk, y_cont, y_frz, y_exp, b_var, b_tup, b_lst, m_nil, m_cons, g_zero, g_succ, w_nil, w_cons, next_next, next_nil, forF_eq, boolK_nil, boolK_cons, bK_tt, bK_tf, bK_ft, bK_ff, bK_and, bK_or, iteV_bl, iteS_bl, notV_bl, negV_int, condV_bl, seqV_lst, seqV_tup, seqV_scr, enuV_lst, enuV_tup, keysV_dct, compF_eq, biP_1, biP_2, len_lst, len_tup, len_scr, int_int, int_bl, list_lst, list_tup, tuple_lst, tuple_tup, min_int, max_int, abs_int, c_eq, c_ne, c_lt, c_le, c_gt, c_ge, c_is, c_isnot, c_inn, c_notin, in_lst, in_tup, ix_lst, ix_tup, ix_scr, eq_int, eq_bl, eq_str, isNon_non, isNon_int, isNon_tup, isNon_lst, isNon_dct, isNon_bl, isNon_str, bin_add, bin_sub, bin_mod, bin_fdiv, List.set_cons_zero, List.set_cons_succ, List.length_cons, List.length_nil, List.map_cons, List.map_nil, List.cons_append, List.nil_append, List.replicate_succ, List.replicate_zero, ↓reduceIte, Bool.false_eq_true, Int.reduceLT, Int.reducePow, Int.reduceNeg, Int.reduceLE, Int.reduceAdd, Int.reduceSub, Int.reduceMul, Int.reduceMod, Int.reduceDiv, Bool.not_true, Bool.not_false, Bool.true_beq, Bool.false_beq, Bool.and_true, Bool.true_and, Bool.and_false, Bool.false_and, Bool.or_true, Bool.true_or, Bool.or_false, Bool.false_or, Nat.reduceAdd, Nat.reduceSub, Nat.zero_add, Nat.sub_self, part_no, part_int, slc_lst, slc_tup, isNoE, isiV, isiOk, isiP, at_zero, at_1, at_2, at_3, d16, setV, s1, s2, s3, k1, k2, k3, cc1, cc2, cc3, e8, r0, c0, rn]
  rw [compL_rng (h := fun i => .int i)]
  rotate_left
  · intro i hi
    simp -implicitDefEqProofs only [SR.fin_nx, SR.fin_rt, Ok_ok, ex_nx, R.bind_ok, R.st_ok, SR.next_nx, SR.next_rt, SR.next_bk, SR.next_ct, x_cnon, x_cbl, x_cint, x_cstr, x_var, x_bor, x_bin, x_neg, x_cmp, x_bop, x_bcons, x_not, x_ite, x_tup, x_lst, x_dct1, x_idx, x_slc, x_call, x_bi, x_isi, x_comp, x_nil, x_cons, x_c0, x_c1, x_seq, x_rng1, x_rng2, x_enu, x_keys, y_nil, y_cons, y_asg, y_setI, y_app, y_appPop, y_asgPop, y_ite, y_for, y_while, y_ret, y_retN, y_raise, y_pass, y_brk, y_cont, y_frz, y_exp, b_var, b_tup, b_lst, m_nil, m_cons, g_zero, g_succ, w_nil, w_cons, next_next, next_nil, forF_eq, boolK_nil, boolK_cons, bK_tt, bK_tf, bK_ft, bK_ff, bK_and, bK_or, iteV_bl, iteS_bl, notV_bl, negV_int, condV_bl, seqV_lst, seqV_tup, seqV_scr, enuV_lst, enuV_tup, keysV_dct, compF_eq, biP_1, biP_2, len_lst, len_tup, len_scr, int_int, int_bl, list_lst, list_tup, tuple_lst, tuple_tup, min_int, max_int, abs_int, c_eq, c_ne, c_lt, c_le, c_gt, c_ge, c_is, c_isnot, c_inn, c_notin, in_lst, in_tup, ix_lst, ix_tup, ix_scr, eq_int, eq_bl, eq_str, isNon_non, isNon_int, isNon_tup, isNon_lst, isNon_dct, isNon_bl, isNon_str, bin_add, bin_sub, bin_mod, bin_fdiv, List.set_cons_zero, List.set_cons_succ, List.length_cons, List.length_nil, List.map_cons, List.map_nil, List.cons_append, List.nil_append, List.replicate_succ, List.replicate_zero, ↓reduceIte, Bool.false_eq_true, Int.reduceLT, Int.reducePow, Int.reduceNeg, Int.reduceLE, Int.reduceAdd, Int.reduceSub, Int.reduceMul, Int.reduceMod, Int.reduceDiv, Bool.not_true, Bool.not_false, Bool.true_beq, Bool.false_beq, Bool.and_true, Bool.true_and, Bool.and_false, Bool.false_and, Bool.or_true, Bool.true_or, Bool.or_false, Bool.false_or, Nat.reduceAdd, Nat.reduceSub, Nat.zero_add, Nat.sub_self, part_no, part_int, slc_lst, slc_tup, isNoE, isiV, isiOk, isiP, at_zero, at_1, at_2, at_3]
  simp -implicitDefEqProofs only [SR.fin_nx, SR.fin_rt, Ok_ok, ex_nx, R.bind_ok, R.st_ok, SR.next_nx, SR.next_rt, SR.next_bk, SR.next_ct, x_cnon, x_cbl, x_cint, x_cstr, x_var, x_bor, x_bin, x_neg, x_cmp, x_bop, x_bcons, x_not, x_ite, x_tup, x_lst, x_dct1, x_idx, x_slc, x_call, x_bi, x_isi, x_comp, x_nil, x_cons, x_c0, x_c1, x_seq, x_rng1, x_rng2, x_enu, x_keys, y_nil, y_cons, y_asg, y_setI, y_app, y_appPop, y_asgPop, y_ite, y_for, y_while, y_ret, y_retN, y_raise, y_pass, y_brk, y_cont, y_frz, y_exp, b_var, b_tup, b_lst, m_nil, m_cons, g_zero, g_succ, w_nil, w_cons, next_next, next_nil, forF_eq, boolK_nil, boolK_cons, bK_tt, bK_tf, bK_ft, bK_ff, bK_and, bK_or, iteV_bl, iteS_bl, notV_bl, negV_int, condV_bl, seqV_lst, seqV_tup, seqV_scr, enuV_lst, enuV_tup, keysV_dct, compF_eq, biP_1, biP_2, len_lst, len_tup, len_scr, int_int, int_bl, list_lst, list_tup, tuple_lst, tuple_tup, min_int, max_int, abs_int, c_eq, c_ne, c_lt, c_le, c_gt, c_ge, c_is, c_isnot, c_inn, c_notin, in_lst, in_tup, ix_lst, ix_tup, ix_scr, eq_int, eq_bl, eq_str, isNon_non, isNon_int, isNon_tup, isNon_lst, isNon_dct, isNon_bl, isNon_str, bin_add, bin_sub, bin_mod, bin_fdiv, List.set_cons_zero, List.set_cons_succ, List.length_cons, List.length_nil, List.map_cons, List.map_nil, List.cons_append, List.nil_append, List.replicate_succ, List.replicate_zero, ↓reduceIte, Bool.false_eq_true, Int.reduceLT, Int.reducePow, Int.reduceNeg, Int.reduceLE, Int.reduceAdd, Int.reduceSub, Int.reduceMul, Int.reduceMod, Int.reduceDiv, Bool.not_true, Bool.not_false, Bool.true_beq, Bool.false_beq, Bool.and_true, Bool.true_and, Bool.and_false, Bool.false_and, Bool.or_true, Bool.true_or, Bool.or_false, Bool.false_or, Nat.reduceAdd, Nat.reduceSub, Nat.zero_add, Nat.sub_self, part_no, part_int, slc_lst, slc_tup, isNoE, isiV, isiOk, isiP, at_zero, at_1, at_2, at_3, rn]
  refine l_left n hn5 (by omega) ds hl _ _ _ _ _ _ _ _ _ _ _ _ _ _ _ _ _ fun os e5 e7 ho hos => ?_
  have hrow : ∀ z : Int, ∃ w : Int, atP [PV.int 1, .int 1, .int z, .int 1] (ds.getD 1 0) = .ok (.int w) := fun z => by
    have hb : 0 ≤ ds.getD 1 0 ∧ ds.getD 1 0 < 4 := b1
    generalize ds.getD 1 0 = d at hb
    have : d = 0 ∨ d = 1 ∨ d = 2 ∨ d = 3 := by omega
    rcases this with rfl | rfl | rfl | rfl <;> exact ⟨_, rfl⟩
  let B0 : Nat → Int := fun i => Classical.choose (hrow (if decide (0 < ds.getD (7 + i) 0) = true then 1 else 0))
  have hB0 : ∀ i : Nat, atP [PV.int 1, .int 1, .int (if decide (0 < ds.getD (7 + i) 0) = true then 1 else 0), .int 1] (ds.getD 1 0) = .ok (.int (B0 i)) := fun i => Classical.choose_spec (hrow (if decide (0 < ds.getD (7 + i) 0) = true then 1 else 0))
  clear_value B0
  simp -implicitDefEqProofs only [SR.fin_nx, SR.fin_rt, Ok_ok, ex_nx, R.bind_ok, R.st_ok, SR.next_nx, SR.next_rt, SR.next_bk, SR.next_ct, x_cnon, x_cbl, x_cint, x_cstr, x_var, x_bor, x_bin, x_neg, x_cmp, x_bop, x_bcons, x_not, x_ite, x_tup, x_lst, x_dct1, x_idx, x_slc, x_call, x_bi, x_isi, x_comp, x_nil, x_cons, x_c0, x_c1, x_seq, x_rng1, x_rng2, x_enu, x_keys, y_nil, y_cons, y_asg, y_setI, y_app, y_appPop, y_asgPop, y_ite, y_for, y_while, y_ret, y_retN, y_raise, y_pass, y_brk, y_cont, y_frz, y_exp, b_var, b_tup, b_lst, m_nil, m_cons, g_zero, g_succ, w_nil, w_cons, next_next, next_nil, forF_eq, boolK_nil, boolK_cons, bK_tt, bK_tf, bK_ft, bK_ff, bK_and, bK_or, iteV_bl, iteS_bl, notV_bl, negV_int, condV_bl, seqV_lst, seqV_tup, seqV_scr, enuV_lst, enuV_tup, keysV_dct, compF_eq, biP_1, biP_2, len_lst, len_tup, len_scr, int_int, int_bl, list_lst, list_tup, tuple_lst, tuple_tup, min_int, max_int, abs_int, c_eq, c_ne, c_lt, c_le, c_gt, c_ge, c_is, c_isnot, c_inn, c_notin, in_lst, in_tup, ix_lst, ix_tup, ix_scr, eq_int, eq_bl, eq_str, isNon_non, isNon_int, isNon_tup, isNon_lst, isNon_dct, isNon_bl, isNon_str, bin_add, bin_sub, bin_mod, bin_fdiv, List.set_cons_zero, List.set_cons_succ, List.length_cons, List.length_nil, List.map_cons, List.map_nil, List.cons_append, List.nil_append, List.replicate_succ, List.replicate_zero, ↓reduceIte, Bool.false_eq_true, Int.reduceLT, Int.reducePow, Int.reduceNeg, Int.reduceLE, Int.reduceAdd, Int.reduceSub, Int.reduceMul, Int.reduceMod, Int.reduceDiv, Bool.not_true, Bool.not_false, Bool.true_beq, Bool.false_beq, Bool.and_true, Bool.true_and, Bool.and_false, Bool.false_and, Bool.or_true, Bool.true_or, Bool.or_false, Bool.false_or, Nat.reduceAdd, Nat.reduceSub, Nat.zero_add, Nat.sub_self, part_no, part_int, slc_lst, slc_tup, isNoE, isiV, isiOk, isiP, at_zero, at_1, at_2, at_3, rn]
  rw [compL_rng (h := fun i => .int (B0 i))]
  rotate_left
  · intro i hi
    have a7 : atP (ds.map PV.int) (7 + (i : Int)) = .ok (.int (ds.getD (7 + i) 0)) := by
      have := at1 (7 + i) (by omega)
      rwa [show ((7 + i : Nat) : Int) = 7 + (i : Int) by omega] at this
    simp -implicitDefEqProofs only [SR.fin_nx, SR.fin_rt, Ok_ok, ex_nx, R.bind_ok, R.st_ok, SR.next_nx, SR.next_rt, SR.next_bk, SR.next_ct, x_cnon, x_cbl, x_cint, x_cstr, x_var, x_bor, x_bin, x_neg, x_cmp, x_bop, x_bcons, x_not, x_ite, x_tup, x_lst, x_dct1, x_idx, x_slc, x_call, x_bi, x_isi, x_comp, x_nil, x_cons, x_c0, x_c1, x_seq, x_rng1, x_rng2, x_enu, x_keys, y_nil, y_cons, y_asg, y_setI, y_app, y_appPop, y_asgPop, y_ite, y_for, y_while, y_ret, y_retN, y_raise, y_pass, y_brk, y_cont, y_frz, y_exp, b_var, b_tup, b_lst, m_nil, m_cons, g_zero, g_succ, w_nil, w_cons, next_next, next_nil, forF_eq, boolK_nil, boolK_cons, bK_tt, bK_tf, bK_ft, bK_ff, bK_and, bK_or, iteV_bl, iteS_bl, notV_bl, negV_int, condV_bl, seqV_lst, seqV_tup, seqV_scr, enuV_lst, enuV_tup, keysV_dct, compF_eq, biP_1, biP_2, len_lst, len_tup, len_scr, int_int, int_bl, list_lst, list_tup, tuple_lst, tuple_tup, min_int, max_int, abs_int, c_eq, c_ne, c_lt, c_le, c_gt, c_ge, c_is, c_isnot, c_inn, c_notin, in_lst, in_tup, ix_lst, ix_tup, ix_scr, eq_int, eq_bl, eq_str, isNon_non, isNon_int, isNon_tup, isNon_lst, isNon_dct, isNon_bl, isNon_str, bin_add, bin_sub, bin_mod, bin_fdiv, List.set_cons_zero, List.set_cons_succ, List.length_cons, List.length_nil, List.map_cons, List.map_nil, List.cons_append, List.nil_append, List.replicate_succ, List.replicate_zero, ↓reduceIte, Bool.false_eq_true, Int.reduceLT, Int.reducePow, Int.reduceNeg, Int.reduceLE, Int.reduceAdd, Int.reduceSub, Int.reduceMul, Int.reduceMod, Int.reduceDiv, Bool.not_true, Bool.not_false, Bool.true_beq, Bool.false_beq, Bool.and_true, Bool.true_and, Bool.and_false, Bool.false_and, Bool.or_true, Bool.true_or, Bool.or_false, Bool.false_or, Nat.reduceAdd, Nat.reduceSub, Nat.zero_add, Nat.sub_self, part_no, part_int, slc_lst, slc_tup, isNoE, isiV, isiOk, isiP, at_zero, at_1, at_2, at_3, a7, r1, hB0 i]
  have o0 : atP (os.map PV.int) 0 = .ok (.int (os.getD 0 0)) := atP_ints (i := 0) (by omega) (by omega)
  obtain ⟨oa, ob⟩ := hos _ (PY.getD_mem (ls := os) (k := 0) (by omega))
  generalize os.getD 0 0 = oo at o0 oa ob
  have setB : setP (.lst (rng n fun h => .int (B0 h))) (.int oo) (.int 0) = .ok (.lst (rng n fun h => .int (if (h : Int) = oo then 0 else B0 h))) := by
    rw [setP_rng oa ob]
    refine congrArg (fun x => R.ok (PV.lst x)) (rng_congr fun h _ => ?_)
    by_cases hh : (h : Int) = oo
    · rw [if_pos hh, if_pos hh]
    · rw [if_neg hh, if_neg hh]
  simp -implicitDefEqProofs only [SR.fin_nx, SR.fin_rt, Ok_ok, ex_nx, R.bind_ok, R.st_ok, SR.next_nx, SR.next_rt, SR.next_bk, SR.next_ct, x_cnon, x_cbl, x_cint, x_cstr, x_var, x_bor, x_bin, x_neg, x_cmp, x_bop, x_bcons, x_not, x_ite, x_tup, x_lst, x_dct1, x_idx, x_slc, x_call, x_bi, x_isi, x_comp, x_nil, x_cons, x_c0, x_c1, x_seq, x_rng1, x_rng2, x_enu, x_keys, y_nil, y_cons, y_asg, y_setI, y_app, y_appPop, y_asgPop, y_ite, y_for, y_while, y_ret, y_retN, y_raise, y_pass, y_brk, y_cont, y_frz, y_exp, b_var, b_tup, b_lst, m_nil, m_cons, g_zero, g_succ, w_nil, w_cons, next_next, next_nil, forF_eq, boolK_nil, boolK_cons, bK_tt, bK_tf, bK_ft, bK_ff, bK_and, bK_or, iteV_bl, iteS_bl, notV_bl, negV_int, condV_bl, seqV_lst, seqV_tup, seqV_scr, enuV_lst, enuV_tup, keysV_dct, compF_eq, biP_1, biP_2, len_lst, len_tup, len_scr, int_int, int_bl, list_lst, list_tup, tuple_lst, tuple_tup, min_int, max_int, abs_int, c_eq, c_ne, c_lt, c_le, c_gt, c_ge, c_is, c_isnot, c_inn, c_notin, in_lst, in_tup, ix_lst, ix_tup, ix_scr, eq_int, eq_bl, eq_str, isNon_non, isNon_int, isNon_tup, isNon_lst, isNon_dct, isNon_bl, isNon_str, bin_add, bin_sub, bin_mod, bin_fdiv, List.set_cons_zero, List.set_cons_succ, List.length_cons, List.length_nil, List.map_cons, List.map_nil, List.cons_append, List.nil_append, List.replicate_succ, List.replicate_zero, ↓reduceIte, Bool.false_eq_true, Int.reduceLT, Int.reducePow, Int.reduceNeg, Int.reduceLE, Int.reduceAdd, Int.reduceSub, Int.reduceMul, Int.reduceMod, Int.reduceDiv, Bool.not_true, Bool.not_false, Bool.true_beq, Bool.false_beq, Bool.and_true, Bool.true_and, Bool.and_false, Bool.false_and, Bool.or_true, Bool.true_or, Bool.or_false, Bool.false_or, Nat.reduceAdd, Nat.reduceSub, Nat.zero_add, Nat.sub_self, part_no, part_int, slc_lst, slc_tup, isNoE, isiV, isiOk, isiP, at_zero, at_1, at_2, at_3, r1, o0, setB]
  refine seq_ok (fun e => ∃ B : Nat → Int, e = [some (setV n F L t s), some (.int c), some (.int n), some (.lst (ds.map .int)), some (.int st), e5, some (.lst (os.map .int)), e7, some (.lst (rng n fun h => .int (B h))), none, none, none, none, none, none, none, none, none, none, none]) (if_ex (fun hb => ?_) fun hb => ?_) fun e1 he => ?_
  · rw [ex_nx]; exact ⟨_, rfl⟩
  · rw [ex_nx]; exact ⟨_, rfl⟩
  obtain ⟨B, rfl⟩ := he
  simp -implicitDefEqProofs only [SR.fin_nx, SR.fin_rt, Ok_ok, ex_nx, R.bind_ok, R.st_ok, SR.next_nx, SR.next_rt, SR.next_bk, SR.next_ct, x_cnon, x_cbl, x_cint, x_cstr, x_var, x_bor, x_bin, x_neg, x_cmp, x_bop, x_bcons, x_not, x_ite, x_tup, x_lst, x_dct1, x_idx, x_slc, x_call, x_bi, x_isi, x_comp, x_nil, x_cons, x_c0, x_c1, x_seq, x_rng1, x_rng2, x_enu, x_keys, y_nil, y_cons, y_asg, y_setI, y_app, y_appPop, y_asgPop, y_ite, y_for, y_while, y_ret, y_retN, y_raise, y_pass, y_brk, y_cont, y_frz, y_exp, b_var, b_tup, b_lst, m_nil, m_cons, g_zero, g_succ, w_nil, w_cons, next_next, next_nil, forF_eq, boolK_nil, boolK_cons, bK_tt, bK_tf, bK_ft, bK_ff, bK_and, bK_or, iteV_bl, iteS_bl, notV_bl, negV_int, condV_bl, seqV_lst, seqV_tup, seqV_scr, enuV_lst, enuV_tup, keysV_dct, compF_eq, biP_1, biP_2, len_lst, len_tup, len_scr, int_int, int_bl, list_lst, list_tup, tuple_lst, tuple_tup, min_int, max_int, abs_int, c_eq, c_ne, c_lt, c_le, c_gt, c_ge, c_is, c_isnot, c_inn, c_notin, in_lst, in_tup, ix_lst, ix_tup, ix_scr, eq_int, eq_bl, eq_str, isNon_non, isNon_int, isNon_tup, isNon_lst, isNon_dct, isNon_bl, isNon_str, bin_add, bin_sub, bin_mod, bin_fdiv, List.set_cons_zero, List.set_cons_succ, List.length_cons, List.length_nil, List.map_cons, List.map_nil, List.cons_append, List.nil_append, List.replicate_succ, List.replicate_zero, ↓reduceIte, Bool.false_eq_true, Int.reduceLT, Int.reducePow, Int.reduceNeg, Int.reduceLE, Int.reduceAdd, Int.reduceSub, Int.reduceMul, Int.reduceMod, Int.reduceDiv, Bool.not_true, Bool.not_false, Bool.true_beq, Bool.false_beq, Bool.and_true, Bool.true_and, Bool.and_false, Bool.false_and, Bool.or_true, Bool.true_or, Bool.or_false, Bool.false_or, Nat.reduceAdd, Nat.reduceSub, Nat.zero_add, Nat.sub_self, part_no, part_int, slc_lst, slc_tup, isNoE, isiV, isiOk, isiP, at_zero, at_1, at_2, at_3, rn]
  rw [compL_rng (h := fun i => .non)]
  rotate_left
  · intro i hi
    simp -implicitDefEqProofs only [SR.fin_nx, SR.fin_rt, Ok_ok, ex_nx, R.bind_ok, R.st_ok, SR.next_nx, SR.next_rt, SR.next_bk, SR.next_ct, x_cnon, x_cbl, x_cint, x_cstr, x_var, x_bor, x_bin, x_neg, x_cmp, x_bop, x_bcons, x_not, x_ite, x_tup, x_lst, x_dct1, x_idx, x_slc, x_call, x_bi, x_isi, x_comp, x_nil, x_cons, x_c0, x_c1, x_seq, x_rng1, x_rng2, x_enu, x_keys, y_nil, y_cons, y_asg, y_setI, y_app, y_appPop, y_asgPop, y_ite, y_for, y_while, y_ret, y_retN, y_raise, y_pass, y_brk, y_cont, y_frz, y_exp, b_var, b_tup, b_lst, m_nil, m_cons, g_zero, g_succ, w_nil, w_cons, next_next, next_nil, forF_eq, boolK_nil, boolK_cons, bK_tt, bK_tf, bK_ft, bK_ff, bK_and, bK_or, iteV_bl, iteS_bl, notV_bl, negV_int, condV_bl, seqV_lst, seqV_tup, seqV_scr, enuV_lst, enuV_tup, keysV_dct, compF_eq, biP_1, biP_2, len_lst, len_tup, len_scr, int_int, int_bl, list_lst, list_tup, tuple_lst, tuple_tup, min_int, max_int, abs_int, c_eq, c_ne, c_lt, c_le, c_gt, c_ge, c_is, c_isnot, c_inn, c_notin, in_lst, in_tup, ix_lst, ix_tup, ix_scr, eq_int, eq_bl, eq_str, isNon_non, isNon_int, isNon_tup, isNon_lst, isNon_dct, isNon_bl, isNon_str, bin_add, bin_sub, bin_mod, bin_fdiv, List.set_cons_zero, List.set_cons_succ, List.length_cons, List.length_nil, List.map_cons, List.map_nil, List.cons_append, List.nil_append, List.replicate_succ, List.replicate_zero, ↓reduceIte, Bool.false_eq_true, Int.reduceLT, Int.reducePow, Int.reduceNeg, Int.reduceLE, Int.reduceAdd, Int.reduceSub, Int.reduceMul, Int.reduceMod, Int.reduceDiv, Bool.not_true, Bool.not_false, Bool.true_beq, Bool.false_beq, Bool.and_true, Bool.true_and, Bool.and_false, Bool.false_and, Bool.or_true, Bool.true_or, Bool.or_false, Bool.false_or, Nat.reduceAdd, Nat.reduceSub, Nat.zero_add, Nat.sub_self, part_no, part_int, slc_lst, slc_tup, isNoE, isiV, isiOk, isiP, at_zero, at_1, at_2, at_3]
  simp -implicitDefEqProofs only [SR.fin_nx, SR.fin_rt, Ok_ok, ex_nx, R.bind_ok, R.st_ok, SR.next_nx, SR.next_rt, SR.next_bk, SR.next_ct, x_cnon, x_cbl, x_cint, x_cstr, x_var, x_bor, x_bin, x_neg, x_cmp, x_bop, x_bcons, x_not, x_ite, x_tup, x_lst, x_dct1, x_idx, x_slc, x_call, x_bi, x_isi, x_comp, x_nil, x_cons, x_c0, x_c1, x_seq, x_rng1, x_rng2, x_enu, x_keys, y_nil, y_cons, y_asg, y_setI, y_app, y_appPop, y_asgPop, y_ite, y_for, y_while, y_ret, y_retN, y_raise, y_pass, y_brk, y_cont, y_frz, y_exp, b_var, b_tup, b_lst, m_nil, m_cons, g_zero, g_succ, w_nil, w_cons, next_next, next_nil, forF_eq, boolK_nil, boolK_cons, bK_tt, bK_tf, bK_ft, bK_ff, bK_and, bK_or, iteV_bl, iteS_bl, notV_bl, negV_int, condV_bl, seqV_lst, seqV_tup, seqV_scr, enuV_lst, enuV_tup, keysV_dct, compF_eq, biP_1, biP_2, len_lst, len_tup, len_scr, int_int, int_bl, list_lst, list_tup, tuple_lst, tuple_tup, min_int, max_int, abs_int, c_eq, c_ne, c_lt, c_le, c_gt, c_ge, c_is, c_isnot, c_inn, c_notin, in_lst, in_tup, ix_lst, ix_tup, ix_scr, eq_int, eq_bl, eq_str, isNon_non, isNon_int, isNon_tup, isNon_lst, isNon_dct, isNon_bl, isNon_str, bin_add, bin_sub, bin_mod, bin_fdiv, List.set_cons_zero, List.set_cons_succ, List.length_cons, List.length_nil, List.map_cons, List.map_nil, List.cons_append, List.nil_append, List.replicate_succ, List.replicate_zero, ↓reduceIte, Bool.false_eq_true, Int.reduceLT, Int.reducePow, Int.reduceNeg, Int.reduceLE, Int.reduceAdd, Int.reduceSub, Int.reduceMul, Int.reduceMod, Int.reduceDiv, Bool.not_true, Bool.not_false, Bool.true_beq, Bool.false_beq, Bool.and_true, Bool.true_and, Bool.and_false, Bool.false_and, Bool.or_true, Bool.true_or, Bool.or_false, Bool.false_or, Nat.reduceAdd, Nat.reduceSub, Nat.zero_add, Nat.sub_self, part_no, part_int, slc_lst, slc_tup, isNoE, isiV, isiOk, isiP, at_zero, at_1, at_2, at_3, setV, s2, s3, r12, rn]
  refine forR_ok (fun i e => ∃ (f' : Nat → Fall) (sp' : Int) (x7 x12 x13 x14 x15 x16 x17 x18 x19 : Option PV), e = [some (setV n F L t s), some (.int c), some (.int n), some (.lst (ds.map .int)), some (.int st), e5, some (.lst (os.map .int)), x7, some (.lst (rng n fun h => .int (B h))), some (.lst (rng n fun h => fallV (f' h))), some (.int sp'), some (.int _), x12, x13, x14, x15, x16, x17, x18, x19] ∧ ∀ h, FallOk (f' h)) ⟨fun _ => none, _, _, _, _, _, _, _, _, _, _, rfl, fun h r l e => by cases e⟩ (fun i e hi he => ?_) (fun e he => ?_)
  · obtain ⟨f, sp, x7, x12, x13, x14, x15, x16, x17, x18, x19, rfl, hf⟩ := he
    exact l_body n F L t s hn hn5 hL hL5 ds hl os ho hos b3 st _ sp i hi f hf _ _ _ _ _ _ _ _ _ _ _ _
  · obtain ⟨f, sp, x7, x12, x13, x14, x15, x16, x17, x18, x19, rfl, hf⟩ := he
    simp -implicitDefEqProofs only [SR.fin_nx, SR.fin_rt, Ok_ok, ex_nx, R.bind_ok, R.st_ok, SR.next_nx, SR.next_rt, SR.next_bk, SR.next_ct, x_cnon, x_cbl, x_cint, x_cstr, x_var, x_bor, x_bin, x_neg, x_cmp, x_bop, x_bcons, x_not, x_ite, x_tup, x_lst, x_dct1, x_idx, x_slc, x_call, x_bi, x_isi, x_comp, x_nil, x_cons, x_c0, x_c1, x_seq, x_rng1, x_rng2, x_enu, x_keys, y_nil, y_cons, y_asg, y_setI, y_app, y_appPop, y_asgPop, y_ite, y_for, y_while, y_ret, y_retN, y_raise, y_pass, y_brk, y_cont, y_frz, y_exp, b_var, b_tup, b_lst, m_nil, m_cons, g_zero, g_succ, w_nil, w_cons, next_next, next_nil, forF_eq, boolK_nil, boolK_cons, bK_tt, bK_tf, bK_ft, bK_ff, bK_and, bK_or, iteV_bl, iteS_bl, notV_bl, negV_int, condV_bl, seqV_lst, seqV_tup, seqV_scr, enuV_lst, enuV_tup, keysV_dct, compF_eq, biP_1, biP_2, len_lst, len_tup, len_scr, int_int, int_bl, list_lst, list_tup, tuple_lst, tuple_tup, min_int, max_int, abs_int, c_eq, c_ne, c_lt, c_le, c_gt, c_ge, c_is, c_isnot, c_inn, c_notin, in_lst, in_tup, ix_lst, ix_tup, ix_scr, eq_int, eq_bl, eq_str, isNon_non, isNon_int, isNon_tup, isNon_lst, isNon_dct, isNon_bl, isNon_str, bin_add, bin_sub, bin_mod, bin_fdiv, List.set_cons_zero, List.set_cons_succ, List.length_cons, List.length_nil, List.map_cons, List.map_nil, List.cons_append, List.nil_append, List.replicate_succ, List.replicate_zero, ↓reduceIte, Bool.false_eq_true, Int.reduceLT, Int.reducePow, Int.reduceNeg, Int.reduceLE, Int.reduceAdd, Int.reduceSub, Int.reduceMul, Int.reduceMod, Int.reduceDiv, Bool.not_true, Bool.not_false, Bool.true_beq, Bool.false_beq, Bool.and_true, Bool.true_and, Bool.and_false, Bool.false_and, Bool.or_true, Bool.true_or, Bool.or_false, Bool.false_or, Nat.reduceAdd, Nat.reduceSub, Nat.zero_add, Nat.sub_self, part_no, part_int, slc_lst, slc_tup, isNoE, isiV, isiOk, isiP, at_zero, at_1, at_2, at_3]
    exact ⟨B, f, rfl, hf⟩
end
end K86

namespace K86
open PySem PY
/-! ### who hears whom -/
def sentB (f : Nat → Fall) (m h o : Nat) : Bool := match f o with
  | none => true
  | some (r, l) => decide ((m : Int) < r) || (r == (m : Int) && l.any fun y => y == (h : Int))
def aliveB (f : Nat → Fall) (m h : Nat) : Bool := match f h with
  | none => true
  | some (r, _) => decide ((m : Int) < r)
def hearsB (f : Nat → Fall) (m h o : Nat) : Bool := decide (0 < (m : Int)) && (!((o : Int) == (h : Int)) && sentB f m h o)
def heardL (n : Nat) (f : Nat → Fall) (m h : Nat) : List Nat := (List.range n).filter (hearsB f m h)
def natsV (l : List Nat) : PV := .lst (l.map fun j : Nat => PV.int (j : Int))
def heardV (n : Nat) (f : Nat → Fall) (m h : Nat) : PV := if aliveB f m h = true then natsV (heardL n f m h) else .non
def rowV (n : Nat) (g : Nat → PV) : PV := .lst (rng n g)
theorem fall_none : fallV none = .non := rfl
theorem fall_some (r : Int) (l : List Int) : fallV (some (r, l)) = .tup [.int r, .tup (l.map .int)] := rfl
section
variable {Φ : Fns} {fu : Nat}
theorem l_found (n : Nat) (hn : n ≤ 5) (B : Nat → Int) (f : Nat → Fall) (m h : Nat) (a x2 x4 x7 x8 x9 : Option PV) {k : PEnv → SR} {J : PEnv → Prop}
    (hk : ∀ x7 x8 x9, ∃ e', k [a, some (storyV n B f), x2, some (.int m), x4, some (.int h), some (natsV (heardL n f m h)), x7, x8, x9] = .nx e' ∧ J e') :
    ∃ e', (forL (forF Φ fu (.var 7) (match d17.body with
      | [_, .for _ _ [_, .for _ _ [_, .for _ _ b, _], _, _], _] => b
      | _ => [])) (rng n fun i => .int i) [a, some (storyV n B f), x2, some (.int m), x4, some (.int h), some (.lst []), x7, x8, x9]).next k = .nx e' ∧ J e' := by
  refine forR_ex (fun i e => ∃ x7 x8 x9, e = [a, some (storyV n B f), x2, some (.int m), x4, some (.int h), some (natsV ((List.range i).filter (hearsB f m h))), x7, x8, x9]) ⟨_, _, _, rfl⟩ (fun i e hi he => ?_) (fun e he => ?_)
  · obtain ⟨x7, x8, x9, rfl⟩ := he
    have s1 : atP [PV.tup (rng n fun h => .int (B h)), .tup (rng n fun h => fallV (f h))] 1 = .ok (.tup (rng n fun h => fallV (f h))) := rfl
    have si : atP (rng n fun h => fallV (f h)) (i : Int) = .ok (fallV (f i)) := atP_rng hi
    have ha : (natsV ((List.range (i + 1)).filter (hearsB f m h))) = if hearsB f m h i = true then .lst (((List.range i).filter (hearsB f m h)).map (fun j : Nat => PV.int (j : Int)) ++ [.int i]) else natsV ((List.range i).filter (hearsB f m h)) := by
      unfold natsV
      rw [List.range_succ, List.filter_append]
      cases hb : hearsB f m h i <;> simp [hb]
    have hlen : ((List.range i).filter (hearsB f m h)).length ≤ i := by
      have := List.length_filter_le (hearsB f m h) (List.range i)
      rwa [List.length_range] at this
    have ap := appP_lst (xs := ((List.range i).filter (hearsB f m h)).map (fun j : Nat => PV.int (j : Int))) (v := .int i) (by rw [List.length_map]; omega)
    rw [ha]
    cases hf : f i with
    | none =>
      have hs : sentB f m h i = true := by unfold sentB; rw [hf]
      simp -implicitDefEqProofs only [SR.fin_nx, SR.fin_rt, Ok_ok, ex_nx, R.bind_ok, R.st_ok, SR.next_nx, SR.next_rt, SR.next_bk, SR.next_ct, x_cnon, x_cbl, x_cint, x_cstr, x_var, x_bor, x_bin, x_neg, x_cmp, x_bop, x_bcons, x_not, x_ite, x_tup, x_lst, x_dct1, x_idx, x_slc, x_call, x_bi, x_isi, x_comp, x_nil, x_cons, x_c0, x_c1, x_seq, x_rng1, x_rng2, x_enu, x_keys, y_nil, y_cons, y_asg, y_setI, y_app, y_appPop, y_asgPop, y_ite, y_for, y_while, y_ret, y_retN, y_raise, y_pass, y_brk, y_cont, y_frz, y_exp, b_var, b_tup, b_lst, m_nil, m_cons, g_zero, g_succ, w_nil, w_cons, next_next, next_nil, forF_eq, boolK_nil, boolK_cons, bK_tt, bK_tf, bK_ft, bK_ff, bK_and, bK_or, iteV_bl, iteS_bl, notV_bl, negV_int, condV_bl, seqV_lst, seqV_tup, seqV_scr, enuV_lst, enuV_tup, keysV_dct, compF_eq, biP_1, biP_2, len_lst, len_tup, len_scr, int_int, int_bl, list_lst, list_tup, tuple_lst, tuple_tup, min_int, max_int, abs_int, c_eq, c_ne, c_lt, c_le, c_gt, c_ge, c_is, c_isnot, c_inn, c_notin, in_lst, in_tup, ix_lst, ix_tup, ix_scr, eq_int, eq_bl, eq_str, isNon_non, isNon_int, isNon_tup, isNon_lst, isNon_dct, isNon_bl, isNon_str, bin_add, bin_sub, bin_mod, bin_fdiv, List.set_cons_zero, List.set_cons_succ, List.length_cons, List.length_nil, List.map_cons, List.map_nil, List.cons_append, List.nil_append, List.replicate_succ, List.replicate_zero, ↓reduceIte, Bool.false_eq_true, Int.reduceLT, Int.reducePow, Int.reduceNeg, Int.reduceLE, Int.reduceAdd, Int.reduceSub, Int.reduceMul, Int.reduceMod, Int.reduceDiv, Bool.not_true, Bool.not_false, Bool.true_beq, Bool.false_beq, Bool.and_true, Bool.true_and, Bool.and_false, Bool.false_and, Bool.or_true, Bool.true_or, Bool.or_false, Bool.false_or, Nat.reduceAdd, Nat.reduceSub, Nat.zero_add, Nat.sub_self, part_no, part_int, slc_lst, slc_tup, isNoE, isiV, isiOk, isiP, at_zero, at_1, at_2, at_3, d17, storyV, s1, si, hf, fall_none, fall_some, natsV, ap]
      refine if_ex (fun hb => ?_) fun hb => ?_
      · rw [ex_nx]
        have : hearsB f m h i = true := by unfold hearsB; rw [hs, Bool.and_true]; exact hb
        rw [if_pos this]
        exact ⟨_, _, _, rfl⟩
      · rw [ex_nx]
        have : hearsB f m h i = false := by unfold hearsB; rw [hs, Bool.and_true]; exact hb
        rw [if_neg (by rw [this]; decide)]
        exact ⟨_, _, _, rfl⟩
    | some q =>
      obtain ⟨r, l⟩ := q
      have t0 : atP [PV.int r, .tup (l.map .int)] 0 = .ok (.int r) := rfl
      have t1 : atP [PV.int r, .tup (l.map .int)] 1 = .ok (.tup (l.map .int)) := rfl
      have hs : sentB f m h i = (decide ((m : Int) < r) || (r == (m : Int) && l.any fun y => y == (h : Int))) := by unfold sentB; rw [hf]
      simp -implicitDefEqProofs only [SR.fin_nx, SR.fin_rt, Ok_ok, ex_nx, R.bind_ok, R.st_ok, SR.next_nx, SR.next_rt, SR.next_bk, SR.next_ct, x_cnon, x_cbl, x_cint, x_cstr, x_var, x_bor, x_bin, x_neg, x_cmp, x_bop, x_bcons, x_not, x_ite, x_tup, x_lst, x_dct1, x_idx, x_slc, x_call, x_bi, x_isi, x_comp, x_nil, x_cons, x_c0, x_c1, x_seq, x_rng1, x_rng2, x_enu, x_keys, y_nil, y_cons, y_asg, y_setI, y_app, y_appPop, y_asgPop, y_ite, y_for, y_while, y_ret, y_retN, y_raise, y_pass, y_brk, y_cont, y_frz, y_exp, b_var, b_tup, b_lst, m_nil, m_cons, g_zero, g_succ, w_nil, w_cons, next_next, next_nil, forF_eq, boolK_nil, boolK_cons, bK_tt, bK_tf, bK_ft, bK_ff, bK_and, bK_or, iteV_bl, iteS_bl, notV_bl, negV_int, condV_bl, seqV_lst, seqV_tup, seqV_scr, enuV_lst, enuV_tup, keysV_dct, compF_eq, biP_1, biP_2, len_lst, len_tup, len_scr, int_int, int_bl, list_lst, list_tup, tuple_lst, tuple_tup, min_int, max_int, abs_int, c_eq, c_ne, c_lt, c_le, c_gt, c_ge, c_is, c_isnot, c_inn, c_notin, in_lst, in_tup, ix_lst, ix_tup, ix_scr, eq_int, eq_bl, eq_str, isNon_non, isNon_int, isNon_tup, isNon_lst, isNon_dct, isNon_bl, isNon_str, bin_add, bin_sub, bin_mod, bin_fdiv, List.set_cons_zero, List.set_cons_succ, List.length_cons, List.length_nil, List.map_cons, List.map_nil, List.cons_append, List.nil_append, List.replicate_succ, List.replicate_zero, ↓reduceIte, Bool.false_eq_true, Int.reduceLT, Int.reducePow, Int.reduceNeg, Int.reduceLE, Int.reduceAdd, Int.reduceSub, Int.reduceMul, Int.reduceMod, Int.reduceDiv, Bool.not_true, Bool.not_false, Bool.true_beq, Bool.false_beq, Bool.and_true, Bool.true_and, Bool.and_false, Bool.false_and, Bool.or_true, Bool.true_or, Bool.or_false, Bool.false_or, Nat.reduceAdd, Nat.reduceSub, Nat.zero_add, Nat.sub_self, part_no, part_int, slc_lst, slc_tup, isNoE, isiV, isiOk, isiP, at_zero, at_1, at_2, at_3, d17, storyV, s1, si, hf, fall_none, fall_some, natsV, ap, t0, t1, inSeq_ints]
      refine if_ex (fun hb => ?_) fun hb => ?_
      · rw [ex_nx]
        have : hearsB f m h i = true := by unfold hearsB; rw [hs]; exact hb
        rw [if_pos this]
        exact ⟨_, _, _, rfl⟩
      · rw [ex_nx]
        have : hearsB f m h i = false := by unfold hearsB; rw [hs]; exact hb
        rw [if_neg (by rw [this]; decide)]
        exact ⟨_, _, _, rfl⟩
  · obtain ⟨x7, x8, x9, rfl⟩ := he
    exact hk x7 x8 x9
def tableV (n L : Nat) (g : Nat → Nat → PV) : PV := rowV (L + 1) fun m => rowV n (g m)
theorem app_rng {n : Nat} {g : Nat → PV} (h : n < 1000) : appP (.lst (rng n g)) (g n) = .ok (.lst (rng (n + 1) g)) := by
  rw [appP_lst (by rw [rng_length]; omega), rng_succ]
theorem f_heard (n F L : Nat) (t s : Str) (hn : n ≤ 5) (hL : L ≤ 5) (B : Nat → Int) (f : Nat → Fall) : Ok (runD Φ fu d17 [setV n F L t s, storyV n B f]) (· = tableV n L (heardV n f)) := by
  rw [runD_eq rfl]
  have s1 : atP [PV.str "falls", .int n, .int F, .int L, .int 2, .str t, .str s] 1 = .ok (.int n) := rfl
  have s3 : atP [PV.str "falls", .int n, .int F, .int L, .int 2, .str t, .str s] 3 = .ok (.int L) := rfl
  have q1 : atP [PV.tup (rng n fun h => .int (B h)), .tup (rng n fun h => fallV (f h))] 1 = .ok (.tup (rng n fun h => fallV (f h))) := rfl
  have rn := rng1_nat (show n ≤ 1000 by omega)
  have rL := rng1_nat (show L + 1 ≤ 1000 by omega)
  rw [show ((L + 1 : Nat) : Int) = (L : Int) + 1 by omega] at rL
  simp -implicitDefEqProofs only [SR.fin_nx, SR.fin_rt, Ok_ok, ex_nx, R.bind_ok, R.st_ok, SR.next_nx, SR.next_rt, SR.next_bk, SR.next_ct, x_cnon, x_cbl, x_cint, x_cstr, x_var, x_bor, x_bin, x_neg, x_cmp, x_bop, x_bcons, x_not, x_ite, x_tup, x_lst, x_dct1, x_idx, x_slc, x_call, x_bi, x_isi, x_comp, x_nil, x_cons, x_c0, x_c1, x_seq, x_rng1, x_rng2, x_enu, x_keys, y_nil, y_cons, y_asg, y_setI, y_app, y_appPop, y_asgPop, y_ite, y_for, y_while, y_ret, y_retN, y_raise, y_pass, y_brk, y_cont, y_frz, y_exp, b_var, b_tup, b_lst, m_nil, m_cons, g_zero, g_succ, w_nil, w_cons, next_next, next_nil, forF_eq, boolK_nil, boolK_cons, bK_tt, bK_tf, bK_ft, bK_ff, bK_and, bK_or, iteV_bl, iteS_bl, notV_bl, negV_int, condV_bl, seqV_lst, seqV_tup, seqV_scr, enuV_lst, enuV_tup, keysV_dct, compF_eq, biP_1, biP_2, len_lst, len_tup, len_scr, int_int, int_bl, list_lst, list_tup, tuple_lst, tuple_tup, min_int, max_int, abs_int, c_eq, c_ne, c_lt, c_le, c_gt, c_ge, c_is, c_isnot, c_inn, c_notin, in_lst, in_tup, ix_lst, ix_tup, ix_scr, eq_int, eq_bl, eq_str, isNon_non, isNon_int, isNon_tup, isNon_lst, isNon_dct, isNon_bl, isNon_str, bin_add, bin_sub, bin_mod, bin_fdiv, List.set_cons_zero, List.set_cons_succ, List.length_cons, List.length_nil, List.map_cons, List.map_nil, List.cons_append, List.nil_append, List.replicate_succ, List.replicate_zero, ↓reduceIte, Bool.false_eq_true, Int.reduceLT, Int.reducePow, Int.reduceNeg, Int.reduceLE, Int.reduceAdd, Int.reduceSub, Int.reduceMul, Int.reduceMod, Int.reduceDiv, Bool.not_true, Bool.not_false, Bool.true_beq, Bool.false_beq, Bool.and_true, Bool.true_and, Bool.and_false, Bool.false_and, Bool.or_true, Bool.true_or, Bool.or_false, Bool.false_or, Nat.reduceAdd, Nat.reduceSub, Nat.zero_add, Nat.sub_self, part_no, part_int, slc_lst, slc_tup, isNoE, isiV, isiOk, isiP, at_zero, at_1, at_2, at_3, d17, setV, s1, s3, rL]
  refine forR_ok (fun i e => ∃ x3 x4 x5 x6 x7 x8 x9, e = [some (setV n F L t s), some (storyV n B f), some (rowV i fun m => rowV n (heardV n f m)), x3, x4, x5, x6, x7, x8, x9]) ⟨_, _, _, _, _, _, _, rfl⟩ (fun m e hm he => ?_) (fun e he => ?_)
  · obtain ⟨x3, x4, x5, x6, x7, x8, x9, rfl⟩ := he
    simp -implicitDefEqProofs only [SR.fin_nx, SR.fin_rt, Ok_ok, ex_nx, R.bind_ok, R.st_ok, SR.next_nx, SR.next_rt, SR.next_bk, SR.next_ct, x_cnon, x_cbl, x_cint, x_cstr, x_var, x_bor, x_bin, x_neg, x_cmp, x_bop, x_bcons, x_not, x_ite, x_tup, x_lst, x_dct1, x_idx, x_slc, x_call, x_bi, x_isi, x_comp, x_nil, x_cons, x_c0, x_c1, x_seq, x_rng1, x_rng2, x_enu, x_keys, y_nil, y_cons, y_asg, y_setI, y_app, y_appPop, y_asgPop, y_ite, y_for, y_while, y_ret, y_retN, y_raise, y_pass, y_brk, y_cont, y_frz, y_exp, b_var, b_tup, b_lst, m_nil, m_cons, g_zero, g_succ, w_nil, w_cons, next_next, next_nil, forF_eq, boolK_nil, boolK_cons, bK_tt, bK_tf, bK_ft, bK_ff, bK_and, bK_or, iteV_bl, iteS_bl, notV_bl, negV_int, condV_bl, seqV_lst, seqV_tup, seqV_scr, enuV_lst, enuV_tup, keysV_dct, compF_eq, biP_1, biP_2, len_lst, len_tup, len_scr, int_int, int_bl, list_lst, list_tup, tuple_lst, tuple_tup, min_int, max_int, abs_int, c_eq, c_ne, c_lt, c_le, c_gt, c_ge, c_is, c_isnot, c_inn, c_notin, in_lst, in_tup, ix_lst, ix_tup, ix_scr, eq_int, eq_bl, eq_str, isNon_non, isNon_int, isNon_tup, isNon_lst, isNon_dct, isNon_bl, isNon_str, bin_add, bin_sub, bin_mod, bin_fdiv, List.set_cons_zero, List.set_cons_succ, List.length_cons, List.length_nil, List.map_cons, List.map_nil, List.cons_append, List.nil_append, List.replicate_succ, List.replicate_zero, ↓reduceIte, Bool.false_eq_true, Int.reduceLT, Int.reducePow, Int.reduceNeg, Int.reduceLE, Int.reduceAdd, Int.reduceSub, Int.reduceMul, Int.reduceMod, Int.reduceDiv, Bool.not_true, Bool.not_false, Bool.true_beq, Bool.false_beq, Bool.and_true, Bool.true_and, Bool.and_false, Bool.false_and, Bool.or_true, Bool.true_or, Bool.or_false, Bool.false_or, Nat.reduceAdd, Nat.reduceSub, Nat.zero_add, Nat.sub_self, part_no, part_int, slc_lst, slc_tup, isNoE, isiV, isiOk, isiP, at_zero, at_1, at_2, at_3, setV, s1, rn]
    refine forR_ex (fun i e => ∃ x5 x6 x7 x8 x9, e = [some (setV n F L t s), some (storyV n B f), some (rowV m fun m => rowV n (heardV n f m)), some (.int m), some (rowV i (heardV n f m)), x5, x6, x7, x8, x9]) ⟨_, _, _, _, _, rfl⟩ (fun h e hh he => ?_) (fun e he => ?_)
    · obtain ⟨x5, x6, x7, x8, x9, rfl⟩ := he
      simp -implicitDefEqProofs only [SR.fin_nx, SR.fin_rt, Ok_ok, ex_nx, R.bind_ok, R.st_ok, SR.next_nx, SR.next_rt, SR.next_bk, SR.next_ct, x_cnon, x_cbl, x_cint, x_cstr, x_var, x_bor, x_bin, x_neg, x_cmp, x_bop, x_bcons, x_not, x_ite, x_tup, x_lst, x_dct1, x_idx, x_slc, x_call, x_bi, x_isi, x_comp, x_nil, x_cons, x_c0, x_c1, x_seq, x_rng1, x_rng2, x_enu, x_keys, y_nil, y_cons, y_asg, y_setI, y_app, y_appPop, y_asgPop, y_ite, y_for, y_while, y_ret, y_retN, y_raise, y_pass, y_brk, y_cont, y_frz, y_exp, b_var, b_tup, b_lst, m_nil, m_cons, g_zero, g_succ, w_nil, w_cons, next_next, next_nil, forF_eq, boolK_nil, boolK_cons, bK_tt, bK_tf, bK_ft, bK_ff, bK_and, bK_or, iteV_bl, iteS_bl, notV_bl, negV_int, condV_bl, seqV_lst, seqV_tup, seqV_scr, enuV_lst, enuV_tup, keysV_dct, compF_eq, biP_1, biP_2, len_lst, len_tup, len_scr, int_int, int_bl, list_lst, list_tup, tuple_lst, tuple_tup, min_int, max_int, abs_int, c_eq, c_ne, c_lt, c_le, c_gt, c_ge, c_is, c_isnot, c_inn, c_notin, in_lst, in_tup, ix_lst, ix_tup, ix_scr, eq_int, eq_bl, eq_str, isNon_non, isNon_int, isNon_tup, isNon_lst, isNon_dct, isNon_bl, isNon_str, bin_add, bin_sub, bin_mod, bin_fdiv, List.set_cons_zero, List.set_cons_succ, List.length_cons, List.length_nil, List.map_cons, List.map_nil, List.cons_append, List.nil_append, List.replicate_succ, List.replicate_zero, ↓reduceIte, Bool.false_eq_true, Int.reduceLT, Int.reducePow, Int.reduceNeg, Int.reduceLE, Int.reduceAdd, Int.reduceSub, Int.reduceMul, Int.reduceMod, Int.reduceDiv, Bool.not_true, Bool.not_false, Bool.true_beq, Bool.false_beq, Bool.and_true, Bool.true_and, Bool.and_false, Bool.false_and, Bool.or_true, Bool.true_or, Bool.or_false, Bool.false_or, Nat.reduceAdd, Nat.reduceSub, Nat.zero_add, Nat.sub_self, part_no, part_int, slc_lst, slc_tup, isNoE, isiV, isiOk, isiP, at_zero, at_1, at_2, at_3, setV, s1, rn]
      refine l_found n hn B f m h _ _ _ _ _ _ fun x7 x8 x9 => ?_
      have sh : atP (rng n fun h => fallV (f h)) (h : Int) = .ok (fallV (f h)) := atP_rng hh
      have ap := app_rng (n := h) (g := heardV n f m) (by omega)
      cases hf : f h with
      | none =>
        have ha : aliveB f m h = true := by unfold aliveB; rw [hf]
        have hv : heardV n f m h = natsV (heardL n f m h) := by unfold heardV; rw [if_pos ha]
        rw [hv] at ap
        simp -implicitDefEqProofs only [SR.fin_nx, SR.fin_rt, Ok_ok, ex_nx, R.bind_ok, R.st_ok, SR.next_nx, SR.next_rt, SR.next_bk, SR.next_ct, x_cnon, x_cbl, x_cint, x_cstr, x_var, x_bor, x_bin, x_neg, x_cmp, x_bop, x_bcons, x_not, x_ite, x_tup, x_lst, x_dct1, x_idx, x_slc, x_call, x_bi, x_isi, x_comp, x_nil, x_cons, x_c0, x_c1, x_seq, x_rng1, x_rng2, x_enu, x_keys, y_nil, y_cons, y_asg, y_setI, y_app, y_appPop, y_asgPop, y_ite, y_for, y_while, y_ret, y_retN, y_raise, y_pass, y_brk, y_cont, y_frz, y_exp, b_var, b_tup, b_lst, m_nil, m_cons, g_zero, g_succ, w_nil, w_cons, next_next, next_nil, forF_eq, boolK_nil, boolK_cons, bK_tt, bK_tf, bK_ft, bK_ff, bK_and, bK_or, iteV_bl, iteS_bl, notV_bl, negV_int, condV_bl, seqV_lst, seqV_tup, seqV_scr, enuV_lst, enuV_tup, keysV_dct, compF_eq, biP_1, biP_2, len_lst, len_tup, len_scr, int_int, int_bl, list_lst, list_tup, tuple_lst, tuple_tup, min_int, max_int, abs_int, c_eq, c_ne, c_lt, c_le, c_gt, c_ge, c_is, c_isnot, c_inn, c_notin, in_lst, in_tup, ix_lst, ix_tup, ix_scr, eq_int, eq_bl, eq_str, isNon_non, isNon_int, isNon_tup, isNon_lst, isNon_dct, isNon_bl, isNon_str, bin_add, bin_sub, bin_mod, bin_fdiv, List.set_cons_zero, List.set_cons_succ, List.length_cons, List.length_nil, List.map_cons, List.map_nil, List.cons_append, List.nil_append, List.replicate_succ, List.replicate_zero, ↓reduceIte, Bool.false_eq_true, Int.reduceLT, Int.reducePow, Int.reduceNeg, Int.reduceLE, Int.reduceAdd, Int.reduceSub, Int.reduceMul, Int.reduceMod, Int.reduceDiv, Bool.not_true, Bool.not_false, Bool.true_beq, Bool.false_beq, Bool.and_true, Bool.true_and, Bool.and_false, Bool.false_and, Bool.or_true, Bool.true_or, Bool.or_false, Bool.false_or, Nat.reduceAdd, Nat.reduceSub, Nat.zero_add, Nat.sub_self, part_no, part_int, slc_lst, slc_tup, isNoE, isiV, isiOk, isiP, at_zero, at_1, at_2, at_3, storyV, q1, sh, hf, fall_none, rowV, ap]
        exact ⟨_, _, _, _, _, rfl⟩
      | some q =>
        obtain ⟨r, l⟩ := q
        have t0 : atP [PV.int r, .tup (l.map .int)] 0 = .ok (.int r) := rfl
        have ha : aliveB f m h = decide ((m : Int) < r) := by unfold aliveB; rw [hf]
        cases hd : decide ((m : Int) < r) with
        | true =>
          have hv : heardV n f m h = natsV (heardL n f m h) := by unfold heardV; rw [if_pos (by rw [ha, hd])]
          rw [hv] at ap
          simp -implicitDefEqProofs only [SR.fin_nx, SR.fin_rt, Ok_ok, ex_nx, R.bind_ok, R.st_ok, SR.next_nx, SR.next_rt, SR.next_bk, SR.next_ct, x_cnon, x_cbl, x_cint, x_cstr, x_var, x_bor, x_bin, x_neg, x_cmp, x_bop, x_bcons, x_not, x_ite, x_tup, x_lst, x_dct1, x_idx, x_slc, x_call, x_bi, x_isi, x_comp, x_nil, x_cons, x_c0, x_c1, x_seq, x_rng1, x_rng2, x_enu, x_keys, y_nil, y_cons, y_asg, y_setI, y_app, y_appPop, y_asgPop, y_ite, y_for, y_while, y_ret, y_retN, y_raise, y_pass, y_brk, y_cont, y_frz, y_exp, b_var, b_tup, b_lst, m_nil, m_cons, g_zero, g_succ, w_nil, w_cons, next_next, next_nil, forF_eq, boolK_nil, boolK_cons, bK_tt, bK_tf, bK_ft, bK_ff, bK_and, bK_or, iteV_bl, iteS_bl, notV_bl, negV_int, condV_bl, seqV_lst, seqV_tup, seqV_scr, enuV_lst, enuV_tup, keysV_dct, compF_eq, biP_1, biP_2, len_lst, len_tup, len_scr, int_int, int_bl, list_lst, list_tup, tuple_lst, tuple_tup, min_int, max_int, abs_int, c_eq, c_ne, c_lt, c_le, c_gt, c_ge, c_is, c_isnot, c_inn, c_notin, in_lst, in_tup, ix_lst, ix_tup, ix_scr, eq_int, eq_bl, eq_str, isNon_non, isNon_int, isNon_tup, isNon_lst, isNon_dct, isNon_bl, isNon_str, bin_add, bin_sub, bin_mod, bin_fdiv, List.set_cons_zero, List.set_cons_succ, List.length_cons, List.length_nil, List.map_cons, List.map_nil, List.cons_append, List.nil_append, List.replicate_succ, List.replicate_zero, ↓reduceIte, Bool.false_eq_true, Int.reduceLT, Int.reducePow, Int.reduceNeg, Int.reduceLE, Int.reduceAdd, Int.reduceSub, Int.reduceMul, Int.reduceMod, Int.reduceDiv, Bool.not_true, Bool.not_false, Bool.true_beq, Bool.false_beq, Bool.and_true, Bool.true_and, Bool.and_false, Bool.false_and, Bool.or_true, Bool.true_or, Bool.or_false, Bool.false_or, Nat.reduceAdd, Nat.reduceSub, Nat.zero_add, Nat.sub_self, part_no, part_int, slc_lst, slc_tup, isNoE, isiV, isiOk, isiP, at_zero, at_1, at_2, at_3, storyV, q1, sh, hf, fall_some, t0, rowV, ap, hd]
          exact ⟨_, _, _, _, _, rfl⟩
        | false =>
          have hv : heardV n f m h = .non := by unfold heardV; rw [if_neg (by rw [ha, hd]; decide)]
          rw [hv] at ap
          simp -implicitDefEqProofs only [SR.fin_nx, SR.fin_rt, Ok_ok, ex_nx, R.bind_ok, R.st_ok, SR.next_nx, SR.next_rt, SR.next_bk, SR.next_ct, x_cnon, x_cbl, x_cint, x_cstr, x_var, x_bor, x_bin, x_neg, x_cmp, x_bop, x_bcons, x_not, x_ite, x_tup, x_lst, x_dct1, x_idx, x_slc, x_call, x_bi, x_isi, x_comp, x_nil, x_cons, x_c0, x_c1, x_seq, x_rng1, x_rng2, x_enu, x_keys, y_nil, y_cons, y_asg, y_setI, y_app, y_appPop, y_asgPop, y_ite, y_for, y_while, y_ret, y_retN, y_raise, y_pass, y_brk, y_cont, y_frz, y_exp, b_var, b_tup, b_lst, m_nil, m_cons, g_zero, g_succ, w_nil, w_cons, next_next, next_nil, forF_eq, boolK_nil, boolK_cons, bK_tt, bK_tf, bK_ft, bK_ff, bK_and, bK_or, iteV_bl, iteS_bl, notV_bl, negV_int, condV_bl, seqV_lst, seqV_tup, seqV_scr, enuV_lst, enuV_tup, keysV_dct, compF_eq, biP_1, biP_2, len_lst, len_tup, len_scr, int_int, int_bl, list_lst, list_tup, tuple_lst, tuple_tup, min_int, max_int, abs_int, c_eq, c_ne, c_lt, c_le, c_gt, c_ge, c_is, c_isnot, c_inn, c_notin, in_lst, in_tup, ix_lst, ix_tup, ix_scr, eq_int, eq_bl, eq_str, isNon_non, isNon_int, isNon_tup, isNon_lst, isNon_dct, isNon_bl, isNon_str, bin_add, bin_sub, bin_mod, bin_fdiv, List.set_cons_zero, List.set_cons_succ, List.length_cons, List.length_nil, List.map_cons, List.map_nil, List.cons_append, List.nil_append, List.replicate_succ, List.replicate_zero, ↓reduceIte, Bool.false_eq_true, Int.reduceLT, Int.reducePow, Int.reduceNeg, Int.reduceLE, Int.reduceAdd, Int.reduceSub, Int.reduceMul, Int.reduceMod, Int.reduceDiv, Bool.not_true, Bool.not_false, Bool.true_beq, Bool.false_beq, Bool.and_true, Bool.true_and, Bool.and_false, Bool.false_and, Bool.or_true, Bool.true_or, Bool.or_false, Bool.false_or, Nat.reduceAdd, Nat.reduceSub, Nat.zero_add, Nat.sub_self, part_no, part_int, slc_lst, slc_tup, isNoE, isiV, isiOk, isiP, at_zero, at_1, at_2, at_3, storyV, q1, sh, hf, fall_some, t0, rowV, ap, hd]
          exact ⟨_, _, _, _, _, rfl⟩
    · obtain ⟨x5, x6, x7, x8, x9, rfl⟩ := he
      have ap := app_rng (n := m) (g := fun m => rowV n (heardV n f m)) (by omega)
      simp only [rowV] at ap
      simp -implicitDefEqProofs only [SR.fin_nx, SR.fin_rt, Ok_ok, ex_nx, R.bind_ok, R.st_ok, SR.next_nx, SR.next_rt, SR.next_bk, SR.next_ct, x_cnon, x_cbl, x_cint, x_cstr, x_var, x_bor, x_bin, x_neg, x_cmp, x_bop, x_bcons, x_not, x_ite, x_tup, x_lst, x_dct1, x_idx, x_slc, x_call, x_bi, x_isi, x_comp, x_nil, x_cons, x_c0, x_c1, x_seq, x_rng1, x_rng2, x_enu, x_keys, y_nil, y_cons, y_asg, y_setI, y_app, y_appPop, y_asgPop, y_ite, y_for, y_while, y_ret, y_retN, y_raise, y_pass, y_brk, y_cont, y_frz, y_exp, b_var, b_tup, b_lst, m_nil, m_cons, g_zero, g_succ, w_nil, w_cons, next_next, next_nil, forF_eq, boolK_nil, boolK_cons, bK_tt, bK_tf, bK_ft, bK_ff, bK_and, bK_or, iteV_bl, iteS_bl, notV_bl, negV_int, condV_bl, seqV_lst, seqV_tup, seqV_scr, enuV_lst, enuV_tup, keysV_dct, compF_eq, biP_1, biP_2, len_lst, len_tup, len_scr, int_int, int_bl, list_lst, list_tup, tuple_lst, tuple_tup, min_int, max_int, abs_int, c_eq, c_ne, c_lt, c_le, c_gt, c_ge, c_is, c_isnot, c_inn, c_notin, in_lst, in_tup, ix_lst, ix_tup, ix_scr, eq_int, eq_bl, eq_str, isNon_non, isNon_int, isNon_tup, isNon_lst, isNon_dct, isNon_bl, isNon_str, bin_add, bin_sub, bin_mod, bin_fdiv, List.set_cons_zero, List.set_cons_succ, List.length_cons, List.length_nil, List.map_cons, List.map_nil, List.cons_append, List.nil_append, List.replicate_succ, List.replicate_zero, ↓reduceIte, Bool.false_eq_true, Int.reduceLT, Int.reducePow, Int.reduceNeg, Int.reduceLE, Int.reduceAdd, Int.reduceSub, Int.reduceMul, Int.reduceMod, Int.reduceDiv, Bool.not_true, Bool.not_false, Bool.true_beq, Bool.false_beq, Bool.and_true, Bool.true_and, Bool.and_false, Bool.false_and, Bool.or_true, Bool.true_or, Bool.or_false, Bool.false_or, Nat.reduceAdd, Nat.reduceSub, Nat.zero_add, Nat.sub_self, part_no, part_int, slc_lst, slc_tup, isNoE, isiV, isiOk, isiP, at_zero, at_1, at_2, at_3, rowV, ap]
      exact ⟨_, _, _, _, _, _, _, rfl⟩
  · obtain ⟨x3, x4, x5, x6, x7, x8, x9, rfl⟩ := he
    simp -implicitDefEqProofs only [SR.fin_nx, SR.fin_rt, Ok_ok, ex_nx, R.bind_ok, R.st_ok, SR.next_nx, SR.next_rt, SR.next_bk, SR.next_ct, x_cnon, x_cbl, x_cint, x_cstr, x_var, x_bor, x_bin, x_neg, x_cmp, x_bop, x_bcons, x_not, x_ite, x_tup, x_lst, x_dct1, x_idx, x_slc, x_call, x_bi, x_isi, x_comp, x_nil, x_cons, x_c0, x_c1, x_seq, x_rng1, x_rng2, x_enu, x_keys, y_nil, y_cons, y_asg, y_setI, y_app, y_appPop, y_asgPop, y_ite, y_for, y_while, y_ret, y_retN, y_raise, y_pass, y_brk, y_cont, y_frz, y_exp, b_var, b_tup, b_lst, m_nil, m_cons, g_zero, g_succ, w_nil, w_cons, next_next, next_nil, forF_eq, boolK_nil, boolK_cons, bK_tt, bK_tf, bK_ft, bK_ff, bK_and, bK_or, iteV_bl, iteS_bl, notV_bl, negV_int, condV_bl, seqV_lst, seqV_tup, seqV_scr, enuV_lst, enuV_tup, keysV_dct, compF_eq, biP_1, biP_2, len_lst, len_tup, len_scr, int_int, int_bl, list_lst, list_tup, tuple_lst, tuple_tup, min_int, max_int, abs_int, c_eq, c_ne, c_lt, c_le, c_gt, c_ge, c_is, c_isnot, c_inn, c_notin, in_lst, in_tup, ix_lst, ix_tup, ix_scr, eq_int, eq_bl, eq_str, isNon_non, isNon_int, isNon_tup, isNon_lst, isNon_dct, isNon_bl, isNon_str, bin_add, bin_sub, bin_mod, bin_fdiv, List.set_cons_zero, List.set_cons_succ, List.length_cons, List.length_nil, List.map_cons, List.map_nil, List.cons_append, List.nil_append, List.replicate_succ, List.replicate_zero, ↓reduceIte, Bool.false_eq_true, Int.reduceLT, Int.reducePow, Int.reduceNeg, Int.reduceLE, Int.reduceAdd, Int.reduceSub, Int.reduceMul, Int.reduceMod, Int.reduceDiv, Bool.not_true, Bool.not_false, Bool.true_beq, Bool.false_beq, Bool.and_true, Bool.true_and, Bool.and_false, Bool.false_and, Bool.or_true, Bool.true_or, Bool.or_false, Bool.false_or, Nat.reduceAdd, Nat.reduceSub, Nat.zero_add, Nat.sub_self, part_no, part_int, slc_lst, slc_tup, isNoE, isiV, isiOk, isiP, at_zero, at_1, at_2, at_3]
    rfl
end
end K86

namespace K86
open PySem PY
/-! ### what has come to a house -/
abbrev Node := Nat × Nat
def keyN (q : Node) : List PKey := [.inl (q.1 : Int), .inl (q.2 : Int)]
def nodeV (q : Node) : PV := .tup [.int (q.1 : Int), .int (q.2 : Int)]
def dctV (ks : List Node) : PV := .dct (ks.map keyN) (ks.map fun _ => .bl true)
def insK (ks : List Node) (q : Node) : List Node := if q ∈ ks then ks else ks ++ [q]
theorem keyN_inj {a b : Node} (h : keyN a = keyN b) : a = b := by
  obtain ⟨a1, a2⟩ := a
  obtain ⟨b1, b2⟩ := b
  simp only [keyN, List.cons.injEq, Sum.inl.injEq] at h
  have h1 : a1 = b1 := by omega
  have h2 : a2 = b2 := by omega
  rw [h1, h2]
theorem insK_mem {ks : List Node} {q p : Node} : p ∈ insK ks q ↔ p ∈ ks ∨ p = q := by
  unfold insK
  split
  · exact ⟨.inl, fun h => h.elim id fun e => by rw [e]; assumption⟩
  · rw [List.mem_append, List.mem_singleton]
theorem insK_len (ks : List Node) (q : Node) : (insK ks q).length ≤ ks.length + 1 := by
  unfold insK
  split
  · omega
  · rw [List.length_append]; exact Nat.le_refl _
theorem dput_node (q : Node) : ∀ ks : List Node, dput (ks.map keyN) (ks.map fun _ => PV.bl true) (keyN q) (.bl true) = ((insK ks q).map keyN, (insK ks q).map fun _ => .bl true)
  | [] => by unfold insK; rw [if_neg (by simp)]; rfl
  | p :: ks => by
    have ih := dput_node q ks
    rw [List.map_cons, List.map_cons]
    unfold dput
    by_cases h : p = q
    · subst h
      have : insK (p :: ks) p = p :: ks := by unfold insK; rw [if_pos List.mem_cons_self]
      rw [if_pos rfl, this]
      rfl
    · rw [if_neg fun e => h (keyN_inj e), ih]
      have : insK (p :: ks) q = p :: insK ks q := by
        unfold insK
        by_cases hq : q ∈ ks
        · rw [if_pos hq, if_pos (List.mem_cons_of_mem _ hq)]
        · rw [if_neg hq, if_neg fun z => by
            rcases List.mem_cons.mp z with z | z
            · exact h z.symm
            · exact hq z]
          rfl
      rw [this]
      rfl
theorem setP_node {ks : List Node} {q : Node} (h : ks.length < 16777216) : setP (dctV ks) (nodeV q) (.bl true) = .ok (dctV (insK ks q)) := by
  unfold setP dctV nodeV
  have hk : keyOf (.tup [.int (q.1 : Int), .int (q.2 : Int)]) = some (keyN q) := rfl
  simp only [hk, List.length_map]
  rw [if_pos h, dput_node]
theorem dget_node {q : Node} : ∀ ks : List Node, (dget (ks.map keyN) (ks.map fun _ => PV.bl true) (keyN q)).isSome = decide (q ∈ ks)
  | [] => by simp [dget]
  | p :: ks => by
    rw [List.map_cons, List.map_cons]
    unfold dget
    by_cases h : p = q
    · subst h; simp
    · rw [if_neg fun e => h (keyN_inj e), dget_node ks]
      simp [Ne.symm h]
theorem inP_node {ks : List Node} {q : Node} : inP (nodeV q) (dctV ks) = .ok (decide (q ∈ ks)) := by
  unfold inP dctV nodeV
  have hk : keyOf (.tup [.int (q.1 : Int), .int (q.2 : Int)]) = some (keyN q) := rfl
  simp only [hk, dget_node]
theorem keys_node (ks : List Node) : (ks.map keyN).map pvOfKey = ks.map nodeV := by
  rw [List.map_map]
  rfl
def addAll (acc ks : List Node) : List Node := ks.foldl insK acc
theorem addAll_mem {p : Node} : ∀ {ks acc : List Node}, p ∈ addAll acc ks ↔ p ∈ acc ∨ p ∈ ks
  | [], acc => by simp [addAll]
  | q :: ks, acc => by
    have := addAll_mem (p := p) (ks := ks) (acc := insK acc q)
    unfold addAll at this ⊢
    rw [List.foldl_cons, this, insK_mem, List.mem_cons]
    constructor
    · rintro ((h | h) | h)
      · exact .inl h
      · exact .inr (.inl h)
      · exact .inr (.inr h)
    · rintro (h | h | h)
      · exact .inl (.inl h)
      · exact .inl (.inr h)
      · exact .inr h
theorem addAll_len : ∀ (ks acc : List Node), (addAll acc ks).length ≤ acc.length + ks.length
  | [], acc => Nat.le_refl _
  | q :: ks, acc => by
    have h1 := addAll_len ks (insK acc q)
    have h2 := insK_len acc q
    unfold addAll at h1 ⊢
    rw [List.foldl_cons, List.length_cons]
    omega
def srcs (n : Nat) (f : Nat → Fall) (m h : Nat) : List Nat := h :: heardL n f m h
def addSrc (g : Nat → List Node) (acc : List Node) (ss : List Nat) : List Node := ss.foldl (fun acc s => addAll acc (g s)) acc
theorem addSrc_mem {g : Nat → List Node} {p : Node} : ∀ {ss : List Nat} {acc : List Node}, p ∈ addSrc g acc ss ↔ p ∈ acc ∨ ∃ s ∈ ss, p ∈ g s
  | [], acc => by simp [addSrc]
  | s :: ss, acc => by
    have := addSrc_mem (g := g) (p := p) (ss := ss) (acc := addAll acc (g s))
    unfold addSrc at this ⊢
    rw [List.foldl_cons, this, addAll_mem]
    constructor
    · rintro ((h | h) | ⟨w, h1, h2⟩)
      · exact .inl h
      · exact .inr ⟨s, List.mem_cons_self, h⟩
      · exact .inr ⟨w, List.mem_cons_of_mem _ h1, h2⟩
    · rintro (h | ⟨w, h1, h2⟩)
      · exact .inl (.inl h)
      · rcases List.mem_cons.mp h1 with rfl | h1
        · exact .inl (.inr h2)
        · exact .inr ⟨w, h1, h2⟩
theorem addSrc_len {g : Nat → List Node} {c : Nat} : ∀ (ss : List Nat) (acc : List Node), (∀ s ∈ ss, (g s).length ≤ c) → (addSrc g acc ss).length ≤ acc.length + ss.length * c
  | [], acc, _ => by simp [addSrc]
  | s :: ss, acc, h => by
    have h1 := addSrc_len ss (addAll acc (g s)) fun w hw => h w (List.mem_cons_of_mem _ hw)
    have h2 := addAll_len (g s) acc
    have h3 := h s List.mem_cons_self
    unfold addSrc at h1 ⊢
    rw [List.foldl_cons, List.length_cons, Nat.add_mul]
    omega
/-- the nodes of which house h has news at moment m -/
def come (n : Nat) (f : Nat → Fall) : Nat → Nat → List Node
  | 0, h => [(h, 0)]
  | m + 1, h => addSrc (come n f m) [(h, m + 1)] (srcs n f (m + 1) h)
theorem heardL_len (n : Nat) (f : Nat → Fall) (m h : Nat) : (heardL n f m h).length ≤ n := by
  have := List.length_filter_le (hearsB f m h) (List.range n)
  rwa [List.length_range] at this
theorem come_len (n : Nat) (hn : n ≤ 5) (f : Nat → Fall) : ∀ m h, (come n f m h).length ≤ 7 ^ (m + 1)
  | 0, h => by show 1 ≤ 7 ^ 1; decide
  | m + 1, h => by
    have h1 := addSrc_len (g := come n f m) (c := 7 ^ (m + 1)) (srcs n f (m + 1) h) [(h, m + 1)] fun s _ => come_len n hn f m s
    have h2 := heardL_len n f (m + 1) h
    have h3 : (srcs n f (m + 1) h).length ≤ 6 := by unfold srcs; rw [List.length_cons]; omega
    have h4 : (srcs n f (m + 1) h).length * 7 ^ (m + 1) ≤ 6 * 7 ^ (m + 1) := Nat.mul_le_mul_right _ h3
    have h5 : 1 ≤ 7 ^ (m + 1) := Nat.one_le_pow _ _ (by decide)
    have h6 : 7 ^ (m + 1 + 1) = 7 ^ (m + 1) * 7 := Nat.pow_succ _ _
    have h7 : ([(h, m + 1)] : List Node).length = 1 := rfl
    unfold come
    omega
theorem pow7 {m : Nat} (h : m ≤ 5) : 7 ^ (m + 1) ≤ 117649 := by
  have : m = 0 ∨ m = 1 ∨ m = 2 ∨ m = 3 ∨ m = 4 ∨ m = 5 := by omega
  rcases this with rfl | rfl | rfl | rfl | rfl | rfl <;> decide
def comeV (n : Nat) (f : Nat → Fall) (m h : Nat) : PV := if aliveB f m h = true then dctV (come n f m h) else .non
theorem alive_prev {f : Nat → Fall} {m h : Nat} (a : aliveB f (m + 1) h = true) : aliveB f m h = true := by
  unfold aliveB at a ⊢
  cases hf : f h with
  | none => rfl
  | some q =>
    rw [hf] at a
    simp only at a ⊢
    have := of_decide_eq_true a
    exact decide_eq_true (by omega)
theorem heard_alive {n : Nat} {f : Nat → Fall} {m h s : Nat} (a : s ∈ heardL n f (m + 1) h) : aliveB f m s = true ∧ s < n ∧ s ≠ h := by
  unfold heardL at a
  obtain ⟨h1, h2⟩ := List.mem_filter.mp a
  unfold hearsB at h2
  rw [Bool.and_eq_true, Bool.and_eq_true] at h2
  refine ⟨?_, by simpa using h1, fun e => ?_⟩
  · have hs := h2.2.2
    unfold sentB at hs
    unfold aliveB
    cases hf : f s with
    | none => rfl
    | some q =>
      rw [hf] at hs
      simp only [Bool.or_eq_true, Bool.and_eq_true, decide_eq_true_eq, beq_iff_eq] at hs
      simp only
      refine decide_eq_true ?_
      rcases hs with hs | ⟨hs, _⟩ <;> omega
  · subst e
    simp at h2
section
variable {Φ : Fns} {fu : Nat}
theorem row_at {n i : Nat} {g : Nat → PV} (h : i < n) : idxP (rowV n g) (.int (i : Int)) = .ok (g i) := atP_rng h
theorem app_row {n : Nat} {g : Nat → PV} (h : n < 1000) : appP (rowV n g) (g n) = .ok (rowV (n + 1) g) := app_rng h
theorem row_len {n : Nat} {g : Nat → PV} : bi1 .len (rowV n g) = .ok (.int (n : Int)) := by
  unfold rowV
  rw [len_lst, rng_length]
theorem natsV_eq (l : List Nat) : natsV l = .lst (l.map fun j : Nat => PV.int (j : Int)) := rfl
theorem srcs_eq (n : Nat) (f : Nat → Fall) (m h : Nat) : (.lst ([PV.int (h : Int)] ++ (heardL n f m h).map fun j : Nat => PV.int (j : Int)) : PV) = .lst ((srcs n f m h).map fun j : Nat => PV.int (j : Int)) := rfl
theorem come_succ (n : Nat) (f : Nat → Fall) (m h : Nat) : come n f (m + 1) h = addSrc (come n f m) [(h, m + 1)] (srcs n f (m + 1) h) := rfl
theorem keys_dct (ks : List Node) : keysV (dctV ks) = .ok (ks.map nodeV) := by
  unfold dctV
  rw [keysV_dct, keys_node]
theorem f_come (n L : Nat) (hn1 : 1 ≤ n) (hn : n ≤ 5) (hL : L ≤ 5) (f : Nat → Fall) (hf : ∀ h, FallOk (f h)) : Ok (runD Φ fu d18 [tableV n L (heardV n f)]) (· = tableV n L (comeV n f)) := by
  rw [runD_eq rfl]
  have rn := rng1_nat (show n ≤ 1000 by omega)
  have rL := rng1_nat (show L + 1 ≤ 1000 by omega)
  have T0 : idxP (tableV n L (heardV n f)) (.int 0) = .ok (rowV n (heardV n f 0)) := row_at (i := 0) (by omega)
  have Tm : ∀ m, m < L + 1 → idxP (tableV n L (heardV n f)) (.int (m : Int)) = .ok (rowV n (heardV n f m)) := fun m hm => row_at (g := fun m => rowV n (heardV n f m)) hm
  have Tl : bi1 .len (tableV n L (heardV n f)) = .ok (.int ((L + 1 : Nat) : Int)) := row_len
  simp -implicitDefEqProofs only [SR.fin_nx, SR.fin_rt, Ok_ok, ex_nx, R.bind_ok, R.st_ok, SR.next_nx, SR.next_rt, SR.next_bk, SR.next_ct, x_cnon, x_cbl, x_cint, x_cstr, x_var, x_bor, x_bin, x_neg, x_cmp, x_bop, x_bcons, x_not, x_ite, x_tup, x_lst, x_dct1, x_idx, x_slc, x_call, x_bi, x_isi, x_comp, x_nil, x_cons, x_c0, x_c1, x_seq, x_rng1, x_rng2, x_enu, x_keys, y_nil, y_cons, y_asg, y_setI, y_app, y_appPop, y_asgPop, y_ite, y_for, y_while, y_ret, y_retN, y_raise, y_pass, y_brk, y_cont, y_frz, y_exp, b_var, b_tup, b_lst, m_nil, m_cons, g_zero, g_succ, w_nil, w_cons, next_next, next_nil, forF_eq, boolK_nil, boolK_cons, bK_tt, bK_tf, bK_ft, bK_ff, bK_and, bK_or, iteV_bl, iteS_bl, notV_bl, negV_int, condV_bl, seqV_lst, seqV_tup, seqV_scr, enuV_lst, enuV_tup, keysV_dct, compF_eq, biP_1, biP_2, len_lst, len_tup, len_scr, int_int, int_bl, list_lst, list_tup, tuple_lst, tuple_tup, min_int, max_int, abs_int, c_eq, c_ne, c_lt, c_le, c_gt, c_ge, c_is, c_isnot, c_inn, c_notin, in_lst, in_tup, ix_lst, ix_tup, ix_scr, eq_int, eq_bl, eq_str, isNon_non, isNon_int, isNon_tup, isNon_lst, isNon_dct, isNon_bl, isNon_str, bin_add, bin_sub, bin_mod, bin_fdiv, List.set_cons_zero, List.set_cons_succ, List.length_cons, List.length_nil, List.map_cons, List.map_nil, List.cons_append, List.nil_append, List.replicate_succ, List.replicate_zero, ↓reduceIte, Bool.false_eq_true, Int.reduceLT, Int.reducePow, Int.reduceNeg, Int.reduceLE, Int.reduceAdd, Int.reduceSub, Int.reduceMul, Int.reduceMod, Int.reduceDiv, Bool.not_true, Bool.not_false, Bool.true_beq, Bool.false_beq, Bool.and_true, Bool.true_and, Bool.and_false, Bool.false_and, Bool.or_true, Bool.true_or, Bool.or_false, Bool.false_or, Nat.reduceAdd, Nat.reduceSub, Nat.zero_add, Nat.sub_self, part_no, part_int, slc_lst, slc_tup, isNoE, isiV, isiOk, isiP, at_zero, at_1, at_2, at_3, d18, Tl, rL]
  refine forR_ok (fun i e => ∃ y2 y3 y4 y5 y6 y7, e = [some (tableV n L (heardV n f)), some (rowV i fun m => rowV n (comeV n f m)), y2, y3, y4, y5, y6, y7]) ⟨_, _, _, _, _, _, rfl⟩ (fun m e hm he => ?_) (fun e he => ?_)
  · obtain ⟨y2, y3, y4, y5, y6, y7, rfl⟩ := he
    have T := Tm m hm
    simp -implicitDefEqProofs only [SR.fin_nx, SR.fin_rt, Ok_ok, ex_nx, R.bind_ok, R.st_ok, SR.next_nx, SR.next_rt, SR.next_bk, SR.next_ct, x_cnon, x_cbl, x_cint, x_cstr, x_var, x_bor, x_bin, x_neg, x_cmp, x_bop, x_bcons, x_not, x_ite, x_tup, x_lst, x_dct1, x_idx, x_slc, x_call, x_bi, x_isi, x_comp, x_nil, x_cons, x_c0, x_c1, x_seq, x_rng1, x_rng2, x_enu, x_keys, y_nil, y_cons, y_asg, y_setI, y_app, y_appPop, y_asgPop, y_ite, y_for, y_while, y_ret, y_retN, y_raise, y_pass, y_brk, y_cont, y_frz, y_exp, b_var, b_tup, b_lst, m_nil, m_cons, g_zero, g_succ, w_nil, w_cons, next_next, next_nil, forF_eq, boolK_nil, boolK_cons, bK_tt, bK_tf, bK_ft, bK_ff, bK_and, bK_or, iteV_bl, iteS_bl, notV_bl, negV_int, condV_bl, seqV_lst, seqV_tup, seqV_scr, enuV_lst, enuV_tup, keysV_dct, compF_eq, biP_1, biP_2, len_lst, len_tup, len_scr, int_int, int_bl, list_lst, list_tup, tuple_lst, tuple_tup, min_int, max_int, abs_int, c_eq, c_ne, c_lt, c_le, c_gt, c_ge, c_is, c_isnot, c_inn, c_notin, in_lst, in_tup, ix_lst, ix_tup, ix_scr, eq_int, eq_bl, eq_str, isNon_non, isNon_int, isNon_tup, isNon_lst, isNon_dct, isNon_bl, isNon_str, bin_add, bin_sub, bin_mod, bin_fdiv, List.set_cons_zero, List.set_cons_succ, List.length_cons, List.length_nil, List.map_cons, List.map_nil, List.cons_append, List.nil_append, List.replicate_succ, List.replicate_zero, ↓reduceIte, Bool.false_eq_true, Int.reduceLT, Int.reducePow, Int.reduceNeg, Int.reduceLE, Int.reduceAdd, Int.reduceSub, Int.reduceMul, Int.reduceMod, Int.reduceDiv, Bool.not_true, Bool.not_false, Bool.true_beq, Bool.false_beq, Bool.and_true, Bool.true_and, Bool.and_false, Bool.false_and, Bool.or_true, Bool.true_or, Bool.or_false, Bool.false_or, Nat.reduceAdd, Nat.reduceSub, Nat.zero_add, Nat.sub_self, part_no, part_int, slc_lst, slc_tup, isNoE, isiV, isiOk, isiP, at_zero, at_1, at_2, at_3, T0, row_len, rn]
    refine forR_ex (fun i e => ∃ y4 y5 y6 y7, e = [some (tableV n L (heardV n f)), some (rowV m fun m => rowV n (comeV n f m)), some (.int m), some (rowV i (comeV n f m)), y4, y5, y6, y7]) ⟨_, _, _, _, rfl⟩ (fun h e hh he => ?_) (fun e he => ?_)
    · obtain ⟨y4, y5, y6, y7, rfl⟩ := he
      have Th : idxP (rowV n (heardV n f m)) (.int (h : Int)) = .ok (heardV n f m h) := row_at hh
      have ap := app_row (n := h) (g := comeV n f m) (by omega)
      cases ha : aliveB f m h with
      | false =>
        have e1 : heardV n f m h = .non := by unfold heardV; rw [ha]; rfl
        have e2 : comeV n f m h = .non := by unfold comeV; rw [ha]; rfl
        rw [e1] at Th
        rw [e2] at ap
        simp -implicitDefEqProofs only [SR.fin_nx, SR.fin_rt, Ok_ok, ex_nx, R.bind_ok, R.st_ok, SR.next_nx, SR.next_rt, SR.next_bk, SR.next_ct, x_cnon, x_cbl, x_cint, x_cstr, x_var, x_bor, x_bin, x_neg, x_cmp, x_bop, x_bcons, x_not, x_ite, x_tup, x_lst, x_dct1, x_idx, x_slc, x_call, x_bi, x_isi, x_comp, x_nil, x_cons, x_c0, x_c1, x_seq, x_rng1, x_rng2, x_enu, x_keys, y_nil, y_cons, y_asg, y_setI, y_app, y_appPop, y_asgPop, y_ite, y_for, y_while, y_ret, y_retN, y_raise, y_pass, y_brk, y_cont, y_frz, y_exp, b_var, b_tup, b_lst, m_nil, m_cons, g_zero, g_succ, w_nil, w_cons, next_next, next_nil, forF_eq, boolK_nil, boolK_cons, bK_tt, bK_tf, bK_ft, bK_ff, bK_and, bK_or, iteV_bl, iteS_bl, notV_bl, negV_int, condV_bl, seqV_lst, seqV_tup, seqV_scr, enuV_lst, enuV_tup, keysV_dct, compF_eq, biP_1, biP_2, len_lst, len_tup, len_scr, int_int, int_bl, list_lst, list_tup, tuple_lst, tuple_tup, min_int, max_int, abs_int, c_eq, c_ne, c_lt, c_le, c_gt, c_ge, c_is, c_isnot, c_inn, c_notin, in_lst, in_tup, ix_lst, ix_tup, ix_scr, eq_int, eq_bl, eq_str, isNon_non, isNon_int, isNon_tup, isNon_lst, isNon_dct, isNon_bl, isNon_str, bin_add, bin_sub, bin_mod, bin_fdiv, List.set_cons_zero, List.set_cons_succ, List.length_cons, List.length_nil, List.map_cons, List.map_nil, List.cons_append, List.nil_append, List.replicate_succ, List.replicate_zero, ↓reduceIte, Bool.false_eq_true, Int.reduceLT, Int.reducePow, Int.reduceNeg, Int.reduceLE, Int.reduceAdd, Int.reduceSub, Int.reduceMul, Int.reduceMod, Int.reduceDiv, Bool.not_true, Bool.not_false, Bool.true_beq, Bool.false_beq, Bool.and_true, Bool.true_and, Bool.and_false, Bool.false_and, Bool.or_true, Bool.true_or, Bool.or_false, Bool.false_or, Nat.reduceAdd, Nat.reduceSub, Nat.zero_add, Nat.sub_self, part_no, part_int, slc_lst, slc_tup, isNoE, isiV, isiOk, isiP, at_zero, at_1, at_2, at_3, T, Th, ap]
        exact ⟨_, _, _, _, rfl⟩
      | true =>
        have e1 : heardV n f m h = .lst ((heardL n f m h).map fun j : Nat => PV.int (j : Int)) := by unfold heardV; rw [ha]; rfl
        have e2 : comeV n f m h = dctV (come n f m h) := by unfold comeV; rw [ha]; rfl
        rw [e1] at Th
        rw [e2] at ap
        have dk : ∀ m : Nat, dct1V (.tup [.int (h : Int), .int (m : Int)]) (.bl true) = .ok (dctV [(h, m)]) := fun m => rfl
        cases m with
        | zero =>
          have g0 : decide (0 < ((0 : Nat) : Int)) = false := rfl
          simp -implicitDefEqProofs only [SR.fin_nx, SR.fin_rt, Ok_ok, ex_nx, R.bind_ok, R.st_ok, SR.next_nx, SR.next_rt, SR.next_bk, SR.next_ct, x_cnon, x_cbl, x_cint, x_cstr, x_var, x_bor, x_bin, x_neg, x_cmp, x_bop, x_bcons, x_not, x_ite, x_tup, x_lst, x_dct1, x_idx, x_slc, x_call, x_bi, x_isi, x_comp, x_nil, x_cons, x_c0, x_c1, x_seq, x_rng1, x_rng2, x_enu, x_keys, y_nil, y_cons, y_asg, y_setI, y_app, y_appPop, y_asgPop, y_ite, y_for, y_while, y_ret, y_retN, y_raise, y_pass, y_brk, y_cont, y_frz, y_exp, b_var, b_tup, b_lst, m_nil, m_cons, g_zero, g_succ, w_nil, w_cons, next_next, next_nil, forF_eq, boolK_nil, boolK_cons, bK_tt, bK_tf, bK_ft, bK_ff, bK_and, bK_or, iteV_bl, iteS_bl, notV_bl, negV_int, condV_bl, seqV_lst, seqV_tup, seqV_scr, enuV_lst, enuV_tup, keysV_dct, compF_eq, biP_1, biP_2, len_lst, len_tup, len_scr, int_int, int_bl, list_lst, list_tup, tuple_lst, tuple_tup, min_int, max_int, abs_int, c_eq, c_ne, c_lt, c_le, c_gt, c_ge, c_is, c_isnot, c_inn, c_notin, in_lst, in_tup, ix_lst, ix_tup, ix_scr, eq_int, eq_bl, eq_str, isNon_non, isNon_int, isNon_tup, isNon_lst, isNon_dct, isNon_bl, isNon_str, bin_add, bin_sub, bin_mod, bin_fdiv, List.set_cons_zero, List.set_cons_succ, List.length_cons, List.length_nil, List.map_cons, List.map_nil, List.cons_append, List.nil_append, List.replicate_succ, List.replicate_zero, ↓reduceIte, Bool.false_eq_true, Int.reduceLT, Int.reducePow, Int.reduceNeg, Int.reduceLE, Int.reduceAdd, Int.reduceSub, Int.reduceMul, Int.reduceMod, Int.reduceDiv, Bool.not_true, Bool.not_false, Bool.true_beq, Bool.false_beq, Bool.and_true, Bool.true_and, Bool.and_false, Bool.false_and, Bool.or_true, Bool.true_or, Bool.or_false, Bool.false_or, Nat.reduceAdd, Nat.reduceSub, Nat.zero_add, Nat.sub_self, part_no, part_int, slc_lst, slc_tup, isNoE, isiV, isiOk, isiP, at_zero, at_1, at_2, at_3, T, Th, dk, g0]
          rw [show dctV [(h, 0)] = dctV (come n f 0 h) from rfl, ap]
          simp -implicitDefEqProofs only [SR.fin_nx, SR.fin_rt, Ok_ok, ex_nx, R.bind_ok, R.st_ok, SR.next_nx, SR.next_rt, SR.next_bk, SR.next_ct, x_cnon, x_cbl, x_cint, x_cstr, x_var, x_bor, x_bin, x_neg, x_cmp, x_bop, x_bcons, x_not, x_ite, x_tup, x_lst, x_dct1, x_idx, x_slc, x_call, x_bi, x_isi, x_comp, x_nil, x_cons, x_c0, x_c1, x_seq, x_rng1, x_rng2, x_enu, x_keys, y_nil, y_cons, y_asg, y_setI, y_app, y_appPop, y_asgPop, y_ite, y_for, y_while, y_ret, y_retN, y_raise, y_pass, y_brk, y_cont, y_frz, y_exp, b_var, b_tup, b_lst, m_nil, m_cons, g_zero, g_succ, w_nil, w_cons, next_next, next_nil, forF_eq, boolK_nil, boolK_cons, bK_tt, bK_tf, bK_ft, bK_ff, bK_and, bK_or, iteV_bl, iteS_bl, notV_bl, negV_int, condV_bl, seqV_lst, seqV_tup, seqV_scr, enuV_lst, enuV_tup, keysV_dct, compF_eq, biP_1, biP_2, len_lst, len_tup, len_scr, int_int, int_bl, list_lst, list_tup, tuple_lst, tuple_tup, min_int, max_int, abs_int, c_eq, c_ne, c_lt, c_le, c_gt, c_ge, c_is, c_isnot, c_inn, c_notin, in_lst, in_tup, ix_lst, ix_tup, ix_scr, eq_int, eq_bl, eq_str, isNon_non, isNon_int, isNon_tup, isNon_lst, isNon_dct, isNon_bl, isNon_str, bin_add, bin_sub, bin_mod, bin_fdiv, List.set_cons_zero, List.set_cons_succ, List.length_cons, List.length_nil, List.map_cons, List.map_nil, List.cons_append, List.nil_append, List.replicate_succ, List.replicate_zero, ↓reduceIte, Bool.false_eq_true, Int.reduceLT, Int.reducePow, Int.reduceNeg, Int.reduceLE, Int.reduceAdd, Int.reduceSub, Int.reduceMul, Int.reduceMod, Int.reduceDiv, Bool.not_true, Bool.not_false, Bool.true_beq, Bool.false_beq, Bool.and_true, Bool.true_and, Bool.and_false, Bool.false_and, Bool.or_true, Bool.true_or, Bool.or_false, Bool.false_or, Nat.reduceAdd, Nat.reduceSub, Nat.zero_add, Nat.sub_self, part_no, part_int, slc_lst, slc_tup, isNoE, isiV, isiOk, isiP, at_zero, at_1, at_2, at_3]
          exact ⟨_, _, _, _, rfl⟩
        | succ m =>
          have g0 : decide (0 < ((m + 1 : Nat) : Int)) = true := decide_eq_true (by omega)
          have cat := bin_cat (xs := [.int (h : Int)]) (ys := (heardL n f (m + 1) h).map fun j : Nat => PV.int (j : Int)) (by
            have := heardL_len n f (m + 1) h
            rw [List.length_map]
            show 1 + _ ≤ _
            omega)
          rw [show [PV.int (h : Int)] ++ ((heardL n f (m + 1) h).map fun j : Nat => PV.int (j : Int)) = (srcs n f (m + 1) h).map fun j : Nat => PV.int (j : Int) from rfl] at cat
          have C : idxP (rowV (m + 1) fun m => rowV n (comeV n f m)) (.int (((m + 1 : Nat) : Int) - 1)) = .ok (rowV n (comeV n f m)) := by
            rw [show ((m + 1 : Nat) : Int) - 1 = (m : Int) by omega]
            exact row_at (g := fun m => rowV n (comeV n f m)) (by omega)
          have p7 := pow7 (m := m) (by omega)
          simp -implicitDefEqProofs only [SR.fin_nx, SR.fin_rt, Ok_ok, ex_nx, R.bind_ok, R.st_ok, SR.next_nx, SR.next_rt, SR.next_bk, SR.next_ct, x_cnon, x_cbl, x_cint, x_cstr, x_var, x_bor, x_bin, x_neg, x_cmp, x_bop, x_bcons, x_not, x_ite, x_tup, x_lst, x_dct1, x_idx, x_slc, x_call, x_bi, x_isi, x_comp, x_nil, x_cons, x_c0, x_c1, x_seq, x_rng1, x_rng2, x_enu, x_keys, y_nil, y_cons, y_asg, y_setI, y_app, y_appPop, y_asgPop, y_ite, y_for, y_while, y_ret, y_retN, y_raise, y_pass, y_brk, y_cont, y_frz, y_exp, b_var, b_tup, b_lst, m_nil, m_cons, g_zero, g_succ, w_nil, w_cons, next_next, next_nil, forF_eq, boolK_nil, boolK_cons, bK_tt, bK_tf, bK_ft, bK_ff, bK_and, bK_or, iteV_bl, iteS_bl, notV_bl, negV_int, condV_bl, seqV_lst, seqV_tup, seqV_scr, enuV_lst, enuV_tup, keysV_dct, compF_eq, biP_1, biP_2, len_lst, len_tup, len_scr, int_int, int_bl, list_lst, list_tup, tuple_lst, tuple_tup, min_int, max_int, abs_int, c_eq, c_ne, c_lt, c_le, c_gt, c_ge, c_is, c_isnot, c_inn, c_notin, in_lst, in_tup, ix_lst, ix_tup, ix_scr, eq_int, eq_bl, eq_str, isNon_non, isNon_int, isNon_tup, isNon_lst, isNon_dct, isNon_bl, isNon_str, bin_add, bin_sub, bin_mod, bin_fdiv, List.set_cons_zero, List.set_cons_succ, List.length_cons, List.length_nil, List.map_cons, List.map_nil, List.cons_append, List.nil_append, List.replicate_succ, List.replicate_zero, ↓reduceIte, Bool.false_eq_true, Int.reduceLT, Int.reducePow, Int.reduceNeg, Int.reduceLE, Int.reduceAdd, Int.reduceSub, Int.reduceMul, Int.reduceMod, Int.reduceDiv, Bool.not_true, Bool.not_false, Bool.true_beq, Bool.false_beq, Bool.and_true, Bool.true_and, Bool.and_false, Bool.false_and, Bool.or_true, Bool.true_or, Bool.or_false, Bool.false_or, Nat.reduceAdd, Nat.reduceSub, Nat.zero_add, Nat.sub_self, part_no, part_int, slc_lst, slc_tup, isNoE, isiV, isiOk, isiP, at_zero, at_1, at_2, at_3, T, Th, dk, g0, cat]
          refine seq_ex (fun e => ∃ y4 y6 y7, e = [some (tableV n L (heardV n f)), some (rowV (m + 1) fun m => rowV n (comeV n f m)), some (.int ((m + 1 : Nat) : Int)), some (rowV h (comeV n f (m + 1))), y4, some (dctV (come n f (m + 1) h)), y6, y7]) ?_ fun e he => ?_
          · rw [← next_nil (Φ := Φ) (fu := fu) (forL _ _ _)]
            refine forI_ex (fun i e => ∃ y6 y7, e = [some (tableV n L (heardV n f)), some (rowV (m + 1) fun m => rowV n (comeV n f m)), some (.int ((m + 1 : Nat) : Int)), some (rowV h (comeV n f (m + 1))), some (.int (h : Int)), some (dctV (addSrc (come n f m) [(h, m + 1)] ((srcs n f (m + 1) h).take i))), y6, y7]) ⟨_, _, rfl⟩ (fun i s e hi he => ?_) (fun e he => ?_)
            · obtain ⟨y6, y7, rfl⟩ := he
              have hs : aliveB f m s = true ∧ s < n := by
                have hm' : s ∈ srcs n f (m + 1) h := List.mem_of_getElem? hi
                unfold srcs at hm'
                rcases List.mem_cons.mp hm' with rfl | hm'
                · exact ⟨alive_prev ha, hh⟩
                · exact ⟨(heard_alive hm').1, (heard_alive hm').2.1⟩
              have Cs : idxP (rowV n (comeV n f m)) (.int (s : Int)) = .ok (dctV (come n f m s)) := by
                rw [row_at hs.2]
                unfold comeV
                rw [hs.1]; rfl
              have hacc : (addSrc (come n f m) [(h, m + 1)] ((srcs n f (m + 1) h).take i)).length ≤ 1 + 6 * 117649 := by
                have h1 := addSrc_len (g := come n f m) (c := 117649) ((srcs n f (m + 1) h).take i) [(h, m + 1)] fun s _ => Nat.le_trans (come_len n hn f m s) p7
                have h2 : ((srcs n f (m + 1) h).take i).length ≤ 6 := by
                  have := heardL_len n f (m + 1) h
                  rw [List.length_take]
                  unfold srcs
                  rw [List.length_cons]
                  omega
                have h3 := Nat.mul_le_mul_right 117649 h2
                exact Nat.le_trans h1 (Nat.add_le_add_left h3 1)
              have hcl := Nat.le_trans (come_len n hn f m s) p7
              have ft := fold_take (step := fun acc s => addAll acc (come n f m s)) (b := [(h, m + 1)]) hi
              have ft' : addSrc (come n f m) [(h, m + 1)] ((srcs n f (m + 1) h).take (i + 1)) = addAll (addSrc (come n f m) [(h, m + 1)] ((srcs n f (m + 1) h).take i)) (come n f m s) := ft
              rw [ft']
              generalize addSrc (come n f m) [(h, m + 1)] ((srcs n f (m + 1) h).take i) = acc at hacc
              simp -implicitDefEqProofs only [SR.fin_nx, SR.fin_rt, Ok_ok, ex_nx, R.bind_ok, R.st_ok, SR.next_nx, SR.next_rt, SR.next_bk, SR.next_ct, x_cnon, x_cbl, x_cint, x_cstr, x_var, x_bor, x_bin, x_neg, x_cmp, x_bop, x_bcons, x_not, x_ite, x_tup, x_lst, x_dct1, x_idx, x_slc, x_call, x_bi, x_isi, x_comp, x_nil, x_cons, x_c0, x_c1, x_seq, x_rng1, x_rng2, x_enu, x_keys, y_nil, y_cons, y_asg, y_setI, y_app, y_appPop, y_asgPop, y_ite, y_for, y_while, y_ret, y_retN, y_raise, y_pass, y_brk, y_cont, y_frz, y_exp, b_var, b_tup, b_lst, m_nil, m_cons, g_zero, g_succ, w_nil, w_cons, next_next, next_nil, forF_eq, boolK_nil, boolK_cons, bK_tt, bK_tf, bK_ft, bK_ff, bK_and, bK_or, iteV_bl, iteS_bl, notV_bl, negV_int, condV_bl, seqV_lst, seqV_tup, seqV_scr, enuV_lst, enuV_tup, keysV_dct, compF_eq, biP_1, biP_2, len_lst, len_tup, len_scr, int_int, int_bl, list_lst, list_tup, tuple_lst, tuple_tup, min_int, max_int, abs_int, c_eq, c_ne, c_lt, c_le, c_gt, c_ge, c_is, c_isnot, c_inn, c_notin, in_lst, in_tup, ix_lst, ix_tup, ix_scr, eq_int, eq_bl, eq_str, isNon_non, isNon_int, isNon_tup, isNon_lst, isNon_dct, isNon_bl, isNon_str, bin_add, bin_sub, bin_mod, bin_fdiv, List.set_cons_zero, List.set_cons_succ, List.length_cons, List.length_nil, List.map_cons, List.map_nil, List.cons_append, List.nil_append, List.replicate_succ, List.replicate_zero, ↓reduceIte, Bool.false_eq_true, Int.reduceLT, Int.reducePow, Int.reduceNeg, Int.reduceLE, Int.reduceAdd, Int.reduceSub, Int.reduceMul, Int.reduceMod, Int.reduceDiv, Bool.not_true, Bool.not_false, Bool.true_beq, Bool.false_beq, Bool.and_true, Bool.true_and, Bool.and_false, Bool.false_and, Bool.or_true, Bool.true_or, Bool.or_false, Bool.false_or, Nat.reduceAdd, Nat.reduceSub, Nat.zero_add, Nat.sub_self, part_no, part_int, slc_lst, slc_tup, isNoE, isiV, isiOk, isiP, at_zero, at_1, at_2, at_3, C, Cs, keys_dct]
              rw [← next_nil (Φ := Φ) (fu := fu) (forL _ _ _)]
              refine forI_ex (fun j e => ∃ y7, e = [some (tableV n L (heardV n f)), some (rowV (m + 1) fun m => rowV n (comeV n f m)), some (.int ((m + 1 : Nat) : Int)), some (rowV h (comeV n f (m + 1))), some (.int (h : Int)), some (dctV (addAll acc ((come n f m s).take j))), some (.int (s : Int)), y7]) ⟨_, rfl⟩ (fun j q e hj he => ?_) (fun e he => ?_)
              · obtain ⟨y7, rfl⟩ := he
                have hl1 := addAll_len ((come n f m s).take j) acc
                have hl2 : ((come n f m s).take j).length ≤ 117649 := by rw [List.length_take]; omega
                have sp := setP_node (ks := addAll acc ((come n f m s).take j)) (q := q) (by omega)
                have ft2 : addAll acc ((come n f m s).take (j + 1)) = insK (addAll acc ((come n f m s).take j)) q := fold_take (step := insK) hj
                rw [ft2]
                simp -implicitDefEqProofs only [SR.fin_nx, SR.fin_rt, Ok_ok, ex_nx, R.bind_ok, R.st_ok, SR.next_nx, SR.next_rt, SR.next_bk, SR.next_ct, x_cnon, x_cbl, x_cint, x_cstr, x_var, x_bor, x_bin, x_neg, x_cmp, x_bop, x_bcons, x_not, x_ite, x_tup, x_lst, x_dct1, x_idx, x_slc, x_call, x_bi, x_isi, x_comp, x_nil, x_cons, x_c0, x_c1, x_seq, x_rng1, x_rng2, x_enu, x_keys, y_nil, y_cons, y_asg, y_setI, y_app, y_appPop, y_asgPop, y_ite, y_for, y_while, y_ret, y_retN, y_raise, y_pass, y_brk, y_cont, y_frz, y_exp, b_var, b_tup, b_lst, m_nil, m_cons, g_zero, g_succ, w_nil, w_cons, next_next, next_nil, forF_eq, boolK_nil, boolK_cons, bK_tt, bK_tf, bK_ft, bK_ff, bK_and, bK_or, iteV_bl, iteS_bl, notV_bl, negV_int, condV_bl, seqV_lst, seqV_tup, seqV_scr, enuV_lst, enuV_tup, keysV_dct, compF_eq, biP_1, biP_2, len_lst, len_tup, len_scr, int_int, int_bl, list_lst, list_tup, tuple_lst, tuple_tup, min_int, max_int, abs_int, c_eq, c_ne, c_lt, c_le, c_gt, c_ge, c_is, c_isnot, c_inn, c_notin, in_lst, in_tup, ix_lst, ix_tup, ix_scr, eq_int, eq_bl, eq_str, isNon_non, isNon_int, isNon_tup, isNon_lst, isNon_dct, isNon_bl, isNon_str, bin_add, bin_sub, bin_mod, bin_fdiv, List.set_cons_zero, List.set_cons_succ, List.length_cons, List.length_nil, List.map_cons, List.map_nil, List.cons_append, List.nil_append, List.replicate_succ, List.replicate_zero, ↓reduceIte, Bool.false_eq_true, Int.reduceLT, Int.reducePow, Int.reduceNeg, Int.reduceLE, Int.reduceAdd, Int.reduceSub, Int.reduceMul, Int.reduceMod, Int.reduceDiv, Bool.not_true, Bool.not_false, Bool.true_beq, Bool.false_beq, Bool.and_true, Bool.true_and, Bool.and_false, Bool.false_and, Bool.or_true, Bool.true_or, Bool.or_false, Bool.false_or, Nat.reduceAdd, Nat.reduceSub, Nat.zero_add, Nat.sub_self, part_no, part_int, slc_lst, slc_tup, isNoE, isiV, isiOk, isiP, at_zero, at_1, at_2, at_3, sp]
                exact ⟨_, rfl⟩
              · obtain ⟨y7, rfl⟩ := he
                rw [List.take_length]
                simp -implicitDefEqProofs only [SR.fin_nx, SR.fin_rt, Ok_ok, ex_nx, R.bind_ok, R.st_ok, SR.next_nx, SR.next_rt, SR.next_bk, SR.next_ct, x_cnon, x_cbl, x_cint, x_cstr, x_var, x_bor, x_bin, x_neg, x_cmp, x_bop, x_bcons, x_not, x_ite, x_tup, x_lst, x_dct1, x_idx, x_slc, x_call, x_bi, x_isi, x_comp, x_nil, x_cons, x_c0, x_c1, x_seq, x_rng1, x_rng2, x_enu, x_keys, y_nil, y_cons, y_asg, y_setI, y_app, y_appPop, y_asgPop, y_ite, y_for, y_while, y_ret, y_retN, y_raise, y_pass, y_brk, y_cont, y_frz, y_exp, b_var, b_tup, b_lst, m_nil, m_cons, g_zero, g_succ, w_nil, w_cons, next_next, next_nil, forF_eq, boolK_nil, boolK_cons, bK_tt, bK_tf, bK_ft, bK_ff, bK_and, bK_or, iteV_bl, iteS_bl, notV_bl, negV_int, condV_bl, seqV_lst, seqV_tup, seqV_scr, enuV_lst, enuV_tup, keysV_dct, compF_eq, biP_1, biP_2, len_lst, len_tup, len_scr, int_int, int_bl, list_lst, list_tup, tuple_lst, tuple_tup, min_int, max_int, abs_int, c_eq, c_ne, c_lt, c_le, c_gt, c_ge, c_is, c_isnot, c_inn, c_notin, in_lst, in_tup, ix_lst, ix_tup, ix_scr, eq_int, eq_bl, eq_str, isNon_non, isNon_int, isNon_tup, isNon_lst, isNon_dct, isNon_bl, isNon_str, bin_add, bin_sub, bin_mod, bin_fdiv, List.set_cons_zero, List.set_cons_succ, List.length_cons, List.length_nil, List.map_cons, List.map_nil, List.cons_append, List.nil_append, List.replicate_succ, List.replicate_zero, ↓reduceIte, Bool.false_eq_true, Int.reduceLT, Int.reducePow, Int.reduceNeg, Int.reduceLE, Int.reduceAdd, Int.reduceSub, Int.reduceMul, Int.reduceMod, Int.reduceDiv, Bool.not_true, Bool.not_false, Bool.true_beq, Bool.false_beq, Bool.and_true, Bool.true_and, Bool.and_false, Bool.false_and, Bool.or_true, Bool.true_or, Bool.or_false, Bool.false_or, Nat.reduceAdd, Nat.reduceSub, Nat.zero_add, Nat.sub_self, part_no, part_int, slc_lst, slc_tup, isNoE, isiV, isiOk, isiP, at_zero, at_1, at_2, at_3]
                exact ⟨_, _, rfl⟩
            · obtain ⟨y6, y7, rfl⟩ := he
              rw [List.take_length, ← come_succ]
              simp -implicitDefEqProofs only [SR.fin_nx, SR.fin_rt, Ok_ok, ex_nx, R.bind_ok, R.st_ok, SR.next_nx, SR.next_rt, SR.next_bk, SR.next_ct, x_cnon, x_cbl, x_cint, x_cstr, x_var, x_bor, x_bin, x_neg, x_cmp, x_bop, x_bcons, x_not, x_ite, x_tup, x_lst, x_dct1, x_idx, x_slc, x_call, x_bi, x_isi, x_comp, x_nil, x_cons, x_c0, x_c1, x_seq, x_rng1, x_rng2, x_enu, x_keys, y_nil, y_cons, y_asg, y_setI, y_app, y_appPop, y_asgPop, y_ite, y_for, y_while, y_ret, y_retN, y_raise, y_pass, y_brk, y_cont, y_frz, y_exp, b_var, b_tup, b_lst, m_nil, m_cons, g_zero, g_succ, w_nil, w_cons, next_next, next_nil, forF_eq, boolK_nil, boolK_cons, bK_tt, bK_tf, bK_ft, bK_ff, bK_and, bK_or, iteV_bl, iteS_bl, notV_bl, negV_int, condV_bl, seqV_lst, seqV_tup, seqV_scr, enuV_lst, enuV_tup, keysV_dct, compF_eq, biP_1, biP_2, len_lst, len_tup, len_scr, int_int, int_bl, list_lst, list_tup, tuple_lst, tuple_tup, min_int, max_int, abs_int, c_eq, c_ne, c_lt, c_le, c_gt, c_ge, c_is, c_isnot, c_inn, c_notin, in_lst, in_tup, ix_lst, ix_tup, ix_scr, eq_int, eq_bl, eq_str, isNon_non, isNon_int, isNon_tup, isNon_lst, isNon_dct, isNon_bl, isNon_str, bin_add, bin_sub, bin_mod, bin_fdiv, List.set_cons_zero, List.set_cons_succ, List.length_cons, List.length_nil, List.map_cons, List.map_nil, List.cons_append, List.nil_append, List.replicate_succ, List.replicate_zero, ↓reduceIte, Bool.false_eq_true, Int.reduceLT, Int.reducePow, Int.reduceNeg, Int.reduceLE, Int.reduceAdd, Int.reduceSub, Int.reduceMul, Int.reduceMod, Int.reduceDiv, Bool.not_true, Bool.not_false, Bool.true_beq, Bool.false_beq, Bool.and_true, Bool.true_and, Bool.and_false, Bool.false_and, Bool.or_true, Bool.true_or, Bool.or_false, Bool.false_or, Nat.reduceAdd, Nat.reduceSub, Nat.zero_add, Nat.sub_self, part_no, part_int, slc_lst, slc_tup, isNoE, isiV, isiOk, isiP, at_zero, at_1, at_2, at_3]
              exact ⟨_, _, _, rfl⟩
          · obtain ⟨y4, y6, y7, rfl⟩ := he
            simp -implicitDefEqProofs only [SR.fin_nx, SR.fin_rt, Ok_ok, ex_nx, R.bind_ok, R.st_ok, SR.next_nx, SR.next_rt, SR.next_bk, SR.next_ct, x_cnon, x_cbl, x_cint, x_cstr, x_var, x_bor, x_bin, x_neg, x_cmp, x_bop, x_bcons, x_not, x_ite, x_tup, x_lst, x_dct1, x_idx, x_slc, x_call, x_bi, x_isi, x_comp, x_nil, x_cons, x_c0, x_c1, x_seq, x_rng1, x_rng2, x_enu, x_keys, y_nil, y_cons, y_asg, y_setI, y_app, y_appPop, y_asgPop, y_ite, y_for, y_while, y_ret, y_retN, y_raise, y_pass, y_brk, y_cont, y_frz, y_exp, b_var, b_tup, b_lst, m_nil, m_cons, g_zero, g_succ, w_nil, w_cons, next_next, next_nil, forF_eq, boolK_nil, boolK_cons, bK_tt, bK_tf, bK_ft, bK_ff, bK_and, bK_or, iteV_bl, iteS_bl, notV_bl, negV_int, condV_bl, seqV_lst, seqV_tup, seqV_scr, enuV_lst, enuV_tup, keysV_dct, compF_eq, biP_1, biP_2, len_lst, len_tup, len_scr, int_int, int_bl, list_lst, list_tup, tuple_lst, tuple_tup, min_int, max_int, abs_int, c_eq, c_ne, c_lt, c_le, c_gt, c_ge, c_is, c_isnot, c_inn, c_notin, in_lst, in_tup, ix_lst, ix_tup, ix_scr, eq_int, eq_bl, eq_str, isNon_non, isNon_int, isNon_tup, isNon_lst, isNon_dct, isNon_bl, isNon_str, bin_add, bin_sub, bin_mod, bin_fdiv, List.set_cons_zero, List.set_cons_succ, List.length_cons, List.length_nil, List.map_cons, List.map_nil, List.cons_append, List.nil_append, List.replicate_succ, List.replicate_zero, ↓reduceIte, Bool.false_eq_true, Int.reduceLT, Int.reducePow, Int.reduceNeg, Int.reduceLE, Int.reduceAdd, Int.reduceSub, Int.reduceMul, Int.reduceMod, Int.reduceDiv, Bool.not_true, Bool.not_false, Bool.true_beq, Bool.false_beq, Bool.and_true, Bool.true_and, Bool.and_false, Bool.false_and, Bool.or_true, Bool.true_or, Bool.or_false, Bool.false_or, Nat.reduceAdd, Nat.reduceSub, Nat.zero_add, Nat.sub_self, part_no, part_int, slc_lst, slc_tup, isNoE, isiV, isiOk, isiP, at_zero, at_1, at_2, at_3, ap]
            exact ⟨_, _, _, _, rfl⟩
    · obtain ⟨y4, y5, y6, y7, rfl⟩ := he
      have ap := app_row (n := m) (g := fun m => rowV n (comeV n f m)) (by omega)
      simp -implicitDefEqProofs only [SR.fin_nx, SR.fin_rt, Ok_ok, ex_nx, R.bind_ok, R.st_ok, SR.next_nx, SR.next_rt, SR.next_bk, SR.next_ct, x_cnon, x_cbl, x_cint, x_cstr, x_var, x_bor, x_bin, x_neg, x_cmp, x_bop, x_bcons, x_not, x_ite, x_tup, x_lst, x_dct1, x_idx, x_slc, x_call, x_bi, x_isi, x_comp, x_nil, x_cons, x_c0, x_c1, x_seq, x_rng1, x_rng2, x_enu, x_keys, y_nil, y_cons, y_asg, y_setI, y_app, y_appPop, y_asgPop, y_ite, y_for, y_while, y_ret, y_retN, y_raise, y_pass, y_brk, y_cont, y_frz, y_exp, b_var, b_tup, b_lst, m_nil, m_cons, g_zero, g_succ, w_nil, w_cons, next_next, next_nil, forF_eq, boolK_nil, boolK_cons, bK_tt, bK_tf, bK_ft, bK_ff, bK_and, bK_or, iteV_bl, iteS_bl, notV_bl, negV_int, condV_bl, seqV_lst, seqV_tup, seqV_scr, enuV_lst, enuV_tup, keysV_dct, compF_eq, biP_1, biP_2, len_lst, len_tup, len_scr, int_int, int_bl, list_lst, list_tup, tuple_lst, tuple_tup, min_int, max_int, abs_int, c_eq, c_ne, c_lt, c_le, c_gt, c_ge, c_is, c_isnot, c_inn, c_notin, in_lst, in_tup, ix_lst, ix_tup, ix_scr, eq_int, eq_bl, eq_str, isNon_non, isNon_int, isNon_tup, isNon_lst, isNon_dct, isNon_bl, isNon_str, bin_add, bin_sub, bin_mod, bin_fdiv, List.set_cons_zero, List.set_cons_succ, List.length_cons, List.length_nil, List.map_cons, List.map_nil, List.cons_append, List.nil_append, List.replicate_succ, List.replicate_zero, ↓reduceIte, Bool.false_eq_true, Int.reduceLT, Int.reducePow, Int.reduceNeg, Int.reduceLE, Int.reduceAdd, Int.reduceSub, Int.reduceMul, Int.reduceMod, Int.reduceDiv, Bool.not_true, Bool.not_false, Bool.true_beq, Bool.false_beq, Bool.and_true, Bool.true_and, Bool.and_false, Bool.false_and, Bool.or_true, Bool.true_or, Bool.or_false, Bool.false_or, Nat.reduceAdd, Nat.reduceSub, Nat.zero_add, Nat.sub_self, part_no, part_int, slc_lst, slc_tup, isNoE, isiV, isiOk, isiP, at_zero, at_1, at_2, at_3, ap]
      exact ⟨_, _, _, _, _, _, rfl⟩
  · obtain ⟨y2, y3, y4, y5, y6, y7, rfl⟩ := he
    simp -implicitDefEqProofs only [SR.fin_nx, SR.fin_rt, Ok_ok, ex_nx, R.bind_ok, R.st_ok, SR.next_nx, SR.next_rt, SR.next_bk, SR.next_ct, x_cnon, x_cbl, x_cint, x_cstr, x_var, x_bor, x_bin, x_neg, x_cmp, x_bop, x_bcons, x_not, x_ite, x_tup, x_lst, x_dct1, x_idx, x_slc, x_call, x_bi, x_isi, x_comp, x_nil, x_cons, x_c0, x_c1, x_seq, x_rng1, x_rng2, x_enu, x_keys, y_nil, y_cons, y_asg, y_setI, y_app, y_appPop, y_asgPop, y_ite, y_for, y_while, y_ret, y_retN, y_raise, y_pass, y_brk, y_cont, y_frz, y_exp, b_var, b_tup, b_lst, m_nil, m_cons, g_zero, g_succ, w_nil, w_cons, next_next, next_nil, forF_eq, boolK_nil, boolK_cons, bK_tt, bK_tf, bK_ft, bK_ff, bK_and, bK_or, iteV_bl, iteS_bl, notV_bl, negV_int, condV_bl, seqV_lst, seqV_tup, seqV_scr, enuV_lst, enuV_tup, keysV_dct, compF_eq, biP_1, biP_2, len_lst, len_tup, len_scr, int_int, int_bl, list_lst, list_tup, tuple_lst, tuple_tup, min_int, max_int, abs_int, c_eq, c_ne, c_lt, c_le, c_gt, c_ge, c_is, c_isnot, c_inn, c_notin, in_lst, in_tup, ix_lst, ix_tup, ix_scr, eq_int, eq_bl, eq_str, isNon_non, isNon_int, isNon_tup, isNon_lst, isNon_dct, isNon_bl, isNon_str, bin_add, bin_sub, bin_mod, bin_fdiv, List.set_cons_zero, List.set_cons_succ, List.length_cons, List.length_nil, List.map_cons, List.map_nil, List.cons_append, List.nil_append, List.replicate_succ, List.replicate_zero, ↓reduceIte, Bool.false_eq_true, Int.reduceLT, Int.reducePow, Int.reduceNeg, Int.reduceLE, Int.reduceAdd, Int.reduceSub, Int.reduceMul, Int.reduceMod, Int.reduceDiv, Bool.not_true, Bool.not_false, Bool.true_beq, Bool.false_beq, Bool.and_true, Bool.true_and, Bool.and_false, Bool.false_and, Bool.or_true, Bool.true_or, Bool.or_false, Bool.false_or, Nat.reduceAdd, Nat.reduceSub, Nat.zero_add, Nat.sub_self, part_no, part_int, slc_lst, slc_tup, isNoE, isiV, isiOk, isiP, at_zero, at_1, at_2, at_3]
    rfl
end
end K86

namespace K86
open PySem PY
/-! ### the news -/
theorem alive_le {f : Nat → Fall} {h a : Nat} : ∀ {b : Nat}, aliveB f b h = true → a ≤ b → aliveB f a h = true := fun {b} hb hab => by
  unfold aliveB at hb ⊢
  cases hf : f h with
  | none => rfl
  | some q =>
    rw [hf] at hb
    simp only at hb ⊢
    have := of_decide_eq_true hb
    exact decide_eq_true (by omega)
theorem come_ok {n : Nat} {f : Nat → Fall} : ∀ {m h k a : Nat}, h < n → aliveB f m h = true → (k, a) ∈ come n f m h → k < n ∧ a ≤ m ∧ aliveB f a k = true
  | 0, h, k, a, hh, ha, hk => by
    have : (k, a) = (h, 0) := by simpa [come] using hk
    cases this
    exact ⟨hh, Nat.le_refl _, ha⟩
  | m + 1, h, k, a, hh, ha, hk => by
    rw [come_succ, addSrc_mem] at hk
    rcases hk with hk | ⟨s, hs, hk⟩
    · have : (k, a) = (h, m + 1) := by simpa using hk
      cases this
      exact ⟨hh, Nat.le_refl _, ha⟩
    · have : aliveB f m s = true ∧ s < n := by
        unfold srcs at hs
        rcases List.mem_cons.mp hs with rfl | hs
        · exact ⟨alive_prev ha, hh⟩
        · exact ⟨(heard_alive hs).1, (heard_alive hs).2.1⟩
      obtain ⟨h1, h2, h3⟩ := come_ok this.2 this.1 hk
      exact ⟨h1, by omega, h3⟩
def seenL (ks : List Node) (m j : Nat) : List Nat := (List.range (m + 1)).filter fun a => decide ((j, a) ∈ ks)
def seenK (ks : List Node) (m j : Nat) : Int := maxI (-1) ((seenL ks m j).map fun a : Nat => (a : Int))
theorem seenK_ge {ks : List Node} {m j a : Nat} (h : (j, a) ∈ ks) (ha : a ≤ m) : (a : Int) ≤ seenK ks m j := by
  refine (maxI_ge _ (-1)).2 _ (List.mem_map.mpr ⟨a, List.mem_filter.mpr ⟨List.mem_range.mpr (by omega), decide_eq_true h⟩, rfl⟩)
theorem seenK_m1 (ks : List Node) (m j : Nat) : -1 ≤ seenK ks m j := (maxI_ge _ (-1)).1
theorem seenK_in (ks : List Node) (m j : Nat) : seenK ks m j = -1 ∨ ∃ a : Nat, a ≤ m ∧ (j, a) ∈ ks ∧ seenK ks m j = (a : Int) := by
  rcases maxI_in ((seenL ks m j).map fun a : Nat => (a : Int)) (-1) with h | h
  · exact .inl h
  · obtain ⟨a, h1, h2⟩ := List.mem_map.mp h
    obtain ⟨h3, h4⟩ := List.mem_filter.mp h1
    exact .inr ⟨a, by have := List.mem_range.mp h3; omega, of_decide_eq_true h4, h2.symm⟩
def seen (n : Nat) (f : Nat → Fall) (m h j : Nat) : Int := seenK (come n f m h) m j
/-- house k at moment a did not hear j, and it is known -/
def lackB (n : Nat) (f : Nat → Fall) (sn : Nat → Int) (j a k : Nat) : Bool := !((k : Int) == (j : Int)) && (decide ((a : Int) ≤ sn k) && !((heardL n f a k).any fun y => (y : Int) == (j : Int)))
def lackC (n : Nat) (f : Nat → Fall) (sn : Nat → Int) (j a : Nat) : Bool := (List.range n).any (lackB n f sn j a)
def firstA (c : Nat → Bool) : Nat → Option Int
  | 0 => none
  | a + 1 => match firstA c a with
    | some x => some x
    | none => if c (a + 1) = true then some ((a + 1 : Nat) : Int) else none
def miss (n : Nat) (f : Nat → Fall) (m h j : Nat) : Option Int := firstA (lackC n f (seen n f m h) j) m
def knownV (B : Nat → Int) (sn : Nat → Int) (j : Nat) : PV := if decide (0 ≤ sn j) = true then .int (B j) else .non
def newsV (n : Nat) (B : Nat → Int) (f : Nat → Fall) (m h : Nat) : PV := .lst [.lst (rng n (knownV B (seen n f m h))), .lst (rng n fun j => .int (seen n f m h j)), .lst (rng n fun j => oP (miss n f m h j))]
section
variable {Φ : Fns} {fu : Nat}
theorem inSeq_nats {z : Int} {l : List Nat} : inSeqP (.int z) (l.map fun j : Nat => PV.int (j : Int)) = .ok (l.any fun y => (y : Int) == z) := by
  have := inSeq_ints (z := z) (ls := l.map fun j : Nat => (j : Int))
  rw [List.map_map] at this
  rw [List.any_map] at this
  exact this
theorem f_news (n L : Nat) (hn : n ≤ 5) (hL : L ≤ 5) (B : Nat → Int) (f : Nat → Fall) (m h : Nat) (hm : m < L + 1) (hh : h < n) (ha : aliveB f m h = true) : Ok (runD Φ fu d19 [storyV n B f, tableV n L (heardV n f), dctV (come n f m h), .int (m : Int)]) (· = newsV n B f m h) := by
  rw [runD_eq rfl]
  have q0 : atP [PV.tup (rng n fun h => .int (B h)), .tup (rng n fun h => fallV (f h))] 0 = .ok (.tup (rng n fun h => .int (B h))) := rfl
  have rn := rng1_nat (show n ≤ 1000 by omega)
  have rm := rng1_nat (show m + 1 ≤ 1000 by omega)
  rw [show ((m + 1 : Nat) : Int) = (m : Int) + 1 by omega] at rm
  have Tm : ∀ m, m < L + 1 → idxP (tableV n L (heardV n f)) (.int (m : Int)) = .ok (rowV n (heardV n f m)) := fun m hm => row_at (g := fun m => rowV n (heardV n f m)) hm
  simp -implicitDefEqProofs only [SR.fin_nx, SR.fin_rt, Ok_ok, ex_nx, R.bind_ok, R.st_ok, SR.next_nx, SR.next_rt, SR.next_bk, SR.next_ct, x_cnon, x_cbl, x_cint, x_cstr, x_var, x_bor, x_bin, x_neg, x_cmp, x_bop, x_bcons, x_not, x_ite, x_tup, x_lst, x_dct1, x_idx, x_slc, x_call, x_bi, x_isi, x_comp, x_nil, x_cons, x_c0, x_c1, x_seq, x_rng1, x_rng2, x_enu, x_keys, y_nil, y_cons, y_asg, y_setI, y_app, y_appPop, y_asgPop, y_ite, y_for, y_while, y_ret, y_retN, y_raise, y_pass, y_brk, y_cont, y_frz, y_exp, b_var, b_tup, b_lst, m_nil, m_cons, g_zero, g_succ, w_nil, w_cons, next_next, next_nil, forF_eq, boolK_nil, boolK_cons, bK_tt, bK_tf, bK_ft, bK_ff, bK_and, bK_or, iteV_bl, iteS_bl, notV_bl, negV_int, condV_bl, seqV_lst, seqV_tup, seqV_scr, enuV_lst, enuV_tup, keysV_dct, compF_eq, biP_1, biP_2, len_lst, len_tup, len_scr, int_int, int_bl, list_lst, list_tup, tuple_lst, tuple_tup, min_int, max_int, abs_int, c_eq, c_ne, c_lt, c_le, c_gt, c_ge, c_is, c_isnot, c_inn, c_notin, in_lst, in_tup, ix_lst, ix_tup, ix_scr, eq_int, eq_bl, eq_str, isNon_non, isNon_int, isNon_tup, isNon_lst, isNon_dct, isNon_bl, isNon_str, bin_add, bin_sub, bin_mod, bin_fdiv, List.set_cons_zero, List.set_cons_succ, List.length_cons, List.length_nil, List.map_cons, List.map_nil, List.cons_append, List.nil_append, List.replicate_succ, List.replicate_zero, ↓reduceIte, Bool.false_eq_true, Int.reduceLT, Int.reducePow, Int.reduceNeg, Int.reduceLE, Int.reduceAdd, Int.reduceSub, Int.reduceMul, Int.reduceMod, Int.reduceDiv, Bool.not_true, Bool.not_false, Bool.true_beq, Bool.false_beq, Bool.and_true, Bool.true_and, Bool.and_false, Bool.false_and, Bool.or_true, Bool.true_or, Bool.or_false, Bool.false_or, Nat.reduceAdd, Nat.reduceSub, Nat.zero_add, Nat.sub_self, part_no, part_int, slc_lst, slc_tup, isNoE, isiV, isiOk, isiP, at_zero, at_1, at_2, at_3, d19, storyV, q0, rng_length, rn]
  rw [compL_rng (h := fun j => .int (seen n f m h j))]
  rotate_left
  · intro j hj
    simp -implicitDefEqProofs only [SR.fin_nx, SR.fin_rt, Ok_ok, ex_nx, R.bind_ok, R.st_ok, SR.next_nx, SR.next_rt, SR.next_bk, SR.next_ct, x_cnon, x_cbl, x_cint, x_cstr, x_var, x_bor, x_bin, x_neg, x_cmp, x_bop, x_bcons, x_not, x_ite, x_tup, x_lst, x_dct1, x_idx, x_slc, x_call, x_bi, x_isi, x_comp, x_nil, x_cons, x_c0, x_c1, x_seq, x_rng1, x_rng2, x_enu, x_keys, y_nil, y_cons, y_asg, y_setI, y_app, y_appPop, y_asgPop, y_ite, y_for, y_while, y_ret, y_retN, y_raise, y_pass, y_brk, y_cont, y_frz, y_exp, b_var, b_tup, b_lst, m_nil, m_cons, g_zero, g_succ, w_nil, w_cons, next_next, next_nil, forF_eq, boolK_nil, boolK_cons, bK_tt, bK_tf, bK_ft, bK_ff, bK_and, bK_or, iteV_bl, iteS_bl, notV_bl, negV_int, condV_bl, seqV_lst, seqV_tup, seqV_scr, enuV_lst, enuV_tup, keysV_dct, compF_eq, biP_1, biP_2, len_lst, len_tup, len_scr, int_int, int_bl, list_lst, list_tup, tuple_lst, tuple_tup, min_int, max_int, abs_int, c_eq, c_ne, c_lt, c_le, c_gt, c_ge, c_is, c_isnot, c_inn, c_notin, in_lst, in_tup, ix_lst, ix_tup, ix_scr, eq_int, eq_bl, eq_str, isNon_non, isNon_int, isNon_tup, isNon_lst, isNon_dct, isNon_bl, isNon_str, bin_add, bin_sub, bin_mod, bin_fdiv, List.set_cons_zero, List.set_cons_succ, List.length_cons, List.length_nil, List.map_cons, List.map_nil, List.cons_append, List.nil_append, List.replicate_succ, List.replicate_zero, ↓reduceIte, Bool.false_eq_true, Int.reduceLT, Int.reducePow, Int.reduceNeg, Int.reduceLE, Int.reduceAdd, Int.reduceSub, Int.reduceMul, Int.reduceMod, Int.reduceDiv, Bool.not_true, Bool.not_false, Bool.true_beq, Bool.false_beq, Bool.and_true, Bool.true_and, Bool.and_false, Bool.false_and, Bool.or_true, Bool.true_or, Bool.or_false, Bool.false_or, Nat.reduceAdd, Nat.reduceSub, Nat.zero_add, Nat.sub_self, part_no, part_int, slc_lst, slc_tup, isNoE, isiV, isiOk, isiP, at_zero, at_1, at_2, at_3, rm]
    rw [compL_rngF (p := fun a => decide ((j, a) ∈ come n f m h)) (h := fun a => .int a)]
    rotate_left
    · intro a _
      have := inP_node (ks := come n f m h) (q := (j, a))
      simp only [nodeV] at this
      simp -implicitDefEqProofs only [SR.fin_nx, SR.fin_rt, Ok_ok, ex_nx, R.bind_ok, R.st_ok, SR.next_nx, SR.next_rt, SR.next_bk, SR.next_ct, x_cnon, x_cbl, x_cint, x_cstr, x_var, x_bor, x_bin, x_neg, x_cmp, x_bop, x_bcons, x_not, x_ite, x_tup, x_lst, x_dct1, x_idx, x_slc, x_call, x_bi, x_isi, x_comp, x_nil, x_cons, x_c0, x_c1, x_seq, x_rng1, x_rng2, x_enu, x_keys, y_nil, y_cons, y_asg, y_setI, y_app, y_appPop, y_asgPop, y_ite, y_for, y_while, y_ret, y_retN, y_raise, y_pass, y_brk, y_cont, y_frz, y_exp, b_var, b_tup, b_lst, m_nil, m_cons, g_zero, g_succ, w_nil, w_cons, next_next, next_nil, forF_eq, boolK_nil, boolK_cons, bK_tt, bK_tf, bK_ft, bK_ff, bK_and, bK_or, iteV_bl, iteS_bl, notV_bl, negV_int, condV_bl, seqV_lst, seqV_tup, seqV_scr, enuV_lst, enuV_tup, keysV_dct, compF_eq, biP_1, biP_2, len_lst, len_tup, len_scr, int_int, int_bl, list_lst, list_tup, tuple_lst, tuple_tup, min_int, max_int, abs_int, c_eq, c_ne, c_lt, c_le, c_gt, c_ge, c_is, c_isnot, c_inn, c_notin, in_lst, in_tup, ix_lst, ix_tup, ix_scr, eq_int, eq_bl, eq_str, isNon_non, isNon_int, isNon_tup, isNon_lst, isNon_dct, isNon_bl, isNon_str, bin_add, bin_sub, bin_mod, bin_fdiv, List.set_cons_zero, List.set_cons_succ, List.length_cons, List.length_nil, List.map_cons, List.map_nil, List.cons_append, List.nil_append, List.replicate_succ, List.replicate_zero, ↓reduceIte, Bool.false_eq_true, Int.reduceLT, Int.reducePow, Int.reduceNeg, Int.reduceLE, Int.reduceAdd, Int.reduceSub, Int.reduceMul, Int.reduceMod, Int.reduceDiv, Bool.not_true, Bool.not_false, Bool.true_beq, Bool.false_beq, Bool.and_true, Bool.true_and, Bool.and_false, Bool.false_and, Bool.or_true, Bool.true_or, Bool.or_false, Bool.false_or, Nat.reduceAdd, Nat.reduceSub, Nat.zero_add, Nat.sub_self, part_no, part_int, slc_lst, slc_tup, isNoE, isiV, isiOk, isiP, at_zero, at_1, at_2, at_3, this, if_ok]
    have cat : binP .add (.lst [.int (-1)]) (.lst (((List.range (m + 1)).filter fun a => decide ((j, a) ∈ come n f m h)).map fun a : Nat => PV.int (a : Int))) = .ok (.lst (.int (-1) :: ((seenL (come n f m h) m j).map fun a : Nat => (a : Int)).map .int)) := by
      have hl := List.length_filter_le (fun a => decide ((j, a) ∈ come n f m h)) (List.range (m + 1))
      rw [List.length_range] at hl
      rw [bin_cat (by rw [List.length_map]; show 1 + _ ≤ _; omega), List.map_map]
      rfl
    simp -implicitDefEqProofs only [SR.fin_nx, SR.fin_rt, Ok_ok, ex_nx, R.bind_ok, R.st_ok, SR.next_nx, SR.next_rt, SR.next_bk, SR.next_ct, x_cnon, x_cbl, x_cint, x_cstr, x_var, x_bor, x_bin, x_neg, x_cmp, x_bop, x_bcons, x_not, x_ite, x_tup, x_lst, x_dct1, x_idx, x_slc, x_call, x_bi, x_isi, x_comp, x_nil, x_cons, x_c0, x_c1, x_seq, x_rng1, x_rng2, x_enu, x_keys, y_nil, y_cons, y_asg, y_setI, y_app, y_appPop, y_asgPop, y_ite, y_for, y_while, y_ret, y_retN, y_raise, y_pass, y_brk, y_cont, y_frz, y_exp, b_var, b_tup, b_lst, m_nil, m_cons, g_zero, g_succ, w_nil, w_cons, next_next, next_nil, forF_eq, boolK_nil, boolK_cons, bK_tt, bK_tf, bK_ft, bK_ff, bK_and, bK_or, iteV_bl, iteS_bl, notV_bl, negV_int, condV_bl, seqV_lst, seqV_tup, seqV_scr, enuV_lst, enuV_tup, keysV_dct, compF_eq, biP_1, biP_2, len_lst, len_tup, len_scr, int_int, int_bl, list_lst, list_tup, tuple_lst, tuple_tup, min_int, max_int, abs_int, c_eq, c_ne, c_lt, c_le, c_gt, c_ge, c_is, c_isnot, c_inn, c_notin, in_lst, in_tup, ix_lst, ix_tup, ix_scr, eq_int, eq_bl, eq_str, isNon_non, isNon_int, isNon_tup, isNon_lst, isNon_dct, isNon_bl, isNon_str, bin_add, bin_sub, bin_mod, bin_fdiv, List.set_cons_zero, List.set_cons_succ, List.length_cons, List.length_nil, List.map_cons, List.map_nil, List.cons_append, List.nil_append, List.replicate_succ, List.replicate_zero, ↓reduceIte, Bool.false_eq_true, Int.reduceLT, Int.reducePow, Int.reduceNeg, Int.reduceLE, Int.reduceAdd, Int.reduceSub, Int.reduceMul, Int.reduceMod, Int.reduceDiv, Bool.not_true, Bool.not_false, Bool.true_beq, Bool.false_beq, Bool.and_true, Bool.true_and, Bool.and_false, Bool.false_and, Bool.or_true, Bool.true_or, Bool.or_false, Bool.false_or, Nat.reduceAdd, Nat.reduceSub, Nat.zero_add, Nat.sub_self, part_no, part_int, slc_lst, slc_tup, isNoE, isiV, isiOk, isiP, at_zero, at_1, at_2, at_3, cat, maxl_ints]
    rfl
  simp -implicitDefEqProofs only [SR.fin_nx, SR.fin_rt, Ok_ok, ex_nx, R.bind_ok, R.st_ok, SR.next_nx, SR.next_rt, SR.next_bk, SR.next_ct, x_cnon, x_cbl, x_cint, x_cstr, x_var, x_bor, x_bin, x_neg, x_cmp, x_bop, x_bcons, x_not, x_ite, x_tup, x_lst, x_dct1, x_idx, x_slc, x_call, x_bi, x_isi, x_comp, x_nil, x_cons, x_c0, x_c1, x_seq, x_rng1, x_rng2, x_enu, x_keys, y_nil, y_cons, y_asg, y_setI, y_app, y_appPop, y_asgPop, y_ite, y_for, y_while, y_ret, y_retN, y_raise, y_pass, y_brk, y_cont, y_frz, y_exp, b_var, b_tup, b_lst, m_nil, m_cons, g_zero, g_succ, w_nil, w_cons, next_next, next_nil, forF_eq, boolK_nil, boolK_cons, bK_tt, bK_tf, bK_ft, bK_ff, bK_and, bK_or, iteV_bl, iteS_bl, notV_bl, negV_int, condV_bl, seqV_lst, seqV_tup, seqV_scr, enuV_lst, enuV_tup, keysV_dct, compF_eq, biP_1, biP_2, len_lst, len_tup, len_scr, int_int, int_bl, list_lst, list_tup, tuple_lst, tuple_tup, min_int, max_int, abs_int, c_eq, c_ne, c_lt, c_le, c_gt, c_ge, c_is, c_isnot, c_inn, c_notin, in_lst, in_tup, ix_lst, ix_tup, ix_scr, eq_int, eq_bl, eq_str, isNon_non, isNon_int, isNon_tup, isNon_lst, isNon_dct, isNon_bl, isNon_str, bin_add, bin_sub, bin_mod, bin_fdiv, List.set_cons_zero, List.set_cons_succ, List.length_cons, List.length_nil, List.map_cons, List.map_nil, List.cons_append, List.nil_append, List.replicate_succ, List.replicate_zero, ↓reduceIte, Bool.false_eq_true, Int.reduceLT, Int.reducePow, Int.reduceNeg, Int.reduceLE, Int.reduceAdd, Int.reduceSub, Int.reduceMul, Int.reduceMod, Int.reduceDiv, Bool.not_true, Bool.not_false, Bool.true_beq, Bool.false_beq, Bool.and_true, Bool.true_and, Bool.and_false, Bool.false_and, Bool.or_true, Bool.true_or, Bool.or_false, Bool.false_or, Nat.reduceAdd, Nat.reduceSub, Nat.zero_add, Nat.sub_self, part_no, part_int, slc_lst, slc_tup, isNoE, isiV, isiOk, isiP, at_zero, at_1, at_2, at_3, rn]
  rw [compL_rng (h := knownV B (seen n f m h))]
  rotate_left
  · intro j hj
    have sj : atP (rng n fun j => PV.int (seen n f m h j)) (j : Int) = .ok (.int (seen n f m h j)) := atP_rng hj
    have bj : atP (rng n fun j => PV.int (B j)) (j : Int) = .ok (.int (B j)) := atP_rng hj
    have w0 : ∀ x y : PV, atP [x, y] (if true = true then 1 else 0) = .ok y := fun x y => rfl
    simp -implicitDefEqProofs only [SR.fin_nx, SR.fin_rt, Ok_ok, ex_nx, R.bind_ok, R.st_ok, SR.next_nx, SR.next_rt, SR.next_bk, SR.next_ct, x_cnon, x_cbl, x_cint, x_cstr, x_var, x_bor, x_bin, x_neg, x_cmp, x_bop, x_bcons, x_not, x_ite, x_tup, x_lst, x_dct1, x_idx, x_slc, x_call, x_bi, x_isi, x_comp, x_nil, x_cons, x_c0, x_c1, x_seq, x_rng1, x_rng2, x_enu, x_keys, y_nil, y_cons, y_asg, y_setI, y_app, y_appPop, y_asgPop, y_ite, y_for, y_while, y_ret, y_retN, y_raise, y_pass, y_brk, y_cont, y_frz, y_exp, b_var, b_tup, b_lst, m_nil, m_cons, g_zero, g_succ, w_nil, w_cons, next_next, next_nil, forF_eq, boolK_nil, boolK_cons, bK_tt, bK_tf, bK_ft, bK_ff, bK_and, bK_or, iteV_bl, iteS_bl, notV_bl, negV_int, condV_bl, seqV_lst, seqV_tup, seqV_scr, enuV_lst, enuV_tup, keysV_dct, compF_eq, biP_1, biP_2, len_lst, len_tup, len_scr, int_int, int_bl, list_lst, list_tup, tuple_lst, tuple_tup, min_int, max_int, abs_int, c_eq, c_ne, c_lt, c_le, c_gt, c_ge, c_is, c_isnot, c_inn, c_notin, in_lst, in_tup, ix_lst, ix_tup, ix_scr, eq_int, eq_bl, eq_str, isNon_non, isNon_int, isNon_tup, isNon_lst, isNon_dct, isNon_bl, isNon_str, bin_add, bin_sub, bin_mod, bin_fdiv, List.set_cons_zero, List.set_cons_succ, List.length_cons, List.length_nil, List.map_cons, List.map_nil, List.cons_append, List.nil_append, List.replicate_succ, List.replicate_zero, ↓reduceIte, Bool.false_eq_true, Int.reduceLT, Int.reducePow, Int.reduceNeg, Int.reduceLE, Int.reduceAdd, Int.reduceSub, Int.reduceMul, Int.reduceMod, Int.reduceDiv, Bool.not_true, Bool.not_false, Bool.true_beq, Bool.false_beq, Bool.and_true, Bool.true_and, Bool.and_false, Bool.false_and, Bool.or_true, Bool.true_or, Bool.or_false, Bool.false_or, Nat.reduceAdd, Nat.reduceSub, Nat.zero_add, Nat.sub_self, part_no, part_int, slc_lst, slc_tup, isNoE, isiV, isiOk, isiP, at_zero, at_1, at_2, at_3, q0, sj, bj]
    unfold knownV
    cases decide (0 ≤ seen n f m h j) <;> rfl
  have r2 : rng2V (.int 1) (.int ((m : Int) + 1)) = .ok (rng m fun i => .int ((i + 1 : Nat) : Int)) := by
    have h2 := rng2_nat (m := 1) (n := m + 1) (by omega) (by omega)
    rw [show ((m + 1 : Nat) : Int) = (m : Int) + 1 by omega] at h2
    refine h2.trans (congrArg R.ok ?_)
    rw [Nat.add_sub_cancel]
    exact rng_congr fun i _ => by rw [Nat.add_comm]
  simp -implicitDefEqProofs only [SR.fin_nx, SR.fin_rt, Ok_ok, ex_nx, R.bind_ok, R.st_ok, SR.next_nx, SR.next_rt, SR.next_bk, SR.next_ct, x_cnon, x_cbl, x_cint, x_cstr, x_var, x_bor, x_bin, x_neg, x_cmp, x_bop, x_bcons, x_not, x_ite, x_tup, x_lst, x_dct1, x_idx, x_slc, x_call, x_bi, x_isi, x_comp, x_nil, x_cons, x_c0, x_c1, x_seq, x_rng1, x_rng2, x_enu, x_keys, y_nil, y_cons, y_asg, y_setI, y_app, y_appPop, y_asgPop, y_ite, y_for, y_while, y_ret, y_retN, y_raise, y_pass, y_brk, y_cont, y_frz, y_exp, b_var, b_tup, b_lst, m_nil, m_cons, g_zero, g_succ, w_nil, w_cons, next_next, next_nil, forF_eq, boolK_nil, boolK_cons, bK_tt, bK_tf, bK_ft, bK_ff, bK_and, bK_or, iteV_bl, iteS_bl, notV_bl, negV_int, condV_bl, seqV_lst, seqV_tup, seqV_scr, enuV_lst, enuV_tup, keysV_dct, compF_eq, biP_1, biP_2, len_lst, len_tup, len_scr, int_int, int_bl, list_lst, list_tup, tuple_lst, tuple_tup, min_int, max_int, abs_int, c_eq, c_ne, c_lt, c_le, c_gt, c_ge, c_is, c_isnot, c_inn, c_notin, in_lst, in_tup, ix_lst, ix_tup, ix_scr, eq_int, eq_bl, eq_str, isNon_non, isNon_int, isNon_tup, isNon_lst, isNon_dct, isNon_bl, isNon_str, bin_add, bin_sub, bin_mod, bin_fdiv, List.set_cons_zero, List.set_cons_succ, List.length_cons, List.length_nil, List.map_cons, List.map_nil, List.cons_append, List.nil_append, List.replicate_succ, List.replicate_zero, ↓reduceIte, Bool.false_eq_true, Int.reduceLT, Int.reducePow, Int.reduceNeg, Int.reduceLE, Int.reduceAdd, Int.reduceSub, Int.reduceMul, Int.reduceMod, Int.reduceDiv, Bool.not_true, Bool.not_false, Bool.true_beq, Bool.false_beq, Bool.and_true, Bool.true_and, Bool.and_false, Bool.false_and, Bool.or_true, Bool.true_or, Bool.or_false, Bool.false_or, Nat.reduceAdd, Nat.reduceSub, Nat.zero_add, Nat.sub_self, part_no, part_int, slc_lst, slc_tup, isNoE, isiV, isiOk, isiP, at_zero, at_1, at_2, at_3, rn]
  refine forR_ok (fun i e => ∃ y8 y9 y10, e = [some (storyV n B f), some (tableV n L (heardV n f)), some (dctV (come n f m h)), some (.int m), some (.int n), some (rowV n fun j => .int (seen n f m h j)), some (rowV n (knownV B (seen n f m h))), some (rowV i fun j => oP (miss n f m h j)), y8, y9, y10, none]) ⟨_, _, _, rfl⟩ (fun j e hj he => ?_) (fun e he => ?_)
  · obtain ⟨y8, y9, y10, rfl⟩ := he
    simp -implicitDefEqProofs only [SR.fin_nx, SR.fin_rt, Ok_ok, ex_nx, R.bind_ok, R.st_ok, SR.next_nx, SR.next_rt, SR.next_bk, SR.next_ct, x_cnon, x_cbl, x_cint, x_cstr, x_var, x_bor, x_bin, x_neg, x_cmp, x_bop, x_bcons, x_not, x_ite, x_tup, x_lst, x_dct1, x_idx, x_slc, x_call, x_bi, x_isi, x_comp, x_nil, x_cons, x_c0, x_c1, x_seq, x_rng1, x_rng2, x_enu, x_keys, y_nil, y_cons, y_asg, y_setI, y_app, y_appPop, y_asgPop, y_ite, y_for, y_while, y_ret, y_retN, y_raise, y_pass, y_brk, y_cont, y_frz, y_exp, b_var, b_tup, b_lst, m_nil, m_cons, g_zero, g_succ, w_nil, w_cons, next_next, next_nil, forF_eq, boolK_nil, boolK_cons, bK_tt, bK_tf, bK_ft, bK_ff, bK_and, bK_or, iteV_bl, iteS_bl, notV_bl, negV_int, condV_bl, seqV_lst, seqV_tup, seqV_scr, enuV_lst, enuV_tup, keysV_dct, compF_eq, biP_1, biP_2, len_lst, len_tup, len_scr, int_int, int_bl, list_lst, list_tup, tuple_lst, tuple_tup, min_int, max_int, abs_int, c_eq, c_ne, c_lt, c_le, c_gt, c_ge, c_is, c_isnot, c_inn, c_notin, in_lst, in_tup, ix_lst, ix_tup, ix_scr, eq_int, eq_bl, eq_str, isNon_non, isNon_int, isNon_tup, isNon_lst, isNon_dct, isNon_bl, isNon_str, bin_add, bin_sub, bin_mod, bin_fdiv, List.set_cons_zero, List.set_cons_succ, List.length_cons, List.length_nil, List.map_cons, List.map_nil, List.cons_append, List.nil_append, List.replicate_succ, List.replicate_zero, ↓reduceIte, Bool.false_eq_true, Int.reduceLT, Int.reducePow, Int.reduceNeg, Int.reduceLE, Int.reduceAdd, Int.reduceSub, Int.reduceMul, Int.reduceMod, Int.reduceDiv, Bool.not_true, Bool.not_false, Bool.true_beq, Bool.false_beq, Bool.and_true, Bool.true_and, Bool.and_false, Bool.false_and, Bool.or_true, Bool.true_or, Bool.or_false, Bool.false_or, Nat.reduceAdd, Nat.reduceSub, Nat.zero_add, Nat.sub_self, part_no, part_int, slc_lst, slc_tup, isNoE, isiV, isiOk, isiP, at_zero, at_1, at_2, at_3, r2]
    refine forR_ex (fun i e => ∃ y10, e = [some (storyV n B f), some (tableV n L (heardV n f)), some (dctV (come n f m h)), some (.int m), some (.int n), some (rowV n fun j => .int (seen n f m h j)), some (rowV n (knownV B (seen n f m h))), some (rowV j fun j => oP (miss n f m h j)), some (.int (j : Int)), some (oP (firstA (lackC n f (seen n f m h) j) i)), y10, none]) ⟨_, rfl⟩ (fun a e hga he => ?_) (fun e he => ?_)
    · obtain ⟨y10, rfl⟩ := he
      cases hf : firstA (lackC n f (seen n f m h) j) a with
      | some x =>
        have e1 : firstA (lackC n f (seen n f m h) j) (a + 1) = some x := by unfold firstA; rw [hf]
        simp -implicitDefEqProofs only [SR.fin_nx, SR.fin_rt, Ok_ok, ex_nx, R.bind_ok, R.st_ok, SR.next_nx, SR.next_rt, SR.next_bk, SR.next_ct, x_cnon, x_cbl, x_cint, x_cstr, x_var, x_bor, x_bin, x_neg, x_cmp, x_bop, x_bcons, x_not, x_ite, x_tup, x_lst, x_dct1, x_idx, x_slc, x_call, x_bi, x_isi, x_comp, x_nil, x_cons, x_c0, x_c1, x_seq, x_rng1, x_rng2, x_enu, x_keys, y_nil, y_cons, y_asg, y_setI, y_app, y_appPop, y_asgPop, y_ite, y_for, y_while, y_ret, y_retN, y_raise, y_pass, y_brk, y_cont, y_frz, y_exp, b_var, b_tup, b_lst, m_nil, m_cons, g_zero, g_succ, w_nil, w_cons, next_next, next_nil, forF_eq, boolK_nil, boolK_cons, bK_tt, bK_tf, bK_ft, bK_ff, bK_and, bK_or, iteV_bl, iteS_bl, notV_bl, negV_int, condV_bl, seqV_lst, seqV_tup, seqV_scr, enuV_lst, enuV_tup, keysV_dct, compF_eq, biP_1, biP_2, len_lst, len_tup, len_scr, int_int, int_bl, list_lst, list_tup, tuple_lst, tuple_tup, min_int, max_int, abs_int, c_eq, c_ne, c_lt, c_le, c_gt, c_ge, c_is, c_isnot, c_inn, c_notin, in_lst, in_tup, ix_lst, ix_tup, ix_scr, eq_int, eq_bl, eq_str, isNon_non, isNon_int, isNon_tup, isNon_lst, isNon_dct, isNon_bl, isNon_str, bin_add, bin_sub, bin_mod, bin_fdiv, List.set_cons_zero, List.set_cons_succ, List.length_cons, List.length_nil, List.map_cons, List.map_nil, List.cons_append, List.nil_append, List.replicate_succ, List.replicate_zero, ↓reduceIte, Bool.false_eq_true, Int.reduceLT, Int.reducePow, Int.reduceNeg, Int.reduceLE, Int.reduceAdd, Int.reduceSub, Int.reduceMul, Int.reduceMod, Int.reduceDiv, Bool.not_true, Bool.not_false, Bool.true_beq, Bool.false_beq, Bool.and_true, Bool.true_and, Bool.and_false, Bool.false_and, Bool.or_true, Bool.true_or, Bool.or_false, Bool.false_or, Nat.reduceAdd, Nat.reduceSub, Nat.zero_add, Nat.sub_self, part_no, part_int, slc_lst, slc_tup, isNoE, isiV, isiOk, isiP, at_zero, at_1, at_2, at_3, oP, e1]
        exact ⟨_, rfl⟩
      | none =>
        have e1 : firstA (lackC n f (seen n f m h) j) (a + 1) = if lackC n f (seen n f m h) j (a + 1) = true then some ((a + 1 : Nat) : Int) else none := by
          show (match firstA (lackC n f (seen n f m h) j) a with
            | some x => some x
            | none => _) = _
          rw [hf]
        rw [e1]
        simp -implicitDefEqProofs only [SR.fin_nx, SR.fin_rt, Ok_ok, ex_nx, R.bind_ok, R.st_ok, SR.next_nx, SR.next_rt, SR.next_bk, SR.next_ct, x_cnon, x_cbl, x_cint, x_cstr, x_var, x_bor, x_bin, x_neg, x_cmp, x_bop, x_bcons, x_not, x_ite, x_tup, x_lst, x_dct1, x_idx, x_slc, x_call, x_bi, x_isi, x_comp, x_nil, x_cons, x_c0, x_c1, x_seq, x_rng1, x_rng2, x_enu, x_keys, y_nil, y_cons, y_asg, y_setI, y_app, y_appPop, y_asgPop, y_ite, y_for, y_while, y_ret, y_retN, y_raise, y_pass, y_brk, y_cont, y_frz, y_exp, b_var, b_tup, b_lst, m_nil, m_cons, g_zero, g_succ, w_nil, w_cons, next_next, next_nil, forF_eq, boolK_nil, boolK_cons, bK_tt, bK_tf, bK_ft, bK_ff, bK_and, bK_or, iteV_bl, iteS_bl, notV_bl, negV_int, condV_bl, seqV_lst, seqV_tup, seqV_scr, enuV_lst, enuV_tup, keysV_dct, compF_eq, biP_1, biP_2, len_lst, len_tup, len_scr, int_int, int_bl, list_lst, list_tup, tuple_lst, tuple_tup, min_int, max_int, abs_int, c_eq, c_ne, c_lt, c_le, c_gt, c_ge, c_is, c_isnot, c_inn, c_notin, in_lst, in_tup, ix_lst, ix_tup, ix_scr, eq_int, eq_bl, eq_str, isNon_non, isNon_int, isNon_tup, isNon_lst, isNon_dct, isNon_bl, isNon_str, bin_add, bin_sub, bin_mod, bin_fdiv, List.set_cons_zero, List.set_cons_succ, List.length_cons, List.length_nil, List.map_cons, List.map_nil, List.cons_append, List.nil_append, List.replicate_succ, List.replicate_zero, ↓reduceIte, Bool.false_eq_true, Int.reduceLT, Int.reducePow, Int.reduceNeg, Int.reduceLE, Int.reduceAdd, Int.reduceSub, Int.reduceMul, Int.reduceMod, Int.reduceDiv, Bool.not_true, Bool.not_false, Bool.true_beq, Bool.false_beq, Bool.and_true, Bool.true_and, Bool.and_false, Bool.false_and, Bool.or_true, Bool.true_or, Bool.or_false, Bool.false_or, Nat.reduceAdd, Nat.reduceSub, Nat.zero_add, Nat.sub_self, part_no, part_int, slc_lst, slc_tup, isNoE, isiV, isiOk, isiP, at_zero, at_1, at_2, at_3, oP, rn]
        rw [compL_rngF (p := lackB n f (seen n f m h) j (a + 1)) (h := fun k => .int k)]
        rotate_left
        · intro k hk
          have sk : idxP (rowV n fun j => PV.int (seen n f m h j)) (.int (k : Int)) = .ok (.int (seen n f m h k)) := row_at (g := fun j => PV.int (seen n f m h j)) hk
          unfold lackB
          cases hd : decide (((a + 1 : Nat) : Int) ≤ seen n f m h k) with
          | false => simp -implicitDefEqProofs only [SR.fin_nx, SR.fin_rt, Ok_ok, ex_nx, R.bind_ok, R.st_ok, SR.next_nx, SR.next_rt, SR.next_bk, SR.next_ct, x_cnon, x_cbl, x_cint, x_cstr, x_var, x_bor, x_bin, x_neg, x_cmp, x_bop, x_bcons, x_not, x_ite, x_tup, x_lst, x_dct1, x_idx, x_slc, x_call, x_bi, x_isi, x_comp, x_nil, x_cons, x_c0, x_c1, x_seq, x_rng1, x_rng2, x_enu, x_keys, y_nil, y_cons, y_asg, y_setI, y_app, y_appPop, y_asgPop, y_ite, y_for, y_while, y_ret, y_retN, y_raise, y_pass, y_brk, y_cont, y_frz, y_exp, b_var, b_tup, b_lst, m_nil, m_cons, g_zero, g_succ, w_nil, w_cons, next_next, next_nil, forF_eq, boolK_nil, boolK_cons, bK_tt, bK_tf, bK_ft, bK_ff, bK_and, bK_or, iteV_bl, iteS_bl, notV_bl, negV_int, condV_bl, seqV_lst, seqV_tup, seqV_scr, enuV_lst, enuV_tup, keysV_dct, compF_eq, biP_1, biP_2, len_lst, len_tup, len_scr, int_int, int_bl, list_lst, list_tup, tuple_lst, tuple_tup, min_int, max_int, abs_int, c_eq, c_ne, c_lt, c_le, c_gt, c_ge, c_is, c_isnot, c_inn, c_notin, in_lst, in_tup, ix_lst, ix_tup, ix_scr, eq_int, eq_bl, eq_str, isNon_non, isNon_int, isNon_tup, isNon_lst, isNon_dct, isNon_bl, isNon_str, bin_add, bin_sub, bin_mod, bin_fdiv, List.set_cons_zero, List.set_cons_succ, List.length_cons, List.length_nil, List.map_cons, List.map_nil, List.cons_append, List.nil_append, List.replicate_succ, List.replicate_zero, ↓reduceIte, Bool.false_eq_true, Int.reduceLT, Int.reducePow, Int.reduceNeg, Int.reduceLE, Int.reduceAdd, Int.reduceSub, Int.reduceMul, Int.reduceMod, Int.reduceDiv, Bool.not_true, Bool.not_false, Bool.true_beq, Bool.false_beq, Bool.and_true, Bool.true_and, Bool.and_false, Bool.false_and, Bool.or_true, Bool.true_or, Bool.or_false, Bool.false_or, Nat.reduceAdd, Nat.reduceSub, Nat.zero_add, Nat.sub_self, part_no, part_int, slc_lst, slc_tup, isNoE, isiV, isiOk, isiP, at_zero, at_1, at_2, at_3, sk, hd, if_ok]
          | true =>
            have hd' := of_decide_eq_true hd
            have hal : aliveB f (a + 1) k = true := by
              rcases seenK_in (come n f m h) m k with z | ⟨a', z1, z2, z3⟩
              · have : seen n f m h k = -1 := z
                omega
              · have : seen n f m h k = (a' : Int) := z3
                exact alive_le (come_ok hh ha z2).2.2 (by omega)
            have hv : idxP (rowV n (heardV n f (a + 1))) (.int (k : Int)) = .ok (.lst ((heardL n f (a + 1) k).map fun j : Nat => PV.int (j : Int))) := by
              rw [row_at hk]
              unfold heardV
              rw [hal]; rfl
            simp -implicitDefEqProofs only [SR.fin_nx, SR.fin_rt, Ok_ok, ex_nx, R.bind_ok, R.st_ok, SR.next_nx, SR.next_rt, SR.next_bk, SR.next_ct, x_cnon, x_cbl, x_cint, x_cstr, x_var, x_bor, x_bin, x_neg, x_cmp, x_bop, x_bcons, x_not, x_ite, x_tup, x_lst, x_dct1, x_idx, x_slc, x_call, x_bi, x_isi, x_comp, x_nil, x_cons, x_c0, x_c1, x_seq, x_rng1, x_rng2, x_enu, x_keys, y_nil, y_cons, y_asg, y_setI, y_app, y_appPop, y_asgPop, y_ite, y_for, y_while, y_ret, y_retN, y_raise, y_pass, y_brk, y_cont, y_frz, y_exp, b_var, b_tup, b_lst, m_nil, m_cons, g_zero, g_succ, w_nil, w_cons, next_next, next_nil, forF_eq, boolK_nil, boolK_cons, bK_tt, bK_tf, bK_ft, bK_ff, bK_and, bK_or, iteV_bl, iteS_bl, notV_bl, negV_int, condV_bl, seqV_lst, seqV_tup, seqV_scr, enuV_lst, enuV_tup, keysV_dct, compF_eq, biP_1, biP_2, len_lst, len_tup, len_scr, int_int, int_bl, list_lst, list_tup, tuple_lst, tuple_tup, min_int, max_int, abs_int, c_eq, c_ne, c_lt, c_le, c_gt, c_ge, c_is, c_isnot, c_inn, c_notin, in_lst, in_tup, ix_lst, ix_tup, ix_scr, eq_int, eq_bl, eq_str, isNon_non, isNon_int, isNon_tup, isNon_lst, isNon_dct, isNon_bl, isNon_str, bin_add, bin_sub, bin_mod, bin_fdiv, List.set_cons_zero, List.set_cons_succ, List.length_cons, List.length_nil, List.map_cons, List.map_nil, List.cons_append, List.nil_append, List.replicate_succ, List.replicate_zero, ↓reduceIte, Bool.false_eq_true, Int.reduceLT, Int.reducePow, Int.reduceNeg, Int.reduceLE, Int.reduceAdd, Int.reduceSub, Int.reduceMul, Int.reduceMod, Int.reduceDiv, Bool.not_true, Bool.not_false, Bool.true_beq, Bool.false_beq, Bool.and_true, Bool.true_and, Bool.and_false, Bool.false_and, Bool.or_true, Bool.true_or, Bool.or_false, Bool.false_or, Nat.reduceAdd, Nat.reduceSub, Nat.zero_add, Nat.sub_self, part_no, part_int, slc_lst, slc_tup, isNoE, isiV, isiOk, isiP, at_zero, at_1, at_2, at_3, sk, hd, Tm (a + 1) (by omega), hv, inSeq_nats, if_ok]
        have hlen : decide (0 < ((((List.range n).filter (lackB n f (seen n f m h) j (a + 1))).map fun k : Nat => PV.int (k : Int)).length : Int)) = lackC n f (seen n f m h) j (a + 1) := by
          rw [List.length_map]
          unfold lackC
          rw [Bool.eq_iff_iff, decide_eq_true_eq, List.any_eq_true]
          constructor
          · intro hp
            have : 0 < ((List.range n).filter (lackB n f (seen n f m h) j (a + 1))).length := by omega
            obtain ⟨x, hx⟩ := List.exists_mem_of_length_pos this
            obtain ⟨h1, h2⟩ := List.mem_filter.mp hx
            exact ⟨x, h1, h2⟩
          · rintro ⟨x, h1, h2⟩
            have := List.length_pos_of_mem (List.mem_filter.mpr ⟨h1, h2⟩)
            omega
        simp -implicitDefEqProofs only [SR.fin_nx, SR.fin_rt, Ok_ok, ex_nx, R.bind_ok, R.st_ok, SR.next_nx, SR.next_rt, SR.next_bk, SR.next_ct, x_cnon, x_cbl, x_cint, x_cstr, x_var, x_bor, x_bin, x_neg, x_cmp, x_bop, x_bcons, x_not, x_ite, x_tup, x_lst, x_dct1, x_idx, x_slc, x_call, x_bi, x_isi, x_comp, x_nil, x_cons, x_c0, x_c1, x_seq, x_rng1, x_rng2, x_enu, x_keys, y_nil, y_cons, y_asg, y_setI, y_app, y_appPop, y_asgPop, y_ite, y_for, y_while, y_ret, y_retN, y_raise, y_pass, y_brk, y_cont, y_frz, y_exp, b_var, b_tup, b_lst, m_nil, m_cons, g_zero, g_succ, w_nil, w_cons, next_next, next_nil, forF_eq, boolK_nil, boolK_cons, bK_tt, bK_tf, bK_ft, bK_ff, bK_and, bK_or, iteV_bl, iteS_bl, notV_bl, negV_int, condV_bl, seqV_lst, seqV_tup, seqV_scr, enuV_lst, enuV_tup, keysV_dct, compF_eq, biP_1, biP_2, len_lst, len_tup, len_scr, int_int, int_bl, list_lst, list_tup, tuple_lst, tuple_tup, min_int, max_int, abs_int, c_eq, c_ne, c_lt, c_le, c_gt, c_ge, c_is, c_isnot, c_inn, c_notin, in_lst, in_tup, ix_lst, ix_tup, ix_scr, eq_int, eq_bl, eq_str, isNon_non, isNon_int, isNon_tup, isNon_lst, isNon_dct, isNon_bl, isNon_str, bin_add, bin_sub, bin_mod, bin_fdiv, List.set_cons_zero, List.set_cons_succ, List.length_cons, List.length_nil, List.map_cons, List.map_nil, List.cons_append, List.nil_append, List.replicate_succ, List.replicate_zero, ↓reduceIte, Bool.false_eq_true, Int.reduceLT, Int.reducePow, Int.reduceNeg, Int.reduceLE, Int.reduceAdd, Int.reduceSub, Int.reduceMul, Int.reduceMod, Int.reduceDiv, Bool.not_true, Bool.not_false, Bool.true_beq, Bool.false_beq, Bool.and_true, Bool.true_and, Bool.and_false, Bool.false_and, Bool.or_true, Bool.true_or, Bool.or_false, Bool.false_or, Nat.reduceAdd, Nat.reduceSub, Nat.zero_add, Nat.sub_self, part_no, part_int, slc_lst, slc_tup, isNoE, isiV, isiOk, isiP, at_zero, at_1, at_2, at_3, hlen]
        cases lackC n f (seen n f m h) j (a + 1) <;> (simp -implicitDefEqProofs only [SR.fin_nx, SR.fin_rt, Ok_ok, ex_nx, R.bind_ok, R.st_ok, SR.next_nx, SR.next_rt, SR.next_bk, SR.next_ct, x_cnon, x_cbl, x_cint, x_cstr, x_var, x_bor, x_bin, x_neg, x_cmp, x_bop, x_bcons, x_not, x_ite, x_tup, x_lst, x_dct1, x_idx, x_slc, x_call, x_bi, x_isi, x_comp, x_nil, x_cons, x_c0, x_c1, x_seq, x_rng1, x_rng2, x_enu, x_keys, y_nil, y_cons, y_asg, y_setI, y_app, y_appPop, y_asgPop, y_ite, y_for, y_while, y_ret, y_retN, y_raise, y_pass, y_brk, y_cont, y_frz, y_exp, b_var, b_tup, b_lst, m_nil, m_cons, g_zero, g_succ, w_nil, w_cons, next_next, next_nil, forF_eq, boolK_nil, boolK_cons, bK_tt, bK_tf, bK_ft, bK_ff, bK_and, bK_or, iteV_bl, iteS_bl, notV_bl, negV_int, condV_bl, seqV_lst, seqV_tup, seqV_scr, enuV_lst, enuV_tup, keysV_dct, compF_eq, biP_1, biP_2, len_lst, len_tup, len_scr, int_int, int_bl, list_lst, list_tup, tuple_lst, tuple_tup, min_int, max_int, abs_int, c_eq, c_ne, c_lt, c_le, c_gt, c_ge, c_is, c_isnot, c_inn, c_notin, in_lst, in_tup, ix_lst, ix_tup, ix_scr, eq_int, eq_bl, eq_str, isNon_non, isNon_int, isNon_tup, isNon_lst, isNon_dct, isNon_bl, isNon_str, bin_add, bin_sub, bin_mod, bin_fdiv, List.set_cons_zero, List.set_cons_succ, List.length_cons, List.length_nil, List.map_cons, List.map_nil, List.cons_append, List.nil_append, List.replicate_succ, List.replicate_zero, ↓reduceIte, Bool.false_eq_true, Int.reduceLT, Int.reducePow, Int.reduceNeg, Int.reduceLE, Int.reduceAdd, Int.reduceSub, Int.reduceMul, Int.reduceMod, Int.reduceDiv, Bool.not_true, Bool.not_false, Bool.true_beq, Bool.false_beq, Bool.and_true, Bool.true_and, Bool.and_false, Bool.false_and, Bool.or_true, Bool.true_or, Bool.or_false, Bool.false_or, Nat.reduceAdd, Nat.reduceSub, Nat.zero_add, Nat.sub_self, part_no, part_int, slc_lst, slc_tup, isNoE, isiV, isiOk, isiP, at_zero, at_1, at_2, at_3]; exact ⟨_, rfl⟩)
    · obtain ⟨y10, rfl⟩ := he
      have ap := app_row (n := j) (g := fun j => oP (miss n f m h j)) (by omega)
      have ap' : appP (rowV j fun j => oP (miss n f m h j)) (oP (firstA (lackC n f (seen n f m h) j) m)) = _ := ap
      simp -implicitDefEqProofs only [SR.fin_nx, SR.fin_rt, Ok_ok, ex_nx, R.bind_ok, R.st_ok, SR.next_nx, SR.next_rt, SR.next_bk, SR.next_ct, x_cnon, x_cbl, x_cint, x_cstr, x_var, x_bor, x_bin, x_neg, x_cmp, x_bop, x_bcons, x_not, x_ite, x_tup, x_lst, x_dct1, x_idx, x_slc, x_call, x_bi, x_isi, x_comp, x_nil, x_cons, x_c0, x_c1, x_seq, x_rng1, x_rng2, x_enu, x_keys, y_nil, y_cons, y_asg, y_setI, y_app, y_appPop, y_asgPop, y_ite, y_for, y_while, y_ret, y_retN, y_raise, y_pass, y_brk, y_cont, y_frz, y_exp, b_var, b_tup, b_lst, m_nil, m_cons, g_zero, g_succ, w_nil, w_cons, next_next, next_nil, forF_eq, boolK_nil, boolK_cons, bK_tt, bK_tf, bK_ft, bK_ff, bK_and, bK_or, iteV_bl, iteS_bl, notV_bl, negV_int, condV_bl, seqV_lst, seqV_tup, seqV_scr, enuV_lst, enuV_tup, keysV_dct, compF_eq, biP_1, biP_2, len_lst, len_tup, len_scr, int_int, int_bl, list_lst, list_tup, tuple_lst, tuple_tup, min_int, max_int, abs_int, c_eq, c_ne, c_lt, c_le, c_gt, c_ge, c_is, c_isnot, c_inn, c_notin, in_lst, in_tup, ix_lst, ix_tup, ix_scr, eq_int, eq_bl, eq_str, isNon_non, isNon_int, isNon_tup, isNon_lst, isNon_dct, isNon_bl, isNon_str, bin_add, bin_sub, bin_mod, bin_fdiv, List.set_cons_zero, List.set_cons_succ, List.length_cons, List.length_nil, List.map_cons, List.map_nil, List.cons_append, List.nil_append, List.replicate_succ, List.replicate_zero, ↓reduceIte, Bool.false_eq_true, Int.reduceLT, Int.reducePow, Int.reduceNeg, Int.reduceLE, Int.reduceAdd, Int.reduceSub, Int.reduceMul, Int.reduceMod, Int.reduceDiv, Bool.not_true, Bool.not_false, Bool.true_beq, Bool.false_beq, Bool.and_true, Bool.true_and, Bool.and_false, Bool.false_and, Bool.or_true, Bool.true_or, Bool.or_false, Bool.false_or, Nat.reduceAdd, Nat.reduceSub, Nat.zero_add, Nat.sub_self, part_no, part_int, slc_lst, slc_tup, isNoE, isiV, isiOk, isiP, at_zero, at_1, at_2, at_3, ap']
      exact ⟨_, _, _, rfl⟩
  · obtain ⟨y8, y9, y10, rfl⟩ := he
    simp -implicitDefEqProofs only [SR.fin_nx, SR.fin_rt, Ok_ok, ex_nx, R.bind_ok, R.st_ok, SR.next_nx, SR.next_rt, SR.next_bk, SR.next_ct, x_cnon, x_cbl, x_cint, x_cstr, x_var, x_bor, x_bin, x_neg, x_cmp, x_bop, x_bcons, x_not, x_ite, x_tup, x_lst, x_dct1, x_idx, x_slc, x_call, x_bi, x_isi, x_comp, x_nil, x_cons, x_c0, x_c1, x_seq, x_rng1, x_rng2, x_enu, x_keys, y_nil, y_cons, y_asg, y_setI, y_app, y_appPop, y_asgPop, y_ite, y_for, y_while, y_ret, y_retN, y_raise, y_pass, y_brk, y_cont, y_frz, y_exp, b_var, b_tup, b_lst, m_nil, m_cons, g_zero, g_succ, w_nil, w_cons, next_next, next_nil, forF_eq, boolK_nil, boolK_cons, bK_tt, bK_tf, bK_ft, bK_ff, bK_and, bK_or, iteV_bl, iteS_bl, notV_bl, negV_int, condV_bl, seqV_lst, seqV_tup, seqV_scr, enuV_lst, enuV_tup, keysV_dct, compF_eq, biP_1, biP_2, len_lst, len_tup, len_scr, int_int, int_bl, list_lst, list_tup, tuple_lst, tuple_tup, min_int, max_int, abs_int, c_eq, c_ne, c_lt, c_le, c_gt, c_ge, c_is, c_isnot, c_inn, c_notin, in_lst, in_tup, ix_lst, ix_tup, ix_scr, eq_int, eq_bl, eq_str, isNon_non, isNon_int, isNon_tup, isNon_lst, isNon_dct, isNon_bl, isNon_str, bin_add, bin_sub, bin_mod, bin_fdiv, List.set_cons_zero, List.set_cons_succ, List.length_cons, List.length_nil, List.map_cons, List.map_nil, List.cons_append, List.nil_append, List.replicate_succ, List.replicate_zero, ↓reduceIte, Bool.false_eq_true, Int.reduceLT, Int.reducePow, Int.reduceNeg, Int.reduceLE, Int.reduceAdd, Int.reduceSub, Int.reduceMul, Int.reduceMod, Int.reduceDiv, Bool.not_true, Bool.not_false, Bool.true_beq, Bool.false_beq, Bool.and_true, Bool.true_and, Bool.and_false, Bool.false_and, Bool.or_true, Bool.true_or, Bool.or_false, Bool.false_or, Nat.reduceAdd, Nat.reduceSub, Nat.zero_add, Nat.sub_self, part_no, part_int, slc_lst, slc_tup, isNoE, isiV, isiOk, isiP, at_zero, at_1, at_2, at_3]
    rfl
end
end K86


namespace K86
open PySem PY
/-! ### the recurrence -/
def IsMin (P : Int → Prop) (o : Option Int) : Prop := (∀ a, o = some a → P a ∧ ∀ b, P b → a ≤ b) ∧ (o = none → ∀ b, ¬ P b)
theorem IsMin.uniq {P : Int → Prop} {o o' : Option Int} (h : IsMin P o) (h' : IsMin P o') : o = o' := by
  cases o with
  | none =>
    cases o' with
    | none => rfl
    | some b => exact absurd (h'.1 b rfl).1 (h.2 rfl b)
  | some a =>
    cases o' with
    | none => exact absurd (h.1 a rfl).1 (h'.2 rfl a)
    | some b =>
      have h1 := (h.1 a rfl).2 b (h'.1 b rfl).1
      have h2 := (h'.1 b rfl).2 a (h.1 a rfl).1
      have : a = b := by omega
      rw [this]
theorem IsMin.congr {P Q : Int → Prop} {o : Option Int} (h : IsMin P o) (e : ∀ b, P b ↔ Q b) : IsMin Q o :=
  ⟨fun a ha => ⟨(e a).mp (h.1 a ha).1, fun b hb => (h.1 a ha).2 b ((e b).mpr hb)⟩, fun hn b hb => h.2 hn b ((e b).mpr hb)⟩
theorem IsMin.one (a : Int) : IsMin (fun b => b = a) (some a) := ⟨fun b hb => by cases hb; exact ⟨rfl, fun c hc => by omega⟩, fun h => by cases h⟩
theorem IsMin.lesser {P Q : Int → Prop} {x y : Option Int} (h : IsMin P x) (h' : IsMin Q y) : IsMin (fun b => P b ∨ Q b) (lesserO x y) := by
  cases x with
  | none => exact h'.congr fun b => ⟨.inr, fun z => z.resolve_left (h.2 rfl b)⟩
  | some a =>
    cases y with
    | none => exact h.congr fun b => ⟨.inl, fun z => z.resolve_right (h'.2 rfl b)⟩
    | some b =>
      obtain ⟨h1, h2⟩ := h.1 a rfl
      obtain ⟨h3, h4⟩ := h'.1 b rfl
      refine ⟨fun c hc => ?_, fun hn => by cases hn⟩
      have hc' : (if b < a then b else a) = c := Option.some.inj hc
      by_cases hba : b < a
      · rw [if_pos hba] at hc'
        subst hc'
        exact ⟨.inr h3, fun d hd => hd.elim (fun z => by have := h2 d z; omega) (h4 d)⟩
      · rw [if_neg hba] at hc'
        subst hc'
        exact ⟨.inl h1, fun d hd => hd.elim (h2 d) fun z => by have := h4 d z; omega⟩
theorem firstA_min (c : Nat → Bool) : ∀ M : Nat, IsMin (fun b => ∃ a : Nat, b = (a : Int) ∧ 1 ≤ a ∧ a ≤ M ∧ c a = true) (firstA c M)
  | 0 => ⟨(fun a h => by cases h), fun _ b ⟨a, _, h1, h2, _⟩ => by omega⟩
  | M + 1 => by
    have ih := firstA_min c M
    cases hf : firstA c M with
    | some x =>
      have e : firstA c (M + 1) = some x := by unfold firstA; rw [hf]
      rw [e]
      obtain ⟨⟨a, h1, h2, h3, h4⟩, h5⟩ := ih.1 x hf
      refine ⟨fun y hy => ?_, fun h => by cases h⟩
      cases hy
      refine ⟨⟨a, h1, h2, by omega, h4⟩, fun b ⟨a', g1, g2, g3, g4⟩ => ?_⟩
      by_cases ha : a' ≤ M
      · exact h5 b ⟨a', g1, g2, ha, g4⟩
      · omega
    | none =>
      have e : firstA c (M + 1) = if c (M + 1) = true then some ((M + 1 : Nat) : Int) else none := by
        show (match firstA c M with
          | some x => some x
          | none => _) = _
        rw [hf]
      rw [e]
      have ih' := ih.2 hf
      cases hc : c (M + 1) with
      | true =>
        rw [if_pos rfl]
        refine ⟨fun y hy => ?_, fun h => by cases h⟩
        cases hy
        refine ⟨⟨M + 1, rfl, by omega, Nat.le_refl _, hc⟩, fun b ⟨a', g1, g2, g3, g4⟩ => ?_⟩
        by_cases ha : a' ≤ M
        · exact absurd ⟨a', g1, g2, ha, g4⟩ (ih' b)
        · omega
      | false =>
        rw [if_neg (by decide)]
        refine ⟨(fun y hy => by cases hy), fun _ b ⟨a', g1, g2, g3, g4⟩ => ?_⟩
        by_cases ha : a' ≤ M
        · exact ih' b ⟨a', g1, g2, ha, g4⟩
        · have : a' = M + 1 := by omega
          subst this
          rw [hc] at g4; cases g4
theorem own_node (n : Nat) (f : Nat → Fall) : ∀ m h, (h, m) ∈ come n f m h
  | 0, h => by simp [come]
  | m + 1, h => by rw [come_succ, addSrc_mem]; exact .inl (by simp)
theorem seen_own {n : Nat} {f : Nat → Fall} {m h : Nat} (hh : h < n) (ha : aliveB f m h = true) : seen n f m h h = (m : Int) := by
  have h1 := seenK_ge (own_node n f m h) (Nat.le_refl m)
  rcases seenK_in (come n f m h) m h with z | ⟨a, z1, z2, z3⟩
  · have : seen n f m h h = -1 := z
    have h1' : (m : Int) ≤ seen n f m h h := h1
    omega
  · have : seen n f m h h = (a : Int) := z3
    have h1' : (m : Int) ≤ seen n f m h h := h1
    omega
/-- the sources of moment m + 1 -/
def Src (n : Nat) (f : Nat → Fall) (m h s : Nat) : Prop := s = h ∨ (s < n ∧ hearsB f (m + 1) h s = true)
theorem src_iff {n : Nat} {f : Nat → Fall} {m h s : Nat} : s ∈ srcs n f (m + 1) h ↔ Src n f m h s := by
  unfold srcs Src heardL
  rw [List.mem_cons, List.mem_filter, List.mem_range]
theorem src_ok {n : Nat} {f : Nat → Fall} {m h s : Nat} (hh : h < n) (ha : aliveB f (m + 1) h = true) (hs : Src n f m h s) : s < n ∧ aliveB f m s = true := by
  rcases hs with rfl | hs
  · exact ⟨hh, alive_prev ha⟩
  · have : s ∈ heardL n f (m + 1) h := List.mem_filter.mpr ⟨List.mem_range.mpr hs.1, hs.2⟩
    exact ⟨hs.1, (heard_alive this).1⟩
theorem seen_mono {n : Nat} {f : Nat → Fall} {m h s : Nat} (hs : Src n f m h s) (j : Nat) : seen n f m s j ≤ seen n f (m + 1) h j := by
  rcases seenK_in (come n f m s) m j with z | ⟨a, z1, z2, z3⟩
  · have : seen n f m s j = -1 := z
    rw [this]
    exact seenK_m1 _ _ _
  · have e : seen n f m s j = (a : Int) := z3
    rw [e]
    refine seenK_ge ?_ (by omega)
    rw [come_succ, addSrc_mem]
    exact .inr ⟨s, src_iff.mpr hs, z2⟩
theorem seen_from {n : Nat} {f : Nat → Fall} {m h j : Nat} (hh : h < n) (ha : aliveB f (m + 1) h = true) (hj : j ≠ h) : seen n f (m + 1) h j = -1 ∨ ∃ s, Src n f m h s ∧ seen n f (m + 1) h j ≤ seen n f m s j := by
  rcases seenK_in (come n f (m + 1) h) (m + 1) j with z | ⟨a, z1, z2, z3⟩
  · exact .inl z
  · rw [come_succ, addSrc_mem] at z2
    rcases z2 with z2 | ⟨s, hs, z2⟩
    · have : (j, a) = (h, m + 1) := by simpa using z2
      cases this
      exact absurd rfl hj
    · have hs' := src_iff.mp hs
      obtain ⟨o1, o2⟩ := src_ok hh ha hs'
      obtain ⟨_, b2, _⟩ := come_ok o1 o2 z2
      refine .inr ⟨s, hs', ?_⟩
      have e : seen n f (m + 1) h j = (a : Int) := z3
      rw [e]
      exact seenK_ge z2 b2
theorem lack_iff {n : Nat} {f : Nat → Fall} {sn : Nat → Int} {j a : Nat} : lackC n f sn j a = true ↔ ∃ k, k < n ∧ k ≠ j ∧ (a : Int) ≤ sn k ∧ j ∉ heardL n f a k := by
  unfold lackC
  rw [List.any_eq_true]
  constructor
  · rintro ⟨k, h1, h2⟩
    unfold lackB at h2
    simp only [Bool.and_eq_true, Bool.not_eq_true', decide_eq_true_eq] at h2
    refine ⟨k, List.mem_range.mp h1, fun e => ?_, h2.2.1, fun hm => ?_⟩
    · subst e; simp at h2
    · have := h2.2.2
      rw [List.any_eq_false] at this
      exact this j hm (by simp)
  · rintro ⟨k, h1, h2, h3, h4⟩
    refine ⟨k, List.mem_range.mpr h1, ?_⟩
    unfold lackB
    simp only [Bool.and_eq_true, Bool.not_eq_true', decide_eq_true_eq]
    refine ⟨?_, h3, ?_⟩
    · rw [beq_eq_false_iff_ne]; omega
    · rw [List.any_eq_false]
      intro x hx e
      have : x = j := by
        have := beq_iff_eq.mp e
        omega
      subst this
      exact h4 hx
end K86

namespace K86
open PySem PY
/-! ### the same; as lists -/
mutual
def lstd : PV → PV
  | .tup xs => .lst (lstds xs)
  | v => v
def lstds : List PV → List PV
  | [] => []
  | x :: xs => lstd x :: lstds xs
end
theorem lstds_map : ∀ xs : List PV, lstds xs = xs.map lstd
  | [] => rfl
  | x :: xs => by
    unfold lstds
    rw [lstds_map xs]; rfl
theorem depth_mem {x : PV} : ∀ {xs : List PV}, x ∈ xs → depthP x ≤ depthPs xs
  | y :: xs, h => by
    unfold depthPs
    rcases List.mem_cons.mp h with rfl | h
    · omega
    · have := depth_mem h; omega
theorem data_mem {x : PV} : ∀ {xs : List PV}, dataPs xs = true → x ∈ xs → dataP x = true
  | y :: xs, hd, h => by
    unfold dataPs at hd
    rw [Bool.and_eq_true] at hd
    rcases List.mem_cons.mp h with rfl | h
    · exact hd.1
    · exact data_mem hd.2 h
theorem compL_fn {f : PV → R (Option PV)} {g : PV → PV} : ∀ {vs : List PV}, (∀ v ∈ vs, f v = .ok (some (g v))) → compL f vs = .ok (vs.map g)
  | [], _ => rfl
  | v :: vs, h => by
    unfold compL
    rw [h v List.mem_cons_self, R.bind_ok, compL_fn fun w hw => h w (List.mem_cons_of_mem _ hw), R.bind_ok]
    rfl
theorem tab19 : tab[23]? = some d23 := rfl
theorem f_listed (fu : Nat) : ∀ (k : Nat) (v : PV), dataP v = true → depthP v ≤ k → fnsOf tab fu (k + 1) 23 [v] = .ok (lstd v)
  | k, v, hd, hk => by
    have e : fnsOf tab fu (k + 1) 23 [v] = runD (fnsOf tab fu k) fu d23 [v] := rfl
    rw [e, runD_eq rfl]
    cases v with
    | tup xs =>
      cases k with
      | zero => unfold depthP at hk; omega
      | succ k =>
        simp -implicitDefEqProofs only [SR.fin_nx, SR.fin_rt, Ok_ok, ex_nx, R.bind_ok, R.st_ok, SR.next_nx, SR.next_rt, SR.next_bk, SR.next_ct, x_cnon, x_cbl, x_cint, x_cstr, x_var, x_bor, x_bin, x_neg, x_cmp, x_bop, x_bcons, x_not, x_ite, x_tup, x_lst, x_dct1, x_idx, x_slc, x_call, x_bi, x_isi, x_comp, x_nil, x_cons, x_c0, x_c1, x_seq, x_rng1, x_rng2, x_enu, x_keys, y_nil, y_cons, y_asg, y_setI, y_app, y_appPop, y_asgPop, y_ite, y_for, y_while, y_ret, y_retN, y_raise, y_pass, y_brk, y_cont, y_frz, y_exp, b_var, b_tup, b_lst, m_nil, m_cons, g_zero, g_succ, w_nil, w_cons, next_next, next_nil, forF_eq, boolK_nil, boolK_cons, bK_tt, bK_tf, bK_ft, bK_ff, bK_and, bK_or, iteV_bl, iteS_bl, notV_bl, negV_int, condV_bl, seqV_lst, seqV_tup, seqV_scr, enuV_lst, enuV_tup, keysV_dct, compF_eq, biP_1, biP_2, len_lst, len_tup, len_scr, int_int, int_bl, list_lst, list_tup, tuple_lst, tuple_tup, min_int, max_int, abs_int, c_eq, c_ne, c_lt, c_le, c_gt, c_ge, c_is, c_isnot, c_inn, c_notin, in_lst, in_tup, ix_lst, ix_tup, ix_scr, eq_int, eq_bl, eq_str, isNon_non, isNon_int, isNon_tup, isNon_lst, isNon_dct, isNon_bl, isNon_str, bin_add, bin_sub, bin_mod, bin_fdiv, List.set_cons_zero, List.set_cons_succ, List.length_cons, List.length_nil, List.map_cons, List.map_nil, List.cons_append, List.nil_append, List.replicate_succ, List.replicate_zero, ↓reduceIte, Bool.false_eq_true, Int.reduceLT, Int.reducePow, Int.reduceNeg, Int.reduceLE, Int.reduceAdd, Int.reduceSub, Int.reduceMul, Int.reduceMod, Int.reduceDiv, Bool.not_true, Bool.not_false, Bool.true_beq, Bool.false_beq, Bool.and_true, Bool.true_and, Bool.and_false, Bool.false_and, Bool.or_true, Bool.true_or, Bool.or_false, Bool.false_or, Nat.reduceAdd, Nat.reduceSub, Nat.zero_add, Nat.sub_self, part_no, part_int, slc_lst, slc_tup, isNoE, isiV, isiOk, isiP, at_zero, at_1, at_2, at_3, d23]
        unfold dataP at hd
        unfold depthP at hk
        rw [compL_fn (g := lstd)]
        rotate_left
        · intro x hx
          have ih := f_listed fu k x (data_mem hd hx) (by have := depth_mem hx; omega)
          simp -implicitDefEqProofs only [SR.fin_nx, SR.fin_rt, Ok_ok, ex_nx, R.bind_ok, R.st_ok, SR.next_nx, SR.next_rt, SR.next_bk, SR.next_ct, x_cnon, x_cbl, x_cint, x_cstr, x_var, x_bor, x_bin, x_neg, x_cmp, x_bop, x_bcons, x_not, x_ite, x_tup, x_lst, x_dct1, x_idx, x_slc, x_call, x_bi, x_isi, x_comp, x_nil, x_cons, x_c0, x_c1, x_seq, x_rng1, x_rng2, x_enu, x_keys, y_nil, y_cons, y_asg, y_setI, y_app, y_appPop, y_asgPop, y_ite, y_for, y_while, y_ret, y_retN, y_raise, y_pass, y_brk, y_cont, y_frz, y_exp, b_var, b_tup, b_lst, m_nil, m_cons, g_zero, g_succ, w_nil, w_cons, next_next, next_nil, forF_eq, boolK_nil, boolK_cons, bK_tt, bK_tf, bK_ft, bK_ff, bK_and, bK_or, iteV_bl, iteS_bl, notV_bl, negV_int, condV_bl, seqV_lst, seqV_tup, seqV_scr, enuV_lst, enuV_tup, keysV_dct, compF_eq, biP_1, biP_2, len_lst, len_tup, len_scr, int_int, int_bl, list_lst, list_tup, tuple_lst, tuple_tup, min_int, max_int, abs_int, c_eq, c_ne, c_lt, c_le, c_gt, c_ge, c_is, c_isnot, c_inn, c_notin, in_lst, in_tup, ix_lst, ix_tup, ix_scr, eq_int, eq_bl, eq_str, isNon_non, isNon_int, isNon_tup, isNon_lst, isNon_dct, isNon_bl, isNon_str, bin_add, bin_sub, bin_mod, bin_fdiv, List.set_cons_zero, List.set_cons_succ, List.length_cons, List.length_nil, List.map_cons, List.map_nil, List.cons_append, List.nil_append, List.replicate_succ, List.replicate_zero, ↓reduceIte, Bool.false_eq_true, Int.reduceLT, Int.reducePow, Int.reduceNeg, Int.reduceLE, Int.reduceAdd, Int.reduceSub, Int.reduceMul, Int.reduceMod, Int.reduceDiv, Bool.not_true, Bool.not_false, Bool.true_beq, Bool.false_beq, Bool.and_true, Bool.true_and, Bool.and_false, Bool.false_and, Bool.or_true, Bool.true_or, Bool.or_false, Bool.false_or, Nat.reduceAdd, Nat.reduceSub, Nat.zero_add, Nat.sub_self, part_no, part_int, slc_lst, slc_tup, isNoE, isiV, isiOk, isiP, at_zero, at_1, at_2, at_3, ih]
        simp -implicitDefEqProofs only [SR.fin_nx, SR.fin_rt, Ok_ok, ex_nx, R.bind_ok, R.st_ok, SR.next_nx, SR.next_rt, SR.next_bk, SR.next_ct, x_cnon, x_cbl, x_cint, x_cstr, x_var, x_bor, x_bin, x_neg, x_cmp, x_bop, x_bcons, x_not, x_ite, x_tup, x_lst, x_dct1, x_idx, x_slc, x_call, x_bi, x_isi, x_comp, x_nil, x_cons, x_c0, x_c1, x_seq, x_rng1, x_rng2, x_enu, x_keys, y_nil, y_cons, y_asg, y_setI, y_app, y_appPop, y_asgPop, y_ite, y_for, y_while, y_ret, y_retN, y_raise, y_pass, y_brk, y_cont, y_frz, y_exp, b_var, b_tup, b_lst, m_nil, m_cons, g_zero, g_succ, w_nil, w_cons, next_next, next_nil, forF_eq, boolK_nil, boolK_cons, bK_tt, bK_tf, bK_ft, bK_ff, bK_and, bK_or, iteV_bl, iteS_bl, notV_bl, negV_int, condV_bl, seqV_lst, seqV_tup, seqV_scr, enuV_lst, enuV_tup, keysV_dct, compF_eq, biP_1, biP_2, len_lst, len_tup, len_scr, int_int, int_bl, list_lst, list_tup, tuple_lst, tuple_tup, min_int, max_int, abs_int, c_eq, c_ne, c_lt, c_le, c_gt, c_ge, c_is, c_isnot, c_inn, c_notin, in_lst, in_tup, ix_lst, ix_tup, ix_scr, eq_int, eq_bl, eq_str, isNon_non, isNon_int, isNon_tup, isNon_lst, isNon_dct, isNon_bl, isNon_str, bin_add, bin_sub, bin_mod, bin_fdiv, List.set_cons_zero, List.set_cons_succ, List.length_cons, List.length_nil, List.map_cons, List.map_nil, List.cons_append, List.nil_append, List.replicate_succ, List.replicate_zero, ↓reduceIte, Bool.false_eq_true, Int.reduceLT, Int.reducePow, Int.reduceNeg, Int.reduceLE, Int.reduceAdd, Int.reduceSub, Int.reduceMul, Int.reduceMod, Int.reduceDiv, Bool.not_true, Bool.not_false, Bool.true_beq, Bool.false_beq, Bool.and_true, Bool.true_and, Bool.and_false, Bool.false_and, Bool.or_true, Bool.true_or, Bool.or_false, Bool.false_or, Nat.reduceAdd, Nat.reduceSub, Nat.zero_add, Nat.sub_self, part_no, part_int, slc_lst, slc_tup, isNoE, isiV, isiOk, isiP, at_zero, at_1, at_2, at_3]
        unfold lstd
        rw [lstds_map]
    | dct _ _ => cases hd
    | scr _ => cases hd
    | non => simp -implicitDefEqProofs only [SR.fin_nx, SR.fin_rt, Ok_ok, ex_nx, R.bind_ok, R.st_ok, SR.next_nx, SR.next_rt, SR.next_bk, SR.next_ct, x_cnon, x_cbl, x_cint, x_cstr, x_var, x_bor, x_bin, x_neg, x_cmp, x_bop, x_bcons, x_not, x_ite, x_tup, x_lst, x_dct1, x_idx, x_slc, x_call, x_bi, x_isi, x_comp, x_nil, x_cons, x_c0, x_c1, x_seq, x_rng1, x_rng2, x_enu, x_keys, y_nil, y_cons, y_asg, y_setI, y_app, y_appPop, y_asgPop, y_ite, y_for, y_while, y_ret, y_retN, y_raise, y_pass, y_brk, y_cont, y_frz, y_exp, b_var, b_tup, b_lst, m_nil, m_cons, g_zero, g_succ, w_nil, w_cons, next_next, next_nil, forF_eq, boolK_nil, boolK_cons, bK_tt, bK_tf, bK_ft, bK_ff, bK_and, bK_or, iteV_bl, iteS_bl, notV_bl, negV_int, condV_bl, seqV_lst, seqV_tup, seqV_scr, enuV_lst, enuV_tup, keysV_dct, compF_eq, biP_1, biP_2, len_lst, len_tup, len_scr, int_int, int_bl, list_lst, list_tup, tuple_lst, tuple_tup, min_int, max_int, abs_int, c_eq, c_ne, c_lt, c_le, c_gt, c_ge, c_is, c_isnot, c_inn, c_notin, in_lst, in_tup, ix_lst, ix_tup, ix_scr, eq_int, eq_bl, eq_str, isNon_non, isNon_int, isNon_tup, isNon_lst, isNon_dct, isNon_bl, isNon_str, bin_add, bin_sub, bin_mod, bin_fdiv, List.set_cons_zero, List.set_cons_succ, List.length_cons, List.length_nil, List.map_cons, List.map_nil, List.cons_append, List.nil_append, List.replicate_succ, List.replicate_zero, ↓reduceIte, Bool.false_eq_true, Int.reduceLT, Int.reducePow, Int.reduceNeg, Int.reduceLE, Int.reduceAdd, Int.reduceSub, Int.reduceMul, Int.reduceMod, Int.reduceDiv, Bool.not_true, Bool.not_false, Bool.true_beq, Bool.false_beq, Bool.and_true, Bool.true_and, Bool.and_false, Bool.false_and, Bool.or_true, Bool.true_or, Bool.or_false, Bool.false_or, Nat.reduceAdd, Nat.reduceSub, Nat.zero_add, Nat.sub_self, part_no, part_int, slc_lst, slc_tup, isNoE, isiV, isiOk, isiP, at_zero, at_1, at_2, at_3, d23]; rfl
    | bl b => simp -implicitDefEqProofs only [SR.fin_nx, SR.fin_rt, Ok_ok, ex_nx, R.bind_ok, R.st_ok, SR.next_nx, SR.next_rt, SR.next_bk, SR.next_ct, x_cnon, x_cbl, x_cint, x_cstr, x_var, x_bor, x_bin, x_neg, x_cmp, x_bop, x_bcons, x_not, x_ite, x_tup, x_lst, x_dct1, x_idx, x_slc, x_call, x_bi, x_isi, x_comp, x_nil, x_cons, x_c0, x_c1, x_seq, x_rng1, x_rng2, x_enu, x_keys, y_nil, y_cons, y_asg, y_setI, y_app, y_appPop, y_asgPop, y_ite, y_for, y_while, y_ret, y_retN, y_raise, y_pass, y_brk, y_cont, y_frz, y_exp, b_var, b_tup, b_lst, m_nil, m_cons, g_zero, g_succ, w_nil, w_cons, next_next, next_nil, forF_eq, boolK_nil, boolK_cons, bK_tt, bK_tf, bK_ft, bK_ff, bK_and, bK_or, iteV_bl, iteS_bl, notV_bl, negV_int, condV_bl, seqV_lst, seqV_tup, seqV_scr, enuV_lst, enuV_tup, keysV_dct, compF_eq, biP_1, biP_2, len_lst, len_tup, len_scr, int_int, int_bl, list_lst, list_tup, tuple_lst, tuple_tup, min_int, max_int, abs_int, c_eq, c_ne, c_lt, c_le, c_gt, c_ge, c_is, c_isnot, c_inn, c_notin, in_lst, in_tup, ix_lst, ix_tup, ix_scr, eq_int, eq_bl, eq_str, isNon_non, isNon_int, isNon_tup, isNon_lst, isNon_dct, isNon_bl, isNon_str, bin_add, bin_sub, bin_mod, bin_fdiv, List.set_cons_zero, List.set_cons_succ, List.length_cons, List.length_nil, List.map_cons, List.map_nil, List.cons_append, List.nil_append, List.replicate_succ, List.replicate_zero, ↓reduceIte, Bool.false_eq_true, Int.reduceLT, Int.reducePow, Int.reduceNeg, Int.reduceLE, Int.reduceAdd, Int.reduceSub, Int.reduceMul, Int.reduceMod, Int.reduceDiv, Bool.not_true, Bool.not_false, Bool.true_beq, Bool.false_beq, Bool.and_true, Bool.true_and, Bool.and_false, Bool.false_and, Bool.or_true, Bool.true_or, Bool.or_false, Bool.false_or, Nat.reduceAdd, Nat.reduceSub, Nat.zero_add, Nat.sub_self, part_no, part_int, slc_lst, slc_tup, isNoE, isiV, isiOk, isiP, at_zero, at_1, at_2, at_3, d23]; rfl
    | int i => simp -implicitDefEqProofs only [SR.fin_nx, SR.fin_rt, Ok_ok, ex_nx, R.bind_ok, R.st_ok, SR.next_nx, SR.next_rt, SR.next_bk, SR.next_ct, x_cnon, x_cbl, x_cint, x_cstr, x_var, x_bor, x_bin, x_neg, x_cmp, x_bop, x_bcons, x_not, x_ite, x_tup, x_lst, x_dct1, x_idx, x_slc, x_call, x_bi, x_isi, x_comp, x_nil, x_cons, x_c0, x_c1, x_seq, x_rng1, x_rng2, x_enu, x_keys, y_nil, y_cons, y_asg, y_setI, y_app, y_appPop, y_asgPop, y_ite, y_for, y_while, y_ret, y_retN, y_raise, y_pass, y_brk, y_cont, y_frz, y_exp, b_var, b_tup, b_lst, m_nil, m_cons, g_zero, g_succ, w_nil, w_cons, next_next, next_nil, forF_eq, boolK_nil, boolK_cons, bK_tt, bK_tf, bK_ft, bK_ff, bK_and, bK_or, iteV_bl, iteS_bl, notV_bl, negV_int, condV_bl, seqV_lst, seqV_tup, seqV_scr, enuV_lst, enuV_tup, keysV_dct, compF_eq, biP_1, biP_2, len_lst, len_tup, len_scr, int_int, int_bl, list_lst, list_tup, tuple_lst, tuple_tup, min_int, max_int, abs_int, c_eq, c_ne, c_lt, c_le, c_gt, c_ge, c_is, c_isnot, c_inn, c_notin, in_lst, in_tup, ix_lst, ix_tup, ix_scr, eq_int, eq_bl, eq_str, isNon_non, isNon_int, isNon_tup, isNon_lst, isNon_dct, isNon_bl, isNon_str, bin_add, bin_sub, bin_mod, bin_fdiv, List.set_cons_zero, List.set_cons_succ, List.length_cons, List.length_nil, List.map_cons, List.map_nil, List.cons_append, List.nil_append, List.replicate_succ, List.replicate_zero, ↓reduceIte, Bool.false_eq_true, Int.reduceLT, Int.reducePow, Int.reduceNeg, Int.reduceLE, Int.reduceAdd, Int.reduceSub, Int.reduceMul, Int.reduceMod, Int.reduceDiv, Bool.not_true, Bool.not_false, Bool.true_beq, Bool.false_beq, Bool.and_true, Bool.true_and, Bool.and_false, Bool.false_and, Bool.or_true, Bool.true_or, Bool.or_false, Bool.false_or, Nat.reduceAdd, Nat.reduceSub, Nat.zero_add, Nat.sub_self, part_no, part_int, slc_lst, slc_tup, isNoE, isiV, isiOk, isiP, at_zero, at_1, at_2, at_3, d23]; rfl
    | str x => simp -implicitDefEqProofs only [SR.fin_nx, SR.fin_rt, Ok_ok, ex_nx, R.bind_ok, R.st_ok, SR.next_nx, SR.next_rt, SR.next_bk, SR.next_ct, x_cnon, x_cbl, x_cint, x_cstr, x_var, x_bor, x_bin, x_neg, x_cmp, x_bop, x_bcons, x_not, x_ite, x_tup, x_lst, x_dct1, x_idx, x_slc, x_call, x_bi, x_isi, x_comp, x_nil, x_cons, x_c0, x_c1, x_seq, x_rng1, x_rng2, x_enu, x_keys, y_nil, y_cons, y_asg, y_setI, y_app, y_appPop, y_asgPop, y_ite, y_for, y_while, y_ret, y_retN, y_raise, y_pass, y_brk, y_cont, y_frz, y_exp, b_var, b_tup, b_lst, m_nil, m_cons, g_zero, g_succ, w_nil, w_cons, next_next, next_nil, forF_eq, boolK_nil, boolK_cons, bK_tt, bK_tf, bK_ft, bK_ff, bK_and, bK_or, iteV_bl, iteS_bl, notV_bl, negV_int, condV_bl, seqV_lst, seqV_tup, seqV_scr, enuV_lst, enuV_tup, keysV_dct, compF_eq, biP_1, biP_2, len_lst, len_tup, len_scr, int_int, int_bl, list_lst, list_tup, tuple_lst, tuple_tup, min_int, max_int, abs_int, c_eq, c_ne, c_lt, c_le, c_gt, c_ge, c_is, c_isnot, c_inn, c_notin, in_lst, in_tup, ix_lst, ix_tup, ix_scr, eq_int, eq_bl, eq_str, isNon_non, isNon_int, isNon_tup, isNon_lst, isNon_dct, isNon_bl, isNon_str, bin_add, bin_sub, bin_mod, bin_fdiv, List.set_cons_zero, List.set_cons_succ, List.length_cons, List.length_nil, List.map_cons, List.map_nil, List.cons_append, List.nil_append, List.replicate_succ, List.replicate_zero, ↓reduceIte, Bool.false_eq_true, Int.reduceLT, Int.reducePow, Int.reduceNeg, Int.reduceLE, Int.reduceAdd, Int.reduceSub, Int.reduceMul, Int.reduceMod, Int.reduceDiv, Bool.not_true, Bool.not_false, Bool.true_beq, Bool.false_beq, Bool.and_true, Bool.true_and, Bool.and_false, Bool.false_and, Bool.or_true, Bool.true_or, Bool.or_false, Bool.false_or, Nat.reduceAdd, Nat.reduceSub, Nat.zero_add, Nat.sub_self, part_no, part_int, slc_lst, slc_tup, isNoE, isiV, isiOk, isiP, at_zero, at_1, at_2, at_3, d23]; rfl
    | lst xs => simp -implicitDefEqProofs only [SR.fin_nx, SR.fin_rt, Ok_ok, ex_nx, R.bind_ok, R.st_ok, SR.next_nx, SR.next_rt, SR.next_bk, SR.next_ct, x_cnon, x_cbl, x_cint, x_cstr, x_var, x_bor, x_bin, x_neg, x_cmp, x_bop, x_bcons, x_not, x_ite, x_tup, x_lst, x_dct1, x_idx, x_slc, x_call, x_bi, x_isi, x_comp, x_nil, x_cons, x_c0, x_c1, x_seq, x_rng1, x_rng2, x_enu, x_keys, y_nil, y_cons, y_asg, y_setI, y_app, y_appPop, y_asgPop, y_ite, y_for, y_while, y_ret, y_retN, y_raise, y_pass, y_brk, y_cont, y_frz, y_exp, b_var, b_tup, b_lst, m_nil, m_cons, g_zero, g_succ, w_nil, w_cons, next_next, next_nil, forF_eq, boolK_nil, boolK_cons, bK_tt, bK_tf, bK_ft, bK_ff, bK_and, bK_or, iteV_bl, iteS_bl, notV_bl, negV_int, condV_bl, seqV_lst, seqV_tup, seqV_scr, enuV_lst, enuV_tup, keysV_dct, compF_eq, biP_1, biP_2, len_lst, len_tup, len_scr, int_int, int_bl, list_lst, list_tup, tuple_lst, tuple_tup, min_int, max_int, abs_int, c_eq, c_ne, c_lt, c_le, c_gt, c_ge, c_is, c_isnot, c_inn, c_notin, in_lst, in_tup, ix_lst, ix_tup, ix_scr, eq_int, eq_bl, eq_str, isNon_non, isNon_int, isNon_tup, isNon_lst, isNon_dct, isNon_bl, isNon_str, bin_add, bin_sub, bin_mod, bin_fdiv, List.set_cons_zero, List.set_cons_succ, List.length_cons, List.length_nil, List.map_cons, List.map_nil, List.cons_append, List.nil_append, List.replicate_succ, List.replicate_zero, ↓reduceIte, Bool.false_eq_true, Int.reduceLT, Int.reducePow, Int.reduceNeg, Int.reduceLE, Int.reduceAdd, Int.reduceSub, Int.reduceMul, Int.reduceMod, Int.reduceDiv, Bool.not_true, Bool.not_false, Bool.true_beq, Bool.false_beq, Bool.and_true, Bool.true_and, Bool.and_false, Bool.false_and, Bool.or_true, Bool.true_or, Bool.or_false, Bool.false_or, Nat.reduceAdd, Nat.reduceSub, Nat.zero_add, Nat.sub_self, part_no, part_int, slc_lst, slc_tup, isNoE, isiV, isiOk, isiP, at_zero, at_1, at_2, at_3, d23]; rfl
theorem lstd_oP (o : Option Int) : lstd (oP o) = oP o := by cases o <;> rfl
mutual
theorem lstd_data : ∀ v : PV, dataP v = true → dataP (lstd v) = true ∧ depthP (lstd v) ≤ depthP v
  | .tup xs, h => by
    unfold dataP at h
    obtain ⟨a, b⟩ := lstds_data xs h
    unfold lstd dataP depthP
    exact ⟨a, Nat.succ_le_succ b⟩
  | .non, _ => ⟨rfl, Nat.le_refl _⟩
  | .bl b, _ => ⟨rfl, Nat.le_refl _⟩
  | .int i, _ => ⟨rfl, Nat.le_refl _⟩
  | .str x, _ => ⟨rfl, Nat.le_refl _⟩
  | .lst xs, h => ⟨h, Nat.le_refl _⟩
  | .dct _ _, h => by cases h
  | .scr _, h => by cases h
theorem lstds_data : ∀ vs : List PV, dataPs vs = true → dataPs (lstds vs) = true ∧ depthPs (lstds vs) ≤ depthPs vs
  | [], _ => ⟨rfl, Nat.le_refl _⟩
  | v :: vs, h => by
    unfold dataPs at h
    rw [Bool.and_eq_true] at h
    obtain ⟨a, b⟩ := lstd_data v h.1
    obtain ⟨c, d⟩ := lstds_data vs h.2
    unfold lstds dataPs depthPs
    rw [a, c]
    exact ⟨rfl, by omega⟩
end
theorem eq_self {v : PV} {k : Nat} (h : Shp k v) (hk : k ≤ 64) : eqP v v = .ok true := by
  rw [eqP_shp h h hk hk, eqv_refl v h.1]
theorem shp_lstd {v : PV} {k : Nat} (h : Shp k v) : Shp k (lstd v) := by
  obtain ⟨a, b⟩ := lstd_data v h.1
  exact ⟨a, Nat.le_trans b h.2⟩
def H6 (Φ : Fns) : Prop := ∀ v, isiOk v = true → Φ 12 [v] = .ok (.bl (wholeB v))
section
variable {Φ : Fns} {fu : Nat}
theorem f_samenum (h6 : H6 Φ) (a : Option Int) : Ok (runD Φ fu d20 [oP a, oP a]) (· = .bl true) := by
  rw [runD_eq rfl]
  cases a with
  | none => simp -implicitDefEqProofs only [SR.fin_nx, SR.fin_rt, Ok_ok, ex_nx, R.bind_ok, R.st_ok, SR.next_nx, SR.next_rt, SR.next_bk, SR.next_ct, x_cnon, x_cbl, x_cint, x_cstr, x_var, x_bor, x_bin, x_neg, x_cmp, x_bop, x_bcons, x_not, x_ite, x_tup, x_lst, x_dct1, x_idx, x_slc, x_call, x_bi, x_isi, x_comp, x_nil, x_cons, x_c0, x_c1, x_seq, x_rng1, x_rng2, x_enu, x_keys, y_nil, y_cons, y_asg, y_setI, y_app, y_appPop, y_asgPop, y_ite, y_for, y_while, y_ret, y_retN, y_raise, y_pass, y_brk, y_cont, y_frz, y_exp, b_var, b_tup, b_lst, m_nil, m_cons, g_zero, g_succ, w_nil, w_cons, next_next, next_nil, forF_eq, boolK_nil, boolK_cons, bK_tt, bK_tf, bK_ft, bK_ff, bK_and, bK_or, iteV_bl, iteS_bl, notV_bl, negV_int, condV_bl, seqV_lst, seqV_tup, seqV_scr, enuV_lst, enuV_tup, keysV_dct, compF_eq, biP_1, biP_2, len_lst, len_tup, len_scr, int_int, int_bl, list_lst, list_tup, tuple_lst, tuple_tup, min_int, max_int, abs_int, c_eq, c_ne, c_lt, c_le, c_gt, c_ge, c_is, c_isnot, c_inn, c_notin, in_lst, in_tup, ix_lst, ix_tup, ix_scr, eq_int, eq_bl, eq_str, isNon_non, isNon_int, isNon_tup, isNon_lst, isNon_dct, isNon_bl, isNon_str, bin_add, bin_sub, bin_mod, bin_fdiv, List.set_cons_zero, List.set_cons_succ, List.length_cons, List.length_nil, List.map_cons, List.map_nil, List.cons_append, List.nil_append, List.replicate_succ, List.replicate_zero, ↓reduceIte, Bool.false_eq_true, Int.reduceLT, Int.reducePow, Int.reduceNeg, Int.reduceLE, Int.reduceAdd, Int.reduceSub, Int.reduceMul, Int.reduceMod, Int.reduceDiv, Bool.not_true, Bool.not_false, Bool.true_beq, Bool.false_beq, Bool.and_true, Bool.true_and, Bool.and_false, Bool.false_and, Bool.or_true, Bool.true_or, Bool.or_false, Bool.false_or, Nat.reduceAdd, Nat.reduceSub, Nat.zero_add, Nat.sub_self, part_no, part_int, slc_lst, slc_tup, isNoE, isiV, isiOk, isiP, at_zero, at_1, at_2, at_3, d20, oP_none]
  | some x =>
    have this : Φ 12 [.int x] = .ok (.bl true) := h6 (.int x) rfl
    simp -implicitDefEqProofs only [SR.fin_nx, SR.fin_rt, Ok_ok, ex_nx, R.bind_ok, R.st_ok, SR.next_nx, SR.next_rt, SR.next_bk, SR.next_ct, x_cnon, x_cbl, x_cint, x_cstr, x_var, x_bor, x_bin, x_neg, x_cmp, x_bop, x_bcons, x_not, x_ite, x_tup, x_lst, x_dct1, x_idx, x_slc, x_call, x_bi, x_isi, x_comp, x_nil, x_cons, x_c0, x_c1, x_seq, x_rng1, x_rng2, x_enu, x_keys, y_nil, y_cons, y_asg, y_setI, y_app, y_appPop, y_asgPop, y_ite, y_for, y_while, y_ret, y_retN, y_raise, y_pass, y_brk, y_cont, y_frz, y_exp, b_var, b_tup, b_lst, m_nil, m_cons, g_zero, g_succ, w_nil, w_cons, next_next, next_nil, forF_eq, boolK_nil, boolK_cons, bK_tt, bK_tf, bK_ft, bK_ff, bK_and, bK_or, iteV_bl, iteS_bl, notV_bl, negV_int, condV_bl, seqV_lst, seqV_tup, seqV_scr, enuV_lst, enuV_tup, keysV_dct, compF_eq, biP_1, biP_2, len_lst, len_tup, len_scr, int_int, int_bl, list_lst, list_tup, tuple_lst, tuple_tup, min_int, max_int, abs_int, c_eq, c_ne, c_lt, c_le, c_gt, c_ge, c_is, c_isnot, c_inn, c_notin, in_lst, in_tup, ix_lst, ix_tup, ix_scr, eq_int, eq_bl, eq_str, isNon_non, isNon_int, isNon_tup, isNon_lst, isNon_dct, isNon_bl, isNon_str, bin_add, bin_sub, bin_mod, bin_fdiv, List.set_cons_zero, List.set_cons_succ, List.length_cons, List.length_nil, List.map_cons, List.map_nil, List.cons_append, List.nil_append, List.replicate_succ, List.replicate_zero, ↓reduceIte, Bool.false_eq_true, Int.reduceLT, Int.reducePow, Int.reduceNeg, Int.reduceLE, Int.reduceAdd, Int.reduceSub, Int.reduceMul, Int.reduceMod, Int.reduceDiv, Bool.not_true, Bool.not_false, Bool.true_beq, Bool.false_beq, Bool.and_true, Bool.true_and, Bool.and_false, Bool.false_and, Bool.or_true, Bool.true_or, Bool.or_false, Bool.false_or, Nat.reduceAdd, Nat.reduceSub, Nat.zero_add, Nat.sub_self, part_no, part_int, slc_lst, slc_tup, isNoE, isiV, isiOk, isiP, at_zero, at_1, at_2, at_3, d20, oP_some, this, beq_self_eq_true]
theorem f_samenums (h16 : ∀ a, Φ 20 [oP a, oP a] = .ok (.bl true)) (n : Nat) (hn : n ≤ 5) (g : Nat → Option Int) (D : PV) (hD : SeqV D (rng n fun j => oP (g j))) : Ok (runD Φ fu d21 [.tup (rng n fun j => oP (g j)), D]) (· = .bl true) := by
  rw [runD_eq rfl]
  have rn := rng1_nat (show n ≤ 1000 by omega)
  simp -implicitDefEqProofs only [SR.fin_nx, SR.fin_rt, Ok_ok, ex_nx, R.bind_ok, R.st_ok, SR.next_nx, SR.next_rt, SR.next_bk, SR.next_ct, x_cnon, x_cbl, x_cint, x_cstr, x_var, x_bor, x_bin, x_neg, x_cmp, x_bop, x_bcons, x_not, x_ite, x_tup, x_lst, x_dct1, x_idx, x_slc, x_call, x_bi, x_isi, x_comp, x_nil, x_cons, x_c0, x_c1, x_seq, x_rng1, x_rng2, x_enu, x_keys, y_nil, y_cons, y_asg, y_setI, y_app, y_appPop, y_asgPop, y_ite, y_for, y_while, y_ret, y_retN, y_raise, y_pass, y_brk, y_cont, y_frz, y_exp, b_var, b_tup, b_lst, m_nil, m_cons, g_zero, g_succ, w_nil, w_cons, next_next, next_nil, forF_eq, boolK_nil, boolK_cons, bK_tt, bK_tf, bK_ft, bK_ff, bK_and, bK_or, iteV_bl, iteS_bl, notV_bl, negV_int, condV_bl, seqV_lst, seqV_tup, seqV_scr, enuV_lst, enuV_tup, keysV_dct, compF_eq, biP_1, biP_2, len_lst, len_tup, len_scr, int_int, int_bl, list_lst, list_tup, tuple_lst, tuple_tup, min_int, max_int, abs_int, c_eq, c_ne, c_lt, c_le, c_gt, c_ge, c_is, c_isnot, c_inn, c_notin, in_lst, in_tup, ix_lst, ix_tup, ix_scr, eq_int, eq_bl, eq_str, isNon_non, isNon_int, isNon_tup, isNon_lst, isNon_dct, isNon_bl, isNon_str, bin_add, bin_sub, bin_mod, bin_fdiv, List.set_cons_zero, List.set_cons_succ, List.length_cons, List.length_nil, List.map_cons, List.map_nil, List.cons_append, List.nil_append, List.replicate_succ, List.replicate_zero, ↓reduceIte, Bool.false_eq_true, Int.reduceLT, Int.reducePow, Int.reduceNeg, Int.reduceLE, Int.reduceAdd, Int.reduceSub, Int.reduceMul, Int.reduceMod, Int.reduceDiv, Bool.not_true, Bool.not_false, Bool.true_beq, Bool.false_beq, Bool.and_true, Bool.true_and, Bool.and_false, Bool.false_and, Bool.or_true, Bool.true_or, Bool.or_false, Bool.false_or, Nat.reduceAdd, Nat.reduceSub, Nat.zero_add, Nat.sub_self, part_no, part_int, slc_lst, slc_tup, isNoE, isiV, isiOk, isiP, at_zero, at_1, at_2, at_3, d21, rng_length, rn, beq_self_eq_true, hD.len]
  rw [compL_rngF (p := fun _ => false) (h := fun k => .int k)]
  rotate_left
  · intro k hk
    have q : atP (rng n fun j => oP (g j)) (k : Int) = .ok (oP (g k)) := atP_rng hk
    simp -implicitDefEqProofs only [SR.fin_nx, SR.fin_rt, Ok_ok, ex_nx, R.bind_ok, R.st_ok, SR.next_nx, SR.next_rt, SR.next_bk, SR.next_ct, x_cnon, x_cbl, x_cint, x_cstr, x_var, x_bor, x_bin, x_neg, x_cmp, x_bop, x_bcons, x_not, x_ite, x_tup, x_lst, x_dct1, x_idx, x_slc, x_call, x_bi, x_isi, x_comp, x_nil, x_cons, x_c0, x_c1, x_seq, x_rng1, x_rng2, x_enu, x_keys, y_nil, y_cons, y_asg, y_setI, y_app, y_appPop, y_asgPop, y_ite, y_for, y_while, y_ret, y_retN, y_raise, y_pass, y_brk, y_cont, y_frz, y_exp, b_var, b_tup, b_lst, m_nil, m_cons, g_zero, g_succ, w_nil, w_cons, next_next, next_nil, forF_eq, boolK_nil, boolK_cons, bK_tt, bK_tf, bK_ft, bK_ff, bK_and, bK_or, iteV_bl, iteS_bl, notV_bl, negV_int, condV_bl, seqV_lst, seqV_tup, seqV_scr, enuV_lst, enuV_tup, keysV_dct, compF_eq, biP_1, biP_2, len_lst, len_tup, len_scr, int_int, int_bl, list_lst, list_tup, tuple_lst, tuple_tup, min_int, max_int, abs_int, c_eq, c_ne, c_lt, c_le, c_gt, c_ge, c_is, c_isnot, c_inn, c_notin, in_lst, in_tup, ix_lst, ix_tup, ix_scr, eq_int, eq_bl, eq_str, isNon_non, isNon_int, isNon_tup, isNon_lst, isNon_dct, isNon_bl, isNon_str, bin_add, bin_sub, bin_mod, bin_fdiv, List.set_cons_zero, List.set_cons_succ, List.length_cons, List.length_nil, List.map_cons, List.map_nil, List.cons_append, List.nil_append, List.replicate_succ, List.replicate_zero, ↓reduceIte, Bool.false_eq_true, Int.reduceLT, Int.reducePow, Int.reduceNeg, Int.reduceLE, Int.reduceAdd, Int.reduceSub, Int.reduceMul, Int.reduceMod, Int.reduceDiv, Bool.not_true, Bool.not_false, Bool.true_beq, Bool.false_beq, Bool.and_true, Bool.true_and, Bool.and_false, Bool.false_and, Bool.or_true, Bool.true_or, Bool.or_false, Bool.false_or, Nat.reduceAdd, Nat.reduceSub, Nat.zero_add, Nat.sub_self, part_no, part_int, slc_lst, slc_tup, isNoE, isiV, isiOk, isiP, at_zero, at_1, at_2, at_3, q, h16, hD.ix]
  have e : (List.range n).filter (fun _ => false) = [] := by simp
  rw [e]
  simp -implicitDefEqProofs only [SR.fin_nx, SR.fin_rt, Ok_ok, ex_nx, R.bind_ok, R.st_ok, SR.next_nx, SR.next_rt, SR.next_bk, SR.next_ct, x_cnon, x_cbl, x_cint, x_cstr, x_var, x_bor, x_bin, x_neg, x_cmp, x_bop, x_bcons, x_not, x_ite, x_tup, x_lst, x_dct1, x_idx, x_slc, x_call, x_bi, x_isi, x_comp, x_nil, x_cons, x_c0, x_c1, x_seq, x_rng1, x_rng2, x_enu, x_keys, y_nil, y_cons, y_asg, y_setI, y_app, y_appPop, y_asgPop, y_ite, y_for, y_while, y_ret, y_retN, y_raise, y_pass, y_brk, y_cont, y_frz, y_exp, b_var, b_tup, b_lst, m_nil, m_cons, g_zero, g_succ, w_nil, w_cons, next_next, next_nil, forF_eq, boolK_nil, boolK_cons, bK_tt, bK_tf, bK_ft, bK_ff, bK_and, bK_or, iteV_bl, iteS_bl, notV_bl, negV_int, condV_bl, seqV_lst, seqV_tup, seqV_scr, enuV_lst, enuV_tup, keysV_dct, compF_eq, biP_1, biP_2, len_lst, len_tup, len_scr, int_int, int_bl, list_lst, list_tup, tuple_lst, tuple_tup, min_int, max_int, abs_int, c_eq, c_ne, c_lt, c_le, c_gt, c_ge, c_is, c_isnot, c_inn, c_notin, in_lst, in_tup, ix_lst, ix_tup, ix_scr, eq_int, eq_bl, eq_str, isNon_non, isNon_int, isNon_tup, isNon_lst, isNon_dct, isNon_bl, isNon_str, bin_add, bin_sub, bin_mod, bin_fdiv, List.set_cons_zero, List.set_cons_succ, List.length_cons, List.length_nil, List.map_cons, List.map_nil, List.cons_append, List.nil_append, List.replicate_succ, List.replicate_zero, ↓reduceIte, Bool.false_eq_true, Int.reduceLT, Int.reducePow, Int.reduceNeg, Int.reduceLE, Int.reduceAdd, Int.reduceSub, Int.reduceMul, Int.reduceMod, Int.reduceDiv, Bool.not_true, Bool.not_false, Bool.true_beq, Bool.false_beq, Bool.and_true, Bool.true_and, Bool.and_false, Bool.false_and, Bool.or_true, Bool.true_or, Bool.or_false, Bool.false_or, Nat.reduceAdd, Nat.reduceSub, Nat.zero_add, Nat.sub_self, part_no, part_int, slc_lst, slc_tup, isNoE, isiV, isiOk, isiP, at_zero, at_1, at_2, at_3]
  rfl
end
/-! ### at any level -/
theorem c_H8 (k : Nat) : H8 (fnsOf tab 100 (k + 1)) := fun c ss h1 h2 => by
  rw [lv rfl]
  exact f_digits c ss h1 h2
theorem c_H6 (k : Nat) : H6 (fnsOf tab 100 (k + 1)) := fun v h => by
  rw [lv rfl]
  exact f_whole v h
theorem c_cell (k : Nat) (ns : List Int) (j : Nat) (hj : j < 1000) : ∃ c : Int, fnsOf tab 100 (k + 1) 13 [.scr ns, .int (j : Int)] = .ok (.int c) := by
  rw [lv rfl]
  obtain ⟨v, e, c, rfl⟩ := f_cell (Φ := fnsOf tab 100 k) (fu := 100) ns j hj
  exact ⟨c, e⟩
theorem c_setting (k : Nat) (c : Int) : ∃ (n F L : Nat) (t s : Str), fnsOf tab 100 (k + 2) 15 [.int c] = .ok (setV n F L t s) ∧ 2 ≤ n ∧ n ≤ 5 ∧ F + 1 ≤ n ∧ 1 ≤ L ∧ L ≤ 5 := by
  obtain ⟨_, e, n, F, L, t, s, rfl, h⟩ := f_setting (Φ := fnsOf tab 100 (k + 1)) (fu := 100) (c_H8 k) c
  exact ⟨n, F, L, t, s, by rw [lv rfl]; exact e, h⟩
theorem c_heardL (k n F L : Nat) (t s : Str) (hn : n ≤ 5) (hL : L ≤ 5) (B : Nat → Int) (f : Nat → Fall) : fnsOf tab 100 (k + 1) 17 [setV n F L t s, storyV n B f] = .ok (tableV n L (heardV n f)) := by
  rw [lv rfl]
  exact (f_heard n F L t s hn hL B f).eq
theorem c_come (k n L : Nat) (hn1 : 1 ≤ n) (hn : n ≤ 5) (hL : L ≤ 5) (f : Nat → Fall) (hf : ∀ h, FallOk (f h)) : fnsOf tab 100 (k + 1) 18 [tableV n L (heardV n f)] = .ok (tableV n L (comeV n f)) := by
  rw [lv rfl]
  exact (f_come n L hn1 hn hL f hf).eq
theorem c_newsL (k n L : Nat) (hn : n ≤ 5) (hL : L ≤ 5) (B : Nat → Int) (f : Nat → Fall) (m h : Nat) (hm : m < L + 1) (hh : h < n) (ha : aliveB f m h = true) : fnsOf tab 100 (k + 1) 19 [storyV n B f, tableV n L (heardV n f), dctV (come n f m h), .int (m : Int)] = .ok (newsV n B f m h) := by
  rw [lv rfl]
  exact (f_news n L hn hL B f m h hm hh ha).eq
theorem c_samenum (k : Nat) (a : Option Int) : fnsOf tab 100 (k + 2) 20 [oP a, oP a] = .ok (.bl true) := by
  rw [lv rfl]
  exact (f_samenum (c_H6 k) a).eq
theorem c_samenums (k n : Nat) (hn : n ≤ 5) (g : Nat → Option Int) (D : PV) (hD : SeqV D (rng n fun j => oP (g j))) : fnsOf tab 100 (k + 3) 21 [.tup (rng n fun j => oP (g j)), D] = .ok (.bl true) := by
  rw [lv rfl]
  exact (f_samenums (c_samenum k) n hn g D hD).eq
theorem c_listed (k : Nat) (v : PV) (h : Shp 5 v) : fnsOf tab 100 (k + 6) 23 [v] = .ok (lstd v) := f_listed 100 (k + 5) v h.1 (by have := h.2; omega)
/-! ### settings, stories as lists -/
theorem shp_set (n F L : Nat) (t s : Str) : Shp 1 (setV n F L t s) := Shp.tup fun x hx => by
  simp only [List.mem_cons, List.not_mem_nil, or_false] at hx
  rcases hx with rfl | rfl | rfl | rfl | rfl | rfl | rfl <;> first | exact Shp.int 0 _ | exact Shp.str 0 _
theorem shp_fall (f : Fall) : Shp 2 (fallV f) := by
  cases f with
  | none => exact Shp.non 2
  | some q =>
    refine Shp.tup fun x hx => ?_
    simp only [List.mem_cons, List.not_mem_nil, or_false] at hx
    rcases hx with rfl | rfl
    · exact Shp.int 1 _
    · refine Shp.tup fun x hx => ?_
      obtain ⟨z, _, rfl⟩ := List.mem_map.mp hx
      exact Shp.int 0 _
theorem shp_story (n : Nat) (B : Nat → Int) (f : Nat → Fall) : Shp 4 (storyV n B f) := Shp.tup fun x hx => by
  simp only [List.mem_cons, List.not_mem_nil, or_false] at hx
  rcases hx with rfl | rfl
  · refine Shp.tup fun x hx => ?_
    obtain ⟨i, _, rfl⟩ := mem_rng.mp hx
    exact Shp.int 2 _
  · refine Shp.tup fun x hx => ?_
    obtain ⟨i, _, rfl⟩ := mem_rng.mp hx
    exact shp_fall _
theorem lstd_tup (xs : List PV) : lstd (.tup xs) = .lst (xs.map lstd) := by unfold lstd; rw [lstds_map]
theorem lstd_set (n F L : Nat) (t s : Str) : lstd (setV n F L t s) = .lst [.str "falls", .int n, .int F, .int L, .int 2, .str t, .str s] := lstd_tup _
theorem lstd_ints (l : List Int) : (l.map PV.int).map lstd = l.map PV.int := by
  rw [List.map_map]
  rfl
theorem lstd_story (n : Nat) (B : Nat → Int) (f : Nat → Fall) : lstd (storyV n B f) = .lst [.lst (rng n fun h => .int (B h)), .lst (rng n fun h => lstd (fallV (f h)))] := by
  unfold storyV
  rw [lstd_tup, List.map_cons, List.map_cons, List.map_nil, lstd_tup, lstd_tup, rng_map, rng_map]
  rfl
mutual
theorem lstd_lstd : ∀ v : PV, lstd (lstd v) = lstd v
  | .tup xs => by rw [lstd_tup]; rfl
  | .non => rfl
  | .bl b => rfl
  | .int i => rfl
  | .str x => rfl
  | .lst xs => rfl
  | .dct _ _ => rfl
  | .scr _ => rfl
end
end K86

namespace K86
open PySem PY
/-! ### entries -/
def entV (s : Int) : Option Int → PV
  | none => .non
  | some x => .tup [.int x, .bl (s == x - 2)]
section
variable {Φ : Fns} {fu : Nat}
theorem f_entry (s : Int) (o : Option Int) : Ok (runD Φ fu d0 [.int s, oP o]) (· = entV s o) := by
  rw [runD_eq rfl]
  cases o with
  | none => simp -implicitDefEqProofs only [SR.fin_nx, SR.fin_rt, Ok_ok, ex_nx, R.bind_ok, R.st_ok, SR.next_nx, SR.next_rt, SR.next_bk, SR.next_ct, x_cnon, x_cbl, x_cint, x_cstr, x_var, x_bor, x_bin, x_neg, x_cmp, x_bop, x_bcons, x_not, x_ite, x_tup, x_lst, x_dct1, x_idx, x_slc, x_call, x_bi, x_isi, x_comp, x_nil, x_cons, x_c0, x_c1, x_seq, x_rng1, x_rng2, x_enu, x_keys, y_nil, y_cons, y_asg, y_setI, y_app, y_appPop, y_asgPop, y_ite, y_for, y_while, y_ret, y_retN, y_raise, y_pass, y_brk, y_cont, y_frz, y_exp, b_var, b_tup, b_lst, m_nil, m_cons, g_zero, g_succ, w_nil, w_cons, next_next, next_nil, forF_eq, boolK_nil, boolK_cons, bK_tt, bK_tf, bK_ft, bK_ff, bK_and, bK_or, iteV_bl, iteS_bl, notV_bl, negV_int, condV_bl, seqV_lst, seqV_tup, seqV_scr, enuV_lst, enuV_tup, keysV_dct, compF_eq, biP_1, biP_2, len_lst, len_tup, len_scr, int_int, int_bl, list_lst, list_tup, tuple_lst, tuple_tup, min_int, max_int, abs_int, c_eq, c_ne, c_lt, c_le, c_gt, c_ge, c_is, c_isnot, c_inn, c_notin, in_lst, in_tup, ix_lst, ix_tup, ix_scr, eq_int, eq_bl, eq_str, isNon_non, isNon_int, isNon_tup, isNon_lst, isNon_dct, isNon_bl, isNon_str, bin_add, bin_sub, bin_mod, bin_fdiv, List.set_cons_zero, List.set_cons_succ, List.length_cons, List.length_nil, List.map_cons, List.map_nil, List.cons_append, List.nil_append, List.replicate_succ, List.replicate_zero, ↓reduceIte, Bool.false_eq_true, Int.reduceLT, Int.reducePow, Int.reduceNeg, Int.reduceLE, Int.reduceAdd, Int.reduceSub, Int.reduceMul, Int.reduceMod, Int.reduceDiv, Bool.not_true, Bool.not_false, Bool.true_beq, Bool.false_beq, Bool.and_true, Bool.true_and, Bool.and_false, Bool.false_and, Bool.or_true, Bool.true_or, Bool.or_false, Bool.false_or, Nat.reduceAdd, Nat.reduceSub, Nat.zero_add, Nat.sub_self, part_no, part_int, slc_lst, slc_tup, isNoE, isiV, isiOk, isiP, at_zero, at_1, at_2, at_3, d0, oP_none, entV]
  | some x => simp -implicitDefEqProofs only [SR.fin_nx, SR.fin_rt, Ok_ok, ex_nx, R.bind_ok, R.st_ok, SR.next_nx, SR.next_rt, SR.next_bk, SR.next_ct, x_cnon, x_cbl, x_cint, x_cstr, x_var, x_bor, x_bin, x_neg, x_cmp, x_bop, x_bcons, x_not, x_ite, x_tup, x_lst, x_dct1, x_idx, x_slc, x_call, x_bi, x_isi, x_comp, x_nil, x_cons, x_c0, x_c1, x_seq, x_rng1, x_rng2, x_enu, x_keys, y_nil, y_cons, y_asg, y_setI, y_app, y_appPop, y_asgPop, y_ite, y_for, y_while, y_ret, y_retN, y_raise, y_pass, y_brk, y_cont, y_frz, y_exp, b_var, b_tup, b_lst, m_nil, m_cons, g_zero, g_succ, w_nil, w_cons, next_next, next_nil, forF_eq, boolK_nil, boolK_cons, bK_tt, bK_tf, bK_ft, bK_ff, bK_and, bK_or, iteV_bl, iteS_bl, notV_bl, negV_int, condV_bl, seqV_lst, seqV_tup, seqV_scr, enuV_lst, enuV_tup, keysV_dct, compF_eq, biP_1, biP_2, len_lst, len_tup, len_scr, int_int, int_bl, list_lst, list_tup, tuple_lst, tuple_tup, min_int, max_int, abs_int, c_eq, c_ne, c_lt, c_le, c_gt, c_ge, c_is, c_isnot, c_inn, c_notin, in_lst, in_tup, ix_lst, ix_tup, ix_scr, eq_int, eq_bl, eq_str, isNon_non, isNon_int, isNon_tup, isNon_lst, isNon_dct, isNon_bl, isNon_str, bin_add, bin_sub, bin_mod, bin_fdiv, List.set_cons_zero, List.set_cons_succ, List.length_cons, List.length_nil, List.map_cons, List.map_nil, List.cons_append, List.nil_append, List.replicate_succ, List.replicate_zero, ↓reduceIte, Bool.false_eq_true, Int.reduceLT, Int.reducePow, Int.reduceNeg, Int.reduceLE, Int.reduceAdd, Int.reduceSub, Int.reduceMul, Int.reduceMod, Int.reduceDiv, Bool.not_true, Bool.not_false, Bool.true_beq, Bool.false_beq, Bool.and_true, Bool.true_and, Bool.and_false, Bool.false_and, Bool.or_true, Bool.true_or, Bool.or_false, Bool.false_or, Nat.reduceAdd, Nat.reduceSub, Nat.zero_add, Nat.sub_self, part_no, part_int, slc_lst, slc_tup, isNoE, isiV, isiOk, isiP, at_zero, at_1, at_2, at_3, d0, oP_some, entV]
theorem f_numbers_non (m : Int) : Ok (runD Φ fu d1 [.int m, .non]) (· = .tup [.int (m - 1), .non]) := by
  rw [runD_eq rfl]
  simp -implicitDefEqProofs only [SR.fin_nx, SR.fin_rt, Ok_ok, ex_nx, R.bind_ok, R.st_ok, SR.next_nx, SR.next_rt, SR.next_bk, SR.next_ct, x_cnon, x_cbl, x_cint, x_cstr, x_var, x_bor, x_bin, x_neg, x_cmp, x_bop, x_bcons, x_not, x_ite, x_tup, x_lst, x_dct1, x_idx, x_slc, x_call, x_bi, x_isi, x_comp, x_nil, x_cons, x_c0, x_c1, x_seq, x_rng1, x_rng2, x_enu, x_keys, y_nil, y_cons, y_asg, y_setI, y_app, y_appPop, y_asgPop, y_ite, y_for, y_while, y_ret, y_retN, y_raise, y_pass, y_brk, y_cont, y_frz, y_exp, b_var, b_tup, b_lst, m_nil, m_cons, g_zero, g_succ, w_nil, w_cons, next_next, next_nil, forF_eq, boolK_nil, boolK_cons, bK_tt, bK_tf, bK_ft, bK_ff, bK_and, bK_or, iteV_bl, iteS_bl, notV_bl, negV_int, condV_bl, seqV_lst, seqV_tup, seqV_scr, enuV_lst, enuV_tup, keysV_dct, compF_eq, biP_1, biP_2, len_lst, len_tup, len_scr, int_int, int_bl, list_lst, list_tup, tuple_lst, tuple_tup, min_int, max_int, abs_int, c_eq, c_ne, c_lt, c_le, c_gt, c_ge, c_is, c_isnot, c_inn, c_notin, in_lst, in_tup, ix_lst, ix_tup, ix_scr, eq_int, eq_bl, eq_str, isNon_non, isNon_int, isNon_tup, isNon_lst, isNon_dct, isNon_bl, isNon_str, bin_add, bin_sub, bin_mod, bin_fdiv, List.set_cons_zero, List.set_cons_succ, List.length_cons, List.length_nil, List.map_cons, List.map_nil, List.cons_append, List.nil_append, List.replicate_succ, List.replicate_zero, ↓reduceIte, Bool.false_eq_true, Int.reduceLT, Int.reducePow, Int.reduceNeg, Int.reduceLE, Int.reduceAdd, Int.reduceSub, Int.reduceMul, Int.reduceMod, Int.reduceDiv, Bool.not_true, Bool.not_false, Bool.true_beq, Bool.false_beq, Bool.and_true, Bool.true_and, Bool.and_false, Bool.false_and, Bool.or_true, Bool.true_or, Bool.or_false, Bool.false_or, Nat.reduceAdd, Nat.reduceSub, Nat.zero_add, Nat.sub_self, part_no, part_int, slc_lst, slc_tup, isNoE, isiV, isiOk, isiP, at_zero, at_1, at_2, at_3, d1]
theorem f_numbers (m x : Int) (b : Bool) (e : PV) (he : SeqV e [.int x, .bl b]) : Ok (runD Φ fu d1 [.int m, e]) (· = .tup [.int (if b = true then x - 2 else x - 1), .int x]) := by
  rw [runD_eq rfl]
  rcases he with rfl | rfl <;> cases b <;> simp -implicitDefEqProofs only [SR.fin_nx, SR.fin_rt, Ok_ok, ex_nx, R.bind_ok, R.st_ok, SR.next_nx, SR.next_rt, SR.next_bk, SR.next_ct, x_cnon, x_cbl, x_cint, x_cstr, x_var, x_bor, x_bin, x_neg, x_cmp, x_bop, x_bcons, x_not, x_ite, x_tup, x_lst, x_dct1, x_idx, x_slc, x_call, x_bi, x_isi, x_comp, x_nil, x_cons, x_c0, x_c1, x_seq, x_rng1, x_rng2, x_enu, x_keys, y_nil, y_cons, y_asg, y_setI, y_app, y_appPop, y_asgPop, y_ite, y_for, y_while, y_ret, y_retN, y_raise, y_pass, y_brk, y_cont, y_frz, y_exp, b_var, b_tup, b_lst, m_nil, m_cons, g_zero, g_succ, w_nil, w_cons, next_next, next_nil, forF_eq, boolK_nil, boolK_cons, bK_tt, bK_tf, bK_ft, bK_ff, bK_and, bK_or, iteV_bl, iteS_bl, notV_bl, negV_int, condV_bl, seqV_lst, seqV_tup, seqV_scr, enuV_lst, enuV_tup, keysV_dct, compF_eq, biP_1, biP_2, len_lst, len_tup, len_scr, int_int, int_bl, list_lst, list_tup, tuple_lst, tuple_tup, min_int, max_int, abs_int, c_eq, c_ne, c_lt, c_le, c_gt, c_ge, c_is, c_isnot, c_inn, c_notin, in_lst, in_tup, ix_lst, ix_tup, ix_scr, eq_int, eq_bl, eq_str, isNon_non, isNon_int, isNon_tup, isNon_lst, isNon_dct, isNon_bl, isNon_str, bin_add, bin_sub, bin_mod, bin_fdiv, List.set_cons_zero, List.set_cons_succ, List.length_cons, List.length_nil, List.map_cons, List.map_nil, List.cons_append, List.nil_append, List.replicate_succ, List.replicate_zero, ↓reduceIte, Bool.false_eq_true, Int.reduceLT, Int.reducePow, Int.reduceNeg, Int.reduceLE, Int.reduceAdd, Int.reduceSub, Int.reduceMul, Int.reduceMod, Int.reduceDiv, Bool.not_true, Bool.not_false, Bool.true_beq, Bool.false_beq, Bool.and_true, Bool.true_and, Bool.and_false, Bool.false_and, Bool.or_true, Bool.true_or, Bool.or_false, Bool.false_or, Nat.reduceAdd, Nat.reduceSub, Nat.zero_add, Nat.sub_self, part_no, part_int, slc_lst, slc_tup, isNoE, isiV, isiOk, isiP, at_zero, at_1, at_2, at_3, d1]
end
end K86

namespace K86
open PySem PY
/-! ### what entries can be -/
section
variable {n : Nat} {f : Nat → Fall}
theorem heardL_iff {m h o : Nat} : o ∈ heardL n f m h ↔ o < n ∧ 0 < m ∧ o ≠ h ∧ sentB f m h o = true := by
  unfold heardL
  rw [List.mem_filter, List.mem_range]
  unfold hearsB
  rw [Bool.and_eq_true, Bool.and_eq_true, decide_eq_true_eq, Bool.not_eq_true', beq_eq_false_iff_ne]
  constructor
  · rintro ⟨h1, h2, h3, h4⟩
    exact ⟨h1, by omega, fun e => h3 (by rw [e]), h4⟩
  · rintro ⟨h1, h2, h3, h4⟩
    exact ⟨h1, by omega, fun e => h3 (by omega), h4⟩
theorem sent_lt {m h o : Nat} {r : Int} {l : List Int} (hf : f o = some (r, l)) (hm : (m : Int) < r) : sentB f m h o = true := by
  unfold sentB; rw [hf]
  simp only [Bool.or_eq_true, decide_eq_true_eq]
  exact .inl hm
theorem sent_none {m h o : Nat} (hf : f o = none) : sentB f m h o = true := by unfold sentB; rw [hf]
theorem sent_some {m h o : Nat} {r : Int} {l : List Int} (hf : f o = some (r, l)) : sentB f m h o = true ↔ (m : Int) < r ∨ (r = (m : Int) ∧ (h : Int) ∈ l) := by
  unfold sentB; rw [hf]
  simp only [Bool.or_eq_true, Bool.and_eq_true, decide_eq_true_eq, beq_iff_eq, List.any_eq_true]
  constructor
  · rintro (z | ⟨z, y, hy, rfl⟩)
    · exact .inl z
    · exact .inr ⟨z, hy⟩
  · rintro (z | ⟨z, hy⟩)
    · exact .inl z
    · exact .inr ⟨z, _, hy, rfl⟩
theorem seen_le {m h j : Nat} (hh : h < n) (ha : aliveB f m h = true) (hj : j ≠ h) : seen n f m h j ≤ (m : Int) - 1 := by
  cases m with
  | zero =>
    rcases seenK_in (come n f 0 h) 0 j with z | ⟨a, z1, z2, z3⟩
    · have : seen n f 0 h j = -1 := z
      omega
    · have : (j, a) = (h, 0) := by simpa [come] using z2
      cases this
      exact absurd rfl hj
  | succ m =>
    rcases seen_from hh ha hj with z | ⟨s, hs, z⟩
    · omega
    · rcases seenK_in (come n f m s) m j with y | ⟨a', y1, y2, y3⟩
      · have : seen n f m s j = -1 := y
        omega
      · have : seen n f m s j = (a' : Int) := y3
        omega
theorem seen_heard {m h o : Nat} (ho : o < n) (hoh : o ≠ h) (hs : sentB f (m + 1) h o = true) : (m : Int) ≤ seen n f (m + 1) h o := by
  have h1 := seenK_ge (own_node n f m o) (Nat.le_refl m)
  have h2 : Src n f m h o := by
    refine .inr ⟨ho, ?_⟩
    have : o ∈ heardL n f (m + 1) h := heardL_iff.mpr ⟨ho, by omega, hoh, hs⟩
    exact (List.mem_filter.mp this).2
  exact Int.le_trans h1 (seen_mono h2 o)
theorem seen_time {h j : Nat} : ∀ {m m' : Nat}, m ≤ m' → seen n f m h j ≤ seen n f m' h j := fun {m m'} hm => by
  induction hm with
  | refl => exact Int.le_refl _
  | step _ ih => exact Int.le_trans ih (seen_mono (.inl rfl) j)
/-- heard in the last round: nothing is missed -/
theorem ent_none {m h o : Nat} (hh : h < n) (ho : o < n) (hoh : o ≠ h) (ha : aliveB f m h = true) (hs : sentB f m h o = true) : miss n f m h o = none ∧ seen n f m h o = (m : Int) - 1 := by
  constructor
  · have hm := firstA_min (lackC n f (seen n f m h) o) m
    cases hf : firstA (lackC n f (seen n f m h) o) m with
    | none => exact hf
    | some b =>
      obtain ⟨⟨a, rfl, a1, a2, hl⟩, _⟩ := hm.1 b hf
      obtain ⟨k, k1, k2, k3, k4⟩ := lack_iff.mp hl
      exfalso
      apply k4
      refine heardL_iff.mpr ⟨ho, by omega, fun e => k2 e.symm, ?_⟩
      cases hfo : f o with
      | none => exact sent_none hfo
      | some q =>
        obtain ⟨r, l⟩ := q
        rcases (sent_some hfo).mp hs with z | ⟨z1, z2⟩
        · exact sent_lt hfo (by omega)
        · by_cases ham : a = m
          · subst ham
            by_cases hk : k = h
            · subst hk; exact hs
            · have := seen_le hh ha hk
              omega
          · exact sent_lt hfo (by omega)
  · cases m with
    | zero =>
      have h1 := seen_le hh ha hoh
      have h2 := seenK_m1 (come n f 0 h) 0 o
      have h3 : seenK (come n f 0 h) 0 o = seen n f 0 h o := rfl
      omega
    | succ m =>
      have h1 := seen_le hh ha hoh
      have h2 := seen_heard ho hoh hs
      omega
/-- the round in which it fell is missed or the next one -/
theorem ent_some {m h o : Nat} {r : Int} {l : List Int} (hh : h < n) (ho : o < n) (hoh : o ≠ h) (ha : aliveB f m h = true) (hf : f o = some (r, l)) (hr : 1 ≤ r) (hs : sentB f m h o = false) :
    r - 2 ≤ seen n f m h o ∧ seen n f m h o ≤ r - 1 ∧ (miss n f m h o = some r ∨ (miss n f m h o = some (r + 1) ∧ seen n f m h o = r - 1)) := by
  obtain ⟨q, rfl⟩ := Int.eq_ofNat_of_zero_le (show 0 ≤ r by omega)
  have hn : ¬ ((m : Int) < (q : Int) ∨ ((q : Int) = (m : Int) ∧ (h : Int) ∈ l)) := fun z => by
    rw [(sent_some hf).mpr z] at hs; cases hs
  have hmq : q ≤ m := by
    by_cases z : (m : Int) < (q : Int)
    · exact absurd (.inl z) hn
    · omega
  have up : seen n f m h o ≤ (q : Int) - 1 := by
    rcases seenK_in (come n f m h) m o with z | ⟨a, z1, z2, z3⟩
    · have : seen n f m h o = -1 := z
      omega
    · have e : seen n f m h o = (a : Int) := z3
      have hal := (come_ok hh ha z2).2.2
      unfold aliveB at hal
      rw [hf] at hal
      have := of_decide_eq_true hal
      omega
  have lo : (q : Int) - 2 ≤ seen n f m h o := by
    by_cases hq : q = 1
    · have h2 := seenK_m1 (come n f m h) m o
      have h3 : seenK (come n f m h) m o = seen n f m h o := rfl
      omega
    · obtain ⟨p, rfl⟩ : ∃ p, q = p + 2 := ⟨q - 2, by omega⟩
      have h1 := seen_heard (n := n) (m := p) (h := h) ho hoh (sent_lt hf (by omega))
      have h2 := seen_time (n := n) (f := f) (h := h) (j := o) (show p + 1 ≤ m by omega)
      omega
  have own := seen_own hh ha
  have nolow : ∀ a : Nat, a < q → lackC n f (seen n f m h) o a = true → 1 ≤ a → False := fun a haq hl a1 => by
    obtain ⟨k, k1, k2, k3, k4⟩ := lack_iff.mp hl
    exact k4 (heardL_iff.mpr ⟨ho, by omega, fun e => k2 e.symm, sent_lt hf (by omega)⟩)
  have hm := firstA_min (lackC n f (seen n f m h) o) m
  refine ⟨lo, up, ?_⟩
  cases hA : lackC n f (seen n f m h) o q with
  | true =>
    refine .inl ?_
    refine hm.uniq ⟨fun a ea => ?_, fun e => by cases e⟩
    cases ea
    refine ⟨⟨q, rfl, by omega, hmq, hA⟩, fun b ⟨a', e1, e2, e3, e4⟩ => ?_⟩
    by_cases hlt : a' < q
    · exact (nolow a' hlt e4 e2).elim
    · omega
  | false =>
    have hq1 : (h : Int) ∈ l := by
      by_cases hl : (h : Int) ∈ l
      · exact hl
      · have : lackC n f (seen n f m h) o q = true := lack_iff.mpr ⟨h, hh, fun e => hoh e.symm, by rw [own]; omega, fun hm' => by
          have h4 := (heardL_iff.mp hm').2.2.2
          rcases (sent_some hf).mp h4 with z | ⟨_, z⟩
          · omega
          · exact hl z⟩
        rw [this] at hA; cases hA
    have hqm : q < m := by
      by_cases z : q = m
      · exact absurd (.inr ⟨by omega, hq1⟩) hn
      · omega
    have lk : lackC n f (seen n f m h) o (q + 1) = true := lack_iff.mpr ⟨h, hh, fun e => hoh e.symm, by rw [own]; omega, fun hm' => by
      have h4 := (heardL_iff.mp hm').2.2.2
      rcases (sent_some hf).mp h4 with z | ⟨z, _⟩ <;> omega⟩
    refine .inr ⟨?_, ?_⟩
    · refine hm.uniq ⟨fun a ea => ?_, fun e => by cases e⟩
      have ea' : (q : Int) + 1 = a := Option.some.inj ea
      subst ea'
      refine ⟨⟨q + 1, by omega, by omega, by omega, lk⟩, fun b ⟨a', e1, e2, e3, e4⟩ => ?_⟩
      by_cases hlt : a' < q
      · exact (nolow a' hlt e4 e2).elim
      · by_cases heq : a' = q
        · subst heq; rw [hA] at e4; cases e4
        · omega
    · obtain ⟨p, rfl⟩ : ∃ p, q = p + 1 := ⟨q - 1, by omega⟩
      have h1 := seen_heard (n := n) (m := p) (h := h) ho hoh ((sent_some hf).mpr (.inr ⟨rfl, hq1⟩))
      have h2 := seen_time (n := n) (f := f) (h := h) (j := o) (show p + 1 ≤ m by omega)
      omega
/-- as time goes: seen does not fall, missed does not grow -/
theorem miss_time {m h o : Nat} {b : Int} (hb : miss n f m h o = some b) : ∃ c, miss n f (m + 1) h o = some c ∧ c ≤ b := by
  obtain ⟨⟨a, rfl, a1, a2, hl⟩, _⟩ := (firstA_min (lackC n f (seen n f m h) o) m).1 b hb
  have hl' : lackC n f (seen n f (m + 1) h) o a = true := by
    obtain ⟨k, k1, k2, k3, k4⟩ := lack_iff.mp hl
    exact lack_iff.mpr ⟨k, k1, k2, Int.le_trans k3 (seen_mono (.inl rfl) k), k4⟩
  have hm := firstA_min (lackC n f (seen n f (m + 1) h) o) (m + 1)
  cases hc : firstA (lackC n f (seen n f (m + 1) h) o) (m + 1) with
  | none => exact absurd ⟨a, rfl, a1, by omega, hl'⟩ (hm.2 hc (a : Int))
  | some c => exact ⟨c, hc, (hm.1 c hc).2 _ ⟨a, rfl, a1, by omega, hl'⟩⟩
end
end K86

namespace K86
open PySem PY
/-! ### the law's table -/
def tabV (n : Nat) (B : Nat → Int) (f : Nat → Fall) (m h : Nat) : PV := if aliveB f m h = true then newsV n B f m h else .non
section
variable {Φ : Fns} {fu : Nat}
theorem f_table (n F L : Nat) (t s : Str) (hn : n ≤ 5) (hL : L ≤ 5) (B : Nat → Int) (f : Nat → Fall) (h12 : Φ 18 [tableV n L (heardV n f)] = .ok (tableV n L (comeV n f)))
    (h13 : ∀ m h, m < L + 1 → h < n → aliveB f m h = true → Φ 19 [storyV n B f, tableV n L (heardV n f), dctV (come n f m h), .int (m : Int)] = .ok (newsV n B f m h)) :
    Ok (runD Φ fu d25 [setV n F L t s, storyV n B f, tableV n L (heardV n f)]) (· = tableV n L (tabV n B f)) := by
  rw [runD_eq rfl]
  have s1 : idxP (setV n F L t s) (.int 1) = .ok (.int n) := rfl
  have s3 : idxP (setV n F L t s) (.int 3) = .ok (.int L) := rfl
  have rn := rng1_nat (show n ≤ 1000 by omega)
  have rL := rng1_nat (show L + 1 ≤ 1000 by omega)
  rw [show ((L + 1 : Nat) : Int) = (L : Int) + 1 by omega] at rL
  have Tm : ∀ m, m < L + 1 → idxP (tableV n L (heardV n f)) (.int (m : Int)) = .ok (rowV n (heardV n f m)) := fun m hm => row_at (g := fun m => rowV n (heardV n f m)) hm
  have Cm : ∀ m, m < L + 1 → idxP (tableV n L (comeV n f)) (.int (m : Int)) = .ok (rowV n (comeV n f m)) := fun m hm => row_at (g := fun m => rowV n (comeV n f m)) hm
  simp -implicitDefEqProofs only [SR.fin_nx, SR.fin_rt, Ok_ok, ex_nx, R.bind_ok, R.st_ok, SR.next_nx, SR.next_rt, SR.next_bk, SR.next_ct, x_cnon, x_cbl, x_cint, x_cstr, x_var, x_bor, x_bin, x_neg, x_cmp, x_bop, x_bcons, x_not, x_ite, x_tup, x_lst, x_dct1, x_idx, x_slc, x_call, x_bi, x_isi, x_comp, x_nil, x_cons, x_c0, x_c1, x_seq, x_rng1, x_rng2, x_enu, x_keys, y_nil, y_cons, y_asg, y_setI, y_app, y_appPop, y_asgPop, y_ite, y_for, y_while, y_ret, y_retN, y_raise, y_pass, y_brk, y_cont, y_frz, y_exp, b_var, b_tup, b_lst, m_nil, m_cons, g_zero, g_succ, w_nil, w_cons, next_next, next_nil, forF_eq, boolK_nil, boolK_cons, bK_tt, bK_tf, bK_ft, bK_ff, bK_and, bK_or, iteV_bl, iteS_bl, notV_bl, negV_int, condV_bl, seqV_lst, seqV_tup, seqV_scr, enuV_lst, enuV_tup, keysV_dct, compF_eq, biP_1, biP_2, len_lst, len_tup, len_scr, int_int, int_bl, list_lst, list_tup, tuple_lst, tuple_tup, min_int, max_int, abs_int, c_eq, c_ne, c_lt, c_le, c_gt, c_ge, c_is, c_isnot, c_inn, c_notin, in_lst, in_tup, ix_lst, ix_tup, ix_scr, eq_int, eq_bl, eq_str, isNon_non, isNon_int, isNon_tup, isNon_lst, isNon_dct, isNon_bl, isNon_str, bin_add, bin_sub, bin_mod, bin_fdiv, List.set_cons_zero, List.set_cons_succ, List.length_cons, List.length_nil, List.map_cons, List.map_nil, List.cons_append, List.nil_append, List.replicate_succ, List.replicate_zero, ↓reduceIte, Bool.false_eq_true, Int.reduceLT, Int.reducePow, Int.reduceNeg, Int.reduceLE, Int.reduceAdd, Int.reduceSub, Int.reduceMul, Int.reduceMod, Int.reduceDiv, Bool.not_true, Bool.not_false, Bool.true_beq, Bool.false_beq, Bool.and_true, Bool.true_and, Bool.and_false, Bool.false_and, Bool.or_true, Bool.true_or, Bool.or_false, Bool.false_or, Nat.reduceAdd, Nat.reduceSub, Nat.zero_add, Nat.sub_self, part_no, part_int, slc_lst, slc_tup, isNoE, isiV, isiOk, isiP, at_zero, at_1, at_2, at_3, d25, h12, s3, rL]
  refine forR_ok (fun i e => ∃ y5 y6 y7, e = [some (setV n F L t s), some (storyV n B f), some (tableV n L (heardV n f)), some (tableV n L (comeV n f)), some (rowV i fun m => rowV n (tabV n B f m)), y5, y6, y7]) ⟨_, _, _, rfl⟩ (fun m e hm he => ?_) (fun e he => ?_)
  · obtain ⟨y5, y6, y7, rfl⟩ := he
    simp -implicitDefEqProofs only [SR.fin_nx, SR.fin_rt, Ok_ok, ex_nx, R.bind_ok, R.st_ok, SR.next_nx, SR.next_rt, SR.next_bk, SR.next_ct, x_cnon, x_cbl, x_cint, x_cstr, x_var, x_bor, x_bin, x_neg, x_cmp, x_bop, x_bcons, x_not, x_ite, x_tup, x_lst, x_dct1, x_idx, x_slc, x_call, x_bi, x_isi, x_comp, x_nil, x_cons, x_c0, x_c1, x_seq, x_rng1, x_rng2, x_enu, x_keys, y_nil, y_cons, y_asg, y_setI, y_app, y_appPop, y_asgPop, y_ite, y_for, y_while, y_ret, y_retN, y_raise, y_pass, y_brk, y_cont, y_frz, y_exp, b_var, b_tup, b_lst, m_nil, m_cons, g_zero, g_succ, w_nil, w_cons, next_next, next_nil, forF_eq, boolK_nil, boolK_cons, bK_tt, bK_tf, bK_ft, bK_ff, bK_and, bK_or, iteV_bl, iteS_bl, notV_bl, negV_int, condV_bl, seqV_lst, seqV_tup, seqV_scr, enuV_lst, enuV_tup, keysV_dct, compF_eq, biP_1, biP_2, len_lst, len_tup, len_scr, int_int, int_bl, list_lst, list_tup, tuple_lst, tuple_tup, min_int, max_int, abs_int, c_eq, c_ne, c_lt, c_le, c_gt, c_ge, c_is, c_isnot, c_inn, c_notin, in_lst, in_tup, ix_lst, ix_tup, ix_scr, eq_int, eq_bl, eq_str, isNon_non, isNon_int, isNon_tup, isNon_lst, isNon_dct, isNon_bl, isNon_str, bin_add, bin_sub, bin_mod, bin_fdiv, List.set_cons_zero, List.set_cons_succ, List.length_cons, List.length_nil, List.map_cons, List.map_nil, List.cons_append, List.nil_append, List.replicate_succ, List.replicate_zero, ↓reduceIte, Bool.false_eq_true, Int.reduceLT, Int.reducePow, Int.reduceNeg, Int.reduceLE, Int.reduceAdd, Int.reduceSub, Int.reduceMul, Int.reduceMod, Int.reduceDiv, Bool.not_true, Bool.not_false, Bool.true_beq, Bool.false_beq, Bool.and_true, Bool.true_and, Bool.and_false, Bool.false_and, Bool.or_true, Bool.true_or, Bool.or_false, Bool.false_or, Nat.reduceAdd, Nat.reduceSub, Nat.zero_add, Nat.sub_self, part_no, part_int, slc_lst, slc_tup, isNoE, isiV, isiOk, isiP, at_zero, at_1, at_2, at_3, s1, rn]
    refine forR_ex (fun i e => ∃ y7, e = [some (setV n F L t s), some (storyV n B f), some (tableV n L (heardV n f)), some (tableV n L (comeV n f)), some (rowV m fun m => rowV n (tabV n B f m)), some (.int (m : Int)), some (rowV i (tabV n B f m)), y7]) ⟨_, rfl⟩ (fun h e hh he => ?_) (fun e he => ?_)
    · obtain ⟨y7, rfl⟩ := he
      have Th : idxP (rowV n (heardV n f m)) (.int (h : Int)) = .ok (heardV n f m h) := row_at hh
      have Ch : idxP (rowV n (comeV n f m)) (.int (h : Int)) = .ok (comeV n f m h) := row_at hh
      have ap := app_row (n := h) (g := tabV n B f m) (by omega)
      cases ha : aliveB f m h with
      | false =>
        have e1 : heardV n f m h = .non := by unfold heardV; rw [ha]; rfl
        have e2 : tabV n B f m h = .non := by unfold tabV; rw [ha]; rfl
        rw [e1] at Th
        rw [e2] at ap
        simp -implicitDefEqProofs only [SR.fin_nx, SR.fin_rt, Ok_ok, ex_nx, R.bind_ok, R.st_ok, SR.next_nx, SR.next_rt, SR.next_bk, SR.next_ct, x_cnon, x_cbl, x_cint, x_cstr, x_var, x_bor, x_bin, x_neg, x_cmp, x_bop, x_bcons, x_not, x_ite, x_tup, x_lst, x_dct1, x_idx, x_slc, x_call, x_bi, x_isi, x_comp, x_nil, x_cons, x_c0, x_c1, x_seq, x_rng1, x_rng2, x_enu, x_keys, y_nil, y_cons, y_asg, y_setI, y_app, y_appPop, y_asgPop, y_ite, y_for, y_while, y_ret, y_retN, y_raise, y_pass, y_brk, y_cont, y_frz, y_exp, b_var, b_tup, b_lst, m_nil, m_cons, g_zero, g_succ, w_nil, w_cons, next_next, next_nil, forF_eq, boolK_nil, boolK_cons, bK_tt, bK_tf, bK_ft, bK_ff, bK_and, bK_or, iteV_bl, iteS_bl, notV_bl, negV_int, condV_bl, seqV_lst, seqV_tup, seqV_scr, enuV_lst, enuV_tup, keysV_dct, compF_eq, biP_1, biP_2, len_lst, len_tup, len_scr, int_int, int_bl, list_lst, list_tup, tuple_lst, tuple_tup, min_int, max_int, abs_int, c_eq, c_ne, c_lt, c_le, c_gt, c_ge, c_is, c_isnot, c_inn, c_notin, in_lst, in_tup, ix_lst, ix_tup, ix_scr, eq_int, eq_bl, eq_str, isNon_non, isNon_int, isNon_tup, isNon_lst, isNon_dct, isNon_bl, isNon_str, bin_add, bin_sub, bin_mod, bin_fdiv, List.set_cons_zero, List.set_cons_succ, List.length_cons, List.length_nil, List.map_cons, List.map_nil, List.cons_append, List.nil_append, List.replicate_succ, List.replicate_zero, ↓reduceIte, Bool.false_eq_true, Int.reduceLT, Int.reducePow, Int.reduceNeg, Int.reduceLE, Int.reduceAdd, Int.reduceSub, Int.reduceMul, Int.reduceMod, Int.reduceDiv, Bool.not_true, Bool.not_false, Bool.true_beq, Bool.false_beq, Bool.and_true, Bool.true_and, Bool.and_false, Bool.false_and, Bool.or_true, Bool.true_or, Bool.or_false, Bool.false_or, Nat.reduceAdd, Nat.reduceSub, Nat.zero_add, Nat.sub_self, part_no, part_int, slc_lst, slc_tup, isNoE, isiV, isiOk, isiP, at_zero, at_1, at_2, at_3, Tm m hm, Th, ap]
        exact ⟨_, rfl⟩
      | true =>
        have e1 : heardV n f m h = .lst ((heardL n f m h).map fun j : Nat => PV.int (j : Int)) := by unfold heardV; rw [ha]; rfl
        have e2 : tabV n B f m h = newsV n B f m h := by unfold tabV; rw [ha]; rfl
        have e3 : comeV n f m h = dctV (come n f m h) := by unfold comeV; rw [ha]; rfl
        rw [e1] at Th
        rw [e3] at Ch
        rw [e2] at ap
        simp -implicitDefEqProofs only [SR.fin_nx, SR.fin_rt, Ok_ok, ex_nx, R.bind_ok, R.st_ok, SR.next_nx, SR.next_rt, SR.next_bk, SR.next_ct, x_cnon, x_cbl, x_cint, x_cstr, x_var, x_bor, x_bin, x_neg, x_cmp, x_bop, x_bcons, x_not, x_ite, x_tup, x_lst, x_dct1, x_idx, x_slc, x_call, x_bi, x_isi, x_comp, x_nil, x_cons, x_c0, x_c1, x_seq, x_rng1, x_rng2, x_enu, x_keys, y_nil, y_cons, y_asg, y_setI, y_app, y_appPop, y_asgPop, y_ite, y_for, y_while, y_ret, y_retN, y_raise, y_pass, y_brk, y_cont, y_frz, y_exp, b_var, b_tup, b_lst, m_nil, m_cons, g_zero, g_succ, w_nil, w_cons, next_next, next_nil, forF_eq, boolK_nil, boolK_cons, bK_tt, bK_tf, bK_ft, bK_ff, bK_and, bK_or, iteV_bl, iteS_bl, notV_bl, negV_int, condV_bl, seqV_lst, seqV_tup, seqV_scr, enuV_lst, enuV_tup, keysV_dct, compF_eq, biP_1, biP_2, len_lst, len_tup, len_scr, int_int, int_bl, list_lst, list_tup, tuple_lst, tuple_tup, min_int, max_int, abs_int, c_eq, c_ne, c_lt, c_le, c_gt, c_ge, c_is, c_isnot, c_inn, c_notin, in_lst, in_tup, ix_lst, ix_tup, ix_scr, eq_int, eq_bl, eq_str, isNon_non, isNon_int, isNon_tup, isNon_lst, isNon_dct, isNon_bl, isNon_str, bin_add, bin_sub, bin_mod, bin_fdiv, List.set_cons_zero, List.set_cons_succ, List.length_cons, List.length_nil, List.map_cons, List.map_nil, List.cons_append, List.nil_append, List.replicate_succ, List.replicate_zero, ↓reduceIte, Bool.false_eq_true, Int.reduceLT, Int.reducePow, Int.reduceNeg, Int.reduceLE, Int.reduceAdd, Int.reduceSub, Int.reduceMul, Int.reduceMod, Int.reduceDiv, Bool.not_true, Bool.not_false, Bool.true_beq, Bool.false_beq, Bool.and_true, Bool.true_and, Bool.and_false, Bool.false_and, Bool.or_true, Bool.true_or, Bool.or_false, Bool.false_or, Nat.reduceAdd, Nat.reduceSub, Nat.zero_add, Nat.sub_self, part_no, part_int, slc_lst, slc_tup, isNoE, isiV, isiOk, isiP, at_zero, at_1, at_2, at_3, Tm m hm, Th, Cm m hm, Ch, h13 m h hm hh ha, ap]
        exact ⟨_, rfl⟩
    · obtain ⟨y7, rfl⟩ := he
      have ap := app_row (n := m) (g := fun m => rowV n (tabV n B f m)) (by omega)
      simp -implicitDefEqProofs only [SR.fin_nx, SR.fin_rt, Ok_ok, ex_nx, R.bind_ok, R.st_ok, SR.next_nx, SR.next_rt, SR.next_bk, SR.next_ct, x_cnon, x_cbl, x_cint, x_cstr, x_var, x_bor, x_bin, x_neg, x_cmp, x_bop, x_bcons, x_not, x_ite, x_tup, x_lst, x_dct1, x_idx, x_slc, x_call, x_bi, x_isi, x_comp, x_nil, x_cons, x_c0, x_c1, x_seq, x_rng1, x_rng2, x_enu, x_keys, y_nil, y_cons, y_asg, y_setI, y_app, y_appPop, y_asgPop, y_ite, y_for, y_while, y_ret, y_retN, y_raise, y_pass, y_brk, y_cont, y_frz, y_exp, b_var, b_tup, b_lst, m_nil, m_cons, g_zero, g_succ, w_nil, w_cons, next_next, next_nil, forF_eq, boolK_nil, boolK_cons, bK_tt, bK_tf, bK_ft, bK_ff, bK_and, bK_or, iteV_bl, iteS_bl, notV_bl, negV_int, condV_bl, seqV_lst, seqV_tup, seqV_scr, enuV_lst, enuV_tup, keysV_dct, compF_eq, biP_1, biP_2, len_lst, len_tup, len_scr, int_int, int_bl, list_lst, list_tup, tuple_lst, tuple_tup, min_int, max_int, abs_int, c_eq, c_ne, c_lt, c_le, c_gt, c_ge, c_is, c_isnot, c_inn, c_notin, in_lst, in_tup, ix_lst, ix_tup, ix_scr, eq_int, eq_bl, eq_str, isNon_non, isNon_int, isNon_tup, isNon_lst, isNon_dct, isNon_bl, isNon_str, bin_add, bin_sub, bin_mod, bin_fdiv, List.set_cons_zero, List.set_cons_succ, List.length_cons, List.length_nil, List.map_cons, List.map_nil, List.cons_append, List.nil_append, List.replicate_succ, List.replicate_zero, ↓reduceIte, Bool.false_eq_true, Int.reduceLT, Int.reducePow, Int.reduceNeg, Int.reduceLE, Int.reduceAdd, Int.reduceSub, Int.reduceMul, Int.reduceMod, Int.reduceDiv, Bool.not_true, Bool.not_false, Bool.true_beq, Bool.false_beq, Bool.and_true, Bool.true_and, Bool.and_false, Bool.false_and, Bool.or_true, Bool.true_or, Bool.or_false, Bool.false_or, Nat.reduceAdd, Nat.reduceSub, Nat.zero_add, Nat.sub_self, part_no, part_int, slc_lst, slc_tup, isNoE, isiV, isiOk, isiP, at_zero, at_1, at_2, at_3, ap]
      exact ⟨_, _, _, rfl⟩
  · obtain ⟨y5, y6, y7, rfl⟩ := he
    simp -implicitDefEqProofs only [SR.fin_nx, SR.fin_rt, Ok_ok, ex_nx, R.bind_ok, R.st_ok, SR.next_nx, SR.next_rt, SR.next_bk, SR.next_ct, x_cnon, x_cbl, x_cint, x_cstr, x_var, x_bor, x_bin, x_neg, x_cmp, x_bop, x_bcons, x_not, x_ite, x_tup, x_lst, x_dct1, x_idx, x_slc, x_call, x_bi, x_isi, x_comp, x_nil, x_cons, x_c0, x_c1, x_seq, x_rng1, x_rng2, x_enu, x_keys, y_nil, y_cons, y_asg, y_setI, y_app, y_appPop, y_asgPop, y_ite, y_for, y_while, y_ret, y_retN, y_raise, y_pass, y_brk, y_cont, y_frz, y_exp, b_var, b_tup, b_lst, m_nil, m_cons, g_zero, g_succ, w_nil, w_cons, next_next, next_nil, forF_eq, boolK_nil, boolK_cons, bK_tt, bK_tf, bK_ft, bK_ff, bK_and, bK_or, iteV_bl, iteS_bl, notV_bl, negV_int, condV_bl, seqV_lst, seqV_tup, seqV_scr, enuV_lst, enuV_tup, keysV_dct, compF_eq, biP_1, biP_2, len_lst, len_tup, len_scr, int_int, int_bl, list_lst, list_tup, tuple_lst, tuple_tup, min_int, max_int, abs_int, c_eq, c_ne, c_lt, c_le, c_gt, c_ge, c_is, c_isnot, c_inn, c_notin, in_lst, in_tup, ix_lst, ix_tup, ix_scr, eq_int, eq_bl, eq_str, isNon_non, isNon_int, isNon_tup, isNon_lst, isNon_dct, isNon_bl, isNon_str, bin_add, bin_sub, bin_mod, bin_fdiv, List.set_cons_zero, List.set_cons_succ, List.length_cons, List.length_nil, List.map_cons, List.map_nil, List.cons_append, List.nil_append, List.replicate_succ, List.replicate_zero, ↓reduceIte, Bool.false_eq_true, Int.reduceLT, Int.reducePow, Int.reduceNeg, Int.reduceLE, Int.reduceAdd, Int.reduceSub, Int.reduceMul, Int.reduceMod, Int.reduceDiv, Bool.not_true, Bool.not_false, Bool.true_beq, Bool.false_beq, Bool.and_true, Bool.true_and, Bool.and_false, Bool.false_and, Bool.or_true, Bool.true_or, Bool.or_false, Bool.false_or, Nat.reduceAdd, Nat.reduceSub, Nat.zero_add, Nat.sub_self, part_no, part_int, slc_lst, slc_tup, isNoE, isiV, isiOk, isiP, at_zero, at_1, at_2, at_3]
    rfl
end
end K86

namespace K86
open PySem PY
theorem ent_none' (s : Int) : entV s none = .non := rfl
theorem ent_some' (s x : Int) : entV s (some x) = .tup [.int x, .bl (s == x - 2)] := rfl
theorem shp_ent (s : Int) (o : Option Int) : Shp 1 (entV s o) := by
  cases o with
  | none => exact Shp.non 1
  | some x =>
    refine Shp.tup fun y hy => ?_
    simp only [List.mem_cons, List.not_mem_nil, or_false] at hy
    rcases hy with rfl | rfl
    · exact Shp.int 0 _
    · exact Shp.bl 0 _
section
variable {Φ : Fns} {fu : Nat}
theorem f_sameentry (h6 : H6 Φ) (s : Int) (o : Option Int) : Ok (runD Φ fu d22 [entV s o, entV s o]) (· = .bl true) := by
  rw [runD_eq rfl]
  have e0 := eq_self (shp_ent s o) (by decide)
  cases o with
  | none => simp -implicitDefEqProofs only [SR.fin_nx, SR.fin_rt, Ok_ok, ex_nx, R.bind_ok, R.st_ok, SR.next_nx, SR.next_rt, SR.next_bk, SR.next_ct, x_cnon, x_cbl, x_cint, x_cstr, x_var, x_bor, x_bin, x_neg, x_cmp, x_bop, x_bcons, x_not, x_ite, x_tup, x_lst, x_dct1, x_idx, x_slc, x_call, x_bi, x_isi, x_comp, x_nil, x_cons, x_c0, x_c1, x_seq, x_rng1, x_rng2, x_enu, x_keys, y_nil, y_cons, y_asg, y_setI, y_app, y_appPop, y_asgPop, y_ite, y_for, y_while, y_ret, y_retN, y_raise, y_pass, y_brk, y_cont, y_frz, y_exp, b_var, b_tup, b_lst, m_nil, m_cons, g_zero, g_succ, w_nil, w_cons, next_next, next_nil, forF_eq, boolK_nil, boolK_cons, bK_tt, bK_tf, bK_ft, bK_ff, bK_and, bK_or, iteV_bl, iteS_bl, notV_bl, negV_int, condV_bl, seqV_lst, seqV_tup, seqV_scr, enuV_lst, enuV_tup, keysV_dct, compF_eq, biP_1, biP_2, len_lst, len_tup, len_scr, int_int, int_bl, list_lst, list_tup, tuple_lst, tuple_tup, min_int, max_int, abs_int, c_eq, c_ne, c_lt, c_le, c_gt, c_ge, c_is, c_isnot, c_inn, c_notin, in_lst, in_tup, ix_lst, ix_tup, ix_scr, eq_int, eq_bl, eq_str, isNon_non, isNon_int, isNon_tup, isNon_lst, isNon_dct, isNon_bl, isNon_str, bin_add, bin_sub, bin_mod, bin_fdiv, List.set_cons_zero, List.set_cons_succ, List.length_cons, List.length_nil, List.map_cons, List.map_nil, List.cons_append, List.nil_append, List.replicate_succ, List.replicate_zero, ↓reduceIte, Bool.false_eq_true, Int.reduceLT, Int.reducePow, Int.reduceNeg, Int.reduceLE, Int.reduceAdd, Int.reduceSub, Int.reduceMul, Int.reduceMod, Int.reduceDiv, Bool.not_true, Bool.not_false, Bool.true_beq, Bool.false_beq, Bool.and_true, Bool.true_and, Bool.and_false, Bool.false_and, Bool.or_true, Bool.true_or, Bool.or_false, Bool.false_or, Nat.reduceAdd, Nat.reduceSub, Nat.zero_add, Nat.sub_self, part_no, part_int, slc_lst, slc_tup, isNoE, isiV, isiOk, isiP, at_zero, at_1, at_2, at_3, d22, ent_none']
  | some x =>
    have w : Φ 12 [.int x] = .ok (.bl true) := h6 (.int x) rfl
    rw [ent_some'] at e0
    have t2 : (((2 : Nat) : Int) == 2) = true := rfl
    simp -implicitDefEqProofs only [SR.fin_nx, SR.fin_rt, Ok_ok, ex_nx, R.bind_ok, R.st_ok, SR.next_nx, SR.next_rt, SR.next_bk, SR.next_ct, x_cnon, x_cbl, x_cint, x_cstr, x_var, x_bor, x_bin, x_neg, x_cmp, x_bop, x_bcons, x_not, x_ite, x_tup, x_lst, x_dct1, x_idx, x_slc, x_call, x_bi, x_isi, x_comp, x_nil, x_cons, x_c0, x_c1, x_seq, x_rng1, x_rng2, x_enu, x_keys, y_nil, y_cons, y_asg, y_setI, y_app, y_appPop, y_asgPop, y_ite, y_for, y_while, y_ret, y_retN, y_raise, y_pass, y_brk, y_cont, y_frz, y_exp, b_var, b_tup, b_lst, m_nil, m_cons, g_zero, g_succ, w_nil, w_cons, next_next, next_nil, forF_eq, boolK_nil, boolK_cons, bK_tt, bK_tf, bK_ft, bK_ff, bK_and, bK_or, iteV_bl, iteS_bl, notV_bl, negV_int, condV_bl, seqV_lst, seqV_tup, seqV_scr, enuV_lst, enuV_tup, keysV_dct, compF_eq, biP_1, biP_2, len_lst, len_tup, len_scr, int_int, int_bl, list_lst, list_tup, tuple_lst, tuple_tup, min_int, max_int, abs_int, c_eq, c_ne, c_lt, c_le, c_gt, c_ge, c_is, c_isnot, c_inn, c_notin, in_lst, in_tup, ix_lst, ix_tup, ix_scr, eq_int, eq_bl, eq_str, isNon_non, isNon_int, isNon_tup, isNon_lst, isNon_dct, isNon_bl, isNon_str, bin_add, bin_sub, bin_mod, bin_fdiv, List.set_cons_zero, List.set_cons_succ, List.length_cons, List.length_nil, List.map_cons, List.map_nil, List.cons_append, List.nil_append, List.replicate_succ, List.replicate_zero, ↓reduceIte, Bool.false_eq_true, Int.reduceLT, Int.reducePow, Int.reduceNeg, Int.reduceLE, Int.reduceAdd, Int.reduceSub, Int.reduceMul, Int.reduceMod, Int.reduceDiv, Bool.not_true, Bool.not_false, Bool.true_beq, Bool.false_beq, Bool.and_true, Bool.true_and, Bool.and_false, Bool.false_and, Bool.or_true, Bool.true_or, Bool.or_false, Bool.false_or, Nat.reduceAdd, Nat.reduceSub, Nat.zero_add, Nat.sub_self, part_no, part_int, slc_lst, slc_tup, isNoE, isiV, isiOk, isiP, at_zero, at_1, at_2, at_3, d22, ent_some', w, e0, t2]
/-- is the entry one that can be -/
theorem f_canbe_none (fv : PV) (h m : Int) (e : PV) (he : e = .non) (hc : fv = .non ∨ ∃ (r : Int) (l : List Int), fv = fallV (some (r, l)) ∧ (m < r ∨ (r = m ∧ h ∈ l))) : Ok (runD Φ fu d27 [fv, .int h, .int m, e]) (· = .bl true) := by
  rw [runD_eq rfl]
  subst he
  rcases hc with rfl | ⟨r, l, rfl, hc⟩
  · simp -implicitDefEqProofs only [SR.fin_nx, SR.fin_rt, Ok_ok, ex_nx, R.bind_ok, R.st_ok, SR.next_nx, SR.next_rt, SR.next_bk, SR.next_ct, x_cnon, x_cbl, x_cint, x_cstr, x_var, x_bor, x_bin, x_neg, x_cmp, x_bop, x_bcons, x_not, x_ite, x_tup, x_lst, x_dct1, x_idx, x_slc, x_call, x_bi, x_isi, x_comp, x_nil, x_cons, x_c0, x_c1, x_seq, x_rng1, x_rng2, x_enu, x_keys, y_nil, y_cons, y_asg, y_setI, y_app, y_appPop, y_asgPop, y_ite, y_for, y_while, y_ret, y_retN, y_raise, y_pass, y_brk, y_cont, y_frz, y_exp, b_var, b_tup, b_lst, m_nil, m_cons, g_zero, g_succ, w_nil, w_cons, next_next, next_nil, forF_eq, boolK_nil, boolK_cons, bK_tt, bK_tf, bK_ft, bK_ff, bK_and, bK_or, iteV_bl, iteS_bl, notV_bl, negV_int, condV_bl, seqV_lst, seqV_tup, seqV_scr, enuV_lst, enuV_tup, keysV_dct, compF_eq, biP_1, biP_2, len_lst, len_tup, len_scr, int_int, int_bl, list_lst, list_tup, tuple_lst, tuple_tup, min_int, max_int, abs_int, c_eq, c_ne, c_lt, c_le, c_gt, c_ge, c_is, c_isnot, c_inn, c_notin, in_lst, in_tup, ix_lst, ix_tup, ix_scr, eq_int, eq_bl, eq_str, isNon_non, isNon_int, isNon_tup, isNon_lst, isNon_dct, isNon_bl, isNon_str, bin_add, bin_sub, bin_mod, bin_fdiv, List.set_cons_zero, List.set_cons_succ, List.length_cons, List.length_nil, List.map_cons, List.map_nil, List.cons_append, List.nil_append, List.replicate_succ, List.replicate_zero, ↓reduceIte, Bool.false_eq_true, Int.reduceLT, Int.reducePow, Int.reduceNeg, Int.reduceLE, Int.reduceAdd, Int.reduceSub, Int.reduceMul, Int.reduceMod, Int.reduceDiv, Bool.not_true, Bool.not_false, Bool.true_beq, Bool.false_beq, Bool.and_true, Bool.true_and, Bool.and_false, Bool.false_and, Bool.or_true, Bool.true_or, Bool.or_false, Bool.false_or, Nat.reduceAdd, Nat.reduceSub, Nat.zero_add, Nat.sub_self, part_no, part_int, slc_lst, slc_tup, isNoE, isiV, isiOk, isiP, at_zero, at_1, at_2, at_3, d27]
  · rcases hc with hc | ⟨rfl, hc⟩
    · have d1 : decide (m < r) = true := decide_eq_true hc
      simp -implicitDefEqProofs only [SR.fin_nx, SR.fin_rt, Ok_ok, ex_nx, R.bind_ok, R.st_ok, SR.next_nx, SR.next_rt, SR.next_bk, SR.next_ct, x_cnon, x_cbl, x_cint, x_cstr, x_var, x_bor, x_bin, x_neg, x_cmp, x_bop, x_bcons, x_not, x_ite, x_tup, x_lst, x_dct1, x_idx, x_slc, x_call, x_bi, x_isi, x_comp, x_nil, x_cons, x_c0, x_c1, x_seq, x_rng1, x_rng2, x_enu, x_keys, y_nil, y_cons, y_asg, y_setI, y_app, y_appPop, y_asgPop, y_ite, y_for, y_while, y_ret, y_retN, y_raise, y_pass, y_brk, y_cont, y_frz, y_exp, b_var, b_tup, b_lst, m_nil, m_cons, g_zero, g_succ, w_nil, w_cons, next_next, next_nil, forF_eq, boolK_nil, boolK_cons, bK_tt, bK_tf, bK_ft, bK_ff, bK_and, bK_or, iteV_bl, iteS_bl, notV_bl, negV_int, condV_bl, seqV_lst, seqV_tup, seqV_scr, enuV_lst, enuV_tup, keysV_dct, compF_eq, biP_1, biP_2, len_lst, len_tup, len_scr, int_int, int_bl, list_lst, list_tup, tuple_lst, tuple_tup, min_int, max_int, abs_int, c_eq, c_ne, c_lt, c_le, c_gt, c_ge, c_is, c_isnot, c_inn, c_notin, in_lst, in_tup, ix_lst, ix_tup, ix_scr, eq_int, eq_bl, eq_str, isNon_non, isNon_int, isNon_tup, isNon_lst, isNon_dct, isNon_bl, isNon_str, bin_add, bin_sub, bin_mod, bin_fdiv, List.set_cons_zero, List.set_cons_succ, List.length_cons, List.length_nil, List.map_cons, List.map_nil, List.cons_append, List.nil_append, List.replicate_succ, List.replicate_zero, ↓reduceIte, Bool.false_eq_true, Int.reduceLT, Int.reducePow, Int.reduceNeg, Int.reduceLE, Int.reduceAdd, Int.reduceSub, Int.reduceMul, Int.reduceMod, Int.reduceDiv, Bool.not_true, Bool.not_false, Bool.true_beq, Bool.false_beq, Bool.and_true, Bool.true_and, Bool.and_false, Bool.false_and, Bool.or_true, Bool.true_or, Bool.or_false, Bool.false_or, Nat.reduceAdd, Nat.reduceSub, Nat.zero_add, Nat.sub_self, part_no, part_int, slc_lst, slc_tup, isNoE, isiV, isiOk, isiP, at_zero, at_1, at_2, at_3, d27, fall_some, d1]
    · have d2 : (r == r) = true := beq_self_eq_true r
      have d3 : (l.any fun y => y == h) = true := List.any_eq_true.mpr ⟨h, hc, by simp⟩
      simp -implicitDefEqProofs only [SR.fin_nx, SR.fin_rt, Ok_ok, ex_nx, R.bind_ok, R.st_ok, SR.next_nx, SR.next_rt, SR.next_bk, SR.next_ct, x_cnon, x_cbl, x_cint, x_cstr, x_var, x_bor, x_bin, x_neg, x_cmp, x_bop, x_bcons, x_not, x_ite, x_tup, x_lst, x_dct1, x_idx, x_slc, x_call, x_bi, x_isi, x_comp, x_nil, x_cons, x_c0, x_c1, x_seq, x_rng1, x_rng2, x_enu, x_keys, y_nil, y_cons, y_asg, y_setI, y_app, y_appPop, y_asgPop, y_ite, y_for, y_while, y_ret, y_retN, y_raise, y_pass, y_brk, y_cont, y_frz, y_exp, b_var, b_tup, b_lst, m_nil, m_cons, g_zero, g_succ, w_nil, w_cons, next_next, next_nil, forF_eq, boolK_nil, boolK_cons, bK_tt, bK_tf, bK_ft, bK_ff, bK_and, bK_or, iteV_bl, iteS_bl, notV_bl, negV_int, condV_bl, seqV_lst, seqV_tup, seqV_scr, enuV_lst, enuV_tup, keysV_dct, compF_eq, biP_1, biP_2, len_lst, len_tup, len_scr, int_int, int_bl, list_lst, list_tup, tuple_lst, tuple_tup, min_int, max_int, abs_int, c_eq, c_ne, c_lt, c_le, c_gt, c_ge, c_is, c_isnot, c_inn, c_notin, in_lst, in_tup, ix_lst, ix_tup, ix_scr, eq_int, eq_bl, eq_str, isNon_non, isNon_int, isNon_tup, isNon_lst, isNon_dct, isNon_bl, isNon_str, bin_add, bin_sub, bin_mod, bin_fdiv, List.set_cons_zero, List.set_cons_succ, List.length_cons, List.length_nil, List.map_cons, List.map_nil, List.cons_append, List.nil_append, List.replicate_succ, List.replicate_zero, ↓reduceIte, Bool.false_eq_true, Int.reduceLT, Int.reducePow, Int.reduceNeg, Int.reduceLE, Int.reduceAdd, Int.reduceSub, Int.reduceMul, Int.reduceMod, Int.reduceDiv, Bool.not_true, Bool.not_false, Bool.true_beq, Bool.false_beq, Bool.and_true, Bool.true_and, Bool.and_false, Bool.false_and, Bool.or_true, Bool.true_or, Bool.or_false, Bool.false_or, Nat.reduceAdd, Nat.reduceSub, Nat.zero_add, Nat.sub_self, part_no, part_int, slc_lst, slc_tup, isNoE, isiV, isiOk, isiP, at_zero, at_1, at_2, at_3, d27, fall_some, d2, inSeq_ints, d3]
theorem f_canbe_some (r : Int) (l : List Int) (h m s x : Int) (hc : ¬ (m < r ∨ (r = m ∧ h ∈ l))) (hx : x = r ∨ (x = r + 1 ∧ s = r - 1)) : Ok (runD Φ fu d27 [fallV (some (r, l)), .int h, .int m, entV s (some x)]) (· = .bl true) := by
  rw [runD_eq rfl]
  have d1 : decide (m < r) = false := decide_eq_false fun z => hc (.inl z)
  have d2 : ((m == r) && l.any fun y => y == h) = false := by
    cases hb : ((m == r) && l.any fun y => y == h) with
    | false => rfl
    | true =>
      rw [Bool.and_eq_true, beq_iff_eq, List.any_eq_true] at hb
      obtain ⟨h1, y, h2, h3⟩ := hb
      have := beq_iff_eq.mp h3
      subst this
      exact absurd (.inr ⟨h1.symm, h2⟩) hc
  have q : inSeqP (.tup [.int x, .bl (s == x - 2)]) [.tup [.int r, .bl true], .tup [.int r, .bl false], .tup [.int (r + 1), .bl true]] = .ok true := by
    unfold inSeqP
    have h1 : shapedP (.tup [.int x, .bl (s == x - 2)]) = true := (shp_ent s (some x)).ok (by decide)
    have h2 : shapedP (.lst [.tup [.int r, .bl true], .tup [.int r, .bl false], .tup [.int (r + 1), .bl true]]) = true := rfl
    rw [h1, h2]
    rcases hx with rfl | ⟨rfl, rfl⟩
    · cases hb : (s == x - 2) <;> simp [eqv, eqvs]
    · have : (r - 1 == r + 1 - 2) = true := by rw [beq_iff_eq]; omega
      rw [this]
      simp [eqv, eqvs]
  simp -implicitDefEqProofs only [SR.fin_nx, SR.fin_rt, Ok_ok, ex_nx, R.bind_ok, R.st_ok, SR.next_nx, SR.next_rt, SR.next_bk, SR.next_ct, x_cnon, x_cbl, x_cint, x_cstr, x_var, x_bor, x_bin, x_neg, x_cmp, x_bop, x_bcons, x_not, x_ite, x_tup, x_lst, x_dct1, x_idx, x_slc, x_call, x_bi, x_isi, x_comp, x_nil, x_cons, x_c0, x_c1, x_seq, x_rng1, x_rng2, x_enu, x_keys, y_nil, y_cons, y_asg, y_setI, y_app, y_appPop, y_asgPop, y_ite, y_for, y_while, y_ret, y_retN, y_raise, y_pass, y_brk, y_cont, y_frz, y_exp, b_var, b_tup, b_lst, m_nil, m_cons, g_zero, g_succ, w_nil, w_cons, next_next, next_nil, forF_eq, boolK_nil, boolK_cons, bK_tt, bK_tf, bK_ft, bK_ff, bK_and, bK_or, iteV_bl, iteS_bl, notV_bl, negV_int, condV_bl, seqV_lst, seqV_tup, seqV_scr, enuV_lst, enuV_tup, keysV_dct, compF_eq, biP_1, biP_2, len_lst, len_tup, len_scr, int_int, int_bl, list_lst, list_tup, tuple_lst, tuple_tup, min_int, max_int, abs_int, c_eq, c_ne, c_lt, c_le, c_gt, c_ge, c_is, c_isnot, c_inn, c_notin, in_lst, in_tup, ix_lst, ix_tup, ix_scr, eq_int, eq_bl, eq_str, isNon_non, isNon_int, isNon_tup, isNon_lst, isNon_dct, isNon_bl, isNon_str, bin_add, bin_sub, bin_mod, bin_fdiv, List.set_cons_zero, List.set_cons_succ, List.length_cons, List.length_nil, List.map_cons, List.map_nil, List.cons_append, List.nil_append, List.replicate_succ, List.replicate_zero, ↓reduceIte, Bool.false_eq_true, Int.reduceLT, Int.reducePow, Int.reduceNeg, Int.reduceLE, Int.reduceAdd, Int.reduceSub, Int.reduceMul, Int.reduceMod, Int.reduceDiv, Bool.not_true, Bool.not_false, Bool.true_beq, Bool.false_beq, Bool.and_true, Bool.true_and, Bool.and_false, Bool.false_and, Bool.or_true, Bool.true_or, Bool.or_false, Bool.false_or, Nat.reduceAdd, Nat.reduceSub, Nat.zero_add, Nat.sub_self, part_no, part_int, slc_lst, slc_tup, isNoE, isiV, isiOk, isiP, at_zero, at_1, at_2, at_3, d27, fall_some, d1, inSeq_ints, d2, ent_some', q]
end
end K86

namespace K86
open PySem PY
/-! ### the entries of one house about another, moment by moment -/
/-- how far an entry has come -/
def lev (s : Int) : Option Int → Nat
  | none => 0
  | some x => if (s == x - 2) = true then 1 else 2
theorem lev_le (s : Int) (o : Option Int) : lev s o ≤ 2 := by
  cases o with
  | none => exact Nat.zero_le _
  | some x =>
    show (if (s == x - 2) = true then 1 else 2) ≤ 2
    split
    · decide
    · decide
structure HE (n : Nat) (Φ : Fns) : Prop where
  h0 : ∀ (s : Int) (o : Option Int), Φ 0 [.int s, oP o] = .ok (entV s o)
  h1n : ∀ m : Int, Φ 1 [.int m, .non] = .ok (.tup [.int (m - 1), .non])
  h1 : ∀ (m x : Int) (b : Bool) (e : PV), SeqV e [.int x, .bl b] → Φ 1 [.int m, e] = .ok (.tup [.int (if b = true then x - 2 else x - 1), .int x])
  h21 : ∀ a b : Option Int, Φ 21 [.tup [oP a, oP b], .tup [oP a, oP b]] = .ok (.bl true)
  h22 : ∀ (s : Int) (o : Option Int), Φ 22 [entV s o, entV s o] = .ok (.bl true)
  h23 : ∀ v, Shp 4 v → Φ 23 [v] = .ok (lstd v)
  h27n : ∀ (fv : PV) (h m : Int), (fv = .non ∨ ∃ (r : Int) (l : List Int), fv = fallV (some (r, l)) ∧ (m < r ∨ (r = m ∧ h ∈ l))) → Φ 27 [fv, .int h, .int m, .non] = .ok (.bl true)
  h27 : ∀ (r : Int) (l : List Int) (h m s x : Int), ¬ (m < r ∨ (r = m ∧ h ∈ l)) → (x = r ∨ (x = r + 1 ∧ s = r - 1)) → Φ 27 [fallV (some (r, l)), .int h, .int m, entV s (some x)] = .ok (.bl true)
theorem lstd_ent (s : Int) (o : Option Int) : lstd (entV s o) = match o with
  | none => .non
  | some x => .lst [.int x, .bl (s == x - 2)] := by cases o <;> rfl
/-- an entry that can be, of a fall in round r -/
def Wf (r : Option Int) (s : Int) : Option Int → Prop
  | none => True
  | some x => ∃ q, r = some q ∧ q - 2 ≤ s ∧ s ≤ q - 1 ∧ (x = q ∨ (x = q + 1 ∧ s = q - 1))
/-- an entry changes upwards alone -/
theorem lev_up {r : Option Int} {s s' : Int} {o o' : Option Int} (w : Wf r s o) (w' : Wf r s' o') (hs : s ≤ s') (ho : ∀ b, o = some b → ∃ c, o' = some c ∧ c ≤ b) : (entV s o = entV s' o' ∧ lev s o = lev s' o') ∨ (o' ≠ none ∧ lev s o + 1 ≤ lev s' o') := by
  have l1 : ∀ (t x : Int), t = x - 2 → lev t (some x) = 1 := fun t x e => by
    show (if (t == x - 2) = true then 1 else 2) = 1
    rw [if_pos (beq_iff_eq.mpr e)]
  have l2 : ∀ (t x : Int), t ≠ x - 2 → lev t (some x) = 2 := fun t x e => by
    show (if (t == x - 2) = true then 1 else 2) = 2
    rw [if_neg fun z => e (beq_iff_eq.mp z)]
  have lge : ∀ (t x : Int), 1 ≤ lev t (some x) := fun t x => by
    by_cases e : t = x - 2
    · rw [l1 t x e]; exact Nat.le_refl _
    · rw [l2 t x e]; decide
  cases o with
  | none =>
    cases o' with
    | none => exact .inl ⟨rfl, rfl⟩
    | some x => exact .inr ⟨by simp, by show 0 + 1 ≤ _; have := lge s' x; omega⟩
  | some b =>
    obtain ⟨c, rfl, hc⟩ := ho b rfl
    obtain ⟨q, rfl, a1, a2, a3⟩ := w
    obtain ⟨q', e, b1, b2, b3⟩ := w'
    have e' : q = q' := Option.some.inj e
    subst e'
    by_cases h1 : b = c ∧ s = s'
    · rw [h1.1, h1.2]; exact .inl ⟨rfl, rfl⟩
    · refine .inr ⟨by simp, ?_⟩
      have g1 : s = b - 2 := by omega
      have g2 : s' ≠ c - 2 := by omega
      rw [l1 _ _ g1, l2 _ _ g2]
      decide
end K86

namespace K86
open PySem PY
def fallR : Fall → Option Int
  | none => none
  | some (r, _) => some r
section
variable {Φ : Fns} {fu : Nat}
theorem eq_ent (s s' : Int) (o o' : Option Int) : eqP (entV s o) (entV s' o') = .ok (eqv (entV s o) (entV s' o')) := eqP_shp (shp_ent s o) (shp_ent s' o')
theorem wf_at {n : Nat} {f : Nat → Fall} (hf : ∀ h, FallOk (f h)) {m h o : Nat} (hh : h < n) (ho : o < n) (hoh : o ≠ h) (ha : aliveB f m h = true) : Wf (fallR (f o)) (seen n f m h o) (miss n f m h o) := by
  cases hs : sentB f m h o with
  | true => rw [(ent_none hh ho hoh ha hs).1]; exact True.intro
  | false =>
    cases hfo : f o with
    | none => rw [sent_none hfo] at hs; cases hs
    | some q =>
      obtain ⟨r, l⟩ := q
      obtain ⟨a, b, c⟩ := ent_some hh ho hoh ha hfo (hf o r l hfo) hs
      rcases c with c | ⟨c, d⟩
      · rw [c]; exact ⟨r, rfl, a, b, .inl rfl⟩
      · rw [c]; exact ⟨r, rfl, a, b, .inr ⟨rfl, d⟩⟩
theorem eqv_ent {s s' : Int} {o o' : Option Int} (h : eqv (entV s o) (entV s' o') = true) : entV s o = entV s' o' := by
  cases o <;> cases o'
  · rfl
  · simp [entV, eqv] at h
  · simp [entV, eqv] at h
  · simp only [entV, eqv, eqvs, Bool.and_eq_true, beq_iff_eq] at h
    obtain ⟨rfl, h2, _⟩ := h
    simp only [entV]
    rw [h2]
theorem f_entries (n L : Nat) (hn : n ≤ 5) (hL : L ≤ 5) (B : Nat → Int) (f : Nat → Fall) (hf : ∀ h, FallOk (f h)) (H : HE n Φ) (h o : Nat) (hh : h < n) (ho : o < n) (hoh : o ≠ h) :
    Ok (runD Φ fu d28 [storyV n B f, tableV n L (tabV n B f), .int (h : Int), .int (o : Int)]) (· = .bl true) := by
  rw [runD_eq rfl]
  have rL := rng1_nat (show L + 1 ≤ 1000 by omega)
  have Tl : bi1 .len (tableV n L (tabV n B f)) = .ok (.int ((L + 1 : Nat) : Int)) := row_len
  have q1 : idxP (storyV n B f) (.int 1) = .ok (.tup (rng n fun h => fallV (f h))) := rfl
  have q2 : atP (rng n fun h => fallV (f h)) (o : Int) = .ok (fallV (f o)) := atP_rng ho
  simp -implicitDefEqProofs only [SR.fin_nx, SR.fin_rt, Ok_ok, ex_nx, R.bind_ok, R.st_ok, SR.next_nx, SR.next_rt, SR.next_bk, SR.next_ct, x_cnon, x_cbl, x_cint, x_cstr, x_var, x_bor, x_bin, x_neg, x_cmp, x_bop, x_bcons, x_not, x_ite, x_tup, x_lst, x_dct1, x_idx, x_slc, x_call, x_bi, x_isi, x_comp, x_nil, x_cons, x_c0, x_c1, x_seq, x_rng1, x_rng2, x_enu, x_keys, y_nil, y_cons, y_asg, y_setI, y_app, y_appPop, y_asgPop, y_ite, y_for, y_while, y_ret, y_retN, y_raise, y_pass, y_brk, y_cont, y_frz, y_exp, b_var, b_tup, b_lst, m_nil, m_cons, g_zero, g_succ, w_nil, w_cons, next_next, next_nil, forF_eq, boolK_nil, boolK_cons, bK_tt, bK_tf, bK_ft, bK_ff, bK_and, bK_or, iteV_bl, iteS_bl, notV_bl, negV_int, condV_bl, seqV_lst, seqV_tup, seqV_scr, enuV_lst, enuV_tup, keysV_dct, compF_eq, biP_1, biP_2, len_lst, len_tup, len_scr, int_int, int_bl, list_lst, list_tup, tuple_lst, tuple_tup, min_int, max_int, abs_int, c_eq, c_ne, c_lt, c_le, c_gt, c_ge, c_is, c_isnot, c_inn, c_notin, in_lst, in_tup, ix_lst, ix_tup, ix_scr, eq_int, eq_bl, eq_str, isNon_non, isNon_int, isNon_tup, isNon_lst, isNon_dct, isNon_bl, isNon_str, bin_add, bin_sub, bin_mod, bin_fdiv, List.set_cons_zero, List.set_cons_succ, List.length_cons, List.length_nil, List.map_cons, List.map_nil, List.cons_append, List.nil_append, List.replicate_succ, List.replicate_zero, ↓reduceIte, Bool.false_eq_true, Int.reduceLT, Int.reducePow, Int.reduceNeg, Int.reduceLE, Int.reduceAdd, Int.reduceSub, Int.reduceMul, Int.reduceMod, Int.reduceDiv, Bool.not_true, Bool.not_false, Bool.true_beq, Bool.false_beq, Bool.and_true, Bool.true_and, Bool.and_false, Bool.false_and, Bool.or_true, Bool.true_or, Bool.or_false, Bool.false_or, Nat.reduceAdd, Nat.reduceSub, Nat.zero_add, Nat.sub_self, part_no, part_int, slc_lst, slc_tup, isNoE, isiV, isiOk, isiP, at_zero, at_1, at_2, at_3, d28, Tl, rL]
  refine forR_ok (fun i e => ∃ (s : Int) (p : Option Int) (C : Nat) (y6 y7 y8 y9 y10 y11 : Option PV), e = [some (storyV n B f), some (tableV n L (tabV n B f)), some (.int (h : Int)), some (.int (o : Int)), some (entV s p), some (.int (C : Int)), y6, y7, y8, y9, y10, y11] ∧ C ≤ lev s p ∧ Wf (fallR (f o)) s p ∧ (aliveB f i h = true → s ≤ seen n f i h o ∧ ∀ b, p = some b → ∃ c, miss n f i h o = some c ∧ c ≤ b))
    ⟨-1, none, 0, _, _, _, _, _, _, rfl, Nat.le_refl _, True.intro, fun _ => ⟨seenK_m1 _ _ _, fun b hb => by cases hb⟩⟩ (fun m e hm he => ?_) (fun e he => ?_)
  · obtain ⟨s, p, C, y6, y7, y8, y9, y10, y11, rfl, hC, hW, hR⟩ := he
    have T1 : idxP (tableV n L (tabV n B f)) (.int (m : Int)) = .ok (rowV n (tabV n B f m)) := row_at (g := fun m => rowV n (tabV n B f m)) hm
    have T2 : idxP (rowV n (tabV n B f m)) (.int (h : Int)) = .ok (tabV n B f m h) := row_at hh
    cases ha : aliveB f m h with
    | false =>
      have e1 : tabV n B f m h = .non := by unfold tabV; rw [ha]; rfl
      rw [e1] at T2
      simp -implicitDefEqProofs only [SR.fin_nx, SR.fin_rt, Ok_ok, ex_nx, R.bind_ok, R.st_ok, SR.next_nx, SR.next_rt, SR.next_bk, SR.next_ct, x_cnon, x_cbl, x_cint, x_cstr, x_var, x_bor, x_bin, x_neg, x_cmp, x_bop, x_bcons, x_not, x_ite, x_tup, x_lst, x_dct1, x_idx, x_slc, x_call, x_bi, x_isi, x_comp, x_nil, x_cons, x_c0, x_c1, x_seq, x_rng1, x_rng2, x_enu, x_keys, y_nil, y_cons, y_asg, y_setI, y_app, y_appPop, y_asgPop, y_ite, y_for, y_while, y_ret, y_retN, y_raise, y_pass, y_brk, y_cont, y_frz, y_exp, b_var, b_tup, b_lst, m_nil, m_cons, g_zero, g_succ, w_nil, w_cons, next_next, next_nil, forF_eq, boolK_nil, boolK_cons, bK_tt, bK_tf, bK_ft, bK_ff, bK_and, bK_or, iteV_bl, iteS_bl, notV_bl, negV_int, condV_bl, seqV_lst, seqV_tup, seqV_scr, enuV_lst, enuV_tup, keysV_dct, compF_eq, biP_1, biP_2, len_lst, len_tup, len_scr, int_int, int_bl, list_lst, list_tup, tuple_lst, tuple_tup, min_int, max_int, abs_int, c_eq, c_ne, c_lt, c_le, c_gt, c_ge, c_is, c_isnot, c_inn, c_notin, in_lst, in_tup, ix_lst, ix_tup, ix_scr, eq_int, eq_bl, eq_str, isNon_non, isNon_int, isNon_tup, isNon_lst, isNon_dct, isNon_bl, isNon_str, bin_add, bin_sub, bin_mod, bin_fdiv, List.set_cons_zero, List.set_cons_succ, List.length_cons, List.length_nil, List.map_cons, List.map_nil, List.cons_append, List.nil_append, List.replicate_succ, List.replicate_zero, ↓reduceIte, Bool.false_eq_true, Int.reduceLT, Int.reducePow, Int.reduceNeg, Int.reduceLE, Int.reduceAdd, Int.reduceSub, Int.reduceMul, Int.reduceMod, Int.reduceDiv, Bool.not_true, Bool.not_false, Bool.true_beq, Bool.false_beq, Bool.and_true, Bool.true_and, Bool.and_false, Bool.false_and, Bool.or_true, Bool.true_or, Bool.or_false, Bool.false_or, Nat.reduceAdd, Nat.reduceSub, Nat.zero_add, Nat.sub_self, part_no, part_int, slc_lst, slc_tup, isNoE, isiV, isiOk, isiP, at_zero, at_1, at_2, at_3, T1, T2]
      refine ⟨s, p, C, _, _, _, _, _, _, rfl, hC, hW, fun ha' => ?_⟩
      rw [alive_prev ha'] at ha; cases ha
    | true =>
      have e1 : tabV n B f m h = newsV n B f m h := by unfold tabV; rw [ha]; rfl
      rw [e1] at T2
      obtain ⟨hR1, hR2⟩ := hR ha
      have hW' := wf_at hf hh ho hoh ha
      have nn : isNon (newsV n B f m h) = false := rfl
      have n1 : idxP (newsV n B f m h) (.int 1) = .ok (rowV n fun j => .int (seen n f m h j)) := rfl
      have n2 : idxP (newsV n B f m h) (.int 2) = .ok (rowV n fun j => oP (miss n f m h j)) := rfl
      have n3 : idxP (rowV n fun j => PV.int (seen n f m h j)) (.int (o : Int)) = .ok (.int (seen n f m h o)) := row_at (g := fun j => PV.int (seen n f m h j)) ho
      have n4 : idxP (rowV n fun j => oP (miss n f m h j)) (.int (o : Int)) = .ok (oP (miss n f m h o)) := row_at (g := fun j => oP (miss n f m h j)) ho
      have next : aliveB f (m + 1) h = true → seen n f m h o ≤ seen n f (m + 1) h o ∧ ∀ b, miss n f m h o = some b → ∃ c, miss n f (m + 1) h o = some c ∧ c ≤ b := fun _ => ⟨seen_mono (.inl rfl) o, fun b hb => miss_time hb⟩
      have up := lev_up hW hW' hR1 hR2
      have en0 := H.h0 (seen n f m h o) (miss n f m h o)
      have en22 := H.h22 (seen n f m h o) (miss n f m h o)
      have en21 := H.h21 (some (seen n f m h o)) (miss n f m h o)
      have ee := eq_ent (seen n f m h o) s (miss n f m h o) p
      cases hs : sentB f m h o with
      | true =>
        obtain ⟨hm0, hsn⟩ := ent_none hh ho hoh ha hs
        rw [hm0] at up en0 en22 en21 ee n4 hW'
        rw [hsn] at up en0 en22 en21 ee n3 hW'
        rw [oP_none] at en0 en21 n4
        rw [ent_none'] at en0 en22 ee
        have can := H.h27n (fallV (f o)) (h : Int) (m : Int) (by
          cases hfo : f o with
          | none => exact .inl rfl
          | some q =>
            obtain ⟨r, l⟩ := q
            exact .inr ⟨r, l, rfl, (sent_some hfo).mp hs⟩)
        have l23 : Φ 23 [.non] = .ok .non := H.h23 .non (Shp.non 4)
        have hn := H.h1n (m : Int)
        have en21' : Φ 21 [.tup [.int ((m : Int) - 1), .non], .tup [.int ((m : Int) - 1), .non]] = .ok (.bl true) := en21
        have e00 : eqP .non .non = .ok true := rfl
        have same : entV s p = .non ∧ lev s p = 0 := by
          rcases up with ⟨u1, u2⟩ | ⟨u1, _⟩
          · exact ⟨u1, u2⟩
          · exact absurd rfl u1
        have bb : ((m : Int) - 1 == (m : Int) - 1) = true := beq_self_eq_true _
        rw [same.1]
        simp -implicitDefEqProofs only [SR.fin_nx, SR.fin_rt, Ok_ok, ex_nx, R.bind_ok, R.st_ok, SR.next_nx, SR.next_rt, SR.next_bk, SR.next_ct, x_cnon, x_cbl, x_cint, x_cstr, x_var, x_bor, x_bin, x_neg, x_cmp, x_bop, x_bcons, x_not, x_ite, x_tup, x_lst, x_dct1, x_idx, x_slc, x_call, x_bi, x_isi, x_comp, x_nil, x_cons, x_c0, x_c1, x_seq, x_rng1, x_rng2, x_enu, x_keys, y_nil, y_cons, y_asg, y_setI, y_app, y_appPop, y_asgPop, y_ite, y_for, y_while, y_ret, y_retN, y_raise, y_pass, y_brk, y_cont, y_frz, y_exp, b_var, b_tup, b_lst, m_nil, m_cons, g_zero, g_succ, w_nil, w_cons, next_next, next_nil, forF_eq, boolK_nil, boolK_cons, bK_tt, bK_tf, bK_ft, bK_ff, bK_and, bK_or, iteV_bl, iteS_bl, notV_bl, negV_int, condV_bl, seqV_lst, seqV_tup, seqV_scr, enuV_lst, enuV_tup, keysV_dct, compF_eq, biP_1, biP_2, len_lst, len_tup, len_scr, int_int, int_bl, list_lst, list_tup, tuple_lst, tuple_tup, min_int, max_int, abs_int, c_eq, c_ne, c_lt, c_le, c_gt, c_ge, c_is, c_isnot, c_inn, c_notin, in_lst, in_tup, ix_lst, ix_tup, ix_scr, eq_int, eq_bl, eq_str, isNon_non, isNon_int, isNon_tup, isNon_lst, isNon_dct, isNon_bl, isNon_str, bin_add, bin_sub, bin_mod, bin_fdiv, List.set_cons_zero, List.set_cons_succ, List.length_cons, List.length_nil, List.map_cons, List.map_nil, List.cons_append, List.nil_append, List.replicate_succ, List.replicate_zero, ↓reduceIte, Bool.false_eq_true, Int.reduceLT, Int.reducePow, Int.reduceNeg, Int.reduceLE, Int.reduceAdd, Int.reduceSub, Int.reduceMul, Int.reduceMod, Int.reduceDiv, Bool.not_true, Bool.not_false, Bool.true_beq, Bool.false_beq, Bool.and_true, Bool.true_and, Bool.and_false, Bool.false_and, Bool.or_true, Bool.true_or, Bool.or_false, Bool.false_or, Nat.reduceAdd, Nat.reduceSub, Nat.zero_add, Nat.sub_self, part_no, part_int, slc_lst, slc_tup, isNoE, isiV, isiOk, isiP, at_zero, at_1, at_2, at_3, T1, T2, nn, n1, n2, n3, n4, bb, en0, en22, q1, q2, can, l23, hn, en21', e00]
        refine ⟨(m : Int) - 1, none, C, _, _, _, _, _, _, rfl, by have := same.2; rw [this] at hC; exact hC, True.intro, fun ha' => ?_⟩
        obtain ⟨z1, z2⟩ := next ha'
        rw [hsn] at z1
        exact ⟨z1, fun b hb => by cases hb⟩
      | false =>
        obtain ⟨r, l, hfo⟩ : ∃ r l, f o = some (r, l) := by
          cases hfo : f o with
          | none => rw [sent_none hfo] at hs; cases hs
          | some q => exact ⟨q.1, q.2, rfl⟩
        obtain ⟨ea, eb, ec⟩ := ent_some hh ho hoh ha hfo (hf o r l hfo) hs
        obtain ⟨x, hx, hxx⟩ : ∃ x, miss n f m h o = some x ∧ (x = r ∨ (x = r + 1 ∧ seen n f m h o = r - 1)) := by
          rcases ec with ec | ⟨ec, ed⟩
          · exact ⟨r, ec, .inl rfl⟩
          · exact ⟨r + 1, ec, .inr ⟨rfl, ed⟩⟩
        rw [hx] at up en0 en22 en21 ee n4 hW'
        have hns : ¬ ((m : Int) < r ∨ (r = (m : Int) ∧ (h : Int) ∈ l)) := fun z => by
          rw [(sent_some hfo).mpr z] at hs; cases hs
        have can := H.h27 r l (h : Int) (m : Int) (seen n f m h o) x hns hxx
        have l23 := H.h23 (entV (seen n f m h o) (some x)) ⟨(shp_ent _ _).1, Nat.le_trans (shp_ent _ _).2 (by decide)⟩
        rw [lstd_ent] at l23
        simp only at l23
        have nu1 := H.h1 (m : Int) x (seen n f m h o == x - 2) (.lst [.int x, .bl (seen n f m h o == x - 2)]) (.inr rfl)
        have nu2 := H.h1 (m : Int) x (seen n f m h o == x - 2) (.tup [.int x, .bl (seen n f m h o == x - 2)]) (.inl rfl)
        have back : (if (seen n f m h o == x - 2) = true then x - 2 else x - 1) = seen n f m h o := by
          by_cases z : seen n f m h o = x - 2
          · rw [if_pos (beq_iff_eq.mpr z), z]
          · rw [if_neg fun y => z (beq_iff_eq.mp y)]; omega
        rw [back] at nu1 nu2
        rw [hfo] at q2
        have el : eqP (.lst [.int x, .bl (seen n f m h o == x - 2)]) (.lst [.int x, .bl (seen n f m h o == x - 2)]) = .ok true := eq_self (k := 1) (Shp.lst fun y hy => by
          simp only [List.mem_cons, List.not_mem_nil, or_false] at hy
          rcases hy with rfl | rfl
          · exact Shp.int 0 _
          · exact Shp.bl 0 _) (by decide)
        have cnd : ((!(seen n f m h o == x - 2)) && !(seen n f m h o == x - 1)) = false := by
          by_cases z : seen n f m h o = x - 2
          · rw [beq_iff_eq.mpr z]; rfl
          · have z2 : seen n f m h o = x - 1 := by omega
            rw [beq_iff_eq.mpr z2, Bool.not_true, Bool.and_false]
        rw [oP_some] at en0 en21 n4
        rw [oP_some] at en21
        rw [ent_some'] at en0 en22 can l23 ee
        have levs : lev s p ≤ lev (seen n f m h o) (some x) := by
          rcases up with ⟨_, u⟩ | ⟨_, u⟩ <;> omega
        simp -implicitDefEqProofs only [SR.fin_nx, SR.fin_rt, Ok_ok, ex_nx, R.bind_ok, R.st_ok, SR.next_nx, SR.next_rt, SR.next_bk, SR.next_ct, x_cnon, x_cbl, x_cint, x_cstr, x_var, x_bor, x_bin, x_neg, x_cmp, x_bop, x_bcons, x_not, x_ite, x_tup, x_lst, x_dct1, x_idx, x_slc, x_call, x_bi, x_isi, x_comp, x_nil, x_cons, x_c0, x_c1, x_seq, x_rng1, x_rng2, x_enu, x_keys, y_nil, y_cons, y_asg, y_setI, y_app, y_appPop, y_asgPop, y_ite, y_for, y_while, y_ret, y_retN, y_raise, y_pass, y_brk, y_cont, y_frz, y_exp, b_var, b_tup, b_lst, m_nil, m_cons, g_zero, g_succ, w_nil, w_cons, next_next, next_nil, forF_eq, boolK_nil, boolK_cons, bK_tt, bK_tf, bK_ft, bK_ff, bK_and, bK_or, iteV_bl, iteS_bl, notV_bl, negV_int, condV_bl, seqV_lst, seqV_tup, seqV_scr, enuV_lst, enuV_tup, keysV_dct, compF_eq, biP_1, biP_2, len_lst, len_tup, len_scr, int_int, int_bl, list_lst, list_tup, tuple_lst, tuple_tup, min_int, max_int, abs_int, c_eq, c_ne, c_lt, c_le, c_gt, c_ge, c_is, c_isnot, c_inn, c_notin, in_lst, in_tup, ix_lst, ix_tup, ix_scr, eq_int, eq_bl, eq_str, isNon_non, isNon_int, isNon_tup, isNon_lst, isNon_dct, isNon_bl, isNon_str, bin_add, bin_sub, bin_mod, bin_fdiv, List.set_cons_zero, List.set_cons_succ, List.length_cons, List.length_nil, List.map_cons, List.map_nil, List.cons_append, List.nil_append, List.replicate_succ, List.replicate_zero, ↓reduceIte, Bool.false_eq_true, Int.reduceLT, Int.reducePow, Int.reduceNeg, Int.reduceLE, Int.reduceAdd, Int.reduceSub, Int.reduceMul, Int.reduceMod, Int.reduceDiv, Bool.not_true, Bool.not_false, Bool.true_beq, Bool.false_beq, Bool.and_true, Bool.true_and, Bool.and_false, Bool.false_and, Bool.or_true, Bool.true_or, Bool.or_false, Bool.false_or, Nat.reduceAdd, Nat.reduceSub, Nat.zero_add, Nat.sub_self, part_no, part_int, slc_lst, slc_tup, isNoE, isiV, isiOk, isiP, at_zero, at_1, at_2, at_3, T1, T2, nn, n1, n2, n3, n4, cnd, en0, en22, q1, q2, can, l23, nu1, nu2, en21, el, ee]
        cases hb : eqv (.tup [.int x, .bl (seen n f m h o == x - 2)]) (entV s p) with
        | true =>
          simp -implicitDefEqProofs only [SR.fin_nx, SR.fin_rt, Ok_ok, ex_nx, R.bind_ok, R.st_ok, SR.next_nx, SR.next_rt, SR.next_bk, SR.next_ct, x_cnon, x_cbl, x_cint, x_cstr, x_var, x_bor, x_bin, x_neg, x_cmp, x_bop, x_bcons, x_not, x_ite, x_tup, x_lst, x_dct1, x_idx, x_slc, x_call, x_bi, x_isi, x_comp, x_nil, x_cons, x_c0, x_c1, x_seq, x_rng1, x_rng2, x_enu, x_keys, y_nil, y_cons, y_asg, y_setI, y_app, y_appPop, y_asgPop, y_ite, y_for, y_while, y_ret, y_retN, y_raise, y_pass, y_brk, y_cont, y_frz, y_exp, b_var, b_tup, b_lst, m_nil, m_cons, g_zero, g_succ, w_nil, w_cons, next_next, next_nil, forF_eq, boolK_nil, boolK_cons, bK_tt, bK_tf, bK_ft, bK_ff, bK_and, bK_or, iteV_bl, iteS_bl, notV_bl, negV_int, condV_bl, seqV_lst, seqV_tup, seqV_scr, enuV_lst, enuV_tup, keysV_dct, compF_eq, biP_1, biP_2, len_lst, len_tup, len_scr, int_int, int_bl, list_lst, list_tup, tuple_lst, tuple_tup, min_int, max_int, abs_int, c_eq, c_ne, c_lt, c_le, c_gt, c_ge, c_is, c_isnot, c_inn, c_notin, in_lst, in_tup, ix_lst, ix_tup, ix_scr, eq_int, eq_bl, eq_str, isNon_non, isNon_int, isNon_tup, isNon_lst, isNon_dct, isNon_bl, isNon_str, bin_add, bin_sub, bin_mod, bin_fdiv, List.set_cons_zero, List.set_cons_succ, List.length_cons, List.length_nil, List.map_cons, List.map_nil, List.cons_append, List.nil_append, List.replicate_succ, List.replicate_zero, ↓reduceIte, Bool.false_eq_true, Int.reduceLT, Int.reducePow, Int.reduceNeg, Int.reduceLE, Int.reduceAdd, Int.reduceSub, Int.reduceMul, Int.reduceMod, Int.reduceDiv, Bool.not_true, Bool.not_false, Bool.true_beq, Bool.false_beq, Bool.and_true, Bool.true_and, Bool.and_false, Bool.false_and, Bool.or_true, Bool.true_or, Bool.or_false, Bool.false_or, Nat.reduceAdd, Nat.reduceSub, Nat.zero_add, Nat.sub_self, part_no, part_int, slc_lst, slc_tup, isNoE, isiV, isiOk, isiP, at_zero, at_1, at_2, at_3]
          refine ⟨seen n f m h o, some x, C, _, _, _, _, _, _, rfl, by omega, hW', fun ha' => ?_⟩
          obtain ⟨z1, z2⟩ := next ha'
          exact ⟨z1, fun b hb' => z2 b (by rw [hx]; exact hb')⟩
        | false =>
          have strict : C + 1 ≤ lev (seen n f m h o) (some x) := by
            rcases up with ⟨u, _⟩ | ⟨_, u⟩
            · rw [u, ent_some'] at hb
              have := eqv_refl (entV (seen n f m h o) (some x)) (shp_ent _ _).1
              rw [ent_some'] at this
              rw [this] at hb; cases hb
            · omega
          simp -implicitDefEqProofs only [SR.fin_nx, SR.fin_rt, Ok_ok, ex_nx, R.bind_ok, R.st_ok, SR.next_nx, SR.next_rt, SR.next_bk, SR.next_ct, x_cnon, x_cbl, x_cint, x_cstr, x_var, x_bor, x_bin, x_neg, x_cmp, x_bop, x_bcons, x_not, x_ite, x_tup, x_lst, x_dct1, x_idx, x_slc, x_call, x_bi, x_isi, x_comp, x_nil, x_cons, x_c0, x_c1, x_seq, x_rng1, x_rng2, x_enu, x_keys, y_nil, y_cons, y_asg, y_setI, y_app, y_appPop, y_asgPop, y_ite, y_for, y_while, y_ret, y_retN, y_raise, y_pass, y_brk, y_cont, y_frz, y_exp, b_var, b_tup, b_lst, m_nil, m_cons, g_zero, g_succ, w_nil, w_cons, next_next, next_nil, forF_eq, boolK_nil, boolK_cons, bK_tt, bK_tf, bK_ft, bK_ff, bK_and, bK_or, iteV_bl, iteS_bl, notV_bl, negV_int, condV_bl, seqV_lst, seqV_tup, seqV_scr, enuV_lst, enuV_tup, keysV_dct, compF_eq, biP_1, biP_2, len_lst, len_tup, len_scr, int_int, int_bl, list_lst, list_tup, tuple_lst, tuple_tup, min_int, max_int, abs_int, c_eq, c_ne, c_lt, c_le, c_gt, c_ge, c_is, c_isnot, c_inn, c_notin, in_lst, in_tup, ix_lst, ix_tup, ix_scr, eq_int, eq_bl, eq_str, isNon_non, isNon_int, isNon_tup, isNon_lst, isNon_dct, isNon_bl, isNon_str, bin_add, bin_sub, bin_mod, bin_fdiv, List.set_cons_zero, List.set_cons_succ, List.length_cons, List.length_nil, List.map_cons, List.map_nil, List.cons_append, List.nil_append, List.replicate_succ, List.replicate_zero, ↓reduceIte, Bool.false_eq_true, Int.reduceLT, Int.reducePow, Int.reduceNeg, Int.reduceLE, Int.reduceAdd, Int.reduceSub, Int.reduceMul, Int.reduceMod, Int.reduceDiv, Bool.not_true, Bool.not_false, Bool.true_beq, Bool.false_beq, Bool.and_true, Bool.true_and, Bool.and_false, Bool.false_and, Bool.or_true, Bool.true_or, Bool.or_false, Bool.false_or, Nat.reduceAdd, Nat.reduceSub, Nat.zero_add, Nat.sub_self, part_no, part_int, slc_lst, slc_tup, isNoE, isiV, isiOk, isiP, at_zero, at_1, at_2, at_3]
          refine ⟨seen n f m h o, some x, C + 1, _, _, _, _, _, _, rfl, strict, hW', fun ha' => ?_⟩
          obtain ⟨z1, z2⟩ := next ha'
          exact ⟨z1, fun b hb' => z2 b (by rw [hx]; exact hb')⟩
  · obtain ⟨s, p, C, y6, y7, y8, y9, y10, y11, rfl, hC, hW, hR⟩ := he
    have := lev_le s p
    have d2 : decide ((C : Int) ≤ 2) = true := decide_eq_true (by omega)
    simp -implicitDefEqProofs only [SR.fin_nx, SR.fin_rt, Ok_ok, ex_nx, R.bind_ok, R.st_ok, SR.next_nx, SR.next_rt, SR.next_bk, SR.next_ct, x_cnon, x_cbl, x_cint, x_cstr, x_var, x_bor, x_bin, x_neg, x_cmp, x_bop, x_bcons, x_not, x_ite, x_tup, x_lst, x_dct1, x_idx, x_slc, x_call, x_bi, x_isi, x_comp, x_nil, x_cons, x_c0, x_c1, x_seq, x_rng1, x_rng2, x_enu, x_keys, y_nil, y_cons, y_asg, y_setI, y_app, y_appPop, y_asgPop, y_ite, y_for, y_while, y_ret, y_retN, y_raise, y_pass, y_brk, y_cont, y_frz, y_exp, b_var, b_tup, b_lst, m_nil, m_cons, g_zero, g_succ, w_nil, w_cons, next_next, next_nil, forF_eq, boolK_nil, boolK_cons, bK_tt, bK_tf, bK_ft, bK_ff, bK_and, bK_or, iteV_bl, iteS_bl, notV_bl, negV_int, condV_bl, seqV_lst, seqV_tup, seqV_scr, enuV_lst, enuV_tup, keysV_dct, compF_eq, biP_1, biP_2, len_lst, len_tup, len_scr, int_int, int_bl, list_lst, list_tup, tuple_lst, tuple_tup, min_int, max_int, abs_int, c_eq, c_ne, c_lt, c_le, c_gt, c_ge, c_is, c_isnot, c_inn, c_notin, in_lst, in_tup, ix_lst, ix_tup, ix_scr, eq_int, eq_bl, eq_str, isNon_non, isNon_int, isNon_tup, isNon_lst, isNon_dct, isNon_bl, isNon_str, bin_add, bin_sub, bin_mod, bin_fdiv, List.set_cons_zero, List.set_cons_succ, List.length_cons, List.length_nil, List.map_cons, List.map_nil, List.cons_append, List.nil_append, List.replicate_succ, List.replicate_zero, ↓reduceIte, Bool.false_eq_true, Int.reduceLT, Int.reducePow, Int.reduceNeg, Int.reduceLE, Int.reduceAdd, Int.reduceSub, Int.reduceMul, Int.reduceMod, Int.reduceDiv, Bool.not_true, Bool.not_false, Bool.true_beq, Bool.false_beq, Bool.and_true, Bool.true_and, Bool.and_false, Bool.false_and, Bool.or_true, Bool.true_or, Bool.or_false, Bool.false_or, Nat.reduceAdd, Nat.reduceSub, Nat.zero_add, Nat.sub_self, part_no, part_int, slc_lst, slc_tup, isNoE, isiV, isiOk, isiP, at_zero, at_1, at_2, at_3, d2]
end
end K86

namespace K86
open PySem PY
/-! ### the program's own side: a setting, a story, as tuples or lists -/
def SetG (S : PV) (n F L : Nat) (t s : Str) : Prop := SeqV S [.str "falls", .int n, .int F, .int L, .int 2, .str t, .str s]
def FallG (v : PV) : Fall → Prop
  | none => v = .non
  | some (r, l) => ∃ b, SeqV v [.int r, b] ∧ SeqV b (l.map .int)
def StoryG (n : Nat) (T : PV) (B : Nat → Int) (f : Nat → Fall) : Prop := ∃ a b g, SeqV T [a, b] ∧ SeqV a (rng n fun h => .int (B h)) ∧ SeqV b (rng n g) ∧ ∀ o, o < n → FallG (g o) (f o)
theorem SetG.i0 {S : PV} {n F L : Nat} {t s : Str} (h : SetG S n F L t s) : idxP S (.int 0) = .ok (.str "falls") := h.ix 0
theorem SetG.i1 {S : PV} {n F L : Nat} {t s : Str} (h : SetG S n F L t s) : idxP S (.int 1) = .ok (.int n) := h.ix 1
theorem nofl : (("falls" : Str) == ("losses" : Str)) = false := by decide
section
variable {Φ : Fns} {fu : Nat}
theorem f_stands {n F L : Nat} {t s : Str} {S T : PV} {B : Nat → Int} {f : Nat → Fall} (hS : SetG S n F L t s) (hT : StoryG n T B f) (h m : Nat) (hh : h < n) : Ok (runD Φ fu d3 [S, T, .int (h : Int), .int (m : Int)]) (· = .bl (aliveB f m h)) := by
  rw [runD_eq rfl]
  obtain ⟨a, b, g, hT1, ha, hb, hg⟩ := hT
  have t1 : idxP T (.int 1) = .ok b := hT1.ix 1
  have t2 : idxP b (.int (h : Int)) = .ok (g h) := by rw [hb.ix, atP_rng hh]
  have gh := hg h hh
  unfold aliveB
  cases hf : f h with
  | none =>
    rw [hf] at gh
    have e : g h = .non := gh
    rw [e] at t2
    simp -implicitDefEqProofs only [SR.fin_nx, SR.fin_rt, Ok_ok, ex_nx, R.bind_ok, R.st_ok, SR.next_nx, SR.next_rt, SR.next_bk, SR.next_ct, x_cnon, x_cbl, x_cint, x_cstr, x_var, x_bor, x_bin, x_neg, x_cmp, x_bop, x_bcons, x_not, x_ite, x_tup, x_lst, x_dct1, x_idx, x_slc, x_call, x_bi, x_isi, x_comp, x_nil, x_cons, x_c0, x_c1, x_seq, x_rng1, x_rng2, x_enu, x_keys, y_nil, y_cons, y_asg, y_setI, y_app, y_appPop, y_asgPop, y_ite, y_for, y_while, y_ret, y_retN, y_raise, y_pass, y_brk, y_cont, y_frz, y_exp, b_var, b_tup, b_lst, m_nil, m_cons, g_zero, g_succ, w_nil, w_cons, next_next, next_nil, forF_eq, boolK_nil, boolK_cons, bK_tt, bK_tf, bK_ft, bK_ff, bK_and, bK_or, iteV_bl, iteS_bl, notV_bl, negV_int, condV_bl, seqV_lst, seqV_tup, seqV_scr, enuV_lst, enuV_tup, keysV_dct, compF_eq, biP_1, biP_2, len_lst, len_tup, len_scr, int_int, int_bl, list_lst, list_tup, tuple_lst, tuple_tup, min_int, max_int, abs_int, c_eq, c_ne, c_lt, c_le, c_gt, c_ge, c_is, c_isnot, c_inn, c_notin, in_lst, in_tup, ix_lst, ix_tup, ix_scr, eq_int, eq_bl, eq_str, isNon_non, isNon_int, isNon_tup, isNon_lst, isNon_dct, isNon_bl, isNon_str, bin_add, bin_sub, bin_mod, bin_fdiv, List.set_cons_zero, List.set_cons_succ, List.length_cons, List.length_nil, List.map_cons, List.map_nil, List.cons_append, List.nil_append, List.replicate_succ, List.replicate_zero, ↓reduceIte, Bool.false_eq_true, Int.reduceLT, Int.reducePow, Int.reduceNeg, Int.reduceLE, Int.reduceAdd, Int.reduceSub, Int.reduceMul, Int.reduceMod, Int.reduceDiv, Bool.not_true, Bool.not_false, Bool.true_beq, Bool.false_beq, Bool.and_true, Bool.true_and, Bool.and_false, Bool.false_and, Bool.or_true, Bool.true_or, Bool.or_false, Bool.false_or, Nat.reduceAdd, Nat.reduceSub, Nat.zero_add, Nat.sub_self, part_no, part_int, slc_lst, slc_tup, isNoE, isiV, isiOk, isiP, at_zero, at_1, at_2, at_3, d3, hS.i0, nofl, t1, t2]
  | some q =>
    obtain ⟨r, l⟩ := q
    rw [hf] at gh
    obtain ⟨c, g1, g2⟩ := gh
    have g0 : idxP (g h) (.int 0) = .ok (.int r) := g1.ix 0
    simp -implicitDefEqProofs only [SR.fin_nx, SR.fin_rt, Ok_ok, ex_nx, R.bind_ok, R.st_ok, SR.next_nx, SR.next_rt, SR.next_bk, SR.next_ct, x_cnon, x_cbl, x_cint, x_cstr, x_var, x_bor, x_bin, x_neg, x_cmp, x_bop, x_bcons, x_not, x_ite, x_tup, x_lst, x_dct1, x_idx, x_slc, x_call, x_bi, x_isi, x_comp, x_nil, x_cons, x_c0, x_c1, x_seq, x_rng1, x_rng2, x_enu, x_keys, y_nil, y_cons, y_asg, y_setI, y_app, y_appPop, y_asgPop, y_ite, y_for, y_while, y_ret, y_retN, y_raise, y_pass, y_brk, y_cont, y_frz, y_exp, b_var, b_tup, b_lst, m_nil, m_cons, g_zero, g_succ, w_nil, w_cons, next_next, next_nil, forF_eq, boolK_nil, boolK_cons, bK_tt, bK_tf, bK_ft, bK_ff, bK_and, bK_or, iteV_bl, iteS_bl, notV_bl, negV_int, condV_bl, seqV_lst, seqV_tup, seqV_scr, enuV_lst, enuV_tup, keysV_dct, compF_eq, biP_1, biP_2, len_lst, len_tup, len_scr, int_int, int_bl, list_lst, list_tup, tuple_lst, tuple_tup, min_int, max_int, abs_int, c_eq, c_ne, c_lt, c_le, c_gt, c_ge, c_is, c_isnot, c_inn, c_notin, in_lst, in_tup, ix_lst, ix_tup, ix_scr, eq_int, eq_bl, eq_str, isNon_non, isNon_int, isNon_tup, isNon_lst, isNon_dct, isNon_bl, isNon_str, bin_add, bin_sub, bin_mod, bin_fdiv, List.set_cons_zero, List.set_cons_succ, List.length_cons, List.length_nil, List.map_cons, List.map_nil, List.cons_append, List.nil_append, List.replicate_succ, List.replicate_zero, ↓reduceIte, Bool.false_eq_true, Int.reduceLT, Int.reducePow, Int.reduceNeg, Int.reduceLE, Int.reduceAdd, Int.reduceSub, Int.reduceMul, Int.reduceMod, Int.reduceDiv, Bool.not_true, Bool.not_false, Bool.true_beq, Bool.false_beq, Bool.and_true, Bool.true_and, Bool.and_false, Bool.false_and, Bool.or_true, Bool.true_or, Bool.or_false, Bool.false_or, Nat.reduceAdd, Nat.reduceSub, Nat.zero_add, Nat.sub_self, part_no, part_int, slc_lst, slc_tup, isNoE, isiV, isiOk, isiP, at_zero, at_1, at_2, at_3, d3, hS.i0, nofl, t1, t2, g1.some, g0]
theorem in_seq {b : PV} {l : List Int} {z : Int} (hb : SeqV b (l.map .int)) : inP (.int z) b = .ok (l.any fun y => y == z) := by
  rcases hb with rfl | rfl
  · exact inSeq_ints
  · exact inSeq_ints
theorem f_issent {n F L : Nat} {t s : Str} {S T : PV} {B : Nat → Int} {f : Nat → Fall} (hS : SetG S n F L t s) (hT : StoryG n T B f) (o h m : Nat) (ho : o < n) : Ok (runD Φ fu d4 [S, T, .int (o : Int), .int (h : Int), .int (m : Int)]) (· = .bl (sentB f m h o)) := by
  rw [runD_eq rfl]
  obtain ⟨a, b, g, hT1, ha, hb, hg⟩ := hT
  have t1 : idxP T (.int 1) = .ok b := hT1.ix 1
  have t2 : idxP b (.int (o : Int)) = .ok (g o) := by rw [hb.ix, atP_rng ho]
  have gh := hg o ho
  unfold sentB
  cases hf : f o with
  | none =>
    rw [hf] at gh
    have e : g o = .non := gh
    rw [e] at t2
    simp -implicitDefEqProofs only [SR.fin_nx, SR.fin_rt, Ok_ok, ex_nx, R.bind_ok, R.st_ok, SR.next_nx, SR.next_rt, SR.next_bk, SR.next_ct, x_cnon, x_cbl, x_cint, x_cstr, x_var, x_bor, x_bin, x_neg, x_cmp, x_bop, x_bcons, x_not, x_ite, x_tup, x_lst, x_dct1, x_idx, x_slc, x_call, x_bi, x_isi, x_comp, x_nil, x_cons, x_c0, x_c1, x_seq, x_rng1, x_rng2, x_enu, x_keys, y_nil, y_cons, y_asg, y_setI, y_app, y_appPop, y_asgPop, y_ite, y_for, y_while, y_ret, y_retN, y_raise, y_pass, y_brk, y_cont, y_frz, y_exp, b_var, b_tup, b_lst, m_nil, m_cons, g_zero, g_succ, w_nil, w_cons, next_next, next_nil, forF_eq, boolK_nil, boolK_cons, bK_tt, bK_tf, bK_ft, bK_ff, bK_and, bK_or, iteV_bl, iteS_bl, notV_bl, negV_int, condV_bl, seqV_lst, seqV_tup, seqV_scr, enuV_lst, enuV_tup, keysV_dct, compF_eq, biP_1, biP_2, len_lst, len_tup, len_scr, int_int, int_bl, list_lst, list_tup, tuple_lst, tuple_tup, min_int, max_int, abs_int, c_eq, c_ne, c_lt, c_le, c_gt, c_ge, c_is, c_isnot, c_inn, c_notin, in_lst, in_tup, ix_lst, ix_tup, ix_scr, eq_int, eq_bl, eq_str, isNon_non, isNon_int, isNon_tup, isNon_lst, isNon_dct, isNon_bl, isNon_str, bin_add, bin_sub, bin_mod, bin_fdiv, List.set_cons_zero, List.set_cons_succ, List.length_cons, List.length_nil, List.map_cons, List.map_nil, List.cons_append, List.nil_append, List.replicate_succ, List.replicate_zero, ↓reduceIte, Bool.false_eq_true, Int.reduceLT, Int.reducePow, Int.reduceNeg, Int.reduceLE, Int.reduceAdd, Int.reduceSub, Int.reduceMul, Int.reduceMod, Int.reduceDiv, Bool.not_true, Bool.not_false, Bool.true_beq, Bool.false_beq, Bool.and_true, Bool.true_and, Bool.and_false, Bool.false_and, Bool.or_true, Bool.true_or, Bool.or_false, Bool.false_or, Nat.reduceAdd, Nat.reduceSub, Nat.zero_add, Nat.sub_self, part_no, part_int, slc_lst, slc_tup, isNoE, isiV, isiOk, isiP, at_zero, at_1, at_2, at_3, d4, hS.i0, nofl, t1, t2]
  | some q =>
    obtain ⟨r, l⟩ := q
    rw [hf] at gh
    obtain ⟨c, g1, g2⟩ := gh
    have g0 : idxP (g o) (.int 0) = .ok (.int r) := g1.ix 0
    have gi : idxP (g o) (.int 1) = .ok c := g1.ix 1
    have gn := in_seq (z := (h : Int)) g2
    have cm : ((m : Int) == r) = (r == (m : Int)) := by rw [Bool.eq_iff_iff, beq_iff_eq, beq_iff_eq]; exact eq_comm
    cases hd : decide ((m : Int) < r) with
    | true => simp -implicitDefEqProofs only [SR.fin_nx, SR.fin_rt, Ok_ok, ex_nx, R.bind_ok, R.st_ok, SR.next_nx, SR.next_rt, SR.next_bk, SR.next_ct, x_cnon, x_cbl, x_cint, x_cstr, x_var, x_bor, x_bin, x_neg, x_cmp, x_bop, x_bcons, x_not, x_ite, x_tup, x_lst, x_dct1, x_idx, x_slc, x_call, x_bi, x_isi, x_comp, x_nil, x_cons, x_c0, x_c1, x_seq, x_rng1, x_rng2, x_enu, x_keys, y_nil, y_cons, y_asg, y_setI, y_app, y_appPop, y_asgPop, y_ite, y_for, y_while, y_ret, y_retN, y_raise, y_pass, y_brk, y_cont, y_frz, y_exp, b_var, b_tup, b_lst, m_nil, m_cons, g_zero, g_succ, w_nil, w_cons, next_next, next_nil, forF_eq, boolK_nil, boolK_cons, bK_tt, bK_tf, bK_ft, bK_ff, bK_and, bK_or, iteV_bl, iteS_bl, notV_bl, negV_int, condV_bl, seqV_lst, seqV_tup, seqV_scr, enuV_lst, enuV_tup, keysV_dct, compF_eq, biP_1, biP_2, len_lst, len_tup, len_scr, int_int, int_bl, list_lst, list_tup, tuple_lst, tuple_tup, min_int, max_int, abs_int, c_eq, c_ne, c_lt, c_le, c_gt, c_ge, c_is, c_isnot, c_inn, c_notin, in_lst, in_tup, ix_lst, ix_tup, ix_scr, eq_int, eq_bl, eq_str, isNon_non, isNon_int, isNon_tup, isNon_lst, isNon_dct, isNon_bl, isNon_str, bin_add, bin_sub, bin_mod, bin_fdiv, List.set_cons_zero, List.set_cons_succ, List.length_cons, List.length_nil, List.map_cons, List.map_nil, List.cons_append, List.nil_append, List.replicate_succ, List.replicate_zero, ↓reduceIte, Bool.false_eq_true, Int.reduceLT, Int.reducePow, Int.reduceNeg, Int.reduceLE, Int.reduceAdd, Int.reduceSub, Int.reduceMul, Int.reduceMod, Int.reduceDiv, Bool.not_true, Bool.not_false, Bool.true_beq, Bool.false_beq, Bool.and_true, Bool.true_and, Bool.and_false, Bool.false_and, Bool.or_true, Bool.true_or, Bool.or_false, Bool.false_or, Nat.reduceAdd, Nat.reduceSub, Nat.zero_add, Nat.sub_self, part_no, part_int, slc_lst, slc_tup, isNoE, isiV, isiOk, isiP, at_zero, at_1, at_2, at_3, d4, hS.i0, nofl, t1, t2, g1.some, g0, hd]
    | false => simp -implicitDefEqProofs only [SR.fin_nx, SR.fin_rt, Ok_ok, ex_nx, R.bind_ok, R.st_ok, SR.next_nx, SR.next_rt, SR.next_bk, SR.next_ct, x_cnon, x_cbl, x_cint, x_cstr, x_var, x_bor, x_bin, x_neg, x_cmp, x_bop, x_bcons, x_not, x_ite, x_tup, x_lst, x_dct1, x_idx, x_slc, x_call, x_bi, x_isi, x_comp, x_nil, x_cons, x_c0, x_c1, x_seq, x_rng1, x_rng2, x_enu, x_keys, y_nil, y_cons, y_asg, y_setI, y_app, y_appPop, y_asgPop, y_ite, y_for, y_while, y_ret, y_retN, y_raise, y_pass, y_brk, y_cont, y_frz, y_exp, b_var, b_tup, b_lst, m_nil, m_cons, g_zero, g_succ, w_nil, w_cons, next_next, next_nil, forF_eq, boolK_nil, boolK_cons, bK_tt, bK_tf, bK_ft, bK_ff, bK_and, bK_or, iteV_bl, iteS_bl, notV_bl, negV_int, condV_bl, seqV_lst, seqV_tup, seqV_scr, enuV_lst, enuV_tup, keysV_dct, compF_eq, biP_1, biP_2, len_lst, len_tup, len_scr, int_int, int_bl, list_lst, list_tup, tuple_lst, tuple_tup, min_int, max_int, abs_int, c_eq, c_ne, c_lt, c_le, c_gt, c_ge, c_is, c_isnot, c_inn, c_notin, in_lst, in_tup, ix_lst, ix_tup, ix_scr, eq_int, eq_bl, eq_str, isNon_non, isNon_int, isNon_tup, isNon_lst, isNon_dct, isNon_bl, isNon_str, bin_add, bin_sub, bin_mod, bin_fdiv, List.set_cons_zero, List.set_cons_succ, List.length_cons, List.length_nil, List.map_cons, List.map_nil, List.cons_append, List.nil_append, List.replicate_succ, List.replicate_zero, ↓reduceIte, Bool.false_eq_true, Int.reduceLT, Int.reducePow, Int.reduceNeg, Int.reduceLE, Int.reduceAdd, Int.reduceSub, Int.reduceMul, Int.reduceMod, Int.reduceDiv, Bool.not_true, Bool.not_false, Bool.true_beq, Bool.false_beq, Bool.and_true, Bool.true_and, Bool.and_false, Bool.false_and, Bool.or_true, Bool.true_or, Bool.or_false, Bool.false_or, Nat.reduceAdd, Nat.reduceSub, Nat.zero_add, Nat.sub_self, part_no, part_int, slc_lst, slc_tup, isNoE, isiV, isiOk, isiP, at_zero, at_1, at_2, at_3, d4, hS.i0, nofl, t1, t2, g1.some, g0, gi, gn, hd, cm]
theorem f_check (S T : PV) (h m : Int) (hs : Φ 3 [S, T, .int h, .int m] = .ok (.bl true)) : Ok (runD Φ fu d5 [S, T, .int h, .int m]) (· = .non) := by
  rw [runD_eq rfl]
  simp -implicitDefEqProofs only [SR.fin_nx, SR.fin_rt, Ok_ok, ex_nx, R.bind_ok, R.st_ok, SR.next_nx, SR.next_rt, SR.next_bk, SR.next_ct, x_cnon, x_cbl, x_cint, x_cstr, x_var, x_bor, x_bin, x_neg, x_cmp, x_bop, x_bcons, x_not, x_ite, x_tup, x_lst, x_dct1, x_idx, x_slc, x_call, x_bi, x_isi, x_comp, x_nil, x_cons, x_c0, x_c1, x_seq, x_rng1, x_rng2, x_enu, x_keys, y_nil, y_cons, y_asg, y_setI, y_app, y_appPop, y_asgPop, y_ite, y_for, y_while, y_ret, y_retN, y_raise, y_pass, y_brk, y_cont, y_frz, y_exp, b_var, b_tup, b_lst, m_nil, m_cons, g_zero, g_succ, w_nil, w_cons, next_next, next_nil, forF_eq, boolK_nil, boolK_cons, bK_tt, bK_tf, bK_ft, bK_ff, bK_and, bK_or, iteV_bl, iteS_bl, notV_bl, negV_int, condV_bl, seqV_lst, seqV_tup, seqV_scr, enuV_lst, enuV_tup, keysV_dct, compF_eq, biP_1, biP_2, len_lst, len_tup, len_scr, int_int, int_bl, list_lst, list_tup, tuple_lst, tuple_tup, min_int, max_int, abs_int, c_eq, c_ne, c_lt, c_le, c_gt, c_ge, c_is, c_isnot, c_inn, c_notin, in_lst, in_tup, ix_lst, ix_tup, ix_scr, eq_int, eq_bl, eq_str, isNon_non, isNon_int, isNon_tup, isNon_lst, isNon_dct, isNon_bl, isNon_str, bin_add, bin_sub, bin_mod, bin_fdiv, List.set_cons_zero, List.set_cons_succ, List.length_cons, List.length_nil, List.map_cons, List.map_nil, List.cons_append, List.nil_append, List.replicate_succ, List.replicate_zero, ↓reduceIte, Bool.false_eq_true, Int.reduceLT, Int.reducePow, Int.reduceNeg, Int.reduceLE, Int.reduceAdd, Int.reduceSub, Int.reduceMul, Int.reduceMod, Int.reduceDiv, Bool.not_true, Bool.not_false, Bool.true_beq, Bool.false_beq, Bool.and_true, Bool.true_and, Bool.and_false, Bool.false_and, Bool.or_true, Bool.true_or, Bool.or_false, Bool.false_or, Nat.reduceAdd, Nat.reduceSub, Nat.zero_add, Nat.sub_self, part_no, part_int, slc_lst, slc_tup, isNoE, isiV, isiOk, isiP, at_zero, at_1, at_2, at_3, d5, hs]
theorem f_others (n h : Nat) (hn : n ≤ 5) : Ok (runD Φ fu d2 [.int (n : Int), .int (h : Int)]) (· = natsV ((List.range n).filter fun o : Nat => !((o : Int) == (h : Int)))) := by
  rw [runD_eq rfl]
  have rn := rng1_nat (show n ≤ 1000 by omega)
  simp -implicitDefEqProofs only [SR.fin_nx, SR.fin_rt, Ok_ok, ex_nx, R.bind_ok, R.st_ok, SR.next_nx, SR.next_rt, SR.next_bk, SR.next_ct, x_cnon, x_cbl, x_cint, x_cstr, x_var, x_bor, x_bin, x_neg, x_cmp, x_bop, x_bcons, x_not, x_ite, x_tup, x_lst, x_dct1, x_idx, x_slc, x_call, x_bi, x_isi, x_comp, x_nil, x_cons, x_c0, x_c1, x_seq, x_rng1, x_rng2, x_enu, x_keys, y_nil, y_cons, y_asg, y_setI, y_app, y_appPop, y_asgPop, y_ite, y_for, y_while, y_ret, y_retN, y_raise, y_pass, y_brk, y_cont, y_frz, y_exp, b_var, b_tup, b_lst, m_nil, m_cons, g_zero, g_succ, w_nil, w_cons, next_next, next_nil, forF_eq, boolK_nil, boolK_cons, bK_tt, bK_tf, bK_ft, bK_ff, bK_and, bK_or, iteV_bl, iteS_bl, notV_bl, negV_int, condV_bl, seqV_lst, seqV_tup, seqV_scr, enuV_lst, enuV_tup, keysV_dct, compF_eq, biP_1, biP_2, len_lst, len_tup, len_scr, int_int, int_bl, list_lst, list_tup, tuple_lst, tuple_tup, min_int, max_int, abs_int, c_eq, c_ne, c_lt, c_le, c_gt, c_ge, c_is, c_isnot, c_inn, c_notin, in_lst, in_tup, ix_lst, ix_tup, ix_scr, eq_int, eq_bl, eq_str, isNon_non, isNon_int, isNon_tup, isNon_lst, isNon_dct, isNon_bl, isNon_str, bin_add, bin_sub, bin_mod, bin_fdiv, List.set_cons_zero, List.set_cons_succ, List.length_cons, List.length_nil, List.map_cons, List.map_nil, List.cons_append, List.nil_append, List.replicate_succ, List.replicate_zero, ↓reduceIte, Bool.false_eq_true, Int.reduceLT, Int.reducePow, Int.reduceNeg, Int.reduceLE, Int.reduceAdd, Int.reduceSub, Int.reduceMul, Int.reduceMod, Int.reduceDiv, Bool.not_true, Bool.not_false, Bool.true_beq, Bool.false_beq, Bool.and_true, Bool.true_and, Bool.and_false, Bool.false_and, Bool.or_true, Bool.true_or, Bool.or_false, Bool.false_or, Nat.reduceAdd, Nat.reduceSub, Nat.zero_add, Nat.sub_self, part_no, part_int, slc_lst, slc_tup, isNoE, isiV, isiOk, isiP, at_zero, at_1, at_2, at_3, d2, rn]
  rw [compL_rngF (p := fun o => !((o : Int) == (h : Int))) (h := fun o => .int o)]
  rotate_left
  · intro o _
    simp -implicitDefEqProofs only [SR.fin_nx, SR.fin_rt, Ok_ok, ex_nx, R.bind_ok, R.st_ok, SR.next_nx, SR.next_rt, SR.next_bk, SR.next_ct, x_cnon, x_cbl, x_cint, x_cstr, x_var, x_bor, x_bin, x_neg, x_cmp, x_bop, x_bcons, x_not, x_ite, x_tup, x_lst, x_dct1, x_idx, x_slc, x_call, x_bi, x_isi, x_comp, x_nil, x_cons, x_c0, x_c1, x_seq, x_rng1, x_rng2, x_enu, x_keys, y_nil, y_cons, y_asg, y_setI, y_app, y_appPop, y_asgPop, y_ite, y_for, y_while, y_ret, y_retN, y_raise, y_pass, y_brk, y_cont, y_frz, y_exp, b_var, b_tup, b_lst, m_nil, m_cons, g_zero, g_succ, w_nil, w_cons, next_next, next_nil, forF_eq, boolK_nil, boolK_cons, bK_tt, bK_tf, bK_ft, bK_ff, bK_and, bK_or, iteV_bl, iteS_bl, notV_bl, negV_int, condV_bl, seqV_lst, seqV_tup, seqV_scr, enuV_lst, enuV_tup, keysV_dct, compF_eq, biP_1, biP_2, len_lst, len_tup, len_scr, int_int, int_bl, list_lst, list_tup, tuple_lst, tuple_tup, min_int, max_int, abs_int, c_eq, c_ne, c_lt, c_le, c_gt, c_ge, c_is, c_isnot, c_inn, c_notin, in_lst, in_tup, ix_lst, ix_tup, ix_scr, eq_int, eq_bl, eq_str, isNon_non, isNon_int, isNon_tup, isNon_lst, isNon_dct, isNon_bl, isNon_str, bin_add, bin_sub, bin_mod, bin_fdiv, List.set_cons_zero, List.set_cons_succ, List.length_cons, List.length_nil, List.map_cons, List.map_nil, List.cons_append, List.nil_append, List.replicate_succ, List.replicate_zero, ↓reduceIte, Bool.false_eq_true, Int.reduceLT, Int.reducePow, Int.reduceNeg, Int.reduceLE, Int.reduceAdd, Int.reduceSub, Int.reduceMul, Int.reduceMod, Int.reduceDiv, Bool.not_true, Bool.not_false, Bool.true_beq, Bool.false_beq, Bool.and_true, Bool.true_and, Bool.and_false, Bool.false_and, Bool.or_true, Bool.true_or, Bool.or_false, Bool.false_or, Nat.reduceAdd, Nat.reduceSub, Nat.zero_add, Nat.sub_self, part_no, part_int, slc_lst, slc_tup, isNoE, isiV, isiOk, isiP, at_zero, at_1, at_2, at_3, if_ok]
  simp -implicitDefEqProofs only [SR.fin_nx, SR.fin_rt, Ok_ok, ex_nx, R.bind_ok, R.st_ok, SR.next_nx, SR.next_rt, SR.next_bk, SR.next_ct, x_cnon, x_cbl, x_cint, x_cstr, x_var, x_bor, x_bin, x_neg, x_cmp, x_bop, x_bcons, x_not, x_ite, x_tup, x_lst, x_dct1, x_idx, x_slc, x_call, x_bi, x_isi, x_comp, x_nil, x_cons, x_c0, x_c1, x_seq, x_rng1, x_rng2, x_enu, x_keys, y_nil, y_cons, y_asg, y_setI, y_app, y_appPop, y_asgPop, y_ite, y_for, y_while, y_ret, y_retN, y_raise, y_pass, y_brk, y_cont, y_frz, y_exp, b_var, b_tup, b_lst, m_nil, m_cons, g_zero, g_succ, w_nil, w_cons, next_next, next_nil, forF_eq, boolK_nil, boolK_cons, bK_tt, bK_tf, bK_ft, bK_ff, bK_and, bK_or, iteV_bl, iteS_bl, notV_bl, negV_int, condV_bl, seqV_lst, seqV_tup, seqV_scr, enuV_lst, enuV_tup, keysV_dct, compF_eq, biP_1, biP_2, len_lst, len_tup, len_scr, int_int, int_bl, list_lst, list_tup, tuple_lst, tuple_tup, min_int, max_int, abs_int, c_eq, c_ne, c_lt, c_le, c_gt, c_ge, c_is, c_isnot, c_inn, c_notin, in_lst, in_tup, ix_lst, ix_tup, ix_scr, eq_int, eq_bl, eq_str, isNon_non, isNon_int, isNon_tup, isNon_lst, isNon_dct, isNon_bl, isNon_str, bin_add, bin_sub, bin_mod, bin_fdiv, List.set_cons_zero, List.set_cons_succ, List.length_cons, List.length_nil, List.map_cons, List.map_nil, List.cons_append, List.nil_append, List.replicate_succ, List.replicate_zero, ↓reduceIte, Bool.false_eq_true, Int.reduceLT, Int.reducePow, Int.reduceNeg, Int.reduceLE, Int.reduceAdd, Int.reduceSub, Int.reduceMul, Int.reduceMod, Int.reduceDiv, Bool.not_true, Bool.not_false, Bool.true_beq, Bool.false_beq, Bool.and_true, Bool.true_and, Bool.and_false, Bool.false_and, Bool.or_true, Bool.true_or, Bool.or_false, Bool.false_or, Nat.reduceAdd, Nat.reduceSub, Nat.zero_add, Nat.sub_self, part_no, part_int, slc_lst, slc_tup, isNoE, isiV, isiOk, isiP, at_zero, at_1, at_2, at_3]
  rfl
theorem compL_nats {f : PV → R (Option PV)} {p : Nat → Bool} : ∀ {ls : List Nat}, (∀ z ∈ ls, f (.int (z : Int)) = .ok (if p z = true then some (.int (z : Int)) else none)) → compL f (ls.map fun j : Nat => PV.int (j : Int)) = .ok ((ls.filter p).map fun j : Nat => PV.int (j : Int))
  | [], _ => rfl
  | z :: ls, h => by
    rw [List.map_cons]
    unfold compL
    rw [h z List.mem_cons_self, R.bind_ok, compL_nats fun w hw => h w (List.mem_cons_of_mem _ hw), R.bind_ok, List.filter_cons]
    cases p z <;> rfl
theorem f_heardP {n F L : Nat} {t s : Str} {S T : PV} {f : Nat → Fall} (hn : n ≤ 5) (hS : SetG S n F L t s) (h m : Nat) (hm : 0 < m) (hc : Φ 5 [S, T, .int (h : Int), .int (m : Int)] = .ok .non)
    (ho : Φ 2 [.int (n : Int), .int (h : Int)] = .ok (natsV ((List.range n).filter fun o : Nat => !((o : Int) == (h : Int))))) (hs : ∀ o : Nat, o < n → Φ 4 [S, T, .int (o : Int), .int (h : Int), .int (m : Int)] = .ok (.bl (sentB f m h o))) :
    Ok (runD Φ fu d6 [S, T, .int (h : Int), .int (m : Int)]) (· = .tup ((heardL n f m h).map fun j : Nat => PV.int (j : Int))) := by
  rw [runD_eq rfl]
  have sq : seqV (natsV ((List.range n).filter fun o : Nat => !((o : Int) == (h : Int)))) = .ok (((List.range n).filter fun o : Nat => !((o : Int) == (h : Int))).map fun j : Nat => PV.int (j : Int)) := rfl
  simp -implicitDefEqProofs only [SR.fin_nx, SR.fin_rt, Ok_ok, ex_nx, R.bind_ok, R.st_ok, SR.next_nx, SR.next_rt, SR.next_bk, SR.next_ct, x_cnon, x_cbl, x_cint, x_cstr, x_var, x_bor, x_bin, x_neg, x_cmp, x_bop, x_bcons, x_not, x_ite, x_tup, x_lst, x_dct1, x_idx, x_slc, x_call, x_bi, x_isi, x_comp, x_nil, x_cons, x_c0, x_c1, x_seq, x_rng1, x_rng2, x_enu, x_keys, y_nil, y_cons, y_asg, y_setI, y_app, y_appPop, y_asgPop, y_ite, y_for, y_while, y_ret, y_retN, y_raise, y_pass, y_brk, y_cont, y_frz, y_exp, b_var, b_tup, b_lst, m_nil, m_cons, g_zero, g_succ, w_nil, w_cons, next_next, next_nil, forF_eq, boolK_nil, boolK_cons, bK_tt, bK_tf, bK_ft, bK_ff, bK_and, bK_or, iteV_bl, iteS_bl, notV_bl, negV_int, condV_bl, seqV_lst, seqV_tup, seqV_scr, enuV_lst, enuV_tup, keysV_dct, compF_eq, biP_1, biP_2, len_lst, len_tup, len_scr, int_int, int_bl, list_lst, list_tup, tuple_lst, tuple_tup, min_int, max_int, abs_int, c_eq, c_ne, c_lt, c_le, c_gt, c_ge, c_is, c_isnot, c_inn, c_notin, in_lst, in_tup, ix_lst, ix_tup, ix_scr, eq_int, eq_bl, eq_str, isNon_non, isNon_int, isNon_tup, isNon_lst, isNon_dct, isNon_bl, isNon_str, bin_add, bin_sub, bin_mod, bin_fdiv, List.set_cons_zero, List.set_cons_succ, List.length_cons, List.length_nil, List.map_cons, List.map_nil, List.cons_append, List.nil_append, List.replicate_succ, List.replicate_zero, ↓reduceIte, Bool.false_eq_true, Int.reduceLT, Int.reducePow, Int.reduceNeg, Int.reduceLE, Int.reduceAdd, Int.reduceSub, Int.reduceMul, Int.reduceMod, Int.reduceDiv, Bool.not_true, Bool.not_false, Bool.true_beq, Bool.false_beq, Bool.and_true, Bool.true_and, Bool.and_false, Bool.false_and, Bool.or_true, Bool.true_or, Bool.or_false, Bool.false_or, Nat.reduceAdd, Nat.reduceSub, Nat.zero_add, Nat.sub_self, part_no, part_int, slc_lst, slc_tup, isNoE, isiV, isiOk, isiP, at_zero, at_1, at_2, at_3, d6, hc, hS.i1, ho, sq]
  rw [compL_nats (p := sentB f m h)]
  rotate_left
  · intro o hm'
    have hon : o < n := List.mem_range.mp (List.mem_filter.mp hm').1
    simp -implicitDefEqProofs only [SR.fin_nx, SR.fin_rt, Ok_ok, ex_nx, R.bind_ok, R.st_ok, SR.next_nx, SR.next_rt, SR.next_bk, SR.next_ct, x_cnon, x_cbl, x_cint, x_cstr, x_var, x_bor, x_bin, x_neg, x_cmp, x_bop, x_bcons, x_not, x_ite, x_tup, x_lst, x_dct1, x_idx, x_slc, x_call, x_bi, x_isi, x_comp, x_nil, x_cons, x_c0, x_c1, x_seq, x_rng1, x_rng2, x_enu, x_keys, y_nil, y_cons, y_asg, y_setI, y_app, y_appPop, y_asgPop, y_ite, y_for, y_while, y_ret, y_retN, y_raise, y_pass, y_brk, y_cont, y_frz, y_exp, b_var, b_tup, b_lst, m_nil, m_cons, g_zero, g_succ, w_nil, w_cons, next_next, next_nil, forF_eq, boolK_nil, boolK_cons, bK_tt, bK_tf, bK_ft, bK_ff, bK_and, bK_or, iteV_bl, iteS_bl, notV_bl, negV_int, condV_bl, seqV_lst, seqV_tup, seqV_scr, enuV_lst, enuV_tup, keysV_dct, compF_eq, biP_1, biP_2, len_lst, len_tup, len_scr, int_int, int_bl, list_lst, list_tup, tuple_lst, tuple_tup, min_int, max_int, abs_int, c_eq, c_ne, c_lt, c_le, c_gt, c_ge, c_is, c_isnot, c_inn, c_notin, in_lst, in_tup, ix_lst, ix_tup, ix_scr, eq_int, eq_bl, eq_str, isNon_non, isNon_int, isNon_tup, isNon_lst, isNon_dct, isNon_bl, isNon_str, bin_add, bin_sub, bin_mod, bin_fdiv, List.set_cons_zero, List.set_cons_succ, List.length_cons, List.length_nil, List.map_cons, List.map_nil, List.cons_append, List.nil_append, List.replicate_succ, List.replicate_zero, ↓reduceIte, Bool.false_eq_true, Int.reduceLT, Int.reducePow, Int.reduceNeg, Int.reduceLE, Int.reduceAdd, Int.reduceSub, Int.reduceMul, Int.reduceMod, Int.reduceDiv, Bool.not_true, Bool.not_false, Bool.true_beq, Bool.false_beq, Bool.and_true, Bool.true_and, Bool.and_false, Bool.false_and, Bool.or_true, Bool.true_or, Bool.or_false, Bool.false_or, Nat.reduceAdd, Nat.reduceSub, Nat.zero_add, Nat.sub_self, part_no, part_int, slc_lst, slc_tup, isNoE, isiV, isiOk, isiP, at_zero, at_1, at_2, at_3, hs o hon, if_ok]
  simp -implicitDefEqProofs only [SR.fin_nx, SR.fin_rt, Ok_ok, ex_nx, R.bind_ok, R.st_ok, SR.next_nx, SR.next_rt, SR.next_bk, SR.next_ct, x_cnon, x_cbl, x_cint, x_cstr, x_var, x_bor, x_bin, x_neg, x_cmp, x_bop, x_bcons, x_not, x_ite, x_tup, x_lst, x_dct1, x_idx, x_slc, x_call, x_bi, x_isi, x_comp, x_nil, x_cons, x_c0, x_c1, x_seq, x_rng1, x_rng2, x_enu, x_keys, y_nil, y_cons, y_asg, y_setI, y_app, y_appPop, y_asgPop, y_ite, y_for, y_while, y_ret, y_retN, y_raise, y_pass, y_brk, y_cont, y_frz, y_exp, b_var, b_tup, b_lst, m_nil, m_cons, g_zero, g_succ, w_nil, w_cons, next_next, next_nil, forF_eq, boolK_nil, boolK_cons, bK_tt, bK_tf, bK_ft, bK_ff, bK_and, bK_or, iteV_bl, iteS_bl, notV_bl, negV_int, condV_bl, seqV_lst, seqV_tup, seqV_scr, enuV_lst, enuV_tup, keysV_dct, compF_eq, biP_1, biP_2, len_lst, len_tup, len_scr, int_int, int_bl, list_lst, list_tup, tuple_lst, tuple_tup, min_int, max_int, abs_int, c_eq, c_ne, c_lt, c_le, c_gt, c_ge, c_is, c_isnot, c_inn, c_notin, in_lst, in_tup, ix_lst, ix_tup, ix_scr, eq_int, eq_bl, eq_str, isNon_non, isNon_int, isNon_tup, isNon_lst, isNon_dct, isNon_bl, isNon_str, bin_add, bin_sub, bin_mod, bin_fdiv, List.set_cons_zero, List.set_cons_succ, List.length_cons, List.length_nil, List.map_cons, List.map_nil, List.cons_append, List.nil_append, List.replicate_succ, List.replicate_zero, ↓reduceIte, Bool.false_eq_true, Int.reduceLT, Int.reducePow, Int.reduceNeg, Int.reduceLE, Int.reduceAdd, Int.reduceSub, Int.reduceMul, Int.reduceMod, Int.reduceDiv, Bool.not_true, Bool.not_false, Bool.true_beq, Bool.false_beq, Bool.and_true, Bool.true_and, Bool.and_false, Bool.false_and, Bool.or_true, Bool.true_or, Bool.or_false, Bool.false_or, Nat.reduceAdd, Nat.reduceSub, Nat.zero_add, Nat.sub_self, part_no, part_int, slc_lst, slc_tup, isNoE, isiV, isiOk, isiP, at_zero, at_1, at_2, at_3]
  have e : ((List.range n).filter fun o : Nat => !((o : Int) == (h : Int))).filter (sentB f m h) = heardL n f m h := by
    unfold heardL
    rw [List.filter_filter]
    apply List.filter_congr
    intro o _
    unfold hearsB
    have d : decide (0 < (m : Int)) = true := decide_eq_true (by omega)
    rw [d, Bool.true_and, Bool.and_comm]
  rw [e]
end
theorem StoryG.b {n : Nat} {T : PV} {B : Nat → Int} {f : Nat → Fall} (hT : StoryG n T B f) : ∃ a, idxP T (.int 0) = .ok a ∧ SeqV a (rng n fun h => .int (B h)) := by
  obtain ⟨a, b, g, hT1, ha, hb, hg⟩ := hT
  exact ⟨a, hT1.ix 0, ha⟩
theorem natsV_seq (l : List Nat) : seqV (natsV l) = .ok (l.map fun j : Nat => PV.int (j : Int)) := rfl
theorem setG_t (n F L : Nat) (t s : Str) : SetG (setV n F L t s) n F L t s := .inl rfl
theorem setG_l (n F L : Nat) (t s : Str) : SetG (lstd (setV n F L t s)) n F L t s := by rw [lstd_set]; exact .inr rfl
theorem fallG_t (f : Fall) : FallG (fallV f) f := by
  cases f with
  | none => rfl
  | some q => exact ⟨_, .inl rfl, .inl rfl⟩
theorem fallG_l (f : Fall) : FallG (lstd (fallV f)) f := by
  cases f with
  | none => rfl
  | some q =>
    obtain ⟨r, l⟩ := q
    rw [fall_some, lstd_tup, List.map_cons, List.map_cons, List.map_nil, lstd_tup, lstd_ints]
    exact ⟨_, .inr rfl, .inr rfl⟩
theorem storyG_t (n : Nat) (B : Nat → Int) (f : Nat → Fall) : StoryG n (storyV n B f) B f := ⟨_, _, _, .inl rfl, .inl rfl, .inl rfl, fun o _ => fallG_t (f o)⟩
theorem storyG_l (n : Nat) (B : Nat → Int) (f : Nat → Fall) : StoryG n (lstd (storyV n B f)) B f := by
  rw [lstd_story]
  exact ⟨_, _, _, .inr rfl, .inr rfl, .inr rfl, fun o _ => fallG_l (f o)⟩
section
variable {n F L : Nat} {t s : Str} {S T : PV} {B : Nat → Int} {f : Nat → Fall}
theorem c_lesser (k : Nat) (a b : Option Int) : fnsOf tab 100 (k + 1) 8 [oP a, oP b] = .ok (oP (lesserO a b)) := by
  rw [lv rfl]; exact f_lesser a b
theorem c_lesser1 (k : Nat) (a : Option Int) (b : Int) : fnsOf tab 100 (k + 1) 8 [oP a, .int b] = .ok (oP (lesserO a (some b))) := c_lesser k a (some b)
theorem c_stands (k : Nat) (hS : SetG S n F L t s) (hT : StoryG n T B f) (h m : Nat) (hh : h < n) : fnsOf tab 100 (k + 1) 3 [S, T, .int (h : Int), .int (m : Int)] = .ok (.bl (aliveB f m h)) := by
  rw [lv rfl]; exact (f_stands hS hT h m hh).eq
theorem c_issent (k : Nat) (hS : SetG S n F L t s) (hT : StoryG n T B f) (o h m : Nat) (ho : o < n) : fnsOf tab 100 (k + 1) 4 [S, T, .int (o : Int), .int (h : Int), .int (m : Int)] = .ok (.bl (sentB f m h o)) := by
  rw [lv rfl]; exact (f_issent hS hT o h m ho).eq
theorem c_check (k : Nat) (hS : SetG S n F L t s) (hT : StoryG n T B f) (h m : Nat) (hh : h < n) (ha : aliveB f m h = true) : fnsOf tab 100 (k + 2) 5 [S, T, .int (h : Int), .int (m : Int)] = .ok .non := by
  rw [lv rfl]; exact (f_check S T h m (by rw [c_stands k hS hT h m hh, ha])).eq
theorem c_others (k n h : Nat) (hn : n ≤ 5) : fnsOf tab 100 (k + 1) 2 [.int (n : Int), .int (h : Int)] = .ok (natsV ((List.range n).filter fun o : Nat => !((o : Int) == (h : Int)))) := by
  rw [lv rfl]; exact (f_others n h hn).eq
theorem c_heardP (k : Nat) (hn : n ≤ 5) (hS : SetG S n F L t s) (hT : StoryG n T B f) (h m : Nat) (hm : 0 < m) (hh : h < n) (ha : aliveB f m h = true) : fnsOf tab 100 (k + 3) 6 [S, T, .int (h : Int), .int (m : Int)] = .ok (.tup ((heardL n f m h).map fun j : Nat => PV.int (j : Int))) := by
  rw [lv rfl]
  exact (f_heardP hn hS h m hm (c_check k hS hT h m hh ha) (c_others (k + 1) n h hn) fun o ho => c_issent (k + 1) hS hT o h m ho).eq
end
end K86

namespace K86
open PySem PY
/-! ### news, step by step -/
def ntV (n : Nat) (B : Nat → Int) (f : Nat → Fall) (m h : Nat) : PV := .tup [.tup (rng n (knownV B (seen n f m h))), .tup (rng n fun j => .int (seen n f m h j)), .tup (rng n fun j => oP (miss n f m h j))]
def nrV (n : Nat) (B : Nat → Int) (f : Nat → Fall) (m h : Nat) : PV := if aliveB f m h = true then ntV n B f m h else .non
def kn (b s : Int) : PV := if decide (0 ≤ s) = true then .int b else .non
theorem knownV_eq (B : Nat → Int) (sn : Nat → Int) (j : Nat) : knownV B sn j = kn (B j) (sn j) := rfl
theorem kn_pos {b s : Int} (h : 0 ≤ s) : kn b s = .int b := by unfold kn; rw [decide_eq_true h]; rfl
theorem kn_neg {b s : Int} (h : s < 0) : kn b s = .non := by unfold kn; rw [decide_eq_false (by omega)]; rfl
def mx (x y : Int) : Int := if y > x then y else x
theorem kn_mx {x a b : Int} (h : b < 0) : kn x (mx a b) = kn x a := by
  unfold mx
  split
  · rw [kn_neg h, kn_neg (by omega)]
  · rfl
theorem mx_r {a b : Int} : b ≤ mx a b := by unfold mx; split <;> omega
def fMx (g : Nat → Int) (x : Int) (ss : List Nat) : Int := ss.foldl (fun a s => mx a (g s)) x
def fLs (g : Nat → Option Int) (x : Option Int) (ss : List Nat) : Option Int := ss.foldl (fun a s => lesserO a (g s)) x
theorem fMx_ge {g : Nat → Int} : ∀ (ss : List Nat) (x : Int), x ≤ fMx g x ss ∧ ∀ s ∈ ss, g s ≤ fMx g x ss
  | [], x => ⟨Int.le_refl _, fun s h => nomatch h⟩
  | a :: ss, x => by
    obtain ⟨h1, h2⟩ := fMx_ge (g := g) ss (mx x (g a))
    have e : fMx g x (a :: ss) = fMx g (mx x (g a)) ss := rfl
    rw [e]
    have m1 : x ≤ mx x (g a) := by unfold mx; split <;> omega
    have m2 : g a ≤ mx x (g a) := by unfold mx; split <;> omega
    refine ⟨by omega, fun s hs => ?_⟩
    rcases List.mem_cons.mp hs with rfl | hs
    · omega
    · exact h2 s hs
theorem fMx_in {g : Nat → Int} : ∀ (ss : List Nat) (x : Int), fMx g x ss = x ∨ ∃ s ∈ ss, fMx g x ss = g s
  | [], x => .inl rfl
  | a :: ss, x => by
    have e : fMx g x (a :: ss) = fMx g (mx x (g a)) ss := rfl
    rw [e]
    rcases fMx_in (g := g) ss (mx x (g a)) with h | ⟨s, h1, h2⟩
    · rw [h]
      unfold mx
      split
      · exact .inr ⟨a, List.mem_cons_self, rfl⟩
      · exact .inl rfl
    · exact .inr ⟨s, List.mem_cons_of_mem _ h1, h2⟩
theorem fLs_min {g : Nat → Option Int} {Q : Nat → Int → Prop} (hQ : ∀ s, IsMin (Q s) (g s)) : ∀ (ss : List Nat) {x : Option Int} {P : Int → Prop}, IsMin P x → IsMin (fun b => P b ∨ ∃ s ∈ ss, Q s b) (fLs g x ss)
  | [], x, P, h => h.congr fun b => ⟨.inl, fun z => z.elim id fun ⟨s, hs, _⟩ => nomatch hs⟩
  | a :: ss, x, P, h => by
    refine (fLs_min hQ ss (h.lesser (hQ a))).congr fun b => ?_
    constructor
    · rintro ((z | z) | ⟨s, h1, h2⟩)
      · exact .inl z
      · exact .inr ⟨a, List.mem_cons_self, z⟩
      · exact .inr ⟨s, List.mem_cons_of_mem _ h1, h2⟩
    · rintro (z | ⟨s, h1, h2⟩)
      · exact .inl (.inl z)
      · rcases List.mem_cons.mp h1 with rfl | h1
        · exact .inl (.inr h2)
        · exact .inr ⟨s, h1, h2⟩
section
variable {n : Nat} {f : Nat → Fall} {m h : Nat}
def Pm (n : Nat) (f : Nat → Fall) (m j s : Nat) (b : Int) : Prop := ∃ a : Nat, b = (a : Int) ∧ 1 ≤ a ∧ a ≤ m ∧ lackC n f (seen n f m s) j a = true
theorem Pm_min (n : Nat) (f : Nat → Fall) (m j s : Nat) : IsMin (Pm n f m j s) (miss n f m s j) := firstA_min (lackC n f (seen n f m s) j) m
theorem src_heard {s : Nat} (hs : s ∈ heardL n f (m + 1) h) : Src n f m h s := .inr ⟨(heard_alive hs).2.1, (List.mem_filter.mp hs).2⟩
theorem seen_rec (hh : h < n) (ha : aliveB f (m + 1) h = true) (j : Nat) : (if j = h then ((m + 1 : Nat) : Int) else fMx (fun s => seen n f m s j) (seen n f m h j) (heardL n f (m + 1) h)) = seen n f (m + 1) h j := by
  by_cases hj : j = h
  · subst hj; rw [if_pos rfl, seen_own hh ha]
  · rw [if_neg hj]
    obtain ⟨g1, g2⟩ := fMx_ge (g := fun s => seen n f m s j) (heardL n f (m + 1) h) (seen n f m h j)
    apply Int.le_antisymm
    · rcases fMx_in (g := fun s => seen n f m s j) (heardL n f (m + 1) h) (seen n f m h j) with z | ⟨s, z1, z2⟩
      · rw [z]; exact seen_mono (.inl rfl) j
      · rw [z2]; exact seen_mono (src_heard z1) j
    · rcases seen_from hh ha hj with z | ⟨s, hs, z⟩
      · have := seenK_m1 (come n f m h) m j
        have e : seenK (come n f m h) m j = seen n f m h j := rfl
        omega
      · rcases hs with rfl | hs
        · omega
        · have := g2 s (List.mem_filter.mpr ⟨List.mem_range.mpr hs.1, hs.2⟩)
          have e : (fun s => seen n f m s j) s = seen n f m s j := rfl
          omega
theorem known_rec (B : Nat → Int) (hh : h < n) (ha : aliveB f (m + 1) h = true) (j : Nat) : kn (B j) (fMx (fun s => seen n f m s j) (seen n f m h j) (heardL n f (m + 1) h)) = knownV B (seen n f (m + 1) h) j := by
  by_cases hj : j = h
  · subst hj
    have h1 := (fMx_ge (g := fun s => seen n f m s j) (heardL n f (m + 1) j) (seen n f m j j)).1
    rw [knownV_eq, seen_own hh ha, kn_pos (by have := seen_own hh (alive_prev ha); omega), kn_pos (by omega)]
  · have := seen_rec hh ha j
    rw [if_neg hj] at this
    rw [this, knownV_eq]
theorem miss_rec (hh : h < n) (ha : aliveB f (m + 1) h = true) (j : Nat) (hj : j < n) : IsMin (fun b => (Pm n f m j h b ∨ ∃ s ∈ heardL n f (m + 1) h, Pm n f m j s b) ∨ (j ≠ h ∧ j ∉ heardL n f (m + 1) h ∧ b = ((m + 1 : Nat) : Int))) (miss n f (m + 1) h j) := by
  refine (firstA_min (lackC n f (seen n f (m + 1) h) j) (m + 1)).congr fun b => ?_
  have up : ∀ s, Src n f m h s → ∀ a : Nat, lackC n f (seen n f m s) j a = true → lackC n f (seen n f (m + 1) h) j a = true := fun s hs a hl => by
    obtain ⟨k, k1, k2, k3, k4⟩ := lack_iff.mp hl
    exact lack_iff.mpr ⟨k, k1, k2, Int.le_trans k3 (seen_mono hs k), k4⟩
  constructor
  · rintro ⟨a, rfl, a1, a2, hl⟩
    obtain ⟨k, k1, k2, k3, k4⟩ := lack_iff.mp hl
    have go : ∀ s, Src n f m h s → (a : Int) ≤ seen n f m s k → a ≤ m → (Pm n f m j h (a : Int) ∨ ∃ s ∈ heardL n f (m + 1) h, Pm n f m j s (a : Int)) := fun s hs hk ham => by
      have hl' : lackC n f (seen n f m s) j a = true := lack_iff.mpr ⟨k, k1, k2, hk, k4⟩
      rcases hs with rfl | hs
      · exact .inl ⟨a, rfl, a1, ham, hl'⟩
      · exact .inr ⟨s, List.mem_filter.mpr ⟨List.mem_range.mpr hs.1, hs.2⟩, a, rfl, a1, ham, hl'⟩
    by_cases hk : k = h
    · subst hk
      by_cases ham : a ≤ m
      · exact .inl (go k (.inl rfl) (by rw [seen_own hh (alive_prev ha)]; omega) ham)
      · have e : a = m + 1 := by omega
        subst e
        exact .inr ⟨fun e => k2 e.symm, k4, rfl⟩
    · rcases seen_from hh ha hk with z | ⟨s, hs, z⟩
      · omega
      · have hsm : seen n f m s k ≤ (m : Int) := by
          rcases seenK_in (come n f m s) m k with y | ⟨a', y1, y2, y3⟩
          · have : seen n f m s k = -1 := y
            omega
          · have : seen n f m s k = (a' : Int) := y3
            omega
        exact .inl (go s hs (by omega) (by omega))
  · rintro ((⟨a, rfl, a1, a2, hl⟩ | ⟨s, s1, a, rfl, a1, a2, hl⟩) | ⟨z1, z2, rfl⟩)
    · exact ⟨a, rfl, a1, by omega, up h (.inl rfl) a hl⟩
    · exact ⟨a, rfl, a1, by omega, up s (src_heard s1) a hl⟩
    · exact ⟨m + 1, rfl, by omega, Nat.le_refl _, lack_iff.mpr ⟨h, hh, fun e => z1 e.symm, by rw [seen_own hh ha]; omega, z2⟩⟩
theorem miss_fold (hh : h < n) (ha : aliveB f (m + 1) h = true) (j : Nat) (hj : j < n) : (if j ≠ h ∧ j ∉ heardL n f (m + 1) h then lesserO (fLs (fun s => miss n f m s j) (miss n f m h j) (heardL n f (m + 1) h)) (some ((m + 1 : Nat) : Int)) else fLs (fun s => miss n f m s j) (miss n f m h j) (heardL n f (m + 1) h)) = miss n f (m + 1) h j := by
  have h1 := fLs_min (fun s => Pm_min n f m j s) (heardL n f (m + 1) h) (Pm_min n f m j h)
  have h2 := miss_rec hh ha j hj
  by_cases c : j ≠ h ∧ j ∉ heardL n f (m + 1) h
  · rw [if_pos c]
    refine (h1.lesser (IsMin.one _)).uniq (h2.congr fun b => ?_)
    exact ⟨fun z => z.elim .inl fun z => .inr z.2.2, fun z => z.elim .inl fun z => .inr ⟨c.1, c.2, z⟩⟩
  · rw [if_neg c]
    refine h1.uniq (h2.congr fun b => ?_)
    exact ⟨fun z => z.elim id fun z => absurd ⟨z.1, z.2.1⟩ c, .inl⟩
theorem seen_zero (hh : h < n) (ha : aliveB f 0 h = true) (j : Nat) : seen n f 0 h j = if j = h then 0 else -1 := by
  by_cases e : j = h
  · subst e; rw [if_pos rfl, seen_own hh ha]; rfl
  · rw [if_neg e]
    rcases seenK_in (come n f 0 h) 0 j with z | ⟨a, z1, z2, z3⟩
    · exact z
    · have : (j, a) = (h, 0) := by simpa [come] using z2
      cases this
      exact absurd rfl e
end
section
variable {n F L : Nat} {t s : Str} {S T : PV} {B : Nat → Int} {f : Nat → Fall}
theorem c_first (k : Nat) (hn : n ≤ 5) (hS : SetG S n F L t s) (hT : StoryG n T B f) (h : Nat) (hh : h < n) (ha : aliveB f 0 h = true) : fnsOf tab 100 (k + 1) 7 [S, T, .int (h : Int)] = .ok (ntV n B f 0 h) := by
  refine goF rfl rfl ?_
  obtain ⟨a, t0, ha'⟩ := hT.b
  simp -implicitDefEqProofs (disch := omega) only [SR.fin_nx, SR.fin_rt, Ok_ok, ex_nx, R.bind_ok, R.st_ok, SR.next_nx, SR.next_rt, SR.next_bk, SR.next_ct, x_cnon, x_cbl, x_cint, x_cstr, x_var, x_bor, x_bin, x_neg, x_cmp, x_bop, x_bcons, x_not, x_ite, x_tup, x_lst, x_dct1, x_idx, x_slc, x_call, x_bi, x_isi, x_comp, x_nil, x_cons, x_c0, x_c1, x_seq, x_rng1, x_rng2, x_enu, x_keys, y_nil, y_cons, y_asg, y_setI, y_app, y_appPop, y_asgPop, y_ite, y_for, y_while, y_ret, y_retN, y_raise, y_pass, y_brk, y_cont, y_frz, y_exp, b_var, b_tup, b_lst, m_nil, m_cons, g_zero, g_succ, w_nil, w_cons, next_next, next_nil, forF_eq, boolK_nil, boolK_cons, bK_tt, bK_tf, bK_ft, bK_ff, bK_and, bK_or, iteV_bl, iteS_bl, notV_bl, negV_int, condV_bl, seqV_lst, seqV_tup, seqV_scr, enuV_lst, enuV_tup, keysV_dct, compF_eq, biP_1, biP_2, len_lst, len_tup, len_scr, int_int, int_bl, list_lst, list_tup, tuple_lst, tuple_tup, min_int, max_int, abs_int, c_eq, c_ne, c_lt, c_le, c_gt, c_ge, c_is, c_isnot, c_inn, c_notin, in_lst, in_tup, ix_lst, ix_tup, ix_scr, eq_int, eq_bl, eq_str, isNon_non, isNon_int, isNon_tup, isNon_lst, isNon_dct, isNon_bl, isNon_str, bin_add, bin_sub, bin_mod, bin_fdiv, List.set_cons_zero, List.set_cons_succ, List.length_cons, List.length_nil, List.map_cons, List.map_nil, List.cons_append, List.nil_append, List.replicate_succ, List.replicate_zero, ↓reduceIte, Bool.false_eq_true, Int.reduceLT, Int.reducePow, Int.reduceNeg, Int.reduceLE, Int.reduceAdd, Int.reduceSub, Int.reduceMul, Int.reduceMod, Int.reduceDiv, Bool.not_true, Bool.not_false, Bool.true_beq, Bool.false_beq, Bool.and_true, Bool.true_and, Bool.and_false, Bool.false_and, Bool.or_true, Bool.true_or, Bool.or_false, Bool.false_or, Nat.reduceAdd, Nat.reduceSub, Nat.zero_add, Nat.sub_self, part_no, part_int, slc_lst, slc_tup, isNoE, isiV, isiOk, isiP, at_zero, at_1, at_2, at_3, k_rng1, k_rng1s, k_at, k_ats, k_at0, k_at1, k_set, k_app, k_app0, kc_nil, kc_cons, consO_some, consO_none, if_okP, Nx_nx, Ret_rt, Ret_nx, le_nil, le_none, le_some, and_true, true_and, sub_one, cast_s, decide_true, decide_false, cast_0, k_rng_1, k_rng_2, k_rng_3, k_rng_4, k_rng_5, k_rng_6, comp_1, comp_2, comp_3, comp_4, comp_5, comp_6, Int.cast_ofNat_Int, Int.reduceBEq, Int.reduceBNe, beq_self_eq_true, succ_ne0, Nat.lt_irrefl, rng_length, List.length_map, Option.some.injEq, d7, hS.i1, t0, ha'.ix]
  rw [compR (fun _ => .non) fun i hi => by simp -implicitDefEqProofs (disch := omega) only [SR.fin_nx, SR.fin_rt, Ok_ok, ex_nx, R.bind_ok, R.st_ok, SR.next_nx, SR.next_rt, SR.next_bk, SR.next_ct, x_cnon, x_cbl, x_cint, x_cstr, x_var, x_bor, x_bin, x_neg, x_cmp, x_bop, x_bcons, x_not, x_ite, x_tup, x_lst, x_dct1, x_idx, x_slc, x_call, x_bi, x_isi, x_comp, x_nil, x_cons, x_c0, x_c1, x_seq, x_rng1, x_rng2, x_enu, x_keys, y_nil, y_cons, y_asg, y_setI, y_app, y_appPop, y_asgPop, y_ite, y_for, y_while, y_ret, y_retN, y_raise, y_pass, y_brk, y_cont, y_frz, y_exp, b_var, b_tup, b_lst, m_nil, m_cons, g_zero, g_succ, w_nil, w_cons, next_next, next_nil, forF_eq, boolK_nil, boolK_cons, bK_tt, bK_tf, bK_ft, bK_ff, bK_and, bK_or, iteV_bl, iteS_bl, notV_bl, negV_int, condV_bl, seqV_lst, seqV_tup, seqV_scr, enuV_lst, enuV_tup, keysV_dct, compF_eq, biP_1, biP_2, len_lst, len_tup, len_scr, int_int, int_bl, list_lst, list_tup, tuple_lst, tuple_tup, min_int, max_int, abs_int, c_eq, c_ne, c_lt, c_le, c_gt, c_ge, c_is, c_isnot, c_inn, c_notin, in_lst, in_tup, ix_lst, ix_tup, ix_scr, eq_int, eq_bl, eq_str, isNon_non, isNon_int, isNon_tup, isNon_lst, isNon_dct, isNon_bl, isNon_str, bin_add, bin_sub, bin_mod, bin_fdiv, List.set_cons_zero, List.set_cons_succ, List.length_cons, List.length_nil, List.map_cons, List.map_nil, List.cons_append, List.nil_append, List.replicate_succ, List.replicate_zero, ↓reduceIte, Bool.false_eq_true, Int.reduceLT, Int.reducePow, Int.reduceNeg, Int.reduceLE, Int.reduceAdd, Int.reduceSub, Int.reduceMul, Int.reduceMod, Int.reduceDiv, Bool.not_true, Bool.not_false, Bool.true_beq, Bool.false_beq, Bool.and_true, Bool.true_and, Bool.and_false, Bool.false_and, Bool.or_true, Bool.true_or, Bool.or_false, Bool.false_or, Nat.reduceAdd, Nat.reduceSub, Nat.zero_add, Nat.sub_self, part_no, part_int, slc_lst, slc_tup, isNoE, isiV, isiOk, isiP, at_zero, at_1, at_2, at_3, k_rng1, k_rng1s, k_at, k_ats, k_at0, k_at1, k_set, k_app, k_app0, kc_nil, kc_cons, consO_some, consO_none, if_okP, Nx_nx, Ret_rt, Ret_nx, le_nil, le_none, le_some, and_true, true_and, sub_one, cast_s, decide_true, decide_false, cast_0, k_rng_1, k_rng_2, k_rng_3, k_rng_4, k_rng_5, k_rng_6, comp_1, comp_2, comp_3, comp_4, comp_5, comp_6, Int.cast_ofNat_Int, Int.reduceBEq, Int.reduceBNe, beq_self_eq_true, succ_ne0, Nat.lt_irrefl, rng_length, List.length_map, Option.some.injEq]]
  simp -implicitDefEqProofs (disch := omega) only [SR.fin_nx, SR.fin_rt, Ok_ok, ex_nx, R.bind_ok, R.st_ok, SR.next_nx, SR.next_rt, SR.next_bk, SR.next_ct, x_cnon, x_cbl, x_cint, x_cstr, x_var, x_bor, x_bin, x_neg, x_cmp, x_bop, x_bcons, x_not, x_ite, x_tup, x_lst, x_dct1, x_idx, x_slc, x_call, x_bi, x_isi, x_comp, x_nil, x_cons, x_c0, x_c1, x_seq, x_rng1, x_rng2, x_enu, x_keys, y_nil, y_cons, y_asg, y_setI, y_app, y_appPop, y_asgPop, y_ite, y_for, y_while, y_ret, y_retN, y_raise, y_pass, y_brk, y_cont, y_frz, y_exp, b_var, b_tup, b_lst, m_nil, m_cons, g_zero, g_succ, w_nil, w_cons, next_next, next_nil, forF_eq, boolK_nil, boolK_cons, bK_tt, bK_tf, bK_ft, bK_ff, bK_and, bK_or, iteV_bl, iteS_bl, notV_bl, negV_int, condV_bl, seqV_lst, seqV_tup, seqV_scr, enuV_lst, enuV_tup, keysV_dct, compF_eq, biP_1, biP_2, len_lst, len_tup, len_scr, int_int, int_bl, list_lst, list_tup, tuple_lst, tuple_tup, min_int, max_int, abs_int, c_eq, c_ne, c_lt, c_le, c_gt, c_ge, c_is, c_isnot, c_inn, c_notin, in_lst, in_tup, ix_lst, ix_tup, ix_scr, eq_int, eq_bl, eq_str, isNon_non, isNon_int, isNon_tup, isNon_lst, isNon_dct, isNon_bl, isNon_str, bin_add, bin_sub, bin_mod, bin_fdiv, List.set_cons_zero, List.set_cons_succ, List.length_cons, List.length_nil, List.map_cons, List.map_nil, List.cons_append, List.nil_append, List.replicate_succ, List.replicate_zero, ↓reduceIte, Bool.false_eq_true, Int.reduceLT, Int.reducePow, Int.reduceNeg, Int.reduceLE, Int.reduceAdd, Int.reduceSub, Int.reduceMul, Int.reduceMod, Int.reduceDiv, Bool.not_true, Bool.not_false, Bool.true_beq, Bool.false_beq, Bool.and_true, Bool.true_and, Bool.and_false, Bool.false_and, Bool.or_true, Bool.true_or, Bool.or_false, Bool.false_or, Nat.reduceAdd, Nat.reduceSub, Nat.zero_add, Nat.sub_self, part_no, part_int, slc_lst, slc_tup, isNoE, isiV, isiOk, isiP, at_zero, at_1, at_2, at_3, k_rng1, k_rng1s, k_at, k_ats, k_at0, k_at1, k_set, k_app, k_app0, kc_nil, kc_cons, consO_some, consO_none, if_okP, Nx_nx, Ret_rt, Ret_nx, le_nil, le_none, le_some, and_true, true_and, sub_one, cast_s, decide_true, decide_false, cast_0, k_rng_1, k_rng_2, k_rng_3, k_rng_4, k_rng_5, k_rng_6, comp_1, comp_2, comp_3, comp_4, comp_5, comp_6, Int.cast_ofNat_Int, Int.reduceBEq, Int.reduceBNe, beq_self_eq_true, succ_ne0, Nat.lt_irrefl, rng_length, List.length_map, Option.some.injEq, hS.i1]
  rw [compR (fun _ => .int (-1)) fun i hi => by simp -implicitDefEqProofs (disch := omega) only [SR.fin_nx, SR.fin_rt, Ok_ok, ex_nx, R.bind_ok, R.st_ok, SR.next_nx, SR.next_rt, SR.next_bk, SR.next_ct, x_cnon, x_cbl, x_cint, x_cstr, x_var, x_bor, x_bin, x_neg, x_cmp, x_bop, x_bcons, x_not, x_ite, x_tup, x_lst, x_dct1, x_idx, x_slc, x_call, x_bi, x_isi, x_comp, x_nil, x_cons, x_c0, x_c1, x_seq, x_rng1, x_rng2, x_enu, x_keys, y_nil, y_cons, y_asg, y_setI, y_app, y_appPop, y_asgPop, y_ite, y_for, y_while, y_ret, y_retN, y_raise, y_pass, y_brk, y_cont, y_frz, y_exp, b_var, b_tup, b_lst, m_nil, m_cons, g_zero, g_succ, w_nil, w_cons, next_next, next_nil, forF_eq, boolK_nil, boolK_cons, bK_tt, bK_tf, bK_ft, bK_ff, bK_and, bK_or, iteV_bl, iteS_bl, notV_bl, negV_int, condV_bl, seqV_lst, seqV_tup, seqV_scr, enuV_lst, enuV_tup, keysV_dct, compF_eq, biP_1, biP_2, len_lst, len_tup, len_scr, int_int, int_bl, list_lst, list_tup, tuple_lst, tuple_tup, min_int, max_int, abs_int, c_eq, c_ne, c_lt, c_le, c_gt, c_ge, c_is, c_isnot, c_inn, c_notin, in_lst, in_tup, ix_lst, ix_tup, ix_scr, eq_int, eq_bl, eq_str, isNon_non, isNon_int, isNon_tup, isNon_lst, isNon_dct, isNon_bl, isNon_str, bin_add, bin_sub, bin_mod, bin_fdiv, List.set_cons_zero, List.set_cons_succ, List.length_cons, List.length_nil, List.map_cons, List.map_nil, List.cons_append, List.nil_append, List.replicate_succ, List.replicate_zero, ↓reduceIte, Bool.false_eq_true, Int.reduceLT, Int.reducePow, Int.reduceNeg, Int.reduceLE, Int.reduceAdd, Int.reduceSub, Int.reduceMul, Int.reduceMod, Int.reduceDiv, Bool.not_true, Bool.not_false, Bool.true_beq, Bool.false_beq, Bool.and_true, Bool.true_and, Bool.and_false, Bool.false_and, Bool.or_true, Bool.true_or, Bool.or_false, Bool.false_or, Nat.reduceAdd, Nat.reduceSub, Nat.zero_add, Nat.sub_self, part_no, part_int, slc_lst, slc_tup, isNoE, isiV, isiOk, isiP, at_zero, at_1, at_2, at_3, k_rng1, k_rng1s, k_at, k_ats, k_at0, k_at1, k_set, k_app, k_app0, kc_nil, kc_cons, consO_some, consO_none, if_okP, Nx_nx, Ret_rt, Ret_nx, le_nil, le_none, le_some, and_true, true_and, sub_one, cast_s, decide_true, decide_false, cast_0, k_rng_1, k_rng_2, k_rng_3, k_rng_4, k_rng_5, k_rng_6, comp_1, comp_2, comp_3, comp_4, comp_5, comp_6, Int.cast_ofNat_Int, Int.reduceBEq, Int.reduceBNe, beq_self_eq_true, succ_ne0, Nat.lt_irrefl, rng_length, List.length_map, Option.some.injEq]]
  simp -implicitDefEqProofs (disch := omega) only [SR.fin_nx, SR.fin_rt, Ok_ok, ex_nx, R.bind_ok, R.st_ok, SR.next_nx, SR.next_rt, SR.next_bk, SR.next_ct, x_cnon, x_cbl, x_cint, x_cstr, x_var, x_bor, x_bin, x_neg, x_cmp, x_bop, x_bcons, x_not, x_ite, x_tup, x_lst, x_dct1, x_idx, x_slc, x_call, x_bi, x_isi, x_comp, x_nil, x_cons, x_c0, x_c1, x_seq, x_rng1, x_rng2, x_enu, x_keys, y_nil, y_cons, y_asg, y_setI, y_app, y_appPop, y_asgPop, y_ite, y_for, y_while, y_ret, y_retN, y_raise, y_pass, y_brk, y_cont, y_frz, y_exp, b_var, b_tup, b_lst, m_nil, m_cons, g_zero, g_succ, w_nil, w_cons, next_next, next_nil, forF_eq, boolK_nil, boolK_cons, bK_tt, bK_tf, bK_ft, bK_ff, bK_and, bK_or, iteV_bl, iteS_bl, notV_bl, negV_int, condV_bl, seqV_lst, seqV_tup, seqV_scr, enuV_lst, enuV_tup, keysV_dct, compF_eq, biP_1, biP_2, len_lst, len_tup, len_scr, int_int, int_bl, list_lst, list_tup, tuple_lst, tuple_tup, min_int, max_int, abs_int, c_eq, c_ne, c_lt, c_le, c_gt, c_ge, c_is, c_isnot, c_inn, c_notin, in_lst, in_tup, ix_lst, ix_tup, ix_scr, eq_int, eq_bl, eq_str, isNon_non, isNon_int, isNon_tup, isNon_lst, isNon_dct, isNon_bl, isNon_str, bin_add, bin_sub, bin_mod, bin_fdiv, List.set_cons_zero, List.set_cons_succ, List.length_cons, List.length_nil, List.map_cons, List.map_nil, List.cons_append, List.nil_append, List.replicate_succ, List.replicate_zero, ↓reduceIte, Bool.false_eq_true, Int.reduceLT, Int.reducePow, Int.reduceNeg, Int.reduceLE, Int.reduceAdd, Int.reduceSub, Int.reduceMul, Int.reduceMod, Int.reduceDiv, Bool.not_true, Bool.not_false, Bool.true_beq, Bool.false_beq, Bool.and_true, Bool.true_and, Bool.and_false, Bool.false_and, Bool.or_true, Bool.true_or, Bool.or_false, Bool.false_or, Nat.reduceAdd, Nat.reduceSub, Nat.zero_add, Nat.sub_self, part_no, part_int, slc_lst, slc_tup, isNoE, isiV, isiOk, isiP, at_zero, at_1, at_2, at_3, k_rng1, k_rng1s, k_at, k_ats, k_at0, k_at1, k_set, k_app, k_app0, kc_nil, kc_cons, consO_some, consO_none, if_okP, Nx_nx, Ret_rt, Ret_nx, le_nil, le_none, le_some, and_true, true_and, sub_one, cast_s, decide_true, decide_false, cast_0, k_rng_1, k_rng_2, k_rng_3, k_rng_4, k_rng_5, k_rng_6, comp_1, comp_2, comp_3, comp_4, comp_5, comp_6, Int.cast_ofNat_Int, Int.reduceBEq, Int.reduceBNe, beq_self_eq_true, succ_ne0, Nat.lt_irrefl, rng_length, List.length_map, Option.some.injEq, hS.i1]
  rw [compR (fun _ => .non) fun i hi => by simp -implicitDefEqProofs (disch := omega) only [SR.fin_nx, SR.fin_rt, Ok_ok, ex_nx, R.bind_ok, R.st_ok, SR.next_nx, SR.next_rt, SR.next_bk, SR.next_ct, x_cnon, x_cbl, x_cint, x_cstr, x_var, x_bor, x_bin, x_neg, x_cmp, x_bop, x_bcons, x_not, x_ite, x_tup, x_lst, x_dct1, x_idx, x_slc, x_call, x_bi, x_isi, x_comp, x_nil, x_cons, x_c0, x_c1, x_seq, x_rng1, x_rng2, x_enu, x_keys, y_nil, y_cons, y_asg, y_setI, y_app, y_appPop, y_asgPop, y_ite, y_for, y_while, y_ret, y_retN, y_raise, y_pass, y_brk, y_cont, y_frz, y_exp, b_var, b_tup, b_lst, m_nil, m_cons, g_zero, g_succ, w_nil, w_cons, next_next, next_nil, forF_eq, boolK_nil, boolK_cons, bK_tt, bK_tf, bK_ft, bK_ff, bK_and, bK_or, iteV_bl, iteS_bl, notV_bl, negV_int, condV_bl, seqV_lst, seqV_tup, seqV_scr, enuV_lst, enuV_tup, keysV_dct, compF_eq, biP_1, biP_2, len_lst, len_tup, len_scr, int_int, int_bl, list_lst, list_tup, tuple_lst, tuple_tup, min_int, max_int, abs_int, c_eq, c_ne, c_lt, c_le, c_gt, c_ge, c_is, c_isnot, c_inn, c_notin, in_lst, in_tup, ix_lst, ix_tup, ix_scr, eq_int, eq_bl, eq_str, isNon_non, isNon_int, isNon_tup, isNon_lst, isNon_dct, isNon_bl, isNon_str, bin_add, bin_sub, bin_mod, bin_fdiv, List.set_cons_zero, List.set_cons_succ, List.length_cons, List.length_nil, List.map_cons, List.map_nil, List.cons_append, List.nil_append, List.replicate_succ, List.replicate_zero, ↓reduceIte, Bool.false_eq_true, Int.reduceLT, Int.reducePow, Int.reduceNeg, Int.reduceLE, Int.reduceAdd, Int.reduceSub, Int.reduceMul, Int.reduceMod, Int.reduceDiv, Bool.not_true, Bool.not_false, Bool.true_beq, Bool.false_beq, Bool.and_true, Bool.true_and, Bool.and_false, Bool.false_and, Bool.or_true, Bool.true_or, Bool.or_false, Bool.false_or, Nat.reduceAdd, Nat.reduceSub, Nat.zero_add, Nat.sub_self, part_no, part_int, slc_lst, slc_tup, isNoE, isiV, isiOk, isiP, at_zero, at_1, at_2, at_3, k_rng1, k_rng1s, k_at, k_ats, k_at0, k_at1, k_set, k_app, k_app0, kc_nil, kc_cons, consO_some, consO_none, if_okP, Nx_nx, Ret_rt, Ret_nx, le_nil, le_none, le_some, and_true, true_and, sub_one, cast_s, decide_true, decide_false, cast_0, k_rng_1, k_rng_2, k_rng_3, k_rng_4, k_rng_5, k_rng_6, comp_1, comp_2, comp_3, comp_4, comp_5, comp_6, Int.cast_ofNat_Int, Int.reduceBEq, Int.reduceBNe, beq_self_eq_true, succ_ne0, Nat.lt_irrefl, rng_length, List.length_map, Option.some.injEq]]
  simp -implicitDefEqProofs (disch := omega) only [SR.fin_nx, SR.fin_rt, Ok_ok, ex_nx, R.bind_ok, R.st_ok, SR.next_nx, SR.next_rt, SR.next_bk, SR.next_ct, x_cnon, x_cbl, x_cint, x_cstr, x_var, x_bor, x_bin, x_neg, x_cmp, x_bop, x_bcons, x_not, x_ite, x_tup, x_lst, x_dct1, x_idx, x_slc, x_call, x_bi, x_isi, x_comp, x_nil, x_cons, x_c0, x_c1, x_seq, x_rng1, x_rng2, x_enu, x_keys, y_nil, y_cons, y_asg, y_setI, y_app, y_appPop, y_asgPop, y_ite, y_for, y_while, y_ret, y_retN, y_raise, y_pass, y_brk, y_cont, y_frz, y_exp, b_var, b_tup, b_lst, m_nil, m_cons, g_zero, g_succ, w_nil, w_cons, next_next, next_nil, forF_eq, boolK_nil, boolK_cons, bK_tt, bK_tf, bK_ft, bK_ff, bK_and, bK_or, iteV_bl, iteS_bl, notV_bl, negV_int, condV_bl, seqV_lst, seqV_tup, seqV_scr, enuV_lst, enuV_tup, keysV_dct, compF_eq, biP_1, biP_2, len_lst, len_tup, len_scr, int_int, int_bl, list_lst, list_tup, tuple_lst, tuple_tup, min_int, max_int, abs_int, c_eq, c_ne, c_lt, c_le, c_gt, c_ge, c_is, c_isnot, c_inn, c_notin, in_lst, in_tup, ix_lst, ix_tup, ix_scr, eq_int, eq_bl, eq_str, isNon_non, isNon_int, isNon_tup, isNon_lst, isNon_dct, isNon_bl, isNon_str, bin_add, bin_sub, bin_mod, bin_fdiv, List.set_cons_zero, List.set_cons_succ, List.length_cons, List.length_nil, List.map_cons, List.map_nil, List.cons_append, List.nil_append, List.replicate_succ, List.replicate_zero, ↓reduceIte, Bool.false_eq_true, Int.reduceLT, Int.reducePow, Int.reduceNeg, Int.reduceLE, Int.reduceAdd, Int.reduceSub, Int.reduceMul, Int.reduceMod, Int.reduceDiv, Bool.not_true, Bool.not_false, Bool.true_beq, Bool.false_beq, Bool.and_true, Bool.true_and, Bool.and_false, Bool.false_and, Bool.or_true, Bool.true_or, Bool.or_false, Bool.false_or, Nat.reduceAdd, Nat.reduceSub, Nat.zero_add, Nat.sub_self, part_no, part_int, slc_lst, slc_tup, isNoE, isiV, isiOk, isiP, at_zero, at_1, at_2, at_3, k_rng1, k_rng1s, k_at, k_ats, k_at0, k_at1, k_set, k_app, k_app0, kc_nil, kc_cons, consO_some, consO_none, if_okP, Nx_nx, Ret_rt, Ret_nx, le_nil, le_none, le_some, and_true, true_and, sub_one, cast_s, decide_true, decide_false, cast_0, k_rng_1, k_rng_2, k_rng_3, k_rng_4, k_rng_5, k_rng_6, comp_1, comp_2, comp_3, comp_4, comp_5, comp_6, Int.cast_ofNat_Int, Int.reduceBEq, Int.reduceBNe, beq_self_eq_true, succ_ne0, Nat.lt_irrefl, rng_length, List.length_map, Option.some.injEq, t0, ha'.ix]
  unfold ntV
  have z0 : ∀ j, miss n f 0 h j = none := fun j => rfl
  congr 3
  · refine rng_congr fun j _ => ?_
    rw [knownV_eq, seen_zero hh ha]
    by_cases e : j = h
    · subst e; rw [if_pos rfl, if_pos rfl, kn_pos (by omega)]
    · rw [if_neg e, if_neg e, kn_neg (by omega)]
  · congr 2
    funext j
    rw [seen_zero hh ha]
    split <;> rfl
theorem c_later (k : Nat) (hn : n ≤ 5) (hS : SetG S n F L t s) (hT : StoryG n T B f) (h m : Nat) (hh : h < n) (ha : aliveB f (m + 1) h = true) : fnsOf tab 100 (k + 4) 9 [S, T, .int (h : Int), .int ((m + 1 : Nat) : Int), .tup (rng n (nrV n B f m))] = .ok (ntV n B f (m + 1) h) := by
  refine goF rfl rfl ?_
  have c1 := c_heardP k hn hS hT h (m + 1) (by omega) hh ha
  have eh : nrV n B f m h = ntV n B f m h := by unfold nrV; rw [alive_prev ha]; rfl
  simp only [cast_s] at c1
  simp -implicitDefEqProofs (disch := omega) only [SR.fin_nx, SR.fin_rt, Ok_ok, ex_nx, R.bind_ok, R.st_ok, SR.next_nx, SR.next_rt, SR.next_bk, SR.next_ct, x_cnon, x_cbl, x_cint, x_cstr, x_var, x_bor, x_bin, x_neg, x_cmp, x_bop, x_bcons, x_not, x_ite, x_tup, x_lst, x_dct1, x_idx, x_slc, x_call, x_bi, x_isi, x_comp, x_nil, x_cons, x_c0, x_c1, x_seq, x_rng1, x_rng2, x_enu, x_keys, y_nil, y_cons, y_asg, y_setI, y_app, y_appPop, y_asgPop, y_ite, y_for, y_while, y_ret, y_retN, y_raise, y_pass, y_brk, y_cont, y_frz, y_exp, b_var, b_tup, b_lst, m_nil, m_cons, g_zero, g_succ, w_nil, w_cons, next_next, next_nil, forF_eq, boolK_nil, boolK_cons, bK_tt, bK_tf, bK_ft, bK_ff, bK_and, bK_or, iteV_bl, iteS_bl, notV_bl, negV_int, condV_bl, seqV_lst, seqV_tup, seqV_scr, enuV_lst, enuV_tup, keysV_dct, compF_eq, biP_1, biP_2, len_lst, len_tup, len_scr, int_int, int_bl, list_lst, list_tup, tuple_lst, tuple_tup, min_int, max_int, abs_int, c_eq, c_ne, c_lt, c_le, c_gt, c_ge, c_is, c_isnot, c_inn, c_notin, in_lst, in_tup, ix_lst, ix_tup, ix_scr, eq_int, eq_bl, eq_str, isNon_non, isNon_int, isNon_tup, isNon_lst, isNon_dct, isNon_bl, isNon_str, bin_add, bin_sub, bin_mod, bin_fdiv, List.set_cons_zero, List.set_cons_succ, List.length_cons, List.length_nil, List.map_cons, List.map_nil, List.cons_append, List.nil_append, List.replicate_succ, List.replicate_zero, ↓reduceIte, Bool.false_eq_true, Int.reduceLT, Int.reducePow, Int.reduceNeg, Int.reduceLE, Int.reduceAdd, Int.reduceSub, Int.reduceMul, Int.reduceMod, Int.reduceDiv, Bool.not_true, Bool.not_false, Bool.true_beq, Bool.false_beq, Bool.and_true, Bool.true_and, Bool.and_false, Bool.false_and, Bool.or_true, Bool.true_or, Bool.or_false, Bool.false_or, Nat.reduceAdd, Nat.reduceSub, Nat.zero_add, Nat.sub_self, part_no, part_int, slc_lst, slc_tup, isNoE, isiV, isiOk, isiP, at_zero, at_1, at_2, at_3, k_rng1, k_rng1s, k_at, k_ats, k_at0, k_at1, k_set, k_app, k_app0, kc_nil, kc_cons, consO_some, consO_none, if_okP, Nx_nx, Ret_rt, Ret_nx, le_nil, le_none, le_some, and_true, true_and, sub_one, cast_s, decide_true, decide_false, cast_0, k_rng_1, k_rng_2, k_rng_3, k_rng_4, k_rng_5, k_rng_6, comp_1, comp_2, comp_3, comp_4, comp_5, comp_6, Int.cast_ofNat_Int, Int.reduceBEq, Int.reduceBNe, beq_self_eq_true, succ_ne0, Nat.lt_irrefl, rng_length, List.length_map, Option.some.injEq, d9, c1, eh, ntV, list_tup]
  generalize hss : heardL n f (m + 1) h = ss at c1 ⊢
  let SN : Nat → Nat → Int := fun i j => fMx (fun s => seen n f m s j) (seen n f m h j) (ss.take i)
  let MN : Nat → Nat → Option Int := fun i j => fLs (fun s => miss n f m s j) (miss n f m h j) (ss.take i)
  refine forM_F (fun i => [some S, some T, some (.int (h : Int)), some (.int ((m : Int) + 1)), some (.tup (rng n (nrV n B f m))), some (.tup (ss.map fun j : Nat => PV.int (j : Int))), none, none, some (.lst (rng n fun j => kn (B j) (SN i j))), some (.lst (rng n fun j => .int (SN i j))), some (.lst (rng n fun j => oP (MN i j))), none]) ?_ (fun i s hs => ?_) ?_
  · simp -implicitDefEqProofs (disch := omega) only [SR.fin_nx, SR.fin_rt, Ok_ok, ex_nx, R.bind_ok, R.st_ok, SR.next_nx, SR.next_rt, SR.next_bk, SR.next_ct, x_cnon, x_cbl, x_cint, x_cstr, x_var, x_bor, x_bin, x_neg, x_cmp, x_bop, x_bcons, x_not, x_ite, x_tup, x_lst, x_dct1, x_idx, x_slc, x_call, x_bi, x_isi, x_comp, x_nil, x_cons, x_c0, x_c1, x_seq, x_rng1, x_rng2, x_enu, x_keys, y_nil, y_cons, y_asg, y_setI, y_app, y_appPop, y_asgPop, y_ite, y_for, y_while, y_ret, y_retN, y_raise, y_pass, y_brk, y_cont, y_frz, y_exp, b_var, b_tup, b_lst, m_nil, m_cons, g_zero, g_succ, w_nil, w_cons, next_next, next_nil, forF_eq, boolK_nil, boolK_cons, bK_tt, bK_tf, bK_ft, bK_ff, bK_and, bK_or, iteV_bl, iteS_bl, notV_bl, negV_int, condV_bl, seqV_lst, seqV_tup, seqV_scr, enuV_lst, enuV_tup, keysV_dct, compF_eq, biP_1, biP_2, len_lst, len_tup, len_scr, int_int, int_bl, list_lst, list_tup, tuple_lst, tuple_tup, min_int, max_int, abs_int, c_eq, c_ne, c_lt, c_le, c_gt, c_ge, c_is, c_isnot, c_inn, c_notin, in_lst, in_tup, ix_lst, ix_tup, ix_scr, eq_int, eq_bl, eq_str, isNon_non, isNon_int, isNon_tup, isNon_lst, isNon_dct, isNon_bl, isNon_str, bin_add, bin_sub, bin_mod, bin_fdiv, List.set_cons_zero, List.set_cons_succ, List.length_cons, List.length_nil, List.map_cons, List.map_nil, List.cons_append, List.nil_append, List.replicate_succ, List.replicate_zero, ↓reduceIte, Bool.false_eq_true, Int.reduceLT, Int.reducePow, Int.reduceNeg, Int.reduceLE, Int.reduceAdd, Int.reduceSub, Int.reduceMul, Int.reduceMod, Int.reduceDiv, Bool.not_true, Bool.not_false, Bool.true_beq, Bool.false_beq, Bool.and_true, Bool.true_and, Bool.and_false, Bool.false_and, Bool.or_true, Bool.true_or, Bool.or_false, Bool.false_or, Nat.reduceAdd, Nat.reduceSub, Nat.zero_add, Nat.sub_self, part_no, part_int, slc_lst, slc_tup, isNoE, isiV, isiOk, isiP, at_zero, at_1, at_2, at_3, k_rng1, k_rng1s, k_at, k_ats, k_at0, k_at1, k_set, k_app, k_app0, kc_nil, kc_cons, consO_some, consO_none, if_okP, Nx_nx, Ret_rt, Ret_nx, le_nil, le_none, le_some, and_true, true_and, sub_one, cast_s, decide_true, decide_false, cast_0, k_rng_1, k_rng_2, k_rng_3, k_rng_4, k_rng_5, k_rng_6, comp_1, comp_2, comp_3, comp_4, comp_5, comp_6, Int.cast_ofNat_Int, Int.reduceBEq, Int.reduceBNe, beq_self_eq_true, succ_ne0, Nat.lt_irrefl, rng_length, List.length_map, Option.some.injEq]
    (repeat' apply And.intro) <;> rfl
  · have hs' := heard_alive (hss ▸ List.mem_of_getElem? hs)
    have es : nrV n B f m s = ntV n B f m s := by unfold nrV; rw [hs'.1]; rfl
    have S1 : ∀ j, SN (i + 1) j = mx (SN i j) (seen n f m s j) := fun j => take_s (step := fun a s => mx a (seen n f m s j)) hs
    have M1 : ∀ j, MN (i + 1) j = lesserO (MN i j) (miss n f m s j) := fun j => take_s (step := fun a s => lesserO a (miss n f m s j)) hs
    simp only [S1, M1]
    generalize SN i = SNi
    generalize MN i = MNi
    simp -implicitDefEqProofs (disch := omega) only [SR.fin_nx, SR.fin_rt, Ok_ok, ex_nx, R.bind_ok, R.st_ok, SR.next_nx, SR.next_rt, SR.next_bk, SR.next_ct, x_cnon, x_cbl, x_cint, x_cstr, x_var, x_bor, x_bin, x_neg, x_cmp, x_bop, x_bcons, x_not, x_ite, x_tup, x_lst, x_dct1, x_idx, x_slc, x_call, x_bi, x_isi, x_comp, x_nil, x_cons, x_c0, x_c1, x_seq, x_rng1, x_rng2, x_enu, x_keys, y_nil, y_cons, y_asg, y_setI, y_app, y_appPop, y_asgPop, y_ite, y_for, y_while, y_ret, y_retN, y_raise, y_pass, y_brk, y_cont, y_frz, y_exp, b_var, b_tup, b_lst, m_nil, m_cons, g_zero, g_succ, w_nil, w_cons, next_next, next_nil, forF_eq, boolK_nil, boolK_cons, bK_tt, bK_tf, bK_ft, bK_ff, bK_and, bK_or, iteV_bl, iteS_bl, notV_bl, negV_int, condV_bl, seqV_lst, seqV_tup, seqV_scr, enuV_lst, enuV_tup, keysV_dct, compF_eq, biP_1, biP_2, len_lst, len_tup, len_scr, int_int, int_bl, list_lst, list_tup, tuple_lst, tuple_tup, min_int, max_int, abs_int, c_eq, c_ne, c_lt, c_le, c_gt, c_ge, c_is, c_isnot, c_inn, c_notin, in_lst, in_tup, ix_lst, ix_tup, ix_scr, eq_int, eq_bl, eq_str, isNon_non, isNon_int, isNon_tup, isNon_lst, isNon_dct, isNon_bl, isNon_str, bin_add, bin_sub, bin_mod, bin_fdiv, List.set_cons_zero, List.set_cons_succ, List.length_cons, List.length_nil, List.map_cons, List.map_nil, List.cons_append, List.nil_append, List.replicate_succ, List.replicate_zero, ↓reduceIte, Bool.false_eq_true, Int.reduceLT, Int.reducePow, Int.reduceNeg, Int.reduceLE, Int.reduceAdd, Int.reduceSub, Int.reduceMul, Int.reduceMod, Int.reduceDiv, Bool.not_true, Bool.not_false, Bool.true_beq, Bool.false_beq, Bool.and_true, Bool.true_and, Bool.and_false, Bool.false_and, Bool.or_true, Bool.true_or, Bool.or_false, Bool.false_or, Nat.reduceAdd, Nat.reduceSub, Nat.zero_add, Nat.sub_self, part_no, part_int, slc_lst, slc_tup, isNoE, isiV, isiOk, isiP, at_zero, at_1, at_2, at_3, k_rng1, k_rng1s, k_at, k_ats, k_at0, k_at1, k_set, k_app, k_app0, kc_nil, kc_cons, consO_some, consO_none, if_okP, Nx_nx, Ret_rt, Ret_nx, le_nil, le_none, le_some, and_true, true_and, sub_one, cast_s, decide_true, decide_false, cast_0, k_rng_1, k_rng_2, k_rng_3, k_rng_4, k_rng_5, k_rng_6, comp_1, comp_2, comp_3, comp_4, comp_5, comp_6, Int.cast_ofNat_Int, Int.reduceBEq, Int.reduceBNe, beq_self_eq_true, succ_ne0, Nat.lt_irrefl, rng_length, List.length_map, Option.some.injEq, hS.i1]
    refine forR_L (fun o => [some S, some T, some (.int (h : Int)), some (.int ((m : Int) + 1)), some (.tup (rng n (nrV n B f m))), some (.tup (ss.map fun j : Nat => PV.int (j : Int))), some (.int (s : Int)), none, some (.lst (rng n fun j => if j < o then kn (B j) (mx (SNi j) (seen n f m s j)) else kn (B j) (SNi j))), some (.lst (rng n fun j => .int (if j < o then mx (SNi j) (seen n f m s j) else SNi j))), some (.lst (rng n fun j => oP (if j < o then lesserO (MNi j) (miss n f m s j) else MNi j))), none]) ?_ (fun o ho => ?_) ?_
    · simp -implicitDefEqProofs (disch := omega) only [SR.fin_nx, SR.fin_rt, Ok_ok, ex_nx, R.bind_ok, R.st_ok, SR.next_nx, SR.next_rt, SR.next_bk, SR.next_ct, x_cnon, x_cbl, x_cint, x_cstr, x_var, x_bor, x_bin, x_neg, x_cmp, x_bop, x_bcons, x_not, x_ite, x_tup, x_lst, x_dct1, x_idx, x_slc, x_call, x_bi, x_isi, x_comp, x_nil, x_cons, x_c0, x_c1, x_seq, x_rng1, x_rng2, x_enu, x_keys, y_nil, y_cons, y_asg, y_setI, y_app, y_appPop, y_asgPop, y_ite, y_for, y_while, y_ret, y_retN, y_raise, y_pass, y_brk, y_cont, y_frz, y_exp, b_var, b_tup, b_lst, m_nil, m_cons, g_zero, g_succ, w_nil, w_cons, next_next, next_nil, forF_eq, boolK_nil, boolK_cons, bK_tt, bK_tf, bK_ft, bK_ff, bK_and, bK_or, iteV_bl, iteS_bl, notV_bl, negV_int, condV_bl, seqV_lst, seqV_tup, seqV_scr, enuV_lst, enuV_tup, keysV_dct, compF_eq, biP_1, biP_2, len_lst, len_tup, len_scr, int_int, int_bl, list_lst, list_tup, tuple_lst, tuple_tup, min_int, max_int, abs_int, c_eq, c_ne, c_lt, c_le, c_gt, c_ge, c_is, c_isnot, c_inn, c_notin, in_lst, in_tup, ix_lst, ix_tup, ix_scr, eq_int, eq_bl, eq_str, isNon_non, isNon_int, isNon_tup, isNon_lst, isNon_dct, isNon_bl, isNon_str, bin_add, bin_sub, bin_mod, bin_fdiv, List.set_cons_zero, List.set_cons_succ, List.length_cons, List.length_nil, List.map_cons, List.map_nil, List.cons_append, List.nil_append, List.replicate_succ, List.replicate_zero, ↓reduceIte, Bool.false_eq_true, Int.reduceLT, Int.reducePow, Int.reduceNeg, Int.reduceLE, Int.reduceAdd, Int.reduceSub, Int.reduceMul, Int.reduceMod, Int.reduceDiv, Bool.not_true, Bool.not_false, Bool.true_beq, Bool.false_beq, Bool.and_true, Bool.true_and, Bool.and_false, Bool.false_and, Bool.or_true, Bool.true_or, Bool.or_false, Bool.false_or, Nat.reduceAdd, Nat.reduceSub, Nat.zero_add, Nat.sub_self, part_no, part_int, slc_lst, slc_tup, isNoE, isiV, isiOk, isiP, at_zero, at_1, at_2, at_3, k_rng1, k_rng1s, k_at, k_ats, k_at0, k_at1, k_set, k_app, k_app0, kc_nil, kc_cons, consO_some, consO_none, if_okP, Nx_nx, Ret_rt, Ret_nx, le_nil, le_none, le_some, and_true, true_and, sub_one, cast_s, decide_true, decide_false, cast_0, k_rng_1, k_rng_2, k_rng_3, k_rng_4, k_rng_5, k_rng_6, comp_1, comp_2, comp_3, comp_4, comp_5, comp_6, Int.cast_ofNat_Int, Int.reduceBEq, Int.reduceBNe, beq_self_eq_true, succ_ne0, Nat.lt_irrefl, rng_length, List.length_map, Option.some.injEq]
      exact ⟨(upd_0 (b := fun j => kn (B j) (SNi j))).symm, rfl, rfl⟩
    · by_cases hz : 0 ≤ seen n f m s o
      · have kv : knownV B (seen n f m s) o = .int (B o) := kn_pos hz
        simp -implicitDefEqProofs (disch := omega) only [SR.fin_nx, SR.fin_rt, Ok_ok, ex_nx, R.bind_ok, R.st_ok, SR.next_nx, SR.next_rt, SR.next_bk, SR.next_ct, x_cnon, x_cbl, x_cint, x_cstr, x_var, x_bor, x_bin, x_neg, x_cmp, x_bop, x_bcons, x_not, x_ite, x_tup, x_lst, x_dct1, x_idx, x_slc, x_call, x_bi, x_isi, x_comp, x_nil, x_cons, x_c0, x_c1, x_seq, x_rng1, x_rng2, x_enu, x_keys, y_nil, y_cons, y_asg, y_setI, y_app, y_appPop, y_asgPop, y_ite, y_for, y_while, y_ret, y_retN, y_raise, y_pass, y_brk, y_cont, y_frz, y_exp, b_var, b_tup, b_lst, m_nil, m_cons, g_zero, g_succ, w_nil, w_cons, next_next, next_nil, forF_eq, boolK_nil, boolK_cons, bK_tt, bK_tf, bK_ft, bK_ff, bK_and, bK_or, iteV_bl, iteS_bl, notV_bl, negV_int, condV_bl, seqV_lst, seqV_tup, seqV_scr, enuV_lst, enuV_tup, keysV_dct, compF_eq, biP_1, biP_2, len_lst, len_tup, len_scr, int_int, int_bl, list_lst, list_tup, tuple_lst, tuple_tup, min_int, max_int, abs_int, c_eq, c_ne, c_lt, c_le, c_gt, c_ge, c_is, c_isnot, c_inn, c_notin, in_lst, in_tup, ix_lst, ix_tup, ix_scr, eq_int, eq_bl, eq_str, isNon_non, isNon_int, isNon_tup, isNon_lst, isNon_dct, isNon_bl, isNon_str, bin_add, bin_sub, bin_mod, bin_fdiv, List.set_cons_zero, List.set_cons_succ, List.length_cons, List.length_nil, List.map_cons, List.map_nil, List.cons_append, List.nil_append, List.replicate_succ, List.replicate_zero, ↓reduceIte, Bool.false_eq_true, Int.reduceLT, Int.reducePow, Int.reduceNeg, Int.reduceLE, Int.reduceAdd, Int.reduceSub, Int.reduceMul, Int.reduceMod, Int.reduceDiv, Bool.not_true, Bool.not_false, Bool.true_beq, Bool.false_beq, Bool.and_true, Bool.true_and, Bool.and_false, Bool.false_and, Bool.or_true, Bool.true_or, Bool.or_false, Bool.false_or, Nat.reduceAdd, Nat.reduceSub, Nat.zero_add, Nat.sub_self, part_no, part_int, slc_lst, slc_tup, isNoE, isiV, isiOk, isiP, at_zero, at_1, at_2, at_3, k_rng1, k_rng1s, k_at, k_ats, k_at0, k_at1, k_set, k_app, k_app0, kc_nil, kc_cons, consO_some, consO_none, if_okP, Nx_nx, Ret_rt, Ret_nx, le_nil, le_none, le_some, and_true, true_and, sub_one, cast_s, decide_true, decide_false, cast_0, k_rng_1, k_rng_2, k_rng_3, k_rng_4, k_rng_5, k_rng_6, comp_1, comp_2, comp_3, comp_4, comp_5, comp_6, Int.cast_ofNat_Int, Int.reduceBEq, Int.reduceBNe, beq_self_eq_true, succ_ne0, Nat.lt_irrefl, rng_length, List.length_map, Option.some.injEq, es, ntV, kv, c_lesser]
        exact ⟨upd_ifP (kn_pos (Int.le_trans hz mx_r)).symm, upd_if (G := fun x => PV.int x) (a := fun j => mx (SNi j) (seen n f m s j)) rfl, upd_if (G := oP) (a := fun j => lesserO (MNi j) (miss n f m s j)) rfl⟩
      · have kv : knownV B (seen n f m s) o = .non := kn_neg (by omega)
        simp -implicitDefEqProofs (disch := omega) only [SR.fin_nx, SR.fin_rt, Ok_ok, ex_nx, R.bind_ok, R.st_ok, SR.next_nx, SR.next_rt, SR.next_bk, SR.next_ct, x_cnon, x_cbl, x_cint, x_cstr, x_var, x_bor, x_bin, x_neg, x_cmp, x_bop, x_bcons, x_not, x_ite, x_tup, x_lst, x_dct1, x_idx, x_slc, x_call, x_bi, x_isi, x_comp, x_nil, x_cons, x_c0, x_c1, x_seq, x_rng1, x_rng2, x_enu, x_keys, y_nil, y_cons, y_asg, y_setI, y_app, y_appPop, y_asgPop, y_ite, y_for, y_while, y_ret, y_retN, y_raise, y_pass, y_brk, y_cont, y_frz, y_exp, b_var, b_tup, b_lst, m_nil, m_cons, g_zero, g_succ, w_nil, w_cons, next_next, next_nil, forF_eq, boolK_nil, boolK_cons, bK_tt, bK_tf, bK_ft, bK_ff, bK_and, bK_or, iteV_bl, iteS_bl, notV_bl, negV_int, condV_bl, seqV_lst, seqV_tup, seqV_scr, enuV_lst, enuV_tup, keysV_dct, compF_eq, biP_1, biP_2, len_lst, len_tup, len_scr, int_int, int_bl, list_lst, list_tup, tuple_lst, tuple_tup, min_int, max_int, abs_int, c_eq, c_ne, c_lt, c_le, c_gt, c_ge, c_is, c_isnot, c_inn, c_notin, in_lst, in_tup, ix_lst, ix_tup, ix_scr, eq_int, eq_bl, eq_str, isNon_non, isNon_int, isNon_tup, isNon_lst, isNon_dct, isNon_bl, isNon_str, bin_add, bin_sub, bin_mod, bin_fdiv, List.set_cons_zero, List.set_cons_succ, List.length_cons, List.length_nil, List.map_cons, List.map_nil, List.cons_append, List.nil_append, List.replicate_succ, List.replicate_zero, ↓reduceIte, Bool.false_eq_true, Int.reduceLT, Int.reducePow, Int.reduceNeg, Int.reduceLE, Int.reduceAdd, Int.reduceSub, Int.reduceMul, Int.reduceMod, Int.reduceDiv, Bool.not_true, Bool.not_false, Bool.true_beq, Bool.false_beq, Bool.and_true, Bool.true_and, Bool.and_false, Bool.false_and, Bool.or_true, Bool.true_or, Bool.or_false, Bool.false_or, Nat.reduceAdd, Nat.reduceSub, Nat.zero_add, Nat.sub_self, part_no, part_int, slc_lst, slc_tup, isNoE, isiV, isiOk, isiP, at_zero, at_1, at_2, at_3, k_rng1, k_rng1s, k_at, k_ats, k_at0, k_at1, k_set, k_app, k_app0, kc_nil, kc_cons, consO_some, consO_none, if_okP, Nx_nx, Ret_rt, Ret_nx, le_nil, le_none, le_some, and_true, true_and, sub_one, cast_s, decide_true, decide_false, cast_0, k_rng_1, k_rng_2, k_rng_3, k_rng_4, k_rng_5, k_rng_6, comp_1, comp_2, comp_3, comp_4, comp_5, comp_6, Int.cast_ofNat_Int, Int.reduceBEq, Int.reduceBNe, beq_self_eq_true, succ_ne0, Nat.lt_irrefl, rng_length, List.length_map, Option.some.injEq, es, ntV, kv, c_lesser]
        exact ⟨upd_noneP (kn_mx (by omega)), upd_if (G := fun x => PV.int x) (a := fun j => mx (SNi j) (seen n f m s j)) rfl, upd_if (G := oP) (a := fun j => lesserO (MNi j) (miss n f m s j)) rfl⟩
    · simp -implicitDefEqProofs (disch := omega) only [SR.fin_nx, SR.fin_rt, Ok_ok, ex_nx, R.bind_ok, R.st_ok, SR.next_nx, SR.next_rt, SR.next_bk, SR.next_ct, x_cnon, x_cbl, x_cint, x_cstr, x_var, x_bor, x_bin, x_neg, x_cmp, x_bop, x_bcons, x_not, x_ite, x_tup, x_lst, x_dct1, x_idx, x_slc, x_call, x_bi, x_isi, x_comp, x_nil, x_cons, x_c0, x_c1, x_seq, x_rng1, x_rng2, x_enu, x_keys, y_nil, y_cons, y_asg, y_setI, y_app, y_appPop, y_asgPop, y_ite, y_for, y_while, y_ret, y_retN, y_raise, y_pass, y_brk, y_cont, y_frz, y_exp, b_var, b_tup, b_lst, m_nil, m_cons, g_zero, g_succ, w_nil, w_cons, next_next, next_nil, forF_eq, boolK_nil, boolK_cons, bK_tt, bK_tf, bK_ft, bK_ff, bK_and, bK_or, iteV_bl, iteS_bl, notV_bl, negV_int, condV_bl, seqV_lst, seqV_tup, seqV_scr, enuV_lst, enuV_tup, keysV_dct, compF_eq, biP_1, biP_2, len_lst, len_tup, len_scr, int_int, int_bl, list_lst, list_tup, tuple_lst, tuple_tup, min_int, max_int, abs_int, c_eq, c_ne, c_lt, c_le, c_gt, c_ge, c_is, c_isnot, c_inn, c_notin, in_lst, in_tup, ix_lst, ix_tup, ix_scr, eq_int, eq_bl, eq_str, isNon_non, isNon_int, isNon_tup, isNon_lst, isNon_dct, isNon_bl, isNon_str, bin_add, bin_sub, bin_mod, bin_fdiv, List.set_cons_zero, List.set_cons_succ, List.length_cons, List.length_nil, List.map_cons, List.map_nil, List.cons_append, List.nil_append, List.replicate_succ, List.replicate_zero, ↓reduceIte, Bool.false_eq_true, Int.reduceLT, Int.reducePow, Int.reduceNeg, Int.reduceLE, Int.reduceAdd, Int.reduceSub, Int.reduceMul, Int.reduceMod, Int.reduceDiv, Bool.not_true, Bool.not_false, Bool.true_beq, Bool.false_beq, Bool.and_true, Bool.true_and, Bool.and_false, Bool.false_and, Bool.or_true, Bool.true_or, Bool.or_false, Bool.false_or, Nat.reduceAdd, Nat.reduceSub, Nat.zero_add, Nat.sub_self, part_no, part_int, slc_lst, slc_tup, isNoE, isiV, isiOk, isiP, at_zero, at_1, at_2, at_3, k_rng1, k_rng1s, k_at, k_ats, k_at0, k_at1, k_set, k_app, k_app0, kc_nil, kc_cons, consO_some, consO_none, if_okP, Nx_nx, Ret_rt, Ret_nx, le_nil, le_none, le_some, and_true, true_and, sub_one, cast_s, decide_true, decide_false, cast_0, k_rng_1, k_rng_2, k_rng_3, k_rng_4, k_rng_5, k_rng_6, comp_1, comp_2, comp_3, comp_4, comp_5, comp_6, Int.cast_ofNat_Int, Int.reduceBEq, Int.reduceBNe, beq_self_eq_true, succ_ne0, Nat.lt_irrefl, rng_length, List.length_map, Option.some.injEq]
      exact ⟨(upd_n (a := fun j => kn (B j) (mx (SNi j) (seen n f m s j)))), rngL fun j hj => by rw [if_pos hj], rngL fun j hj => by rw [if_pos hj]⟩
  · have hS0 : ∀ j, SN ss.length j = fMx (fun s => seen n f m s j) (seen n f m h j) ss := fun j => by
      show fMx _ _ (ss.take ss.length) = _
      rw [List.take_length]
    have hM0 : ∀ j, MN ss.length j = fLs (fun s => miss n f m s j) (miss n f m h j) ss := fun j => by
      show fLs _ _ (ss.take ss.length) = _
      rw [List.take_length]
    simp only [hS0, hM0]
    have eK : (rng n fun j => kn (B j) (fMx (fun s => seen n f m s j) (seen n f m h j) ss)) = rng n (knownV B (seen n f (m + 1) h)) := rng_congr fun j _ => by rw [← hss, known_rec B hh ha]
    have eS : (rng n fun j => if j = h then PV.int ((m : Int) + 1) else PV.int (fMx (fun s => seen n f m s j) (seen n f m h j) ss)) = rng n fun j => PV.int (seen n f (m + 1) h j) := rng_congr fun j _ => by
      rw [← seen_rec hh ha, hss]
      split <;> rfl
    let M0 : Nat → Option Int := fun j => fLs (fun s => miss n f m s j) (miss n f m h j) ss
    let MF : Nat → Option Int := fun j => if (!decide (j = h) && !decide (j ∈ ss)) = true then lesserO (M0 j) (some ((m : Int) + 1)) else M0 j
    have eM : ∀ j, j < n → MF j = miss n f (m + 1) h j := fun j hj => by
      rw [← miss_fold hh ha j hj, hss]
      show (if (!decide (j = h) && !decide (j ∈ ss)) = true then _ else _) = _
      by_cases c1 : j = h <;> by_cases c2 : j ∈ ss <;> simp [c1, c2, M0]
    simp -implicitDefEqProofs (disch := omega) only [SR.fin_nx, SR.fin_rt, Ok_ok, ex_nx, R.bind_ok, R.st_ok, SR.next_nx, SR.next_rt, SR.next_bk, SR.next_ct, x_cnon, x_cbl, x_cint, x_cstr, x_var, x_bor, x_bin, x_neg, x_cmp, x_bop, x_bcons, x_not, x_ite, x_tup, x_lst, x_dct1, x_idx, x_slc, x_call, x_bi, x_isi, x_comp, x_nil, x_cons, x_c0, x_c1, x_seq, x_rng1, x_rng2, x_enu, x_keys, y_nil, y_cons, y_asg, y_setI, y_app, y_appPop, y_asgPop, y_ite, y_for, y_while, y_ret, y_retN, y_raise, y_pass, y_brk, y_cont, y_frz, y_exp, b_var, b_tup, b_lst, m_nil, m_cons, g_zero, g_succ, w_nil, w_cons, next_next, next_nil, forF_eq, boolK_nil, boolK_cons, bK_tt, bK_tf, bK_ft, bK_ff, bK_and, bK_or, iteV_bl, iteS_bl, notV_bl, negV_int, condV_bl, seqV_lst, seqV_tup, seqV_scr, enuV_lst, enuV_tup, keysV_dct, compF_eq, biP_1, biP_2, len_lst, len_tup, len_scr, int_int, int_bl, list_lst, list_tup, tuple_lst, tuple_tup, min_int, max_int, abs_int, c_eq, c_ne, c_lt, c_le, c_gt, c_ge, c_is, c_isnot, c_inn, c_notin, in_lst, in_tup, ix_lst, ix_tup, ix_scr, eq_int, eq_bl, eq_str, isNon_non, isNon_int, isNon_tup, isNon_lst, isNon_dct, isNon_bl, isNon_str, bin_add, bin_sub, bin_mod, bin_fdiv, List.set_cons_zero, List.set_cons_succ, List.length_cons, List.length_nil, List.map_cons, List.map_nil, List.cons_append, List.nil_append, List.replicate_succ, List.replicate_zero, ↓reduceIte, Bool.false_eq_true, Int.reduceLT, Int.reducePow, Int.reduceNeg, Int.reduceLE, Int.reduceAdd, Int.reduceSub, Int.reduceMul, Int.reduceMod, Int.reduceDiv, Bool.not_true, Bool.not_false, Bool.true_beq, Bool.false_beq, Bool.and_true, Bool.true_and, Bool.and_false, Bool.false_and, Bool.or_true, Bool.true_or, Bool.or_false, Bool.false_or, Nat.reduceAdd, Nat.reduceSub, Nat.zero_add, Nat.sub_self, part_no, part_int, slc_lst, slc_tup, isNoE, isiV, isiOk, isiP, at_zero, at_1, at_2, at_3, k_rng1, k_rng1s, k_at, k_ats, k_at0, k_at1, k_set, k_app, k_app0, kc_nil, kc_cons, consO_some, consO_none, if_okP, Nx_nx, Ret_rt, Ret_nx, le_nil, le_none, le_some, and_true, true_and, sub_one, cast_s, decide_true, decide_false, cast_0, k_rng_1, k_rng_2, k_rng_3, k_rng_4, k_rng_5, k_rng_6, comp_1, comp_2, comp_3, comp_4, comp_5, comp_6, Int.cast_ofNat_Int, Int.reduceBEq, Int.reduceBNe, beq_self_eq_true, succ_ne0, Nat.lt_irrefl, rng_length, List.length_map, Option.some.injEq, hS.i1, eK, eS]
    refine forR_F (fun o => [some S, some T, some (.int (h : Int)), some (.int ((m : Int) + 1)), some (.tup (rng n (nrV n B f m))), some (.tup (ss.map fun j : Nat => PV.int (j : Int))), none, none, some (.lst (rng n (knownV B (seen n f (m + 1) h)))), some (.lst (rng n fun j => PV.int (seen n f (m + 1) h j))), some (.lst (rng n fun j => oP (if j < o then MF j else M0 j))), none]) ?_ (fun o ho => ?_) ?_
    · simp -implicitDefEqProofs (disch := omega) only [SR.fin_nx, SR.fin_rt, Ok_ok, ex_nx, R.bind_ok, R.st_ok, SR.next_nx, SR.next_rt, SR.next_bk, SR.next_ct, x_cnon, x_cbl, x_cint, x_cstr, x_var, x_bor, x_bin, x_neg, x_cmp, x_bop, x_bcons, x_not, x_ite, x_tup, x_lst, x_dct1, x_idx, x_slc, x_call, x_bi, x_isi, x_comp, x_nil, x_cons, x_c0, x_c1, x_seq, x_rng1, x_rng2, x_enu, x_keys, y_nil, y_cons, y_asg, y_setI, y_app, y_appPop, y_asgPop, y_ite, y_for, y_while, y_ret, y_retN, y_raise, y_pass, y_brk, y_cont, y_frz, y_exp, b_var, b_tup, b_lst, m_nil, m_cons, g_zero, g_succ, w_nil, w_cons, next_next, next_nil, forF_eq, boolK_nil, boolK_cons, bK_tt, bK_tf, bK_ft, bK_ff, bK_and, bK_or, iteV_bl, iteS_bl, notV_bl, negV_int, condV_bl, seqV_lst, seqV_tup, seqV_scr, enuV_lst, enuV_tup, keysV_dct, compF_eq, biP_1, biP_2, len_lst, len_tup, len_scr, int_int, int_bl, list_lst, list_tup, tuple_lst, tuple_tup, min_int, max_int, abs_int, c_eq, c_ne, c_lt, c_le, c_gt, c_ge, c_is, c_isnot, c_inn, c_notin, in_lst, in_tup, ix_lst, ix_tup, ix_scr, eq_int, eq_bl, eq_str, isNon_non, isNon_int, isNon_tup, isNon_lst, isNon_dct, isNon_bl, isNon_str, bin_add, bin_sub, bin_mod, bin_fdiv, List.set_cons_zero, List.set_cons_succ, List.length_cons, List.length_nil, List.map_cons, List.map_nil, List.cons_append, List.nil_append, List.replicate_succ, List.replicate_zero, ↓reduceIte, Bool.false_eq_true, Int.reduceLT, Int.reducePow, Int.reduceNeg, Int.reduceLE, Int.reduceAdd, Int.reduceSub, Int.reduceMul, Int.reduceMod, Int.reduceDiv, Bool.not_true, Bool.not_false, Bool.true_beq, Bool.false_beq, Bool.and_true, Bool.true_and, Bool.and_false, Bool.false_and, Bool.or_true, Bool.true_or, Bool.or_false, Bool.false_or, Nat.reduceAdd, Nat.reduceSub, Nat.zero_add, Nat.sub_self, part_no, part_int, slc_lst, slc_tup, isNoE, isiV, isiOk, isiP, at_zero, at_1, at_2, at_3, k_rng1, k_rng1s, k_at, k_ats, k_at0, k_at1, k_set, k_app, k_app0, kc_nil, kc_cons, consO_some, consO_none, if_okP, Nx_nx, Ret_rt, Ret_nx, le_nil, le_none, le_some, and_true, true_and, sub_one, cast_s, decide_true, decide_false, cast_0, k_rng_1, k_rng_2, k_rng_3, k_rng_4, k_rng_5, k_rng_6, comp_1, comp_2, comp_3, comp_4, comp_5, comp_6, Int.cast_ofNat_Int, Int.reduceBEq, Int.reduceBNe, beq_self_eq_true, succ_ne0, Nat.lt_irrefl, rng_length, List.length_map, Option.some.injEq]
      rfl
    · cases d1 : decide (o = h) <;> cases d2 : decide (o ∈ ss) <;> simp -implicitDefEqProofs (disch := omega) only [SR.fin_nx, SR.fin_rt, Ok_ok, ex_nx, R.bind_ok, R.st_ok, SR.next_nx, SR.next_rt, SR.next_bk, SR.next_ct, x_cnon, x_cbl, x_cint, x_cstr, x_var, x_bor, x_bin, x_neg, x_cmp, x_bop, x_bcons, x_not, x_ite, x_tup, x_lst, x_dct1, x_idx, x_slc, x_call, x_bi, x_isi, x_comp, x_nil, x_cons, x_c0, x_c1, x_seq, x_rng1, x_rng2, x_enu, x_keys, y_nil, y_cons, y_asg, y_setI, y_app, y_appPop, y_asgPop, y_ite, y_for, y_while, y_ret, y_retN, y_raise, y_pass, y_brk, y_cont, y_frz, y_exp, b_var, b_tup, b_lst, m_nil, m_cons, g_zero, g_succ, w_nil, w_cons, next_next, next_nil, forF_eq, boolK_nil, boolK_cons, bK_tt, bK_tf, bK_ft, bK_ff, bK_and, bK_or, iteV_bl, iteS_bl, notV_bl, negV_int, condV_bl, seqV_lst, seqV_tup, seqV_scr, enuV_lst, enuV_tup, keysV_dct, compF_eq, biP_1, biP_2, len_lst, len_tup, len_scr, int_int, int_bl, list_lst, list_tup, tuple_lst, tuple_tup, min_int, max_int, abs_int, c_eq, c_ne, c_lt, c_le, c_gt, c_ge, c_is, c_isnot, c_inn, c_notin, in_lst, in_tup, ix_lst, ix_tup, ix_scr, eq_int, eq_bl, eq_str, isNon_non, isNon_int, isNon_tup, isNon_lst, isNon_dct, isNon_bl, isNon_str, bin_add, bin_sub, bin_mod, bin_fdiv, List.set_cons_zero, List.set_cons_succ, List.length_cons, List.length_nil, List.map_cons, List.map_nil, List.cons_append, List.nil_append, List.replicate_succ, List.replicate_zero, ↓reduceIte, Bool.false_eq_true, Int.reduceLT, Int.reducePow, Int.reduceNeg, Int.reduceLE, Int.reduceAdd, Int.reduceSub, Int.reduceMul, Int.reduceMod, Int.reduceDiv, Bool.not_true, Bool.not_false, Bool.true_beq, Bool.false_beq, Bool.and_true, Bool.true_and, Bool.and_false, Bool.false_and, Bool.or_true, Bool.true_or, Bool.or_false, Bool.false_or, Nat.reduceAdd, Nat.reduceSub, Nat.zero_add, Nat.sub_self, part_no, part_int, slc_lst, slc_tup, isNoE, isiV, isiOk, isiP, at_zero, at_1, at_2, at_3, k_rng1, k_rng1s, k_at, k_ats, k_at0, k_at1, k_set, k_app, k_app0, kc_nil, kc_cons, consO_some, consO_none, if_okP, Nx_nx, Ret_rt, Ret_nx, le_nil, le_none, le_some, and_true, true_and, sub_one, cast_s, decide_true, decide_false, cast_0, k_rng_1, k_rng_2, k_rng_3, k_rng_4, k_rng_5, k_rng_6, comp_1, comp_2, comp_3, comp_4, comp_5, comp_6, Int.cast_ofNat_Int, Int.reduceBEq, Int.reduceBNe, beq_self_eq_true, succ_ne0, Nat.lt_irrefl, rng_length, List.length_map, Option.some.injEq, int_beq, in_nats, any_dec, d1, d2, c_lesser1]
      · exact upd_if (G := oP) (a := MF) (b := M0) (i := o) (by simp only [MF, d1, d2]; rfl)
      · exact upd_none (G := oP) (a := MF) (b := M0) (i := o) (by simp only [MF, d1, d2]; rfl)
      · exact upd_none (G := oP) (a := MF) (b := M0) (i := o) (by simp only [MF, d1, d2]; rfl)
      · exact upd_none (G := oP) (a := MF) (b := M0) (i := o) (by simp only [MF, d1, d2]; rfl)
    · simp -implicitDefEqProofs (disch := omega) only [SR.fin_nx, SR.fin_rt, Ok_ok, ex_nx, R.bind_ok, R.st_ok, SR.next_nx, SR.next_rt, SR.next_bk, SR.next_ct, x_cnon, x_cbl, x_cint, x_cstr, x_var, x_bor, x_bin, x_neg, x_cmp, x_bop, x_bcons, x_not, x_ite, x_tup, x_lst, x_dct1, x_idx, x_slc, x_call, x_bi, x_isi, x_comp, x_nil, x_cons, x_c0, x_c1, x_seq, x_rng1, x_rng2, x_enu, x_keys, y_nil, y_cons, y_asg, y_setI, y_app, y_appPop, y_asgPop, y_ite, y_for, y_while, y_ret, y_retN, y_raise, y_pass, y_brk, y_cont, y_frz, y_exp, b_var, b_tup, b_lst, m_nil, m_cons, g_zero, g_succ, w_nil, w_cons, next_next, next_nil, forF_eq, boolK_nil, boolK_cons, bK_tt, bK_tf, bK_ft, bK_ff, bK_and, bK_or, iteV_bl, iteS_bl, notV_bl, negV_int, condV_bl, seqV_lst, seqV_tup, seqV_scr, enuV_lst, enuV_tup, keysV_dct, compF_eq, biP_1, biP_2, len_lst, len_tup, len_scr, int_int, int_bl, list_lst, list_tup, tuple_lst, tuple_tup, min_int, max_int, abs_int, c_eq, c_ne, c_lt, c_le, c_gt, c_ge, c_is, c_isnot, c_inn, c_notin, in_lst, in_tup, ix_lst, ix_tup, ix_scr, eq_int, eq_bl, eq_str, isNon_non, isNon_int, isNon_tup, isNon_lst, isNon_dct, isNon_bl, isNon_str, bin_add, bin_sub, bin_mod, bin_fdiv, List.set_cons_zero, List.set_cons_succ, List.length_cons, List.length_nil, List.map_cons, List.map_nil, List.cons_append, List.nil_append, List.replicate_succ, List.replicate_zero, ↓reduceIte, Bool.false_eq_true, Int.reduceLT, Int.reducePow, Int.reduceNeg, Int.reduceLE, Int.reduceAdd, Int.reduceSub, Int.reduceMul, Int.reduceMod, Int.reduceDiv, Bool.not_true, Bool.not_false, Bool.true_beq, Bool.false_beq, Bool.and_true, Bool.true_and, Bool.and_false, Bool.false_and, Bool.or_true, Bool.true_or, Bool.or_false, Bool.false_or, Nat.reduceAdd, Nat.reduceSub, Nat.zero_add, Nat.sub_self, part_no, part_int, slc_lst, slc_tup, isNoE, isiV, isiOk, isiP, at_zero, at_1, at_2, at_3, k_rng1, k_rng1s, k_at, k_ats, k_at0, k_at1, k_set, k_app, k_app0, kc_nil, kc_cons, consO_some, consO_none, if_okP, Nx_nx, Ret_rt, Ret_nx, le_nil, le_none, le_some, and_true, true_and, sub_one, cast_s, decide_true, decide_false, cast_0, k_rng_1, k_rng_2, k_rng_3, k_rng_4, k_rng_5, k_rng_6, comp_1, comp_2, comp_3, comp_4, comp_5, comp_6, Int.cast_ofNat_Int, Int.reduceBEq, Int.reduceBNe, beq_self_eq_true, succ_ne0, Nat.lt_irrefl, rng_length, List.length_map, Option.some.injEq]
      refine congrArg PV.tup ?_
      rw [rng_congr (f := fun j => oP (if j < n then MF j else M0 j)) (g := fun j => oP (miss n f (m + 1) h j)) fun j hj => by rw [if_pos hj, eM j hj]]
theorem nr_pos {m h : Nat} (ha : aliveB f m h = true) : nrV n B f m h = ntV n B f m h := by unfold nrV; rw [ha]; rfl
theorem nr_neg {m h : Nat} (ha : aliveB f m h = false) : nrV n B f m h = .non := by unfold nrV; rw [ha]; rfl
theorem c_table (k : Nat) (hn : n ≤ 5) (hS : SetG S n F L t s) (hT : StoryG n T B f) (U : Nat) (hU : U ≤ 900) : fnsOf tab 100 (k + 5) 10 [S, T, .int (U : Int)] = .ok (.tup (rng (U + 1) fun m => .tup (rng n (nrV n B f m)))) := by
  refine goF rfl rfl ?_
  simp -implicitDefEqProofs (disch := omega) only [SR.fin_nx, SR.fin_rt, Ok_ok, ex_nx, R.bind_ok, R.st_ok, SR.next_nx, SR.next_rt, SR.next_bk, SR.next_ct, x_cnon, x_cbl, x_cint, x_cstr, x_var, x_bor, x_bin, x_neg, x_cmp, x_bop, x_bcons, x_not, x_ite, x_tup, x_lst, x_dct1, x_idx, x_slc, x_call, x_bi, x_isi, x_comp, x_nil, x_cons, x_c0, x_c1, x_seq, x_rng1, x_rng2, x_enu, x_keys, y_nil, y_cons, y_asg, y_setI, y_app, y_appPop, y_asgPop, y_ite, y_for, y_while, y_ret, y_retN, y_raise, y_pass, y_brk, y_cont, y_frz, y_exp, b_var, b_tup, b_lst, m_nil, m_cons, g_zero, g_succ, w_nil, w_cons, next_next, next_nil, forF_eq, boolK_nil, boolK_cons, bK_tt, bK_tf, bK_ft, bK_ff, bK_and, bK_or, iteV_bl, iteS_bl, notV_bl, negV_int, condV_bl, seqV_lst, seqV_tup, seqV_scr, enuV_lst, enuV_tup, keysV_dct, compF_eq, biP_1, biP_2, len_lst, len_tup, len_scr, int_int, int_bl, list_lst, list_tup, tuple_lst, tuple_tup, min_int, max_int, abs_int, c_eq, c_ne, c_lt, c_le, c_gt, c_ge, c_is, c_isnot, c_inn, c_notin, in_lst, in_tup, ix_lst, ix_tup, ix_scr, eq_int, eq_bl, eq_str, isNon_non, isNon_int, isNon_tup, isNon_lst, isNon_dct, isNon_bl, isNon_str, bin_add, bin_sub, bin_mod, bin_fdiv, List.set_cons_zero, List.set_cons_succ, List.length_cons, List.length_nil, List.map_cons, List.map_nil, List.cons_append, List.nil_append, List.replicate_succ, List.replicate_zero, ↓reduceIte, Bool.false_eq_true, Int.reduceLT, Int.reducePow, Int.reduceNeg, Int.reduceLE, Int.reduceAdd, Int.reduceSub, Int.reduceMul, Int.reduceMod, Int.reduceDiv, Bool.not_true, Bool.not_false, Bool.true_beq, Bool.false_beq, Bool.and_true, Bool.true_and, Bool.and_false, Bool.false_and, Bool.or_true, Bool.true_or, Bool.or_false, Bool.false_or, Nat.reduceAdd, Nat.reduceSub, Nat.zero_add, Nat.sub_self, part_no, part_int, slc_lst, slc_tup, isNoE, isiV, isiOk, isiP, at_zero, at_1, at_2, at_3, k_rng1, k_rng1s, k_at, k_ats, k_at0, k_at1, k_set, k_app, k_app0, kc_nil, kc_cons, consO_some, consO_none, if_okP, Nx_nx, Ret_rt, Ret_nx, le_nil, le_none, le_some, and_true, true_and, sub_one, cast_s, decide_true, decide_false, cast_0, k_rng_1, k_rng_2, k_rng_3, k_rng_4, k_rng_5, k_rng_6, comp_1, comp_2, comp_3, comp_4, comp_5, comp_6, Int.cast_ofNat_Int, Int.reduceBEq, Int.reduceBNe, beq_self_eq_true, succ_ne0, Nat.lt_irrefl, rng_length, List.length_map, Option.some.injEq, d10]
  refine forR_F (fun m => [some S, some T, some (.int (U : Int)), some (.lst (rng m fun m => .tup (rng n (nrV n B f m)))), none, none, none]) ?_ (fun m hm => ?_) ?_
  · simp -implicitDefEqProofs (disch := omega) only [SR.fin_nx, SR.fin_rt, Ok_ok, ex_nx, R.bind_ok, R.st_ok, SR.next_nx, SR.next_rt, SR.next_bk, SR.next_ct, x_cnon, x_cbl, x_cint, x_cstr, x_var, x_bor, x_bin, x_neg, x_cmp, x_bop, x_bcons, x_not, x_ite, x_tup, x_lst, x_dct1, x_idx, x_slc, x_call, x_bi, x_isi, x_comp, x_nil, x_cons, x_c0, x_c1, x_seq, x_rng1, x_rng2, x_enu, x_keys, y_nil, y_cons, y_asg, y_setI, y_app, y_appPop, y_asgPop, y_ite, y_for, y_while, y_ret, y_retN, y_raise, y_pass, y_brk, y_cont, y_frz, y_exp, b_var, b_tup, b_lst, m_nil, m_cons, g_zero, g_succ, w_nil, w_cons, next_next, next_nil, forF_eq, boolK_nil, boolK_cons, bK_tt, bK_tf, bK_ft, bK_ff, bK_and, bK_or, iteV_bl, iteS_bl, notV_bl, negV_int, condV_bl, seqV_lst, seqV_tup, seqV_scr, enuV_lst, enuV_tup, keysV_dct, compF_eq, biP_1, biP_2, len_lst, len_tup, len_scr, int_int, int_bl, list_lst, list_tup, tuple_lst, tuple_tup, min_int, max_int, abs_int, c_eq, c_ne, c_lt, c_le, c_gt, c_ge, c_is, c_isnot, c_inn, c_notin, in_lst, in_tup, ix_lst, ix_tup, ix_scr, eq_int, eq_bl, eq_str, isNon_non, isNon_int, isNon_tup, isNon_lst, isNon_dct, isNon_bl, isNon_str, bin_add, bin_sub, bin_mod, bin_fdiv, List.set_cons_zero, List.set_cons_succ, List.length_cons, List.length_nil, List.map_cons, List.map_nil, List.cons_append, List.nil_append, List.replicate_succ, List.replicate_zero, ↓reduceIte, Bool.false_eq_true, Int.reduceLT, Int.reducePow, Int.reduceNeg, Int.reduceLE, Int.reduceAdd, Int.reduceSub, Int.reduceMul, Int.reduceMod, Int.reduceDiv, Bool.not_true, Bool.not_false, Bool.true_beq, Bool.false_beq, Bool.and_true, Bool.true_and, Bool.and_false, Bool.false_and, Bool.or_true, Bool.true_or, Bool.or_false, Bool.false_or, Nat.reduceAdd, Nat.reduceSub, Nat.zero_add, Nat.sub_self, part_no, part_int, slc_lst, slc_tup, isNoE, isiV, isiOk, isiP, at_zero, at_1, at_2, at_3, k_rng1, k_rng1s, k_at, k_ats, k_at0, k_at1, k_set, k_app, k_app0, kc_nil, kc_cons, consO_some, consO_none, if_okP, Nx_nx, Ret_rt, Ret_nx, le_nil, le_none, le_some, and_true, true_and, sub_one, cast_s, decide_true, decide_false, cast_0, k_rng_1, k_rng_2, k_rng_3, k_rng_4, k_rng_5, k_rng_6, comp_1, comp_2, comp_3, comp_4, comp_5, comp_6, Int.cast_ofNat_Int, Int.reduceBEq, Int.reduceBNe, beq_self_eq_true, succ_ne0, Nat.lt_irrefl, rng_length, List.length_map, Option.some.injEq]
    rfl
  · simp -implicitDefEqProofs (disch := omega) only [SR.fin_nx, SR.fin_rt, Ok_ok, ex_nx, R.bind_ok, R.st_ok, SR.next_nx, SR.next_rt, SR.next_bk, SR.next_ct, x_cnon, x_cbl, x_cint, x_cstr, x_var, x_bor, x_bin, x_neg, x_cmp, x_bop, x_bcons, x_not, x_ite, x_tup, x_lst, x_dct1, x_idx, x_slc, x_call, x_bi, x_isi, x_comp, x_nil, x_cons, x_c0, x_c1, x_seq, x_rng1, x_rng2, x_enu, x_keys, y_nil, y_cons, y_asg, y_setI, y_app, y_appPop, y_asgPop, y_ite, y_for, y_while, y_ret, y_retN, y_raise, y_pass, y_brk, y_cont, y_frz, y_exp, b_var, b_tup, b_lst, m_nil, m_cons, g_zero, g_succ, w_nil, w_cons, next_next, next_nil, forF_eq, boolK_nil, boolK_cons, bK_tt, bK_tf, bK_ft, bK_ff, bK_and, bK_or, iteV_bl, iteS_bl, notV_bl, negV_int, condV_bl, seqV_lst, seqV_tup, seqV_scr, enuV_lst, enuV_tup, keysV_dct, compF_eq, biP_1, biP_2, len_lst, len_tup, len_scr, int_int, int_bl, list_lst, list_tup, tuple_lst, tuple_tup, min_int, max_int, abs_int, c_eq, c_ne, c_lt, c_le, c_gt, c_ge, c_is, c_isnot, c_inn, c_notin, in_lst, in_tup, ix_lst, ix_tup, ix_scr, eq_int, eq_bl, eq_str, isNon_non, isNon_int, isNon_tup, isNon_lst, isNon_dct, isNon_bl, isNon_str, bin_add, bin_sub, bin_mod, bin_fdiv, List.set_cons_zero, List.set_cons_succ, List.length_cons, List.length_nil, List.map_cons, List.map_nil, List.cons_append, List.nil_append, List.replicate_succ, List.replicate_zero, ↓reduceIte, Bool.false_eq_true, Int.reduceLT, Int.reducePow, Int.reduceNeg, Int.reduceLE, Int.reduceAdd, Int.reduceSub, Int.reduceMul, Int.reduceMod, Int.reduceDiv, Bool.not_true, Bool.not_false, Bool.true_beq, Bool.false_beq, Bool.and_true, Bool.true_and, Bool.and_false, Bool.false_and, Bool.or_true, Bool.true_or, Bool.or_false, Bool.false_or, Nat.reduceAdd, Nat.reduceSub, Nat.zero_add, Nat.sub_self, part_no, part_int, slc_lst, slc_tup, isNoE, isiV, isiOk, isiP, at_zero, at_1, at_2, at_3, k_rng1, k_rng1s, k_at, k_ats, k_at0, k_at1, k_set, k_app, k_app0, kc_nil, kc_cons, consO_some, consO_none, if_okP, Nx_nx, Ret_rt, Ret_nx, le_nil, le_none, le_some, and_true, true_and, sub_one, cast_s, decide_true, decide_false, cast_0, k_rng_1, k_rng_2, k_rng_3, k_rng_4, k_rng_5, k_rng_6, comp_1, comp_2, comp_3, comp_4, comp_5, comp_6, Int.cast_ofNat_Int, Int.reduceBEq, Int.reduceBNe, beq_self_eq_true, succ_ne0, Nat.lt_irrefl, rng_length, List.length_map, Option.some.injEq, hS.i1]
    refine forR_N (fun h => [some S, some T, some (.int (U : Int)), some (.lst (rng m fun m => .tup (rng n (nrV n B f m)))), some (.int (m : Int)), some (.lst (rng h (nrV n B f m))), none]) ?_ (fun h hh => ?_) ?_
    · simp -implicitDefEqProofs (disch := omega) only [SR.fin_nx, SR.fin_rt, Ok_ok, ex_nx, R.bind_ok, R.st_ok, SR.next_nx, SR.next_rt, SR.next_bk, SR.next_ct, x_cnon, x_cbl, x_cint, x_cstr, x_var, x_bor, x_bin, x_neg, x_cmp, x_bop, x_bcons, x_not, x_ite, x_tup, x_lst, x_dct1, x_idx, x_slc, x_call, x_bi, x_isi, x_comp, x_nil, x_cons, x_c0, x_c1, x_seq, x_rng1, x_rng2, x_enu, x_keys, y_nil, y_cons, y_asg, y_setI, y_app, y_appPop, y_asgPop, y_ite, y_for, y_while, y_ret, y_retN, y_raise, y_pass, y_brk, y_cont, y_frz, y_exp, b_var, b_tup, b_lst, m_nil, m_cons, g_zero, g_succ, w_nil, w_cons, next_next, next_nil, forF_eq, boolK_nil, boolK_cons, bK_tt, bK_tf, bK_ft, bK_ff, bK_and, bK_or, iteV_bl, iteS_bl, notV_bl, negV_int, condV_bl, seqV_lst, seqV_tup, seqV_scr, enuV_lst, enuV_tup, keysV_dct, compF_eq, biP_1, biP_2, len_lst, len_tup, len_scr, int_int, int_bl, list_lst, list_tup, tuple_lst, tuple_tup, min_int, max_int, abs_int, c_eq, c_ne, c_lt, c_le, c_gt, c_ge, c_is, c_isnot, c_inn, c_notin, in_lst, in_tup, ix_lst, ix_tup, ix_scr, eq_int, eq_bl, eq_str, isNon_non, isNon_int, isNon_tup, isNon_lst, isNon_dct, isNon_bl, isNon_str, bin_add, bin_sub, bin_mod, bin_fdiv, List.set_cons_zero, List.set_cons_succ, List.length_cons, List.length_nil, List.map_cons, List.map_nil, List.cons_append, List.nil_append, List.replicate_succ, List.replicate_zero, ↓reduceIte, Bool.false_eq_true, Int.reduceLT, Int.reducePow, Int.reduceNeg, Int.reduceLE, Int.reduceAdd, Int.reduceSub, Int.reduceMul, Int.reduceMod, Int.reduceDiv, Bool.not_true, Bool.not_false, Bool.true_beq, Bool.false_beq, Bool.and_true, Bool.true_and, Bool.and_false, Bool.false_and, Bool.or_true, Bool.true_or, Bool.or_false, Bool.false_or, Nat.reduceAdd, Nat.reduceSub, Nat.zero_add, Nat.sub_self, part_no, part_int, slc_lst, slc_tup, isNoE, isiV, isiOk, isiP, at_zero, at_1, at_2, at_3, k_rng1, k_rng1s, k_at, k_ats, k_at0, k_at1, k_set, k_app, k_app0, kc_nil, kc_cons, consO_some, consO_none, if_okP, Nx_nx, Ret_rt, Ret_nx, le_nil, le_none, le_some, and_true, true_and, sub_one, cast_s, decide_true, decide_false, cast_0, k_rng_1, k_rng_2, k_rng_3, k_rng_4, k_rng_5, k_rng_6, comp_1, comp_2, comp_3, comp_4, comp_5, comp_6, Int.cast_ofNat_Int, Int.reduceBEq, Int.reduceBNe, beq_self_eq_true, succ_ne0, Nat.lt_irrefl, rng_length, List.length_map, Option.some.injEq]
      rfl
    · have st := c_stands (k + 3) hS hT h m hh
      cases ha : aliveB f m h with
      | false =>
        rw [ha] at st
        simp -implicitDefEqProofs (disch := omega) only [SR.fin_nx, SR.fin_rt, Ok_ok, ex_nx, R.bind_ok, R.st_ok, SR.next_nx, SR.next_rt, SR.next_bk, SR.next_ct, x_cnon, x_cbl, x_cint, x_cstr, x_var, x_bor, x_bin, x_neg, x_cmp, x_bop, x_bcons, x_not, x_ite, x_tup, x_lst, x_dct1, x_idx, x_slc, x_call, x_bi, x_isi, x_comp, x_nil, x_cons, x_c0, x_c1, x_seq, x_rng1, x_rng2, x_enu, x_keys, y_nil, y_cons, y_asg, y_setI, y_app, y_appPop, y_asgPop, y_ite, y_for, y_while, y_ret, y_retN, y_raise, y_pass, y_brk, y_cont, y_frz, y_exp, b_var, b_tup, b_lst, m_nil, m_cons, g_zero, g_succ, w_nil, w_cons, next_next, next_nil, forF_eq, boolK_nil, boolK_cons, bK_tt, bK_tf, bK_ft, bK_ff, bK_and, bK_or, iteV_bl, iteS_bl, notV_bl, negV_int, condV_bl, seqV_lst, seqV_tup, seqV_scr, enuV_lst, enuV_tup, keysV_dct, compF_eq, biP_1, biP_2, len_lst, len_tup, len_scr, int_int, int_bl, list_lst, list_tup, tuple_lst, tuple_tup, min_int, max_int, abs_int, c_eq, c_ne, c_lt, c_le, c_gt, c_ge, c_is, c_isnot, c_inn, c_notin, in_lst, in_tup, ix_lst, ix_tup, ix_scr, eq_int, eq_bl, eq_str, isNon_non, isNon_int, isNon_tup, isNon_lst, isNon_dct, isNon_bl, isNon_str, bin_add, bin_sub, bin_mod, bin_fdiv, List.set_cons_zero, List.set_cons_succ, List.length_cons, List.length_nil, List.map_cons, List.map_nil, List.cons_append, List.nil_append, List.replicate_succ, List.replicate_zero, ↓reduceIte, Bool.false_eq_true, Int.reduceLT, Int.reducePow, Int.reduceNeg, Int.reduceLE, Int.reduceAdd, Int.reduceSub, Int.reduceMul, Int.reduceMod, Int.reduceDiv, Bool.not_true, Bool.not_false, Bool.true_beq, Bool.false_beq, Bool.and_true, Bool.true_and, Bool.and_false, Bool.false_and, Bool.or_true, Bool.true_or, Bool.or_false, Bool.false_or, Nat.reduceAdd, Nat.reduceSub, Nat.zero_add, Nat.sub_self, part_no, part_int, slc_lst, slc_tup, isNoE, isiV, isiOk, isiP, at_zero, at_1, at_2, at_3, k_rng1, k_rng1s, k_at, k_ats, k_at0, k_at1, k_set, k_app, k_app0, kc_nil, kc_cons, consO_some, consO_none, if_okP, Nx_nx, Ret_rt, Ret_nx, le_nil, le_none, le_some, and_true, true_and, sub_one, cast_s, decide_true, decide_false, cast_0, k_rng_1, k_rng_2, k_rng_3, k_rng_4, k_rng_5, k_rng_6, comp_1, comp_2, comp_3, comp_4, comp_5, comp_6, Int.cast_ofNat_Int, Int.reduceBEq, Int.reduceBNe, beq_self_eq_true, succ_ne0, Nat.lt_irrefl, rng_length, List.length_map, Option.some.injEq, st]
        exact snoc' (nr_neg ha).symm
      | true =>
        rw [ha] at st
        cases m with
        | zero =>
          have c1 := c_first (k + 3) hn hS hT h hh ha
          simp only [Int.cast_ofNat_Int] at st
          simp -implicitDefEqProofs (disch := omega) only [SR.fin_nx, SR.fin_rt, Ok_ok, ex_nx, R.bind_ok, R.st_ok, SR.next_nx, SR.next_rt, SR.next_bk, SR.next_ct, x_cnon, x_cbl, x_cint, x_cstr, x_var, x_bor, x_bin, x_neg, x_cmp, x_bop, x_bcons, x_not, x_ite, x_tup, x_lst, x_dct1, x_idx, x_slc, x_call, x_bi, x_isi, x_comp, x_nil, x_cons, x_c0, x_c1, x_seq, x_rng1, x_rng2, x_enu, x_keys, y_nil, y_cons, y_asg, y_setI, y_app, y_appPop, y_asgPop, y_ite, y_for, y_while, y_ret, y_retN, y_raise, y_pass, y_brk, y_cont, y_frz, y_exp, b_var, b_tup, b_lst, m_nil, m_cons, g_zero, g_succ, w_nil, w_cons, next_next, next_nil, forF_eq, boolK_nil, boolK_cons, bK_tt, bK_tf, bK_ft, bK_ff, bK_and, bK_or, iteV_bl, iteS_bl, notV_bl, negV_int, condV_bl, seqV_lst, seqV_tup, seqV_scr, enuV_lst, enuV_tup, keysV_dct, compF_eq, biP_1, biP_2, len_lst, len_tup, len_scr, int_int, int_bl, list_lst, list_tup, tuple_lst, tuple_tup, min_int, max_int, abs_int, c_eq, c_ne, c_lt, c_le, c_gt, c_ge, c_is, c_isnot, c_inn, c_notin, in_lst, in_tup, ix_lst, ix_tup, ix_scr, eq_int, eq_bl, eq_str, isNon_non, isNon_int, isNon_tup, isNon_lst, isNon_dct, isNon_bl, isNon_str, bin_add, bin_sub, bin_mod, bin_fdiv, List.set_cons_zero, List.set_cons_succ, List.length_cons, List.length_nil, List.map_cons, List.map_nil, List.cons_append, List.nil_append, List.replicate_succ, List.replicate_zero, ↓reduceIte, Bool.false_eq_true, Int.reduceLT, Int.reducePow, Int.reduceNeg, Int.reduceLE, Int.reduceAdd, Int.reduceSub, Int.reduceMul, Int.reduceMod, Int.reduceDiv, Bool.not_true, Bool.not_false, Bool.true_beq, Bool.false_beq, Bool.and_true, Bool.true_and, Bool.and_false, Bool.false_and, Bool.or_true, Bool.true_or, Bool.or_false, Bool.false_or, Nat.reduceAdd, Nat.reduceSub, Nat.zero_add, Nat.sub_self, part_no, part_int, slc_lst, slc_tup, isNoE, isiV, isiOk, isiP, at_zero, at_1, at_2, at_3, k_rng1, k_rng1s, k_at, k_ats, k_at0, k_at1, k_set, k_app, k_app0, kc_nil, kc_cons, consO_some, consO_none, if_okP, Nx_nx, Ret_rt, Ret_nx, le_nil, le_none, le_some, and_true, true_and, sub_one, cast_s, decide_true, decide_false, cast_0, k_rng_1, k_rng_2, k_rng_3, k_rng_4, k_rng_5, k_rng_6, comp_1, comp_2, comp_3, comp_4, comp_5, comp_6, Int.cast_ofNat_Int, Int.reduceBEq, Int.reduceBNe, beq_self_eq_true, succ_ne0, Nat.lt_irrefl, rng_length, List.length_map, Option.some.injEq, st, c1, Int.cast_ofNat_Int]
          exact snoc' (nr_pos ha).symm
        | succ m =>
          have c1 := c_later k hn hS hT h m hh ha
          simp only [cast_s] at c1 st
          simp -implicitDefEqProofs (disch := omega) only [SR.fin_nx, SR.fin_rt, Ok_ok, ex_nx, R.bind_ok, R.st_ok, SR.next_nx, SR.next_rt, SR.next_bk, SR.next_ct, x_cnon, x_cbl, x_cint, x_cstr, x_var, x_bor, x_bin, x_neg, x_cmp, x_bop, x_bcons, x_not, x_ite, x_tup, x_lst, x_dct1, x_idx, x_slc, x_call, x_bi, x_isi, x_comp, x_nil, x_cons, x_c0, x_c1, x_seq, x_rng1, x_rng2, x_enu, x_keys, y_nil, y_cons, y_asg, y_setI, y_app, y_appPop, y_asgPop, y_ite, y_for, y_while, y_ret, y_retN, y_raise, y_pass, y_brk, y_cont, y_frz, y_exp, b_var, b_tup, b_lst, m_nil, m_cons, g_zero, g_succ, w_nil, w_cons, next_next, next_nil, forF_eq, boolK_nil, boolK_cons, bK_tt, bK_tf, bK_ft, bK_ff, bK_and, bK_or, iteV_bl, iteS_bl, notV_bl, negV_int, condV_bl, seqV_lst, seqV_tup, seqV_scr, enuV_lst, enuV_tup, keysV_dct, compF_eq, biP_1, biP_2, len_lst, len_tup, len_scr, int_int, int_bl, list_lst, list_tup, tuple_lst, tuple_tup, min_int, max_int, abs_int, c_eq, c_ne, c_lt, c_le, c_gt, c_ge, c_is, c_isnot, c_inn, c_notin, in_lst, in_tup, ix_lst, ix_tup, ix_scr, eq_int, eq_bl, eq_str, isNon_non, isNon_int, isNon_tup, isNon_lst, isNon_dct, isNon_bl, isNon_str, bin_add, bin_sub, bin_mod, bin_fdiv, List.set_cons_zero, List.set_cons_succ, List.length_cons, List.length_nil, List.map_cons, List.map_nil, List.cons_append, List.nil_append, List.replicate_succ, List.replicate_zero, ↓reduceIte, Bool.false_eq_true, Int.reduceLT, Int.reducePow, Int.reduceNeg, Int.reduceLE, Int.reduceAdd, Int.reduceSub, Int.reduceMul, Int.reduceMod, Int.reduceDiv, Bool.not_true, Bool.not_false, Bool.true_beq, Bool.false_beq, Bool.and_true, Bool.true_and, Bool.and_false, Bool.false_and, Bool.or_true, Bool.true_or, Bool.or_false, Bool.false_or, Nat.reduceAdd, Nat.reduceSub, Nat.zero_add, Nat.sub_self, part_no, part_int, slc_lst, slc_tup, isNoE, isiV, isiOk, isiP, at_zero, at_1, at_2, at_3, k_rng1, k_rng1s, k_at, k_ats, k_at0, k_at1, k_set, k_app, k_app0, kc_nil, kc_cons, consO_some, consO_none, if_okP, Nx_nx, Ret_rt, Ret_nx, le_nil, le_none, le_some, and_true, true_and, sub_one, cast_s, decide_true, decide_false, cast_0, k_rng_1, k_rng_2, k_rng_3, k_rng_4, k_rng_5, k_rng_6, comp_1, comp_2, comp_3, comp_4, comp_5, comp_6, Int.cast_ofNat_Int, Int.reduceBEq, Int.reduceBNe, beq_self_eq_true, succ_ne0, Nat.lt_irrefl, rng_length, List.length_map, Option.some.injEq, st, c1]
          exact snoc' (nr_pos ha).symm
    · simp -implicitDefEqProofs (disch := omega) only [SR.fin_nx, SR.fin_rt, Ok_ok, ex_nx, R.bind_ok, R.st_ok, SR.next_nx, SR.next_rt, SR.next_bk, SR.next_ct, x_cnon, x_cbl, x_cint, x_cstr, x_var, x_bor, x_bin, x_neg, x_cmp, x_bop, x_bcons, x_not, x_ite, x_tup, x_lst, x_dct1, x_idx, x_slc, x_call, x_bi, x_isi, x_comp, x_nil, x_cons, x_c0, x_c1, x_seq, x_rng1, x_rng2, x_enu, x_keys, y_nil, y_cons, y_asg, y_setI, y_app, y_appPop, y_asgPop, y_ite, y_for, y_while, y_ret, y_retN, y_raise, y_pass, y_brk, y_cont, y_frz, y_exp, b_var, b_tup, b_lst, m_nil, m_cons, g_zero, g_succ, w_nil, w_cons, next_next, next_nil, forF_eq, boolK_nil, boolK_cons, bK_tt, bK_tf, bK_ft, bK_ff, bK_and, bK_or, iteV_bl, iteS_bl, notV_bl, negV_int, condV_bl, seqV_lst, seqV_tup, seqV_scr, enuV_lst, enuV_tup, keysV_dct, compF_eq, biP_1, biP_2, len_lst, len_tup, len_scr, int_int, int_bl, list_lst, list_tup, tuple_lst, tuple_tup, min_int, max_int, abs_int, c_eq, c_ne, c_lt, c_le, c_gt, c_ge, c_is, c_isnot, c_inn, c_notin, in_lst, in_tup, ix_lst, ix_tup, ix_scr, eq_int, eq_bl, eq_str, isNon_non, isNon_int, isNon_tup, isNon_lst, isNon_dct, isNon_bl, isNon_str, bin_add, bin_sub, bin_mod, bin_fdiv, List.set_cons_zero, List.set_cons_succ, List.length_cons, List.length_nil, List.map_cons, List.map_nil, List.cons_append, List.nil_append, List.replicate_succ, List.replicate_zero, ↓reduceIte, Bool.false_eq_true, Int.reduceLT, Int.reducePow, Int.reduceNeg, Int.reduceLE, Int.reduceAdd, Int.reduceSub, Int.reduceMul, Int.reduceMod, Int.reduceDiv, Bool.not_true, Bool.not_false, Bool.true_beq, Bool.false_beq, Bool.and_true, Bool.true_and, Bool.and_false, Bool.false_and, Bool.or_true, Bool.true_or, Bool.or_false, Bool.false_or, Nat.reduceAdd, Nat.reduceSub, Nat.zero_add, Nat.sub_self, part_no, part_int, slc_lst, slc_tup, isNoE, isiV, isiOk, isiP, at_zero, at_1, at_2, at_3, k_rng1, k_rng1s, k_at, k_ats, k_at0, k_at1, k_set, k_app, k_app0, kc_nil, kc_cons, consO_some, consO_none, if_okP, Nx_nx, Ret_rt, Ret_nx, le_nil, le_none, le_some, and_true, true_and, sub_one, cast_s, decide_true, decide_false, cast_0, k_rng_1, k_rng_2, k_rng_3, k_rng_4, k_rng_5, k_rng_6, comp_1, comp_2, comp_3, comp_4, comp_5, comp_6, Int.cast_ofNat_Int, Int.reduceBEq, Int.reduceBNe, beq_self_eq_true, succ_ne0, Nat.lt_irrefl, rng_length, List.length_map, Option.some.injEq]
      exact snoc' (g := fun m => PV.tup (rng n (nrV n B f m))) rfl
  · simp -implicitDefEqProofs (disch := omega) only [SR.fin_nx, SR.fin_rt, Ok_ok, ex_nx, R.bind_ok, R.st_ok, SR.next_nx, SR.next_rt, SR.next_bk, SR.next_ct, x_cnon, x_cbl, x_cint, x_cstr, x_var, x_bor, x_bin, x_neg, x_cmp, x_bop, x_bcons, x_not, x_ite, x_tup, x_lst, x_dct1, x_idx, x_slc, x_call, x_bi, x_isi, x_comp, x_nil, x_cons, x_c0, x_c1, x_seq, x_rng1, x_rng2, x_enu, x_keys, y_nil, y_cons, y_asg, y_setI, y_app, y_appPop, y_asgPop, y_ite, y_for, y_while, y_ret, y_retN, y_raise, y_pass, y_brk, y_cont, y_frz, y_exp, b_var, b_tup, b_lst, m_nil, m_cons, g_zero, g_succ, w_nil, w_cons, next_next, next_nil, forF_eq, boolK_nil, boolK_cons, bK_tt, bK_tf, bK_ft, bK_ff, bK_and, bK_or, iteV_bl, iteS_bl, notV_bl, negV_int, condV_bl, seqV_lst, seqV_tup, seqV_scr, enuV_lst, enuV_tup, keysV_dct, compF_eq, biP_1, biP_2, len_lst, len_tup, len_scr, int_int, int_bl, list_lst, list_tup, tuple_lst, tuple_tup, min_int, max_int, abs_int, c_eq, c_ne, c_lt, c_le, c_gt, c_ge, c_is, c_isnot, c_inn, c_notin, in_lst, in_tup, ix_lst, ix_tup, ix_scr, eq_int, eq_bl, eq_str, isNon_non, isNon_int, isNon_tup, isNon_lst, isNon_dct, isNon_bl, isNon_str, bin_add, bin_sub, bin_mod, bin_fdiv, List.set_cons_zero, List.set_cons_succ, List.length_cons, List.length_nil, List.map_cons, List.map_nil, List.cons_append, List.nil_append, List.replicate_succ, List.replicate_zero, ↓reduceIte, Bool.false_eq_true, Int.reduceLT, Int.reducePow, Int.reduceNeg, Int.reduceLE, Int.reduceAdd, Int.reduceSub, Int.reduceMul, Int.reduceMod, Int.reduceDiv, Bool.not_true, Bool.not_false, Bool.true_beq, Bool.false_beq, Bool.and_true, Bool.true_and, Bool.and_false, Bool.false_and, Bool.or_true, Bool.true_or, Bool.or_false, Bool.false_or, Nat.reduceAdd, Nat.reduceSub, Nat.zero_add, Nat.sub_self, part_no, part_int, slc_lst, slc_tup, isNoE, isiV, isiOk, isiP, at_zero, at_1, at_2, at_3, k_rng1, k_rng1s, k_at, k_ats, k_at0, k_at1, k_set, k_app, k_app0, kc_nil, kc_cons, consO_some, consO_none, if_okP, Nx_nx, Ret_rt, Ret_nx, le_nil, le_none, le_some, and_true, true_and, sub_one, cast_s, decide_true, decide_false, cast_0, k_rng_1, k_rng_2, k_rng_3, k_rng_4, k_rng_5, k_rng_6, comp_1, comp_2, comp_3, comp_4, comp_5, comp_6, Int.cast_ofNat_Int, Int.reduceBEq, Int.reduceBNe, beq_self_eq_true, succ_ne0, Nat.lt_irrefl, rng_length, List.length_map, Option.some.injEq]
theorem c_news (k : Nat) (hn : n ≤ 5) (hS : SetG S n F L t s) (hT : StoryG n T B f) (m h : Nat) (hm : m ≤ 900) (hh : h < n) (ha : aliveB f m h = true) : fnsOf tab 100 (k + 6) 11 [S, T, .int (h : Int), .int (m : Int)] = .ok (ntV n B f m h) := by
  refine goF rfl rfl ?_
  simp -implicitDefEqProofs (disch := omega) only [SR.fin_nx, SR.fin_rt, Ok_ok, ex_nx, R.bind_ok, R.st_ok, SR.next_nx, SR.next_rt, SR.next_bk, SR.next_ct, x_cnon, x_cbl, x_cint, x_cstr, x_var, x_bor, x_bin, x_neg, x_cmp, x_bop, x_bcons, x_not, x_ite, x_tup, x_lst, x_dct1, x_idx, x_slc, x_call, x_bi, x_isi, x_comp, x_nil, x_cons, x_c0, x_c1, x_seq, x_rng1, x_rng2, x_enu, x_keys, y_nil, y_cons, y_asg, y_setI, y_app, y_appPop, y_asgPop, y_ite, y_for, y_while, y_ret, y_retN, y_raise, y_pass, y_brk, y_cont, y_frz, y_exp, b_var, b_tup, b_lst, m_nil, m_cons, g_zero, g_succ, w_nil, w_cons, next_next, next_nil, forF_eq, boolK_nil, boolK_cons, bK_tt, bK_tf, bK_ft, bK_ff, bK_and, bK_or, iteV_bl, iteS_bl, notV_bl, negV_int, condV_bl, seqV_lst, seqV_tup, seqV_scr, enuV_lst, enuV_tup, keysV_dct, compF_eq, biP_1, biP_2, len_lst, len_tup, len_scr, int_int, int_bl, list_lst, list_tup, tuple_lst, tuple_tup, min_int, max_int, abs_int, c_eq, c_ne, c_lt, c_le, c_gt, c_ge, c_is, c_isnot, c_inn, c_notin, in_lst, in_tup, ix_lst, ix_tup, ix_scr, eq_int, eq_bl, eq_str, isNon_non, isNon_int, isNon_tup, isNon_lst, isNon_dct, isNon_bl, isNon_str, bin_add, bin_sub, bin_mod, bin_fdiv, List.set_cons_zero, List.set_cons_succ, List.length_cons, List.length_nil, List.map_cons, List.map_nil, List.cons_append, List.nil_append, List.replicate_succ, List.replicate_zero, ↓reduceIte, Bool.false_eq_true, Int.reduceLT, Int.reducePow, Int.reduceNeg, Int.reduceLE, Int.reduceAdd, Int.reduceSub, Int.reduceMul, Int.reduceMod, Int.reduceDiv, Bool.not_true, Bool.not_false, Bool.true_beq, Bool.false_beq, Bool.and_true, Bool.true_and, Bool.and_false, Bool.false_and, Bool.or_true, Bool.true_or, Bool.or_false, Bool.false_or, Nat.reduceAdd, Nat.reduceSub, Nat.zero_add, Nat.sub_self, part_no, part_int, slc_lst, slc_tup, isNoE, isiV, isiOk, isiP, at_zero, at_1, at_2, at_3, k_rng1, k_rng1s, k_at, k_ats, k_at0, k_at1, k_set, k_app, k_app0, kc_nil, kc_cons, consO_some, consO_none, if_okP, Nx_nx, Ret_rt, Ret_nx, le_nil, le_none, le_some, and_true, true_and, sub_one, cast_s, decide_true, decide_false, cast_0, k_rng_1, k_rng_2, k_rng_3, k_rng_4, k_rng_5, k_rng_6, comp_1, comp_2, comp_3, comp_4, comp_5, comp_6, Int.cast_ofNat_Int, Int.reduceBEq, Int.reduceBNe, beq_self_eq_true, succ_ne0, Nat.lt_irrefl, rng_length, List.length_map, Option.some.injEq, d11, c_check (k + 3) hS hT h m hh ha, c_table k hn hS hT m hm]
  exact nr_pos ha
end
end K86

namespace K86
open PySem PY
theorem tab_pos {n : Nat} {B : Nat → Int} {f : Nat → Fall} {m h : Nat} (ha : aliveB f m h = true) : tabV n B f m h = newsV n B f m h := by unfold tabV; rw [ha]; rfl
theorem tab_neg {n : Nat} {B : Nat → Int} {f : Nat → Fall} {m h : Nat} (ha : aliveB f m h = false) : tabV n B f m h = .non := by unfold tabV; rw [ha]; rfl
def knO (b s : Int) : Option Int := if 0 ≤ s then some b else none
theorem kn_oP (b s : Int) : kn b s = oP (knO b s) := by
  unfold kn knO
  by_cases h : 0 ≤ s <;> simp [h, oP]
theorem knV_oP (n : Nat) (B sn : Nat → Int) : rng n (knownV B sn) = rng n fun j => oP (knO (B j) (sn j)) := rng_congr fun j _ => kn_oP _ _
theorem c_newshold (k n F L : Nat) (t s : Str) (hn : n ≤ 5) (hL : L ≤ 5) (B : Nat → Int) (f : Nat → Fall) : fnsOf tab 100 (k + 7) 26 [setV n F L t s, storyV n B f, tableV n L (tabV n B f)] = .ok (.bl true) := by
  refine goF rfl rfl ?_
  have s1 : idxP (setV n F L t s) (.int 1) = .ok (.int n) := rfl
  have s3 : idxP (setV n F L t s) (.int 3) = .ok (.int L) := rfl
  simp -implicitDefEqProofs (disch := omega) only [SR.fin_nx, SR.fin_rt, Ok_ok, ex_nx, R.bind_ok, R.st_ok, SR.next_nx, SR.next_rt, SR.next_bk, SR.next_ct, x_cnon, x_cbl, x_cint, x_cstr, x_var, x_bor, x_bin, x_neg, x_cmp, x_bop, x_bcons, x_not, x_ite, x_tup, x_lst, x_dct1, x_idx, x_slc, x_call, x_bi, x_isi, x_comp, x_nil, x_cons, x_c0, x_c1, x_seq, x_rng1, x_rng2, x_enu, x_keys, y_nil, y_cons, y_asg, y_setI, y_app, y_appPop, y_asgPop, y_ite, y_for, y_while, y_ret, y_retN, y_raise, y_pass, y_brk, y_cont, y_frz, y_exp, b_var, b_tup, b_lst, m_nil, m_cons, g_zero, g_succ, w_nil, w_cons, next_next, next_nil, forF_eq, boolK_nil, boolK_cons, bK_tt, bK_tf, bK_ft, bK_ff, bK_and, bK_or, iteV_bl, iteS_bl, notV_bl, negV_int, condV_bl, seqV_lst, seqV_tup, seqV_scr, enuV_lst, enuV_tup, keysV_dct, compF_eq, biP_1, biP_2, len_lst, len_tup, len_scr, int_int, int_bl, list_lst, list_tup, tuple_lst, tuple_tup, min_int, max_int, abs_int, c_eq, c_ne, c_lt, c_le, c_gt, c_ge, c_is, c_isnot, c_inn, c_notin, in_lst, in_tup, ix_lst, ix_tup, ix_scr, eq_int, eq_bl, eq_str, isNon_non, isNon_int, isNon_tup, isNon_lst, isNon_dct, isNon_bl, isNon_str, bin_add, bin_sub, bin_mod, bin_fdiv, List.set_cons_zero, List.set_cons_succ, List.length_cons, List.length_nil, List.map_cons, List.map_nil, List.cons_append, List.nil_append, List.replicate_succ, List.replicate_zero, ↓reduceIte, Bool.false_eq_true, Int.reduceLT, Int.reducePow, Int.reduceNeg, Int.reduceLE, Int.reduceAdd, Int.reduceSub, Int.reduceMul, Int.reduceMod, Int.reduceDiv, Bool.not_true, Bool.not_false, Bool.true_beq, Bool.false_beq, Bool.and_true, Bool.true_and, Bool.and_false, Bool.false_and, Bool.or_true, Bool.true_or, Bool.or_false, Bool.false_or, Nat.reduceAdd, Nat.reduceSub, Nat.zero_add, Nat.sub_self, part_no, part_int, slc_lst, slc_tup, isNoE, isiV, isiOk, isiP, at_zero, at_1, at_2, at_3, k_rng1, k_rng1s, k_at, k_ats, k_at0, k_at1, k_set, k_app, k_app0, kc_nil, kc_cons, consO_some, consO_none, if_okP, Nx_nx, Ret_rt, Ret_nx, le_nil, le_none, le_some, and_true, true_and, sub_one, cast_s, decide_true, decide_false, cast_0, k_rng_1, k_rng_2, k_rng_3, k_rng_4, k_rng_5, k_rng_6, comp_1, comp_2, comp_3, comp_4, comp_5, comp_6, Int.cast_ofNat_Int, Int.reduceBEq, Int.reduceBNe, beq_self_eq_true, succ_ne0, Nat.lt_irrefl, rng_length, List.length_map, Option.some.injEq, d26, s1, s3]
  refine forR_F (fun m => [some (setV n F L t s), some (storyV n B f), some (tableV n L (tabV n B f)), some (.tup [setV n F L t s, storyV n B f]), none, none, none, none, none, none]) ?_ (fun m hm => ?_) ?_
  · simp -implicitDefEqProofs (disch := omega) only [SR.fin_nx, SR.fin_rt, Ok_ok, ex_nx, R.bind_ok, R.st_ok, SR.next_nx, SR.next_rt, SR.next_bk, SR.next_ct, x_cnon, x_cbl, x_cint, x_cstr, x_var, x_bor, x_bin, x_neg, x_cmp, x_bop, x_bcons, x_not, x_ite, x_tup, x_lst, x_dct1, x_idx, x_slc, x_call, x_bi, x_isi, x_comp, x_nil, x_cons, x_c0, x_c1, x_seq, x_rng1, x_rng2, x_enu, x_keys, y_nil, y_cons, y_asg, y_setI, y_app, y_appPop, y_asgPop, y_ite, y_for, y_while, y_ret, y_retN, y_raise, y_pass, y_brk, y_cont, y_frz, y_exp, b_var, b_tup, b_lst, m_nil, m_cons, g_zero, g_succ, w_nil, w_cons, next_next, next_nil, forF_eq, boolK_nil, boolK_cons, bK_tt, bK_tf, bK_ft, bK_ff, bK_and, bK_or, iteV_bl, iteS_bl, notV_bl, negV_int, condV_bl, seqV_lst, seqV_tup, seqV_scr, enuV_lst, enuV_tup, keysV_dct, compF_eq, biP_1, biP_2, len_lst, len_tup, len_scr, int_int, int_bl, list_lst, list_tup, tuple_lst, tuple_tup, min_int, max_int, abs_int, c_eq, c_ne, c_lt, c_le, c_gt, c_ge, c_is, c_isnot, c_inn, c_notin, in_lst, in_tup, ix_lst, ix_tup, ix_scr, eq_int, eq_bl, eq_str, isNon_non, isNon_int, isNon_tup, isNon_lst, isNon_dct, isNon_bl, isNon_str, bin_add, bin_sub, bin_mod, bin_fdiv, List.set_cons_zero, List.set_cons_succ, List.length_cons, List.length_nil, List.map_cons, List.map_nil, List.cons_append, List.nil_append, List.replicate_succ, List.replicate_zero, ↓reduceIte, Bool.false_eq_true, Int.reduceLT, Int.reducePow, Int.reduceNeg, Int.reduceLE, Int.reduceAdd, Int.reduceSub, Int.reduceMul, Int.reduceMod, Int.reduceDiv, Bool.not_true, Bool.not_false, Bool.true_beq, Bool.false_beq, Bool.and_true, Bool.true_and, Bool.and_false, Bool.false_and, Bool.or_true, Bool.true_or, Bool.or_false, Bool.false_or, Nat.reduceAdd, Nat.reduceSub, Nat.zero_add, Nat.sub_self, part_no, part_int, slc_lst, slc_tup, isNoE, isiV, isiOk, isiP, at_zero, at_1, at_2, at_3, k_rng1, k_rng1s, k_at, k_ats, k_at0, k_at1, k_set, k_app, k_app0, kc_nil, kc_cons, consO_some, consO_none, if_okP, Nx_nx, Ret_rt, Ret_nx, le_nil, le_none, le_some, and_true, true_and, sub_one, cast_s, decide_true, decide_false, cast_0, k_rng_1, k_rng_2, k_rng_3, k_rng_4, k_rng_5, k_rng_6, comp_1, comp_2, comp_3, comp_4, comp_5, comp_6, Int.cast_ofNat_Int, Int.reduceBEq, Int.reduceBNe, beq_self_eq_true, succ_ne0, Nat.lt_irrefl, rng_length, List.length_map, Option.some.injEq]
  · simp -implicitDefEqProofs (disch := omega) only [SR.fin_nx, SR.fin_rt, Ok_ok, ex_nx, R.bind_ok, R.st_ok, SR.next_nx, SR.next_rt, SR.next_bk, SR.next_ct, x_cnon, x_cbl, x_cint, x_cstr, x_var, x_bor, x_bin, x_neg, x_cmp, x_bop, x_bcons, x_not, x_ite, x_tup, x_lst, x_dct1, x_idx, x_slc, x_call, x_bi, x_isi, x_comp, x_nil, x_cons, x_c0, x_c1, x_seq, x_rng1, x_rng2, x_enu, x_keys, y_nil, y_cons, y_asg, y_setI, y_app, y_appPop, y_asgPop, y_ite, y_for, y_while, y_ret, y_retN, y_raise, y_pass, y_brk, y_cont, y_frz, y_exp, b_var, b_tup, b_lst, m_nil, m_cons, g_zero, g_succ, w_nil, w_cons, next_next, next_nil, forF_eq, boolK_nil, boolK_cons, bK_tt, bK_tf, bK_ft, bK_ff, bK_and, bK_or, iteV_bl, iteS_bl, notV_bl, negV_int, condV_bl, seqV_lst, seqV_tup, seqV_scr, enuV_lst, enuV_tup, keysV_dct, compF_eq, biP_1, biP_2, len_lst, len_tup, len_scr, int_int, int_bl, list_lst, list_tup, tuple_lst, tuple_tup, min_int, max_int, abs_int, c_eq, c_ne, c_lt, c_le, c_gt, c_ge, c_is, c_isnot, c_inn, c_notin, in_lst, in_tup, ix_lst, ix_tup, ix_scr, eq_int, eq_bl, eq_str, isNon_non, isNon_int, isNon_tup, isNon_lst, isNon_dct, isNon_bl, isNon_str, bin_add, bin_sub, bin_mod, bin_fdiv, List.set_cons_zero, List.set_cons_succ, List.length_cons, List.length_nil, List.map_cons, List.map_nil, List.cons_append, List.nil_append, List.replicate_succ, List.replicate_zero, ↓reduceIte, Bool.false_eq_true, Int.reduceLT, Int.reducePow, Int.reduceNeg, Int.reduceLE, Int.reduceAdd, Int.reduceSub, Int.reduceMul, Int.reduceMod, Int.reduceDiv, Bool.not_true, Bool.not_false, Bool.true_beq, Bool.false_beq, Bool.and_true, Bool.true_and, Bool.and_false, Bool.false_and, Bool.or_true, Bool.true_or, Bool.or_false, Bool.false_or, Nat.reduceAdd, Nat.reduceSub, Nat.zero_add, Nat.sub_self, part_no, part_int, slc_lst, slc_tup, isNoE, isiV, isiOk, isiP, at_zero, at_1, at_2, at_3, k_rng1, k_rng1s, k_at, k_ats, k_at0, k_at1, k_set, k_app, k_app0, kc_nil, kc_cons, consO_some, consO_none, if_okP, Nx_nx, Ret_rt, Ret_nx, le_nil, le_none, le_some, and_true, true_and, sub_one, cast_s, decide_true, decide_false, cast_0, k_rng_1, k_rng_2, k_rng_3, k_rng_4, k_rng_5, k_rng_6, comp_1, comp_2, comp_3, comp_4, comp_5, comp_6, Int.cast_ofNat_Int, Int.reduceBEq, Int.reduceBNe, beq_self_eq_true, succ_ne0, Nat.lt_irrefl, rng_length, List.length_map, Option.some.injEq, s1]
    refine forR_L (fun h => [some (setV n F L t s), some (storyV n B f), some (tableV n L (tabV n B f)), some (.tup [setV n F L t s, storyV n B f]), some (.int (m : Int)), none, none, none, none, none]) ?_ (fun h hh => ?_) ?_
    · simp -implicitDefEqProofs (disch := omega) only [SR.fin_nx, SR.fin_rt, Ok_ok, ex_nx, R.bind_ok, R.st_ok, SR.next_nx, SR.next_rt, SR.next_bk, SR.next_ct, x_cnon, x_cbl, x_cint, x_cstr, x_var, x_bor, x_bin, x_neg, x_cmp, x_bop, x_bcons, x_not, x_ite, x_tup, x_lst, x_dct1, x_idx, x_slc, x_call, x_bi, x_isi, x_comp, x_nil, x_cons, x_c0, x_c1, x_seq, x_rng1, x_rng2, x_enu, x_keys, y_nil, y_cons, y_asg, y_setI, y_app, y_appPop, y_asgPop, y_ite, y_for, y_while, y_ret, y_retN, y_raise, y_pass, y_brk, y_cont, y_frz, y_exp, b_var, b_tup, b_lst, m_nil, m_cons, g_zero, g_succ, w_nil, w_cons, next_next, next_nil, forF_eq, boolK_nil, boolK_cons, bK_tt, bK_tf, bK_ft, bK_ff, bK_and, bK_or, iteV_bl, iteS_bl, notV_bl, negV_int, condV_bl, seqV_lst, seqV_tup, seqV_scr, enuV_lst, enuV_tup, keysV_dct, compF_eq, biP_1, biP_2, len_lst, len_tup, len_scr, int_int, int_bl, list_lst, list_tup, tuple_lst, tuple_tup, min_int, max_int, abs_int, c_eq, c_ne, c_lt, c_le, c_gt, c_ge, c_is, c_isnot, c_inn, c_notin, in_lst, in_tup, ix_lst, ix_tup, ix_scr, eq_int, eq_bl, eq_str, isNon_non, isNon_int, isNon_tup, isNon_lst, isNon_dct, isNon_bl, isNon_str, bin_add, bin_sub, bin_mod, bin_fdiv, List.set_cons_zero, List.set_cons_succ, List.length_cons, List.length_nil, List.map_cons, List.map_nil, List.cons_append, List.nil_append, List.replicate_succ, List.replicate_zero, ↓reduceIte, Bool.false_eq_true, Int.reduceLT, Int.reducePow, Int.reduceNeg, Int.reduceLE, Int.reduceAdd, Int.reduceSub, Int.reduceMul, Int.reduceMod, Int.reduceDiv, Bool.not_true, Bool.not_false, Bool.true_beq, Bool.false_beq, Bool.and_true, Bool.true_and, Bool.and_false, Bool.false_and, Bool.or_true, Bool.true_or, Bool.or_false, Bool.false_or, Nat.reduceAdd, Nat.reduceSub, Nat.zero_add, Nat.sub_self, part_no, part_int, slc_lst, slc_tup, isNoE, isiV, isiOk, isiP, at_zero, at_1, at_2, at_3, k_rng1, k_rng1s, k_at, k_ats, k_at0, k_at1, k_set, k_app, k_app0, kc_nil, kc_cons, consO_some, consO_none, if_okP, Nx_nx, Ret_rt, Ret_nx, le_nil, le_none, le_some, and_true, true_and, sub_one, cast_s, decide_true, decide_false, cast_0, k_rng_1, k_rng_2, k_rng_3, k_rng_4, k_rng_5, k_rng_6, comp_1, comp_2, comp_3, comp_4, comp_5, comp_6, Int.cast_ofNat_Int, Int.reduceBEq, Int.reduceBNe, beq_self_eq_true, succ_ne0, Nat.lt_irrefl, rng_length, List.length_map, Option.some.injEq]
    · have T1 : idxP (tableV n L (tabV n B f)) (.int (m : Int)) = .ok (rowV n (tabV n B f m)) := row_at (g := fun m => rowV n (tabV n B f m)) hm
      have T2 : idxP (rowV n (tabV n B f m)) (.int (h : Int)) = .ok (tabV n B f m h) := row_at hh
      cases ha : aliveB f m h with
      | false =>
        rw [tab_neg ha] at T2
        simp -implicitDefEqProofs (disch := omega) only [SR.fin_nx, SR.fin_rt, Ok_ok, ex_nx, R.bind_ok, R.st_ok, SR.next_nx, SR.next_rt, SR.next_bk, SR.next_ct, x_cnon, x_cbl, x_cint, x_cstr, x_var, x_bor, x_bin, x_neg, x_cmp, x_bop, x_bcons, x_not, x_ite, x_tup, x_lst, x_dct1, x_idx, x_slc, x_call, x_bi, x_isi, x_comp, x_nil, x_cons, x_c0, x_c1, x_seq, x_rng1, x_rng2, x_enu, x_keys, y_nil, y_cons, y_asg, y_setI, y_app, y_appPop, y_asgPop, y_ite, y_for, y_while, y_ret, y_retN, y_raise, y_pass, y_brk, y_cont, y_frz, y_exp, b_var, b_tup, b_lst, m_nil, m_cons, g_zero, g_succ, w_nil, w_cons, next_next, next_nil, forF_eq, boolK_nil, boolK_cons, bK_tt, bK_tf, bK_ft, bK_ff, bK_and, bK_or, iteV_bl, iteS_bl, notV_bl, negV_int, condV_bl, seqV_lst, seqV_tup, seqV_scr, enuV_lst, enuV_tup, keysV_dct, compF_eq, biP_1, biP_2, len_lst, len_tup, len_scr, int_int, int_bl, list_lst, list_tup, tuple_lst, tuple_tup, min_int, max_int, abs_int, c_eq, c_ne, c_lt, c_le, c_gt, c_ge, c_is, c_isnot, c_inn, c_notin, in_lst, in_tup, ix_lst, ix_tup, ix_scr, eq_int, eq_bl, eq_str, isNon_non, isNon_int, isNon_tup, isNon_lst, isNon_dct, isNon_bl, isNon_str, bin_add, bin_sub, bin_mod, bin_fdiv, List.set_cons_zero, List.set_cons_succ, List.length_cons, List.length_nil, List.map_cons, List.map_nil, List.cons_append, List.nil_append, List.replicate_succ, List.replicate_zero, ↓reduceIte, Bool.false_eq_true, Int.reduceLT, Int.reducePow, Int.reduceNeg, Int.reduceLE, Int.reduceAdd, Int.reduceSub, Int.reduceMul, Int.reduceMod, Int.reduceDiv, Bool.not_true, Bool.not_false, Bool.true_beq, Bool.false_beq, Bool.and_true, Bool.true_and, Bool.and_false, Bool.false_and, Bool.or_true, Bool.true_or, Bool.or_false, Bool.false_or, Nat.reduceAdd, Nat.reduceSub, Nat.zero_add, Nat.sub_self, part_no, part_int, slc_lst, slc_tup, isNoE, isiV, isiOk, isiP, at_zero, at_1, at_2, at_3, k_rng1, k_rng1s, k_at, k_ats, k_at0, k_at1, k_set, k_app, k_app0, kc_nil, kc_cons, consO_some, consO_none, if_okP, Nx_nx, Ret_rt, Ret_nx, le_nil, le_none, le_some, and_true, true_and, sub_one, cast_s, decide_true, decide_false, cast_0, k_rng_1, k_rng_2, k_rng_3, k_rng_4, k_rng_5, k_rng_6, comp_1, comp_2, comp_3, comp_4, comp_5, comp_6, Int.cast_ofNat_Int, Int.reduceBEq, Int.reduceBNe, beq_self_eq_true, succ_ne0, Nat.lt_irrefl, rng_length, List.length_map, Option.some.injEq, T1, T2]
      | true =>
        rw [tab_pos ha] at T2
        have nn : isNon (newsV n B f m h) = false := rfl
        have sa : Shp 5 (.tup [setV n F L t s, storyV n B f]) := Shp.tup fun x hx => by
          simp only [List.mem_cons, List.not_mem_nil, or_false] at hx
          rcases hx with rfl | rfl
          · exact ⟨(shp_set _ _ _ _ _).1, Nat.le_trans (shp_set _ _ _ _ _).2 (by decide)⟩
          · exact shp_story _ _ _
        have ll : lstd (.tup [setV n F L t s, storyV n B f]) = .lst [lstd (setV n F L t s), lstd (storyV n B f)] := lstd_tup _
        have l1 := c_listed k _ sa
        have l2 := c_listed k _ (shp_lstd sa)
        rw [lstd_lstd] at l2
        have ee := eq_self (shp_lstd sa) (by decide)
        rw [ll] at l1 l2 ee
        have n1 := c_news k hn (setG_t n F L t s) (storyG_t n B f) m h (by omega) hh ha
        have n2 := c_news k hn (setG_l n F L t s) (storyG_l n B f) m h (by omega) hh ha
        have p0 : fnsOf tab 100 (k + 6) 21 [.tup (rng n (knownV B (seen n f m h))), .lst (rng n (knownV B (seen n f m h)))] = .ok (.bl true) := by
          rw [knV_oP]
          exact c_samenums (k + 3) n hn _ _ (.inr rfl)
        have p1 : fnsOf tab 100 (k + 6) 21 [.tup (rng n fun j => .int (seen n f m h j)), .lst (rng n fun j => .int (seen n f m h j))] = .ok (.bl true) := c_samenums (k + 3) n hn (fun j => some (seen n f m h j)) _ (.inr rfl)
        have p2 : fnsOf tab 100 (k + 6) 21 [.tup (rng n fun j => oP (miss n f m h j)), .lst (rng n fun j => oP (miss n f m h j))] = .ok (.bl true) := c_samenums (k + 3) n hn _ _ (.inr rfl)
        cases d : ((((m : Int) + (h : Int)) % 2) == 1) with
        | true =>
          simp -implicitDefEqProofs (disch := omega) only [SR.fin_nx, SR.fin_rt, Ok_ok, ex_nx, R.bind_ok, R.st_ok, SR.next_nx, SR.next_rt, SR.next_bk, SR.next_ct, x_cnon, x_cbl, x_cint, x_cstr, x_var, x_bor, x_bin, x_neg, x_cmp, x_bop, x_bcons, x_not, x_ite, x_tup, x_lst, x_dct1, x_idx, x_slc, x_call, x_bi, x_isi, x_comp, x_nil, x_cons, x_c0, x_c1, x_seq, x_rng1, x_rng2, x_enu, x_keys, y_nil, y_cons, y_asg, y_setI, y_app, y_appPop, y_asgPop, y_ite, y_for, y_while, y_ret, y_retN, y_raise, y_pass, y_brk, y_cont, y_frz, y_exp, b_var, b_tup, b_lst, m_nil, m_cons, g_zero, g_succ, w_nil, w_cons, next_next, next_nil, forF_eq, boolK_nil, boolK_cons, bK_tt, bK_tf, bK_ft, bK_ff, bK_and, bK_or, iteV_bl, iteS_bl, notV_bl, negV_int, condV_bl, seqV_lst, seqV_tup, seqV_scr, enuV_lst, enuV_tup, keysV_dct, compF_eq, biP_1, biP_2, len_lst, len_tup, len_scr, int_int, int_bl, list_lst, list_tup, tuple_lst, tuple_tup, min_int, max_int, abs_int, c_eq, c_ne, c_lt, c_le, c_gt, c_ge, c_is, c_isnot, c_inn, c_notin, in_lst, in_tup, ix_lst, ix_tup, ix_scr, eq_int, eq_bl, eq_str, isNon_non, isNon_int, isNon_tup, isNon_lst, isNon_dct, isNon_bl, isNon_str, bin_add, bin_sub, bin_mod, bin_fdiv, List.set_cons_zero, List.set_cons_succ, List.length_cons, List.length_nil, List.map_cons, List.map_nil, List.cons_append, List.nil_append, List.replicate_succ, List.replicate_zero, ↓reduceIte, Bool.false_eq_true, Int.reduceLT, Int.reducePow, Int.reduceNeg, Int.reduceLE, Int.reduceAdd, Int.reduceSub, Int.reduceMul, Int.reduceMod, Int.reduceDiv, Bool.not_true, Bool.not_false, Bool.true_beq, Bool.false_beq, Bool.and_true, Bool.true_and, Bool.and_false, Bool.false_and, Bool.or_true, Bool.true_or, Bool.or_false, Bool.false_or, Nat.reduceAdd, Nat.reduceSub, Nat.zero_add, Nat.sub_self, part_no, part_int, slc_lst, slc_tup, isNoE, isiV, isiOk, isiP, at_zero, at_1, at_2, at_3, k_rng1, k_rng1s, k_at, k_ats, k_at0, k_at1, k_set, k_app, k_app0, kc_nil, kc_cons, consO_some, consO_none, if_okP, Nx_nx, Ret_rt, Ret_nx, le_nil, le_none, le_some, and_true, true_and, sub_one, cast_s, decide_true, decide_false, cast_0, k_rng_1, k_rng_2, k_rng_3, k_rng_4, k_rng_5, k_rng_6, comp_1, comp_2, comp_3, comp_4, comp_5, comp_6, Int.cast_ofNat_Int, Int.reduceBEq, Int.reduceBNe, beq_self_eq_true, succ_ne0, Nat.lt_irrefl, rng_length, List.length_map, Option.some.injEq, T1, T2, nn, d, l1, l2, n2, ee, ntV, newsV, p0, p1, p2]
        | false =>
          simp -implicitDefEqProofs (disch := omega) only [SR.fin_nx, SR.fin_rt, Ok_ok, ex_nx, R.bind_ok, R.st_ok, SR.next_nx, SR.next_rt, SR.next_bk, SR.next_ct, x_cnon, x_cbl, x_cint, x_cstr, x_var, x_bor, x_bin, x_neg, x_cmp, x_bop, x_bcons, x_not, x_ite, x_tup, x_lst, x_dct1, x_idx, x_slc, x_call, x_bi, x_isi, x_comp, x_nil, x_cons, x_c0, x_c1, x_seq, x_rng1, x_rng2, x_enu, x_keys, y_nil, y_cons, y_asg, y_setI, y_app, y_appPop, y_asgPop, y_ite, y_for, y_while, y_ret, y_retN, y_raise, y_pass, y_brk, y_cont, y_frz, y_exp, b_var, b_tup, b_lst, m_nil, m_cons, g_zero, g_succ, w_nil, w_cons, next_next, next_nil, forF_eq, boolK_nil, boolK_cons, bK_tt, bK_tf, bK_ft, bK_ff, bK_and, bK_or, iteV_bl, iteS_bl, notV_bl, negV_int, condV_bl, seqV_lst, seqV_tup, seqV_scr, enuV_lst, enuV_tup, keysV_dct, compF_eq, biP_1, biP_2, len_lst, len_tup, len_scr, int_int, int_bl, list_lst, list_tup, tuple_lst, tuple_tup, min_int, max_int, abs_int, c_eq, c_ne, c_lt, c_le, c_gt, c_ge, c_is, c_isnot, c_inn, c_notin, in_lst, in_tup, ix_lst, ix_tup, ix_scr, eq_int, eq_bl, eq_str, isNon_non, isNon_int, isNon_tup, isNon_lst, isNon_dct, isNon_bl, isNon_str, bin_add, bin_sub, bin_mod, bin_fdiv, List.set_cons_zero, List.set_cons_succ, List.length_cons, List.length_nil, List.map_cons, List.map_nil, List.cons_append, List.nil_append, List.replicate_succ, List.replicate_zero, ↓reduceIte, Bool.false_eq_true, Int.reduceLT, Int.reducePow, Int.reduceNeg, Int.reduceLE, Int.reduceAdd, Int.reduceSub, Int.reduceMul, Int.reduceMod, Int.reduceDiv, Bool.not_true, Bool.not_false, Bool.true_beq, Bool.false_beq, Bool.and_true, Bool.true_and, Bool.and_false, Bool.false_and, Bool.or_true, Bool.true_or, Bool.or_false, Bool.false_or, Nat.reduceAdd, Nat.reduceSub, Nat.zero_add, Nat.sub_self, part_no, part_int, slc_lst, slc_tup, isNoE, isiV, isiOk, isiP, at_zero, at_1, at_2, at_3, k_rng1, k_rng1s, k_at, k_ats, k_at0, k_at1, k_set, k_app, k_app0, kc_nil, kc_cons, consO_some, consO_none, if_okP, Nx_nx, Ret_rt, Ret_nx, le_nil, le_none, le_some, and_true, true_and, sub_one, cast_s, decide_true, decide_false, cast_0, k_rng_1, k_rng_2, k_rng_3, k_rng_4, k_rng_5, k_rng_6, comp_1, comp_2, comp_3, comp_4, comp_5, comp_6, Int.cast_ofNat_Int, Int.reduceBEq, Int.reduceBNe, beq_self_eq_true, succ_ne0, Nat.lt_irrefl, rng_length, List.length_map, Option.some.injEq, T1, T2, nn, d, l1, n1, ee, ntV, newsV, p0, p1, p2]
    · simp -implicitDefEqProofs (disch := omega) only [SR.fin_nx, SR.fin_rt, Ok_ok, ex_nx, R.bind_ok, R.st_ok, SR.next_nx, SR.next_rt, SR.next_bk, SR.next_ct, x_cnon, x_cbl, x_cint, x_cstr, x_var, x_bor, x_bin, x_neg, x_cmp, x_bop, x_bcons, x_not, x_ite, x_tup, x_lst, x_dct1, x_idx, x_slc, x_call, x_bi, x_isi, x_comp, x_nil, x_cons, x_c0, x_c1, x_seq, x_rng1, x_rng2, x_enu, x_keys, y_nil, y_cons, y_asg, y_setI, y_app, y_appPop, y_asgPop, y_ite, y_for, y_while, y_ret, y_retN, y_raise, y_pass, y_brk, y_cont, y_frz, y_exp, b_var, b_tup, b_lst, m_nil, m_cons, g_zero, g_succ, w_nil, w_cons, next_next, next_nil, forF_eq, boolK_nil, boolK_cons, bK_tt, bK_tf, bK_ft, bK_ff, bK_and, bK_or, iteV_bl, iteS_bl, notV_bl, negV_int, condV_bl, seqV_lst, seqV_tup, seqV_scr, enuV_lst, enuV_tup, keysV_dct, compF_eq, biP_1, biP_2, len_lst, len_tup, len_scr, int_int, int_bl, list_lst, list_tup, tuple_lst, tuple_tup, min_int, max_int, abs_int, c_eq, c_ne, c_lt, c_le, c_gt, c_ge, c_is, c_isnot, c_inn, c_notin, in_lst, in_tup, ix_lst, ix_tup, ix_scr, eq_int, eq_bl, eq_str, isNon_non, isNon_int, isNon_tup, isNon_lst, isNon_dct, isNon_bl, isNon_str, bin_add, bin_sub, bin_mod, bin_fdiv, List.set_cons_zero, List.set_cons_succ, List.length_cons, List.length_nil, List.map_cons, List.map_nil, List.cons_append, List.nil_append, List.replicate_succ, List.replicate_zero, ↓reduceIte, Bool.false_eq_true, Int.reduceLT, Int.reducePow, Int.reduceNeg, Int.reduceLE, Int.reduceAdd, Int.reduceSub, Int.reduceMul, Int.reduceMod, Int.reduceDiv, Bool.not_true, Bool.not_false, Bool.true_beq, Bool.false_beq, Bool.and_true, Bool.true_and, Bool.and_false, Bool.false_and, Bool.or_true, Bool.true_or, Bool.or_false, Bool.false_or, Nat.reduceAdd, Nat.reduceSub, Nat.zero_add, Nat.sub_self, part_no, part_int, slc_lst, slc_tup, isNoE, isiV, isiOk, isiP, at_zero, at_1, at_2, at_3, k_rng1, k_rng1s, k_at, k_ats, k_at0, k_at1, k_set, k_app, k_app0, kc_nil, kc_cons, consO_some, consO_none, if_okP, Nx_nx, Ret_rt, Ret_nx, le_nil, le_none, le_some, and_true, true_and, sub_one, cast_s, decide_true, decide_false, cast_0, k_rng_1, k_rng_2, k_rng_3, k_rng_4, k_rng_5, k_rng_6, comp_1, comp_2, comp_3, comp_4, comp_5, comp_6, Int.cast_ofNat_Int, Int.reduceBEq, Int.reduceBNe, beq_self_eq_true, succ_ne0, Nat.lt_irrefl, rng_length, List.length_map, Option.some.injEq]
  · simp -implicitDefEqProofs (disch := omega) only [SR.fin_nx, SR.fin_rt, Ok_ok, ex_nx, R.bind_ok, R.st_ok, SR.next_nx, SR.next_rt, SR.next_bk, SR.next_ct, x_cnon, x_cbl, x_cint, x_cstr, x_var, x_bor, x_bin, x_neg, x_cmp, x_bop, x_bcons, x_not, x_ite, x_tup, x_lst, x_dct1, x_idx, x_slc, x_call, x_bi, x_isi, x_comp, x_nil, x_cons, x_c0, x_c1, x_seq, x_rng1, x_rng2, x_enu, x_keys, y_nil, y_cons, y_asg, y_setI, y_app, y_appPop, y_asgPop, y_ite, y_for, y_while, y_ret, y_retN, y_raise, y_pass, y_brk, y_cont, y_frz, y_exp, b_var, b_tup, b_lst, m_nil, m_cons, g_zero, g_succ, w_nil, w_cons, next_next, next_nil, forF_eq, boolK_nil, boolK_cons, bK_tt, bK_tf, bK_ft, bK_ff, bK_and, bK_or, iteV_bl, iteS_bl, notV_bl, negV_int, condV_bl, seqV_lst, seqV_tup, seqV_scr, enuV_lst, enuV_tup, keysV_dct, compF_eq, biP_1, biP_2, len_lst, len_tup, len_scr, int_int, int_bl, list_lst, list_tup, tuple_lst, tuple_tup, min_int, max_int, abs_int, c_eq, c_ne, c_lt, c_le, c_gt, c_ge, c_is, c_isnot, c_inn, c_notin, in_lst, in_tup, ix_lst, ix_tup, ix_scr, eq_int, eq_bl, eq_str, isNon_non, isNon_int, isNon_tup, isNon_lst, isNon_dct, isNon_bl, isNon_str, bin_add, bin_sub, bin_mod, bin_fdiv, List.set_cons_zero, List.set_cons_succ, List.length_cons, List.length_nil, List.map_cons, List.map_nil, List.cons_append, List.nil_append, List.replicate_succ, List.replicate_zero, ↓reduceIte, Bool.false_eq_true, Int.reduceLT, Int.reducePow, Int.reduceNeg, Int.reduceLE, Int.reduceAdd, Int.reduceSub, Int.reduceMul, Int.reduceMod, Int.reduceDiv, Bool.not_true, Bool.not_false, Bool.true_beq, Bool.false_beq, Bool.and_true, Bool.true_and, Bool.and_false, Bool.false_and, Bool.or_true, Bool.true_or, Bool.or_false, Bool.false_or, Nat.reduceAdd, Nat.reduceSub, Nat.zero_add, Nat.sub_self, part_no, part_int, slc_lst, slc_tup, isNoE, isiV, isiOk, isiP, at_zero, at_1, at_2, at_3, k_rng1, k_rng1s, k_at, k_ats, k_at0, k_at1, k_set, k_app, k_app0, kc_nil, kc_cons, consO_some, consO_none, if_okP, Nx_nx, Ret_rt, Ret_nx, le_nil, le_none, le_some, and_true, true_and, sub_one, cast_s, decide_true, decide_false, cast_0, k_rng_1, k_rng_2, k_rng_3, k_rng_4, k_rng_5, k_rng_6, comp_1, comp_2, comp_3, comp_4, comp_5, comp_6, Int.cast_ofNat_Int, Int.reduceBEq, Int.reduceBNe, beq_self_eq_true, succ_ne0, Nat.lt_irrefl, rng_length, List.length_map, Option.some.injEq]
theorem c_tableL (k n F L : Nat) (t s : Str) (hn1 : 1 ≤ n) (hn : n ≤ 5) (hL : L ≤ 5) (B : Nat → Int) (f : Nat → Fall) (hf : ∀ h, FallOk (f h)) : fnsOf tab 100 (k + 2) 25 [setV n F L t s, storyV n B f, tableV n L (heardV n f)] = .ok (tableV n L (tabV n B f)) := by
  rw [lv rfl]
  exact (f_table n F L t s hn hL B f (c_come k n L hn1 hn hL f hf) fun m h hm hh ha => c_newsL k n L hn hL B f m h hm hh ha).eq
theorem c_HE (k n : Nat) : HE n (fnsOf tab 100 (k + 6)) where
  h0 := fun s o => by rw [lv rfl]; exact (f_entry s o).eq
  h1n := fun m => by rw [lv rfl]; exact (f_numbers_non m).eq
  h1 := fun m x b e he => by rw [lv rfl]; exact (f_numbers m x b e he).eq
  h21 := fun a b => c_samenums (k + 3) 2 (by omega) (fun j => if j = 0 then a else b) _ (.inl rfl)
  h22 := fun s o => by rw [lv rfl]; exact (f_sameentry (c_H6 (k + 4)) s o).eq
  h23 := fun v hv => c_listed k v ⟨hv.1, Nat.le_trans hv.2 (by decide)⟩
  h27n := fun fv h m hc => by rw [lv rfl]; exact (f_canbe_none fv h m .non rfl hc).eq
  h27 := fun r l h m s x hc hx => by rw [lv rfl]; exact (f_canbe_some r l h m s x hc hx).eq
theorem c_entries (k n L : Nat) (hn : n ≤ 5) (hL : L ≤ 5) (B : Nat → Int) (f : Nat → Fall) (hf : ∀ h, FallOk (f h)) (h o : Nat) (hh : h < n) (ho : o < n) (hoh : o ≠ h) : fnsOf tab 100 (k + 7) 28 [storyV n B f, tableV n L (tabV n B f), .int (h : Int), .int (o : Int)] = .ok (.bl true) := by
  rw [lv rfl]
  exact (f_entries n L hn hL B f hf (c_HE k n) h o hh ho hoh).eq
def isT : R PV → Bool
  | .ok (.bl true) => true
  | _ => false
theorem isT_ok {r : R PV} (h : isT r = true) : r = .ok (.bl true) := by
  unfold isT at h
  split at h
  · rfl
  · cases h
theorem all_ok : isT (fnsOf tab 100 7 24 []) = true := by decide +kernel
theorem c_law (ns : List Int) : fnsOf tab 100 8 29 [.scr ns] = .ok (.bl true) := by
  obtain ⟨c0, e0⟩ := c_cell 6 ns 0 (by omega)
  obtain ⟨c1, e1⟩ := c_cell 6 ns 1 (by omega)
  obtain ⟨c2, e2⟩ := c_cell 6 ns 2 (by omega)
  obtain ⟨n, F, L, t, s, s0, hn2, hn5, hF, hL1, hL5⟩ := c_setting 5 c0
  have story : ∀ c : Int, ∃ (B : Nat → Int) (f : Nat → Fall), fnsOf tab 100 7 16 [setV n F L t s, .int c] = .ok (storyV n B f) ∧ ∀ h, FallOk (f h) := fun c => by
    obtain ⟨v, e, B, f, rfl, hf⟩ := f_story (Φ := fnsOf tab 100 6) (fu := 100) (c_H8 5) n F L t s hn2 hn5 hL1 hL5 c
    exact ⟨B, f, by rw [lv rfl]; exact e, hf⟩
  obtain ⟨B1, f1, t1, hf1⟩ := story c1
  obtain ⟨B2, f2, t2, hf2⟩ := story c2
  have tb := fun (B : Nat → Int) (f : Nat → Fall) (hf : ∀ h, FallOk (f h)) => c_tableL 5 n F L t s (by omega) hn5 hL5 B f hf
  have tb1 := tb B1 f1 hf1
  have tb2 := tb B2 f2 hf2
  have hd := fun (B : Nat → Int) (f : Nat → Fall) => c_heardL 6 n F L t s hn5 hL5 B f
  have nh := c_newshold 0 n F L t s hn5 hL5 B1 f1
  have ah := isT_ok all_ok
  have s1 : idxP (setV n F L t s) (.int 1) = .ok (.int n) := rfl
  simp only [Int.cast_ofNat_Int, cast_0] at e0 e1 e2
  refine goF rfl rfl ?_
  simp -implicitDefEqProofs (disch := omega) only [SR.fin_nx, SR.fin_rt, Ok_ok, ex_nx, R.bind_ok, R.st_ok, SR.next_nx, SR.next_rt, SR.next_bk, SR.next_ct, x_cnon, x_cbl, x_cint, x_cstr, x_var, x_bor, x_bin, x_neg, x_cmp, x_bop, x_bcons, x_not, x_ite, x_tup, x_lst, x_dct1, x_idx, x_slc, x_call, x_bi, x_isi, x_comp, x_nil, x_cons, x_c0, x_c1, x_seq, x_rng1, x_rng2, x_enu, x_keys, y_nil, y_cons, y_asg, y_setI, y_app, y_appPop, y_asgPop, y_ite, y_for, y_while, y_ret, y_retN, y_raise, y_pass, y_brk, y_cont, y_frz, y_exp, b_var, b_tup, b_lst, m_nil, m_cons, g_zero, g_succ, w_nil, w_cons, next_next, next_nil, forF_eq, boolK_nil, boolK_cons, bK_tt, bK_tf, bK_ft, bK_ff, bK_and, bK_or, iteV_bl, iteS_bl, notV_bl, negV_int, condV_bl, seqV_lst, seqV_tup, seqV_scr, enuV_lst, enuV_tup, keysV_dct, compF_eq, biP_1, biP_2, len_lst, len_tup, len_scr, int_int, int_bl, list_lst, list_tup, tuple_lst, tuple_tup, min_int, max_int, abs_int, c_eq, c_ne, c_lt, c_le, c_gt, c_ge, c_is, c_isnot, c_inn, c_notin, in_lst, in_tup, ix_lst, ix_tup, ix_scr, eq_int, eq_bl, eq_str, isNon_non, isNon_int, isNon_tup, isNon_lst, isNon_dct, isNon_bl, isNon_str, bin_add, bin_sub, bin_mod, bin_fdiv, List.set_cons_zero, List.set_cons_succ, List.length_cons, List.length_nil, List.map_cons, List.map_nil, List.cons_append, List.nil_append, List.replicate_succ, List.replicate_zero, ↓reduceIte, Bool.false_eq_true, Int.reduceLT, Int.reducePow, Int.reduceNeg, Int.reduceLE, Int.reduceAdd, Int.reduceSub, Int.reduceMul, Int.reduceMod, Int.reduceDiv, Bool.not_true, Bool.not_false, Bool.true_beq, Bool.false_beq, Bool.and_true, Bool.true_and, Bool.and_false, Bool.false_and, Bool.or_true, Bool.true_or, Bool.or_false, Bool.false_or, Nat.reduceAdd, Nat.reduceSub, Nat.zero_add, Nat.sub_self, part_no, part_int, slc_lst, slc_tup, isNoE, isiV, isiOk, isiP, at_zero, at_1, at_2, at_3, k_rng1, k_rng1s, k_at, k_ats, k_at0, k_at1, k_set, k_app, k_app0, kc_nil, kc_cons, consO_some, consO_none, if_okP, Nx_nx, Ret_rt, Ret_nx, le_nil, le_none, le_some, and_true, true_and, sub_one, cast_s, decide_true, decide_false, cast_0, k_rng_1, k_rng_2, k_rng_3, k_rng_4, k_rng_5, k_rng_6, comp_1, comp_2, comp_3, comp_4, comp_5, comp_6, Int.cast_ofNat_Int, Int.reduceBEq, Int.reduceBNe, beq_self_eq_true, succ_ne0, Nat.lt_irrefl, rng_length, List.length_map, Option.some.injEq, d29, e0, s0, e1, e2, t1, t2, hd, tb1, tb2, ah, nh, s1]
  generalize hX : (PV.lst [storyV n B1 f1, storyV n B2 f2]) = X
  generalize hY : (PV.lst [tableV n L (tabV n B1 f1), tableV n L (tabV n B2 f2)]) = Y
  have XY : ∀ k : Nat, k < 2 → ∃ B f, (∀ h, FallOk (f h)) ∧ idxP X (.int (k : Int)) = .ok (storyV n B f) ∧ idxP Y (.int (k : Int)) = .ok (tableV n L (tabV n B f)) := fun k hk => by
    have : k = 0 ∨ k = 1 := by omega
    rcases this with rfl | rfl
    · exact ⟨B1, f1, hf1, by rw [← hX]; rfl, by rw [← hY]; rfl⟩
    · exact ⟨B2, f2, hf2, by rw [← hX]; rfl, by rw [← hY]; rfl⟩
  refine forR_F (fun h => [some (.scr ns), some (setV n F L t s), some X, some Y, none, none, none, none]) ?_ (fun h hh => ?_) ?_
  · simp -implicitDefEqProofs (disch := omega) only [SR.fin_nx, SR.fin_rt, Ok_ok, ex_nx, R.bind_ok, R.st_ok, SR.next_nx, SR.next_rt, SR.next_bk, SR.next_ct, x_cnon, x_cbl, x_cint, x_cstr, x_var, x_bor, x_bin, x_neg, x_cmp, x_bop, x_bcons, x_not, x_ite, x_tup, x_lst, x_dct1, x_idx, x_slc, x_call, x_bi, x_isi, x_comp, x_nil, x_cons, x_c0, x_c1, x_seq, x_rng1, x_rng2, x_enu, x_keys, y_nil, y_cons, y_asg, y_setI, y_app, y_appPop, y_asgPop, y_ite, y_for, y_while, y_ret, y_retN, y_raise, y_pass, y_brk, y_cont, y_frz, y_exp, b_var, b_tup, b_lst, m_nil, m_cons, g_zero, g_succ, w_nil, w_cons, next_next, next_nil, forF_eq, boolK_nil, boolK_cons, bK_tt, bK_tf, bK_ft, bK_ff, bK_and, bK_or, iteV_bl, iteS_bl, notV_bl, negV_int, condV_bl, seqV_lst, seqV_tup, seqV_scr, enuV_lst, enuV_tup, keysV_dct, compF_eq, biP_1, biP_2, len_lst, len_tup, len_scr, int_int, int_bl, list_lst, list_tup, tuple_lst, tuple_tup, min_int, max_int, abs_int, c_eq, c_ne, c_lt, c_le, c_gt, c_ge, c_is, c_isnot, c_inn, c_notin, in_lst, in_tup, ix_lst, ix_tup, ix_scr, eq_int, eq_bl, eq_str, isNon_non, isNon_int, isNon_tup, isNon_lst, isNon_dct, isNon_bl, isNon_str, bin_add, bin_sub, bin_mod, bin_fdiv, List.set_cons_zero, List.set_cons_succ, List.length_cons, List.length_nil, List.map_cons, List.map_nil, List.cons_append, List.nil_append, List.replicate_succ, List.replicate_zero, ↓reduceIte, Bool.false_eq_true, Int.reduceLT, Int.reducePow, Int.reduceNeg, Int.reduceLE, Int.reduceAdd, Int.reduceSub, Int.reduceMul, Int.reduceMod, Int.reduceDiv, Bool.not_true, Bool.not_false, Bool.true_beq, Bool.false_beq, Bool.and_true, Bool.true_and, Bool.and_false, Bool.false_and, Bool.or_true, Bool.true_or, Bool.or_false, Bool.false_or, Nat.reduceAdd, Nat.reduceSub, Nat.zero_add, Nat.sub_self, part_no, part_int, slc_lst, slc_tup, isNoE, isiV, isiOk, isiP, at_zero, at_1, at_2, at_3, k_rng1, k_rng1s, k_at, k_ats, k_at0, k_at1, k_set, k_app, k_app0, kc_nil, kc_cons, consO_some, consO_none, if_okP, Nx_nx, Ret_rt, Ret_nx, le_nil, le_none, le_some, and_true, true_and, sub_one, cast_s, decide_true, decide_false, cast_0, k_rng_1, k_rng_2, k_rng_3, k_rng_4, k_rng_5, k_rng_6, comp_1, comp_2, comp_3, comp_4, comp_5, comp_6, Int.cast_ofNat_Int, Int.reduceBEq, Int.reduceBNe, beq_self_eq_true, succ_ne0, Nat.lt_irrefl, rng_length, List.length_map, Option.some.injEq]
  · simp -implicitDefEqProofs (disch := omega) only [SR.fin_nx, SR.fin_rt, Ok_ok, ex_nx, R.bind_ok, R.st_ok, SR.next_nx, SR.next_rt, SR.next_bk, SR.next_ct, x_cnon, x_cbl, x_cint, x_cstr, x_var, x_bor, x_bin, x_neg, x_cmp, x_bop, x_bcons, x_not, x_ite, x_tup, x_lst, x_dct1, x_idx, x_slc, x_call, x_bi, x_isi, x_comp, x_nil, x_cons, x_c0, x_c1, x_seq, x_rng1, x_rng2, x_enu, x_keys, y_nil, y_cons, y_asg, y_setI, y_app, y_appPop, y_asgPop, y_ite, y_for, y_while, y_ret, y_retN, y_raise, y_pass, y_brk, y_cont, y_frz, y_exp, b_var, b_tup, b_lst, m_nil, m_cons, g_zero, g_succ, w_nil, w_cons, next_next, next_nil, forF_eq, boolK_nil, boolK_cons, bK_tt, bK_tf, bK_ft, bK_ff, bK_and, bK_or, iteV_bl, iteS_bl, notV_bl, negV_int, condV_bl, seqV_lst, seqV_tup, seqV_scr, enuV_lst, enuV_tup, keysV_dct, compF_eq, biP_1, biP_2, len_lst, len_tup, len_scr, int_int, int_bl, list_lst, list_tup, tuple_lst, tuple_tup, min_int, max_int, abs_int, c_eq, c_ne, c_lt, c_le, c_gt, c_ge, c_is, c_isnot, c_inn, c_notin, in_lst, in_tup, ix_lst, ix_tup, ix_scr, eq_int, eq_bl, eq_str, isNon_non, isNon_int, isNon_tup, isNon_lst, isNon_dct, isNon_bl, isNon_str, bin_add, bin_sub, bin_mod, bin_fdiv, List.set_cons_zero, List.set_cons_succ, List.length_cons, List.length_nil, List.map_cons, List.map_nil, List.cons_append, List.nil_append, List.replicate_succ, List.replicate_zero, ↓reduceIte, Bool.false_eq_true, Int.reduceLT, Int.reducePow, Int.reduceNeg, Int.reduceLE, Int.reduceAdd, Int.reduceSub, Int.reduceMul, Int.reduceMod, Int.reduceDiv, Bool.not_true, Bool.not_false, Bool.true_beq, Bool.false_beq, Bool.and_true, Bool.true_and, Bool.and_false, Bool.false_and, Bool.or_true, Bool.true_or, Bool.or_false, Bool.false_or, Nat.reduceAdd, Nat.reduceSub, Nat.zero_add, Nat.sub_self, part_no, part_int, slc_lst, slc_tup, isNoE, isiV, isiOk, isiP, at_zero, at_1, at_2, at_3, k_rng1, k_rng1s, k_at, k_ats, k_at0, k_at1, k_set, k_app, k_app0, kc_nil, kc_cons, consO_some, consO_none, if_okP, Nx_nx, Ret_rt, Ret_nx, le_nil, le_none, le_some, and_true, true_and, sub_one, cast_s, decide_true, decide_false, cast_0, k_rng_1, k_rng_2, k_rng_3, k_rng_4, k_rng_5, k_rng_6, comp_1, comp_2, comp_3, comp_4, comp_5, comp_6, Int.cast_ofNat_Int, Int.reduceBEq, Int.reduceBNe, beq_self_eq_true, succ_ne0, Nat.lt_irrefl, rng_length, List.length_map, Option.some.injEq]
    refine forR_L (fun k => [some (.scr ns), some (setV n F L t s), some X, some Y, some (.int (h : Int)), none, none, none]) ?_ (fun k hk => ?_) ?_
    · simp -implicitDefEqProofs (disch := omega) only [SR.fin_nx, SR.fin_rt, Ok_ok, ex_nx, R.bind_ok, R.st_ok, SR.next_nx, SR.next_rt, SR.next_bk, SR.next_ct, x_cnon, x_cbl, x_cint, x_cstr, x_var, x_bor, x_bin, x_neg, x_cmp, x_bop, x_bcons, x_not, x_ite, x_tup, x_lst, x_dct1, x_idx, x_slc, x_call, x_bi, x_isi, x_comp, x_nil, x_cons, x_c0, x_c1, x_seq, x_rng1, x_rng2, x_enu, x_keys, y_nil, y_cons, y_asg, y_setI, y_app, y_appPop, y_asgPop, y_ite, y_for, y_while, y_ret, y_retN, y_raise, y_pass, y_brk, y_cont, y_frz, y_exp, b_var, b_tup, b_lst, m_nil, m_cons, g_zero, g_succ, w_nil, w_cons, next_next, next_nil, forF_eq, boolK_nil, boolK_cons, bK_tt, bK_tf, bK_ft, bK_ff, bK_and, bK_or, iteV_bl, iteS_bl, notV_bl, negV_int, condV_bl, seqV_lst, seqV_tup, seqV_scr, enuV_lst, enuV_tup, keysV_dct, compF_eq, biP_1, biP_2, len_lst, len_tup, len_scr, int_int, int_bl, list_lst, list_tup, tuple_lst, tuple_tup, min_int, max_int, abs_int, c_eq, c_ne, c_lt, c_le, c_gt, c_ge, c_is, c_isnot, c_inn, c_notin, in_lst, in_tup, ix_lst, ix_tup, ix_scr, eq_int, eq_bl, eq_str, isNon_non, isNon_int, isNon_tup, isNon_lst, isNon_dct, isNon_bl, isNon_str, bin_add, bin_sub, bin_mod, bin_fdiv, List.set_cons_zero, List.set_cons_succ, List.length_cons, List.length_nil, List.map_cons, List.map_nil, List.cons_append, List.nil_append, List.replicate_succ, List.replicate_zero, ↓reduceIte, Bool.false_eq_true, Int.reduceLT, Int.reducePow, Int.reduceNeg, Int.reduceLE, Int.reduceAdd, Int.reduceSub, Int.reduceMul, Int.reduceMod, Int.reduceDiv, Bool.not_true, Bool.not_false, Bool.true_beq, Bool.false_beq, Bool.and_true, Bool.true_and, Bool.and_false, Bool.false_and, Bool.or_true, Bool.true_or, Bool.or_false, Bool.false_or, Nat.reduceAdd, Nat.reduceSub, Nat.zero_add, Nat.sub_self, part_no, part_int, slc_lst, slc_tup, isNoE, isiV, isiOk, isiP, at_zero, at_1, at_2, at_3, k_rng1, k_rng1s, k_at, k_ats, k_at0, k_at1, k_set, k_app, k_app0, kc_nil, kc_cons, consO_some, consO_none, if_okP, Nx_nx, Ret_rt, Ret_nx, le_nil, le_none, le_some, and_true, true_and, sub_one, cast_s, decide_true, decide_false, cast_0, k_rng_1, k_rng_2, k_rng_3, k_rng_4, k_rng_5, k_rng_6, comp_1, comp_2, comp_3, comp_4, comp_5, comp_6, Int.cast_ofNat_Int, Int.reduceBEq, Int.reduceBNe, beq_self_eq_true, succ_ne0, Nat.lt_irrefl, rng_length, List.length_map, Option.some.injEq]
    · simp -implicitDefEqProofs (disch := omega) only [SR.fin_nx, SR.fin_rt, Ok_ok, ex_nx, R.bind_ok, R.st_ok, SR.next_nx, SR.next_rt, SR.next_bk, SR.next_ct, x_cnon, x_cbl, x_cint, x_cstr, x_var, x_bor, x_bin, x_neg, x_cmp, x_bop, x_bcons, x_not, x_ite, x_tup, x_lst, x_dct1, x_idx, x_slc, x_call, x_bi, x_isi, x_comp, x_nil, x_cons, x_c0, x_c1, x_seq, x_rng1, x_rng2, x_enu, x_keys, y_nil, y_cons, y_asg, y_setI, y_app, y_appPop, y_asgPop, y_ite, y_for, y_while, y_ret, y_retN, y_raise, y_pass, y_brk, y_cont, y_frz, y_exp, b_var, b_tup, b_lst, m_nil, m_cons, g_zero, g_succ, w_nil, w_cons, next_next, next_nil, forF_eq, boolK_nil, boolK_cons, bK_tt, bK_tf, bK_ft, bK_ff, bK_and, bK_or, iteV_bl, iteS_bl, notV_bl, negV_int, condV_bl, seqV_lst, seqV_tup, seqV_scr, enuV_lst, enuV_tup, keysV_dct, compF_eq, biP_1, biP_2, len_lst, len_tup, len_scr, int_int, int_bl, list_lst, list_tup, tuple_lst, tuple_tup, min_int, max_int, abs_int, c_eq, c_ne, c_lt, c_le, c_gt, c_ge, c_is, c_isnot, c_inn, c_notin, in_lst, in_tup, ix_lst, ix_tup, ix_scr, eq_int, eq_bl, eq_str, isNon_non, isNon_int, isNon_tup, isNon_lst, isNon_dct, isNon_bl, isNon_str, bin_add, bin_sub, bin_mod, bin_fdiv, List.set_cons_zero, List.set_cons_succ, List.length_cons, List.length_nil, List.map_cons, List.map_nil, List.cons_append, List.nil_append, List.replicate_succ, List.replicate_zero, ↓reduceIte, Bool.false_eq_true, Int.reduceLT, Int.reducePow, Int.reduceNeg, Int.reduceLE, Int.reduceAdd, Int.reduceSub, Int.reduceMul, Int.reduceMod, Int.reduceDiv, Bool.not_true, Bool.not_false, Bool.true_beq, Bool.false_beq, Bool.and_true, Bool.true_and, Bool.and_false, Bool.false_and, Bool.or_true, Bool.true_or, Bool.or_false, Bool.false_or, Nat.reduceAdd, Nat.reduceSub, Nat.zero_add, Nat.sub_self, part_no, part_int, slc_lst, slc_tup, isNoE, isiV, isiOk, isiP, at_zero, at_1, at_2, at_3, k_rng1, k_rng1s, k_at, k_ats, k_at0, k_at1, k_set, k_app, k_app0, kc_nil, kc_cons, consO_some, consO_none, if_okP, Nx_nx, Ret_rt, Ret_nx, le_nil, le_none, le_some, and_true, true_and, sub_one, cast_s, decide_true, decide_false, cast_0, k_rng_1, k_rng_2, k_rng_3, k_rng_4, k_rng_5, k_rng_6, comp_1, comp_2, comp_3, comp_4, comp_5, comp_6, Int.cast_ofNat_Int, Int.reduceBEq, Int.reduceBNe, beq_self_eq_true, succ_ne0, Nat.lt_irrefl, rng_length, List.length_map, Option.some.injEq, s1]
      refine forR_L (fun o => [some (.scr ns), some (setV n F L t s), some X, some Y, some (.int (h : Int)), some (.int (k : Int)), none, none]) ?_ (fun o ho => ?_) ?_
      · simp -implicitDefEqProofs (disch := omega) only [SR.fin_nx, SR.fin_rt, Ok_ok, ex_nx, R.bind_ok, R.st_ok, SR.next_nx, SR.next_rt, SR.next_bk, SR.next_ct, x_cnon, x_cbl, x_cint, x_cstr, x_var, x_bor, x_bin, x_neg, x_cmp, x_bop, x_bcons, x_not, x_ite, x_tup, x_lst, x_dct1, x_idx, x_slc, x_call, x_bi, x_isi, x_comp, x_nil, x_cons, x_c0, x_c1, x_seq, x_rng1, x_rng2, x_enu, x_keys, y_nil, y_cons, y_asg, y_setI, y_app, y_appPop, y_asgPop, y_ite, y_for, y_while, y_ret, y_retN, y_raise, y_pass, y_brk, y_cont, y_frz, y_exp, b_var, b_tup, b_lst, m_nil, m_cons, g_zero, g_succ, w_nil, w_cons, next_next, next_nil, forF_eq, boolK_nil, boolK_cons, bK_tt, bK_tf, bK_ft, bK_ff, bK_and, bK_or, iteV_bl, iteS_bl, notV_bl, negV_int, condV_bl, seqV_lst, seqV_tup, seqV_scr, enuV_lst, enuV_tup, keysV_dct, compF_eq, biP_1, biP_2, len_lst, len_tup, len_scr, int_int, int_bl, list_lst, list_tup, tuple_lst, tuple_tup, min_int, max_int, abs_int, c_eq, c_ne, c_lt, c_le, c_gt, c_ge, c_is, c_isnot, c_inn, c_notin, in_lst, in_tup, ix_lst, ix_tup, ix_scr, eq_int, eq_bl, eq_str, isNon_non, isNon_int, isNon_tup, isNon_lst, isNon_dct, isNon_bl, isNon_str, bin_add, bin_sub, bin_mod, bin_fdiv, List.set_cons_zero, List.set_cons_succ, List.length_cons, List.length_nil, List.map_cons, List.map_nil, List.cons_append, List.nil_append, List.replicate_succ, List.replicate_zero, ↓reduceIte, Bool.false_eq_true, Int.reduceLT, Int.reducePow, Int.reduceNeg, Int.reduceLE, Int.reduceAdd, Int.reduceSub, Int.reduceMul, Int.reduceMod, Int.reduceDiv, Bool.not_true, Bool.not_false, Bool.true_beq, Bool.false_beq, Bool.and_true, Bool.true_and, Bool.and_false, Bool.false_and, Bool.or_true, Bool.true_or, Bool.or_false, Bool.false_or, Nat.reduceAdd, Nat.reduceSub, Nat.zero_add, Nat.sub_self, part_no, part_int, slc_lst, slc_tup, isNoE, isiV, isiOk, isiP, at_zero, at_1, at_2, at_3, k_rng1, k_rng1s, k_at, k_ats, k_at0, k_at1, k_set, k_app, k_app0, kc_nil, kc_cons, consO_some, consO_none, if_okP, Nx_nx, Ret_rt, Ret_nx, le_nil, le_none, le_some, and_true, true_and, sub_one, cast_s, decide_true, decide_false, cast_0, k_rng_1, k_rng_2, k_rng_3, k_rng_4, k_rng_5, k_rng_6, comp_1, comp_2, comp_3, comp_4, comp_5, comp_6, Int.cast_ofNat_Int, Int.reduceBEq, Int.reduceBNe, beq_self_eq_true, succ_ne0, Nat.lt_irrefl, rng_length, List.length_map, Option.some.injEq]
      · obtain ⟨B, f, hf, x1, y1⟩ := XY k hk
        cases d : decide (o = h) with
        | true => simp -implicitDefEqProofs (disch := omega) only [SR.fin_nx, SR.fin_rt, Ok_ok, ex_nx, R.bind_ok, R.st_ok, SR.next_nx, SR.next_rt, SR.next_bk, SR.next_ct, x_cnon, x_cbl, x_cint, x_cstr, x_var, x_bor, x_bin, x_neg, x_cmp, x_bop, x_bcons, x_not, x_ite, x_tup, x_lst, x_dct1, x_idx, x_slc, x_call, x_bi, x_isi, x_comp, x_nil, x_cons, x_c0, x_c1, x_seq, x_rng1, x_rng2, x_enu, x_keys, y_nil, y_cons, y_asg, y_setI, y_app, y_appPop, y_asgPop, y_ite, y_for, y_while, y_ret, y_retN, y_raise, y_pass, y_brk, y_cont, y_frz, y_exp, b_var, b_tup, b_lst, m_nil, m_cons, g_zero, g_succ, w_nil, w_cons, next_next, next_nil, forF_eq, boolK_nil, boolK_cons, bK_tt, bK_tf, bK_ft, bK_ff, bK_and, bK_or, iteV_bl, iteS_bl, notV_bl, negV_int, condV_bl, seqV_lst, seqV_tup, seqV_scr, enuV_lst, enuV_tup, keysV_dct, compF_eq, biP_1, biP_2, len_lst, len_tup, len_scr, int_int, int_bl, list_lst, list_tup, tuple_lst, tuple_tup, min_int, max_int, abs_int, c_eq, c_ne, c_lt, c_le, c_gt, c_ge, c_is, c_isnot, c_inn, c_notin, in_lst, in_tup, ix_lst, ix_tup, ix_scr, eq_int, eq_bl, eq_str, isNon_non, isNon_int, isNon_tup, isNon_lst, isNon_dct, isNon_bl, isNon_str, bin_add, bin_sub, bin_mod, bin_fdiv, List.set_cons_zero, List.set_cons_succ, List.length_cons, List.length_nil, List.map_cons, List.map_nil, List.cons_append, List.nil_append, List.replicate_succ, List.replicate_zero, ↓reduceIte, Bool.false_eq_true, Int.reduceLT, Int.reducePow, Int.reduceNeg, Int.reduceLE, Int.reduceAdd, Int.reduceSub, Int.reduceMul, Int.reduceMod, Int.reduceDiv, Bool.not_true, Bool.not_false, Bool.true_beq, Bool.false_beq, Bool.and_true, Bool.true_and, Bool.and_false, Bool.false_and, Bool.or_true, Bool.true_or, Bool.or_false, Bool.false_or, Nat.reduceAdd, Nat.reduceSub, Nat.zero_add, Nat.sub_self, part_no, part_int, slc_lst, slc_tup, isNoE, isiV, isiOk, isiP, at_zero, at_1, at_2, at_3, k_rng1, k_rng1s, k_at, k_ats, k_at0, k_at1, k_set, k_app, k_app0, kc_nil, kc_cons, consO_some, consO_none, if_okP, Nx_nx, Ret_rt, Ret_nx, le_nil, le_none, le_some, and_true, true_and, sub_one, cast_s, decide_true, decide_false, cast_0, k_rng_1, k_rng_2, k_rng_3, k_rng_4, k_rng_5, k_rng_6, comp_1, comp_2, comp_3, comp_4, comp_5, comp_6, Int.cast_ofNat_Int, Int.reduceBEq, Int.reduceBNe, beq_self_eq_true, succ_ne0, Nat.lt_irrefl, rng_length, List.length_map, Option.some.injEq, int_beq, d]
        | false => simp -implicitDefEqProofs (disch := omega) only [SR.fin_nx, SR.fin_rt, Ok_ok, ex_nx, R.bind_ok, R.st_ok, SR.next_nx, SR.next_rt, SR.next_bk, SR.next_ct, x_cnon, x_cbl, x_cint, x_cstr, x_var, x_bor, x_bin, x_neg, x_cmp, x_bop, x_bcons, x_not, x_ite, x_tup, x_lst, x_dct1, x_idx, x_slc, x_call, x_bi, x_isi, x_comp, x_nil, x_cons, x_c0, x_c1, x_seq, x_rng1, x_rng2, x_enu, x_keys, y_nil, y_cons, y_asg, y_setI, y_app, y_appPop, y_asgPop, y_ite, y_for, y_while, y_ret, y_retN, y_raise, y_pass, y_brk, y_cont, y_frz, y_exp, b_var, b_tup, b_lst, m_nil, m_cons, g_zero, g_succ, w_nil, w_cons, next_next, next_nil, forF_eq, boolK_nil, boolK_cons, bK_tt, bK_tf, bK_ft, bK_ff, bK_and, bK_or, iteV_bl, iteS_bl, notV_bl, negV_int, condV_bl, seqV_lst, seqV_tup, seqV_scr, enuV_lst, enuV_tup, keysV_dct, compF_eq, biP_1, biP_2, len_lst, len_tup, len_scr, int_int, int_bl, list_lst, list_tup, tuple_lst, tuple_tup, min_int, max_int, abs_int, c_eq, c_ne, c_lt, c_le, c_gt, c_ge, c_is, c_isnot, c_inn, c_notin, in_lst, in_tup, ix_lst, ix_tup, ix_scr, eq_int, eq_bl, eq_str, isNon_non, isNon_int, isNon_tup, isNon_lst, isNon_dct, isNon_bl, isNon_str, bin_add, bin_sub, bin_mod, bin_fdiv, List.set_cons_zero, List.set_cons_succ, List.length_cons, List.length_nil, List.map_cons, List.map_nil, List.cons_append, List.nil_append, List.replicate_succ, List.replicate_zero, ↓reduceIte, Bool.false_eq_true, Int.reduceLT, Int.reducePow, Int.reduceNeg, Int.reduceLE, Int.reduceAdd, Int.reduceSub, Int.reduceMul, Int.reduceMod, Int.reduceDiv, Bool.not_true, Bool.not_false, Bool.true_beq, Bool.false_beq, Bool.and_true, Bool.true_and, Bool.and_false, Bool.false_and, Bool.or_true, Bool.true_or, Bool.or_false, Bool.false_or, Nat.reduceAdd, Nat.reduceSub, Nat.zero_add, Nat.sub_self, part_no, part_int, slc_lst, slc_tup, isNoE, isiV, isiOk, isiP, at_zero, at_1, at_2, at_3, k_rng1, k_rng1s, k_at, k_ats, k_at0, k_at1, k_set, k_app, k_app0, kc_nil, kc_cons, consO_some, consO_none, if_okP, Nx_nx, Ret_rt, Ret_nx, le_nil, le_none, le_some, and_true, true_and, sub_one, cast_s, decide_true, decide_false, cast_0, k_rng_1, k_rng_2, k_rng_3, k_rng_4, k_rng_5, k_rng_6, comp_1, comp_2, comp_3, comp_4, comp_5, comp_6, Int.cast_ofNat_Int, Int.reduceBEq, Int.reduceBNe, beq_self_eq_true, succ_ne0, Nat.lt_irrefl, rng_length, List.length_map, Option.some.injEq, int_beq, d, x1, y1, c_entries 0 n L hn5 hL5 B f hf h o hh ho (of_decide_eq_false d)]
      · simp -implicitDefEqProofs (disch := omega) only [SR.fin_nx, SR.fin_rt, Ok_ok, ex_nx, R.bind_ok, R.st_ok, SR.next_nx, SR.next_rt, SR.next_bk, SR.next_ct, x_cnon, x_cbl, x_cint, x_cstr, x_var, x_bor, x_bin, x_neg, x_cmp, x_bop, x_bcons, x_not, x_ite, x_tup, x_lst, x_dct1, x_idx, x_slc, x_call, x_bi, x_isi, x_comp, x_nil, x_cons, x_c0, x_c1, x_seq, x_rng1, x_rng2, x_enu, x_keys, y_nil, y_cons, y_asg, y_setI, y_app, y_appPop, y_asgPop, y_ite, y_for, y_while, y_ret, y_retN, y_raise, y_pass, y_brk, y_cont, y_frz, y_exp, b_var, b_tup, b_lst, m_nil, m_cons, g_zero, g_succ, w_nil, w_cons, next_next, next_nil, forF_eq, boolK_nil, boolK_cons, bK_tt, bK_tf, bK_ft, bK_ff, bK_and, bK_or, iteV_bl, iteS_bl, notV_bl, negV_int, condV_bl, seqV_lst, seqV_tup, seqV_scr, enuV_lst, enuV_tup, keysV_dct, compF_eq, biP_1, biP_2, len_lst, len_tup, len_scr, int_int, int_bl, list_lst, list_tup, tuple_lst, tuple_tup, min_int, max_int, abs_int, c_eq, c_ne, c_lt, c_le, c_gt, c_ge, c_is, c_isnot, c_inn, c_notin, in_lst, in_tup, ix_lst, ix_tup, ix_scr, eq_int, eq_bl, eq_str, isNon_non, isNon_int, isNon_tup, isNon_lst, isNon_dct, isNon_bl, isNon_str, bin_add, bin_sub, bin_mod, bin_fdiv, List.set_cons_zero, List.set_cons_succ, List.length_cons, List.length_nil, List.map_cons, List.map_nil, List.cons_append, List.nil_append, List.replicate_succ, List.replicate_zero, ↓reduceIte, Bool.false_eq_true, Int.reduceLT, Int.reducePow, Int.reduceNeg, Int.reduceLE, Int.reduceAdd, Int.reduceSub, Int.reduceMul, Int.reduceMod, Int.reduceDiv, Bool.not_true, Bool.not_false, Bool.true_beq, Bool.false_beq, Bool.and_true, Bool.true_and, Bool.and_false, Bool.false_and, Bool.or_true, Bool.true_or, Bool.or_false, Bool.false_or, Nat.reduceAdd, Nat.reduceSub, Nat.zero_add, Nat.sub_self, part_no, part_int, slc_lst, slc_tup, isNoE, isiV, isiOk, isiP, at_zero, at_1, at_2, at_3, k_rng1, k_rng1s, k_at, k_ats, k_at0, k_at1, k_set, k_app, k_app0, kc_nil, kc_cons, consO_some, consO_none, if_okP, Nx_nx, Ret_rt, Ret_nx, le_nil, le_none, le_some, and_true, true_and, sub_one, cast_s, decide_true, decide_false, cast_0, k_rng_1, k_rng_2, k_rng_3, k_rng_4, k_rng_5, k_rng_6, comp_1, comp_2, comp_3, comp_4, comp_5, comp_6, Int.cast_ofNat_Int, Int.reduceBEq, Int.reduceBNe, beq_self_eq_true, succ_ne0, Nat.lt_irrefl, rng_length, List.length_map, Option.some.injEq]
    · simp -implicitDefEqProofs (disch := omega) only [SR.fin_nx, SR.fin_rt, Ok_ok, ex_nx, R.bind_ok, R.st_ok, SR.next_nx, SR.next_rt, SR.next_bk, SR.next_ct, x_cnon, x_cbl, x_cint, x_cstr, x_var, x_bor, x_bin, x_neg, x_cmp, x_bop, x_bcons, x_not, x_ite, x_tup, x_lst, x_dct1, x_idx, x_slc, x_call, x_bi, x_isi, x_comp, x_nil, x_cons, x_c0, x_c1, x_seq, x_rng1, x_rng2, x_enu, x_keys, y_nil, y_cons, y_asg, y_setI, y_app, y_appPop, y_asgPop, y_ite, y_for, y_while, y_ret, y_retN, y_raise, y_pass, y_brk, y_cont, y_frz, y_exp, b_var, b_tup, b_lst, m_nil, m_cons, g_zero, g_succ, w_nil, w_cons, next_next, next_nil, forF_eq, boolK_nil, boolK_cons, bK_tt, bK_tf, bK_ft, bK_ff, bK_and, bK_or, iteV_bl, iteS_bl, notV_bl, negV_int, condV_bl, seqV_lst, seqV_tup, seqV_scr, enuV_lst, enuV_tup, keysV_dct, compF_eq, biP_1, biP_2, len_lst, len_tup, len_scr, int_int, int_bl, list_lst, list_tup, tuple_lst, tuple_tup, min_int, max_int, abs_int, c_eq, c_ne, c_lt, c_le, c_gt, c_ge, c_is, c_isnot, c_inn, c_notin, in_lst, in_tup, ix_lst, ix_tup, ix_scr, eq_int, eq_bl, eq_str, isNon_non, isNon_int, isNon_tup, isNon_lst, isNon_dct, isNon_bl, isNon_str, bin_add, bin_sub, bin_mod, bin_fdiv, List.set_cons_zero, List.set_cons_succ, List.length_cons, List.length_nil, List.map_cons, List.map_nil, List.cons_append, List.nil_append, List.replicate_succ, List.replicate_zero, ↓reduceIte, Bool.false_eq_true, Int.reduceLT, Int.reducePow, Int.reduceNeg, Int.reduceLE, Int.reduceAdd, Int.reduceSub, Int.reduceMul, Int.reduceMod, Int.reduceDiv, Bool.not_true, Bool.not_false, Bool.true_beq, Bool.false_beq, Bool.and_true, Bool.true_and, Bool.and_false, Bool.false_and, Bool.or_true, Bool.true_or, Bool.or_false, Bool.false_or, Nat.reduceAdd, Nat.reduceSub, Nat.zero_add, Nat.sub_self, part_no, part_int, slc_lst, slc_tup, isNoE, isiV, isiOk, isiP, at_zero, at_1, at_2, at_3, k_rng1, k_rng1s, k_at, k_ats, k_at0, k_at1, k_set, k_app, k_app0, kc_nil, kc_cons, consO_some, consO_none, if_okP, Nx_nx, Ret_rt, Ret_nx, le_nil, le_none, le_some, and_true, true_and, sub_one, cast_s, decide_true, decide_false, cast_0, k_rng_1, k_rng_2, k_rng_3, k_rng_4, k_rng_5, k_rng_6, comp_1, comp_2, comp_3, comp_4, comp_5, comp_6, Int.cast_ofNat_Int, Int.reduceBEq, Int.reduceBNe, beq_self_eq_true, succ_ne0, Nat.lt_irrefl, rng_length, List.length_map, Option.some.injEq]
  · simp -implicitDefEqProofs (disch := omega) only [SR.fin_nx, SR.fin_rt, Ok_ok, ex_nx, R.bind_ok, R.st_ok, SR.next_nx, SR.next_rt, SR.next_bk, SR.next_ct, x_cnon, x_cbl, x_cint, x_cstr, x_var, x_bor, x_bin, x_neg, x_cmp, x_bop, x_bcons, x_not, x_ite, x_tup, x_lst, x_dct1, x_idx, x_slc, x_call, x_bi, x_isi, x_comp, x_nil, x_cons, x_c0, x_c1, x_seq, x_rng1, x_rng2, x_enu, x_keys, y_nil, y_cons, y_asg, y_setI, y_app, y_appPop, y_asgPop, y_ite, y_for, y_while, y_ret, y_retN, y_raise, y_pass, y_brk, y_cont, y_frz, y_exp, b_var, b_tup, b_lst, m_nil, m_cons, g_zero, g_succ, w_nil, w_cons, next_next, next_nil, forF_eq, boolK_nil, boolK_cons, bK_tt, bK_tf, bK_ft, bK_ff, bK_and, bK_or, iteV_bl, iteS_bl, notV_bl, negV_int, condV_bl, seqV_lst, seqV_tup, seqV_scr, enuV_lst, enuV_tup, keysV_dct, compF_eq, biP_1, biP_2, len_lst, len_tup, len_scr, int_int, int_bl, list_lst, list_tup, tuple_lst, tuple_tup, min_int, max_int, abs_int, c_eq, c_ne, c_lt, c_le, c_gt, c_ge, c_is, c_isnot, c_inn, c_notin, in_lst, in_tup, ix_lst, ix_tup, ix_scr, eq_int, eq_bl, eq_str, isNon_non, isNon_int, isNon_tup, isNon_lst, isNon_dct, isNon_bl, isNon_str, bin_add, bin_sub, bin_mod, bin_fdiv, List.set_cons_zero, List.set_cons_succ, List.length_cons, List.length_nil, List.map_cons, List.map_nil, List.cons_append, List.nil_append, List.replicate_succ, List.replicate_zero, ↓reduceIte, Bool.false_eq_true, Int.reduceLT, Int.reducePow, Int.reduceNeg, Int.reduceLE, Int.reduceAdd, Int.reduceSub, Int.reduceMul, Int.reduceMod, Int.reduceDiv, Bool.not_true, Bool.not_false, Bool.true_beq, Bool.false_beq, Bool.and_true, Bool.true_and, Bool.and_false, Bool.false_and, Bool.or_true, Bool.true_or, Bool.or_false, Bool.false_or, Nat.reduceAdd, Nat.reduceSub, Nat.zero_add, Nat.sub_self, part_no, part_int, slc_lst, slc_tup, isNoE, isiV, isiOk, isiP, at_zero, at_1, at_2, at_3, k_rng1, k_rng1s, k_at, k_ats, k_at0, k_at1, k_set, k_app, k_app0, kc_nil, kc_cons, consO_some, consO_none, if_okP, Nx_nx, Ret_rt, Ret_nx, le_nil, le_none, le_some, and_true, true_and, sub_one, cast_s, decide_true, decide_false, cast_0, k_rng_1, k_rng_2, k_rng_3, k_rng_4, k_rng_5, k_rng_6, comp_1, comp_2, comp_3, comp_4, comp_5, comp_6, Int.cast_ofNat_Int, Int.reduceBEq, Int.reduceBNe, beq_self_eq_true, succ_ne0, Nat.lt_irrefl, rng_length, List.length_map, Option.some.injEq]
theorem holds (ns : List Int) (h : ns.length ≤ 63) : fnsOf tab 100 8 29 [.scr ns] = .ok (.bl true) := c_law ns
end K86

namespace K86
open PySem PySem.Spec PyProof.Rows L2 PY
def stAt (i : Nat) : Stmt := PySem.Challenge.pw_whywait_k86_entries.main.body.getD i (.Pass ⟨0, 0, 0, 0⟩)
abbrev s0 : Stmt := stAt 1
abbrev s1 : Stmt := stAt 2
abbrev s2 : Stmt := stAt 7
abbrev s3 : Stmt := stAt 8
abbrev s4 : Stmt := stAt 9
abbrev s5 : Stmt := stAt 10
abbrev s6 : Stmt := stAt 11
abbrev s7 : Stmt := stAt 13
abbrev s8 : Stmt := stAt 14
abbrev s9 : Stmt := stAt 15
abbrev s10 : Stmt := stAt 16
abbrev s11 : Stmt := stAt 17
abbrev s12 : Stmt := stAt 19
abbrev s13 : Stmt := stAt 20
abbrev s14 : Stmt := stAt 21
abbrev s15 : Stmt := stAt 22
abbrev s16 : Stmt := stAt 23
abbrev s17 : Stmt := stAt 24
abbrev s18 : Stmt := stAt 25
abbrev s19 : Stmt := stAt 26
abbrev s20 : Stmt := stAt 27
abbrev s21 : Stmt := stAt 28
abbrev s22 : Stmt := stAt 29
abbrev s23 : Stmt := stAt 30
abbrev s24 : Stmt := stAt 31
abbrev s25 : Stmt := stAt 32
abbrev s26 : Stmt := stAt 33
abbrev s27 : Stmt := stAt 34
abbrev s28 : Stmt := stAt 35
abbrev s29 : Stmt := stAt 36
def sts : List Stmt := [s0, s1, s2, s3, s4, s5, s6, s7, s8, s9, s10, s11, s12, s13, s14, s15, s16, s17, s18, s19, s20, s21, s22, s23, s24, s25, s26, s27, s28, s29]
theorem ckAll : cksOk tab tab sts = true := by decide +kernel
theorem bindAll : BindsOk tab sts := ⟨fun _ _ _ _ _ _ us hl => match us, hl with | [_, _], _ => rfl,
  fun _ _ _ _ _ _ us hl => match us, hl with | [_, _], _ => rfl,
  fun _ _ _ _ _ _ us hl => match us, hl with | [_, _], _ => rfl,
  fun _ _ _ _ _ _ us hl => match us, hl with | [_, _, _, _], _ => rfl,
  fun _ _ _ _ _ _ us hl => match us, hl with | [_, _, _, _, _], _ => rfl,
  fun _ _ _ _ _ _ us hl => match us, hl with | [_, _, _, _], _ => rfl,
  fun _ _ _ _ _ _ us hl => match us, hl with | [_, _, _, _], _ => rfl,
  fun _ _ _ _ _ _ us hl => match us, hl with | [_, _, _], _ => rfl,
  fun _ _ _ _ _ _ us hl => match us, hl with | [_, _], _ => rfl,
  fun _ _ _ _ _ _ us hl => match us, hl with | [_, _, _, _, _], _ => rfl,
  fun _ _ _ _ _ _ us hl => match us, hl with | [_, _, _], _ => rfl,
  fun _ _ _ _ _ _ us hl => match us, hl with | [_, _, _, _], _ => rfl,
  fun _ _ _ _ _ _ us hl => match us, hl with | [_], _ => rfl,
  fun _ _ _ _ _ _ us hl => match us, hl with | [_, _], _ => rfl,
  fun _ _ _ _ _ _ us hl => match us, hl with | [_, _], _ => rfl,
  fun _ _ _ _ _ _ us hl => match us, hl with | [_], _ => rfl,
  fun _ _ _ _ _ _ us hl => match us, hl with | [_, _], _ => rfl,
  fun _ _ _ _ _ _ us hl => match us, hl with | [_, _], _ => rfl,
  fun _ _ _ _ _ _ us hl => match us, hl with | [_], _ => rfl,
  fun _ _ _ _ _ _ us hl => match us, hl with | [_, _, _, _], _ => rfl,
  fun _ _ _ _ _ _ us hl => match us, hl with | [_, _], _ => rfl,
  fun _ _ _ _ _ _ us hl => match us, hl with | [_, _], _ => rfl,
  fun _ _ _ _ _ _ us hl => match us, hl with | [_, _], _ => rfl,
  fun _ _ _ _ _ _ us hl => match us, hl with | [_], _ => rfl,
  fun _ _ _ _ _ _ us hl => match us, hl with | [], _ => rfl,
  fun _ _ _ _ _ _ us hl => match us, hl with | [_, _, _], _ => rfl,
  fun _ _ _ _ _ _ us hl => match us, hl with | [_, _, _], _ => rfl,
  fun _ _ _ _ _ _ us hl => match us, hl with | [_, _, _, _], _ => rfl,
  fun _ _ _ _ _ _ us hl => match us, hl with | [_, _, _, _], _ => rfl,
  fun _ _ _ _ _ _ us hl => match us, hl with | [_], _ => rfl, trivial⟩
end K86
open PySem PySem.W PyProof.Rows
set_option maxHeartbeats 0 in
theorem PySem.Challenge.cw_whywait_k86_entries_holds : PySem.Challenge.rw_whywait_k86_entries.Holds := by
  w_on; o_law; k_head; (case hw => w_witness2)
  k_fill
  refine L2.walk_of (l := PySem.Challenge.rw_whywait_k86_entries) (n := 63) (k := 8) (x := "script") (CX := fun _ => L2.CX0) (sp := fun w => PY.spLaw _) rfl (by decide) rfl ⟨rfl, by decide, by decide⟩ (fun w h Y => PySem.W.kIn_of Y) ?F (fun _ _ a ns hl _ hS => ⟨a, ns, rfl, hS, hl, fun _ => rfl⟩) (fun _ _ _ _ _ h => h)
  case F =>
    intro w mg fa h KX G hmg
    refine' PY.law_end K86.sts KX G hmg 8 29 K86.d29 rfl rfl rfl rfl rfl K86.ckAll K86.bindAll ?hD ?hz K86.holds
    case hD =>
      refine' And.intro (PY.defAt_mk ?a ?l ?c ?k) ?r0; (case a => k_is); (case l => k_is); (case c => k_is); (case k => k_is)
      refine' And.intro (PY.defAt_mk ?a ?l ?c ?k) ?r1; (case a => k_is); (case l => k_is); (case c => k_is); (case k => k_is)
      refine' And.intro (PY.defAt_mk ?a ?l ?c ?k) ?r2; (case a => k_is); (case l => k_is); (case c => k_is); (case k => k_is)
      refine' And.intro (PY.defAt_mk ?a ?l ?c ?k) ?r3; (case a => k_is); (case l => k_is); (case c => k_is); (case k => k_is)
      refine' And.intro (PY.defAt_mk ?a ?l ?c ?k) ?r4; (case a => k_is); (case l => k_is); (case c => k_is); (case k => k_is)
      refine' And.intro (PY.defAt_mk ?a ?l ?c ?k) ?r5; (case a => k_is); (case l => k_is); (case c => k_is); (case k => k_is)
      refine' And.intro (PY.defAt_mk ?a ?l ?c ?k) ?r6; (case a => k_is); (case l => k_is); (case c => k_is); (case k => k_is)
      refine' And.intro (PY.defAt_mk ?a ?l ?c ?k) ?r7; (case a => k_is); (case l => k_is); (case c => k_is); (case k => k_is)
      refine' And.intro (PY.defAt_mk ?a ?l ?c ?k) ?r8; (case a => k_is); (case l => k_is); (case c => k_is); (case k => k_is)
      refine' And.intro (PY.defAt_mk ?a ?l ?c ?k) ?r9; (case a => k_is); (case l => k_is); (case c => k_is); (case k => k_is)
      refine' And.intro (PY.defAt_mk ?a ?l ?c ?k) ?r10; (case a => k_is); (case l => k_is); (case c => k_is); (case k => k_is)
      refine' And.intro (PY.defAt_mk ?a ?l ?c ?k) ?r11; (case a => k_is); (case l => k_is); (case c => k_is); (case k => k_is)
      refine' And.intro (PY.defAt_mk ?a ?l ?c ?k) ?r12; (case a => k_is); (case l => k_is); (case c => k_is); (case k => k_is)
      refine' And.intro (PY.defAt_mk ?a ?l ?c ?k) ?r13; (case a => k_is); (case l => k_is); (case c => k_is); (case k => k_is)
      refine' And.intro (PY.defAt_mk ?a ?l ?c ?k) ?r14; (case a => k_is); (case l => k_is); (case c => k_is); (case k => k_is)
      refine' And.intro (PY.defAt_mk ?a ?l ?c ?k) ?r15; (case a => k_is); (case l => k_is); (case c => k_is); (case k => k_is)
      refine' And.intro (PY.defAt_mk ?a ?l ?c ?k) ?r16; (case a => k_is); (case l => k_is); (case c => k_is); (case k => k_is)
      refine' And.intro (PY.defAt_mk ?a ?l ?c ?k) ?r17; (case a => k_is); (case l => k_is); (case c => k_is); (case k => k_is)
      refine' And.intro (PY.defAt_mk ?a ?l ?c ?k) ?r18; (case a => k_is); (case l => k_is); (case c => k_is); (case k => k_is)
      refine' And.intro (PY.defAt_mk ?a ?l ?c ?k) ?r19; (case a => k_is); (case l => k_is); (case c => k_is); (case k => k_is)
      refine' And.intro (PY.defAt_mk ?a ?l ?c ?k) ?r20; (case a => k_is); (case l => k_is); (case c => k_is); (case k => k_is)
      refine' And.intro (PY.defAt_mk ?a ?l ?c ?k) ?r21; (case a => k_is); (case l => k_is); (case c => k_is); (case k => k_is)
      refine' And.intro (PY.defAt_mk ?a ?l ?c ?k) ?r22; (case a => k_is); (case l => k_is); (case c => k_is); (case k => k_is)
      refine' And.intro (PY.defAt_mk ?a ?l ?c ?k) ?r23; (case a => k_is); (case l => k_is); (case c => k_is); (case k => k_is)
      refine' And.intro (PY.defAt_mk ?a ?l ?c ?k) ?r24; (case a => k_is); (case l => k_is); (case c => k_is); (case k => k_is)
      refine' And.intro (PY.defAt_mk ?a ?l ?c ?k) ?r25; (case a => k_is); (case l => k_is); (case c => k_is); (case k => k_is)
      refine' And.intro (PY.defAt_mk ?a ?l ?c ?k) ?r26; (case a => k_is); (case l => k_is); (case c => k_is); (case k => k_is)
      refine' And.intro (PY.defAt_mk ?a ?l ?c ?k) ?r27; (case a => k_is); (case l => k_is); (case c => k_is); (case k => k_is)
      refine' And.intro (PY.defAt_mk ?a ?l ?c ?k) ?r28; (case a => k_is); (case l => k_is); (case c => k_is); (case k => k_is)
      refine' And.intro (PY.defAt_mk ?a ?l ?c ?k) ?r29; (case a => k_is); (case l => k_is); (case c => k_is); (case k => k_is)
      exact trivial
    case hz =>
      intro x hx
      simp only [PY.bltNames, List.mem_cons, List.not_mem_nil, or_false] at hx
      rcases hx with rfl | rfl | rfl | rfl | rfl | rfl | rfl | rfl | rfl | rfl | rfl | rfl <;> k_is
