import PyProof.Rows.All
import Wide.All
import OpenK.AllK
import Wide.FinOn
import KE.KStateDown
import Lean
import HandS.CallSlots
import HandS.Codes
import HandS.Conv
import HandS.Deep
import HandS.ExcOwn
import HandS.Flow
import HandS.Flt
import HandS.ForMost
import HandS.Head0
import HandS.Head1
import HandS.Head2
import HandS.HeadEnd
import HandS.HeadHook1
import HandS.HeadHook2
import HandS.IsInst
import HandS.SetFor
import HandS.SortInts
import HandS.Strs
import HandS.Style
import HandS.TryMany
import HandS.TryOnly
import HandS.TupAny
import HandS.TupMul
import HandS.TupSets
import HandS.Walk
import HandS.Zip
import KE.SortData
import PySem.Challenge.RW_placeround_k13_whole_kinds
set_option Elab.async false
set_option linter.all false
set_option maxRecDepth 100000
set_option maxHeartbeats 0
set_option autoImplicit false
/-! Pv1: plain values, the code type, its evaluation. -/
namespace Pv
open PySem

abbrev D := PyData
/-- what an owned slot holds -/
inductive OV where
  | lst (xs : List D) | dk (kvs : List (L2.Key × D)) | dt (kvs : List (List L2.Key × D))
/-- a value at a name -/
inductive Vv where
  | d (x : D) | scr (ns : List Int) | obj (k : Nat) | fn (f : Str)
inductive Slot where
  | non | val (v : Vv) | own (o : OV)
/-- a result: a frozen value, a new list of nobody's, a borrowed slot -/
inductive RV where
  | v (x : Vv) | fr (o : OV) | bo (i : Nat) (o : OV)
structure Ob where
  cls : Str
  fs : List (Str × Slot)
abbrev Sto := List Ob
abbrev Env := List Slot
inductive Out (α : Type) where
  | ok (a : α) (t : Sto) | exc (x : Str) (t : Sto) | stuck
def M (α : Type) := Sto → Out α
section
variable {α β γ : Type}
def ret (a : α) : M α := fun t => .ok a t
def raise (x : Str) : M α := fun t => .exc x t
def stk : M α := fun _ => .stuck
def bnd (m : M α) (f : α → M β) : M β := fun t => match m t with
  | .ok a t' => f a t'
  | .exc x t' => .exc x t'
  | .stuck => .stuck
@[simp] theorem bnd_ret (a : α) (f : α → M β) : bnd (ret a) f = f a := rfl
@[simp] theorem bnd_raise (x : Str) (f : α → M β) : bnd (raise x) f = raise x := rfl
@[simp] theorem bnd_stk (f : α → M β) : bnd stk f = stk := rfl
theorem bnd_assoc (m : M α) (f : α → M β) (g : β → M γ) : bnd (bnd m f) g = bnd m fun a => bnd (f a) g := by
  funext t
  simp only [bnd]
  cases m t <;> rfl
theorem bnd_ite (c : Prop) [Decidable c] (a b : M α) (f : α → M β) : bnd (if c then a else b) f = if c then bnd a f else bnd b f := by
  split <;> rfl
/-- where nothing may be raised -/
def noX (m : M α) : M α := fun t => match m t with
  | .ok a t' => .ok a t'
  | _ => .stuck
@[simp] theorem noX_ret (a : α) : noX (ret a) = ret a := rfl
theorem noX_ite (c : Prop) [Decidable c] (a b : M α) : noX (if c then a else b) = if c then noX a else noX b := by
  split <;> rfl
def guard (b : Bool) (m : M α) : M α := if b = true then m else stk
@[simp] theorem guard_true (m : M α) : guard true m = m := rfl
theorem guard_of {b : Bool} (m : M α) (h : b = true) : guard b m = m := by subst h; rfl
end

/-! ### values -/
abbrev rd (x : D) : RV := .v (.d x)
@[simp] def RV.dat : RV → Option D
  | .v (.d x) => some x
  | .fr (.lst xs) => some (.list xs)
  | .bo _ (.lst xs) => some (.list xs)
  | _ => none
section
variable {α : Type}
def asD (r : RV) (f : D → M α) : M α := match r.dat with
  | some x => f x
  | none => stk
@[simp] theorem asD_v (x : D) (f : D → M α) : asD (.v (.d x)) f = f x := rfl
@[simp] theorem asD_fr (xs : List D) (f : D → M α) : asD (.fr (.lst xs)) f = f (.list xs) := rfl
@[simp] theorem asD_bo (i : Nat) (xs : List D) (f : D → M α) : asD (.bo i (.lst xs)) f = f (.list xs) := rfl
end
/-- to be kept: frozen -/
@[simp] def keepV : RV → M Vv
  | .v x => ret x
  | .fr (.lst xs) => ret (.d (.list xs))
  | _ => stk
@[simp] def keepD (r : RV) : M D := bnd (keepV r) fun
  | .d x => ret x
  | _ => stk

/-- frozen where it was new -/
@[simp] def frzM : RV → M RV
  | .fr (.lst xs) => ret (.v (.d (.list xs)))
  | .fr _ => stk
  | r => ret r

/-! ### operators -/
inductive BOp where
  | add | sub | mul | fdiv | mod | pow
  deriving DecidableEq
inductive COp where
  | eq | ne | lt | le | gt | ge | is_ | isnot | in_ | notin
  deriving DecidableEq
def smallI (i : Int) : Bool := decide (-18446744073709551616 < i ∧ i < 18446744073709551616)
def mulOk (i j : Int) : Bool := smallI i || smallI j
def divOk (j : Int) : Bool := decide (0 < j ∧ j < 1073741824)
def modOk (j : Int) : Bool := decide (0 < j)
def powOk (i j : Int) : Bool := decide (0 ≤ j ∧ j ≤ 1000000 ∧ i.natAbs < 2 ^ 64)
def fits (n : Nat) : Bool := decide (n ≤ 16777216)
def repOk (n : Nat) (k : Int) : Bool := decide (-(2 ^ 63) ≤ k ∧ k < 2 ^ 63 ∧ n * k.toNat ≤ 16777216)
def rep (xs : List D) (k : Int) : List D := (List.replicate k.toNat xs).flatten
@[simp] def addD : D → D → M RV
  | .int i, .int j => ret (rd (.int (i + j)))
  | .tuple xs, .tuple ys => guard (fits (xs.length + ys.length)) (ret (rd (.tuple (xs ++ ys))))
  | .list xs, .list ys => guard (fits (xs.length + ys.length)) (ret (.fr (.lst (xs ++ ys))))
  | .str x, .str y => guard (fits (x.length + y.length)) (ret (rd (.str (x ++ y))))
  | _, _ => stk
@[simp] def subD : D → D → M RV
  | .int i, .int j => ret (rd (.int (i - j)))
  | _, _ => stk
@[simp] def mulD : D → D → M RV
  | .int i, .int j => guard (mulOk i j) (ret (rd (.int (i * j))))
  | .list xs, .int k => guard (repOk xs.length k) (ret (.fr (.lst (rep xs k))))
  | .tuple xs, .int k => guard (!xs.isEmpty && decide (2 ≤ k ∧ k ≤ 1000 ∧ xs.length ≤ 1000)) (ret (rd (.tuple (rep xs k))))
  | _, _ => stk
@[simp] def fdivD : D → D → M RV
  | .int i, .int j => guard (divOk j) (ret (rd (.int (i / j))))
  | _, _ => stk
@[simp] def modD : D → D → M RV
  | .int i, .int j => guard (modOk j) (ret (rd (.int (i % j))))
  | _, _ => stk
@[simp] def powD : D → D → M RV
  | .int i, .int j => guard (powOk i j) (ret (rd (.int (i ^ j.toNat))))
  | _, _ => stk
@[simp] def binD : BOp → D → D → M RV
  | .add => addD | .sub => subD | .mul => mulD | .fdiv => fdivD | .mod => modD | .pow => powD
@[simp] def isNoneD : D → Bool
  | .none => true
  | _ => false
def ltOk (x y : D) : Bool := W.alike x y && SeqAt.shaped x && !isNoneD x
def flatD : D → Bool
  | .none | .bool _ | .int _ | .str _ => true
  | _ => false
def inD (x : D) (xs : List D) : Bool := xs.any fun z => PyData.eqv z x
def isTrueD : D → Bool
  | .bool b => b
  | _ => false
/-- b: for the other way round -/
def inM (b : Bool) (x y : D) : M RV := match y with
  | .list ds => guard (SeqAt.shaped x && SeqAt.shaped (.list ds)) (ret (rd (.bool (inD x ds == b))))
  | .tuple ds => guard (flatD x && ds.all flatD) (ret (rd (.bool (inD x ds == b))))
  | _ => stk
@[simp] def eqOk (x y : D) : Bool := SeqAt.shaped x && SeqAt.shaped y
def eqD (x y : D) : M RV := guard (eqOk x y) (ret (rd (.bool (PyData.eqv x y))))
def neD (x y : D) : M RV := guard (eqOk x y) (ret (rd (.bool (!PyData.eqv x y))))
@[simp] def ltD : D → D → M RV
  | .int i, .int j => ret (rd (.bool (decide (i < j))))
  | x, y => guard (ltOk x y) (ret (rd (.bool (W.dataLt x y))))
@[simp] def leD : D → D → M RV
  | .int i, .int j => ret (rd (.bool (decide (i ≤ j))))
  | _, _ => stk
@[simp] def gtD : D → D → M RV
  | .int i, .int j => ret (rd (.bool (decide (j < i))))
  | _, _ => stk
@[simp] def geD : D → D → M RV
  | .int i, .int j => ret (rd (.bool (decide (j ≤ i))))
  | _, _ => stk
@[simp] def isD : D → D → M RV
  | x, .none => ret (rd (.bool (isNoneD x)))
  | .bool a, .bool b => ret (rd (.bool (decide (a = b))))
  | _, _ => stk
@[simp] def isnotD : D → D → M RV
  | x, .none => ret (rd (.bool (!isNoneD x)))
  | .bool a, .bool b => ret (rd (.bool (!decide (a = b))))
  | _, _ => stk
@[simp] def cmpD : COp → D → D → M RV
  | .eq => eqD | .ne => neD | .lt => ltD | .le => leD | .gt => gtD | .ge => geD | .is_ => isD | .isnot => isnotD
  | .in_ => inM true | .notin => inM false
/-- truth -/
@[simp] def truD : D → M Bool
  | .none => ret false
  | .bool b => ret b
  | .int i => ret (i != 0)
  | .str x => guard (fits x.length) (ret ((x.length : Int) != 0))
  | .list xs => ret (!xs.isEmpty)
  | .tuple xs => ret (!xs.isEmpty)
  | _ => stk
@[simp] def truR (r : RV) : M Bool := asD r truD
@[simp] def negD : D → M RV
  | .int i => ret (rd (.int (-i)))
  | _ => stk

/-! ### items, slices -/
@[simp] def ixM : D → D → M RV
  | .list xs, .int i => match L2.atI xs i with
    | some x => ret (rd x)
    | none => stk
  | .tuple xs, .int i => match L2.atI xs i with
    | some x => ret (rd x)
    | none => stk
  | .str z, .int i => guard (fits z.length) (match L2.atI z.cps.toList i with
    | some c => ret (rd (.str ⟨#[c]⟩))
    | none => stk)
  | _, _ => stk
def cutL {α : Type} (xs : List α) (lo hi : Option Int) : List α := (xs.drop (HT.sIx xs.length 0 lo)).take (HT.sIx xs.length xs.length hi - HT.sIx xs.length 0 lo)
@[simp] def cutM (lo hi : Option Int) : D → M RV
  | .list xs => ret (.fr (.lst (cutL xs lo hi)))
  | .tuple xs => ret (rd (.tuple (cutL xs lo hi)))
  | _ => stk
def revM : D → M RV
  | .list xs => ret (.fr (.lst xs.reverse))
  | _ => stk

/-! ### built-ins -/
inductive Ty where
  | int | bool | tuple | list | str
  deriving DecidableEq
@[simp] def isTy : Ty → D → Bool
  | .int, .int _ => true
  | .int, .bool _ => true
  | .bool, .bool _ => true
  | .tuple, .tuple _ => true
  | .list, .list _ => true
  | .str, .str _ => true
  | _, _ => false
inductive BF where
  | len | abs | sum | min1 | max1 | min2 | max2 | min3 | sorted | tuple | list | int | str | lenSet | sortedSet
  deriving DecidableEq
def intsOf : List D → Option (List Int)
  | [] => some []
  | .int i :: r => (intsOf r).map (i :: ·)
  | _ => none
@[simp] def lenM : D → M RV
  | .list xs => ret (rd (.int xs.length))
  | .tuple xs => ret (rd (.int xs.length))
  | .str x => guard (fits x.length) (ret (rd (.int x.length)))
  | _ => stk
def absI (i : Int) : Int := if i < 0 then -i else i
def minI (i j : Int) : Int := if j < i then j else i
def maxI (i j : Int) : Int := if j > i then j else i
def minD : D → List D → D
  | m, [] => m
  | m, y :: ys => minD (if W.dataLt y m = true then y else m) ys
def alikeB (xs : List D) : Bool := xs.all fun x => xs.all fun y => W.alike x y
def listOk (xs : List D) : Bool := alikeB xs && SeqAt.shaped (.list xs)
/-- lists of ints, in their order -/
def ltT : List Int → List Int → Bool
  | [], [] => false
  | [], _ :: _ => true
  | _ :: _, [] => false
  | x :: xs, y :: ys => decide (x < y) || (decide (x = y) && ltT xs ys)
def insT (k : List Int) : List (List Int) → List (List Int)
  | [] => [k]
  | x :: xs => if ltT x k = true then x :: insT k xs else k :: x :: xs
def sortT : List (List Int) → List (List Int)
  | [] => []
  | k :: ks => insT k (sortT ks)
def insI (k : Int) : List Int → List Int
  | [] => [k]
  | x :: xs => if x < k then x :: insI k xs else k :: x :: xs
def sortI : List Int → List Int
  | [] => []
  | k :: ks => insI k (sortI ks)
def uniqL {α : Type} [DecidableEq α] : List α → List α
  | [] => []
  | x :: xs => x :: (uniqL xs).filter fun y => !decide (y = x)
def tupsOf : List D → Option (List (List Int))
  | [] => some []
  | .tuple xs :: r => match intsOf xs, tupsOf r with
    | some k, some ks => some (k :: ks)
    | _, _ => none
  | _ :: _ => none
def tupD (k : List Int) : D := .tuple (k.map .int)
def tupOk (ks : List (List Int)) : Bool := decide (ks.length < 64) && match ks with
  | [] => true
  | k :: _ => decide (1 ≤ k.length) && ks.all fun l => decide (l.length = k.length) && l.all fun m => decide (0 ≤ m ∧ m < 64)
def sumM : D → M RV
  | .list xs => match intsOf xs with
    | some ns => ret (rd (.int ns.sum))
    | none => stk
  | _ => stk
def minM : D → M RV
  | .list (x :: xs) => guard (listOk (x :: xs)) (ret (rd (minD x xs)))
  | _ => stk
def maxM : D → M RV
  | .list xs => match intsOf xs with
    | some (n :: ns) => ret (rd (.int (ns.foldl max n)))
    | _ => stk
  | _ => stk
def sortedM : D → M RV
  | .list xs => match intsOf xs with
    | some ns => ret (.fr (.lst ((sortI ns).map .int)))
    | none => match tupsOf xs with
      | some ks => guard (tupOk ks) (ret (.fr (.lst ((sortT ks).map tupD))))
      | none => stk
  | _ => stk
@[simp] def tupleM : D → M RV
  | .list xs => ret (rd (.tuple xs))
  | .tuple xs => ret (rd (.tuple xs))
  | _ => stk
@[simp] def listM : D → M RV
  | .list xs => ret (.fr (.lst xs))
  | .tuple xs => ret (.fr (.lst xs))
  | _ => stk
def intM : D → M RV
  | .int i => ret (rd (.int i))
  | .bool b => ret (rd (.int (if b then 1 else 0)))
  | .str x => match intText? x with
    | some n => guard (decide (x.length ≤ 640)) (ret (rd (.int n)))
    | none => stk
  | _ => stk
def strM : D → M RV
  | .int i => guard (decide (i.natAbs < 2 ^ 60)) (ret (rd (.str (toString i))))
  | _ => stk
def lenSetM : D → M RV
  | .tuple xs => match intsOf xs with
    | some ns => guard (decide (ns.length ≤ 4000)) (ret (rd (.int ((uniqL ns).length : Nat))))
    | none => stk
  | .list xs => match intsOf xs with
    | some ns => guard (decide (ns.length ≤ 4000)) (ret (rd (.int ((uniqL ns).length : Nat))))
    | none => stk
  | _ => stk
/-- sorted(set(..)): of equal things one -/
def sortedSetM : D → M RV
  | .list xs => match tupsOf xs with
    | some ks => guard (tupOk ks) (ret (.fr (.lst ((sortT (uniqL ks)).map tupD))))
    | none => stk
  | _ => stk
@[simp] def bfD : BF → List D → M RV
  | .len, [x] => lenM x
  | .abs, [.int i] => ret (rd (.int (absI i)))
  | .sum, [x] => sumM x
  | .min1, [x] => minM x
  | .max1, [x] => maxM x
  | .min2, [.int i, .int j] => ret (rd (.int (minI i j)))
  | .max2, [.int i, .int j] => ret (rd (.int (maxI i j)))
  | .min3, [.int i, .int j, .int k] => ret (rd (.int (minI (minI i j) k)))
  | .sorted, [x] => sortedM x
  | .tuple, [x] => tupleM x
  | .list, [x] => listM x
  | .int, [x] => intM x
  | .str, [x] => strM x
  | .lenSet, [x] => lenSetM x
  | .sortedSet, [x] => sortedSetM x
  | _, _ => stk
inductive MF where
  | split | join | index | count
  deriving DecidableEq
def rangeL (a b : Int) : List D := (List.range (b - a).toNat).map fun i => .int (a + (i : Nat))
def rangeOk (a b : Int) : Bool := decide (-1000000 ≤ a ∧ a ≤ 1000000 ∧ -1000000 ≤ b ∧ b ≤ 1000000)
def zipL : List D → List D → List D
  | x :: xs, y :: ys => .tuple [x, y] :: zipL xs ys
  | _, _ => []
def zip3L : List D → List D → List D → List D
  | x :: xs, y :: ys, z :: zs => .tuple [x, y, z] :: zip3L xs ys zs
  | _, _, _ => []
def enumL : Nat → List D → List D
  | _, [] => []
  | n, x :: xs => .tuple [.int (n : Nat), x] :: enumL (n + 1) xs
@[simp] def seqD : D → M (List D)
  | .list xs => ret xs
  | .tuple xs => ret xs
  | _ => stk

/-! ### the code -/
inductive T where
  | nm (i : Nat) | tp (ts : List T)
mutual
inductive E where
  | var (i : Nat) | own (i : Nat)
  | non | bl (b : Bool) | int (i : Int) | str (s : Str)
  | glob (x : Str) (i : Int)
  | tup (es : List E) | lst (es : List E)
  | bin (op : BOp) (a b : E)
  | neg (a : E) | not (a : E) | and (a b : E) | or (a b : E)
  | cmp (op : COp) (a b : E) | chain (o1 o2 : COp) (a b c : E)
  | ifx (c a b : E)
  | ix (a b : E) | sl (a : E) (lo hi : Option E) | slr (a : E)
  | isi (a : E) (t : Ty)
  | blt (f : BF) (es : List E)
  | rngl (a : E) | rngt (a : E)
  | call (f : Str) (es : List E)
  | mth (m : MF) (o : E) (es : List E)
  | lc (elt : E) (tg : T) (it : I) (ifs : Option E) (ow : List Nat)
inductive I where
  | seq (e : E) | rng1 (a : E) | rng2 (a b : E) | enum (e : E) | zip (a b : E) | zip3 (a b c : E)
end
inductive S where
  | set (i : Nat) (e : E) | setO (i : Nat) (e : E)
  | par (is : List (Nat × Bool)) (es : List E)
  | unp (tg : T) (e : E)
  | setIx (i : Nat) (k e : E) | augIx (i : Nat) (k e : E)
  | aug (i : Nat) (op : BOp) (e : E)
  | exp (e : E)
  | app (i : Nat) (e : E) | ext (i : Nat) (e : E) | ins (i : Nat) (k e : E) | clr (i : Nat)
  | appPop (i j : Nat) (k : E) | pop (tg : T) (i : Nat) (k : Option E)
  | ife (c : E) (a b : List S)
  | whl (c : E) (b : List S)
  | for_ (tg : T) (it : I) (b : List S)
  | ret (e : E) | retN
  | rai (x : Str)
  | tryS (b : List S) (hs : List (Str × Nat × Str))

/-! ### evaluation -/
mutual
/-- a datum stored by a target -/
def asg : T → D → Env → Option Env
  | .nm i, x, env => some (env.set i (.val (.d x)))
  | .tp ts, .tuple xs, env => asgs ts xs env
  | .tp ts, .list xs, env => asgs ts xs env
  | .tp _, _, _ => none
def asgs : List T → List D → Env → Option Env
  | [], [], env => some env
  | t :: ts, x :: xs, env => match asg t x env with
    | some env' => asgs ts xs env'
    | none => none
  | _, _, _ => none
end
@[simp] def wipeE (env : Env) : List Nat → Env
  | [] => env
  | v :: vs => (wipeE env vs).set v .non
def asgM (t : T) (x : D) (env : Env) : M Env := match asg t x env with
  | some e => ret e
  | none => stk
def lcL (f : D → M (Option D)) : List D → M (List D)
  | [] => ret []
  | x :: xs => bnd (f x) fun o => bnd (lcL f xs) fun r => ret (match o with
    | some y => y :: r
    | none => r)
@[simp] def dats : List RV → Option (List D)
  | [] => some []
  | r :: rs => match r.dat, dats rs with
    | some x, some xs => some (x :: xs)
    | _, _ => none
@[simp] def keepAll : List RV → M (List Vv)
  | [] => ret []
  | r :: rs => bnd (keepV r) fun x => bnd (keepAll rs) fun xs => ret (x :: xs)
@[simp] def keepAllD : List RV → M (List D)
  | [] => ret []
  | r :: rs => bnd (keepD r) fun x => bnd (keepAllD rs) fun xs => ret (x :: xs)
@[simp] def slotR (env : Env) (i : Nat) : M RV := match env[i]? with
  | some (.val v) => ret (.v v)
  | some (.own o) => ret (.bo i o)
  | _ => stk
@[simp] def bfM (f : BF) (rs : List RV) : M RV := match f, rs with
  | .len, [.v (.scr ns)] => ret (rd (.int ns.length))
  | f, rs => match dats rs with
    | some ds => bfD f ds
    | none => stk
@[simp] def ixR (a b : RV) : M RV := match a, b with
  | .v (.scr ns), .v (.d (.int i)) => match L2.atI ns i with
    | some n => ret (rd (.int n))
    | none => stk
  | a, b => asD a fun x => asD b fun y => ixM x y
@[simp] def isiR (a : RV) (t : Ty) : M RV := asD a fun x => ret (rd (.bool (isTy t x)))
@[simp] def cmpR (op : COp) (a b : RV) : M RV := asD a fun x => asD b fun y => cmpD op x y
@[simp] def boolR (r : RV) : M Bool := match r with
  | .v (.d (.bool b)) => ret b
  | _ => stk
def mthD : MF → D → List D → M RV
  | .split, .str x, [.str y] => guard (!(y.length == 0) && fits (x.length + 2)) (ret (.fr (.lst ((Txt.split x y).map .str))))
  | _, _, _ => stk
def mthM (m : MF) (o : RV) (rs : List RV) : M RV := asD o fun x => match dats rs with
  | some ds => mthD m x ds
  | none => stk
@[simp] def partM (r : RV) : M (Option Int) := match r with
  | .v (.d (.int i)) => ret (some i)
  | _ => stk
@[simp] def isBo : RV → Bool
  | .bo _ _ => true
  | _ => false
/-- the block's own names hold nothing of ours -/
@[simp] def wipeOk (env : Env) (ow : List Nat) : Bool := ow.all fun i => match env[i]? with
  | some (.own _) => false
  | _ => true
@[simp] def zipD : D → D → M (List D)
  | .list xs, .list ys => ret (zipL xs ys)
  | .tuple xs, .tuple ys => ret (zipL xs ys)
  | _, _ => stk
@[simp] def enumD : D → M (List D)
  | .list xs => ret (enumL 0 xs)
  | _ => stk
variable (Φ : Str → List Vv → M RV)
mutual
def ev : E → Env → M RV
  | .var i, env => slotR env i
  | .own i, env => slotR env i
  | .non, _ => ret (rd .none)
  | .bl b, _ => ret (rd (.bool b))
  | .int i, _ => ret (rd (.int i))
  | .str s, _ => ret (rd (.str s))
  | .glob _ i, _ => ret (rd (.int i))
  | .tup es, env => bnd (evs es env) fun rs => guard (fits rs.length) (bnd (keepAllD rs) fun xs => ret (rd (.tuple xs)))
  | .lst es, env => bnd (evs es env) fun rs => guard (fits rs.length) (bnd (keepAllD rs) fun xs => ret (.fr (.lst xs)))
  | .bin op a b, env => bnd (ev a env) fun r => bnd (ev b env) fun s => asD r fun x => asD s fun y => binD op x y
  | .neg a, env => bnd (ev a env) fun r => asD r negD
  | .not a, env => bnd (ev a env) fun r => bnd (truR r) fun b => ret (rd (.bool (!b)))
  | .and a b, env => bnd (ev a env) fun r => bnd (truR r) fun c => if c = true then ev b env else frzM r
  | .or a b, env => bnd (ev a env) fun r => bnd (truR r) fun c => if c = true then frzM r else ev b env
  | .cmp op a b, env => bnd (ev a env) fun r => bnd (ev b env) fun s => cmpR op r s
  | .chain o1 o2 a b c, env => bnd (ev a env) fun r => bnd (ev b env) fun s => bnd (cmpR o1 r s) fun q => bnd (boolR q) fun k =>
      if k = true then bnd (ev c env) fun u => cmpR o2 s u else ret (rd (.bool false))
  | .ifx c a b, env => bnd (ev c env) fun r => bnd (truR r) fun k => if k = true then ev a env else ev b env
  | .ix a b, env => bnd (ev a env) fun r => bnd (ev b env) fun s => ixR r s
  | .sl a lo hi, env => bnd (ev a env) fun r => bnd (evo lo env) fun i => bnd (evo hi env) fun j => asD r (cutM i j)
  | .slr a, env => bnd (ev a env) fun r => asD r revM
  | .isi a t, env => bnd (ev a env) fun r => isiR r t
  | .blt f es, env => bnd (evs es env) fun rs => bfM f rs
  | .rngl a, env => bnd (ev a env) fun r => asD r fun
    | .int n => guard (rangeOk 0 n) (ret (.fr (.lst (rangeL 0 n))))
    | _ => stk
  | .rngt a, env => bnd (ev a env) fun r => asD r fun
    | .int n => guard (rangeOk 0 n) (ret (rd (.tuple (rangeL 0 n))))
    | _ => stk
  | .call f es, env => bnd (evs es env) fun rs => bnd (keepAll rs) fun xs => Φ f xs
  | .mth m o es, env => bnd (ev o env) fun r => bnd (evs es env) fun rs => mthM m r rs
  | .lc elt tg it none ow, env => bnd (evi it env) fun p => guard (wipeOk env ow) (bnd (lcL (fun x => noX (bnd (asgM tg x (wipeE env ow)) fun env1 =>
      bnd (ev elt env1) fun r => bnd (keepD r) fun y => ret (some y))) p.1) fun ys => ret (.fr (.lst ys)))
  | .lc elt tg it (some c) ow, env => bnd (evi it env) fun p => guard (wipeOk env ow) (bnd (lcL (fun x => noX (bnd (asgM tg x (wipeE env ow)) fun env1 =>
      bnd (bnd (ev c env1) truR) fun b => if b = true then bnd (ev elt env1) fun r => bnd (keepD r) fun y => ret (some y) else ret none)) p.1) fun ys => ret (.fr (.lst ys)))
@[simp] def evs : List E → Env → M (List RV)
  | [], _ => ret []
  | e :: es, env => bnd (ev e env) fun r => bnd (evs es env) fun rs => ret (r :: rs)
@[simp] def evo : Option E → Env → M (Option Int)
  | none, _ => ret none
  | some e, env => bnd (ev e env) partM
def evi : I → Env → M (List D × Bool)
  | .seq e, env => bnd (ev e env) fun r => asD r fun x => bnd (seqD x) fun xs => ret (xs, isBo r)
  | .rng1 a, env => bnd (ev a env) fun r => asD r fun
    | .int n => guard (rangeOk 0 n) (ret (rangeL 0 n, false))
    | _ => stk
  | .rng2 a b, env => bnd (ev a env) fun r => bnd (ev b env) fun s => asD r fun x => asD s fun y => match x, y with
    | .int i, .int j => guard (rangeOk i j) (ret (rangeL i j, false))
    | _, _ => stk
  | .enum e, env => bnd (ev e env) fun r => asD r fun x => bnd (enumD x) fun xs => ret (xs, isBo r)
  | .zip a b, env => bnd (ev a env) fun r => bnd (ev b env) fun s => asD r fun x => asD s fun y => guard (!isBo r && !isBo s) (bnd (zipD x y) fun xs => ret (xs, false))
  | .zip3 a b c, env => bnd (ev a env) fun r => bnd (ev b env) fun s => bnd (ev c env) fun u => asD r fun x => asD s fun y => asD u fun z => guard (!isBo r && !isBo s && !isBo u) (bnd (seqD x) fun xs => bnd (seqD y) fun ys => bnd (seqD z) fun zs => ret (zip3L xs ys zs, false))
end
end Pv
/-! Pv2: statements. -/
namespace Pv
open PySem
inductive Fl where
  | nx (env : Env) | rt (r : RV) | xc (x : Str) (env : Env)
def cat {α : Type} (m : M α) (env : Env) (k : α → M Fl) : M Fl := fun t => match m t with
  | .ok a t' => k a t'
  | .exc x t' => .ok (.xc x env) t'
  | .stuck => .stuck
@[simp] theorem cat_ret {α : Type} (a : α) (env : Env) (k : α → M Fl) : cat (ret a) env k = k a := rfl
@[simp] theorem cat_raise {α : Type} (x : Str) (env : Env) (k : α → M Fl) : cat (raise x) env k = ret (.xc x env) := rfl
theorem cat_ite {α : Type} (c : Prop) [Decidable c] (a b : M α) (env : Env) (k : α → M Fl) : cat (if c then a else b) env k = if c then cat a env k else cat b env k := by
  split <;> rfl
/-- behind a statement -/
def seqF (m : M Fl) (k : Env → M Fl) : M Fl := bnd m fun
  | .nx env => k env
  | f => ret f
@[simp] theorem seqF_nx (env : Env) (k : Env → M Fl) : seqF (ret (.nx env)) k = k env := rfl
@[simp] theorem seqF_rt (r : RV) (k : Env → M Fl) : seqF (ret (.rt r)) k = ret (.rt r) := rfl
@[simp] theorem seqF_xc (x : Str) (env : Env) (k : Env → M Fl) : seqF (ret (.xc x env)) k = ret (.xc x env) := rfl
@[simp] theorem seqF_stk (k : Env → M Fl) : seqF stk k = stk := rfl
theorem seqF_ite (c : Prop) [Decidable c] (a b : M Fl) (k : Env → M Fl) : seqF (if c then a else b) k = if c then seqF a k else seqF b k := by
  split <;> rfl
/-- to be kept where the statement may freeze a slot -/
@[simp] def keepE (r : RV) (env : Env) : M (Vv × Env) := match r with
  | .v x => ret (x, env)
  | .fr (.lst xs) => ret (.d (.list xs), env)
  | .bo j (.lst xs) => ret (.d (.list xs), env.set j (.val (.d (.list xs))))
  | _ => stk
@[simp] def keepED (r : RV) (env : Env) : M (D × Env) := bnd (keepE r env) fun
  | (.d x, e) => ret (x, e)
  | _ => stk
@[simp] def setIt (i : Nat) (env : Env) (r : RV) : M Fl := bnd (keepE r env) fun p => ret (.nx (p.2.set i (.val p.1)))
@[simp] def setOwn (i : Nat) (env : Env) (r : RV) : M Fl := match r with
  | .fr o => ret (.nx (env.set i (.own o)))
  | _ => stk
@[simp] def ownL (env : Env) (i : Nat) (k : List D → M Fl) : M Fl := match env[i]? with
  | some (.own (.lst xs)) => k xs
  | _ => stk
@[simp] def augM (op : BOp) (a b : RV) : M Vv := match op, a, b with
  | .add, .v (.d (.int i)), .v (.d (.int j)) => ret (.d (.int (i + j)))
  | _, _, _ => stk
/-- xs[k] = e at a place -/
def setAt (xs : List D) (k : Int) (y : D) : M (List D) := match L2.ixN xs.length k with
  | some j => ret (xs.set j y)
  | none => stk
def popAt (xs : List D) (k : Int) : M (D × List D) := match L2.ixN xs.length k with
  | some j => match xs[j]? with
    | some y => guard (decide (-(2 ^ 63) ≤ k ∧ k < 2 ^ 63)) (ret (y, xs.eraseIdx j))
    | none => stk
  | none => stk
def popEnd (xs : List D) : M (D × List D) := match xs[xs.length - 1]? with
  | some y => ret (y, xs.dropLast)
  | none => stk
@[simp] def intR (r : RV) (k : Int → M Fl) : M Fl := match r with
  | .v (.d (.int i)) => k i
  | _ => stk
@[simp] def parSet : List (Nat × Bool) → List RV → Env → Option Env
  | [], [], env => some env
  | (i, o) :: is, r :: rs, env => match o, r with
    | false, .v x => parSet is rs (env.set i (.val x))
    | false, .fr (.lst xs) => parSet is rs (env.set i (.val (.d (.list xs))))
    | _, _ => none
  | _, _, _ => none
def forL (f : D → Env → M Fl) : List D → Env → M Fl
  | [], env => ret (.nx env)
  | x :: xs, env => seqF (f x env) (forL f xs)
@[simp] theorem forL_nil (f : D → Env → M Fl) (env : Env) : forL f [] env = ret (.nx env) := rfl
theorem forL_cons (f : D → Env → M Fl) (x : D) (xs : List D) (env : Env) : forL f (x :: xs) env = seqF (f x env) (forL f xs) := rfl
def whileF (c : Env → M Bool) (f : Env → M Fl) : Nat → Env → M Fl
  | 0, _ => stk
  | n + 1, env => cat (c env) env fun b => if b = true then seqF (f env) (whileF c f n) else ret (.nx env)
def FUEL : Nat := 100000
def catchH (hs : List (Str × Nat × Str)) (is : Str → Str → Bool) (x : Str) (env : Env) : Fl := match hs.find? fun h => is x h.1 with
  | some h => .nx (env.set h.2.1 (.val (.d (.str h.2.2))))
  | none => .xc x env
def tryM (m : M Fl) (hs : List (Str × Nat × Str)) (is : Str → Str → Bool) : M Fl := bnd m fun
  | .xc x env => guard (is x x) (ret (catchH hs is x env))
  | f => ret f
@[simp] theorem tryM_nx (env : Env) (hs : List (Str × Nat × Str)) (is : Str → Str → Bool) : tryM (ret (.nx env)) hs is = ret (.nx env) := rfl
@[simp] theorem tryM_rt (r : RV) (hs : List (Str × Nat × Str)) (is : Str → Str → Bool) : tryM (ret (.rt r)) hs is = ret (.rt r) := rfl
@[simp] theorem tryM_xc (x : Str) (env : Env) (hs : List (Str × Nat × Str)) (is : Str → Str → Bool) : tryM (ret (.xc x env)) hs is = guard (is x x) (ret (catchH hs is x env)) := rfl

variable (Φ : Str → List Vv → M RV) (is : Str → Str → Bool)
mutual
def ex : S → Env → M Fl
  | .set i e, env => cat (ev Φ e env) env (setIt i env)
  | .setO i e, env => cat (ev Φ e env) env (setOwn i env)
  | .par l es, env => cat (evs Φ es env) env fun rs => match parSet l rs env with
    | some env' => ret (.nx env')
    | none => stk
  | .unp tg e, env => cat (ev Φ e env) env fun r => asD r fun x => bnd (asgM tg x env) fun env' => ret (.nx env')
  | .setIx i k e, env => cat (ev Φ e env) env fun r => ownL env i fun xs => cat (ev Φ k env) env fun q => intR q fun j => bnd (keepD r) fun y => bnd (setAt xs j y) fun ys => ret (.nx (env.set i (.own (.lst ys))))
  | .augIx i k e, env => stk
  | .aug i op e, env => bnd (slotR env i) fun q => cat (ev Φ e env) env fun r => bnd (augM op q r) fun z => ret (.nx (env.set i (.val z)))
  | .exp e, env => cat (ev Φ e env) env fun _ => ret (.nx env)
  | .app i e, env => ownL env i fun _ => cat (ev Φ e env) env fun r => bnd (keepED r env) fun p => ownL p.2 i fun xs => guard (fits (xs.length + 1)) (ret (.nx (p.2.set i (.own (.lst (xs ++ [p.1]))))))
  | .ext i e, env => ownL env i fun xs => cat (ev Φ e env) env fun r => asD r fun
    | .list ys => guard (fits (xs.length + ys.length)) (ret (.nx (env.set i (.own (.lst (xs ++ ys))))))
    | _ => stk
  | .ins i k e, env => stk
  | .clr i, env => stk
  | .appPop i j k, env => ownL env i fun _ => ownL env j fun ys => cat (ev Φ k env) env fun q => intR q fun n => bnd (popAt ys n) fun p => ownL (env.set j (.own (.lst p.2))) i fun xs =>
      guard (fits (xs.length + 1)) (ret (.nx ((env.set j (.own (.lst p.2))).set i (.own (.lst (xs ++ [p.1]))))))
  | .pop tg i none, env => ownL env i fun xs => bnd (popEnd xs) fun p => bnd (asgM tg p.1 (env.set i (.own (.lst p.2)))) fun env' => ret (.nx env')
  | .pop tg i (some k), env => ownL env i fun xs => cat (ev Φ k env) env fun q => intR q fun n => bnd (popAt xs n) fun p => bnd (asgM tg p.1 (env.set i (.own (.lst p.2)))) fun env' => ret (.nx env')
  | .ife c a b, env => cat (bnd (ev Φ c env) truR) env fun k => if k = true then exB a env else exB b env
  | .whl c b, env => whileF (fun env => bnd (ev Φ c env) truR) (fun env => exB b env) FUEL env
  | .for_ tg it b, env => cat (evi Φ it env) env fun p => guard (!p.2) (forL (fun x env => bnd (asgM tg x env) fun env' => exB b env') p.1 env)
  | .ret e, env => cat (ev Φ e env) env fun r => ret (.rt (match r with
    | .bo _ o => .fr o
    | r => r))
  | .retN, _ => ret (.rt (rd .none))
  | .rai x, env => ret (.xc x env)
  | .tryS b hs, env => tryM (exB b env) hs is
def exB : List S → Env → M Fl
  | [], env => ret (.nx env)
  | s :: ss, env => seqF (ex s env) (exB ss)
end
/-- a def's answer -/
@[simp] def runB (n : Nat) (b : List S) (args : List Vv) : M RV := bnd (noX (exB Φ is b (args.map .val ++ List.replicate n .non))) fun
  | .nx _ => ret (rd .none)
  | .rt r => ret r
  | .xc x _ => raise x
end Pv
/-! Pv3: from the model's syntax to the code. -/
namespace Pv
open PySem
structure SC where
  N : List Str
  sc : Scope
  ow : List Nat
structure GS where
  cns : List (Str × Int)
  fns : List Str
  exc : List Str
def idx (x : Str) : List Str → Option Nat
  | [] => none
  | y :: ys => if y = x then some 0 else (idx x ys).map (· + 1)
def visB (sc : Scope) (x : Str) : Bool := (decide (sc.names.lookup x = some .local) || decide (sc.names.lookup x = some .cell) || decide (sc.names.lookup x = some .free)) && !(x == "__debug__") && !(x == "__classdict__")
def locB (sc : Scope) (x : Str) : Bool := decide (sc.names.lookup x = some .local) || decide (sc.names.lookup x = some .cell)
def glB (sc : Scope) (x : Str) : Bool := decide (sc.names.lookup x = some .globalImplicit) && !(x == "__debug__")
def bop : Operator → Option BOp
  | .Add => some .add | .Sub => some .sub | .Mult => some .mul | .FloorDiv => some .fdiv | .Mod => some .mod | .Pow => some .pow
  | _ => none
def cop : CmpOp → Option COp
  | .Eq => some .eq | .NotEq => some .ne | .Lt => some .lt | .LtE => some .le | .Gt => some .gt | .GtE => some .ge
  | .Is => some .is_ | .IsNot => some .isnot | .In => some .in_ | .NotIn => some .notin
def isSetE : Expr → Bool
  | .Set .. => true
  | _ => false
def isStarE : Expr → Bool
  | .Starred .. => true
  | _ => false
def isSliceE : Expr → Bool
  | .Slice .. => true
  | _ => false
def isIfE : Expr → Bool
  | .IfExp .. => true
  | _ => false
def isCompE : Expr → Bool
  | .ListComp .. => true
  | .SetComp .. => true
  | .DictComp .. => true
  | _ => false
def bfOf (x : Str) (n : Nat) : Option BF :=
  if x = "len" ∧ n = 1 then some .len else if x = "abs" ∧ n = 1 then some .abs else if x = "sum" ∧ n = 1 then some .sum
  else if x = "max" ∧ n = 1 then some .max1 else if x = "min" ∧ n = 2 then some .min2 else if x = "max" ∧ n = 2 then some .max2
  else if x = "min" ∧ n = 3 then some .min3 else if x = "tuple" ∧ n = 1 then some .tuple else if x = "list" ∧ n = 1 then some .list
  else if x = "int" ∧ n = 1 then some .int else if x = "sorted" ∧ n = 1 then some .sorted else none
def tyOf (x : Str) : Option Ty :=
  if x = "int" then some .int else if x = "bool" then some .bool else if x = "tuple" then some .tuple else if x = "list" then some .list else if x = "str" then some .str else none
def mfOf (x : Str) (n : Nat) : Option MF := none
mutual
/-- a target's names -/
def tgN : Expr → List Str
  | .Name x _ => [x]
  | .Tuple es _ _ => tgNs es
  | _ => []
def tgNs : List Expr → List Str
  | [] => []
  | e :: es => tgN e ++ tgNs es
end
mutual
/-- a target -/
def compT (S : SC) : Expr → Option T
  | .Name x _ => if locB S.sc x = true then (idx x S.N).map .nm else none
  | .Tuple es _ _ => (compTs S es).map .tp
  | _ => none
def compTs (S : SC) : List Expr → Option (List T)
  | [] => some []
  | e :: es => match isStarE e, compT S e, compTs S es with
    | false, some t, some ts => some (t :: ts)
    | _, _, _ => none
end
def ownL? (N : List Str) : List Str → Option (List (Str × Nat))
  | [] => some []
  | x :: xs => match idx x N, ownL? N xs with
    | some i, some r => some ((x, i) :: r)
    | _, _ => none
def isTupE : Expr → Bool
  | .Tuple .. => true
  | _ => false
def needsTup : I → Bool
  | .enum _ => true
  | .zip _ _ => true
  | .zip3 _ _ _ => true
  | _ => false
/-- the block's static part -/
def SC.blk (S : SC) (scope : Scope) : SC := { S with sc := L2.relS scope S.sc }
variable (G : GS)
mutual
def compE (S : SC) : Nat → Expr → Option E
  | 0, _ => none
  | n + 1, e => match e with
    | .Constant .none _ _ => some .non
    | .Constant (.bool b) _ _ => some (.bl b)
    | .Constant (.int i) _ _ => some (.int i)
    | .Constant (.str s) _ _ => some (.str s)
    | .Name x _ => if visB S.sc x = true then (idx x S.N).map fun i => if S.ow.contains i = true then .own i else .var i
        else if glB S.sc x = true then (G.cns.lookup x).map (.glob x) else none
    | .Tuple es _ _ => (compEs S n es).map .tup
    | .List es _ => (compEs S n es).map .lst
    | .BinOp a op b _ => match bop op, compE S n a, compE S n b with
      | some o, some x, some y => some (.bin o x y)
      | _, _, _ => none
    | .UnaryOp .USub a _ => (compE S n a).map .neg
    | .UnaryOp .Not a _ => if isIfE a = true then none else (compE S n a).map .not
    | .BoolOp op vs _ => compB S n op vs
    | .Compare a [op] [b] _ => match cop op, compE S n a, compE S n b, isSetE b with
      | some o, some x, some y, false => some (.cmp o x y)
      | _, _, _, _ => none
    | .Compare a [op, op'] [b, c] _ => match cop op, cop op', compE S n a, compE S n b, compE S n c, isSetE c with
      | some o, some o', some x, some y, some z, false => some (.chain o o' x y z)
      | _, _, _, _, _, _ => none
    | .IfExp c a b _ => match isIfE c, compE S n c, compE S n a, compE S n b with
      | false, some z, some x, some y => some (.ifx z x y)
      | _, _, _, _ => none
    | .Subscript a (.Slice none none (some (.UnaryOp .USub (.Constant (.int 1) _ _) _)) _) _ => (compE S n a).map .slr
    | .Subscript a (.Slice lo hi none _) _ => match compE S n a, compO S n lo, compO S n hi with
      | some x, some l, some h => some (.sl x l h)
      | _, _, _ => none
    | .Subscript a b _ => match isSliceE b, compE S n a, compE S n b with
      | false, some x, some y => some (.ix x y)
      | _, _, _ => none
    | .Call (.Name x _) args [] _ => if glB S.sc x = true then compC S n x args else none
    | .Call (.Attribute o m apos) args [] cpos => if (apos.endLine == cpos.line) = true then (match mfOf m args.length, compE S n o, compEs S n args with
      | some k, some x, some ys => some (.mth k x ys)
      | _, _, _ => none) else none
    | .ListComp elt [⟨tg, it, ifs, 0⟩] scope _ => match ownL? S.N (tgN tg) with
      | some own => if (L2.blkC S.N S.sc scope own && (tgN tg).all (locB scope)) = true then (match compT (S.blk scope) tg, compI S n it, compE (S.blk scope) n elt with
        | some t, some i, some x => if (needsTup i && !isTupE tg) = true then none else (match ifs with
          | [] => some (.lc x t i none (own.map (·.2)))
          | [c] => if isIfE c = true then none else (compE (S.blk scope) n c).map fun y => .lc x t i (some y) (own.map (·.2))
          | _ => none)
        | _, _, _ => none) else none
      | none => none
    | _ => none
def compEs (S : SC) : Nat → List Expr → Option (List E)
  | 0, _ => none
  | _ + 1, [] => some []
  | n + 1, e :: es => match isStarE e, compE S n e, compEs S n es with
    | false, some x, some xs => some (x :: xs)
    | _, _, _ => none
def compO (S : SC) : Nat → Option Expr → Option (Option E)
  | 0, _ => none
  | _ + 1, none => some none
  | n + 1, some e => (compE S n e).map some
def compB (S : SC) : Nat → BoolOp → List Expr → Option E
  | 0, _, _ => none
  | _ + 1, _, [] => none
  | n + 1, _, [e] => if isIfE e = true then none else compE S n e
  | n + 1, op, e :: e' :: es => match op, isIfE e, compE S n e, compB S n op (e' :: es) with
    | .And, false, some x, some y => some (.and x y)
    | .Or, false, some x, some y => some (.or x y)
    | _, _, _, _ => none
/-- f(args), f a global or built-in name -/
def compC (S : SC) : Nat → Str → List Expr → Option E
  | 0, _, _ => none
  | n + 1, x, args => if G.fns.contains x = true then (if args.isEmpty = true then none else (compEs S n args).map (.call x)) else match args with
    | [.Call (.Name y _) [a] [] _] =>
      if glB S.sc y = true ∧ isStarE a = false ∧ x = "len" ∧ y = "set" then (compE S n a).map fun z => .blt .lenSet [z]
      else if glB S.sc y = true ∧ isStarE a = false ∧ x = "sorted" ∧ y = "set" then (compE S n a).map fun z => .blt .sortedSet [z]
      else if glB S.sc y = true ∧ isStarE a = false ∧ x = "list" ∧ y = "range" then (compE S n a).map .rngl
      else if glB S.sc y = true ∧ isStarE a = false ∧ x = "tuple" ∧ y = "range" then (compE S n a).map .rngt
      else match bfOf x 1, compEs S n args with
        | some f, some ys => some (.blt f ys)
        | _, _ => none
    | [a, .Name t _] => if x = "isinstance" ∧ glB S.sc t = true then (match tyOf t, isStarE a, compE S n a with
        | some ty, false, some z => some (.isi z ty)
        | _, _, _ => none) else (match bfOf x args.length, compEs S n args with
        | some f, some ys => some (.blt f ys)
        | _, _ => none)
    | args => match bfOf x args.length, compEs S n args with
      | some f, some ys => some (.blt f ys)
      | _, _ => none
def compI (S : SC) : Nat → Expr → Option I
  | 0, _ => none
  | n + 1, e => match e with
    | .Call (.Name x _) args [] _ =>
      if glB S.sc x = true ∧ x = "range" then (match args with
        | [a] => if isStarE a = true then none else (compE S n a).map .rng1
        | [a, b] => match isStarE a, isStarE b, compE S n a, compE S n b with
          | false, false, some y, some z => some (.rng2 y z)
          | _, _, _, _ => none
        | _ => none)
      else if glB S.sc x = true ∧ x = "enumerate" then (match args with
        | [a] => if isStarE a = true then none else (compE S n a).map .enum
        | _ => none)
      else if glB S.sc x = true ∧ x = "zip" then (match args with
        | [a, b] => match isStarE a, isStarE b, compE S n a, compE S n b with
          | false, false, some y, some z => some (.zip y z)
          | _, _, _, _ => none
        | _ => none)
      else (compE S n e).map .seq
    | .Set .. => none
    | e => (compE S n e).map .seq
end
end Pv
/-! Pv4: statements of the model's syntax to the code. -/
namespace Pv
open PySem
/-- plain names of one line, locals -/
def parNames (sc : Scope) (line : Nat) : List Expr → Option (List Str)
  | [] => some []
  | .Name x p :: es => if sc.names.lookup x = some .local ∧ (p.line == line) = true then (parNames sc line es).map (x :: ·) else none
  | _ :: _ => none
/-- the names that a, b = x, y stores from the right -/
def swOf (sc : Scope) (ts vs : List Expr) : Option (List Str) :=
  if (!(ts.length == 2 || ts.length == 3) || vs.length != ts.length) = true then none else
  match parNames sc ((ts.head?.map (·.pos.line)).getD 0) ts with
  | some ns => if ns.eraseDups.length != ns.length then none else if vs.all (foldedForSure 8) = true then none else if vs.all (constantsAlone 8) = true then none else some ns
  | none => none
/-- the general way is sure -/
def noSw (sc : Scope) (ts vs : List Expr) : Bool :=
  if (!(ts.length == 2 || ts.length == 3) || vs.length != ts.length) = true then true else
  match parNames sc ((ts.head?.map (·.pos.line)).getD 0) ts with
  | some ns => (ns.eraseDups.length != ns.length) || vs.all (foldedForSure 8)
  | none => true
def idxs (N : List Str) (ow : List Nat) : List Str → Option (List (Nat × Bool))
  | [] => some []
  | x :: xs => match idx x N, idxs N ow xs with
    | some i, some r => some ((i, ow.contains i) :: r)
    | _, _ => none
def ownV (S : SC) (x : Str) : Option Nat := if visB S.sc x = true then (match idx x S.N with
  | some i => if S.ow.contains i = true then some i else none
  | none => none) else none
/-- y.pop(), y.pop(k) of an owned list -/
def popOf (S : SC) : Expr → Option (Nat × Option Expr)
  | .Call (.Attribute (.Name y _) m apos) [] [] cpos => if m = "pop" ∧ (apos.endLine == cpos.line) = true then (ownV S y).map fun j => (j, none) else none
  | .Call (.Attribute (.Name y _) m apos) [k] [] cpos => if m = "pop" ∧ (apos.endLine == cpos.line) = true ∧ isStarE k = false then (ownV S y).map fun j => (j, some k) else none
  | _ => none
def hdOf (S : SC) (exc : List Str) : List ExceptHandler → Option (List (Str × Nat × Str))
  | [] => some []
  | .ExceptHandler (some (.Name x _)) none [.Assign [.Name y _] (.Constant (.str z) _ _) _] _ :: hs =>
    if glB S.sc x = true ∧ exc.contains x = true ∧ locB S.sc y = true then (match idx y S.N, hdOf S exc hs with
      | some i, some r => if S.ow.contains i = true then none else some ((x, i, z) :: r)
      | _, _ => none) else none
  | _ :: _ => none
/-- one line alone: y = [..] -/
def lcLine (y : Str) (py : Pos) (sc : Scope) : Expr → Bool
  | .ListComp _ _ scope pos => decide (sc.names.lookup y = some .local) && (py.line == pos.line) && !(scope.names.any fun (n, k) => n == y && (k == .local || k == .cell))
  | _ => false
/-- .. is sure not to be it -/
def lcFar (y : Str) (py : Pos) (sc : Scope) : Expr → Bool
  | .ListComp _ _ scope pos => !decide (sc.names.lookup y = some .local) || !(py.line == pos.line) || (scope.names.any fun (n, k) => n == y && (k == .local || k == .cell))
  | .SetComp .. => false
  | .DictComp .. => false
  | _ => true
variable (G : GS)
mutual
def compS (S : SC) : Nat → Stmt → Option Pv.S
  | 0, _ => none
  | n + 1, st => match st with
    | .Assign [.Name x px] e _ =>
      if locB S.sc x = true ∧ (lcFar x px S.sc e || lcLine x px S.sc e) = true then (match idx x S.N, popOf S e with
        | some i, some (j, none) => if S.ow.contains i = true then none else some (.pop (.nm i) j none)
        | some i, some (j, some k) => if S.ow.contains i = true then none else (compE G S n k).map fun z => .pop (.nm i) j (some z)
        | some i, none => (compE G S n e).map fun z => if S.ow.contains i = true then .setO i z else .set i z
        | none, _ => none) else none
    | .Assign [.Tuple ts k p] (.Tuple vs k2 p2) _ =>
      match swOf S.sc ts vs with
      | some ns => (match idxs S.N S.ow ns, compEs G S n vs with
        | some is, some es => if (is.all (fun p => !p.2) && decide (is.map (·.1)).Nodup) = true then some (.par is es) else none
        | _, _ => none)
      | none => if noSw S.sc ts vs = true then (match compT S (.Tuple ts k p), compE G S n (.Tuple vs k2 p2) with
        | some t, some z => some (.unp t z)
        | _, _ => none) else none
    | .Assign [.Tuple ts k p] e _ => if isCompE e = true then none else match compT S (.Tuple ts k p), popOf S e with
      | some t, some (j, none) => some (.pop t j none)
      | some t, some (j, some a) => (compE G S n a).map fun z => .pop t j (some z)
      | some t, none => (compE G S n e).map fun z => .unp t z
      | none, _ => none
    | .Assign [.Subscript (.Name x _) k _] e _ => if isCompE e = true ∨ isSliceE k = true then none else match ownV S x, compE G S n k, compE G S n e with
      | some i, some y, some z => some (.setIx i y z)
      | _, _, _ => none
    | .AugAssign (.Name x _) .Add e _ => if locB S.sc x = true ∧ visB S.sc x = true then (match idx x S.N, compE G S n e with
      | some i, some z => if S.ow.contains i = true then none else some (.aug i .add z)
      | _, _ => none) else none
    | .Expr (.Call (.Attribute (.Name x _) m apos) args [] cpos) pos => match ownV S x with
      | some i => if (apos.endLine == cpos.line) = true then (match args with
        | [.Call (.Attribute (.Name y _) m2 apos2) [k] [] cpos2] => if m = "append" ∧ m2 = "pop" ∧ (ownV S y).isSome = true then (match ownV S y with
            | some j => if (apos2.endLine == cpos2.line) = true ∧ isStarE k = false ∧ i ≠ j then (compE G S n k).map fun z => .appPop i j z else none
            | none => none) else none
        | [a] => if isStarE a = true then none else if m = "append" then (compE G S n a).map (.app i) else if m = "extend" then (compE G S n a).map (.ext i) else none
        | _ => none) else none
      | none => none
    | .Expr e _ => if isCompE e = true then none else (compE G S n e).map .exp
    | .If c a b _ => match isIfE c, compE G S n c, compB' S n a, compB' S n b with
      | false, some z, some x, some y => some (.ife z x y)
      | _, _, _, _ => none
    | .While c b [] _ => match isIfE c, compE G S n c, compB' S n b with
      | false, some z, some x => some (.whl z x)
      | _, _, _ => none
    | .For tg it b [] _ => match compT S tg, compI G S n it, compB' S n b with
      | some t, some i, some x => if (needsTup i && !isTupE tg) = true then none else some (.for_ t i x)
      | _, _, _ => none
    | .Return (some e) _ => (compE G S n e).map .ret
    | .Return none _ => some .retN
    | .Raise (some (.Call (.Name x _) [.Constant (.str _) _ _] [] _)) none _ => if glB S.sc x = true ∧ G.exc.contains x = true then some (.rai x) else none
    | .Try b hs [] [] _ => match compB' S n b, hdOf S G.exc hs with
      | some x, some l => if l.isEmpty = true then none else some (.tryS x l)
      | _, _ => none
    | _ => none
def compB' (S : SC) : Nat → List Stmt → Option (List Pv.S)
  | 0, _ => none
  | _ + 1, [] => some []
  | n + 1, s :: ss => match compS S n s, compB' S n ss with
    | some x, some xs => some (x :: xs)
    | _, _ => none
end
end Pv
/-! Pv5: values and heaps; what a reading says of an evaluation. -/
namespace Pv
open PySem PySem.Spec PyProof.Rows L2

/-! ### data over a heap -/
mutual
inductive Rep (F : Hp) : V → D → Prop
  | non : Rep F .non .none
  | bl (b : Bool) : Rep F (.bl b) (.bool b)
  | int (i : Int) : Rep F (.int i) (.int i)
  | str (x : Str) : Rep F (.str x) (.str x)
  | lst {a : Addr} {xs : List V} {ds : List D} : F a = some (.lst xs) → Reps F xs ds → Rep F (.ref a) (.list ds)
  | tup {a : Addr} {xs : List V} {ds : List D} : F a = some (.tup xs) → Reps F xs ds → Rep F (.ref a) (.tuple ds)
inductive Reps (F : Hp) : List V → List D → Prop
  | nil : Reps F [] []
  | cons {v : V} {vs : List V} {d : D} {ds : List D} : Rep F v d → Reps F vs ds → Reps F (v :: vs) (d :: ds)
end
mutual
theorem Rep.mono {F F' : Hp} (s : Same F F') : ∀ {v : V} {d : D}, Rep F v d → Rep F' v d
  | _, _, .non => .non
  | _, _, .bl b => .bl b
  | _, _, .int i => .int i
  | _, _, .str x => .str x
  | _, _, .lst h r => .lst (s _ _ h) (Reps.mono s r)
  | _, _, .tup h r => .tup (s _ _ h) (Reps.mono s r)
theorem Reps.mono {F F' : Hp} (s : Same F F') : ∀ {vs : List V} {ds : List D}, Reps F vs ds → Reps F' vs ds
  | _, _, .nil => .nil
  | _, _, .cons h r => .cons (Rep.mono s h) (Reps.mono s r)
end
mutual
theorem Rep.dp {K : PySem.W.Frag} {F : Hp} : ∀ {v : V} {d : D}, Rep F v d → Dp K F v d
  | _, _, .non => .non
  | _, _, .bl b => .bl b
  | _, _, .int i => .int i
  | _, _, .str x => .str x
  | _, _, .lst h r => .lst (.of h) (Reps.dp r)
  | _, _, .tup h r => .tup (.of h) (Reps.dp r)
theorem Reps.dp {K : PySem.W.Frag} {F : Hp} : ∀ {vs : List V} {ds : List D}, Reps F vs ds → DpAll K F vs ds
  | _, _, .nil => .nil
  | _, _, .cons h r => .cons (Rep.dp h) (Reps.dp r)
end
theorem Reps.length {F : Hp} : ∀ {vs : List V} {ds : List D}, Reps F vs ds → vs.length = ds.length
  | _, _, .nil => rfl
  | _, _, .cons _ r => by rw [List.length_cons, List.length_cons, r.length]
theorem Reps.append {F : Hp} : ∀ {vs ws : List V} {ds es : List D}, Reps F vs ds → Reps F ws es → Reps F (vs ++ ws) (ds ++ es)
  | _, _, _, _, .nil, s => s
  | _, _, _, _, .cons h r, s => .cons h (r.append s)
theorem Reps.get {F : Hp} : ∀ {vs : List V} {ds : List D} {i : Nat} {d : D}, Reps F vs ds → ds[i]? = some d → ∃ v, vs[i]? = some v ∧ Rep F v d
  | _, _, _, _, .nil, e => by simp at e
  | _, _, 0, _, .cons h _, e => by simp at e; subst e; exact ⟨_, rfl, h⟩
  | _, _, i + 1, d, .cons _ r, e => by
    obtain ⟨v, h1, h2⟩ := Reps.get (i := i) (d := d) r (by simpa using e)
    exact ⟨v, by simpa using h1, h2⟩
theorem Reps.getV {F : Hp} : ∀ {vs : List V} {ds : List D} {i : Nat} {v : V}, Reps F vs ds → vs[i]? = some v → ∃ d, ds[i]? = some d ∧ Rep F v d
  | _, _, _, _, .nil, e => by simp at e
  | _, _, 0, _, .cons h _, e => by simp at e; subst e; exact ⟨_, rfl, h⟩
  | _, _, i + 1, d, .cons _ r, e => by
    obtain ⟨v, h1, h2⟩ := Reps.getV (i := i) (v := d) r (by simpa using e)
    exact ⟨v, by simpa using h1, h2⟩
theorem Reps.set {F : Hp} {v : V} {d : D} (h : Rep F v d) : ∀ {vs : List V} {ds : List D} (i : Nat), Reps F vs ds → Reps F (vs.set i v) (ds.set i d)
  | _, _, _, .nil => .nil
  | _, _, 0, .cons _ r => .cons h r
  | _, _, i + 1, .cons q r => .cons q (Reps.set h i r)
theorem Reps.take {F : Hp} : ∀ {vs : List V} {ds : List D} (n : Nat), Reps F vs ds → Reps F (vs.take n) (ds.take n)
  | _, _, 0, _ => .nil
  | _, _, _ + 1, .nil => .nil
  | _, _, n + 1, .cons h r => .cons h (Reps.take n r)
theorem Reps.drop {F : Hp} : ∀ {vs : List V} {ds : List D} (n : Nat), Reps F vs ds → Reps F (vs.drop n) (ds.drop n)
  | _, _, 0, r => r
  | _, _, _ + 1, .nil => .nil
  | _, _, n + 1, .cons _ r => Reps.drop n r
theorem Reps.eraseIdx {F : Hp} : ∀ {vs : List V} {ds : List D} (n : Nat), Reps F vs ds → Reps F (vs.eraseIdx n) (ds.eraseIdx n)
  | _, _, _, .nil => .nil
  | _, _, 0, .cons _ r => r
  | _, _, n + 1, .cons h r => .cons h (Reps.eraseIdx n r)
theorem Reps.reverse {F : Hp} {vs : List V} {ds : List D} (h : Reps F vs ds) : Reps F vs.reverse ds.reverse := by
  have : ∀ {vs : List V} {ds : List D}, Reps F vs ds → ∀ {ws : List V} {es : List D}, Reps F ws es → Reps F (vs.reverseAux ws) (ds.reverseAux es) := by
    intro vs ds h
    induction ds generalizing vs with
    | nil => cases h; intro ws es r; exact r
    | cons d ds ih =>
      cases h with
      | cons h1 h2 => intro ws es r; exact ih h2 (.cons h1 r)
  exact this h .nil
theorem Reps.rep {F : Hp} {vs : List V} {ds : List D} (h : Reps F vs ds) : ∀ k : Nat, Reps F (List.replicate k vs).flatten (List.replicate k ds).flatten
  | 0 => .nil
  | k + 1 => by
    rw [List.replicate_succ, List.replicate_succ, List.flatten_cons, List.flatten_cons]
    exact h.append (h.rep k)
theorem Reps.dropLast {F : Hp} {vs : List V} {ds : List D} (h : Reps F vs ds) : Reps F vs.dropLast ds.dropLast := by
  rw [List.dropLast_eq_take, List.dropLast_eq_take, h.length]
  exact h.take _
theorem Reps.ints {F : Hp} : ∀ {vs : List V} {ds : List D} {ns : List Int}, Reps F vs ds → intsOf ds = some ns → vs = ns.map V.int ∧ ds = ns.map .int
  | _, _, _, .nil, e => by cases e; exact ⟨rfl, rfl⟩
  | _, _, ns, .cons (d := d) (ds := ds) h r, e => by
    cases d with
    | int i =>
      cases h
      unfold intsOf at e
      cases q : intsOf ds with
      | none => rw [q] at e; cases e
      | some ms =>
        rw [q] at e
        cases e
        obtain ⟨h1, h2⟩ := r.ints q
        exact ⟨by rw [h1]; rfl, by rw [h2]; rfl⟩
    | _ => simp [intsOf] at e
theorem Reps.of_ints {F : Hp} : ∀ ns : List Int, Reps F (ns.map V.int) (ns.map .int)
  | [] => .nil
  | n :: ns => .cons (.int n) (.of_ints ns)
theorem atI_len {α β : Type} {xs : List α} {ys : List β} (h : xs.length = ys.length) {i : Int} {y : β} (e : atI ys i = some y) : ∃ j, ixN xs.length i = some j ∧ ys[j]? = some y := by
  unfold atI at e
  rw [h]
  cases q : ixN ys.length i with
  | none => rw [q] at e; cases e
  | some j => rw [q] at e; exact ⟨j, rfl, e⟩
theorem Reps.atI {F : Hp} {vs : List V} {ds : List D} {i : Int} {d : D} (h : Reps F vs ds) (e : L2.atI ds i = some d) : ∃ v, L2.atI vs i = some v ∧ Rep F v d := by
  obtain ⟨j, h1, h2⟩ := atI_len h.length e
  obtain ⟨v, h3, h4⟩ := h.get h2
  exact ⟨v, by unfold L2.atI; rw [h1]; exact h3, h4⟩
theorem Reps.cut {F : Hp} {vs : List V} {ds : List D} (h : Reps F vs ds) (lo hi : Option Int) : Reps F (cutV vs lo hi) (cutL ds lo hi) := by
  unfold cutV cutL
  rw [h.length]
  exact (h.drop _).take _

/-! ### hidden places -/
def hide (O : List Addr) (H : Hp) : Hp := fun a => if a ∈ O then none else H a
theorem hide_of {O : List Addr} {H : Hp} {a : Addr} {o : HO} (h : hide O H a = some o) : H a = some o ∧ a ∉ O := by
  unfold hide at h
  split at h
  · cases h
  · rename_i q; exact ⟨h, q⟩
theorem hide_mk {O : List Addr} {H : Hp} {a : Addr} {o : HO} (h : H a = some o) (n : a ∉ O) : hide O H a = some o := by
  unfold hide
  rw [if_neg n]
  exact h
theorem hide_same (O : List Addr) (H : Hp) : Same (hide O H) H := fun _ _ h => (hide_of h).1
theorem hide_sub {O O' : List Addr} {H : Hp} (h : ∀ a ∈ O', a ∈ O) : Same (hide O H) (hide O' H) := fun a o e => by
  obtain ⟨h1, h2⟩ := hide_of e
  exact hide_mk h1 fun q => h2 (h a q)

/-! ### slots -/
def oa : L2.St → Env → List Addr
  | some (.ref p) :: σ, .own _ :: env => p :: oa σ env
  | _ :: σ, _ :: env => oa σ env
  | _, _ => []
inductive RepD (F : Hp) : List (Key × V) → List (Key × D) → Prop
  | nil : RepD F [] []
  | cons {k : Key} {v : V} {d : D} {vs : List (Key × V)} {ds : List (Key × D)} : Rep F v d → RepD F vs ds → RepD F ((k, v) :: vs) ((k, d) :: ds)
theorem RepD.mono {F F' : Hp} (s : Same F F') : ∀ {vs : List (Key × V)} {ds : List (Key × D)}, RepD F vs ds → RepD F' vs ds
  | _, _, .nil => .nil
  | _, _, .cons h r => .cons (h.mono s) (r.mono s)
inductive RepT (F : Hp) : List (List Key × V) → List (List Key × D) → Prop
  | nil : RepT F [] []
  | cons {k : List Key} {v : V} {d : D} {vs : List (List Key × V)} {ds : List (List Key × D)} : Rep F v d → RepT F vs ds → RepT F ((k, v) :: vs) ((k, d) :: ds)
theorem RepT.mono {F F' : Hp} (s : Same F F') : ∀ {vs : List (List Key × V)} {ds : List (List Key × D)}, RepT F vs ds → RepT F' vs ds
  | _, _, .nil => .nil
  | _, _, .cons h r => .cons (h.mono s) (r.mono s)
def OvR (F H : Hp) (p : Addr) : OV → Prop
  | .lst xs => ∃ vs, H p = some (.lst vs) ∧ Reps F vs xs
  | .dk kvs => ∃ ws, H p = some (.dK ws) ∧ RepD F ws kvs
  | .dt kvs => ∃ ws, H p = some (.dT ws) ∧ RepT F ws kvs
theorem OvR.tracked {F H : Hp} {p : Addr} {o : OV} (h : OvR F H p o) : ∃ u, H p = some u := by
  cases o <;> obtain ⟨_, e, _⟩ := h <;> exact ⟨_, e⟩
theorem OvR.mono {F F' H H' : Hp} {p : Addr} {o : OV} (h : OvR F H p o) (s : Same F F') (e : H' p = H p) : OvR F' H' p o := by
  cases o with
  | lst xs => obtain ⟨vs, h1, h2⟩ := h; exact ⟨vs, e.trans h1, h2.mono s⟩
  | dk xs => obtain ⟨vs, h1, h2⟩ := h; exact ⟨vs, e.trans h1, h2.mono s⟩
  | dt xs => obtain ⟨vs, h1, h2⟩ := h; exact ⟨vs, e.trans h1, h2.mono s⟩
def VvR (K : PySem.W.Frag) (F : Hp) (v : V) : Vv → Prop
  | .d x => Rep F v x
  | .scr ns => ∃ a, v = .ref a ∧ SqL K F a (ns.map V.int)
  | .obj _ => False
  | .fn _ => False
theorem sqL_mono {K : PySem.W.Frag} {F F' : Hp} {a : Addr} {xs : List V} (s : Same F F') (h : SqL K F a xs) : SqL K F' a xs := by
  rcases h with (h | ⟨o, h⟩) | h
  · exact .inl (.inl (s _ _ h))
  · exact .inl (.inr ⟨o, s _ _ h⟩)
  · exact .inr h
theorem VvR.mono {K : PySem.W.Frag} {F F' : Hp} {v : V} {x : Vv} (s : Same F F') (h : VvR K F v x) : VvR K F' v x := by
  cases x with
  | d x => exact Rep.mono s h
  | scr ns => obtain ⟨a, e, q⟩ := h; exact ⟨a, e, sqL_mono s q⟩
  | obj _ => exact h
  | fn _ => exact h
def SlotR (K : PySem.W.Frag) (F H : Hp) (x : Option V) : Slot → Prop
  | .non => True
  | .val v => ∃ y, x = some y ∧ VvR K F y v
  | .own o => ∃ p, x = some (.ref p) ∧ OvR F H p o
/-- slot by slot -/
inductive SlotsR (K : PySem.W.Frag) (F H : Hp) : L2.St → Env → Prop
  | nil : SlotsR K F H [] []
  | cons {x : Option V} {s : Slot} {σ : L2.St} {env : Env} : SlotR K F H x s → SlotsR K F H σ env → SlotsR K F H (x :: σ) (s :: env)
section
variable {K : PySem.W.Frag} {F F' H H' : Hp} {σ : L2.St} {env : Env}
theorem SlotsR.length : ∀ {σ : L2.St} {env : Env}, SlotsR K F H σ env → σ.length = env.length
  | _, _, .nil => rfl
  | _, _, .cons _ r => by rw [List.length_cons, List.length_cons, r.length]
theorem SlotsR.get : ∀ {σ : L2.St} {env : Env} {i : Nat} {s : Slot}, SlotsR K F H σ env → env[i]? = some s → ∃ x, σ[i]? = some x ∧ SlotR K F H x s
  | _, _, _, _, .nil, e => by simp at e
  | _, _, 0, _, .cons h _, e => by simp at e; subst e; exact ⟨_, rfl, h⟩
  | _, _, i + 1, s, .cons _ r, e => by
    obtain ⟨v, h1, h2⟩ := SlotsR.get (i := i) (s := s) r (by simpa using e)
    exact ⟨v, by simpa using h1, h2⟩
theorem SlotsR.mono : ∀ {σ : L2.St} {env : Env}, SlotsR K F H σ env → Same F F' → (∀ p ∈ oa σ env, H' p = H p) → SlotsR K F' H' σ env
  | _, _, .nil, _, _ => .nil
  | _, _, .cons (x := x) (s := s) (σ := σ) (env := env) h r, sm, k => by
    cases s with
    | non => exact .cons trivial (r.mono sm fun p hp => k p (by cases x with | none => exact hp | some v => cases v <;> exact hp))
    | val v =>
      obtain ⟨y, e, q⟩ := h
      subst e
      exact .cons ⟨y, rfl, q.mono sm⟩ (r.mono sm fun p hp => k p (by cases y <;> exact hp))
    | own o =>
      obtain ⟨p, e, q⟩ := h
      subst e
      exact .cons ⟨p, rfl, q.mono sm (k p List.mem_cons_self)⟩ (r.mono sm fun p' hp => k p' (List.mem_cons_of_mem _ hp))
theorem SlotsR.own_tracked : ∀ {σ : L2.St} {env : Env}, SlotsR K F H σ env → ∀ p ∈ oa σ env, ∃ u, H p = some u
  | _, _, .nil, p, hp => by cases hp
  | _, _, .cons (x := x) (s := s) (σ := σ) (env := env) h r, p, hp => by
    cases s with
    | non => exact r.own_tracked p (by cases x with | none => exact hp | some v => cases v <;> exact hp)
    | val v => exact r.own_tracked p (by cases x with | none => exact hp | some v => cases v <;> exact hp)
    | own o =>
      obtain ⟨p', e, q⟩ := h
      subst e
      rcases List.mem_cons.mp hp with rfl | hp
      · exact q.tracked
      · exact r.own_tracked p hp
theorem oa_mem : ∀ {σ : L2.St} {env : Env} {i : Nat} {p : Addr} {o : OV}, σ[i]? = some (some (.ref p)) → env[i]? = some (.own o) → p ∈ oa σ env
  | [], _, _, _, _, h, _ => by simp at h
  | _ :: _, [], _, _, _, _, h => by simp at h
  | x :: σ, s :: env, 0, p, o, h1, h2 => by
    simp at h1 h2
    subst h1 h2
    exact List.mem_cons_self
  | x :: σ, s :: env, i + 1, p, o, h1, h2 => by
    have ih := oa_mem (σ := σ) (env := env) (i := i) (p := p) (o := o) (by simpa using h1) (by simpa using h2)
    cases s with
    | own o' => cases x with
      | none => exact ih
      | some v => cases v with
        | ref q => exact List.mem_cons_of_mem _ ih
        | _ => exact ih
    | _ => cases x with
      | none => exact ih
      | some v => cases v <;> exact ih
/-- the owned places when a slot is set: some of them, and perhaps a new one -/
theorem oa_set : ∀ (σ : L2.St) (env : Env) (i : Nat) (x : Option V) (s : Slot), ∀ q ∈ oa (σ.set i x) (env.set i s), q ∈ oa σ env ∨ (x = some (.ref q) ∧ ∃ o, s = .own o)
  | [], _, _, _, _, q, hq => by cases hq
  | _ :: _, [], i, x, s, q, hq => by cases i <;> (rw [List.set_nil] at hq; cases x <;> simp [oa] at hq)
  | y :: σ, u :: env, 0, x, s, q, hq => by
    simp only [List.set_cons_zero] at hq
    cases s with
    | own o => cases x with
      | none => exact .inl (by cases u <;> first | exact hq | (cases y with | none => exact hq | some v => cases v <;> first | exact hq | exact List.mem_cons_of_mem _ hq))
      | some v => cases v with
        | ref p =>
          rcases List.mem_cons.mp hq with rfl | hq
          · exact .inr ⟨rfl, o, rfl⟩
          · exact .inl (by cases u <;> first | exact hq | (cases y with | none => exact hq | some v => cases v <;> first | exact hq | exact List.mem_cons_of_mem _ hq))
        | _ => exact .inl (by cases u <;> first | exact hq | (cases y with | none => exact hq | some v => cases v <;> first | exact hq | exact List.mem_cons_of_mem _ hq))
    | _ => exact .inl (by
        have hq' : q ∈ oa σ env := by cases x with | none => exact hq | some v => cases v <;> exact hq
        cases u <;> first | exact hq' | (cases y with | none => exact hq' | some v => cases v <;> first | exact hq' | exact List.mem_cons_of_mem _ hq'))
  | y :: σ, u :: env, i + 1, x, s, q, hq => by
    simp only [List.set_cons_succ] at hq
    have ih := oa_set σ env i x s q
    cases u with
    | own o => cases y with
      | none => exact ih hq
      | some v => cases v with
        | ref p =>
          rcases List.mem_cons.mp hq with rfl | hq
          · exact .inl List.mem_cons_self
          · exact (ih hq).imp (List.mem_cons_of_mem _) id
        | _ => exact ih hq
    | _ => cases y with
      | none => exact ih hq
      | some v => cases v <;> exact ih hq
theorem oa_set_nodup : ∀ (σ : L2.St) (env : Env) (i : Nat) (x : Option V) (s : Slot), (oa σ env).Nodup → (∀ p o, x = some (.ref p) → s = .own o → p ∉ oa (σ.set i none) (env.set i .non)) → (oa (σ.set i x) (env.set i s)).Nodup
  | [], _, _, _, _, _, _ => List.nodup_nil
  | _ :: _, [], i, x, s, _, _ => by cases i <;> (rw [List.set_nil]; cases x <;> simp [oa])
  | y :: σ, u :: env, 0, x, s, hn, hp => by
    simp only [List.set_cons_zero] at hp ⊢
    have hn' : (oa σ env).Nodup := by
      cases u <;> first | exact hn | (cases y with | none => exact hn | some v => cases v <;> first | exact hn | exact (List.nodup_cons.mp hn).2)
    cases s with
    | own o => cases x with
      | none => exact hn'
      | some v => cases v with
        | ref p => exact List.nodup_cons.mpr ⟨hp p o rfl rfl, hn'⟩
        | _ => exact hn'
    | _ => cases x with
      | none => exact hn'
      | some v => cases v <;> exact hn'
  | y :: σ, u :: env, i + 1, x, s, hn, hp => by
    simp only [List.set_cons_succ] at hp ⊢
    cases u with
    | own o => cases y with
      | none => exact oa_set_nodup σ env i x s hn hp
      | some v => cases v with
        | ref p =>
          obtain ⟨h1, h2⟩ := List.nodup_cons.mp hn
          refine List.nodup_cons.mpr ⟨fun hq => ?_, oa_set_nodup σ env i x s h2 fun p' o' e1 e2 hm => hp p' o' e1 e2 (List.mem_cons_of_mem _ hm)⟩
          rcases oa_set σ env i x s p hq with z | ⟨z1, o', z2⟩
          · exact h1 z
          · exact hp p o' z1 z2 List.mem_cons_self
        | _ => exact oa_set_nodup σ env i x s hn hp
    | _ => cases y with
      | none => exact oa_set_nodup σ env i x s hn hp
      | some v => cases v <;> exact oa_set_nodup σ env i x s hn hp
/-- a slot freed: its own place is no longer among them -/
theorem oa_free : ∀ {σ : L2.St} {env : Env} {i : Nat} {p : Addr} {o : OV}, σ[i]? = some (some (.ref p)) → env[i]? = some (.own o) → (oa σ env).Nodup → p ∉ oa (σ.set i none) (env.set i .non)
  | [], _, _, _, _, h, _, _ => by simp at h
  | _ :: _, [], _, _, _, _, h, _ => by simp at h
  | x :: σ, s :: env, 0, p, o, h1, h2, hn => by
    simp at h1 h2
    subst h1 h2
    exact (List.nodup_cons.mp hn).1
  | x :: σ, s :: env, i + 1, p, o, h1, h2, hn => by
    have h1' : σ[i]? = some (some (.ref p)) := by simpa using h1
    have h2' : env[i]? = some (.own o) := by simpa using h2
    simp only [List.set_cons_succ]
    cases s with
    | own o' => cases x with
      | none => exact oa_free h1' h2' hn
      | some v => cases v with
        | ref q =>
          obtain ⟨n1, n2⟩ := List.nodup_cons.mp hn
          intro hm
          rcases List.mem_cons.mp hm with rfl | hm
          · exact n1 (oa_mem h1' h2')
          · exact oa_free h1' h2' n2 hm
        | _ => exact oa_free h1' h2' hn
    | _ => cases x with
      | none => exact oa_free h1' h2' hn
      | some v => cases v <;> exact oa_free h1' h2' hn
theorem oa_freeSub (σ : L2.St) (env : Env) (i : Nat) : ∀ q ∈ oa (σ.set i none) (env.set i .non), q ∈ oa σ env := fun q hq => (oa_set σ env i none .non q hq).elim id fun z => nomatch z.1
theorem SlotsR.set : ∀ {σ : L2.St} {env : Env} (i : Nat) {x : Option V} {s : Slot}, SlotsR K F H σ env → SlotR K F H x s → SlotsR K F H (σ.set i x) (env.set i s)
  | _, _, _, _, _, .nil, _ => .nil
  | _, _, 0, _, _, .cons _ r, h => .cons h r
  | _, _, i + 1, _, _, .cons q r, h => .cons q (r.set i h)
end

/-! ### the state -/
/-- other places that are hidden, and what stands there -/
abbrev Tp := List (Addr × HO)
abbrev ad (tp : Tp) : List Addr := tp.map (·.1)
structure Rl (K : PySem.W.Frag) (B : Hp) (σ : L2.St) (env : Env) (tp : Tp) (H : Hp) : Prop where
  le : Same B (hide (oa σ env ++ ad tp) H)
  sl : SlotsR K (hide (oa σ env ++ ad tp) H) H σ env
  nd : (oa σ env ++ ad tp).Nodup
  tk : ∀ q ∈ tp, H q.1 = some q.2
abbrev fz (σ : L2.St) (env : Env) (tp : Tp) (H : Hp) : Hp := hide (oa σ env ++ ad tp) H
section
variable {K : PySem.W.Frag} {B : Hp} {σ : L2.St} {env : Env} {tp : Tp} {H : Hp} {p : Addr} {o : HO}
theorem ad_tk (h : ∀ q ∈ tp, H q.1 = some q.2) {p : Addr} (hp : p ∈ ad tp) : ∃ u, (p, u) ∈ tp ∧ H p = some u := by
  obtain ⟨q, hq, rfl⟩ := List.mem_map.mp hp
  exact ⟨q.2, hq, h q hq⟩
theorem Rl.out (R : Rl K B σ env tp H) (h : H p = none) : p ∉ oa σ env ++ ad tp := fun hm => by
  have : ∃ u, H p = some u := (List.mem_append.mp hm).elim (R.sl.own_tracked p) fun z => let ⟨u, _, e⟩ := ad_tk R.tk z; ⟨u, e⟩
  obtain ⟨u, e⟩ := this
  rw [h] at e
  cases e
theorem fz_upd (h : H p = none) : Same (fz σ env tp H) (fz σ env tp (upd H p o)) := fun a u e => by
  obtain ⟨h1, h2⟩ := hide_of e
  exact hide_mk (by rw [upd_ne (ne_of_none h1 h)]; exact h1) h2
/-- a new frozen object -/
theorem Rl.alloc (R : Rl K B σ env tp H) (h : H p = none) : Rl K B σ env tp (upd H p o) where
  le := R.le.trans (fz_upd h)
  sl := R.sl.mono (fz_upd h) fun q hq => upd_ne fun e => R.out h (e ▸ List.mem_append_left _ hq)
  nd := R.nd
  tk := fun q hq => by rw [upd_ne (ne_of_none (R.tk q hq) h)]; exact R.tk q hq
theorem Rl.at_ (R : Rl K B σ env tp H) (h : H p = none) : fz σ env tp (upd H p o) p = some o := hide_mk upd_same (R.out h)
theorem mem_mid {q : Addr} {l : List Addr} {m : List Addr} : q ∈ l ++ p :: m ↔ q = p ∨ q ∈ l ++ m := by
  simp only [List.mem_append, List.mem_cons]
  constructor
  · rintro (h | h | h)
    · exact .inr (.inl h)
    · exact .inl h
    · exact .inr (.inr h)
  · rintro (h | h | h)
    · exact .inr (.inl h)
    · exact .inl h
    · exact .inr (.inr h)
/-- a new object of our own -/
theorem Rl.allocO (R : Rl K B σ env tp H) (h : H p = none) : Same (fz σ env tp H) (fz σ env ((p, o) :: tp) (upd H p o)) ∧ Rl K B σ env ((p, o) :: tp) (upd H p o) := by
  have s : Same (fz σ env tp H) (fz σ env ((p, o) :: tp) (upd H p o)) := fun a u e => by
    obtain ⟨h1, h2⟩ := hide_of e
    refine hide_mk (by rw [upd_ne (ne_of_none h1 h)]; exact h1) fun q => ?_
    rcases mem_mid.mp q with q | q
    · exact ne_of_none h1 h q
    · exact h2 q
  refine ⟨s, R.le.trans s, R.sl.mono s fun q hq => upd_ne fun e => R.out h (e ▸ List.mem_append_left _ hq), ?_, fun q hq => ?_⟩
  · have n := R.out h
    exact (List.perm_middle (l₁ := oa σ env) (a := p) (l₂ := ad tp)).nodup_iff.mpr (List.nodup_cons.mpr ⟨n, R.nd⟩)
  · rcases List.mem_cons.mp hq with rfl | hq
    · exact upd_same
    · rw [upd_ne (ne_of_none (R.tk q hq) h)]; exact R.tk q hq
/-- a pending object of ours is frozen -/
theorem Rl.freeze (R : Rl K B σ env ((p, o) :: tp) H) : Same (fz σ env ((p, o) :: tp) H) (fz σ env tp H) ∧ Rl K B σ env tp H ∧ p ∉ oa σ env ++ ad tp ∧ H p = some o := by
  have s : Same (fz σ env ((p, o) :: tp) H) (fz σ env tp H) := hide_sub fun a ha => mem_mid.mpr (.inr ha)
  have n := List.nodup_cons.mp ((List.perm_middle (l₁ := oa σ env) (a := p) (l₂ := ad tp)).nodup_iff.mp R.nd)
  exact ⟨s, ⟨R.le.trans s, R.sl.mono s fun _ _ => rfl, n.2, fun q hq => R.tk q (List.mem_cons_of_mem _ hq)⟩, n.1, R.tk (p, o) List.mem_cons_self⟩
theorem Rl.base (R : Rl K B σ env tp H) : Rl K (fz σ env tp H) σ env tp H := ⟨Same.refl _, R.sl, R.nd, R.tk⟩
theorem Rl.down {B' : Hp} (R : Rl K B σ env tp H) (s : Same B' B) : Rl K B' σ env tp H := ⟨s.trans R.le, R.sl, R.nd, R.tk⟩
/-- all that the frame hides, with what stands there: what a callee finds hidden -/
def hid (σ : L2.St) (env : Env) (tp : Tp) (H : Hp) : Tp := (oa σ env).filterMap (fun p => (H p).map fun o => (p, o)) ++ tp
theorem ad_filter {l : List Addr} {H : Hp} (h : ∀ p ∈ l, ∃ u, H p = some u) : ad (l.filterMap fun p => (H p).map fun o => (p, o)) = l := by
  induction l with
  | nil => rfl
  | cons p l ih =>
    obtain ⟨u, e⟩ := h p List.mem_cons_self
    simp only [ad, List.filterMap_cons, e, Option.map_some, List.map_cons]
    rw [show List.map (fun x => x.1) (l.filterMap fun p => (H p).map fun o => (p, o)) = l from ih fun q hq => h q (List.mem_cons_of_mem _ hq)]
theorem Rl.ad_hid (R : Rl K B σ env tp H) : ad (hid σ env tp H) = oa σ env ++ ad tp := by
  unfold hid
  rw [ad, List.map_append]
  exact congrArg (· ++ ad tp) (ad_filter R.sl.own_tracked)
theorem Rl.tk_hid (R : Rl K B σ env tp H) : ∀ q ∈ hid σ env tp H, H q.1 = some q.2 := fun q hq => by
  rcases List.mem_append.mp hq with h | h
  · obtain ⟨p, _, e⟩ := List.mem_filterMap.mp h
    cases z : H p with
    | none => rw [z] at e; cases e
    | some u => rw [z] at e; cases e; exact z
  · exact R.tk q h
/-- behind a callee: the hidden stays, the frozen stays -/
theorem Rl.after {H' : Hp} (R : Rl K B σ env tp H) (s : Same (fz σ env tp H) (fz σ env tp H')) (k : ∀ q ∈ hid σ env tp H, H' q.1 = some q.2) : Rl K B σ env tp H' where
  le := R.le.trans s
  sl := R.sl.mono s fun p hp => by
    obtain ⟨u, e⟩ := R.sl.own_tracked p hp
    rw [e]
    exact k (p, u) (List.mem_append_left _ (List.mem_filterMap.mpr ⟨p, hp, by rw [e]; rfl⟩))
  nd := R.nd
  tk := fun q hq => k q (List.mem_append_right _ hq)
end
end Pv
/-! Pv6: readings of evaluations; operators. -/
namespace Pv
open PySem PySem.Spec PyProof.Rows L2
section
variable {α β : Type} {m : M α} {f : α → M β} {t : Sto} {a : α} {ok ok' : α → Sto → Prop} {ex ex' : Str → Sto → Prop}
def wpm (m : M α) (t : Sto) (ok : α → Sto → Prop) (ex : Str → Sto → Prop) : Prop := match m t with
  | .ok a t' => ok a t'
  | .exc x t' => ex x t'
  | .stuck => False
theorem wpm_bnd {ok : β → Sto → Prop} : wpm (bnd m f) t ok ex = wpm m t (fun a t' => wpm (f a) t' ok ex) ex := by
  unfold wpm bnd
  cases m t <;> rfl
theorem wpm_mono (h : wpm m t ok ex) (ho : ∀ a t', ok a t' → ok' a t') (he : ∀ x t', ex x t' → ex' x t') : wpm m t ok' ex' := by
  unfold wpm at h ⊢
  cases q : m t with
  | ok a t' => rw [q] at h; exact ho _ _ h
  | exc x t' => rw [q] at h; exact he _ _ h
  | stuck => rw [q] at h; exact h
theorem wpm_guard {b : Bool} (h : wpm (guard b m) t ok ex) : b = true ∧ wpm m t ok ex := by
  cases b with
  | true => exact ⟨rfl, h⟩
  | false => exact h.elim
theorem wpm_ret (h : wpm (ret a) t ok ex) : ok a t := h
theorem wpm_asD {r : RV} {g : D → M α} (h : wpm (asD r g) t ok ex) : ∃ x, r.dat = some x ∧ wpm (g x) t ok ex := by
  unfold asD at h
  cases q : r.dat with
  | none => rw [q] at h; exact h.elim
  | some x => rw [q] at h; exact ⟨x, rfl, h⟩
end

/-- a value that is looked at: its own place may be hidden -/
def RdR (F H : Hp) (v : V) : D → Prop
  | .list xs => ∃ p vs, v = .ref p ∧ H p = some (.lst vs) ∧ Reps F vs xs
  | d => Rep F v d
/-- an operand -/
def OpdR (K : PySem.W.Frag) (σ : L2.St) (env : Env) (F : Hp) (v : V) : RV → Prop
  | .v x => VvR K F v x
  | .fr o => ∃ p, v = .ref p ∧ OvR F F p o
  | .bo i o => σ[i]? = some (some v) ∧ env[i]? = some (.own o)
/-- behind an expression -/
def PostE (K : PySem.W.Frag) (B : Hp) (σ : L2.St) (env : Env) (tp : Tp) (rv : RV) (v : V) (H : Hp) : Prop := match rv with
  | .v x => Rl K B σ env tp H ∧ VvR K (fz σ env tp H) v x
  | .fr o => ∃ p u, v = .ref p ∧ Rl K B σ env ((p, u) :: tp) H ∧ OvR (fz σ env ((p, u) :: tp) H) H p o
  | .bo i o => Rl K B σ env tp H ∧ σ[i]? = some (some v) ∧ env[i]? = some (.own o)
section
variable {K : PySem.W.Frag} {B F F' : Hp} {σ : L2.St} {env : Env} {tp : Tp} {H : Hp} {v : V} {r : RV} {d : D} {p : Addr}
theorem RdR.of (h : Rep F v d) (s : Same F H) : RdR F H v d := by
  cases d with
  | list xs => cases h with | lst h1 h2 => exact ⟨_, _, rfl, s _ _ h1, h2⟩
  | _ => exact h
theorem RdR.rep (h : RdR F H v d) (s : Same F H) : Rep H v d := by
  cases d with
  | list xs => obtain ⟨p, vs, rfl, h1, h2⟩ := h; exact .lst h1 (h2.mono s)
  | _ => exact Rep.mono s h
theorem OpdR.mono (s : Same F F') (h : OpdR K σ env F v r) : OpdR K σ env F' v r := by
  cases r with
  | v x => exact VvR.mono s h
  | fr o =>
    obtain ⟨p, e, q⟩ := h
    obtain ⟨u, hu⟩ := q.tracked
    exact ⟨p, e, q.mono s ((s _ _ hu).trans hu.symm)⟩
  | bo i o => exact h
theorem PostE.opd (h : PostE K B σ env tp r v H) : Rl K B σ env tp H ∧ OpdR K σ env (fz σ env tp H) v r := by
  cases r with
  | v x => exact h
  | fr o =>
    obtain ⟨p, u, e, R, q⟩ := h
    obtain ⟨s, R', n, hu⟩ := R.freeze
    exact ⟨R', p, e, q.mono s ((hide_mk hu n).trans hu.symm)⟩
  | bo i o => exact ⟨h.1, h.2⟩
theorem OpdR.rd (R : Rl K B σ env tp H) (h : OpdR K σ env (fz σ env tp H) v r) (e : r.dat = some d) : RdR (fz σ env tp H) H v d := by
  cases r with
  | v x => cases x with
    | d x => cases e; exact RdR.of h (hide_same _ _)
    | _ => cases e
  | fr o => cases o with
    | lst xs =>
      cases e
      obtain ⟨p, rfl, vs, h1, h2⟩ := h
      exact ⟨p, vs, rfl, (hide_of h1).1, h2⟩
    | _ => cases e
  | bo i o => cases o with
    | lst xs =>
      cases e
      obtain ⟨h1, h2⟩ := h
      obtain ⟨y, e1, q⟩ := R.sl.get h2
      obtain ⟨p, e2, vs, h3, h4⟩ := q
      rw [h1] at e1
      cases e1
      cases e2
      exact ⟨p, vs, rfl, h3, h4⟩
    | _ => cases e
theorem Same.fz : Same (fz σ env tp H) H := hide_same _ _
theorem post_d (R : Rl K B σ env tp H) (h : Rep (fz σ env tp H) v d) : PostE K B σ env tp (rd d) v H := ⟨R, h⟩
theorem post_tup (R : Rl K B σ env tp H) {vs : List V} {ds : List D} (n : H p = none) (h : Reps (fz σ env tp H) vs ds) : PostE K B σ env tp (rd (.tuple ds)) (.ref p) (upd H p (.tup vs)) :=
  ⟨R.alloc n, .tup (R.at_ n) (h.mono (fz_upd n))⟩
theorem post_lst (R : Rl K B σ env tp H) {vs : List V} {ds : List D} (n : H p = none) (h : Reps (fz σ env tp H) vs ds) : PostE K B σ env tp (.fr (.lst ds)) (.ref p) (upd H p (.lst vs)) := by
  obtain ⟨s, R'⟩ := R.allocO (o := .lst vs) n
  exact ⟨p, _, rfl, R', vs, upd_same, h.mono s⟩
end

/-! ### readings -/
abbrev WN := Str → L2.St → Hp → Prop
def tE (K : PySem.W.Frag) (m : Env → M RV) (W : WN) : TE := fun σ H Q => ∃ B env tp t, Rl K B σ env tp H ∧ wpm (m env) t (fun rv _ => ∀ v H', PostE K B σ env tp rv v H' → Q v H') fun x _ => ∀ H', Rl K B σ env tp H' → W x σ H'
def tT (K : PySem.W.Frag) (m : Env → M Bool) (W : WN) : TT := fun σ H Q => ∃ B env tp t, Rl K B σ env tp H ∧ wpm (m env) t (fun b _ => ∀ H', Rl K B σ env tp H' → Q b H') fun x _ => ∀ H', Rl K B σ env tp H' → W x σ H'
inductive OpdsR (K : PySem.W.Frag) (σ : L2.St) (env : Env) (F : Hp) : List V → List RV → Prop
  | nil : OpdsR K σ env F [] []
  | cons {v : V} {vs : List V} {r : RV} {rs : List RV} : OpdR K σ env F v r → OpdsR K σ env F vs rs → OpdsR K σ env F (v :: vs) (r :: rs)
theorem OpdsR.mono {K : PySem.W.Frag} {σ : L2.St} {env : Env} {F F' : Hp} (s : Same F F') : ∀ {vs : List V} {rs : List RV}, OpdsR K σ env F vs rs → OpdsR K σ env F' vs rs
  | _, _, .nil => .nil
  | _, _, .cons h q => .cons (h.mono s) (q.mono s)
def tAr (K : PySem.W.Frag) (m : Env → M (List RV)) (W : WN) : TA := fun σ H Q => ∃ B env tp t, Rl K B σ env tp H ∧ wpm (m env) t (fun rs _ => ∀ vs H', Rl K B σ env tp H' → OpdsR K σ env (fz σ env tp H') vs rs → Q vs H') fun x _ => ∀ H', Rl K B σ env tp H' → W x σ H'
theorem pe_imp {X : Cx} {e : Expr} {t t' : TE} (h : PE X e t) (i : ∀ σ H Q, t' σ H Q → t σ H Q) : PE X e t' := ⟨fun pins s σ H Q I q => h.run pins s σ H Q I (i σ H Q q)⟩
theorem pt_imp {X : Cx} {e : Expr} {t t' : TT} (h : PT X e t) (i : ∀ σ H Q, t' σ H Q → t σ H Q) : PT X e t' := ⟨fun pins s σ H Q I q => h.run pins s σ H Q I (i σ H Q q)⟩
theorem pa_imp {X : Cx} {e : List Expr} {t t' : TA} (h : PA X e t) (i : ∀ σ H Q, t' σ H Q → t σ H Q) : PA X e t' := ⟨fun pos pins s σ H Q I q => h.run pos pins s σ H Q I (i σ H Q q)⟩
theorem ps_imp {X : Cx} {e : Stmt} {t t' : TS} (h : PS X e t) (i : ∀ D σ H, t' D σ H → t D σ H) : PS X e t' := ⟨fun pins s σ H D I q => h.run pins s σ H D I (i D σ H q)⟩
theorem pss_imp {X : Cx} {e : List Stmt} {t t' : TS} (h : PSs X e t) (i : ∀ D σ H, t' D σ H → t D σ H) : PSs X e t' := ⟨fun pins s σ H D I q => h.run pins s σ H D I (i D σ H q)⟩
section
variable {K : PySem.W.Frag} {B : Hp} {σ : L2.St} {env : Env} {tp : Tp} {H : Hp} {W : WN} {t : Sto} {β : Type} {OK : β → Sto → Prop} {EX : Str → Sto → Prop}
/-- what stands of exceptions -/
abbrev Exs (K : PySem.W.Frag) (B : Hp) (σ : L2.St) (env : Env) (tp : Tp) (W : WN) (EX : Str → Sto → Prop) : Prop := ∀ x t, EX x t → ∀ H', Rl K B σ env tp H' → W x σ H'
theorem Exs.base (h : Exs K B σ env tp W EX) (R : Rl K B σ env tp H) : Exs K (fz σ env tp H) σ env tp W EX := fun x t e H' R' => h x t e H' (R'.down R.le)
theorem tE_step {m : Env → M RV} {k : RV → M β} {Q : VK} (R : Rl K B σ env tp H) (h : wpm (bnd (m env) k) t OK EX) (hex : Exs K B σ env tp W EX)
    (hk : ∀ r t1 v H1, Rl K B σ env tp H1 → OpdR K σ env (fz σ env tp H1) v r → wpm (k r) t1 OK EX → Q v H1) : tE K m W σ H Q := by
  rw [wpm_bnd] at h
  exact ⟨B, env, tp, t, R, wpm_mono h (fun r t1 h1 v H1 p => hk r t1 v H1 p.opd.1 p.opd.2 h1) hex⟩
/-- the last part: its result is handed on as it is -/
theorem tE_last {m : Env → M RV} {Q : VK} (R : Rl K B σ env tp H) (h : wpm (m env) t (fun rv _ => ∀ v H', PostE K B σ env tp rv v H' → Q v H') EX) (hex : Exs K B σ env tp W EX) : tE K m W σ H Q :=
  ⟨B, env, tp, t, R, wpm_mono h (fun _ _ q => q) hex⟩
theorem tT_step {m : Env → M Bool} {k : Bool → M β} {Q : Bool → Hp → Prop} (R : Rl K B σ env tp H) (h : wpm (bnd (m env) k) t OK EX) (hex : Exs K B σ env tp W EX)
    (hk : ∀ b t1 H1, Rl K B σ env tp H1 → wpm (k b) t1 OK EX → Q b H1) : tT K m W σ H Q := by
  rw [wpm_bnd] at h
  exact ⟨B, env, tp, t, R, wpm_mono h (fun r t1 h1 H1 p => hk r t1 H1 p h1) hex⟩
theorem tAr_step {m : Env → M (List RV)} {k : List RV → M β} {Q : List V → Hp → Prop} (R : Rl K B σ env tp H) (h : wpm (bnd (m env) k) t OK EX) (hex : Exs K B σ env tp W EX)
    (hk : ∀ rs t1 vs H1, Rl K B σ env tp H1 → OpdsR K σ env (fz σ env tp H1) vs rs → wpm (k rs) t1 OK EX → Q vs H1) : tAr K m W σ H Q := by
  rw [wpm_bnd] at h
  exact ⟨B, env, tp, t, R, wpm_mono h (fun r t1 h1 vs H1 p q => hk r t1 vs H1 p q h1) hex⟩
end

/-! ### two operands -/
abbrev OKE (K : PySem.W.Frag) (B : Hp) (σ : L2.St) (env : Env) (tp : Tp) (Q : VK) : RV → Sto → Prop := fun rv _ => ∀ v H', PostE K B σ env tp rv v H' → Q v H'
/-- a rule by values serves a function of results -/
def Srv2 (K : PySem.W.Frag) (r : R2) (f : RV → RV → M RV) : Prop := ∀ (B : Hp) (σ : L2.St) (env : Env) (tp : Tp) (H : Hp) (t : Sto) (Q : VK) (x y : V) (a b : RV) (EX : Str → Sto → Prop), Rl K B σ env tp H → OpdR K σ env (fz σ env tp H) x a → OpdR K σ env (fz σ env tp H) y b →
  wpm (f a b) t (OKE K B σ env tp Q) EX → r x y H Q
def Srv1 (K : PySem.W.Frag) (r : V → Hp → VK → Prop) (f : RV → M RV) : Prop := ∀ (B : Hp) (σ : L2.St) (env : Env) (tp : Tp) (H : Hp) (t : Sto) (Q : VK) (x : V) (a : RV) (EX : Str → Sto → Prop), Rl K B σ env tp H → OpdR K σ env (fz σ env tp H) x a →
  wpm (f a) t (OKE K B σ env tp Q) EX → r x H Q
theorem tOp_of {K : PySem.W.Frag} {r : R2} {f : RV → RV → M RV} {m1 m2 : Env → M RV} {W : WN} (s : Srv2 K r f) {σ : L2.St} {H : Hp} {Q : VK} (h : tE K (fun env => bnd (m1 env) fun a => bnd (m2 env) fun b => f a b) W σ H Q) : tOp r (tE K m1 W) (tE K m2 W) σ H Q := by
  obtain ⟨B, env, tp, t, R, h⟩ := h
  refine tE_step R h (fun _ _ q => q) fun a t1 x H1 R1 o1 h1 => ?_
  refine tE_step R1.base h1 (Exs.base (fun _ _ q => q) R1) fun b t2 y H2 R2 o2 h2 => ?_
  exact s B σ env tp H2 t2 Q x y a b _ (R2.down R1.le) (o1.mono R2.le) o2 h2
theorem tUn_of {K : PySem.W.Frag} {r : V → Hp → VK → Prop} {f : RV → M RV} {m : Env → M RV} {W : WN} (s : Srv1 K r f) {σ : L2.St} {H : Hp} {Q : VK} (h : tE K (fun env => bnd (m env) f) W σ H Q) : tUn r (tE K m W) σ H Q := by
  obtain ⟨B, env, tp, t, R, h⟩ := h
  refine tE_step R h (fun _ _ q => q) fun a t1 x H1 R1 o1 h1 => ?_
  exact s B σ env tp H1 t1 Q x a _ R1 o1 h1
/-- by data -/
theorem srv2_d {K : PySem.W.Frag} {r : R2} {f : D → D → M RV} (h : ∀ (B : Hp) (σ : L2.St) (env : Env) (tp : Tp) (H : Hp) (t : Sto) (Q : VK) (x y : V) (d e : D) (EX : Str → Sto → Prop), Rl K B σ env tp H → RdR (fz σ env tp H) H x d → RdR (fz σ env tp H) H y e →
    wpm (f d e) t (OKE K B σ env tp Q) EX → r x y H Q) : Srv2 K r fun a b => asD a fun x => asD b fun y => f x y := fun B σ env tp H t Q x y a b EX R oa ob w => by
  obtain ⟨d, ed, w⟩ := wpm_asD w
  obtain ⟨e, ee, w⟩ := wpm_asD w
  exact h B σ env tp H t Q x y d e EX R (oa.rd R ed) (ob.rd R ee) w
theorem srv1_d {K : PySem.W.Frag} {r : V → Hp → VK → Prop} {f : D → M RV} (h : ∀ (B : Hp) (σ : L2.St) (env : Env) (tp : Tp) (H : Hp) (t : Sto) (Q : VK) (x : V) (d : D) (EX : Str → Sto → Prop), Rl K B σ env tp H → RdR (fz σ env tp H) H x d →
    wpm (f d) t (OKE K B σ env tp Q) EX → r x H Q) : Srv1 K r fun a => asD a f := fun B σ env tp H t Q x a EX R oa w => by
  obtain ⟨d, ed, w⟩ := wpm_asD w
  exact h B σ env tp H t Q x d EX R (oa.rd R ed) w

theorem fits_le {n : Nat} (h : fits n = true) : n ≤ sizeLine := by
  have h' : n ≤ 16777216 := of_decide_eq_true h
  exact Nat.le_trans h' (by decide)
theorem smallI_of {i : Int} (h : smallI i = true) : -(2 ^ 64) < i ∧ i < 2 ^ 64 := by
  have h : -18446744073709551616 < i ∧ i < 18446744073709551616 := of_decide_eq_true h
  have e : (2 : Int) ^ 64 = 18446744073709551616 := by decide
  rw [e]
  exact h
theorem mulOk_of {i j : Int} (h : mulOk i j = true) : CMul i j := by
  rcases Bool.or_eq_true_iff.mp h with h | h
  · exact .inl (smallI_of h)
  · exact .inr (smallI_of h)
theorem rd_int {F H : Hp} {v : V} {i : Int} (h : RdR F H v (.int i)) : v = .int i := by cases h; rfl
theorem rd_str {F H : Hp} {v : V} {x : Str} (h : RdR F H v (.str x)) : v = .str x := by cases h; rfl
theorem rd_bl {F H : Hp} {v : V} {b : Bool} (h : RdR F H v (.bool b)) : v = .bl b := by cases h; rfl
theorem rd_non {F H : Hp} {v : V} (h : RdR F H v .none) : v = .non := by cases h; rfl
theorem rd_tup {F H : Hp} {v : V} {xs : List D} (h : RdR F H v (.tuple xs)) : ∃ p vs, v = .ref p ∧ F p = some (.tup vs) ∧ Reps F vs xs := by
  cases h with | tup h1 h2 => exact ⟨_, _, rfl, h1, h2⟩
section
variable {X : Cx} {a b : Expr} {pos : Pos} {m1 m2 : Env → M RV} {W : WN}
theorem wpm_stk {α : Type} {t : Sto} {ok : α → Sto → Prop} {ex : Str → Sto → Prop} {P : Prop} (h : wpm (stk : M α) t ok ex) : P := h.elim
theorem Reps.nil_iff {F : Hp} {vs : List V} {ds : List D} (h : Reps F vs ds) : vs = [] ↔ ds = [] := by
  cases h with
  | nil => simp
  | cons _ _ => simp
def rAddP (K : PySem.W.Frag) : R2 := fun x y H Q => rI0 (fun i j => .int (i + j)) x y H Q ∨ rCatA K x y H Q ∨ rCat x y H Q ∨ ∃ i j, x = .str i ∧ y = .str j ∧ i.length + j.length ≤ sizeLine ∧ Q (.str (i ++ j)) H
theorem op_addP : OpR X (binaryOp .Add) (rAddP X.K) := OpR.or op_add (OpR.or op_catA (OpR.or op_cat op_add_str))
theorem srv_add {K : PySem.W.Frag} : Srv2 K (rAddP K) fun a b => asD a fun x => asD b fun y => binD .add x y := srv2_d fun B σ env tp H t Q x y d e EX R rx ry w => by
  replace w : wpm (addD d e) t (OKE K B σ env tp Q) EX := w
  unfold addD at w
  split at w <;> first | exact wpm_stk w | skip
  · cases rd_int rx; cases rd_int ry
    exact .inl ⟨_, _, rfl, rfl, w _ _ (post_d R (.int _))⟩
  · obtain ⟨hz, w⟩ := wpm_guard w
    obtain ⟨p, vs, rfl, h1, h2⟩ := rd_tup rx
    obtain ⟨q, ws, rfl, h3, h4⟩ := rd_tup ry
    have g1 := hide_same _ _ _ _ h1
    have g3 := hide_same _ _ _ _ h3
    have rr := h2.append h4
    refine .inr (.inl ⟨p, q, vs, ws, rfl, rfl, .of g1, .of g3, ?_, fun e => ?_, fun e1 e2 => ?_, fun e1 e2 n hn => ?_⟩)
    · rw [h2.length, h4.length]; exact fits_le hz
    · subst e
      exact w _ _ (post_d R (.tup h3 rr))
    · subst e2
      rw [List.append_nil] at rr
      exact w _ _ (post_d R (.tup h1 rr))
    · exact w _ _ (post_tup R hn rr)
  · obtain ⟨hz, w⟩ := wpm_guard w
    obtain ⟨p, vs, rfl, h1, h2⟩ := rx
    obtain ⟨q, ws, rfl, h3, h4⟩ := ry
    refine .inr (.inr (.inl ⟨p, q, vs, ws, rfl, rfl, h1, h3, ?_, fun n hn => ?_⟩))
    · rw [h2.length, h4.length]; exact fits_le hz
    · exact w _ _ (post_lst R hn (h2.append h4))
  · obtain ⟨hz, w⟩ := wpm_guard w
    cases rd_str rx; cases rd_str ry
    exact .inr (.inr (.inr ⟨_, _, rfl, rfl, fits_le hz, w _ _ (post_d R (.str _))⟩))
end
end Pv
/-! Pv7: operators, comparisons, items, slices. -/
namespace Pv
open PySem PySem.Spec PyProof.Rows L2
section
variable {X : Cx} {K : PySem.W.Frag}
theorem srv_sub : Srv2 K (rI0 fun i j => .int (i - j)) fun a b => asD a fun x => asD b fun y => binD .sub x y := srv2_d fun B σ env tp H t Q x y d e EX R rx ry w => by
  replace w : wpm (subD d e) t (OKE K B σ env tp Q) EX := w
  unfold subD at w
  split at w <;> first | exact wpm_stk w | skip
  cases rd_int rx; cases rd_int ry
  exact ⟨_, _, rfl, rfl, w _ _ (post_d R (.int _))⟩
theorem srv_fdiv : Srv2 K (rI CDiv fun i j => .int (i / j)) fun a b => asD a fun x => asD b fun y => binD .fdiv x y := srv2_d fun B σ env tp H t Q x y d e EX R rx ry w => by
  replace w : wpm (fdivD d e) t (OKE K B σ env tp Q) EX := w
  unfold fdivD at w
  split at w <;> first | exact wpm_stk w | skip
  obtain ⟨hz, w⟩ := wpm_guard w
  cases rd_int rx; cases rd_int ry
  exact ⟨_, _, rfl, rfl, (by simp only [divOk, decide_eq_true_eq] at hz; exact hz), w _ _ (post_d R (.int _))⟩
theorem srv_mod : Srv2 K (rI (fun _ j => 0 < j) fun i j => .int (i % j)) fun a b => asD a fun x => asD b fun y => binD .mod x y := srv2_d fun B σ env tp H t Q x y d e EX R rx ry w => by
  replace w : wpm (modD d e) t (OKE K B σ env tp Q) EX := w
  unfold modD at w
  split at w <;> first | exact wpm_stk w | skip
  obtain ⟨hz, w⟩ := wpm_guard w
  cases rd_int rx; cases rd_int ry
  exact ⟨_, _, rfl, rfl, by simpa [divOk, modOk, powOk] using hz, w _ _ (post_d R (.int _))⟩
theorem srv_pow : Srv2 K (rI CPow fun i j => .int (i ^ j.toNat)) fun a b => asD a fun x => asD b fun y => binD .pow x y := srv2_d fun B σ env tp H t Q x y d e EX R rx ry w => by
  replace w : wpm (powD d e) t (OKE K B σ env tp Q) EX := w
  unfold powD at w
  split at w <;> first | exact wpm_stk w | skip
  obtain ⟨hz, w⟩ := wpm_guard w
  cases rd_int rx; cases rd_int ry
  exact ⟨_, _, rfl, rfl, (by simp only [powOk, decide_eq_true_eq] at hz; exact hz), w _ _ (post_d R (.int _))⟩
def rMulP (K : PySem.W.Frag) : R2 := fun x y H Q => rI CMul (fun i j => .int (i * j)) x y H Q ∨ rRep x y H Q ∨ rRepT K x y H Q
theorem op_mulP : OpR X (binaryOp .Mult) (rMulP X.K) := OpR.or op_mul (OpR.or op_rep op_repT)
theorem srv_mul : Srv2 K (rMulP K) fun a b => asD a fun x => asD b fun y => binD .mul x y := srv2_d fun B σ env tp H t Q x y d e EX R rx ry w => by
  replace w : wpm (mulD d e) t (OKE K B σ env tp Q) EX := w
  unfold mulD at w
  split at w <;> first | exact wpm_stk w | skip
  · obtain ⟨hz, w⟩ := wpm_guard w
    cases rd_int rx; cases rd_int ry
    exact .inl ⟨_, _, rfl, rfl, mulOk_of hz, w _ _ (post_d R (.int _))⟩
  · obtain ⟨hz, w⟩ := wpm_guard w
    obtain ⟨p, vs, rfl, h1, h2⟩ := rx
    cases rd_int ry
    obtain ⟨z1, z2, z3⟩ := of_decide_eq_true hz
    refine .inr (.inl ⟨p, _, vs, rfl, rfl, h1, z1, z2, ?_, fun n hn => w _ _ (post_lst R hn (h2.rep _))⟩)
    rw [h2.length]
    exact Nat.le_trans z3 (by decide)
  · obtain ⟨hz, w⟩ := wpm_guard w
    obtain ⟨p, vs, rfl, h1, h2⟩ := rd_tup rx
    cases rd_int ry
    obtain ⟨y1, y2⟩ := Bool.and_eq_true_iff.mp hz
    obtain ⟨z1, z2, z3⟩ := of_decide_eq_true y2
    refine .inr (.inr ⟨p, _, vs, rfl, rfl, .of (hide_same _ _ _ _ h1), fun e => ?_, z1, z2, by rw [h2.length]; exact z3, fun n hn => w _ _ (post_tup R hn (h2.rep _))⟩)
    rw [h2.nil_iff] at e
    subst e
    exact absurd y1 (by decide)
theorem srv_neg : Srv1 K (rU fun i => .int (-i)) fun a => asD a negD := srv1_d fun B σ env tp H t Q x d EX R rx w => by
  unfold negD at w
  split at w <;> first | exact wpm_stk w | skip
  cases rd_int rx
  exact ⟨_, rfl, w _ _ (post_d R (.int _))⟩

/-! ### comparisons -/
theorem RdR.dp {F H : Hp} {v : V} {d : D} (h : RdR F H v d) (s : Same F H) : Dp K H v d := (h.rep s).dp
theorem eqOk_of {x y : D} (h : eqOk x y = true) : SeqAt.shaped x = true ∧ SeqAt.shaped y = true := Bool.and_eq_true_iff.mp h
theorem srv_eq : Srv2 K (rEqD K) fun a b => cmpR .eq a b := srv2_d fun B σ env tp H t Q x y d e EX R rx ry w => by
  replace w : wpm (eqD d e) t (OKE K B σ env tp Q) EX := w
  unfold eqD at w
  obtain ⟨hz, w⟩ := wpm_guard w
  exact ⟨_, _, rx.dp (hide_same _ _), ry.dp (hide_same _ _), (eqOk_of hz).1, (eqOk_of hz).2, w _ _ (post_d R (.bl _))⟩
theorem srv_ne : Srv2 K (rNeD K) fun a b => cmpR .ne a b := srv2_d fun B σ env tp H t Q x y d e EX R rx ry w => by
  replace w : wpm (neD d e) t (OKE K B σ env tp Q) EX := w
  unfold neD at w
  obtain ⟨hz, w⟩ := wpm_guard w
  exact ⟨_, _, rx.dp (hide_same _ _), ry.dp (hide_same _ _), (eqOk_of hz).1, (eqOk_of hz).2, w _ _ (post_d R (.bl _))⟩
def rLtD (K : PySem.W.Frag) : R2 := fun x y H Q => ∃ d e, Dp K H x d ∧ Dp K H y e ∧ SeqAt.shaped d = true ∧ PySem.W.alike d e = true ∧ d ≠ .none ∧ Q (.bl (PySem.W.dataLt d e)) H
theorem op_ltD (hu : X.A.units + 64 < cLine) : OpR X (compareOp .Lt) (rLtD X.K) := by
  intro pins s σ H x y v u Q I rx ry h
  obtain ⟨d, e, hd, he, sd, al, nn, q⟩ := h
  obtain ⟨as, r1⟩ := Dp.reads I d x v hd rx
  obtain ⟨bs, r2⟩ := Dp.reads I e y u he ry
  exact PySem.W.rcLt_alike d e X.A s v u as bs r1 r2 al nn (SeqAt.room_of_shaped sd hu) _ _ _ _ ⟨.bl _, H, I, rfl, q⟩
def rLtP (K : PySem.W.Frag) : R2 := fun x y H Q => rI0 (fun i j => .bl (decide (i < j))) x y H Q ∨ rLtD K x y H Q
theorem op_ltP (hu : X.A.units + 64 < cLine) : OpR X (compareOp .Lt) (rLtP X.K) := OpR.or op_lt (op_ltD hu)
theorem srv_lt : Srv2 K (rLtP K) fun a b => cmpR .lt a b := srv2_d fun B σ env tp H t Q x y d e EX R rx ry w => by
  replace w : wpm (ltD d e) t (OKE K B σ env tp Q) EX := w
  unfold ltD at w
  split at w
  · cases rd_int rx; cases rd_int ry
    exact .inl ⟨_, _, rfl, rfl, w _ _ (post_d R (.bl _))⟩
  · obtain ⟨hz, w⟩ := wpm_guard w
    obtain ⟨hz, z3⟩ := Bool.and_eq_true_iff.mp hz
    obtain ⟨z1, z2⟩ := Bool.and_eq_true_iff.mp hz
    exact .inr ⟨_, _, rx.dp (hide_same _ _), ry.dp (hide_same _ _), z2, z1, fun e => by subst e; exact absurd z3 (by decide), w _ _ (post_d R (.bl _))⟩
theorem srv_le : Srv2 K (rI0 fun i j => .bl (decide (i ≤ j))) fun a b => cmpR .le a b := srv2_d fun B σ env tp H t Q x y d e EX R rx ry w => by
  replace w : wpm (leD d e) t (OKE K B σ env tp Q) EX := w
  unfold leD at w
  split at w <;> first | exact wpm_stk w | skip
  cases rd_int rx; cases rd_int ry
  exact ⟨_, _, rfl, rfl, w _ _ (post_d R (.bl _))⟩
theorem srv_gt : Srv2 K (rI0 fun i j => .bl (decide (j < i))) fun a b => cmpR .gt a b := srv2_d fun B σ env tp H t Q x y d e EX R rx ry w => by
  replace w : wpm (gtD d e) t (OKE K B σ env tp Q) EX := w
  unfold gtD at w
  split at w <;> first | exact wpm_stk w | skip
  cases rd_int rx; cases rd_int ry
  exact ⟨_, _, rfl, rfl, w _ _ (post_d R (.bl _))⟩
theorem srv_ge : Srv2 K (rI0 fun i j => .bl (decide (j ≤ i))) fun a b => cmpR .ge a b := srv2_d fun B σ env tp H t Q x y d e EX R rx ry w => by
  replace w : wpm (geD d e) t (OKE K B σ env tp Q) EX := w
  unfold geD at w
  split at w <;> first | exact wpm_stk w | skip
  cases rd_int rx; cases rd_int ry
  exact ⟨_, _, rfl, rfl, w _ _ (post_d R (.bl _))⟩
theorem isNone_rd {F H : Hp} {v : V} {d : D} (h : RdR F H v d) : decide (v = .non) = isNoneD d := by
  cases d with
  | list xs => obtain ⟨p, vs, rfl, _⟩ := h; rfl
  | _ => cases h <;> rfl
def rIsP : R2 := fun x y H Q => (y = .non ∧ Q (.bl (decide (x = .non))) H) ∨ ∃ a b, x = .bl a ∧ y = .bl b ∧ Q (.bl (decide (a = b))) H
def rIsntP : R2 := fun x y H Q => (y = .non ∧ Q (.bl (!decide (x = .non))) H) ∨ ∃ a b, x = .bl a ∧ y = .bl b ∧ Q (.bl (!decide (a = b))) H
theorem op_isP : OpR X (compareOp .Is) rIsP := OpR.or op_isN op_isBl
theorem op_isntP : OpR X (compareOp .IsNot) rIsntP := OpR.or op_notN op_notBl
theorem srv_is : Srv2 K rIsP fun a b => cmpR .is_ a b := srv2_d fun B σ env tp H t Q x y d e EX R rx ry w => by
  replace w : wpm (isD d e) t (OKE K B σ env tp Q) EX := w
  unfold isD at w
  split at w <;> first | exact wpm_stk w | skip
  · cases rd_non ry
    exact .inl ⟨rfl, by rw [isNone_rd rx]; exact w _ _ (post_d R (.bl _))⟩
  · cases rd_bl rx; cases rd_bl ry
    exact .inr ⟨_, _, rfl, rfl, w _ _ (post_d R (.bl _))⟩
theorem srv_isnt : Srv2 K rIsntP fun a b => cmpR .isnot a b := srv2_d fun B σ env tp H t Q x y d e EX R rx ry w => by
  replace w : wpm (isnotD d e) t (OKE K B σ env tp Q) EX := w
  unfold isnotD at w
  split at w <;> first | exact wpm_stk w | skip
  · cases rd_non ry
    exact .inl ⟨rfl, by rw [isNone_rd rx]; exact w _ _ (post_d R (.bl _))⟩
  · cases rd_bl rx; cases rd_bl ry
    exact .inr ⟨_, _, rfl, rfl, w _ _ (post_d R (.bl _))⟩
/-! in -/
theorem flat_rep {F : Hp} {v : V} {d : D} (h : Rep F v d) (f : flatD d = true) : flatV v = true := by
  cases h <;> first | rfl | exact absurd f (by simp [flatD])
theorem flats_rep {F : Hp} : ∀ {vs : List V} {ds : List D}, Reps F vs ds → ds.all flatD = true → vs.all flatV = true
  | _, _, .nil, _ => rfl
  | _, _, .cons h r, f => by
    rw [List.all_cons, Bool.and_eq_true] at f ⊢
    exact ⟨flat_rep h f.1, flats_rep r f.2⟩
theorem eqv_flat {F F' : Hp} {v w : V} {d e : D} (h : Rep F v d) (g : Rep F' w e) (f : flatD d = true) (f' : flatD e = true) : eqV v w = PyData.eqv d e := by
  cases h <;> first | (simp [flatD] at f; done) | skip
  all_goals (cases g <;> first | (simp [flatD] at f'; done) | (simp [eqV, PyData.eqv]; done))
theorem in_flat {F F' : Hp} {w : V} {e : D} (g : Rep F' w e) (f' : flatD e = true) : ∀ {vs : List V} {ds : List D}, Reps F vs ds → ds.all flatD = true → inV w vs = inD e ds
  | _, _, .nil, _ => rfl
  | _, _, .cons h r, f => by
    rw [List.all_cons, Bool.and_eq_true] at f
    show (eqV _ w || inV w _) = (PyData.eqv _ e || inD e _)
    rw [eqv_flat h g f.1 f', in_flat g f' r f.2]
def rInP (K : PySem.W.Frag) : R2 := fun x y H Q => rIn K false x y H Q ∨ rInD K x y H Q
def rNinP (K : PySem.W.Frag) : R2 := fun x y H Q => rIn K true x y H Q ∨ rNotInD K x y H Q
theorem op_inP (hu : X.A.units + 65 < cLine) : OpR X (compareOp .In) (rInP X.K) := OpR.or op_in_seq (op_inD hu)
theorem op_ninP (hu : X.A.units + 65 < cLine) : OpR X (compareOp .NotIn) (rNinP X.K) := OpR.or op_notIn_seq (op_notInD hu)
theorem beq_true_b (b : Bool) : (b == true) = b := by cases b <;> rfl
theorem beq_false_b (b : Bool) : (b == false) = !b := by cases b <;> rfl
theorem flat_rd {F H : Hp} {v : V} {d : D} (h : RdR F H v d) (f : flatD d = true) : Rep F v d := by
  cases d <;> first | exact h | exact absurd f (by simp [flatD])
theorem srv_in : Srv2 K (rInP K) fun a b => cmpR .in_ a b := srv2_d fun B σ env tp H t Q x y d e EX R rx ry w => by
  replace w : wpm (inM true d e) t (OKE K B σ env tp Q) EX := w
  unfold inM at w
  split at w <;> first | exact wpm_stk w | skip
  · obtain ⟨hz, w⟩ := wpm_guard w
    obtain ⟨z1, z2⟩ := Bool.and_eq_true_iff.mp hz
    refine .inr ⟨_, _, rx.dp (hide_same _ _), ry.dp (hide_same _ _), z1, z2, w _ _ ?_⟩
    rw [beq_true_b]
    exact post_d R (.bl _)
  · obtain ⟨hz, w⟩ := wpm_guard w
    obtain ⟨z1, z2⟩ := Bool.and_eq_true_iff.mp hz
    obtain ⟨p, vs, rfl, h1, h2⟩ := rd_tup ry
    refine .inl ⟨p, vs, rfl, .inr (.of (hide_same _ _ _ _ h1)), flat_rep (flat_rd rx z1) z1, flats_rep h2 z2, ?_⟩
    rw [in_flat (flat_rd rx z1) z1 h2 z2, if_neg (by decide)]
    rw [beq_true_b] at w
    exact w _ _ (post_d R (.bl _))
theorem srv_nin : Srv2 K (rNinP K) fun a b => cmpR .notin a b := srv2_d fun B σ env tp H t Q x y d e EX R rx ry w => by
  replace w : wpm (inM false d e) t (OKE K B σ env tp Q) EX := w
  unfold inM at w
  split at w <;> first | exact wpm_stk w | skip
  · obtain ⟨hz, w⟩ := wpm_guard w
    obtain ⟨z1, z2⟩ := Bool.and_eq_true_iff.mp hz
    refine .inr ⟨_, _, rx.dp (hide_same _ _), ry.dp (hide_same _ _), z1, z2, w _ _ ?_⟩
    rw [beq_false_b]
    exact post_d R (.bl _)
  · obtain ⟨hz, w⟩ := wpm_guard w
    obtain ⟨z1, z2⟩ := Bool.and_eq_true_iff.mp hz
    obtain ⟨p, vs, rfl, h1, h2⟩ := rd_tup ry
    refine .inl ⟨p, vs, rfl, .inr (.of (hide_same _ _ _ _ h1)), flat_rep (flat_rd rx z1) z1, flats_rep h2 z2, ?_⟩
    rw [in_flat (flat_rd rx z1) z1 h2 z2, if_pos rfl]
    rw [beq_false_b] at w
    exact w _ _ (post_d R (.bl _))
/-- the rule of a comparison, by its sign -/
theorem op_cmp (hu : X.A.units + 65 < cLine) {o : CmpOp} {op : COp} (h : cop o = some op) : ∃ r, OpR X (compareOp o) r ∧ Srv2 X.K r fun a b => cmpR op a b := by
  have hu' : X.A.units + 64 < cLine := by omega
  cases o <;> cases h
  · exact ⟨_, op_eqD hu', srv_eq⟩
  · exact ⟨_, op_neD hu', srv_ne⟩
  · exact ⟨_, op_ltP hu', srv_lt⟩
  · exact ⟨_, op_le, srv_le⟩
  · exact ⟨_, op_gt, srv_gt⟩
  · exact ⟨_, op_ge, srv_ge⟩
  · exact ⟨_, op_isP, srv_is⟩
  · exact ⟨_, op_isntP, srv_isnt⟩
  · exact ⟨_, op_inP hu, srv_in⟩
  · exact ⟨_, op_ninP hu, srv_nin⟩
theorem op_bin {o : Operator} {op : BOp} (h : bop o = some op) : ∃ r, OpR X (binaryOp o) r ∧ Srv2 X.K r fun a b => asD a fun x => asD b fun y => binD op x y := by
  cases o <;> cases h
  · exact ⟨_, op_addP, srv_add⟩
  · exact ⟨_, op_sub, srv_sub⟩
  · exact ⟨_, op_mulP, srv_mul⟩
  · exact ⟨_, op_mod, srv_mod⟩
  · exact ⟨_, op_pow, srv_pow⟩
  · exact ⟨_, op_fdiv, srv_fdiv⟩
theorem alike_none {d e : D} (h : PySem.W.alike d e = true) (hn : d = .none) : e = .none := by
  subst hn
  cases e <;> simp [PySem.W.alike] at h ⊢
end
end Pv
/-! Pv8: truth, items, slices, built-ins. -/
namespace Pv
open PySem PySem.Spec PyProof.Rows L2
section
variable {X : Cx} {K : PySem.W.Frag}
theorem reps_empty {F : Hp} {vs : List V} {ds : List D} (h : Reps F vs ds) : vs.isEmpty = ds.isEmpty := by cases h <;> rfl
/-- truth of an operand -/
theorem tru_of {B : Hp} {σ : L2.St} {env : Env} {tp : Tp} {H : Hp} {t : Sto} {v : V} {r : RV} {ok : Bool → Sto → Prop} {ex : Str → Sto → Prop} (R : Rl K B σ env tp H) (o : OpdR K σ env (fz σ env tp H) v r) (w : wpm (truR r) t ok ex) : ∃ k, TruV K v H k ∧ ok k t := by
  obtain ⟨d, ed, w⟩ := wpm_asD w
  have rx := o.rd R ed
  unfold truD at w
  split at w <;> first | exact wpm_stk w | skip
  · cases rd_non rx; exact ⟨_, rfl, w⟩
  · cases rd_bl rx; exact ⟨_, rfl, w⟩
  · cases rd_int rx; exact ⟨_, rfl, w⟩
  · obtain ⟨hz, w⟩ := wpm_guard w
    cases rd_str rx; exact ⟨_, ⟨fits_le hz, rfl⟩, w⟩
  · obtain ⟨p, vs, rfl, h1, h2⟩ := rx
    refine ⟨_, .inl ⟨vs, .of h1, rfl⟩, ?_⟩
    rw [reps_empty h2]; exact w
  · obtain ⟨p, vs, rfl, h1, h2⟩ := rd_tup rx
    refine ⟨_, .inr (.inl ⟨vs, .of (hide_same _ _ _ _ h1), rfl⟩), ?_⟩
    rw [reps_empty h2]; exact w

/-! ### items -/
theorem plainIx {b : Expr} (h : isSliceE b = false) : PlainIx b := by
  intro o i
  cases b <;> first | rfl | exact absurd h (by simp [isSliceE])
theorem atI_map {α β : Type} (f : α → β) {xs : List α} {i : Int} {x : α} (h : atI xs i = some x) : atI (xs.map f) i = some (f x) := by
  unfold atI at h ⊢
  rw [List.length_map]
  cases q : ixN xs.length i with
  | none => rw [q] at h; cases h
  | some j => rw [q] at h; show (xs.map f)[j]? = some (f x); rw [List.getElem?_map, show xs[j]? = some x from h]; rfl
theorem srv_ix : Srv2 K (rIx K) ixR := fun B σ env tp H t Q x y a b EX R oa ob w => by
  unfold ixR at w
  split at w
  · obtain ⟨p, rfl, hs⟩ := oa
    cases (show Rep _ y (.int _) from ob)
    split at w <;> first | exact wpm_stk w | skip
    rename_i n e
    exact .inl ⟨p, _, _, _, rfl, rfl, sqL_mono (hide_same _ _) hs, atI_map V.int e, w _ _ (post_d R (.int _))⟩
  · obtain ⟨d, ed, w⟩ := wpm_asD w
    obtain ⟨e, ee, w⟩ := wpm_asD w
    have rx := oa.rd R ed
    have ry := ob.rd R ee
    unfold ixM at w
    split at w <;> first | exact wpm_stk w | skip
    · cases rd_int ry
      obtain ⟨p, vs, rfl, h1, h2⟩ := rx
      split at w <;> first | exact wpm_stk w | skip
      rename_i e
      obtain ⟨v, g1, g2⟩ := h2.atI e
      exact .inl ⟨p, vs, _, v, rfl, rfl, .of h1, g1, w _ _ (post_d R g2)⟩
    · cases rd_int ry
      obtain ⟨p, vs, rfl, h1, h2⟩ := rd_tup rx
      split at w <;> first | exact wpm_stk w | skip
      rename_i e
      obtain ⟨v, g1, g2⟩ := h2.atI e
      exact .inr (.inl ⟨p, vs, _, v, rfl, rfl, .of (hide_same _ _ _ _ h1), g1, w _ _ (post_d R g2)⟩)
    · cases rd_int ry
      cases rd_str rx
      obtain ⟨hz, w⟩ := wpm_guard w
      split at w <;> first | exact wpm_stk w | skip
      rename_i e
      exact .inr (.inr ⟨_, _, _, rfl, rfl, fits_le hz, e, w _ _ (post_d R (.str _))⟩)

/-! ### slices -/
def rSlP (K : PySem.W.Frag) : V → Option Int → Option Int → Hp → VK → Prop := fun x lo hi H Q => rSlL K x lo hi H Q ∨ rSlA K x lo hi H Q
theorem sl_P : SlR X (rSlP X.K) := SlR.or sl_list sl_tupA
theorem srv_cut {B : Hp} {σ : L2.St} {env : Env} {tp : Tp} {H : Hp} {t : Sto} {Q : VK} {x : V} {a : RV} {lo hi : Option Int} {EX : Str → Sto → Prop} (R : Rl K B σ env tp H) (oa : OpdR K σ env (fz σ env tp H) x a)
    (w : wpm (asD a (cutM lo hi)) t (OKE K B σ env tp Q) EX) : rSlP K x lo hi H Q := by
  obtain ⟨d, ed, w⟩ := wpm_asD w
  have rx := oa.rd R ed
  unfold cutM at w
  split at w <;> first | exact wpm_stk w | skip
  · obtain ⟨p, vs, rfl, h1, h2⟩ := rx
    exact .inl ⟨p, vs, rfl, .of h1, fun n hn => w _ _ (post_lst R hn (h2.cut lo hi))⟩
  · obtain ⟨p, vs, rfl, h1, h2⟩ := rd_tup rx
    refine .inr ⟨p, vs, rfl, .of (hide_same _ _ _ _ h1), fun hw => ?_, fun _ n hn => w _ _ (post_tup R hn (h2.cut lo hi))⟩
    have e : cutV vs lo hi = vs := by
      unfold cutV
      rw [hw.1, hw.2]
      simp
    have r := h2.cut lo hi
    rw [e] at r
    exact w _ _ (post_d R (.tup h1 r))
def tOo (K : PySem.W.Frag) (m : Env → M (Option Int)) (W : WN) : TO := fun σ H Q => ∃ B env tp t, Rl K B σ env tp H ∧ wpm (m env) t (fun o _ => ∀ H', Rl K B σ env tp H' → Q o H') fun x _ => ∀ H', Rl K B σ env tp H' → W x σ H'
theorem po_imp {e : Option Expr} {t t' : TO} (h : PO X e t) (i : ∀ σ H Q, t' σ H Q → t σ H Q) : PO X e t' := ⟨fun pins s σ H Q I q => h.run pins s σ H Q I (i σ H Q q)⟩
theorem po_noneM {W : WN} : PO X none (tOo X.K (fun _ => ret none) W) := po_imp po_none fun σ H Q ⟨B, env, tp, t, R, w⟩ => w H R
theorem po_someM {e : Expr} {m : Env → M RV} {W : WN} (h : PE X e (tE X.K m W)) : PO X (some e) (tOo X.K (fun env => bnd (m env) partM) W) := po_imp (po_some h) fun σ H Q ⟨B, env, tp, t, R, w⟩ => by
  refine tE_step R w (fun _ _ q => q) fun r t1 v H1 R1 o1 w1 => ?_
  unfold partM at w1
  split at w1 <;> first | exact wpm_stk w1 | skip
  cases (show Rep _ v (.int _) from o1)
  exact ⟨_, rfl, w1 H1 R1⟩
theorem tOo_step {β : Type} {OK : β → Sto → Prop} {EX : Str → Sto → Prop} {B : Hp} {σ : L2.St} {env : Env} {tp : Tp} {H : Hp} {W : WN} {t : Sto} {m : Env → M (Option Int)} {k : Option Int → M β} {Q : Option Int → Hp → Prop} (R : Rl K B σ env tp H) (h : wpm (bnd (m env) k) t OK EX) (hex : Exs K B σ env tp W EX)
    (hk : ∀ o t1 H1, Rl K B σ env tp H1 → wpm (k o) t1 OK EX → Q o H1) : tOo K m W σ H Q := by
  rw [wpm_bnd] at h
  exact ⟨B, env, tp, t, R, wpm_mono h (fun r t1 h1 H1 p => hk r t1 H1 p h1) hex⟩
theorem pe_sliceM {a : Expr} {lo hi : Option Expr} {p2 pos : Pos} {m : Env → M RV} {ml mh : Env → M (Option Int)} {W : WN} (ha : PE X a (tE X.K m W)) (hl : PO X lo (tOo X.K ml W)) (hh : PO X hi (tOo X.K mh W)) :
    PE X (.Subscript a (.Slice lo hi none p2) pos) (tE X.K (fun env => bnd (m env) fun r => bnd (ml env) fun i => bnd (mh env) fun j => asD r (cutM i j)) W) := pe_imp (pe_slice sl_P ha hl hh) fun σ H Q ⟨B, env, tp, t, R, w⟩ => by
  refine tE_step R w (fun _ _ q => q) fun r t1 v H1 R1 o1 w1 => ?_
  have x1 := Exs.base (W := W) (fun _ _ q => q) R1
  refine tOo_step R1.base w1 x1 fun i t2 H2 R2 w2 => ?_
  refine tOo_step R2 w2 x1 fun j t3 H3 R3 w3 => ?_
  exact srv_cut (R3.down R1.le) (o1.mono R3.le) w3

/-! ### arguments, built-ins -/
def SrvA (K : PySem.W.Frag) (r : List V → Hp → VK → Prop) (f : List RV → M RV) : Prop := ∀ (B : Hp) (σ : L2.St) (env : Env) (tp : Tp) (H : Hp) (t : Sto) (Q : VK) (xs : List V) (rs : List RV) (EX : Str → Sto → Prop), Rl K B σ env tp H → OpdsR K σ env (fz σ env tp H) xs rs →
  wpm (f rs) t (OKE K B σ env tp Q) EX → r xs H Q
theorem tCB_of {r : List V → Hp → VK → Prop} {f : List RV → M RV} {m : Env → M (List RV)} {W : WN} (s : SrvA K r f) {σ : L2.St} {H : Hp} {Q : VK} (h : tE K (fun env => bnd (m env) f) W σ H Q) : tCB r (tAr K m W) σ H Q := by
  obtain ⟨B, env, tp, t, R, h⟩ := h
  refine tAr_step R h (fun _ _ q => q) fun rs t1 vs H1 R1 o1 h1 => ?_
  exact s B σ env tp H1 t1 Q vs rs _ R1 o1 h1
theorem opds1 {σ : L2.St} {env : Env} {F : Hp} {xs : List V} {r : RV} (o : OpdsR K σ env F xs [r]) : ∃ x, xs = [x] ∧ OpdR K σ env F x r := by
  cases o with | cons h q => cases q; exact ⟨_, rfl, h⟩
/-- .. by data -/
theorem rds_of {B : Hp} {σ : L2.St} {env : Env} {tp : Tp} {H : Hp} (R : Rl K B σ env tp H) : ∀ {xs : List V} {rs : List RV} {ds : List D}, OpdsR K σ env (fz σ env tp H) xs rs → dats rs = some ds → Paired (fun x d => RdR (fz σ env tp H) H x d) xs ds
  | _, _, _, .nil, e => by cases e; exact .nil
  | _, _, ds, .cons (r := r) (rs := rs) h q, e => by
    unfold dats at e
    split at e
    · rename_i x xs e1 e2
      cases e
      exact .cons (h.rd R e1) (rds_of R q e2)
    · cases e
def SrvF (K : PySem.W.Frag) (r : List V → Hp → VK → Prop) (f : List D → M RV) : Prop := ∀ (B : Hp) (σ : L2.St) (env : Env) (tp : Tp) (H : Hp) (t : Sto) (Q : VK) (xs : List V) (ds : List D) (EX : Str → Sto → Prop), Rl K B σ env tp H → Paired (fun x d => RdR (fz σ env tp H) H x d) xs ds →
  wpm (f ds) t (OKE K B σ env tp Q) EX → r xs H Q
theorem f21 {α β : Type} {P : α → β → Prop} {xs : List α} {y : β} (h : Paired P xs [y]) : ∃ x, xs = [x] ∧ P x y := by
  cases h with | cons h q => cases q; exact ⟨_, rfl, h⟩
theorem f22 {α β : Type} {P : α → β → Prop} {xs : List α} {y z : β} (h : Paired P xs [y, z]) : ∃ x x', xs = [x, x'] ∧ P x y ∧ P x' z := by
  cases h with | cons h q => cases q with | cons h' q => cases q; exact ⟨_, _, rfl, h, h'⟩
theorem f23 {α β : Type} {P : α → β → Prop} {xs : List α} {y z w : β} (h : Paired P xs [y, z, w]) : ∃ x x' x'', xs = [x, x', x''] ∧ P x y ∧ P x' z ∧ P x'' w := by
  cases h with | cons h q => cases q with | cons h' q => cases q with | cons h'' q => cases q; exact ⟨_, _, _, rfl, h, h', h''⟩

theorem srvA_f {r : List V → Hp → VK → Prop} {f : BF} (hf : f ≠ .len) (h : SrvF K r (bfD f)) : SrvA K r (bfM f) := fun B σ env tp H t Q xs rs EX R o w => by
  unfold bfM at w
  split at w
  · exact absurd rfl hf
  · cases q : dats rs with
    | none => rw [q] at w; exact w.elim
    | some ds => rw [q] at w; exact h B σ env tp H t Q xs ds EX R (rds_of R o q) w
def rLenP (K : PySem.W.Frag) : List V → Hp → VK → Prop := fun xs H Q => (∃ x n, xs = [x] ∧ LenV K x H n ∧ Q (.int n) H)
theorem len_d : SrvF K (rLenP K) (bfD .len) := fun B σ env tp H t Q xs ds EX R o w => by
  unfold bfD at w
  split at w <;> first | exact wpm_stk w | skip
  all_goals (first | (rename_i h; cases h; done) | skip)
  obtain ⟨x, rfl, rx⟩ := f21 o
  unfold lenM at w
  split at w <;> first | exact wpm_stk w | skip
  · obtain ⟨p, vs, rfl, h1, h2⟩ := rx
    refine ⟨_, vs.length, rfl, .inl ⟨vs, .of h1, rfl⟩, ?_⟩
    rw [h2.length]
    exact w _ _ (post_d R (.int _))
  · obtain ⟨p, vs, rfl, h1, h2⟩ := rd_tup rx
    refine ⟨_, vs.length, rfl, .inr ⟨vs, .of (hide_same _ _ _ _ h1), rfl⟩, ?_⟩
    rw [h2.length]
    exact w _ _ (post_d R (.int _))
  · obtain ⟨hz, w⟩ := wpm_guard w
    cases rd_str rx
    exact ⟨_, _, rfl, ⟨fits_le hz, rfl⟩, w _ _ (post_d R (.int _))⟩
theorem bfM_len (rs : List RV) : (∃ ns, rs = [.v (.scr ns)]) ∨ bfM .len rs = match dats rs with
    | some ds => bfD .len ds
    | none => stk := by
  unfold bfM
  split
  · exact .inl ⟨_, rfl⟩
  · exact .inr rfl
theorem len_a : SrvA K (rLenP K) (bfM .len) := fun B σ env tp H t Q xs rs EX R o w => by
  rcases bfM_len rs with ⟨ns, rfl⟩ | e
  · obtain ⟨x, rfl, p, rfl, hs⟩ := opds1 o
    refine ⟨_, _, rfl, .inl ⟨_, sqL_mono (hide_same _ _) hs, rfl⟩, ?_⟩
    rw [List.length_map]
    exact w _ _ (post_d R (.int _))
  · rw [e] at w
    cases q : dats rs with
    | none => rw [q] at w; exact w.elim
    | some ds => rw [q] at w; exact len_d B σ env tp H t Q xs ds EX R (rds_of R o q) w
theorem abs_d : SrvF K (fun xs H Q => ∃ i, xs = [.int i] ∧ Q (.int (if i < 0 then -i else i)) H) (bfD .abs) := fun B σ env tp H t Q xs ds EX R o w => by
  unfold bfD at w
  split at w <;> first | exact wpm_stk w | skip
  all_goals (first | (rename_i h; cases h; done) | skip)
  obtain ⟨x, rfl, rx⟩ := f21 o
  cases rd_int rx
  exact ⟨_, rfl, w _ _ (post_d R (.int _))⟩
theorem min2_d : SrvF K (fun xs H Q => ∃ i j, xs = [.int i, .int j] ∧ Q (.int (if j < i then j else i)) H) (bfD .min2) := fun B σ env tp H t Q xs ds EX R o w => by
  unfold bfD at w
  split at w <;> first | exact wpm_stk w | skip
  all_goals (first | (rename_i h; cases h; done) | skip)
  obtain ⟨x, y, rfl, rx, ry⟩ := f22 o
  cases rd_int rx; cases rd_int ry
  exact ⟨_, _, rfl, w _ _ (post_d R (.int _))⟩
theorem max2_d : SrvF K (fun xs H Q => ∃ i j, xs = [.int i, .int j] ∧ Q (.int (if j > i then j else i)) H) (bfD .max2) := fun B σ env tp H t Q xs ds EX R o w => by
  unfold bfD at w
  split at w <;> first | exact wpm_stk w | skip
  all_goals (first | (rename_i h; cases h; done) | skip)
  obtain ⟨x, y, rfl, rx, ry⟩ := f22 o
  cases rd_int rx; cases rd_int ry
  exact ⟨_, _, rfl, w _ _ (post_d R (.int _))⟩
theorem nuMin2_int (i j : Int) : nuMin2 (.int i) (.int j) = some (.int (minI i j)) := by
  show some (if decide (j < i) = true then V.int j else V.int i) = _
  unfold minI
  by_cases h : j < i <;> simp [h]
theorem nuMin3_int (i j k : Int) : nuMin3 (.int i) (.int j) (.int k) = some (.int (minI (minI i j) k)) := by
  unfold nuMin3
  rw [nuMin2_int]
  exact nuMin2_int _ _
theorem min3_d : SrvF K (rNuC3 nuMin3) (bfD .min3) := fun B σ env tp H t Q xs ds EX R o w => by
  unfold bfD at w
  split at w <;> first | exact wpm_stk w | skip
  all_goals (first | (rename_i h; cases h; done) | skip)
  obtain ⟨x, y, z, rfl, rx, ry, rz⟩ := f23 o
  cases rd_int rx; cases rd_int ry; cases rd_int rz
  exact ⟨_, _, _, _, rfl, nuMin3_int _ _ _, w _ _ (post_d R (.int _))⟩
theorem sum_d : SrvF K (rSum K) (bfD .sum) := fun B σ env tp H t Q xs ds EX R o w => by
  unfold bfD at w
  split at w <;> first | exact wpm_stk w | skip
  all_goals (first | (rename_i h; cases h; done) | skip)
  obtain ⟨x, rfl, rx⟩ := f21 o
  unfold sumM at w
  split at w <;> first | exact wpm_stk w | skip
  split at w <;> first | exact wpm_stk w | skip
  rename_i e
  obtain ⟨p, vs, rfl, h1, h2⟩ := rx
  obtain ⟨e1, e2⟩ := h2.ints e
  rw [e1] at h1
  exact ⟨p, _, rfl, .of h1, w _ _ (post_d R (.int _))⟩
theorem foldl_max : ∀ (ns : List Int) (n : Int), n ≤ ns.foldl max n ∧ (∀ a ∈ ns, a ≤ ns.foldl max n) ∧ (ns.foldl max n = n ∨ ns.foldl max n ∈ ns)
  | [], n => ⟨Int.le_refl _, fun _ h => absurd h List.not_mem_nil, .inl rfl⟩
  | m :: ns, n => by
    obtain ⟨h1, h2, h3⟩ := foldl_max ns (max n m)
    rw [List.foldl_cons]
    refine ⟨by omega, fun a ha => ?_, ?_⟩
    · rcases List.mem_cons.mp ha with rfl | ha
      · omega
      · exact h2 a ha
    · rcases h3 with h3 | h3
      · rw [h3]
        by_cases q : n ≤ m
        · exact .inr (by rw [Int.max_eq_right q]; exact List.mem_cons_self)
        · exact .inl (by omega)
      · exact .inr (List.mem_cons_of_mem _ h3)
theorem max1_d : SrvF K (rMax K) (bfD .max1) := fun B σ env tp H t Q xs ds EX R o w => by
  unfold bfD at w
  split at w <;> first | exact wpm_stk w | skip
  all_goals (first | (rename_i h; cases h; done) | skip)
  obtain ⟨x, rfl, rx⟩ := f21 o
  unfold maxM at w
  split at w <;> first | exact wpm_stk w | skip
  split at w <;> first | exact wpm_stk w | skip
  rename_i n ns e
  obtain ⟨p, vs, rfl, h1, h2⟩ := rx
  obtain ⟨e1, e2⟩ := h2.ints e
  rw [e1] at h1
  refine ⟨p, n :: ns, rfl, .of h1, Nat.zero_lt_succ _, fun m hm hl => ?_⟩
  obtain ⟨g1, g2, g3⟩ := foldl_max ns n
  have : m = ns.foldl max n := by
    have a1 : ns.foldl max n ≤ m := hl _ (g3.elim (fun g3 => by rw [g3]; exact List.mem_cons_self) fun g3 => List.mem_cons_of_mem _ g3)
    have a2 : m ≤ ns.foldl max n := by
      rcases List.mem_cons.mp hm with rfl | hm
      · exact g1
      · exact g2 m hm
    omega
  rw [this]
  exact w _ _ (post_d R (.int _))
def rTup1 (K : PySem.W.Frag) : List V → Hp → VK → Prop := fun xs H Q => ∃ p ys, xs = [.ref p] ∧ ((SqL K H p ys ∧ ∀ l, H l = none → Q (.ref l) (upd H l (.tup ys))) ∨ (SqT K H p ys ∧ Q (.ref p) H))
theorem tuple_d : SrvF K (rTup1 K) (bfD .tuple) := fun B σ env tp H t Q xs ds EX R o w => by
  unfold bfD at w
  split at w <;> first | exact wpm_stk w | skip
  all_goals (first | (rename_i h; cases h; done) | skip)
  obtain ⟨x, rfl, rx⟩ := f21 o
  unfold tupleM at w
  split at w <;> first | exact wpm_stk w | skip
  · obtain ⟨p, vs, rfl, h1, h2⟩ := rx
    exact ⟨p, vs, rfl, .inl ⟨.of h1, fun n hn => w _ _ (post_tup R hn h2)⟩⟩
  · obtain ⟨p, vs, rfl, h1, h2⟩ := rd_tup rx
    exact ⟨p, vs, rfl, .inr ⟨.of (hide_same _ _ _ _ h1), w _ _ (post_d R (.tup h1 h2))⟩⟩
def rList1 (K : PySem.W.Frag) : List V → Hp → VK → Prop := fun xs H Q => ∃ p ys, xs = [.ref p] ∧ (SqL K H p ys ∨ SqT K H p ys) ∧ ∀ l, H l = none → Q (.ref l) (upd H l (.lst ys))
theorem list_d : SrvF K (rList1 K) (bfD .list) := fun B σ env tp H t Q xs ds EX R o w => by
  unfold bfD at w
  split at w <;> first | exact wpm_stk w | skip
  all_goals (first | (rename_i h; cases h; done) | skip)
  obtain ⟨x, rfl, rx⟩ := f21 o
  unfold listM at w
  split at w <;> first | exact wpm_stk w | skip
  · obtain ⟨p, vs, rfl, h1, h2⟩ := rx
    exact ⟨p, vs, rfl, .inl (.of h1), fun n hn => w _ _ (post_lst R hn h2)⟩
  · obtain ⟨p, vs, rfl, h1, h2⟩ := rd_tup rx
    exact ⟨p, vs, rfl, .inr (.of (hide_same _ _ _ _ h1)), fun n hn => w _ _ (post_lst R hn h2)⟩
def rInt1 : List V → Hp → VK → Prop := fun xs H Q => ((∃ i, xs = [.int i] ∧ Q (.int i) H) ∨ ∃ k, xs = [.bl k] ∧ Q (.int (if k then 1 else 0)) H) ∨ (∃ a n, xs = [.str a] ∧ PySem.intText? a = some n ∧ a.length ≤ 640 ∧ Q (.int n) H)
theorem int_d : SrvF K rInt1 (bfD .int) := fun B σ env tp H t Q xs ds EX R o w => by
  unfold bfD at w
  split at w <;> first | exact wpm_stk w | skip
  all_goals (first | (rename_i h; cases h; done) | skip)
  obtain ⟨x, rfl, rx⟩ := f21 o
  unfold intM at w
  split at w <;> first | exact wpm_stk w | skip
  · cases rd_int rx; exact .inl (.inl ⟨_, rfl, w _ _ (post_d R (.int _))⟩)
  · cases rd_bl rx; exact .inl (.inr ⟨_, rfl, w _ _ (post_d R (.int _))⟩)
  · split at w <;> first | exact wpm_stk w | skip
    rename_i e
    obtain ⟨hz, w⟩ := wpm_guard w
    cases rd_str rx
    exact .inr ⟨_, _, rfl, e, of_decide_eq_true hz, w _ _ (post_d R (.int _))⟩
end
end Pv
/-! Pv9: isinstance, ranges, calls' forms. -/
namespace Pv
open PySem PySem.Spec PyProof.Rows L2
theorem star_cons {e : Expr} {es : List Expr} {env : PySem.Env} (h : isStarE e = false) : starEach (e :: es) env = (false, eval e env) :: starEach es env := by
  cases e <;> first | rfl | exact absurd h (by simp [isStarE])
theorem noany : ∀ {es : List Expr} {env : PySem.Env} {pos : Pos}, (es.all fun e => !isStarE e) = true → (backTo pos (starEach es env)).any (·.1) = false
  | [], _, _, _ => rfl
  | e :: es, env, pos, h => by
    rw [List.all_cons, Bool.and_eq_true] at h
    have he : isStarE e = false := by cases q : isStarE e <;> simp [q] at h ⊢
    rw [star_cons he]
    show (false || _) = false
    rw [Bool.false_or]
    exact noany h.2
def tyName : Ty → String
  | .int => "int" | .bool => "bool" | .tuple => "tuple" | .list => "list" | .str => "str"
def tyD : D → String
  | .none => "NoneType" | .bool _ => "bool" | .int _ => "int" | .str _ => "str" | .list _ => "list" | .tuple _ => "tuple" | .dict _ => "dict"
theorem tyOf_boot {x : Str} {ty : Ty} (h : tyOf x = some ty) : bootBuiltins x = some (.type (tyName ty)) ∧ x ≠ "__name__" ∧ (x == ("__debug__" : Str)) = false := by
  unfold tyOf at h
  repeat' split at h
  all_goals first | (cases h; done) | skip
  all_goals (cases h; rename_i e; subst e; exact ⟨by decide +kernel, by decide +kernel, by decide +kernel⟩)
theorem kit_is (ty : Ty) (d : D) (h : ∀ kvs, d ≠ .dict kvs) : kitB (tyD d) (tyName ty) = some (isTy ty d) := by
  cases d with
  | none => cases ty <;> (show kitB "NoneType" _ = some false; decide +kernel)
  | bool b => cases ty <;> first | (show kitB "bool" _ = some true; decide +kernel) | (show kitB "bool" _ = some false; decide +kernel)
  | int i => cases ty <;> first | (show kitB "int" _ = some true; decide +kernel) | (show kitB "int" _ = some false; decide +kernel)
  | str s => cases ty <;> first | (show kitB "str" _ = some true; decide +kernel) | (show kitB "str" _ = some false; decide +kernel)
  | list s => cases ty <;> first | (show kitB "list" _ = some true; decide +kernel) | (show kitB "list" _ = some false; decide +kernel)
  | tuple s => cases ty <;> first | (show kitB "tuple" _ = some true; decide +kernel) | (show kitB "tuple" _ = some false; decide +kernel)
  | dict kvs => exact absurd rfl (h kvs)
section
variable {X : Cx} {K : PySem.W.Frag}
theorem ty_rd {F H : Hp} {v : V} {d : D} (s : Same F H) (h : RdR F H v d) : TyOf K H v (.type (tyD d)) ∧ ∀ kvs, d ≠ .dict kvs := by
  cases d with
  | list xs => obtain ⟨p, vs, rfl, h1, h2⟩ := h; exact ⟨.lst h1, fun _ e => nomatch e⟩
  | tuple xs => obtain ⟨p, vs, rfl, h1, h2⟩ := rd_tup h; exact ⟨.tup (s _ _ h1), fun _ e => nomatch e⟩
  | none => cases rd_non h; exact ⟨.non, fun _ e => nomatch e⟩
  | bool b => cases rd_bl h; exact ⟨.bl _, fun _ e => nomatch e⟩
  | int b => cases rd_int h; exact ⟨.int _, fun _ e => nomatch e⟩
  | str b => cases rd_str h; exact ⟨.str _, fun _ e => nomatch e⟩
  | dict kvs => cases (show Rep F v (.dict kvs) from h)
theorem isi_of {B : Hp} {σ : L2.St} {env : Env} {tp : Tp} {H : Hp} {t : Sto} {Q : VK} {x : V} {a : RV} {ty : Ty} {EX : Str → Sto → Prop} (R : Rl K B σ env tp H) (o : OpdR K σ env (fz σ env tp H) x a)
    (w : wpm (isiR a ty) t (OKE K B σ env tp Q) EX) : rIsi K [x, .ty (tyName ty)] H Q := by
  obtain ⟨d, ed, w⟩ := wpm_asD w
  obtain ⟨h1, h2⟩ := ty_rd (K := K) (hide_same _ _) (o.rd R ed)
  exact ⟨x, _, _, _, _, rfl, .ty _, .base h1, kit_ty (kit_is ty d h2), w _ _ (post_d R (.bl _))⟩
theorem pe_isi {a : Expr} {t : Str} {ty : Ty} {p p2 pos : Pos} {m : Env → M RV} {W : WN} (ht : tyOf t = some ty) (hg : Gl X "isinstance") (hm : X.mg "isinstance" = none) (hgt : Gl X t) (hmt : X.mg t = none) (ha : PE X a (tE X.K m W)) (na : isStarE a = false) :
    PE X (.Call (.Name "isinstance" p) [a, .Name t p2] [] pos) (tE X.K (fun env => bnd (m env) fun r => isiR r ty) W) := by
  obtain ⟨b1, b2, b3⟩ := tyOf_boot ht
  have ht' : PE X (.Name t p2) (tC (.ty (tyName ty))) := pe_bltn hgt hmt b1 rfl b2 b3
  refine pe_imp (pe_callB call_isi hg hm (by decide +kernel) (pa_cons ha (pa_cons ht' pa_nil) (star_cons na)) (he := star_cons na)) fun σ H Q ⟨B, env, tp, t, R, w⟩ => ?_
  refine tE_step R w (fun _ _ q => q) fun r t1 v H1 R1 o1 w1 => ?_
  exact isi_of R1 o1 w1
/-! ### ranges as lists -/
theorem rg_reps {F : Hp} (a b : Int) : Reps F (rgV a b) (rangeL a b) := by
  unfold rgV rangeL
  generalize List.range (b - a).toNat = l
  induction l with
  | nil => exact .nil
  | cons i l ih => exact .cons (.int _) ih
theorem rgOk_of {a b : Int} (h : rangeOk a b = true) : RgOk a b := by
  have h' : -1000000 ≤ a ∧ a ≤ 1000000 ∧ -1000000 ≤ b ∧ b ≤ 1000000 := of_decide_eq_true h
  unfold RgOk
  omega
theorem pe_rngl {a : Expr} {p p2 q pos : Pos} {m : Env → M RV} {W : WN} (hc : X.calm = true) (hg : Gl X "list") (hm : X.mg "list" = none) (hg2 : Gl X "range") (hm2 : X.mg "range" = none) (ha : PE X a (tE X.K m W)) (na : isStarE a = false) :
    PE X (.Call (.Name "list" p) [.Call (.Name "range" p2) [a] [] q] [] pos) (tE X.K (fun env => bnd (m env) fun r => asD r fun
    | .int n => guard (rangeOk 0 n) (ret (.fr (.lst (rangeL 0 n))))
    | _ => stk) W) := pe_imp (pe_listRg hc hg hm (prg_1 hg2 hm2 ha (star_cons na))) fun σ H Q ⟨B, env, tp, t, R, w⟩ => by
  refine tE_step R w (fun _ _ q => q) fun r t1 v H1 R1 o1 w1 => ?_
  obtain ⟨d, ed, w1⟩ := wpm_asD w1
  have rx := o1.rd R1 ed
  split at w1 <;> first | exact wpm_stk w1 | skip
  obtain ⟨hz, w1⟩ := wpm_guard w1
  cases rd_int rx
  exact ⟨_, rfl, rgOk_of hz, fun n hn => w1 _ _ (post_lst R1 hn (rg_reps _ _))⟩
theorem pe_rngt {a : Expr} {p p2 q pos : Pos} {m : Env → M RV} {W : WN} (hc : X.calm = true) (hg : Gl X "tuple") (hm : X.mg "tuple" = none) (hg2 : Gl X "range") (hm2 : X.mg "range" = none) (ha : PE X a (tE X.K m W)) (na : isStarE a = false) :
    PE X (.Call (.Name "tuple" p) [.Call (.Name "range" p2) [a] [] q] [] pos) (tE X.K (fun env => bnd (m env) fun r => asD r fun
    | .int n => guard (rangeOk 0 n) (ret (rd (.tuple (rangeL 0 n))))
    | _ => stk) W) := pe_imp (pe_tupRg hc hg hm (prg_1 hg2 hm2 ha (star_cons na))) fun σ H Q ⟨B, env, tp, t, R, w⟩ => by
  refine tE_step R w (fun _ _ q => q) fun r t1 v H1 R1 o1 w1 => ?_
  obtain ⟨d, ed, w1⟩ := wpm_asD w1
  have rx := o1.rd R1 ed
  split at w1 <;> first | exact wpm_stk w1 | skip
  obtain ⟨hz, w1⟩ := wpm_guard w1
  cases rd_int rx
  exact ⟨_, rfl, rgOk_of hz, fun n hn => w1 _ _ (post_tup R1 hn (rg_reps _ _))⟩
/-! ### argument lists -/
theorem pa_nilM {W : WN} : PA X [] (tAr X.K (fun _ => ret []) W) := pa_imp pa_nil fun σ H Q ⟨B, env, tp, t, R, w⟩ => w [] H R .nil
theorem pa_consM {e : Expr} {es : List Expr} {m : Env → M RV} {ms : Env → M (List RV)} {W : WN} (ha : PE X e (tE X.K m W)) (hs : PA X es (tAr X.K ms W)) (na : isStarE e = false) :
    PA X (e :: es) (tAr X.K (fun env => bnd (m env) fun r => bnd (ms env) fun rs => ret (r :: rs)) W) := pa_imp (pa_cons ha hs (star_cons na)) fun σ H Q ⟨B, env, tp, t, R, w⟩ => by
  refine tE_step R w (fun _ _ q => q) fun r t1 v H1 R1 o1 w1 => ?_
  refine tAr_step R1.base w1 (Exs.base (fun _ _ q => q) R1) fun rs t2 vs H2 R2 o2 w2 => ?_
  exact w2 (v :: vs) H2 (R2.down R1.le) (.cons (o1.mono R2.le) o2)
/-- kept -/
theorem keepV_of {σ : L2.St} {env : Env} {F : Hp} {v : V} {r : RV} {t : Sto} {ok : Vv → Sto → Prop} {ex : Str → Sto → Prop} (o : OpdR K σ env F v r) (w : wpm (keepV r) t ok ex) : ∃ x, VvR K F v x ∧ ok x t := by
  unfold keepV at w
  split at w <;> first | exact wpm_stk w | skip
  · exact ⟨_, o, w⟩
  · obtain ⟨p, rfl, vs, h1, h2⟩ := o
    exact ⟨.d _, Rep.lst h1 h2, w⟩
theorem keepD_of {σ : L2.St} {env : Env} {F : Hp} {v : V} {r : RV} {t : Sto} {ok : D → Sto → Prop} {ex : Str → Sto → Prop} (o : OpdR K σ env F v r) (w : wpm (keepD r) t ok ex) : ∃ x, Rep F v x ∧ ok x t := by
  unfold keepD at w
  rw [wpm_bnd] at w
  obtain ⟨x, h, w⟩ := keepV_of o w
  split at w <;> first | exact wpm_stk w | skip
  exact ⟨_, h, w⟩
theorem keepAllD_of {σ : L2.St} {env : Env} {F : Hp} : ∀ {vs : List V} {rs : List RV} {t : Sto} {ok : List D → Sto → Prop} {ex : Str → Sto → Prop}, OpdsR K σ env F vs rs → wpm (keepAllD rs) t ok ex → ∃ ds, Reps F vs ds ∧ ds.length = rs.length ∧ ok ds t
  | _, _, _, _, _, .nil, w => ⟨[], .nil, rfl, w⟩
  | _, _, t, ok, ex, .cons h q, w => by
    unfold keepAllD at w
    rw [wpm_bnd] at w
    obtain ⟨x, hx, w⟩ := keepD_of h w
    rw [wpm_bnd] at w
    obtain ⟨ds, hds, hl, w⟩ := keepAllD_of q w
    exact ⟨x :: ds, .cons hx hds, by rw [List.length_cons, List.length_cons, hl], w⟩
theorem pe_tupM {es : List Expr} {k : Nat} {pos : Pos} {ms : Env → M (List RV)} {W : WN} (hs : PA X es (tAr X.K ms W)) : PE X (.Tuple es k pos) (tE X.K (fun env => bnd (ms env) fun rs => guard (fits rs.length) (bnd (keepAllD rs) fun xs => ret (rd (.tuple xs)))) W) := pe_imp (pe_tup hs) fun σ H Q ⟨B, env, tp, t, R, w⟩ => by
  refine tAr_step R w (fun _ _ q => q) fun rs t1 vs H1 R1 o1 w1 => ?_
  obtain ⟨hz, w1⟩ := wpm_guard w1
  rw [wpm_bnd] at w1
  obtain ⟨ds, hds, hl, w1⟩ := keepAllD_of o1 w1
  exact ⟨by rw [hds.length, hl]; exact fits_le hz, fun n hn => w1 _ _ (post_tup R1 hn hds)⟩
theorem pe_lstM {es : List Expr} {pos : Pos} {ms : Env → M (List RV)} {W : WN} (hs : PA X es (tAr X.K ms W)) : PE X (.List es pos) (tE X.K (fun env => bnd (ms env) fun rs => guard (fits rs.length) (bnd (keepAllD rs) fun xs => ret (.fr (.lst xs)))) W) := pe_imp (pe_lst hs) fun σ H Q ⟨B, env, tp, t, R, w⟩ => by
  refine tAr_step R w (fun _ _ q => q) fun rs t1 vs H1 R1 o1 w1 => ?_
  obtain ⟨hz, w1⟩ := wpm_guard w1
  rw [wpm_bnd] at w1
  obtain ⟨ds, hds, hl, w1⟩ := keepAllD_of o1 w1
  exact ⟨by rw [hds.length, hl]; exact fits_le hz, fun n hn => w1 _ _ (post_lst R1 hn hds)⟩
end
end Pv
/-! Pv10: targets, what is walked, comprehensions. -/
namespace Pv
open PySem PySem.Spec PyProof.Rows L2
section
variable {K : PySem.W.Frag} {B F F' H H' : Hp} {σ σ1 : L2.St} {env env1 : Env} {tp : Tp}
def isOwn : Option Slot → Bool
  | some (.own _) => true
  | _ => false
/-- a slot that is not owned is set: the owned places are the same -/
theorem oa_keep : ∀ {σ : L2.St} {env : Env} {i : Nat} {x : Option V} {s : Slot}, isOwn env[i]? = false → isOwn (some s) = false → oa (σ.set i x) (env.set i s) = oa σ env
  | [], _, _, _, _, _, _ => rfl
  | y :: σ, [], i, x, s, _, _ => by cases i <;> (rw [List.set_nil]; cases x <;> cases y <;> simp [oa])
  | y :: σ, u :: env, 0, x, s, h, h' => by
    simp only [List.set_cons_zero]
    have h : isOwn (some u) = false := by simpa using h
    have e1 : oa (x :: σ) (s :: env) = oa σ env := by
      cases s <;> first | (simp [isOwn] at h'; done) | (cases x with | none => rfl | some v => cases v <;> rfl)
    have e2 : oa (y :: σ) (u :: env) = oa σ env := by
      cases u <;> first | (simp [isOwn] at h; done) | (cases y with | none => rfl | some v => cases v <;> rfl)
    rw [e1, e2]
  | y :: σ, u :: env, i + 1, x, s, h, h' => by
    simp only [List.set_cons_succ]
    have ih := oa_keep (σ := σ) (env := env) (i := i) (x := x) (s := s) (by simpa using h) h'
    cases u <;> (cases y with | none => exact ih | some v => cases v <;> first | exact ih | exact congrArg _ ih)
theorem Rl.len (R : Rl K B σ env tp H) : σ.length = env.length := R.sl.length
/-- a slot of ours that is not owned is set -/
theorem Rl.put (R : Rl K B σ env tp H) {i : Nat} {x : Option V} {s : Slot} (h : isOwn env[i]? = false) (h' : isOwn (some s) = false) (hs : SlotR K (fz σ env tp H) H x s) : Rl K B (σ.set i x) (env.set i s) tp H := by
  have e := oa_keep (σ := σ) (x := x) h h'
  refine ⟨by rw [e]; exact R.le, ?_, by rw [e]; exact R.nd, R.tk⟩
  rw [e]
  exact R.sl.set i hs
theorem wipe_put : ∀ (vs : List Nat), wipeOk env vs = true → Rl K B σ env tp H → Rl K B (wipe σ vs) (wipeE env vs) tp H ∧ (∀ i : Nat, isOwn (wipeE env vs)[i]? = true → isOwn env[i]? = true) ∧ oa (wipe σ vs) (wipeE env vs) = oa σ env
  | [], _, R => ⟨R, fun _ h => h, rfl⟩
  | v :: vs, h, R => by
    unfold wipeOk at h
    rw [List.all_cons, Bool.and_eq_true] at h
    obtain ⟨R', k, e⟩ := wipe_put vs h.2 R
    have hv : isOwn (wipeE env vs)[v]? = false := by
      cases q : isOwn (wipeE env vs)[v]? with
      | false => rfl
      | true =>
        have := k v q
        have h1 := h.1
        unfold isOwn at this
        split at this
        · rename_i o; rw [o] at h1; exact absurd h1 Bool.false_ne_true
        · cases this
    refine ⟨R'.put hv rfl trivial, fun i hi => ?_, (oa_keep hv rfl).trans e⟩
    by_cases z : i = v
    · subst z
      exfalso
      unfold wipeE at hi
      by_cases zl : i < (wipeE env vs).length
      · rw [List.getElem?_set_self zl] at hi; exact absurd hi (by decide)
      · rw [List.getElem?_eq_none (by rw [List.length_set]; omega)] at hi; exact absurd hi (by decide)
    · unfold wipeE at hi
      rw [List.getElem?_set_ne (Ne.symm z)] at hi
      exact k i hi
/-- the owned slots are the same -/
def Near (σ : L2.St) (env : Env) (σ1 : L2.St) (env1 : Env) : Prop := ∀ (j : Nat) (o : OV), env[j]? = some (Slot.own o) → env1[j]? = some (Slot.own o) ∧ σ1[j]? = σ[j]?
theorem SlotsR.of_get : ∀ {σ : L2.St} {env : Env}, σ.length = env.length → (∀ (i : Nat) (x : Option V) (s : Slot), σ[i]? = some x → env[i]? = some s → SlotR K F H x s) → SlotsR K F H σ env
  | [], [], _, _ => .nil
  | [], _ :: _, h, _ => by simp at h
  | _ :: _, [], h, _ => by simp at h
  | x :: σ, s :: env, h, k => .cons (k 0 x s rfl rfl) (SlotsR.of_get (by simpa using h) fun i y u e1 e2 => k (i + 1) y u (by simpa using e1) (by simpa using e2))
theorem SlotsR.back (h : SlotsR K F H σ env) (h1 : SlotsR K F' H' σ1 env1) (s : Same F F') (n : Near σ env σ1 env1) : SlotsR K F' H' σ env := SlotsR.of_get h.length fun i x u e1 e2 => by
  obtain ⟨y, ey, q⟩ := h.get e2
  rw [e1] at ey
  cases ey
  cases u with
  | non => trivial
  | val v => obtain ⟨z, ez, q⟩ := q; exact ⟨z, ez, q.mono s⟩
  | own o =>
    obtain ⟨n1, n2⟩ := n i o e2
    obtain ⟨y, ey, q⟩ := h1.get n1
    rw [n2, e1] at ey
    cases ey
    exact q
/-- back from a block -/
theorem Rl.back {B' : Hp} (R : Rl K B σ env tp H) (R1 : Rl K B' σ1 env1 tp H') (e : oa σ1 env1 = oa σ env) (s : Same (fz σ env tp H) B') (n : Near σ env σ1 env1) : Rl K B σ env tp H' := by
  have le1 := R1.le
  have sl1 := R1.sl
  rw [e] at le1 sl1
  exact ⟨(R.le.trans s).trans le1, R.sl.back sl1 (s.trans le1) n, R.nd, R1.tk⟩

/-! ### targets -/
mutual
def gT (K : PySem.W.Frag) : T → TG
  | .nm i => gName i
  | .tp ts => fun v σ H Q => gTup K ts.length (gTs K ts) v σ H Q ∨ gLst K ts.length (gTs K ts) v σ H Q
def gTs (K : PySem.W.Frag) : List T → TGs
  | [] => gNil
  | t :: ts => gCons (gT K t) (gTs K ts)
end
mutual
def tN : T → List Nat
  | .nm i => [i]
  | .tp ts => tNs ts
def tNs : List T → List Nat
  | [] => []
  | t :: ts => tN t ++ tNs ts
end
/-- only these slots are touched, none of them owned -/
structure Put (vs : List Nat) (K : PySem.W.Frag) (B : Hp) (tp : Tp) (H : Hp) (σ : L2.St) (env : Env) (σ1 : L2.St) (env1 : Env) : Prop where
  rl : Rl K B σ1 env1 tp H
  oa_ : oa σ1 env1 = oa σ env
  out : ∀ i : Nat, i ∉ vs → σ1[i]? = σ[i]? ∧ env1[i]? = env[i]?
  own : ∀ i : Nat, i ∈ vs → isOwn env[i]? = false ∧ isOwn env1[i]? = false
theorem set_own {i j : Nat} {s : Slot} (h : isOwn env[j]? = false) (h' : isOwn (some s) = false) : isOwn (env.set i s)[j]? = false := by
  by_cases z : i = j
  · subst z
    by_cases zl : i < env.length
    · rw [List.getElem?_set_self zl]; exact h'
    · rw [List.getElem?_eq_none (by rw [List.length_set]; omega)]; rfl
  · rw [List.getElem?_set_ne z]; exact h
def noOwn (env : Env) (vs : List Nat) : Prop := ∀ i : Nat, i ∈ vs → isOwn env[i]? = false
mutual
theorem gT_of : ∀ (t : T) (d : D) (v : V) (σ : L2.St) (env : Env) (env1 : Env) (Q : L2.St → Hp → Prop), Rl K B σ env tp H → Rep (fz σ env tp H) v d → asg t d env = some env1 → noOwn env (tN t) → (∀ σ1, Put (tN t) K B tp H σ env σ1 env1 → Q σ1 H) → gT K t v σ H Q
  | .nm i, d, v, σ, env, env1, Q, R, r, e, n, q => by
    cases e
    have n' : isOwn env[i]? = false := n i (by simp [tN])
    refine q _ ⟨R.put n' rfl ⟨v, rfl, r⟩, oa_keep n' rfl, fun j hj => ?_, fun j hj => ?_⟩
    · have : i ≠ j := fun z => hj (by simp [tN, z])
      exact ⟨List.getElem?_set_ne this, List.getElem?_set_ne this⟩
    · have : j = i := by simpa [tN] using hj
      subst this
      exact ⟨n', set_own n' rfl⟩
  | .tp ts, d, v, σ, env, env1, Q, R, r, e, n, q => by
    cases d with
    | tuple xs =>
      obtain ⟨p, vs, rfl, h1, h2⟩ := rd_tup (RdR.of r (hide_same _ _))
      obtain ⟨hl, hh⟩ := gTs_of ts xs vs σ env env1 Q R h2 e n q
      exact .inl ⟨p, vs, rfl, .of (hide_same _ _ _ _ h1), by rw [h2.length, hl], hh⟩
    | list xs =>
      cases r with
      | lst h1 h2 =>
        obtain ⟨hl, hh⟩ := gTs_of ts xs _ σ env env1 Q R h2 e n q
        exact .inr ⟨_, _, rfl, .of (hide_same _ _ _ _ h1), by rw [h2.length, hl], hh⟩
    | _ => cases e
theorem gTs_of : ∀ (ts : List T) (ds : List D) (vs : List V) (σ : L2.St) (env : Env) (env1 : Env) (Q : L2.St → Hp → Prop), Rl K B σ env tp H → Reps (fz σ env tp H) vs ds → asgs ts ds env = some env1 → noOwn env (tNs ts) → (∀ σ1, Put (tNs ts) K B tp H σ env σ1 env1 → Q σ1 H) → ds.length = ts.length ∧ gTs K ts vs σ H Q
  | [], ds, vs, σ, env, env1, Q, R, r, e, n, q => by
    cases r with
    | nil =>
      cases e
      exact ⟨rfl, rfl, q σ ⟨R, rfl, fun _ _ => ⟨rfl, rfl⟩, fun _ h => nomatch h⟩⟩
    | cons _ _ => cases e
  | t :: ts, ds, vs, σ, env, env1, Q, R, r, e, n, q => by
    cases r with
    | nil => cases e
    | @cons v vs d ds h1 h2 =>
      unfold asgs at e
      split at e
      · rename_i env' e'
        have n1 : noOwn env (tN t) := fun i hi => n i (List.mem_append_left _ hi)
        refine ⟨?_, v, vs, rfl, gT_of t d v σ env env' _ R h1 e' n1 fun σ1 P => ?_⟩
        · have k := gTs_len ts ds env' env1 e
          rw [List.length_cons, List.length_cons, k]
        · have n2 : noOwn env' (tNs ts) := fun i hi => by
            by_cases z : i ∈ tN t
            · exact (P.own i z).2
            · rw [(P.out i z).2]; exact n i (List.mem_append_right _ hi)
          have h2' : Reps (fz σ1 env' tp H) vs ds := by
            unfold fz
            rw [P.oa_]
            exact h2
          refine (gTs_of ts ds vs σ1 env' env1 Q P.rl h2' e n2 fun σ2 P2 => q σ2 ⟨P2.rl, P2.oa_.trans P.oa_, fun i hi => ?_, fun i hi => ?_⟩).2
          · have i1 : i ∉ tN t := fun z => hi (List.mem_append_left _ z)
            have i2 : i ∉ tNs ts := fun z => hi (List.mem_append_right _ z)
            exact ⟨(P2.out i i2).1.trans (P.out i i1).1, (P2.out i i2).2.trans (P.out i i1).2⟩
          · refine ⟨n i hi, ?_⟩
            by_cases z : i ∈ tNs ts
            · exact (P2.own i z).2
            · rw [(P2.out i z).2]
              by_cases z' : i ∈ tN t
              · exact (P.own i z').2
              · exact absurd hi (fun h => (List.mem_append.mp h).elim z' z)
      · cases e
theorem gTs_len : ∀ (ts : List T) (ds : List D) (env env1 : Env), asgs ts ds env = some env1 → ds.length = ts.length
  | [], [], _, _, _ => rfl
  | [], _ :: _, _, _, e => by cases e
  | _ :: _, [], _, _, e => by cases e
  | t :: ts, d :: ds, env, env1, e => by
    unfold asgs at e
    split at e
    · rw [List.length_cons, List.length_cons, gTs_len ts ds _ _ e]
    · cases e
end
end
end Pv
/-! Pv11: what is walked. -/
namespace Pv
open PySem PySem.Spec PyProof.Rows L2
/-- what a turn hands out: as it lies, or in a new tuple -/
def YR (F H : Hp) (x : V) (H' : Hp) (d : D) : Prop := (H' = H ∧ Rep F x d) ∨ ∃ T vs ds, x = .ref T ∧ H T = none ∧ H' = upd H T (.tup vs) ∧ d = .tuple ds ∧ Reps F vs ds
def SrcF (F : Hp) (J : It) (xs : List D) : Prop := Walk J xs.length (Same F) fun i H x H' => ∃ d, xs[i]? = some d ∧ YR F H x H' d
def SrcB (K : PySem.W.Frag) (F : Hp) (σ : L2.St) (env : Env) (J : It) (xs : List D) : Prop := Walk J xs.length (fun H => ∃ tp, Rl K F σ env tp H) fun i H x H' => ∃ d, xs[i]? = some d ∧ ∀ tp, Rl K F σ env tp H → YR (fz σ env tp H) H x H' d
section
variable {K : PySem.W.Frag} {F F' B H H' : Hp} {σ : L2.St} {env : Env} {tp : Tp} {J : It} {xs : List D}
theorem YR.mono {x : V} {d : D} (s : Same F F') (h : YR F H x H' d) : YR F' H x H' d := by
  rcases h with ⟨e, r⟩ | ⟨T, vs, ds, e1, e2, e3, e4, r⟩
  · exact .inl ⟨e, r.mono s⟩
  · exact .inr ⟨T, vs, ds, e1, e2, e3, e4, r.mono s⟩
theorem SrcF.b (h : SrcF F J xs) : SrcB K F σ env J xs := Walk.mono h (fun H ⟨tp, R⟩ => R.le.trans (hide_same _ _)) fun i H x H' hi R ⟨d, e, y⟩ => ⟨d, e, fun tp R => y.mono R.le⟩
theorem at_reps {vs : List V} (h : Reps F vs xs) {i : Nat} (hi : i < xs.length) {x : V} (e : vs[i]? = some x) : ∃ d, xs[i]? = some d ∧ Rep F x d := h.getV e
/-- a frozen list, a frozen tuple -/
theorem src_list {p : Addr} {vs : List V} (h1 : F p = some (.lst vs)) (h2 : Reps F vs xs) : SrcF F (Itl K p) xs := by
  have w := walk_list (K := K) (a := p) (xs := vs)
  rw [h2.length] at w
  exact w.mono (fun H s => .of (s _ _ h1)) fun i H x H' hi s ⟨e, y⟩ => let ⟨d, e1, r⟩ := h2.getV y; ⟨d, e1, .inl ⟨e, r⟩⟩
theorem src_tup {p : Addr} {vs : List V} (h1 : F p = some (.tup vs)) (h2 : Reps F vs xs) : SrcF F (Itt K p) xs := by
  have w := walk_tup (K := K) (a := p) (xs := vs)
  rw [h2.length] at w
  exact w.mono (fun H s => .of (s _ _ h1)) fun i H x H' hi s ⟨e, y⟩ => let ⟨d, e1, r⟩ := h2.getV y; ⟨d, e1, .inl ⟨e, r⟩⟩
theorem rangeL_get {a b : Int} {i : Nat} (hi : i < (b - a).toNat) : (rangeL a b)[i]? = some (.int (a + (i : Nat))) := by
  unfold rangeL
  rw [List.getElem?_map, List.getElem?_range hi]
  rfl
theorem rangeL_len (a b : Int) : (rangeL a b).length = (b - a).toNat := by
  unfold rangeL
  rw [List.length_map, List.length_range]
theorem src_range {a b : Int} : SrcF F (Itr a (b - a).toNat) (rangeL a b) := by
  have w := walk_range (lo := a) (n := (b - a).toNat)
  unfold SrcF
  rw [rangeL_len]
  exact w.mono (fun _ _ => trivial) fun i H x H' hi _ ⟨e, y⟩ => ⟨_, rangeL_get hi, .inl ⟨e, by rw [y]; exact .int _⟩⟩
/-- the own list of a slot -/
theorem own_at (R : Rl K B σ env tp H) {i : Nat} {p : Addr} {ys : List D} (h1 : σ[i]? = some (some (.ref p))) (h2 : env[i]? = some (.own (.lst ys))) : ∃ vs, H p = some (.lst vs) ∧ Reps (fz σ env tp H) vs ys := by
  obtain ⟨y, e1, p', e2, vs, h3, h4⟩ := R.sl.get h2
  rw [h1] at e1
  cases e1
  cases e2
  exact ⟨vs, h3, h4⟩
theorem own_val {i : Nat} {p : Addr} {ys : List D} {tp' : Tp} (R : Rl K B σ env tp H) (R' : Rl K F σ env tp' H) (h1 : σ[i]? = some (some (.ref p))) (h2 : env[i]? = some (.own (.lst ys))) {vs : List V} (h : H p = some (.lst vs)) : Reps (fz σ env tp' H) vs ys := by
  obtain ⟨ws, h3, h4⟩ := own_at R' h1 h2
  rw [h] at h3
  cases h3
  exact h4
theorem src_own {i : Nat} {p : Addr} (h1 : σ[i]? = some (some (.ref p))) (h2 : env[i]? = some (.own (.lst xs))) : SrcB K F σ env (Itl K p) xs where
  goes := fun j H hj ⟨tp, R⟩ => by
    obtain ⟨vs, h3, h4⟩ := own_at R h1 h2
    exact ⟨vs, vs[j]'(by rw [h4.length]; exact hj), .of h3, List.getElem?_eq_getElem _⟩
  stops := fun H ⟨tp, R⟩ => by
    obtain ⟨vs, h3, h4⟩ := own_at R h1 h2
    exact ⟨vs, .of h3, by rw [h4.length]; exact Nat.le_refl _⟩
  yields := fun j H x H' hj ⟨tp, R⟩ y => by
    obtain ⟨vs, h3, h4⟩ := own_at R h1 h2
    obtain ⟨e, y⟩ := y
    have y' := y vs (.of h3)
    obtain ⟨d, e1, r⟩ := h4.getV y'
    refine ⟨d, e1, fun tp' R' => .inl ⟨e, ?_⟩⟩
    obtain ⟨d', e2, r'⟩ := (own_val R R' h1 h2 h3).getV y'
    rw [e1] at e2
    cases e2
    exact r'
theorem enumL_get : ∀ (xs : List D) (n i : Nat) {d : D}, xs[i]? = some d → (enumL n xs)[i]? = some (.tuple [.int ((n + i : Nat) : Int), d])
  | [], _, _, _, h => by simp at h
  | x :: xs, n, 0, d, h => by simp at h; subst h; rfl
  | x :: xs, n, i + 1, d, h => by
    have ih := enumL_get xs (n + 1) i (d := d) (by simpa using h)
    show (enumL (n + 1) xs)[i]? = _
    rw [ih]
    congr 5
    omega
theorem enumL_len : ∀ (xs : List D) (n : Nat), (enumL n xs).length = xs.length
  | [], _ => rfl
  | x :: xs, n => congrArg (· + 1) (enumL_len xs (n + 1))
theorem src_enum {p : Addr} {vs : List V} (h1 : F p = some (.lst vs)) (h2 : Reps F vs xs) : SrcF F (Ite K p) (enumL 0 xs) := by
  have w := walk_enum (K := K) (a := p) (xs := vs)
  unfold SrcF
  rw [enumL_len, ← h2.length]
  refine w.mono (fun H s => .of (s _ _ h1)) fun i H x H' hi s ⟨T, a, b, e1, e2, e3, e4, e5⟩ => ?_
  obtain ⟨d, e6, r⟩ := h2.getV e5
  cases e4
  exact ⟨_, by have := enumL_get xs 0 i e6; rw [Nat.zero_add] at this; exact this, .inr ⟨T, _, _, e1, e2, e3, rfl, .cons (.int _) (.cons r .nil)⟩⟩
theorem src_enumB {i : Nat} {p : Addr} (h1 : σ[i]? = some (some (.ref p))) (h2 : env[i]? = some (.own (.lst xs))) : SrcB K F σ env (Ite K p) (enumL 0 xs) where
  goes := fun j H hj ⟨tp, R⟩ => by
    rw [enumL_len] at hj
    obtain ⟨vs, h3, h4⟩ := own_at R h1 h2
    exact ⟨vs, vs[j]'(by rw [h4.length]; exact hj), .of h3, List.getElem?_eq_getElem _⟩
  stops := fun H ⟨tp, R⟩ => by
    obtain ⟨vs, h3, h4⟩ := own_at R h1 h2
    exact ⟨vs, .of h3, by rw [h4.length, enumL_len]; exact Nat.le_refl _⟩
  yields := fun j H x H' hj ⟨tp, R⟩ y => by
    obtain ⟨vs, h3, h4⟩ := own_at R h1 h2
    obtain ⟨T, b, e1, e2, e3, y⟩ := y
    have y' := y vs (.of h3)
    obtain ⟨d, e6, r⟩ := h4.getV y'
    refine ⟨_, by have := enumL_get xs 0 j e6; rw [Nat.zero_add] at this; exact this, fun tp' R' => .inr ⟨T, _, _, e1, e2, e3, rfl, .cons (.int _) (.cons ?_ .nil)⟩⟩
    obtain ⟨d', e2, r'⟩ := (own_val R R' h1 h2 h3).getV y'
    rw [e6] at e2
    cases e2
    exact r'
end
/-- what a source's evaluation hands on -/
def tI (K : PySem.W.Frag) (m : Env → M (List D × Bool)) (W : WN) : TI := fun σ H R => ∃ B env tp t, Rl K B σ env tp H ∧ wpm (m env) t (fun p _ => ∀ J H', Rl K B σ env tp H' → p.1.length ≤ sizeLine → SrcB K (fz σ env tp H') σ env J p.1 → (p.2 = false → SrcF (fz σ env tp H') J p.1) → R J H') fun x _ => ∀ H', Rl K B σ env tp H' → W x σ H'
theorem pi_imp {X : Cx} {tg e : Expr} {t t' : TI} (h : PI X tg e t) (i : ∀ σ H Q, t' σ H Q → t σ H Q) : PI X tg e t' := ⟨fun pins s σ H R I q => h.run pins s σ H R I (i σ H R q)⟩
def SzOk (H : Hp) : Prop := ∀ a xs, (H a = some (.lst xs) → xs.length ≤ sizeLine) ∧ (H a = some (.tup xs) → xs.length ≤ sizeLine)
/-- the sizes are known where an iterator has come -/
theorem pi_sz {X : Cx} {tg e : Expr} {t : TI} (h : PI X tg e t) : PI X tg e (fun σ H R => t σ H fun J H1 => SzOk H1 → R J H1) := ⟨fun pins s σ H R I q => thn (h.run pins s σ H _ I q) fun v s1 w => thn w fun itv s2 ⟨it, fp, tn, J, H', e1, I2, T, t0, ff, r⟩ => ⟨it, fp, tn, J, H', e1, I2, T, t0, ff, r fun a xs => ⟨fun e => (I2.hok a _ e).1, fun e => (I2.hok a _ e).1⟩⟩⟩
theorem pi_or {X : Cx} {tg e : Expr} {t t' : TI} (h : PI X tg e t) (h' : PI X tg e t') : PI X tg e (fun σ H R => t σ H R ∨ t' σ H R) := ⟨fun pins s σ H R I q => q.elim (h.run pins s σ H R I) (h'.run pins s σ H R I)⟩
section
variable {X : Cx} {tg : Expr} {W : WN}
theorem opds2 {K : PySem.W.Frag} {σ : L2.St} {env : Env} {F : Hp} {xs : List V} {r s : RV} (o : OpdsR K σ env F xs [r, s]) : ∃ x y, xs = [x, y] ∧ OpdR K σ env F x r ∧ OpdR K σ env F y s := by
  cases o with
  | cons h q =>
    cases q with
    | cons h' q => cases q; exact ⟨_, _, rfl, h, h'⟩
theorem opd_bo {K : PySem.W.Frag} {σ : L2.St} {env : Env} {F : Hp} {v : V} {r : RV} (o : OpdR K σ env F v r) (h : isBo r = true) : ∃ i ov, r = .bo i ov ∧ σ[i]? = some (some v) ∧ env[i]? = some (.own ov) := by
  cases r with
  | bo i ov => exact ⟨i, ov, rfl, o.1, o.2⟩
  | _ => cases h
theorem nobo_frz {K : PySem.W.Frag} {σ : L2.St} {env : Env} {tp : Tp} {B H : Hp} {v : V} {r : RV} {d : D} (R : Rl K B σ env tp H) (o : OpdR K σ env (fz σ env tp H) v r) (h : isBo r = false) (e : r.dat = some d) : Rep (fz σ env tp H) v d := by
  cases r with
  | v x => cases x with
    | d x => cases e; exact o
    | _ => cases e
  | fr ov => cases ov with
    | lst xs => cases e; obtain ⟨p, rfl, vs, h1, h2⟩ := o; exact .lst h1 h2
    | _ => cases e
  | bo i ov => cases h
theorem src_seq {K : PySem.W.Frag} {B : Hp} {σ : L2.St} {env : Env} {tp : Tp} {H : Hp} {v : V} {r : RV} {xs : List D} (R : Rl K B σ env tp H) (o : OpdR K σ env (fz σ env tp H) v r) (e : r.dat = some (.list xs)) :
    ∃ p, v = .ref p ∧ (∃ vs, H p = some (.lst vs) ∧ Reps (fz σ env tp H) vs xs) ∧ SrcB K (fz σ env tp H) σ env (Itl K p) xs ∧ (isBo r = false → SrcF (fz σ env tp H) (Itl K p) xs) := by
  cases q : isBo r with
  | false =>
    cases nobo_frz R o q e with
    | lst h1 h2 => exact ⟨_, rfl, ⟨_, hide_same _ _ _ _ h1, h2⟩, (src_list h1 h2).b, fun _ => src_list h1 h2⟩
  | true =>
    obtain ⟨i, ov, rfl, h1, h2⟩ := opd_bo o q
    cases ov with
    | lst ys =>
      cases e
      obtain ⟨y, e1, p, e2, vs, h3, h4⟩ := R.sl.get h2
      rw [h1] at e1
      cases e1
      cases e2
      exact ⟨p, rfl, ⟨vs, h3, h4⟩, src_own h1 h2, fun z => nomatch z⟩
    | _ => cases e
theorem src_enumS {K : PySem.W.Frag} {B : Hp} {σ : L2.St} {env : Env} {tp : Tp} {H : Hp} {v : V} {r : RV} {xs : List D} (R : Rl K B σ env tp H) (o : OpdR K σ env (fz σ env tp H) v r) (e : r.dat = some (.list xs)) :
    ∃ p vs, v = .ref p ∧ (H p = some (.lst vs) ∧ Reps (fz σ env tp H) vs xs) ∧ SrcB K (fz σ env tp H) σ env (Ite K p) (enumL 0 xs) ∧ (isBo r = false → SrcF (fz σ env tp H) (Ite K p) (enumL 0 xs)) := by
  cases q : isBo r with
  | false =>
    cases nobo_frz R o q e with
    | lst h1 h2 => exact ⟨_, _, rfl, ⟨hide_same _ _ _ _ h1, h2⟩, (src_enum h1 h2).b, fun _ => src_enum h1 h2⟩
  | true =>
    obtain ⟨i, ov, rfl, h1, h2⟩ := opd_bo o q
    cases ov with
    | lst ys =>
      cases e
      obtain ⟨y, e1, p, e2, vs, h3, h4⟩ := R.sl.get h2
      rw [h1] at e1
      cases e1
      cases e2
      exact ⟨p, vs, rfl, ⟨h3, h4⟩, src_enumB h1 h2, fun z => nomatch z⟩
    | _ => cases e
theorem pi_seqM {e : Expr} {m : Env → M RV} (h : PE X e (tE X.K m W)) : PI X tg e (tI X.K (fun env => bnd (m env) fun r => asD r fun x => bnd (seqD x) fun xs => ret (xs, isBo r)) W) := pi_imp (pi_or (pi_sz (pi_list h)) (pi_sz (pi_tup h))) fun σ H Q ⟨B, env, tp, t, R, w⟩ => by
  have key : (∃ xs, ∀ r t1, m env t = .ok r t1 → r.dat = some (.tuple xs)) ∨ (∀ r t1, m env t = .ok r t1 → ∃ xs, r.dat = some (.list xs)) := by
    rw [wpm_bnd] at w
    cases q : m env t with
    | stuck => exact .inr fun r t1 e => nomatch e
    | exc x t1 => exact .inr fun r t1 e => nomatch e
    | ok r t1 =>
      unfold wpm at w
      rw [q] at w
      obtain ⟨d, ed, w⟩ := wpm_asD (show wpm _ t1 _ _ from w)
      cases d with
      | list xs => exact .inr fun r' t' e => by cases e; exact ⟨xs, ed⟩
      | tuple xs => exact .inl ⟨xs, fun r' t' e => by cases e; exact ed⟩
      | _ => exact w.elim
  have st : ∀ {k : RV → M (List D × Bool)} {OK : List D × Bool → Sto → Prop} {Qv : VK}, wpm (bnd (m env) k) t OK (fun x _ => ∀ H', Rl X.K B σ env tp H' → W x σ H') →
      (∀ r t1 v H1, m env t = .ok r t1 → Rl X.K B σ env tp H1 → OpdR X.K σ env (fz σ env tp H1) v r → wpm (k r) t1 OK (fun x _ => ∀ H', Rl X.K B σ env tp H' → W x σ H') → Qv v H1) → tE X.K m W σ H Qv := by
    intro k OK Qv w hk
    rw [wpm_bnd] at w
    refine ⟨B, env, tp, t, R, ?_⟩
    unfold wpm at w ⊢
    cases q : m env t with
    | stuck => rw [q] at w; exact w
    | exc x t1 => rw [q] at w; exact w
    | ok r t1 => rw [q] at w; exact fun v H1 p => hk r t1 v H1 q p.opd.1 p.opd.2 w
  rcases key with ⟨xs, key⟩ | key
  · refine .inr (st w fun r t1 v H1 q R1 o1 w1 => ?_)
    have ed := key r t1 q
    obtain ⟨d, ed', w1⟩ := wpm_asD w1
    rw [ed] at ed'
    cases ed'
    have nb : isBo r = false := by
      cases r with
      | bo i ov => cases ov <;> cases ed
      | _ => rfl
    obtain ⟨p, vs, rfl, h1, h2⟩ := rd_tup (o1.rd R1 ed)
    exact ⟨p, rfl, ⟨vs, .of (hide_same _ _ _ _ h1)⟩, fun sz => w1 _ H1 R1 (by rw [← h2.length]; exact (sz p vs).2 (hide_same _ _ _ _ h1)) (src_tup h1 h2).b fun _ => src_tup h1 h2⟩
  · refine .inl (st w fun r t1 v H1 q R1 o1 w1 => ?_)
    obtain ⟨xs, ed⟩ := key r t1 q
    obtain ⟨d, ed', w1⟩ := wpm_asD w1
    rw [ed] at ed'
    cases ed'
    obtain ⟨p, rfl, ⟨vs, hs, hr⟩, sb, sf⟩ := src_seq R1 o1 ed
    exact ⟨p, rfl, ⟨vs, .of hs⟩, fun sz => w1 _ H1 R1 (by rw [← hr.length]; exact (sz p vs).1 hs) sb sf⟩
theorem pi_rng1M {a : Expr} {p pos : Pos} {m : Env → M RV} (hg : Gl X "range") (hm : X.mg "range" = none) (ha : PE X a (tE X.K m W)) (na : isStarE a = false) :
    PI X tg (.Call (.Name "range" p) [a] [] pos) (tI X.K (fun env => bnd (m env) fun r => asD r fun
    | .int n => guard (rangeOk 0 n) (ret (rangeL 0 n, false))
    | _ => stk) W) := pi_imp (pi_range1 hg hm (pa_consM ha pa_nilM na) (star_cons na)) fun σ H Q ⟨B, env, tp, t, R, w⟩ => by
  rw [wpm_bnd] at w
  refine ⟨B, env, tp, t, R, ?_⟩
  rw [wpm_bnd]
  refine wpm_mono w (fun r t1 w1 => ?_) fun _ _ q => q
  show ∀ vs H', _ → OpdsR _ _ _ _ vs [r] → _
  intro vs H1 R1 o1
  obtain ⟨x, rfl, o⟩ := opds1 o1
  obtain ⟨d, ed, w1⟩ := wpm_asD w1
  have rx := o.rd R1 ed
  split at w1 <;> first | exact wpm_stk w1 | skip
  obtain ⟨hz, w1⟩ := wpm_guard w1
  cases rd_int rx
  have g := rgOk_of hz
  have e : ∀ n : Int, (n - 0).toNat = n.toNat := fun n => by rw [Int.sub_zero]
  refine ⟨_, rfl, g.2.2.1, g.2.2.2.1, ?_⟩
  rw [← e]
  exact w1 _ H1 R1 (by rw [rangeL_len]; exact Nat.le_trans g.2.2.2.2 (by decide)) src_range.b fun _ => src_range
theorem pi_rng2M {a b : Expr} {p pos : Pos} {m1 m2 : Env → M RV} (hg : Gl X "range") (hm : X.mg "range" = none) (ha : PE X a (tE X.K m1 W)) (hb : PE X b (tE X.K m2 W)) (na : isStarE a = false) (nb : isStarE b = false) :
    PI X tg (.Call (.Name "range" p) [a, b] [] pos) (tI X.K (fun env => bnd (m1 env) fun r => bnd (m2 env) fun s => asD r fun x => asD s fun y => match x, y with
    | .int i, .int j => guard (rangeOk i j) (ret (rangeL i j, false))
    | _, _ => stk) W) := pi_imp (pi_range2 hg hm (pa_consM ha (pa_consM hb pa_nilM nb) na) (by rw [star_cons na, star_cons nb]; rfl) (star_cons nb)) fun σ H Q ⟨B, env, tp, t, R, w⟩ => by
  rw [wpm_bnd] at w
  refine ⟨B, env, tp, t, R, ?_⟩
  rw [wpm_bnd]
  refine wpm_mono w (fun r t1 w1 => ?_) fun _ _ q => q
  rw [wpm_bnd] at w1
  rw [wpm_bnd, wpm_bnd]
  refine wpm_mono w1 (fun s t2 w2 => ?_) fun _ _ q => q
  show ∀ vs H', _ → OpdsR _ _ _ _ vs [r, s] → _
  intro vs H1 R1 o1
  obtain ⟨v1, v2, rfl, oa, ob⟩ := opds2 o1
  obtain ⟨d, ed, w2⟩ := wpm_asD w2
  obtain ⟨e, ee, w2⟩ := wpm_asD w2
  have rx := oa.rd R1 ed
  have ry := ob.rd R1 ee
  split at w2 <;> first | exact wpm_stk w2 | skip
  obtain ⟨hz, w2⟩ := wpm_guard w2
  cases rd_int rx
  cases rd_int ry
  have g := rgOk_of hz
  exact ⟨_, _, rfl, ⟨g.1, g.2.1, g.2.2.1, g.2.2.2.1⟩, w2 _ H1 R1 (by rw [rangeL_len]; exact Nat.le_trans g.2.2.2.2 (by decide)) src_range.b fun _ => src_range⟩
theorem pi_enumM {e : Expr} {p pos tpos : Pos} {elts : List Expr} {kk : Nat} {m : Env → M RV} (hg : Gl X "enumerate") (hm : X.mg "enumerate" = none) (ha : PE X e (tE X.K m W)) (na : isStarE e = false) :
    PI X (.Tuple elts kk tpos) (.Call (.Name "enumerate" p) [e] [] pos) (tI X.K (fun env => bnd (m env) fun r => asD r fun x => bnd (enumD x) fun xs => ret (xs, isBo r)) W) := pi_imp (pi_sz (pi_enum hg hm (pa_consM ha pa_nilM na) (star_cons na))) fun σ H Q ⟨B, env, tp, t, R, w⟩ => by
  rw [wpm_bnd] at w
  refine ⟨B, env, tp, t, R, ?_⟩
  rw [wpm_bnd]
  refine wpm_mono w (fun r t1 w1 => ?_) fun _ _ q => q
  show ∀ vs H', _ → OpdsR _ _ _ _ vs [r] → _
  intro vs H1 R1 o1
  obtain ⟨x, rfl, o⟩ := opds1 o1
  obtain ⟨d, ed, w1⟩ := wpm_asD w1
  cases d with
  | list xs =>
    obtain ⟨p, vs, rfl, ⟨hs, hr⟩, sb, sf⟩ := src_enumS R1 o ed
    exact ⟨p, vs, rfl, .of hs, fun sz => w1 _ H1 R1 (by rw [enumL_len, ← hr.length]; exact (sz p vs).1 hs) sb sf⟩
  | _ => exact w1.elim
theorem zipL_get : ∀ (xs ys : List D) (i : Nat) {x y : D}, xs[i]? = some x → ys[i]? = some y → (zipL xs ys)[i]? = some (.tuple [x, y])
  | [], _, _, _, _, h, _ => by simp at h
  | _ :: _, [], _, _, _, _, h => by simp at h
  | x :: xs, y :: ys, 0, _, _, h, h' => by simp at h h'; subst h h'; rfl
  | x :: xs, y :: ys, i + 1, _, _, h, h' => by
    show (zipL xs ys)[i]? = _
    exact zipL_get xs ys i (by simpa using h) (by simpa using h')
theorem zipL_len : ∀ (xs ys : List D), (zipL xs ys).length = min xs.length ys.length
  | [], ys => by simp [zipL]
  | _ :: _, [] => by simp [zipL]
  | x :: xs, y :: ys => by
    show (zipL xs ys).length + 1 = _
    rw [zipL_len xs ys, List.length_cons, List.length_cons]
    omega
theorem src_zip {K : PySem.W.Frag} {F : Hp} {p q : Addr} {vs ws : List V} {xs ys : List D} (h1 : F p = some (.lst vs)) (h2 : Reps F vs xs) (h3 : F q = some (.lst ws)) (h4 : Reps F ws ys) : SrcF F (Itz K p q) (zipL xs ys) := by
  have w := walk_zip (K := K) (a := p) (b := q) (xs := vs) (ys := ws) rfl
  unfold SrcF
  rw [zipL_len, ← h2.length, ← h4.length]
  refine w.mono (fun H s => ⟨.of (s _ _ h1), .of (s _ _ h3)⟩) fun i H x H' hi s ⟨T, a, b, e1, e2, e3, e4, e5⟩ => ?_
  obtain ⟨d, e6, r⟩ := h2.getV e4
  obtain ⟨d', e7, r'⟩ := h4.getV e5
  exact ⟨_, zipL_get _ _ _ e6 e7, .inr ⟨T, _, _, e1, e2, e3, rfl, .cons r (.cons r' .nil)⟩⟩
theorem src_zipT {K : PySem.W.Frag} {F : Hp} {p q : Addr} {vs ws : List V} {xs ys : List D} (h1 : F p = some (.tup vs)) (h2 : Reps F vs xs) (h3 : F q = some (.tup ws)) (h4 : Reps F ws ys) : SrcF F (RZ.ItzT K p q) (zipL xs ys) where
  goes := fun i H hi s => by
    rw [zipL_len, ← h2.length, ← h4.length] at hi
    exact ⟨vs, ws, vs[i]'(by omega), ws[i]'(by omega), .of (s _ _ h1), .of (s _ _ h3), List.getElem?_eq_getElem _, List.getElem?_eq_getElem _⟩
  stops := fun H s => by
    refine ⟨vs, ws, .of (s _ _ h1), .of (s _ _ h3), ?_⟩
    rw [zipL_len, ← h2.length, ← h4.length]
    omega
  yields := fun i H x H' hi s ⟨T, a, b, e1, e2, e3, e4, e5⟩ => by
    obtain ⟨d, e6, r⟩ := h2.getV (e4 vs (.of (s _ _ h1)))
    obtain ⟨d', e7, r'⟩ := h4.getV (e5 ws (.of (s _ _ h3)))
    exact ⟨_, zipL_get _ _ _ e6 e7, .inr ⟨T, _, _, e1, e2, e3, rfl, .cons r (.cons r' .nil)⟩⟩
theorem pi_zipM {a b : Expr} {p pos tpos : Pos} {elts : List Expr} {kk : Nat} {m1 m2 : Env → M RV} (hg : Gl X "zip") (hm : X.mg "zip" = none) (ha : PE X a (tE X.K m1 W)) (hb : PE X b (tE X.K m2 W)) (na : isStarE a = false) (nb : isStarE b = false) :
    PI X (.Tuple elts kk tpos) (.Call (.Name "zip" p) [a, b] [] pos) (tI X.K (fun env => bnd (m1 env) fun r => bnd (m2 env) fun s => asD r fun x => asD s fun y => guard (!isBo r && !isBo s) (bnd (zipD x y) fun xs => ret (xs, false))) W) := pi_imp (pi_sz (RZ.pi_zipA hg hm (pa_consM ha (pa_consM hb pa_nilM nb) na) (star_cons na) (noany (by rw [List.all_cons, nb]; rfl)))) fun σ H Q ⟨B, env, tp, t, R, w⟩ => by
  rw [wpm_bnd] at w
  refine ⟨B, env, tp, t, R, ?_⟩
  rw [wpm_bnd]
  refine wpm_mono w (fun r t1 w1 => ?_) fun _ _ q => q
  rw [wpm_bnd] at w1
  rw [wpm_bnd, wpm_bnd]
  refine wpm_mono w1 (fun s t2 w2 => ?_) fun _ _ q => q
  show ∀ vs H', _ → OpdsR _ _ _ _ vs [r, s] → _
  intro vs H1 R1 o1
  obtain ⟨v1, v2, rfl, oa, ob⟩ := opds2 o1
  obtain ⟨d, ed, w2⟩ := wpm_asD w2
  obtain ⟨e, ee, w2⟩ := wpm_asD w2
  obtain ⟨hz, w2⟩ := wpm_guard w2
  obtain ⟨z1, z2⟩ := Bool.and_eq_true_iff.mp hz
  have rx := nobo_frz R1 oa (by simpa using z1) ed
  have ry := nobo_frz R1 ob (by simpa using z2) ee
  unfold zipD at w2
  split at w2 <;> first | exact wpm_stk w2 | skip
  · cases rx with
    | lst h1 h2 =>
      cases ry with
      | lst h3 h4 =>
        have g1 := hide_same _ _ _ _ h1
        have g3 := hide_same _ _ _ _ h3
        have s := src_zip (K := X.K) h1 h2 h3 h4
        exact ⟨_, _, _, _, rfl, .inl ⟨.of g1, .of g3, fun sz => w2 _ H1 R1 (by rw [zipL_len, ← h2.length]; exact Nat.le_trans (Nat.min_le_left _ _) ((sz _ _).1 g1)) s.b fun _ => s⟩⟩
  · cases rx with
    | tup h1 h2 =>
      cases ry with
      | tup h3 h4 =>
        have g1 := hide_same _ _ _ _ h1
        have g3 := hide_same _ _ _ _ h3
        have s := src_zipT (K := X.K) h1 h2 h3 h4
        exact ⟨_, _, _, _, rfl, .inr ⟨.of g1, .of g3, fun sz => w2 _ H1 R1 (by rw [zipL_len, ← h2.length]; exact Nat.le_trans (Nat.min_le_left _ _) ((sz _ _).2 g1)) s.b fun _ => s⟩⟩
end
end Pv
/-! Pv12: comprehensions. -/
namespace Pv
open PySem PySem.Spec PyProof.Rows L2
section
variable {K : PySem.W.Frag} {B H H' : Hp} {σ σ1 : L2.St} {env env1 : Env} {tp : Tp} {xs : List D} {J : It}
/-- the pending list grows -/
theorem Rl.grow {p : Addr} {u o : HO} (R : Rl K B σ env ((p, u) :: tp) H) : Rl K B σ env ((p, o) :: tp) (upd H p o) ∧ Same (fz σ env ((p, u) :: tp) H) (fz σ env ((p, o) :: tp) (upd H p o)) := by
  have n := List.nodup_cons.mp ((List.perm_middle (l₁ := oa σ env) (a := p) (l₂ := ad tp)).nodup_iff.mp R.nd)
  have s : Same (fz σ env ((p, u) :: tp) H) (fz σ env ((p, o) :: tp) (upd H p o)) := fun a v e => by
    obtain ⟨h1, h2⟩ := hide_of e
    refine hide_mk ?_ h2
    rw [upd_ne fun z => h2 (mem_mid.mpr (.inl z))]
    exact h1
  refine ⟨⟨R.le.trans s, R.sl.mono s fun q hq => upd_ne fun z => n.1 (z ▸ List.mem_append_left _ hq), R.nd, fun q hq => ?_⟩, s⟩
  rcases List.mem_cons.mp hq with rfl | hq
  · exact upd_same
  · rw [upd_ne fun z => n.1 (List.mem_append_right _ (List.mem_map.mpr ⟨q, hq, z⟩))]
    exact R.tk q (List.mem_cons_of_mem _ hq)
theorem noX_wpm {α : Type} {m : M α} {t : Sto} {ok : α → Sto → Prop} {ex : Str → Sto → Prop} (h : wpm (noX m) t ok ex) : wpm m t ok fun _ _ => False := by
  unfold wpm noX at h
  unfold wpm
  cases q : m t with
  | ok a t' => rw [q] at h; exact h
  | exc x t' => rw [q] at h; exact h
  | stuck => rw [q] at h; exact h
theorem wipe_get (σ : L2.St) : ∀ (vs : List Nat) (i : Nat), (wipe σ vs)[i]? = if i ∈ vs ∧ i < σ.length then some none else σ[i]?
  | [], i => by simp [wipe]
  | v :: vs, i => by
    have ih := wipe_get σ vs i
    unfold wipe
    by_cases z : v = i
    · subst z
      by_cases zl : v < σ.length
      · rw [List.getElem?_set_self (by rw [wipe_length]; exact zl), if_pos ⟨List.mem_cons_self, zl⟩]
      · rw [if_neg fun q => zl q.2, List.getElem?_eq_none (by rw [List.length_set, wipe_length]; omega), List.getElem?_eq_none (by omega)]
    · rw [List.getElem?_set_ne z, ih]
      have : (i ∈ v :: vs) ↔ i ∈ vs := by
        rw [List.mem_cons]
        exact ⟨fun q => q.elim (fun e => absurd e.symm z) id, .inr⟩
      simp only [this]
theorem wipeE_get (env : Env) : ∀ (vs : List Nat) (i : Nat), i ∉ vs → (wipeE env vs)[i]? = env[i]?
  | [], i, _ => rfl
  | v :: vs, i, h => by
    unfold wipeE
    rw [List.getElem?_set_ne (fun z => h (by rw [z]; exact List.mem_cons_self))]
    exact wipeE_get env vs i fun z => h (List.mem_cons_of_mem _ z)
theorem wipe_back {vs ts : List Nat} (hl : σ1.length = σ.length) (h : ∀ i : Nat, i ∉ ts → σ1[i]? = (wipe σ vs)[i]?) (hs : ∀ i ∈ ts, i ∈ vs) : wipe σ1 vs = wipe σ vs := by
  apply List.ext_getElem?
  intro i
  rw [wipe_get, wipe_get, hl]
  by_cases z : i ∈ vs ∧ i < σ.length
  · rw [if_pos z, if_pos z]
  · rw [if_neg z, if_neg z]
    by_cases zl : i < σ.length
    · have z' : i ∉ vs := fun q => z ⟨q, zl⟩
      rw [h i (fun q => z' (hs i q)), wipe_get, if_neg z]
    · rw [List.getElem?_eq_none (by omega), List.getElem?_eq_none (by omega)]
theorem wipeE_len (env : Env) : ∀ vs : List Nat, (wipeE env vs).length = env.length
  | [] => rfl
  | v :: vs => by unfold wipeE; rw [List.length_set]; exact wipeE_len env vs
mutual
theorem asg_len : ∀ (t : T) (d : D) (env env1 : Env), asg t d env = some env1 → env1.length = env.length
  | .nm i, d, env, env1, e => by cases e; rw [List.length_set]
  | .tp ts, d, env, env1, e => by
    cases d with
    | tuple xs => exact asgs_len ts xs env env1 e
    | list xs => exact asgs_len ts xs env env1 e
    | _ => cases e
theorem asgs_len : ∀ (ts : List T) (ds : List D) (env env1 : Env), asgs ts ds env = some env1 → env1.length = env.length
  | [], [], _, _, e => by cases e; rfl
  | [], _ :: _, _, _, e => by cases e
  | _ :: _, [], _, _, e => by cases e
  | t :: ts, d :: ds, env, env1, e => by
    unfold asgs at e
    split at e
    · rename_i e'
      exact (asgs_len ts ds _ _ e).trans (asg_len t d _ _ e')
    · cases e
end
def WF : WN := fun _ _ _ => False
/-- the block's element at a turn -/
def lcF (T : Pv.T) (me : Env → M RV) (mc : Option (Env → M Bool)) (env : Env) (vs : List Nat) (x : D) : M (Option D) := noX (bnd (asgM T x (wipeE env vs)) fun env1 => match mc with
  | none => bnd (me env1) fun r => bnd (keepD r) fun y => ret (some y)
  | some mc => bnd (mc env1) fun b => if b = true then bnd (me env1) fun r => bnd (keepD r) fun y => ret (some y) else ret none)
/-- the tests' reading -/
def tTo (K : PySem.W.Frag) : Option (Env → M Bool) → TT
  | none => tYes
  | some mc => tT K mc WF
theorem lc_run {T : Pv.T} {me : Env → M RV} {mc : Option (Env → M Bool)} {vs : List Nat} {t : Sto} {Q : VK} {EX : Str → Sto → Prop} (R : Rl K B σ env tp H) (hv : ∀ i ∈ tN T, i ∈ vs) (hz : wipeOk env vs = true) (S : SrcB K (fz σ env tp H) σ env J xs) (hx : xs.length ≤ sizeLine)
    (w : wpm (lcL (lcF T me mc env vs) xs) t (fun ys _ => ∀ v H', PostE K B σ env tp (.fr (.lst ys)) v H' → Q v H') EX) (Da : Addr) (hD : H Da = none) :
    ∃ W : Nat → Nat → Hp → Prop, (∃ m, W 0 m (upd H Da (.lst []))) ∧ ∀ i m H, W i m H → (J.stop i H ∧ Q (.ref Da) H) ∨ (J.go i H ∧ ∃ Nx : Hp → Prop, (∀ H', Nx H' → ∃ m', m' < m ∧ W (i + 1) m' H') ∧ ∀ x H', J.yld i H x H' → gT K T x (wipe σ vs) H' fun σ2 H2 => wipe σ2 vs = wipe σ vs ∧ tTo K mc σ2 H2 fun b H3 =>
      if b = true then tE K me WF σ2 H3 fun y H4 => ∃ acc, H4 Da = some (.lst acc) ∧ acc.length < sizeLine ∧ Nx (upd H4 Da (.lst (acc ++ [y]))) else Nx H3) := by
  have OK0 := R.base.allocO (o := .lst []) hD
  refine lc_it S (fun i H1 => ∃ acc ys t1, Rl K (fz σ env tp H) σ env ((Da, .lst acc) :: tp) H1 ∧ Reps (fz σ env ((Da, .lst acc) :: tp) H1) acc ys ∧ acc.length ≤ i ∧
      wpm (lcL (lcF T me mc env vs) (xs.drop i)) t1 (fun zs _ => ∀ v H', PostE K B σ env tp (.fr (.lst (ys ++ zs))) v H' → Q v H') EX)
    ⟨[], [], t, OK0.2, .nil, Nat.le_refl _, w⟩ (fun i H1 _ ⟨acc, ys, t1, R1, _⟩ => ⟨_, R1⟩) (fun i x H1 H2 hi hP hY => ?_) fun H1 hP => ?_
  · obtain ⟨acc, ys, t1, R1, ra, hl, w1⟩ := hP
    obtain ⟨d, ed, hy⟩ := hY
    have hy := hy _ R1
    -- the item
    have step : Rl K (fz σ env tp H) σ env ((Da, .lst acc) :: tp) H2 ∧ Rep (fz σ env ((Da, .lst acc) :: tp) H2) x d ∧ Same (fz σ env ((Da, .lst acc) :: tp) H1) (fz σ env ((Da, .lst acc) :: tp) H2) := by
      rcases hy with ⟨rfl, r⟩ | ⟨Ta, us, ds, rfl, hn, rfl, rfl, r⟩
      · exact ⟨R1, r, Same.refl _⟩
      · exact ⟨R1.alloc hn, .tup (R1.at_ hn) (r.mono (fz_upd hn)), fz_upd hn⟩
    obtain ⟨R2, r2, s12⟩ := step
    have hd : xs.drop i = d :: xs.drop (i + 1) := by
      obtain ⟨h1, h2⟩ := List.getElem?_eq_some_iff.mp ed
      rw [List.drop_eq_getElem_cons h1, h2]
    rw [hd] at w1
    unfold lcL at w1
    rw [wpm_bnd] at w1
    have w2 := noX_wpm (m := bnd (asgM T d (wipeE env vs)) _) w1
    rw [wpm_bnd] at w2
    unfold asgM at w2
    cases ea : asg T d (wipeE env vs) with
    | none => rw [ea] at w2; exact w2.elim
    | some env1 =>
    rw [ea] at w2
    obtain ⟨Rw, ko, eo⟩ := wipe_put vs hz R2
    have rw_ : Rep (fz (wipe σ vs) (wipeE env vs) ((Da, .lst acc) :: tp) H2) x d := by
      unfold fz
      rw [eo]
      exact r2
    have hno : noOwn (wipeE env vs) (tN T) := fun j hj => by
      cases q : isOwn (wipeE env vs)[j]? with
      | false => rfl
      | true =>
        exfalso
        have h1 := ko j q
        have h2 := List.all_eq_true.mp hz j (hv j hj)
        unfold isOwn at h1
        split at h1
        · rename_i o; rw [o] at h2; exact Bool.false_ne_true h2
        · cases h1
    refine gT_of T d x _ _ env1 _ Rw rw_ ea hno fun σ2 P => ?_
    have e2 : oa σ2 env1 = oa σ env := P.oa_.trans eo
    have near : Near σ env σ2 env1 := fun j o hj => by
      have hj' : j ∉ vs := fun z => by
        have h2 := List.all_eq_true.mp hz j z
        rw [hj] at h2
        exact Bool.false_ne_true h2
      have hj2 : j ∉ tN T := fun z => hj' (hv j z)
      obtain ⟨p1, p2⟩ := P.out j hj2
      refine ⟨by rw [p2, wipeE_get env vs j hj', hj], ?_⟩
      rw [p1, wipe_get, if_neg fun z => hj' z.1]
    have efz : ∀ (tp' : Tp) (H' : Hp), fz σ2 env1 tp' H' = fz σ env tp' H' := fun tp' H' => by
      unfold fz
      rw [e2]
    refine ⟨wipe_back (by rw [P.rl.len, R.len]; rw [asg_len T d _ _ ea, wipeE_len]) (fun j hj => (P.out j hj).1) hv, ?_⟩
    -- the element's turn, from a state of the block
    have elt : ∀ (H3 : Hp) (t3 : Sto), Rl K (fz σ2 env1 ((Da, .lst acc) :: tp) H2) σ2 env1 ((Da, .lst acc) :: tp) H3 →
        wpm (bnd (me env1) fun r => bnd (keepD r) fun y => ret (some y)) t3 (fun o t4 => wpm (bnd (lcL (lcF T me mc env vs) (xs.drop (i + 1))) fun r => ret (match o with
          | some y => y :: r
          | none => r)) t4 (fun zs _ => ∀ v H', PostE K B σ env tp (.fr (.lst (ys ++ zs))) v H' → Q v H') EX) (fun _ _ => False) →
        tE K me WF σ2 H3 fun y H4 => ∃ acc, H4 Da = some (.lst acc) ∧ acc.length < sizeLine ∧ ∃ acc' ys' t1', Rl K (fz σ env tp H) σ env ((Da, .lst acc') :: tp) (upd H4 Da (.lst (acc ++ [y]))) ∧ Reps (fz σ env ((Da, .lst acc') :: tp) (upd H4 Da (.lst (acc ++ [y])))) acc' ys' ∧ acc'.length ≤ i + 1 ∧
          wpm (lcL (lcF T me mc env vs) (xs.drop (i + 1))) t1' (fun zs _ => ∀ v H', PostE K B σ env tp (.fr (.lst (ys' ++ zs))) v H' → Q v H') EX := by
      intro H3 t3 R3 w3
      refine tE_step R3 w3 (fun _ _ q => q.elim) fun r t4 y H4 R4 o4 w4 => ?_
      rw [wpm_bnd] at w4
      obtain ⟨yd, ry, w4⟩ := keepD_of o4 w4
      have w4 : wpm (bnd (lcL (lcF T me mc env vs) (xs.drop (i + 1))) fun r => ret (yd :: r)) t4 _ EX := w4
      have hD4 : H4 Da = some (.lst acc) := R4.tk (Da, .lst acc) List.mem_cons_self
      have Rb : Rl K (fz σ env tp H) σ env ((Da, .lst acc) :: tp) H4 := R2.back R4 e2 (by rw [efz]; exact Same.refl _) near
      obtain ⟨Rg, sg⟩ := Rb.grow (o := .lst (acc ++ [y]))
      have le4 := R4.le
      rw [efz] at le4 ry
      have ra4 : Reps (fz σ env ((Da, .lst acc) :: tp) H4) acc ys := (ra.mono s12).mono (by have := le4; unfold fz at this ⊢; rw [e2] at this; exact this)
      refine ⟨acc, hD4, Nat.lt_of_le_of_lt hl (Nat.lt_of_lt_of_le hi hx), acc ++ [y], ys ++ [yd], t4, Rg, (ra4.append (.cons ry .nil)).mono sg, by rw [List.length_append]; simp; omega, ?_⟩
      rw [wpm_bnd] at w4
      refine wpm_mono w4 (fun zs t5 q => ?_) fun _ _ q => q
      rw [List.append_assoc]
      exact q
    cases mc with
    | none =>
      exact elt H2 _ P.rl.base w2
    | some mc =>
      show tT K mc WF σ2 H2 _
      refine tT_step P.rl.base w2 (fun _ _ q => q.elim) fun b t3 H3 R3 w3 => ?_
      cases b with
      | true => exact elt H3 _ R3 w3
      | false =>
        show ∃ acc ys t1, _
        have w3 : wpm (bnd (lcL (lcF T me (some mc) env vs) (xs.drop (i + 1))) fun r => ret r) t3 _ EX := w3
        have Rb : Rl K (fz σ env tp H) σ env ((Da, .lst acc) :: tp) H3 := R2.back R3 e2 (by rw [efz]; exact Same.refl _) near
        have le3 := R3.le
        rw [efz] at le3
        refine ⟨acc, ys, t3, Rb, (ra.mono s12).mono (by have := le3; unfold fz at this ⊢; rw [e2] at this; exact this), Nat.le_succ_of_le hl, ?_⟩
        rw [wpm_bnd] at w3
        exact wpm_mono w3 (fun zs t5 q => q) fun _ _ q => q
  · obtain ⟨acc, ys, t1, R1, ra, hl, w1⟩ := hP
    rw [List.drop_length] at w1
    have w1 : ∀ v H', PostE K B σ env tp (.fr (.lst (ys ++ []))) v H' → Q v H' := w1
    rw [List.append_nil] at w1
    refine w1 _ _ ⟨Da, _, rfl, R1.down R.le, acc, R1.tk (Da, .lst acc) List.mem_cons_self, ra⟩
end
end Pv
/-! Pv13: promises of defs, calls, the expressions' soundness. -/
namespace Pv
open PySem PySem.Spec PyProof.Rows L2
inductive VvsR (K : PySem.W.Frag) (F : Hp) : List V → List Vv → Prop
  | nil : VvsR K F [] []
  | cons {v : V} {vs : List V} {x : Vv} {xs : List Vv} : VvR K F v x → VvsR K F vs xs → VvsR K F (v :: vs) (x :: xs)
/-- behind a def: tp is what its caller hides -/
def PostC (K : PySem.W.Frag) (B : Hp) (tp : Tp) (rv : RV) (v : V) (H' : Hp) : Prop := (∀ q ∈ tp, H' q.1 = some q.2) ∧ match rv with
  | .v x => Same B (hide (ad tp) H') ∧ VvR K (hide (ad tp) H') v x
  | .fr o => ∃ p u, v = .ref p ∧ H' p = some u ∧ p ∉ ad tp ∧ Same B (hide (p :: ad tp) H') ∧ OvR (hide (p :: ad tp) H') H' p o
  | .bo _ _ => False
/-- a def that does what g says -/
def spF (K : PySem.W.Frag) (ca : Str → Addr) (n : Nat) (g : List Vv → M RV) : Sp := fun vs H Q E => vs.length = n ∧ ∃ (tp : Tp) (xs : List Vv) (t : Sto), (∀ q ∈ tp, H q.1 = some q.2) ∧ (ad tp).Nodup ∧ VvsR K (hide (ad tp) H) vs xs ∧
  wpm (g xs) t (fun rv _ => ∀ v H', PostC K (hide (ad tp) H) tp rv v H' → Q v H') fun x _ => ∀ H', Same (hide (ad tp) H) (hide (ad tp) H') → (∀ q ∈ tp, H' q.1 = some q.2) → E (.ref (ca x)) none H'
/-- the wish about exceptions by their names -/
def wx (ca : Str → Addr) (W : WN) : WX := fun cls d σ H => ∃ x, cls = .ref (ca x) ∧ d = none ∧ W x σ H
section
variable {K : PySem.W.Frag} {B H H' : Hp} {σ : L2.St} {env : Env} {tp : Tp}
theorem keepAll_of {F : Hp} : ∀ {vs : List V} {rs : List RV} {t : Sto} {ok : List Vv → Sto → Prop} {ex : Str → Sto → Prop}, OpdsR K σ env F vs rs → wpm (keepAll rs) t ok ex → ∃ xs, VvsR K F vs xs ∧ ok xs t
  | _, _, _, _, _, .nil, w => ⟨[], .nil, w⟩
  | _, _, t, ok, ex, .cons h q, w => by
    unfold keepAll at w
    rw [wpm_bnd] at w
    obtain ⟨x, hx, w⟩ := keepV_of h w
    rw [wpm_bnd] at w
    obtain ⟨xs, hxs, w⟩ := keepAll_of q w
    exact ⟨x :: xs, .cons hx hxs, w⟩
theorem VvsR.length {F : Hp} : ∀ {vs : List V} {xs : List Vv}, VvsR K F vs xs → vs.length = xs.length
  | _, _, .nil => rfl
  | _, _, .cons _ r => by rw [List.length_cons, List.length_cons, r.length]
theorem hide_eq {O O' : List Addr} (h : ∀ a, a ∈ O ↔ a ∈ O') : hide O H = hide O' H := by
  funext a
  unfold hide
  by_cases z : a ∈ O
  · rw [if_pos z, if_pos ((h a).mp z)]
  · rw [if_neg z, if_neg fun q => z ((h a).mpr q)]
/-- a callee's end is an expression's end -/
theorem PostC.post {rv : RV} {v : V} (R : Rl K B σ env tp H) (h : PostC K (fz σ env tp H) (hid σ env tp H) rv v H') : PostE K B σ env tp rv v H' := by
  obtain ⟨k, h⟩ := h
  have e := R.ad_hid
  cases rv with
  | v x =>
    obtain ⟨s, q⟩ := h
    rw [e] at s q
    exact ⟨R.after s k, q⟩
  | fr o =>
    obtain ⟨p, u, rfl, hu, hp, s, q⟩ := h
    rw [e] at hp s q
    have em : hide (p :: (oa σ env ++ ad tp)) H' = fz σ env ((p, u) :: tp) H' := hide_eq fun a => by
      rw [List.mem_cons]
      exact mem_mid.symm
    rw [em] at s q
    refine ⟨p, u, rfl, ⟨R.le.trans s, R.sl.mono s fun p' hp' => ?_, ?_, fun z hz => ?_⟩, q⟩
    · obtain ⟨u', e'⟩ := R.sl.own_tracked p' hp'
      rw [e']
      exact k (p', u') (List.mem_append_left _ (List.mem_filterMap.mpr ⟨p', hp', by rw [e']; rfl⟩))
    · exact (List.perm_middle (l₁ := oa σ env) (a := p) (l₂ := ad tp)).nodup_iff.mpr (List.nodup_cons.mpr ⟨hp, R.nd⟩)
    · rcases List.mem_cons.mp hz with rfl | hz
      · exact hu
      · exact k z (List.mem_append_right _ hz)
  | bo _ _ => exact h.elim
theorem Rl.nd_hid (R : Rl K B σ env tp H) : (ad (hid σ env tp H)).Nodup := by rw [R.ad_hid]; exact R.nd
end
def bltNames : List Str := ["len", "abs", "sum", "min", "max", "sorted", "tuple", "list", "int", "str", "set", "range", "enumerate", "zip", "isinstance", "bool"]
/-- what a context must offer, whatever its names are -/
structure Gx (G : GS) (is : Str → Str → Bool) (ca : Str → Addr) (X : Cx) : Prop where
  exc : ∀ x, G.exc.contains x = true → ∃ (B newId initId : String) (bmB : List Value), ExcBaseFacts B newId initId bmB ∧ PySem.W.excIn X.K (ca x) bmB newId = true ∧ X.mg x = some (.ref (ca x)) ∧ PySem.W.keepIn X.K (.ref (ca x)) = true ∧ Raises X (.ref (ca x))
  exm : ∀ x y, is x x = true → G.exc.contains y = true → PySem.W.exmOne X.K (.ref (ca x)) (.ref (ca y)) = some (is x y)
structure Gd (Φ : Str → List Vv → M RV) (G : GS) (ca : Str → Addr) (X : Cx) : Prop where
  calm : X.calm = true
  hu : X.A.units + 70 < cLine
  free : ∀ b ∈ bltNames, X.mg b = none
  cns : ∀ x i, G.cns.lookup x = some i → ∃ t, X.mg x = some (.int i t)
  fns : ∀ x, G.fns.contains x = true → ∃ k f fd ps, FnOk X.prog X.w X.K X.mg X.base (CX X.prog X.w) k f fd ps (spF X.K ca ps.length (Φ x)) ∧ Room k X.A ∧ X.mg x = some (.ref f) ∧ PySem.W.keepIn X.K (.ref f) = true ∧ Binds X.K fd ps [] ∧ ∀ xs t ok ex, wpm (Φ x xs) t ok ex → xs.length = ps.length
/-- .. with its names -/
structure Cn (S : SC) (X : Cx) : Prop where
  hN : X.N = S.N
  hS : X.env.scope = S.sc
  nd : S.N.Nodup
theorem idx_get {x : Str} : ∀ {N : List Str} {i : Nat}, idx x N = some i → N[i]? = some x
  | [], _, h => by cases h
  | y :: ys, i, h => by
    unfold idx at h
    split at h
    · rename_i e; cases h; rw [e]; rfl
    · cases q : idx x ys with
      | none => rw [q] at h; cases h
      | some j => rw [q] at h; cases h; exact idx_get (N := ys) q
theorem vis_of {sc : Scope} {x : Str} (h : visB sc x = true) : (sc.names.lookup x = some .local ∨ sc.names.lookup x = some .cell ∨ sc.names.lookup x = some .free) ∧ (x == ("__debug__" : Str)) = false ∧ (x == ("__classdict__" : Str)) = false := by
  unfold visB at h
  simp only [Bool.and_eq_true, Bool.or_eq_true, decide_eq_true_eq, Bool.not_eq_true'] at h
  obtain ⟨⟨h1, h2⟩, h3⟩ := h
  refine ⟨?_, h2, h3⟩
  rcases h1 with (h | h) | h
  · exact .inl h
  · exact .inr (.inl h)
  · exact .inr (.inr h)
theorem gl_of {sc : Scope} {x : Str} (h : glB sc x = true) : sc.names.lookup x = some .globalImplicit ∧ (x == ("__debug__" : Str)) = false := by
  unfold glB at h
  simpa using h
theorem loc_of {sc : Scope} {x : Str} (h : locB sc x = true) : sc.names.lookup x = some .local ∨ sc.names.lookup x = some .cell := by
  unfold locB at h
  simpa using h
section
variable {X : Cx} {W : WN} {S : SC} {G : GS} {ca : Str → Addr} {Φ : Str → List Vv → M RV}
theorem Cn.vis (C : Cn S X) {x : Str} (h : visB S.sc x = true) : Vis X.env.scope x := by
  rw [C.hS]
  exact (vis_of h).1
theorem Cn.gl (C : Cn S X) {x : Str} (h : glB S.sc x = true) : Gl X x := by
  show X.env.scope.names.lookup x = _
  rw [C.hS]
  exact (gl_of h).1
theorem pe_slot {x : Str} {i : Nat} {pos : Pos} (C : Cn S X) (h : visB S.sc x = true) (hi : idx x S.N = some i) : PE X (.Name x pos) (tE X.K (fun env => slotR env i) W) := by
  refine pe_imp (pe_var (i := i) (by rw [C.hN]; exact idx_get hi) (C.vis h) (vis_of h).2.1 (vis_of h).2.2) fun σ H Q ⟨B, env, tp, t, R, w⟩ => ?_
  replace w : wpm (slotR env i) t _ _ := w
  unfold slotR at w
  split at w <;> first | exact wpm_stk w | skip
  · rename_i v e
    obtain ⟨y, e1, q⟩ := R.sl.get e
    obtain ⟨z, e2, q⟩ := q
    subst e2
    exact ⟨z, e1, w z H ⟨R, q⟩⟩
  · rename_i o e
    obtain ⟨y, e1, q⟩ := R.sl.get e
    obtain ⟨p, e2, q⟩ := q
    subst e2
    exact ⟨_, e1, w _ H ⟨R, e1, e⟩⟩
theorem pe_const {e : Expr} {v : V} {d : D} (h : PE X e (tC v)) (r : ∀ F, Rep F v d) : PE X e (tE X.K (fun _ => ret (rd d)) W) := pe_imp h fun σ H Q ⟨B, env, tp, t, R, w⟩ => w v H (post_d R (r _))
theorem pe_callM {x : Str} {p pos : Pos} {e : Expr} {es : List Expr} {ms : Env → M (List RV)} (D : Gd Φ G ca X) (tk : Takes X (wx ca W)) (hg : Gl X x) (hd : (x == ("__debug__" : Str)) = false) (hf : G.fns.contains x = true) (ha : PA X (e :: es) (tAr X.K ms W)) (na : ((e :: es).all fun e => !isStarE e) = true) :
    PE X (.Call (.Name x p) (e :: es) [] pos) (tE X.K (fun env => bnd (ms env) fun rs => bnd (keepAll rs) fun xs => Φ x xs) W) := by
  obtain ⟨k, f, fd, ps, F, hr, hm, hk, hb, hlen⟩ := D.fns x hf
  have n1 : isStarE e = false ∧ (es.all fun e => !isStarE e) = true := by
    rw [List.all_cons, Bool.and_eq_true] at na
    exact ⟨by cases q : isStarE e <;> simp [q] at na ⊢, na.2⟩
  refine pe_imp (pe_callS F hr hg hm hk hb (fun σ => passAt tk σ) ha hd (star_cons n1.1) (noany n1.2)) fun σ H Q ⟨B, env, tp, t, R, w⟩ => ?_
  refine tAr_step R w (fun _ _ q => q) fun rs t1 vs H1 R1 o1 w1 => ?_
  rw [wpm_bnd] at w1
  obtain ⟨xs, hxs, w1⟩ := keepAll_of o1 w1
  refine ⟨hxs.length.trans (hlen xs _ _ _ w1), hid σ env tp H1, xs, t1, R1.tk_hid, R1.nd_hid, by rw [R1.ad_hid]; exact hxs, wpm_mono w1 (fun rv t2 q v H' p => q v H' ?_) fun y t2 q H' s k => ?_⟩
  · rw [R1.ad_hid] at p
    exact p.post R1
  · rw [R1.ad_hid] at s
    exact ⟨y, rfl, rfl, q H' (R1.after s k)⟩
end
end Pv
/-! Pv14: the expressions' soundness. -/
namespace Pv
open PySem PySem.Spec PyProof.Rows L2
section
variable {K : PySem.W.Frag} {B B' H H' : Hp} {σ : L2.St} {env : Env} {tp : Tp}
theorem PostE.down {rv : RV} {v : V} (h : PostE K B σ env tp rv v H) (s : Same B' B) : PostE K B' σ env tp rv v H := by
  cases rv with
  | v x => exact ⟨h.1.down s, h.2⟩
  | fr o => obtain ⟨p, u, e, R, q⟩ := h; exact ⟨p, u, e, R.down s, q⟩
  | bo i o => exact ⟨h.1.down s, h.2⟩
theorem post_frz {v : V} {r : RV} {t : Sto} {ok : RV → Sto → Prop} {ex : Str → Sto → Prop} (R : Rl K B σ env tp H) (o : OpdR K σ env (fz σ env tp H) v r) (w : wpm (frzM r) t ok ex) : ∃ rv, ok rv t ∧ PostE K B σ env tp rv v H := by
  unfold frzM at w
  split at w
  · obtain ⟨p, rfl, vs, h1, h2⟩ := o
    exact ⟨_, w, R, .lst h1 h2⟩
  · exact w.elim
  · rename_i n1 n2
    cases r with
    | v x => exact ⟨_, w, R, o⟩
    | fr o' => exact absurd rfl (n2 o')
    | bo i o' => exact ⟨_, w, R, o.1, o.2⟩
/-- a comparison's answer is True or False -/
theorem cmp_bool {op : COp} {a b : RV} {t : Sto} {ok : RV → Sto → Prop} {ex : Str → Sto → Prop} (w : wpm (cmpR op a b) t ok ex) : wpm (cmpR op a b) t (fun rv t' => (∃ k, rv = rd (.bool k)) ∧ ok rv t') ex := by
  have key : ∀ x y, ∀ t ok ex, wpm (cmpD op x y) t ok ex → wpm (cmpD op x y) t (fun rv t' => (∃ k, rv = rd (.bool k)) ∧ ok rv t') ex := by
    intro x y t ok ex w
    have g : ∀ (c : Bool) (k : Bool), wpm (guard c (ret (rd (.bool k)))) t ok ex → wpm (guard c (ret (rd (.bool k)))) t (fun rv t' => (∃ k, rv = rd (.bool k)) ∧ ok rv t') ex := by
      intro c k w
      cases c with
      | true => exact ⟨⟨k, rfl⟩, w⟩
      | false => exact w.elim
    cases op with
    | eq => exact g _ _ w
    | ne => exact g _ _ w
    | lt =>
      replace w : wpm (ltD x y) t ok ex := w
      show wpm (ltD x y) t _ ex
      unfold ltD at w ⊢
      split at w
      · exact ⟨⟨_, rfl⟩, w⟩
      · rename_i h
        exact g _ _ w
    | le =>
      replace w : wpm (leD x y) t ok ex := w
      show wpm (leD x y) t _ ex
      unfold leD at w ⊢
      split at w <;> first | exact w.elim | exact ⟨⟨_, rfl⟩, w⟩
    | gt =>
      replace w : wpm (gtD x y) t ok ex := w
      show wpm (gtD x y) t _ ex
      unfold gtD at w ⊢
      split at w <;> first | exact w.elim | exact ⟨⟨_, rfl⟩, w⟩
    | ge =>
      replace w : wpm (geD x y) t ok ex := w
      show wpm (geD x y) t _ ex
      unfold geD at w ⊢
      split at w <;> first | exact w.elim | exact ⟨⟨_, rfl⟩, w⟩
    | is_ =>
      replace w : wpm (isD x y) t ok ex := w
      show wpm (isD x y) t _ ex
      unfold isD at w ⊢
      split at w <;> first | exact w.elim | exact ⟨⟨_, rfl⟩, w⟩
    | isnot =>
      replace w : wpm (isnotD x y) t ok ex := w
      show wpm (isnotD x y) t _ ex
      unfold isnotD at w ⊢
      split at w <;> first | exact w.elim | exact ⟨⟨_, rfl⟩, w⟩
    | in_ =>
      replace w : wpm (inM true x y) t ok ex := w
      show wpm (inM true x y) t _ ex
      unfold inM at w ⊢
      split at w <;> first | exact w.elim | exact g _ _ w
    | notin =>
      replace w : wpm (inM false x y) t ok ex := w
      show wpm (inM false x y) t _ ex
      unfold inM at w ⊢
      split at w <;> first | exact w.elim | exact g _ _ w
  unfold cmpR at w ⊢
  unfold asD at w ⊢
  cases q : a.dat with
  | none => rw [q] at w; exact w.elim
  | some x =>
    rw [q] at w
    cases q' : b.dat with
    | none => rw [q'] at w; exact w.elim
    | some y => rw [q'] at w; exact key x y t ok ex w
end
section
variable {X : Cx} {W : WN}
theorem wpm_assoc {α β γ : Type} {m : M α} {f : α → M β} {g : β → M γ} {t : Sto} {ok : γ → Sto → Prop} {ex : Str → Sto → Prop} (w : wpm (bnd m fun a => bnd (f a) g) t ok ex) : wpm (bnd (bnd m f) g) t ok ex := by rw [bnd_assoc]; exact w
theorem wpm_assoc' {α β γ : Type} {m : M α} {f : α → M β} {g : β → M γ} {t : Sto} {ok : γ → Sto → Prop} {ex : Str → Sto → Prop} (w : wpm (bnd (bnd m f) g) t ok ex) : wpm (bnd m fun a => bnd (f a) g) t ok ex := by rw [bnd_assoc] at w; exact w
/-- the general test: the value's truth -/
theorem pt_gen {e : Expr} {m : Env → M RV} (h : PE X e (tE X.K m W)) (he : ∀ whole, isTrue e X.env whole = (do let v ← whole; standAt e.pos; holding [v] (truthy v))) : PT X e (tT X.K (fun env => bnd (m env) truR) W) := pt_imp (pt_truth h he) fun σ H Q ⟨B, env, tp, t, R, w⟩ => by
  refine tE_step R w (fun _ _ q => q) fun r t1 v H1 R1 o1 w1 => ?_
  obtain ⟨k, h1, h2⟩ := tru_of R1 o1 w1
  exact ⟨k, h1, h2 H1 R1⟩
theorem pe_notM {e : Expr} {pos : Pos} {m : Env → M RV} (h : PE X e (tE X.K m W)) : PE X (.UnaryOp .Not e pos) (tE X.K (fun env => bnd (m env) fun r => bnd (truR r) fun b => ret (rd (.bool (!b)))) W) := pe_imp (pe_notT h) fun σ H Q ⟨B, env, tp, t, R, w⟩ => by
  refine tE_step R w (fun _ _ q => q) fun r t1 v H1 R1 o1 w1 => ?_
  rw [wpm_bnd] at w1
  obtain ⟨k, h1, h2⟩ := tru_of R1 o1 w1
  exact ⟨k, h1, h2 _ _ (post_d R1 (.bl _))⟩
theorem pt_notM {e : Expr} {pos : Pos} {m : Env → M RV} (h : PT X e (tT X.K (fun env => bnd (m env) truR) W)) : PT X (.UnaryOp .Not e pos) (tT X.K (fun env => bnd (bnd (m env) fun r => bnd (truR r) fun b => ret (rd (.bool (!b)))) truR) W) := pt_imp (pt_not h) fun σ H Q ⟨B, env, tp, t, R, w⟩ => by
  have w := wpm_assoc' w
  simp only [bnd_assoc] at w
  exact tT_step (k := fun b => bnd (ret (rd (.bool (!b)))) truR) R (wpm_assoc w) (fun _ _ q => q) fun b t1 H1 R1 w1 => w1 H1 R1
theorem pe_negM {e : Expr} {pos : Pos} {m : Env → M RV} (h : PE X e (tE X.K m W)) : PE X (.UnaryOp .USub e pos) (tE X.K (fun env => bnd (m env) fun r => asD r negD) W) := pe_imp (pe_un un_neg h) fun σ H Q q => tUn_of srv_neg q
theorem pe_andM {a b : Expr} {rest : List Expr} {pos : Pos} {m1 m2 : Env → M RV} (ha : PE X a (tE X.K m1 W)) (hb : PE X (.BoolOp .And (b :: rest) pos) (tE X.K m2 W)) :
    PE X (.BoolOp .And (a :: b :: rest) pos) (tE X.K (fun env => bnd (m1 env) fun r => bnd (truR r) fun c => if c = true then m2 env else frzM r) W) := pe_imp (pe_andT ha hb) fun σ H Q ⟨B, env, tp, t, R, w⟩ => by
  refine tE_step R w (fun _ _ q => q) fun r t1 v H1 R1 o1 w1 => ?_
  rw [wpm_bnd] at w1
  obtain ⟨k, h1, h2⟩ := tru_of R1 o1 w1
  refine ⟨k, h1, ?_⟩
  cases k with
  | true => exact tE_last R1 h2 (fun _ _ q => q)
  | false =>
    obtain ⟨rv, q, p⟩ := post_frz R1 o1 h2
    exact q v H1 p
theorem pe_orM {a b : Expr} {rest : List Expr} {pos : Pos} {m1 m2 : Env → M RV} (ha : PE X a (tE X.K m1 W)) (hb : PE X (.BoolOp .Or (b :: rest) pos) (tE X.K m2 W)) :
    PE X (.BoolOp .Or (a :: b :: rest) pos) (tE X.K (fun env => bnd (m1 env) fun r => bnd (truR r) fun c => if c = true then frzM r else m2 env) W) := pe_imp (pe_orT ha hb) fun σ H Q ⟨B, env, tp, t, R, w⟩ => by
  refine tE_step R w (fun _ _ q => q) fun r t1 v H1 R1 o1 w1 => ?_
  rw [wpm_bnd] at w1
  obtain ⟨k, h1, h2⟩ := tru_of R1 o1 w1
  refine ⟨k, h1, ?_⟩
  cases k with
  | false => exact tE_last R1 h2 (fun _ _ q => q)
  | true =>
    obtain ⟨rv, q, p⟩ := post_frz R1 o1 h2
    exact q v H1 p
/-- a falsy value stays falsy when it is frozen -/
theorem tru_frz {r : RV} {b : Bool} {t : Sto} {ok : Bool → Sto → Prop} {ex : Str → Sto → Prop} (h : truR r = ret b) (w : wpm (bnd (frzM r) truR) t ok ex) : ok b t := by
  rw [wpm_bnd] at w
  unfold frzM at w
  split at w
  · have w : wpm (truR (.v (.d (.list _)))) t ok ex := w
    rw [show truR (.v (.d (.list _))) = truR (.fr (.lst _)) from rfl, h] at w
    exact w
  · exact w.elim
  · have w : wpm (truR _) t ok ex := w
    rw [h] at w
    exact w
theorem truR_val (r : RV) : (∃ b, truR r = ret b) ∨ truR r = stk := by
  unfold truR asD
  cases r.dat with
  | none => exact .inr rfl
  | some d =>
    show (∃ b, truD d = ret b) ∨ truD d = stk
    unfold truD
    split <;> first | exact .inl ⟨_, rfl⟩ | exact .inr rfl | skip
    unfold guard
    split
    · exact .inl ⟨_, rfl⟩
    · exact .inr rfl
theorem pw_andM {a b : Expr} {rest : List Expr} {pos : Pos} {m1 m2 : Env → M RV} (ha : PT X a (tT X.K (fun env => bnd (m1 env) truR) W)) (hb : PW X (.BoolOp .And (b :: rest) pos) (tT X.K (fun env => bnd (m2 env) truR) W)) :
    PW X (.BoolOp .And (a :: b :: rest) pos) (tT X.K (fun env => bnd (bnd (m1 env) fun r => bnd (truR r) fun c => if c = true then m2 env else frzM r) truR) W) := by
  refine ⟨fun wh pins s σ H Q I q => (pw_and ha hb).run wh pins s σ H Q I ?_⟩
  obtain ⟨B, env, tp, t, R, w⟩ := q
  have w' : wpm (bnd (bnd (m1 env) truR) fun c => if c = true then bnd (m2 env) truR else ret false) t (fun b t1 => ∀ H1, Rl X.K B σ env tp H1 → Q b H1) (fun x _ => ∀ H1, Rl X.K B σ env tp H1 → W x σ H1) := by
    simp only [bnd_assoc] at w ⊢
    rw [wpm_bnd] at w ⊢
    refine wpm_mono w (fun r t1 w1 => ?_) fun _ _ q => q
    rcases truR_val r with ⟨c, e⟩ | e
    · rw [e] at w1 ⊢
      cases c with
      | true => exact w1
      | false => exact tru_frz e w1
    · rw [e] at w1; exact w1.elim
  refine tT_step R w' (fun _ _ q => q) fun b t1 H1 R1 w1 => ?_
  cases b with
  | true => exact iteT ⟨B, env, tp, t1, R1, w1⟩
  | false => exact iteF (w1 H1 R1)
theorem pw_orM {a b : Expr} {rest : List Expr} {pos : Pos} {m1 m2 : Env → M RV} (ha : PT X a (tT X.K (fun env => bnd (m1 env) truR) W)) (hb : PW X (.BoolOp .Or (b :: rest) pos) (tT X.K (fun env => bnd (m2 env) truR) W)) :
    PW X (.BoolOp .Or (a :: b :: rest) pos) (tT X.K (fun env => bnd (bnd (m1 env) fun r => bnd (truR r) fun c => if c = true then frzM r else m2 env) truR) W) := by
  refine ⟨fun wh pins s σ H Q I q => (pw_or ha hb).run wh pins s σ H Q I ?_⟩
  obtain ⟨B, env, tp, t, R, w⟩ := q
  have w' : wpm (bnd (bnd (m1 env) truR) fun c => if c = true then ret true else bnd (m2 env) truR) t (fun b t1 => ∀ H1, Rl X.K B σ env tp H1 → Q b H1) (fun x _ => ∀ H1, Rl X.K B σ env tp H1 → W x σ H1) := by
    simp only [bnd_assoc] at w ⊢
    rw [wpm_bnd] at w ⊢
    refine wpm_mono w (fun r t1 w1 => ?_) fun _ _ q => q
    rcases truR_val r with ⟨c, e⟩ | e
    · rw [e] at w1 ⊢
      cases c with
      | false => exact w1
      | true => exact tru_frz e w1
    · rw [e] at w1; exact w1.elim
  refine tT_step R w' (fun _ _ q => q) fun b t1 H1 R1 w1 => ?_
  cases b with
  | true => exact iteT (w1 H1 R1)
  | false => exact iteF ⟨B, env, tp, t1, R1, w1⟩
theorem noSetM {op : CmpOp} {b : Expr} (h : isSetE b = false) : behindInMarks op b = false := by
  cases b <;> first | rfl | exact absurd h (by simp [isSetE])
theorem pe_cmpM {o : CmpOp} {op : COp} {a b : Expr} {pos : Pos} {m1 m2 : Env → M RV} (hu : X.A.units + 70 < cLine) (h : cop o = some op) (ha : PE X a (tE X.K m1 W)) (hb : PE X b (tE X.K m2 W)) (hs : isSetE b = false) :
    PE X (.Compare a [o] [b] pos) (tE X.K (fun env => bnd (m1 env) fun r => bnd (m2 env) fun s => cmpR op r s) W) := by
  obtain ⟨r, h1, h2⟩ := op_cmp (X := X) (by omega) h
  exact pe_imp (pe_cmpR h1 ha hb (noSetM hs)) fun σ H Q q => tOp_of h2 q
theorem pt_cmpM {o : CmpOp} {op : COp} {a b : Expr} {pos : Pos} {m1 m2 : Env → M RV} (hu : X.A.units + 70 < cLine) (h : cop o = some op) (ha : PE X a (tE X.K m1 W)) (hb : PE X b (tE X.K m2 W)) (hs : isSetE b = false) :
    PT X (.Compare a [o] [b] pos) (tT X.K (fun env => bnd (bnd (m1 env) fun r => bnd (m2 env) fun s => cmpR op r s) truR) W) := by
  obtain ⟨r, h1, h2⟩ := op_cmp (X := X) (by omega) h
  refine pt_imp (pt_cmpR h1 ha hb (noSetM hs)) fun σ H Q ⟨B, env, tp, t, R, w⟩ => tOp_of h2 ⟨B, env, tp, t, R, ?_⟩
  simp only [bnd_assoc] at w
  rw [wpm_bnd] at w ⊢
  refine wpm_mono w (fun r t1 w1 => ?_) fun _ _ q => q
  rw [wpm_bnd] at w1 ⊢
  refine wpm_mono w1 (fun s t2 w2 => ?_) fun _ _ q => q
  rw [wpm_bnd] at w2
  refine wpm_mono (cmp_bool w2) (fun rv t3 w3 v H1 p => ?_) fun _ _ q => q
  obtain ⟨⟨k, rfl⟩, w3⟩ := w3
  obtain ⟨R1, rep⟩ := p
  cases (show Rep _ v (.bool k) from rep)
  exact ⟨k, rfl, w3 H1 R1⟩
theorem lastM {o o' : CmpOp} {b c : Expr} (h : isSetE c = false) : lastMarks [o, o'] [b, c] = false := noSetM h
theorem chain_of {op op' : COp} {r r' : R2} {m1 m2 m3 : Env → M RV} (h2 : Srv2 X.K r fun a b => cmpR op a b) (h2' : Srv2 X.K r' fun a b => cmpR op' a b) {σ : L2.St} {H : Hp} {Q : VK}
    (q : tE X.K (fun env => bnd (m1 env) fun r => bnd (m2 env) fun s => bnd (cmpR op r s) fun q => bnd (boolR q) fun k => if k = true then bnd (m3 env) fun u => cmpR op' s u else ret (rd (.bool false))) W σ H Q) : tChain r r' (tE X.K m1 W) (tE X.K m2 W) (tE X.K m3 W) σ H Q := by
  obtain ⟨B, env, tp, t, R, w⟩ := q
  refine tE_step R w (fun _ _ q => q) fun a t1 x H1 R1 o1 w1 => ?_
  have ex1 := Exs.base (W := W) (fun _ _ q => q) R1
  refine tE_step R1.base w1 ex1 fun b t2 y H2 R2 o2 w2 => ?_
  have R2' := R2.down R1.le
  refine h2 (fz σ env tp H2) σ env tp H2 t2 _ x y a b (fun x _ => ∀ H', Rl X.K (fz σ env tp H2) σ env tp H' → W x σ H') R2.base (o1.mono R2.le) o2 ?_
  rw [wpm_bnd] at w2
  refine wpm_mono (cmp_bool w2) (fun rv t3 w3 v H3 p => ?_) fun _ _ q H' R' => q H' ((R'.down R2.le).down R1.le)
  obtain ⟨⟨k, rfl⟩, w3⟩ := w3
  obtain ⟨R3, rep⟩ := p
  cases (show Rep _ v (.bool k) from rep)
  refine ⟨k, rfl, ?_⟩
  have w3 : wpm (if k = true then bnd (m3 env) fun u => cmpR op' b u else ret (rd (.bool false))) t3 (OKE X.K B σ env tp Q) _ := w3
  cases k with
  | true =>
    refine iteT ?_
    have w3 : wpm (bnd (m3 env) fun u => cmpR op' b u) t3 (OKE X.K B σ env tp Q) _ := w3
    refine tE_step R3 w3 (fun x t e H' R' => e H' (R'.down R2'.le)) fun c t4 z H4 R4 o4 w4 => ?_
    exact h2' B σ env tp H4 t4 Q y z b c _ (R4.down R2'.le) (o2.mono R4.le) o4 w4
  | false => exact iteF (w3 _ _ (post_d (R3.down R2'.le) (.bl _)))
end
variable {Φ : Str → List Vv → M RV} {G : GS} {ca : Str → Addr}
theorem x1 : ev Φ .non = fun _ => ret (rd .none) := rfl
theorem x2 (op : BOp) (a b : E) : ev Φ (.bin op a b) = fun env => bnd (ev Φ a env) fun r => bnd (ev Φ b env) fun s => asD r fun x => asD s fun y => binD op x y := rfl
theorem x3 (op : BOp) (a b : E) : ev Φ (.lc a (.nm 0) (.seq b) none []) = fun env => bnd (evi Φ (.seq b) env) fun p => guard (wipeOk env []) (bnd (lcL (lcF (.nm 0) (ev Φ a) none env []) p.1) fun ys => ret (.fr (.lst ys))) := rfl
theorem x4 (c : E) (a b : E) : ev Φ (.lc a (.nm 0) (.seq b) (some c) []) = fun env => bnd (evi Φ (.seq b) env) fun p => guard (wipeOk env []) (bnd (lcL (lcF (.nm 0) (ev Φ a) (some fun env => bnd (ev Φ c env) truR) env []) p.1) fun ys => ret (.fr (.lst ys))) := rfl
end Pv
/-! Pv15: chains, choices, items, built-ins, targets, comprehensions. -/
namespace Pv
open PySem PySem.Spec PyProof.Rows L2
section
variable {X : Cx} {W : WN}
/-- its answer is True or False -/
def BoolM (m : Env → M RV) : Prop := ∀ env t ok ex, wpm (m env) t ok ex → wpm (m env) t (fun rv t' => (∃ k, rv = rd (.bool k)) ∧ ok rv t') ex
theorem bool_tst {K : PySem.W.Frag} {m : Env → M RV} (hb : BoolM m) {σ : L2.St} {H : Hp} {Q : Bool → Hp → Prop} (q : tT K (fun env => bnd (m env) truR) W σ H Q) : tTest (tE K m W) σ H Q := by
  obtain ⟨B, env, tp, t, R, w⟩ := q
  rw [wpm_bnd] at w
  refine ⟨B, env, tp, t, R, wpm_mono (hb _ _ _ _ w) (fun rv t3 w3 v H1 p => ?_) fun _ _ q => q⟩
  obtain ⟨⟨k, rfl⟩, w3⟩ := w3
  obtain ⟨R1, rep⟩ := p
  cases (show Rep _ v (.bool k) from rep)
  exact ⟨k, rfl, w3 H1 R1⟩
abbrev chainM (op op' : COp) (m1 m2 m3 : Env → M RV) : Env → M RV := fun env => bnd (m1 env) fun r => bnd (m2 env) fun s => bnd (cmpR op r s) fun q => bnd (boolR q) fun k => if k = true then bnd (m3 env) fun u => cmpR op' s u else ret (rd (.bool false))
theorem chain_bool (op op' : COp) (m1 m2 m3 : Env → M RV) : BoolM (chainM op op' m1 m2 m3) := fun env t ok ex w => by
  unfold chainM at w ⊢
  rw [wpm_bnd] at w ⊢
  refine wpm_mono w (fun r t1 w1 => ?_) fun _ _ q => q
  rw [wpm_bnd] at w1 ⊢
  refine wpm_mono w1 (fun s t2 w2 => ?_) fun _ _ q => q
  rw [wpm_bnd] at w2 ⊢
  refine wpm_mono w2 (fun q t3 w3 => ?_) fun _ _ q => q
  rw [wpm_bnd] at w3 ⊢
  refine wpm_mono w3 (fun k t4 w4 => ?_) fun _ _ q => q
  cases k with
  | true =>
    have w4 : wpm (bnd (m3 env) fun u => cmpR op' s u) t4 ok ex := w4
    show wpm (bnd (m3 env) fun u => cmpR op' s u) t4 _ ex
    rw [wpm_bnd] at w4 ⊢
    exact wpm_mono w4 (fun u t5 w5 => cmp_bool w5) fun _ _ q => q
  | false => exact ⟨⟨false, rfl⟩, w4⟩
theorem pe_chainM {o o' : CmpOp} {op op' : COp} {a b c : Expr} {pos : Pos} {m1 m2 m3 : Env → M RV} (hu : X.A.units + 70 < cLine) (h : cop o = some op) (h' : cop o' = some op') (ha : PE X a (tE X.K m1 W)) (hb : PE X b (tE X.K m2 W)) (hc : PE X c (tE X.K m3 W)) (hs : isSetE c = false) :
    PE X (.Compare a [o, o'] [b, c] pos) (tE X.K (chainM op op' m1 m2 m3) W) := by
  obtain ⟨r, h1, h2⟩ := op_cmp (X := X) (by omega) h
  obtain ⟨r', h1', h2'⟩ := op_cmp (X := X) (by omega) h'
  exact pe_imp (pe_chain h1 h1' ha hb hc (lastM hs)) fun σ H Q q => chain_of h2 h2' q
theorem pt_chainM {o o' : CmpOp} {op op' : COp} {a b c : Expr} {pos : Pos} {m1 m2 m3 : Env → M RV} (hu : X.A.units + 70 < cLine) (h : cop o = some op) (h' : cop o' = some op') (ha : PE X a (tE X.K m1 W)) (hb : PE X b (tE X.K m2 W)) (hc : PE X c (tE X.K m3 W)) (hs : isSetE c = false) :
    PT X (.Compare a [o, o'] [b, c] pos) (tT X.K (fun env => bnd (chainM op op' m1 m2 m3 env) truR) W) := by
  obtain ⟨r, h1, h2⟩ := op_cmp (X := X) (by omega) h
  obtain ⟨r', h1', h2'⟩ := op_cmp (X := X) (by omega) h'
  exact pt_imp (pt_chain h1 h1' ha hb hc (lastM hs)) fun σ H Q q => chain_of h2 h2' (bool_tst (chain_bool op op' m1 m2 m3) q)
theorem pe_ifxM {c a b : Expr} {pos : Pos} {mc m1 m2 : Env → M RV} (hc : PT X c (tT X.K (fun env => bnd (mc env) truR) W)) (ha : PE X a (tE X.K m1 W)) (hb : PE X b (tE X.K m2 W)) :
    PE X (.IfExp c a b pos) (tE X.K (fun env => bnd (mc env) fun r => bnd (truR r) fun k => if k = true then m1 env else m2 env) W) := pe_imp (pe_ifExp hc ha hb) fun σ H Q ⟨B, env, tp, t, R, w⟩ => by
  have w := wpm_assoc w
  refine tT_step (k := fun k => if k = true then m1 env else m2 env) R w (fun _ _ q => q) fun k t1 H1 R1 w1 => ?_
  cases k with
  | true => exact iteT (tE_last R1 w1 (fun _ _ q => q))
  | false => exact iteF (tE_last R1 w1 (fun _ _ q => q))
theorem pe_ixM {a b : Expr} {pos : Pos} {m1 m2 : Env → M RV} (ha : PE X a (tE X.K m1 W)) (hb : PE X b (tE X.K m2 W)) (hs : isSliceE b = false) :
    PE X (.Subscript a b pos) (tE X.K (fun env => bnd (m1 env) fun r => bnd (m2 env) fun s => ixR r s) W) := pe_imp (pe_ix ix_seq ha hb (plainIx hs)) fun σ H Q q => tOp_of srv_ix q
theorem pe_revM {a : Expr} {k : Nat} {p1 p2 p3 pos : Pos} {m : Env → M RV} (ha : PE X a (tE X.K m W)) : PE X (.Subscript a (.Slice none none (some (.UnaryOp .USub (.Constant (.int 1) k p1) p2)) p3) pos) (tE X.K (fun env => bnd (m env) fun r => asD r revM) W) := pe_imp (pe_revL ha) fun σ H Q ⟨B, env, tp, t, R, w⟩ => by
  refine tE_step R w (fun _ _ q => q) fun r t1 v H1 R1 o1 w1 => ?_
  obtain ⟨d, ed, w1⟩ := wpm_asD w1
  have rx := o1.rd R1 ed
  unfold revM at w1
  split at w1 <;> first | exact wpm_stk w1 | skip
  obtain ⟨p, vs, rfl, h1, h2⟩ := rx
  refine ⟨p, vs, rfl, .of h1, fun n hn => w1 _ _ (post_lst R1 hn ?_)⟩
  exact h2.reverse
theorem pe_blt1 {x : Str} {id : String} {f : BF} {e : Expr} {es : List Expr} {p pos : Pos} {ms : Env → M (List RV)} {r : List V → Hp → VK → Prop} (hc : CallR X (.builtin id) r) (hs : SrvA X.K r (bfM f)) (hg : Gl X x) (hm : X.mg x = none) (hv : bootBuiltins x = some (.builtin id)) (hn : x ≠ "__name__") (hdb : (x == ("__debug__" : Str)) = false)
    (ha : PA X (e :: es) (tAr X.K ms W)) (na : isStarE e = false ∧ (es.all fun e => !isStarE e) = true) : PE X (.Call (.Name x p) (e :: es) [] pos) (tE X.K (fun env => bnd (ms env) fun rs => bfM f rs) W) :=
  pe_imp (pe_callB hc hg hm hv ha hn hdb (star_cons na.1) (noany na.2)) fun σ H Q q => tCB_of hs q
theorem pe_blt2 {x : Str} {id : String} {f : BF} {e : Expr} {es : List Expr} {p pos : Pos} {ms : Env → M (List RV)} {r : List V → Hp → VK → Prop} (hc : CallR X (.type id) r) (hs : SrvA X.K r (bfM f)) (hg : Gl X x) (hm : X.mg x = none) (hv : bootBuiltins x = some (.type id)) (hn : x ≠ "__name__") (hdb : (x == ("__debug__" : Str)) = false)
    (ha : PA X (e :: es) (tAr X.K ms W)) (na : isStarE e = false ∧ (es.all fun e => !isStarE e) = true) : PE X (.Call (.Name x p) (e :: es) [] pos) (tE X.K (fun env => bnd (ms env) fun rs => bfM f rs) W) :=
  pe_imp (pe_callTy hc hg hm hv ha hn hdb (star_cons na.1) (noany na.2)) fun σ H Q q => tCB_of hs q
/-! ### targets -/
theorem pg_or {tg : Expr} {t t' : TG} (h : PG X tg t) (h' : PG X tg t') : PG X tg (fun v σ H Q => t v σ H Q ∨ t' v σ H Q) := ⟨fun pins s σ H v u Q I r q => q.elim (h.run pins s σ H v u Q I r) (h'.run pins s σ H v u Q I r)⟩
theorem asgEach_cons {e : Expr} {es : List Expr} {env : PySem.Env} (h : isStarE e = false) : assignEach (e :: es) env = (false, assign e env) :: assignEach es env := by
  cases e <;> first | rfl | (simp [isStarE, isSetE] at h)
theorem compTs_len {S : SC} : ∀ {es : List Expr} {ts : List T}, compTs S es = some ts → (es.all fun e => !isStarE e) = true ∧ ts.length = es.length
  | [], ts, h => by cases h; exact ⟨rfl, rfl⟩
  | e :: es, ts, h => by
    unfold compTs at h
    split at h <;> first | (cases h; done) | skip
    rename_i t ts' e1 e2 e3
    cases h
    obtain ⟨h1, h2⟩ := compTs_len e3
    exact ⟨by rw [List.all_cons, e1, h1]; rfl, congrArg (· + 1) h2⟩
theorem asgEach_len : ∀ {es : List Expr} {env : PySem.Env}, (es.all fun e => !isStarE e) = true → (assignEach es env).length = es.length ∧ (assignEach es env).findIdx? (·.1) = none
  | [], _, _ => ⟨rfl, rfl⟩
  | e :: es, env, h => by
    rw [List.all_cons, Bool.and_eq_true] at h
    have e1 : isStarE e = false := by cases q : isStarE e <;> simp [q] at h ⊢
    obtain ⟨h1, h2⟩ := asgEach_len (env := env) h.2
    rw [asgEach_cons e1]
    refine ⟨congrArg (· + 1) h1, ?_⟩
    rw [List.findIdx?_cons, h2]
    rfl
variable {S : SC}
mutual
theorem pg_T (C : Cn S X) (hc : X.calm = true) : ∀ (e : Expr) (t : T), compT S e = some t → (∀ x ∈ tgN e, X.fn x = true ∨ X.env.scope.names.lookup x = some .local) → PG X e (gT X.K t)
  | .Name x p, t, h, hf => by
    unfold compT at h
    split at h <;> first | (cases h; done) | skip
    rename_i hl
    obtain ⟨i, hi, rfl⟩ := Option.map_eq_some_iff.mp h
    exact pg_name (by rw [C.hN]; exact C.nd) (by rw [C.hN]; exact idx_get hi) (by rw [C.hS]; exact loc_of hl) (hf x (by simp [tgN]))
  | .Tuple es k p, t, h, hf => by
    unfold compT at h
    obtain ⟨ts, hts, rfl⟩ := Option.map_eq_some_iff.mp h
    obtain ⟨h1, h2⟩ := compTs_len hts
    obtain ⟨h3, h4⟩ := asgEach_len (env := X.env) h1
    have hp := pgs_T C hc es ts hts hf
    exact pg_or (pg_tup hc hp (h3.trans h2.symm) h4) (pg_lst hc hp (h3.trans h2.symm) h4)
  | .Constant .., _, h, _ => by cases h
  | .BoolOp .., _, h, _ => by cases h
  | .NamedExpr .., _, h, _ => by cases h
  | .BinOp .., _, h, _ => by cases h
  | .UnaryOp .., _, h, _ => by cases h
  | .Lambda .., _, h, _ => by cases h
  | .IfExp .., _, h, _ => by cases h
  | .Dict .., _, h, _ => by cases h
  | .Set .., _, h, _ => by cases h
  | .ListComp .., _, h, _ => by cases h
  | .SetComp .., _, h, _ => by cases h
  | .DictComp .., _, h, _ => by cases h
  | .GeneratorExp .., _, h, _ => by cases h
  | .Await .., _, h, _ => by cases h
  | .Yield .., _, h, _ => by cases h
  | .YieldFrom .., _, h, _ => by cases h
  | .Compare .., _, h, _ => by cases h
  | .Call .., _, h, _ => by cases h
  | .FormattedValue .., _, h, _ => by cases h
  | .JoinedStr .., _, h, _ => by cases h
  | .Attribute .., _, h, _ => by cases h
  | .Subscript .., _, h, _ => by cases h
  | .Starred .., _, h, _ => by cases h
  | .List .., _, h, _ => by cases h
  | .Slice .., _, h, _ => by cases h
theorem pgs_T (C : Cn S X) (hc : X.calm = true) : ∀ (es : List Expr) (ts : List T), compTs S es = some ts → (∀ x ∈ tgNs es, X.fn x = true ∨ X.env.scope.names.lookup x = some .local) → PGs X es (gTs X.K ts)
  | [], ts, h, hf => by cases h; exact pgs_nil
  | e :: es, ts, h, hf => by
    unfold compTs at h
    split at h <;> first | (cases h; done) | skip
    rename_i t ts' e1 e2 e3
    cases h
    exact pgs_cons (pg_T C hc e t e2 fun x hx => hf x (by unfold tgNs; exact List.mem_append_left _ hx)) (pgs_T C hc es ts' e3 fun x hx => hf x (by unfold tgNs; exact List.mem_append_right _ hx)) (by rw [asgEach_cons e1]; rfl)
end
/-! ### comprehensions -/
theorem fold_set {e : Expr} (h : isSetE e = false) (env : PySem.Env) (x : Value) : foldedSetIterable e env x = pure x := by
  cases e <;> first | rfl | (simp [isStarE, isSetE] at h)
theorem pe_lcM {elt tg iter : Expr} {ifs : List Expr} {scope : Scope} {own : List (Str × Nat)} {pos : Pos} {T : Pv.T} {mi : Env → M (List D × Bool)} {me : Env → M RV} {mc : Option (Env → M Bool)} (hc : X.calm = true) (hN : X.N.Nodup) (hi : PI X tg iter (tI X.K mi W)) (ok : BlkOk X.N X.env.scope scope own)
    (hg : ∀ (s : Shared) (H : Hp) (C : Addr) (cl : List (Str × Addr)) (fp : List Addr), PG (X.blk s H scope (compEnvC scope cl C X.env) fp) tg (gT X.K T)) (ht : ∀ (s : Shared) (H : Hp) (C : Addr) (cl : List (Str × Addr)) (fp : List Addr), PTs (X.blk s H scope (compEnvC scope cl C X.env) fp) ifs (tTo X.K mc))
    (he : ∀ (s : Shared) (H : Hp) (C : Addr) (cl : List (Str × Addr)) (fp : List Addr), PE (X.blk s H scope (compEnvC scope cl C X.env) fp) elt (tE X.K me WF)) (hs : isSetE iter = false) (hv : ∀ i ∈ tN T, i ∈ own.map (·.2)) :
    PE X (.ListComp elt [⟨tg, iter, ifs, 0⟩] scope pos) (tE X.K (fun env => bnd (mi env) fun p => guard (wipeOk env (own.map (·.2))) (bnd (lcL (lcF T me mc env (own.map (·.2))) p.1) fun ys => ret (.fr (.lst ys)))) W) := pe_imp (pe_lc hc hN hi ok hg ht he (fold_set hs _)) fun σ H Q ⟨B, env, tp, t, R, w⟩ => by
  rw [wpm_bnd] at w
  refine ⟨B, env, tp, t, R, wpm_mono w (fun p t1 w1 J H1 R1 hl sb _ Da hD => ?_) fun _ _ q => q⟩
  obtain ⟨hz, w1⟩ := wpm_guard w1
  rw [wpm_bnd] at w1
  exact lc_run R1 hv hz sb hl w1 Da hD
end
end Pv
/-! Pv22: orders of plain lists. -/
namespace Pv
open PySem
theorem ltT_irr : ∀ k : List Int, ltT k k = false
  | [] => rfl
  | x :: xs => by unfold ltT; rw [ltT_irr xs]; simp
theorem ltT_trans : ∀ {a b c : List Int}, ltT a b = true → ltT b c = true → ltT a c = true
  | [], [], _, h, _ => by simp [ltT] at h
  | [], _ :: _, [], _, h => by simp [ltT] at h
  | [], _ :: _, _ :: _, _, _ => rfl
  | _ :: _, [], _, h, _ => by simp [ltT] at h
  | _ :: _, _ :: _, [], _, h => by simp [ltT] at h
  | x :: xs, y :: ys, z :: zs, h, g => by
    unfold ltT at h g ⊢
    simp only [Bool.or_eq_true, Bool.and_eq_true, decide_eq_true_eq] at h g ⊢
    rcases h with h | ⟨h, h'⟩ <;> rcases g with g | ⟨g, g'⟩
    · exact .inl (by omega)
    · exact .inl (by omega)
    · exact .inl (by omega)
    · exact .inr ⟨h.trans g, ltT_trans h' g'⟩
theorem ltT_tri : ∀ (a b : List Int), ltT a b = true ∨ a = b ∨ ltT b a = true
  | [], [] => .inr (.inl rfl)
  | [], _ :: _ => .inl rfl
  | _ :: _, [] => .inr (.inr rfl)
  | x :: xs, y :: ys => by
    unfold ltT
    simp only [Bool.or_eq_true, Bool.and_eq_true, decide_eq_true_eq]
    rcases Int.lt_trichotomy x y with h | h | h
    · exact .inl (.inl h)
    · subst h
      rcases ltT_tri xs ys with h | h | h
      · exact .inl (.inr ⟨rfl, h⟩)
      · exact .inr (.inl (by rw [h]))
      · exact .inr (.inr (.inr ⟨rfl, h⟩))
    · exact .inr (.inr (.inl h))
/-- at most -/
abbrev LeT (a b : List Int) : Prop := ltT b a = false
theorem leT_anti {a b : List Int} (h : LeT a b) (g : LeT b a) : a = b := by
  rcases ltT_tri a b with q | q | q
  · rw [g] at q; cases q
  · exact q
  · rw [h] at q; cases q
theorem leT_of {a b : List Int} (h : ltT a b = true) : LeT a b := by
  cases q : ltT b a with
  | false => exact q
  | true => have := ltT_trans h q; rw [ltT_irr] at this; cases this
theorem leT_trans {a b c : List Int} (h : LeT a b) (g : LeT b c) : LeT a c := by
  cases q : ltT c a with
  | false => exact q
  | true =>
    rcases ltT_tri a b with z | z | z
    · have := ltT_trans q z; rw [g] at this; cases this
    · subst z; rw [g] at q; cases q
    · rw [h] at z; cases z
theorem insT_perm (k : List Int) : ∀ xs, (insT k xs).Perm (k :: xs)
  | [] => .refl _
  | x :: xs => by
    unfold insT
    split
    · exact ((insT_perm k xs).cons x).trans (.swap k x xs)
    · exact .refl _
theorem sortT_perm : ∀ ks, (sortT ks).Perm ks
  | [] => .refl _
  | k :: ks => (insT_perm k _).trans ((sortT_perm ks).cons k)
theorem insT_sorted (k : List Int) : ∀ xs, xs.Pairwise LeT → (insT k xs).Pairwise LeT
  | [], _ => List.pairwise_singleton _ _
  | x :: xs, h => by
    have hx := List.pairwise_cons.mp h
    unfold insT
    split
    · rename_i q
      refine List.pairwise_cons.mpr ⟨fun y hy => ?_, insT_sorted k xs hx.2⟩
      rcases List.mem_cons.mp ((insT_perm k xs).mem_iff.mp hy) with rfl | hy
      · exact leT_of q
      · exact hx.1 y hy
    · rename_i q
      have q' : LeT k x := by show ltT x k = false; cases z : ltT x k <;> simp [z] at q ⊢
      refine List.pairwise_cons.mpr ⟨fun y hy => ?_, h⟩
      rcases List.mem_cons.mp hy with rfl | hy
      · exact q'
      · exact leT_trans q' (hx.1 y hy)
theorem sortT_sorted : ∀ ks, (sortT ks).Pairwise LeT
  | [] => .nil
  | k :: ks => insT_sorted k _ (sortT_sorted ks)
theorem sortT_uni {xs ks : List (List Int)} (p : xs.Perm ks) (h : xs.Pairwise LeT) : xs = sortT ks := List.Perm.eq_of_pairwise (fun a b _ _ h g => leT_anti h g) h (sortT_sorted ks) (p.trans (sortT_perm ks).symm)
theorem insI_perm (k : Int) : ∀ xs, (insI k xs).Perm (k :: xs)
  | [] => .refl _
  | x :: xs => by
    unfold insI
    split
    · exact ((insI_perm k xs).cons x).trans (.swap k x xs)
    · exact .refl _
theorem sortI_perm : ∀ ks, (sortI ks).Perm ks
  | [] => .refl _
  | k :: ks => (insI_perm k _).trans ((sortI_perm ks).cons k)
theorem insI_sorted (k : Int) : ∀ xs, xs.Pairwise (· ≤ ·) → (insI k xs).Pairwise (· ≤ ·)
  | [], _ => List.pairwise_singleton _ _
  | x :: xs, h => by
    have hx := List.pairwise_cons.mp h
    unfold insI
    split
    · rename_i q
      refine List.pairwise_cons.mpr ⟨fun y hy => ?_, insI_sorted k xs hx.2⟩
      rcases List.mem_cons.mp ((insI_perm k xs).mem_iff.mp hy) with rfl | hy
      · omega
      · exact hx.1 y hy
    · rename_i q
      refine List.pairwise_cons.mpr ⟨fun y hy => ?_, h⟩
      rcases List.mem_cons.mp hy with rfl | hy
      · omega
      · have := hx.1 y hy; omega
theorem sortI_sorted : ∀ ks, (sortI ks).Pairwise (· ≤ ·)
  | [] => .nil
  | k :: ks => insI_sorted k _ (sortI_sorted ks)
theorem sortI_uni {xs ks : List Int} (p : xs.Perm ks) (h : xs.Pairwise (· ≤ ·)) : xs = sortI ks := List.Perm.eq_of_pairwise (fun a b _ _ h g => Int.le_antisymm h g) h (sortI_sorted ks) (p.trans (sortI_perm ks).symm)
section
variable {α : Type} [DecidableEq α]
theorem uniqL_mem : ∀ (xs : List α) (x : α), x ∈ uniqL xs ↔ x ∈ xs
  | [], x => by simp [uniqL]
  | y :: ys, x => by
    unfold uniqL
    rw [List.mem_cons, List.mem_filter, uniqL_mem ys x, List.mem_cons]
    by_cases h : x = y
    · simp [h]
    · simp [h]
theorem uniqL_nodup : ∀ (xs : List α), (uniqL xs).Nodup
  | [] => List.nodup_nil
  | y :: ys => by
    unfold uniqL
    refine List.nodup_cons.mpr ⟨fun h => ?_, (uniqL_nodup ys).sublist List.filter_sublist⟩
    have := (List.mem_filter.mp h).2
    simp at this
theorem uniq_len {xs : List α} {l : List α} (hn : l.Nodup) (h : ∀ x, x ∈ l ↔ x ∈ xs) : l.length = (uniqL xs).length :=
  ((List.perm_ext_iff_of_nodup hn (uniqL_nodup xs)).mpr fun a => (h a).trans (uniqL_mem xs a).symm).length_eq
theorem uniq_perm {xs : List α} {l : List α} (hn : l.Nodup) (h : ∀ x, x ∈ l ↔ x ∈ xs) : l.Perm (uniqL xs) :=
  (List.perm_ext_iff_of_nodup hn (uniqL_nodup xs)).mpr fun a => (h a).trans (uniqL_mem xs a).symm
end
end Pv
/-! Pv23: sorted, sets. -/
namespace Pv
open PySem PySem.Spec PyProof.Rows L2
section
variable {K : PySem.W.Frag} {X : Cx} {W : WN}
theorem reps_ints {F : Hp} {vs : List V} {ds : List D} {ns : List Int} (h : Reps F vs ds) (e : intsOf ds = some ns) : vs = ns.map V.int := (h.ints e).1
/-- a list of tuples of ints -/
theorem reps_tups {F : Hp} : ∀ {vs : List V} {ds : List D} {ks : List (List Int)}, Reps F vs ds → tupsOf ds = some ks → ∃ ps : List (Addr × List Int), vs = ps.map (fun p => V.ref p.1) ∧ ps.map (·.2) = ks ∧ ∀ p ∈ ps, F p.1 = some (.tup (p.2.map V.int))
  | _, _, ks, .nil, e => by cases e; exact ⟨[], rfl, rfl, fun _ h => nomatch h⟩
  | _, _, ks, .cons (d := d) h q, e => by
    cases d with
    | tuple xs =>
      unfold tupsOf at e
      split at e <;> first | (cases e; done) | skip
      rename_i k ks' e1 e2
      cases e
      obtain ⟨ps, h1, h2, h3⟩ := reps_tups q e2
      obtain ⟨p, vs, rfl, g1, g2⟩ := rd_tup (RdR.of h (Same.refl _))
      rw [reps_ints g2 e1] at g1
      refine ⟨(p, k) :: ps, by rw [h1]; rfl, by rw [← h2]; rfl, fun z hz => ?_⟩
      rcases List.mem_cons.mp hz with rfl | hz
      · exact g1
      · exact h3 z hz
    | _ => cases e
theorem rep_tupD {F : Hp} {p : Addr} {k : List Int} (h : F p = some (.tup (k.map V.int))) : Rep F (.ref p) (tupD k) := .tup h (Reps.of_ints k)
theorem reps_tupD {F : Hp} : ∀ {ps : List (Addr × List Int)}, (∀ p ∈ ps, F p.1 = some (.tup (p.2.map V.int))) → Reps F (ps.map fun p => V.ref p.1) ((ps.map (·.2)).map tupD)
  | [], _ => .nil
  | p :: ps, h => .cons (rep_tupD (h p List.mem_cons_self)) (reps_tupD fun q hq => h q (List.mem_cons_of_mem _ hq))
/-- the tuples' bound -/
theorem tupOk_of {ks : List (List Int)} (h : tupOk ks = true) : ks.length < 64 ∧ ∃ d, 1 ≤ d ∧ ∀ k ∈ ks, k.length = d ∧ TS.Bd 64 k := by
  unfold tupOk at h
  rw [Bool.and_eq_true, decide_eq_true_eq] at h
  obtain ⟨h1, h2⟩ := h
  refine ⟨h1, ?_⟩
  cases ks with
  | nil => exact ⟨1, Nat.le_refl _, fun _ h => nomatch h⟩
  | cons k ks =>
    simp only [Bool.and_eq_true, decide_eq_true_eq, List.all_eq_true] at h2
    exact ⟨k.length, h2.1, fun l hl => ⟨(h2.2 l hl).1, fun m hm => (h2.2 l hl).2 m hm⟩⟩
theorem code_leT : ∀ {a b : List Int}, a.length = b.length → TS.Bd 64 a → TS.Bd 64 b → TS.code 64 a ≤ TS.code 64 b → LeT a b
  | [], [], _, _, _, _ => rfl
  | [], _ :: _, h, _, _, _ => by simp at h
  | _ :: _, [], h, _, _, _ => by simp at h
  | x :: xs, y :: ys, h, h1, h2, hc => by
    have hl : xs.length = ys.length := by simpa using h
    show ltT (y :: ys) (x :: xs) = false
    unfold ltT
    rcases Int.lt_trichotomy x y with q | q | q
    · simp; exact ⟨by omega, fun z => by omega⟩
    · subst q
      have hc' : TS.code 64 xs ≤ TS.code 64 ys := by
        have e1 : TS.code 64 (x :: xs) = x * 64 ^ xs.length + TS.code 64 xs := rfl
        have e2 : TS.code 64 (x :: ys) = x * 64 ^ ys.length + TS.code 64 ys := rfl
        rw [e1, e2, hl] at hc
        omega
      have ih : ltT ys xs = false := code_leT hl h1.tail h2.tail hc'
      rw [ih]; simp
    · have := TS.code_lt (B := 64) hl.symm h2.tail h1.tail q
      omega
/-- sorted -/
def rSortedP (K : PySem.W.Frag) : List V → Hp → VK → Prop := fun vs H Q => rSortedI K vs H Q ∨ ∃ d, 1 ≤ d ∧ rSortU K d 64 vs H Q
theorem cr_sortedP : CallR X (.builtin "sorted") (rSortedP X.K) := fun pins s σ H xs us Q I rs q => q.elim (cr_sortedI pins s σ H xs us Q I rs) fun ⟨d, hd, q⟩ => cr_sortT hd pins s σ H xs us Q I rs q
theorem pairs_perm {ps : List (Addr × List Int)} {F : Hp} : ∀ {ys : List V}, (∀ y ∈ ys, y ∈ ps.map fun p => V.ref p.1) → (∀ p ∈ ps, F p.1 = some (.tup (p.2.map V.int))) → ∃ qs : List (Addr × List Int), ys = qs.map (fun p => V.ref p.1) ∧ ∀ q ∈ qs, q ∈ ps
  | [], _, _ => ⟨[], rfl, fun _ h => nomatch h⟩
  | y :: ys, h, hp => by
    obtain ⟨qs, h1, h2⟩ := pairs_perm (fun z hz => h z (List.mem_cons_of_mem _ hz)) hp
    obtain ⟨p, hp', e⟩ := List.mem_map.mp (h y List.mem_cons_self)
    refine ⟨p :: qs, by rw [h1, ← e]; rfl, fun q hq => ?_⟩
    rcases List.mem_cons.mp hq with rfl | hq
    · exact hp'
    · exact h2 q hq
theorem map_int_inj {a b : List Int} (h : a.map V.int = b.map V.int) : a = b := by
  have := congrArg (List.map fun | V.int i => i | _ => 0) h
  simpa [List.map_map, Function.comp_def] using this
/-- data of refs: the same address, the same datum -/
theorem snd_perm {ps qs : List (Addr × List Int)} {F : Hp} (hp : ∀ p ∈ ps, F p.1 = some (.tup (p.2.map V.int))) (hq : ∀ q ∈ qs, q ∈ ps) (h : (qs.map fun p => V.ref p.1).Perm (ps.map fun p => V.ref p.1)) : (qs.map (·.2)).Perm (ps.map (·.2)) := by
  let g : V → List Int := fun v => match v with
    | .ref a => match F a with
      | some (.tup xs) => xs.map fun | V.int i => i | _ => 0
      | _ => []
    | _ => []
  have e : ∀ l : List (Addr × List Int), (∀ p ∈ l, F p.1 = some (.tup (p.2.map V.int))) → (l.map fun p => V.ref p.1).map g = l.map (·.2) := fun l hl => by
    rw [List.map_map]
    refine List.map_congr_left fun p hp => ?_
    show g (.ref p.1) = p.2
    show (match F p.1 with
      | some (.tup xs) => xs.map fun | V.int i => i | _ => 0
      | _ => []) = p.2
    rw [hl p hp]
    simp [List.map_map, Function.comp_def]
  have := h.map g
  rw [e qs fun q hq' => hp q (hq q hq'), e ps hp] at this
  exact this
theorem sorted_d : SrvF K (rSortedP K) (bfD .sorted) := fun B σ env tp H t Q xs ds EX R o w => by
  unfold bfD at w
  split at w <;> first | exact wpm_stk w | skip
  all_goals (first | (rename_i h; cases h; done) | skip)
  obtain ⟨x, rfl, rx⟩ := f21 o
  unfold sortedM at w
  split at w <;> first | exact wpm_stk w | skip
  obtain ⟨p, vs, rfl, h1, h2⟩ := rx
  split at w
  · rename_i ns e
    have ev := reps_ints h2 e
    subst ev
    refine .inl ⟨p, ns, rfl, .of h1, fun ns' l hp hs hn => w _ _ (post_lst R hn ?_)⟩
    rw [sortI_uni hp hs]
    exact Reps.of_ints _
  · split at w <;> first | exact wpm_stk w | skip
    rename_i ks e
    obtain ⟨hz, w⟩ := wpm_guard w
    obtain ⟨h64, d, hd, hb⟩ := tupOk_of hz
    obtain ⟨ps, rfl, rfl, h3⟩ := reps_tups h2 e
    have hin : ∀ p ∈ ps, H p.1 = some (.tup (p.2.map V.int)) := fun p hp => hide_same _ _ _ _ (h3 p hp)
    refine .inr ⟨d, hd, p, _, rfl, .of h1, by simpa using h64, fun x hx => ?_, fun ys l hp hs hn => w _ _ (post_lst R hn ?_)⟩
    · obtain ⟨q, hq, rfl⟩ := List.mem_map.mp hx
      obtain ⟨b1, b2⟩ := hb q.2 (List.mem_map.mpr ⟨q, hq, rfl⟩)
      exact ⟨q.2, ⟨q.1, rfl, .of (hin q hq)⟩, b1, b2⟩
    · obtain ⟨qs, rfl, hqs⟩ := pairs_perm (ps := ps) (fun y hy => hp.mem_iff.mp hy) h3
      have hq3 : ∀ q ∈ qs, fz σ env tp H q.1 = some (.tup (q.2.map V.int)) := fun q hq => h3 q (hqs q hq)
      have pm := snd_perm h3 hqs hp
      have pw : (qs.map (·.2)).Pairwise LeT := by
        rw [List.pairwise_map] at hs ⊢
        refine List.Pairwise.imp_of_mem (fun {a b} ha hb' q => ?_) hs
        have a1 := hb a.2 (List.mem_map.mpr ⟨a, hqs a ha, rfl⟩)
        have b1 := hb b.2 (List.mem_map.mpr ⟨b, hqs b hb', rfl⟩)
        exact code_leT (a1.1.trans b1.1.symm) a1.2 b1.2 (q a.2 b.2 ⟨a.1, rfl, .of (hin a (hqs a ha))⟩ ⟨b.1, rfl, .of (hin b (hqs b hb'))⟩)
      rw [← sortT_uni pm pw]
      exact reps_tupD hq3
/-! ### len(set(xs)) -/
theorem dedup_fold : ∀ (l acc : List Int), acc.Nodup → (l.foldl step_dedup acc).Nodup ∧ ∀ x, x ∈ l.foldl step_dedup acc ↔ x ∈ acc ∨ x ∈ l
  | [], acc, h => ⟨h, fun x => by simp⟩
  | y :: l, acc, h => by
    rw [List.foldl_cons]
    by_cases q : acc.any (· == y) = true
    · have e : step_dedup acc y = acc := by unfold step_dedup; rw [if_pos q]
      have hy : y ∈ acc := by
        obtain ⟨z, hz, ez⟩ := List.any_eq_true.mp q
        rw [← (show z = y from eq_of_beq ez)]; exact hz
      rw [e]
      obtain ⟨h1, h2⟩ := dedup_fold l acc h
      refine ⟨h1, fun x => (h2 x).trans ?_⟩
      rw [List.mem_cons]
      constructor
      · rintro (z | z)
        · exact .inl z
        · exact .inr (.inr z)
      · rintro (z | rfl | z)
        · exact .inl z
        · exact .inl hy
        · exact .inr z
    · have e : step_dedup acc y = acc ++ [y] := by unfold step_dedup; rw [if_neg q]
      have hy : y ∉ acc := fun z => q (List.any_eq_true.mpr ⟨y, z, by simp⟩)
      rw [e]
      have hn : (acc ++ [y]).Nodup := List.nodup_append.mpr ⟨h, by simp, fun a ha b hb => by
        have : b = y := by simpa using hb
        subst this
        exact fun z => hy (z ▸ ha)⟩
      obtain ⟨h1, h2⟩ := dedup_fold l (acc ++ [y]) hn
      refine ⟨h1, fun x => (h2 x).trans ?_⟩
      simp [or_assoc]
theorem firstMet_uniq (ns : List Int) : (firstMet (fun i => ns.getD i 0) ns.length).length = (uniqL ns).length := by
  have e : (List.range ns.length).map (fun i => ns.getD i 0) = ns := by
    refine List.ext_getElem (by simp) fun i h1 h2 => ?_
    simp [List.getD_eq_getElem?_getD, List.getElem?_eq_getElem h2]
  obtain ⟨h1, h2⟩ := dedup_fold ns [] List.nodup_nil
  unfold firstMet
  rw [e]
  exact uniq_len h1 fun x => by simpa using h2 x
def tLenAny (K : PySem.W.Frag) (ta : TE) : TE := fun σ H Q => ta σ H fun x H1 => ∃ (l : Addr) (ns : List Int), x = V.ref l ∧ (SqL K H1 l (ns.map V.int) ∨ SqT K H1 l (ns.map V.int)) ∧ ns.length ≤ 4000 ∧ Q (.int ((uniqL ns).length : Nat)) H1
theorem pe_lenAny {a : Expr} {ta : TE} {p p2 q pos : Pos} (hc : X.calm = true) (hg : Gl X "len") (hm : X.mg "len" = none) (hg2 : Gl X "set") (hm2 : X.mg "set" = none) (ha : PE X a ta)
    (na : starEach [a] X.env = (false, eval a X.env) :: starEach [] X.env) : PE X (.Call (.Name "len" p) [.Call (.Name "set" p2) [a] [] q] [] pos) (tLenAny X.K ta) := by
  refine ⟨fun pins s σ H Q I h => ?_⟩
  refine Call_ (ld_blt I hg hm PySem.boot_len ?_)
  refine PyProof.Rows.callWith_builtin1 (PyProof.Rows.args_cons ?_ rfl) rfl rfl
  refine Call_ (ld_blt I hg2 hm2 PyProof.Rows.boot_set ?_)
  refine PyProof.Rows.callWith_type1 (PyProof.Rows.args_cons (thn (ha.run pins s σ H _ I h) fun v s1 ⟨x, H1, I1, r1, q1⟩ => PyProof.Rows.args_nil ?_) na) na rfl
  obtain ⟨l, ns, rfl, hq, h1, q1⟩ := q1
  cases r1
  rcases hq with hq | hq
  · obtain ⟨its, r, pl, hz⟩ := I1.list hq
    have hl : its.toArray.size = ns.length := by rw [List.size_toArray, ← r.length, List.length_map]
    refine call_set_list (I1.ok.hd hc) pl.isList (ns := ns) (by simpa using r.ints) (by unfold scanBound; omega) fun h' tk hS hk => ?_
    rw [hl] at hS
    refine PyProof.Rows.args_nil ?_
    obtain ⟨o, es, ep, t, ho, hex, hd, _, _, _, hf, hn⟩ := hS
    rw [firstMet_uniq] at hn
    have hle : (uniqL ns).length ≤ ns.length := (uniqL_nodup ns).length_le_of_subset fun x hx => (uniqL_mem ns x).mp hx
    have I2 : Inv X pins σ H1 { s1 with heap := h', toks := tk } := I1.kept fun b o e => hk b o (Heap.lt_size e) e
    exact call_len_set ho hex hd hf (by rw [hn] <;> omega) ⟨.int (uniqL ns).length, H1, I2.tok _, ⟨_, by rw [hn]⟩, q1⟩
  · obtain ⟨its, r, pl, hz⟩ := I1.tuple hq
    have hl : its.toArray.size = ns.length := by rw [List.size_toArray, ← r.length, List.length_map]
    refine call_set_tupI (w := X.w) ns (I1.ok.hd hc) pl (by simpa using r.ints) (by unfold scanBound; omega) fun h' tk c hS hcn hk => ?_
    refine PyProof.Rows.args_nil ?_
    obtain ⟨o, es, ep, t, ho, hex, hd, _, hnd, hmem, _, hf, hn, _⟩ := hS
    have e : es.size = (uniqL ns).length := by
      have := uniq_len (xs := ns) hnd fun x => (hmem x).symm.trans (by simp)
      rw [List.length_map, Array.length_toList] at this
      exact this
    have I2 : Inv X pins σ H1 { s1 with heap := h', toks := tk } := I1.kept fun b o e => hk b o e
    exact call_len_set ho hex hd hf (by rw [hn] <;> omega) ⟨.int (uniqL ns).length, H1, I2.tok _, ⟨_, by rw [e]⟩, q1⟩
theorem blt1_eq (f : BF) (g : D → M RV) (hf : f ≠ .len) (h : ∀ x, bfD f [x] = g x) (Φ : Str → List Vv → M RV) (z : E) : (ev Φ (.blt f [z])) = fun env => bnd (ev Φ z env) fun r => asD r g := by
  funext env
  show bnd (bnd (ev Φ z env) fun r => bnd (ret []) fun rs => ret (r :: rs)) (fun rs => bfM f rs) = _
  rw [bnd_assoc]
  congr 1
  funext r
  show bfM f [r] = asD r g
  have e : bfM f [r] = match dats [r] with
    | some ds => bfD f ds
    | none => stk := by
    unfold bfM
    split
    · exact absurd rfl hf
    · rfl
  rw [e]
  unfold asD
  show (match (match r.dat, dats [] with
    | some x, some xs => some (x :: xs)
    | _, _ => none) with
    | some ds => bfD f ds
    | none => stk) = _
  cases r.dat with
  | none => rfl
  | some x => exact h x
theorem pe_lenSetM {a : Expr} {p p2 q pos : Pos} {m : Env → M RV} (hc : X.calm = true) (hg : Gl X "len") (hm : X.mg "len" = none) (hg2 : Gl X "set") (hm2 : X.mg "set" = none) (ha : PE X a (tE X.K m W)) (na : isStarE a = false) :
    PE X (.Call (.Name "len" p) [.Call (.Name "set" p2) [a] [] q] [] pos) (tE X.K (fun env => bnd (m env) fun r => asD r lenSetM) W) := pe_imp (pe_lenAny hc hg hm hg2 hm2 ha (star_cons na)) fun σ H Q ⟨B, env, tp, t, R, w⟩ => by
  refine tE_step R w (fun _ _ q => q) fun r t1 v H1 R1 o1 w1 => ?_
  obtain ⟨d, ed, w1⟩ := wpm_asD w1
  have rx := o1.rd R1 ed
  unfold lenSetM at w1
  split at w1 <;> first | exact wpm_stk w1 | skip
  · split at w1 <;> first | exact wpm_stk w1 | skip
    rename_i ns e
    obtain ⟨hz, w1⟩ := wpm_guard w1
    obtain ⟨p, vs, rfl, h1, h2⟩ := rd_tup rx
    rw [reps_ints h2 e] at h1
    exact ⟨p, ns, rfl, .inr (.of (hide_same _ _ _ _ h1)), of_decide_eq_true hz, w1 _ _ (post_d R1 (.int _))⟩
  · split at w1 <;> first | exact wpm_stk w1 | skip
    rename_i ns e
    obtain ⟨hz, w1⟩ := wpm_guard w1
    obtain ⟨p, vs, rfl, h1, h2⟩ := rx
    rw [reps_ints h2 e] at h1
    exact ⟨p, ns, rfl, .inl (.of h1), of_decide_eq_true hz, w1 _ _ (post_d R1 (.int _))⟩
theorem pe_sortedSetM {a : Expr} {p p2 q pos : Pos} {m : Env → M RV} (hc : X.calm = true) (hu : X.A.units + 64 < cLine) (hg : Gl X "sorted") (hm : X.mg "sorted" = none) (hg2 : Gl X "set") (hm2 : X.mg "set" = none) (ha : PE X a (tE X.K m W)) (na : isStarE a = false) :
    PE X (.Call (.Name "sorted" p) [.Call (.Name "set" p2) [a] [] q] [] pos) (tE X.K (fun env => bnd (m env) fun r => asD r sortedSetM) W) :=
  pe_imp (pe_callB (cr_sortedT hc) hg hm (by decide +kernel) (pa_cons (pe_callTy (cr_setOfT hc hu) hg2 hm2 (by decide +kernel) (pa_cons ha pa_nil (star_cons na)) (by decide) (by decide) (star_cons na) (by rfl)) pa_nil (by rfl)) (by decide) (by decide) (by rfl) (by rfl)) fun σ H Q ⟨B, env, tp, t, R, w⟩ => by
  refine tE_step R w (fun _ _ q => q) fun r t1 v H1 R1 o1 w1 => ?_
  obtain ⟨d, ed, w1⟩ := wpm_asD w1
  have rx := o1.rd R1 ed
  unfold sortedSetM at w1
  split at w1 <;> first | exact wpm_stk w1 | skip
  split at w1 <;> first | exact wpm_stk w1 | skip
  rename_i ks e
  obtain ⟨hz, w1⟩ := wpm_guard w1
  obtain ⟨h64, d, hd, hb⟩ := tupOk_of hz
  obtain ⟨p, vs, rfl, h1, h2⟩ := rx
  obtain ⟨ps, rfl, rfl, h3⟩ := reps_tups h2 e
  have hin : ∀ p ∈ ps, H1 p.1 = some (.tup (p.2.map V.int)) := fun p hp => hide_same _ _ _ _ (h3 p hp)
  refine ⟨p, ps, rfl, .of h1, fun p hp => .of (hin p hp), by simpa using h64, fun a L hn hL hA => ?_⟩
  have R2 := R1.alloc (p := a) (o := SetTO X.prog X.w a L) hn
  have na : ∀ q ∈ L, q.1 ≠ a := fun q hq z => by
    have := hin q (hL q hq)
    rw [z, hn] at this
    cases this
  refine ⟨a, L, d, 64, rfl, upd_same, fun q hq => .of (by rw [upd_ne (na q hq)]; exact hin q (hL q hq)), hd, fun q hq => hb q.2 (List.mem_map.mpr ⟨q, hL q hq, rfl⟩), fun L' l hp hnd _ hs hl => ?_⟩
  have hq3 : ∀ q ∈ L', fz σ env tp (upd H1 a (SetTO X.prog X.w a L)) q.1 = some (.tup (q.2.map V.int)) := fun q hq => fz_upd hn _ _ (h3 q (hL q (hp.mem_iff.mp hq)))
  refine w1 _ _ (post_lst R2 hl ?_)
  have pm : (L'.map (·.2)).Perm (uniqL (ps.map (·.2))) := uniq_perm hnd fun x => by
    constructor
    · intro hx
      obtain ⟨q, hq, rfl⟩ := List.mem_map.mp hx
      exact List.mem_map.mpr ⟨q, hL q (hp.mem_iff.mp hq), rfl⟩
    · intro hx
      obtain ⟨q, hq, rfl⟩ := List.mem_map.mp hx
      obtain ⟨q', hq', e'⟩ := List.mem_map.mp (hA q hq)
      exact List.mem_map.mpr ⟨q', hp.mem_iff.mpr hq', e'⟩
  have pw : (L'.map (·.2)).Pairwise LeT := by
    rw [List.pairwise_map]
    refine List.Pairwise.imp_of_mem (fun {a b} ha hb' q => ?_) hs
    have a1 := hb a.2 (List.mem_map.mpr ⟨a, hL a (hp.mem_iff.mp ha), rfl⟩)
    have b1 := hb b.2 (List.mem_map.mpr ⟨b, hL b (hp.mem_iff.mp hb'), rfl⟩)
    exact code_leT (a1.1.trans b1.1.symm) a1.2 b1.2 q
  rw [← sortT_uni pm pw]
  exact reps_tupD hq3
theorem pe_bltM {x : Str} {n : Nat} {f : BF} {e : Expr} {es : List Expr} {p pos : Pos} {ms : Env → M (List RV)} (h : bfOf x n = some f) (hc : X.calm = true) (free : ∀ b ∈ bltNames, X.mg b = none) (hg : Gl X x)
    (ha : PA X (e :: es) (tAr X.K ms W)) (na : ((e :: es).all fun e => !isStarE e) = true) : PE X (.Call (.Name x p) (e :: es) [] pos) (tE X.K (fun env => bnd (ms env) fun rs => bfM f rs) W) := by
  have na : isStarE e = false ∧ (es.all fun e => !isStarE e) = true := by
    rw [List.all_cons, Bool.and_eq_true] at na
    exact ⟨by cases q : isStarE e <;> simp [q] at na ⊢, na.2⟩
  unfold bfOf at h
  by_cases z : x = "len" ∧ n = 1
  · rw [if_pos z] at h; cases h; obtain ⟨rfl, _⟩ := z
    exact pe_blt1 call_len len_a hg (free _ (by decide)) (by decide +kernel) (by decide) (by decide) ha na
  rw [if_neg z] at h; clear z
  by_cases z : x = "abs" ∧ n = 1
  · rw [if_pos z] at h; cases h; obtain ⟨rfl, _⟩ := z
    exact pe_blt1 call_abs (srvA_f (by decide) abs_d) hg (free _ (by decide)) (by decide +kernel) (by decide) (by decide) ha na
  rw [if_neg z] at h; clear z
  by_cases z : x = "sum" ∧ n = 1
  · rw [if_pos z] at h; cases h; obtain ⟨rfl, _⟩ := z
    exact pe_blt1 (cr_sum hc) (srvA_f (by decide) sum_d) hg (free _ (by decide)) (by decide +kernel) (by decide) (by decide) ha na
  rw [if_neg z] at h; clear z
  by_cases z : x = "max" ∧ n = 1
  · rw [if_pos z] at h; cases h; obtain ⟨rfl, _⟩ := z
    exact pe_blt1 (cr_max hc) (srvA_f (by decide) max1_d) hg (free _ (by decide)) (by decide +kernel) (by decide) (by decide) ha na
  rw [if_neg z] at h; clear z
  by_cases z : x = "min" ∧ n = 2
  · rw [if_pos z] at h; cases h; obtain ⟨rfl, _⟩ := z
    exact pe_blt1 (call_min2 hc) (srvA_f (by decide) min2_d) hg (free _ (by decide)) (by decide +kernel) (by decide) (by decide) ha na
  rw [if_neg z] at h; clear z
  by_cases z : x = "max" ∧ n = 2
  · rw [if_pos z] at h; cases h; obtain ⟨rfl, _⟩ := z
    exact pe_blt1 (call_max2 hc) (srvA_f (by decide) max2_d) hg (free _ (by decide)) (by decide +kernel) (by decide) (by decide) ha na
  rw [if_neg z] at h; clear z
  by_cases z : x = "min" ∧ n = 3
  · rw [if_pos z] at h; cases h; obtain ⟨rfl, _⟩ := z
    exact pe_blt1 (call_min3Nu hc) (srvA_f (by decide) min3_d) hg (free _ (by decide)) (by decide +kernel) (by decide) (by decide) ha na
  rw [if_neg z] at h; clear z
  by_cases z : x = "tuple" ∧ n = 1
  · rw [if_pos z] at h; cases h; obtain ⟨rfl, _⟩ := z
    exact pe_blt2 call_tuple_of (srvA_f (by decide) tuple_d) hg (free _ (by decide)) (by decide +kernel) (by decide) (by decide) ha na
  rw [if_neg z] at h; clear z
  by_cases z : x = "list" ∧ n = 1
  · rw [if_pos z] at h; cases h; obtain ⟨rfl, _⟩ := z
    exact pe_blt2 call_list_of (srvA_f (by decide) list_d) hg (free _ (by decide)) (by decide +kernel) (by decide) (by decide) ha na
  rw [if_neg z] at h; clear z
  by_cases z : x = "int" ∧ n = 1
  · rw [if_pos z] at h; cases h; obtain ⟨rfl, _⟩ := z
    exact pe_blt2 (call_int1.or call_int_str) (srvA_f (by decide) int_d) hg (free _ (by decide)) (by decide +kernel) (by decide) (by decide) ha na
  rw [if_neg z] at h; clear z
  by_cases z : x = "sorted" ∧ n = 1
  · rw [if_pos z] at h; cases h; obtain ⟨rfl, _⟩ := z
    exact pe_blt1 cr_sortedP (srvA_f (by decide) sorted_d) hg (free _ (by decide)) (by decide +kernel) (by decide) (by decide) ha na
  rw [if_neg z] at h
  cases h

end
end Pv
/-! Pv16: every expression's code is sound. -/
namespace Pv
open PySem PySem.Spec PyProof.Rows L2
structure SndE (Φ : Str → List Vv → M RV) (G : GS) (ca : Str → Addr) (n : Nat) : Prop where
  e : ∀ {X : Cx} {S : SC} {W : WN}, Cn S X → Gd Φ G ca X → Takes X (wx ca W) → ∀ (e : Expr) (c : E), compE G S n e = some c → PE X e (tE X.K (ev Φ c) W)
  t : ∀ {X : Cx} {S : SC} {W : WN}, Cn S X → Gd Φ G ca X → Takes X (wx ca W) → ∀ (e : Expr) (c : E), isIfE e = false → compE G S n e = some c → PT X e (tT X.K (fun env => bnd (ev Φ c env) truR) W)
  es : ∀ {X : Cx} {S : SC} {W : WN}, Cn S X → Gd Φ G ca X → Takes X (wx ca W) → ∀ (es : List Expr) (cs : List E), compEs G S n es = some cs → PA X es (tAr X.K (evs Φ cs) W) ∧ (es.all fun e => !isStarE e) = true
  o : ∀ {X : Cx} {S : SC} {W : WN}, Cn S X → Gd Φ G ca X → Takes X (wx ca W) → ∀ (o : Option Expr) (c : Option E), compO G S n o = some c → PO X o (tOo X.K (evo Φ c) W)
  b : ∀ {X : Cx} {S : SC} {W : WN}, Cn S X → Gd Φ G ca X → Takes X (wx ca W) → ∀ (op : BoolOp) (es : List Expr) (c : E) (pos : Pos), compB G S n op es = some c → PE X (.BoolOp op es pos) (tE X.K (ev Φ c) W) ∧ PW X (.BoolOp op es pos) (tT X.K (fun env => bnd (ev Φ c env) truR) W)
  c : ∀ {X : Cx} {S : SC} {W : WN}, Cn S X → Gd Φ G ca X → Takes X (wx ca W) → ∀ (x : Str) (es : List Expr) (c : E) (p pos : Pos), glB S.sc x = true → compC G S n x es = some c → PE X (.Call (.Name x p) es [] pos) (tE X.K (ev Φ c) W)
  i : ∀ {X : Cx} {S : SC} {W : WN}, Cn S X → Gd Φ G ca X → Takes X (wx ca W) → ∀ (tg e : Expr) (c : I), compI G S n e = some c → (needsTup c = true → isTupE tg = true) → PI X tg e (tI X.K (evi Φ c) W) ∧ isSetE e = false
theorem Gd.blk {Φ : Str → List Vv → M RV} {G : GS} {ca : Str → Addr} {X : Cx} (D : Gd Φ G ca X) {s : Shared} {H : Hp} {scope : Scope} {env : PySem.Env} {fp : List Addr} : Gd Φ G ca (X.blk s H scope env fp) := ⟨D.calm, D.hu, D.free, D.cns, D.fns⟩
theorem Cn.blk {S : SC} {X : Cx} (C : Cn S X) {s : Shared} {H : Hp} {scope : Scope} {cl : List (Str × Addr)} {Ca : Addr} {fp : List Addr} : Cn (S.blk scope) (X.blk s H scope (compEnvC scope cl Ca X.env) fp) := ⟨C.hN, by show _ = relS scope S.sc; rw [← C.hS]; rfl, C.nd⟩
theorem blk_takes {X : Cx} {ca : Str → Addr} {s : Shared} {H : Hp} {scope : Scope} {env : PySem.Env} {fp : List Addr} : Takes (X.blk s H scope env fp) (wx ca WF) := fun u s' ⟨_, _, _, _, _, _, _, _, _, _, _, _, _, _, _, _, w⟩ => by
  obtain ⟨x, _, _, w⟩ := w
  exact w.elim
theorem ownL_spec {N : List Str} : ∀ {xs : List Str} {own : List (Str × Nat)}, ownL? N xs = some own → ∀ x ∈ xs, ∃ i, idx x N = some i ∧ (x, i) ∈ own
  | [], _, _, x, hx => nomatch hx
  | y :: ys, own, h, x, hx => by
    unfold ownL? at h
    split at h <;> first | (cases h; done) | skip
    rename_i i r e1 e2
    cases h
    rcases List.mem_cons.mp hx with rfl | hx
    · exact ⟨i, e1, List.mem_cons_self⟩
    · obtain ⟨j, h1, h2⟩ := ownL_spec e2 x hx
      exact ⟨j, h1, List.mem_cons_of_mem _ h2⟩
mutual
theorem tN_own {S : SC} {own : List (Str × Nat)} : ∀ (e : Expr) (t : T), compT S e = some t → (∀ x ∈ tgN e, ∃ i, idx x S.N = some i ∧ (x, i) ∈ own) → ∀ i ∈ tN t, i ∈ own.map (·.2)
  | .Name x p, t, h, hx, i, hi => by
    unfold compT at h
    split at h <;> first | (cases h; done) | skip
    obtain ⟨j, hj, rfl⟩ := Option.map_eq_some_iff.mp h
    obtain ⟨k, h1, h2⟩ := hx x (by simp [tgN])
    rw [hj] at h1
    cases h1
    have : i = j := by simpa [tN] using hi
    subst this
    exact List.mem_map.mpr ⟨_, h2, rfl⟩
  | .Tuple es k p, t, h, hx, i, hi => by
    unfold compT at h
    obtain ⟨ts, hts, rfl⟩ := Option.map_eq_some_iff.mp h
    exact tNs_own es ts hts hx i hi
  | .Constant .., _, h, _, _, _ => by cases h
  | .BoolOp .., _, h, _, _, _ => by cases h
  | .NamedExpr .., _, h, _, _, _ => by cases h
  | .BinOp .., _, h, _, _, _ => by cases h
  | .UnaryOp .., _, h, _, _, _ => by cases h
  | .Lambda .., _, h, _, _, _ => by cases h
  | .IfExp .., _, h, _, _, _ => by cases h
  | .Dict .., _, h, _, _, _ => by cases h
  | .Set .., _, h, _, _, _ => by cases h
  | .ListComp .., _, h, _, _, _ => by cases h
  | .SetComp .., _, h, _, _, _ => by cases h
  | .DictComp .., _, h, _, _, _ => by cases h
  | .GeneratorExp .., _, h, _, _, _ => by cases h
  | .Await .., _, h, _, _, _ => by cases h
  | .Yield .., _, h, _, _, _ => by cases h
  | .YieldFrom .., _, h, _, _, _ => by cases h
  | .Compare .., _, h, _, _, _ => by cases h
  | .Call .., _, h, _, _, _ => by cases h
  | .FormattedValue .., _, h, _, _, _ => by cases h
  | .JoinedStr .., _, h, _, _, _ => by cases h
  | .Attribute .., _, h, _, _, _ => by cases h
  | .Subscript .., _, h, _, _, _ => by cases h
  | .Starred .., _, h, _, _, _ => by cases h
  | .List .., _, h, _, _, _ => by cases h
  | .Slice .., _, h, _, _, _ => by cases h
theorem tNs_own {S : SC} {own : List (Str × Nat)} : ∀ (es : List Expr) (ts : List T), compTs S es = some ts → (∀ x ∈ tgNs es, ∃ i, idx x S.N = some i ∧ (x, i) ∈ own) → ∀ i ∈ tNs ts, i ∈ own.map (·.2)
  | [], ts, h, _, i, hi => by cases h; exact nomatch hi
  | e :: es, ts, h, hx, i, hi => by
    unfold compTs at h
    split at h <;> first | (cases h; done) | skip
    rename_i t ts' e1 e2 e3
    cases h
    unfold tNs at hi
    rcases List.mem_append.mp hi with hi | hi
    · exact tN_own e t e2 (fun x q => hx x (by unfold tgNs; exact List.mem_append_left _ q)) i hi
    · exact tNs_own es ts' e3 (fun x q => hx x (by unfold tgNs; exact List.mem_append_right _ q)) i hi
end
section
variable {Φ : Str → List Vv → M RV} {G : GS} {ca : Str → Addr} {n : Nat}
theorem snd_es (P : SndE Φ G ca n) {X : Cx} {S : SC} {W : WN} (C : Cn S X) (D : Gd Φ G ca X) (tk : Takes X (wx ca W)) (es : List Expr) (cs : List E) (h : compEs G S (n + 1) es = some cs) : PA X es (tAr X.K (evs Φ cs) W) ∧ (es.all fun e => !isStarE e) = true := by
  cases es with
  | nil => cases h; exact ⟨pa_nilM, rfl⟩
  | cons e es =>
    unfold compEs at h
    split at h <;> first | (cases h; done) | skip
    rename_i x xs e1 e2 e3
    cases h
    obtain ⟨h1, h2⟩ := P.es C D tk es xs e3
    exact ⟨pa_consM (P.e C D tk e x e2) h1 e1, by rw [List.all_cons, e1, h2]; rfl⟩
theorem snd_o (P : SndE Φ G ca n) {X : Cx} {S : SC} {W : WN} (C : Cn S X) (D : Gd Φ G ca X) (tk : Takes X (wx ca W)) (o : Option Expr) (c : Option E) (h : compO G S (n + 1) o = some c) : PO X o (tOo X.K (evo Φ c) W) := by
  cases o with
  | none => cases h; exact po_noneM
  | some e =>
    unfold compO at h
    obtain ⟨x, hx, rfl⟩ := Option.map_eq_some_iff.mp h
    exact po_someM (P.e C D tk e x hx)
theorem snd_b (P : SndE Φ G ca n) {X : Cx} {S : SC} {W : WN} (C : Cn S X) (D : Gd Φ G ca X) (tk : Takes X (wx ca W)) (op : BoolOp) (es : List Expr) (c : E) (pos : Pos) (h : compB G S (n + 1) op es = some c) :
    PE X (.BoolOp op es pos) (tE X.K (ev Φ c) W) ∧ PW X (.BoolOp op es pos) (tT X.K (fun env => bnd (ev Φ c env) truR) W) := by
  match es with
  | [] => cases h
  | [e] =>
    unfold compB at h
    split at h <;> first | (cases h; done) | skip
    rename_i e1
    have e1 : isIfE e = false := by cases q : isIfE e <;> simp [q] at e1 ⊢
    refine ⟨pe_one (P.e C D tk e c h), ?_⟩
    cases op with
    | And => exact pw_and1 (P.t C D tk e c e1 h)
    | Or => exact pw_or1 (P.t C D tk e c e1 h)
  | e :: e' :: es =>
    unfold compB at h
    split at h <;> first | (cases h; done) | skip
    · rename_i x y e1 e2 e3
      cases h
      obtain ⟨h1, h2⟩ := P.b C D tk .And (e' :: es) y pos e3
      exact ⟨pe_andM (P.e C D tk e x e2) h1, pw_andM (P.t C D tk e x e1 e2) h2⟩
    · rename_i x y e1 e2 e3
      cases h
      obtain ⟨h1, h2⟩ := P.b C D tk .Or (e' :: es) y pos e3
      exact ⟨pe_orM (P.e C D tk e x e2) h1, pw_orM (P.t C D tk e x e1 e2) h2⟩
theorem bfOf_pos {x : Str} {f : BF} (h : bfOf x 0 = some f) : False := by
  unfold bfOf at h
  simp at h
theorem snd_blt (P : SndE Φ G ca n) {X : Cx} {S : SC} {W : WN} (C : Cn S X) (D : Gd Φ G ca X) (tk : Takes X (wx ca W)) {x : Str} {es : List Expr} {c : E} {p pos : Pos} (hg : glB S.sc x = true)
    (h : (match bfOf x es.length, compEs G S n es with
        | some f, some ys => some (.blt f ys)
        | _, _ => none) = some c) : PE X (.Call (.Name x p) es [] pos) (tE X.K (ev Φ c) W) := by
  split at h <;> first | (cases h; done) | skip
  rename_i f ys e1 e2
  cases h
  obtain ⟨h1, h2⟩ := P.es C D tk es ys e2
  cases es with
  | nil => exact (bfOf_pos e1).elim
  | cons e es => exact pe_bltM e1 D.calm D.free (C.gl hg) h1 h2
theorem snd_c (P : SndE Φ G ca n) {X : Cx} {S : SC} {W : WN} (C : Cn S X) (D : Gd Φ G ca X) (tk : Takes X (wx ca W)) (x : Str) (es : List Expr) (c : E) (p pos : Pos) (hg : glB S.sc x = true) (h : compC G S (n + 1) x es = some c) :
    PE X (.Call (.Name x p) es [] pos) (tE X.K (ev Φ c) W) := by
  unfold compC at h
  split at h
  · rename_i hf
    split at h <;> first | (cases h; done) | skip
    rename_i he
    obtain ⟨cs, hcs, rfl⟩ := Option.map_eq_some_iff.mp h
    obtain ⟨h1, h2⟩ := P.es C D tk es cs hcs
    cases es with
    | nil => exact absurd rfl he
    | cons e es => exact pe_callM D tk (C.gl hg) (gl_of hg).2 hf h1 h2
  · split at h
    · rename_i y p2 a q
      split at h
      · rename_i z
        obtain ⟨z1, z2, rfl, rfl⟩ := z
        obtain ⟨c', hc', rfl⟩ := Option.map_eq_some_iff.mp h
        rw [blt1_eq .lenSet lenSetM (by decide) (fun _ => rfl)]
        exact pe_lenSetM D.calm (C.gl hg) (D.free _ (by decide)) (C.gl z1) (D.free _ (by decide)) (P.e C D tk a c' hc') z2
      split at h
      · rename_i z
        obtain ⟨z1, z2, rfl, rfl⟩ := z
        obtain ⟨c', hc', rfl⟩ := Option.map_eq_some_iff.mp h
        rw [blt1_eq .sortedSet sortedSetM (by decide) (fun _ => rfl)]
        exact pe_sortedSetM D.calm (by have := D.hu; omega) (C.gl hg) (D.free _ (by decide)) (C.gl z1) (D.free _ (by decide)) (P.e C D tk a c' hc') z2
      split at h
      · rename_i z
        obtain ⟨z1, z2, rfl, rfl⟩ := z
        obtain ⟨c', hc', rfl⟩ := Option.map_eq_some_iff.mp h
        exact pe_rngl D.calm (C.gl hg) (D.free _ (by decide)) (C.gl z1) (D.free _ (by decide)) (P.e C D tk a c' hc') z2
      split at h
      · rename_i z
        obtain ⟨z1, z2, rfl, rfl⟩ := z
        obtain ⟨c', hc', rfl⟩ := Option.map_eq_some_iff.mp h
        exact pe_rngt D.calm (C.gl hg) (D.free _ (by decide)) (C.gl z1) (D.free _ (by decide)) (P.e C D tk a c' hc') z2
      · exact snd_blt P C D tk hg h
    · rename_i a t p2
      split at h
      · rename_i z
        obtain ⟨rfl, z2⟩ := z
        split at h <;> first | (cases h; done) | skip
        rename_i ty c' e1 e2 e3
        cases h
        have hty : X.mg t = none := by
          refine D.free _ ?_
          unfold tyOf at e1
          by_cases q1 : t = "int"
          · subst q1; decide
          by_cases q2 : t = "bool"
          · subst q2; decide
          by_cases q3 : t = "tuple"
          · subst q3; decide
          by_cases q4 : t = "list"
          · subst q4; decide
          by_cases q5 : t = "str"
          · subst q5; decide
          rw [if_neg q1, if_neg q2, if_neg q3, if_neg q4, if_neg q5] at e1
          cases e1
        exact pe_isi e1 (C.gl hg) (D.free _ (by decide)) (C.gl z2) hty (P.e C D tk a c' e3) e2
      · exact snd_blt P C D tk hg h
    · exact snd_blt P C D tk hg h
theorem snd_i (P : SndE Φ G ca n) {X : Cx} {S : SC} {W : WN} (C : Cn S X) (D : Gd Φ G ca X) (tk : Takes X (wx ca W)) (tg e : Expr) (c : I) (h : compI G S (n + 1) e = some c) (ht : needsTup c = true → isTupE tg = true) : PI X tg e (tI X.K (evi Φ c) W) ∧ isSetE e = false := by
  have sq : isSetE e = false → (compE G S n e).map I.seq = some c → PI X tg e (tI X.K (evi Φ c) W) ∧ isSetE e = false := fun hs q => by
    obtain ⟨c', hc', rfl⟩ := Option.map_eq_some_iff.mp q
    exact ⟨pi_seqM (P.e C D tk e c' hc'), hs⟩
  have ns : ∀ {a : Expr}, ¬ isStarE a = true → isStarE a = false := fun {a} h => by cases q : isStarE a <;> simp [q] at h ⊢
  unfold compI at h
  split at h
  · rename_i x p args pos
    split at h
    · rename_i z
      obtain ⟨z1, rfl⟩ := z
      split at h
      · rename_i a
        split at h
        · cases h
        rename_i na
        obtain ⟨c', hc', rfl⟩ := Option.map_eq_some_iff.mp h
        exact ⟨pi_rng1M (C.gl z1) (D.free _ (by decide)) (P.e C D tk a c' hc') (ns na), rfl⟩
      · rename_i a b
        split at h <;> first | (cases h; done) | skip
        rename_i y z e1 e2 e3 e4
        cases h
        exact ⟨pi_rng2M (C.gl z1) (D.free _ (by decide)) (P.e C D tk a y e3) (P.e C D tk b z e4) e1 e2, rfl⟩
      · cases h
    split at h
    · rename_i z
      obtain ⟨z1, rfl⟩ := z
      split at h
      · rename_i a
        split at h
        · cases h
        rename_i na
        obtain ⟨c', hc', rfl⟩ := Option.map_eq_some_iff.mp h
        have ht := ht rfl
        cases tg <;> first | (cases ht; done) | skip
        exact ⟨pi_enumM (C.gl z1) (D.free _ (by decide)) (P.e C D tk a c' hc') (ns na), rfl⟩
      · cases h
    split at h
    · rename_i z
      obtain ⟨z1, rfl⟩ := z
      split at h
      · rename_i a b
        split at h <;> first | (cases h; done) | skip
        rename_i y z e1 e2 e3 e4
        cases h
        have ht := ht rfl
        cases tg <;> first | (cases ht; done) | skip
        exact ⟨pi_zipM (C.gl z1) (D.free _ (by decide)) (P.e C D tk a y e3) (P.e C D tk b z e4) e1 e2, rfl⟩
      · cases h
    · exact sq rfl h
  · cases h
  · rename_i _ ns
    refine sq ?_ h
    cases e <;> first | rfl | exact absurd rfl (ns _ _ _)

theorem snd_e (P : SndE Φ G ca n) {X : Cx} {S : SC} {W : WN} (C : Cn S X) (D : Gd Φ G ca X) (tk : Takes X (wx ca W)) (e : Expr) (c : E) (h : compE G S (n + 1) e = some c) : PE X e (tE X.K (ev Φ c) W) := by
  have nif : ∀ {a : Expr}, ¬ isIfE a = true → isIfE a = false := fun {a} h => by cases q : isIfE a <;> simp [q] at h ⊢
  unfold compE at h
  split at h
  · cases h; exact pe_const pe_non fun _ => .non
  · cases h; exact pe_const pe_bl fun _ => .bl _
  · cases h; exact pe_const pe_int fun _ => .int _
  · cases h; exact pe_const pe_str fun _ => .str _
  · rename_i x p
    split at h
    · rename_i hv
      obtain ⟨i, hi, h⟩ := Option.map_eq_some_iff.mp h
      split at h
      · subst h; exact pe_slot C hv hi
      · subst h; exact pe_slot C hv hi
    split at h
    · rename_i hg
      obtain ⟨i, hi, rfl⟩ := Option.map_eq_some_iff.mp h
      obtain ⟨t, ht⟩ := D.cns x i hi
      exact pe_const (pe_glob (v := .int i) (C.gl hg) ht ⟨t, rfl⟩ (gl_of hg).2) fun _ => .int _
    · cases h
  · rename_i es k p
    obtain ⟨cs, hcs, rfl⟩ := Option.map_eq_some_iff.mp h
    exact pe_tupM (P.es C D tk es cs hcs).1
  · rename_i es p
    obtain ⟨cs, hcs, rfl⟩ := Option.map_eq_some_iff.mp h
    exact pe_lstM (P.es C D tk es cs hcs).1
  · rename_i a op b p
    split at h <;> first | (cases h; done) | skip
    rename_i o x y e1 e2 e3
    cases h
    obtain ⟨r, h1, h2⟩ := op_bin (X := X) e1
    exact pe_imp (pe_op h1 (P.e C D tk a x e2) (P.e C D tk b y e3)) fun σ H Q q => tOp_of h2 q
  · rename_i a p
    obtain ⟨c', hc', rfl⟩ := Option.map_eq_some_iff.mp h
    exact pe_negM (P.e C D tk a c' hc')
  · rename_i a p
    split at h
    · cases h
    obtain ⟨c', hc', rfl⟩ := Option.map_eq_some_iff.mp h
    exact pe_notM (P.e C D tk a c' hc')
  · rename_i op vs p
    exact (P.b C D tk op vs c p h).1
  · rename_i a op b p
    split at h <;> first | (cases h; done) | skip
    rename_i o x y e1 e2 e3 e4
    cases h
    exact pe_cmpM D.hu e1 (P.e C D tk a x e2) (P.e C D tk b y e3) e4
  · rename_i a op op' b c' p
    split at h <;> first | (cases h; done) | skip
    rename_i o o' x y z e1 e2 e3 e4 e5 e6
    cases h
    exact pe_chainM D.hu e1 e2 (P.e C D tk a x e3) (P.e C D tk b y e4) (P.e C D tk c' z e5) e6
  · rename_i c' a b p
    split at h <;> first | (cases h; done) | skip
    rename_i z x y e1 e2 e3 e4
    cases h
    exact pe_ifxM (P.t C D tk c' z e1 e2) (P.e C D tk a x e3) (P.e C D tk b y e4)
  · rename_i a k p1 p2 p3 p4
    obtain ⟨c', hc', rfl⟩ := Option.map_eq_some_iff.mp h
    exact pe_revM (P.e C D tk a c' hc')
  · rename_i a lo hi p2 p
    split at h <;> first | (cases h; done) | skip
    rename_i x l r e1 e2 e3
    cases h
    exact pe_sliceM (P.e C D tk a x e1) (P.o C D tk lo l e2) (P.o C D tk hi r e3)
  · rename_i a b p _ _
    split at h <;> first | (cases h; done) | skip
    rename_i x y e1 e2 e3
    cases h
    exact pe_ixM (P.e C D tk a x e2) (P.e C D tk b y e3) e1
  · rename_i x p args pos
    split at h
    · rename_i hg
      exact P.c C D tk x args c p pos hg h
    · cases h
  · split at h
    · cases h
    · cases h
  · rename_i elt tg it ifs scope p
    split at h
    · rename_i own ho
      split at h
      · rename_i hb
        rw [Bool.and_eq_true] at hb
        split at h <;> first | (cases h; done) | skip
        rename_i t i x e1 e2 e3
        split at h
        · cases h
        rename_i hnt
        have hnt : needsTup i = true → isTupE tg = true := fun q => by
          cases q' : isTupE tg with
          | true => rfl
          | false => exact absurd (by rw [q, q']; rfl) hnt
        obtain ⟨hi, hs⟩ := P.i C D tk tg it i e2 hnt
        have hv : ∀ j ∈ tN t, j ∈ own.map (·.2) := tN_own (S := S.blk scope) tg t e1 (ownL_spec ho)
        have ok : BlkOk X.N X.env.scope scope own := by rw [C.hN, C.hS]; exact blkOk_by hb.1
        have hN : X.N.Nodup := by rw [C.hN]; exact C.nd
        have hg : ∀ (s : Shared) (H : Hp) (Ca : Addr) (cl : List (Str × Addr)) (fp : List Addr), PG (X.blk s H scope (compEnvC scope cl Ca X.env) fp) tg (gT X.K t) := fun s H Ca cl fp => pg_T C.blk D.calm tg t e1 fun z hz => by
          have q := List.all_eq_true.mp hb.2 z hz
          rcases loc_of q with q | q
          · refine .inr ?_
            show (relS scope X.env.scope).names.lookup z = some .local
            exact lookup_relS_keep (by decide) q
          · refine .inl ?_
            show (scope.names.lookup z == some .cell) = true
            rw [q]; rfl
        have he : ∀ (s : Shared) (H : Hp) (Ca : Addr) (cl : List (Str × Addr)) (fp : List Addr), PE (X.blk s H scope (compEnvC scope cl Ca X.env) fp) elt (tE X.K (ev Φ x) WF) := fun s H Ca cl fp => P.e C.blk D.blk blk_takes elt x e3
        split at h
        · cases h
          exact pe_lcM (mc := none) D.calm hN hi ok hg (fun s H Ca cl fp => pts_nil) he hs hv
        · rename_i c1
          split at h
          · cases h
          rename_i hif
          obtain ⟨y, hy, rfl⟩ := Option.map_eq_some_iff.mp h
          exact pe_lcM (mc := some fun env => bnd (ev Φ y env) truR) D.calm hN hi ok hg (fun s H Ca cl fp => pts_one (P.t C.blk D.blk blk_takes c1 y (nif hif) hy)) he hs hv
        · cases h
      · cases h
    · cases h
  · cases h
theorem snd_t (P : SndE Φ G ca n) {X : Cx} {S : SC} {W : WN} (C : Cn S X) (D : Gd Φ G ca X) (tk : Takes X (wx ca W)) (e : Expr) (c : E) (hi : isIfE e = false) (h : compE G S (n + 1) e = some c) : PT X e (tT X.K (fun env => bnd (ev Φ c env) truR) W) := by
  have nif : ∀ {a : Expr}, ¬ isIfE a = true → isIfE a = false := fun {a} h => by cases q : isIfE a <;> simp [q] at h ⊢
  have he := snd_e P C D tk e c h
  cases e with
  | BoolOp op vs p =>
    unfold compE at h
    exact (P.b C D tk op vs c p h).2.pt
  | UnaryOp op a p =>
    cases op with
    | Not =>
      unfold compE at h
      simp only at h
      split at h
      · cases h
      rename_i hif
      obtain ⟨c', hc', rfl⟩ := Option.map_eq_some_iff.mp h
      exact pt_notM (P.t C D tk a c' (nif hif) hc')
    | _ => exact pt_gen he fun _ => rfl
  | IfExp a b c' p => cases hi
  | Compare a ops bs p =>
    unfold compE at h
    split at h
    all_goals (rename_i q; first | (cases q; done) | skip)
    · cases q
      split at h <;> first | (cases h; done) | skip
      rename_i o x y e1 e2 e3 e4
      cases h
      exact pt_cmpM D.hu e1 (P.e C D tk _ x e2) (P.e C D tk _ y e3) e4
    · cases q
      split at h <;> first | (cases h; done) | skip
      rename_i o o' x y z e1 e2 e3 e4 e5 e6
      cases h
      exact pt_chainM D.hu e1 e2 (P.e C D tk _ x e3) (P.e C D tk _ y e4) (P.e C D tk _ z e5) e6
    · cases h
  | _ => exact pt_gen he fun _ => rfl
/-- expressions of any depth -/
theorem snd_all : ∀ n, SndE Φ G ca n
  | 0 => ⟨fun _ _ _ _ _ h => (by cases h), fun _ _ _ _ _ _ h => (by cases h), fun _ _ _ _ _ h => (by cases h), fun _ _ _ _ _ h => (by cases h), fun _ _ _ _ _ _ _ h => (by cases h), fun _ _ _ _ _ _ _ _ _ h => (by cases h), fun _ _ _ _ _ _ h _ => (by cases h)⟩
  | n + 1 => have P := snd_all n; ⟨fun C D tk => snd_e P C D tk, fun C D tk => snd_t P C D tk, fun C D tk => snd_es P C D tk, fun C D tk => snd_o P C D tk, fun C D tk => snd_b P C D tk, fun C D tk => snd_c P C D tk, fun C D tk => snd_i P C D tk⟩
end
end Pv
/-! Pv17: slots written; the statements' readings. -/
namespace Pv
open PySem PySem.Spec PyProof.Rows L2
section
variable {K : PySem.W.Frag} {B H H' : Hp} {σ : L2.St} {env : Env} {tp : Tp} {p : Addr} {u : HO}
theorem oa_skip : ∀ (σ : L2.St) (env : Env) (i : Nat) (x : Option V) (s : Slot), isOwn (some s) = false → oa (σ.set i x) (env.set i s) = oa (σ.set i none) (env.set i .non)
  | [], _, _, _, _, _ => rfl
  | y :: σ, [], i, x, s, _ => by cases i <;> (rw [List.set_nil, List.set_nil]; cases x <;> cases y <;> simp [oa])
  | y :: σ, e :: env, 0, x, s, h => by
    simp only [List.set_cons_zero]
    cases s <;> first | (simp [isOwn] at h; done) | (cases x with | none => rfl | some v => cases v <;> rfl)
  | y :: σ, e :: env, i + 1, x, s, h => by
    simp only [List.set_cons_succ]
    have ih := oa_skip σ env i x s h
    cases e <;> (cases y with | none => exact ih | some v => cases v <;> first | exact ih | exact congrArg _ ih)
theorem oa_same : ∀ (σ : L2.St) (env : Env) (i : Nat) (o o' : OV), env[i]? = some (.own o) → oa σ (env.set i (.own o')) = oa σ env
  | [], _, _, _, _, _ => rfl
  | y :: σ, [], i, _, _, h => by simp at h
  | y :: σ, e :: env, 0, o, o', h => by
    have h : e = .own o := by simpa using h
    subst h
    cases y with | none => rfl | some v => cases v <;> rfl
  | y :: σ, e :: env, i + 1, o, o', h => by
    simp only [List.set_cons_succ]
    have ih := oa_same σ env i o o' (by simpa using h)
    cases e <;> (cases y with | none => exact ih | some v => cases v <;> first | exact ih | exact congrArg (List.cons _) ih)
/-- a slot is overwritten by what is not owned -/
theorem Rl.wr (R : Rl K B σ env tp H) (i : Nat) (x : Option V) (s : Slot) (ns : isOwn (some s) = false) (hs : SlotR K (fz (σ.set i x) (env.set i s) tp H) H x s) :
    Rl K B (σ.set i x) (env.set i s) tp H ∧ Same (fz σ env tp H) (fz (σ.set i x) (env.set i s) tp H) := by
  have sub : ∀ a ∈ oa (σ.set i x) (env.set i s), a ∈ oa σ env := fun a ha => (oa_set σ env i x s a ha).elim id fun ⟨_, o, e⟩ => (by subst e; cases ns)
  have s1 : Same (fz σ env tp H) (fz (σ.set i x) (env.set i s) tp H) := hide_sub fun a ha => by
    rcases List.mem_append.mp ha with h | h
    · exact List.mem_append_left _ (sub a h)
    · exact List.mem_append_right _ h
  have nd := List.nodup_append.mp R.nd
  refine ⟨⟨R.le.trans s1, (R.sl.mono s1 fun _ _ => rfl).set i hs, ?_, R.tk⟩, s1⟩
  refine List.nodup_append.mpr ⟨oa_set_nodup σ env i x s nd.1 fun _ o _ e => (by subst e; cases ns), nd.2.1, fun a ha b hb => nd.2.2 a (sub a ha) b hb⟩
/-- a new list of nobody's becomes a slot's own -/
theorem Rl.wrO (R : Rl K B σ env ((p, u) :: tp) H) (i : Nat) {o : OV} (h : OvR (fz σ env ((p, u) :: tp) H) H p o) : Rl K B (σ.set i (some (.ref p))) (env.set i (.own o)) tp H := by
  have n := List.nodup_cons.mp ((List.perm_middle (l₁ := oa σ env) (a := p) (l₂ := ad tp)).nodup_iff.mp R.nd)
  have nd := List.nodup_append.mp n.2
  have sub : ∀ a ∈ oa (σ.set i (some (.ref p))) (env.set i (.own o)), a ∈ oa σ env ∨ a = p := fun a ha => (oa_set σ env i _ _ a ha).elim .inl fun ⟨e, _⟩ => by cases e; exact .inr rfl
  have s1 : Same (fz σ env ((p, u) :: tp) H) (fz (σ.set i (some (.ref p))) (env.set i (.own o)) tp H) := hide_sub fun a ha => mem_mid.mpr (by
    rcases List.mem_append.mp ha with h | h
    · rcases sub a h with h | h
      · exact .inr (List.mem_append_left _ h)
      · exact .inl h
    · exact .inr (List.mem_append_right _ h))
  refine ⟨R.le.trans s1, (R.sl.mono s1 fun _ _ => rfl).set i ⟨p, rfl, h.mono s1 rfl⟩, ?_, fun q hq => R.tk q (List.mem_cons_of_mem _ hq)⟩
  refine List.nodup_append.mpr ⟨oa_set_nodup σ env i _ _ nd.1 fun q o' e _ => ?_, nd.2.1, fun a ha b hb => ?_⟩
  · cases e
    exact fun z => n.1 (List.mem_append_left _ (oa_freeSub σ env i _ z))
  · rcases sub a ha with h | h
    · exact nd.2.2 a h b hb
    · subst h
      exact fun z => n.1 (List.mem_append_right _ (z ▸ hb))
theorem set_self {α : Type} : ∀ {xs : List α} {i : Nat} {x : α}, xs[i]? = some x → xs.set i x = xs
  | [], _, _, h => by simp at h
  | y :: ys, 0, x, h => by simp at h; subst h; rfl
  | y :: ys, i + 1, x, h => congrArg (y :: ·) (set_self (xs := ys) (by simpa using h))
/-- a slot's own list is frozen where it lies -/
theorem Rl.fzSlot (R : Rl K B σ env tp H) {j : Nat} {v : V} {xs : List D} (h1 : σ[j]? = some (some v)) (h2 : env[j]? = some (.own (.lst xs))) :
    Rl K B σ (env.set j (.val (.d (.list xs)))) tp H ∧ Same (fz σ env tp H) (fz σ (env.set j (.val (.d (.list xs)))) tp H) ∧ Rep (fz σ (env.set j (.val (.d (.list xs)))) tp H) v (.list xs) := by
  obtain ⟨y, e1, q⟩ := R.sl.get h2
  obtain ⟨p, e2, vs, h3, h4⟩ := q
  rw [h1] at e1
  cases e1
  cases e2
  have es : σ.set j (some (.ref p)) = σ := set_self h1
  have nd := List.nodup_append.mp R.nd
  have np : p ∉ oa (σ.set j (some (.ref p))) (env.set j (.val (.d (.list xs)))) ++ ad tp := fun z => by
    rcases List.mem_append.mp z with z | z
    · rw [oa_skip _ _ _ _ _ rfl] at z
      exact oa_free h1 h2 nd.1 z
    · exact nd.2.2 p (oa_mem h1 h2) p z rfl
  have s1 : Same (fz σ env tp H) (fz (σ.set j (some (.ref p))) (env.set j (.val (.d (.list xs)))) tp H) := hide_sub fun a ha => by
    rcases List.mem_append.mp ha with h | h
    · refine List.mem_append_left _ ((oa_set σ env j _ _ a h).elim id fun ⟨_, o, e⟩ => nomatch e)
    · exact List.mem_append_right _ h
  have rp : Rep (fz (σ.set j (some (.ref p))) (env.set j (.val (.d (.list xs)))) tp H) (.ref p) (.list xs) := .lst (hide_mk h3 np) (h4.mono s1)
  obtain ⟨R1, s2⟩ := R.wr j (some (.ref p)) (.val (.d (.list xs))) rfl ⟨_, rfl, rp⟩
  rw [es] at R1 s2 rp
  exact ⟨R1, s2, rp⟩
/-- a slot's own list is changed where it lies -/
theorem Rl.mod (R : Rl K B σ env tp H) {i : Nat} {o o' : OV} (h1 : σ[i]? = some (some (.ref p))) (h2 : env[i]? = some (.own o)) (h : OvR (fz σ env tp H) (upd H p u) p o') : Rl K B σ (env.set i (.own o')) tp (upd H p u) ∧ fz σ (env.set i (.own o')) tp (upd H p u) = fz σ env tp H := by
  have eo := oa_same σ env i o o' h2
  have pm : p ∈ oa σ env ++ ad tp := List.mem_append_left _ (oa_mem h1 h2)
  have nd := List.nodup_append.mp R.nd
  have ef : fz σ (env.set i (.own o')) tp (upd H p u) = fz σ env tp H := by
    unfold fz
    rw [eo]
    funext a
    unfold hide
    by_cases z : a ∈ oa σ env ++ ad tp
    · rw [if_pos z, if_pos z]
    · rw [if_neg z, if_neg z, upd_ne fun e => z (by rw [e]; exact pm)]
  have es : σ.set i (some (.ref p)) = σ := set_self h1
  refine ⟨⟨?_, ?_, by rw [eo]; exact R.nd, fun q hq => ?_⟩, ef⟩
  · have := R.le
    unfold fz at ef
    rw [ef]
    exact this
  · have g1 : SlotsR K (fz σ env tp H) H (σ.set i none) (env.set i .non) := R.sl.set i trivial
    have g2 : SlotsR K (fz σ env tp H) (upd H p u) (σ.set i none) (env.set i .non) := g1.mono (Same.refl _) fun q hq => upd_ne fun e => oa_free h1 h2 nd.1 (e ▸ hq)
    have g3 : SlotsR K (fz σ env tp H) (upd H p u) ((σ.set i none).set i (some (.ref p))) ((env.set i .non).set i (.own o')) := g2.set i ⟨p, rfl, h⟩
    rw [List.set_set, List.set_set, es] at g3
    unfold fz at ef
    rw [ef]
    exact g3
  · rw [upd_ne fun e => nd.2.2 p (oa_mem h1 h2) q.1 (List.mem_map.mpr ⟨q, hq, rfl⟩) e.symm]
    exact R.tk q hq
theorem keepE_of {v : V} {r : RV} {t : Sto} {ok : Vv × Env → Sto → Prop} {ex : Str → Sto → Prop} (P : PostE K B σ env tp r v H) (w : wpm (keepE r env) t ok ex) : ∃ x env', ok (x, env') t ∧ Rl K B σ env' tp H ∧ VvR K (fz σ env' tp H) v x ∧ Same (fz σ env tp H) (fz σ env' tp H) := by
  obtain ⟨R, o⟩ := P.opd
  unfold keepE at w
  split at w
  · exact ⟨_, env, w, R, o, Same.refl _⟩
  · obtain ⟨p, rfl, vs, h1, h2⟩ := o
    exact ⟨_, env, w, R, .lst h1 h2, Same.refl _⟩
  · obtain ⟨h1, h2⟩ := o
    obtain ⟨R1, s1, r1⟩ := R.fzSlot h1 h2
    exact ⟨_, _, w, R1, r1, s1⟩
  · exact w.elim
theorem keepED_of {v : V} {r : RV} {t : Sto} {ok : D × Env → Sto → Prop} {ex : Str → Sto → Prop} (P : PostE K B σ env tp r v H) (w : wpm (keepED r env) t ok ex) : ∃ x env', ok (x, env') t ∧ Rl K B σ env' tp H ∧ Rep (fz σ env' tp H) v x ∧ Same (fz σ env tp H) (fz σ env' tp H) := by
  unfold keepED at w
  rw [wpm_bnd] at w
  obtain ⟨x, env', w, R, q, s⟩ := keepE_of P w
  cases x <;> first | exact w.elim | exact ⟨_, env', w, R, q, s⟩
/-! ### the readings -/
variable {W : WN} {D0 : Ends} {t : Sto}
/-- behind a statement -/
def EndF (K : PySem.W.Frag) (B : Hp) (tp : Tp) (W : WN) (D0 : Ends) : Fl → Prop
  | .nx env => ∀ σ H, Rl K B σ env tp H → D0.nx σ H
  | .rt r => ∀ v H, PostC K B tp r v H → D0.rt v H
  | .xc x env => ∀ σ H, Rl K B σ env tp H → W x σ H
def wpf (K : PySem.W.Frag) (B : Hp) (tp : Tp) (W : WN) (D0 : Ends) (m : M Fl) (t : Sto) : Prop := wpm m t (fun f _ => EndF K B tp W D0 f) fun _ _ => False
def tS (K : PySem.W.Frag) (m : Env → M Fl) (W : WN) : TS := fun D0 σ H => ∃ B env tp t, Rl K B σ env tp H ∧ wpf K B tp W D0 (m env) t
theorem wpm_cat {α : Type} {m : M α} {env : Env} {k : α → M Fl} {t : Sto} {ok : Fl → Sto → Prop} {ex : Str → Sto → Prop} : wpm (cat m env k) t ok ex = wpm m t (fun a t' => wpm (k a) t' ok ex) fun x t' => ok (.xc x env) t' := by
  unfold wpm cat
  cases m t <;> rfl
theorem catE {m : Env → M RV} {k : RV → M Fl} {Q : VK} (R : Rl K B σ env tp H) (w : wpf K B tp W D0 (cat (m env) env k) t) (hk : ∀ r t1 v H1, PostE K B σ env tp r v H1 → wpf K B tp W D0 (k r) t1 → Q v H1) : tE K m W σ H Q := by
  unfold wpf at w
  rw [wpm_cat] at w
  exact ⟨B, env, tp, t, R, wpm_mono w (fun r t1 h1 v H1 p => hk r t1 v H1 p h1) fun x t1 q H' R' => q σ H' R'⟩
theorem catT {m : Env → M Bool} {k : Bool → M Fl} {Q : Bool → Hp → Prop} (R : Rl K B σ env tp H) (w : wpf K B tp W D0 (cat (m env) env k) t) (hk : ∀ r t1 H1, Rl K B σ env tp H1 → wpf K B tp W D0 (k r) t1 → Q r H1) : tT K m W σ H Q := by
  unfold wpf at w
  rw [wpm_cat] at w
  exact ⟨B, env, tp, t, R, wpm_mono w (fun r t1 h1 H1 p => hk r t1 H1 p h1) fun x t1 q H' R' => q σ H' R'⟩
theorem catI {m : Env → M (List D × Bool)} {k : List D × Bool → M Fl} {Q : It → Hp → Prop} (R : Rl K B σ env tp H) (w : wpf K B tp W D0 (cat (m env) env k) t)
    (hk : ∀ p t1 J H1, Rl K B σ env tp H1 → p.1.length ≤ sizeLine → SrcB K (fz σ env tp H1) σ env J p.1 → (p.2 = false → SrcF (fz σ env tp H1) J p.1) → wpf K B tp W D0 (k p) t1 → Q J H1) : tI K m W σ H Q := by
  unfold wpf at w
  rw [wpm_cat] at w
  exact ⟨B, env, tp, t, R, wpm_mono w (fun r t1 h1 J H1 R1 hl sb sf => hk r t1 J H1 R1 hl sb sf h1) fun x t1 q H' R' => q σ H' R'⟩
theorem catE2 {B0 : Hp} {m : Env → M RV} {k : RV → M Fl} {Q : VK} (R : Rl K B σ env tp H) (s : Same B0 B) (w : wpf K B0 tp W D0 (cat (m env) env k) t) (hk : ∀ r t1 v H1, PostE K B σ env tp r v H1 → wpf K B0 tp W D0 (k r) t1 → Q v H1) : tE K m W σ H Q := by
  unfold wpf at w
  rw [wpm_cat] at w
  exact ⟨B, env, tp, t, R, wpm_mono w (fun r t1 h1 v H1 p => hk r t1 v H1 p h1) fun x t1 q H' R' => q σ H' (R'.down s)⟩
theorem catA {m : Env → M (List RV)} {k : List RV → M Fl} {Q : List V → Hp → Prop} (R : Rl K B σ env tp H) (w : wpf K B tp W D0 (cat (m env) env k) t) (hk : ∀ rs t1 vs H1, Rl K B σ env tp H1 → OpdsR K σ env (fz σ env tp H1) vs rs → wpf K B tp W D0 (k rs) t1 → Q vs H1) : tAr K m W σ H Q := by
  unfold wpf at w
  rw [wpm_cat] at w
  exact ⟨B, env, tp, t, R, wpm_mono w (fun r t1 h1 v H1 p o => hk r t1 v H1 p o h1) fun x t1 q H' R' => q σ H' R'⟩
theorem wpf_bnd {α : Type} {m : M α} {k : α → M Fl} : wpf K B tp W D0 (bnd m k) t = wpm m t (fun a t' => wpf K B tp W D0 (k a) t') fun _ _ => False := wpm_bnd
theorem wpf_stk {P : Prop} (w : wpf K B tp W D0 stk t) : P := w.elim
end
end Pv
/-! Pv18: the small statements. -/
namespace Pv
open PySem PySem.Spec PyProof.Rows L2
section
variable {K : PySem.W.Frag} {B H H' : Hp} {σ : L2.St} {env : Env} {tp : Tp} {D0 : Ends} {t : Sto}
/-- a context of a def's statements -/
structure Bd (S : SC) (X : Cx) : Prop extends Cn S X where
  fnc : ∀ x, X.env.scope.names.lookup x = some .cell → X.fn x = true
  hp : PassesOwn (model X.prog X.w) X.A X.env X.xe
  hs : X.stack = X.env :: X.outer
  hf : X.env.frame = some X.env.locals
  hk : X.env.scope.kind = .function
variable {X : Cx} {S : SC} {W : WN}
theorem Bd.fn (C : Bd S X) {x : Str} (h : locB S.sc x = true) : X.fn x = true ∨ X.env.scope.names.lookup x = some .local := by
  rcases loc_of h with h | h
  · exact .inr (by rw [C.hS]; exact h)
  · exact .inl (C.fnc x (by rw [C.hS]; exact h))
theorem Bd.loc (C : Bd S X) {x : Str} (h : locB S.sc x = true) : Loc X.env.scope x := by
  rw [C.hS]
  exact loc_of h
theorem Bd.hN' (C : Bd S X) : X.N.Nodup := by rw [C.hN]; exact C.nd
/-- set -/
theorem set_imp {m : Env → M RV} {i : Nat} (h : tS K (fun env => cat (m env) env (setIt i env)) W D0 σ H) : tAsg (tE K m W) (gName i) D0 σ H := by
  obtain ⟨B, env, tp, t, R, w⟩ := h
  refine catE R w fun r t1 v H1 P w1 => ?_
  unfold setIt at w1
  rw [wpf_bnd] at w1
  obtain ⟨x, env', w2, R2, q2, s2⟩ := keepE_of P w1
  have hx : SlotR K (fz σ env' tp H1) H1 (some v) (.val x) := ⟨v, rfl, q2⟩
  refine w2 _ _ ?_
  have s3 : Same (fz σ env' tp H1) (fz (σ.set i (some v)) (env'.set i (.val x)) tp H1) := hide_sub fun a ha => by
    rcases List.mem_append.mp ha with h | h
    · exact List.mem_append_left _ ((oa_set σ env' i _ _ a h).elim id fun ⟨_, o, e⟩ => nomatch e)
    · exact List.mem_append_right _ h
  exact (R2.wr i (some v) (.val x) rfl ⟨v, rfl, q2.mono s3⟩).1
theorem setO_imp {m : Env → M RV} {i : Nat} (h : tS K (fun env => cat (m env) env (setOwn i env)) W D0 σ H) : tAsg (tE K m W) (gName i) D0 σ H := by
  obtain ⟨B, env, tp, t, R, w⟩ := h
  refine catE R w fun r t1 v H1 P w1 => ?_
  cases r with
  | v x => exact wpf_stk w1
  | bo j o => exact wpf_stk w1
  | fr o =>
    obtain ⟨p, u, rfl, R1, q1⟩ := P
    exact w1 _ _ (R1.wrO i q1)
theorem asgs_l : ∀ (ts : List Pv.T) (ds : List D) (env env1 : Env), asgs ts ds env = some env1 → ds.length = ts.length
  | [], [], _, _, _ => rfl
  | [], _ :: _, _, _, e => by cases e
  | _ :: _, [], _, _, e => by cases e
  | t :: ts, d :: ds, env, env1, e => by
    unfold asgs at e
    split at e
    · rw [List.length_cons, List.length_cons, asgs_l ts ds _ _ e]
    · cases e
mutual
theorem gT_any : ∀ (T : Pv.T) (d : D) (v : V) (σ : L2.St) (env env1 : Env) (Q : L2.St → Hp → Prop), Rl K B σ env tp H → Rep (fz σ env tp H) v d → asg T d env = some env1 → (∀ σ1, Rl K B σ1 env1 tp H → Same (fz σ env tp H) (fz σ1 env1 tp H) → Q σ1 H) → gT K T v σ H Q
  | .nm i, d, v, σ, env, env1, Q, R, r, e, q => by
    cases e
    have s3 : Same (fz σ env tp H) (fz (σ.set i (some v)) (env.set i (.val (.d d))) tp H) := hide_sub fun a ha => by
      rcases List.mem_append.mp ha with h | h
      · exact List.mem_append_left _ ((oa_set σ env i _ _ a h).elim id fun ⟨_, o, e⟩ => nomatch e)
      · exact List.mem_append_right _ h
    obtain ⟨R1, s1⟩ := R.wr i (some v) (.val (.d d)) rfl ⟨v, rfl, r.mono s3⟩
    exact q _ R1 s1
  | .tp ts, d, v, σ, env, env1, Q, R, r, e, q => by
    cases d with
    | tuple xs =>
      obtain ⟨p, vs, rfl, h1, h2⟩ := rd_tup (RdR.of r (hide_same _ _))
      have e : asgs ts xs env = some env1 := e
      exact .inl ⟨p, vs, rfl, .of (hide_same _ _ _ _ h1), by rw [h2.length]; exact asgs_l ts xs env env1 e, gTs_any ts xs vs σ env env1 Q R h2 e q⟩
    | list xs =>
      cases r with
      | lst h1 h2 =>
        have e : asgs ts xs env = some env1 := e
        exact .inr ⟨_, _, rfl, .of (hide_same _ _ _ _ h1), by rw [h2.length]; exact asgs_l ts xs env env1 e, gTs_any ts xs _ σ env env1 Q R h2 e q⟩
    | _ => cases e
theorem gTs_any : ∀ (ts : List T) (ds : List D) (vs : List V) (σ : L2.St) (env env1 : Env) (Q : L2.St → Hp → Prop), Rl K B σ env tp H → Reps (fz σ env tp H) vs ds → asgs ts ds env = some env1 → (∀ σ1, Rl K B σ1 env1 tp H → Same (fz σ env tp H) (fz σ1 env1 tp H) → Q σ1 H) → gTs K ts vs σ H Q
  | [], ds, vs, σ, env, env1, Q, R, r, e, q => by
    cases r with
    | nil => cases e; exact ⟨rfl, q σ R (Same.refl _)⟩
    | cons _ _ => cases e
  | T :: ts, ds, vs, σ, env, env1, Q, R, r, e, q => by
    cases r with
    | nil => cases e
    | @cons v vs d ds h1 h2 =>
      unfold asgs at e
      split at e
      · rename_i env' e'
        exact ⟨v, vs, rfl, gT_any T d v σ env env' _ R h1 e' fun σ1 R1 s1 => gTs_any ts ds vs σ1 env' env1 Q R1 (h2.mono s1) e fun σ2 R2 s2 => q σ2 R2 (s1.trans s2)⟩
      · cases e
end
theorem lists_any {T : Pv.T} {d : D} {v : V} {env1 : Env} {Q : L2.St → Hp → Prop} (R : Rl K B σ env tp H) (r : RdR (fz σ env tp H) H v d) (nT : ∀ i, T ≠ .nm i) (e : asg T d env = some env1) (q : ∀ σ1, Rl K B σ1 env1 tp H → Q σ1 H) : gT K T v σ H Q := by
  cases T with
  | nm i => exact absurd rfl (nT i)
  | tp ts =>
    cases d with
    | tuple xs =>
      obtain ⟨p, vs, rfl, h1, h2⟩ := rd_tup r
      exact .inl ⟨p, vs, rfl, .of (hide_same _ _ _ _ h1), by rw [h2.length]; exact asgs_l ts xs env env1 e, gTs_any ts xs vs σ env env1 Q R h2 e fun σ1 R1 _ => q σ1 R1⟩
    | list xs =>
      obtain ⟨p, vs, rfl, h1, h2⟩ := r
      exact .inr ⟨p, vs, rfl, .of h1, by rw [h2.length]; exact asgs_l ts xs env env1 e, gTs_any ts xs vs σ env env1 Q R h2 e fun σ1 R1 _ => q σ1 R1⟩
    | _ => cases e
theorem asgM_of {T : Pv.T} {d : D} {ok : Env → Sto → Prop} {ex : Str → Sto → Prop} (w : wpm (asgM T d env) t ok ex) : ∃ env1, asg T d env = some env1 ∧ ok env1 t := by
  unfold asgM at w
  cases e : asg T d env with
  | none => rw [e] at w; exact w.elim
  | some env1 => rw [e] at w; exact ⟨env1, rfl, w⟩
/-- unpacking -/
theorem unp_imp {m : Env → M RV} {T : Pv.T} (nT : ∀ i, T ≠ .nm i) (h : tS K (fun env => cat (m env) env fun r => asD r fun x => bnd (asgM T x env) fun env' => ret (.nx env')) W D0 σ H) : tAsg (tE K m W) (gT K T) D0 σ H := by
  obtain ⟨B, env, tp, t, R, w⟩ := h
  refine catE R w fun r t1 v H1 P w1 => ?_
  obtain ⟨R1, o1⟩ := P.opd
  obtain ⟨d, ed, w1⟩ := wpm_asD w1
  rw [wpm_bnd] at w1
  obtain ⟨env1, e1, w1⟩ := asgM_of w1
  exact lists_any R1 (o1.rd R1 ed) nT e1 fun σ1 R2 => w1 _ _ R2
/-- own lists -/
theorem ownL_of {i : Nat} {k : List D → M Fl} (R : Rl K B σ env tp H) (w : wpf K B tp W D0 (ownL env i k) t) : ∃ xs p vs, env[i]? = some (.own (.lst xs)) ∧ σ[i]? = some (some (.ref p)) ∧ H p = some (.lst vs) ∧ Reps (fz σ env tp H) vs xs ∧ wpf K B tp W D0 (k xs) t := by
  unfold ownL at w
  split at w
  · rename_i xs e
    obtain ⟨y, e1, p, e2, vs, h3, h4⟩ := R.sl.get e
    subst e2
    exact ⟨xs, p, vs, e, e1, h3, h4, w⟩
  · exact wpf_stk w
theorem intR_of {F : Hp} {v : V} {r : RV} {k : Int → M Fl} (o : OpdR K σ env F v r) (w : wpf K B tp W D0 (intR r k) t) : ∃ i, v = .int i ∧ wpf K B tp W D0 (k i) t := by
  unfold intR at w
  split at w
  · cases (show Rep _ v (.int _) from o); exact ⟨_, rfl, w⟩
  · exact wpf_stk w
/-- the slot's reading -/
def tOwn (i : Nat) : TE := fun σ H Q => ∃ v, σ[i]? = some (some v) ∧ Q v H
theorem pe_own {x : Str} {i : Nat} {pos : Pos} (C : Bd S X) (h : visB S.sc x = true) (hi : idx x S.N = some i) : PE X (.Name x pos) (tOwn i) :=
  pe_imp (pe_var (i := i) (by rw [C.hN]; exact idx_get hi) (C.toCn.vis h) (vis_of h).2.1 (vis_of h).2.2) fun σ H Q ⟨v, e, q⟩ => ⟨v, e, q⟩
theorem modL {i : Nat} {p : Addr} {xs ys : List D} {vs ws : List V} (R : Rl K B σ env tp H) (e : env[i]? = some (.own (.lst xs))) (e1 : σ[i]? = some (some (.ref p))) (h : Reps (fz σ env tp H) ws ys) : Rl K B σ (env.set i (.own (.lst ys))) tp (upd H p (.lst ws)) ∧ fz σ (env.set i (.own (.lst ys))) tp (upd H p (.lst ws)) = fz σ env tp H :=
  R.mod e1 e ⟨ws, upd_same, h⟩
theorem tyL {p : Addr} {vs : List V} (h : H p = some (.lst vs)) : tyV K "list" (.ref p) H := .inl ⟨rfl, vs, .of h⟩
theorem own_again {i : Nat} {xs : List D} (R : Rl K B σ env tp H) (e : env[i]? = some (.own (.lst xs))) : ∃ p vs, σ[i]? = some (some (.ref p)) ∧ H p = some (.lst vs) ∧ Reps (fz σ env tp H) vs xs := by
  obtain ⟨y, e1, p, e2, vs, h3, h4⟩ := R.sl.get e
  subst e2
  exact ⟨p, vs, e1, h3, h4⟩
/-- append -/
theorem app_imp {m : Env → M RV} {i : Nat} (h : tS K (fun env => ownL env i fun _ => cat (m env) env fun r => bnd (keepED r env) fun p => ownL p.2 i fun xs => guard (fits (xs.length + 1)) (ret (.nx (p.2.set i (.own (.lst (xs ++ [p.1]))))))) W D0 σ H) :
    tDrop (tBM K "list" rAppend (tOwn i) (tCons (tE K m W) tNil)) D0 σ H := by
  obtain ⟨B, env, tp, t, R, w⟩ := h
  obtain ⟨xs0, p0, vs0, f1, f2, f3, f4, w⟩ := ownL_of R w
  refine ⟨_, f2, tyL f3, ?_⟩
  refine catE R w fun r t1 y H1 P w1 => ?_
  rw [wpf_bnd] at w1
  obtain ⟨d, env', w2, R2, q2, s2⟩ := keepED_of P w1
  obtain ⟨xs, p, vs, e3, e4, h5, h6, w3⟩ := ownL_of R2 w2
  obtain ⟨hz, w3⟩ := wpm_guard w3
  rw [f2] at e4
  cases e4
  refine ⟨p0, vs, y, rfl, rfl, h5, ?_, w3 _ _ (modL (vs := vs) R2 e3 f2 (h6.append (.cons q2 .nil))).1⟩
  have := fits_le hz
  rw [h6.length]
  omega
theorem ext_imp {m : Env → M RV} {i : Nat} (h : tS K (fun env => ownL env i fun xs => cat (m env) env fun r => asD r fun
    | .list ys => guard (fits (xs.length + ys.length)) (ret (.nx (env.set i (.own (.lst (xs ++ ys))))))
    | _ => stk) W D0 σ H) : tDrop (tBM K "list" rExtend (tOwn i) (tCons (tE K m W) tNil)) D0 σ H := by
  obtain ⟨B, env, tp, t, R, w⟩ := h
  obtain ⟨xs, p, vs0, f1, f2, f3, f4, w⟩ := ownL_of R w
  refine ⟨_, f2, tyL f3, ?_⟩
  refine catE R w fun r t1 y H1 P w1 => ?_
  obtain ⟨R1, o1⟩ := P.opd
  obtain ⟨d, ed, w1⟩ := wpm_asD w1
  have rx := o1.rd R1 ed
  split at w1 <;> first | exact wpm_stk w1 | skip
  obtain ⟨q, ws, rfl, g1, g2⟩ := rx
  obtain ⟨hz, w1⟩ := wpm_guard w1
  obtain ⟨p', vs, e1, h3, h4⟩ := own_again R1 f1
  rw [f2] at e1
  cases e1
  refine ⟨p, q, vs, ws, rfl, rfl, h3, g1, ?_, w1 _ _ (modL (vs := vs) R1 f1 f2 (h4.append g2)).1⟩
  have := fits_le hz
  rw [h4.length, g2.length]
  exact this
/-- xs[k] = e -/
theorem setIx_imp {m mk : Env → M RV} {i : Nat} (h : tS K (fun env => cat (m env) env fun r => ownL env i fun xs => cat (mk env) env fun q => intR q fun j => bnd (keepD r) fun y => bnd (setAt xs j y) fun ys => ret (.nx (env.set i (.own (.lst ys))))) W D0 σ H) :
    tAsg (tE K m W) (gSub (tOwn i) (tE K mk W) rSetL) D0 σ H := by
  obtain ⟨B, env, tp, t, R, w⟩ := h
  refine catE R w fun r t1 y H1 P w1 => ?_
  obtain ⟨R1, o1⟩ := P.opd
  obtain ⟨xs, p, vs0, f1, f2, f3, f4, w1⟩ := ownL_of R1 w1
  refine ⟨_, f2, ?_⟩
  refine catE2 R1.base R1.le w1 fun q t2 z H2 P2 w2 => ?_
  obtain ⟨R2, o2⟩ := P2.opd
  obtain ⟨j, rfl, w2⟩ := intR_of o2 w2
  rw [wpf_bnd] at w2
  obtain ⟨d, rd', w2⟩ := keepD_of (o1.mono R2.le) w2
  have w2 : wpf K B tp W D0 (bnd (setAt xs j d) fun ys => ret (.nx (env.set i (.own (.lst ys))))) t2 := w2
  unfold setAt at w2
  split at w2 <;> first | exact wpf_stk w2 | skip
  rename_i n hn
  obtain ⟨p', vs, e1, h3, h4⟩ := own_again R2 f1
  rw [f2] at e1
  cases e1
  have w2 : ∀ σ H, Rl K B σ (env.set i (.own (.lst (xs.set n d)))) tp H → D0.nx σ H := w2
  refine ⟨p, vs, j, n, rfl, rfl, h3, by rw [h4.length]; exact hn, w2 _ _ (modL (vs := vs) (R2.down R1.le) f1 f2 (h4.set rd' n)).1⟩
/-- n += e, ints -/
theorem aug_imp {m : Env → M RV} {i : Nat} (h : tS K (fun env => bnd (slotR env i) fun q => cat (m env) env fun r => bnd (augM .add q r) fun z => ret (.nx (env.set i (.val z)))) W D0 σ H) : tAug i (tE K m W) (ipI fun i j => i + j) D0 σ H := by
  obtain ⟨B, env, tp, t, R, w⟩ := h
  rw [wpf_bnd] at w
  unfold slotR at w
  split at w <;> first | exact wpm_stk w | skip
  · rename_i x e
    obtain ⟨y, e1, q⟩ := R.sl.get e
    obtain ⟨v, e2, q⟩ := q
    subst e2
    have w : wpf K B tp W D0 (cat (m env) env fun r => bnd (augM .add (.v x) r) fun z => ret (.nx (env.set i (.val z)))) t := w
    refine ⟨v, e1, catE R w fun r t1 u H1 P w1 => ?_⟩
    obtain ⟨R1, o1⟩ := P.opd
    unfold augM at w1
    split at w1 <;> first | exact wpf_stk w1 | skip
    rename_i a b e5 e6
    cases e6
    cases (show Rep _ v (.int a) from q)
    cases (show Rep _ u (.int b) from o1)
    exact ⟨a, b, rfl, rfl, w1 _ _ (R1.wr i (some (.int (a + b))) (.val (.d (.int (a + b)))) rfl ⟨_, rfl, .int _⟩).1⟩
  · rename_i o e
    obtain ⟨y, e1, p, e2, q⟩ := R.sl.get e
    subst e2
    have w : wpf K B tp W D0 (cat (m env) env fun r => bnd (augM .add (.bo i o) r) fun z => ret (.nx (env.set i (.val z)))) t := w
    exact ⟨_, e1, catE R w fun r t1 u H1 P w1 => wpf_stk w1⟩
/-- pops -/
theorem popEnd_of {xs : List D} {ok : D × List D → Sto → Prop} {ex : Str → Sto → Prop} (w : wpm (popEnd xs) t ok ex) : ∃ y, xs[xs.length - 1]? = some y ∧ ok (y, xs.dropLast) t := by
  unfold popEnd at w
  split at w
  · rename_i y e; exact ⟨y, e, w⟩
  · exact w.elim
theorem popAt_of {xs : List D} {k : Int} {ok : D × List D → Sto → Prop} {ex : Str → Sto → Prop} (w : wpm (popAt xs k) t ok ex) : ∃ j y, ixN xs.length k = some j ∧ xs[j]? = some y ∧ -(2 ^ 63) ≤ k ∧ k < 2 ^ 63 ∧ ok (y, xs.eraseIdx j) t := by
  unfold popAt at w
  split at w <;> first | exact wpm_stk w | skip
  rename_i j hj
  split at w <;> first | exact wpm_stk w | skip
  rename_i y hy
  obtain ⟨hz, w⟩ := wpm_guard w
  have hz := of_decide_eq_true hz
  exact ⟨j, y, hj, hy, hz.1, hz.2, w⟩
theorem ixN_six {n j : Nat} {k : Int} (h : ixN n k = some j) : seqIndex? k n = some j := (ixN_seq h).1
theorem pop_imp {T : Pv.T} {i : Nat} (h : tS K (fun env => ownL env i fun xs => bnd (popEnd xs) fun p => bnd (asgM T p.1 (env.set i (.own (.lst p.2)))) fun env' => ret (.nx env')) W D0 σ H) : tAsg (tBM0 K "list" rPop (tOwn i)) (gT K T) D0 σ H := by
  obtain ⟨B, env, tp, t, R, w⟩ := h
  obtain ⟨xs, p, vs, f1, f2, f3, f4, w⟩ := ownL_of R w
  refine ⟨_, f2, tyL f3, ?_⟩
  rw [wpf_bnd] at w
  obtain ⟨y, hy, w⟩ := popEnd_of w
  rw [wpf_bnd] at w
  obtain ⟨env1, e1, w⟩ := asgM_of w
  obtain ⟨v, hv, rv⟩ := f4.get hy
  obtain ⟨R1, ef⟩ := modL (vs := vs) R f1 f2 f4.dropLast
  refine ⟨p, vs, v, rfl, rfl, f3, by rw [f4.length]; exact hv, ?_⟩
  exact gT_any T y v σ _ env1 _ R1 (by rw [ef]; exact rv) e1 fun σ1 R2 _ => w _ _ R2
theorem popk_imp {T : Pv.T} {i : Nat} {mk : Env → M RV} (h : tS K (fun env => ownL env i fun xs => cat (mk env) env fun q => intR q fun n => bnd (popAt xs n) fun p => bnd (asgM T p.1 (env.set i (.own (.lst p.2)))) fun env' => ret (.nx env')) W D0 σ H) :
    tAsg (tBM K "list" rPopAt (tOwn i) (tCons (tE K mk W) tNil)) (gT K T) D0 σ H := by
  obtain ⟨B, env, tp, t, R, w⟩ := h
  obtain ⟨xs, p, vs0, f1, f2, f3, f4, w⟩ := ownL_of R w
  refine ⟨_, f2, tyL f3, ?_⟩
  refine catE R w fun r t1 u H1 P w1 => ?_
  obtain ⟨R1, o1⟩ := P.opd
  obtain ⟨n, rfl, w1⟩ := intR_of o1 w1
  rw [wpf_bnd] at w1
  obtain ⟨j, y, hj, hy, g1, g2, w1⟩ := popAt_of w1
  rw [wpf_bnd] at w1
  obtain ⟨env1, e1, w1⟩ := asgM_of w1
  obtain ⟨p', vs, e2, h3, h4⟩ := own_again R1 f1
  rw [f2] at e2
  cases e2
  obtain ⟨v, hv, rv⟩ := h4.get hy
  obtain ⟨R2, ef⟩ := modL (vs := vs) R1 f1 f2 (h4.eraseIdx j)
  refine ⟨p, vs, n, j, v, rfl, rfl, h3, g1, g2, by rw [h4.length]; exact ixN_six hj, hv, ?_⟩
  exact gT_any T y v σ _ env1 _ R2 (by rw [ef]; exact rv) e1 fun σ1 R3 _ => w1 _ _ R3
/-- xs.append(ys.pop(k)) -/
theorem appPop_imp {i j : Nat} {mk : Env → M RV} (h : tS K (fun env => ownL env i fun _ => ownL env j fun ys => cat (mk env) env fun q => intR q fun n => bnd (popAt ys n) fun p => ownL (env.set j (.own (.lst p.2))) i fun xs =>
      guard (fits (xs.length + 1)) (ret (.nx ((env.set j (.own (.lst p.2))).set i (.own (.lst (xs ++ [p.1]))))))) W D0 σ H) :
    tDrop (tBM K "list" rAppend (tOwn i) (tCons (tBM K "list" rPopAt (tOwn j) (tCons (tE K mk W) tNil)) tNil)) D0 σ H := by
  obtain ⟨B, env, tp, t, R, w⟩ := h
  obtain ⟨xs0, p0, ws0, b1, b2, b3, b4, w⟩ := ownL_of R w
  refine ⟨_, b2, tyL b3, ?_⟩
  obtain ⟨xs, p, vs0, f1, f2, f3, f4, w⟩ := ownL_of R w
  refine ⟨_, f2, tyL f3, ?_⟩
  refine catE R w fun r t1 u H1 P w1 => ?_
  obtain ⟨R1, o1⟩ := P.opd
  obtain ⟨n, rfl, w1⟩ := intR_of o1 w1
  rw [wpf_bnd] at w1
  obtain ⟨l, y, hj, hy, g1, g2, w1⟩ := popAt_of w1
  obtain ⟨p', vs, e2, h3, h4⟩ := own_again R1 f1
  rw [f2] at e2
  cases e2
  obtain ⟨v, hv, rv⟩ := h4.get hy
  obtain ⟨R2, ef⟩ := modL (vs := vs) R1 f1 f2 (h4.eraseIdx l)
  refine ⟨p, vs, n, l, v, rfl, rfl, h3, g1, g2, by rw [h4.length]; exact ixN_six hj, hv, ?_⟩
  obtain ⟨zs, p1, us, c1, c2, c3, c4, w2⟩ := ownL_of R2 w1
  obtain ⟨hz, w2⟩ := wpm_guard w2
  rw [b2] at c2
  cases c2
  refine ⟨p0, us, v, rfl, rfl, c3, ?_, w2 _ _ (modL (vs := us) R2 c1 b2 (c4.append (.cons (by rw [ef]; exact rv) .nil))).1⟩
  have := fits_le hz
  rw [c4.length]
  omega
/-- a, b = x, y -/
def parV : List (Nat × Bool) → List V → L2.St → L2.St
  | (i, _) :: is, v :: vs, σ => parV is vs (σ.set i (some v))
  | _, _, σ => σ
theorem par_of {σ0 : L2.St} {env0 : Env} : ∀ (is : List (Nat × Bool)) (rs : List RV) (vs : List V) {σ : L2.St} {env env' : Env}, (∀ q ∈ is, q.2 = false) → Rl K B σ env tp H → OpdsR K σ0 env0 (fz σ env tp H) vs rs → parSet is rs env = some env' → Rl K B (parV is vs σ) env' tp H ∧ vs.length = is.length
  | [], rs, vs, σ, env, env', hf, R, os, e => by
    cases os with
    | nil => cases e; exact ⟨R, rfl⟩
    | cons _ _ => cases e
  | (i, b) :: is, rs, vs, σ, env, env', hf, R, os, e => by
    have hb : b = false := hf _ List.mem_cons_self
    subst hb
    cases os with
    | nil => cases e
    | @cons v vs r rs o os =>
      have key : ∀ x : Vv, VvR K (fz σ env tp H) v x → parSet is rs (env.set i (.val x)) = some env' → Rl K B (parV is vs (σ.set i (some v))) env' tp H ∧ (v :: vs).length = ((i, false) :: is).length := fun x hx e' => by
        have s3 : Same (fz σ env tp H) (fz (σ.set i (some v)) (env.set i (.val x)) tp H) := hide_sub fun a ha => by
          rcases List.mem_append.mp ha with h | h
          · exact List.mem_append_left _ ((oa_set σ env i _ _ a h).elim id fun ⟨_, o, e⟩ => nomatch e)
          · exact List.mem_append_right _ h
        obtain ⟨R1, s1⟩ := R.wr i (some v) (.val x) rfl ⟨v, rfl, hx.mono s3⟩
        obtain ⟨h1, h2⟩ := par_of is rs vs (fun q hq => hf q (List.mem_cons_of_mem _ hq)) R1 (os.mono s1) e'
        exact ⟨h1, congrArg (· + 1) h2⟩
      unfold parSet at e
      cases r with
      | v x => exact key x o e
      | bo k u => cases e
      | fr u => cases u with
        | lst xs =>
          obtain ⟨p, rfl, ws, h1, h2⟩ := o
          exact key (.d (.list xs)) (.lst h1 h2) e
        | _ => cases e
theorem par2_imp {ms : Env → M (List RV)} {i j : Nat} (h : tS K (fun env => cat (ms env) env fun rs => match parSet [(i, false), (j, false)] rs env with
    | some env' => ret (.nx env')
    | none => stk) W D0 σ H) : tPar i j (tAr K ms W) D0 σ H := by
  obtain ⟨B, env, tp, t, R, w⟩ := h
  refine catA R w fun rs t1 vs H1 R1 os w1 => ?_
  split at w1 <;> first | exact wpf_stk w1 | skip
  rename_i env' e
  obtain ⟨R2, hl⟩ := par_of _ _ _ (by simp) R1 os e
  match vs, hl with
  | [v, w], _ => exact ⟨v, w, rfl, w1 _ _ R2⟩
theorem par3_imp {ms : Env → M (List RV)} {i j l : Nat} (h : tS K (fun env => cat (ms env) env fun rs => match parSet [(i, false), (j, false), (l, false)] rs env with
    | some env' => ret (.nx env')
    | none => stk) W D0 σ H) : tPar3 i j l (tAr K ms W) D0 σ H := by
  obtain ⟨B, env, tp, t, R, w⟩ := h
  refine catA R w fun rs t1 vs H1 R1 os w1 => ?_
  split at w1 <;> first | exact wpf_stk w1 | skip
  rename_i env' e
  obtain ⟨R2, hl⟩ := par_of _ _ _ (by simp) R1 os e
  match vs, hl with
  | [u, v, w], _ => exact ⟨u, v, w, rfl, w1 _ _ R2⟩
/-- return -/
def retR : RV → RV
  | .bo _ o => .fr o
  | r => r
theorem ret_post {r : RV} {v : V} (P : PostE K B σ env tp r v H) : PostC K B tp (retR r) v H := by
  cases r with
  | v x =>
    obtain ⟨R, q⟩ := P
    have s : Same (fz σ env tp H) (hide (ad tp) H) := hide_sub fun a ha => List.mem_append_right _ ha
    exact ⟨R.tk, R.le.trans s, VvR.mono s q⟩
  | fr o =>
    obtain ⟨p, u, rfl, R, q⟩ := P
    have n := List.nodup_cons.mp ((List.perm_middle (l₁ := oa σ env) (a := p) (l₂ := ad tp)).nodup_iff.mp R.nd)
    have s : Same (fz σ env ((p, u) :: tp) H) (hide (p :: ad tp) H) := hide_sub fun a ha => List.mem_append_right _ ha
    exact ⟨fun q hq => R.tk q (List.mem_cons_of_mem _ hq), p, u, rfl, R.tk (p, u) List.mem_cons_self, fun z => n.1 (List.mem_append_right _ z), R.le.trans s, q.mono s rfl⟩
  | bo i o =>
    obtain ⟨R, h1, h2⟩ := P
    obtain ⟨y, e1, p, e2, q⟩ := R.sl.get h2
    rw [h1] at e1
    cases e1
    cases e2
    have nd := List.nodup_append.mp R.nd
    obtain ⟨u, hu⟩ := q.tracked
    have pm := oa_mem h1 h2
    have s : Same (fz σ env tp H) (hide (p :: ad tp) H) := hide_sub fun a ha => by
      rcases List.mem_cons.mp ha with rfl | h
      · exact List.mem_append_left _ pm
      · exact List.mem_append_right _ h
    exact ⟨R.tk, p, u, rfl, hu, fun z => nd.2.2 p pm p z rfl, R.le.trans s, q.mono s rfl⟩
theorem PostC.down {B' : Hp} {r : RV} {v : V} (P : PostC K B tp r v H) (s : Same B' B) : PostC K B' tp r v H := by
  obtain ⟨k, P⟩ := P
  cases r with
  | v x => exact ⟨k, s.trans P.1, P.2⟩
  | fr o => obtain ⟨p, u, e, h1, h2, h3, h4⟩ := P; exact ⟨k, p, u, e, h1, h2, s.trans h3, h4⟩
  | bo i o => exact P.elim
theorem ret_imp {m : Env → M RV} (h : tS K (fun env => cat (m env) env fun r => ret (.rt (match r with
    | .bo _ o => .fr o
    | r => r))) W D0 σ H) : tRet (tE K m W) D0 σ H := by
  obtain ⟨B, env, tp, t, R, w⟩ := h
  refine catE R w fun r t1 v H1 P w1 => ?_
  have w1 : ∀ v H, PostC K B tp (match r with
    | .bo _ o => .fr o
    | r => r) v H → D0.rt v H := w1
  refine w1 v H1 ?_
  have q := ret_post P
  cases r <;> exact q
theorem retN_imp (h : tS K (fun _ => ret (.rt (rd .none))) W D0 σ H) : tRetN D0 σ H := by
  obtain ⟨B, env, tp, t, R, w⟩ := h
  have w : ∀ v H, PostC K B tp (rd .none) v H → D0.rt v H := w
  exact w _ _ (ret_post (r := rd .none) (post_d R .non))
theorem exp_imp {m : Env → M RV} (h : tS K (fun env => cat (m env) env fun _ => ret (.nx env)) W D0 σ H) : tDrop (tE K m W) D0 σ H := by
  obtain ⟨B, env, tp, t, R, w⟩ := h
  refine catE R w fun r t1 v H1 P w1 => ?_
  exact w1 _ _ P.opd.1
theorem ife_imp {mc : Env → M Bool} {ma mb : Env → M Fl} (h : tS K (fun env => cat (mc env) env fun k => if k = true then ma env else mb env) W D0 σ H) : tIfS (tT K mc W) (tS K ma W) (tS K mb W) D0 σ H := by
  obtain ⟨B, env, tp, t, R, w⟩ := h
  refine catT R w fun k t1 H1 R1 w1 => ?_
  cases k with
  | true => exact iteT ⟨B, env, tp, t1, R1, w1⟩
  | false => exact iteF ⟨B, env, tp, t1, R1, w1⟩
theorem seq_imp {ma mb : Env → M Fl} (h : tS K (fun env => seqF (ma env) mb) W D0 σ H) : tSeq (tS K ma W) (tS K mb W) D0 σ H := by
  obtain ⟨B, env, tp, t, R, w⟩ := h
  refine ⟨B, env, tp, t, R, ?_⟩
  unfold seqF at w
  rw [wpf_bnd] at w
  refine wpm_mono w (fun f t1 w1 => ?_) fun _ _ q => q
  cases f with
  | nx env1 => exact fun σ1 H1 R1 => ⟨B, env1, tp, t1, R1, w1⟩
  | rt r => exact w1
  | xc x env1 => exact w1
theorem nil_imp (h : tS K (fun env => ret (.nx env)) W D0 σ H) : tNext D0 σ H := by
  obtain ⟨B, env, tp, t, R, w⟩ := h
  exact w _ _ R
/-- while -/
theorem whl_imp {mc : Env → M Bool} {mb : Env → M Fl} {n : Nat} (h : tS K (fun env => whileF mc mb n env) W D0 σ H) : tWhile (tT K mc W) (tS K mb W) D0 σ H := by
  obtain ⟨B, env, tp, t, R, w⟩ := h
  refine ⟨fun m σ H => ∃ env t, Rl K B σ env tp H ∧ wpf K B tp W D0 (whileF mc mb m env) t, ⟨n, env, t, R, w⟩, ?_⟩
  rintro m σ H ⟨env, t, R, w⟩
  cases m with
  | zero => exact wpf_stk w
  | succ m =>
    unfold whileF at w
    refine catT R w fun b t1 H1 R1 w1 => ?_
    cases b with
    | true =>
      refine iteT ⟨fun σ H => ∃ env t, Rl K B σ env tp H ∧ wpf K B tp W D0 (whileF mc mb m env) t, fun σ' H' q => ⟨m, Nat.lt_succ_self _, q⟩, B, env, tp, t1, R1, ?_⟩
      have w1 : wpf K B tp W D0 (seqF (mb env) (whileF mc mb m)) t1 := w1
      unfold seqF at w1
      rw [wpf_bnd] at w1
      refine wpm_mono w1 (fun f t2 w2 => ?_) fun _ _ q => q
      cases f with
      | nx env1 => exact fun σ1 H1 R1 => ⟨env1, t2, R1, w2⟩
      | rt r => exact w2
      | xc x env1 => exact w2
    | false => exact iteF (w1 _ _ R1)
/-- for -/
theorem for_imp {T : Pv.T} {mi : Env → M (List D × Bool)} {mb : Env → M Fl} (h : tS K (fun env => cat (mi env) env fun p => guard (!p.2) (forL (fun x env => bnd (asgM T x env) fun env' => mb env') p.1 env)) W D0 σ H) : tFor (tI K mi W) (gT K T) (tS K mb W) D0 σ H := by
  obtain ⟨B, env, tp, t, R, w⟩ := h
  refine catI R w fun q t1 J H1 R1 hl _ sf w1 => ?_
  obtain ⟨hq, w1⟩ := wpm_guard w1
  have hq : q.2 = false := by cases z : q.2 <;> simp [z] at hq ⊢
  have S := sf hq
  refine ⟨fun i m σ' H' => m = q.1.length - i ∧ i ≤ q.1.length ∧ ∃ env' t', Rl K (fz σ env tp H1) σ' env' tp H' ∧ wpf K B tp W D0 (forL (fun x env => bnd (asgM T x env) fun env' => mb env') (q.1.drop i) env') t', ⟨_, rfl, Nat.zero_le _, env, t1, R1.base, w1⟩, ?_⟩
  rintro i m σ' H' ⟨rfl, hi, env', t', R', w'⟩
  have sF : Same (fz σ env tp H1) H' := R'.le.trans (hide_same _ _)
  by_cases hlt : i < q.1.length
  · refine .inr ⟨Walk.goes S i H' hlt sF, fun σ2 H2 => ∃ env2 t2, Rl K (fz σ env tp H1) σ2 env2 tp H2 ∧ wpf K B tp W D0 (forL (fun x env => bnd (asgM T x env) fun env' => mb env') (q.1.drop (i + 1)) env2) t2, fun σ2 H2 z => ⟨_, by omega, rfl, hlt, z⟩, fun x H2 y => ?_⟩
    obtain ⟨d, ed, hy⟩ := Walk.yields S i H' x H2 hlt sF y
    have hd : q.1.drop i = d :: q.1.drop (i + 1) := by
      obtain ⟨h1, h2⟩ := List.getElem?_eq_some_iff.mp ed
      rw [List.drop_eq_getElem_cons h1, h2]
    rw [hd] at w'
    have step : Rl K (fz σ env tp H1) σ' env' tp H2 ∧ Rep (fz σ' env' tp H2) x d := by
      rcases hy with ⟨rfl, r⟩ | ⟨Ta, us, ds, rfl, hn, rfl, rfl, r⟩
      · exact ⟨R', r.mono R'.le⟩
      · exact ⟨R'.alloc hn, .tup (R'.at_ hn) ((r.mono R'.le).mono (fz_upd hn))⟩
    obtain ⟨R2, r2⟩ := step
    have w' : wpf K B tp W D0 (seqF (bnd (asgM T d env') fun env' => mb env') (forL (fun x env => bnd (asgM T x env) fun env' => mb env') (q.1.drop (i + 1)))) t' := w'
    unfold seqF at w'
    rw [wpf_bnd, wpm_bnd] at w'
    obtain ⟨env2, e2, w'⟩ := asgM_of w'
    refine gT_any T d x σ' env' env2 _ R2 r2 e2 fun σ2 R3 _ => ?_
    refine ⟨fz σ env tp H1, env2, tp, t', R3, wpm_mono w' (fun f t2 w2 => ?_) fun _ _ q => q⟩
    cases f with
    | nx env3 => exact fun σ3 H3 R4 => ⟨env3, t2, R4, w2⟩
    | rt r => exact fun v H3 P => w2 v H3 (PostC.down P R1.le)
    | xc x env3 => exact fun σ3 H3 R4 => w2 σ3 H3 (R4.down R1.le)
  · have e : i = q.1.length := by omega
    subst e
    rw [List.drop_length] at w'
    exact .inl ⟨Walk.stops S H' sF, w' _ _ (R'.down R1.le)⟩
end
end Pv
/-! Pv19: every statement's code is sound. -/
namespace Pv
open PySem PySem.Spec PyProof.Rows L2
section
variable {X : Cx} {S : SC} {W : WN} {G : GS} {ca : Str → Addr} {Φ : Str → List Vv → M RV} {is : Str → Str → Bool} {n : Nat}
theorem Gd.tr (D : Gd Φ G ca X) {pn : List (Addr × Obj)} {xe : Value → Shared → Prop} : Gd Φ G ca (X.tr pn xe) := ⟨D.calm, D.hu, D.free, D.cns, D.fns⟩
theorem Gx.tr (D : Gx G is ca X) {pn : List (Addr × Obj)} {xe : Value → Shared → Prop} : Gx G is ca (X.tr pn xe) := ⟨D.exc, D.exm⟩
theorem Bd.tr (C : Bd S X) {pn : List (Addr × Obj)} {xe : Value → Shared → Prop} (hp : PassesOwn (model X.prog X.w) X.A X.env xe) : Bd S (X.tr pn xe) := ⟨⟨C.hN, C.hS, C.nd⟩, C.fnc, hp, C.hs, C.hf, C.hk⟩
theorem ps_raiM {x m : Str} {j : Nat} {p p2 p3 pos : Pos} (D : Gd Φ G ca X) (D2 : Gx G is ca X) (tk : Takes X (wx ca W)) (hg : Gl X x) (hd : (x == ("__debug__" : Str)) = false) (he : G.exc.contains x = true) :
    PS X (.Raise (some (.Call (.Name x p) [.Constant (.str m) j p2] [] p3)) none pos) (tS X.K (fun env => ret (.xc x env)) W) := by
  obtain ⟨B, newId, initId, bmB, F, h1, h2, h3, h4⟩ := D2.exc x he
  refine ps_imp (ps_raise D.calm tk (pmk_own F h1 h2 h3 h4 hg hd)) fun D0 σ H ⟨B, env, tp, t, R, w⟩ => ?_
  exact ⟨x, rfl, rfl, w σ H R⟩
/-- the clauses' readings -/
def hTs (ca : Str → Addr) : List (Str × Nat × Str) → List (Value × (Addr → Value → Option Addr → TS))
  | [] => []
  | (x, i, z) :: r => (.ref (ca x), fun _ _ _ => tAsg (tC (.str z)) (gName i)) :: hTs ca r
theorem hds_ok (C : Bd S X) (D2 : Gx G is ca X) : ∀ {hs : List ExceptHandler} {l : List (Str × Nat × Str)}, hdOf S G.exc hs = some l → HdsOk X hs (hTs ca l) ∧ ∀ h ∈ l, G.exc.contains h.1 = true
  | [], l, h => by cases h; exact ⟨.nil, fun _ h => nomatch h⟩
  | hd :: hs, l, h => by
    unfold hdOf at h
    split at h
    · rename_i e
      cases e
    · rename_i x p y p2 z k p3 p4 p5 hs' e
      cases e
      split at h <;> first | (cases h; done) | skip
      rename_i q
      obtain ⟨q1, q2, q3⟩ := q
      split at h <;> first | (cases h; done) | skip
      rename_i i r e1 e2
      split at h <;> first | (cases h; done) | skip
      cases h
      obtain ⟨g1, g2⟩ := hds_ok C D2 e2
      obtain ⟨B, newId, initId, bmB, F, h1, h2, h3, h4⟩ := D2.exc x q2
      refine ⟨.cons ⟨C.toCn.gl q1, (gl_of q1).2, .inl h2⟩ (fun a oe cls d pn _ _ => ?_) g1, fun h hh => ?_⟩
      · exact pss_one (ps_set (X := X.suite a ((a, oe) :: pn)) C.hN' (by show X.N[i]? = some y; rw [C.hN]; exact idx_get e1) (C.loc q3) pe_str (by rfl) (C.fn q3))
      · rcases List.mem_cons.mp hh with rfl | hh
        · exact q2
        · exact g2 h hh
    · cases h
theorem find_try {x : Str} {env : Env} {K : PySem.W.Frag} {B H : Hp} {σ : L2.St} {tp : Tp} {D0 : Ends} (hm : ∀ y, G.exc.contains y = true → PySem.W.exmOne K (.ref (ca x)) (.ref (ca y)) = some (is x y)) (R : Rl K B σ env tp H) : ∀ (l : List (Str × Nat × Str)), (∀ h ∈ l, G.exc.contains h.1 = true) → EndF K B tp W D0 (catchH l is x env) → wMany K (wx ca W) D0 (hTs ca l) (.ref (ca x)) none σ H
  | [], _, q => ⟨x, rfl, rfl, q σ H R⟩
  | (y, i, z) :: l, hl, q => by
    refine ⟨is x y, hm y (hl _ List.mem_cons_self), fun hb a ha => ?_, fun hb => ?_⟩
    · unfold catchH at q
      rw [List.find?_cons_of_pos (by exact hb)] at q
      have q : ∀ σ H, Rl K B σ (env.set i (.val (.d (.str z)))) tp H → D0.nx σ H := q
      show D0.nx (σ.set i (some (.str z))) H
      exact q _ _ (R.wr i (some (.str z)) (.val (.d (.str z))) rfl ⟨_, rfl, .str _⟩).1
    · refine find_try hm R l (fun h hh => hl h (List.mem_cons_of_mem _ hh)) ?_
      unfold catchH at q ⊢
      rw [List.find?_cons_of_neg (by rw [hb]; decide)] at q
      exact q
theorem ps_tryM {b : List Stmt} {hs : List ExceptHandler} {l : List (Str × Nat × Str)} {pos : Pos} {mb : Env → M Fl} (C : Bd S X) (D2 : Gx G is ca X) (tk : Takes X (wx ca W)) (h : hdOf S G.exc hs = some l) (hne : l.isEmpty = false)
    (hb : ∀ (W : WN) (pn : List (Addr × Obj)) (xe : Value → Shared → Prop), Takes (X.tr pn xe) (wx ca W) → PassesOwn (model X.prog X.w) X.A X.env xe → PSs (X.tr pn xe) b (tS X.K mb W)) :
    PS X (.Try b hs [] [] pos) (tS X.K (fun env => tryM (mb env) l is) W) := by
  obtain ⟨h1, h2⟩ := hds_ok C D2 h
  cases hs with
  | nil => cases h; cases hne
  | cons h0 hs =>
    refine ps_imp (ps_try_many (tb := fun W' => tS X.K mb fun x σ H => W' (.ref (ca x)) none σ H) C.hs C.hf tk (fun W' pn xe tk' hp => ?_) h1) fun D0 σ H ⟨B, env, tp, t, R, w⟩ => ?_
    · refine hb _ pn xe (tk'.imp fun c d σ H q => ?_) hp
      obtain ⟨x, rfl, rfl, q⟩ := q
      exact q
    · refine ⟨B, env, tp, t, R, ?_⟩
      unfold tryM at w
      rw [wpf_bnd] at w
      refine wpm_mono w (fun f t1 w1 => ?_) fun _ _ q => q
      cases f with
      | nx env1 => exact w1
      | rt r => exact w1
      | xc x env1 =>
        obtain ⟨hz, w1⟩ := wpm_guard w1
        exact fun σ1 H1 R1 => find_try (fun y hy => D2.exm x y hz hy) R1 l h2 w1
/-! ### assignments of values -/
theorem far_sw {x : Str} {px : Pos} {e : Expr} {l : Nat} (C : Bd S X) (h : lcFar x px S.sc e = true) : swapsWith e (some (.Name x px)) l X.env = pure false := by
  cases e <;> first | rfl | (simp [lcFar] at h; done) | skip
  rename_i elt gs scope pos
  unfold lcFar at h
  unfold swapsWith
  show (pure _ : Sem Bool) = pure false
  congr 1
  show (X.env.blockKind == .function && X.env.scope.names.lookup x == some .local && px.line == pos.line && !(scope.names.any fun (n, k) => n == x && (k == .local || k == .cell))) = false
  rw [C.hS]
  simp only [Bool.or_eq_true, Bool.not_eq_true', decide_eq_false_iff_not] at h
  rcases h with (h | h) | h
  · have : (List.lookup x S.sc.names == some NameKind.local) = false := by
      cases q : (List.lookup x S.sc.names == some NameKind.local) with
      | false => rfl
      | true => exact absurd (by simpa using q) h
    rw [this]
    simp
  · rw [h]; simp
  · rw [h]; simp

theorem lc_imp {K : PySem.W.Frag} {T : Pv.T} {mi : Env → M (List D × Bool)} {me : Env → M RV} {mc : Option (Env → M Bool)} {vs : List Nat} (hv : ∀ i ∈ tN T, i ∈ vs) {σ : L2.St} {H : Hp} {Q : VK}
    (q : tE K (fun env => bnd (mi env) fun p => guard (wipeOk env vs) (bnd (lcL (lcF T me mc env vs) p.1) fun ys => ret (.fr (.lst ys)))) W σ H Q) : tLc (tI K mi W) (gT K T) (tTo K mc) (tE K me WF) vs σ H Q := by
  obtain ⟨B, env, tp, t, R, w⟩ := q
  rw [wpm_bnd] at w
  refine ⟨B, env, tp, t, R, wpm_mono w (fun p t1 w1 J H1 R1 hl sb _ Da hD => ?_) fun _ _ q => q⟩
  obtain ⟨hz, w1⟩ := wpm_guard w1
  rw [wpm_bnd] at w1
  exact lc_run R1 hv hz sb hl w1 Da hD
theorem ps_lcSet (P : SndE Φ G ca n) (C : Bd S X) (D : Gd Φ G ca X) (tk : Takes X (wx ca W)) {x : Str} {px p pos : Pos} {i : Nat} {elt : Expr} {gs : List Comprehension} {scope : Scope} {c : E} (hi : idx x S.N = some i) (hl : lcLine x px S.sc (.ListComp elt gs scope p) = true) (h : compE G S (n + 1) (.ListComp elt gs scope p) = some c) :
    PS X (.Assign [.Name x px] (.ListComp elt gs scope p) pos) (tAsg (tE X.K (ev Φ c) W) (gName i)) := by
  have nif : ∀ {a : Expr}, ¬ isIfE a = true → isIfE a = false := fun {a} h => by cases q : isIfE a <;> simp [q] at h ⊢
  unfold lcLine at hl
  simp only [Bool.and_eq_true, decide_eq_true_eq, Bool.not_eq_true'] at hl
  obtain ⟨⟨l1, l2⟩, l3⟩ := hl
  have l1' : X.env.scope.names.lookup x = some .local := by rw [C.hS]; exact l1
  have hNi : X.N[i]? = some x := by rw [C.hN]; exact idx_get hi
  have hsw : swapsWith (.ListComp elt gs scope p) (some (.Name x px)) pos.line X.env = pure true := sw_true C.hk l1' l2 l3
  unfold compE at h
  split at h
  all_goals (rename_i q; first | (cases q; done) | skip)
  · cases q
    split at h
    · rename_i own ho
      split at h
      · rename_i hb
        rw [Bool.and_eq_true] at hb
        split at h <;> first | (cases h; done) | skip
        rename_i t i x e1 e2 e3
        split at h
        · cases h
        rename_i hnt
        have hnt : needsTup i = true → isTupE _ = true := fun q => by
          cases q' : isTupE _ with
          | true => rfl
          | false => exact absurd (by rw [q, q']; rfl) hnt
        obtain ⟨hi, hs⟩ := P.i C.toCn D tk _ _ i e2 hnt
        have hv : ∀ j ∈ tN t, j ∈ own.map (·.2) := tN_own (S := S.blk scope) _ t e1 (ownL_spec ho)
        have ok : BlkOk X.N X.env.scope scope own := by rw [C.hN, C.hS]; exact blkOk_by hb.1
        have hg : ∀ (s : Shared) (H : Hp) (Ca : Addr) (cl : List (Str × Addr)) (fp : List Addr), PG (X.blk s H scope (compEnvC scope cl Ca X.env) fp) _ (gT X.K t) := fun s H Ca cl fp => pg_T C.toCn.blk D.calm _ t e1 fun z hz => by
          have q := List.all_eq_true.mp hb.2 z hz
          rcases loc_of q with q | q
          · refine .inr ?_
            show (relS scope X.env.scope).names.lookup z = some .local
            exact lookup_relS_keep (by decide) q
          · refine .inl ?_
            show (scope.names.lookup z == some .cell) = true
            rw [q]; rfl
        have he : ∀ (s : Shared) (H : Hp) (Ca : Addr) (cl : List (Str × Addr)) (fp : List Addr), PE (X.blk s H scope (compEnvC scope cl Ca X.env) fp) _ (tE X.K (ev Φ x) WF) := fun s H Ca cl fp => P.e C.toCn.blk D.blk blk_takes _ x e3
        split at h
        · cases h
          exact ps_imp (ps_setLc D.calm C.hN' hNi l1' hsw hi ok hg (fun s H Ca cl fp => pts_nil) he (fold_set hs _)) fun D0 σ H q => lc_imp (mc := none) hv q
        · rename_i c1
          split at h
          · cases h
          rename_i hif
          obtain ⟨y, hy, rfl⟩ := Option.map_eq_some_iff.mp h
          exact ps_imp (ps_setLc D.calm C.hN' hNi l1' hsw hi ok hg (fun s H Ca cl fp => pts_one (P.t C.toCn.blk D.blk blk_takes c1 y (nif hif) hy)) he (fold_set hs _)) fun D0 σ H q => lc_imp (mc := some fun env => bnd (ev Φ y env) truR) hv q
        · cases h
      · cases h
    · cases h
  · cases h
theorem ps_setM (P : SndE Φ G ca n) (P' : ∀ m, n = m + 1 → SndE Φ G ca m) (C : Bd S X) (D : Gd Φ G ca X) (tk : Takes X (wx ca W)) {x : Str} {px pos : Pos} {i : Nat} {e : Expr} {c : E} (hl : locB S.sc x = true) (hi : idx x S.N = some i) (hf : (lcFar x px S.sc e || lcLine x px S.sc e) = true) (h : compE G S n e = some c) :
    PS X (.Assign [.Name x px] e pos) (tAsg (tE X.K (ev Φ c) W) (gName i)) := by
  rcases Bool.or_eq_true_iff.mp hf with hf | hf
  · exact ps_set C.hN' (by rw [C.hN]; exact idx_get hi) (C.loc hl) (P.e C.toCn D tk e c h) (far_sw C hf) (C.fn hl)
  · cases n with
    | zero => cases h
    | succ m =>
      cases e <;> first | (cases hf; done) | skip
      exact ps_lcSet (P' m rfl) C D tk hi hf h
theorem sole_tup {ts : List Expr} {k : Nat} {p : Pos} {e : Expr} {l : Nat} {env : PySem.Env} : swapsWithSole [.Tuple ts k p] e l env = pure false := by
  cases e <;> rfl
theorem sole_sub {a b : Expr} {p : Pos} {e : Expr} {l : Nat} {env : PySem.Env} : swapsWithSole [.Subscript a b p] e l env = pure false := by
  cases e <;> rfl
theorem sole_name {x : Str} {px : Pos} {e : Expr} {l : Nat} {env : PySem.Env} (h : swapsWith e (some (.Name x px)) l env = pure false) : swapsWithSole [.Name x px] e l env = pure false := h
theorem parN_spec {sc : Scope} {line : Nat} {env : PySem.Env} (he : env.scope = sc) (hk : sc.kind = .function) : ∀ {ts : List Expr} {ns : List Str}, parNames sc line ts = some ns → (ts.filterMap fun
    | .Name id pos => if (env.kindOf id == some .local && pos.line == line) = true then some id else none
    | _ => none) = ns ∧ ns.length = ts.length
  | [], ns, h => by cases h; exact ⟨rfl, rfl⟩
  | t :: ts, ns, h => by
    unfold parNames at h
    split at h
    · rename_i q; cases q
    · rename_i x p es q
      cases q
      split at h <;> first | (cases h; done) | skip
      rename_i z
      obtain ⟨ns', h', rfl⟩ := Option.map_eq_some_iff.mp h
      obtain ⟨g1, g2⟩ := parN_spec he hk h'
      refine ⟨?_, congrArg (· + 1) g2⟩
      have ky : (env.kindOf x == some .local && p.line == line) = true := by
        show (env.scope.names.lookup x == some .local && p.line == line) = true
        rw [he, z.1, z.2]; rfl
      rw [List.filterMap_cons]
      simp only [ky, if_true, g1]
    · cases h

theorem star_any {vs : List Expr} (h : (vs.all fun e => !isStarE e) = true) : (vs.any fun | .Starred .. => true | _ => false) = false := by
  induction vs with
  | nil => rfl
  | cons v vs ih =>
    rw [List.all_cons, Bool.and_eq_true] at h
    rw [List.any_cons, ih h.2, Bool.or_false]
    cases v <;> first | rfl | (simp [isStarE] at h)
theorem sw_some {ts vs : List Expr} {k k2 : Nat} {pt pt2 : Pos} {ns : List Str} (C : Bd S X) (h : swOf S.sc ts vs = some ns) (nv : (vs.all fun e => !isStarE e) = true) :
    swappedStores [.Tuple ts k pt] (.Tuple vs k2 pt2) X.env = pure (some ns) ∧ parNames S.sc ((ts.head?.map (·.pos.line)).getD 0) ts = some ns ∧ ns.length = ts.length ∧ (ts.length = 2 ∨ ts.length = 3) ∧ vs.length = ts.length ∧ ns.eraseDups.length = ns.length := by
  unfold swOf at h
  split at h <;> first | (cases h; done) | skip
  rename_i h1
  split at h <;> first | (cases h; done) | skip
  rename_i ns' h2
  split at h <;> first | (cases h; done) | skip
  rename_i h3
  split at h <;> first | (cases h; done) | skip
  rename_i h4
  split at h <;> first | (cases h; done) | skip
  rename_i h5
  cases h
  have hk' : S.sc.kind = .function := by rw [← C.hS]; exact C.hk
  obtain ⟨g1, g2⟩ := parN_spec C.hS hk' h2
  have hb : X.env.blockKind = .function := by unfold PySem.Env.blockKind; rw [C.hk]; rfl
  have a1 : (!(ts.length == 2 || ts.length == 3) || vs.length != ts.length || X.env.blockKind != .function) = false := by
    rw [hb]
    cases q : (!(ts.length == 2 || ts.length == 3) || vs.length != ts.length) with
    | true => exact absurd q h1
    | false => rfl
  have h1' : (!(ts.length == 2 || ts.length == 3) || vs.length != ts.length) = false := by
    cases q : (!(ts.length == 2 || ts.length == 3) || vs.length != ts.length) with
    | true => exact absurd q h1
    | false => rfl
  simp only [Bool.or_eq_false_iff, Bool.not_eq_false', Bool.or_eq_true, beq_iff_eq, bne_eq_false_iff_eq] at h1'
  have h3' : (ns.eraseDups.length != ns.length) = false := by
    cases q : (ns.eraseDups.length != ns.length) with
    | true => exact absurd q h3
    | false => rfl
  have a3 : (ns.length != ts.length || ns.eraseDups.length != ns.length) = false := by
    rw [h3', g2]; simp
  refine ⟨?_, h2, g2, h1'.1, h1'.2, by simpa using h3'⟩
  have a3' := a3
  rw [← g1] at a3'
  unfold swappedStores
  refine (if_neg (fun z => Bool.false_ne_true (a1.symm.trans z))).trans ?_
  refine (if_neg (fun z => Bool.false_ne_true ((star_any nv).symm.trans z))).trans ?_
  refine (if_neg (fun z => Bool.false_ne_true (a3'.symm.trans z))).trans ?_
  refine (if_neg h4).trans ?_
  refine (if_neg h5).trans ?_
  exact congrArg (fun q => (pure (some q) : Sem (Option (List Str)))) g1
theorem parN_less {sc : Scope} {line : Nat} {env : PySem.Env} (he : env.scope = sc) : ∀ {ts : List Expr}, parNames sc line ts = none → (ts.filterMap fun
    | .Name id pos => if (env.kindOf id == some .local && pos.line == line) = true then some id else none
    | _ => none).length < ts.length
  | [], h => by cases h
  | t :: ts, h => by
    rw [List.filterMap_cons]
    have le : ∀ l : List Expr, (l.filterMap fun
      | .Name id pos => if (env.kindOf id == some .local && pos.line == line) = true then some id else none
      | _ => none).length ≤ l.length := fun l => List.length_filterMap_le _ _
    cases t with
    | Name x p =>
      unfold parNames at h
      split at h
      · rename_i z
        have ky : (env.kindOf x == some .local && p.line == line) = true := by
          show (env.scope.names.lookup x == some .local && p.line == line) = true
          rw [he, z.1, z.2]; rfl
        have h' : parNames sc line ts = none := by
          cases q : parNames sc line ts with
          | none => rfl
          | some v => rw [q] at h; cases h
        simp only [ky, if_true]
        exact Nat.succ_lt_succ (parN_less he h')
      · rename_i z
        have ky : (env.kindOf x == some .local && p.line == line) = false := by
          show (env.scope.names.lookup x == some .local && p.line == line) = false
          rw [he]
          cases q : (List.lookup x sc.names == some NameKind.local && p.line == line) with
          | false => rfl
          | true => exact absurd (by simpa using q) (by simpa using z)
        simp only [ky]
        exact Nat.lt_succ_of_le (le ts)
    | _ => exact Nat.lt_succ_of_le (le ts)
theorem sw_none {ts vs : List Expr} {k k2 : Nat} {pt pt2 : Pos} (C : Bd S X) (h : noSw S.sc ts vs = true) (nv : (vs.all fun e => !isStarE e) = true) : swappedStores [.Tuple ts k pt] (.Tuple vs k2 pt2) X.env = pure none := by
  unfold noSw at h
  by_cases h1 : (!(ts.length == 2 || ts.length == 3) || vs.length != ts.length || X.env.blockKind != .function) = true
  · unfold swappedStores
    exact if_pos h1
  · have h1' : ¬ (!(ts.length == 2 || ts.length == 3) || vs.length != ts.length) = true := fun z => h1 (by rw [z]; rfl)
    rw [if_neg h1'] at h
    have hk' : S.sc.kind = .function := by rw [← C.hS]; exact C.hk
    unfold swappedStores
    refine (if_neg h1).trans ?_
    refine (if_neg (fun z => Bool.false_ne_true ((star_any nv).symm.trans z))).trans ?_
    split at h
    · rename_i ns h2
      obtain ⟨g1, g2⟩ := parN_spec C.hS hk' h2
      rcases Bool.or_eq_true_iff.mp h with h | h
      · refine if_pos ?_
        have a3 : (ns.length != ts.length || ns.eraseDups.length != ns.length) = true := by rw [h, Bool.or_true]
        rw [← g1] at a3
        exact a3
      · by_cases h3 : (ns.length != ts.length || ns.eraseDups.length != ns.length) = true
        · rw [← g1] at h3
          exact if_pos h3
        · rw [← g1] at h3
          refine (if_neg h3).trans (if_pos h)
    · rename_i h2
      refine if_pos ?_
      have key := parN_less C.hS h2
      exact Bool.or_eq_true_iff.mpr (.inl (bne_iff_ne.mpr (Nat.ne_of_lt key)))
theorem sw_non {ts : List Expr} {e : Expr} {k : Nat} {pt : Pos} {env : PySem.Env} (h : isTupE e = false) : swappedStores [.Tuple ts k pt] e env = pure none := by
  cases e <;> first | rfl | (simp [isTupE] at h)
end
end Pv
/-! Pv20: statements of any depth; defs. -/
namespace Pv
open PySem PySem.Spec PyProof.Rows L2
structure SndS (Φ : Str → List Vv → M RV) (G : GS) (is : Str → Str → Bool) (ca : Str → Addr) (n : Nat) : Prop where
  s : ∀ {X : Cx} {S : SC} {W : WN}, Bd S X → Gd Φ G ca X → Gx G is ca X → Takes X (wx ca W) → ∀ (st : Stmt) (c : Pv.S), compS G S n st = some c → PS X st (tS X.K (ex Φ is c) W)
  b : ∀ {X : Cx} {S : SC} {W : WN}, Bd S X → Gd Φ G ca X → Gx G is ca X → Takes X (wx ca W) → ∀ (sts : List Stmt) (c : List Pv.S), compB' G S n sts = some c → PSs X sts (tS X.K (exB Φ is c) W)
section
variable {X : Cx} {S : SC} {W : WN} {G : GS} {ca : Str → Addr} {Φ : Str → List Vv → M RV} {is : Str → Str → Bool} {n : Nat}
theorem ownV_of {x : Str} {i : Nat} (h : ownV S x = some i) : visB S.sc x = true ∧ idx x S.N = some i := by
  unfold ownV at h
  split at h <;> first | (cases h; done) | skip
  rename_i hv
  split at h <;> first | (cases h; done) | skip
  rename_i j hj
  split at h <;> first | (cases h; done) | skip
  cases h
  exact ⟨hv, hj⟩
theorem pe_popM {y : Str} {j : Nat} {p apos cpos : Pos} (C : Bd S X) (h : ownV S y = some j) (hl : (apos.endLine == cpos.line) = true) : PE X (.Call (.Attribute (.Name y p) "pop" apos) [] [] cpos) (tBM0 X.K "list" rPop (tOwn j)) := by
  obtain ⟨h1, h2⟩ := ownV_of h
  exact pe_bm0 PySem.F.plainAttrs_list PySem.F.slot_list_pop PySem.F.type_list_pop mt_pop (pe_own C h1 h2) (by rfl) hl
theorem pe_popkM {y : Str} {j : Nat} {p apos cpos : Pos} {k : Expr} {mk : Env → M RV} (C : Bd S X) (h : ownV S y = some j) (hl : (apos.endLine == cpos.line) = true) (hk : PE X k (tE X.K mk W)) (na : isStarE k = false) :
    PE X (.Call (.Attribute (.Name y p) "pop" apos) [k] [] cpos) (tBM X.K "list" rPopAt (tOwn j) (tCons (tE X.K mk W) tNil)) := by
  obtain ⟨h1, h2⟩ := ownV_of h
  exact pe_bm PySem.F.plainAttrs_list PySem.F.slot_list_pop PySem.F.type_list_pop mt_popAt (pe_own C h1 h2) (pa_cons hk pa_nil (star_cons na)) (by rfl) (by rw [star_cons na]; rfl) hl (star_cons na) (by rfl)
theorem popOf_none {e : Expr} {j : Nat} (h : popOf S e = some (j, none)) : ∃ y p apos cpos, e = .Call (.Attribute (.Name y p) "pop" apos) [] [] cpos ∧ ownV S y = some j ∧ (apos.endLine == cpos.line) = true := by
  unfold popOf at h
  split at h
  · split at h <;> first | (cases h; done) | skip
    rename_i z
    obtain ⟨rfl, z⟩ := z
    obtain ⟨j', hj, e⟩ := Option.map_eq_some_iff.mp h
    cases e
    exact ⟨_, _, _, _, rfl, hj, z⟩
  · split at h <;> first | (cases h; done) | skip
    obtain ⟨j', hj, e⟩ := Option.map_eq_some_iff.mp h
    cases e
  · cases h
theorem popOf_some {e k : Expr} {j : Nat} (h : popOf S e = some (j, some k)) : ∃ y p apos cpos, e = .Call (.Attribute (.Name y p) "pop" apos) [k] [] cpos ∧ ownV S y = some j ∧ (apos.endLine == cpos.line) = true ∧ isStarE k = false := by
  unfold popOf at h
  split at h
  · split at h <;> first | (cases h; done) | skip
    obtain ⟨j', hj, e⟩ := Option.map_eq_some_iff.mp h
    cases e
  · split at h <;> first | (cases h; done) | skip
    rename_i z
    obtain ⟨rfl, z, z2⟩ := z
    obtain ⟨j', hj, e⟩ := Option.map_eq_some_iff.mp h
    cases e
    exact ⟨_, _, _, _, rfl, hj, z, z2⟩
  · cases h
theorem compT_nm {t : Pv.T} {ts : List Expr} {k : Nat} {p : Pos} (h : compT S (.Tuple ts k p) = some t) : ∀ i, t ≠ .nm i := by
  unfold compT at h
  obtain ⟨us, _, rfl⟩ := Option.map_eq_some_iff.mp h
  intro i e
  cases e
mutual
theorem tg_loc : ∀ (e : Expr) (t : Pv.T), compT S e = some t → ∀ x ∈ tgN e, locB S.sc x = true
  | .Name x p, t, h, y, hy => by
    unfold compT at h
    split at h <;> first | (cases h; done) | skip
    rename_i hl
    have : y = x := by simpa [tgN] using hy
    rw [this]; exact hl
  | .Tuple es k p, t, h, y, hy => by
    unfold compT at h
    obtain ⟨ts, hts, rfl⟩ := Option.map_eq_some_iff.mp h
    exact tgs_loc es ts hts y hy
  | .Constant .., _, h, _, _ => by cases h
  | .BoolOp .., _, h, _, _ => by cases h
  | .NamedExpr .., _, h, _, _ => by cases h
  | .BinOp .., _, h, _, _ => by cases h
  | .UnaryOp .., _, h, _, _ => by cases h
  | .Lambda .., _, h, _, _ => by cases h
  | .IfExp .., _, h, _, _ => by cases h
  | .Dict .., _, h, _, _ => by cases h
  | .Set .., _, h, _, _ => by cases h
  | .ListComp .., _, h, _, _ => by cases h
  | .SetComp .., _, h, _, _ => by cases h
  | .DictComp .., _, h, _, _ => by cases h
  | .GeneratorExp .., _, h, _, _ => by cases h
  | .Await .., _, h, _, _ => by cases h
  | .Yield .., _, h, _, _ => by cases h
  | .YieldFrom .., _, h, _, _ => by cases h
  | .Compare .., _, h, _, _ => by cases h
  | .Call .., _, h, _, _ => by cases h
  | .FormattedValue .., _, h, _, _ => by cases h
  | .JoinedStr .., _, h, _, _ => by cases h
  | .Attribute .., _, h, _, _ => by cases h
  | .Subscript .., _, h, _, _ => by cases h
  | .Starred .., _, h, _, _ => by cases h
  | .List .., _, h, _, _ => by cases h
  | .Slice .., _, h, _, _ => by cases h
theorem tgs_loc : ∀ (es : List Expr) (ts : List Pv.T), compTs S es = some ts → ∀ x ∈ tgNs es, locB S.sc x = true
  | [], ts, h, y, hy => by exact nomatch hy
  | e :: es, ts, h, y, hy => by
    unfold compTs at h
    split at h <;> first | (cases h; done) | skip
    rename_i t ts' e1 e2 e3
    cases h
    unfold tgNs at hy
    rcases List.mem_append.mp hy with hy | hy
    · exact tg_loc e t e2 y hy
    · exact tgs_loc es ts' e3 y hy
end
theorem pg_B (C : Bd S X) (D : Gd Φ G ca X) {e : Expr} {t : Pv.T} (h : compT S e = some t) : PG X e (gT X.K t) := pg_T C.toCn D.calm e t h fun x hx => C.fn (tg_loc e t h x hx)
theorem asg_one {e : Expr} (h : isStarE e = false) (env : PySem.Env) : (assignEach [e] env).map (·.2) = [assign e env] := by
  rw [asgEach_cons h]; rfl
theorem idxs_spec {ow : List Nat} : ∀ {N ns : List Str} {l : List (Nat × Bool)}, idxs N ow ns = some l → l.length = ns.length ∧ ∀ (k : Nat) (x : Str), ns[k]? = some x → ∃ (i : Nat) (b : Bool), l[k]? = some (i, b) ∧ idx x N = some i
  | N, [], l, h => by cases h; exact ⟨rfl, fun k x e => by simp at e⟩
  | N, y :: ys, l, h => by
    unfold idxs at h
    split at h <;> first | (cases h; done) | skip
    rename_i i r e1 e2
    cases h
    obtain ⟨h1, h2⟩ := idxs_spec e2
    refine ⟨congrArg (· + 1) h1, fun k x e => ?_⟩
    cases k with
    | zero => simp at e; subst e; exact ⟨i, _, rfl, e1⟩
    | succ k => exact h2 k x (by simpa using e)
theorem parNames_spec {sc : Scope} {line : Nat} : ∀ {ts : List Expr} {ns : List Str}, parNames sc line ts = some ns → ∀ (k : Nat) (t : Expr), ts[k]? = some t → ∃ (x : Str) (p : Pos), t = .Name x p ∧ ns[k]? = some x ∧ sc.names.lookup x = some .local
  | [], ns, h, k, t, e => by simp at e
  | u :: us, ns, h, k, t, e => by
    unfold parNames at h
    split at h
    · rename_i q; cases q
    · rename_i x p es q
      cases q
      split at h <;> first | (cases h; done) | skip
      rename_i z
      obtain ⟨ns', h', rfl⟩ := Option.map_eq_some_iff.mp h
      cases k with
      | zero => simp at e; subst e; exact ⟨x, p, rfl, rfl, z.1⟩
      | succ k => obtain ⟨x', p', a, b, c⟩ := parNames_spec h' k t (by simpa using e); exact ⟨x', p', a, by simpa using b, c⟩
    · cases h
theorem ps_parM (P : SndE Φ G ca n) (C : Bd S X) (D : Gd Φ G ca X) (tk : Takes X (wx ca W)) {ts vs : List Expr} {k k2 : Nat} {p p2 pos : Pos} {ns : List Str} {l : List (Nat × Bool)} {es : List E} (h : swOf S.sc ts vs = some ns) (hi : idxs S.N S.ow ns = some l) (he : compEs G S n vs = some es)
    (hb : (l.all (fun p => !p.2) && decide (l.map (·.1)).Nodup) = true) : PS X (.Assign [.Tuple ts k p] (.Tuple vs k2 p2) pos) (tS X.K (ex Φ is (.par l es)) W) := by
  obtain ⟨ha, hv⟩ := P.es C.toCn D tk vs es he
  obtain ⟨h1, h2, h3, h4, h5, _⟩ := sw_some (k := k) (k2 := k2) (pt := p) (pt2 := p2) C h hv
  obtain ⟨g1, g2⟩ := idxs_spec hi
  rw [Bool.and_eq_true, decide_eq_true_eq] at hb
  have fl : ∀ q ∈ l, q.2 = false := fun q hq => by
    have := List.all_eq_true.mp hb.1 q hq
    cases z : q.2 <;> simp [z] at this ⊢
  rcases h4 with h4 | h4
  · match ts, vs, h4, h5 with
    | [t1, t2], [v1, v2], _, _ =>
      obtain ⟨x, px, rfl, n1, l1⟩ := parNames_spec h2 0 t1 rfl
      obtain ⟨y, py, rfl, n2, l2⟩ := parNames_spec h2 1 t2 rfl
      obtain ⟨i, b1, e1, i1⟩ := g2 0 x n1
      obtain ⟨j, b2, e2, i2⟩ := g2 1 y n2
      have hl : l.length = 2 := g1.trans h3
      match l, hl with
      | [q1, q2], _ =>
        simp at e1 e2
        subst e1 e2
        cases (show b1 = false from fl (i, b1) (by simp))
        cases (show b2 = false from fl (j, b2) (by simp))
        match ns, h3 with
        | [x', y'], _ =>
          simp at n1 n2
          subst n1 n2
          have nd : i ≠ j := by have := hb.2; simp at this; exact this
          exact ps_imp (ps_par D.calm C.hN' (by rw [C.hN]; exact idx_get i1) (by rw [C.hN]; exact idx_get i2) nd (by rw [C.hS]; exact l1) (by rw [C.hS]; exact l2) ha h1 sole_tup) fun D0 σ H q => par2_imp q
  · match ts, vs, h4, h5 with
    | [t1, t2, t3], [v1, v2, v3], _, _ =>
      obtain ⟨x, px, rfl, n1, l1⟩ := parNames_spec h2 0 t1 rfl
      obtain ⟨y, py, rfl, n2, l2⟩ := parNames_spec h2 1 t2 rfl
      obtain ⟨z, pz, rfl, n3, l3⟩ := parNames_spec h2 2 t3 rfl
      obtain ⟨i, b1, e1, i1⟩ := g2 0 x n1
      obtain ⟨j, b2, e2, i2⟩ := g2 1 y n2
      obtain ⟨m, b3, e3, i3⟩ := g2 2 z n3
      have hl : l.length = 3 := g1.trans h3
      match l, hl with
      | [q1, q2, q3], _ =>
        simp at e1 e2 e3
        subst e1 e2 e3
        cases (show b1 = false from fl (i, b1) (by simp))
        cases (show b2 = false from fl (j, b2) (by simp))
        cases (show b3 = false from fl (m, b3) (by simp))
        match ns, h3 with
        | [x', y', z'], _ =>
          simp at n1 n2 n3
          subst n1 n2 n3
          have nd : (i ≠ j ∧ i ≠ m) ∧ j ≠ m := by have := hb.2; simp at this; exact this
          exact ps_imp (ps_par3 D.calm C.hN' (by rw [C.hN]; exact idx_get i1) (by rw [C.hN]; exact idx_get i2) (by rw [C.hN]; exact idx_get i3) nd.1.1 nd.1.2 nd.2 (by rw [C.hS]; exact l1) (by rw [C.hS]; exact l2) (by rw [C.hS]; exact l3) ha h1 sole_tup) fun D0 σ H q => par3_imp q
theorem notcomp_sw {e : Expr} (h : isCompE e = false) (t : Option Expr) (l : Nat) (env : PySem.Env) : swapsWith e t l env = pure false := by
  cases e <;> first | rfl | (simp [isCompE] at h)
theorem snd_s (P : SndE Φ G ca n) (P' : ∀ m, n = m + 1 → SndE Φ G ca m) (Q : SndS Φ G is ca n) (C : Bd S X) (D : Gd Φ G ca X) (D2 : Gx G is ca X) (tk : Takes X (wx ca W)) (st : Stmt) (c : Pv.S) (h : compS G S (n + 1) st = some c) : PS X st (tS X.K (ex Φ is c) W) := by
  have nif : ∀ {a : Expr}, ¬ isIfE a = true → isIfE a = false := fun {a} h => by cases q : isIfE a <;> simp [q] at h ⊢
  have nst : ∀ {a : Expr}, ¬ isStarE a = true → isStarE a = false := fun {a} h => by cases q : isStarE a <;> simp [q] at h ⊢
  have nco : ∀ {a : Expr}, ¬ isCompE a = true → isCompE a = false := fun {a} h => by cases q : isCompE a <;> simp [q] at h ⊢
  unfold compS at h
  split at h
  · -- name = e
    rename_i x px e pos
    split at h <;> first | (cases h; done) | skip
    rename_i z
    split at h
    · rename_i i j hi hp
      split at h <;> first | (cases h; done) | skip
      cases h
      obtain ⟨y, p, apos, cpos, rfl, hj, hl⟩ := popOf_none hp
      exact ps_imp (ps_asg (pe_popM C hj hl) (pg_name C.hN' (by rw [C.hN]; exact idx_get hi) (C.loc z.1) (C.fn z.1)) (by rfl) (by rfl) (by rfl)) fun D0 σ H q => pop_imp q
    · rename_i i j k hi hp
      split at h <;> first | (cases h; done) | skip
      obtain ⟨ck, hk, rfl⟩ := Option.map_eq_some_iff.mp h
      obtain ⟨y, p, apos, cpos, rfl, hj, hl, na⟩ := popOf_some hp
      exact ps_imp (ps_asg (pe_popkM C hj hl (P.e C.toCn D tk k ck hk) na) (pg_name C.hN' (by rw [C.hN]; exact idx_get hi) (C.loc z.1) (C.fn z.1)) (by rfl) (by rfl) (by rfl)) fun D0 σ H q => popk_imp q
    · rename_i i hi hp
      obtain ⟨ce, hce, rfl⟩ := Option.map_eq_some_iff.mp h
      have base := ps_setM (pos := pos) P P' C D tk z.1 hi z.2 hce
      split
      · exact ps_imp base fun D0 σ H q => setO_imp q
      · exact ps_imp base fun D0 σ H q => set_imp q
    · cases h
  · rename_i ts k p vs k2 p2 pos
    split at h
    · rename_i ns hns
      split at h <;> first | (cases h; done) | skip
      rename_i l es e1 e2
      split at h <;> first | (cases h; done) | skip
      rename_i hb
      cases h
      exact ps_parM P C D tk hns e1 e2 hb
    · split at h <;> first | (cases h; done) | skip
      rename_i hno
      split at h <;> first | (cases h; done) | skip
      rename_i t z e1 e2
      cases h
      have hv : (vs.all fun e => !isStarE e) = true := by
        cases n with
        | zero => cases e2
        | succ m =>
          unfold compE at e2
          obtain ⟨cs, hcs, _⟩ := Option.map_eq_some_iff.mp e2
          exact ((P' m rfl).es C.toCn D tk vs cs hcs).2
      exact ps_imp (ps_asg (P.e C.toCn D tk _ z e2) (pg_B C D e1) sole_tup (sw_none C hno hv) (asg_one rfl _)) fun D0 σ H q => unp_imp (compT_nm e1) q
  · rename_i ts k p e pos hnt
    have hnt : isTupE e = false := by cases e <;> first | rfl | exact absurd rfl (hnt _ _ _)
    split at h
    · cases h
    split at h
    · rename_i t j e1 hp
      cases h
      obtain ⟨y, p, apos, cpos, rfl, hj, hl⟩ := popOf_none hp
      exact ps_imp (ps_asg (pe_popM C hj hl) (pg_B C D e1) sole_tup (sw_non hnt) (asg_one rfl _)) fun D0 σ H q => pop_imp q
    · rename_i t j a e1 hp
      obtain ⟨ck, hk, rfl⟩ := Option.map_eq_some_iff.mp h
      obtain ⟨y, p, apos, cpos, rfl, hj, hl, na⟩ := popOf_some hp
      exact ps_imp (ps_asg (pe_popkM C hj hl (P.e C.toCn D tk a ck hk) na) (pg_B C D e1) sole_tup (sw_non hnt) (asg_one rfl _)) fun D0 σ H q => popk_imp q
    · rename_i t e1 hp
      obtain ⟨ce, hce, rfl⟩ := Option.map_eq_some_iff.mp h
      exact ps_imp (ps_asg (P.e C.toCn D tk e ce hce) (pg_B C D e1) sole_tup (sw_non hnt) (asg_one rfl _)) fun D0 σ H q => unp_imp (compT_nm e1) q
    · cases h
  · rename_i x p k p2 e pos
    split at h <;> first | (cases h; done) | skip
    rename_i hns
    split at h <;> first | (cases h; done) | skip
    rename_i i y z e1 e2 e3
    cases h
    obtain ⟨h1, h2⟩ := ownV_of e1
    exact ps_imp (ps_asg (P.e C.toCn D tk e z e3) (pg_sub (pe_own C h1 h2) (P.e C.toCn D tk k y e2) set_list (by intro v; cases k <;> first | rfl | (simp [isSliceE] at hns))) sole_sub (by cases e <;> rfl) (asg_one rfl _)) fun D0 σ H q => setIx_imp q
  · rename_i x p e pos
    split at h <;> first | (cases h; done) | skip
    rename_i z
    split at h <;> first | (cases h; done) | skip
    rename_i i ce e1 e2
    split at h <;> first | (cases h; done) | skip
    cases h
    exact ps_imp (ps_aug C.hN' (by rw [C.hN]; exact idx_get e1) (C.loc z.1) (P.e C.toCn D tk e ce e2) ip_add (C.fn z.1)) fun D0 σ H q => aug_imp q
  · rename_i x p m apos args cpos pos
    split at h <;> first | (cases h; done) | skip
    rename_i i hi
    split at h <;> first | (cases h; done) | skip
    rename_i hl
    obtain ⟨h1, h2⟩ := ownV_of hi
    split at h
    · rename_i y p3 m2 apos2 k cpos2
      split at h <;> first | (cases h; done) | skip
      rename_i z
      obtain ⟨rfl, rfl, _⟩ := z
      split at h <;> first | (cases h; done) | skip
      rename_i j hj
      split at h <;> first | (cases h; done) | skip
      rename_i z
      obtain ⟨ck, hk, rfl⟩ := Option.map_eq_some_iff.mp h
      have hp := pe_popkM (p := p3) C hj z.1 (P.e C.toCn D tk k ck hk) z.2.1
      exact ps_imp (ps_expr (pe_bm PySem.F.plainAttrs_list PySem.F.slot_list_append PySem.F.type_list_append mt_append (pe_own C h1 h2) (pa_cons hp pa_nil (by rfl)) (by rfl) (by rfl) hl (by rfl) (by rfl)) (by rfl)) fun D0 σ H q => appPop_imp q
    · rename_i a _
      split at h
      · cases h
      rename_i na
      split at h
      · rename_i e
        subst e
        obtain ⟨ck, hk, rfl⟩ := Option.map_eq_some_iff.mp h
        exact ps_imp (ps_expr (pe_bm PySem.F.plainAttrs_list PySem.F.slot_list_append PySem.F.type_list_append mt_append (pe_own C h1 h2) (pa_cons (P.e C.toCn D tk a ck hk) pa_nil (star_cons (nst na))) (by rfl) (by rw [star_cons (nst na)]; rfl) hl (star_cons (nst na)) (by rfl)) (by rfl)) fun D0 σ H q => app_imp q
      split at h
      · rename_i e
        subst e
        obtain ⟨ck, hk, rfl⟩ := Option.map_eq_some_iff.mp h
        exact ps_imp (ps_expr (pe_bm PySem.F.plainAttrs_list PySem.F.slot_list_extend PySem.F.type_list_extend mt_extend (pe_own C h1 h2) (pa_cons (P.e C.toCn D tk a ck hk) pa_nil (star_cons (nst na))) (by rfl) (by rw [star_cons (nst na)]; rfl) hl (star_cons (nst na)) (by rfl)) (by rfl)) fun D0 σ H q => ext_imp q
      · cases h
    · cases h
  · rename_i e pos _
    split at h
    · cases h
    rename_i hc
    obtain ⟨ce, hce, rfl⟩ := Option.map_eq_some_iff.mp h
    exact ps_imp (ps_expr (P.e C.toCn D tk e ce hce) (notcomp_sw (nco hc) _ _ _)) fun D0 σ H q => exp_imp q
  · rename_i e a b pos
    split at h <;> first | (cases h; done) | skip
    rename_i z x y e1 e2 e3 e4
    cases h
    exact ps_imp (ps_if (P.t C.toCn D tk e z e1 e2) (Q.b C D D2 tk a x e3) (Q.b C D D2 tk b y e4)) fun D0 σ H q => ife_imp q
  · rename_i e b pos
    split at h <;> first | (cases h; done) | skip
    rename_i z x e1 e2 e3
    cases h
    exact ps_imp (ps_while C.hp (P.t C.toCn D tk e z e1 e2) (Q.b C D D2 tk b x e3)) fun D0 σ H q => whl_imp q
  · rename_i tg it b pos
    split at h <;> first | (cases h; done) | skip
    rename_i t i x e1 e2 e3
    split at h
    · cases h
    rename_i hnt
    cases h
    have hnt : needsTup i = true → isTupE tg = true := fun q => by
      cases q' : isTupE tg with
      | true => rfl
      | false => exact absurd (by rw [q, q']; rfl) hnt
    obtain ⟨hi, hs⟩ := P.i C.toCn D tk tg it i e2 hnt
    exact ps_imp (ps_for C.hp D.calm hi (pg_B C D e1) (Q.b C D D2 tk b x e3) (fold_set hs _)) fun D0 σ H q => for_imp q
  · rename_i e pos
    obtain ⟨ce, hce, rfl⟩ := Option.map_eq_some_iff.mp h
    exact ps_imp (ps_ret (P.e C.toCn D tk e ce hce)) fun D0 σ H q => ret_imp q
  · cases h
    exact ps_imp ps_retN fun D0 σ H q => retN_imp q
  · rename_i x p m j p2 p3 pos
    split at h <;> first | (cases h; done) | skip
    rename_i z
    cases h
    exact ps_raiM D D2 tk (C.toCn.gl z.1) (gl_of z.1).2 z.2
  · rename_i b hs pos
    split at h <;> first | (cases h; done) | skip
    rename_i x l e1 e2
    split at h
    · cases h
    rename_i hne
    cases h
    exact ps_tryM C D2 tk e2 (by cases q : l.isEmpty <;> simp [q] at hne ⊢) fun W pn xe tk' hp => Q.b (C.tr hp) D.tr D2.tr tk' b x e1
  · cases h
theorem snd_bb (Q : SndS Φ G is ca n) (C : Bd S X) (D : Gd Φ G ca X) (D2 : Gx G is ca X) (tk : Takes X (wx ca W)) (sts : List Stmt) (c : List Pv.S) (h : compB' G S (n + 1) sts = some c) : PSs X sts (tS X.K (exB Φ is c) W) := by
  cases sts with
  | nil => cases h; exact pss_imp pss_nil fun D0 σ H q => nil_imp q
  | cons st sts =>
    unfold compB' at h
    split at h <;> first | (cases h; done) | skip
    rename_i x xs e1 e2
    cases h
    exact pss_imp (pss_cons (Q.s C D D2 tk st x e1) (Q.b C D D2 tk sts xs e2)) fun D0 σ H q => seq_imp q
theorem snd_allS : ∀ n, SndS Φ G is ca n
  | 0 => ⟨fun _ _ _ _ _ _ h => (by cases h), fun _ _ _ _ _ _ h => (by cases h)⟩
  | n + 1 => have Q := snd_allS n; ⟨fun C D D2 tk => snd_s (snd_all n) (fun m _ => snd_all m) Q C D D2 tk, fun C D D2 tk => snd_bb Q C D D2 tk⟩
end
end Pv
/-! Pv21: a text's defs, all at once. -/
namespace Pv
open PySem PySem.Spec PyProof.Rows L2
section
variable {K : PySem.W.Frag} {H : Hp} {tp : Tp} {D0 : Ends} {t : Sto} {W : WN} {Φ : Str → List Vv → M RV} {is : Str → Str → Bool}
theorem oa_non (σ : L2.St) : ∀ m : Nat, oa σ (List.replicate m .non) = [] := by
  induction σ with
  | nil => intro m; cases m <;> rfl
  | cons x σ ih =>
    intro m
    cases m with
    | zero => cases x with
      | none => rfl
      | some v => cases v <;> rfl
    | succ m =>
      rw [List.replicate_succ]
      cases x with
      | none => exact ih m
      | some v => cases v <;> exact ih m
theorem oa_start {σ : L2.St} {m : Nat} : ∀ (vs : List V) (xs : List Vv), oa (vs.map some ++ σ) (xs.map Slot.val ++ List.replicate m .non) = [] ∨ vs.length ≠ xs.length
  | [], [] => .inl (oa_non σ m)
  | [], _ :: _ => .inr (by simp)
  | _ :: _, [] => .inr (by simp)
  | v :: vs, x :: xs => by
    rcases oa_start (σ := σ) (m := m) vs xs with h | h
    · left
      cases v <;> exact h
    · right
      simpa using h
theorem slots_start {F : Hp} {m : Nat} : ∀ {vs : List V} {xs : List Vv}, VvsR K F vs xs → SlotsR K F H (vs.map some ++ List.replicate m none) (xs.map Slot.val ++ List.replicate m .non)
  | _, _, .nil => by
    show SlotsR K F H (List.replicate m none) (List.replicate m .non)
    induction m with
    | zero => exact .nil
    | succ m ih => rw [List.replicate_succ, List.replicate_succ]; exact .cons trivial ih
  | _, _, .cons h q => .cons ⟨_, rfl, h⟩ (slots_start q)
theorem body_run {N : List Str} {vs : List V} {xs : List Vv} {code : List Pv.S} {ok : RV → Sto → Prop} {ex : Str → Sto → Prop} (tk : ∀ q ∈ tp, H q.1 = some q.2) (nd : (ad tp).Nodup) (hv : VvsR K (hide (ad tp) H) vs xs)
    (w : wpm (runB Φ is (N.length - vs.length) code xs) t ok ex) (hok : ∀ r t v H', ok r t → PostC K (hide (ad tp) H) tp r v H' → D0.rt v H') (hnx : ∀ σ H', D0.rt .non H' → D0.nx σ H')
    (hex : ∀ x t σ H', ex x t → Same (hide (ad tp) H) (hide (ad tp) H') → (∀ q ∈ tp, H' q.1 = some q.2) → W x σ H') : tS K (exB Φ is code) W D0 (start N vs) H := by
  have hl := hv.length
  have eo : oa (start N vs) (xs.map Slot.val ++ List.replicate (N.length - vs.length) .non) = [] := (oa_start vs xs).elim id fun q => absurd hl q
  have R : Rl K (hide (ad tp) H) (start N vs) (xs.map Slot.val ++ List.replicate (N.length - vs.length) .non) tp H := by
    refine ⟨?_, ?_, ?_, tk⟩
    · rw [eo]; exact Same.refl _
    · rw [eo]; exact slots_start hv
    · rw [eo]; exact nd
  have down : ∀ {σ : L2.St} {env : Env} {H' : Hp}, Same (fz σ env tp H') (hide (ad tp) H') := fun {σ env H'} => hide_sub fun a ha => List.mem_append_right _ ha
  refine ⟨_, _, tp, t, R, ?_⟩
  unfold runB at w
  rw [wpm_bnd] at w
  refine wpm_mono (noX_wpm w) (fun f t1 w1 => ?_) fun _ _ q => q
  cases f with
  | nx env1 => exact fun σ1 H1 R1 => hnx σ1 H1 (hok _ _ _ _ w1 (ret_post (r := rd .none) (post_d R1 .non)))
  | rt r => exact fun v H1 P => hok r t1 v H1 w1 P
  | xc x env1 => exact fun σ1 H1 R1 => hex x t1 σ1 H1 w1 (R1.le.trans down) R1.tk
end

/-! ### a text -/
structure DI where
  d : He.DefD
  ps : List Str
  N : List Str
  ow : List Nat
  code : List Pv.S
def DI.nm (x : DI) : Str := x.d.at_.1
/-- what the text's defs do, calls k deep -/
def sem (T : List DI) (is : Str → Str → Bool) : Nat → Str → List Vv → M RV
  | 0, _, _ => stk
  | k + 1, f, xs => match T.find? fun x => x.nm == f with
    | some x => guard (decide (xs.length = x.ps.length)) (runB (sem T is k) is (x.N.length - x.ps.length) x.code xs)
    | none => stk
structure DI.Good (G : GS) (x : DI) : Prop where
  at_ : x.d.at_.2 = none
  dfl : x.d.dfl = []
  kwd : x.d.kwd = []
  sc : FnScope x.N x.ps x.d.scope
  cd : compB' G ⟨x.N, x.d.scope, x.ow⟩ 100 x.d.body = some x.code
  bd : ∀ (kV doc pm : Value) (an : Option Addr) (cdv ct : Value) (us : List Value), us.length = x.ps.length → bindArgs (PySem.W.fnOf x.d.name x.d.qual x.d.params x.d.body x.d.scope .none kV doc pm an cdv ct) ⟨us, []⟩ = pure (x.ps.zip us)
/-- the module's facts -/
structure Mg (T : List DI) (G : GS) (is : Str → Str → Bool) (K : PySem.W.Frag) (mg : Str → Option Value) : Prop where
  fn : ∀ x ∈ T, mg x.nm = some (.ref (He.ga K x.nm)) ∧ ∃ fd, FunD K x.d.name x.d.qual x.d.params x.d.body x.d.scope (x.d.dvs K) (x.d.kws K) (He.fAd K x.d.at_) fd
  free : ∀ b ∈ bltNames, mg b = none
  cns : ∀ x i, G.cns.lookup x = some i → ∃ t, mg x = some (.int i t)
  exc : ∀ x, G.exc.contains x = true → mg x = some (.ref (He.ga K x)) ∧ (He.Fa.exc x).ok K = true
  exm : ∀ x y, is x x = true → G.exc.contains y = true → PySem.W.exmOne K (.ref (He.ga K x)) (.ref (He.ga K y)) = some (is x y)
section
variable {T : List DI} {G : GS} {is : Str → Str → Bool} {K : PySem.W.Frag} {mg : Str → Option Value}
theorem find_mem {x : DI} {f : Str} (h : (T.find? fun x => x.nm == f) = some x) : x ∈ T ∧ x.nm = f := ⟨List.mem_of_find?_eq_some h, by simpa using List.find?_some h⟩
theorem Mg.gx (g : Mg T G is K mg) {X : Cx} (hK : X.K = K) (hm : X.mg = mg) : Gx G is (He.ga K) X := ⟨fun x hx => by
  obtain ⟨h1, h2⟩ := g.exc x hx
  obtain ⟨e1, e2, e3, e4⟩ := He.exc_ok h2
  rw [hK, hm]
  refine ⟨_, _, _, _, PySem.F.excBase_ValueError, e1, h1, e2, ?_⟩
  exact raises_own (by rw [hK]; exact e3) (by rw [hK]; exact e4), fun x y h1 h2 => by rw [hK]; exact g.exm x y h1 h2⟩
/-- the promise -/
abbrev Kept (T : List DI) (is : Str → Str → Bool) (P : Program) (w : World) (K : PySem.W.Frag) (mg : Str → Option Value) (base : Heap) (k : Nat) (x : DI) : Prop :=
  ∃ fd, FnOk P w K mg base (CX P w) k (He.ga K x.nm) fd x.ps (spF K (He.ga K) x.ps.length (sem T is k x.nm)) ∧ PySem.W.keepIn K (.ref (He.ga K x.nm)) = true ∧ Binds K fd x.ps []
theorem Mg.gd {P : Program} {w : World} {base : Heap} {k : Nat} (g : Mg T G is K mg) (hG : G.fns = T.map DI.nm) (ih : ∀ x ∈ T, (T.find? fun y => y.nm == x.nm) = some x → Kept T is P w K mg base k x) {X : Cx} (hP : X.prog = P) (hw : X.w = w) (hK : X.K = K) (hm : X.mg = mg) (hb : X.base = base) (hc : X.calm = true) (hr : Room k X.A) : Gd (sem T is k) G (He.ga K) X := by
  subst hP hw hK hm hb
  refine ⟨hc, by have := hr.un; omega, g.free, g.cns, fun f hf => ?_⟩
  have hmem : f ∈ T.map DI.nm := by rw [← hG]; simpa using hf
  obtain ⟨y, hy, ey⟩ := List.mem_map.mp hmem
  cases q : T.find? (fun z => z.nm == f) with
  | none =>
    have := List.find?_eq_none.mp q y hy
    simp [ey] at this
  | some x =>
    obtain ⟨h1, h2⟩ := find_mem q
    obtain ⟨fd, F, kp, b⟩ := ih x h1 (by rw [h2]; exact q)
    rw [h2] at F kp
    refine ⟨k, He.ga X.K f, fd, x.ps, F, hr, by rw [← h2]; exact (g.fn x h1).1, kp, b, fun xs t ok ex w => ?_⟩
    cases k with
    | zero => exact w.elim
    | succ k =>
      unfold sem at w
      rw [q] at w
      exact of_decide_eq_true (wpm_guard w).1
theorem dvs_nil {x : DI} (g : x.Good G) (K : PySem.W.Frag) : x.d.dvs K = [] := by unfold He.DefD.dvs; rw [g.dfl]; rfl
theorem kept_all {P : Program} {w : World} {base : Heap} (g : Mg T G is K mg) (hG : G.fns = T.map DI.nm) (good : ∀ x ∈ T, x.Good G) : ∀ k, ∀ x ∈ T, (T.find? fun y => y.nm == x.nm) = some x → Kept T is P w K mg base k x
  | 0, x, hx, _ => by
    obtain ⟨_, fd, F⟩ := g.fn x hx
    have gd := good x hx
    rw [dvs_nil gd K] at F
    have ea : He.fAd K x.d.at_ = He.ga K x.nm := by unfold He.fAd DI.nm; rw [gd.at_]
    rw [ea] at F
    exact ⟨fd, ⟨fun vs H Q E h => h.1, fun A outer s H args us vs Q E _ _ _ _ h => by obtain ⟨_, _, _, _, _, _, _, h⟩ := h; exact h.elim⟩, F.kp, F.bindsN gd.bd⟩
  | k + 1, x, hx, hu => by
    obtain ⟨_, fd, F⟩ := g.fn x hx
    have gd := good x hx
    rw [dvs_nil gd K] at F
    have ea : He.fAd K x.d.at_ = He.ga K x.nm := by unfold He.fAd DI.nm; rw [gd.at_]
    rw [ea] at F
    refine ⟨fd, F.ok gd.sc (fun vs H Q E h => h.1) (fun cdv A outer s H vs Q E hr h => ?_), F.kp, F.bindsN gd.bd⟩
    obtain ⟨hlen, tp, xs, t, tk, nd, hv, h⟩ := h
    unfold sem at h
    rw [hu] at h
    obtain ⟨_, h⟩ := wpm_guard h
    rw [← hlen] at h
    refine ⟨tS K (exB (sem T is k) is x.code) fun z σ H => E (.ref (He.ga K z)) none H, ?_, body_run tk nd hv h (fun r t v H' q p => q v H' p) (fun σ H' q => q) fun z t σ H' q => q H'⟩
    refine (snd_allS 100).b (X := cxOf (CX P w) P w K mg base x.N x.d.qual x.d.scope (He.ga K x.nm) cdv A outer s H E) (S := ⟨x.N, x.d.scope, x.ow⟩) ⟨⟨rfl, rfl, gd.sc.nd⟩, fun _ _ => rfl, passes_of rfl, rfl, rfl, gd.sc.kind⟩ (g.gd hG (kept_all g hG good k) rfl rfl rfl rfl rfl rfl hr) (g.gx rfl rfl) ?_ x.d.body x.code gd.cd
    exact (takes_of rfl rfl rfl rfl).imp fun c d σ H ⟨z, e1, e2, q⟩ => by subst e1 e2; exact q
/-- the law's def -/
theorem law_ok {P : Program} {w : World} {base : Heap} {k n : Nat} {x : DI} {fd : FuncData} (g : Mg T G is K mg) (hG : G.fns = T.map DI.nm) (good : ∀ x ∈ T, x.Good G) (hx : x ∈ T) (hu : (T.find? fun y => y.nm == x.nm) = some x) (h1 : x.ps.length = 1)
    (F : FunD K x.d.name x.d.qual x.d.params x.d.body x.d.scope (x.d.dvs K) (x.d.kws K) (He.ga K x.nm) fd) (law : ∀ ns : List Int, ns.length ≤ n → ∃ t t', sem T is (k + 1) x.nm [.scr ns] t = .ok (rd (.bool true)) t') :
    FnOk P w K mg base CX0 (k + 1) (He.ga K x.nm) fd x.ps (fun vs H Q _ => ∃ (a : Addr) (ns : List Int), vs = [.ref a] ∧ ns.length ≤ n ∧ SqL K H a (ns.map V.int) ∧ ∀ H', Q (.bl true) H') := by
  have gd := good x hx
  refine F.ok gd.sc (fun vs H Q E h => ?_) (fun cdv A outer s H vs Q E hr h => ?_)
  · obtain ⟨a, ns, rfl, _⟩ := h
    exact h1.symm
  · obtain ⟨a, ns, rfl, hn, hS, hQ⟩ := h
    obtain ⟨t, t', e⟩ := law ns hn
    unfold sem at e
    rw [hu] at e
    have hlen : ([Vv.scr ns] : List Vv).length = x.ps.length := h1.symm
    replace e : (guard (decide (([Vv.scr ns] : List Vv).length = x.ps.length)) (runB (sem T is k) is (x.N.length - x.ps.length) x.code [.scr ns])) t = .ok (rd (.bool true)) t' := e
    rw [guard_of _ (decide_eq_true hlen)] at e
    have w1 : wpm (runB (sem T is k) is (x.N.length - ([V.ref a] : List V).length) x.code [.scr ns]) t (fun rv _ => rv = rd (.bool true)) fun _ _ => False := by
      unfold wpm
      rw [show ([V.ref a] : List V).length = x.ps.length from h1.symm, e]
    have hid : hide (ad ([] : Tp)) H = H := by
      funext a
      unfold hide
      rw [if_neg (by simp [ad])]
    refine ⟨tS K (exB (sem T is k) is x.code) WF, ?_, body_run (tp := []) (fun _ h => nomatch h) List.nodup_nil (.cons (show VvR K (hide (ad []) H) (.ref a) (.scr ns) from ⟨a, rfl, by rw [hid]; exact hS⟩) .nil) w1 (fun r t v H' q p => ?_) (fun σ H' q => q) fun z t σ H' q => q.elim⟩
    · refine (snd_allS 100).b (X := cxOf CX0 P w K mg base x.N x.d.qual x.d.scope (He.ga K x.nm) cdv A outer s H E) (S := ⟨x.N, x.d.scope, x.ow⟩) ⟨⟨rfl, rfl, gd.sc.nd⟩, fun _ _ => rfl, ?_, rfl, rfl, gd.sc.kind⟩ (g.gd hG (kept_all g hG good k) rfl rfl rfl rfl rfl rfl hr) (g.gx rfl rfl) ?_ x.d.body x.code gd.cd
      · exact PassesOwn.leaving
      · exact fun u s' ⟨_, _, _, _, _, _, _, _, _, _, _, _, _, _, _, _, w⟩ => by
          obtain ⟨_, _, _, w⟩ := w
          exact w.elim
    · subst q
      obtain ⟨_, _, p⟩ := p
      cases (show Rep _ v (.bool true) from p)
      exact hQ H'
end
end Pv
/-! Pv24: the facts the head reads. -/
namespace Pv
open PySem PySem.Spec PyProof.Rows L2
/-- which exceptions an except clause of that name catches -/
def isOf (em : List (Str × Str × Bool)) (x y : Str) : Bool := em.any fun p => p.1 == x && p.2.1 == y && p.2.2
def emOk (em : List (Str × Str × Bool)) (exc : List Str) : Bool := em.all fun p => !(p.1 == p.2.1 && p.2.2) || exc.all fun y => em.any fun q => q.1 == p.1 && q.2.1 == y && (q.2.2 == isOf em p.1 y)
def faOf (T : List DI) (G : GS) (em : List (Str × Str × Bool)) : List He.Fa := T.map (fun x => .glo x.nm) ++ bltNames.map .free ++ G.cns.map (fun p => .int p.1 p.2) ++ G.exc.map .glo ++ G.exc.map .exc ++ em.map fun p => .exm p.1 p.2.1 p.2.2
def fnOf (T : List DI) : List He.DefD := T.map (·.d)
section
variable {T : List DI} {G : GS} {em : List (Str × Str × Bool)} {K : PySem.W.Frag} {mg : Str → Option Value} {h : Heap}
theorem fact_of (c : He.SaysD (faOf T G em) (fnOf T) K) {f : He.Fa} (hf : f ∈ faOf T G em) : f.ok K = true := by
  obtain ⟨i, hi⟩ := List.mem_iff_getElem?.mp hf
  exact c.fact i hi
theorem mg_of (X : K.In h) (Gm : h.Ns mainGlobals mg) (c : He.SaysD (faOf T G em) (fnOf T) K) (he : emOk em G.exc = true) : Mg T G (isOf em) K mg where
  fn := fun x hx => by
    refine ⟨He.glo_ok X Gm (fact_of c ?_), ?_⟩
    · unfold faOf; simp only [List.mem_append, List.mem_map]; exact .inl (.inl (.inl (.inl (.inl ⟨x, hx, rfl⟩))))
    · obtain ⟨i, hi⟩ := List.mem_iff_getElem?.mp hx
      exact c.def_ i (d := x.d) (by unfold fnOf; rw [List.getElem?_map, hi]; rfl)
  free := fun b hb => He.free_ok X Gm (fact_of c (by unfold faOf; simp only [List.mem_append, List.mem_map]; exact .inl (.inl (.inl (.inl (.inr ⟨b, hb, rfl⟩))))))
  cns := fun x i hx => He.int_ok X Gm (fact_of c (by unfold faOf; simp only [List.mem_append, List.mem_map]; exact .inl (.inl (.inl (.inr ⟨(x, i), PySem.mem_of_lookup hx, rfl⟩)))))
  exc := fun x hx => by
    have hx : x ∈ G.exc := by simpa using hx
    exact ⟨He.glo_ok X Gm (fact_of c (by unfold faOf; simp only [List.mem_append, List.mem_map]; exact .inl (.inl (.inr ⟨x, hx, rfl⟩)))), fact_of c (by unfold faOf; simp only [List.mem_append, List.mem_map]; exact .inl (.inr ⟨x, hx, rfl⟩))⟩
  exm := fun x y hx hy => by
    have hy : y ∈ G.exc := by simpa using hy
    obtain ⟨p, hp, e⟩ := List.any_eq_true.mp hx
    simp only [Bool.and_eq_true, beq_iff_eq] at e
    obtain ⟨⟨e1, e2⟩, e3⟩ := e
    have q := List.all_eq_true.mp he p hp
    rw [e1, e2, e3] at q
    simp only [BEq.rfl, Bool.and_self, Bool.not_true, Bool.false_or] at q
    obtain ⟨r, hr, er⟩ := List.any_eq_true.mp (List.all_eq_true.mp q y hy)
    simp only [Bool.and_eq_true, beq_iff_eq] at er
    obtain ⟨⟨r1, r2⟩, r3⟩ := er
    have := He.exm_ok (x := r.1) (y := r.2.1) (b := r.2.2) (fact_of c (by unfold faOf; simp only [List.mem_append, List.mem_map]; exact .inr ⟨r, hr, rfl⟩))
    rw [r1, r2, r3] at this
    exact this
/-- the law's promise -/
abbrev spLaw (K : PySem.W.Frag) (n : Nat) : Sp := fun vs H Q _ => ∃ (a : Addr) (ns : List Int), vs = [.ref a] ∧ ns.length ≤ n ∧ SqL K H a (ns.map V.int) ∧ ∀ H', Q (.bl true) H'
theorem law_facts {P : Program} {w : World} {f : Addr} {k n : Nat} {x : DI} {s0 : Str} (X : K.In h) (Gm : h.Ns mainGlobals mg) (hfa : mg x.nm = some (.ref f)) (c : He.SaysD (faOf T G em) (fnOf T) K) (he : emOk em G.exc = true) (hG : G.fns = T.map DI.nm) (good : ∀ x ∈ T, x.Good G) (hx : x ∈ T)
    (hu : (T.find? fun y => y.nm == x.nm) = some x) (h1 : x.ps = [s0]) (law : ∀ ns : List Int, ns.length ≤ n → ∃ t t', sem T (isOf em) (k + 1) x.nm [.scr ns] t = .ok (rd (.bool true)) t') :
    ∃ fd : FuncData, (∀ (s : Shared) (v : Value), BindsTo s fd ⟨[v], []⟩ [(s0, v)]) ∧ ∀ base : Heap, K.In base → base.Ns mainGlobals mg → FnOk P w K mg base CX0 (k + 1) f fd [s0] (spLaw K n) := by
  have g := mg_of X Gm c he
  obtain ⟨h2, fd, F⟩ := g.fn x hx
  have gd := good x hx
  rw [hfa] at h2
  cases h2
  have ea : He.fAd K x.d.at_ = He.ga K x.nm := by unfold He.fAd DI.nm; rw [gd.at_]
  rw [ea] at F
  have F0 := F
  rw [dvs_nil gd K] at F0
  refine ⟨fd, fun s v => ?_, fun base _ _ => ?_⟩
  · have := F0.bindsA (ps := x.ps) gd.bd s [v] (by rw [h1]; rfl)
    rw [h1] at this
    exact this
  · have := law_ok (P := P) (w := w) (base := base) (n := n) g hG good hx hu (by rw [h1]; rfl) F law
    rw [h1] at this
    exact this
end
end Pv
/-! Pv25: evaluation by rewriting. -/
namespace Pv
open PySem
section
variable (Φ : Str → List Vv → M RV) (is : Str → Str → Bool) (env : Env)
/-- a loop's body, a test, a comprehension's turn: left as they are until they are given their item -/
def bodyF (tg : T) (b : List S) (x : D) (env : Env) : M Fl := bnd (asgM tg x env) fun env' => exB Φ is b env'
def whlC (c : E) (env : Env) : M Bool := bnd (ev Φ c env) truR
def whlB (b : List S) (env : Env) : M Fl := exB Φ is b env
def lcB (elt : E) (tg : T) (c : Option E) (ow : List Nat) (env : Env) (x : D) : M (Option D) := noX (bnd (asgM tg x (wipeE env ow)) fun env1 => match c with
  | none => bnd (ev Φ elt env1) fun r => bnd (keepD r) fun y => ret (some y)
  | some c => bnd (bnd (ev Φ c env1) truR) fun b => if b = true then bnd (ev Φ elt env1) fun r => bnd (keepD r) fun y => ret (some y) else ret none)
/-- the two ways of an if -/
def brF (a b : List S) (env : Env) (k : Bool) : M Fl := if k = true then exB Φ is a env else exB Φ is b env
@[simp] theorem brF_t (a b : List S) : brF Φ is a b env true = exB Φ is a env := rfl
@[simp] theorem brF_f (a b : List S) : brF Φ is a b env false = exB Φ is b env := rfl
@[simp] theorem exB_nil : exB Φ is [] env = ret (.nx env) := rfl
@[simp] theorem exB_cons (s : S) (ss : List S) : exB Φ is (s :: ss) env = seqF (ex Φ is s env) (exB Φ is ss) := rfl
@[simp] theorem ev_var (i : Nat) : ev Φ (.var i) env = slotR env i := rfl
@[simp] theorem ev_own (i : Nat) : ev Φ (.own i) env = slotR env i := rfl
@[simp] theorem ev_non : ev Φ .non env = ret (rd .none) := rfl
@[simp] theorem ev_bl (b : Bool) : ev Φ (.bl b) env = ret (rd (.bool b)) := rfl
@[simp] theorem ev_int (i : Int) : ev Φ (.int i) env = ret (rd (.int i)) := rfl
@[simp] theorem ev_str (x : Str) : ev Φ (.str x) env = ret (rd (.str x)) := rfl
@[simp] theorem ev_glob (x : Str) (i : Int) : ev Φ (.glob x i) env = ret (rd (.int i)) := rfl
@[simp] theorem ev_tup (es : List E) : ev Φ (.tup es) env = bnd (evs Φ es env) fun rs => guard (fits rs.length) (bnd (keepAllD rs) fun xs => ret (rd (.tuple xs))) := rfl
@[simp] theorem ev_lst (es : List E) : ev Φ (.lst es) env = bnd (evs Φ es env) fun rs => guard (fits rs.length) (bnd (keepAllD rs) fun xs => ret (.fr (.lst xs))) := rfl
@[simp] theorem ev_bin (op : BOp) (a b : E) : ev Φ (.bin op a b) env = bnd (ev Φ a env) fun r => bnd (ev Φ b env) fun s => asD r fun x => asD s fun y => binD op x y := rfl
@[simp] theorem ev_neg (a : E) : ev Φ (.neg a) env = bnd (ev Φ a env) fun r => asD r negD := rfl
@[simp] theorem ev_not (a : E) : ev Φ (.not a) env = bnd (ev Φ a env) fun r => bnd (truR r) fun b => ret (rd (.bool (!b))) := rfl
@[simp] theorem ev_and (a b : E) : ev Φ (.and a b) env = bnd (ev Φ a env) fun r => bnd (truR r) fun c => if c = true then ev Φ b env else frzM r := rfl
@[simp] theorem ev_or (a b : E) : ev Φ (.or a b) env = bnd (ev Φ a env) fun r => bnd (truR r) fun c => if c = true then frzM r else ev Φ b env := rfl
@[simp] theorem ev_cmp (op : COp) (a b : E) : ev Φ (.cmp op a b) env = bnd (ev Φ a env) fun r => bnd (ev Φ b env) fun s => cmpR op r s := rfl
@[simp] theorem ev_chain (o1 o2 : COp) (a b c : E) : ev Φ (.chain o1 o2 a b c) env = bnd (ev Φ a env) fun r => bnd (ev Φ b env) fun s => bnd (cmpR o1 r s) fun q => bnd (boolR q) fun k =>
      if k = true then bnd (ev Φ c env) fun u => cmpR o2 s u else ret (rd (.bool false)) := rfl
@[simp] theorem ev_ifx (c a b : E) : ev Φ (.ifx c a b) env = bnd (ev Φ c env) fun r => bnd (truR r) fun k => if k = true then ev Φ a env else ev Φ b env := rfl
@[simp] theorem ev_ix (a b : E) : ev Φ (.ix a b) env = bnd (ev Φ a env) fun r => bnd (ev Φ b env) fun s => ixR r s := rfl
@[simp] theorem ev_sl (a : E) (lo hi : Option E) : ev Φ (.sl a lo hi) env = bnd (ev Φ a env) fun r => bnd (evo Φ lo env) fun i => bnd (evo Φ hi env) fun j => asD r (cutM i j) := rfl
@[simp] theorem ev_slr (a : E) : ev Φ (.slr a) env = bnd (ev Φ a env) fun r => asD r revM := rfl
@[simp] theorem ev_isi (a : E) (t : Ty) : ev Φ (.isi a t) env = bnd (ev Φ a env) fun r => isiR r t := rfl
@[simp] theorem ev_blt (f : BF) (es : List E) : ev Φ (.blt f es) env = bnd (evs Φ es env) fun rs => bfM f rs := rfl
@[simp] theorem ev_rngl (a : E) : ev Φ (.rngl a) env = bnd (ev Φ a env) fun r => asD r fun
    | .int n => guard (rangeOk 0 n) (ret (.fr (.lst (rangeL 0 n))))
    | _ => stk := rfl
@[simp] theorem ev_rngt (a : E) : ev Φ (.rngt a) env = bnd (ev Φ a env) fun r => asD r fun
    | .int n => guard (rangeOk 0 n) (ret (rd (.tuple (rangeL 0 n))))
    | _ => stk := rfl
@[simp] theorem ev_call (f : Str) (es : List E) : ev Φ (.call f es) env = bnd (evs Φ es env) fun rs => bnd (keepAll rs) fun xs => Φ f xs := rfl
@[simp] theorem ev_lc (elt : E) (tg : T) (it : I) (c : Option E) (ow : List Nat) : ev Φ (.lc elt tg it c ow) env = bnd (evi Φ it env) fun p => guard (wipeOk env ow) (bnd (lcL (lcB Φ elt tg c ow env) p.1) fun ys => ret (.fr (.lst ys))) := by
  cases c <;> rfl
@[simp] theorem evi_seq (e : E) : evi Φ (.seq e) env = bnd (ev Φ e env) fun r => asD r fun x => bnd (seqD x) fun xs => ret (xs, isBo r) := rfl
@[simp] theorem evi_rng1 (a : E) : evi Φ (.rng1 a) env = bnd (ev Φ a env) fun r => asD r fun
    | .int n => guard (rangeOk 0 n) (ret (rangeL 0 n, false))
    | _ => stk := rfl
@[simp] theorem evi_rng2 (a b : E) : evi Φ (.rng2 a b) env = bnd (ev Φ a env) fun r => bnd (ev Φ b env) fun s => asD r fun x => asD s fun y => match x, y with
    | .int i, .int j => guard (rangeOk i j) (ret (rangeL i j, false))
    | _, _ => stk := rfl
@[simp] theorem evi_enum (e : E) : evi Φ (.enum e) env = bnd (ev Φ e env) fun r => asD r fun x => bnd (enumD x) fun xs => ret (xs, isBo r) := rfl
@[simp] theorem evi_zip (a b : E) : evi Φ (.zip a b) env = bnd (ev Φ a env) fun r => bnd (ev Φ b env) fun s => asD r fun x => asD s fun y => guard (!isBo r && !isBo s) (bnd (zipD x y) fun xs => ret (xs, false)) := rfl
@[simp] theorem ex_set (i : Nat) (e : E) : ex Φ is (.set i e) env = cat (ev Φ e env) env (setIt i env) := rfl
@[simp] theorem ex_setO (i : Nat) (e : E) : ex Φ is (.setO i e) env = cat (ev Φ e env) env (setOwn i env) := rfl
@[simp] theorem ex_par (l : List (Nat × Bool)) (es : List E) : ex Φ is (.par l es) env = cat (evs Φ es env) env fun rs => match parSet l rs env with
    | some env' => ret (.nx env')
    | none => stk := rfl
@[simp] theorem ex_unp (tg : T) (e : E) : ex Φ is (.unp tg e) env = cat (ev Φ e env) env fun r => asD r fun x => bnd (asgM tg x env) fun env' => ret (.nx env') := rfl
@[simp] theorem ex_setIx (i : Nat) (k e : E) : ex Φ is (.setIx i k e) env = cat (ev Φ e env) env fun r => ownL env i fun xs => cat (ev Φ k env) env fun q => intR q fun j => bnd (keepD r) fun y => bnd (setAt xs j y) fun ys => ret (.nx (env.set i (.own (.lst ys)))) := rfl
@[simp] theorem ex_aug (i : Nat) (op : BOp) (e : E) : ex Φ is (.aug i op e) env = bnd (slotR env i) fun q => cat (ev Φ e env) env fun r => bnd (augM op q r) fun z => ret (.nx (env.set i (.val z))) := rfl
@[simp] theorem ex_exp (e : E) : ex Φ is (.exp e) env = cat (ev Φ e env) env fun _ => ret (.nx env) := rfl
@[simp] theorem ex_app (i : Nat) (e : E) : ex Φ is (.app i e) env = ownL env i fun _ => cat (ev Φ e env) env fun r => bnd (keepED r env) fun p => ownL p.2 i fun xs => guard (fits (xs.length + 1)) (ret (.nx (p.2.set i (.own (.lst (xs ++ [p.1])))))) := rfl
@[simp] theorem ex_ext (i : Nat) (e : E) : ex Φ is (.ext i e) env = ownL env i fun xs => cat (ev Φ e env) env fun r => asD r fun
    | .list ys => guard (fits (xs.length + ys.length)) (ret (.nx (env.set i (.own (.lst (xs ++ ys))))))
    | _ => stk := rfl
@[simp] theorem ex_appPop (i j : Nat) (k : E) : ex Φ is (.appPop i j k) env = ownL env i fun _ => ownL env j fun ys => cat (ev Φ k env) env fun q => intR q fun n => bnd (popAt ys n) fun p => ownL (env.set j (.own (.lst p.2))) i fun xs =>
      guard (fits (xs.length + 1)) (ret (.nx ((env.set j (.own (.lst p.2))).set i (.own (.lst (xs ++ [p.1])))))) := rfl
@[simp] theorem ex_pop (tg : T) (i : Nat) : ex Φ is (.pop tg i none) env = ownL env i fun xs => bnd (popEnd xs) fun p => bnd (asgM tg p.1 (env.set i (.own (.lst p.2)))) fun env' => ret (.nx env') := rfl
@[simp] theorem ex_popk (tg : T) (i : Nat) (k : E) : ex Φ is (.pop tg i (some k)) env = ownL env i fun xs => cat (ev Φ k env) env fun q => intR q fun n => bnd (popAt xs n) fun p => bnd (asgM tg p.1 (env.set i (.own (.lst p.2)))) fun env' => ret (.nx env') := rfl
@[simp] theorem ex_ife (c : E) (a b : List S) : ex Φ is (.ife c a b) env = cat (bnd (ev Φ c env) truR) env (brF Φ is a b env) := rfl
@[simp] theorem ex_whl (c : E) (b : List S) : ex Φ is (.whl c b) env = whileF (whlC Φ c) (whlB Φ is b) FUEL env := rfl
@[simp] theorem ex_for (tg : T) (it : I) (b : List S) : ex Φ is (.for_ tg it b) env = cat (evi Φ it env) env fun p => guard (!p.2) (forL (bodyF Φ is tg b) p.1 env) := rfl
@[simp] theorem ex_ret (e : E) : ex Φ is (.ret e) env = cat (ev Φ e env) env fun r => ret (.rt (match r with
    | .bo _ o => .fr o
    | r => r)) := rfl
@[simp] theorem ex_retN : ex Φ is .retN env = ret (.rt (rd .none)) := rfl
@[simp] theorem ex_rai (x : Str) : ex Φ is (.rai x) env = ret (.xc x env) := rfl
@[simp] theorem ex_tryS (b : List S) (hs : List (Str × Nat × Str)) : ex Φ is (.tryS b hs) env = tryM (exB Φ is b env) hs is := rfl
end
@[simp] theorem asgM_nm (i : Nat) (x : D) (env : Env) : asgM (.nm i) x env = ret (env.set i (.val (.d x))) := rfl
@[simp] theorem asgM_t2 (i j : Nat) (x y : D) (env : Env) : asgM (.tp [.nm i, .nm j]) (.tuple [x, y]) env = ret ((env.set i (.val (.d x))).set j (.val (.d y))) := rfl
@[simp] theorem asgM_t3 (i j l : Nat) (x y z : D) (env : Env) : asgM (.tp [.nm i, .nm j, .nm l]) (.tuple [x, y, z]) env = ret (((env.set i (.val (.d x))).set j (.val (.d y))).set l (.val (.d z))) := rfl
@[simp] theorem asgM_l2 (i j : Nat) (x y : D) (env : Env) : asgM (.tp [.nm i, .nm j]) (.list [x, y]) env = ret ((env.set i (.val (.d x))).set j (.val (.d y))) := rfl
@[simp] theorem asgM_l3 (i j l : Nat) (x y z : D) (env : Env) : asgM (.tp [.nm i, .nm j, .nm l]) (.list [x, y, z]) env = ret (((env.set i (.val (.d x))).set j (.val (.d y))).set l (.val (.d z))) := rfl
theorem cat_raise' {α : Type} (x : Str) (env : Env) (k : α → M Fl) : cat (raise x) env k = ret (.xc x env) := rfl
theorem bnd_congr {α β : Type} {m : M α} {a : α} {f : α → M β} (h : m = ret a) : bnd m f = f a := by rw [h]; rfl
@[simp] theorem guard_stk {α : Type} (m : M α) : guard false m = stk := rfl
@[simp] theorem guard_dec {α : Type} (p : Prop) [Decidable p] (m : M α) (h : p) : guard (decide p) m = m := by simp [guard, h]
@[simp] theorem noX_ite' {α : Type} (c : Prop) [Decidable c] (a b : α) : noX (if c then ret a else ret b) = if c then ret a else ret b := by split <;> rfl
/-- comprehensions over any list -/
def lcG {α : Type} (f : α → M (Option D)) : List α → M (List D)
  | [] => ret []
  | x :: xs => bnd (f x) fun o => bnd (lcG f xs) fun r => ret (match o with
    | some y => y :: r
    | none => r)
@[simp] theorem lcB_at (Φ : Str → List Vv → M RV) (elt : E) (tg : T) (ow : List Nat) (env : Env) (x : D) : lcB Φ elt tg none ow env x = noX (bnd (asgM tg x (wipeE env ow)) fun env1 => bnd (ev Φ elt env1) fun r => bnd (keepD r) fun y => ret (some y)) := rfl
@[simp] theorem lcB_if (Φ : Str → List Vv → M RV) (elt c : E) (tg : T) (ow : List Nat) (env : Env) (x : D) : lcB Φ elt tg (some c) ow env x = noX (bnd (asgM tg x (wipeE env ow)) fun env1 => bnd (bnd (ev Φ c env1) truR) fun b => if b = true then bnd (ev Φ elt env1) fun r => bnd (keepD r) fun y => ret (some y) else ret none) := rfl
theorem lcL_map {α : Type} (f : D → M (Option D)) (h : α → D) : ∀ xs : List α, lcL f (xs.map h) = lcG (fun x => f (h x)) xs
  | [] => rfl
  | x :: xs => by unfold lcG; rw [List.map_cons]; unfold lcL; rw [lcL_map f h xs]; try rfl
theorem lcG_congr {α : Type} {f g : α → M (Option D)} : ∀ {xs : List α}, (∀ x ∈ xs, f x = g x) → lcG f xs = lcG g xs
  | [], _ => rfl
  | x :: xs, h => by unfold lcG; rw [h x List.mem_cons_self, lcG_congr fun y hy => h y (List.mem_cons_of_mem _ hy)]
theorem lcG_fm {α : Type} (g : α → Option D) : ∀ xs : List α, lcG (fun x => ret (g x)) xs = ret (xs.filterMap g)
  | [] => rfl
  | x :: xs => by unfold lcG; rw [lcG_fm g xs, List.filterMap_cons]; cases g x <;> rfl
@[simp] theorem lcG_nil {α : Type} (f : α → M (Option D)) : lcG f [] = ret [] := rfl
@[simp] theorem lcL_nil (f : D → M (Option D)) : lcL f [] = ret [] := rfl
@[simp] theorem lcG_map {α : Type} (g : α → D) (xs : List α) : lcG (fun x => ret (some (g x))) xs = ret (xs.map g) := by
  rw [lcG_fm]; congr 1; induction xs with
  | nil => rfl
  | cons x xs ih => rw [List.filterMap_cons, List.map_cons, ih]
@[simp] theorem lcG_if {α : Type} (c : α → Prop) [DecidablePred c] (g : α → D) (xs : List α) : lcG (fun x => if c x then ret (some (g x)) else ret none) xs = ret ((xs.filter fun x => decide (c x)).map g) := by
  induction xs with
  | nil => rfl
  | cons x xs ih =>
    unfold lcG
    rw [ih, List.filter_cons]
    by_cases h : c x
    · simp [h]
    · simp [h]
@[simp] theorem lcG_ifn {α : Type} (c : α → Prop) [DecidablePred c] (g : α → D) (xs : List α) : lcG (fun x => if c x then ret none else ret (some (g x))) xs = ret ((xs.filter fun x => !decide (c x)).map g) := by
  induction xs with
  | nil => rfl
  | cons x xs ih =>
    unfold lcG
    rw [ih, List.filter_cons]
    by_cases h : c x
    · simp [h]
    · simp [h]
theorem lcG_on {α : Type} {f : α → M (Option D)} {xs : List α} (c : α → Prop) [DecidablePred c] (g : α → D) (h : ∀ x ∈ xs, f x = if c x then ret (some (g x)) else ret none) : lcG f xs = ret ((xs.filter fun x => decide (c x)).map g) := (lcG_congr h).trans (lcG_if c g xs)
theorem lcG_mapon {α : Type} {f : α → M (Option D)} {xs : List α} (g : α → D) (h : ∀ x ∈ xs, f x = ret (some (g x))) : lcG f xs = ret (xs.map g) := (lcG_congr h).trans (lcG_map g xs)
theorem lcL_range (f : D → M (Option D)) (a b : Int) : lcL f (rangeL a b) = lcG (fun i : Nat => f (.int (a + (i : Nat)))) (List.range (b - a).toNat) := lcL_map f _ _
/-- loops -/
def forG {α : Type} (f : α → Env → M Fl) : List α → Env → M Fl
  | [], env => ret (.nx env)
  | x :: xs, env => seqF (f x env) (forG f xs)
theorem forL_map {α : Type} (f : D → Env → M Fl) (h : α → D) : ∀ (xs : List α), forL f (xs.map h) = forG (fun x => f (h x)) xs
  | [] => rfl
  | x :: xs => by
    funext env
    unfold forG
    rw [List.map_cons]
    unfold forL
    rw [forL_map f h xs]
theorem forL_range (f : D → Env → M Fl) (a b : Int) : forL f (rangeL a b) = forG (fun i : Nat => f (.int (a + (i : Nat)))) (List.range (b - a).toNat) := forL_map f _ _
/-- a loop that runs through, by an invariant -/
theorem forG_inv {α : Type} {f : α → Env → M Fl} (P : List α → Env → Prop) : ∀ (xs : List α) (done : List α) (env : Env), P done env → (∀ (d : List α) (x : α) (r : List α) (env : Env), done ++ xs = d ++ x :: r → P d env → ∃ env', f x env = ret (.nx env') ∧ P (d ++ [x]) env') → ∃ env', forG f xs env = ret (.nx env') ∧ P (done ++ xs) env'
  | [], done, env, h, _ => ⟨env, rfl, by rw [List.append_nil]; exact h⟩
  | x :: xs, done, env, h, k => by
    obtain ⟨env', e, h'⟩ := k done x xs env rfl h
    obtain ⟨env2, e2, h2⟩ := forG_inv P xs (done ++ [x]) env' h' fun d y r env eq hp => k d y r env (by rw [← eq]; simp) hp
    refine ⟨env2, ?_, by simpa using h2⟩
    unfold forG
    rw [e]
    exact e2
/-- what a def's call is -/
theorem call_ok {m : M RV} {a : RV} {k : RV → M RV} (h : m = ret a) : bnd m k = k a := by rw [h]; rfl
end Pv
namespace Pv
open PySem
/-! ### data of ints -/
theorem depth_ints : ∀ k : List Int, PyData.depthAll (k.map .int) ≤ 1
  | [] => by simp [PyData.depthAll]
  | x :: k => by
    have := depth_ints k
    rw [List.map_cons]
    simp [PyData.depthAll, PyData.depth]
    omega
theorem lay_ints : ∀ k : List Int, PyData.canLayAll0 (k.map .int) = true
  | [] => rfl
  | x :: k => by rw [List.map_cons]; simp [PyData.canLayAll0, PyData.canLay0, lay_ints k]
theorem depth_tups : ∀ ks : List (List Int), PyData.depthAll (ks.map tupD) ≤ 2
  | [] => by simp [PyData.depthAll]
  | k :: ks => by
    have := depth_tups ks
    have h := depth_ints k
    rw [List.map_cons]
    simp only [PyData.depthAll, tupD, PyData.depth]
    omega
theorem lay_tups : ∀ ks : List (List Int), PyData.canLayAll0 (ks.map tupD) = true
  | [] => rfl
  | k :: ks => by rw [List.map_cons]; simp [PyData.canLayAll0, PyData.canLay0, tupD, lay_ints k, lay_tups ks]
@[simp] theorem shaped_int (i : Int) : SeqAt.shaped (.int i) = true := by simp [SeqAt.shaped, PyData.canLay0, PyData.depth]
@[simp] theorem shaped_bool (i : Bool) : SeqAt.shaped (.bool i) = true := by simp [SeqAt.shaped, PyData.canLay0, PyData.depth]
@[simp] theorem shaped_none : SeqAt.shaped .none = true := by simp [SeqAt.shaped, PyData.canLay0, PyData.depth]
@[simp] theorem shaped_tup (k : List Int) : SeqAt.shaped (.tuple (k.map .int)) = true := by
  have := depth_ints k
  simp [SeqAt.shaped, PyData.canLay0, PyData.depth, lay_ints]
  omega
@[simp] theorem shaped_lst (k : List Int) : SeqAt.shaped (.list (k.map .int)) = true := by
  have := depth_ints k
  simp [SeqAt.shaped, PyData.canLay0, PyData.depth, lay_ints]
  omega
@[simp] theorem shaped_tupD (k : List Int) : SeqAt.shaped (tupD k) = true := shaped_tup k
@[simp] theorem shaped_tups (ks : List (List Int)) : SeqAt.shaped (.list (ks.map tupD)) = true := by
  have := depth_tups ks
  simp [SeqAt.shaped, PyData.canLay0, PyData.depth, lay_tups]
  omega
@[simp] theorem eqv_int (a b : Int) : PyData.eqv (.int a) (.int b) = decide (a = b) := by
  rw [Bool.eq_iff_iff]
  simp [PyData.eqv]
@[simp] theorem eqv_bool (a b : Bool) : PyData.eqv (.bool a) (.bool b) = decide (a = b) := by
  rw [Bool.eq_iff_iff]
  simp [PyData.eqv]
theorem eqv_ints : ∀ a b : List Int, PyData.eqvAll (a.map .int) (b.map .int) = decide (a = b)
  | [], [] => by simp [PyData.eqvAll]
  | [], _ :: _ => by simp [PyData.eqvAll]
  | _ :: _, [] => by simp [PyData.eqvAll]
  | x :: a, y :: b => by
    rw [List.map_cons, List.map_cons]
    simp only [PyData.eqvAll, eqv_int, eqv_ints a b]
    by_cases h : x = y <;> by_cases g : a = b <;> simp [h, g]
@[simp] theorem eqv_tup (a b : List Int) : PyData.eqv (.tuple (a.map .int)) (.tuple (b.map .int)) = decide (a = b) := by
  simp only [PyData.eqv, eqv_ints]
@[simp] theorem eqv_lst (a b : List Int) : PyData.eqv (.list (a.map .int)) (.list (b.map .int)) = decide (a = b) := by
  simp only [PyData.eqv, eqv_ints]
@[simp] theorem eqv_tupD (a b : List Int) : PyData.eqv (tupD a) (tupD b) = decide (a = b) := eqv_tup a b
theorem eqv_tups : ∀ a b : List (List Int), PyData.eqvAll (a.map tupD) (b.map tupD) = decide (a = b)
  | [], [] => by simp [PyData.eqvAll]
  | [], _ :: _ => by simp [PyData.eqvAll]
  | _ :: _, [] => by simp [PyData.eqvAll]
  | x :: a, y :: b => by
    rw [List.map_cons, List.map_cons]
    simp only [PyData.eqvAll, eqv_tupD, eqv_tups a b]
    by_cases h : x = y <;> by_cases g : a = b <;> simp [h, g]
@[simp] theorem eqv_ltups (a b : List (List Int)) : PyData.eqv (.list (a.map tupD)) (.list (b.map tupD)) = decide (a = b) := by
  simp only [PyData.eqv, eqv_tups]
theorem inD_int (x : Int) : ∀ k : List Int, inD (.int x) (k.map .int) = decide (x ∈ k)
  | [] => rfl
  | y :: k => by
    have ih := inD_int x k
    unfold inD at ih ⊢
    rw [List.map_cons, List.any_cons, ih, eqv_int]
    by_cases h : y = x
    · simp [h]
    · have : ¬ x = y := fun z => h z.symm
      simp [h, this]
theorem inD_tup (x : List Int) : ∀ k : List (List Int), inD (tupD x) (k.map tupD) = decide (x ∈ k)
  | [] => rfl
  | y :: k => by
    have ih := inD_tup x k
    unfold inD at ih ⊢
    rw [List.map_cons, List.any_cons, ih, eqv_tupD]
    by_cases h : y = x
    · simp [h]
    · have : ¬ x = y := fun z => h z.symm
      simp [h, this]
theorem flat_ints (k : List Int) : (k.map PyData.int).all flatD = true := by
  simp [flatD, List.all_eq_true]
@[simp] theorem in_tup (b : Bool) (x : Int) (k : List Int) : inM b (.int x) (.tuple (k.map .int)) = ret (rd (.bool (decide (x ∈ k) == b))) := by
  unfold inM
  simp only [flat_ints, inD_int]
  rfl
@[simp] theorem in_lst (b : Bool) (x : Int) (k : List Int) : inM b (.int x) (.list (k.map .int)) = ret (rd (.bool (decide (x ∈ k) == b))) := by
  unfold inM
  simp [inD_int]
@[simp] theorem in_tups (b : Bool) (x : List Int) (k : List (List Int)) : inM b (tupD x) (.list (k.map tupD)) = ret (rd (.bool (decide (x ∈ k) == b))) := by
  unfold inM
  simp [inD_tup]
@[simp] theorem in_tups' (b : Bool) (x : List Int) (k : List (List Int)) : inM b (.tuple (x.map .int)) (.list (k.map tupD)) = ret (rd (.bool (decide (x ∈ k) == b))) := in_tups b x k
@[simp] theorem eq_M (x y : D) (h : eqOk x y = true) : eqD x y = ret (rd (.bool (PyData.eqv x y))) := by unfold eqD; rw [h]; rfl
@[simp] theorem ne_M (x y : D) (h : eqOk x y = true) : neD x y = ret (rd (.bool (!PyData.eqv x y))) := by unfold neD; rw [h]; rfl
@[simp] theorem intsOf_map : ∀ k : List Int, intsOf (k.map .int) = some k
  | [] => rfl
  | x :: k => by rw [List.map_cons]; unfold intsOf; rw [intsOf_map k]; rfl
@[simp] theorem tupsOf_map : ∀ ks : List (List Int), tupsOf (ks.map tupD) = some ks
  | [] => rfl
  | k :: ks => by rw [List.map_cons]; unfold tupsOf; simp only [tupD]; rw [intsOf_map k]; show (match some k, tupsOf (ks.map tupD) with | some k, some ks => some (k :: ks) | _, _ => none) = _; rw [tupsOf_map ks]
end Pv
namespace Pv
open PySem
theorem exB_step {Φ : Str → List Vv → M RV} {is : Str → Str → Bool} {s : S} {ss : List S} {env env' : Env} (h : ex Φ is s env = ret (.nx env')) : exB Φ is (s :: ss) env = exB Φ is ss env' := by
  show seqF (ex Φ is s env) _ = _
  rw [h]
  rfl
end Pv
set_option autoImplicit true
namespace Lw
open PySem PySem.Spec PyProof.Rows L2 Pv
def top (i : Nat) : Stmt := PySem.Challenge.pw_placeround_k13_whole_kinds.main.body.getD i (.Pass ⟨0, 0, 0, 0⟩)
def G : GS := ⟨[("MOST_PLACES", 7), ("MOST_THINGS", 6), ("MOST_BY", 99)], (["is_within", "look_size", "is_deal", "look", "look_many", "every_deal", "turned_by", "led_round", "mirror", "mirrored", "likes_of", "likes", "kind", "kinds", "_law_cell", "_law_mix", "_law_seed", "_law_pick", "_law_deal", "_law_all_deals", "_law_sizes", "law"]), (["RoundError", "NoSize", "NoWeights", "NoDeal", "NoCount"])⟩
def em : List (Str × Str × Bool) := []
def c_is_within : List Pv.S := [(.ret (.and (.isi (.var 0) .int) (.and (.not (.isi (.var 0) .bool)) (.chain .le .le (.var 1) (.var 0) (.var 2)))))]
def i_is_within : DI := ⟨⟨("is_within", none), "is_within", "is_within", defArgs (top 9), defBody (top 9), defScope (top 9), [], []⟩, (["thing", "low", "high"]), (["thing", "low", "high"]), [], c_is_within⟩
def c_look_size : List Pv.S := [(.ife (.not (.call "is_within" [(.var 0), (.int 2), (.glob "MOST_PLACES" 7)])) [(.rai "NoSize")] [])]
def i_look_size : DI := ⟨⟨("look_size", none), "look_size", "look_size", defArgs (top 10), defBody (top 10), defScope (top 10), [], []⟩, (["size"]), (["size"]), [], c_look_size⟩
def c_is_deal : List Pv.S := [(.ife (.or (.not (.isi (.var 1) .tuple)) (.not (.chain .le .le (.int 1) (.blt .len [(.var 1)]) (.glob "MOST_THINGS" 6)))) [(.ret (.bl false))] []), (.ret (.and (.not (.lc (.var 2) (.nm 2) (.seq (.var 1)) (some (.not (.call "is_within" [(.var 2), (.int 0), (.bin .sub (.var 0) (.int 1))]))) [2])) (.cmp .eq (.blt .lenSet [(.var 1)]) (.blt .len [(.var 1)]))))]
def i_is_deal : DI := ⟨⟨("is_deal", none), "is_deal", "is_deal", defArgs (top 11), defBody (top 11), defScope (top 11), [], []⟩, (["size", "thing"]), (["size", "thing", "place"]), [], c_is_deal⟩
def c_look : List Pv.S := [(.exp (.call "look_size" [(.var 0)])), (.ife (.not (.call "is_deal" [(.var 0), (.var 1)])) [(.rai "NoDeal")] [])]
def i_look : DI := ⟨⟨("look", none), "look", "look", defArgs (top 12), defBody (top 12), defScope (top 12), [], []⟩, (["size", "deal"]), (["size", "deal"]), [], c_look⟩
def c_look_many : List Pv.S := [(.exp (.call "look_size" [(.var 0)])), (.ife (.not (.call "is_within" [(.var 1), (.int 1), (.blt .min2 [(.var 0), (.glob "MOST_THINGS" 6)])])) [(.rai "NoWeights")] [])]
def i_look_many : DI := ⟨⟨("look_many", none), "look_many", "look_many", defArgs (top 13), defBody (top 13), defScope (top 13), [], []⟩, (["size", "many"]), (["size", "many"]), [], c_look_many⟩
def c_every_deal : List Pv.S := [(.set 2 (.lst [(.tup [])])), (.for_ (.nm 3) (.rng1 (.var 1)) [(.setO 4 (.lst [])), (.for_ (.nm 5) (.seq (.var 2)) [(.ext 4 (.lc (.bin .add (.var 5) (.tup [(.var 6)])) (.nm 6) (.rng1 (.var 0)) (some (.cmp .notin (.var 6) (.var 5))) [6]))]), (.set 2 (.own 4))]), (.ret (.var 2))]
def i_every_deal : DI := ⟨⟨("every_deal", none), "every_deal", "every_deal", defArgs (top 14), defBody (top 14), defScope (top 14), [], []⟩, (["size", "many"]), (["size", "many", "found", "thing", "longer", "deal", "place"]), [4], c_every_deal⟩
def c_turned_by : List Pv.S := [(.ret (.blt .tuple [(.lc (.bin .mod (.bin .add (.var 3) (.var 2)) (.var 0)) (.nm 3) (.seq (.var 1)) none [3])]))]
def i_turned_by : DI := ⟨⟨("turned_by", none), "turned_by", "turned_by", defArgs (top 17), defBody (top 17), defScope (top 17), [], []⟩, (["size", "deal", "by"]), (["size", "deal", "by", "place"]), [], c_turned_by⟩
def c_led_round : List Pv.S := [(.exp (.call "look" [(.var 0), (.var 1)])), (.ife (.not (.call "is_within" [(.var 2), (.neg (.glob "MOST_BY" 99)), (.glob "MOST_BY" 99)])) [(.rai "NoCount")] []), (.ret (.call "turned_by" [(.var 0), (.var 1), (.var 2)]))]
def i_led_round : DI := ⟨⟨("led_round", none), "led_round", "led_round", defArgs (top 18), defBody (top 18), defScope (top 18), [], []⟩, (["size", "deal", "by"]), (["size", "deal", "by"]), [], c_led_round⟩
def c_mirror : List Pv.S := [(.ret (.blt .tuple [(.lc (.bin .mod (.neg (.var 2)) (.var 0)) (.nm 2) (.seq (.var 1)) none [2])]))]
def i_mirror : DI := ⟨⟨("mirror", none), "mirror", "mirror", defArgs (top 19), defBody (top 19), defScope (top 19), [], []⟩, (["size", "deal"]), (["size", "deal", "place"]), [], c_mirror⟩
def c_mirrored : List Pv.S := [(.exp (.call "look" [(.var 0), (.var 1)])), (.ret (.call "mirror" [(.var 0), (.var 1)]))]
def i_mirrored : DI := ⟨⟨("mirrored", none), "mirrored", "mirrored", defArgs (top 20), defBody (top 20), defScope (top 20), [], []⟩, (["size", "deal"]), (["size", "deal"]), [], c_mirrored⟩
def c_likes_of : List Pv.S := [(.set 2 (.call "mirror" [(.var 0), (.var 1)])), (.set 3 (.bin .add (.lc (.call "turned_by" [(.var 0), (.var 1), (.var 4)]) (.nm 4) (.rng1 (.var 0)) none [4]) (.lc (.call "turned_by" [(.var 0), (.var 2), (.var 4)]) (.nm 4) (.rng1 (.var 0)) none [4]))), (.ret (.blt .sortedSet [(.var 3)]))]
def i_likes_of : DI := ⟨⟨("likes_of", none), "likes_of", "likes_of", defArgs (top 21), defBody (top 21), defScope (top 21), [], []⟩, (["size", "deal"]), (["size", "deal", "other", "found", "by"]), [], c_likes_of⟩
def c_likes : List Pv.S := [(.exp (.call "look" [(.var 0), (.var 1)])), (.ret (.call "likes_of" [(.var 0), (.var 1)]))]
def i_likes : DI := ⟨⟨("likes", none), "likes", "likes", defArgs (top 22), defBody (top 22), defScope (top 22), [], []⟩, (["size", "deal"]), (["size", "deal"]), [], c_likes⟩
def c_kind : List Pv.S := [(.exp (.call "look" [(.var 0), (.var 1)])), (.ret (.ix (.call "likes_of" [(.var 0), (.var 1)]) (.int 0)))]
def i_kind : DI := ⟨⟨("kind", none), "kind", "kind", defArgs (top 23), defBody (top 23), defScope (top 23), [], []⟩, (["size", "deal"]), (["size", "deal"]), [], c_kind⟩
def c_kinds : List Pv.S := [(.exp (.call "look_many" [(.var 0), (.var 1)])), (.ret (.blt .len [(.lc (.var 2) (.nm 2) (.seq (.call "every_deal" [(.var 0), (.var 1)])) (some (.cmp .eq (.ix (.call "likes_of" [(.var 0), (.var 2)]) (.int 0)) (.var 2))) [2])]))]
def i_kinds : DI := ⟨⟨("kinds", none), "kinds", "kinds", defArgs (top 24), defBody (top 24), defScope (top 24), [], []⟩, (["size", "many"]), (["size", "many", "deal"]), [], c_kinds⟩
def c__law_cell : List Pv.S := [(.ife (.cmp .lt (.var 1) (.blt .len [(.var 0)])) [(.ret (.ix (.var 0) (.var 1)))] []), (.ret (.int 0))]
def i__law_cell : DI := ⟨⟨("_law_cell", none), "_law_cell", "_law_cell", defArgs (top 26), defBody (top 26), defScope (top 26), [], []⟩, (["_law_script", "_law_k"]), (["_law_script", "_law_k"]), [], c__law_cell⟩
def c__law_mix : List Pv.S := [(.ret (.bin .mod (.bin .mod (.bin .pow (.bin .mod (.bin .mul (.var 0) (.int 48271)) (.var 1)) (.int 3)) (.var 1)) (.var 2)))]
def i__law_mix : DI := ⟨⟨("_law_mix", none), "_law_mix", "_law_mix", defArgs (top 27), defBody (top 27), defScope (top 27), [], []⟩, (["_law_cell_here", "_law_prime", "_law_many"]), (["_law_cell_here", "_law_prime", "_law_many"]), [], c__law_mix⟩
def c__law_seed : List Pv.S := [(.ret (.bin .mod (.bin .pow (.bin .mod (.bin .add (.bin .add (.bin .mul (.var 0) (.int 1103515245)) (.bin .mul (.int 7919) (.var 1))) (.int 12345)) (.int 2147483647)) (.int 5)) (.int 2147483647)))]
def i__law_seed : DI := ⟨⟨("_law_seed", none), "_law_seed", "_law_seed", defArgs (top 28), defBody (top 28), defScope (top 28), [], []⟩, (["_law_seed_here", "_law_k"]), (["_law_seed_here", "_law_k"]), [], c__law_seed⟩
def c__law_pick : List Pv.S := [(.ret (.bin .mod (.bin .fdiv (.var 0) (.int 97)) (.var 1)))]
def i__law_pick : DI := ⟨⟨("_law_pick", none), "_law_pick", "_law_pick", defArgs (top 29), defBody (top 29), defScope (top 29), [], []⟩, (["_law_seed_here", "_law_many"]), (["_law_seed_here", "_law_many"]), [], c__law_pick⟩
def c__law_deal : List Pv.S := [(.setO 3 (.rngl (.var 1))), (.setO 4 (.lst [])), (.for_ (.nm 5) (.rng1 (.var 2)) [(.appPop 4 3 (.call "_law_pick" [(.call "_law_seed" [(.var 0), (.var 5)]), (.blt .len [(.own 3)])]))]), (.ret (.blt .tuple [(.own 4)]))]
def i__law_deal : DI := ⟨⟨("_law_deal", none), "_law_deal", "_law_deal", defArgs (top 30), defBody (top 30), defScope (top 30), [], []⟩, (["_law_seed_here", "_law_size", "_law_many"]), (["_law_seed_here", "_law_size", "_law_many", "_law_free", "_law_found", "_law_k"]), [3, 4], c__law_deal⟩
def c__law_all_deals : List Pv.S := [(.set 2 (.lst [(.tup [])])), (.for_ (.nm 3) (.rng1 (.var 1)) [(.set 4 (.lst [])), (.for_ (.nm 5) (.seq (.var 2)) [(.set 4 (.bin .add (.var 4) (.lc (.bin .add (.var 5) (.tup [(.var 6)])) (.nm 6) (.rng1 (.var 0)) (some (.cmp .notin (.var 6) (.var 5))) [6])))]), (.set 2 (.var 4))]), (.ret (.var 2))]
def i__law_all_deals : DI := ⟨⟨("_law_all_deals", none), "_law_all_deals", "_law_all_deals", defArgs (top 31), defBody (top 31), defScope (top 31), [], []⟩, (["_law_size", "_law_many"]), (["_law_size", "_law_many", "_law_found", "_law_thing", "_law_longer", "_law_deal_here", "_law_place"]), [], c__law_all_deals⟩
def c__law_sizes : List Pv.S := [(.set 2 (.ix (.lst [(.int 2), (.int 3), (.int 4), (.int 5), (.int 4), (.int 5), (.int 6), (.int 7)]) (.bin .mod (.call "_law_cell" [(.var 0), (.var 1)]) (.int 8)))), (.ret (.tup [(.var 2), (.bin .add (.int 1) (.bin .mod (.call "_law_cell" [(.var 0), (.bin .add (.var 1) (.int 1))]) (.blt .min3 [(.var 2), (.int 6), (.ix (.lst [(.int 6), (.int 4), (.int 3)]) (.bin .add (.blt .int [(.cmp .gt (.var 2) (.int 5))]) (.blt .int [(.cmp .gt (.var 2) (.int 6))])))])))]))]
def i__law_sizes : DI := ⟨⟨("_law_sizes", none), "_law_sizes", "_law_sizes", defArgs (top 32), defBody (top 32), defScope (top 32), [], []⟩, (["_law_script", "_law_at"]), (["_law_script", "_law_at", "_law_size"]), [], c__law_sizes⟩
def c_law : List Pv.S := [(.unp (.tp [(.nm 6), (.nm 7)]) (.call "_law_sizes" [(.var 0), (.int 0)])), (.set 1 (.call "_law_deal" [(.call "_law_seed" [(.call "_law_cell" [(.var 0), (.int 2)]), (.int 0)]), (.var 6), (.var 7)])), (.set 2 (.bin .sub (.bin .mod (.call "_law_cell" [(.var 0), (.int 3)]) (.int 99)) (.int 49))), (.set 3 (.bin .sub (.call "_law_mix" [(.call "_law_cell" [(.var 0), (.int 4)]), (.int 9949), (.int 101)]) (.int 50))), (.ife (.cmp .ne (.call "led_round" [(.var 6), (.call "led_round" [(.var 6), (.var 1), (.var 2)]), (.var 3)]) (.call "led_round" [(.var 6), (.var 1), (.bin .add (.var 2) (.var 3))])) [(.ret (.bl false))] []), (.ife (.or (.cmp .ne (.call "mirrored" [(.var 6), (.call "mirrored" [(.var 6), (.var 1)])]) (.var 1)) (.cmp .ne (.call "led_round" [(.var 6), (.var 1), (.var 6)]) (.var 1))) [(.ret (.bl false))] []), (.ife (.cmp .ne (.call "mirrored" [(.var 6), (.call "led_round" [(.var 6), (.var 1), (.var 2)])]) (.call "led_round" [(.var 6), (.call "mirrored" [(.var 6), (.var 1)]), (.neg (.var 2))])) [(.ret (.bl false))] []), (.set 4 (.call "likes" [(.var 6), (.var 1)])), (.ife (.or (.cmp .notin (.call "mirrored" [(.var 6), (.var 1)]) (.var 4)) (.cmp .notin (.call "led_round" [(.var 6), (.var 1), (.var 2)]) (.var 4))) [(.ret (.bl false))] []), (.ife (.or (.cmp .notin (.var 1) (.var 4)) (.and (.cmp .notin (.blt .len [(.var 4)]) (.tup [(.var 6), (.bin .mul (.int 2) (.var 6))])) (.cmp .gt (.bin .mod (.bin .mul (.int 2) (.var 6)) (.blt .len [(.var 4)])) (.int 0)))) [(.ret (.bl false))] []), (.for_ (.nm 5) (.seq (.var 4)) [(.ife (.or (.cmp .ne (.call "likes" [(.var 6), (.var 5)]) (.var 4)) (.cmp .ne (.call "kind" [(.var 6), (.var 5)]) (.ix (.var 4) (.int 0)))) [(.ret (.bl false))] [])]), (.set 5 (.call "_law_deal" [(.call "_law_seed" [(.call "_law_cell" [(.var 0), (.int 5)]), (.int 1)]), (.var 6), (.var 7)])), (.ife (.or (.cmp .ne (.cmp .in_ (.var 5) (.var 4)) (.cmp .eq (.call "kind" [(.var 6), (.var 5)]) (.call "kind" [(.var 6), (.var 1)]))) (.cmp .ne (.cmp .in_ (.var 1) (.call "likes" [(.var 6), (.var 5)])) (.cmp .in_ (.var 5) (.var 4)))) [(.ret (.bl false))] []), (.ife (.or (.cmp .ne (.ix (.ix (.var 4) (.int 0)) (.int 0)) (.int 0)) (.cmp .ne (.call "kinds" [(.var 6), (.int 1)]) (.int 1))) [(.ret (.bl false))] []), (.ret (.cmp .ge (.bin .mul (.bin .mul (.call "kinds" [(.var 6), (.var 7)]) (.int 2)) (.var 6)) (.blt .len [(.call "_law_all_deals" [(.var 6), (.var 7)])])))]
def i_law : DI := ⟨⟨("law", none), "law", "law", defArgs (top 33), defBody (top 33), defScope (top 33), [], []⟩, (["_law_script"]), (["_law_script", "_law_deal_here", "_law_one", "_law_two", "_law_some", "_law_other", "_law_size", "_law_many"]), [], c_law⟩
def T : List DI := [i_is_within, i_look_size, i_is_deal, i_look, i_look_many, i_every_deal, i_turned_by, i_led_round, i_mirror, i_mirrored, i_likes_of, i_likes, i_kind, i_kinds, i__law_cell, i__law_mix, i__law_seed, i__law_pick, i__law_deal, i__law_all_deals, i__law_sizes, i_law]
theorem s_is_within (is : Str → Str → Bool) (k : Nat) (xs : List Vv) : sem T is (k + 1) "is_within" xs = guard (decide (xs.length = 3)) (runB (sem T is k) is 0 c_is_within xs) := by kernel_rfl
theorem s_look_size (is : Str → Str → Bool) (k : Nat) (xs : List Vv) : sem T is (k + 1) "look_size" xs = guard (decide (xs.length = 1)) (runB (sem T is k) is 0 c_look_size xs) := by kernel_rfl
theorem s_is_deal (is : Str → Str → Bool) (k : Nat) (xs : List Vv) : sem T is (k + 1) "is_deal" xs = guard (decide (xs.length = 2)) (runB (sem T is k) is 1 c_is_deal xs) := by kernel_rfl
theorem s_look (is : Str → Str → Bool) (k : Nat) (xs : List Vv) : sem T is (k + 1) "look" xs = guard (decide (xs.length = 2)) (runB (sem T is k) is 0 c_look xs) := by kernel_rfl
theorem s_look_many (is : Str → Str → Bool) (k : Nat) (xs : List Vv) : sem T is (k + 1) "look_many" xs = guard (decide (xs.length = 2)) (runB (sem T is k) is 0 c_look_many xs) := by kernel_rfl
theorem s_every_deal (is : Str → Str → Bool) (k : Nat) (xs : List Vv) : sem T is (k + 1) "every_deal" xs = guard (decide (xs.length = 2)) (runB (sem T is k) is 5 c_every_deal xs) := by kernel_rfl
theorem s_turned_by (is : Str → Str → Bool) (k : Nat) (xs : List Vv) : sem T is (k + 1) "turned_by" xs = guard (decide (xs.length = 3)) (runB (sem T is k) is 1 c_turned_by xs) := by kernel_rfl
theorem s_led_round (is : Str → Str → Bool) (k : Nat) (xs : List Vv) : sem T is (k + 1) "led_round" xs = guard (decide (xs.length = 3)) (runB (sem T is k) is 0 c_led_round xs) := by kernel_rfl
theorem s_mirror (is : Str → Str → Bool) (k : Nat) (xs : List Vv) : sem T is (k + 1) "mirror" xs = guard (decide (xs.length = 2)) (runB (sem T is k) is 1 c_mirror xs) := by kernel_rfl
theorem s_mirrored (is : Str → Str → Bool) (k : Nat) (xs : List Vv) : sem T is (k + 1) "mirrored" xs = guard (decide (xs.length = 2)) (runB (sem T is k) is 0 c_mirrored xs) := by kernel_rfl
theorem s_likes_of (is : Str → Str → Bool) (k : Nat) (xs : List Vv) : sem T is (k + 1) "likes_of" xs = guard (decide (xs.length = 2)) (runB (sem T is k) is 3 c_likes_of xs) := by kernel_rfl
theorem s_likes (is : Str → Str → Bool) (k : Nat) (xs : List Vv) : sem T is (k + 1) "likes" xs = guard (decide (xs.length = 2)) (runB (sem T is k) is 0 c_likes xs) := by kernel_rfl
theorem s_kind (is : Str → Str → Bool) (k : Nat) (xs : List Vv) : sem T is (k + 1) "kind" xs = guard (decide (xs.length = 2)) (runB (sem T is k) is 0 c_kind xs) := by kernel_rfl
theorem s_kinds (is : Str → Str → Bool) (k : Nat) (xs : List Vv) : sem T is (k + 1) "kinds" xs = guard (decide (xs.length = 2)) (runB (sem T is k) is 1 c_kinds xs) := by kernel_rfl
theorem s__law_cell (is : Str → Str → Bool) (k : Nat) (xs : List Vv) : sem T is (k + 1) "_law_cell" xs = guard (decide (xs.length = 2)) (runB (sem T is k) is 0 c__law_cell xs) := by kernel_rfl
theorem s__law_mix (is : Str → Str → Bool) (k : Nat) (xs : List Vv) : sem T is (k + 1) "_law_mix" xs = guard (decide (xs.length = 3)) (runB (sem T is k) is 0 c__law_mix xs) := by kernel_rfl
theorem s__law_seed (is : Str → Str → Bool) (k : Nat) (xs : List Vv) : sem T is (k + 1) "_law_seed" xs = guard (decide (xs.length = 2)) (runB (sem T is k) is 0 c__law_seed xs) := by kernel_rfl
theorem s__law_pick (is : Str → Str → Bool) (k : Nat) (xs : List Vv) : sem T is (k + 1) "_law_pick" xs = guard (decide (xs.length = 2)) (runB (sem T is k) is 0 c__law_pick xs) := by kernel_rfl
theorem s__law_deal (is : Str → Str → Bool) (k : Nat) (xs : List Vv) : sem T is (k + 1) "_law_deal" xs = guard (decide (xs.length = 3)) (runB (sem T is k) is 3 c__law_deal xs) := by kernel_rfl
theorem s__law_all_deals (is : Str → Str → Bool) (k : Nat) (xs : List Vv) : sem T is (k + 1) "_law_all_deals" xs = guard (decide (xs.length = 2)) (runB (sem T is k) is 5 c__law_all_deals xs) := by kernel_rfl
theorem s__law_sizes (is : Str → Str → Bool) (k : Nat) (xs : List Vv) : sem T is (k + 1) "_law_sizes" xs = guard (decide (xs.length = 2)) (runB (sem T is k) is 1 c__law_sizes xs) := by kernel_rfl
theorem s_law (is : Str → Str → Bool) (k : Nat) (xs : List Vv) : sem T is (k + 1) "law" xs = guard (decide (xs.length = 1)) (runB (sem T is k) is 7 c_law xs) := by kernel_rfl
end Lw
namespace Lw
open PySem PySem.Spec PyProof.Rows L2 Pv
variable {is : Str → Str → Bool}
theorem e_is_within (k : Nat) (x lo hi : Int) : sem T is (k + 1) "is_within" [.d (.int x), .d (.int lo), .d (.int hi)] = ret (rd (.bool (decide (lo ≤ x) && decide (x ≤ hi)))) := by
  rw [s_is_within]
  by_cases h : lo ≤ x <;> simp [c_is_within, h]
theorem e_look_size (k : Nat) (size : Int) (h : 2 ≤ size ∧ size ≤ 7) : sem T is (k + 2) "look_size" [.d (.int size)] = ret (rd .none) := by
  rw [s_look_size]
  simp [c_look_size, e_is_within, h]
theorem e_turned_by (k : Nat) (size by_ : Int) (d : List Int) (h : 0 < size) : sem T is (k + 1) "turned_by" [.d (.int size), .d (tupD d), .d (.int by_)] = ret (rd (tupD (d.map fun p => (p + by_) % size))) := by
  rw [s_turned_by]
  simp [c_turned_by, tupD, lcL_map, modOk, h, Function.comp_def]
theorem e_mirror (k : Nat) (size : Int) (d : List Int) (h : 0 < size) : sem T is (k + 1) "mirror" [.d (.int size), .d (tupD d)] = ret (rd (tupD (d.map fun p => (-p) % size))) := by
  rw [s_mirror]
  simp [c_mirror, tupD, lcL_map, modOk, h, Function.comp_def]
/-- a deal -/
structure Dl (size : Int) (d : List Int) : Prop where
  s2 : 2 ≤ size
  s7 : size ≤ 7
  l1 : 1 ≤ d.length
  l6 : d.length ≤ 6
  ins : ∀ p ∈ d, 0 ≤ p ∧ p < size
  nd : d.Nodup
theorem e_is_deal (k : Nat) {size : Int} {d : List Int} (h : Dl size d) : sem T is (k + 2) "is_deal" [.d (.int size), .d (tupD d)] = ret (rd (.bool true)) := by
  have l1 : (1 : Int) ≤ d.length := by have := h.l1; omega
  have l6 : (d.length : Int) ≤ 6 := by have := h.l6; omega
  have l9 : d.length ≤ 4000 := by have := h.l6; omega
  have e0 : ∀ a ∈ d, 0 ≤ a ∧ a ≤ size - 1 := fun p hp => by
    have := h.ins p hp
    omega
  have e1 : (uniqL d).length = d.length := (uniq_len h.nd fun _ => Iff.rfl).symm
  rw [s_is_deal]
  simp [c_is_deal, tupD, e_is_within, lcL_map, l1, l6, e1, lenSetM, l9, if_pos e0]
theorem e_look (k : Nat) {size : Int} {d : List Int} (h : Dl size d) : sem T is (k + 3) "look" [.d (.int size), .d (tupD d)] = ret (rd .none) := by
  rw [s_look]
  simp [c_look, e_look_size _ _ ⟨h.s2, h.s7⟩, e_is_deal _ h]
/-! ### plain -/
def turnB (size by_ : Int) (d : List Int) : List Int := d.map fun p => (p + by_) % size
def mirr (size : Int) (d : List Int) : List Int := d.map fun p => (-p) % size
theorem turn_ins {size by_ : Int} {d : List Int} (h : 0 < size) : ∀ p ∈ turnB size by_ d, 0 ≤ p ∧ p < size := fun p hp => by
  obtain ⟨q, _, rfl⟩ := List.mem_map.mp hp
  exact ⟨Int.emod_nonneg _ (by omega), Int.emod_lt_of_pos _ h⟩
theorem mirr_ins {size : Int} {d : List Int} (h : 0 < size) : ∀ p ∈ mirr size d, 0 ≤ p ∧ p < size := fun p hp => by
  obtain ⟨q, _, rfl⟩ := List.mem_map.mp hp
  exact ⟨Int.emod_nonneg _ (by omega), Int.emod_lt_of_pos _ h⟩
theorem emod_inj {size a b c : Int} (h : 0 < size) (ha : 0 ≤ a ∧ a < size) (hb : 0 ≤ b ∧ b < size) (e : (a + c) % size = (b + c) % size) : a = b := by
  have h1 : (a + c - (b + c)) % size = 0 := Int.emod_eq_emod_iff_emod_sub_eq_zero.mp e
  have h2 : (a - b) % size = 0 := by rw [← h1]; congr 1; omega
  obtain ⟨q, hq⟩ := Int.dvd_of_emod_eq_zero h2
  have : q = 0 := by
    rcases Int.lt_trichotomy q 0 with z | z | z
    · have : size * q ≤ size * (-1) := Int.mul_le_mul_of_nonneg_left (by omega) (by omega)
      omega
    · exact z
    · have : size * 1 ≤ size * q := Int.mul_le_mul_of_nonneg_left (by omega) (by omega)
      omega
  subst this
  omega
theorem turn_nodup {size by_ : Int} {d : List Int} (h : 0 < size) (hd : ∀ p ∈ d, 0 ≤ p ∧ p < size) (n : d.Nodup) : (turnB size by_ d).Nodup := by
  unfold turnB
  refine List.pairwise_map.mpr (List.Pairwise.imp_of_mem (fun {a b} ha hb q e => q ?_) n)
  exact emod_inj h (hd a ha) (hd b hb) e
theorem Dl.turn {size : Int} {d : List Int} (h : Dl size d) (by_ : Int) : Dl size (turnB size by_ d) := by
  have hs : 0 < size := by have := h.s2; omega
  exact ⟨h.s2, h.s7, by unfold turnB; rw [List.length_map]; exact h.l1, by unfold turnB; rw [List.length_map]; exact h.l6, turn_ins hs, turn_nodup hs h.ins h.nd⟩
def found (size : Int) (d : List Int) : List (List Int) := (List.range size.toNat).map (fun b : Nat => turnB size b d) ++ (List.range size.toNat).map (fun b : Nat => turnB size b (mirr size d))
def likesOf (size : Int) (d : List Int) : List (List Int) := sortT (uniqL (found size d))
theorem found_ok {size : Int} {d : List Int} (h2 : 2 ≤ size) (h7 : size ≤ 7) (l1 : 1 ≤ d.length) : tupOk (found size d) = true := by
  have hs : 0 < size := by omega
  have hm : ∀ k ∈ found size d, k.length = d.length ∧ ∀ m ∈ k, 0 ≤ m ∧ m < 64 := fun k hk => by
    unfold found at hk
    rcases List.mem_append.mp hk with hk | hk
    · obtain ⟨b, _, rfl⟩ := List.mem_map.mp hk
      exact ⟨by unfold turnB; rw [List.length_map], fun m hm => by have := turn_ins hs m hm; omega⟩
    · obtain ⟨b, _, rfl⟩ := List.mem_map.mp hk
      exact ⟨by unfold turnB mirr; rw [List.length_map, List.length_map], fun m hm => by have := turn_ins hs m hm; omega⟩
  have hl : (found size d).length < 64 := by
    unfold found
    rw [List.length_append, List.length_map, List.length_map, List.length_range]
    omega
  unfold tupOk
  rw [Bool.and_eq_true, decide_eq_true_eq]
  refine ⟨hl, ?_⟩
  cases e : found size d with
  | nil => rfl
  | cons k ks =>
    have hk := hm k (by rw [e]; exact List.mem_cons_self)
    simp only [Bool.and_eq_true, decide_eq_true_eq, List.all_eq_true]
    refine ⟨by rw [hk.1]; exact l1, fun l hl => ?_⟩
    have := hm l (by rw [e]; exact hl)
    exact ⟨this.1.trans hk.1.symm, fun m hm' => this.2 m hm'⟩
theorem e_turnB (k : Nat) (size by_ : Int) (d : List Int) (h : 0 < size) : sem T is (k + 1) "turned_by" [.d (.int size), .d (tupD d), .d (.int by_)] = ret (rd (tupD (turnB size by_ d))) := e_turned_by k size by_ d h
theorem e_mirr (k : Nat) (size : Int) (d : List Int) (h : 0 < size) : sem T is (k + 1) "mirror" [.d (.int size), .d (tupD d)] = ret (rd (tupD (mirr size d))) := e_mirror k size d h
theorem e_likes_of (k : Nat) {size : Int} {d : List Int} (h2 : 2 ≤ size) (h7 : size ≤ 7) (l1 : 1 ≤ d.length) : sem T is (k + 2) "likes_of" [.d (.int size), .d (tupD d)] = ret (.fr (.lst ((likesOf size d).map tupD))) := by
  have hs : 0 < size := by omega
  have r : rangeOk 0 size = true := by unfold rangeOk; simp; omega
  have e := found_ok (d := d) h2 h7 l1
  have f : fits (size.toNat + size.toNat) = true := by unfold fits; simp; omega
  have g : (List.range size.toNat).map (fun b : Nat => tupD (turnB size b d)) ++ (List.range size.toNat).map (fun b : Nat => tupD (turnB size b (mirr size d))) = (found size d).map tupD := by
    unfold found
    rw [List.map_append, List.map_map, List.map_map]
    rfl
  rw [s_likes_of]
  simp [c_likes_of, e_turnB _ _ _ _ hs, e_mirr _ _ _ hs, r, lcL_range, f, g, sortedSetM, e, likesOf]
theorem e_led_round (k : Nat) {size by_ : Int} {d : List Int} (h : Dl size d) (h1 : -99 ≤ by_) (h2 : by_ ≤ 99) : sem T is (k + 4) "led_round" [.d (.int size), .d (tupD d), .d (.int by_)] = ret (rd (tupD (turnB size by_ d))) := by
  rw [s_led_round]
  simp [c_led_round, e_look _ h, e_is_within, e_turnB (k + 2) _ _ _ (show (0 : Int) < size by have := h.s2; omega), h1, h2]
theorem e_mirrored (k : Nat) {size : Int} {d : List Int} (h : Dl size d) : sem T is (k + 4) "mirrored" [.d (.int size), .d (tupD d)] = ret (rd (tupD (mirr size d))) := by
  rw [s_mirrored]
  simp [c_mirrored, e_look _ h, e_mirr (k + 2) _ _ (show (0 : Int) < size by have := h.s2; omega)]
theorem e_likes (k : Nat) {size : Int} {d : List Int} (h : Dl size d) : sem T is (k + 4) "likes" [.d (.int size), .d (tupD d)] = ret (.fr (.lst ((likesOf size d).map tupD))) := by
  rw [s_likes]
  simp [c_likes, e_look _ h, e_likes_of (k + 1) h.s2 h.s7 h.l1]
theorem likes_ne {size : Int} {d : List Int} (h2 : 2 ≤ size) : ∃ x r, likesOf size d = x :: r := by
  cases e : likesOf size d with
  | cons x r => exact ⟨x, r, rfl⟩
  | nil =>
    exfalso
    have : turnB size 0 d ∈ likesOf size d := by
      unfold likesOf
      rw [(sortT_perm _).mem_iff, uniqL_mem]
      unfold found
      refine List.mem_append_left _ (List.mem_map.mpr ⟨0, List.mem_range.mpr (by omega), rfl⟩)
    rw [e] at this
    cases this
def kindOf (size : Int) (d : List Int) : List Int := (likesOf size d).headD []
theorem ix0 (x : List Int) (r : List (List Int)) : L2.atI (tupD x :: r.map tupD) 0 = some (tupD x) := by
  simp [L2.atI, L2.ixN]
theorem e_kind (k : Nat) {size : Int} {d : List Int} (h : Dl size d) : sem T is (k + 4) "kind" [.d (.int size), .d (tupD d)] = ret (rd (tupD (kindOf size d))) := by
  obtain ⟨x, r, e⟩ := likes_ne (d := d) h.s2
  rw [s_kind]
  simp [c_kind, e_look _ h, e_likes_of (k + 1) h.s2 h.s7 h.l1, e, ix0, kindOf]
end Lw
namespace Lw
open PySem PySem.Spec PyProof.Rows L2 Pv
variable {is : Str → Str → Bool}
/-! ### every deal -/
def step1 (size : Int) (d : List Int) : List (List Int) := ((List.range size.toNat).filter fun b : Nat => !decide ((b : Int) ∈ d)).map fun b : Nat => d ++ [(b : Int)]
def every (size : Int) : Nat → List (List Int)
  | 0 => [[]]
  | n + 1 => (every size n).flatMap (step1 size)
theorem step1_len (size : Int) (h : size ≤ 7) (d : List Int) : (step1 size d).length ≤ 7 := by
  unfold step1
  rw [List.length_map]
  refine Nat.le_trans (List.length_filter_le _ _) ?_
  rw [List.length_range]
  omega
theorem flat_len (size : Int) (h : size ≤ 7) : ∀ ds : List (List Int), (ds.flatMap (step1 size)).length ≤ 7 * ds.length
  | [] => by simp
  | d :: ds => by
    rw [List.flatMap_cons, List.length_append, List.length_cons]
    have := step1_len size h d
    have := flat_len size h ds
    omega
theorem every_len (size : Int) (h : size ≤ 7) : ∀ n : Nat, n ≤ 6 → (every size n).length ≤ 7 ^ n
  | 0, _ => by simp [every]
  | n + 1, hn => by
    have := every_len size h n (by omega)
    have := flat_len size h (every size n)
    unfold every
    rw [Nat.pow_succ]
    omega
theorem every_dl {size : Int} (h : size ≤ 7) : ∀ (n : Nat) (d : List Int), d ∈ every size n → d.length = n ∧ (∀ p ∈ d, 0 ≤ p ∧ p < size) ∧ d.Nodup
  | 0, d, hd => by
    have : d = [] := by simpa [every] using hd
    subst this
    exact ⟨rfl, (fun _ h => nomatch h), List.nodup_nil⟩
  | n + 1, d, hd => by
    obtain ⟨e, he, hd⟩ := List.mem_flatMap.mp hd
    obtain ⟨h1, h2, h3⟩ := every_dl h n e he
    obtain ⟨b, hb, rfl⟩ := List.mem_map.mp hd
    obtain ⟨b1, b2⟩ := List.mem_filter.mp hb
    have b1 := List.mem_range.mp b1
    have b2 : (b : Int) ∉ e := by simpa using b2
    refine ⟨by simp [h1], fun p hp => ?_, ?_⟩
    · rcases List.mem_append.mp hp with hp | hp
      · exact h2 p hp
      · have : p = (b : Int) := by simpa using hp
        subst this
        omega
    · refine List.nodup_append.mpr ⟨h3, by simp, fun a ha c hc => ?_⟩
      have : c = (b : Int) := by simpa using hc
      subst this
      exact fun z => b2 (z ▸ ha)
theorem ext_comp (Φ : Str → List Vv → M RV) {size : Int} {d : List Int} (hs : rangeOk 0 size = true) (hl : d.length ≤ 6) (a1 a2 a3 a4 : Slot) :
    ev Φ (.lc (.bin .add (.var 5) (.tup [(.var 6)])) (.nm 6) (.rng1 (.var 0)) (some (.cmp .notin (.var 6) (.var 5))) [6]) [.val (.d (.int size)), a1, a2, a3, a4, .val (.d (tupD d)), .non] = ret (.fr (.lst ((step1 size d).map tupD))) := by
  have f1 : fits 1 = true := by decide
  have f2 : fits (d.length + 1) = true := by unfold fits; simp; omega
  simp [hs, lcL_range, tupD, f1, f2]
  rw [step1, List.map_map]
  simp [Function.comp_def, tupD]
theorem inner (Φ : Str → List Vv → M RV) {size : Int} (hs : rangeOk 0 size = true) (h7 : size ≤ 7) (a1 a2 a3 : Slot) : ∀ (ds acc : List (List Int)) (s : Slot), (∀ d ∈ ds, d.length ≤ 6) → acc.length + 7 * ds.length ≤ 16777216 →
    ∃ s', forL (bodyF Φ is (.nm 5) [(.ext 4 (.lc (.bin .add (.var 5) (.tup [(.var 6)])) (.nm 6) (.rng1 (.var 0)) (some (.cmp .notin (.var 6) (.var 5))) [6]))]) (ds.map tupD) [.val (.d (.int size)), a1, a2, a3, .own (.lst (acc.map tupD)), s, .non] =
      ret (.nx [.val (.d (.int size)), a1, a2, a3, .own (.lst ((acc ++ ds.flatMap (step1 size)).map tupD)), s', .non])
  | [], acc, s, _, _ => ⟨s, by simp⟩
  | d :: ds, acc, s, hd, hl => by
    have e := ext_comp Φ (d := d) hs (hd d List.mem_cons_self) a1 a2 a3 (.own (.lst (acc.map tupD)))
    have l1 := step1_len size h7 d
    obtain ⟨s', ih⟩ := inner Φ hs h7 a1 a2 a3 ds (acc ++ step1 size d) (.val (.d (tupD d))) (fun c hc => hd c (List.mem_cons_of_mem _ hc)) (by rw [List.length_append]; rw [List.length_cons] at hl; omega)
    refine ⟨s', ?_⟩
    rw [List.map_cons, forL_cons]
    have f : fits (acc.length + (step1 size d).length) = true := by unfold fits; rw [List.length_cons] at hl; simp; omega
    have st : bodyF Φ is (.nm 5) [(.ext 4 (.lc (.bin .add (.var 5) (.tup [(.var 6)])) (.nm 6) (.rng1 (.var 0)) (some (.cmp .notin (.var 6) (.var 5))) [6]))] (tupD d) [.val (.d (.int size)), a1, a2, a3, .own (.lst (acc.map tupD)), s, .non] = ret (.nx [.val (.d (.int size)), a1, a2, a3, .own (.lst ((acc ++ step1 size d).map tupD)), .val (.d (tupD d)), .non]) := by
      unfold bodyF
      show exB Φ is [.ext 4 _] [.val (.d (.int size)), a1, a2, a3, .own (.lst (acc.map tupD)), .val (.d (tupD d)), .non] = _
      simp [f, e, -ev_lc]
    rw [st, seqF_nx, ih]
    simp
theorem e_every (k : Nat) {size : Int} {n : Nat} (h2 : 2 ≤ size) (h7 : size ≤ 7) (hn : n ≤ 6) : sem T is (k + 1) "every_deal" [.d (.int size), .d (.int n)] = ret (rd (.list ((every size n).map tupD))) := by
  have hs : rangeOk 0 size = true := by unfold rangeOk; simp; omega
  have hr : rangeOk 0 (n : Int) = true := by unfold rangeOk; simp; omega
  rw [s_every_deal]
  have f0 : fits 0 = true := by decide
  have f1 : fits 1 = true := by decide
  have key : ∃ env', forG (fun (i : Nat) => bodyF (sem T is k) is (.nm 3) [(.setO 4 (.lst [])), (.for_ (.nm 5) (.seq (.var 2)) [(.ext 4 (.lc (.bin .add (.var 5) (.tup [(.var 6)])) (.nm 6) (.rng1 (.var 0)) (some (.cmp .notin (.var 6) (.var 5))) [6]))]), (.set 2 (.own 4))] (.int (0 + (i : Nat)))) (List.range ((n : Int) - 0).toNat) [.val (.d (.int size)), .val (.d (.int n)), .val (.d (.list ([[]].map tupD))), .non, .non, .non, .non] = ret (.nx env') ∧
      ∃ s3 s4 s5, env' = [.val (.d (.int size)), .val (.d (.int n)), .val (.d (.list ((every size (List.range ((n : Int) - 0).toNat).length).map tupD))), s3, s4, s5, .non] := by
    refine forG_inv (fun done env => ∃ s3 s4 s5, env = [.val (.d (.int size)), .val (.d (.int n)), .val (.d (.list ((every size done.length).map tupD))), s3, s4, s5, .non]) _ [] _ ⟨.non, .non, .non, rfl⟩ fun d x r env hd ⟨s3, s4, s5, he⟩ => ?_
    subst he
    have hdl : d.length < n := by
      have := congrArg List.length hd
      simp at this
      omega
    have b := every_len size h7 d.length (by omega)
    have b2 : 7 ^ d.length ≤ 7 ^ 6 := Nat.pow_le_pow_right (by omega) (by omega)
    obtain ⟨s', hi⟩ := inner (is := is) (sem T is k) hs h7 (.val (.d (.int n))) (.val (.d (.list ((every size d.length).map tupD)))) (.val (.d (.int (0 + (x : Nat))))) (every size d.length) [] s5 (fun c hc => by have := (every_dl h7 _ c hc).1; omega) (by simp; omega)
    simp only [List.map_nil, List.nil_append, Int.zero_add] at hi
    refine ⟨[.val (.d (.int size)), .val (.d (.int n)), .val (.d (.list ((every size (d.length + 1)).map tupD))), .val (.d (.int (0 + (x : Nat)))), .val (.d (.list ((every size (d.length + 1)).map tupD))), s', .non], ?_, ⟨.val (.d (.int (0 + (x : Nat)))), .val (.d (.list ((every size (d.length + 1)).map tupD))), s', by simp⟩⟩
    simp only [bodyF]
    simp [f0, hi, every]
  obtain ⟨env', e1, s3, s4, s5, e2⟩ := key
  subst e2
  simp only [List.length_range, Int.sub_zero, Int.toNat_natCast, Int.zero_add] at e1
  rw [show List.map tupD [[]] = [PyData.tuple []] from rfl] at e1
  simp [c_every_deal, f0, f1, hr, forL_range, e1]
/-- the same by concatenation -/
theorem inner2 (Φ : Str → List Vv → M RV) {size : Int} (hs : rangeOk 0 size = true) (h7 : size ≤ 7) (a1 a2 a3 : Slot) : ∀ (ds acc : List (List Int)) (s : Slot), (∀ d ∈ ds, d.length ≤ 6) → acc.length + 7 * ds.length ≤ 16777216 →
    ∃ s', forL (bodyF Φ is (.nm 5) [(.set 4 (.bin .add (.var 4) (.lc (.bin .add (.var 5) (.tup [(.var 6)])) (.nm 6) (.rng1 (.var 0)) (some (.cmp .notin (.var 6) (.var 5))) [6])))]) (ds.map tupD) [.val (.d (.int size)), a1, a2, a3, .val (.d (.list (acc.map tupD))), s, .non] =
      ret (.nx [.val (.d (.int size)), a1, a2, a3, .val (.d (.list ((acc ++ ds.flatMap (step1 size)).map tupD))), s', .non])
  | [], acc, s, _, _ => ⟨s, by simp⟩
  | d :: ds, acc, s, hd, hl => by
    have e := ext_comp Φ (d := d) hs (hd d List.mem_cons_self) a1 a2 a3 (.val (.d (.list (acc.map tupD))))
    have l1 := step1_len size h7 d
    obtain ⟨s', ih⟩ := inner2 Φ hs h7 a1 a2 a3 ds (acc ++ step1 size d) (.val (.d (tupD d))) (fun c hc => hd c (List.mem_cons_of_mem _ hc)) (by rw [List.length_append]; rw [List.length_cons] at hl; omega)
    refine ⟨s', ?_⟩
    rw [List.map_cons, forL_cons]
    have f : fits (acc.length + (step1 size d).length) = true := by unfold fits; rw [List.length_cons] at hl; simp; omega
    have st : bodyF Φ is (.nm 5) [(.set 4 (.bin .add (.var 4) (.lc (.bin .add (.var 5) (.tup [(.var 6)])) (.nm 6) (.rng1 (.var 0)) (some (.cmp .notin (.var 6) (.var 5))) [6])))] (tupD d) [.val (.d (.int size)), a1, a2, a3, .val (.d (.list (acc.map tupD))), s, .non] = ret (.nx [.val (.d (.int size)), a1, a2, a3, .val (.d (.list ((acc ++ step1 size d).map tupD))), .val (.d (tupD d)), .non]) := by
      unfold bodyF
      show exB Φ is [.set 4 _] [.val (.d (.int size)), a1, a2, a3, .val (.d (.list (acc.map tupD))), .val (.d (tupD d)), .non] = _
      simp [f, e, -ev_lc]
    rw [st, seqF_nx, ih]
    simp
theorem e_all (k : Nat) {size : Int} {n : Nat} (h2 : 2 ≤ size) (h7 : size ≤ 7) (hn : n ≤ 6) : sem T is (k + 1) "_law_all_deals" [.d (.int size), .d (.int n)] = ret (rd (.list ((every size n).map tupD))) := by
  have hs : rangeOk 0 size = true := by unfold rangeOk; simp; omega
  have hr : rangeOk 0 (n : Int) = true := by unfold rangeOk; simp; omega
  rw [s__law_all_deals]
  have f0 : fits 0 = true := by decide
  have f1 : fits 1 = true := by decide
  have key : ∃ env', forG (fun (i : Nat) => bodyF (sem T is k) is (.nm 3) [(.set 4 (.lst [])), (.for_ (.nm 5) (.seq (.var 2)) [(.set 4 (.bin .add (.var 4) (.lc (.bin .add (.var 5) (.tup [(.var 6)])) (.nm 6) (.rng1 (.var 0)) (some (.cmp .notin (.var 6) (.var 5))) [6])))]), (.set 2 (.var 4))] (.int (0 + (i : Nat)))) (List.range ((n : Int) - 0).toNat) [.val (.d (.int size)), .val (.d (.int n)), .val (.d (.list ([[]].map tupD))), .non, .non, .non, .non] = ret (.nx env') ∧
      ∃ s3 s4 s5, env' = [.val (.d (.int size)), .val (.d (.int n)), .val (.d (.list ((every size (List.range ((n : Int) - 0).toNat).length).map tupD))), s3, s4, s5, .non] := by
    refine forG_inv (fun done env => ∃ s3 s4 s5, env = [.val (.d (.int size)), .val (.d (.int n)), .val (.d (.list ((every size done.length).map tupD))), s3, s4, s5, .non]) _ [] _ ⟨.non, .non, .non, rfl⟩ fun d x r env hd ⟨s3, s4, s5, he⟩ => ?_
    subst he
    have hdl : d.length < n := by
      have := congrArg List.length hd
      simp at this
      omega
    have b := every_len size h7 d.length (by omega)
    have b2 : 7 ^ d.length ≤ 7 ^ 6 := Nat.pow_le_pow_right (by omega) (by omega)
    obtain ⟨s', hi⟩ := inner2 (is := is) (sem T is k) hs h7 (.val (.d (.int n))) (.val (.d (.list ((every size d.length).map tupD)))) (.val (.d (.int (0 + (x : Nat))))) (every size d.length) [] s5 (fun c hc => by have := (every_dl h7 _ c hc).1; omega) (by simp; omega)
    simp only [List.map_nil, List.nil_append, Int.zero_add] at hi
    refine ⟨[.val (.d (.int size)), .val (.d (.int n)), .val (.d (.list ((every size (d.length + 1)).map tupD))), .val (.d (.int (0 + (x : Nat)))), .val (.d (.list ((every size (d.length + 1)).map tupD))), s', .non], ?_, ⟨.val (.d (.int (0 + (x : Nat)))), .val (.d (.list ((every size (d.length + 1)).map tupD))), s', by simp⟩⟩
    simp only [bodyF]
    simp [f0, hi, every]
  obtain ⟨env', e1, s3, s4, s5, e2⟩ := key
  subst e2
  simp only [List.length_range, Int.sub_zero, Int.toNat_natCast, Int.zero_add] at e1
  rw [show List.map tupD [[]] = [PyData.tuple []] from rfl] at e1
  simp [c__law_all_deals, f0, f1, hr, forL_range, e1]
end Lw
namespace Lw
open PySem PySem.Spec PyProof.Rows L2 Pv
variable {is : Str → Str → Bool}
theorem ixN_nat {n i : Nat} (h : i < n) : ixN n (i : Int) = some i := by
  unfold ixN
  rw [if_pos (by omega), if_pos (by omega)]
  simp
theorem atI_nat {α : Type} {xs : List α} {i : Nat} {x : α} (h : xs[i]? = some x) : atI xs (i : Int) = some x := by
  have hl : i < xs.length := (List.getElem?_eq_some_iff.mp h).1
  unfold atI
  rw [ixN_nat hl]
  exact h
/-- a script's cell -/
def cell (ns : List Int) (i : Nat) : Int := ns.getD i 0
theorem e_cell (k : Nat) (ns : List Int) (i : Nat) : sem T is (k + 1) "_law_cell" [.scr ns, .d (.int i)] = ret (rd (.int (cell ns i))) := by
  rw [s__law_cell]
  by_cases h : i < ns.length
  · have e : atI ns (i : Int) = some (cell ns i) := atI_nat (by rw [List.getElem?_eq_getElem h]; simp [cell, List.getD_eq_getElem?_getD, List.getElem?_eq_getElem h])
    simp [c__law_cell, h, e]
  · have e : cell ns i = 0 := by simp [cell, List.getD_eq_getElem?_getD, List.getElem?_eq_none (by omega : ns.length ≤ i)]
    simp [c__law_cell, h, e]
def seedV (s k : Int) : Int := ((s * 1103515245 + 7919 * k + 12345) % 2147483647) ^ 5 % 2147483647
theorem e_seed (k : Nat) (s i : Int) : sem T is (k + 1) "_law_seed" [.d (.int s), .d (.int i)] = ret (rd (.int (seedV s i))) := by
  have m1 : mulOk s 1103515245 = true := by unfold mulOk smallI; simp
  have m2 : mulOk 7919 i = true := by unfold mulOk smallI; simp
  have m3 : modOk 2147483647 = true := by decide
  have m4 : powOk ((s * 1103515245 + 7919 * i + 12345) % 2147483647) 5 = true := by
    have h1 := Int.emod_nonneg (s * 1103515245 + 7919 * i + 12345) (show (2147483647 : Int) ≠ 0 by decide)
    have h2 := Int.emod_lt_of_pos (s * 1103515245 + 7919 * i + 12345) (show (0 : Int) < 2147483647 by decide)
    unfold powOk
    refine decide_eq_true ⟨by omega, by omega, ?_⟩
    omega
  rw [s__law_seed]
  simp [c__law_seed, m1, m2, m3, m4, seedV]
def pickV (s m : Int) : Int := s / 97 % m
theorem e_pick (k : Nat) (s m : Int) (h : 0 < m) : sem T is (k + 1) "_law_pick" [.d (.int s), .d (.int m)] = ret (rd (.int (pickV s m))) := by
  have m1 : divOk 97 = true := by decide
  have m2 : modOk m = true := decide_eq_true h
  rw [s__law_pick]
  simp [c__law_pick, m1, m2, pickV]
theorem map_erase {α β : Type} (f : α → β) : ∀ (xs : List α) (j : Nat), (xs.map f).eraseIdx j = (xs.eraseIdx j).map f
  | [], _ => rfl
  | x :: xs, 0 => rfl
  | x :: xs, j + 1 => congrArg (f x :: ·) (map_erase f xs j)
theorem erase_perm {α : Type} : ∀ (xs : List α) (j : Nat) (h : j < xs.length), (xs[j] :: xs.eraseIdx j).Perm xs
  | [], j, h => absurd h (by simp)
  | x :: xs, 0, _ => .refl _
  | x :: xs, j + 1, h => (List.Perm.swap x (xs[j]'(by simpa using h)) _).trans ((erase_perm xs j (by simpa using h)).cons x)
/-- a dealt deal -/
theorem e_deal (k : Nat) (s : Int) {size : Int} {n : Nat} (h2 : 2 ≤ size) (h7 : size ≤ 7) (h1 : 1 ≤ n) (h6 : n ≤ 6) (hn : (n : Int) ≤ size) : ∃ d, sem T is (k + 2) "_law_deal" [.d (.int s), .d (.int size), .d (.int n)] = ret (rd (tupD d)) ∧ Dl size d ∧ d.length = n := by
  have hs : rangeOk 0 size = true := by unfold rangeOk; simp; omega
  have hr : rangeOk 0 (n : Int) = true := by unfold rangeOk; simp; omega
  have f0 : fits 0 = true := by decide
  have key : ∃ env', forG (fun (i : Nat) => bodyF (sem T is (k + 1)) is (.nm 5) [(.appPop 4 3 (.call "_law_pick" [(.call "_law_seed" [(.var 0), (.var 5)]), (.blt .len [(.own 3)])]))] (.int (0 + (i : Nat)))) (List.range ((n : Int) - 0).toNat) [.val (.d (.int s)), .val (.d (.int size)), .val (.d (.int n)), .own (.lst (((List.range size.toNat).map fun i : Nat => (i : Int)).map .int)), .own (.lst (([] : List Int).map .int)), .non] = ret (.nx env') ∧
      ∃ (free found : List Int) (s5 : Slot), env' = [.val (.d (.int s)), .val (.d (.int size)), .val (.d (.int n)), .own (.lst (free.map .int)), .own (.lst (found.map .int)), s5] ∧ found.length = (List.range ((n : Int) - 0).toNat).length ∧ (free ++ found).Perm ((List.range size.toNat).map fun i : Nat => (i : Int)) := by
    refine forG_inv (fun done env => ∃ (free found : List Int) (s5 : Slot), env = [.val (.d (.int s)), .val (.d (.int size)), .val (.d (.int n)), .own (.lst (free.map .int)), .own (.lst (found.map .int)), s5] ∧ found.length = done.length ∧ (free ++ found).Perm ((List.range size.toNat).map fun i : Nat => (i : Int))) _ [] _ ⟨_, [], .non, rfl, rfl, by simp⟩ fun d x r env hd ⟨free, found, s5, he, hl, hp⟩ => ?_
    subst he
    have hdl : d.length < n := by
      have := congrArg List.length hd
      simp at this
      omega
    have hfl : free.length + found.length = size.toNat := by have := hp.length_eq; simpa using this
    have hpos : (0 : Int) < free.length := by omega
    have q1 := Int.emod_nonneg (seedV s x / 97) (show (free.length : Int) ≠ 0 by omega)
    have q2 := Int.emod_lt_of_pos (seedV s x / 97) hpos
    obtain ⟨j, hj⟩ : ∃ j : Nat, pickV (seedV s x) free.length = (j : Int) := ⟨(pickV (seedV s x) free.length).toNat, by unfold pickV; omega⟩
    have hjl : j < free.length := by unfold pickV at hj; omega
    refine ⟨[.val (.d (.int s)), .val (.d (.int size)), .val (.d (.int n)), .own (.lst ((free.eraseIdx j).map .int)), .own (.lst ((found ++ [free[j]]).map .int)), .val (.d (.int (0 + (x : Nat))))], ?_, ⟨_, _, _, rfl, by simp [hl], ?_⟩⟩
    · have p : popAt (free.map PyData.int) (j : Int) = ret (.int free[j], (free.eraseIdx j).map .int) := by
        unfold popAt
        rw [List.length_map, ixN_nat hjl]
        have : (-9223372036854775808 : Int) ≤ j ∧ (j : Int) < 9223372036854775808 := by omega
        simp [List.getElem?_eq_getElem hjl, this, map_erase]
      have f : fits (found.length + 1) = true := by unfold fits; simp; omega
      simp only [bodyF]
      simp [e_seed k, e_pick k _ _ hpos, hj, p, f]
    · have e1 : (free.eraseIdx j ++ (found ++ [free[j]])).Perm (free ++ found) := by
        have : (free.eraseIdx j ++ (found ++ [free[j]])).Perm (free[j] :: (free.eraseIdx j ++ found)) := by
          rw [← List.append_assoc]
          exact List.perm_append_comm
        refine this.trans ?_
        rw [← List.cons_append]
        exact List.Perm.append_right _ (erase_perm free j hjl)
      exact e1.trans hp
  obtain ⟨env', e1, free, found, s5, e2, hl, hp⟩ := key
  subst e2
  simp only [List.length_range, Int.sub_zero, Int.toNat_natCast, Int.zero_add] at e1 hl
  have hm : ∀ p ∈ found, 0 ≤ p ∧ p < size := fun p hp' => by
    have := hp.mem_iff.mp (List.mem_append_right free hp')
    obtain ⟨i, hi, rfl⟩ := List.mem_map.mp this
    have := List.mem_range.mp hi
    omega
  have hnd : ((List.range size.toNat).map fun i : Nat => (i : Int)).Nodup := List.pairwise_map.mpr (List.Pairwise.imp (fun h e => h (by omega)) List.nodup_range)
  have nd : found.Nodup := (List.nodup_append.mp (hp.nodup_iff.mpr hnd)).2.1
  refine ⟨found, ?_, ⟨h2, h7, by omega, by omega, hm, nd⟩, hl⟩
  rw [s__law_deal]
  have er : rangeL 0 size = ((List.range size.toNat).map fun i : Nat => (i : Int)).map .int := by
    unfold rangeL
    rw [List.map_map]
    simp [Function.comp_def]
  rw [List.map_map, List.map_nil] at e1
  simp [c__law_deal, hs, hr, f0, er, forL_range, tupD, e1]
end Lw
namespace Lw
open PySem PySem.Spec PyProof.Rows L2 Pv
variable {is : Str → Str → Bool}
/-! ### the law's sizes -/
theorem e_sizes (k : Nat) (ns : List Int) : ∃ (size : Int) (n : Nat), sem T is (k + 2) "_law_sizes" [.scr ns, .d (.int 0)] = ret (rd (.tuple [.int size, .int n])) ∧ 2 ≤ size ∧ size ≤ 7 ∧ 1 ≤ n ∧ n ≤ 6 ∧ (n : Int) ≤ size := by
  have c0 := e_cell (is := is) k ns 0
  have c1 := e_cell (is := is) k ns 1
  simp only [Int.natCast_zero, Int.natCast_one, show ((0 : Nat) : Int) = 0 from rfl, show ((1 : Nat) : Int) = 1 from rfl] at c0 c1
  have h0 := Int.emod_nonneg (cell ns 0) (show (8 : Int) ≠ 0 by decide)
  have h1 := Int.emod_lt_of_pos (cell ns 0) (show (0 : Int) < 8 by decide)
  have m8 : modOk 8 = true := by decide
  have f8 : fits 8 = true := by decide
  have f3 : fits 3 = true := by decide
  have f2 : fits 2 = true := by decide
  have go : ∀ (i : Nat) (size m : Int), i < 8 → cell ns 0 % 8 = (i : Int) → [(2 : Int), 3, 4, 5, 4, 5, 6, 7][i]? = some size → m = minI (minI size 6) (if size > 6 then 3 else if size > 5 then 4 else 6) → 0 < m → m ≤ 6 → m ≤ size → 2 ≤ size → size ≤ 7 →
      ∃ (size : Int) (n : Nat), sem T is (k + 2) "_law_sizes" [.scr ns, .d (.int 0)] = ret (rd (.tuple [.int size, .int n])) ∧ 2 ≤ size ∧ size ≤ 7 ∧ 1 ≤ n ∧ n ≤ 6 ∧ (n : Int) ≤ size := fun i size m hi e es em hm m6 ms s2 s7 => by
    have q1 := Int.emod_nonneg (cell ns 1) (show m ≠ 0 by omega)
    have q2 := Int.emod_lt_of_pos (cell ns 1) hm
    refine ⟨size, (1 + cell ns 1 % m).toNat, ?_, s2, s7, by omega, by omega, by omega⟩
    have en : (((1 + cell ns 1 % m).toNat : Nat) : Int) = 1 + cell ns 1 % m := by omega
    rw [en]
    have a1 : atI [PyData.int 2, PyData.int 3, PyData.int 4, PyData.int 5, PyData.int 4, PyData.int 5, PyData.int 6, PyData.int 7] (i : Int) = some (.int size) := by
      have : ([(2 : Int), 3, 4, 5, 4, 5, 6, 7].map PyData.int)[i]? = some (.int size) := by rw [List.getElem?_map, es]; rfl
      exact atI_nat this
    have mo : modOk m = true := decide_eq_true hm
    rw [s__law_sizes]
    by_cases g6 : size > 6
    · have g5 : size > 5 := by omega
      have a2 : atI [PyData.int 6, PyData.int 4, PyData.int 3] 2 = some (.int 3) := rfl
      have em' : minI (minI size 6) 3 = m := by rw [em, if_pos g6]
      simp [c__law_sizes, c0, c1, m8, f8, f3, f2, e, a1, intM, g5, g6, a2, em', mo]
    · by_cases g5 : size > 5
      · have a2 : atI [PyData.int 6, PyData.int 4, PyData.int 3] 1 = some (.int 4) := rfl
        have em' : minI (minI size 6) 4 = m := by rw [em, if_neg g6, if_pos g5]
        simp [c__law_sizes, c0, c1, m8, f8, f3, f2, e, a1, intM, g5, g6, a2, em', mo]
      · have a2 : atI [PyData.int 6, PyData.int 4, PyData.int 3] 0 = some (.int 6) := rfl
        have em' : minI (minI size 6) 6 = m := by rw [em, if_neg g6, if_neg g5]
        simp [c__law_sizes, c0, c1, m8, f8, f3, f2, e, a1, intM, g5, g6, a2, em', mo]
  obtain ⟨i, hi⟩ : ∃ i : Nat, cell ns 0 % 8 = (i : Int) := ⟨(cell ns 0 % 8).toNat, by omega⟩
  have hi8 : i < 8 := by omega
  have cs : i = 0 ∨ i = 1 ∨ i = 2 ∨ i = 3 ∨ i = 4 ∨ i = 5 ∨ i = 6 ∨ i = 7 := by omega
  rcases cs with rfl | rfl | rfl | rfl | rfl | rfl | rfl | rfl
  · exact go 0 2 2 (by omega) hi rfl (by decide) (by decide) (by decide) (by decide) (by decide) (by decide)
  · exact go 1 3 3 (by omega) hi rfl (by decide) (by decide) (by decide) (by decide) (by decide) (by decide)
  · exact go 2 4 4 (by omega) hi rfl (by decide) (by decide) (by decide) (by decide) (by decide) (by decide)
  · exact go 3 5 5 (by omega) hi rfl (by decide) (by decide) (by decide) (by decide) (by decide) (by decide)
  · exact go 4 4 4 (by omega) hi rfl (by decide) (by decide) (by decide) (by decide) (by decide) (by decide)
  · exact go 5 5 5 (by omega) hi rfl (by decide) (by decide) (by decide) (by decide) (by decide) (by decide)
  · exact go 6 6 4 (by omega) hi rfl (by decide) (by decide) (by decide) (by decide) (by decide) (by decide)
  · exact go 7 7 3 (by omega) hi rfl (by decide) (by decide) (by decide) (by decide) (by decide) (by decide)
/-! ### kinds -/
theorem e_look_many (k : Nat) {size : Int} {n : Nat} (h2 : 2 ≤ size) (h7 : size ≤ 7) (h1 : 1 ≤ n) (h6 : n ≤ 6) (hn : (n : Int) ≤ size) : sem T is (k + 3) "look_many" [.d (.int size), .d (.int n)] = ret (rd .none) := by
  have a1 : (1 : Int) ≤ n := by omega
  have a2 : (n : Int) ≤ minI size 6 := by unfold minI; split <;> omega
  rw [s_look_many]
  simp [c_look_many, e_look_size _ _ ⟨h2, h7⟩, e_is_within, a1, a2]
theorem kind_hd {size : Int} {d : List Int} (h2 : 2 ≤ size) : atI ((likesOf size d).map tupD) 0 = some (tupD (kindOf size d)) := by
  obtain ⟨x, r, e⟩ := likes_ne (d := d) h2
  rw [e, List.map_cons, ix0]
  simp [kindOf, e]
theorem e_kinds (k : Nat) {size : Int} {n : Nat} (h2 : 2 ≤ size) (h7 : size ≤ 7) (h1 : 1 ≤ n) (h6 : n ≤ 6) (hn : (n : Int) ≤ size) : sem T is (k + 4) "kinds" [.d (.int size), .d (.int n)] = ret (rd (.int (((every size n).filter fun d => decide (kindOf size d = d)).length : Nat))) := by
  rw [s_kinds]
  have key : ∀ s2, lcL (lcB (sem T is (k + 3)) (.var 2) (.nm 2) (some (.cmp .eq (.ix (.call "likes_of" [(.var 0), (.var 2)]) (.int 0)) (.var 2))) [2] [.val (.d (.int size)), .val (.d (.int n)), s2]) ((every size n).map tupD) = ret (((every size n).filter fun d => decide (kindOf size d = d)).map tupD) := fun s2 =>
    (lcL_map _ _ _).trans <| lcG_on (fun d => kindOf size d = d) tupD fun d hd => by
      have hl := (every_dl h7 n d hd).1
      have e := e_likes_of (is := is) (k + 1) (d := d) h2 h7 (by omega)
      by_cases z : kindOf size d = d
      · simp [e, kind_hd h2, z]
      · simp [e, kind_hd h2, z]
  simp [c_kinds, e_look_many _ h2 h7 h1 h6 hn, e_every _ h2 h7 h6, key]
end Lw
namespace Lw
open PySem PySem.Spec PyProof.Rows L2 Pv
/-! ### the group -/
section
variable {size : Int} {d : List Int}
theorem turn_turn (a b : Int) : turnB size b (turnB size a d) = turnB size (a + b) d := by
  unfold turnB
  rw [List.map_map]
  refine List.map_congr_left fun p _ => ?_
  show ((p + a) % size + b) % size = (p + (a + b)) % size
  rw [Int.emod_add_emod]
  congr 1
  omega
theorem turn_mod (a : Int) : turnB size (a % size) d = turnB size a d := by
  unfold turnB
  refine List.map_congr_left fun p _ => ?_
  rw [Int.add_emod_emod]
theorem turn_zero (h : ∀ p ∈ d, 0 ≤ p ∧ p < size) : turnB size 0 d = d := by
  unfold turnB
  conv => rhs; rw [← List.map_id d]
  refine List.map_congr_left fun p hp => ?_
  rw [Int.add_zero, Int.emod_eq_of_lt (h p hp).1 (h p hp).2]
  rfl
theorem turn_size (h : ∀ p ∈ d, 0 ≤ p ∧ p < size) : turnB size size d = d := by
  rw [← turn_mod, Int.emod_self, turn_zero h]
theorem neg_mod (x : Int) : (-(x % size)) % size = (-x) % size := by
  have h1 : (0 - x % size) % size = (0 - x) % size := by
    rw [Int.sub_emod, Int.emod_emod_of_dvd x (Int.dvd_refl size), ← Int.sub_emod]
  simpa using h1
theorem mirr_mirr (h : ∀ p ∈ d, 0 ≤ p ∧ p < size) : mirr size (mirr size d) = d := by
  unfold mirr
  rw [List.map_map]
  conv => rhs; rw [← List.map_id d]
  refine List.map_congr_left fun p hp => ?_
  show (-((-p) % size)) % size = p
  rw [neg_mod, Int.neg_neg, Int.emod_eq_of_lt (h p hp).1 (h p hp).2]
theorem mirr_turn (a : Int) : mirr size (turnB size a d) = turnB size (-a) (mirr size d) := by
  unfold turnB mirr
  rw [List.map_map, List.map_map]
  refine List.map_congr_left fun p _ => ?_
  show (-((p + a) % size)) % size = ((-p) % size + -a) % size
  rw [neg_mod, Int.emod_add_emod]
  congr 1
  omega
theorem Dl.mirr (h : Dl size d) : Dl size (mirr size d) := by
  have hs : 0 < size := by have := h.s2; omega
  refine ⟨h.s2, h.s7, by unfold Lw.mirr; rw [List.length_map]; exact h.l1, by unfold Lw.mirr; rw [List.length_map]; exact h.l6, mirr_ins hs, ?_⟩
  have e : Lw.mirr size d = (d.map fun p => -p).map fun p => p % size := by unfold Lw.mirr; rw [List.map_map]; rfl
  refine List.pairwise_map.mpr (List.Pairwise.imp_of_mem (fun {a b} ha hb q e => q ?_) h.nd)
  have h1 : (-(-a % size)) % size = (-(-b % size)) % size := by rw [e]
  rw [neg_mod, neg_mod, Int.neg_neg, Int.neg_neg, Int.emod_eq_of_lt (h.ins a ha).1 (h.ins a ha).2, Int.emod_eq_of_lt (h.ins b hb).1 (h.ins b hb).2] at h1
  exact h1
/-- of one kind -/
def Rk (size : Int) (d x : List Int) : Prop := (∃ a : Int, x = turnB size a d) ∨ ∃ a : Int, x = turnB size a (mirr size d)
theorem mem_found (hs : 0 < size) (x : List Int) : x ∈ found size d ↔ Rk size d x := by
  have key : ∀ (e : List Int), (∃ b ∈ List.range size.toNat, turnB size (b : Nat) e = x) ↔ ∃ a : Int, x = turnB size a e := fun e => by
    constructor
    · rintro ⟨b, _, rfl⟩; exact ⟨b, rfl⟩
    · rintro ⟨a, rfl⟩
      have h1 := Int.emod_nonneg a (show size ≠ 0 by omega)
      have h2 := Int.emod_lt_of_pos a hs
      refine ⟨(a % size).toNat, List.mem_range.mpr (by omega), ?_⟩
      rw [show (((a % size).toNat : Nat) : Int) = a % size by omega, turn_mod]
  unfold found Rk
  rw [List.mem_append, List.mem_map, List.mem_map]
  exact or_congr (key d) (key (mirr size d))
theorem mem_likes (hs : 0 < size) (x : List Int) : x ∈ likesOf size d ↔ Rk size d x := by
  unfold likesOf
  rw [(sortT_perm _).mem_iff, uniqL_mem, mem_found hs]
theorem Rk.refl (h : Dl size d) : Rk size d d := .inl ⟨0, (turn_zero h.ins).symm⟩
theorem Rk.dl {x : List Int} (h : Dl size d) (r : Rk size d x) : Dl size x := by
  rcases r with ⟨a, rfl⟩ | ⟨a, rfl⟩
  · exact h.turn a
  · exact h.mirr.turn a
theorem Rk.len {x : List Int} (r : Rk size d x) : x.length = d.length := by
  rcases r with ⟨a, rfl⟩ | ⟨a, rfl⟩ <;> simp [turnB, mirr]
theorem Rk.trans {x y : List Int} (h : Dl size d) (r : Rk size d x) (q : Rk size x y) : Rk size d y := by
  rcases r with ⟨a, rfl⟩ | ⟨a, rfl⟩ <;> rcases q with ⟨b, rfl⟩ | ⟨b, rfl⟩
  · exact .inl ⟨a + b, turn_turn a b⟩
  · exact .inr ⟨-a + b, by rw [mirr_turn, turn_turn]⟩
  · exact .inr ⟨a + b, turn_turn a b⟩
  · exact .inl ⟨-a + b, by rw [mirr_turn, mirr_mirr h.ins, turn_turn]⟩
theorem Rk.symm {x : List Int} (h : Dl size d) (r : Rk size d x) : Rk size x d := by
  rcases r with ⟨a, rfl⟩ | ⟨a, rfl⟩
  · exact .inl ⟨-a, by rw [turn_turn, show a + -a = 0 by omega, turn_zero h.ins]⟩
  · exact .inr ⟨a, by rw [mirr_turn, mirr_mirr h.ins, turn_turn, show -a + a = 0 by omega, turn_zero h.ins]⟩
theorem likes_eq {x : List Int} (h : Dl size d) (r : Rk size d x) : likesOf size x = likesOf size d := by
  have hs : 0 < size := by have := h.s2; omega
  have hx := r.dl h
  refine sortT_uni (uniq_perm ?_ fun y => ?_) (sortT_sorted _)
  · unfold likesOf
    exact (sortT_perm _).nodup_iff.mpr (uniqL_nodup _)
  · rw [mem_likes hs, mem_found hs]
    exact ⟨fun q => r.trans h q, fun q => (r.symm h).trans hx q⟩
theorem kind_mem (h2 : 2 ≤ size) : kindOf size d ∈ likesOf size d := by
  obtain ⟨x, r, e⟩ := likes_ne (d := d) h2
  unfold kindOf
  rw [e]
  exact List.mem_cons_self
theorem kind_rk (h : Dl size d) : Rk size d (kindOf size d) := (mem_likes (by have := h.s2; omega) _).mp (kind_mem h.s2)
theorem kind_eq {x : List Int} (h : Dl size d) (hx : Dl size x) : kindOf size x = kindOf size d ↔ Rk size d x := by
  constructor
  · intro e
    have h1 := kind_rk hx
    have h2 := kind_rk h
    rw [e] at h1
    exact h2.trans h (h1.symm hx)
  · intro r
    unfold kindOf
    rw [likes_eq h r]
/-- the least begins with 0 -/
theorem kind_zero (h : Dl size d) : ∃ r, kindOf size d = 0 :: r := by
  have hs : 0 < size := by have := h.s2; omega
  have hk := (kind_rk h).dl h
  obtain ⟨x, r, e⟩ := likes_ne (d := d) h.s2
  have ek : kindOf size d = x := by unfold kindOf; rw [e]; rfl
  rw [ek] at hk ⊢
  obtain ⟨p, ps, ed⟩ : ∃ p ps, d = p :: ps := by
    cases d with
    | nil => exact absurd h.l1 (by simp)
    | cons p ps => exact ⟨p, ps, rfl⟩
  obtain ⟨k, ks, exk⟩ : ∃ k ks, x = k :: ks := by
    cases x with
    | nil => exact absurd hk.l1 (by simp)
    | cons k ks => exact ⟨k, ks, rfl⟩
  have hz : turnB size (-p) d = 0 :: turnB size (-p) ps := by
    rw [ed]
    show (p + -p) % size :: _ = _
    rw [show p + -p = 0 by omega, Int.zero_emod]
    rfl
  have hm : turnB size (-p) d ∈ likesOf size d := (mem_likes hs _).mpr (.inl ⟨-p, rfl⟩)
  have srt : (likesOf size d).Pairwise LeT := sortT_sorted _
  rw [e] at hm srt
  have hk0 := hk.ins k (by rw [exk]; exact List.mem_cons_self)
  have le : LeT x (turnB size (-p) d) := by
    rcases List.mem_cons.mp hm with q | q
    · rw [q]; exact ltT_irr _
    · exact (List.pairwise_cons.mp srt).1 _ q
  have : k = 0 := by
    have le : ltT (turnB size (-p) d) x = false := le
    rw [hz, exk] at le
    unfold ltT at le
    simp at le
    omega
  exact ⟨ks, by rw [exk, this]⟩
/-- as many as places or twice as many -/
theorem rot_nodup (h : Dl size d) : ((List.range size.toNat).map fun b : Nat => turnB size b d).Nodup := by
  have hs : 0 < size := by have := h.s2; omega
  obtain ⟨p, ps, ed⟩ : ∃ p ps, d = p :: ps := by
    cases d with
    | nil => exact absurd h.l1 (by simp)
    | cons p ps => exact ⟨p, ps, rfl⟩
  refine List.pairwise_map.mpr (List.Pairwise.imp_of_mem (fun {a b} ha hb q e => q ?_) List.nodup_range)
  rw [ed] at e
  have e' : (p + (a : Int)) % size = (p + (b : Int)) % size := (List.cons.inj e).1
  rw [Int.add_comm p, Int.add_comm p] at e'
  have := emod_inj (c := p) hs (a := (a : Int)) (b := (b : Int)) ⟨by omega, by have := List.mem_range.mp ha; omega⟩ ⟨by omega, by have := List.mem_range.mp hb; omega⟩ e'
  omega
theorem likes_len (h : Dl size d) : ((likesOf size d).length : Int) = size ∨ ((likesOf size d).length : Int) = 2 * size := by
  have hs : 0 < size := by have := h.s2; omega
  have el : (likesOf size d).length = (uniqL (found size d)).length := (sortT_perm _).length_eq
  by_cases c : ∃ a : Int, mirr size d = turnB size a d
  · obtain ⟨a, ha⟩ := c
    left
    have := uniq_len (xs := found size d) (rot_nodup h) fun x => by
      rw [mem_found hs, List.mem_map]
      constructor
      · rintro ⟨b, _, rfl⟩; exact .inl ⟨b, rfl⟩
      · intro r
        obtain ⟨c, rfl⟩ : ∃ c : Int, x = turnB size c d := by
          rcases r with ⟨b, rfl⟩ | ⟨b, rfl⟩
          · exact ⟨b, rfl⟩
          · exact ⟨a + b, by rw [ha, turn_turn]⟩
        have h1 := Int.emod_nonneg c (show size ≠ 0 by omega)
        have h2 := Int.emod_lt_of_pos c hs
        exact ⟨(c % size).toNat, List.mem_range.mpr (by omega), by rw [show (((c % size).toNat : Nat) : Int) = c % size by omega, turn_mod]⟩
    rw [List.length_map, List.length_range] at this
    omega
  · right
    have nd : (found size d).Nodup := by
      refine List.nodup_append.mpr ⟨rot_nodup h, rot_nodup h.mirr, fun x hx y hy e => c ?_⟩
      subst e
      obtain ⟨a, _, ea⟩ := List.mem_map.mp hx
      obtain ⟨b, _, eb⟩ := List.mem_map.mp hy
      refine ⟨(a : Int) - b, ?_⟩
      have : turnB size (-(b : Int)) (turnB size b (mirr size d)) = turnB size (-(b : Int)) (turnB size a d) := by rw [eb, ea]
      rw [turn_turn, turn_turn, show (b : Int) + -b = 0 by omega, turn_zero (mirr_ins hs)] at this
      rw [this]
      congr 1
    have := uniq_len (xs := found size d) nd fun x => Iff.rfl
    unfold found at this
    rw [List.length_append, List.length_map, List.length_map, List.length_range] at this
    have e2 : (uniqL (found size d)).length = (uniqL (List.map (fun b : Nat => turnB size b d) (List.range size.toNat) ++ List.map (fun b : Nat => turnB size b (mirr size d)) (List.range size.toNat))).length := rfl
    omega
end
end Lw
namespace Lw
open PySem PySem.Spec PyProof.Rows L2 Pv
/-! ### counting -/
section
variable {size : Int}
theorem every_nodup : ∀ n : Nat, (every size n).Nodup
  | 0 => by simp [every]
  | n + 1 => by
    unfold every
    refine List.pairwise_flatMap.mpr ⟨fun d _ => ?_, List.Pairwise.imp (fun {a b} q x hx y hy e => q ?_) (every_nodup n)⟩
    · unfold step1
      refine List.pairwise_map.mpr (List.Pairwise.imp (fun {a b} q e => q ?_) (List.nodup_range.sublist List.filter_sublist))
      have e := List.append_cancel_left e
      have : (a : Int) = (b : Int) := by simpa using e
      omega
    · subst e
      obtain ⟨u, _, eu⟩ := List.mem_map.mp hx
      obtain ⟨v, _, ev⟩ := List.mem_map.mp hy
      have := congrArg List.dropLast (eu.trans ev.symm)
      simpa using this
theorem every_all : ∀ (n : Nat) (x : List Int), x.length = n → (∀ p ∈ x, 0 ≤ p ∧ p < size) → x.Nodup → x ∈ every size n
  | 0, x, h, _, _ => by
    have : x = [] := List.length_eq_zero_iff.mp h
    simp [every, this]
  | n + 1, x, h, hi, hn => by
    have hne : x ≠ [] := fun z => by rw [z] at h; simp at h
    have e := List.dropLast_concat_getLast hne
    have hsub := List.dropLast_sublist x
    have ih := every_all n x.dropLast (by simp [h]) (fun p hp => hi p (hsub.subset hp)) (hn.sublist hsub)
    unfold every
    refine List.mem_flatMap.mpr ⟨x.dropLast, ih, List.mem_map.mpr ⟨(x.getLast hne).toNat, ?_, ?_⟩⟩
    · have h0 := hi _ (List.getLast_mem hne)
      have hc : (((x.getLast hne).toNat : Nat) : Int) = x.getLast hne := by omega
      refine List.mem_filter.mpr ⟨List.mem_range.mpr (by omega), ?_⟩
      rw [hc]
      have : x.getLast hne ∉ x.dropLast := fun z => by
        rw [← e] at hn
        exact (List.nodup_append.mp hn).2.2 _ z _ (by simp) rfl
      simpa using this
    · have h0 := hi _ (List.getLast_mem hne)
      rw [show (((x.getLast hne).toNat : Nat) : Int) = x.getLast hne by omega]
      exact e
theorem every_Dl {n : Nat} (h2 : 2 ≤ size) (h7 : size ≤ 7) (h1 : 1 ≤ n) (h6 : n ≤ 6) {d : List Int} (h : d ∈ every size n) : Dl size d := by
  obtain ⟨a, b, c⟩ := every_dl h7 n d h
  exact ⟨h2, h7, by omega, by omega, b, c⟩
theorem flat_le (f : List Int → List (List Int)) (m : Nat) : ∀ l : List (List Int), (∀ x ∈ l, (f x).length ≤ m) → (l.flatMap f).length ≤ l.length * m
  | [], _ => by simp
  | x :: l, h => by
    rw [List.flatMap_cons, List.length_append, List.length_cons, Nat.add_mul]
    have := h x List.mem_cons_self
    have := flat_le f m l fun y hy => h y (List.mem_cons_of_mem _ hy)
    omega
theorem kinds_count {n : Nat} (h2 : 2 ≤ size) (h7 : size ≤ 7) (h1 : 1 ≤ n) (h6 : n ≤ 6) : ((every size n).length : Int) ≤ (((every size n).filter fun d => decide (kindOf size d = d)).length : Int) * 2 * size := by
  have hs : 0 < size := by omega
  have sub : every size n ⊆ ((every size n).filter fun d => decide (kindOf size d = d)).flatMap (likesOf size) := fun d hd => by
    have D := every_Dl h2 h7 h1 h6 hd
    have r := kind_rk D
    have K := r.dl D
    refine List.mem_flatMap.mpr ⟨kindOf size d, List.mem_filter.mpr ⟨?_, ?_⟩, ?_⟩
    · exact every_all n _ (by rw [r.len]; exact (every_dl h7 n d hd).1) K.ins K.nd
    · exact decide_eq_true ((kind_eq D K).mpr r)
    · rw [likes_eq D r]
      exact (mem_likes hs d).mpr (Rk.refl D)
  have h := (every_nodup n).length_le_of_subset sub
  have b := flat_le (likesOf size) (2 * size.toNat) ((every size n).filter fun d => decide (kindOf size d = d)) fun d hd => by
    have := likes_len (every_Dl h2 h7 h1 h6 (List.mem_filter.mp hd).1)
    omega
  have hc : (((((every size n).filter fun d => decide (kindOf size d = d)).length * (2 * size.toNat) : Nat)) : Int) = (((every size n).filter fun d => decide (kindOf size d = d)).length : Int) * 2 * size := by
    have : ((size.toNat : Nat) : Int) = size := by omega
    rw [Int.natCast_mul, Int.natCast_mul, this, Int.mul_assoc]
    rfl
  omega
theorem kinds_one (h2 : 2 ≤ size) (h7 : size ≤ 7) : ((every size 1).filter fun d => decide (kindOf size d = d)).length = 1 := by
  have cs : size = 2 ∨ size = 3 ∨ size = 4 ∨ size = 5 ∨ size = 6 ∨ size = 7 := by omega
  rcases cs with rfl | rfl | rfl | rfl | rfl | rfl <;> decide +kernel
end
section
variable {is : Str → Str → Bool}
theorem e_mix (k : Nat) (c p m : Int) (hp : 0 < p) (hp2 : p < 2 ^ 60) (hm : 0 < m) : ∃ v, sem T is (k + 1) "_law_mix" [.d (.int c), .d (.int p), .d (.int m)] = ret (rd (.int v)) ∧ 0 ≤ v ∧ v < m := by
  refine ⟨(c * 48271 % p) ^ 3 % p % m, ?_, Int.emod_nonneg _ (by omega), Int.emod_lt_of_pos _ hm⟩
  have m1 : mulOk c 48271 = true := by unfold mulOk smallI; simp
  have m2 : modOk p = true := decide_eq_true hp
  have m3 : modOk m = true := decide_eq_true hm
  have m4 : powOk (c * 48271 % p) 3 = true := by
    have h1 := Int.emod_nonneg (c * 48271) (show p ≠ 0 by omega)
    have h2 := Int.emod_lt_of_pos (c * 48271) hp
    unfold powOk
    refine decide_eq_true ⟨by omega, by omega, ?_⟩
    omega
  rw [s__law_mix]
  simp [c__law_mix, m1, m2, m3, m4]
theorem in_two (b : Bool) (x a c : Int) : inM b (.int x) (.tuple [.int a, .int c]) = ret (rd (.bool (decide (x = a ∨ x = c) == b))) := by
  have := in_tup b x [a, c]
  simpa using this
theorem mul_ev {Φ : Str → List Vv → M RV} {a b : E} {env : Pv.Env} {i j : Int} (h1 : ev Φ a env = ret (rd (.int i))) (h2 : ev Φ b env = ret (rd (.int j))) (h : mulOk i j = true) : ev Φ (.bin .mul a b) env = ret (rd (.int (i * j))) := by
  rw [ev_bin, h1, bnd_ret, h2, bnd_ret, asD_v, asD_v]
  show guard (mulOk i j) _ = _
  rw [h]
  rfl
theorem ge_ev {Φ : Str → List Vv → M RV} {a b : E} {env : Pv.Env} {i j : Int} (h1 : ev Φ a env = ret (rd (.int i))) (h2 : ev Φ b env = ret (rd (.int j))) (h : j ≤ i) : ev Φ (.cmp .ge a b) env = ret (rd (.bool true)) := by
  rw [ev_cmp, h1, bnd_ret, h2, bnd_ret]
  show ret (rd (.bool (decide (j ≤ i)))) = _
  rw [decide_eq_true h]
theorem e_law (k : Nat) (ns : List Int) : sem T is (k + 6) "law" [.scr ns] = ret (rd (.bool true)) := by
  obtain ⟨size, n, hz, h2, h7, h1, h6, hn⟩ := e_sizes (is := is) (k + 3) ns
  obtain ⟨d, hd, D, hl⟩ := e_deal (is := is) (k + 3) (seedV (cell ns 2) 0) (n := n) h2 h7 h1 h6 hn
  obtain ⟨o, ho, O, hol⟩ := e_deal (is := is) (k + 3) (seedV (cell ns 5) 1) (n := n) h2 h7 h1 h6 hn
  have hs : 0 < size := by omega
  have c2 : sem T is (k + 5) "_law_cell" [.scr ns, .d (.int 2)] = _ := e_cell (is := is) (k + 4) ns 2
  have c3 : sem T is (k + 5) "_law_cell" [.scr ns, .d (.int 3)] = _ := e_cell (is := is) (k + 4) ns 3
  have c4 : sem T is (k + 5) "_law_cell" [.scr ns, .d (.int 4)] = _ := e_cell (is := is) (k + 4) ns 4
  have c5 : sem T is (k + 5) "_law_cell" [.scr ns, .d (.int 5)] = _ := e_cell (is := is) (k + 4) ns 5
  obtain ⟨v, hv, v0, v1⟩ := e_mix (is := is) (k + 4) (cell ns 4) 9949 101 (by decide) (by decide) (by decide)
  have q1 := Int.emod_nonneg (cell ns 3) (show (99 : Int) ≠ 0 by decide)
  have q2 := Int.emod_lt_of_pos (cell ns 3) (show (0 : Int) < 99 by decide)
  have m99 : modOk 99 = true := by decide
  generalize hone : cell ns 3 % 99 - 49 = one at *
  generalize htwo : v - 50 = two at *
  have lr := fun (x : List Int) (b : Int) (X : Dl size x) (h1 : -99 ≤ b) (h2 : b ≤ 99) => e_led_round (is := is) (k + 1) (by_ := b) X h1 h2
  have L1 := lr d one D (by omega) (by omega)
  have L2 := lr _ two (D.turn one) (by omega) (by omega)
  have L3 := lr d (one + two) D (by omega) (by omega)
  have L4 := lr d size D (by omega) (by omega)
  have L5 := lr _ (-one) D.mirr (by omega) (by omega)
  have M1 := e_mirrored (is := is) (k + 1) D
  have M2 := e_mirrored (is := is) (k + 1) D.mirr
  have M3 := e_mirrored (is := is) (k + 1) (D.turn one)
  rw [turn_turn] at L2
  rw [turn_size D.ins] at L4
  rw [mirr_mirr D.ins] at M2
  rw [mirr_turn] at M3
  have lk := e_likes (is := is) (k + 1) D
  have lo := e_likes (is := is) (k + 1) O
  have kd := e_kind (is := is) (k + 1) D
  have ko := e_kind (is := is) (k + 1) O
  have al := e_all (is := is) (k + 4) h2 h7 h6 (n := n)
  have kn := e_kinds (is := is) (k + 1) h2 h7 h1 h6 hn
  have k1 : sem T is (k + 5) "kinds" [.d (.int size), .d (.int 1)] = _ := e_kinds (is := is) (k + 1) (n := 1) h2 h7 (by decide) (by decide) (by omega)
  rw [kinds_one h2 h7] at k1
  have in1 : mirr size d ∈ likesOf size d := (mem_likes hs _).mpr (.inr ⟨0, (turn_zero (mirr_ins hs)).symm⟩)
  have in2 : turnB size one d ∈ likesOf size d := (mem_likes hs _).mpr (.inl ⟨one, rfl⟩)
  have in3 : d ∈ likesOf size d := (mem_likes hs _).mpr (Rk.refl D)
  have len := likes_len D
  have kh := kind_hd (d := d) h2
  obtain ⟨kr, hkr⟩ := kind_zero D
  have i1 : decide (o ∈ likesOf size d) = decide (kindOf size o = kindOf size d) := decide_eq_decide.mpr ((mem_likes hs o).trans (kind_eq D O).symm)
  have i2 : decide (d ∈ likesOf size o) = decide (o ∈ likesOf size d) := decide_eq_decide.mpr ((mem_likes hs d).trans (⟨fun r => r.symm O, fun r => r.symm D⟩ : Rk size o d ↔ Rk size d o) |>.trans (mem_likes hs o).symm)
  have cnt := kinds_count (size := size) h2 h7 h1 h6
  have each : ∀ x ∈ likesOf size d, sem T is (k + 5) "likes" [.d (.int size), .d (tupD x)] = ret (.fr (.lst ((likesOf size d).map tupD))) ∧ sem T is (k + 5) "kind" [.d (.int size), .d (tupD x)] = ret (rd (tupD (kindOf size d))) := fun x hx => by
    have r := (mem_likes hs x).mp hx
    have X := r.dl D
    have a := e_likes (is := is) (k + 1) X
    have b := e_kind (is := is) (k + 1) X
    rw [likes_eq D r] at a
    rw [(kind_eq D X).mpr r] at b
    exact ⟨a, b⟩
  have lenp : (0 : Int) < (likesOf size d).length := by omega
  have m2 : mulOk 2 size = true := by unfold mulOk smallI; simp
  have f2 : fits 2 = true := by decide
  have k02 : kindOf size d = 0 :: kr := hkr
  have S1 : ex (sem T is (k + 5)) is (.unp (.tp [(.nm 6), (.nm 7)]) (.call "_law_sizes" [(.var 0), (.int 0)])) [.val (.scr ns), .non, .non, .non, .non, .non, .non, .non] = ret (.nx [.val (.scr ns), .non, .non, .non, .non, .non, .val (.d (.int size)), .val (.d (.int n))]) := by simp [hz]
  have S2 : ex (sem T is (k + 5)) is (.set 1 (.call "_law_deal" [(.call "_law_seed" [(.call "_law_cell" [(.var 0), (.int 2)]), (.int 0)]), (.var 6), (.var 7)])) [.val (.scr ns), .non, .non, .non, .non, .non, .val (.d (.int size)), .val (.d (.int n))] = ret (.nx [.val (.scr ns), .val (.d (tupD d)), .non, .non, .non, .non, .val (.d (.int size)), .val (.d (.int n))]) := by simp [c2, e_seed (k + 4), hd]
  have S3 : ex (sem T is (k + 5)) is (.set 2 (.bin .sub (.bin .mod (.call "_law_cell" [(.var 0), (.int 3)]) (.int 99)) (.int 49))) [.val (.scr ns), .val (.d (tupD d)), .non, .non, .non, .non, .val (.d (.int size)), .val (.d (.int n))] = ret (.nx [.val (.scr ns), .val (.d (tupD d)), .val (.d (.int one)), .non, .non, .non, .val (.d (.int size)), .val (.d (.int n))]) := by simp [c3, m99, hone]
  have S4 : ex (sem T is (k + 5)) is (.set 3 (.bin .sub (.call "_law_mix" [(.call "_law_cell" [(.var 0), (.int 4)]), (.int 9949), (.int 101)]) (.int 50))) [.val (.scr ns), .val (.d (tupD d)), .val (.d (.int one)), .non, .non, .non, .val (.d (.int size)), .val (.d (.int n))] = ret (.nx [.val (.scr ns), .val (.d (tupD d)), .val (.d (.int one)), .val (.d (.int two)), .non, .non, .val (.d (.int size)), .val (.d (.int n))]) := by simp [c4, hv, htwo]
  have S5 : ex (sem T is (k + 5)) is (.ife (.cmp .ne (.call "led_round" [(.var 6), (.call "led_round" [(.var 6), (.var 1), (.var 2)]), (.var 3)]) (.call "led_round" [(.var 6), (.var 1), (.bin .add (.var 2) (.var 3))])) [(.ret (.bl false))] []) [.val (.scr ns), .val (.d (tupD d)), .val (.d (.int one)), .val (.d (.int two)), .non, .non, .val (.d (.int size)), .val (.d (.int n))] = ret (.nx [.val (.scr ns), .val (.d (tupD d)), .val (.d (.int one)), .val (.d (.int two)), .non, .non, .val (.d (.int size)), .val (.d (.int n))]) := by simp [L1, L2, L3]
  have S6 : ex (sem T is (k + 5)) is (.ife (.or (.cmp .ne (.call "mirrored" [(.var 6), (.call "mirrored" [(.var 6), (.var 1)])]) (.var 1)) (.cmp .ne (.call "led_round" [(.var 6), (.var 1), (.var 6)]) (.var 1))) [(.ret (.bl false))] []) [.val (.scr ns), .val (.d (tupD d)), .val (.d (.int one)), .val (.d (.int two)), .non, .non, .val (.d (.int size)), .val (.d (.int n))] = ret (.nx [.val (.scr ns), .val (.d (tupD d)), .val (.d (.int one)), .val (.d (.int two)), .non, .non, .val (.d (.int size)), .val (.d (.int n))]) := by simp [M1, M2, L4]
  have S7 : ex (sem T is (k + 5)) is (.ife (.cmp .ne (.call "mirrored" [(.var 6), (.call "led_round" [(.var 6), (.var 1), (.var 2)])]) (.call "led_round" [(.var 6), (.call "mirrored" [(.var 6), (.var 1)]), (.neg (.var 2))])) [(.ret (.bl false))] []) [.val (.scr ns), .val (.d (tupD d)), .val (.d (.int one)), .val (.d (.int two)), .non, .non, .val (.d (.int size)), .val (.d (.int n))] = ret (.nx [.val (.scr ns), .val (.d (tupD d)), .val (.d (.int one)), .val (.d (.int two)), .non, .non, .val (.d (.int size)), .val (.d (.int n))]) := by simp [L1, M1, M3, L5]
  have S8 : ex (sem T is (k + 5)) is (.set 4 (.call "likes" [(.var 6), (.var 1)])) [.val (.scr ns), .val (.d (tupD d)), .val (.d (.int one)), .val (.d (.int two)), .non, .non, .val (.d (.int size)), .val (.d (.int n))] = ret (.nx [.val (.scr ns), .val (.d (tupD d)), .val (.d (.int one)), .val (.d (.int two)), .val (.d (.list ((likesOf size d).map tupD))), .non, .val (.d (.int size)), .val (.d (.int n))]) := by simp [lk]
  have S9 : ex (sem T is (k + 5)) is (.ife (.or (.cmp .notin (.call "mirrored" [(.var 6), (.var 1)]) (.var 4)) (.cmp .notin (.call "led_round" [(.var 6), (.var 1), (.var 2)]) (.var 4))) [(.ret (.bl false))] []) [.val (.scr ns), .val (.d (tupD d)), .val (.d (.int one)), .val (.d (.int two)), .val (.d (.list ((likesOf size d).map tupD))), .non, .val (.d (.int size)), .val (.d (.int n))] = ret (.nx [.val (.scr ns), .val (.d (tupD d)), .val (.d (.int one)), .val (.d (.int two)), .val (.d (.list ((likesOf size d).map tupD))), .non, .val (.d (.int size)), .val (.d (.int n))]) := by simp [M1, L1, in1, in2]
  have S10 : ex (sem T is (k + 5)) is (.ife (.or (.cmp .notin (.var 1) (.var 4)) (.and (.cmp .notin (.blt .len [(.var 4)]) (.tup [(.var 6), (.bin .mul (.int 2) (.var 6))])) (.cmp .gt (.bin .mod (.bin .mul (.int 2) (.var 6)) (.blt .len [(.var 4)])) (.int 0)))) [(.ret (.bl false))] []) [.val (.scr ns), .val (.d (tupD d)), .val (.d (.int one)), .val (.d (.int two)), .val (.d (.list ((likesOf size d).map tupD))), .non, .val (.d (.int size)), .val (.d (.int n))] = ret (.nx [.val (.scr ns), .val (.d (tupD d)), .val (.d (.int one)), .val (.d (.int two)), .val (.d (.list ((likesOf size d).map tupD))), .non, .val (.d (.int size)), .val (.d (.int n))]) := by simp [in3, m2, f2, in_two, len]
  have S11 : ∃ s5, ex (sem T is (k + 5)) is (.for_ (.nm 5) (.seq (.var 4)) [(.ife (.or (.cmp .ne (.call "likes" [(.var 6), (.var 5)]) (.var 4)) (.cmp .ne (.call "kind" [(.var 6), (.var 5)]) (.ix (.var 4) (.int 0)))) [(.ret (.bl false))] [])]) [.val (.scr ns), .val (.d (tupD d)), .val (.d (.int one)), .val (.d (.int two)), .val (.d (.list ((likesOf size d).map tupD))), .non, .val (.d (.int size)), .val (.d (.int n))] = ret (.nx [.val (.scr ns), .val (.d (tupD d)), .val (.d (.int one)), .val (.d (.int two)), .val (.d (.list ((likesOf size d).map tupD))), s5, .val (.d (.int size)), .val (.d (.int n))]) := by
    obtain ⟨env', e1, s5, e2⟩ := forG_inv (f := fun x => bodyF (sem T is (k + 5)) is (.nm 5) [(.ife (.or (.cmp .ne (.call "likes" [(.var 6), (.var 5)]) (.var 4)) (.cmp .ne (.call "kind" [(.var 6), (.var 5)]) (.ix (.var 4) (.int 0)))) [(.ret (.bl false))] [])] (tupD x)) (fun _ env => ∃ s5, env = [.val (.scr ns), .val (.d (tupD d)), .val (.d (.int one)), .val (.d (.int two)), .val (.d (.list ((likesOf size d).map tupD))), s5, .val (.d (.int size)), .val (.d (.int n))]) (likesOf size d) [] _ ⟨.non, rfl⟩ fun dn x r env hdn ⟨s5, he⟩ => by
      subst he
      have hx : x ∈ likesOf size d := by
        have e : likesOf size d = dn ++ x :: r := hdn
        rw [e]; simp
      obtain ⟨a, b⟩ := each x hx
      refine ⟨_, ?_, ⟨.val (.d (tupD x)), rfl⟩⟩
      simp only [bodyF]
      simp [a, b, kh]
    subst e2
    refine ⟨s5, ?_⟩
    simp [forL_map, e1]
  obtain ⟨s5, S11⟩ := S11
  have S12 : ex (sem T is (k + 5)) is (.set 5 (.call "_law_deal" [(.call "_law_seed" [(.call "_law_cell" [(.var 0), (.int 5)]), (.int 1)]), (.var 6), (.var 7)])) [.val (.scr ns), .val (.d (tupD d)), .val (.d (.int one)), .val (.d (.int two)), .val (.d (.list ((likesOf size d).map tupD))), s5, .val (.d (.int size)), .val (.d (.int n))] = ret (.nx [.val (.scr ns), .val (.d (tupD d)), .val (.d (.int one)), .val (.d (.int two)), .val (.d (.list ((likesOf size d).map tupD))), .val (.d (tupD o)), .val (.d (.int size)), .val (.d (.int n))]) := by simp [c5, e_seed (k + 4), ho]
  have S13 : ex (sem T is (k + 5)) is (.ife (.or (.cmp .ne (.cmp .in_ (.var 5) (.var 4)) (.cmp .eq (.call "kind" [(.var 6), (.var 5)]) (.call "kind" [(.var 6), (.var 1)]))) (.cmp .ne (.cmp .in_ (.var 1) (.call "likes" [(.var 6), (.var 5)])) (.cmp .in_ (.var 5) (.var 4)))) [(.ret (.bl false))] []) [.val (.scr ns), .val (.d (tupD d)), .val (.d (.int one)), .val (.d (.int two)), .val (.d (.list ((likesOf size d).map tupD))), .val (.d (tupD o)), .val (.d (.int size)), .val (.d (.int n))] = ret (.nx [.val (.scr ns), .val (.d (tupD d)), .val (.d (.int one)), .val (.d (.int two)), .val (.d (.list ((likesOf size d).map tupD))), .val (.d (tupD o)), .val (.d (.int size)), .val (.d (.int n))]) := by
    by_cases z : o ∈ likesOf size d
    · have z1 : d ∈ likesOf size o := of_decide_eq_true (i2.trans (decide_eq_true z))
      have z2 : kindOf size o = kindOf size d := of_decide_eq_true (i1.symm.trans (decide_eq_true z))
      simp [kd, ko, lo, z, z1, z2]
    · have z1 : ¬ d ∈ likesOf size o := of_decide_eq_false (i2.trans (decide_eq_false z))
      have z2 : ¬ kindOf size o = kindOf size d := of_decide_eq_false (i1.symm.trans (decide_eq_false z))
      simp [kd, ko, lo, z, z1, z2]
  have S14 : ex (sem T is (k + 5)) is (.ife (.or (.cmp .ne (.ix (.ix (.var 4) (.int 0)) (.int 0)) (.int 0)) (.cmp .ne (.call "kinds" [(.var 6), (.int 1)]) (.int 1))) [(.ret (.bl false))] []) [.val (.scr ns), .val (.d (tupD d)), .val (.d (.int one)), .val (.d (.int two)), .val (.d (.list ((likesOf size d).map tupD))), .val (.d (tupD o)), .val (.d (.int size)), .val (.d (.int n))] = ret (.nx [.val (.scr ns), .val (.d (tupD d)), .val (.d (.int one)), .val (.d (.int two)), .val (.d (.list ((likesOf size d).map tupD))), .val (.d (tupD o)), .val (.d (.int size)), .val (.d (.int n))]) := by
    rw [hkr] at kh
    have a0 : atI (PyData.int 0 :: kr.map .int) 0 = some (.int 0) := by simp [atI, ixN]
    simp only [tupD, List.map_cons] at kh
    simp [kh, k1, a0, tupD]
  have S15 : ex (sem T is (k + 5)) is (.ret (.cmp .ge (.bin .mul (.bin .mul (.call "kinds" [(.var 6), (.var 7)]) (.int 2)) (.var 6)) (.blt .len [(.call "_law_all_deals" [(.var 6), (.var 7)])]))) [.val (.scr ns), .val (.d (tupD d)), .val (.d (.int one)), .val (.d (.int two)), .val (.d (.list ((likesOf size d).map tupD))), .val (.d (tupD o)), .val (.d (.int size)), .val (.d (.int n))] = ret (.rt (rd (.bool true))) := by
    have m3 : ∀ x : Int, mulOk x 2 = true := fun x => by unfold mulOk smallI; simp
    have m4 : ∀ x : Int, mulOk x size = true := fun x => Bool.or_eq_true_iff.mpr (.inr (decide_eq_true ⟨by omega, by omega⟩))
    generalize hF : ((((every size n).filter fun d => decide (kindOf size d = d)).length : Nat) : Int) = F at kn cnt
    have hE : (((every size n).map tupD).length : Int) ≤ F * 2 * size := by rw [List.length_map]; exact cnt
    generalize (every size n).map tupD = E at al hE
    generalize hev : ([.val (.scr ns), .val (.d (tupD d)), .val (.d (.int one)), .val (.d (.int two)), .val (.d (.list ((likesOf size d).map tupD))), .val (.d (tupD o)), .val (.d (.int size)), .val (.d (.int n))] : Pv.Env) = env
    have v6 : ev (sem T is (k + 5)) (.var 6) env = ret (rd (.int size)) := by rw [← hev]; rfl
    have v7 : ev (sem T is (k + 5)) (.var 7) env = ret (rd (.int n)) := by rw [← hev]; rfl
    have A : ev (sem T is (k + 5)) (.call "kinds" [(.var 6), (.var 7)]) env = ret (rd (.int F)) := by simp [-ev_var, v6, v7, kn]
    have A2 : ev (sem T is (k + 5)) (.bin .mul (.call "kinds" [(.var 6), (.var 7)]) (.int 2)) env = ret (rd (.int (F * 2))) := mul_ev A rfl (m3 F)
    have A3 : ev (sem T is (k + 5)) (.bin .mul (.bin .mul (.call "kinds" [(.var 6), (.var 7)]) (.int 2)) (.var 6)) env = ret (rd (.int (F * 2 * size))) := mul_ev A2 v6 (m4 _)
    have A4 : ev (sem T is (k + 5)) (.blt .len [(.call "_law_all_deals" [(.var 6), (.var 7)])]) env = ret (rd (.int E.length)) := by simp [-ev_var, v6, v7, al]
    have A5 : ev (sem T is (k + 5)) (.cmp .ge (.bin .mul (.bin .mul (.call "kinds" [(.var 6), (.var 7)]) (.int 2)) (.var 6)) (.blt .len [(.call "_law_all_deals" [(.var 6), (.var 7)])])) env = ret (rd (.bool true)) := ge_ev A3 A4 hE
    rw [ex_ret, A5]
    rfl
  have H : exB (sem T is (k + 5)) is c_law [.val (.scr ns), .non, .non, .non, .non, .non, .non, .non] = ret (.rt (rd (.bool true))) := by
    unfold c_law
    rw [exB_step S1, exB_step S2, exB_step S3, exB_step S4, exB_step S5, exB_step S6, exB_step S7, exB_step S8, exB_step S9, exB_step S10, exB_step S11, exB_step S12, exB_step S13, exB_step S14, exB_cons, S15]
    rfl
  rw [s_law]
  show runB (sem T is (k + 5)) is 7 c_law [.scr ns] = _
  unfold runB
  show bnd (noX (exB (sem T is (k + 5)) is c_law [.val (.scr ns), .non, .non, .non, .non, .non, .non, .non])) _ = _
  rw [H]
  rfl
end
end Lw
namespace Lw
open PySem PySem.Spec PyProof.Rows L2 Pv
theorem g_is_within : i_is_within.Good G := ⟨rfl, rfl, rfl, ⟨by kernel_rfl, by kernel_rfl, by kernel_rfl, by decide +kernel, by kernel_rfl, by decide +kernel, by decide +kernel⟩, by kernel_rfl, fun _ _ _ _ _ _ us hl => match us, hl with | [_, _, _], _ => rfl⟩
theorem g_look_size : i_look_size.Good G := ⟨rfl, rfl, rfl, ⟨by kernel_rfl, by kernel_rfl, by kernel_rfl, by decide +kernel, by kernel_rfl, by decide +kernel, by decide +kernel⟩, by kernel_rfl, fun _ _ _ _ _ _ us hl => match us, hl with | [_], _ => rfl⟩
theorem g_is_deal : i_is_deal.Good G := ⟨rfl, rfl, rfl, ⟨by kernel_rfl, by kernel_rfl, by kernel_rfl, by decide +kernel, by kernel_rfl, by decide +kernel, by decide +kernel⟩, by kernel_rfl, fun _ _ _ _ _ _ us hl => match us, hl with | [_, _], _ => rfl⟩
theorem g_look : i_look.Good G := ⟨rfl, rfl, rfl, ⟨by kernel_rfl, by kernel_rfl, by kernel_rfl, by decide +kernel, by kernel_rfl, by decide +kernel, by decide +kernel⟩, by kernel_rfl, fun _ _ _ _ _ _ us hl => match us, hl with | [_, _], _ => rfl⟩
theorem g_look_many : i_look_many.Good G := ⟨rfl, rfl, rfl, ⟨by kernel_rfl, by kernel_rfl, by kernel_rfl, by decide +kernel, by kernel_rfl, by decide +kernel, by decide +kernel⟩, by kernel_rfl, fun _ _ _ _ _ _ us hl => match us, hl with | [_, _], _ => rfl⟩
theorem g_every_deal : i_every_deal.Good G := ⟨rfl, rfl, rfl, ⟨by kernel_rfl, by kernel_rfl, by kernel_rfl, by decide +kernel, by kernel_rfl, by decide +kernel, by decide +kernel⟩, by kernel_rfl, fun _ _ _ _ _ _ us hl => match us, hl with | [_, _], _ => rfl⟩
theorem g_turned_by : i_turned_by.Good G := ⟨rfl, rfl, rfl, ⟨by kernel_rfl, by kernel_rfl, by kernel_rfl, by decide +kernel, by kernel_rfl, by decide +kernel, by decide +kernel⟩, by kernel_rfl, fun _ _ _ _ _ _ us hl => match us, hl with | [_, _, _], _ => rfl⟩
theorem g_led_round : i_led_round.Good G := ⟨rfl, rfl, rfl, ⟨by kernel_rfl, by kernel_rfl, by kernel_rfl, by decide +kernel, by kernel_rfl, by decide +kernel, by decide +kernel⟩, by kernel_rfl, fun _ _ _ _ _ _ us hl => match us, hl with | [_, _, _], _ => rfl⟩
theorem g_mirror : i_mirror.Good G := ⟨rfl, rfl, rfl, ⟨by kernel_rfl, by kernel_rfl, by kernel_rfl, by decide +kernel, by kernel_rfl, by decide +kernel, by decide +kernel⟩, by kernel_rfl, fun _ _ _ _ _ _ us hl => match us, hl with | [_, _], _ => rfl⟩
theorem g_mirrored : i_mirrored.Good G := ⟨rfl, rfl, rfl, ⟨by kernel_rfl, by kernel_rfl, by kernel_rfl, by decide +kernel, by kernel_rfl, by decide +kernel, by decide +kernel⟩, by kernel_rfl, fun _ _ _ _ _ _ us hl => match us, hl with | [_, _], _ => rfl⟩
theorem g_likes_of : i_likes_of.Good G := ⟨rfl, rfl, rfl, ⟨by kernel_rfl, by kernel_rfl, by kernel_rfl, by decide +kernel, by kernel_rfl, by decide +kernel, by decide +kernel⟩, by kernel_rfl, fun _ _ _ _ _ _ us hl => match us, hl with | [_, _], _ => rfl⟩
theorem g_likes : i_likes.Good G := ⟨rfl, rfl, rfl, ⟨by kernel_rfl, by kernel_rfl, by kernel_rfl, by decide +kernel, by kernel_rfl, by decide +kernel, by decide +kernel⟩, by kernel_rfl, fun _ _ _ _ _ _ us hl => match us, hl with | [_, _], _ => rfl⟩
theorem g_kind : i_kind.Good G := ⟨rfl, rfl, rfl, ⟨by kernel_rfl, by kernel_rfl, by kernel_rfl, by decide +kernel, by kernel_rfl, by decide +kernel, by decide +kernel⟩, by kernel_rfl, fun _ _ _ _ _ _ us hl => match us, hl with | [_, _], _ => rfl⟩
theorem g_kinds : i_kinds.Good G := ⟨rfl, rfl, rfl, ⟨by kernel_rfl, by kernel_rfl, by kernel_rfl, by decide +kernel, by kernel_rfl, by decide +kernel, by decide +kernel⟩, by kernel_rfl, fun _ _ _ _ _ _ us hl => match us, hl with | [_, _], _ => rfl⟩
theorem g__law_cell : i__law_cell.Good G := ⟨rfl, rfl, rfl, ⟨by kernel_rfl, by kernel_rfl, by kernel_rfl, by decide +kernel, by kernel_rfl, by decide +kernel, by decide +kernel⟩, by kernel_rfl, fun _ _ _ _ _ _ us hl => match us, hl with | [_, _], _ => rfl⟩
theorem g__law_mix : i__law_mix.Good G := ⟨rfl, rfl, rfl, ⟨by kernel_rfl, by kernel_rfl, by kernel_rfl, by decide +kernel, by kernel_rfl, by decide +kernel, by decide +kernel⟩, by kernel_rfl, fun _ _ _ _ _ _ us hl => match us, hl with | [_, _, _], _ => rfl⟩
theorem g__law_seed : i__law_seed.Good G := ⟨rfl, rfl, rfl, ⟨by kernel_rfl, by kernel_rfl, by kernel_rfl, by decide +kernel, by kernel_rfl, by decide +kernel, by decide +kernel⟩, by kernel_rfl, fun _ _ _ _ _ _ us hl => match us, hl with | [_, _], _ => rfl⟩
theorem g__law_pick : i__law_pick.Good G := ⟨rfl, rfl, rfl, ⟨by kernel_rfl, by kernel_rfl, by kernel_rfl, by decide +kernel, by kernel_rfl, by decide +kernel, by decide +kernel⟩, by kernel_rfl, fun _ _ _ _ _ _ us hl => match us, hl with | [_, _], _ => rfl⟩
theorem g__law_deal : i__law_deal.Good G := ⟨rfl, rfl, rfl, ⟨by kernel_rfl, by kernel_rfl, by kernel_rfl, by decide +kernel, by kernel_rfl, by decide +kernel, by decide +kernel⟩, by kernel_rfl, fun _ _ _ _ _ _ us hl => match us, hl with | [_, _, _], _ => rfl⟩
theorem g__law_all_deals : i__law_all_deals.Good G := ⟨rfl, rfl, rfl, ⟨by kernel_rfl, by kernel_rfl, by kernel_rfl, by decide +kernel, by kernel_rfl, by decide +kernel, by decide +kernel⟩, by kernel_rfl, fun _ _ _ _ _ _ us hl => match us, hl with | [_, _], _ => rfl⟩
theorem g__law_sizes : i__law_sizes.Good G := ⟨rfl, rfl, rfl, ⟨by kernel_rfl, by kernel_rfl, by kernel_rfl, by decide +kernel, by kernel_rfl, by decide +kernel, by decide +kernel⟩, by kernel_rfl, fun _ _ _ _ _ _ us hl => match us, hl with | [_, _], _ => rfl⟩
theorem g_law : i_law.Good G := ⟨rfl, rfl, rfl, ⟨by kernel_rfl, by kernel_rfl, by kernel_rfl, by decide +kernel, by kernel_rfl, by decide +kernel, by decide +kernel⟩, by kernel_rfl, fun _ _ _ _ _ _ us hl => match us, hl with | [_], _ => rfl⟩
theorem good : ∀ x ∈ T, x.Good G := by
  intro x hx
  simp only [T, List.mem_append, List.mem_cons, List.not_mem_nil, or_false] at hx
  rcases hx with rfl | rfl | rfl | rfl | rfl | rfl | rfl | rfl | rfl | rfl | rfl | rfl | rfl | rfl | rfl | rfl | rfl | rfl | rfl | rfl | rfl | rfl
  · exact g_is_within
  · exact g_look_size
  · exact g_is_deal
  · exact g_look
  · exact g_look_many
  · exact g_every_deal
  · exact g_turned_by
  · exact g_led_round
  · exact g_mirror
  · exact g_mirrored
  · exact g_likes_of
  · exact g_likes
  · exact g_kind
  · exact g_kinds
  · exact g__law_cell
  · exact g__law_mix
  · exact g__law_seed
  · exact g__law_pick
  · exact g__law_deal
  · exact g__law_all_deals
  · exact g__law_sizes
  · exact g_law
def names : List PySem.Str := (["__name__", "RoundError", "NoSize", "NoWeights", "NoDeal", "NoCount", "MOST_PLACES", "MOST_THINGS", "is_within", "look_size", "is_deal", "look", "look_many", "every_deal", "MOST_BY", "turned_by", "led_round", "mirror", "mirrored", "likes_of", "likes", "kind", "kinds", "_law_cell", "_law_mix", "_law_seed", "_law_pick", "_law_deal", "_law_all_deals", "_law_sizes"])
abbrev R : PySem.W.OpenRow := PySem.W.OpenLaw.row PySem.Challenge.rw_placeround_k13_whole_kinds
def fa : List He.Fa := faOf T G em
def fn : List He.DefD := fnOf T
abbrev hk : PySem.W.Hook := He.hookD 5 fa fn
def ob (s : PySem.W.SharedT) : He.AlD := He.obsDG 5 fa fn (HandSHeadRun.getT s)
theorem ob_eq (s : PySem.W.SharedT) : ob s = hk.obs s.abs := He.obsDG_eq (HandSHeadRun.getT_eq s)
theorem run (w : World) : HandSHeadRun.RunEq R (PySem.W.view R.prog [33]) hk ob 12000 names w := by
  intro os
  kernel_rfl
theorem law_true : ∀ ns : List Int, ns.length ≤ 63 → ∃ t t', sem T (isOf em) (11 + 1) i_law.nm [.scr ns] t = .ok (rd (.bool true)) t' := fun ns _ => ⟨[], [], by
  have e := e_law (is := isOf em) 6 ns
  show sem T (isOf em) (6 + 6) "law" [.scr ns] [] = _
  rw [e]
  rfl⟩
end Lw
open PySem PySem.W PySem.Calls PyProof.Rows
theorem PySem.Challenge.cw_placeround_k13_whole_kinds_holds : PySem.Challenge.rw_placeround_k13_whole_kinds.Holds := by
  w_on; o_law
  refine HandSHeadRun.head_any (r := OpenLaw.row PySem.Challenge.rw_placeround_k13_whole_kinds) (q := view (OpenLaw.row PySem.Challenge.rw_placeround_k13_whole_kinds).prog [33]) (H := Lw.hk) (ob := Lw.ob) (M := 12000) (loose := Lw.names) (d := HandSHeadRun.topDef (OpenLaw.row PySem.Challenge.rw_placeround_k13_whole_kinds).prog 33) (kwd := []) Lw.ob_eq
    (by kernel_rfl) (fun s => by kernel_rfl) Lw.run (by kernel_rfl) (by kernel_rfl) (by kernel_rfl) (by rfl) (by first | assumption | decide +kernel) (by decide +kernel) ⟨rfl, rfl, rfl, rfl, rfl, by decide +kernel⟩ ?hw ?hc
  case hw => w_witness2
  case hc =>
    refine L2.walk_ofE (l := PySem.Challenge.rw_placeround_k13_whole_kinds) (n := 63) (k := 12) (x := "_law_script") (CX := L2.CX0) rfl (by decide) (by kernel_rfl) ⟨rfl, by decide, by decide⟩ ?F (fun _ _ _ _ z => z)
    intro w mg fa h Y Gm hmg0
    obtain ⟨K, KX, c⟩ := Y
    have hmg : mg ("law" : PySem.Str) = some (.ref fa) := by
      have e : (HandSHeadRun.topDef (OpenLaw.row PySem.Challenge.rw_placeround_k13_whole_kinds).prog 33).name = ("law" : PySem.Str) := by kernel_rfl
      rw [← e]
      exact hmg0
    obtain ⟨fd, hb, hF⟩ := Pv.law_facts (P := (PySem.Challenge.rw_placeround_k13_whole_kinds).prog) (w := w) (k := 11) (n := 63) (x := Lw.i_law) (s0 := "_law_script") KX Gm hmg c (by decide +kernel) (by kernel_rfl) Lw.good (by simp [Lw.T]) (by kernel_rfl) rfl Lw.law_true
    exact ⟨K, fd, Pv.spLaw K 63, KX, hb, fun H a ns hl _ hS => ⟨a, ns, rfl, hl, hS, fun _ => rfl⟩, hF⟩
