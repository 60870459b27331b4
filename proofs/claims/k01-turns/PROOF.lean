import PyProof.Rows.All
import Wide.All
import OpenK.AllK
import Wide.FinOn
import KE.KStateDown
import Lean
import HandS.CallSlots
import HandS.Codes
import HandS.Conv
import HandS.Deep
import HandS.ExcOwn
import HandS.Flow
import HandS.Flt
import HandS.ForMost
import HandS.Head0
import HandS.Head1
import HandS.Head2
import HandS.HeadEnd
import HandS.HeadHook1
import HandS.HeadHook2
import HandS.IsInst
import HandS.More
import HandS.SetFor
import HandS.SortInts
import HandS.Strs
import HandS.Style
import HandS.TryMany
import HandS.TryOnly
import HandS.TupAny
import HandS.TupMul
import HandS.TupSets
import HandS.Walk
import HandS.Zip
import KE.DataMinMax
import KE.GoesEnum
import KE.GoesMore
import KE.GoesZip
import KE.KRevSl
import KE.KTupSum
import KE.SortData
import PyProof.Claim2Refuses
import PySem.Challenge.RW_placeround_k01_turns
set_option Elab.async false
set_option linter.all false
set_option maxRecDepth 100000
set_option maxHeartbeats 0
set_option autoImplicit false
/-! Pv1: plain values, the code type, its evaluation. -/
namespace Pv
open PySem

abbrev D := PyData
/-- what an owned slot holds -/
inductive OV where
  | lst (xs : List D) | dk (kvs : List (L2.Key × D)) | dt (kvs : List (List L2.Key × D))
/-- a value at a name -/
inductive Vv where
  | d (x : D) | scr (ns : List Int) | obj (k : Nat) | fn (f : Str)
inductive Slot where
  | non | val (v : Vv) | own (o : OV)
/-- a result: a frozen value, a new list of nobody's, a borrowed slot -/
inductive RV where
  | v (x : Vv) | fr (o : OV) | bo (i : Nat) (o : OV)
structure Ob where
  cls : Str
  fs : List (Str × Slot)
abbrev Sto := List Ob
abbrev Env := List Slot
inductive Out (α : Type) where
  | ok (a : α) (t : Sto) | exc (x : Str) (t : Sto) | stuck
def M (α : Type) := Sto → Out α
section
variable {α β γ : Type}
def ret (a : α) : M α := fun t => .ok a t
def raise (x : Str) : M α := fun t => .exc x t
def stk : M α := fun _ => .stuck
def bnd (m : M α) (f : α → M β) : M β := fun t => match m t with
  | .ok a t' => f a t'
  | .exc x t' => .exc x t'
  | .stuck => .stuck
/-- told as no rfl -/
theorem nr {α : Type} {a b : α} (h : a = b) : a = b := h
@[simp] theorem bnd_ret (a : α) (f : α → M β) : bnd (ret a) f = f a := nr rfl
@[simp] theorem bnd_raise (x : Str) (f : α → M β) : bnd (raise x) f = raise x := nr rfl
@[simp] theorem bnd_stk (f : α → M β) : bnd stk f = stk := nr rfl
theorem bnd_assoc (m : M α) (f : α → M β) (g : β → M γ) : bnd (bnd m f) g = bnd m fun a => bnd (f a) g := by
  funext t
  simp only [bnd]
  cases m t <;> rfl
theorem bnd_ite (c : Prop) [Decidable c] (a b : M α) (f : α → M β) : bnd (if c then a else b) f = if c then bnd a f else bnd b f := by
  split <;> rfl
/-- where nothing may be raised -/
def noX (m : M α) : M α := fun t => match m t with
  | .ok a t' => .ok a t'
  | _ => .stuck
@[simp] theorem noX_ret (a : α) : noX (ret a) = ret a := nr rfl
theorem noX_ite (c : Prop) [Decidable c] (a b : M α) : noX (if c then a else b) = if c then noX a else noX b := by
  split <;> rfl
def guard (b : Bool) (m : M α) : M α := if b = true then m else stk
@[simp] theorem guard_true (m : M α) : guard true m = m := nr rfl
theorem guard_of {b : Bool} (m : M α) (h : b = true) : guard b m = m := by subst h; rfl
end

/-! ### values -/
abbrev rd (x : D) : RV := .v (.d x)
@[simp] def RV.dat : RV → Option D
  | .v (.d x) => some x
  | .fr (.lst xs) => some (.list xs)
  | .bo _ (.lst xs) => some (.list xs)
  | _ => none
section
variable {α : Type}
def asD (r : RV) (f : D → M α) : M α := match r.dat with
  | some x => f x
  | none => stk
@[simp] theorem asD_v (x : D) (f : D → M α) : asD (.v (.d x)) f = f x := nr rfl
@[simp] theorem asD_fr (xs : List D) (f : D → M α) : asD (.fr (.lst xs)) f = f (.list xs) := nr rfl
@[simp] theorem asD_bo (i : Nat) (xs : List D) (f : D → M α) : asD (.bo i (.lst xs)) f = f (.list xs) := nr rfl
end
/-- to be kept: frozen -/
@[simp] def keepV : RV → M Vv
  | .v x => ret x
  | .fr (.lst xs) => ret (.d (.list xs))
  | _ => stk
@[simp] def keepD (r : RV) : M D := bnd (keepV r) fun
  | .d x => ret x
  | _ => stk

/-- frozen where it was new -/
@[simp] def frzM : RV → M RV
  | .fr (.lst xs) => ret (.v (.d (.list xs)))
  | .fr _ => stk
  | r => ret r

/-! ### operators -/
inductive BOp where
  | add | sub | mul | fdiv | mod | pow
  deriving DecidableEq
inductive COp where
  | eq | ne | lt | le | gt | ge | is_ | isnot | in_ | notin
  deriving DecidableEq
def smallI (i : Int) : Bool := decide (-18446744073709551616 < i ∧ i < 18446744073709551616)
def mulOk (i j : Int) : Bool := smallI i || smallI j
def divOk (j : Int) : Bool := decide (0 < j ∧ j < 1073741824)
def modOk (j : Int) : Bool := decide (0 < j)
def powOk (i j : Int) : Bool := decide (0 ≤ j ∧ j ≤ 1000000 ∧ i.natAbs < 2 ^ 64)
def fits (n : Nat) : Bool := decide (n ≤ 16777216)
def repOk (n : Nat) (k : Int) : Bool := decide (-(2 ^ 63) ≤ k ∧ k < 2 ^ 63 ∧ n * k.toNat ≤ 16777216)
def rep (xs : List D) (k : Int) : List D := (List.replicate k.toNat xs).flatten
def addD : D → D → M RV
  | .int i, .int j => ret (rd (.int (i + j)))
  | .tuple xs, .tuple ys => guard (fits (xs.length + ys.length)) (ret (rd (.tuple (xs ++ ys))))
  | .list xs, .list ys => guard (fits (xs.length + ys.length)) (ret (.fr (.lst (xs ++ ys))))
  | .str x, .str y => guard (fits (x.length + y.length)) (ret (rd (.str (x ++ y))))
  | _, _ => stk
@[simp] def subD : D → D → M RV
  | .int i, .int j => ret (rd (.int (i - j)))
  | _, _ => stk
@[simp] def mulD : D → D → M RV
  | .int i, .int j => guard (mulOk i j) (ret (rd (.int (i * j))))
  | .list xs, .int k => guard (repOk xs.length k) (ret (.fr (.lst (rep xs k))))
  | .tuple xs, .int k => guard (!xs.isEmpty && decide (1 ≤ k ∧ k ≤ 1000 ∧ xs.length ≤ 1000)) (ret (rd (.tuple (rep xs k))))
  | _, _ => stk
@[simp] def fdivD : D → D → M RV
  | .int i, .int j => guard (divOk j) (ret (rd (.int (i / j))))
  | _, _ => stk
@[simp] def modD : D → D → M RV
  | .int i, .int j => guard (modOk j) (ret (rd (.int (i % j))))
  | _, _ => stk
@[simp] def powD : D → D → M RV
  | .int i, .int j => guard (powOk i j) (ret (rd (.int (i ^ j.toNat))))
  | _, _ => stk
@[simp] def binD : BOp → D → D → M RV
  | .add => addD | .sub => subD | .mul => mulD | .fdiv => fdivD | .mod => modD | .pow => powD
def isNoneD : D → Bool
  | .none => true
  | _ => false
def ltOk (x y : D) : Bool := W.alike x y && SeqAt.shaped x && !isNoneD x
def flatD : D → Bool
  | .none | .bool _ | .int _ | .str _ => true
  | _ => false
def inD (x : D) (xs : List D) : Bool := xs.any fun z => PyData.eqv z x
def isTrueD : D → Bool
  | .bool b => b
  | _ => false
/-- b: for the other way round -/
def inM (b : Bool) (x y : D) : M RV := match y with
  | .list ds => guard (SeqAt.shaped x && SeqAt.shaped (.list ds)) (ret (rd (.bool (inD x ds == b))))
  | .tuple ds => guard (flatD x && ds.all flatD) (ret (rd (.bool (inD x ds == b))))
  | _ => stk
@[simp] def eqOk (x y : D) : Bool := SeqAt.shaped x && SeqAt.shaped y
def eqD (x y : D) : M RV := guard (eqOk x y) (ret (rd (.bool (PyData.eqv x y))))
def neD (x y : D) : M RV := guard (eqOk x y) (ret (rd (.bool (!PyData.eqv x y))))
@[simp] def ltD : D → D → M RV
  | .int i, .int j => ret (rd (.bool (decide (i < j))))
  | x, y => guard (ltOk x y) (ret (rd (.bool (W.dataLt x y))))
@[simp] def leD : D → D → M RV
  | .int i, .int j => ret (rd (.bool (decide (i ≤ j))))
  | _, _ => stk
@[simp] def gtD : D → D → M RV
  | .int i, .int j => ret (rd (.bool (decide (j < i))))
  | _, _ => stk
@[simp] def geD : D → D → M RV
  | .int i, .int j => ret (rd (.bool (decide (j ≤ i))))
  | _, _ => stk
@[simp] def isD : D → D → M RV
  | x, .none => ret (rd (.bool (isNoneD x)))
  | .bool a, .bool b => ret (rd (.bool (decide (a = b))))
  | _, _ => stk
@[simp] def isnotD : D → D → M RV
  | x, .none => ret (rd (.bool (!isNoneD x)))
  | .bool a, .bool b => ret (rd (.bool (!decide (a = b))))
  | _, _ => stk
@[simp] def cmpD : COp → D → D → M RV
  | .eq => eqD | .ne => neD | .lt => ltD | .le => leD | .gt => gtD | .ge => geD | .is_ => isD | .isnot => isnotD
  | .in_ => inM true | .notin => inM false
/-- truth -/
def truD : D → M Bool
  | .none => ret false
  | .bool b => ret b
  | .int i => ret (i != 0)
  | .str x => guard (fits x.length) (ret ((x.length : Int) != 0))
  | .list xs => ret (!xs.isEmpty)
  | .tuple xs => ret (!xs.isEmpty)
  | _ => stk
@[simp] def truR (r : RV) : M Bool := asD r truD
def negD : D → M RV
  | .int i => ret (rd (.int (-i)))
  | _ => stk

/-! ### items, slices -/
def ixM : D → D → M RV
  | .list xs, .int i => match L2.atI xs i with
    | some x => ret (rd x)
    | none => stk
  | .tuple xs, .int i => match L2.atI xs i with
    | some x => ret (rd x)
    | none => stk
  | .str z, .int i => guard (fits z.length) (match L2.atI z.cps.toList i with
    | some c => ret (rd (.str ⟨#[c]⟩))
    | none => stk)
  | _, _ => stk
def cutL {α : Type} (xs : List α) (lo hi : Option Int) : List α := (xs.drop (HT.sIx xs.length 0 lo)).take (HT.sIx xs.length xs.length hi - HT.sIx xs.length 0 lo)
def cutM (lo hi : Option Int) : D → M RV
  | .list xs => ret (.fr (.lst (cutL xs lo hi)))
  | .tuple xs => ret (rd (.tuple (cutL xs lo hi)))
  | _ => stk
def revM : D → M RV
  | .list xs => ret (.fr (.lst xs.reverse))
  | .tuple xs => ret (rd (.tuple xs.reverse))
  | _ => stk

/-! ### built-ins -/
inductive Ty where
  | int | bool | tuple | list | str
  deriving DecidableEq
def isTy : Ty → D → Bool
  | .int, .int _ => true
  | .int, .bool _ => true
  | .bool, .bool _ => true
  | .tuple, .tuple _ => true
  | .list, .list _ => true
  | .str, .str _ => true
  | _, _ => false
inductive BF where
  | len | abs | sum | min1 | max1 | min2 | max2 | min3 | sorted | tuple | list | int | str | lenSet | sortedSet
  deriving DecidableEq
def intsOf : List D → Option (List Int)
  | [] => some []
  | .int i :: r => (intsOf r).map (i :: ·)
  | _ => none
def lenM : D → M RV
  | .list xs => ret (rd (.int xs.length))
  | .tuple xs => ret (rd (.int xs.length))
  | .str x => guard (fits x.length) (ret (rd (.int x.length)))
  | _ => stk
def absI (i : Int) : Int := if i < 0 then -i else i
def minI (i j : Int) : Int := if j < i then j else i
def maxI (i j : Int) : Int := if j > i then j else i
def minD : D → List D → D
  | m, [] => m
  | m, y :: ys => minD (if W.dataLt y m = true then y else m) ys
def alikeB (xs : List D) : Bool := xs.all fun x => xs.all fun y => W.alike x y
def listOk (xs : List D) : Bool := alikeB xs && (SeqAt.shaped (.list xs) && xs.all fun x => !isNoneD x)
/-- lists of ints, in their order -/
def ltT : List Int → List Int → Bool
  | [], [] => false
  | [], _ :: _ => true
  | _ :: _, [] => false
  | x :: xs, y :: ys => decide (x < y) || (decide (x = y) && ltT xs ys)
def insT (k : List Int) : List (List Int) → List (List Int)
  | [] => [k]
  | x :: xs => if ltT x k = true then x :: insT k xs else k :: x :: xs
def sortT : List (List Int) → List (List Int)
  | [] => []
  | k :: ks => insT k (sortT ks)
def insI (k : Int) : List Int → List Int
  | [] => [k]
  | x :: xs => if x < k then x :: insI k xs else k :: x :: xs
def sortI : List Int → List Int
  | [] => []
  | k :: ks => insI k (sortI ks)
def uniqL {α : Type} [DecidableEq α] : List α → List α
  | [] => []
  | x :: xs => x :: (uniqL xs).filter fun y => !decide (y = x)
def tupsOf : List D → Option (List (List Int))
  | [] => some []
  | .tuple xs :: r => match intsOf xs, tupsOf r with
    | some k, some ks => some (k :: ks)
    | _, _ => none
  | _ :: _ => none
def tupD (k : List Int) : D := .tuple (k.map .int)
def tupOk (ks : List (List Int)) : Bool := decide (ks.length < 64) && match ks with
  | [] => true
  | k :: _ => decide (1 ≤ k.length) && ks.all fun l => decide (l.length = k.length) && l.all fun m => decide (0 ≤ m ∧ m < 64)
def sumM : D → M RV
  | .list xs => match intsOf xs with
    | some ns => ret (rd (.int ns.sum))
    | none => stk
  | .tuple xs => match intsOf xs with
    | some ns => ret (rd (.int ns.sum))
    | none => stk
  | _ => stk
def minM : D → M RV
  | .list (x :: xs) => guard (listOk (x :: xs)) (ret (rd (minD x xs)))
  | _ => stk
def maxM : D → M RV
  | .list xs => match intsOf xs with
    | some (n :: ns) => ret (rd (.int (ns.foldl max n)))
    | _ => stk
  | _ => stk
def sortedM : D → M RV
  | .list xs => match intsOf xs with
    | some ns => ret (.fr (.lst ((sortI ns).map .int)))
    | none => match tupsOf xs with
      | some ks => guard (tupOk ks) (ret (.fr (.lst ((sortT ks).map tupD))))
      | none => stk
  | .tuple xs => match intsOf xs with
    | some ns => guard (decide (ns.length ≤ 1000)) (ret (.fr (.lst ((sortI ns).map .int))))
    | none => stk
  | _ => stk
def tupleM : D → M RV
  | .list xs => ret (rd (.tuple xs))
  | .tuple xs => ret (rd (.tuple xs))
  | _ => stk
def listM : D → M RV
  | .list xs => ret (.fr (.lst xs))
  | .tuple xs => ret (.fr (.lst xs))
  | _ => stk
def intM : D → M RV
  | .int i => ret (rd (.int i))
  | .bool b => ret (rd (.int (if b then 1 else 0)))
  | .str x => match intText? x with
    | some n => guard (decide (x.length ≤ 640)) (ret (rd (.int n)))
    | none => stk
  | _ => stk
def strM : D → M RV
  | .int i => guard (decide (i.natAbs < 2 ^ 60)) (ret (rd (.str (toString i))))
  | _ => stk
def lenSetM : D → M RV
  | .tuple xs => match intsOf xs with
    | some ns => guard (decide (ns.length ≤ 4000)) (ret (rd (.int ((uniqL ns).length : Nat))))
    | none => stk
  | .list xs => match intsOf xs with
    | some ns => guard (decide (ns.length ≤ 4000)) (ret (rd (.int ((uniqL ns).length : Nat))))
    | none => stk
  | _ => stk
/-- sorted(set(..)): of equal things one -/
def sortedSetM : D → M RV
  | .list xs => match tupsOf xs with
    | some ks => guard (tupOk ks) (ret (.fr (.lst ((sortT (uniqL ks)).map tupD))))
    | none => stk
  | .tuple xs => match intsOf xs with
    | some ns => guard (decide (ns.length < 64)) (ret (.fr (.lst ((sortI (uniqL ns)).map .int))))
    | none => stk
  | _ => stk
@[simp] def bfD : BF → List D → M RV
  | .len, [x] => lenM x
  | .abs, [.int i] => ret (rd (.int (absI i)))
  | .sum, [x] => sumM x
  | .min1, [x] => minM x
  | .max1, [x] => maxM x
  | .min2, [.int i, .int j] => ret (rd (.int (minI i j)))
  | .max2, [.int i, .int j] => ret (rd (.int (maxI i j)))
  | .min3, [.int i, .int j, .int k] => ret (rd (.int (minI (minI i j) k)))
  | .sorted, [x] => sortedM x
  | .tuple, [x] => tupleM x
  | .list, [x] => listM x
  | .int, [x] => intM x
  | .str, [x] => strM x
  | .lenSet, [x] => lenSetM x
  | .sortedSet, [x] => sortedSetM x
  | _, _ => stk
inductive MF where
  | split | join | index | count
  deriving DecidableEq
def rangeL (a b : Int) : List D := (List.range (b - a).toNat).map fun i => .int (a + (i : Nat))
def rangeOk (a b : Int) : Bool := decide (-1000000 ≤ a ∧ a ≤ 1000000 ∧ -1000000 ≤ b ∧ b ≤ 1000000)
def zipL : List D → List D → List D
  | x :: xs, y :: ys => .tuple [x, y] :: zipL xs ys
  | _, _ => []
def zip3L : List D → List D → List D → List D
  | x :: xs, y :: ys, z :: zs => .tuple [x, y, z] :: zip3L xs ys zs
  | _, _, _ => []
def enumL : Nat → List D → List D
  | _, [] => []
  | n, x :: xs => .tuple [.int (n : Nat), x] :: enumL (n + 1) xs
def seqD : D → M (List D)
  | .list xs => ret xs
  | .tuple xs => ret xs
  | _ => stk

/-! ### the code -/
inductive T where
  | nm (i : Nat) | tp (ts : List T)
mutual
inductive E where
  | var (i : Nat) | own (i : Nat)
  | non | bl (b : Bool) | int (i : Int) | str (s : Str)
  | glob (x : Str) (i : Int)
  | tup (es : List E) | lst (es : List E)
  | bin (op : BOp) (a b : E)
  | neg (a : E) | not (a : E) | and (a b : E) | or (a b : E)
  | cmp (op : COp) (a b : E) | chain (o1 o2 : COp) (a b c : E)
  | ifx (c a b : E)
  | ix (a b : E) | sl (a : E) (lo hi : Option E) | slr (a : E)
  | isi (a : E) (t : Ty)
  | blt (f : BF) (es : List E)
  | rngl (a : E) | rngt (a : E)
  | call (f : Str) (es : List E)
  | mth (m : MF) (o : E) (es : List E)
  | lc (elt : E) (tg : T) (it : I) (ifs : Option E) (ow : List Nat)
  | bad
inductive I where
  | seq (e : E) | rng1 (a : E) | rng2 (a b : E) | enum (e : E) | zip (a b : E) | zip3 (a b c : E)
end
inductive S where
  | set (i : Nat) (e : E) | setO (i : Nat) (e : E)
  | par (is : List (Nat × Bool)) (es : List E)
  | parL (l : List (Nat × Option Int))
  | unp (tg : T) (e : E)
  | setIx (i : Nat) (k e : E) | augIx (i : Nat) (k e : E)
  | aug (i : Nat) (op : BOp) (e : E)
  | exp (e : E)
  | app (i : Nat) (e : E) | ext (i : Nat) (e : E) | ins (i : Nat) (k e : E) | clr (i : Nat)
  | appPop (i j : Nat) (k : E) | pop (tg : T) (i : Nat) (k : Option E)
  | ife (c : E) (a b : List S)
  | whl (c : E) (b : List S)
  | for_ (tg : T) (it : I) (b : List S)
  | ret (e : E) | retN
  | rai (x : Str)
  | tryS (b : List S) (hs : List (Str × Nat × Str))
  | frz (i : Nat) (s : S)
  | bad

/-! ### evaluation -/
mutual
/-- a datum stored by a target -/
def asg : T → D → Env → Option Env
  | .nm i, x, env => some (env.set i (.val (.d x)))
  | .tp ts, .tuple xs, env => asgs ts xs env
  | .tp ts, .list xs, env => asgs ts xs env
  | .tp _, _, _ => none
def asgs : List T → List D → Env → Option Env
  | [], [], env => some env
  | t :: ts, x :: xs, env => match asg t x env with
    | some env' => asgs ts xs env'
    | none => none
  | _, _, _ => none
end
@[simp] def wipeE (env : Env) : List Nat → Env
  | [] => env
  | v :: vs => (wipeE env vs).set v .non
def asgM (t : T) (x : D) (env : Env) : M Env := match asg t x env with
  | some e => ret e
  | none => stk
def lcL (f : D → M (Option D)) : List D → M (List D)
  | [] => ret []
  | x :: xs => bnd (f x) fun o => bnd (lcL f xs) fun r => ret (match o with
    | some y => y :: r
    | none => r)
@[simp] def dats : List RV → Option (List D)
  | [] => some []
  | r :: rs => match r.dat, dats rs with
    | some x, some xs => some (x :: xs)
    | _, _ => none
@[simp] def keepAll : List RV → M (List Vv)
  | [] => ret []
  | r :: rs => bnd (keepV r) fun x => bnd (keepAll rs) fun xs => ret (x :: xs)
@[simp] def keepAllD : List RV → M (List D)
  | [] => ret []
  | r :: rs => bnd (keepD r) fun x => bnd (keepAllD rs) fun xs => ret (x :: xs)
@[simp] def slotR (env : Env) (i : Nat) : M RV := match env[i]? with
  | some (.val v) => ret (.v v)
  | some (.own o) => ret (.bo i o)
  | _ => stk
@[simp] def bfM (f : BF) (rs : List RV) : M RV := match f, rs with
  | .len, [.v (.scr ns)] => ret (rd (.int ns.length))
  | f, rs => match dats rs with
    | some ds => bfD f ds
    | none => stk
@[simp] def ixR (a b : RV) : M RV := match a, b with
  | .v (.scr ns), .v (.d (.int i)) => match L2.atI ns i with
    | some n => ret (rd (.int n))
    | none => stk
  | a, b => asD a fun x => asD b fun y => ixM x y
@[simp] def isiR (a : RV) (t : Ty) : M RV := asD a fun x => ret (rd (.bool (isTy t x)))
@[simp] def cmpR (op : COp) (a b : RV) : M RV := asD a fun x => asD b fun y => cmpD op x y
@[simp] def boolR (r : RV) : M Bool := match r with
  | .v (.d (.bool b)) => ret b
  | _ => stk
def splitM : D → List D → M RV
  | .str x, [.str y] => guard (!(y.length == 0) && fits (x.length + 2)) (ret (.fr (.lst ((Txt.split x y).map .str))))
  | _, _ => stk
def cntM : D → List D → M RV
  | .list xs, [.int k] => match intsOf xs with
    | some ns => ret (rd (.int (ns.count k : Nat)))
    | none => stk
  | _, _ => stk
@[simp] def mthD : MF → D → List D → M RV
  | .split => splitM
  | .count => cntM
  | _ => fun _ _ => stk
def mthM (m : MF) (o : RV) (rs : List RV) : M RV := asD o fun x => match dats rs with
  | some ds => mthD m x ds
  | none => stk
@[simp] def isLD : Option D → Bool
  | some (.list _) => true
  | _ => false
@[simp] def isSD : Option D → Bool
  | some (.str _) => true
  | _ => false
@[simp] def isTD : Option D → Bool
  | some (.tuple _) => true
  | _ => false
@[simp] def mthTy : MF → RV → Bool
  | .count, r => isLD r.dat
  | .split, r => isSD r.dat
  | .join, r => isSD r.dat
  | .index, r => isTD r.dat
@[simp] def partM (r : RV) : M (Option Int) := match r with
  | .v (.d (.int i)) => ret (some i)
  | _ => stk
@[simp] def isBo : RV → Bool
  | .bo _ _ => true
  | _ => false
/-- the block's own names hold nothing of ours -/
@[simp] def wipeOk (env : Env) (ow : List Nat) : Bool := ow.all fun i => match env[i]? with
  | some (.own _) => false
  | _ => true
@[simp] def zipD (x y : D) : M (List D) := bnd (seqD x) fun xs => bnd (seqD y) fun ys => ret (zipL xs ys)
def enumD : D → M (List D)
  | .list xs => ret (enumL 0 xs)
  | .tuple xs => ret (enumL 0 xs)
  | _ => stk
variable (Φ : Str → List Vv → M RV)
mutual
def ev : E → Env → M RV
  | .var i, env => slotR env i
  | .own i, env => slotR env i
  | .non, _ => ret (rd .none)
  | .bl b, _ => ret (rd (.bool b))
  | .int i, _ => ret (rd (.int i))
  | .str s, _ => ret (rd (.str s))
  | .glob _ i, _ => ret (rd (.int i))
  | .tup es, env => bnd (evs es env) fun rs => guard (fits rs.length) (bnd (keepAllD rs) fun xs => ret (rd (.tuple xs)))
  | .lst es, env => bnd (evs es env) fun rs => guard (fits rs.length) (bnd (keepAllD rs) fun xs => ret (.fr (.lst xs)))
  | .bin op a b, env => bnd (ev a env) fun r => bnd (ev b env) fun s => asD r fun x => asD s fun y => binD op x y
  | .neg a, env => bnd (ev a env) fun r => asD r negD
  | .not a, env => bnd (ev a env) fun r => bnd (truR r) fun b => ret (rd (.bool (!b)))
  | .and a b, env => bnd (ev a env) fun r => bnd (truR r) fun c => if c = true then ev b env else frzM r
  | .or a b, env => bnd (ev a env) fun r => bnd (truR r) fun c => if c = true then frzM r else ev b env
  | .cmp op a b, env => bnd (ev a env) fun r => bnd (ev b env) fun s => cmpR op r s
  | .chain o1 o2 a b c, env => bnd (ev a env) fun r => bnd (ev b env) fun s => bnd (cmpR o1 r s) fun q => bnd (boolR q) fun k =>
      if k = true then bnd (ev c env) fun u => cmpR o2 s u else ret (rd (.bool false))
  | .ifx c a b, env => bnd (ev c env) fun r => bnd (truR r) fun k => if k = true then ev a env else ev b env
  | .ix a b, env => bnd (ev a env) fun r => bnd (ev b env) fun s => ixR r s
  | .sl a lo hi, env => bnd (ev a env) fun r => bnd (evo lo env) fun i => bnd (evo hi env) fun j => asD r (cutM i j)
  | .slr a, env => bnd (ev a env) fun r => asD r revM
  | .isi a t, env => bnd (ev a env) fun r => isiR r t
  | .blt f es, env => bnd (evs es env) fun rs => bfM f rs
  | .rngl a, env => bnd (ev a env) fun r => asD r fun
    | .int n => guard (rangeOk 0 n) (ret (.fr (.lst (rangeL 0 n))))
    | _ => stk
  | .rngt a, env => bnd (ev a env) fun r => asD r fun
    | .int n => guard (rangeOk 0 n) (ret (rd (.tuple (rangeL 0 n))))
    | _ => stk
  | .call f es, env => bnd (evs es env) fun rs => bnd (keepAll rs) fun xs => Φ f xs
  | .mth m o es, env => bnd (ev o env) fun r => guard (mthTy m r) (bnd (evs es env) fun rs => mthM m r rs)
  | .lc elt tg it none ow, env => bnd (evi it env) fun p => guard (wipeOk env ow) (bnd (lcL (fun x => noX (bnd (asgM tg x (wipeE env ow)) fun env1 =>
      bnd (ev elt env1) fun r => bnd (keepD r) fun y => ret (some y))) p.1) fun ys => ret (.fr (.lst ys)))
  | .lc elt tg it (some c) ow, env => bnd (evi it env) fun p => guard (wipeOk env ow) (bnd (lcL (fun x => noX (bnd (asgM tg x (wipeE env ow)) fun env1 =>
      bnd (bnd (ev c env1) truR) fun b => if b = true then bnd (ev elt env1) fun r => bnd (keepD r) fun y => ret (some y) else ret none)) p.1) fun ys => ret (.fr (.lst ys)))
  | .bad, _ => stk
@[simp] def evs : List E → Env → M (List RV)
  | [], _ => ret []
  | e :: es, env => bnd (ev e env) fun r => bnd (evs es env) fun rs => ret (r :: rs)
@[simp] def evo : Option E → Env → M (Option Int)
  | none, _ => ret none
  | some e, env => bnd (ev e env) partM
def evi : I → Env → M (List D × Bool)
  | .seq e, env => bnd (ev e env) fun r => asD r fun x => bnd (seqD x) fun xs => ret (xs, isBo r)
  | .rng1 a, env => bnd (ev a env) fun r => asD r fun
    | .int n => guard (rangeOk 0 n) (ret (rangeL 0 n, false))
    | _ => stk
  | .rng2 a b, env => bnd (ev a env) fun r => bnd (ev b env) fun s => asD r fun x => asD s fun y => match x, y with
    | .int i, .int j => guard (rangeOk i j) (ret (rangeL i j, false))
    | _, _ => stk
  | .enum e, env => bnd (ev e env) fun r => asD r fun x => bnd (enumD x) fun xs => ret (xs, isBo r)
  | .zip a b, env => bnd (ev a env) fun r => bnd (ev b env) fun s => asD r fun x => asD s fun y => guard (!isBo r && !isBo s) (bnd (zipD x y) fun xs => ret (xs, false))
  | .zip3 a b c, env => bnd (ev a env) fun r => bnd (ev b env) fun s => bnd (ev c env) fun u => asD r fun x => asD s fun y => asD u fun z => guard (!isBo r && !isBo s && !isBo u) (bnd (seqD x) fun xs => bnd (seqD y) fun ys => bnd (seqD z) fun zs => ret (zip3L xs ys zs, false))
end
end Pv
/-! Pv2: statements. -/
namespace Pv
open PySem
inductive Fl where
  | nx (env : Env) | rt (r : RV) | xc (x : Str) (env : Env)
def cat {α : Type} (m : M α) (env : Env) (k : α → M Fl) : M Fl := fun t => match m t with
  | .ok a t' => k a t'
  | .exc x t' => .ok (.xc x env) t'
  | .stuck => .stuck
@[simp] theorem cat_ret {α : Type} (a : α) (env : Env) (k : α → M Fl) : cat (ret a) env k = k a := nr rfl
@[simp] theorem cat_raise {α : Type} (x : Str) (env : Env) (k : α → M Fl) : cat (raise x) env k = ret (.xc x env) := nr rfl
theorem cat_ite {α : Type} (c : Prop) [Decidable c] (a b : M α) (env : Env) (k : α → M Fl) : cat (if c then a else b) env k = if c then cat a env k else cat b env k := by
  split <;> rfl
/-- behind a statement -/
def seqF (m : M Fl) (k : Env → M Fl) : M Fl := bnd m fun
  | .nx env => k env
  | f => ret f
@[simp] theorem seqF_nx (env : Env) (k : Env → M Fl) : seqF (ret (.nx env)) k = k env := nr rfl
@[simp] theorem seqF_rt (r : RV) (k : Env → M Fl) : seqF (ret (.rt r)) k = ret (.rt r) := nr rfl
@[simp] theorem seqF_xc (x : Str) (env : Env) (k : Env → M Fl) : seqF (ret (.xc x env)) k = ret (.xc x env) := nr rfl
@[simp] theorem seqF_stk (k : Env → M Fl) : seqF stk k = stk := nr rfl
theorem seqF_ite (c : Prop) [Decidable c] (a b : M Fl) (k : Env → M Fl) : seqF (if c then a else b) k = if c then seqF a k else seqF b k := by
  split <;> rfl
/-- to be kept where the statement may freeze a slot -/
@[simp] def keepE (r : RV) (env : Env) : M (Vv × Env) := match r with
  | .v x => ret (x, env)
  | .fr (.lst xs) => ret (.d (.list xs), env)
  | .bo j (.lst xs) => ret (.d (.list xs), env.set j (.val (.d (.list xs))))
  | _ => stk
@[simp] def keepED (r : RV) (env : Env) : M (D × Env) := bnd (keepE r env) fun
  | (.d x, e) => ret (x, e)
  | _ => stk
@[simp] def setIt (i : Nat) (env : Env) (r : RV) : M Fl := bnd (keepE r env) fun p => ret (.nx (p.2.set i (.val p.1)))
@[simp] def setOwn (i : Nat) (env : Env) (r : RV) : M Fl := match r with
  | .fr o => ret (.nx (env.set i (.own o)))
  | _ => stk
@[simp] def ownL (env : Env) (i : Nat) (k : List D → M Fl) : M Fl := match env[i]? with
  | some (.own (.lst xs)) => k xs
  | _ => stk
@[simp] def augM (op : BOp) (a b : RV) : M Vv := match op, a, b with
  | .add, .v (.d (.int i)), .v (.d (.int j)) => ret (.d (.int (i + j)))
  | _, _, _ => stk
/-- xs[k] = e at a place -/
def setAt (xs : List D) (k : Int) (y : D) : M (List D) := match L2.ixN xs.length k with
  | some j => ret (xs.set j y)
  | none => stk
def getAt (xs : List D) (k : Int) : M D := match L2.atI xs k with
  | some x => ret x
  | none => stk
@[simp] def vvD (z : Vv) (k : D → M Fl) : M Fl := match z with
  | .d y => k y
  | _ => stk
def popAt (xs : List D) (k : Int) : M (D × List D) := match L2.ixN xs.length k with
  | some j => match xs[j]? with
    | some y => guard (decide (-(2 ^ 63) ≤ k ∧ k < 2 ^ 63)) (ret (y, xs.eraseIdx j))
    | none => stk
  | none => stk
def popEnd (xs : List D) : M (D × List D) := match xs[xs.length - 1]? with
  | some y => ret (y, xs.dropLast)
  | none => stk
@[simp] def intR (r : RV) (k : Int → M Fl) : M Fl := match r with
  | .v (.d (.int i)) => k i
  | _ => stk
@[simp] def parSet : List (Nat × Bool) → List RV → Env → Option Env
  | [], [], env => some env
  | (i, o) :: is, r :: rs, env => match o, r with
    | false, .v x => parSet is rs (env.set i (.val x))
    | false, .fr (.lst xs) => parSet is rs (env.set i (.val (.d (.list xs))))
    | _, _ => none
  | _, _, _ => none
@[simp] def litSet : List (Nat × Option Int) → Env → Env
  | [], env => env
  | (i, none) :: l, env => litSet l (env.set i (.own (.lst [])))
  | (i, some n) :: l, env => litSet l (env.set i (.val (.d (.int n))))
def forL (f : D → Env → M Fl) : List D → Env → M Fl
  | [], env => ret (.nx env)
  | x :: xs, env => seqF (f x env) (forL f xs)
@[simp] theorem forL_nil (f : D → Env → M Fl) (env : Env) : forL f [] env = ret (.nx env) := nr rfl
theorem forL_cons (f : D → Env → M Fl) (x : D) (xs : List D) (env : Env) : forL f (x :: xs) env = seqF (f x env) (forL f xs) := rfl
def whileF (c : Env → M Bool) (f : Env → M Fl) : Nat → Env → M Fl
  | 0, _ => stk
  | n + 1, env => cat (c env) env fun b => if b = true then seqF (f env) (whileF c f n) else ret (.nx env)
def FUEL : Nat := 100000
def catchH (hs : List (Str × Nat × Str)) (is : Str → Str → Bool) (x : Str) (env : Env) : Fl := match hs.find? fun h => is x h.1 with
  | some h => .nx (env.set h.2.1 (.val (.d (.str h.2.2))))
  | none => .xc x env
def tryM (m : M Fl) (hs : List (Str × Nat × Str)) (is : Str → Str → Bool) : M Fl := bnd m fun
  | .xc x env => guard (is x x) (ret (catchH hs is x env))
  | f => ret f
@[simp] theorem tryM_nx (env : Env) (hs : List (Str × Nat × Str)) (is : Str → Str → Bool) : tryM (ret (.nx env)) hs is = ret (.nx env) := nr rfl
@[simp] theorem tryM_rt (r : RV) (hs : List (Str × Nat × Str)) (is : Str → Str → Bool) : tryM (ret (.rt r)) hs is = ret (.rt r) := nr rfl
@[simp] theorem tryM_xc (x : Str) (env : Env) (hs : List (Str × Nat × Str)) (is : Str → Str → Bool) : tryM (ret (.xc x env)) hs is = guard (is x x) (ret (catchH hs is x env)) := nr rfl

variable (Φ : Str → List Vv → M RV) (is : Str → Str → Bool)
mutual
def ex : S → Env → M Fl
  | .set i e, env => cat (ev Φ e env) env (setIt i env)
  | .setO i e, env => cat (ev Φ e env) env (setOwn i env)
  | .par l es, env => cat (evs Φ es env) env fun rs => match parSet l rs env with
    | some env' => ret (.nx env')
    | none => stk
  | .parL l, env => ret (.nx (litSet l env))
  | .unp tg e, env => cat (ev Φ e env) env fun r => asD r fun x => bnd (asgM tg x env) fun env' => ret (.nx env')
  | .setIx i k e, env => cat (ev Φ e env) env fun r => ownL env i fun xs => cat (ev Φ k env) env fun q => intR q fun j => bnd (keepD r) fun y => bnd (setAt xs j y) fun ys => ret (.nx (env.set i (.own (.lst ys))))
  | .augIx i k e, env => ownL env i fun _ => cat (ev Φ k env) env fun q => intR q fun j => ownL env i fun xs => bnd (getAt xs j) fun x => cat (ev Φ e env) env fun r => bnd (augM .add (.v (.d x)) r) fun z => vvD z fun y => ownL env i fun ys => bnd (setAt ys j y) fun zs => ret (.nx (env.set i (.own (.lst zs))))
  | .aug i op e, env => bnd (slotR env i) fun q => cat (ev Φ e env) env fun r => bnd (augM op q r) fun z => ret (.nx (env.set i (.val z)))
  | .exp e, env => cat (ev Φ e env) env fun _ => ret (.nx env)
  | .app i e, env => ownL env i fun _ => cat (ev Φ e env) env fun r => bnd (keepED r env) fun p => ownL p.2 i fun xs => guard (fits (xs.length + 1)) (ret (.nx (p.2.set i (.own (.lst (xs ++ [p.1]))))))
  | .ext i e, env => ownL env i fun xs => cat (ev Φ e env) env fun r => asD r fun
    | .list ys => guard (fits (xs.length + ys.length)) (ret (.nx (env.set i (.own (.lst (xs ++ ys))))))
    | _ => stk
  | .ins i k e, env => ownL env i fun _ => cat (ev Φ k env) env fun q => intR q fun n => cat (ev Φ e env) env fun r => bnd (keepED r env) fun p => ownL p.2 i fun xs => guard (decide (0 ≤ n ∧ n < 2 ^ 63) && fits (xs.length + 1)) (ret (.nx (p.2.set i (.own (.lst (xs.take n.toNat ++ [p.1] ++ xs.drop n.toNat))))))
  | .clr i, env => stk
  | .appPop i j k, env => ownL env i fun _ => ownL env j fun ys => cat (ev Φ k env) env fun q => intR q fun n => bnd (popAt ys n) fun p => ownL (env.set j (.own (.lst p.2))) i fun xs =>
      guard (fits (xs.length + 1)) (ret (.nx ((env.set j (.own (.lst p.2))).set i (.own (.lst (xs ++ [p.1]))))))
  | .pop tg i none, env => ownL env i fun xs => bnd (popEnd xs) fun p => bnd (asgM tg p.1 (env.set i (.own (.lst p.2)))) fun env' => ret (.nx env')
  | .pop tg i (some k), env => ownL env i fun xs => cat (ev Φ k env) env fun q => intR q fun n => bnd (popAt xs n) fun p => bnd (asgM tg p.1 (env.set i (.own (.lst p.2)))) fun env' => ret (.nx env')
  | .ife c a b, env => cat (bnd (ev Φ c env) truR) env fun k => if k = true then exB a env else exB b env
  | .whl c b, env => whileF (fun env => bnd (ev Φ c env) truR) (fun env => exB b env) FUEL env
  | .for_ tg it b, env => cat (evi Φ it env) env fun p => guard (!p.2) (forL (fun x env => bnd (asgM tg x env) fun env' => exB b env') p.1 env)
  | .ret e, env => cat (ev Φ e env) env fun r => ret (.rt (match r with
    | .bo _ o => .fr o
    | r => r))
  | .retN, _ => ret (.rt (rd .none))
  | .rai x, env => ret (.xc x env)
  | .tryS b hs, env => tryM (exB b env) hs is
  | .frz i s, env => match env[i]? with
    | some (.own (.lst xs)) => ex s (env.set i (.val (.d (.list xs))))
    | _ => stk
  | .bad, _ => stk
def exB : List S → Env → M Fl
  | [], env => ret (.nx env)
  | s :: ss, env => seqF (ex s env) (exB ss)
end
/-- a def's answer -/
@[simp] def runB (n : Nat) (b : List S) (args : List Vv) : M RV := bnd (noX (exB Φ is b (args.map .val ++ List.replicate n .non))) fun
  | .nx _ => ret (rd .none)
  | .rt r => ret r
  | .xc x _ => raise x
end Pv
/-! Pv3: from the model's syntax to the code. -/
namespace Pv
open PySem
structure SC where
  N : List Str
  sc : Scope
  ow : List Nat
structure GS where
  cns : List (Str × Int)
  fns : List Str
  exc : List Str
def idx (x : Str) : List Str → Option Nat
  | [] => none
  | y :: ys => if y = x then some 0 else (idx x ys).map (· + 1)
def visB (sc : Scope) (x : Str) : Bool := (decide (sc.names.lookup x = some .local) || decide (sc.names.lookup x = some .cell) || decide (sc.names.lookup x = some .free)) && !(x == "__debug__") && !(x == "__classdict__")
def locB (sc : Scope) (x : Str) : Bool := decide (sc.names.lookup x = some .local) || decide (sc.names.lookup x = some .cell)
def glB (sc : Scope) (x : Str) : Bool := decide (sc.names.lookup x = some .globalImplicit) && !(x == "__debug__")
def bop : Operator → Option BOp
  | .Add => some .add | .Sub => some .sub | .Mult => some .mul | .FloorDiv => some .fdiv | .Mod => some .mod | .Pow => some .pow
  | _ => none
def cop : CmpOp → Option COp
  | .Eq => some .eq | .NotEq => some .ne | .Lt => some .lt | .LtE => some .le | .Gt => some .gt | .GtE => some .ge
  | .Is => some .is_ | .IsNot => some .isnot | .In => some .in_ | .NotIn => some .notin
def isSetE : Expr → Bool
  | .Set .. => true
  | _ => false
def isStarE : Expr → Bool
  | .Starred .. => true
  | _ => false
def isSliceE : Expr → Bool
  | .Slice .. => true
  | _ => false
def isIfE : Expr → Bool
  | .IfExp .. => true
  | _ => false
def isCompE : Expr → Bool
  | .ListComp .. => true
  | .SetComp .. => true
  | .DictComp .. => true
  | _ => false
def bfOf (x : Str) (n : Nat) : Option BF :=
  if x = "len" ∧ n = 1 then some .len else if x = "abs" ∧ n = 1 then some .abs else if x = "sum" ∧ n = 1 then some .sum
  else if x = "max" ∧ n = 1 then some .max1 else if x = "min" ∧ n = 1 then some .min1 else if x = "min" ∧ n = 2 then some .min2 else if x = "max" ∧ n = 2 then some .max2
  else if x = "min" ∧ n = 3 then some .min3 else if x = "tuple" ∧ n = 1 then some .tuple else if x = "list" ∧ n = 1 then some .list
  else if x = "int" ∧ n = 1 then some .int else if x = "sorted" ∧ n = 1 then some .sorted else none
def tyOf (x : Str) : Option Ty :=
  if x = "int" then some .int else if x = "bool" then some .bool else if x = "tuple" then some .tuple else if x = "list" then some .list else if x = "str" then some .str else none
def mfOf (x : Str) (n : Nat) : Option MF := if x = "count" ∧ n = 1 then some .count else none
mutual
/-- a target's names -/
def tgN : Expr → List Str
  | .Name x _ => [x]
  | .Tuple es _ _ => tgNs es
  | _ => []
def tgNs : List Expr → List Str
  | [] => []
  | e :: es => tgN e ++ tgNs es
end
mutual
/-- a target -/
def compT (S : SC) : Expr → Option T
  | .Name x _ => if locB S.sc x = true then (idx x S.N).map .nm else none
  | .Tuple es _ _ => (compTs S es).map .tp
  | _ => none
def compTs (S : SC) : List Expr → Option (List T)
  | [] => some []
  | e :: es => match isStarE e, compT S e, compTs S es with
    | false, some t, some ts => some (t :: ts)
    | _, _, _ => none
end
def ownL? (N : List Str) : List Str → Option (List (Str × Nat))
  | [] => some []
  | x :: xs => match idx x N, ownL? N xs with
    | some i, some r => some ((x, i) :: r)
    | _, _ => none
def isTupE : Expr → Bool
  | .Tuple .. => true
  | _ => false
def needsTup : I → Bool
  | .enum _ => true
  | .zip _ _ => true
  | .zip3 _ _ _ => true
  | _ => false
/-- the block's static part -/
def SC.blk (S : SC) (scope : Scope) : SC := { S with sc := L2.relS scope S.sc }
variable (G : GS)
mutual
def compE (S : SC) : Nat → Expr → Option E
  | 0, _ => none
  | n + 1, e => match e with
    | .Constant .none _ _ => some .non
    | .Constant (.bool b) _ _ => some (.bl b)
    | .Constant (.int i) _ _ => some (.int i)
    | .Constant (.str s) _ _ => some (.str s)
    | .Name x _ => if visB S.sc x = true then (idx x S.N).map fun i => if S.ow.contains i = true then .own i else .var i
        else if glB S.sc x = true then (G.cns.lookup x).map (.glob x) else none
    | .Tuple es _ _ => (compEs S n es).map .tup
    | .List es _ => (compEs S n es).map .lst
    | .BinOp a op b _ => match bop op, compE S n a, compE S n b with
      | some o, some x, some y => some (.bin o x y)
      | _, _, _ => none
    | .UnaryOp .USub a _ => (compE S n a).map .neg
    | .UnaryOp .Not a _ => if isIfE a = true then none else (compE S n a).map .not
    | .BoolOp op vs _ => compB S n op vs
    | .Compare a [op] [b] _ => match cop op, compE S n a, compE S n b, isSetE b with
      | some o, some x, some y, false => some (.cmp o x y)
      | _, _, _, _ => none
    | .Compare a [op, op'] [b, c] _ => match cop op, cop op', compE S n a, compE S n b, compE S n c, isSetE c with
      | some o, some o', some x, some y, some z, false => some (.chain o o' x y z)
      | _, _, _, _, _, _ => none
    | .IfExp c a b _ => match isIfE c, compE S n c with
      | false, some z => some (.ifx z ((compE S n a).getD .bad) ((compE S n b).getD .bad))
      | _, _ => none
    | .Subscript a (.Slice none none (some (.UnaryOp .USub (.Constant (.int 1) _ _) _)) _) _ => (compE S n a).map .slr
    | .Subscript a (.Slice lo hi none _) _ => match compE S n a, compO S n lo, compO S n hi with
      | some x, some l, some h => some (.sl x l h)
      | _, _, _ => none
    | .Subscript a b _ => match isSliceE b, compE S n a, compE S n b with
      | false, some x, some y => some (.ix x y)
      | _, _, _ => none
    | .Call (.Name x _) args [] _ => if glB S.sc x = true then compC S n x args else none
    | .Call (.Attribute (.Name o opos) m apos) args [] cpos => if (apos.endLine == cpos.line) = true ∧ m = "count" then (match compE S n (.Name o opos), args with
      | some x, [a] => if isStarE a = true then none else (compE S n a).map fun y => .mth .count x [y]
      | _, _ => none) else none
    | .ListComp elt [⟨tg, it, ifs, 0⟩] scope _ => match ownL? S.N (tgN tg) with
      | some own => if (L2.blkC S.N S.sc scope own && (tgN tg).all (locB scope)) = true then (match compT (S.blk scope) tg, compI S n it, compE (S.blk scope) n elt with
        | some t, some i, some x => if (needsTup i && !isTupE tg) = true then none else (match ifs with
          | [] => some (.lc x t i none (own.map (·.2)))
          | [c] => if isIfE c = true then none else (compE (S.blk scope) n c).map fun y => .lc x t i (some y) (own.map (·.2))
          | _ => none)
        | _, _, _ => none) else none
      | none => none
    | _ => none
def compEs (S : SC) : Nat → List Expr → Option (List E)
  | 0, _ => none
  | _ + 1, [] => some []
  | n + 1, e :: es => match isStarE e, compE S n e, compEs S n es with
    | false, some x, some xs => some (x :: xs)
    | _, _, _ => none
def compO (S : SC) : Nat → Option Expr → Option (Option E)
  | 0, _ => none
  | _ + 1, none => some none
  | n + 1, some e => (compE S n e).map some
def compB (S : SC) : Nat → BoolOp → List Expr → Option E
  | 0, _, _ => none
  | _ + 1, _, [] => none
  | n + 1, _, [e] => if isIfE e = true then none else compE S n e
  | n + 1, op, e :: e' :: es => match op, isIfE e, compE S n e, compB S n op (e' :: es) with
    | .And, false, some x, some y => some (.and x y)
    | .Or, false, some x, some y => some (.or x y)
    | _, _, _, _ => none
/-- f(args), f a global or built-in name -/
def compC (S : SC) : Nat → Str → List Expr → Option E
  | 0, _, _ => none
  | n + 1, x, args => if G.fns.contains x = true then (if args.isEmpty = true then none else (compEs S n args).map (.call x)) else match args with
    | [.Call (.Name y _) [a] [] _] =>
      if glB S.sc y = true ∧ isStarE a = false ∧ x = "len" ∧ y = "set" then (compE S n a).map fun z => .blt .lenSet [z]
      else if glB S.sc y = true ∧ isStarE a = false ∧ x = "sorted" ∧ y = "set" then (compE S n a).map fun z => .blt .sortedSet [z]
      else if glB S.sc y = true ∧ isStarE a = false ∧ x = "list" ∧ y = "range" then (compE S n a).map .rngl
      else if glB S.sc y = true ∧ isStarE a = false ∧ x = "tuple" ∧ y = "range" then (compE S n a).map .rngt
      else match bfOf x 1, compEs S n args with
        | some f, some ys => some (.blt f ys)
        | _, _ => none
    | [a, .Name t _] => if x = "isinstance" ∧ glB S.sc t = true then (match tyOf t, isStarE a, compE S n a with
        | some ty, false, some z => some (.isi z ty)
        | _, _, _ => none) else (match bfOf x args.length, compEs S n args with
        | some f, some ys => some (.blt f ys)
        | _, _ => none)
    | args => match bfOf x args.length, compEs S n args with
      | some f, some ys => some (.blt f ys)
      | _, _ => none
def compI (S : SC) : Nat → Expr → Option I
  | 0, _ => none
  | n + 1, e => match e with
    | .Call (.Name x _) args [] _ =>
      if glB S.sc x = true ∧ x = "range" then (match args with
        | [a] => if isStarE a = true then none else (compE S n a).map .rng1
        | [a, b] => match isStarE a, isStarE b, compE S n a, compE S n b with
          | false, false, some y, some z => some (.rng2 y z)
          | _, _, _, _ => none
        | _ => none)
      else if glB S.sc x = true ∧ x = "enumerate" then (match args with
        | [a] => if isStarE a = true then none else (compE S n a).map .enum
        | _ => none)
      else if glB S.sc x = true ∧ x = "zip" then (match args with
        | [a, b] => match isStarE a, isStarE b, compE S n a, compE S n b with
          | false, false, some y, some z => some (.zip y z)
          | _, _, _, _ => none
        | [a, b, c] => match isStarE a, isStarE b, isStarE c, compE S n a, compE S n b, compE S n c with
          | false, false, false, some x, some y, some z => some (.zip3 x y z)
          | _, _, _, _, _, _ => none
        | _ => none)
      else (compE S n e).map .seq
    | .Set .. => none
    | e => (compE S n e).map .seq
end
end Pv
/-! Pv4: statements of the model's syntax to the code. -/
namespace Pv
open PySem
/-- plain names of one line, locals -/
def parNames (sc : Scope) (line : Nat) : List Expr → Option (List Str)
  | [] => some []
  | .Name x p :: es => if sc.names.lookup x = some .local ∧ (p.line == line) = true then (parNames sc line es).map (x :: ·) else none
  | _ :: _ => none
/-- the names that a, b = x, y stores from the right -/
def swOf (sc : Scope) (ts vs : List Expr) : Option (List Str) :=
  if (!(ts.length == 2 || ts.length == 3) || vs.length != ts.length) = true then none else
  match parNames sc ((ts.head?.map (·.pos.line)).getD 0) ts with
  | some ns => if ns.eraseDups.length != ns.length then none else if vs.all (foldedForSure 8) = true then none else if vs.all (constantsAlone 8) = true then none else some ns
  | none => none
/-- the general way is sure -/
def noSw (sc : Scope) (ts vs : List Expr) : Bool :=
  if (!(ts.length == 2 || ts.length == 3) || vs.length != ts.length) = true then true else
  match parNames sc ((ts.head?.map (·.pos.line)).getD 0) ts with
  | some ns => (ns.eraseDups.length != ns.length) || vs.all (foldedForSure 8)
  | none => true
def litE : Expr → Option (Option Int)
  | .List [] _ => some none
  | .Constant (.int n) _ _ => some (some n)
  | _ => none
def litEs : List Expr → Option (List (Option Int))
  | [] => some []
  | e :: es => match litE e, litEs es with
    | some o, some os => some (o :: os)
    | _, _ => none
/-- own slots get [], the others ints -/
def litOk : List (Nat × Bool) → List (Option Int) → Bool
  | [], [] => true
  | (_, b) :: is, o :: os => (b == o.isNone) && litOk is os
  | _, _ => false
def idxs (N : List Str) (ow : List Nat) : List Str → Option (List (Nat × Bool))
  | [] => some []
  | x :: xs => match idx x N, idxs N ow xs with
    | some i, some r => some ((i, ow.contains i) :: r)
    | _, _ => none
def ownV (S : SC) (x : Str) : Option Nat := if visB S.sc x = true then (match idx x S.N with
  | some i => if S.ow.contains i = true then some i else none
  | none => none) else none
/-- y.pop(), y.pop(k) of an owned list -/
def popOf (S : SC) : Expr → Option (Nat × Option Expr)
  | .Call (.Attribute (.Name y _) m apos) [] [] cpos => if m = "pop" ∧ (apos.endLine == cpos.line) = true then (ownV S y).map fun j => (j, none) else none
  | .Call (.Attribute (.Name y _) m apos) [k] [] cpos => if m = "pop" ∧ (apos.endLine == cpos.line) = true ∧ isStarE k = false then (ownV S y).map fun j => (j, some k) else none
  | _ => none
def hdOf (S : SC) (exc : List Str) : List ExceptHandler → Option (List (Str × Nat × Str))
  | [] => some []
  | .ExceptHandler (some (.Name x _)) none [.Assign [.Name y _] (.Constant (.str z) _ _) _] _ :: hs =>
    if glB S.sc x = true ∧ exc.contains x = true ∧ locB S.sc y = true then (match idx y S.N, hdOf S exc hs with
      | some i, some r => if S.ow.contains i = true then none else some ((x, i, z) :: r)
      | _, _ => none) else none
  | _ :: _ => none
/-- one line alone: y = [..] -/
def lcLine (y : Str) (py : Pos) (sc : Scope) : Expr → Bool
  | .ListComp _ _ scope pos => decide (sc.names.lookup y = some .local) && (py.line == pos.line) && !(scope.names.any fun (n, k) => n == y && (k == .local || k == .cell))
  | _ => false
/-- .. is sure not to be it -/
def lcFar (y : Str) (py : Pos) (sc : Scope) : Expr → Bool
  | .ListComp _ _ scope pos => !decide (sc.names.lookup y = some .local) || !(py.line == pos.line) || (scope.names.any fun (n, k) => n == y && (k == .local || k == .cell))
  | .SetComp .. => false
  | .DictComp .. => false
  | _ => true
/-- slots of our own that a test's displays show: they are frozen ahead of it -/
def elO : E → List Nat
  | .lst es => es.filterMap fun
    | .own i => some i
    | _ => none
  | .tup es => es.filterMap fun
    | .own i => some i
    | _ => none
  | _ => []
def dispO : E → List Nat
  | .cmp _ a b => elO a ++ elO b
  | .or a b => dispO a ++ dispO b
  | .and a b => dispO a ++ dispO b
  | _ => []
def frzs : List Nat → Pv.S → Pv.S
  | [], s => s
  | i :: is, s => .frz i (frzs is s)
variable (G : GS)
mutual
def compS (S : SC) : Nat → Stmt → Option Pv.S
  | 0, _ => none
  | n + 1, st => match st with
    | .Assign [.Name x px] e _ =>
      if locB S.sc x = true ∧ (lcFar x px S.sc e || lcLine x px S.sc e) = true then (match idx x S.N, popOf S e with
        | some i, some (j, none) => if S.ow.contains i = true then none else some (.pop (.nm i) j none)
        | some i, some (j, some k) => if S.ow.contains i = true then none else (compE G S n k).map fun z => .pop (.nm i) j (some z)
        | some i, none => (compE G S n e).map fun z => if S.ow.contains i = true then .setO i z else .set i z
        | none, _ => none) else none
    | .Assign [.Tuple ts k p] (.Tuple vs k2 p2) _ =>
      match swOf S.sc ts vs with
      | some ns => (match idxs S.N S.ow ns, compEs G S n vs with
        | some is, some es => if (is.all (fun p => !p.2) && decide (is.map (·.1)).Nodup) = true then some (.par is es) else (match litEs vs with
          | some os => if (litOk is os && decide (is.map (·.1)).Nodup) = true then some (.parL ((is.map (·.1)).zip os)) else none
          | none => none)
        | _, _ => none)
      | none => if noSw S.sc ts vs = true then (match compT S (.Tuple ts k p), compE G S n (.Tuple vs k2 p2) with
        | some t, some z => some (.unp t z)
        | _, _ => none) else none
    | .Assign [.Tuple ts k p] e _ => if isCompE e = true then none else match compT S (.Tuple ts k p), popOf S e with
      | some t, some (j, none) => some (.pop t j none)
      | some t, some (j, some a) => (compE G S n a).map fun z => .pop t j (some z)
      | some t, none => (compE G S n e).map fun z => .unp t z
      | none, _ => none
    | .Assign [.Subscript (.Name x _) k _] e _ => if isCompE e = true ∨ isSliceE k = true then none else match ownV S x, compE G S n k, compE G S n e with
      | some i, some y, some z => some (.setIx i y z)
      | _, _, _ => none
    | .AugAssign (.Name x _) .Add e _ => if locB S.sc x = true ∧ visB S.sc x = true then (match idx x S.N, compE G S n e with
      | some i, some z => if S.ow.contains i = true then none else some (.aug i .add z)
      | _, _ => none) else none
    | .AugAssign (.Subscript (.Name x _) k _) .Add e _ => if isSliceE k = true then none else match ownV S x, compE G S n k, compE G S n e with
      | some i, some y, some z => some (.augIx i y z)
      | _, _, _ => none
    | .Expr (.Call (.Attribute (.Name x _) m apos) args [] cpos) pos => match ownV S x with
      | some i => if (apos.endLine == cpos.line) = true then (match args with
        | [.Call (.Attribute (.Name y _) m2 apos2) [k] [] cpos2] => if m = "append" ∧ m2 = "pop" ∧ (ownV S y).isSome = true then (match ownV S y with
            | some j => if (apos2.endLine == cpos2.line) = true ∧ isStarE k = false ∧ i ≠ j then (compE G S n k).map fun z => .appPop i j z else none
            | none => none) else none
        | [a] => if isStarE a = true then none else if m = "append" then (compE G S n a).map (.app i) else if m = "extend" then (compE G S n a).map (.ext i) else none
        | [k, a] => if m = "insert" ∧ isStarE k = false ∧ isStarE a = false then (match compE G S n k, compE G S n a with
          | some y, some z => some (.ins i y z)
          | _, _ => none) else none
        | _ => none) else none
      | none => none
    | .Expr e _ => if isCompE e = true then none else (compE G S n e).map .exp
    | .If c a b _ => match isIfE c, compE G S n c, compB' S n a, compB' S n b with
      | false, some z, some x, some y => some (frzs (dispO z) (.ife z x y))
      | _, _, _, _ => none
    | .While c b [] _ => match isIfE c, compE G S n c, compB' S n b with
      | false, some z, some x => some (.whl z x)
      | _, _, _ => none
    | .For tg it b [] _ => match compT S tg, compI G S n it, compB' S n b with
      | some t, some i, some x => if (needsTup i && !isTupE tg) = true then none else some (.for_ t i x)
      | _, _, _ => none
    | .Return (some e) _ => (compE G S n e).map .ret
    | .Return none _ => some .retN
    | .Raise (some (.Call (.Name x _) [.Constant (.str _) _ _] [] _)) none _ => if glB S.sc x = true ∧ G.exc.contains x = true then some (.rai x) else none
    | .Try b hs [] [] _ => match compB' S n b, hdOf S G.exc hs with
      | some x, some l => if l.isEmpty = true then none else some (.tryS x l)
      | _, _ => none
    | _ => none
def compB' (S : SC) : Nat → List Stmt → Option (List Pv.S)
  | 0, _ => none
  | _ + 1, [] => some []
  | n + 1, s :: ss => match compB' S n ss with
    | some xs => some ((compS S n s).getD .bad :: xs)
    | none => none
end
end Pv
/-! Pv5: values and heaps; what a reading says of an evaluation. -/
namespace Pv
open PySem PySem.Spec PyProof.Rows L2

/-! ### data over a heap -/
mutual
inductive Rep (F : Hp) : V → D → Prop
  | non : Rep F .non .none
  | bl (b : Bool) : Rep F (.bl b) (.bool b)
  | int (i : Int) : Rep F (.int i) (.int i)
  | str (x : Str) : Rep F (.str x) (.str x)
  | lst {a : Addr} {xs : List V} {ds : List D} : F a = some (.lst xs) → Reps F xs ds → Rep F (.ref a) (.list ds)
  | tup {a : Addr} {xs : List V} {ds : List D} : F a = some (.tup xs) → Reps F xs ds → Rep F (.ref a) (.tuple ds)
inductive Reps (F : Hp) : List V → List D → Prop
  | nil : Reps F [] []
  | cons {v : V} {vs : List V} {d : D} {ds : List D} : Rep F v d → Reps F vs ds → Reps F (v :: vs) (d :: ds)
end
mutual
theorem Rep.mono {F F' : Hp} (s : Same F F') : ∀ {v : V} {d : D}, Rep F v d → Rep F' v d
  | _, _, .non => .non
  | _, _, .bl b => .bl b
  | _, _, .int i => .int i
  | _, _, .str x => .str x
  | _, _, .lst h r => .lst (s _ _ h) (Reps.mono s r)
  | _, _, .tup h r => .tup (s _ _ h) (Reps.mono s r)
theorem Reps.mono {F F' : Hp} (s : Same F F') : ∀ {vs : List V} {ds : List D}, Reps F vs ds → Reps F' vs ds
  | _, _, .nil => .nil
  | _, _, .cons h r => .cons (Rep.mono s h) (Reps.mono s r)
end
mutual
theorem Rep.dp {K : PySem.W.Frag} {F : Hp} : ∀ {v : V} {d : D}, Rep F v d → Dp K F v d
  | _, _, .non => .non
  | _, _, .bl b => .bl b
  | _, _, .int i => .int i
  | _, _, .str x => .str x
  | _, _, .lst h r => .lst (.of h) (Reps.dp r)
  | _, _, .tup h r => .tup (.of h) (Reps.dp r)
theorem Reps.dp {K : PySem.W.Frag} {F : Hp} : ∀ {vs : List V} {ds : List D}, Reps F vs ds → DpAll K F vs ds
  | _, _, .nil => .nil
  | _, _, .cons h r => .cons (Rep.dp h) (Reps.dp r)
end
theorem Reps.length {F : Hp} : ∀ {vs : List V} {ds : List D}, Reps F vs ds → vs.length = ds.length
  | _, _, .nil => rfl
  | _, _, .cons _ r => by rw [List.length_cons, List.length_cons, r.length]
theorem Reps.append {F : Hp} : ∀ {vs ws : List V} {ds es : List D}, Reps F vs ds → Reps F ws es → Reps F (vs ++ ws) (ds ++ es)
  | _, _, _, _, .nil, s => s
  | _, _, _, _, .cons h r, s => .cons h (r.append s)
theorem Reps.get {F : Hp} : ∀ {vs : List V} {ds : List D} {i : Nat} {d : D}, Reps F vs ds → ds[i]? = some d → ∃ v, vs[i]? = some v ∧ Rep F v d
  | _, _, _, _, .nil, e => by simp at e
  | _, _, 0, _, .cons h _, e => by simp at e; subst e; exact ⟨_, rfl, h⟩
  | _, _, i + 1, d, .cons _ r, e => by
    obtain ⟨v, h1, h2⟩ := Reps.get (i := i) (d := d) r (by simpa using e)
    exact ⟨v, by simpa using h1, h2⟩
theorem Reps.getV {F : Hp} : ∀ {vs : List V} {ds : List D} {i : Nat} {v : V}, Reps F vs ds → vs[i]? = some v → ∃ d, ds[i]? = some d ∧ Rep F v d
  | _, _, _, _, .nil, e => by simp at e
  | _, _, 0, _, .cons h _, e => by simp at e; subst e; exact ⟨_, rfl, h⟩
  | _, _, i + 1, d, .cons _ r, e => by
    obtain ⟨v, h1, h2⟩ := Reps.getV (i := i) (v := d) r (by simpa using e)
    exact ⟨v, by simpa using h1, h2⟩
theorem Reps.set {F : Hp} {v : V} {d : D} (h : Rep F v d) : ∀ {vs : List V} {ds : List D} (i : Nat), Reps F vs ds → Reps F (vs.set i v) (ds.set i d)
  | _, _, _, .nil => .nil
  | _, _, 0, .cons _ r => .cons h r
  | _, _, i + 1, .cons q r => .cons q (Reps.set h i r)
theorem Reps.take {F : Hp} : ∀ {vs : List V} {ds : List D} (n : Nat), Reps F vs ds → Reps F (vs.take n) (ds.take n)
  | _, _, 0, _ => .nil
  | _, _, _ + 1, .nil => .nil
  | _, _, n + 1, .cons h r => .cons h (Reps.take n r)
theorem Reps.drop {F : Hp} : ∀ {vs : List V} {ds : List D} (n : Nat), Reps F vs ds → Reps F (vs.drop n) (ds.drop n)
  | _, _, 0, r => r
  | _, _, _ + 1, .nil => .nil
  | _, _, n + 1, .cons _ r => Reps.drop n r
theorem Reps.eraseIdx {F : Hp} : ∀ {vs : List V} {ds : List D} (n : Nat), Reps F vs ds → Reps F (vs.eraseIdx n) (ds.eraseIdx n)
  | _, _, _, .nil => .nil
  | _, _, 0, .cons _ r => r
  | _, _, n + 1, .cons h r => .cons h (Reps.eraseIdx n r)
theorem Reps.reverse {F : Hp} {vs : List V} {ds : List D} (h : Reps F vs ds) : Reps F vs.reverse ds.reverse := by
  have : ∀ {vs : List V} {ds : List D}, Reps F vs ds → ∀ {ws : List V} {es : List D}, Reps F ws es → Reps F (vs.reverseAux ws) (ds.reverseAux es) := by
    intro vs ds h
    induction ds generalizing vs with
    | nil => cases h; intro ws es r; exact r
    | cons d ds ih =>
      cases h with
      | cons h1 h2 => intro ws es r; exact ih h2 (.cons h1 r)
  exact this h .nil
theorem Reps.rep {F : Hp} {vs : List V} {ds : List D} (h : Reps F vs ds) : ∀ k : Nat, Reps F (List.replicate k vs).flatten (List.replicate k ds).flatten
  | 0 => .nil
  | k + 1 => by
    rw [List.replicate_succ, List.replicate_succ, List.flatten_cons, List.flatten_cons]
    exact h.append (h.rep k)
theorem Reps.dropLast {F : Hp} {vs : List V} {ds : List D} (h : Reps F vs ds) : Reps F vs.dropLast ds.dropLast := by
  rw [List.dropLast_eq_take, List.dropLast_eq_take, h.length]
  exact h.take _
theorem Reps.ints {F : Hp} : ∀ {vs : List V} {ds : List D} {ns : List Int}, Reps F vs ds → intsOf ds = some ns → vs = ns.map V.int ∧ ds = ns.map .int
  | _, _, _, .nil, e => by cases e; exact ⟨rfl, rfl⟩
  | _, _, ns, .cons (d := d) (ds := ds) h r, e => by
    cases d with
    | int i =>
      cases h
      unfold intsOf at e
      cases q : intsOf ds with
      | none => rw [q] at e; cases e
      | some ms =>
        rw [q] at e
        cases e
        obtain ⟨h1, h2⟩ := r.ints q
        exact ⟨by rw [h1]; rfl, by rw [h2]; rfl⟩
    | _ => simp [intsOf] at e
theorem Reps.of_ints {F : Hp} : ∀ ns : List Int, Reps F (ns.map V.int) (ns.map .int)
  | [] => .nil
  | n :: ns => .cons (.int n) (.of_ints ns)
theorem atI_len {α β : Type} {xs : List α} {ys : List β} (h : xs.length = ys.length) {i : Int} {y : β} (e : atI ys i = some y) : ∃ j, ixN xs.length i = some j ∧ ys[j]? = some y := by
  unfold atI at e
  rw [h]
  cases q : ixN ys.length i with
  | none => rw [q] at e; cases e
  | some j => rw [q] at e; exact ⟨j, rfl, e⟩
theorem Reps.atI {F : Hp} {vs : List V} {ds : List D} {i : Int} {d : D} (h : Reps F vs ds) (e : L2.atI ds i = some d) : ∃ v, L2.atI vs i = some v ∧ Rep F v d := by
  obtain ⟨j, h1, h2⟩ := atI_len h.length e
  obtain ⟨v, h3, h4⟩ := h.get h2
  exact ⟨v, by unfold L2.atI; rw [h1]; exact h3, h4⟩
theorem Reps.cut {F : Hp} {vs : List V} {ds : List D} (h : Reps F vs ds) (lo hi : Option Int) : Reps F (cutV vs lo hi) (cutL ds lo hi) := by
  unfold cutV cutL
  rw [h.length]
  exact (h.drop _).take _

/-! ### hidden places -/
def hide (O : List Addr) (H : Hp) : Hp := fun a => if a ∈ O then none else H a
theorem hide_of {O : List Addr} {H : Hp} {a : Addr} {o : HO} (h : hide O H a = some o) : H a = some o ∧ a ∉ O := by
  unfold hide at h
  split at h
  · cases h
  · rename_i q; exact ⟨h, q⟩
theorem hide_mk {O : List Addr} {H : Hp} {a : Addr} {o : HO} (h : H a = some o) (n : a ∉ O) : hide O H a = some o := by
  unfold hide
  rw [if_neg n]
  exact h
theorem hide_same (O : List Addr) (H : Hp) : Same (hide O H) H := fun _ _ h => (hide_of h).1
theorem hide_sub {O O' : List Addr} {H : Hp} (h : ∀ a ∈ O', a ∈ O) : Same (hide O H) (hide O' H) := fun a o e => by
  obtain ⟨h1, h2⟩ := hide_of e
  exact hide_mk h1 fun q => h2 (h a q)

/-! ### slots -/
def oa : L2.St → Env → List Addr
  | some (.ref p) :: σ, .own _ :: env => p :: oa σ env
  | _ :: σ, _ :: env => oa σ env
  | _, _ => []
inductive RepD (F : Hp) : List (Key × V) → List (Key × D) → Prop
  | nil : RepD F [] []
  | cons {k : Key} {v : V} {d : D} {vs : List (Key × V)} {ds : List (Key × D)} : Rep F v d → RepD F vs ds → RepD F ((k, v) :: vs) ((k, d) :: ds)
theorem RepD.mono {F F' : Hp} (s : Same F F') : ∀ {vs : List (Key × V)} {ds : List (Key × D)}, RepD F vs ds → RepD F' vs ds
  | _, _, .nil => .nil
  | _, _, .cons h r => .cons (h.mono s) (r.mono s)
inductive RepT (F : Hp) : List (List Key × V) → List (List Key × D) → Prop
  | nil : RepT F [] []
  | cons {k : List Key} {v : V} {d : D} {vs : List (List Key × V)} {ds : List (List Key × D)} : Rep F v d → RepT F vs ds → RepT F ((k, v) :: vs) ((k, d) :: ds)
theorem RepT.mono {F F' : Hp} (s : Same F F') : ∀ {vs : List (List Key × V)} {ds : List (List Key × D)}, RepT F vs ds → RepT F' vs ds
  | _, _, .nil => .nil
  | _, _, .cons h r => .cons (h.mono s) (r.mono s)
def OvR (F H : Hp) (p : Addr) : OV → Prop
  | .lst xs => ∃ vs, H p = some (.lst vs) ∧ Reps F vs xs
  | .dk kvs => ∃ ws, H p = some (.dK ws) ∧ RepD F ws kvs
  | .dt kvs => ∃ ws, H p = some (.dT ws) ∧ RepT F ws kvs
theorem OvR.tracked {F H : Hp} {p : Addr} {o : OV} (h : OvR F H p o) : ∃ u, H p = some u := by
  cases o <;> obtain ⟨_, e, _⟩ := h <;> exact ⟨_, e⟩
theorem OvR.mono {F F' H H' : Hp} {p : Addr} {o : OV} (h : OvR F H p o) (s : Same F F') (e : H' p = H p) : OvR F' H' p o := by
  cases o with
  | lst xs => obtain ⟨vs, h1, h2⟩ := h; exact ⟨vs, e.trans h1, h2.mono s⟩
  | dk xs => obtain ⟨vs, h1, h2⟩ := h; exact ⟨vs, e.trans h1, h2.mono s⟩
  | dt xs => obtain ⟨vs, h1, h2⟩ := h; exact ⟨vs, e.trans h1, h2.mono s⟩
def VvR (K : PySem.W.Frag) (F : Hp) (v : V) : Vv → Prop
  | .d x => Rep F v x
  | .scr ns => ∃ a, v = .ref a ∧ SqL K F a (ns.map V.int)
  | .obj _ => False
  | .fn _ => False
theorem sqL_mono {K : PySem.W.Frag} {F F' : Hp} {a : Addr} {xs : List V} (s : Same F F') (h : SqL K F a xs) : SqL K F' a xs := by
  rcases h with (h | ⟨o, h⟩) | h
  · exact .inl (.inl (s _ _ h))
  · exact .inl (.inr ⟨o, s _ _ h⟩)
  · exact .inr h
theorem VvR.mono {K : PySem.W.Frag} {F F' : Hp} {v : V} {x : Vv} (s : Same F F') (h : VvR K F v x) : VvR K F' v x := by
  cases x with
  | d x => exact Rep.mono s h
  | scr ns => obtain ⟨a, e, q⟩ := h; exact ⟨a, e, sqL_mono s q⟩
  | obj _ => exact h
  | fn _ => exact h
def SlotR (K : PySem.W.Frag) (F H : Hp) (x : Option V) : Slot → Prop
  | .non => True
  | .val v => ∃ y, x = some y ∧ VvR K F y v
  | .own o => ∃ p, x = some (.ref p) ∧ OvR F H p o
/-- slot by slot -/
inductive SlotsR (K : PySem.W.Frag) (F H : Hp) : L2.St → Env → Prop
  | nil : SlotsR K F H [] []
  | cons {x : Option V} {s : Slot} {σ : L2.St} {env : Env} : SlotR K F H x s → SlotsR K F H σ env → SlotsR K F H (x :: σ) (s :: env)
section
variable {K : PySem.W.Frag} {F F' H H' : Hp} {σ : L2.St} {env : Env}
theorem SlotsR.length : ∀ {σ : L2.St} {env : Env}, SlotsR K F H σ env → σ.length = env.length
  | _, _, .nil => rfl
  | _, _, .cons _ r => by rw [List.length_cons, List.length_cons, r.length]
theorem SlotsR.get : ∀ {σ : L2.St} {env : Env} {i : Nat} {s : Slot}, SlotsR K F H σ env → env[i]? = some s → ∃ x, σ[i]? = some x ∧ SlotR K F H x s
  | _, _, _, _, .nil, e => by simp at e
  | _, _, 0, _, .cons h _, e => by simp at e; subst e; exact ⟨_, rfl, h⟩
  | _, _, i + 1, s, .cons _ r, e => by
    obtain ⟨v, h1, h2⟩ := SlotsR.get (i := i) (s := s) r (by simpa using e)
    exact ⟨v, by simpa using h1, h2⟩
theorem SlotsR.mono : ∀ {σ : L2.St} {env : Env}, SlotsR K F H σ env → Same F F' → (∀ p ∈ oa σ env, H' p = H p) → SlotsR K F' H' σ env
  | _, _, .nil, _, _ => .nil
  | _, _, .cons (x := x) (s := s) (σ := σ) (env := env) h r, sm, k => by
    cases s with
    | non => exact .cons trivial (r.mono sm fun p hp => k p (by cases x with | none => exact hp | some v => cases v <;> exact hp))
    | val v =>
      obtain ⟨y, e, q⟩ := h
      subst e
      exact .cons ⟨y, rfl, q.mono sm⟩ (r.mono sm fun p hp => k p (by cases y <;> exact hp))
    | own o =>
      obtain ⟨p, e, q⟩ := h
      subst e
      exact .cons ⟨p, rfl, q.mono sm (k p List.mem_cons_self)⟩ (r.mono sm fun p' hp => k p' (List.mem_cons_of_mem _ hp))
theorem SlotsR.own_tracked : ∀ {σ : L2.St} {env : Env}, SlotsR K F H σ env → ∀ p ∈ oa σ env, ∃ u, H p = some u
  | _, _, .nil, p, hp => by cases hp
  | _, _, .cons (x := x) (s := s) (σ := σ) (env := env) h r, p, hp => by
    cases s with
    | non => exact r.own_tracked p (by cases x with | none => exact hp | some v => cases v <;> exact hp)
    | val v => exact r.own_tracked p (by cases x with | none => exact hp | some v => cases v <;> exact hp)
    | own o =>
      obtain ⟨p', e, q⟩ := h
      subst e
      rcases List.mem_cons.mp hp with rfl | hp
      · exact q.tracked
      · exact r.own_tracked p hp
theorem oa_mem : ∀ {σ : L2.St} {env : Env} {i : Nat} {p : Addr} {o : OV}, σ[i]? = some (some (.ref p)) → env[i]? = some (.own o) → p ∈ oa σ env
  | [], _, _, _, _, h, _ => by simp at h
  | _ :: _, [], _, _, _, _, h => by simp at h
  | x :: σ, s :: env, 0, p, o, h1, h2 => by
    simp at h1 h2
    subst h1 h2
    exact List.mem_cons_self
  | x :: σ, s :: env, i + 1, p, o, h1, h2 => by
    have ih := oa_mem (σ := σ) (env := env) (i := i) (p := p) (o := o) (by simpa using h1) (by simpa using h2)
    cases s with
    | own o' => cases x with
      | none => exact ih
      | some v => cases v with
        | ref q => exact List.mem_cons_of_mem _ ih
        | _ => exact ih
    | _ => cases x with
      | none => exact ih
      | some v => cases v <;> exact ih
/-- the owned places when a slot is set: some of them, and perhaps a new one -/
theorem oa_set : ∀ (σ : L2.St) (env : Env) (i : Nat) (x : Option V) (s : Slot), ∀ q ∈ oa (σ.set i x) (env.set i s), q ∈ oa σ env ∨ (x = some (.ref q) ∧ ∃ o, s = .own o)
  | [], _, _, _, _, q, hq => by cases hq
  | _ :: _, [], i, x, s, q, hq => by cases i <;> (rw [List.set_nil] at hq; cases x <;> simp [oa] at hq)
  | y :: σ, u :: env, 0, x, s, q, hq => by
    simp only [List.set_cons_zero] at hq
    cases s with
    | own o => cases x with
      | none => exact .inl (by cases u <;> first | exact hq | (cases y with | none => exact hq | some v => cases v <;> first | exact hq | exact List.mem_cons_of_mem _ hq))
      | some v => cases v with
        | ref p =>
          rcases List.mem_cons.mp hq with rfl | hq
          · exact .inr ⟨rfl, o, rfl⟩
          · exact .inl (by cases u <;> first | exact hq | (cases y with | none => exact hq | some v => cases v <;> first | exact hq | exact List.mem_cons_of_mem _ hq))
        | _ => exact .inl (by cases u <;> first | exact hq | (cases y with | none => exact hq | some v => cases v <;> first | exact hq | exact List.mem_cons_of_mem _ hq))
    | _ => exact .inl (by
        have hq' : q ∈ oa σ env := by cases x with | none => exact hq | some v => cases v <;> exact hq
        cases u <;> first | exact hq' | (cases y with | none => exact hq' | some v => cases v <;> first | exact hq' | exact List.mem_cons_of_mem _ hq'))
  | y :: σ, u :: env, i + 1, x, s, q, hq => by
    simp only [List.set_cons_succ] at hq
    have ih := oa_set σ env i x s q
    cases u with
    | own o => cases y with
      | none => exact ih hq
      | some v => cases v with
        | ref p =>
          rcases List.mem_cons.mp hq with rfl | hq
          · exact .inl List.mem_cons_self
          · exact (ih hq).imp (List.mem_cons_of_mem _) id
        | _ => exact ih hq
    | _ => cases y with
      | none => exact ih hq
      | some v => cases v <;> exact ih hq
theorem oa_set_nodup : ∀ (σ : L2.St) (env : Env) (i : Nat) (x : Option V) (s : Slot), (oa σ env).Nodup → (∀ p o, x = some (.ref p) → s = .own o → p ∉ oa (σ.set i none) (env.set i .non)) → (oa (σ.set i x) (env.set i s)).Nodup
  | [], _, _, _, _, _, _ => List.nodup_nil
  | _ :: _, [], i, x, s, _, _ => by cases i <;> (rw [List.set_nil]; cases x <;> simp [oa])
  | y :: σ, u :: env, 0, x, s, hn, hp => by
    simp only [List.set_cons_zero] at hp ⊢
    have hn' : (oa σ env).Nodup := by
      cases u <;> first | exact hn | (cases y with | none => exact hn | some v => cases v <;> first | exact hn | exact (List.nodup_cons.mp hn).2)
    cases s with
    | own o => cases x with
      | none => exact hn'
      | some v => cases v with
        | ref p => exact List.nodup_cons.mpr ⟨hp p o rfl rfl, hn'⟩
        | _ => exact hn'
    | _ => cases x with
      | none => exact hn'
      | some v => cases v <;> exact hn'
  | y :: σ, u :: env, i + 1, x, s, hn, hp => by
    simp only [List.set_cons_succ] at hp ⊢
    cases u with
    | own o => cases y with
      | none => exact oa_set_nodup σ env i x s hn hp
      | some v => cases v with
        | ref p =>
          obtain ⟨h1, h2⟩ := List.nodup_cons.mp hn
          refine List.nodup_cons.mpr ⟨fun hq => ?_, oa_set_nodup σ env i x s h2 fun p' o' e1 e2 hm => hp p' o' e1 e2 (List.mem_cons_of_mem _ hm)⟩
          rcases oa_set σ env i x s p hq with z | ⟨z1, o', z2⟩
          · exact h1 z
          · exact hp p o' z1 z2 List.mem_cons_self
        | _ => exact oa_set_nodup σ env i x s hn hp
    | _ => cases y with
      | none => exact oa_set_nodup σ env i x s hn hp
      | some v => cases v <;> exact oa_set_nodup σ env i x s hn hp
/-- a slot freed: its own place is no longer among them -/
theorem oa_free : ∀ {σ : L2.St} {env : Env} {i : Nat} {p : Addr} {o : OV}, σ[i]? = some (some (.ref p)) → env[i]? = some (.own o) → (oa σ env).Nodup → p ∉ oa (σ.set i none) (env.set i .non)
  | [], _, _, _, _, h, _, _ => by simp at h
  | _ :: _, [], _, _, _, _, h, _ => by simp at h
  | x :: σ, s :: env, 0, p, o, h1, h2, hn => by
    simp at h1 h2
    subst h1 h2
    exact (List.nodup_cons.mp hn).1
  | x :: σ, s :: env, i + 1, p, o, h1, h2, hn => by
    have h1' : σ[i]? = some (some (.ref p)) := by simpa using h1
    have h2' : env[i]? = some (.own o) := by simpa using h2
    simp only [List.set_cons_succ]
    cases s with
    | own o' => cases x with
      | none => exact oa_free h1' h2' hn
      | some v => cases v with
        | ref q =>
          obtain ⟨n1, n2⟩ := List.nodup_cons.mp hn
          intro hm
          rcases List.mem_cons.mp hm with rfl | hm
          · exact n1 (oa_mem h1' h2')
          · exact oa_free h1' h2' n2 hm
        | _ => exact oa_free h1' h2' hn
    | _ => cases x with
      | none => exact oa_free h1' h2' hn
      | some v => cases v <;> exact oa_free h1' h2' hn
theorem oa_freeSub (σ : L2.St) (env : Env) (i : Nat) : ∀ q ∈ oa (σ.set i none) (env.set i .non), q ∈ oa σ env := fun q hq => (oa_set σ env i none .non q hq).elim id fun z => nomatch z.1
theorem SlotsR.set : ∀ {σ : L2.St} {env : Env} (i : Nat) {x : Option V} {s : Slot}, SlotsR K F H σ env → SlotR K F H x s → SlotsR K F H (σ.set i x) (env.set i s)
  | _, _, _, _, _, .nil, _ => .nil
  | _, _, 0, _, _, .cons _ r, h => .cons h r
  | _, _, i + 1, _, _, .cons q r, h => .cons q (r.set i h)
end

/-! ### the state -/
/-- other places that are hidden, and what stands there -/
abbrev Tp := List (Addr × HO)
abbrev ad (tp : Tp) : List Addr := tp.map (·.1)
structure Rl (K : PySem.W.Frag) (B : Hp) (σ : L2.St) (env : Env) (tp : Tp) (H : Hp) : Prop where
  le : Same B (hide (oa σ env ++ ad tp) H)
  sl : SlotsR K (hide (oa σ env ++ ad tp) H) H σ env
  nd : (oa σ env ++ ad tp).Nodup
  tk : ∀ q ∈ tp, H q.1 = some q.2
abbrev fz (σ : L2.St) (env : Env) (tp : Tp) (H : Hp) : Hp := hide (oa σ env ++ ad tp) H
section
variable {K : PySem.W.Frag} {B : Hp} {σ : L2.St} {env : Env} {tp : Tp} {H : Hp} {p : Addr} {o : HO}
theorem ad_tk (h : ∀ q ∈ tp, H q.1 = some q.2) {p : Addr} (hp : p ∈ ad tp) : ∃ u, (p, u) ∈ tp ∧ H p = some u := by
  obtain ⟨q, hq, rfl⟩ := List.mem_map.mp hp
  exact ⟨q.2, hq, h q hq⟩
theorem Rl.out (R : Rl K B σ env tp H) (h : H p = none) : p ∉ oa σ env ++ ad tp := fun hm => by
  have : ∃ u, H p = some u := (List.mem_append.mp hm).elim (R.sl.own_tracked p) fun z => let ⟨u, _, e⟩ := ad_tk R.tk z; ⟨u, e⟩
  obtain ⟨u, e⟩ := this
  rw [h] at e
  cases e
theorem fz_upd (h : H p = none) : Same (fz σ env tp H) (fz σ env tp (upd H p o)) := fun a u e => by
  obtain ⟨h1, h2⟩ := hide_of e
  exact hide_mk (by rw [upd_ne (ne_of_none h1 h)]; exact h1) h2
/-- a new frozen object -/
theorem Rl.alloc (R : Rl K B σ env tp H) (h : H p = none) : Rl K B σ env tp (upd H p o) where
  le := R.le.trans (fz_upd h)
  sl := R.sl.mono (fz_upd h) fun q hq => upd_ne fun e => R.out h (e ▸ List.mem_append_left _ hq)
  nd := R.nd
  tk := fun q hq => by rw [upd_ne (ne_of_none (R.tk q hq) h)]; exact R.tk q hq
theorem Rl.at_ (R : Rl K B σ env tp H) (h : H p = none) : fz σ env tp (upd H p o) p = some o := hide_mk upd_same (R.out h)
theorem mem_mid {q : Addr} {l : List Addr} {m : List Addr} : q ∈ l ++ p :: m ↔ q = p ∨ q ∈ l ++ m := by
  simp only [List.mem_append, List.mem_cons]
  constructor
  · rintro (h | h | h)
    · exact .inr (.inl h)
    · exact .inl h
    · exact .inr (.inr h)
  · rintro (h | h | h)
    · exact .inr (.inl h)
    · exact .inl h
    · exact .inr (.inr h)
/-- a new object of our own -/
theorem Rl.allocO (R : Rl K B σ env tp H) (h : H p = none) : Same (fz σ env tp H) (fz σ env ((p, o) :: tp) (upd H p o)) ∧ Rl K B σ env ((p, o) :: tp) (upd H p o) := by
  have s : Same (fz σ env tp H) (fz σ env ((p, o) :: tp) (upd H p o)) := fun a u e => by
    obtain ⟨h1, h2⟩ := hide_of e
    refine hide_mk (by rw [upd_ne (ne_of_none h1 h)]; exact h1) fun q => ?_
    rcases mem_mid.mp q with q | q
    · exact ne_of_none h1 h q
    · exact h2 q
  refine ⟨s, R.le.trans s, R.sl.mono s fun q hq => upd_ne fun e => R.out h (e ▸ List.mem_append_left _ hq), ?_, fun q hq => ?_⟩
  · have n := R.out h
    exact (List.perm_middle (l₁ := oa σ env) (a := p) (l₂ := ad tp)).nodup_iff.mpr (List.nodup_cons.mpr ⟨n, R.nd⟩)
  · rcases List.mem_cons.mp hq with rfl | hq
    · exact upd_same
    · rw [upd_ne (ne_of_none (R.tk q hq) h)]; exact R.tk q hq
/-- a pending object of ours is frozen -/
theorem Rl.freeze (R : Rl K B σ env ((p, o) :: tp) H) : Same (fz σ env ((p, o) :: tp) H) (fz σ env tp H) ∧ Rl K B σ env tp H ∧ p ∉ oa σ env ++ ad tp ∧ H p = some o := by
  have s : Same (fz σ env ((p, o) :: tp) H) (fz σ env tp H) := hide_sub fun a ha => mem_mid.mpr (.inr ha)
  have n := List.nodup_cons.mp ((List.perm_middle (l₁ := oa σ env) (a := p) (l₂ := ad tp)).nodup_iff.mp R.nd)
  exact ⟨s, ⟨R.le.trans s, R.sl.mono s fun _ _ => rfl, n.2, fun q hq => R.tk q (List.mem_cons_of_mem _ hq)⟩, n.1, R.tk (p, o) List.mem_cons_self⟩
theorem Rl.base (R : Rl K B σ env tp H) : Rl K (fz σ env tp H) σ env tp H := ⟨Same.refl _, R.sl, R.nd, R.tk⟩
theorem Rl.down {B' : Hp} (R : Rl K B σ env tp H) (s : Same B' B) : Rl K B' σ env tp H := ⟨s.trans R.le, R.sl, R.nd, R.tk⟩
/-- all that the frame hides, with what stands there: what a callee finds hidden -/
def hid (σ : L2.St) (env : Env) (tp : Tp) (H : Hp) : Tp := (oa σ env).filterMap (fun p => (H p).map fun o => (p, o)) ++ tp
theorem ad_filter {l : List Addr} {H : Hp} (h : ∀ p ∈ l, ∃ u, H p = some u) : ad (l.filterMap fun p => (H p).map fun o => (p, o)) = l := by
  induction l with
  | nil => rfl
  | cons p l ih =>
    obtain ⟨u, e⟩ := h p List.mem_cons_self
    simp only [ad, List.filterMap_cons, e, Option.map_some, List.map_cons]
    rw [show List.map (fun x => x.1) (l.filterMap fun p => (H p).map fun o => (p, o)) = l from ih fun q hq => h q (List.mem_cons_of_mem _ hq)]
theorem Rl.ad_hid (R : Rl K B σ env tp H) : ad (hid σ env tp H) = oa σ env ++ ad tp := by
  unfold hid
  rw [ad, List.map_append]
  exact congrArg (· ++ ad tp) (ad_filter R.sl.own_tracked)
theorem Rl.tk_hid (R : Rl K B σ env tp H) : ∀ q ∈ hid σ env tp H, H q.1 = some q.2 := fun q hq => by
  rcases List.mem_append.mp hq with h | h
  · obtain ⟨p, _, e⟩ := List.mem_filterMap.mp h
    cases z : H p with
    | none => rw [z] at e; cases e
    | some u => rw [z] at e; cases e; exact z
  · exact R.tk q h
/-- behind a callee: the hidden stays, the frozen stays -/
theorem Rl.after {H' : Hp} (R : Rl K B σ env tp H) (s : Same (fz σ env tp H) (fz σ env tp H')) (k : ∀ q ∈ hid σ env tp H, H' q.1 = some q.2) : Rl K B σ env tp H' where
  le := R.le.trans s
  sl := R.sl.mono s fun p hp => by
    obtain ⟨u, e⟩ := R.sl.own_tracked p hp
    rw [e]
    exact k (p, u) (List.mem_append_left _ (List.mem_filterMap.mpr ⟨p, hp, by rw [e]; rfl⟩))
  nd := R.nd
  tk := fun q hq => k q (List.mem_append_right _ hq)
end
end Pv
/-! Pv6: readings of evaluations; operators. -/
namespace Pv
open PySem PySem.Spec PyProof.Rows L2
section
variable {α β : Type} {m : M α} {f : α → M β} {t : Sto} {a : α} {ok ok' : α → Sto → Prop} {ex ex' : Str → Sto → Prop}
def wpm (m : M α) (t : Sto) (ok : α → Sto → Prop) (ex : Str → Sto → Prop) : Prop := match m t with
  | .ok a t' => ok a t'
  | .exc x t' => ex x t'
  | .stuck => False
theorem wpm_bnd {ok : β → Sto → Prop} : wpm (bnd m f) t ok ex = wpm m t (fun a t' => wpm (f a) t' ok ex) ex := by
  unfold wpm bnd
  cases m t <;> rfl
theorem wpm_mono (h : wpm m t ok ex) (ho : ∀ a t', ok a t' → ok' a t') (he : ∀ x t', ex x t' → ex' x t') : wpm m t ok' ex' := by
  unfold wpm at h ⊢
  cases q : m t with
  | ok a t' => rw [q] at h; exact ho _ _ h
  | exc x t' => rw [q] at h; exact he _ _ h
  | stuck => rw [q] at h; exact h
theorem wpm_guard {b : Bool} (h : wpm (guard b m) t ok ex) : b = true ∧ wpm m t ok ex := by
  cases b with
  | true => exact ⟨rfl, h⟩
  | false => exact h.elim
theorem wpm_ret (h : wpm (ret a) t ok ex) : ok a t := h
theorem wpm_asD {r : RV} {g : D → M α} (h : wpm (asD r g) t ok ex) : ∃ x, r.dat = some x ∧ wpm (g x) t ok ex := by
  unfold asD at h
  cases q : r.dat with
  | none => rw [q] at h; exact h.elim
  | some x => rw [q] at h; exact ⟨x, rfl, h⟩
end

/-- a value that is looked at: its own place may be hidden -/
def RdR (F H : Hp) (v : V) : D → Prop
  | .list xs => ∃ p vs, v = .ref p ∧ H p = some (.lst vs) ∧ Reps F vs xs
  | d => Rep F v d
/-- an operand -/
def OpdR (K : PySem.W.Frag) (σ : L2.St) (env : Env) (F : Hp) (v : V) : RV → Prop
  | .v x => VvR K F v x
  | .fr o => ∃ p, v = .ref p ∧ OvR F F p o
  | .bo i o => σ[i]? = some (some v) ∧ env[i]? = some (.own o)
/-- behind an expression -/
def PostE (K : PySem.W.Frag) (B : Hp) (σ : L2.St) (env : Env) (tp : Tp) (rv : RV) (v : V) (H : Hp) : Prop := match rv with
  | .v x => Rl K B σ env tp H ∧ VvR K (fz σ env tp H) v x
  | .fr o => ∃ p u, v = .ref p ∧ Rl K B σ env ((p, u) :: tp) H ∧ OvR (fz σ env ((p, u) :: tp) H) H p o
  | .bo i o => Rl K B σ env tp H ∧ σ[i]? = some (some v) ∧ env[i]? = some (.own o)
section
variable {K : PySem.W.Frag} {B F F' : Hp} {σ : L2.St} {env : Env} {tp : Tp} {H : Hp} {v : V} {r : RV} {d : D} {p : Addr}
theorem RdR.of (h : Rep F v d) (s : Same F H) : RdR F H v d := by
  cases d with
  | list xs => cases h with | lst h1 h2 => exact ⟨_, _, rfl, s _ _ h1, h2⟩
  | _ => exact h
theorem RdR.rep (h : RdR F H v d) (s : Same F H) : Rep H v d := by
  cases d with
  | list xs => obtain ⟨p, vs, rfl, h1, h2⟩ := h; exact .lst h1 (h2.mono s)
  | _ => exact Rep.mono s h
theorem OpdR.mono (s : Same F F') (h : OpdR K σ env F v r) : OpdR K σ env F' v r := by
  cases r with
  | v x => exact VvR.mono s h
  | fr o =>
    obtain ⟨p, e, q⟩ := h
    obtain ⟨u, hu⟩ := q.tracked
    exact ⟨p, e, q.mono s ((s _ _ hu).trans hu.symm)⟩
  | bo i o => exact h
theorem PostE.opd (h : PostE K B σ env tp r v H) : Rl K B σ env tp H ∧ OpdR K σ env (fz σ env tp H) v r := by
  cases r with
  | v x => exact h
  | fr o =>
    obtain ⟨p, u, e, R, q⟩ := h
    obtain ⟨s, R', n, hu⟩ := R.freeze
    exact ⟨R', p, e, q.mono s ((hide_mk hu n).trans hu.symm)⟩
  | bo i o => exact ⟨h.1, h.2⟩
theorem OpdR.rd (R : Rl K B σ env tp H) (h : OpdR K σ env (fz σ env tp H) v r) (e : r.dat = some d) : RdR (fz σ env tp H) H v d := by
  cases r with
  | v x => cases x with
    | d x => cases e; exact RdR.of h (hide_same _ _)
    | _ => cases e
  | fr o => cases o with
    | lst xs =>
      cases e
      obtain ⟨p, rfl, vs, h1, h2⟩ := h
      exact ⟨p, vs, rfl, (hide_of h1).1, h2⟩
    | _ => cases e
  | bo i o => cases o with
    | lst xs =>
      cases e
      obtain ⟨h1, h2⟩ := h
      obtain ⟨y, e1, q⟩ := R.sl.get h2
      obtain ⟨p, e2, vs, h3, h4⟩ := q
      rw [h1] at e1
      cases e1
      cases e2
      exact ⟨p, vs, rfl, h3, h4⟩
    | _ => cases e
theorem Same.fz : Same (fz σ env tp H) H := hide_same _ _
theorem post_d (R : Rl K B σ env tp H) (h : Rep (fz σ env tp H) v d) : PostE K B σ env tp (rd d) v H := ⟨R, h⟩
theorem post_tup (R : Rl K B σ env tp H) {vs : List V} {ds : List D} (n : H p = none) (h : Reps (fz σ env tp H) vs ds) : PostE K B σ env tp (rd (.tuple ds)) (.ref p) (upd H p (.tup vs)) :=
  ⟨R.alloc n, .tup (R.at_ n) (h.mono (fz_upd n))⟩
theorem post_lst (R : Rl K B σ env tp H) {vs : List V} {ds : List D} (n : H p = none) (h : Reps (fz σ env tp H) vs ds) : PostE K B σ env tp (.fr (.lst ds)) (.ref p) (upd H p (.lst vs)) := by
  obtain ⟨s, R'⟩ := R.allocO (o := .lst vs) n
  exact ⟨p, _, rfl, R', vs, upd_same, h.mono s⟩
end

/-! ### readings -/
abbrev WN := Str → L2.St → Hp → Prop
def tE (K : PySem.W.Frag) (m : Env → M RV) (W : WN) : TE := fun σ H Q => ∃ B env tp t, Rl K B σ env tp H ∧ wpm (m env) t (fun rv _ => ∀ v H', PostE K B σ env tp rv v H' → Q v H') fun x _ => ∀ H', Rl K B σ env tp H' → W x σ H'
def tT (K : PySem.W.Frag) (m : Env → M Bool) (W : WN) : TT := fun σ H Q => ∃ B env tp t, Rl K B σ env tp H ∧ wpm (m env) t (fun b _ => ∀ H', Rl K B σ env tp H' → Q b H') fun x _ => ∀ H', Rl K B σ env tp H' → W x σ H'
inductive OpdsR (K : PySem.W.Frag) (σ : L2.St) (env : Env) (F : Hp) : List V → List RV → Prop
  | nil : OpdsR K σ env F [] []
  | cons {v : V} {vs : List V} {r : RV} {rs : List RV} : OpdR K σ env F v r → OpdsR K σ env F vs rs → OpdsR K σ env F (v :: vs) (r :: rs)
theorem OpdsR.mono {K : PySem.W.Frag} {σ : L2.St} {env : Env} {F F' : Hp} (s : Same F F') : ∀ {vs : List V} {rs : List RV}, OpdsR K σ env F vs rs → OpdsR K σ env F' vs rs
  | _, _, .nil => .nil
  | _, _, .cons h q => .cons (h.mono s) (q.mono s)
def tAr (K : PySem.W.Frag) (m : Env → M (List RV)) (W : WN) : TA := fun σ H Q => ∃ B env tp t, Rl K B σ env tp H ∧ wpm (m env) t (fun rs _ => ∀ vs H', Rl K B σ env tp H' → OpdsR K σ env (fz σ env tp H') vs rs → Q vs H') fun x _ => ∀ H', Rl K B σ env tp H' → W x σ H'
theorem pe_imp {X : Cx} {e : Expr} {t t' : TE} (h : PE X e t) (i : ∀ σ H Q, t' σ H Q → t σ H Q) : PE X e t' := ⟨fun pins s σ H Q I q => h.run pins s σ H Q I (i σ H Q q)⟩
theorem pt_imp {X : Cx} {e : Expr} {t t' : TT} (h : PT X e t) (i : ∀ σ H Q, t' σ H Q → t σ H Q) : PT X e t' := ⟨fun pins s σ H Q I q => h.run pins s σ H Q I (i σ H Q q)⟩
theorem pa_imp {X : Cx} {e : List Expr} {t t' : TA} (h : PA X e t) (i : ∀ σ H Q, t' σ H Q → t σ H Q) : PA X e t' := ⟨fun pos pins s σ H Q I q => h.run pos pins s σ H Q I (i σ H Q q)⟩
theorem ps_imp {X : Cx} {e : Stmt} {t t' : TS} (h : PS X e t) (i : ∀ D σ H, t' D σ H → t D σ H) : PS X e t' := ⟨fun pins s σ H D I q => h.run pins s σ H D I (i D σ H q)⟩
theorem pss_imp {X : Cx} {e : List Stmt} {t t' : TS} (h : PSs X e t) (i : ∀ D σ H, t' D σ H → t D σ H) : PSs X e t' := ⟨fun pins s σ H D I q => h.run pins s σ H D I (i D σ H q)⟩
section
variable {K : PySem.W.Frag} {B : Hp} {σ : L2.St} {env : Env} {tp : Tp} {H : Hp} {W : WN} {t : Sto} {β : Type} {OK : β → Sto → Prop} {EX : Str → Sto → Prop}
/-- what stands of exceptions -/
abbrev Exs (K : PySem.W.Frag) (B : Hp) (σ : L2.St) (env : Env) (tp : Tp) (W : WN) (EX : Str → Sto → Prop) : Prop := ∀ x t, EX x t → ∀ H', Rl K B σ env tp H' → W x σ H'
theorem Exs.base (h : Exs K B σ env tp W EX) (R : Rl K B σ env tp H) : Exs K (fz σ env tp H) σ env tp W EX := fun x t e H' R' => h x t e H' (R'.down R.le)
theorem tE_step {m : Env → M RV} {k : RV → M β} {Q : VK} (R : Rl K B σ env tp H) (h : wpm (bnd (m env) k) t OK EX) (hex : Exs K B σ env tp W EX)
    (hk : ∀ r t1 v H1, Rl K B σ env tp H1 → OpdR K σ env (fz σ env tp H1) v r → wpm (k r) t1 OK EX → Q v H1) : tE K m W σ H Q := by
  rw [wpm_bnd] at h
  exact ⟨B, env, tp, t, R, wpm_mono h (fun r t1 h1 v H1 p => hk r t1 v H1 p.opd.1 p.opd.2 h1) hex⟩
/-- the last part: its result is handed on as it is -/
theorem tE_last {m : Env → M RV} {Q : VK} (R : Rl K B σ env tp H) (h : wpm (m env) t (fun rv _ => ∀ v H', PostE K B σ env tp rv v H' → Q v H') EX) (hex : Exs K B σ env tp W EX) : tE K m W σ H Q :=
  ⟨B, env, tp, t, R, wpm_mono h (fun _ _ q => q) hex⟩
theorem tT_step {m : Env → M Bool} {k : Bool → M β} {Q : Bool → Hp → Prop} (R : Rl K B σ env tp H) (h : wpm (bnd (m env) k) t OK EX) (hex : Exs K B σ env tp W EX)
    (hk : ∀ b t1 H1, Rl K B σ env tp H1 → wpm (k b) t1 OK EX → Q b H1) : tT K m W σ H Q := by
  rw [wpm_bnd] at h
  exact ⟨B, env, tp, t, R, wpm_mono h (fun r t1 h1 H1 p => hk r t1 H1 p h1) hex⟩
theorem tAr_step {m : Env → M (List RV)} {k : List RV → M β} {Q : List V → Hp → Prop} (R : Rl K B σ env tp H) (h : wpm (bnd (m env) k) t OK EX) (hex : Exs K B σ env tp W EX)
    (hk : ∀ rs t1 vs H1, Rl K B σ env tp H1 → OpdsR K σ env (fz σ env tp H1) vs rs → wpm (k rs) t1 OK EX → Q vs H1) : tAr K m W σ H Q := by
  rw [wpm_bnd] at h
  exact ⟨B, env, tp, t, R, wpm_mono h (fun r t1 h1 vs H1 p q => hk r t1 vs H1 p q h1) hex⟩
end

/-! ### two operands -/
abbrev OKE (K : PySem.W.Frag) (B : Hp) (σ : L2.St) (env : Env) (tp : Tp) (Q : VK) : RV → Sto → Prop := fun rv _ => ∀ v H', PostE K B σ env tp rv v H' → Q v H'
/-- a rule by values serves a function of results -/
def Srv2 (K : PySem.W.Frag) (r : R2) (f : RV → RV → M RV) : Prop := ∀ (B : Hp) (σ : L2.St) (env : Env) (tp : Tp) (H : Hp) (t : Sto) (Q : VK) (x y : V) (a b : RV) (EX : Str → Sto → Prop), Rl K B σ env tp H → OpdR K σ env (fz σ env tp H) x a → OpdR K σ env (fz σ env tp H) y b →
  wpm (f a b) t (OKE K B σ env tp Q) EX → r x y H Q
def Srv1 (K : PySem.W.Frag) (r : V → Hp → VK → Prop) (f : RV → M RV) : Prop := ∀ (B : Hp) (σ : L2.St) (env : Env) (tp : Tp) (H : Hp) (t : Sto) (Q : VK) (x : V) (a : RV) (EX : Str → Sto → Prop), Rl K B σ env tp H → OpdR K σ env (fz σ env tp H) x a →
  wpm (f a) t (OKE K B σ env tp Q) EX → r x H Q
theorem tOp_of {K : PySem.W.Frag} {r : R2} {f : RV → RV → M RV} {m1 m2 : Env → M RV} {W : WN} (s : Srv2 K r f) {σ : L2.St} {H : Hp} {Q : VK} (h : tE K (fun env => bnd (m1 env) fun a => bnd (m2 env) fun b => f a b) W σ H Q) : tOp r (tE K m1 W) (tE K m2 W) σ H Q := by
  obtain ⟨B, env, tp, t, R, h⟩ := h
  refine tE_step R h (fun _ _ q => q) fun a t1 x H1 R1 o1 h1 => ?_
  refine tE_step R1.base h1 (Exs.base (fun _ _ q => q) R1) fun b t2 y H2 R2 o2 h2 => ?_
  exact s B σ env tp H2 t2 Q x y a b _ (R2.down R1.le) (o1.mono R2.le) o2 h2
theorem tUn_of {K : PySem.W.Frag} {r : V → Hp → VK → Prop} {f : RV → M RV} {m : Env → M RV} {W : WN} (s : Srv1 K r f) {σ : L2.St} {H : Hp} {Q : VK} (h : tE K (fun env => bnd (m env) f) W σ H Q) : tUn r (tE K m W) σ H Q := by
  obtain ⟨B, env, tp, t, R, h⟩ := h
  refine tE_step R h (fun _ _ q => q) fun a t1 x H1 R1 o1 h1 => ?_
  exact s B σ env tp H1 t1 Q x a _ R1 o1 h1
/-- by data -/
theorem srv2_d {K : PySem.W.Frag} {r : R2} {f : D → D → M RV} (h : ∀ (B : Hp) (σ : L2.St) (env : Env) (tp : Tp) (H : Hp) (t : Sto) (Q : VK) (x y : V) (d e : D) (EX : Str → Sto → Prop), Rl K B σ env tp H → RdR (fz σ env tp H) H x d → RdR (fz σ env tp H) H y e →
    wpm (f d e) t (OKE K B σ env tp Q) EX → r x y H Q) : Srv2 K r fun a b => asD a fun x => asD b fun y => f x y := fun B σ env tp H t Q x y a b EX R oa ob w => by
  obtain ⟨d, ed, w⟩ := wpm_asD w
  obtain ⟨e, ee, w⟩ := wpm_asD w
  exact h B σ env tp H t Q x y d e EX R (oa.rd R ed) (ob.rd R ee) w
theorem srv1_d {K : PySem.W.Frag} {r : V → Hp → VK → Prop} {f : D → M RV} (h : ∀ (B : Hp) (σ : L2.St) (env : Env) (tp : Tp) (H : Hp) (t : Sto) (Q : VK) (x : V) (d : D) (EX : Str → Sto → Prop), Rl K B σ env tp H → RdR (fz σ env tp H) H x d →
    wpm (f d) t (OKE K B σ env tp Q) EX → r x H Q) : Srv1 K r fun a => asD a f := fun B σ env tp H t Q x a EX R oa w => by
  obtain ⟨d, ed, w⟩ := wpm_asD w
  exact h B σ env tp H t Q x d EX R (oa.rd R ed) w

theorem fits_le {n : Nat} (h : fits n = true) : n ≤ sizeLine := by
  have h' : n ≤ 16777216 := of_decide_eq_true h
  exact Nat.le_trans h' (by decide)
theorem smallI_of {i : Int} (h : smallI i = true) : -(2 ^ 64) < i ∧ i < 2 ^ 64 := by
  have h : -18446744073709551616 < i ∧ i < 18446744073709551616 := of_decide_eq_true h
  have e : (2 : Int) ^ 64 = 18446744073709551616 := by decide
  rw [e]
  exact h
theorem mulOk_of {i j : Int} (h : mulOk i j = true) : CMul i j := by
  rcases Bool.or_eq_true_iff.mp h with h | h
  · exact .inl (smallI_of h)
  · exact .inr (smallI_of h)
theorem rd_int {F H : Hp} {v : V} {i : Int} (h : RdR F H v (.int i)) : v = .int i := by cases h; rfl
theorem rd_str {F H : Hp} {v : V} {x : Str} (h : RdR F H v (.str x)) : v = .str x := by cases h; rfl
theorem rd_bl {F H : Hp} {v : V} {b : Bool} (h : RdR F H v (.bool b)) : v = .bl b := by cases h; rfl
theorem rd_non {F H : Hp} {v : V} (h : RdR F H v .none) : v = .non := by cases h; rfl
theorem rd_tup {F H : Hp} {v : V} {xs : List D} (h : RdR F H v (.tuple xs)) : ∃ p vs, v = .ref p ∧ F p = some (.tup vs) ∧ Reps F vs xs := by
  cases h with | tup h1 h2 => exact ⟨_, _, rfl, h1, h2⟩
section
variable {X : Cx} {a b : Expr} {pos : Pos} {m1 m2 : Env → M RV} {W : WN}
theorem wpm_stk {α : Type} {t : Sto} {ok : α → Sto → Prop} {ex : Str → Sto → Prop} {P : Prop} (h : wpm (stk : M α) t ok ex) : P := h.elim
theorem Reps.nil_iff {F : Hp} {vs : List V} {ds : List D} (h : Reps F vs ds) : vs = [] ↔ ds = [] := by
  cases h with
  | nil => simp
  | cons _ _ => simp
def rAddP (K : PySem.W.Frag) : R2 := fun x y H Q => rI0 (fun i j => .int (i + j)) x y H Q ∨ rCatA K x y H Q ∨ rCat x y H Q ∨ ∃ i j, x = .str i ∧ y = .str j ∧ i.length + j.length ≤ sizeLine ∧ Q (.str (i ++ j)) H
theorem op_addP : OpR X (binaryOp .Add) (rAddP X.K) := OpR.or op_add (OpR.or op_catA (OpR.or op_cat op_add_str))
theorem srv_add {K : PySem.W.Frag} : Srv2 K (rAddP K) fun a b => asD a fun x => asD b fun y => binD .add x y := srv2_d fun B σ env tp H t Q x y d e EX R rx ry w => by
  replace w : wpm (addD d e) t (OKE K B σ env tp Q) EX := w
  unfold addD at w
  split at w <;> first | exact wpm_stk w | skip
  · cases rd_int rx; cases rd_int ry
    exact .inl ⟨_, _, rfl, rfl, w _ _ (post_d R (.int _))⟩
  · obtain ⟨hz, w⟩ := wpm_guard w
    obtain ⟨p, vs, rfl, h1, h2⟩ := rd_tup rx
    obtain ⟨q, ws, rfl, h3, h4⟩ := rd_tup ry
    have g1 := hide_same _ _ _ _ h1
    have g3 := hide_same _ _ _ _ h3
    have rr := h2.append h4
    refine .inr (.inl ⟨p, q, vs, ws, rfl, rfl, .of g1, .of g3, ?_, fun e => ?_, fun e1 e2 => ?_, fun e1 e2 n hn => ?_⟩)
    · rw [h2.length, h4.length]; exact fits_le hz
    · subst e
      exact w _ _ (post_d R (.tup h3 rr))
    · subst e2
      rw [List.append_nil] at rr
      exact w _ _ (post_d R (.tup h1 rr))
    · exact w _ _ (post_tup R hn rr)
  · obtain ⟨hz, w⟩ := wpm_guard w
    obtain ⟨p, vs, rfl, h1, h2⟩ := rx
    obtain ⟨q, ws, rfl, h3, h4⟩ := ry
    refine .inr (.inr (.inl ⟨p, q, vs, ws, rfl, rfl, h1, h3, ?_, fun n hn => ?_⟩))
    · rw [h2.length, h4.length]; exact fits_le hz
    · exact w _ _ (post_lst R hn (h2.append h4))
  · obtain ⟨hz, w⟩ := wpm_guard w
    cases rd_str rx; cases rd_str ry
    exact .inr (.inr (.inr ⟨_, _, rfl, rfl, fits_le hz, w _ _ (post_d R (.str _))⟩))
end
end Pv
/-! Pv7: operators, comparisons, items, slices. -/
namespace Pv
open PySem PySem.Spec PyProof.Rows L2
section
variable {X : Cx} {K : PySem.W.Frag}
theorem srv_sub : Srv2 K (rI0 fun i j => .int (i - j)) fun a b => asD a fun x => asD b fun y => binD .sub x y := srv2_d fun B σ env tp H t Q x y d e EX R rx ry w => by
  replace w : wpm (subD d e) t (OKE K B σ env tp Q) EX := w
  unfold subD at w
  split at w <;> first | exact wpm_stk w | skip
  cases rd_int rx; cases rd_int ry
  exact ⟨_, _, rfl, rfl, w _ _ (post_d R (.int _))⟩
theorem srv_fdiv : Srv2 K (rI CDiv fun i j => .int (i / j)) fun a b => asD a fun x => asD b fun y => binD .fdiv x y := srv2_d fun B σ env tp H t Q x y d e EX R rx ry w => by
  replace w : wpm (fdivD d e) t (OKE K B σ env tp Q) EX := w
  unfold fdivD at w
  split at w <;> first | exact wpm_stk w | skip
  obtain ⟨hz, w⟩ := wpm_guard w
  cases rd_int rx; cases rd_int ry
  exact ⟨_, _, rfl, rfl, (by simp only [divOk, decide_eq_true_eq] at hz; exact hz), w _ _ (post_d R (.int _))⟩
theorem srv_mod : Srv2 K (rI (fun _ j => 0 < j) fun i j => .int (i % j)) fun a b => asD a fun x => asD b fun y => binD .mod x y := srv2_d fun B σ env tp H t Q x y d e EX R rx ry w => by
  replace w : wpm (modD d e) t (OKE K B σ env tp Q) EX := w
  unfold modD at w
  split at w <;> first | exact wpm_stk w | skip
  obtain ⟨hz, w⟩ := wpm_guard w
  cases rd_int rx; cases rd_int ry
  exact ⟨_, _, rfl, rfl, by simpa [divOk, modOk, powOk] using hz, w _ _ (post_d R (.int _))⟩
theorem srv_pow : Srv2 K (rI CPow fun i j => .int (i ^ j.toNat)) fun a b => asD a fun x => asD b fun y => binD .pow x y := srv2_d fun B σ env tp H t Q x y d e EX R rx ry w => by
  replace w : wpm (powD d e) t (OKE K B σ env tp Q) EX := w
  unfold powD at w
  split at w <;> first | exact wpm_stk w | skip
  obtain ⟨hz, w⟩ := wpm_guard w
  cases rd_int rx; cases rd_int ry
  exact ⟨_, _, rfl, rfl, (by simp only [powOk, decide_eq_true_eq] at hz; exact hz), w _ _ (post_d R (.int _))⟩
theorem tuple_mul1 (l : Addr) (items : Array Value) (n : Nat) (dd : Option Addr) (sl : Array (Option Value)) (u : Tok) :
    Meets (Builtin.«tuple.__mul__» ⟨[.ref l, .int 1 u], []⟩) (fun _ R s => s.heap.get? l = some { cls := .type "tuple", dict := dd, data := .seq items n, slots := sl } ∧ R (.ok (.ret (.ref l))) s) :=
  .of_wp fun prog w A R s h => by
    obtain ⟨h1, g1, d1, t1, o1⟩ := s
    obtain ⟨hl, h⟩ := h
    have ix := AutoSeq1.idx_int
    wp_walk using wpAny_loadPart' hl
    exact ⟨_, rfl, h⟩
def rRepT1 (K : PySem.W.Frag) : R2 := fun x y H Q => ∃ l xs, x = .ref l ∧ y = .int 1 ∧ SqT K H l xs ∧ Q (.ref l) H
theorem op_repT1 : OpR X (binaryOp .Mult) (rRepT1 X.K) := by
  intro pins s σ H x y v u Q I rx ry h
  obtain ⟨l, xs, rfl, rfl, hT, q⟩ := h
  cases rx
  obtain ⟨t, rfl⟩ := ry
  obtain ⟨its, r, ⟨⟨cls, dd, data, sl⟩, ho, hc, n, hd⟩, hs⟩ := I.tuple hT
  simp only at hc hd; subst hc hd
  refine wpAny_binaryOp_repeat_ref (T := "tuple") (U := "int") (by decide) ⟨_, ho, rfl⟩ (fun s' => typeIs_int s' 1 t) noFill_tuple_mul F.fills_int_mul F.slot_int_rmul repeat_tuple F.slot_int_index.lookup (call_meets F.slot_int_rmul (typeIs_int s 1 t) F.entry_int_rmul (F.args_int_rmul_2 _ _) (int_rmul_tuple 1 t l its.toArray n dd sl) ⟨ho, rfl, ⟨_, ho, rfl⟩, call_meets F.slot_tuple_mul ⟨_, ho, rfl⟩ F.entry_tuple_mul (F.args_tuple_mul_2 _ _) (tuple_mul1 l its.toArray n dd sl t) ⟨ho, ?_⟩⟩)
  exact ⟨.ref l, H, I, rfl, q⟩
def rMulP (K : PySem.W.Frag) : R2 := fun x y H Q => rI CMul (fun i j => .int (i * j)) x y H Q ∨ rRep x y H Q ∨ rRepT K x y H Q ∨ rRepT1 K x y H Q
theorem op_mulP : OpR X (binaryOp .Mult) (rMulP X.K) := OpR.or op_mul (OpR.or op_rep (OpR.or op_repT op_repT1))
theorem srv_mul : Srv2 K (rMulP K) fun a b => asD a fun x => asD b fun y => binD .mul x y := srv2_d fun B σ env tp H t Q x y d e EX R rx ry w => by
  replace w : wpm (mulD d e) t (OKE K B σ env tp Q) EX := w
  unfold mulD at w
  split at w <;> first | exact wpm_stk w | skip
  · obtain ⟨hz, w⟩ := wpm_guard w
    cases rd_int rx; cases rd_int ry
    exact .inl ⟨_, _, rfl, rfl, mulOk_of hz, w _ _ (post_d R (.int _))⟩
  · obtain ⟨hz, w⟩ := wpm_guard w
    obtain ⟨p, vs, rfl, h1, h2⟩ := rx
    cases rd_int ry
    obtain ⟨z1, z2, z3⟩ := of_decide_eq_true hz
    refine .inr (.inl ⟨p, _, vs, rfl, rfl, h1, z1, z2, ?_, fun n hn => w _ _ (post_lst R hn (h2.rep _))⟩)
    rw [h2.length]
    exact Nat.le_trans z3 (by decide)
  · obtain ⟨hz, w⟩ := wpm_guard w
    obtain ⟨p, vs, rfl, h1, h2⟩ := rd_tup rx
    cases rd_int ry
    obtain ⟨y1, y2⟩ := Bool.and_eq_true_iff.mp hz
    obtain ⟨z1, z2, z3⟩ := of_decide_eq_true y2
    by_cases k1 : ‹Int› = 1
    · subst k1
      have e1 : ∀ ds : List D, rep ds 1 = ds := fun ds => by simp [rep]
      rw [e1] at w
      exact .inr (.inr (.inr ⟨p, vs, rfl, rfl, .of (hide_same _ _ _ _ h1), w _ _ (post_d R (.tup h1 h2))⟩))
    refine .inr (.inr (.inl ⟨p, _, vs, rfl, rfl, .of (hide_same _ _ _ _ h1), fun e => ?_, by omega, z2, by rw [h2.length]; exact z3, fun n hn => w _ _ (post_tup R hn (h2.rep _))⟩))
    rw [h2.nil_iff] at e
    subst e
    exact absurd y1 (by decide)
theorem srv_neg : Srv1 K (rU fun i => .int (-i)) fun a => asD a negD := srv1_d fun B σ env tp H t Q x d EX R rx w => by
  unfold negD at w
  split at w <;> first | exact wpm_stk w | skip
  cases rd_int rx
  exact ⟨_, rfl, w _ _ (post_d R (.int _))⟩

/-! ### comparisons -/
theorem RdR.dp {F H : Hp} {v : V} {d : D} (h : RdR F H v d) (s : Same F H) : Dp K H v d := (h.rep s).dp
theorem eqOk_of {x y : D} (h : eqOk x y = true) : SeqAt.shaped x = true ∧ SeqAt.shaped y = true := Bool.and_eq_true_iff.mp h
theorem srv_eq : Srv2 K (rEqD K) fun a b => cmpR .eq a b := srv2_d fun B σ env tp H t Q x y d e EX R rx ry w => by
  replace w : wpm (eqD d e) t (OKE K B σ env tp Q) EX := w
  unfold eqD at w
  obtain ⟨hz, w⟩ := wpm_guard w
  exact ⟨_, _, rx.dp (hide_same _ _), ry.dp (hide_same _ _), (eqOk_of hz).1, (eqOk_of hz).2, w _ _ (post_d R (.bl _))⟩
theorem srv_ne : Srv2 K (rNeD K) fun a b => cmpR .ne a b := srv2_d fun B σ env tp H t Q x y d e EX R rx ry w => by
  replace w : wpm (neD d e) t (OKE K B σ env tp Q) EX := w
  unfold neD at w
  obtain ⟨hz, w⟩ := wpm_guard w
  exact ⟨_, _, rx.dp (hide_same _ _), ry.dp (hide_same _ _), (eqOk_of hz).1, (eqOk_of hz).2, w _ _ (post_d R (.bl _))⟩
def rLtD (K : PySem.W.Frag) : R2 := fun x y H Q => ∃ d e, Dp K H x d ∧ Dp K H y e ∧ SeqAt.shaped d = true ∧ PySem.W.alike d e = true ∧ d ≠ .none ∧ Q (.bl (PySem.W.dataLt d e)) H
theorem op_ltD (hu : X.A.units + 64 < cLine) : OpR X (compareOp .Lt) (rLtD X.K) := by
  intro pins s σ H x y v u Q I rx ry h
  obtain ⟨d, e, hd, he, sd, al, nn, q⟩ := h
  obtain ⟨as, r1⟩ := Dp.reads I d x v hd rx
  obtain ⟨bs, r2⟩ := Dp.reads I e y u he ry
  exact PySem.W.rcLt_alike d e X.A s v u as bs r1 r2 al nn (SeqAt.room_of_shaped sd hu) _ _ _ _ ⟨.bl _, H, I, rfl, q⟩
def rLtP (K : PySem.W.Frag) : R2 := fun x y H Q => rI0 (fun i j => .bl (decide (i < j))) x y H Q ∨ rLtD K x y H Q
theorem op_ltP (hu : X.A.units + 64 < cLine) : OpR X (compareOp .Lt) (rLtP X.K) := OpR.or op_lt (op_ltD hu)
theorem srv_lt : Srv2 K (rLtP K) fun a b => cmpR .lt a b := srv2_d fun B σ env tp H t Q x y d e EX R rx ry w => by
  replace w : wpm (ltD d e) t (OKE K B σ env tp Q) EX := w
  unfold ltD at w
  split at w
  · cases rd_int rx; cases rd_int ry
    exact .inl ⟨_, _, rfl, rfl, w _ _ (post_d R (.bl _))⟩
  · obtain ⟨hz, w⟩ := wpm_guard w
    obtain ⟨hz, z3⟩ := Bool.and_eq_true_iff.mp hz
    obtain ⟨z1, z2⟩ := Bool.and_eq_true_iff.mp hz
    exact .inr ⟨_, _, rx.dp (hide_same _ _), ry.dp (hide_same _ _), z2, z1, fun e => by subst e; exact absurd z3 (by decide), w _ _ (post_d R (.bl _))⟩
theorem srv_le : Srv2 K (rI0 fun i j => .bl (decide (i ≤ j))) fun a b => cmpR .le a b := srv2_d fun B σ env tp H t Q x y d e EX R rx ry w => by
  replace w : wpm (leD d e) t (OKE K B σ env tp Q) EX := w
  unfold leD at w
  split at w <;> first | exact wpm_stk w | skip
  cases rd_int rx; cases rd_int ry
  exact ⟨_, _, rfl, rfl, w _ _ (post_d R (.bl _))⟩
theorem srv_gt : Srv2 K (rI0 fun i j => .bl (decide (j < i))) fun a b => cmpR .gt a b := srv2_d fun B σ env tp H t Q x y d e EX R rx ry w => by
  replace w : wpm (gtD d e) t (OKE K B σ env tp Q) EX := w
  unfold gtD at w
  split at w <;> first | exact wpm_stk w | skip
  cases rd_int rx; cases rd_int ry
  exact ⟨_, _, rfl, rfl, w _ _ (post_d R (.bl _))⟩
theorem srv_ge : Srv2 K (rI0 fun i j => .bl (decide (j ≤ i))) fun a b => cmpR .ge a b := srv2_d fun B σ env tp H t Q x y d e EX R rx ry w => by
  replace w : wpm (geD d e) t (OKE K B σ env tp Q) EX := w
  unfold geD at w
  split at w <;> first | exact wpm_stk w | skip
  cases rd_int rx; cases rd_int ry
  exact ⟨_, _, rfl, rfl, w _ _ (post_d R (.bl _))⟩
theorem isNone_rd {F H : Hp} {v : V} {d : D} (h : RdR F H v d) : decide (v = .non) = isNoneD d := by
  cases d with
  | list xs => obtain ⟨p, vs, rfl, _⟩ := h; rfl
  | _ => cases h <;> rfl
def rIsP : R2 := fun x y H Q => (y = .non ∧ Q (.bl (decide (x = .non))) H) ∨ ∃ a b, x = .bl a ∧ y = .bl b ∧ Q (.bl (decide (a = b))) H
def rIsntP : R2 := fun x y H Q => (y = .non ∧ Q (.bl (!decide (x = .non))) H) ∨ ∃ a b, x = .bl a ∧ y = .bl b ∧ Q (.bl (!decide (a = b))) H
theorem op_isP : OpR X (compareOp .Is) rIsP := OpR.or op_isN op_isBl
theorem op_isntP : OpR X (compareOp .IsNot) rIsntP := OpR.or op_notN op_notBl
theorem srv_is : Srv2 K rIsP fun a b => cmpR .is_ a b := srv2_d fun B σ env tp H t Q x y d e EX R rx ry w => by
  replace w : wpm (isD d e) t (OKE K B σ env tp Q) EX := w
  unfold isD at w
  split at w <;> first | exact wpm_stk w | skip
  · cases rd_non ry
    exact .inl ⟨rfl, by rw [isNone_rd rx]; exact w _ _ (post_d R (.bl _))⟩
  · cases rd_bl rx; cases rd_bl ry
    exact .inr ⟨_, _, rfl, rfl, w _ _ (post_d R (.bl _))⟩
theorem srv_isnt : Srv2 K rIsntP fun a b => cmpR .isnot a b := srv2_d fun B σ env tp H t Q x y d e EX R rx ry w => by
  replace w : wpm (isnotD d e) t (OKE K B σ env tp Q) EX := w
  unfold isnotD at w
  split at w <;> first | exact wpm_stk w | skip
  · cases rd_non ry
    exact .inl ⟨rfl, by rw [isNone_rd rx]; exact w _ _ (post_d R (.bl _))⟩
  · cases rd_bl rx; cases rd_bl ry
    exact .inr ⟨_, _, rfl, rfl, w _ _ (post_d R (.bl _))⟩
/-! in -/
theorem flat_rep {F : Hp} {v : V} {d : D} (h : Rep F v d) (f : flatD d = true) : flatV v = true := by
  cases h <;> first | rfl | exact absurd f (by simp [flatD])
theorem flats_rep {F : Hp} : ∀ {vs : List V} {ds : List D}, Reps F vs ds → ds.all flatD = true → vs.all flatV = true
  | _, _, .nil, _ => rfl
  | _, _, .cons h r, f => by
    rw [List.all_cons, Bool.and_eq_true] at f ⊢
    exact ⟨flat_rep h f.1, flats_rep r f.2⟩
theorem eqv_flat {F F' : Hp} {v w : V} {d e : D} (h : Rep F v d) (g : Rep F' w e) (f : flatD d = true) (f' : flatD e = true) : eqV v w = PyData.eqv d e := by
  cases h <;> first | (simp [flatD] at f; done) | skip
  all_goals (cases g <;> first | (simp [flatD] at f'; done) | (simp [eqV, PyData.eqv]; done))
theorem in_flat {F F' : Hp} {w : V} {e : D} (g : Rep F' w e) (f' : flatD e = true) : ∀ {vs : List V} {ds : List D}, Reps F vs ds → ds.all flatD = true → inV w vs = inD e ds
  | _, _, .nil, _ => rfl
  | _, _, .cons h r, f => by
    rw [List.all_cons, Bool.and_eq_true] at f
    show (eqV _ w || inV w _) = (PyData.eqv _ e || inD e _)
    rw [eqv_flat h g f.1 f', in_flat g f' r f.2]
def rInP (K : PySem.W.Frag) : R2 := fun x y H Q => rIn K false x y H Q ∨ rInD K x y H Q
def rNinP (K : PySem.W.Frag) : R2 := fun x y H Q => rIn K true x y H Q ∨ rNotInD K x y H Q
theorem op_inP (hu : X.A.units + 65 < cLine) : OpR X (compareOp .In) (rInP X.K) := OpR.or op_in_seq (op_inD hu)
theorem op_ninP (hu : X.A.units + 65 < cLine) : OpR X (compareOp .NotIn) (rNinP X.K) := OpR.or op_notIn_seq (op_notInD hu)
theorem beq_true_b (b : Bool) : (b == true) = b := by cases b <;> rfl
theorem beq_false_b (b : Bool) : (b == false) = !b := by cases b <;> rfl
theorem flat_rd {F H : Hp} {v : V} {d : D} (h : RdR F H v d) (f : flatD d = true) : Rep F v d := by
  cases d <;> first | exact h | exact absurd f (by simp [flatD])
theorem srv_in : Srv2 K (rInP K) fun a b => cmpR .in_ a b := srv2_d fun B σ env tp H t Q x y d e EX R rx ry w => by
  replace w : wpm (inM true d e) t (OKE K B σ env tp Q) EX := w
  unfold inM at w
  split at w <;> first | exact wpm_stk w | skip
  · obtain ⟨hz, w⟩ := wpm_guard w
    obtain ⟨z1, z2⟩ := Bool.and_eq_true_iff.mp hz
    refine .inr ⟨_, _, rx.dp (hide_same _ _), ry.dp (hide_same _ _), z1, z2, w _ _ ?_⟩
    rw [beq_true_b]
    exact post_d R (.bl _)
  · obtain ⟨hz, w⟩ := wpm_guard w
    obtain ⟨z1, z2⟩ := Bool.and_eq_true_iff.mp hz
    obtain ⟨p, vs, rfl, h1, h2⟩ := rd_tup ry
    refine .inl ⟨p, vs, rfl, .inr (.of (hide_same _ _ _ _ h1)), flat_rep (flat_rd rx z1) z1, flats_rep h2 z2, ?_⟩
    rw [in_flat (flat_rd rx z1) z1 h2 z2, if_neg (by decide)]
    rw [beq_true_b] at w
    exact w _ _ (post_d R (.bl _))
theorem srv_nin : Srv2 K (rNinP K) fun a b => cmpR .notin a b := srv2_d fun B σ env tp H t Q x y d e EX R rx ry w => by
  replace w : wpm (inM false d e) t (OKE K B σ env tp Q) EX := w
  unfold inM at w
  split at w <;> first | exact wpm_stk w | skip
  · obtain ⟨hz, w⟩ := wpm_guard w
    obtain ⟨z1, z2⟩ := Bool.and_eq_true_iff.mp hz
    refine .inr ⟨_, _, rx.dp (hide_same _ _), ry.dp (hide_same _ _), z1, z2, w _ _ ?_⟩
    rw [beq_false_b]
    exact post_d R (.bl _)
  · obtain ⟨hz, w⟩ := wpm_guard w
    obtain ⟨z1, z2⟩ := Bool.and_eq_true_iff.mp hz
    obtain ⟨p, vs, rfl, h1, h2⟩ := rd_tup ry
    refine .inl ⟨p, vs, rfl, .inr (.of (hide_same _ _ _ _ h1)), flat_rep (flat_rd rx z1) z1, flats_rep h2 z2, ?_⟩
    rw [in_flat (flat_rd rx z1) z1 h2 z2, if_pos rfl]
    rw [beq_false_b] at w
    exact w _ _ (post_d R (.bl _))
/-- the rule of a comparison, by its sign -/
theorem op_cmp (hu : X.A.units + 65 < cLine) {o : CmpOp} {op : COp} (h : cop o = some op) : ∃ r, OpR X (compareOp o) r ∧ Srv2 X.K r fun a b => cmpR op a b := by
  have hu' : X.A.units + 64 < cLine := by omega
  cases o <;> cases h
  · exact ⟨_, op_eqD hu', srv_eq⟩
  · exact ⟨_, op_neD hu', srv_ne⟩
  · exact ⟨_, op_ltP hu', srv_lt⟩
  · exact ⟨_, op_le, srv_le⟩
  · exact ⟨_, op_gt, srv_gt⟩
  · exact ⟨_, op_ge, srv_ge⟩
  · exact ⟨_, op_isP, srv_is⟩
  · exact ⟨_, op_isntP, srv_isnt⟩
  · exact ⟨_, op_inP hu, srv_in⟩
  · exact ⟨_, op_ninP hu, srv_nin⟩
theorem op_bin {o : Operator} {op : BOp} (h : bop o = some op) : ∃ r, OpR X (binaryOp o) r ∧ Srv2 X.K r fun a b => asD a fun x => asD b fun y => binD op x y := by
  cases o <;> cases h
  · exact ⟨_, op_addP, srv_add⟩
  · exact ⟨_, op_sub, srv_sub⟩
  · exact ⟨_, op_mulP, srv_mul⟩
  · exact ⟨_, op_mod, srv_mod⟩
  · exact ⟨_, op_pow, srv_pow⟩
  · exact ⟨_, op_fdiv, srv_fdiv⟩
theorem alike_none {d e : D} (h : PySem.W.alike d e = true) (hn : d = .none) : e = .none := by
  subst hn
  cases e <;> simp [PySem.W.alike] at h ⊢
end
end Pv
/-! Pv8: truth, items, slices, built-ins. -/
namespace Pv
open PySem PySem.Spec PyProof.Rows L2
section
variable {X : Cx} {K : PySem.W.Frag}
theorem reps_empty {F : Hp} {vs : List V} {ds : List D} (h : Reps F vs ds) : vs.isEmpty = ds.isEmpty := by cases h <;> rfl
/-- truth of an operand -/
theorem tru_of {B : Hp} {σ : L2.St} {env : Env} {tp : Tp} {H : Hp} {t : Sto} {v : V} {r : RV} {ok : Bool → Sto → Prop} {ex : Str → Sto → Prop} (R : Rl K B σ env tp H) (o : OpdR K σ env (fz σ env tp H) v r) (w : wpm (truR r) t ok ex) : ∃ k, TruV K v H k ∧ ok k t := by
  obtain ⟨d, ed, w⟩ := wpm_asD w
  have rx := o.rd R ed
  unfold truD at w
  split at w <;> first | exact wpm_stk w | skip
  · cases rd_non rx; exact ⟨_, rfl, w⟩
  · cases rd_bl rx; exact ⟨_, rfl, w⟩
  · cases rd_int rx; exact ⟨_, rfl, w⟩
  · obtain ⟨hz, w⟩ := wpm_guard w
    cases rd_str rx; exact ⟨_, ⟨fits_le hz, rfl⟩, w⟩
  · obtain ⟨p, vs, rfl, h1, h2⟩ := rx
    refine ⟨_, .inl ⟨vs, .of h1, rfl⟩, ?_⟩
    rw [reps_empty h2]; exact w
  · obtain ⟨p, vs, rfl, h1, h2⟩ := rd_tup rx
    refine ⟨_, .inr (.inl ⟨vs, .of (hide_same _ _ _ _ h1), rfl⟩), ?_⟩
    rw [reps_empty h2]; exact w

/-! ### items -/
theorem plainIx {b : Expr} (h : isSliceE b = false) : PlainIx b := by
  intro o i
  cases b <;> first | rfl | exact absurd h (by simp [isSliceE])
theorem atI_map {α β : Type} (f : α → β) {xs : List α} {i : Int} {x : α} (h : atI xs i = some x) : atI (xs.map f) i = some (f x) := by
  unfold atI at h ⊢
  rw [List.length_map]
  cases q : ixN xs.length i with
  | none => rw [q] at h; cases h
  | some j => rw [q] at h; show (xs.map f)[j]? = some (f x); rw [List.getElem?_map, show xs[j]? = some x from h]; rfl
theorem srv_ix : Srv2 K (rIx K) ixR := fun B σ env tp H t Q x y a b EX R oa ob w => by
  unfold ixR at w
  split at w
  · obtain ⟨p, rfl, hs⟩ := oa
    cases (show Rep _ y (.int _) from ob)
    split at w <;> first | exact wpm_stk w | skip
    rename_i n e
    exact .inl ⟨p, _, _, _, rfl, rfl, sqL_mono (hide_same _ _) hs, atI_map V.int e, w _ _ (post_d R (.int _))⟩
  · obtain ⟨d, ed, w⟩ := wpm_asD w
    obtain ⟨e, ee, w⟩ := wpm_asD w
    have rx := oa.rd R ed
    have ry := ob.rd R ee
    unfold ixM at w
    split at w <;> first | exact wpm_stk w | skip
    · cases rd_int ry
      obtain ⟨p, vs, rfl, h1, h2⟩ := rx
      split at w <;> first | exact wpm_stk w | skip
      rename_i e
      obtain ⟨v, g1, g2⟩ := h2.atI e
      exact .inl ⟨p, vs, _, v, rfl, rfl, .of h1, g1, w _ _ (post_d R g2)⟩
    · cases rd_int ry
      obtain ⟨p, vs, rfl, h1, h2⟩ := rd_tup rx
      split at w <;> first | exact wpm_stk w | skip
      rename_i e
      obtain ⟨v, g1, g2⟩ := h2.atI e
      exact .inr (.inl ⟨p, vs, _, v, rfl, rfl, .of (hide_same _ _ _ _ h1), g1, w _ _ (post_d R g2)⟩)
    · cases rd_int ry
      cases rd_str rx
      obtain ⟨hz, w⟩ := wpm_guard w
      split at w <;> first | exact wpm_stk w | skip
      rename_i e
      exact .inr (.inr ⟨_, _, _, rfl, rfl, fits_le hz, e, w _ _ (post_d R (.str _))⟩)

/-! ### slices -/
def rSlP (K : PySem.W.Frag) : V → Option Int → Option Int → Hp → VK → Prop := fun x lo hi H Q => rSlL K x lo hi H Q ∨ rSlA K x lo hi H Q
theorem sl_P : SlR X (rSlP X.K) := SlR.or sl_list sl_tupA
theorem srv_cut {B : Hp} {σ : L2.St} {env : Env} {tp : Tp} {H : Hp} {t : Sto} {Q : VK} {x : V} {a : RV} {lo hi : Option Int} {EX : Str → Sto → Prop} (R : Rl K B σ env tp H) (oa : OpdR K σ env (fz σ env tp H) x a)
    (w : wpm (asD a (cutM lo hi)) t (OKE K B σ env tp Q) EX) : rSlP K x lo hi H Q := by
  obtain ⟨d, ed, w⟩ := wpm_asD w
  have rx := oa.rd R ed
  unfold cutM at w
  split at w <;> first | exact wpm_stk w | skip
  · obtain ⟨p, vs, rfl, h1, h2⟩ := rx
    exact .inl ⟨p, vs, rfl, .of h1, fun n hn => w _ _ (post_lst R hn (h2.cut lo hi))⟩
  · obtain ⟨p, vs, rfl, h1, h2⟩ := rd_tup rx
    refine .inr ⟨p, vs, rfl, .of (hide_same _ _ _ _ h1), fun hw => ?_, fun _ n hn => w _ _ (post_tup R hn (h2.cut lo hi))⟩
    have e : cutV vs lo hi = vs := by
      unfold cutV
      rw [hw.1, hw.2]
      simp
    have r := h2.cut lo hi
    rw [e] at r
    exact w _ _ (post_d R (.tup h1 r))
def tOo (K : PySem.W.Frag) (m : Env → M (Option Int)) (W : WN) : TO := fun σ H Q => ∃ B env tp t, Rl K B σ env tp H ∧ wpm (m env) t (fun o _ => ∀ H', Rl K B σ env tp H' → Q o H') fun x _ => ∀ H', Rl K B σ env tp H' → W x σ H'
theorem po_imp {e : Option Expr} {t t' : TO} (h : PO X e t) (i : ∀ σ H Q, t' σ H Q → t σ H Q) : PO X e t' := ⟨fun pins s σ H Q I q => h.run pins s σ H Q I (i σ H Q q)⟩
theorem po_noneM {W : WN} : PO X none (tOo X.K (fun _ => ret none) W) := po_imp po_none fun σ H Q ⟨B, env, tp, t, R, w⟩ => w H R
theorem po_someM {e : Expr} {m : Env → M RV} {W : WN} (h : PE X e (tE X.K m W)) : PO X (some e) (tOo X.K (fun env => bnd (m env) partM) W) := po_imp (po_some h) fun σ H Q ⟨B, env, tp, t, R, w⟩ => by
  refine tE_step R w (fun _ _ q => q) fun r t1 v H1 R1 o1 w1 => ?_
  unfold partM at w1
  split at w1 <;> first | exact wpm_stk w1 | skip
  cases (show Rep _ v (.int _) from o1)
  exact ⟨_, rfl, w1 H1 R1⟩
theorem tOo_step {β : Type} {OK : β → Sto → Prop} {EX : Str → Sto → Prop} {B : Hp} {σ : L2.St} {env : Env} {tp : Tp} {H : Hp} {W : WN} {t : Sto} {m : Env → M (Option Int)} {k : Option Int → M β} {Q : Option Int → Hp → Prop} (R : Rl K B σ env tp H) (h : wpm (bnd (m env) k) t OK EX) (hex : Exs K B σ env tp W EX)
    (hk : ∀ o t1 H1, Rl K B σ env tp H1 → wpm (k o) t1 OK EX → Q o H1) : tOo K m W σ H Q := by
  rw [wpm_bnd] at h
  exact ⟨B, env, tp, t, R, wpm_mono h (fun r t1 h1 H1 p => hk r t1 H1 p h1) hex⟩
theorem pe_sliceM {a : Expr} {lo hi : Option Expr} {p2 pos : Pos} {m : Env → M RV} {ml mh : Env → M (Option Int)} {W : WN} (ha : PE X a (tE X.K m W)) (hl : PO X lo (tOo X.K ml W)) (hh : PO X hi (tOo X.K mh W)) :
    PE X (.Subscript a (.Slice lo hi none p2) pos) (tE X.K (fun env => bnd (m env) fun r => bnd (ml env) fun i => bnd (mh env) fun j => asD r (cutM i j)) W) := pe_imp (pe_slice sl_P ha hl hh) fun σ H Q ⟨B, env, tp, t, R, w⟩ => by
  refine tE_step R w (fun _ _ q => q) fun r t1 v H1 R1 o1 w1 => ?_
  have x1 := Exs.base (W := W) (fun _ _ q => q) R1
  refine tOo_step R1.base w1 x1 fun i t2 H2 R2 w2 => ?_
  refine tOo_step R2 w2 x1 fun j t3 H3 R3 w3 => ?_
  exact srv_cut (R3.down R1.le) (o1.mono R3.le) w3

/-! ### arguments, built-ins -/
def SrvA (K : PySem.W.Frag) (r : List V → Hp → VK → Prop) (f : List RV → M RV) : Prop := ∀ (B : Hp) (σ : L2.St) (env : Env) (tp : Tp) (H : Hp) (t : Sto) (Q : VK) (xs : List V) (rs : List RV) (EX : Str → Sto → Prop), Rl K B σ env tp H → OpdsR K σ env (fz σ env tp H) xs rs →
  wpm (f rs) t (OKE K B σ env tp Q) EX → r xs H Q
theorem tCB_of {r : List V → Hp → VK → Prop} {f : List RV → M RV} {m : Env → M (List RV)} {W : WN} (s : SrvA K r f) {σ : L2.St} {H : Hp} {Q : VK} (h : tE K (fun env => bnd (m env) f) W σ H Q) : tCB r (tAr K m W) σ H Q := by
  obtain ⟨B, env, tp, t, R, h⟩ := h
  refine tAr_step R h (fun _ _ q => q) fun rs t1 vs H1 R1 o1 h1 => ?_
  exact s B σ env tp H1 t1 Q vs rs _ R1 o1 h1
theorem opds1 {σ : L2.St} {env : Env} {F : Hp} {xs : List V} {r : RV} (o : OpdsR K σ env F xs [r]) : ∃ x, xs = [x] ∧ OpdR K σ env F x r := by
  cases o with | cons h q => cases q; exact ⟨_, rfl, h⟩
/-- .. by data -/
theorem rds_of {B : Hp} {σ : L2.St} {env : Env} {tp : Tp} {H : Hp} (R : Rl K B σ env tp H) : ∀ {xs : List V} {rs : List RV} {ds : List D}, OpdsR K σ env (fz σ env tp H) xs rs → dats rs = some ds → Paired (fun x d => RdR (fz σ env tp H) H x d) xs ds
  | _, _, _, .nil, e => by cases e; exact .nil
  | _, _, ds, .cons (r := r) (rs := rs) h q, e => by
    unfold dats at e
    split at e
    · rename_i x xs e1 e2
      cases e
      exact .cons (h.rd R e1) (rds_of R q e2)
    · cases e
def SrvF (K : PySem.W.Frag) (r : List V → Hp → VK → Prop) (f : List D → M RV) : Prop := ∀ (B : Hp) (σ : L2.St) (env : Env) (tp : Tp) (H : Hp) (t : Sto) (Q : VK) (xs : List V) (ds : List D) (EX : Str → Sto → Prop), Rl K B σ env tp H → Paired (fun x d => RdR (fz σ env tp H) H x d) xs ds →
  wpm (f ds) t (OKE K B σ env tp Q) EX → r xs H Q
theorem f21 {α β : Type} {P : α → β → Prop} {xs : List α} {y : β} (h : Paired P xs [y]) : ∃ x, xs = [x] ∧ P x y := by
  cases h with | cons h q => cases q; exact ⟨_, rfl, h⟩
theorem f22 {α β : Type} {P : α → β → Prop} {xs : List α} {y z : β} (h : Paired P xs [y, z]) : ∃ x x', xs = [x, x'] ∧ P x y ∧ P x' z := by
  cases h with | cons h q => cases q with | cons h' q => cases q; exact ⟨_, _, rfl, h, h'⟩
theorem f23 {α β : Type} {P : α → β → Prop} {xs : List α} {y z w : β} (h : Paired P xs [y, z, w]) : ∃ x x' x'', xs = [x, x', x''] ∧ P x y ∧ P x' z ∧ P x'' w := by
  cases h with | cons h q => cases q with | cons h' q => cases q with | cons h'' q => cases q; exact ⟨_, _, _, rfl, h, h', h''⟩

theorem srvA_f {r : List V → Hp → VK → Prop} {f : BF} (hf : f ≠ .len) (h : SrvF K r (bfD f)) : SrvA K r (bfM f) := fun B σ env tp H t Q xs rs EX R o w => by
  unfold bfM at w
  split at w
  · exact absurd rfl hf
  · cases q : dats rs with
    | none => rw [q] at w; exact w.elim
    | some ds => rw [q] at w; exact h B σ env tp H t Q xs ds EX R (rds_of R o q) w
def rLenP (K : PySem.W.Frag) : List V → Hp → VK → Prop := fun xs H Q => (∃ x n, xs = [x] ∧ LenV K x H n ∧ Q (.int n) H)
theorem len_d : SrvF K (rLenP K) (bfD .len) := fun B σ env tp H t Q xs ds EX R o w => by
  unfold bfD at w
  split at w <;> first | exact wpm_stk w | skip
  all_goals (first | (rename_i h; cases h; done) | skip)
  obtain ⟨x, rfl, rx⟩ := f21 o
  unfold lenM at w
  split at w <;> first | exact wpm_stk w | skip
  · obtain ⟨p, vs, rfl, h1, h2⟩ := rx
    refine ⟨_, vs.length, rfl, .inl ⟨vs, .of h1, rfl⟩, ?_⟩
    rw [h2.length]
    exact w _ _ (post_d R (.int _))
  · obtain ⟨p, vs, rfl, h1, h2⟩ := rd_tup rx
    refine ⟨_, vs.length, rfl, .inr ⟨vs, .of (hide_same _ _ _ _ h1), rfl⟩, ?_⟩
    rw [h2.length]
    exact w _ _ (post_d R (.int _))
  · obtain ⟨hz, w⟩ := wpm_guard w
    cases rd_str rx
    exact ⟨_, _, rfl, ⟨fits_le hz, rfl⟩, w _ _ (post_d R (.int _))⟩
theorem bfM_len (rs : List RV) : (∃ ns, rs = [.v (.scr ns)]) ∨ bfM .len rs = match dats rs with
    | some ds => bfD .len ds
    | none => stk := by
  unfold bfM
  split
  · exact .inl ⟨_, rfl⟩
  · exact .inr rfl
theorem len_a : SrvA K (rLenP K) (bfM .len) := fun B σ env tp H t Q xs rs EX R o w => by
  rcases bfM_len rs with ⟨ns, rfl⟩ | e
  · obtain ⟨x, rfl, p, rfl, hs⟩ := opds1 o
    refine ⟨_, _, rfl, .inl ⟨_, sqL_mono (hide_same _ _) hs, rfl⟩, ?_⟩
    rw [List.length_map]
    exact w _ _ (post_d R (.int _))
  · rw [e] at w
    cases q : dats rs with
    | none => rw [q] at w; exact w.elim
    | some ds => rw [q] at w; exact len_d B σ env tp H t Q xs ds EX R (rds_of R o q) w
theorem abs_d : SrvF K (fun xs H Q => ∃ i, xs = [.int i] ∧ Q (.int (if i < 0 then -i else i)) H) (bfD .abs) := fun B σ env tp H t Q xs ds EX R o w => by
  unfold bfD at w
  split at w <;> first | exact wpm_stk w | skip
  all_goals (first | (rename_i h; cases h; done) | skip)
  obtain ⟨x, rfl, rx⟩ := f21 o
  cases rd_int rx
  exact ⟨_, rfl, w _ _ (post_d R (.int _))⟩
theorem min2_d : SrvF K (fun xs H Q => ∃ i j, xs = [.int i, .int j] ∧ Q (.int (if j < i then j else i)) H) (bfD .min2) := fun B σ env tp H t Q xs ds EX R o w => by
  unfold bfD at w
  split at w <;> first | exact wpm_stk w | skip
  all_goals (first | (rename_i h; cases h; done) | skip)
  obtain ⟨x, y, rfl, rx, ry⟩ := f22 o
  cases rd_int rx; cases rd_int ry
  exact ⟨_, _, rfl, w _ _ (post_d R (.int _))⟩
theorem max2_d : SrvF K (fun xs H Q => ∃ i j, xs = [.int i, .int j] ∧ Q (.int (if j > i then j else i)) H) (bfD .max2) := fun B σ env tp H t Q xs ds EX R o w => by
  unfold bfD at w
  split at w <;> first | exact wpm_stk w | skip
  all_goals (first | (rename_i h; cases h; done) | skip)
  obtain ⟨x, y, rfl, rx, ry⟩ := f22 o
  cases rd_int rx; cases rd_int ry
  exact ⟨_, _, rfl, w _ _ (post_d R (.int _))⟩
theorem nuMin2_int (i j : Int) : nuMin2 (.int i) (.int j) = some (.int (minI i j)) := by
  show some (if decide (j < i) = true then V.int j else V.int i) = _
  unfold minI
  by_cases h : j < i <;> simp [h]
theorem nuMin3_int (i j k : Int) : nuMin3 (.int i) (.int j) (.int k) = some (.int (minI (minI i j) k)) := by
  unfold nuMin3
  rw [nuMin2_int]
  exact nuMin2_int _ _
theorem min3_d : SrvF K (rNuC3 nuMin3) (bfD .min3) := fun B σ env tp H t Q xs ds EX R o w => by
  unfold bfD at w
  split at w <;> first | exact wpm_stk w | skip
  all_goals (first | (rename_i h; cases h; done) | skip)
  obtain ⟨x, y, z, rfl, rx, ry, rz⟩ := f23 o
  cases rd_int rx; cases rd_int ry; cases rd_int rz
  exact ⟨_, _, _, _, rfl, nuMin3_int _ _ _, w _ _ (post_d R (.int _))⟩
def rSumT (K : PySem.W.Frag) : List V → Hp → VK → Prop := fun vs H Q => ∃ (a : Addr) (ns : List Int), vs = [V.ref a] ∧ SqT K H a (ns.map V.int) ∧ Q (.int ns.sum) H
def rSumP (K : PySem.W.Frag) : List V → Hp → VK → Prop := fun vs H Q => rSum K vs H Q ∨ rSumT K vs H Q
theorem sum_d : SrvF K (rSumP K) (bfD .sum) := fun B σ env tp H t Q xs ds EX R o w => by
  unfold bfD at w
  split at w <;> first | exact wpm_stk w | skip
  all_goals (first | (rename_i h; cases h; done) | skip)
  obtain ⟨x, rfl, rx⟩ := f21 o
  unfold sumM at w
  split at w <;> first | exact wpm_stk w | skip
  · split at w <;> first | exact wpm_stk w | skip
    rename_i e
    obtain ⟨p, vs, rfl, h1, h2⟩ := rx
    obtain ⟨e1, e2⟩ := h2.ints e
    rw [e1] at h1
    exact .inl ⟨p, _, rfl, .of h1, w _ _ (post_d R (.int _))⟩
  · split at w <;> first | exact wpm_stk w | skip
    rename_i e
    obtain ⟨p, vs, rfl, h1, h2⟩ := rd_tup rx
    obtain ⟨e1, e2⟩ := h2.ints e
    rw [e1] at h1
    exact .inr ⟨p, _, rfl, .of (hide_same _ _ _ _ h1), w _ _ (post_d R (.int _))⟩
theorem foldl_max : ∀ (ns : List Int) (n : Int), n ≤ ns.foldl max n ∧ (∀ a ∈ ns, a ≤ ns.foldl max n) ∧ (ns.foldl max n = n ∨ ns.foldl max n ∈ ns)
  | [], n => ⟨Int.le_refl _, fun _ h => absurd h List.not_mem_nil, .inl rfl⟩
  | m :: ns, n => by
    obtain ⟨h1, h2, h3⟩ := foldl_max ns (max n m)
    rw [List.foldl_cons]
    refine ⟨by omega, fun a ha => ?_, ?_⟩
    · rcases List.mem_cons.mp ha with rfl | ha
      · omega
      · exact h2 a ha
    · rcases h3 with h3 | h3
      · rw [h3]
        by_cases q : n ≤ m
        · exact .inr (by rw [Int.max_eq_right q]; exact List.mem_cons_self)
        · exact .inl (by omega)
      · exact .inr (List.mem_cons_of_mem _ h3)
theorem max1_d : SrvF K (rMax K) (bfD .max1) := fun B σ env tp H t Q xs ds EX R o w => by
  unfold bfD at w
  split at w <;> first | exact wpm_stk w | skip
  all_goals (first | (rename_i h; cases h; done) | skip)
  obtain ⟨x, rfl, rx⟩ := f21 o
  unfold maxM at w
  split at w <;> first | exact wpm_stk w | skip
  split at w <;> first | exact wpm_stk w | skip
  rename_i n ns e
  obtain ⟨p, vs, rfl, h1, h2⟩ := rx
  obtain ⟨e1, e2⟩ := h2.ints e
  rw [e1] at h1
  refine ⟨p, n :: ns, rfl, .of h1, Nat.zero_lt_succ _, fun m hm hl => ?_⟩
  obtain ⟨g1, g2, g3⟩ := foldl_max ns n
  have : m = ns.foldl max n := by
    have a1 : ns.foldl max n ≤ m := hl _ (g3.elim (fun g3 => by rw [g3]; exact List.mem_cons_self) fun g3 => List.mem_cons_of_mem _ g3)
    have a2 : m ≤ ns.foldl max n := by
      rcases List.mem_cons.mp hm with rfl | hm
      · exact g1
      · exact g2 m hm
    omega
  rw [this]
  exact w _ _ (post_d R (.int _))
def rTup1 (K : PySem.W.Frag) : List V → Hp → VK → Prop := fun xs H Q => ∃ p ys, xs = [.ref p] ∧ ((SqL K H p ys ∧ ∀ l, H l = none → Q (.ref l) (upd H l (.tup ys))) ∨ (SqT K H p ys ∧ Q (.ref p) H))
theorem tuple_d : SrvF K (rTup1 K) (bfD .tuple) := fun B σ env tp H t Q xs ds EX R o w => by
  unfold bfD at w
  split at w <;> first | exact wpm_stk w | skip
  all_goals (first | (rename_i h; cases h; done) | skip)
  obtain ⟨x, rfl, rx⟩ := f21 o
  unfold tupleM at w
  split at w <;> first | exact wpm_stk w | skip
  · obtain ⟨p, vs, rfl, h1, h2⟩ := rx
    exact ⟨p, vs, rfl, .inl ⟨.of h1, fun n hn => w _ _ (post_tup R hn h2)⟩⟩
  · obtain ⟨p, vs, rfl, h1, h2⟩ := rd_tup rx
    exact ⟨p, vs, rfl, .inr ⟨.of (hide_same _ _ _ _ h1), w _ _ (post_d R (.tup h1 h2))⟩⟩
def rList1 (K : PySem.W.Frag) : List V → Hp → VK → Prop := fun xs H Q => ∃ p ys, xs = [.ref p] ∧ (SqL K H p ys ∨ SqT K H p ys) ∧ ∀ l, H l = none → Q (.ref l) (upd H l (.lst ys))
theorem list_d : SrvF K (rList1 K) (bfD .list) := fun B σ env tp H t Q xs ds EX R o w => by
  unfold bfD at w
  split at w <;> first | exact wpm_stk w | skip
  all_goals (first | (rename_i h; cases h; done) | skip)
  obtain ⟨x, rfl, rx⟩ := f21 o
  unfold listM at w
  split at w <;> first | exact wpm_stk w | skip
  · obtain ⟨p, vs, rfl, h1, h2⟩ := rx
    exact ⟨p, vs, rfl, .inl (.of h1), fun n hn => w _ _ (post_lst R hn h2)⟩
  · obtain ⟨p, vs, rfl, h1, h2⟩ := rd_tup rx
    exact ⟨p, vs, rfl, .inr (.of (hide_same _ _ _ _ h1)), fun n hn => w _ _ (post_lst R hn h2)⟩
def rInt1 : List V → Hp → VK → Prop := fun xs H Q => ((∃ i, xs = [.int i] ∧ Q (.int i) H) ∨ ∃ k, xs = [.bl k] ∧ Q (.int (if k then 1 else 0)) H) ∨ (∃ a n, xs = [.str a] ∧ PySem.intText? a = some n ∧ a.length ≤ 640 ∧ Q (.int n) H)
theorem int_d : SrvF K rInt1 (bfD .int) := fun B σ env tp H t Q xs ds EX R o w => by
  unfold bfD at w
  split at w <;> first | exact wpm_stk w | skip
  all_goals (first | (rename_i h; cases h; done) | skip)
  obtain ⟨x, rfl, rx⟩ := f21 o
  unfold intM at w
  split at w <;> first | exact wpm_stk w | skip
  · cases rd_int rx; exact .inl (.inl ⟨_, rfl, w _ _ (post_d R (.int _))⟩)
  · cases rd_bl rx; exact .inl (.inr ⟨_, rfl, w _ _ (post_d R (.int _))⟩)
  · split at w <;> first | exact wpm_stk w | skip
    rename_i e
    obtain ⟨hz, w⟩ := wpm_guard w
    cases rd_str rx
    exact .inr ⟨_, _, rfl, e, of_decide_eq_true hz, w _ _ (post_d R (.int _))⟩
end
end Pv
/-! Pv9: isinstance, ranges, calls' forms. -/
namespace Pv
open PySem PySem.Spec PyProof.Rows L2
theorem star_cons {e : Expr} {es : List Expr} {env : PySem.Env} (h : isStarE e = false) : starEach (e :: es) env = (false, eval e env) :: starEach es env := by
  cases e <;> first | rfl | exact absurd h (by simp [isStarE])
theorem noany : ∀ {es : List Expr} {env : PySem.Env} {pos : Pos}, (es.all fun e => !isStarE e) = true → (backTo pos (starEach es env)).any (·.1) = false
  | [], _, _, _ => rfl
  | e :: es, env, pos, h => by
    rw [List.all_cons, Bool.and_eq_true] at h
    have he : isStarE e = false := by cases q : isStarE e <;> simp [q] at h ⊢
    rw [star_cons he]
    show (false || _) = false
    rw [Bool.false_or]
    exact noany h.2
def tyName : Ty → String
  | .int => "int" | .bool => "bool" | .tuple => "tuple" | .list => "list" | .str => "str"
def tyD : D → String
  | .none => "NoneType" | .bool _ => "bool" | .int _ => "int" | .str _ => "str" | .list _ => "list" | .tuple _ => "tuple" | .dict _ => "dict"
theorem tyOf_boot {x : Str} {ty : Ty} (h : tyOf x = some ty) : bootBuiltins x = some (.type (tyName ty)) ∧ x ≠ "__name__" ∧ (x == ("__debug__" : Str)) = false := by
  unfold tyOf at h
  repeat' split at h
  all_goals first | (cases h; done) | skip
  all_goals (cases h; rename_i e; subst e; exact ⟨by decide +kernel, by decide +kernel, by decide +kernel⟩)
theorem kit_is (ty : Ty) (d : D) (h : ∀ kvs, d ≠ .dict kvs) : kitB (tyD d) (tyName ty) = some (isTy ty d) := by
  cases d with
  | none => cases ty <;> (show kitB "NoneType" _ = some false; decide +kernel)
  | bool b => cases ty <;> first | (show kitB "bool" _ = some true; decide +kernel) | (show kitB "bool" _ = some false; decide +kernel)
  | int i => cases ty <;> first | (show kitB "int" _ = some true; decide +kernel) | (show kitB "int" _ = some false; decide +kernel)
  | str s => cases ty <;> first | (show kitB "str" _ = some true; decide +kernel) | (show kitB "str" _ = some false; decide +kernel)
  | list s => cases ty <;> first | (show kitB "list" _ = some true; decide +kernel) | (show kitB "list" _ = some false; decide +kernel)
  | tuple s => cases ty <;> first | (show kitB "tuple" _ = some true; decide +kernel) | (show kitB "tuple" _ = some false; decide +kernel)
  | dict kvs => exact absurd rfl (h kvs)
section
variable {X : Cx} {K : PySem.W.Frag}
theorem ty_rd {F H : Hp} {v : V} {d : D} (s : Same F H) (h : RdR F H v d) : TyOf K H v (.type (tyD d)) ∧ ∀ kvs, d ≠ .dict kvs := by
  cases d with
  | list xs => obtain ⟨p, vs, rfl, h1, h2⟩ := h; exact ⟨.lst h1, fun _ e => nomatch e⟩
  | tuple xs => obtain ⟨p, vs, rfl, h1, h2⟩ := rd_tup h; exact ⟨.tup (s _ _ h1), fun _ e => nomatch e⟩
  | none => cases rd_non h; exact ⟨.non, fun _ e => nomatch e⟩
  | bool b => cases rd_bl h; exact ⟨.bl _, fun _ e => nomatch e⟩
  | int b => cases rd_int h; exact ⟨.int _, fun _ e => nomatch e⟩
  | str b => cases rd_str h; exact ⟨.str _, fun _ e => nomatch e⟩
  | dict kvs => cases (show Rep F v (.dict kvs) from h)
theorem isi_of {B : Hp} {σ : L2.St} {env : Env} {tp : Tp} {H : Hp} {t : Sto} {Q : VK} {x : V} {a : RV} {ty : Ty} {EX : Str → Sto → Prop} (R : Rl K B σ env tp H) (o : OpdR K σ env (fz σ env tp H) x a)
    (w : wpm (isiR a ty) t (OKE K B σ env tp Q) EX) : rIsi K [x, .ty (tyName ty)] H Q := by
  obtain ⟨d, ed, w⟩ := wpm_asD w
  obtain ⟨h1, h2⟩ := ty_rd (K := K) (hide_same _ _) (o.rd R ed)
  exact ⟨x, _, _, _, _, rfl, .ty _, .base h1, kit_ty (kit_is ty d h2), w _ _ (post_d R (.bl _))⟩
theorem pe_isi {a : Expr} {t : Str} {ty : Ty} {p p2 pos : Pos} {m : Env → M RV} {W : WN} (ht : tyOf t = some ty) (hg : Gl X "isinstance") (hm : X.mg "isinstance" = none) (hgt : Gl X t) (hmt : X.mg t = none) (ha : PE X a (tE X.K m W)) (na : isStarE a = false) :
    PE X (.Call (.Name "isinstance" p) [a, .Name t p2] [] pos) (tE X.K (fun env => bnd (m env) fun r => isiR r ty) W) := by
  obtain ⟨b1, b2, b3⟩ := tyOf_boot ht
  have ht' : PE X (.Name t p2) (tC (.ty (tyName ty))) := pe_bltn hgt hmt b1 rfl b2 b3
  refine pe_imp (pe_callB call_isi hg hm (by decide +kernel) (pa_cons ha (pa_cons ht' pa_nil) (star_cons na)) (he := star_cons na)) fun σ H Q ⟨B, env, tp, t, R, w⟩ => ?_
  refine tE_step R w (fun _ _ q => q) fun r t1 v H1 R1 o1 w1 => ?_
  exact isi_of R1 o1 w1
/-! ### ranges as lists -/
theorem rg_reps {F : Hp} (a b : Int) : Reps F (rgV a b) (rangeL a b) := by
  unfold rgV rangeL
  generalize List.range (b - a).toNat = l
  induction l with
  | nil => exact .nil
  | cons i l ih => exact .cons (.int _) ih
theorem rgOk_of {a b : Int} (h : rangeOk a b = true) : RgOk a b := by
  have h' : -1000000 ≤ a ∧ a ≤ 1000000 ∧ -1000000 ≤ b ∧ b ≤ 1000000 := of_decide_eq_true h
  unfold RgOk
  omega
theorem pe_rngl {a : Expr} {p p2 q pos : Pos} {m : Env → M RV} {W : WN} (hc : X.calm = true) (hg : Gl X "list") (hm : X.mg "list" = none) (hg2 : Gl X "range") (hm2 : X.mg "range" = none) (ha : PE X a (tE X.K m W)) (na : isStarE a = false) :
    PE X (.Call (.Name "list" p) [.Call (.Name "range" p2) [a] [] q] [] pos) (tE X.K (fun env => bnd (m env) fun r => asD r fun
    | .int n => guard (rangeOk 0 n) (ret (.fr (.lst (rangeL 0 n))))
    | _ => stk) W) := pe_imp (pe_listRg hc hg hm (prg_1 hg2 hm2 ha (star_cons na))) fun σ H Q ⟨B, env, tp, t, R, w⟩ => by
  refine tE_step R w (fun _ _ q => q) fun r t1 v H1 R1 o1 w1 => ?_
  obtain ⟨d, ed, w1⟩ := wpm_asD w1
  have rx := o1.rd R1 ed
  split at w1 <;> first | exact wpm_stk w1 | skip
  obtain ⟨hz, w1⟩ := wpm_guard w1
  cases rd_int rx
  exact ⟨_, rfl, rgOk_of hz, fun n hn => w1 _ _ (post_lst R1 hn (rg_reps _ _))⟩
theorem pe_rngt {a : Expr} {p p2 q pos : Pos} {m : Env → M RV} {W : WN} (hc : X.calm = true) (hg : Gl X "tuple") (hm : X.mg "tuple" = none) (hg2 : Gl X "range") (hm2 : X.mg "range" = none) (ha : PE X a (tE X.K m W)) (na : isStarE a = false) :
    PE X (.Call (.Name "tuple" p) [.Call (.Name "range" p2) [a] [] q] [] pos) (tE X.K (fun env => bnd (m env) fun r => asD r fun
    | .int n => guard (rangeOk 0 n) (ret (rd (.tuple (rangeL 0 n))))
    | _ => stk) W) := pe_imp (pe_tupRg hc hg hm (prg_1 hg2 hm2 ha (star_cons na))) fun σ H Q ⟨B, env, tp, t, R, w⟩ => by
  refine tE_step R w (fun _ _ q => q) fun r t1 v H1 R1 o1 w1 => ?_
  obtain ⟨d, ed, w1⟩ := wpm_asD w1
  have rx := o1.rd R1 ed
  split at w1 <;> first | exact wpm_stk w1 | skip
  obtain ⟨hz, w1⟩ := wpm_guard w1
  cases rd_int rx
  exact ⟨_, rfl, rgOk_of hz, fun n hn => w1 _ _ (post_tup R1 hn (rg_reps _ _))⟩
/-! ### argument lists -/
theorem pa_nilM {W : WN} : PA X [] (tAr X.K (fun _ => ret []) W) := pa_imp pa_nil fun σ H Q ⟨B, env, tp, t, R, w⟩ => w [] H R .nil
theorem pa_consM {e : Expr} {es : List Expr} {m : Env → M RV} {ms : Env → M (List RV)} {W : WN} (ha : PE X e (tE X.K m W)) (hs : PA X es (tAr X.K ms W)) (na : isStarE e = false) :
    PA X (e :: es) (tAr X.K (fun env => bnd (m env) fun r => bnd (ms env) fun rs => ret (r :: rs)) W) := pa_imp (pa_cons ha hs (star_cons na)) fun σ H Q ⟨B, env, tp, t, R, w⟩ => by
  refine tE_step R w (fun _ _ q => q) fun r t1 v H1 R1 o1 w1 => ?_
  refine tAr_step R1.base w1 (Exs.base (fun _ _ q => q) R1) fun rs t2 vs H2 R2 o2 w2 => ?_
  exact w2 (v :: vs) H2 (R2.down R1.le) (.cons (o1.mono R2.le) o2)
/-- kept -/
theorem keepV_of {σ : L2.St} {env : Env} {F : Hp} {v : V} {r : RV} {t : Sto} {ok : Vv → Sto → Prop} {ex : Str → Sto → Prop} (o : OpdR K σ env F v r) (w : wpm (keepV r) t ok ex) : ∃ x, VvR K F v x ∧ ok x t := by
  unfold keepV at w
  split at w <;> first | exact wpm_stk w | skip
  · exact ⟨_, o, w⟩
  · obtain ⟨p, rfl, vs, h1, h2⟩ := o
    exact ⟨.d _, Rep.lst h1 h2, w⟩
theorem keepD_of {σ : L2.St} {env : Env} {F : Hp} {v : V} {r : RV} {t : Sto} {ok : D → Sto → Prop} {ex : Str → Sto → Prop} (o : OpdR K σ env F v r) (w : wpm (keepD r) t ok ex) : ∃ x, Rep F v x ∧ ok x t := by
  unfold keepD at w
  rw [wpm_bnd] at w
  obtain ⟨x, h, w⟩ := keepV_of o w
  split at w <;> first | exact wpm_stk w | skip
  exact ⟨_, h, w⟩
theorem keepAllD_of {σ : L2.St} {env : Env} {F : Hp} : ∀ {vs : List V} {rs : List RV} {t : Sto} {ok : List D → Sto → Prop} {ex : Str → Sto → Prop}, OpdsR K σ env F vs rs → wpm (keepAllD rs) t ok ex → ∃ ds, Reps F vs ds ∧ ds.length = rs.length ∧ ok ds t
  | _, _, _, _, _, .nil, w => ⟨[], .nil, rfl, w⟩
  | _, _, t, ok, ex, .cons h q, w => by
    unfold keepAllD at w
    rw [wpm_bnd] at w
    obtain ⟨x, hx, w⟩ := keepD_of h w
    rw [wpm_bnd] at w
    obtain ⟨ds, hds, hl, w⟩ := keepAllD_of q w
    exact ⟨x :: ds, .cons hx hds, by rw [List.length_cons, List.length_cons, hl], w⟩
theorem pe_tupM {es : List Expr} {k : Nat} {pos : Pos} {ms : Env → M (List RV)} {W : WN} (hs : PA X es (tAr X.K ms W)) : PE X (.Tuple es k pos) (tE X.K (fun env => bnd (ms env) fun rs => guard (fits rs.length) (bnd (keepAllD rs) fun xs => ret (rd (.tuple xs)))) W) := pe_imp (pe_tup hs) fun σ H Q ⟨B, env, tp, t, R, w⟩ => by
  refine tAr_step R w (fun _ _ q => q) fun rs t1 vs H1 R1 o1 w1 => ?_
  obtain ⟨hz, w1⟩ := wpm_guard w1
  rw [wpm_bnd] at w1
  obtain ⟨ds, hds, hl, w1⟩ := keepAllD_of o1 w1
  exact ⟨by rw [hds.length, hl]; exact fits_le hz, fun n hn => w1 _ _ (post_tup R1 hn hds)⟩
theorem pe_lstM {es : List Expr} {pos : Pos} {ms : Env → M (List RV)} {W : WN} (hs : PA X es (tAr X.K ms W)) : PE X (.List es pos) (tE X.K (fun env => bnd (ms env) fun rs => guard (fits rs.length) (bnd (keepAllD rs) fun xs => ret (.fr (.lst xs)))) W) := pe_imp (pe_lst hs) fun σ H Q ⟨B, env, tp, t, R, w⟩ => by
  refine tAr_step R w (fun _ _ q => q) fun rs t1 vs H1 R1 o1 w1 => ?_
  obtain ⟨hz, w1⟩ := wpm_guard w1
  rw [wpm_bnd] at w1
  obtain ⟨ds, hds, hl, w1⟩ := keepAllD_of o1 w1
  exact ⟨by rw [hds.length, hl]; exact fits_le hz, fun n hn => w1 _ _ (post_lst R1 hn hds)⟩
end
end Pv
/-! Pv10: targets, what is walked, comprehensions. -/
namespace Pv
open PySem PySem.Spec PyProof.Rows L2
section
variable {K : PySem.W.Frag} {B F F' H H' : Hp} {σ σ1 : L2.St} {env env1 : Env} {tp : Tp}
def isOwn : Option Slot → Bool
  | some (.own _) => true
  | _ => false
/-- a slot that is not owned is set: the owned places are the same -/
theorem oa_keep : ∀ {σ : L2.St} {env : Env} {i : Nat} {x : Option V} {s : Slot}, isOwn env[i]? = false → isOwn (some s) = false → oa (σ.set i x) (env.set i s) = oa σ env
  | [], _, _, _, _, _, _ => rfl
  | y :: σ, [], i, x, s, _, _ => by cases i <;> (rw [List.set_nil]; cases x <;> cases y <;> simp [oa])
  | y :: σ, u :: env, 0, x, s, h, h' => by
    simp only [List.set_cons_zero]
    have h : isOwn (some u) = false := by simpa using h
    have e1 : oa (x :: σ) (s :: env) = oa σ env := by
      cases s <;> first | (simp [isOwn] at h'; done) | (cases x with | none => rfl | some v => cases v <;> rfl)
    have e2 : oa (y :: σ) (u :: env) = oa σ env := by
      cases u <;> first | (simp [isOwn] at h; done) | (cases y with | none => rfl | some v => cases v <;> rfl)
    rw [e1, e2]
  | y :: σ, u :: env, i + 1, x, s, h, h' => by
    simp only [List.set_cons_succ]
    have ih := oa_keep (σ := σ) (env := env) (i := i) (x := x) (s := s) (by simpa using h) h'
    cases u <;> (cases y with | none => exact ih | some v => cases v <;> first | exact ih | exact congrArg _ ih)
theorem Rl.len (R : Rl K B σ env tp H) : σ.length = env.length := R.sl.length
/-- a slot of ours that is not owned is set -/
theorem Rl.put (R : Rl K B σ env tp H) {i : Nat} {x : Option V} {s : Slot} (h : isOwn env[i]? = false) (h' : isOwn (some s) = false) (hs : SlotR K (fz σ env tp H) H x s) : Rl K B (σ.set i x) (env.set i s) tp H := by
  have e := oa_keep (σ := σ) (x := x) h h'
  refine ⟨by rw [e]; exact R.le, ?_, by rw [e]; exact R.nd, R.tk⟩
  rw [e]
  exact R.sl.set i hs
theorem wipe_put : ∀ (vs : List Nat), wipeOk env vs = true → Rl K B σ env tp H → Rl K B (wipe σ vs) (wipeE env vs) tp H ∧ (∀ i : Nat, isOwn (wipeE env vs)[i]? = true → isOwn env[i]? = true) ∧ oa (wipe σ vs) (wipeE env vs) = oa σ env
  | [], _, R => ⟨R, fun _ h => h, rfl⟩
  | v :: vs, h, R => by
    unfold wipeOk at h
    rw [List.all_cons, Bool.and_eq_true] at h
    obtain ⟨R', k, e⟩ := wipe_put vs h.2 R
    have hv : isOwn (wipeE env vs)[v]? = false := by
      cases q : isOwn (wipeE env vs)[v]? with
      | false => rfl
      | true =>
        have := k v q
        have h1 := h.1
        unfold isOwn at this
        split at this
        · rename_i o; rw [o] at h1; exact absurd h1 Bool.false_ne_true
        · cases this
    refine ⟨R'.put hv rfl trivial, fun i hi => ?_, (oa_keep hv rfl).trans e⟩
    by_cases z : i = v
    · subst z
      exfalso
      unfold wipeE at hi
      by_cases zl : i < (wipeE env vs).length
      · rw [List.getElem?_set_self zl] at hi; exact absurd hi (by decide)
      · rw [List.getElem?_eq_none (by rw [List.length_set]; omega)] at hi; exact absurd hi (by decide)
    · unfold wipeE at hi
      rw [List.getElem?_set_ne (Ne.symm z)] at hi
      exact k i hi
/-- the owned slots are the same -/
def Near (σ : L2.St) (env : Env) (σ1 : L2.St) (env1 : Env) : Prop := ∀ (j : Nat) (o : OV), env[j]? = some (Slot.own o) → env1[j]? = some (Slot.own o) ∧ σ1[j]? = σ[j]?
theorem SlotsR.of_get : ∀ {σ : L2.St} {env : Env}, σ.length = env.length → (∀ (i : Nat) (x : Option V) (s : Slot), σ[i]? = some x → env[i]? = some s → SlotR K F H x s) → SlotsR K F H σ env
  | [], [], _, _ => .nil
  | [], _ :: _, h, _ => by simp at h
  | _ :: _, [], h, _ => by simp at h
  | x :: σ, s :: env, h, k => .cons (k 0 x s rfl rfl) (SlotsR.of_get (by simpa using h) fun i y u e1 e2 => k (i + 1) y u (by simpa using e1) (by simpa using e2))
theorem SlotsR.back (h : SlotsR K F H σ env) (h1 : SlotsR K F' H' σ1 env1) (s : Same F F') (n : Near σ env σ1 env1) : SlotsR K F' H' σ env := SlotsR.of_get h.length fun i x u e1 e2 => by
  obtain ⟨y, ey, q⟩ := h.get e2
  rw [e1] at ey
  cases ey
  cases u with
  | non => trivial
  | val v => obtain ⟨z, ez, q⟩ := q; exact ⟨z, ez, q.mono s⟩
  | own o =>
    obtain ⟨n1, n2⟩ := n i o e2
    obtain ⟨y, ey, q⟩ := h1.get n1
    rw [n2, e1] at ey
    cases ey
    exact q
/-- back from a block -/
theorem Rl.back {B' : Hp} (R : Rl K B σ env tp H) (R1 : Rl K B' σ1 env1 tp H') (e : oa σ1 env1 = oa σ env) (s : Same (fz σ env tp H) B') (n : Near σ env σ1 env1) : Rl K B σ env tp H' := by
  have le1 := R1.le
  have sl1 := R1.sl
  rw [e] at le1 sl1
  exact ⟨(R.le.trans s).trans le1, R.sl.back sl1 (s.trans le1) n, R.nd, R1.tk⟩

/-! ### targets -/
mutual
def gT (K : PySem.W.Frag) : T → TG
  | .nm i => gName i
  | .tp ts => fun v σ H Q => gTup K ts.length (gTs K ts) v σ H Q ∨ gLst K ts.length (gTs K ts) v σ H Q
def gTs (K : PySem.W.Frag) : List T → TGs
  | [] => gNil
  | t :: ts => gCons (gT K t) (gTs K ts)
end
mutual
def tN : T → List Nat
  | .nm i => [i]
  | .tp ts => tNs ts
def tNs : List T → List Nat
  | [] => []
  | t :: ts => tN t ++ tNs ts
end
/-- only these slots are touched, none of them owned -/
structure Put (vs : List Nat) (K : PySem.W.Frag) (B : Hp) (tp : Tp) (H : Hp) (σ : L2.St) (env : Env) (σ1 : L2.St) (env1 : Env) : Prop where
  rl : Rl K B σ1 env1 tp H
  oa_ : oa σ1 env1 = oa σ env
  out : ∀ i : Nat, i ∉ vs → σ1[i]? = σ[i]? ∧ env1[i]? = env[i]?
  own : ∀ i : Nat, i ∈ vs → isOwn env[i]? = false ∧ isOwn env1[i]? = false
theorem set_own {i j : Nat} {s : Slot} (h : isOwn env[j]? = false) (h' : isOwn (some s) = false) : isOwn (env.set i s)[j]? = false := by
  by_cases z : i = j
  · subst z
    by_cases zl : i < env.length
    · rw [List.getElem?_set_self zl]; exact h'
    · rw [List.getElem?_eq_none (by rw [List.length_set]; omega)]; rfl
  · rw [List.getElem?_set_ne z]; exact h
def noOwn (env : Env) (vs : List Nat) : Prop := ∀ i : Nat, i ∈ vs → isOwn env[i]? = false
mutual
theorem gT_of : ∀ (t : T) (d : D) (v : V) (σ : L2.St) (env : Env) (env1 : Env) (Q : L2.St → Hp → Prop), Rl K B σ env tp H → Rep (fz σ env tp H) v d → asg t d env = some env1 → noOwn env (tN t) → (∀ σ1, Put (tN t) K B tp H σ env σ1 env1 → Q σ1 H) → gT K t v σ H Q
  | .nm i, d, v, σ, env, env1, Q, R, r, e, n, q => by
    cases e
    have n' : isOwn env[i]? = false := n i (by simp [tN])
    refine q _ ⟨R.put n' rfl ⟨v, rfl, r⟩, oa_keep n' rfl, fun j hj => ?_, fun j hj => ?_⟩
    · have : i ≠ j := fun z => hj (by simp [tN, z])
      exact ⟨List.getElem?_set_ne this, List.getElem?_set_ne this⟩
    · have : j = i := by simpa [tN] using hj
      subst this
      exact ⟨n', set_own n' rfl⟩
  | .tp ts, d, v, σ, env, env1, Q, R, r, e, n, q => by
    cases d with
    | tuple xs =>
      obtain ⟨p, vs, rfl, h1, h2⟩ := rd_tup (RdR.of r (hide_same _ _))
      obtain ⟨hl, hh⟩ := gTs_of ts xs vs σ env env1 Q R h2 e n q
      exact .inl ⟨p, vs, rfl, .of (hide_same _ _ _ _ h1), by rw [h2.length, hl], hh⟩
    | list xs =>
      cases r with
      | lst h1 h2 =>
        obtain ⟨hl, hh⟩ := gTs_of ts xs _ σ env env1 Q R h2 e n q
        exact .inr ⟨_, _, rfl, .of (hide_same _ _ _ _ h1), by rw [h2.length, hl], hh⟩
    | _ => cases e
theorem gTs_of : ∀ (ts : List T) (ds : List D) (vs : List V) (σ : L2.St) (env : Env) (env1 : Env) (Q : L2.St → Hp → Prop), Rl K B σ env tp H → Reps (fz σ env tp H) vs ds → asgs ts ds env = some env1 → noOwn env (tNs ts) → (∀ σ1, Put (tNs ts) K B tp H σ env σ1 env1 → Q σ1 H) → ds.length = ts.length ∧ gTs K ts vs σ H Q
  | [], ds, vs, σ, env, env1, Q, R, r, e, n, q => by
    cases r with
    | nil =>
      cases e
      exact ⟨rfl, rfl, q σ ⟨R, rfl, fun _ _ => ⟨rfl, rfl⟩, fun _ h => nomatch h⟩⟩
    | cons _ _ => cases e
  | t :: ts, ds, vs, σ, env, env1, Q, R, r, e, n, q => by
    cases r with
    | nil => cases e
    | @cons v vs d ds h1 h2 =>
      unfold asgs at e
      split at e
      · rename_i env' e'
        have n1 : noOwn env (tN t) := fun i hi => n i (List.mem_append_left _ hi)
        refine ⟨?_, v, vs, rfl, gT_of t d v σ env env' _ R h1 e' n1 fun σ1 P => ?_⟩
        · have k := gTs_len ts ds env' env1 e
          rw [List.length_cons, List.length_cons, k]
        · have n2 : noOwn env' (tNs ts) := fun i hi => by
            by_cases z : i ∈ tN t
            · exact (P.own i z).2
            · rw [(P.out i z).2]; exact n i (List.mem_append_right _ hi)
          have h2' : Reps (fz σ1 env' tp H) vs ds := by
            unfold fz
            rw [P.oa_]
            exact h2
          refine (gTs_of ts ds vs σ1 env' env1 Q P.rl h2' e n2 fun σ2 P2 => q σ2 ⟨P2.rl, P2.oa_.trans P.oa_, fun i hi => ?_, fun i hi => ?_⟩).2
          · have i1 : i ∉ tN t := fun z => hi (List.mem_append_left _ z)
            have i2 : i ∉ tNs ts := fun z => hi (List.mem_append_right _ z)
            exact ⟨(P2.out i i2).1.trans (P.out i i1).1, (P2.out i i2).2.trans (P.out i i1).2⟩
          · refine ⟨n i hi, ?_⟩
            by_cases z : i ∈ tNs ts
            · exact (P2.own i z).2
            · rw [(P2.out i z).2]
              by_cases z' : i ∈ tN t
              · exact (P.own i z').2
              · exact absurd hi (fun h => (List.mem_append.mp h).elim z' z)
      · cases e
theorem gTs_len : ∀ (ts : List T) (ds : List D) (env env1 : Env), asgs ts ds env = some env1 → ds.length = ts.length
  | [], [], _, _, _ => rfl
  | [], _ :: _, _, _, e => by cases e
  | _ :: _, [], _, _, e => by cases e
  | t :: ts, d :: ds, env, env1, e => by
    unfold asgs at e
    split at e
    · rw [List.length_cons, List.length_cons, gTs_len ts ds _ _ e]
    · cases e
end
end
end Pv
/-! PvZ: tuples turned about; zip and enumerate over lists and tuples. -/
namespace Pv
open PySem PySem.Spec PyProof.Rows L2 HT
section
variable {prog : Program} {w : World} {A : Around} {E : Value → Shared → Prop} {s : Shared}
theorem adjust_rev (n : Nat) : Builtin.Slice.sliceAdjust none none (-1) (n : Int) = ((n : Int) - 1, -1) := by
  unfold Builtin.Slice.sliceAdjust
  simp
theorem places_rev (n : Nat) : Builtin.Slice.slicePlaces ((n : Int) - 1) (-1) (-1) = n := by
  unfold Builtin.Slice.slicePlaces
  simp
  omega
theorem fm_congr {α β : Type} {f g : α → Option β} : ∀ {l : List α}, (∀ x ∈ l, f x = g x) → l.filterMap f = l.filterMap g
  | [], _ => rfl
  | x :: l, h => by
    rw [List.filterMap_cons, List.filterMap_cons, h x List.mem_cons_self, fm_congr fun y hy => h y (List.mem_cons_of_mem _ hy)]
theorem pick_rev (xs : Array Value) : ((List.range xs.size).filterMap fun (m : Nat) => xs[((xs.size : Int) - 1 + (m : Int) * (-1)).toNat]?).toArray = xs.toList.reverse.toArray := by
  congr 1
  apply List.ext_getElem?
  intro i
  have e : (List.range xs.size).filterMap (fun (m : Nat) => xs[((xs.size : Int) - 1 + (m : Int) * (-1)).toNat]?) = (List.range xs.size).map fun m => xs.toList.reverse.getD m .none := by
    rw [← List.filterMap_eq_map]
    refine fm_congr fun m hm => ?_
    have hm := List.mem_range.mp hm
    have e1 : ((xs.size : Int) - 1 + (m : Int) * (-1)).toNat = xs.size - 1 - m := by omega
    rw [e1]
    simp only [Function.comp_apply]
    rw [List.getD_eq_getElem?_getD, List.getElem?_reverse (by simpa using hm)]
    have : xs.size - 1 - m < xs.size := by omega
    simp [Array.getElem?_eq_getElem this]
  rw [e]
  by_cases h : i < xs.size
  · rw [List.getElem?_map, List.getElem?_range h]
    simp only [Option.map_some]
    rw [List.getD_eq_getElem?_getD]
    have : i < xs.toList.reverse.length := by simpa using h
    rw [List.getElem?_eq_getElem this]
    rfl
  · rw [List.getElem?_eq_none (by simpa using h), List.getElem?_eq_none (by simpa using h)]
theorem getItem_tuple_rev {t sl : Addr} {items : Array Value} {vl vu vs : Value} {Q : Value → Shared → Prop} (ht : IsTup s.heap t items) (hs : s.heap.IsSliceOf sl vl vu vs) (pl : IsPart vl none) (pu : IsPart vu none) (ps : IsPart vs (some (-1)))
    (h : Q (.ref s.heap.objs.size) { s with heap := s.heap.push { cls := .type "tuple", data := .seq items.toList.reverse.toArray } })
    (hsz : items.size ≤ sizeLine) : wpAny (model prog w) A (getItem (.ref t) (.ref sl)) Q E s := by
  have htake : sizeOk (.seq items.toList.reverse.toArray) := by
    show items.toList.reverse.toArray.size ≤ sizeLine
    simpa using hsz
  obtain ⟨os, hos, hcs, hds⟩ := id hs
  have hTs : s.TypeIs (.ref sl) "slice" := ⟨os, hos, hcs⟩
  unfold getItem
  try with_reducible refine wpAny_holding ?_
  first | refine wpAny_bind (wpAny_pure ?_) | skip
  refine wpAny_bind (wpAny_sequenceKey ht.typeIs (by decide) ?_)
  refine wpAny_bind (wpAny_callSpecial?_slot (name := Str.ofString "__getitem__") ht.typeIs PyProof.Rows.slot_tuple_getitem
    (wpAny_call_entry PyProof.Rows.slot_tuple_getitem ht.typeIs entry_tuple_getitem ?_ (args_tuple_getitem _ _)))
  show wpAny _ _ (Builtin.Tuple.tupleItemsOf (.ref t) >>= _) _ _ s
  refine wpAny_bind (tupleItemsOf_ ht ?_)
  refine wpAny_bind (wpAny_typeOf hTs ?_)
  rw [if_pos (by decide)]
  refine wpAny_bind (?_ : wpAny _ _ (Builtin.Slice.sliceApplied (.ref sl) (pure (items.size : Int))) _ _ s)
  unfold Builtin.Slice.sliceApplied Builtin.Slice.sliceFields
  refine wpAny_bind (wpAny_bind (wpAny_field hos hds (x := vl) rfl (wpAny_bind (wpAny_field hos hds (x := vu) rfl (wpAny_bind (wpAny_field hos hds (x := vs) rfl (wpAny_pure ?_)))))))
  refine wpAny_bind (slicePart_ ps ?_)
  show wpAny _ _ (if ((-1 : Int) == 0) = true then _ else _) _ _ s
  rw [if_neg (by decide)]
  refine wpAny_bind (slicePart_ pl (wpAny_bind (slicePart_ pu (wpAny_bind (wpAny_pure ?_)))))
  show wpAny _ _ (match Builtin.Slice.sliceAdjust none none (-1) (items.size : Int) with | (lo, hi) => pure (lo, (-1 : Int), Builtin.Slice.slicePlaces lo hi (-1))) _ _ s
  rw [adjust_rev]
  show wpAny _ _ (pure ((items.size : Int) - 1, (-1 : Int), Builtin.Slice.slicePlaces ((items.size : Int) - 1) (-1) (-1))) _ _ s
  rw [places_rev]
  refine wpAny_pure ?_
  have hno : ¬ ((((items.size : Int) - 1) == 0 && (-1 : Int) == 1 && (items.size == items.size)) = true) := by simp
  show wpAny _ _ (if (((items.size : Int) - 1) == 0 && (-1 : Int) == 1 && (items.size == items.size)) = true then _ else _) _ _ s
  rw [if_neg hno, pick_rev]
  first
    | exact wpAny_bind (m := Builtin.Tuple.tupleExact _) (wpAny_newObj_type (wpAny_pure ⟨_, rfl, wpAny_pure h⟩) htake)
    | exact wpAny_bind (m := Builtin.Tuple.tupleExact _) (wpAny_newObj_type (wpAny_bind (wpAny_pure (wpAny_pure ⟨_, rfl, wpAny_pure h⟩))) htake)
    | exact wpAny_bind (wpAny_bind (m := Builtin.Tuple.tupleExact _) (wpAny_newObj_type (wpAny_pure (wpAny_pure ⟨_, rfl, wpAny_pure h⟩)) htake))
    | exact wpAny_bind (wpAny_bind (m := Builtin.Tuple.tupleExact _) (wpAny_newObj_type (wpAny_pure ⟨_, rfl, wpAny_pure h⟩) htake))
end
def tRevT (K : PySem.W.Frag) (te : TE) : TE := fun σ H Q => te σ H fun x H1 => ∃ a xs, x = .ref a ∧ SqT K H1 a xs ∧ ∀ p, H1 p = none → Q (.ref p) (upd H1 p (.tup xs.reverse))
theorem pe_revT {X : Cx} {e : Expr} {te : TE} {k : Nat} {p1 p2 p3 pos : Pos} (he : PE X e te) : PE X (.Subscript e (.Slice none none (some (.UnaryOp .USub (.Constant (.int 1) k p1) p2)) p3) pos) (tRevT X.K te) := by
  refine ⟨fun pins s σ H Q I h => ?_⟩
  refine Subscript_ (thn (he.run pins s σ H _ I h) fun v s1 ⟨x, H1, I1, r1, q1⟩ => ?_)
  obtain ⟨a, xs, ex, hx, q⟩ := q1
  subst ex
  cases r1
  have hst : PO X (some (.UnaryOp .USub (.Constant (.int 1) k p1) p2)) (tPart (tUn (rU fun i => .int (-i)) (tC (.int 1)))) := po_some (pe_un un_neg pe_int)
  refine wpAny_Slice (thn (po_none.run pins s1 σ H1 (fun o H2 => o = none ∧ H2 = H1) I1 ⟨rfl, rfl⟩) fun vl s2 ⟨l, H2, I2, pl, el, e2⟩ => ?_)
  subst el e2
  refine thn (po_none.run pins s2 σ H2 (fun o H3 => o = none ∧ H3 = H2) I2 ⟨rfl, rfl⟩) fun vu s3 ⟨u, H3, I3, pu, eu, e3⟩ => ?_
  subst eu e3
  refine thn (hst.run pins s3 σ H3 (fun o H4 => o = some (-1) ∧ H4 = H3) I3 ⟨1, rfl, -1, rfl, rfl, rfl⟩) fun vs s4 ⟨o, H4, I4, ps, eo, e4⟩ => ?_
  subst eo e4
  have I5 : Inv X pins σ H4 { s4 with heap := s4.heap.push { cls := .type "slice", data := .fields #[vl, vu, vs] } } := I4.kept (t' := s4.toks) fun b ob q => Heap.get?_push_of_some _ q
  obtain ⟨its, r, ht, hz⟩ := I5.tuple hx
  have hlen := r.length
  show wpAny (model X.prog X.w) X.A (subscriptTail e (.Slice none none (some (.UnaryOp .USub (.Constant (.int 1) k p1) p2)) p3) (.ref a) (.ref s4.heap.objs.size)) (EP X pins σ Q) X.xe { s4 with heap := s4.heap.push { cls := .type "slice", data := .fields #[vl, vu, vs] } }
  refine tail_any (ops := [.ref a, .ref s4.heap.objs.size]) ht.typeIs (PyProof.Rows.slot_tuple_getitem.lookup) ?_ (by with_unfolding_all rfl)
  refine getItem_tuple_rev ht (Heap.IsSliceOf.new _ vl vu vs) pl pu ps ?_ (by rw [List.size_toArray]; omega)
  refine ⟨.ref _, _, I5.laid (t' := s4.toks) (o := .tup xs.reverse) (fun b ob q => Heap.get?_push_of_some _ q) (Nat.le_refl _) ?_, rfl, q _ (I5.hok.fresh (Nat.le_refl _))⟩
  exact ⟨by rw [List.length_reverse]; exact hz, _, r.reverse, IsTup.new _ _⟩
/-! ### lists and tuples alike -/
def SqB (K : PySem.W.Frag) (b : Bool) (H : Hp) (a : Addr) (xs : List V) : Prop := if b = true then SqT K H a xs else SqL K H a xs
def IsSq (b : Bool) (h : Heap) (a : Addr) (its : Array Value) : Prop := if b = true then h.IsTuple a its else h.IsList a its
def IterB (b : Bool) (h : Heap) (it a : Addr) (i : Nat) : Prop := if b = true then h.IsTupleIter it a i else h.IsListIter it a i
theorem draws_b (b : Bool) {prog : Program} {w : World} {A : Around} (hh : A.handled = none) (it l : Addr) (hne : l ≠ it) (items : Array Value) : Draws prog w A it [it, l] items.size (fun i v => items[i]? = some v) (fun i h => IterB b h it l i ∧ IsSq b h l items) := by
  cases b with
  | true => exact Draws.tuple hh it l hne items
  | false => exact Draws.list hh it l hne items
theorem inv_sq {X : Cx} {pins : List (Addr × Obj)} {σ : L2.St} {H : Hp} {s : Shared} {b : Bool} {a : Addr} {xs : List V} (I : Inv X pins σ H s) (h : SqB X.K b H a xs) : ∃ its : List Value, Vals xs its ∧ IsSq b s.heap a its.toArray ∧ a < s.heap.objs.size := by
  cases b with
  | true =>
    obtain ⟨its, r, p, _⟩ := I.tuple h
    obtain ⟨o, ho, _⟩ := id p
    exact ⟨its, r, p, Heap.lt_size ho⟩
  | false =>
    obtain ⟨its, r, p, _⟩ := I.list h
    exact ⟨its, r, p.isList, p.lt⟩
theorem iterB_obj {b : Bool} {h : Heap} {it a : Addr} {i : Nat} (st : IterB b h it a i) : ∃ o, h.get? it = some o ∧ ∀ v, o.data ≠ .cell v := by
  cases b with
  | true => obtain ⟨o, e, _, d⟩ := st; exact ⟨o, e, fun v q => by rw [d] at q; cases q⟩
  | false => obtain ⟨o, e, _, d⟩ := st; exact ⟨o, e, fun v q => by rw [d] at q; cases q⟩
theorem iterB_at {b : Bool} {h h' : Heap} {it a : Addr} {i : Nat} (st : IterB b h it a i) (k : ∀ o, h.get? it = some o → h'.get? it = some o) : IterB b h' it a i := by
  cases b with
  | true => exact Heap.IsTupleIter.at st k
  | false => exact Heap.IsListIter.at st k
theorem isSq_at {b : Bool} {h h' : Heap} {a : Addr} {its : Array Value} (st : IsSq b h a its) (k : ∀ o, h.get? a = some o → h'.get? a = some o) : IsSq b h' a its := by
  cases b with
  | true => exact Heap.IsTuple.at st k
  | false => exact Heap.IsList.at st k
theorem begins_b (b : Bool) (l : Addr) (items : Array Value) : Begins (.ref l) { cls := .type (if b = true then "tuple_iterator" else "list_iterator"), data := .fields #[.ref l, .int 0 0] } fun h => IsSq b h l items := by
  cases b with
  | true => exact begins_tuple l items
  | false => exact begins_list l items
theorem iterB_new {b : Bool} {h : Heap} {it l : Addr} (e : h.get? it = some { cls := .type (if b = true then "tuple_iterator" else "list_iterator"), data := .fields #[.ref l, .int 0 0] }) : IterB b h it l 0 := by
  cases b with
  | true => exact ⟨_, e, rfl, rfl⟩
  | false => exact ⟨_, e, rfl, rfl⟩
theorem vals_at {xs : List V} {its : List Value} (r : Vals xs its) {i : Nat} {x : V} (hx : xs[i]? = some x) {u : Value} (hu : its.toArray[i]? = some u) : RelV x u := by
  obtain ⟨u', e, q⟩ := r.get hx
  have : its[i]? = some u := by simpa using hu
  rw [e] at this
  cases this
  exact q
/-! ### zip of two -/
def ItzB (K : PySem.W.Frag) (b1 b2 : Bool) (a b : Addr) (xs ys : List V) : It :=
  ⟨fun i H => SqB K b1 H a xs ∧ SqB K b2 H b ys ∧ i < xs.length ∧ i < ys.length,
    fun i H v H' => ∃ T x y, v = .ref T ∧ H T = none ∧ H' = upd H T (.tup [x, y]) ∧ xs[i]? = some x ∧ ys[i]? = some y,
    fun i H => SqB K b1 H a xs ∧ SqB K b2 H b ys ∧ i ≤ xs.length ∧ i ≤ ys.length ∧ (i = xs.length ∨ i = ys.length)⟩
theorem turn_zipB {P : Program} {w : World} {K : PySem.W.Frag} {elts : List Expr} {kk : Nat} {tpos : Pos} {a b z TI TO i1 i2 : Addr} {xs ys : List V} (b1 b2 : Bool) (D : ZipSep2 z TI TO i1 i2 [i1, a] [i2, b]) (n1 : a ≠ i1) (n2 : b ≠ i2) :
    Turn P w K (.Tuple elts kk tpos) (ItzB K b1 b2 a b xs ys) [z, TI, TO, i1, i2] z (fun i h => IsZip h z TI TO .none ∧ IsTupOf2 h TI (.ref i1) (.ref i2) ∧ (∃ x y, IsTupOf2 h TO x y) ∧ IterB b1 h i1 a i ∧ IterB b2 h i2 b i) where
  mem := by simp
  obj := fun i h st c hc => by
    obtain ⟨hz, hTI, ⟨x, y, hTO⟩, h1, h2⟩ := st
    have e' : c = z ∨ c = TI ∨ c = TO ∨ c = i1 ∨ c = i2 := by simpa using hc
    rcases e' with q | q | q | q | q
    · rw [q]; exact ⟨_, hz, fun v q => nomatch q⟩
    · rw [q]; exact ⟨_, hTI, fun v q => nomatch q⟩
    · rw [q]; exact ⟨_, hTO, fun v q => nomatch q⟩
    · rw [q]; exact iterB_obj h1
    · rw [q]; exact iterB_obj h2
  keep := fun i h h' st k => by
    obtain ⟨hz, hTI, ⟨x, y, hTO⟩, h1, h2⟩ := st
    exact ⟨k z (by simp) _ hz, k TI (by simp) _ hTI, ⟨x, y, k TO (by simp) _ hTO⟩, iterB_at h1 fun o q => k i1 (by simp) o q, iterB_at h2 fun o q => k i2 (by simp) o q⟩
  item := by
    intro X hP hw hK hc i pins s σ H E I hf st hg
    subst hP hw hK
    obtain ⟨hz, hTI, ⟨x0, y0, hTO⟩, h1, h2⟩ := st
    obtain ⟨hqx, hqy, l1, l2⟩ := hg
    obtain ⟨its, rv, p, _⟩ := inv_sq I hqx
    obtain ⟨its2, rv2, p2, _⟩ := inv_sq I hqy
    have hx : xs[i]? = some xs[i] := List.getElem?_eq_getElem l1
    have hy : ys[i]? = some ys[i] := List.getElem?_eq_getElem l2
    have e1 := rv.length
    have e2 := rv2.length
    have hzl : z < s.heap.objs.size := Heap.lt_size hz
    refine wpAny_pyNext_zipD2_item D (draws_b b1 (A := X.A.in1) (I.ok.hd hc) i1 a n1 its.toArray) (draws_b b2 (A := X.A.in1) (I.ok.hd hc) i2 b n2 its2.toArray) hz hTI hTO ⟨h1, p⟩ ⟨h2, p2⟩ (by simp; omega) (by simp; omega)
      fun u u2 h' tk hu hu2 z' TO' st1' st2' hT hsz hk => ?_
    obtain ⟨h1', _⟩ := st1'
    obtain ⟨h2', _⟩ := st2'
    refine ⟨_, rfl, wpAny_letOwnedTupleGo_zip (s := { s with heap := h', toks := tk }) z' fun h'' z'' sb => ?_⟩
    have hT2 : h''.get? s.heap.objs.size = some { cls := .type "tuple", data := .seq #[u, u2] } := (sb.2 _ (Nat.ne_of_gt hzl)).trans hT
    have new : ObjOk X.prog X.w (upd H s.heap.objs.size (.tup [xs[i], ys[i]])) h'' s.heap.objs.size (.tup [xs[i], ys[i]]) :=
      ⟨by show 2 ≤ sizeLine; decide, [u, u2], .cons (vals_at rv hx hu) (.cons (vals_at rv2 hy hu2) .nil), ⟨_, hT2, rfl, _, rfl⟩⟩
    have I1 : Inv X pins σ (upd H s.heap.objs.size (.tup [xs[i], ys[i]])) { s with heap := h'', toks := tk } :=
      I.turnedNew (ch := [z, TI, TO, i1, i2]) (fun c o hb q => (sb.2 c (fun q' => hb (by simp [q']))).trans (hk c o (fun q' => hb (by simp [q'])) (fun q' => hb (by simp [q'])) (fun q' => hb (by simp [q'])) (fun q' => hb (by simp [q'])) q)) hf (Nat.le_refl _) new
    refine ⟨.ref s.heap.objs.size, _, I1, rfl, ⟨_, xs[i], ys[i], rfl, I.hok.fresh (Nat.le_refl _), rfl, hx, hy⟩, ⟨z'', ?_, ⟨u, u2, ?_⟩, ?_, ?_⟩, fun c hcm => ?_⟩
    · exact (sb.2 _ D.TIz).trans (hk _ _ D.TIz D.TITO D.TIi1 D.TIi2 hTI)
    · exact (sb.2 _ D.TOz).trans TO'
    · exact iterB_at h1' fun o q => (sb.2 _ D.zi1.symm).trans q
    · exact iterB_at h2' fun o q => (sb.2 _ D.zi2.symm).trans q
    · have hlt : c < s.heap.objs.size := by
        have e' : c = z ∨ c = TI ∨ c = TO ∨ c = i1 ∨ c = i2 := by simpa using hcm
        rcases e' with q | q | q | q | q
        · rw [q]; exact hzl
        · rw [q]; exact Heap.lt_size hTI
        · rw [q]; exact Heap.lt_size hTO
        · rw [q]; obtain ⟨_, e1, _⟩ := iterB_obj h1; exact Heap.lt_size e1
        · rw [q]; obtain ⟨_, e2, _⟩ := iterB_obj h2; exact Heap.lt_size e2
      rw [upd_ne (Nat.ne_of_lt hlt)]
      exact (hf c hcm).1
  done := by
    intro X hP hw hK hc i pins s σ H E I hf st hg
    subst hP hw hK
    obtain ⟨hz, hTI, ⟨x0, y0, hTO⟩, h1, h2⟩ := st
    obtain ⟨hqx, hqy, l1, l2, hend⟩ := hg
    obtain ⟨its, rv, p, _⟩ := inv_sq I hqx
    obtain ⟨its2, rv2, p2, _⟩ := inv_sq I hqy
    have e1 := rv.length
    have e2 := rv2.length
    refine wpAny_pyNext_zipD2_end D (draws_b b1 (A := X.A.in1) (I.ok.hd hc) i1 a n1 its.toArray) (draws_b b2 (A := X.A.in1) (I.ok.hd hc) i2 b n2 its2.toArray) hz hTI hTO ⟨h1, p⟩ ⟨h2, p2⟩ (by simp; omega) (by simp; omega) (by simp; omega)
      fun h' tk hk => ⟨rfl, I.turnedL (t' := tk) (ch := [z, TI, TO, i1, i2]) (fun c o hb q =>
      hk c o (fun q' => hb (by simp [q'])) (fun q' => hb (by simp [q'])) (fun q' => hb (by simp [q'])) (fun q' => hb (by simp [q'])) q) hf⟩
  self := fun A i s Q E st h => wpAny_pyIter_zip st.1 h
def iZipB (K : PySem.W.Frag) (ta : TA) : TI := fun σ H R => ta σ H fun vs H1 => ∃ a b xs ys b1 b2, vs = [.ref a, .ref b] ∧ SqB K b1 H1 a xs ∧ SqB K b2 H1 b ys ∧ R (ItzB K b1 b2 a b xs ys) H1
theorem sep2_of {N a b : Nat} (ha : a < N) (hb : b < N) : ZipSep2 (N + 4) (N + 2) (N + 3) N (N + 1) [N, a] [N + 1, b] := zip_sep2 (fp1 := [a]) (fp2 := [b]) (fun c hc => by rw [List.mem_singleton.mp hc]; assumption) (fun c hc => by rw [List.mem_singleton.mp hc]; assumption)
theorem pi_zipB {X : Cx} {e e2 : Expr} {ta : TA} {p pos tpos : Pos} {elts : List Expr} {kk : Nat} (hg : Gl X "zip") (hm : X.mg "zip" = none) (ha : PA X [e, e2] ta)
    (hs : starEach [e, e2] X.env = (false, eval e X.env) :: starEach [e2] X.env := by rfl) (hpl : (backTo pos (starEach [e2] X.env)).any (·.1) = false := by rfl) :
    PI X (.Tuple elts kk tpos) (.Call (.Name "zip" p) [e, e2] [] pos) (iZipB X.K ta) := by
  refine ⟨fun pins s σ H R I h => ?_⟩
  refine Call_ (ld_blt I hg hm PyProof.Rows.boot_zip (PyProof.Rows.callWith_type1 (thn (ha.run pos pins s σ H _ I h) fun us s1 ⟨vs, H1, I1, r1, q1⟩ => ?_) hs hpl))
  obtain ⟨a, b, xs, ys, b1, b2, ex, hqx, hqy, q⟩ := q1
  subst ex
  cases r1 with
  | cons r rr =>
    cases rr with
    | cons r' rr =>
      cases rr
      cases r
      cases r'
      have fresh5 : ∀ c, c ∈ [s1.heap.objs.size + 4, s1.heap.objs.size + 2, s1.heap.objs.size + 3, s1.heap.objs.size, s1.heap.objs.size + 1] → FpOk X pins H1 c := fun c hcm => by
        have e' : c = s1.heap.objs.size + 4 ∨ c = s1.heap.objs.size + 2 ∨ c = s1.heap.objs.size + 3 ∨ c = s1.heap.objs.size ∨ c = s1.heap.objs.size + 1 := by simpa using hcm
        have hle : s1.heap.objs.size ≤ c := by
          rcases e' with z | z | z | z | z
          · rw [z]; exact Nat.le_add_right _ _
          · rw [z]; exact Nat.le_add_right _ _
          · rw [z]; exact Nat.le_add_right _ _
          · rw [z]; exact Nat.le_refl _
          · rw [z]; exact Nat.le_add_right _ _
        exact I1.fpOk hle (I1.hok.fresh hle)
      obtain ⟨its, rv, p1, la⟩ := inv_sq I1 hqx
      obtain ⟨its2, rv2, p2, lb⟩ := inv_sq I1 hqy
      refine zip_begins2 (begins_b b1 a its.toArray) (begins_b b2 b its2.toArray) p1 p2 fun h' hz hTI hTO h1 h2 hsz hk => wpAny_pyIter_zip hz ?_
      have I2 : Inv X pins σ H1 { s1 with heap := h' } := I1.kept (t' := s1.toks) hk
      exact ⟨s1.heap.objs.size + 4, [s1.heap.objs.size + 4, s1.heap.objs.size + 2, s1.heap.objs.size + 3, s1.heap.objs.size, s1.heap.objs.size + 1], _, _, H1, rfl, I2, turn_zipB b1 b2 (sep2_of la lb) (Nat.ne_of_lt la) (Nat.ne_of_lt (Nat.lt_succ_of_lt lb)), ⟨hz, hTI, ⟨_, _, hTO⟩, iterB_new h1, iterB_new h2⟩, fresh5, q⟩
/-! ### zip of three -/
def ItzB3 (K : PySem.W.Frag) (b1 b2 b3 : Bool) (a b c : Addr) (xs ys zs : List V) : It :=
  ⟨fun i H => SqB K b1 H a xs ∧ SqB K b2 H b ys ∧ SqB K b3 H c zs ∧ i < xs.length ∧ i < ys.length ∧ i < zs.length,
    fun i H v H' => ∃ T x y z, v = .ref T ∧ H T = none ∧ H' = upd H T (.tup [x, y, z]) ∧ xs[i]? = some x ∧ ys[i]? = some y ∧ zs[i]? = some z,
    fun i H => SqB K b1 H a xs ∧ SqB K b2 H b ys ∧ SqB K b3 H c zs ∧ i ≤ xs.length ∧ i ≤ ys.length ∧ i ≤ zs.length ∧ (i = xs.length ∨ i = ys.length ∨ i = zs.length)⟩
theorem turn_zipB3 {P : Program} {w : World} {K : PySem.W.Frag} {elts : List Expr} {kk : Nat} {tpos : Pos} {a b d z TI TO i1 i2 i3 : Addr} {xs ys zs : List V} (b1 b2 b3 : Bool) (D : ZipSep3 z TI TO i1 i2 i3 [i1, a] [i2, b] [i3, d]) (n1 : a ≠ i1) (n2 : b ≠ i2) (n3 : d ≠ i3) :
    Turn P w K (.Tuple elts kk tpos) (ItzB3 K b1 b2 b3 a b d xs ys zs) [z, TI, TO, i1, i2, i3] z (fun i h => IsZip h z TI TO .none ∧ IsTupOf3 h TI (.ref i1) (.ref i2) (.ref i3) ∧ (∃ x y u, IsTupOf3 h TO x y u) ∧ IterB b1 h i1 a i ∧ IterB b2 h i2 b i ∧ IterB b3 h i3 d i) where
  mem := by simp
  obj := fun i h st c hc => by
    obtain ⟨hz, hTI, ⟨x, y, u, hTO⟩, h1, h2, h3⟩ := st
    have e' : c = z ∨ c = TI ∨ c = TO ∨ c = i1 ∨ c = i2 ∨ c = i3 := by simpa using hc
    rcases e' with q | q | q | q | q | q
    · rw [q]; exact ⟨_, hz, fun v q => nomatch q⟩
    · rw [q]; exact ⟨_, hTI, fun v q => nomatch q⟩
    · rw [q]; exact ⟨_, hTO, fun v q => nomatch q⟩
    · rw [q]; exact iterB_obj h1
    · rw [q]; exact iterB_obj h2
    · rw [q]; exact iterB_obj h3
  keep := fun i h h' st k => by
    obtain ⟨hz, hTI, ⟨x, y, u, hTO⟩, h1, h2, h3⟩ := st
    exact ⟨k z (by simp) _ hz, k TI (by simp) _ hTI, ⟨x, y, u, k TO (by simp) _ hTO⟩, iterB_at h1 fun o q => k i1 (by simp) o q, iterB_at h2 fun o q => k i2 (by simp) o q, iterB_at h3 fun o q => k i3 (by simp) o q⟩
  item := by
    intro X hP hw hK hc i pins s σ H E I hf st hg
    subst hP hw hK
    obtain ⟨hz, hTI, ⟨x0, y0, u0, hTO⟩, h1, h2, h3⟩ := st
    obtain ⟨hqx, hqy, hqz, l1, l2, l3⟩ := hg
    obtain ⟨its, rv, p, _⟩ := inv_sq I hqx
    obtain ⟨its2, rv2, p2, _⟩ := inv_sq I hqy
    obtain ⟨its3, rv3, p3, _⟩ := inv_sq I hqz
    have hx : xs[i]? = some xs[i] := List.getElem?_eq_getElem l1
    have hy : ys[i]? = some ys[i] := List.getElem?_eq_getElem l2
    have hw : zs[i]? = some zs[i] := List.getElem?_eq_getElem l3
    have e1 := rv.length
    have e2 := rv2.length
    have e3 := rv3.length
    have hzl : z < s.heap.objs.size := Heap.lt_size hz
    refine wpAny_pyNext_zipD3_item D (draws_b b1 (A := X.A.in1) (I.ok.hd hc) i1 a n1 its.toArray) (draws_b b2 (A := X.A.in1) (I.ok.hd hc) i2 b n2 its2.toArray) (draws_b b3 (A := X.A.in1) (I.ok.hd hc) i3 d n3 its3.toArray) hz hTI hTO ⟨h1, p⟩ ⟨h2, p2⟩ ⟨h3, p3⟩ (by simp; omega) (by simp; omega) (by simp; omega)
      fun u u2 u3 h' tk hu hu2 hu3 z' TO' st1' st2' st3' hT hsz hk => ?_
    obtain ⟨h1', _⟩ := st1'
    obtain ⟨h2', _⟩ := st2'
    obtain ⟨h3', _⟩ := st3'
    refine ⟨_, rfl, wpAny_letOwnedTupleGo_zip (s := { s with heap := h', toks := tk }) z' fun h'' z'' sb => ?_⟩
    have hT2 : h''.get? s.heap.objs.size = some { cls := .type "tuple", data := .seq #[u, u2, u3] } := (sb.2 _ (Nat.ne_of_gt hzl)).trans hT
    have new : ObjOk X.prog X.w (upd H s.heap.objs.size (.tup [xs[i], ys[i], zs[i]])) h'' s.heap.objs.size (.tup [xs[i], ys[i], zs[i]]) :=
      ⟨by show 3 ≤ sizeLine; decide, [u, u2, u3], .cons (vals_at rv hx hu) (.cons (vals_at rv2 hy hu2) (.cons (vals_at rv3 hw hu3) .nil)), ⟨_, hT2, rfl, _, rfl⟩⟩
    have I1 : Inv X pins σ (upd H s.heap.objs.size (.tup [xs[i], ys[i], zs[i]])) { s with heap := h'', toks := tk } :=
      I.turnedNew (ch := [z, TI, TO, i1, i2, i3]) (fun c o hb q => (sb.2 c (fun q' => hb (by simp [q']))).trans (hk c o (fun q' => hb (by simp [q'])) (fun q' => hb (by simp [q'])) (fun q' => hb (by simp [q'])) (fun q' => hb (by simp [q'])) (fun q' => hb (by simp [q'])) q)) hf (Nat.le_refl _) new
    refine ⟨.ref s.heap.objs.size, _, I1, rfl, ⟨_, xs[i], ys[i], zs[i], rfl, I.hok.fresh (Nat.le_refl _), rfl, hx, hy, hw⟩, ⟨z'', ?_, ⟨u, u2, u3, ?_⟩, ?_, ?_, ?_⟩, fun c hcm => ?_⟩
    · exact (sb.2 _ D.TIz).trans (hk _ _ D.TIz D.TITO D.TIi1 D.TIi2 D.TIi3 hTI)
    · exact (sb.2 _ D.TOz).trans TO'
    · exact iterB_at h1' fun o q => (sb.2 _ D.zi1.symm).trans q
    · exact iterB_at h2' fun o q => (sb.2 _ D.zi2.symm).trans q
    · exact iterB_at h3' fun o q => (sb.2 _ D.zi3.symm).trans q
    · have hlt : c < s.heap.objs.size := by
        have e' : c = z ∨ c = TI ∨ c = TO ∨ c = i1 ∨ c = i2 ∨ c = i3 := by simpa using hcm
        rcases e' with q | q | q | q | q | q
        · rw [q]; exact hzl
        · rw [q]; exact Heap.lt_size hTI
        · rw [q]; exact Heap.lt_size hTO
        · rw [q]; obtain ⟨_, e1, _⟩ := iterB_obj h1; exact Heap.lt_size e1
        · rw [q]; obtain ⟨_, e2, _⟩ := iterB_obj h2; exact Heap.lt_size e2
        · rw [q]; obtain ⟨_, e3, _⟩ := iterB_obj h3; exact Heap.lt_size e3
      rw [upd_ne (Nat.ne_of_lt hlt)]
      exact (hf c hcm).1
  done := by
    intro X hP hw hK hc i pins s σ H E I hf st hg
    subst hP hw hK
    obtain ⟨hz, hTI, ⟨x0, y0, u0, hTO⟩, h1, h2, h3⟩ := st
    obtain ⟨hqx, hqy, hqz, l1, l2, l3, hend⟩ := hg
    obtain ⟨its, rv, p, _⟩ := inv_sq I hqx
    obtain ⟨its2, rv2, p2, _⟩ := inv_sq I hqy
    obtain ⟨its3, rv3, p3, _⟩ := inv_sq I hqz
    have e1 := rv.length
    have e2 := rv2.length
    have e3 := rv3.length
    refine wpAny_pyNext_zipD3_end D (draws_b b1 (A := X.A.in1) (I.ok.hd hc) i1 a n1 its.toArray) (draws_b b2 (A := X.A.in1) (I.ok.hd hc) i2 b n2 its2.toArray) (draws_b b3 (A := X.A.in1) (I.ok.hd hc) i3 d n3 its3.toArray) hz hTI hTO ⟨h1, p⟩ ⟨h2, p2⟩ ⟨h3, p3⟩ (by simp; omega) (by simp; omega) (by simp; omega) (by simp; omega)
      fun h' tk hk => ⟨rfl, I.turnedL (t' := tk) (ch := [z, TI, TO, i1, i2, i3]) (fun c o hb q =>
      hk c o (fun q' => hb (by simp [q'])) (fun q' => hb (by simp [q'])) (fun q' => hb (by simp [q'])) (fun q' => hb (by simp [q'])) (fun q' => hb (by simp [q'])) q) hf⟩
  self := fun A i s Q E st h => wpAny_pyIter_zip st.1 h
def iZipB3 (K : PySem.W.Frag) (ta : TA) : TI := fun σ H R => ta σ H fun vs H1 => ∃ a b c xs ys zs b1 b2 b3, vs = [.ref a, .ref b, .ref c] ∧ SqB K b1 H1 a xs ∧ SqB K b2 H1 b ys ∧ SqB K b3 H1 c zs ∧ R (ItzB3 K b1 b2 b3 a b c xs ys zs) H1
theorem sep3_of {N a b c : Nat} (ha : a < N) (hb : b < N) (hc : c < N) : ZipSep3 (N + 5) (N + 3) (N + 4) N (N + 1) (N + 2) [N, a] [N + 1, b] [N + 2, c] := zip_sep3 (fp1 := [a]) (fp2 := [b]) (fp3 := [c]) (fun c hc => by rw [List.mem_singleton.mp hc]; assumption) (fun c hc => by rw [List.mem_singleton.mp hc]; assumption) (fun c hc => by rw [List.mem_singleton.mp hc]; assumption)
theorem pi_zipB3 {X : Cx} {e e2 e3 : Expr} {ta : TA} {p pos tpos : Pos} {elts : List Expr} {kk : Nat} (hg : Gl X "zip") (hm : X.mg "zip" = none) (ha : PA X [e, e2, e3] ta)
    (hs : starEach [e, e2, e3] X.env = (false, eval e X.env) :: starEach [e2, e3] X.env := by rfl) (hpl : (backTo pos (starEach [e2, e3] X.env)).any (·.1) = false := by rfl) :
    PI X (.Tuple elts kk tpos) (.Call (.Name "zip" p) [e, e2, e3] [] pos) (iZipB3 X.K ta) := by
  refine ⟨fun pins s σ H R I h => ?_⟩
  refine Call_ (ld_blt I hg hm PyProof.Rows.boot_zip (PyProof.Rows.callWith_type1 (thn (ha.run pos pins s σ H _ I h) fun us s1 ⟨vs, H1, I1, r1, q1⟩ => ?_) hs hpl))
  obtain ⟨a, b, c, xs, ys, zs, b1, b2, b3, ex, hqx, hqy, hqz, q⟩ := q1
  subst ex
  cases r1 with
  | cons r rr =>
    cases rr with
    | cons r' rr =>
      cases rr with
      | cons r'' rr =>
        cases rr
        cases r
        cases r'
        cases r''
        have fresh5 : ∀ d, d ∈ [s1.heap.objs.size + 5, s1.heap.objs.size + 3, s1.heap.objs.size + 4, s1.heap.objs.size, s1.heap.objs.size + 1, s1.heap.objs.size + 2] → FpOk X pins H1 d := fun d hcm => by
          have e' : d = s1.heap.objs.size + 5 ∨ d = s1.heap.objs.size + 3 ∨ d = s1.heap.objs.size + 4 ∨ d = s1.heap.objs.size ∨ d = s1.heap.objs.size + 1 ∨ d = s1.heap.objs.size + 2 := by simpa using hcm
          have hle : s1.heap.objs.size ≤ d := by
            rcases e' with z | z | z | z | z | z
            · rw [z]; exact Nat.le_add_right _ _
            · rw [z]; exact Nat.le_add_right _ _
            · rw [z]; exact Nat.le_add_right _ _
            · rw [z]; exact Nat.le_refl _
            · rw [z]; exact Nat.le_add_right _ _
            · rw [z]; exact Nat.le_add_right _ _
          exact I1.fpOk hle (I1.hok.fresh hle)
        obtain ⟨its, rv, p1, la⟩ := inv_sq I1 hqx
        obtain ⟨its2, rv2, p2, lb⟩ := inv_sq I1 hqy
        obtain ⟨its3, rv3, p3, lc⟩ := inv_sq I1 hqz
        refine zip_begins3 (begins_b b1 a its.toArray) (begins_b b2 b its2.toArray) (begins_b b3 c its3.toArray) p1 p2 p3 fun h' hz hTI hTO h1 h2 h3 hsz hk => wpAny_pyIter_zip hz ?_
        have I2 : Inv X pins σ H1 { s1 with heap := h' } := I1.kept (t' := s1.toks) hk
        exact ⟨s1.heap.objs.size + 5, [s1.heap.objs.size + 5, s1.heap.objs.size + 3, s1.heap.objs.size + 4, s1.heap.objs.size, s1.heap.objs.size + 1, s1.heap.objs.size + 2], _, _, H1, rfl, I2, turn_zipB3 b1 b2 b3 (sep3_of la lb lc) (Nat.ne_of_lt la) (Nat.ne_of_lt (Nat.lt_succ_of_lt lb)) (Nat.ne_of_lt (Nat.lt_succ_of_lt (Nat.lt_succ_of_lt lc))), ⟨hz, hTI, ⟨_, _, _, hTO⟩, iterB_new h1, iterB_new h2, iterB_new h3⟩, fresh5, q⟩
/-! ### enumerate of a tuple -/
def IteT (K : PySem.W.Frag) (a : Addr) (xs : List V) : It :=
  ⟨fun i H => SqT K H a xs ∧ i < xs.length, fun i H v H' => ∃ T x, v = .ref T ∧ H T = none ∧ H' = upd H T (.tup [.int (i : Nat), x]) ∧ xs[i]? = some x, fun i H => SqT K H a xs ∧ i = xs.length⟩
theorem turn_enumT {P : Program} {w : World} {K : PySem.W.Frag} {elts : List Expr} {kk : Nat} {tpos : Pos} {a e it : Addr} {xs : List V} (n1 : a ≠ it) (n2 : e ∉ [it, a]) :
    Turn P w K (.Tuple elts kk tpos) (IteT K a xs) [e, it] e (fun i h => (∃ old, IsEnum h e it ((i : Nat) : Int) old) ∧ IterB true h it a i) where
  mem := by simp
  obj := fun i h st b hb => by
    obtain ⟨⟨old, he⟩, hi⟩ := st
    have e' : b = e ∨ b = it := by simpa using hb
    rcases e' with z | z
    · rw [z]; exact ⟨_, he, fun v q => nomatch q⟩
    · rw [z]; exact iterB_obj hi
  keep := fun i h h' st k => let ⟨⟨old, he⟩, hi⟩ := st; ⟨⟨old, k e (by simp) _ he⟩, iterB_at hi fun o q => k it (by simp) o q⟩
  item := by
    intro X hP hw hK hc i pins s σ H E I hf st hg
    subst hP hw hK
    have hne : e ≠ it := fun z => n2 (by simp [z])
    obtain ⟨⟨old, he⟩, hit⟩ := st
    obtain ⟨hq, hl⟩ := hg
    obtain ⟨its, rv, p, _⟩ := inv_sq (b := true) I hq
    have hx : xs[i]? = some xs[i] := List.getElem?_eq_getElem hl
    have e1 := rv.length
    have hel : e < s.heap.objs.size := Heap.lt_size he
    have hil : it < s.heap.objs.size := by obtain ⟨_, q, _⟩ := iterB_obj hit; exact Heap.lt_size q
    refine wpAny_pyNext_enum_itemC (draws_b true (A := X.A.in1) (I.ok.hd hc) it a n1 its.toArray) he ⟨hit, p⟩ (by simp; omega) hne n2 fun u h' tk hu ho st' hT hsz hk => ?_
    obtain ⟨hit', _⟩ := st'
    refine ⟨_, rfl, wpAny_letOwnedTupleGo_enum (s := { s with heap := h', toks := tk + 1 }) ho fun h'' he' sb => ?_⟩
    have hT2 : h''.get? s.heap.objs.size = some { cls := .type "tuple", data := .seq #[.int i tk, u] } := (sb.2 _ (Nat.ne_of_gt hel)).trans hT
    have new : ObjOk X.prog X.w (upd H s.heap.objs.size (.tup [.int (i : Nat), xs[i]])) h'' s.heap.objs.size (.tup [.int (i : Nat), xs[i]]) :=
      ⟨by show 2 ≤ sizeLine; decide, [.int i tk, u], .cons ⟨_, rfl⟩ (.cons (vals_at rv hx hu) .nil), ⟨_, hT2, rfl, _, rfl⟩⟩
    have I1 : Inv X pins σ (upd H s.heap.objs.size (.tup [.int (i : Nat), xs[i]])) { s with heap := h'', toks := tk + 1 } :=
      I.turnedNew (ch := [e, it]) (fun b ob hb q => (sb.2 b (fun z => hb (by simp [z]))).trans (hk b ob (fun z => hb (by simp [z])) (fun z => hb (by simp [z])) q)) hf (Nat.le_refl _) new
    refine ⟨.ref s.heap.objs.size, _, I1, rfl, ⟨_, xs[i], rfl, I.hok.fresh (Nat.le_refl _), rfl, hx⟩, ⟨⟨u, ?_⟩, iterB_at hit' fun o q => (sb.2 it (Ne.symm hne)).trans q⟩, fun b hb => ?_⟩
    · have e1 : ((i + 1 : Nat) : Int) = (i : Int) + 1 := by omega
      rw [e1]; exact he'
    · have hb' : b < s.heap.objs.size := by
        have e' : b = e ∨ b = it := by simpa using hb
        rcases e' with z | z
        · rw [z]; exact hel
        · rw [z]; exact hil
      rw [upd_ne (Nat.ne_of_lt hb')]
      exact (hf b hb).1
  done := by
    intro X hP hw hK hc i pins s σ H E I hf st hg
    subst hP hw hK
    obtain ⟨⟨old, he⟩, hit⟩ := st
    obtain ⟨hq, rfl⟩ := hg
    obtain ⟨its, rv, p, _⟩ := inv_sq (b := true) I hq
    obtain ⟨f0, f1, f2, f3, f4, f5⟩ := hf it (by simp)
    have e1 := rv.length
    have es : its.toArray.size = xs.length := by simp; omega
    refine wpAny_pyNext_enum_endD (draws_b true (A := X.A.in1) (I.ok.hd hc) it a n1 its.toArray) he (by rw [es]; exact ⟨hit, p⟩) fun h' eb => ⟨rfl, I.turned (t' := s.toks) (fun b o hb q => eb b o hb q) f0 f1 f3 f4 f5⟩
  self := fun A i s Q E st h => let ⟨⟨_, he⟩, _⟩ := st; wpAny_pyIter_enum he h
theorem meets_enumT (l : Addr) (items : Array Value) (n : Nat) (dct : Option Addr) (sl : Array (Option Value)) :
    Meets (Builtin.«enumerate.__new__» ⟨[.type "enumerate", .ref l], []⟩) (fun _ R s => s.heap.get? l = some { cls := .type "tuple", dict := dct, data := .seq items n, slots := sl } ∧
      R (.ok (.ret (.ref (s.heap.push { cls := .type "tuple_iterator", data := .fields #[.ref l, .int 0 0] }).objs.size)))
        { s with heap := (s.heap.push { cls := .type "tuple_iterator", data := .fields #[.ref l, .int 0 0] }).push { cls := .type "enumerate", data := .fields #[.none, .bool false, .ref s.heap.objs.size, rawInt 0, .none, .none] } }) :=
  .of_wp fun prog w A R s h => by
    obtain ⟨hp, g, d, tk, os⟩ := s; obtain ⟨hl, h⟩ := h
    have hsub := sub_enumerate
    have hL : Heap.IsTuple (Shared.heap ⟨hp, g, d, tk, os⟩) l items := ⟨_, hl, rfl, n, rfl⟩
    wp_walk using AutoSeq1.wpAny_loadPart' hl
    refine wpAny_stack_any fun st => wpAny_pure ?_
    split
    · rename_i c _ _ _ _ _
      cases (c == Value.type "enumerate")
      · wp_walk using AutoSeq1.wpAny_loadPart' hl, wpAny_pyIter_tuple hL
        exact ⟨_, rfl, h⟩
      · wp_walk using AutoSeq1.wpAny_loadPart' hl, wpAny_pyIter_tuple hL
        exact ⟨_, rfl, h⟩
    · wp_walk using AutoSeq1.wpAny_loadPart' hl, wpAny_pyIter_tuple hL
      exact ⟨_, rfl, h⟩
section
variable {prog : Program} {w : World} {A : Around} {E : Value → Shared → Prop} {s : Shared}
theorem call_enumT {l : Addr} {items : Array Value} {Q : Value → Shared → Prop} (hL : s.heap.IsTuple l items)
    (h : ∀ h', IsEnum h' (s.heap.objs.size + 1) s.heap.objs.size 0 .none → IterB true h' s.heap.objs.size l 0 → (∀ b o, s.heap.get? b = some o → h'.get? b = some o) → Q (.ref (s.heap.objs.size + 1)) { s with heap := h' }) :
    wpAny (model prog w) A (call (.type "enumerate") [.ref l]) Q E s := by
  obtain ⟨⟨c, dct, dt, sl⟩, hl, hc, n, hd⟩ := hL
  replace hc : c = .type "tuple" := hc
  replace hd : dt = .seq items n := hd
  subst hc hd
  refine callType_new F.called_enumerate (by decide) (F.typeCall_enumerate_1 _) (F.newCall_enumerate_1 _) (fun obj => F.args_object_init_2 obj _) F.entry_enumerate_new
    (meets_enumT l items n dct sl) ⟨hl, ?_⟩
  have hz : (s.heap.push { cls := .type "tuple_iterator", data := .fields #[.ref l, .int 0 0] }).objs.size = s.heap.objs.size + 1 := Heap.size_push ..
  show _ ∧ _
  rw [hz]
  have he : IsEnum ((s.heap.push { cls := .type "tuple_iterator", data := .fields #[.ref l, .int 0 0] }).push
      { cls := .type "enumerate", data := .fields #[.none, .bool false, .ref s.heap.objs.size, rawInt 0, .none, .none] }) (s.heap.objs.size + 1) s.heap.objs.size 0 .none := by
    have := Heap.get?_push_size (s.heap.push { cls := .type "tuple_iterator", data := .fields #[.ref l, .int 0 0] })
      (o := { cls := .type "enumerate", data := .fields #[.none, .bool false, .ref s.heap.objs.size, rawInt 0, .none, .none] }) rfl
    rw [hz] at this; exact this
  exact ⟨⟨_, he, rfl⟩, h _ he (iterB_new (b := true) (Heap.get?_push_of_some _ (Heap.get?_push_size _ rfl))) fun b o x => Heap.get?_push_of_some _ (Heap.get?_push_of_some _ x)⟩
end
def iEnumT (K : PySem.W.Frag) (ta : TA) : TI := fun σ H R => ta σ H fun vs H1 => ∃ a xs, vs = [.ref a] ∧ SqT K H1 a xs ∧ R (IteT K a xs) H1
theorem pi_enumT {X : Cx} {e : Expr} {ta : TA} {p pos tpos : Pos} {elts : List Expr} {kk : Nat} (hg : Gl X "enumerate") (hm : X.mg "enumerate" = none) (ha : PA X [e] ta) (hs : starEach [e] X.env = [(false, eval e X.env)] := by rfl) :
    PI X (.Tuple elts kk tpos) (.Call (.Name "enumerate" p) [e] [] pos) (iEnumT X.K ta) := by
  refine ⟨fun pins s σ H R I h => ?_⟩
  refine Call_ (ld_blt I hg hm boot_enumerate (PyProof.Rows.callWith_type1 (thn (ha.run pos pins s σ H _ I h) fun us s1 ⟨vs, H1, I1, r1, q1⟩ => ?_) hs rfl))
  obtain ⟨a, xs, ex, hq, q⟩ := q1
  subst ex
  cases r1 with
  | cons r rr =>
    cases rr
    cases r
    obtain ⟨its, rv, p', la⟩ := inv_sq (b := true) I1 hq
    refine call_enumT p' fun h' he hit hk => wpAny_pyIter_enum he ?_
    have I2 : Inv X pins σ H1 { s1 with heap := h' } := I1.kept (t' := s1.toks) hk
    refine ⟨s1.heap.objs.size + 1, [s1.heap.objs.size + 1, s1.heap.objs.size], _, _, H1, rfl, I2, turn_enumT (Nat.ne_of_lt la) (fun z => ?_), ⟨⟨.none, he⟩, hit⟩, fun b hb => ?_, q⟩
    · have z' : s1.heap.objs.size + 1 = s1.heap.objs.size ∨ s1.heap.objs.size + 1 = a := by simpa using z
      have la' : a < s1.heap.objs.size := la
      rcases z' with z' | z'
      · exact Nat.succ_ne_self _ z'
      · exact absurd (Nat.lt_succ_of_lt la') (by rw [← z']; exact Nat.lt_irrefl _)
    · have e' : b = s1.heap.objs.size + 1 ∨ b = s1.heap.objs.size := by simpa using hb
      have hle : s1.heap.objs.size ≤ b := by
        rcases e' with z | z
        · rw [z]; exact Nat.le_add_right _ _
        · rw [z]; exact Nat.le_refl _
      exact I1.fpOk hle (I1.hok.fresh hle)
end Pv
/-! Pv11: what is walked. -/
namespace Pv
open PySem PySem.Spec PyProof.Rows L2
/-- what a turn hands out: as it lies, or in a new tuple -/
def YR (F H : Hp) (x : V) (H' : Hp) (d : D) : Prop := (H' = H ∧ Rep F x d) ∨ ∃ T vs ds, x = .ref T ∧ H T = none ∧ H' = upd H T (.tup vs) ∧ d = .tuple ds ∧ Reps F vs ds
def SrcF (F : Hp) (J : It) (xs : List D) : Prop := Walk J xs.length (Same F) fun i H x H' => ∃ d, xs[i]? = some d ∧ YR F H x H' d
def SrcB (K : PySem.W.Frag) (F : Hp) (σ : L2.St) (env : Env) (J : It) (xs : List D) : Prop := Walk J xs.length (fun H => ∃ tp, Rl K F σ env tp H) fun i H x H' => ∃ d, xs[i]? = some d ∧ ∀ tp, Rl K F σ env tp H → YR (fz σ env tp H) H x H' d
section
variable {K : PySem.W.Frag} {F F' B H H' : Hp} {σ : L2.St} {env : Env} {tp : Tp} {J : It} {xs : List D}
theorem YR.mono {x : V} {d : D} (s : Same F F') (h : YR F H x H' d) : YR F' H x H' d := by
  rcases h with ⟨e, r⟩ | ⟨T, vs, ds, e1, e2, e3, e4, r⟩
  · exact .inl ⟨e, r.mono s⟩
  · exact .inr ⟨T, vs, ds, e1, e2, e3, e4, r.mono s⟩
theorem SrcF.b (h : SrcF F J xs) : SrcB K F σ env J xs := Walk.mono h (fun H ⟨tp, R⟩ => R.le.trans (hide_same _ _)) fun i H x H' hi R ⟨d, e, y⟩ => ⟨d, e, fun tp R => y.mono R.le⟩
theorem at_reps {vs : List V} (h : Reps F vs xs) {i : Nat} (hi : i < xs.length) {x : V} (e : vs[i]? = some x) : ∃ d, xs[i]? = some d ∧ Rep F x d := h.getV e
/-- a frozen list, a frozen tuple -/
theorem src_list {p : Addr} {vs : List V} (h1 : F p = some (.lst vs)) (h2 : Reps F vs xs) : SrcF F (Itl K p) xs := by
  have w := walk_list (K := K) (a := p) (xs := vs)
  rw [h2.length] at w
  exact w.mono (fun H s => .of (s _ _ h1)) fun i H x H' hi s ⟨e, y⟩ => let ⟨d, e1, r⟩ := h2.getV y; ⟨d, e1, .inl ⟨e, r⟩⟩
theorem src_tup {p : Addr} {vs : List V} (h1 : F p = some (.tup vs)) (h2 : Reps F vs xs) : SrcF F (Itt K p) xs := by
  have w := walk_tup (K := K) (a := p) (xs := vs)
  rw [h2.length] at w
  exact w.mono (fun H s => .of (s _ _ h1)) fun i H x H' hi s ⟨e, y⟩ => let ⟨d, e1, r⟩ := h2.getV y; ⟨d, e1, .inl ⟨e, r⟩⟩
theorem rangeL_get {a b : Int} {i : Nat} (hi : i < (b - a).toNat) : (rangeL a b)[i]? = some (.int (a + (i : Nat))) := by
  unfold rangeL
  rw [List.getElem?_map, List.getElem?_range hi]
  rfl
theorem rangeL_len (a b : Int) : (rangeL a b).length = (b - a).toNat := by
  unfold rangeL
  rw [List.length_map, List.length_range]
theorem src_range {a b : Int} : SrcF F (Itr a (b - a).toNat) (rangeL a b) := by
  have w := walk_range (lo := a) (n := (b - a).toNat)
  unfold SrcF
  rw [rangeL_len]
  exact w.mono (fun _ _ => trivial) fun i H x H' hi _ ⟨e, y⟩ => ⟨_, rangeL_get hi, .inl ⟨e, by rw [y]; exact .int _⟩⟩
/-- the own list of a slot -/
theorem own_at (R : Rl K B σ env tp H) {i : Nat} {p : Addr} {ys : List D} (h1 : σ[i]? = some (some (.ref p))) (h2 : env[i]? = some (.own (.lst ys))) : ∃ vs, H p = some (.lst vs) ∧ Reps (fz σ env tp H) vs ys := by
  obtain ⟨y, e1, p', e2, vs, h3, h4⟩ := R.sl.get h2
  rw [h1] at e1
  cases e1
  cases e2
  exact ⟨vs, h3, h4⟩
theorem own_val {i : Nat} {p : Addr} {ys : List D} {tp' : Tp} (R : Rl K B σ env tp H) (R' : Rl K F σ env tp' H) (h1 : σ[i]? = some (some (.ref p))) (h2 : env[i]? = some (.own (.lst ys))) {vs : List V} (h : H p = some (.lst vs)) : Reps (fz σ env tp' H) vs ys := by
  obtain ⟨ws, h3, h4⟩ := own_at R' h1 h2
  rw [h] at h3
  cases h3
  exact h4
theorem src_own {i : Nat} {p : Addr} (h1 : σ[i]? = some (some (.ref p))) (h2 : env[i]? = some (.own (.lst xs))) : SrcB K F σ env (Itl K p) xs where
  goes := fun j H hj ⟨tp, R⟩ => by
    obtain ⟨vs, h3, h4⟩ := own_at R h1 h2
    exact ⟨vs, vs[j]'(by rw [h4.length]; exact hj), .of h3, List.getElem?_eq_getElem _⟩
  stops := fun H ⟨tp, R⟩ => by
    obtain ⟨vs, h3, h4⟩ := own_at R h1 h2
    exact ⟨vs, .of h3, by rw [h4.length]; exact Nat.le_refl _⟩
  yields := fun j H x H' hj ⟨tp, R⟩ y => by
    obtain ⟨vs, h3, h4⟩ := own_at R h1 h2
    obtain ⟨e, y⟩ := y
    have y' := y vs (.of h3)
    obtain ⟨d, e1, r⟩ := h4.getV y'
    refine ⟨d, e1, fun tp' R' => .inl ⟨e, ?_⟩⟩
    obtain ⟨d', e2, r'⟩ := (own_val R R' h1 h2 h3).getV y'
    rw [e1] at e2
    cases e2
    exact r'
theorem enumL_get : ∀ (xs : List D) (n i : Nat) {d : D}, xs[i]? = some d → (enumL n xs)[i]? = some (.tuple [.int ((n + i : Nat) : Int), d])
  | [], _, _, _, h => by simp at h
  | x :: xs, n, 0, d, h => by simp at h; subst h; rfl
  | x :: xs, n, i + 1, d, h => by
    have ih := enumL_get xs (n + 1) i (d := d) (by simpa using h)
    show (enumL (n + 1) xs)[i]? = _
    rw [ih]
    congr 5
    omega
theorem enumL_len : ∀ (xs : List D) (n : Nat), (enumL n xs).length = xs.length
  | [], _ => rfl
  | x :: xs, n => congrArg (· + 1) (enumL_len xs (n + 1))
theorem src_enum {p : Addr} {vs : List V} (h1 : F p = some (.lst vs)) (h2 : Reps F vs xs) : SrcF F (Ite K p) (enumL 0 xs) := by
  have w := walk_enum (K := K) (a := p) (xs := vs)
  unfold SrcF
  rw [enumL_len, ← h2.length]
  refine w.mono (fun H s => .of (s _ _ h1)) fun i H x H' hi s ⟨T, a, b, e1, e2, e3, e4, e5⟩ => ?_
  obtain ⟨d, e6, r⟩ := h2.getV e5
  cases e4
  exact ⟨_, by have := enumL_get xs 0 i e6; rw [Nat.zero_add] at this; exact this, .inr ⟨T, _, _, e1, e2, e3, rfl, .cons (.int _) (.cons r .nil)⟩⟩
theorem src_enumB {i : Nat} {p : Addr} (h1 : σ[i]? = some (some (.ref p))) (h2 : env[i]? = some (.own (.lst xs))) : SrcB K F σ env (Ite K p) (enumL 0 xs) where
  goes := fun j H hj ⟨tp, R⟩ => by
    rw [enumL_len] at hj
    obtain ⟨vs, h3, h4⟩ := own_at R h1 h2
    exact ⟨vs, vs[j]'(by rw [h4.length]; exact hj), .of h3, List.getElem?_eq_getElem _⟩
  stops := fun H ⟨tp, R⟩ => by
    obtain ⟨vs, h3, h4⟩ := own_at R h1 h2
    exact ⟨vs, .of h3, by rw [h4.length, enumL_len]; exact Nat.le_refl _⟩
  yields := fun j H x H' hj ⟨tp, R⟩ y => by
    obtain ⟨vs, h3, h4⟩ := own_at R h1 h2
    obtain ⟨T, b, e1, e2, e3, y⟩ := y
    have y' := y vs (.of h3)
    obtain ⟨d, e6, r⟩ := h4.getV y'
    refine ⟨_, by have := enumL_get xs 0 j e6; rw [Nat.zero_add] at this; exact this, fun tp' R' => .inr ⟨T, _, _, e1, e2, e3, rfl, .cons (.int _) (.cons ?_ .nil)⟩⟩
    obtain ⟨d', e2, r'⟩ := (own_val R R' h1 h2 h3).getV y'
    rw [e6] at e2
    cases e2
    exact r'
end
/-- what a source's evaluation hands on -/
def tI (K : PySem.W.Frag) (m : Env → M (List D × Bool)) (W : WN) : TI := fun σ H R => ∃ B env tp t, Rl K B σ env tp H ∧ wpm (m env) t (fun p _ => ∀ J H', Rl K B σ env tp H' → p.1.length ≤ sizeLine → SrcB K (fz σ env tp H') σ env J p.1 → (p.2 = false → SrcF (fz σ env tp H') J p.1) → R J H') fun x _ => ∀ H', Rl K B σ env tp H' → W x σ H'
theorem pi_imp {X : Cx} {tg e : Expr} {t t' : TI} (h : PI X tg e t) (i : ∀ σ H Q, t' σ H Q → t σ H Q) : PI X tg e t' := ⟨fun pins s σ H R I q => h.run pins s σ H R I (i σ H R q)⟩
def SzOk (H : Hp) : Prop := ∀ a xs, (H a = some (.lst xs) → xs.length ≤ sizeLine) ∧ (H a = some (.tup xs) → xs.length ≤ sizeLine)
/-- the sizes are known where an iterator has come -/
theorem pi_sz {X : Cx} {tg e : Expr} {t : TI} (h : PI X tg e t) : PI X tg e (fun σ H R => t σ H fun J H1 => SzOk H1 → R J H1) := ⟨fun pins s σ H R I q => thn (h.run pins s σ H _ I q) fun v s1 w => thn w fun itv s2 ⟨it, fp, tn, J, H', e1, I2, T, t0, ff, r⟩ => ⟨it, fp, tn, J, H', e1, I2, T, t0, ff, r fun a xs => ⟨fun e => (I2.hok a _ e).1, fun e => (I2.hok a _ e).1⟩⟩⟩
theorem pi_or {X : Cx} {tg e : Expr} {t t' : TI} (h : PI X tg e t) (h' : PI X tg e t') : PI X tg e (fun σ H R => t σ H R ∨ t' σ H R) := ⟨fun pins s σ H R I q => q.elim (h.run pins s σ H R I) (h'.run pins s σ H R I)⟩
section
variable {X : Cx} {tg : Expr} {W : WN}
theorem opds2 {K : PySem.W.Frag} {σ : L2.St} {env : Env} {F : Hp} {xs : List V} {r s : RV} (o : OpdsR K σ env F xs [r, s]) : ∃ x y, xs = [x, y] ∧ OpdR K σ env F x r ∧ OpdR K σ env F y s := by
  cases o with
  | cons h q =>
    cases q with
    | cons h' q => cases q; exact ⟨_, _, rfl, h, h'⟩
theorem opd_bo {K : PySem.W.Frag} {σ : L2.St} {env : Env} {F : Hp} {v : V} {r : RV} (o : OpdR K σ env F v r) (h : isBo r = true) : ∃ i ov, r = .bo i ov ∧ σ[i]? = some (some v) ∧ env[i]? = some (.own ov) := by
  cases r with
  | bo i ov => exact ⟨i, ov, rfl, o.1, o.2⟩
  | _ => cases h
theorem nobo_frz {K : PySem.W.Frag} {σ : L2.St} {env : Env} {tp : Tp} {B H : Hp} {v : V} {r : RV} {d : D} (R : Rl K B σ env tp H) (o : OpdR K σ env (fz σ env tp H) v r) (h : isBo r = false) (e : r.dat = some d) : Rep (fz σ env tp H) v d := by
  cases r with
  | v x => cases x with
    | d x => cases e; exact o
    | _ => cases e
  | fr ov => cases ov with
    | lst xs => cases e; obtain ⟨p, rfl, vs, h1, h2⟩ := o; exact .lst h1 h2
    | _ => cases e
  | bo i ov => cases h
theorem src_seq {K : PySem.W.Frag} {B : Hp} {σ : L2.St} {env : Env} {tp : Tp} {H : Hp} {v : V} {r : RV} {xs : List D} (R : Rl K B σ env tp H) (o : OpdR K σ env (fz σ env tp H) v r) (e : r.dat = some (.list xs)) :
    ∃ p, v = .ref p ∧ (∃ vs, H p = some (.lst vs) ∧ Reps (fz σ env tp H) vs xs) ∧ SrcB K (fz σ env tp H) σ env (Itl K p) xs ∧ (isBo r = false → SrcF (fz σ env tp H) (Itl K p) xs) := by
  cases q : isBo r with
  | false =>
    cases nobo_frz R o q e with
    | lst h1 h2 => exact ⟨_, rfl, ⟨_, hide_same _ _ _ _ h1, h2⟩, (src_list h1 h2).b, fun _ => src_list h1 h2⟩
  | true =>
    obtain ⟨i, ov, rfl, h1, h2⟩ := opd_bo o q
    cases ov with
    | lst ys =>
      cases e
      obtain ⟨y, e1, p, e2, vs, h3, h4⟩ := R.sl.get h2
      rw [h1] at e1
      cases e1
      cases e2
      exact ⟨p, rfl, ⟨vs, h3, h4⟩, src_own h1 h2, fun z => nomatch z⟩
    | _ => cases e
theorem src_enumS {K : PySem.W.Frag} {B : Hp} {σ : L2.St} {env : Env} {tp : Tp} {H : Hp} {v : V} {r : RV} {xs : List D} (R : Rl K B σ env tp H) (o : OpdR K σ env (fz σ env tp H) v r) (e : r.dat = some (.list xs)) :
    ∃ p vs, v = .ref p ∧ (H p = some (.lst vs) ∧ Reps (fz σ env tp H) vs xs) ∧ SrcB K (fz σ env tp H) σ env (Ite K p) (enumL 0 xs) ∧ (isBo r = false → SrcF (fz σ env tp H) (Ite K p) (enumL 0 xs)) := by
  cases q : isBo r with
  | false =>
    cases nobo_frz R o q e with
    | lst h1 h2 => exact ⟨_, _, rfl, ⟨hide_same _ _ _ _ h1, h2⟩, (src_enum h1 h2).b, fun _ => src_enum h1 h2⟩
  | true =>
    obtain ⟨i, ov, rfl, h1, h2⟩ := opd_bo o q
    cases ov with
    | lst ys =>
      cases e
      obtain ⟨y, e1, p, e2, vs, h3, h4⟩ := R.sl.get h2
      rw [h1] at e1
      cases e1
      cases e2
      exact ⟨p, vs, rfl, ⟨h3, h4⟩, src_enumB h1 h2, fun z => nomatch z⟩
    | _ => cases e
theorem pi_seqM {e : Expr} {m : Env → M RV} (h : PE X e (tE X.K m W)) : PI X tg e (tI X.K (fun env => bnd (m env) fun r => asD r fun x => bnd (seqD x) fun xs => ret (xs, isBo r)) W) := pi_imp (pi_or (pi_sz (pi_list h)) (pi_sz (pi_tup h))) fun σ H Q ⟨B, env, tp, t, R, w⟩ => by
  have key : (∃ xs, ∀ r t1, m env t = .ok r t1 → r.dat = some (.tuple xs)) ∨ (∀ r t1, m env t = .ok r t1 → ∃ xs, r.dat = some (.list xs)) := by
    rw [wpm_bnd] at w
    cases q : m env t with
    | stuck => exact .inr fun r t1 e => nomatch e
    | exc x t1 => exact .inr fun r t1 e => nomatch e
    | ok r t1 =>
      unfold wpm at w
      rw [q] at w
      obtain ⟨d, ed, w⟩ := wpm_asD (show wpm _ t1 _ _ from w)
      cases d with
      | list xs => exact .inr fun r' t' e => by cases e; exact ⟨xs, ed⟩
      | tuple xs => exact .inl ⟨xs, fun r' t' e => by cases e; exact ed⟩
      | _ => exact w.elim
  have st : ∀ {k : RV → M (List D × Bool)} {OK : List D × Bool → Sto → Prop} {Qv : VK}, wpm (bnd (m env) k) t OK (fun x _ => ∀ H', Rl X.K B σ env tp H' → W x σ H') →
      (∀ r t1 v H1, m env t = .ok r t1 → Rl X.K B σ env tp H1 → OpdR X.K σ env (fz σ env tp H1) v r → wpm (k r) t1 OK (fun x _ => ∀ H', Rl X.K B σ env tp H' → W x σ H') → Qv v H1) → tE X.K m W σ H Qv := by
    intro k OK Qv w hk
    rw [wpm_bnd] at w
    refine ⟨B, env, tp, t, R, ?_⟩
    unfold wpm at w ⊢
    cases q : m env t with
    | stuck => rw [q] at w; exact w
    | exc x t1 => rw [q] at w; exact w
    | ok r t1 => rw [q] at w; exact fun v H1 p => hk r t1 v H1 q p.opd.1 p.opd.2 w
  rcases key with ⟨xs, key⟩ | key
  · refine .inr (st w fun r t1 v H1 q R1 o1 w1 => ?_)
    have ed := key r t1 q
    obtain ⟨d, ed', w1⟩ := wpm_asD w1
    rw [ed] at ed'
    cases ed'
    have nb : isBo r = false := by
      cases r with
      | bo i ov => cases ov <;> cases ed
      | _ => rfl
    obtain ⟨p, vs, rfl, h1, h2⟩ := rd_tup (o1.rd R1 ed)
    exact ⟨p, rfl, ⟨vs, .of (hide_same _ _ _ _ h1)⟩, fun sz => w1 _ H1 R1 (by rw [← h2.length]; exact (sz p vs).2 (hide_same _ _ _ _ h1)) (src_tup h1 h2).b fun _ => src_tup h1 h2⟩
  · refine .inl (st w fun r t1 v H1 q R1 o1 w1 => ?_)
    obtain ⟨xs, ed⟩ := key r t1 q
    obtain ⟨d, ed', w1⟩ := wpm_asD w1
    rw [ed] at ed'
    cases ed'
    obtain ⟨p, rfl, ⟨vs, hs, hr⟩, sb, sf⟩ := src_seq R1 o1 ed
    exact ⟨p, rfl, ⟨vs, .of hs⟩, fun sz => w1 _ H1 R1 (by rw [← hr.length]; exact (sz p vs).1 hs) sb sf⟩
theorem pi_rng1M {a : Expr} {p pos : Pos} {m : Env → M RV} (hg : Gl X "range") (hm : X.mg "range" = none) (ha : PE X a (tE X.K m W)) (na : isStarE a = false) :
    PI X tg (.Call (.Name "range" p) [a] [] pos) (tI X.K (fun env => bnd (m env) fun r => asD r fun
    | .int n => guard (rangeOk 0 n) (ret (rangeL 0 n, false))
    | _ => stk) W) := pi_imp (pi_range1 hg hm (pa_consM ha pa_nilM na) (star_cons na)) fun σ H Q ⟨B, env, tp, t, R, w⟩ => by
  rw [wpm_bnd] at w
  refine ⟨B, env, tp, t, R, ?_⟩
  rw [wpm_bnd]
  refine wpm_mono w (fun r t1 w1 => ?_) fun _ _ q => q
  show ∀ vs H', _ → OpdsR _ _ _ _ vs [r] → _
  intro vs H1 R1 o1
  obtain ⟨x, rfl, o⟩ := opds1 o1
  obtain ⟨d, ed, w1⟩ := wpm_asD w1
  have rx := o.rd R1 ed
  split at w1 <;> first | exact wpm_stk w1 | skip
  obtain ⟨hz, w1⟩ := wpm_guard w1
  cases rd_int rx
  have g := rgOk_of hz
  have e : ∀ n : Int, (n - 0).toNat = n.toNat := fun n => by rw [Int.sub_zero]
  refine ⟨_, rfl, g.2.2.1, g.2.2.2.1, ?_⟩
  rw [← e]
  exact w1 _ H1 R1 (by rw [rangeL_len]; exact Nat.le_trans g.2.2.2.2 (by decide)) src_range.b fun _ => src_range
theorem pi_rng2M {a b : Expr} {p pos : Pos} {m1 m2 : Env → M RV} (hg : Gl X "range") (hm : X.mg "range" = none) (ha : PE X a (tE X.K m1 W)) (hb : PE X b (tE X.K m2 W)) (na : isStarE a = false) (nb : isStarE b = false) :
    PI X tg (.Call (.Name "range" p) [a, b] [] pos) (tI X.K (fun env => bnd (m1 env) fun r => bnd (m2 env) fun s => asD r fun x => asD s fun y => match x, y with
    | .int i, .int j => guard (rangeOk i j) (ret (rangeL i j, false))
    | _, _ => stk) W) := pi_imp (pi_range2 hg hm (pa_consM ha (pa_consM hb pa_nilM nb) na) (by rw [star_cons na, star_cons nb]; rfl) (star_cons nb)) fun σ H Q ⟨B, env, tp, t, R, w⟩ => by
  rw [wpm_bnd] at w
  refine ⟨B, env, tp, t, R, ?_⟩
  rw [wpm_bnd]
  refine wpm_mono w (fun r t1 w1 => ?_) fun _ _ q => q
  rw [wpm_bnd] at w1
  rw [wpm_bnd, wpm_bnd]
  refine wpm_mono w1 (fun s t2 w2 => ?_) fun _ _ q => q
  show ∀ vs H', _ → OpdsR _ _ _ _ vs [r, s] → _
  intro vs H1 R1 o1
  obtain ⟨v1, v2, rfl, oa, ob⟩ := opds2 o1
  obtain ⟨d, ed, w2⟩ := wpm_asD w2
  obtain ⟨e, ee, w2⟩ := wpm_asD w2
  have rx := oa.rd R1 ed
  have ry := ob.rd R1 ee
  split at w2 <;> first | exact wpm_stk w2 | skip
  obtain ⟨hz, w2⟩ := wpm_guard w2
  cases rd_int rx
  cases rd_int ry
  have g := rgOk_of hz
  exact ⟨_, _, rfl, ⟨g.1, g.2.1, g.2.2.1, g.2.2.2.1⟩, w2 _ H1 R1 (by rw [rangeL_len]; exact Nat.le_trans g.2.2.2.2 (by decide)) src_range.b fun _ => src_range⟩
theorem src_enumT {K : PySem.W.Frag} {F : Hp} {p : Addr} {vs : List V} {xs : List D} (h1 : F p = some (.tup vs)) (h2 : Reps F vs xs) : SrcF F (IteT K p vs) (enumL 0 xs) where
  goes := fun i H hi s => by
    rw [enumL_len, ← h2.length] at hi
    exact ⟨.of (s _ _ h1), hi⟩
  stops := fun H s => ⟨.of (s _ _ h1), by rw [enumL_len, h2.length]⟩
  yields := fun i H x H' hi s ⟨T, b, e1, e2, e3, e5⟩ => by
    obtain ⟨d, e6, r⟩ := h2.getV e5
    exact ⟨_, by have := enumL_get xs 0 i e6; rw [Nat.zero_add] at this; exact this, .inr ⟨T, _, _, e1, e2, e3, rfl, .cons (.int _) (.cons r .nil)⟩⟩
theorem pi_enumM {e : Expr} {p pos tpos : Pos} {elts : List Expr} {kk : Nat} {m : Env → M RV} (hg : Gl X "enumerate") (hm : X.mg "enumerate" = none) (ha : PE X e (tE X.K m W)) (na : isStarE e = false) :
    PI X (.Tuple elts kk tpos) (.Call (.Name "enumerate" p) [e] [] pos) (tI X.K (fun env => bnd (m env) fun r => asD r fun x => bnd (enumD x) fun xs => ret (xs, isBo r)) W) := pi_imp (pi_or (pi_sz (pi_enum hg hm (pa_consM ha pa_nilM na) (star_cons na))) (pi_sz (pi_enumT hg hm (pa_consM ha pa_nilM na) (star_cons na)))) fun σ H Q ⟨B, env, tp, t, R, w⟩ => by
  rw [wpm_bnd] at w
  have key : (∃ xs, ∀ r t1, m env t = .ok r t1 → r.dat = some (.tuple xs)) ∨ (∀ r t1, m env t = .ok r t1 → ∃ xs, r.dat = some (.list xs)) := by
    cases q : m env t with
    | stuck => exact .inr fun r t1 e => nomatch e
    | exc x t1 => exact .inr fun r t1 e => nomatch e
    | ok r t1 =>
      unfold wpm at w
      rw [q] at w
      obtain ⟨d, ed, w⟩ := wpm_asD (show wpm _ t1 _ _ from w)
      cases d with
      | list xs => exact .inr fun r' t' e => by cases e; exact ⟨xs, ed⟩
      | tuple xs => exact .inl ⟨xs, fun r' t' e => by cases e; exact ed⟩
      | _ => exact w.elim
  have w' : wpm (m env) t (fun r t1 => m env t = .ok r t1 ∧ wpm (asD r fun x => bnd (enumD x) fun xs => ret (xs, isBo r)) t1 (fun p _ => ∀ J H', Rl X.K B σ env tp H' → p.1.length ≤ sizeLine → SrcB X.K (fz σ env tp H') σ env J p.1 → (p.2 = false → SrcF (fz σ env tp H') J p.1) → Q J H') (fun x _ => ∀ H', Rl X.K B σ env tp H' → W x σ H')) (fun x _ => ∀ H', Rl X.K B σ env tp H' → W x σ H') := by
    unfold wpm at w ⊢
    cases q : m env t with
    | stuck => rw [q] at w; exact w
    | exc x t1 => rw [q] at w; exact w
    | ok r t1 => rw [q] at w; exact ⟨rfl, w⟩
  rcases key with ⟨xs, key⟩ | key
  · refine .inr ⟨B, env, tp, t, R, ?_⟩
    rw [wpm_bnd]
    refine wpm_mono w' (fun r t1 w2 => ?_) fun _ _ q => q
    obtain ⟨em, w1⟩ := w2
    show ∀ vs H', _ → OpdsR _ _ _ _ vs [r] → _
    intro vs H1 R1 o1
    obtain ⟨x, rfl, o⟩ := opds1 o1
    have ed := key r t1 em
    obtain ⟨d, ed', w1⟩ := wpm_asD w1
    rw [ed] at ed'
    cases ed'
    obtain ⟨p, vs, rfl, h1, h2⟩ := rd_tup (o.rd R1 ed)
    have S := src_enumT (K := X.K) h1 h2
    exact ⟨p, vs, rfl, .of (hide_same _ _ _ _ h1), fun sz => w1 _ H1 R1 (by rw [enumL_len, ← h2.length]; exact (sz p vs).2 (hide_same _ _ _ _ h1)) S.b fun _ => S⟩
  · refine .inl ⟨B, env, tp, t, R, ?_⟩
    rw [wpm_bnd]
    refine wpm_mono w' (fun r t1 w2 => ?_) fun _ _ q => q
    obtain ⟨em, w1⟩ := w2
    show ∀ vs H', _ → OpdsR _ _ _ _ vs [r] → _
    intro vs H1 R1 o1
    obtain ⟨x, rfl, o⟩ := opds1 o1
    obtain ⟨xs, ed⟩ := key r t1 em
    obtain ⟨d, ed', w1⟩ := wpm_asD w1
    rw [ed] at ed'
    cases ed'
    obtain ⟨p, vs, rfl, ⟨hs, hr⟩, sb, sf⟩ := src_enumS R1 o ed
    exact ⟨p, vs, rfl, .of hs, fun sz => w1 _ H1 R1 (by rw [enumL_len, ← hr.length]; exact (sz p vs).1 hs) sb sf⟩
theorem zipL_get : ∀ (xs ys : List D) (i : Nat) {x y : D}, xs[i]? = some x → ys[i]? = some y → (zipL xs ys)[i]? = some (.tuple [x, y])
  | [], _, _, _, _, h, _ => by simp at h
  | _ :: _, [], _, _, _, _, h => by simp at h
  | x :: xs, y :: ys, 0, _, _, h, h' => by simp at h h'; subst h h'; rfl
  | x :: xs, y :: ys, i + 1, _, _, h, h' => by
    show (zipL xs ys)[i]? = _
    exact zipL_get xs ys i (by simpa using h) (by simpa using h')
theorem zipL_len : ∀ (xs ys : List D), (zipL xs ys).length = min xs.length ys.length
  | [], ys => by simp [zipL]
  | _ :: _, [] => by simp [zipL]
  | x :: xs, y :: ys => by
    show (zipL xs ys).length + 1 = _
    rw [zipL_len xs ys, List.length_cons, List.length_cons]
    omega
/-- a frozen list or tuple at p -/
def AtB (F : Hp) (b : Bool) (p : Addr) (vs : List V) : Prop := F p = some (if b = true then .tup vs else .lst vs)
theorem AtB.sq {K : PySem.W.Frag} {F H : Hp} {b : Bool} {p : Addr} {vs : List V} (h : AtB F b p vs) (s : Same F H) : SqB K b H p vs := by
  cases b with
  | true => exact .of (s _ _ h)
  | false => exact .of (s _ _ h)
theorem AtB.sz {F H : Hp} {b : Bool} {p : Addr} {vs : List V} (h : AtB F b p vs) (s : Same F H) (z : SzOk H) : vs.length ≤ sizeLine := by
  cases b with
  | true => exact (z p vs).2 (s _ _ h)
  | false => exact (z p vs).1 (s _ _ h)
theorem seq_at {F : Hp} {v : V} {d : D} {α : Type} {k : List D → M α} {t : Sto} {ok : α → Sto → Prop} {ex : Str → Sto → Prop} (h : Rep F v d) (w : wpm (bnd (seqD d) k) t ok ex) : ∃ b p vs xs, v = .ref p ∧ AtB F b p vs ∧ Reps F vs xs ∧ wpm (k xs) t ok ex := by
  cases d with
  | list xs => cases h with | lst h1 h2 => exact ⟨false, _, _, xs, rfl, h1, h2, w⟩
  | tuple xs => cases h with | tup h1 h2 => exact ⟨true, _, _, xs, rfl, h1, h2, w⟩
  | _ => exact w.elim
theorem src_zipB {K : PySem.W.Frag} {F : Hp} {b1 b2 : Bool} {p q : Addr} {vs ws : List V} {xs ys : List D} (h1 : AtB F b1 p vs) (h2 : Reps F vs xs) (h3 : AtB F b2 q ws) (h4 : Reps F ws ys) : SrcF F (ItzB K b1 b2 p q vs ws) (zipL xs ys) where
  goes := fun i H hi s => by
    rw [zipL_len, ← h2.length, ← h4.length] at hi
    exact ⟨h1.sq s, h3.sq s, by omega, by omega⟩
  stops := fun H s => by
    rw [zipL_len, ← h2.length, ← h4.length]
    exact ⟨h1.sq s, h3.sq s, by omega, by omega, by omega⟩
  yields := fun i H x H' hi s ⟨T, a, b, e1, e2, e3, e4, e5⟩ => by
    obtain ⟨d, e6, r⟩ := h2.getV e4
    obtain ⟨d', e7, r'⟩ := h4.getV e5
    exact ⟨_, zipL_get _ _ _ e6 e7, .inr ⟨T, _, _, e1, e2, e3, rfl, .cons r (.cons r' .nil)⟩⟩
theorem zip3L_get : ∀ (xs ys zs : List D) (i : Nat) {x y z : D}, xs[i]? = some x → ys[i]? = some y → zs[i]? = some z → (zip3L xs ys zs)[i]? = some (.tuple [x, y, z])
  | [], _, _, _, _, _, _, h, _, _ => by simp at h
  | _ :: _, [], _, _, _, _, _, _, h, _ => by simp at h
  | _ :: _, _ :: _, [], _, _, _, _, _, _, h => by simp at h
  | x :: xs, y :: ys, z :: zs, 0, _, _, _, h, h', h'' => by simp at h h' h''; subst h h' h''; rfl
  | x :: xs, y :: ys, z :: zs, i + 1, _, _, _, h, h', h'' => by
    show (zip3L xs ys zs)[i]? = _
    exact zip3L_get xs ys zs i (by simpa using h) (by simpa using h') (by simpa using h'')
theorem zip3L_len : ∀ (xs ys zs : List D), (zip3L xs ys zs).length = min (min xs.length ys.length) zs.length
  | [], ys, zs => by simp [zip3L]
  | _ :: _, [], _ => by simp [zip3L]
  | _ :: _, _ :: _, [] => by simp [zip3L]
  | x :: xs, y :: ys, z :: zs => by
    show (zip3L xs ys zs).length + 1 = _
    rw [zip3L_len xs ys zs, List.length_cons, List.length_cons, List.length_cons]
    omega
theorem src_zipB3 {K : PySem.W.Frag} {F : Hp} {b1 b2 b3 : Bool} {p q r : Addr} {vs ws us : List V} {xs ys zs : List D} (h1 : AtB F b1 p vs) (h2 : Reps F vs xs) (h3 : AtB F b2 q ws) (h4 : Reps F ws ys) (h5 : AtB F b3 r us) (h6 : Reps F us zs) : SrcF F (ItzB3 K b1 b2 b3 p q r vs ws us) (zip3L xs ys zs) where
  goes := fun i H hi s => by
    rw [zip3L_len, ← h2.length, ← h4.length, ← h6.length] at hi
    exact ⟨h1.sq s, h3.sq s, h5.sq s, by omega, by omega, by omega⟩
  stops := fun H s => by
    rw [zip3L_len, ← h2.length, ← h4.length, ← h6.length]
    exact ⟨h1.sq s, h3.sq s, h5.sq s, by omega, by omega, by omega, by omega⟩
  yields := fun i H x H' hi s ⟨T, a, b, c, e1, e2, e3, e4, e5, e8⟩ => by
    obtain ⟨d, e6, r⟩ := h2.getV e4
    obtain ⟨d', e7, r'⟩ := h4.getV e5
    obtain ⟨d'', e9, r''⟩ := h6.getV e8
    exact ⟨_, zip3L_get _ _ _ _ e6 e7 e9, .inr ⟨T, _, _, e1, e2, e3, rfl, .cons r (.cons r' (.cons r'' .nil))⟩⟩
theorem pi_zipM {a b : Expr} {p pos tpos : Pos} {elts : List Expr} {kk : Nat} {m1 m2 : Env → M RV} (hg : Gl X "zip") (hm : X.mg "zip" = none) (ha : PE X a (tE X.K m1 W)) (hb : PE X b (tE X.K m2 W)) (na : isStarE a = false) (nb : isStarE b = false) :
    PI X (.Tuple elts kk tpos) (.Call (.Name "zip" p) [a, b] [] pos) (tI X.K (fun env => bnd (m1 env) fun r => bnd (m2 env) fun s => asD r fun x => asD s fun y => guard (!isBo r && !isBo s) (bnd (zipD x y) fun xs => ret (xs, false))) W) := pi_imp (pi_sz (pi_zipB hg hm (pa_consM ha (pa_consM hb pa_nilM nb) na) (star_cons na) (noany (by rw [List.all_cons, nb]; rfl)))) fun σ H Q ⟨B, env, tp, t, R, w⟩ => by
  rw [wpm_bnd] at w
  refine ⟨B, env, tp, t, R, ?_⟩
  rw [wpm_bnd]
  refine wpm_mono w (fun r t1 w1 => ?_) fun _ _ q => q
  rw [wpm_bnd] at w1
  rw [wpm_bnd, wpm_bnd]
  refine wpm_mono w1 (fun s t2 w2 => ?_) fun _ _ q => q
  show ∀ vs H', _ → OpdsR _ _ _ _ vs [r, s] → _
  intro vs H1 R1 o1
  obtain ⟨v1, v2, rfl, oa, ob⟩ := opds2 o1
  obtain ⟨d, ed, w2⟩ := wpm_asD w2
  obtain ⟨e, ee, w2⟩ := wpm_asD w2
  obtain ⟨hz, w2⟩ := wpm_guard w2
  obtain ⟨z1, z2⟩ := Bool.and_eq_true_iff.mp hz
  unfold zipD at w2
  rw [bnd_assoc] at w2
  obtain ⟨b1, p1, vs1, xs, rfl, h1, h2, w3⟩ := seq_at (nobo_frz R1 oa (by simpa using z1) ed) w2
  rw [bnd_assoc] at w3
  obtain ⟨b2, p2, vs2, ys, rfl, h3, h4, w4⟩ := seq_at (nobo_frz R1 ob (by simpa using z2) ee) w3
  have S := src_zipB (K := X.K) h1 h2 h3 h4
  exact ⟨p1, p2, vs1, vs2, b1, b2, rfl, h1.sq (hide_same _ _), h3.sq (hide_same _ _), fun sz => w4 _ H1 R1 (by show (zipL xs ys).length ≤ sizeLine; rw [zipL_len, ← h2.length]; exact Nat.le_trans (Nat.min_le_left _ _) (h1.sz (hide_same _ _) sz)) S.b fun _ => S⟩
theorem pi_zip3M {a b c : Expr} {p pos tpos : Pos} {elts : List Expr} {kk : Nat} {m1 m2 m3 : Env → M RV} (hg : Gl X "zip") (hm : X.mg "zip" = none) (ha : PE X a (tE X.K m1 W)) (hb : PE X b (tE X.K m2 W)) (hc : PE X c (tE X.K m3 W)) (na : isStarE a = false) (nb : isStarE b = false) (nc : isStarE c = false) :
    PI X (.Tuple elts kk tpos) (.Call (.Name "zip" p) [a, b, c] [] pos) (tI X.K (fun env => bnd (m1 env) fun r => bnd (m2 env) fun s => bnd (m3 env) fun u => asD r fun x => asD s fun y => asD u fun z => guard (!isBo r && !isBo s && !isBo u) (bnd (seqD x) fun xs => bnd (seqD y) fun ys => bnd (seqD z) fun zs => ret (zip3L xs ys zs, false))) W) := pi_imp (pi_sz (pi_zipB3 hg hm (pa_consM ha (pa_consM hb (pa_consM hc pa_nilM nc) nb) na) (star_cons na) (noany (by rw [List.all_cons, List.all_cons, nb, nc]; rfl)))) fun σ H Q ⟨B, env, tp, t, R, w⟩ => by
  rw [wpm_bnd] at w
  refine ⟨B, env, tp, t, R, ?_⟩
  rw [wpm_bnd]
  refine wpm_mono w (fun r t1 w1 => ?_) fun _ _ q => q
  rw [wpm_bnd] at w1
  rw [wpm_bnd, wpm_bnd]
  refine wpm_mono w1 (fun s t2 w2 => ?_) fun _ _ q => q
  rw [wpm_bnd] at w2
  rw [wpm_bnd, wpm_bnd]
  refine wpm_mono w2 (fun u t3 w3 => ?_) fun _ _ q => q
  show ∀ vs H', _ → OpdsR _ _ _ _ vs [r, s, u] → _
  intro vs H1 R1 o1
  cases o1 with
  | cons oa o2 =>
  obtain ⟨v2, v3, rfl, ob, oc⟩ := opds2 o2
  obtain ⟨d, ed, w3⟩ := wpm_asD w3
  obtain ⟨e, ee, w3⟩ := wpm_asD w3
  obtain ⟨f, ef, w3⟩ := wpm_asD w3
  obtain ⟨hz, w3⟩ := wpm_guard w3
  obtain ⟨z12, z3⟩ := Bool.and_eq_true_iff.mp hz
  obtain ⟨z1, z2⟩ := Bool.and_eq_true_iff.mp z12
  obtain ⟨b1, p1, vs1, xs, rfl, h1, h2, w4⟩ := seq_at (nobo_frz R1 oa (by simpa using z1) ed) w3
  obtain ⟨b2, p2, vs2, ys, rfl, h3, h4, w5⟩ := seq_at (nobo_frz R1 ob (by simpa using z2) ee) w4
  obtain ⟨b3, p3, vs3, zs, rfl, h5, h6, w6⟩ := seq_at (nobo_frz R1 oc (by simpa using z3) ef) w5
  have S := src_zipB3 (K := X.K) h1 h2 h3 h4 h5 h6
  exact ⟨p1, p2, p3, vs1, vs2, vs3, b1, b2, b3, rfl, h1.sq (hide_same _ _), h3.sq (hide_same _ _), h5.sq (hide_same _ _), fun sz => w6 _ H1 R1 (by show (zip3L xs ys zs).length ≤ sizeLine; rw [zip3L_len, ← h2.length]; exact Nat.le_trans (Nat.le_trans (Nat.min_le_left _ _) (Nat.min_le_left _ _)) (h1.sz (hide_same _ _) sz)) S.b fun _ => S⟩
end
end Pv
/-! Pv12: comprehensions. -/
namespace Pv
open PySem PySem.Spec PyProof.Rows L2
section
variable {K : PySem.W.Frag} {B H H' : Hp} {σ σ1 : L2.St} {env env1 : Env} {tp : Tp} {xs : List D} {J : It}
/-- the pending list grows -/
theorem Rl.grow {p : Addr} {u o : HO} (R : Rl K B σ env ((p, u) :: tp) H) : Rl K B σ env ((p, o) :: tp) (upd H p o) ∧ Same (fz σ env ((p, u) :: tp) H) (fz σ env ((p, o) :: tp) (upd H p o)) := by
  have n := List.nodup_cons.mp ((List.perm_middle (l₁ := oa σ env) (a := p) (l₂ := ad tp)).nodup_iff.mp R.nd)
  have s : Same (fz σ env ((p, u) :: tp) H) (fz σ env ((p, o) :: tp) (upd H p o)) := fun a v e => by
    obtain ⟨h1, h2⟩ := hide_of e
    refine hide_mk ?_ h2
    rw [upd_ne fun z => h2 (mem_mid.mpr (.inl z))]
    exact h1
  refine ⟨⟨R.le.trans s, R.sl.mono s fun q hq => upd_ne fun z => n.1 (z ▸ List.mem_append_left _ hq), R.nd, fun q hq => ?_⟩, s⟩
  rcases List.mem_cons.mp hq with rfl | hq
  · exact upd_same
  · rw [upd_ne fun z => n.1 (List.mem_append_right _ (List.mem_map.mpr ⟨q, hq, z⟩))]
    exact R.tk q (List.mem_cons_of_mem _ hq)
theorem noX_wpm {α : Type} {m : M α} {t : Sto} {ok : α → Sto → Prop} {ex : Str → Sto → Prop} (h : wpm (noX m) t ok ex) : wpm m t ok fun _ _ => False := by
  unfold wpm noX at h
  unfold wpm
  cases q : m t with
  | ok a t' => rw [q] at h; exact h
  | exc x t' => rw [q] at h; exact h
  | stuck => rw [q] at h; exact h
theorem wipe_get (σ : L2.St) : ∀ (vs : List Nat) (i : Nat), (wipe σ vs)[i]? = if i ∈ vs ∧ i < σ.length then some none else σ[i]?
  | [], i => by simp [wipe]
  | v :: vs, i => by
    have ih := wipe_get σ vs i
    unfold wipe
    by_cases z : v = i
    · subst z
      by_cases zl : v < σ.length
      · rw [List.getElem?_set_self (by rw [wipe_length]; exact zl), if_pos ⟨List.mem_cons_self, zl⟩]
      · rw [if_neg fun q => zl q.2, List.getElem?_eq_none (by rw [List.length_set, wipe_length]; omega), List.getElem?_eq_none (by omega)]
    · rw [List.getElem?_set_ne z, ih]
      have : (i ∈ v :: vs) ↔ i ∈ vs := by
        rw [List.mem_cons]
        exact ⟨fun q => q.elim (fun e => absurd e.symm z) id, .inr⟩
      simp only [this]
theorem wipeE_get (env : Env) : ∀ (vs : List Nat) (i : Nat), i ∉ vs → (wipeE env vs)[i]? = env[i]?
  | [], i, _ => rfl
  | v :: vs, i, h => by
    unfold wipeE
    rw [List.getElem?_set_ne (fun z => h (by rw [z]; exact List.mem_cons_self))]
    exact wipeE_get env vs i fun z => h (List.mem_cons_of_mem _ z)
theorem wipe_back {vs ts : List Nat} (hl : σ1.length = σ.length) (h : ∀ i : Nat, i ∉ ts → σ1[i]? = (wipe σ vs)[i]?) (hs : ∀ i ∈ ts, i ∈ vs) : wipe σ1 vs = wipe σ vs := by
  apply List.ext_getElem?
  intro i
  rw [wipe_get, wipe_get, hl]
  by_cases z : i ∈ vs ∧ i < σ.length
  · rw [if_pos z, if_pos z]
  · rw [if_neg z, if_neg z]
    by_cases zl : i < σ.length
    · have z' : i ∉ vs := fun q => z ⟨q, zl⟩
      rw [h i (fun q => z' (hs i q)), wipe_get, if_neg z]
    · rw [List.getElem?_eq_none (by omega), List.getElem?_eq_none (by omega)]
theorem wipeE_len (env : Env) : ∀ vs : List Nat, (wipeE env vs).length = env.length
  | [] => rfl
  | v :: vs => by unfold wipeE; rw [List.length_set]; exact wipeE_len env vs
mutual
theorem asg_len : ∀ (t : T) (d : D) (env env1 : Env), asg t d env = some env1 → env1.length = env.length
  | .nm i, d, env, env1, e => by cases e; rw [List.length_set]
  | .tp ts, d, env, env1, e => by
    cases d with
    | tuple xs => exact asgs_len ts xs env env1 e
    | list xs => exact asgs_len ts xs env env1 e
    | _ => cases e
theorem asgs_len : ∀ (ts : List T) (ds : List D) (env env1 : Env), asgs ts ds env = some env1 → env1.length = env.length
  | [], [], _, _, e => by cases e; rfl
  | [], _ :: _, _, _, e => by cases e
  | _ :: _, [], _, _, e => by cases e
  | t :: ts, d :: ds, env, env1, e => by
    unfold asgs at e
    split at e
    · rename_i e'
      exact (asgs_len ts ds _ _ e).trans (asg_len t d _ _ e')
    · cases e
end
def WF : WN := fun _ _ _ => False
/-- the block's element at a turn -/
def lcF (T : Pv.T) (me : Env → M RV) (mc : Option (Env → M Bool)) (env : Env) (vs : List Nat) (x : D) : M (Option D) := noX (bnd (asgM T x (wipeE env vs)) fun env1 => match mc with
  | none => bnd (me env1) fun r => bnd (keepD r) fun y => ret (some y)
  | some mc => bnd (mc env1) fun b => if b = true then bnd (me env1) fun r => bnd (keepD r) fun y => ret (some y) else ret none)
/-- the tests' reading -/
def tTo (K : PySem.W.Frag) : Option (Env → M Bool) → TT
  | none => tYes
  | some mc => tT K mc WF
theorem lc_run {T : Pv.T} {me : Env → M RV} {mc : Option (Env → M Bool)} {vs : List Nat} {t : Sto} {Q : VK} {EX : Str → Sto → Prop} (R : Rl K B σ env tp H) (hv : ∀ i ∈ tN T, i ∈ vs) (hz : wipeOk env vs = true) (S : SrcB K (fz σ env tp H) σ env J xs) (hx : xs.length ≤ sizeLine)
    (w : wpm (lcL (lcF T me mc env vs) xs) t (fun ys _ => ∀ v H', PostE K B σ env tp (.fr (.lst ys)) v H' → Q v H') EX) (Da : Addr) (hD : H Da = none) :
    ∃ W : Nat → Nat → Hp → Prop, (∃ m, W 0 m (upd H Da (.lst []))) ∧ ∀ i m H, W i m H → (J.stop i H ∧ Q (.ref Da) H) ∨ (J.go i H ∧ ∃ Nx : Hp → Prop, (∀ H', Nx H' → ∃ m', m' < m ∧ W (i + 1) m' H') ∧ ∀ x H', J.yld i H x H' → gT K T x (wipe σ vs) H' fun σ2 H2 => wipe σ2 vs = wipe σ vs ∧ tTo K mc σ2 H2 fun b H3 =>
      if b = true then tE K me WF σ2 H3 fun y H4 => ∃ acc, H4 Da = some (.lst acc) ∧ acc.length < sizeLine ∧ Nx (upd H4 Da (.lst (acc ++ [y]))) else Nx H3) := by
  have OK0 := R.base.allocO (o := .lst []) hD
  refine lc_it S (fun i H1 => ∃ acc ys t1, Rl K (fz σ env tp H) σ env ((Da, .lst acc) :: tp) H1 ∧ Reps (fz σ env ((Da, .lst acc) :: tp) H1) acc ys ∧ acc.length ≤ i ∧
      wpm (lcL (lcF T me mc env vs) (xs.drop i)) t1 (fun zs _ => ∀ v H', PostE K B σ env tp (.fr (.lst (ys ++ zs))) v H' → Q v H') EX)
    ⟨[], [], t, OK0.2, .nil, Nat.le_refl _, w⟩ (fun i H1 _ ⟨acc, ys, t1, R1, _⟩ => ⟨_, R1⟩) (fun i x H1 H2 hi hP hY => ?_) fun H1 hP => ?_
  · obtain ⟨acc, ys, t1, R1, ra, hl, w1⟩ := hP
    obtain ⟨d, ed, hy⟩ := hY
    have hy := hy _ R1
    -- the item
    have step : Rl K (fz σ env tp H) σ env ((Da, .lst acc) :: tp) H2 ∧ Rep (fz σ env ((Da, .lst acc) :: tp) H2) x d ∧ Same (fz σ env ((Da, .lst acc) :: tp) H1) (fz σ env ((Da, .lst acc) :: tp) H2) := by
      rcases hy with ⟨rfl, r⟩ | ⟨Ta, us, ds, rfl, hn, rfl, rfl, r⟩
      · exact ⟨R1, r, Same.refl _⟩
      · exact ⟨R1.alloc hn, .tup (R1.at_ hn) (r.mono (fz_upd hn)), fz_upd hn⟩
    obtain ⟨R2, r2, s12⟩ := step
    have hd : xs.drop i = d :: xs.drop (i + 1) := by
      obtain ⟨h1, h2⟩ := List.getElem?_eq_some_iff.mp ed
      rw [List.drop_eq_getElem_cons h1, h2]
    rw [hd] at w1
    unfold lcL at w1
    rw [wpm_bnd] at w1
    have w2 := noX_wpm (m := bnd (asgM T d (wipeE env vs)) _) w1
    rw [wpm_bnd] at w2
    unfold asgM at w2
    cases ea : asg T d (wipeE env vs) with
    | none => rw [ea] at w2; exact w2.elim
    | some env1 =>
    rw [ea] at w2
    obtain ⟨Rw, ko, eo⟩ := wipe_put vs hz R2
    have rw_ : Rep (fz (wipe σ vs) (wipeE env vs) ((Da, .lst acc) :: tp) H2) x d := by
      unfold fz
      rw [eo]
      exact r2
    have hno : noOwn (wipeE env vs) (tN T) := fun j hj => by
      cases q : isOwn (wipeE env vs)[j]? with
      | false => rfl
      | true =>
        exfalso
        have h1 := ko j q
        have h2 := List.all_eq_true.mp hz j (hv j hj)
        unfold isOwn at h1
        split at h1
        · rename_i o; rw [o] at h2; exact Bool.false_ne_true h2
        · cases h1
    refine gT_of T d x _ _ env1 _ Rw rw_ ea hno fun σ2 P => ?_
    have e2 : oa σ2 env1 = oa σ env := P.oa_.trans eo
    have near : Near σ env σ2 env1 := fun j o hj => by
      have hj' : j ∉ vs := fun z => by
        have h2 := List.all_eq_true.mp hz j z
        rw [hj] at h2
        exact Bool.false_ne_true h2
      have hj2 : j ∉ tN T := fun z => hj' (hv j z)
      obtain ⟨p1, p2⟩ := P.out j hj2
      refine ⟨by rw [p2, wipeE_get env vs j hj', hj], ?_⟩
      rw [p1, wipe_get, if_neg fun z => hj' z.1]
    have efz : ∀ (tp' : Tp) (H' : Hp), fz σ2 env1 tp' H' = fz σ env tp' H' := fun tp' H' => by
      unfold fz
      rw [e2]
    refine ⟨wipe_back (by rw [P.rl.len, R.len]; rw [asg_len T d _ _ ea, wipeE_len]) (fun j hj => (P.out j hj).1) hv, ?_⟩
    -- the element's turn, from a state of the block
    have elt : ∀ (H3 : Hp) (t3 : Sto), Rl K (fz σ2 env1 ((Da, .lst acc) :: tp) H2) σ2 env1 ((Da, .lst acc) :: tp) H3 →
        wpm (bnd (me env1) fun r => bnd (keepD r) fun y => ret (some y)) t3 (fun o t4 => wpm (bnd (lcL (lcF T me mc env vs) (xs.drop (i + 1))) fun r => ret (match o with
          | some y => y :: r
          | none => r)) t4 (fun zs _ => ∀ v H', PostE K B σ env tp (.fr (.lst (ys ++ zs))) v H' → Q v H') EX) (fun _ _ => False) →
        tE K me WF σ2 H3 fun y H4 => ∃ acc, H4 Da = some (.lst acc) ∧ acc.length < sizeLine ∧ ∃ acc' ys' t1', Rl K (fz σ env tp H) σ env ((Da, .lst acc') :: tp) (upd H4 Da (.lst (acc ++ [y]))) ∧ Reps (fz σ env ((Da, .lst acc') :: tp) (upd H4 Da (.lst (acc ++ [y])))) acc' ys' ∧ acc'.length ≤ i + 1 ∧
          wpm (lcL (lcF T me mc env vs) (xs.drop (i + 1))) t1' (fun zs _ => ∀ v H', PostE K B σ env tp (.fr (.lst (ys' ++ zs))) v H' → Q v H') EX := by
      intro H3 t3 R3 w3
      refine tE_step R3 w3 (fun _ _ q => q.elim) fun r t4 y H4 R4 o4 w4 => ?_
      rw [wpm_bnd] at w4
      obtain ⟨yd, ry, w4⟩ := keepD_of o4 w4
      have w4 : wpm (bnd (lcL (lcF T me mc env vs) (xs.drop (i + 1))) fun r => ret (yd :: r)) t4 _ EX := w4
      have hD4 : H4 Da = some (.lst acc) := R4.tk (Da, .lst acc) List.mem_cons_self
      have Rb : Rl K (fz σ env tp H) σ env ((Da, .lst acc) :: tp) H4 := R2.back R4 e2 (by rw [efz]; exact Same.refl _) near
      obtain ⟨Rg, sg⟩ := Rb.grow (o := .lst (acc ++ [y]))
      have le4 := R4.le
      rw [efz] at le4 ry
      have ra4 : Reps (fz σ env ((Da, .lst acc) :: tp) H4) acc ys := (ra.mono s12).mono (by have := le4; unfold fz at this ⊢; rw [e2] at this; exact this)
      refine ⟨acc, hD4, Nat.lt_of_le_of_lt hl (Nat.lt_of_lt_of_le hi hx), acc ++ [y], ys ++ [yd], t4, Rg, (ra4.append (.cons ry .nil)).mono sg, by rw [List.length_append]; simp; omega, ?_⟩
      rw [wpm_bnd] at w4
      refine wpm_mono w4 (fun zs t5 q => ?_) fun _ _ q => q
      rw [List.append_assoc]
      exact q
    cases mc with
    | none =>
      exact elt H2 _ P.rl.base w2
    | some mc =>
      show tT K mc WF σ2 H2 _
      refine tT_step P.rl.base w2 (fun _ _ q => q.elim) fun b t3 H3 R3 w3 => ?_
      cases b with
      | true => exact elt H3 _ R3 w3
      | false =>
        show ∃ acc ys t1, _
        have w3 : wpm (bnd (lcL (lcF T me (some mc) env vs) (xs.drop (i + 1))) fun r => ret r) t3 _ EX := w3
        have Rb : Rl K (fz σ env tp H) σ env ((Da, .lst acc) :: tp) H3 := R2.back R3 e2 (by rw [efz]; exact Same.refl _) near
        have le3 := R3.le
        rw [efz] at le3
        refine ⟨acc, ys, t3, Rb, (ra.mono s12).mono (by have := le3; unfold fz at this ⊢; rw [e2] at this; exact this), Nat.le_succ_of_le hl, ?_⟩
        rw [wpm_bnd] at w3
        exact wpm_mono w3 (fun zs t5 q => q) fun _ _ q => q
  · obtain ⟨acc, ys, t1, R1, ra, hl, w1⟩ := hP
    rw [List.drop_length] at w1
    have w1 : ∀ v H', PostE K B σ env tp (.fr (.lst (ys ++ []))) v H' → Q v H' := w1
    rw [List.append_nil] at w1
    refine w1 _ _ ⟨Da, _, rfl, R1.down R.le, acc, R1.tk (Da, .lst acc) List.mem_cons_self, ra⟩
end
end Pv
/-! Pv13: promises of defs, calls, the expressions' soundness. -/
namespace Pv
open PySem PySem.Spec PyProof.Rows L2
inductive VvsR (K : PySem.W.Frag) (F : Hp) : List V → List Vv → Prop
  | nil : VvsR K F [] []
  | cons {v : V} {vs : List V} {x : Vv} {xs : List Vv} : VvR K F v x → VvsR K F vs xs → VvsR K F (v :: vs) (x :: xs)
/-- behind a def: tp is what its caller hides -/
def PostC (K : PySem.W.Frag) (B : Hp) (tp : Tp) (rv : RV) (v : V) (H' : Hp) : Prop := (∀ q ∈ tp, H' q.1 = some q.2) ∧ match rv with
  | .v x => Same B (hide (ad tp) H') ∧ VvR K (hide (ad tp) H') v x
  | .fr o => ∃ p u, v = .ref p ∧ H' p = some u ∧ p ∉ ad tp ∧ Same B (hide (p :: ad tp) H') ∧ OvR (hide (p :: ad tp) H') H' p o
  | .bo _ _ => False
/-- a def that does what g says -/
def spF (K : PySem.W.Frag) (ca : Str → Addr) (n : Nat) (g : List Vv → M RV) : Sp := fun vs H Q E => vs.length = n ∧ ∃ (tp : Tp) (xs : List Vv) (t : Sto), (∀ q ∈ tp, H q.1 = some q.2) ∧ (ad tp).Nodup ∧ VvsR K (hide (ad tp) H) vs xs ∧
  wpm (g xs) t (fun rv _ => ∀ v H', PostC K (hide (ad tp) H) tp rv v H' → Q v H') fun x _ => ∀ H', Same (hide (ad tp) H) (hide (ad tp) H') → (∀ q ∈ tp, H' q.1 = some q.2) → E (.ref (ca x)) none H'
/-- the wish about exceptions by their names -/
def wx (ca : Str → Addr) (W : WN) : WX := fun cls d σ H => ∃ x, cls = .ref (ca x) ∧ d = none ∧ W x σ H
section
variable {K : PySem.W.Frag} {B H H' : Hp} {σ : L2.St} {env : Env} {tp : Tp}
theorem keepAll_of {F : Hp} : ∀ {vs : List V} {rs : List RV} {t : Sto} {ok : List Vv → Sto → Prop} {ex : Str → Sto → Prop}, OpdsR K σ env F vs rs → wpm (keepAll rs) t ok ex → ∃ xs, VvsR K F vs xs ∧ ok xs t
  | _, _, _, _, _, .nil, w => ⟨[], .nil, w⟩
  | _, _, t, ok, ex, .cons h q, w => by
    unfold keepAll at w
    rw [wpm_bnd] at w
    obtain ⟨x, hx, w⟩ := keepV_of h w
    rw [wpm_bnd] at w
    obtain ⟨xs, hxs, w⟩ := keepAll_of q w
    exact ⟨x :: xs, .cons hx hxs, w⟩
theorem VvsR.length {F : Hp} : ∀ {vs : List V} {xs : List Vv}, VvsR K F vs xs → vs.length = xs.length
  | _, _, .nil => rfl
  | _, _, .cons _ r => by rw [List.length_cons, List.length_cons, r.length]
theorem hide_eq {O O' : List Addr} (h : ∀ a, a ∈ O ↔ a ∈ O') : hide O H = hide O' H := by
  funext a
  unfold hide
  by_cases z : a ∈ O
  · rw [if_pos z, if_pos ((h a).mp z)]
  · rw [if_neg z, if_neg fun q => z ((h a).mpr q)]
/-- a callee's end is an expression's end -/
theorem PostC.post {rv : RV} {v : V} (R : Rl K B σ env tp H) (h : PostC K (fz σ env tp H) (hid σ env tp H) rv v H') : PostE K B σ env tp rv v H' := by
  obtain ⟨k, h⟩ := h
  have e := R.ad_hid
  cases rv with
  | v x =>
    obtain ⟨s, q⟩ := h
    rw [e] at s q
    exact ⟨R.after s k, q⟩
  | fr o =>
    obtain ⟨p, u, rfl, hu, hp, s, q⟩ := h
    rw [e] at hp s q
    have em : hide (p :: (oa σ env ++ ad tp)) H' = fz σ env ((p, u) :: tp) H' := hide_eq fun a => by
      rw [List.mem_cons]
      exact mem_mid.symm
    rw [em] at s q
    refine ⟨p, u, rfl, ⟨R.le.trans s, R.sl.mono s fun p' hp' => ?_, ?_, fun z hz => ?_⟩, q⟩
    · obtain ⟨u', e'⟩ := R.sl.own_tracked p' hp'
      rw [e']
      exact k (p', u') (List.mem_append_left _ (List.mem_filterMap.mpr ⟨p', hp', by rw [e']; rfl⟩))
    · exact (List.perm_middle (l₁ := oa σ env) (a := p) (l₂ := ad tp)).nodup_iff.mpr (List.nodup_cons.mpr ⟨hp, R.nd⟩)
    · rcases List.mem_cons.mp hz with rfl | hz
      · exact hu
      · exact k z (List.mem_append_right _ hz)
  | bo _ _ => exact h.elim
theorem Rl.nd_hid (R : Rl K B σ env tp H) : (ad (hid σ env tp H)).Nodup := by rw [R.ad_hid]; exact R.nd
end
def bltNames : List Str := ["len", "abs", "sum", "min", "max", "sorted", "tuple", "list", "int", "str", "set", "range", "enumerate", "zip", "isinstance", "bool"]
/-- what a context must offer, whatever its names are -/
structure Gx (G : GS) (is : Str → Str → Bool) (ca : Str → Addr) (X : Cx) : Prop where
  exc : ∀ x, G.exc.contains x = true → ∃ (B newId initId : String) (bmB : List Value), ExcBaseFacts B newId initId bmB ∧ PySem.W.excIn X.K (ca x) bmB newId = true ∧ X.mg x = some (.ref (ca x)) ∧ PySem.W.keepIn X.K (.ref (ca x)) = true ∧ Raises X (.ref (ca x))
  exm : ∀ x y, is x x = true → G.exc.contains y = true → PySem.W.exmOne X.K (.ref (ca x)) (.ref (ca y)) = some (is x y)
structure Gd (Φ : Str → List Vv → M RV) (G : GS) (ca : Str → Addr) (X : Cx) : Prop where
  calm : X.calm = true
  hu : X.A.units + 70 < cLine
  free : ∀ b ∈ bltNames, X.mg b = none
  cns : ∀ x i, G.cns.lookup x = some i → ∃ t, X.mg x = some (.int i t)
  fns : ∀ x, G.fns.contains x = true → ∃ k f fd ps, FnOk X.prog X.w X.K X.mg X.base (CX X.prog X.w) k f fd ps (spF X.K ca ps.length (Φ x)) ∧ Room k X.A ∧ X.mg x = some (.ref f) ∧ PySem.W.keepIn X.K (.ref f) = true ∧ Binds X.K fd ps [] ∧ ∀ xs t ok ex, wpm (Φ x xs) t ok ex → xs.length = ps.length
/-- .. with its names -/
structure Cn (S : SC) (X : Cx) : Prop where
  hN : X.N = S.N
  hS : X.env.scope = S.sc
  nd : S.N.Nodup
theorem idx_get {x : Str} : ∀ {N : List Str} {i : Nat}, idx x N = some i → N[i]? = some x
  | [], _, h => by cases h
  | y :: ys, i, h => by
    unfold idx at h
    split at h
    · rename_i e; cases h; rw [e]; rfl
    · cases q : idx x ys with
      | none => rw [q] at h; cases h
      | some j => rw [q] at h; cases h; exact idx_get (N := ys) q
theorem vis_of {sc : Scope} {x : Str} (h : visB sc x = true) : (sc.names.lookup x = some .local ∨ sc.names.lookup x = some .cell ∨ sc.names.lookup x = some .free) ∧ (x == ("__debug__" : Str)) = false ∧ (x == ("__classdict__" : Str)) = false := by
  unfold visB at h
  simp only [Bool.and_eq_true, Bool.or_eq_true, decide_eq_true_eq, Bool.not_eq_true'] at h
  obtain ⟨⟨h1, h2⟩, h3⟩ := h
  refine ⟨?_, h2, h3⟩
  rcases h1 with (h | h) | h
  · exact .inl h
  · exact .inr (.inl h)
  · exact .inr (.inr h)
theorem gl_of {sc : Scope} {x : Str} (h : glB sc x = true) : sc.names.lookup x = some .globalImplicit ∧ (x == ("__debug__" : Str)) = false := by
  unfold glB at h
  simpa using h
theorem loc_of {sc : Scope} {x : Str} (h : locB sc x = true) : sc.names.lookup x = some .local ∨ sc.names.lookup x = some .cell := by
  unfold locB at h
  simpa using h
section
variable {X : Cx} {W : WN} {S : SC} {G : GS} {ca : Str → Addr} {Φ : Str → List Vv → M RV}
theorem Cn.vis (C : Cn S X) {x : Str} (h : visB S.sc x = true) : Vis X.env.scope x := by
  rw [C.hS]
  exact (vis_of h).1
theorem Cn.gl (C : Cn S X) {x : Str} (h : glB S.sc x = true) : Gl X x := by
  show X.env.scope.names.lookup x = _
  rw [C.hS]
  exact (gl_of h).1
theorem pe_slot {x : Str} {i : Nat} {pos : Pos} (C : Cn S X) (h : visB S.sc x = true) (hi : idx x S.N = some i) : PE X (.Name x pos) (tE X.K (fun env => slotR env i) W) := by
  refine pe_imp (pe_var (i := i) (by rw [C.hN]; exact idx_get hi) (C.vis h) (vis_of h).2.1 (vis_of h).2.2) fun σ H Q ⟨B, env, tp, t, R, w⟩ => ?_
  replace w : wpm (slotR env i) t _ _ := w
  unfold slotR at w
  split at w <;> first | exact wpm_stk w | skip
  · rename_i v e
    obtain ⟨y, e1, q⟩ := R.sl.get e
    obtain ⟨z, e2, q⟩ := q
    subst e2
    exact ⟨z, e1, w z H ⟨R, q⟩⟩
  · rename_i o e
    obtain ⟨y, e1, q⟩ := R.sl.get e
    obtain ⟨p, e2, q⟩ := q
    subst e2
    exact ⟨_, e1, w _ H ⟨R, e1, e⟩⟩
theorem pe_const {e : Expr} {v : V} {d : D} (h : PE X e (tC v)) (r : ∀ F, Rep F v d) : PE X e (tE X.K (fun _ => ret (rd d)) W) := pe_imp h fun σ H Q ⟨B, env, tp, t, R, w⟩ => w v H (post_d R (r _))
theorem pe_callM {x : Str} {p pos : Pos} {e : Expr} {es : List Expr} {ms : Env → M (List RV)} (D : Gd Φ G ca X) (tk : Takes X (wx ca W)) (hg : Gl X x) (hd : (x == ("__debug__" : Str)) = false) (hf : G.fns.contains x = true) (ha : PA X (e :: es) (tAr X.K ms W)) (na : ((e :: es).all fun e => !isStarE e) = true) :
    PE X (.Call (.Name x p) (e :: es) [] pos) (tE X.K (fun env => bnd (ms env) fun rs => bnd (keepAll rs) fun xs => Φ x xs) W) := by
  obtain ⟨k, f, fd, ps, F, hr, hm, hk, hb, hlen⟩ := D.fns x hf
  have n1 : isStarE e = false ∧ (es.all fun e => !isStarE e) = true := by
    rw [List.all_cons, Bool.and_eq_true] at na
    exact ⟨by cases q : isStarE e <;> simp [q] at na ⊢, na.2⟩
  refine pe_imp (pe_callS F hr hg hm hk hb (fun σ => passAt tk σ) ha hd (star_cons n1.1) (noany n1.2)) fun σ H Q ⟨B, env, tp, t, R, w⟩ => ?_
  refine tAr_step R w (fun _ _ q => q) fun rs t1 vs H1 R1 o1 w1 => ?_
  rw [wpm_bnd] at w1
  obtain ⟨xs, hxs, w1⟩ := keepAll_of o1 w1
  refine ⟨hxs.length.trans (hlen xs _ _ _ w1), hid σ env tp H1, xs, t1, R1.tk_hid, R1.nd_hid, by rw [R1.ad_hid]; exact hxs, wpm_mono w1 (fun rv t2 q v H' p => q v H' ?_) fun y t2 q H' s k => ?_⟩
  · rw [R1.ad_hid] at p
    exact p.post R1
  · rw [R1.ad_hid] at s
    exact ⟨y, rfl, rfl, q H' (R1.after s k)⟩
end
end Pv
/-! Pv14: the expressions' soundness. -/
namespace Pv
open PySem PySem.Spec PyProof.Rows L2
section
variable {K : PySem.W.Frag} {B B' H H' : Hp} {σ : L2.St} {env : Env} {tp : Tp}
theorem PostE.down {rv : RV} {v : V} (h : PostE K B σ env tp rv v H) (s : Same B' B) : PostE K B' σ env tp rv v H := by
  cases rv with
  | v x => exact ⟨h.1.down s, h.2⟩
  | fr o => obtain ⟨p, u, e, R, q⟩ := h; exact ⟨p, u, e, R.down s, q⟩
  | bo i o => exact ⟨h.1.down s, h.2⟩
theorem post_frz {v : V} {r : RV} {t : Sto} {ok : RV → Sto → Prop} {ex : Str → Sto → Prop} (R : Rl K B σ env tp H) (o : OpdR K σ env (fz σ env tp H) v r) (w : wpm (frzM r) t ok ex) : ∃ rv, ok rv t ∧ PostE K B σ env tp rv v H := by
  unfold frzM at w
  split at w
  · obtain ⟨p, rfl, vs, h1, h2⟩ := o
    exact ⟨_, w, R, .lst h1 h2⟩
  · exact w.elim
  · rename_i n1 n2
    cases r with
    | v x => exact ⟨_, w, R, o⟩
    | fr o' => exact absurd rfl (n2 o')
    | bo i o' => exact ⟨_, w, R, o.1, o.2⟩
/-- a comparison's answer is True or False -/
theorem cmp_bool {op : COp} {a b : RV} {t : Sto} {ok : RV → Sto → Prop} {ex : Str → Sto → Prop} (w : wpm (cmpR op a b) t ok ex) : wpm (cmpR op a b) t (fun rv t' => (∃ k, rv = rd (.bool k)) ∧ ok rv t') ex := by
  have key : ∀ x y, ∀ t ok ex, wpm (cmpD op x y) t ok ex → wpm (cmpD op x y) t (fun rv t' => (∃ k, rv = rd (.bool k)) ∧ ok rv t') ex := by
    intro x y t ok ex w
    have g : ∀ (c : Bool) (k : Bool), wpm (guard c (ret (rd (.bool k)))) t ok ex → wpm (guard c (ret (rd (.bool k)))) t (fun rv t' => (∃ k, rv = rd (.bool k)) ∧ ok rv t') ex := by
      intro c k w
      cases c with
      | true => exact ⟨⟨k, rfl⟩, w⟩
      | false => exact w.elim
    cases op with
    | eq => exact g _ _ w
    | ne => exact g _ _ w
    | lt =>
      replace w : wpm (ltD x y) t ok ex := w
      show wpm (ltD x y) t _ ex
      unfold ltD at w ⊢
      split at w
      · exact ⟨⟨_, rfl⟩, w⟩
      · rename_i h
        exact g _ _ w
    | le =>
      replace w : wpm (leD x y) t ok ex := w
      show wpm (leD x y) t _ ex
      unfold leD at w ⊢
      split at w <;> first | exact w.elim | exact ⟨⟨_, rfl⟩, w⟩
    | gt =>
      replace w : wpm (gtD x y) t ok ex := w
      show wpm (gtD x y) t _ ex
      unfold gtD at w ⊢
      split at w <;> first | exact w.elim | exact ⟨⟨_, rfl⟩, w⟩
    | ge =>
      replace w : wpm (geD x y) t ok ex := w
      show wpm (geD x y) t _ ex
      unfold geD at w ⊢
      split at w <;> first | exact w.elim | exact ⟨⟨_, rfl⟩, w⟩
    | is_ =>
      replace w : wpm (isD x y) t ok ex := w
      show wpm (isD x y) t _ ex
      unfold isD at w ⊢
      split at w <;> first | exact w.elim | exact ⟨⟨_, rfl⟩, w⟩
    | isnot =>
      replace w : wpm (isnotD x y) t ok ex := w
      show wpm (isnotD x y) t _ ex
      unfold isnotD at w ⊢
      split at w <;> first | exact w.elim | exact ⟨⟨_, rfl⟩, w⟩
    | in_ =>
      replace w : wpm (inM true x y) t ok ex := w
      show wpm (inM true x y) t _ ex
      unfold inM at w ⊢
      split at w <;> first | exact w.elim | exact g _ _ w
    | notin =>
      replace w : wpm (inM false x y) t ok ex := w
      show wpm (inM false x y) t _ ex
      unfold inM at w ⊢
      split at w <;> first | exact w.elim | exact g _ _ w
  unfold cmpR at w ⊢
  unfold asD at w ⊢
  cases q : a.dat with
  | none => rw [q] at w; exact w.elim
  | some x =>
    rw [q] at w
    cases q' : b.dat with
    | none => rw [q'] at w; exact w.elim
    | some y => rw [q'] at w; exact key x y t ok ex w
end
section
variable {X : Cx} {W : WN}
theorem wpm_assoc {α β γ : Type} {m : M α} {f : α → M β} {g : β → M γ} {t : Sto} {ok : γ → Sto → Prop} {ex : Str → Sto → Prop} (w : wpm (bnd m fun a => bnd (f a) g) t ok ex) : wpm (bnd (bnd m f) g) t ok ex := by rw [bnd_assoc]; exact w
theorem wpm_assoc' {α β γ : Type} {m : M α} {f : α → M β} {g : β → M γ} {t : Sto} {ok : γ → Sto → Prop} {ex : Str → Sto → Prop} (w : wpm (bnd (bnd m f) g) t ok ex) : wpm (bnd m fun a => bnd (f a) g) t ok ex := by rw [bnd_assoc] at w; exact w
/-- the general test: the value's truth -/
theorem pt_gen {e : Expr} {m : Env → M RV} (h : PE X e (tE X.K m W)) (he : ∀ whole, isTrue e X.env whole = (do let v ← whole; standAt e.pos; holding [v] (truthy v))) : PT X e (tT X.K (fun env => bnd (m env) truR) W) := pt_imp (pt_truth h he) fun σ H Q ⟨B, env, tp, t, R, w⟩ => by
  refine tE_step R w (fun _ _ q => q) fun r t1 v H1 R1 o1 w1 => ?_
  obtain ⟨k, h1, h2⟩ := tru_of R1 o1 w1
  exact ⟨k, h1, h2 H1 R1⟩
theorem pe_notM {e : Expr} {pos : Pos} {m : Env → M RV} (h : PE X e (tE X.K m W)) : PE X (.UnaryOp .Not e pos) (tE X.K (fun env => bnd (m env) fun r => bnd (truR r) fun b => ret (rd (.bool (!b)))) W) := pe_imp (pe_notT h) fun σ H Q ⟨B, env, tp, t, R, w⟩ => by
  refine tE_step R w (fun _ _ q => q) fun r t1 v H1 R1 o1 w1 => ?_
  rw [wpm_bnd] at w1
  obtain ⟨k, h1, h2⟩ := tru_of R1 o1 w1
  exact ⟨k, h1, h2 _ _ (post_d R1 (.bl _))⟩
theorem pt_notM {e : Expr} {pos : Pos} {m : Env → M RV} (h : PT X e (tT X.K (fun env => bnd (m env) truR) W)) : PT X (.UnaryOp .Not e pos) (tT X.K (fun env => bnd (bnd (m env) fun r => bnd (truR r) fun b => ret (rd (.bool (!b)))) truR) W) := pt_imp (pt_not h) fun σ H Q ⟨B, env, tp, t, R, w⟩ => by
  have w := wpm_assoc' w
  simp only [bnd_assoc] at w
  exact tT_step (k := fun b => bnd (ret (rd (.bool (!b)))) truR) R (wpm_assoc w) (fun _ _ q => q) fun b t1 H1 R1 w1 => w1 H1 R1
theorem pe_negM {e : Expr} {pos : Pos} {m : Env → M RV} (h : PE X e (tE X.K m W)) : PE X (.UnaryOp .USub e pos) (tE X.K (fun env => bnd (m env) fun r => asD r negD) W) := pe_imp (pe_un un_neg h) fun σ H Q q => tUn_of srv_neg q
theorem pe_andM {a b : Expr} {rest : List Expr} {pos : Pos} {m1 m2 : Env → M RV} (ha : PE X a (tE X.K m1 W)) (hb : PE X (.BoolOp .And (b :: rest) pos) (tE X.K m2 W)) :
    PE X (.BoolOp .And (a :: b :: rest) pos) (tE X.K (fun env => bnd (m1 env) fun r => bnd (truR r) fun c => if c = true then m2 env else frzM r) W) := pe_imp (pe_andT ha hb) fun σ H Q ⟨B, env, tp, t, R, w⟩ => by
  refine tE_step R w (fun _ _ q => q) fun r t1 v H1 R1 o1 w1 => ?_
  rw [wpm_bnd] at w1
  obtain ⟨k, h1, h2⟩ := tru_of R1 o1 w1
  refine ⟨k, h1, ?_⟩
  cases k with
  | true => exact tE_last R1 h2 (fun _ _ q => q)
  | false =>
    obtain ⟨rv, q, p⟩ := post_frz R1 o1 h2
    exact q v H1 p
theorem pe_orM {a b : Expr} {rest : List Expr} {pos : Pos} {m1 m2 : Env → M RV} (ha : PE X a (tE X.K m1 W)) (hb : PE X (.BoolOp .Or (b :: rest) pos) (tE X.K m2 W)) :
    PE X (.BoolOp .Or (a :: b :: rest) pos) (tE X.K (fun env => bnd (m1 env) fun r => bnd (truR r) fun c => if c = true then frzM r else m2 env) W) := pe_imp (pe_orT ha hb) fun σ H Q ⟨B, env, tp, t, R, w⟩ => by
  refine tE_step R w (fun _ _ q => q) fun r t1 v H1 R1 o1 w1 => ?_
  rw [wpm_bnd] at w1
  obtain ⟨k, h1, h2⟩ := tru_of R1 o1 w1
  refine ⟨k, h1, ?_⟩
  cases k with
  | false => exact tE_last R1 h2 (fun _ _ q => q)
  | true =>
    obtain ⟨rv, q, p⟩ := post_frz R1 o1 h2
    exact q v H1 p
/-- a falsy value stays falsy when it is frozen -/
theorem tru_frz {r : RV} {b : Bool} {t : Sto} {ok : Bool → Sto → Prop} {ex : Str → Sto → Prop} (h : truR r = ret b) (w : wpm (bnd (frzM r) truR) t ok ex) : ok b t := by
  rw [wpm_bnd] at w
  unfold frzM at w
  split at w
  · have w : wpm (truR (.v (.d (.list _)))) t ok ex := w
    rw [show truR (.v (.d (.list _))) = truR (.fr (.lst _)) from rfl, h] at w
    exact w
  · exact w.elim
  · have w : wpm (truR _) t ok ex := w
    rw [h] at w
    exact w
theorem truR_val (r : RV) : (∃ b, truR r = ret b) ∨ truR r = stk := by
  unfold truR asD
  cases r.dat with
  | none => exact .inr rfl
  | some d =>
    show (∃ b, truD d = ret b) ∨ truD d = stk
    unfold truD
    split <;> first | exact .inl ⟨_, rfl⟩ | exact .inr rfl | skip
    unfold guard
    split
    · exact .inl ⟨_, rfl⟩
    · exact .inr rfl
theorem pw_andM {a b : Expr} {rest : List Expr} {pos : Pos} {m1 m2 : Env → M RV} (ha : PT X a (tT X.K (fun env => bnd (m1 env) truR) W)) (hb : PW X (.BoolOp .And (b :: rest) pos) (tT X.K (fun env => bnd (m2 env) truR) W)) :
    PW X (.BoolOp .And (a :: b :: rest) pos) (tT X.K (fun env => bnd (bnd (m1 env) fun r => bnd (truR r) fun c => if c = true then m2 env else frzM r) truR) W) := by
  refine ⟨fun wh pins s σ H Q I q => (pw_and ha hb).run wh pins s σ H Q I ?_⟩
  obtain ⟨B, env, tp, t, R, w⟩ := q
  have w' : wpm (bnd (bnd (m1 env) truR) fun c => if c = true then bnd (m2 env) truR else ret false) t (fun b t1 => ∀ H1, Rl X.K B σ env tp H1 → Q b H1) (fun x _ => ∀ H1, Rl X.K B σ env tp H1 → W x σ H1) := by
    simp only [bnd_assoc] at w ⊢
    rw [wpm_bnd] at w ⊢
    refine wpm_mono w (fun r t1 w1 => ?_) fun _ _ q => q
    rcases truR_val r with ⟨c, e⟩ | e
    · rw [e] at w1 ⊢
      cases c with
      | true => exact w1
      | false => exact tru_frz e w1
    · rw [e] at w1; exact w1.elim
  refine tT_step R w' (fun _ _ q => q) fun b t1 H1 R1 w1 => ?_
  cases b with
  | true => exact iteT ⟨B, env, tp, t1, R1, w1⟩
  | false => exact iteF (w1 H1 R1)
theorem pw_orM {a b : Expr} {rest : List Expr} {pos : Pos} {m1 m2 : Env → M RV} (ha : PT X a (tT X.K (fun env => bnd (m1 env) truR) W)) (hb : PW X (.BoolOp .Or (b :: rest) pos) (tT X.K (fun env => bnd (m2 env) truR) W)) :
    PW X (.BoolOp .Or (a :: b :: rest) pos) (tT X.K (fun env => bnd (bnd (m1 env) fun r => bnd (truR r) fun c => if c = true then frzM r else m2 env) truR) W) := by
  refine ⟨fun wh pins s σ H Q I q => (pw_or ha hb).run wh pins s σ H Q I ?_⟩
  obtain ⟨B, env, tp, t, R, w⟩ := q
  have w' : wpm (bnd (bnd (m1 env) truR) fun c => if c = true then ret true else bnd (m2 env) truR) t (fun b t1 => ∀ H1, Rl X.K B σ env tp H1 → Q b H1) (fun x _ => ∀ H1, Rl X.K B σ env tp H1 → W x σ H1) := by
    simp only [bnd_assoc] at w ⊢
    rw [wpm_bnd] at w ⊢
    refine wpm_mono w (fun r t1 w1 => ?_) fun _ _ q => q
    rcases truR_val r with ⟨c, e⟩ | e
    · rw [e] at w1 ⊢
      cases c with
      | false => exact w1
      | true => exact tru_frz e w1
    · rw [e] at w1; exact w1.elim
  refine tT_step R w' (fun _ _ q => q) fun b t1 H1 R1 w1 => ?_
  cases b with
  | true => exact iteT (w1 H1 R1)
  | false => exact iteF ⟨B, env, tp, t1, R1, w1⟩
theorem noSetM {op : CmpOp} {b : Expr} (h : isSetE b = false) : behindInMarks op b = false := by
  cases b <;> first | rfl | exact absurd h (by simp [isSetE])
theorem pe_cmpM {o : CmpOp} {op : COp} {a b : Expr} {pos : Pos} {m1 m2 : Env → M RV} (hu : X.A.units + 70 < cLine) (h : cop o = some op) (ha : PE X a (tE X.K m1 W)) (hb : PE X b (tE X.K m2 W)) (hs : isSetE b = false) :
    PE X (.Compare a [o] [b] pos) (tE X.K (fun env => bnd (m1 env) fun r => bnd (m2 env) fun s => cmpR op r s) W) := by
  obtain ⟨r, h1, h2⟩ := op_cmp (X := X) (by omega) h
  exact pe_imp (pe_cmpR h1 ha hb (noSetM hs)) fun σ H Q q => tOp_of h2 q
theorem pt_cmpM {o : CmpOp} {op : COp} {a b : Expr} {pos : Pos} {m1 m2 : Env → M RV} (hu : X.A.units + 70 < cLine) (h : cop o = some op) (ha : PE X a (tE X.K m1 W)) (hb : PE X b (tE X.K m2 W)) (hs : isSetE b = false) :
    PT X (.Compare a [o] [b] pos) (tT X.K (fun env => bnd (bnd (m1 env) fun r => bnd (m2 env) fun s => cmpR op r s) truR) W) := by
  obtain ⟨r, h1, h2⟩ := op_cmp (X := X) (by omega) h
  refine pt_imp (pt_cmpR h1 ha hb (noSetM hs)) fun σ H Q ⟨B, env, tp, t, R, w⟩ => tOp_of h2 ⟨B, env, tp, t, R, ?_⟩
  simp only [bnd_assoc] at w
  rw [wpm_bnd] at w ⊢
  refine wpm_mono w (fun r t1 w1 => ?_) fun _ _ q => q
  rw [wpm_bnd] at w1 ⊢
  refine wpm_mono w1 (fun s t2 w2 => ?_) fun _ _ q => q
  rw [wpm_bnd] at w2
  refine wpm_mono (cmp_bool w2) (fun rv t3 w3 v H1 p => ?_) fun _ _ q => q
  obtain ⟨⟨k, rfl⟩, w3⟩ := w3
  obtain ⟨R1, rep⟩ := p
  cases (show Rep _ v (.bool k) from rep)
  exact ⟨k, rfl, w3 H1 R1⟩
theorem lastM {o o' : CmpOp} {b c : Expr} (h : isSetE c = false) : lastMarks [o, o'] [b, c] = false := noSetM h
theorem chain_of {op op' : COp} {r r' : R2} {m1 m2 m3 : Env → M RV} (h2 : Srv2 X.K r fun a b => cmpR op a b) (h2' : Srv2 X.K r' fun a b => cmpR op' a b) {σ : L2.St} {H : Hp} {Q : VK}
    (q : tE X.K (fun env => bnd (m1 env) fun r => bnd (m2 env) fun s => bnd (cmpR op r s) fun q => bnd (boolR q) fun k => if k = true then bnd (m3 env) fun u => cmpR op' s u else ret (rd (.bool false))) W σ H Q) : tChain r r' (tE X.K m1 W) (tE X.K m2 W) (tE X.K m3 W) σ H Q := by
  obtain ⟨B, env, tp, t, R, w⟩ := q
  refine tE_step R w (fun _ _ q => q) fun a t1 x H1 R1 o1 w1 => ?_
  have ex1 := Exs.base (W := W) (fun _ _ q => q) R1
  refine tE_step R1.base w1 ex1 fun b t2 y H2 R2 o2 w2 => ?_
  have R2' := R2.down R1.le
  refine h2 (fz σ env tp H2) σ env tp H2 t2 _ x y a b (fun x _ => ∀ H', Rl X.K (fz σ env tp H2) σ env tp H' → W x σ H') R2.base (o1.mono R2.le) o2 ?_
  rw [wpm_bnd] at w2
  refine wpm_mono (cmp_bool w2) (fun rv t3 w3 v H3 p => ?_) fun _ _ q H' R' => q H' ((R'.down R2.le).down R1.le)
  obtain ⟨⟨k, rfl⟩, w3⟩ := w3
  obtain ⟨R3, rep⟩ := p
  cases (show Rep _ v (.bool k) from rep)
  refine ⟨k, rfl, ?_⟩
  have w3 : wpm (if k = true then bnd (m3 env) fun u => cmpR op' b u else ret (rd (.bool false))) t3 (OKE X.K B σ env tp Q) _ := w3
  cases k with
  | true =>
    refine iteT ?_
    have w3 : wpm (bnd (m3 env) fun u => cmpR op' b u) t3 (OKE X.K B σ env tp Q) _ := w3
    refine tE_step R3 w3 (fun x t e H' R' => e H' (R'.down R2'.le)) fun c t4 z H4 R4 o4 w4 => ?_
    exact h2' B σ env tp H4 t4 Q y z b c _ (R4.down R2'.le) (o2.mono R4.le) o4 w4
  | false => exact iteF (w3 _ _ (post_d (R3.down R2'.le) (.bl _)))
end
variable {Φ : Str → List Vv → M RV} {G : GS} {ca : Str → Addr}
theorem x1 : ev Φ .non = fun _ => ret (rd .none) := rfl
theorem x2 (op : BOp) (a b : E) : ev Φ (.bin op a b) = fun env => bnd (ev Φ a env) fun r => bnd (ev Φ b env) fun s => asD r fun x => asD s fun y => binD op x y := rfl
theorem x3 (op : BOp) (a b : E) : ev Φ (.lc a (.nm 0) (.seq b) none []) = fun env => bnd (evi Φ (.seq b) env) fun p => guard (wipeOk env []) (bnd (lcL (lcF (.nm 0) (ev Φ a) none env []) p.1) fun ys => ret (.fr (.lst ys))) := rfl
theorem x4 (c : E) (a b : E) : ev Φ (.lc a (.nm 0) (.seq b) (some c) []) = fun env => bnd (evi Φ (.seq b) env) fun p => guard (wipeOk env []) (bnd (lcL (lcF (.nm 0) (ev Φ a) (some fun env => bnd (ev Φ c env) truR) env []) p.1) fun ys => ret (.fr (.lst ys))) := rfl
end Pv
/-! Pv15: chains, choices, items, built-ins, targets, comprehensions. -/
namespace Pv
open PySem PySem.Spec PyProof.Rows L2
section
variable {X : Cx} {W : WN}
/-- its answer is True or False -/
def BoolM (m : Env → M RV) : Prop := ∀ env t ok ex, wpm (m env) t ok ex → wpm (m env) t (fun rv t' => (∃ k, rv = rd (.bool k)) ∧ ok rv t') ex
theorem bool_tst {K : PySem.W.Frag} {m : Env → M RV} (hb : BoolM m) {σ : L2.St} {H : Hp} {Q : Bool → Hp → Prop} (q : tT K (fun env => bnd (m env) truR) W σ H Q) : tTest (tE K m W) σ H Q := by
  obtain ⟨B, env, tp, t, R, w⟩ := q
  rw [wpm_bnd] at w
  refine ⟨B, env, tp, t, R, wpm_mono (hb _ _ _ _ w) (fun rv t3 w3 v H1 p => ?_) fun _ _ q => q⟩
  obtain ⟨⟨k, rfl⟩, w3⟩ := w3
  obtain ⟨R1, rep⟩ := p
  cases (show Rep _ v (.bool k) from rep)
  exact ⟨k, rfl, w3 H1 R1⟩
abbrev chainM (op op' : COp) (m1 m2 m3 : Env → M RV) : Env → M RV := fun env => bnd (m1 env) fun r => bnd (m2 env) fun s => bnd (cmpR op r s) fun q => bnd (boolR q) fun k => if k = true then bnd (m3 env) fun u => cmpR op' s u else ret (rd (.bool false))
theorem chain_bool (op op' : COp) (m1 m2 m3 : Env → M RV) : BoolM (chainM op op' m1 m2 m3) := fun env t ok ex w => by
  unfold chainM at w ⊢
  rw [wpm_bnd] at w ⊢
  refine wpm_mono w (fun r t1 w1 => ?_) fun _ _ q => q
  rw [wpm_bnd] at w1 ⊢
  refine wpm_mono w1 (fun s t2 w2 => ?_) fun _ _ q => q
  rw [wpm_bnd] at w2 ⊢
  refine wpm_mono w2 (fun q t3 w3 => ?_) fun _ _ q => q
  rw [wpm_bnd] at w3 ⊢
  refine wpm_mono w3 (fun k t4 w4 => ?_) fun _ _ q => q
  cases k with
  | true =>
    have w4 : wpm (bnd (m3 env) fun u => cmpR op' s u) t4 ok ex := w4
    show wpm (bnd (m3 env) fun u => cmpR op' s u) t4 _ ex
    rw [wpm_bnd] at w4 ⊢
    exact wpm_mono w4 (fun u t5 w5 => cmp_bool w5) fun _ _ q => q
  | false => exact ⟨⟨false, rfl⟩, w4⟩
theorem pe_chainM {o o' : CmpOp} {op op' : COp} {a b c : Expr} {pos : Pos} {m1 m2 m3 : Env → M RV} (hu : X.A.units + 70 < cLine) (h : cop o = some op) (h' : cop o' = some op') (ha : PE X a (tE X.K m1 W)) (hb : PE X b (tE X.K m2 W)) (hc : PE X c (tE X.K m3 W)) (hs : isSetE c = false) :
    PE X (.Compare a [o, o'] [b, c] pos) (tE X.K (chainM op op' m1 m2 m3) W) := by
  obtain ⟨r, h1, h2⟩ := op_cmp (X := X) (by omega) h
  obtain ⟨r', h1', h2'⟩ := op_cmp (X := X) (by omega) h'
  exact pe_imp (pe_chain h1 h1' ha hb hc (lastM hs)) fun σ H Q q => chain_of h2 h2' q
theorem pt_chainM {o o' : CmpOp} {op op' : COp} {a b c : Expr} {pos : Pos} {m1 m2 m3 : Env → M RV} (hu : X.A.units + 70 < cLine) (h : cop o = some op) (h' : cop o' = some op') (ha : PE X a (tE X.K m1 W)) (hb : PE X b (tE X.K m2 W)) (hc : PE X c (tE X.K m3 W)) (hs : isSetE c = false) :
    PT X (.Compare a [o, o'] [b, c] pos) (tT X.K (fun env => bnd (chainM op op' m1 m2 m3 env) truR) W) := by
  obtain ⟨r, h1, h2⟩ := op_cmp (X := X) (by omega) h
  obtain ⟨r', h1', h2'⟩ := op_cmp (X := X) (by omega) h'
  exact pt_imp (pt_chain h1 h1' ha hb hc (lastM hs)) fun σ H Q q => chain_of h2 h2' (bool_tst (chain_bool op op' m1 m2 m3) q)
theorem pe_ifxM {c a b : Expr} {pos : Pos} {mc m1 m2 : Env → M RV} (hc : PT X c (tT X.K (fun env => bnd (mc env) truR) W)) (ha : PE X a (tE X.K m1 W)) (hb : PE X b (tE X.K m2 W)) :
    PE X (.IfExp c a b pos) (tE X.K (fun env => bnd (mc env) fun r => bnd (truR r) fun k => if k = true then m1 env else m2 env) W) := pe_imp (pe_ifExp hc ha hb) fun σ H Q ⟨B, env, tp, t, R, w⟩ => by
  have w := wpm_assoc w
  refine tT_step (k := fun k => if k = true then m1 env else m2 env) R w (fun _ _ q => q) fun k t1 H1 R1 w1 => ?_
  cases k with
  | true => exact iteT (tE_last R1 w1 (fun _ _ q => q))
  | false => exact iteF (tE_last R1 w1 (fun _ _ q => q))
theorem pe_ixM {a b : Expr} {pos : Pos} {m1 m2 : Env → M RV} (ha : PE X a (tE X.K m1 W)) (hb : PE X b (tE X.K m2 W)) (hs : isSliceE b = false) :
    PE X (.Subscript a b pos) (tE X.K (fun env => bnd (m1 env) fun r => bnd (m2 env) fun s => ixR r s) W) := pe_imp (pe_ix ix_seq ha hb (plainIx hs)) fun σ H Q q => tOp_of srv_ix q
theorem pe_orR {e : Expr} {t t' : TE} (h : PE X e t) (h' : PE X e t') : PE X e (fun σ H Q => t σ H Q ∨ t' σ H Q) := ⟨fun pins s σ H Q I q => q.elim (h.run pins s σ H Q I) (h'.run pins s σ H Q I)⟩
theorem pe_revM {a : Expr} {k : Nat} {p1 p2 p3 pos : Pos} {m : Env → M RV} (ha : PE X a (tE X.K m W)) : PE X (.Subscript a (.Slice none none (some (.UnaryOp .USub (.Constant (.int 1) k p1) p2)) p3) pos) (tE X.K (fun env => bnd (m env) fun r => asD r revM) W) := pe_imp (pe_orR (pe_revL ha) (pe_revT ha)) fun σ H Q ⟨B, env, tp, t, R, w⟩ => by
  have key : (∀ r t1, m env t = .ok r t1 → ∃ xs, r.dat = some (.tuple xs)) ∨ (∀ r t1, m env t = .ok r t1 → ∃ xs, r.dat = some (.list xs)) := by
    rw [wpm_bnd] at w
    cases q : m env t with
    | stuck => exact .inr fun r t1 e => nomatch e
    | exc x t1 => exact .inr fun r t1 e => nomatch e
    | ok r t1 =>
      unfold wpm at w
      rw [q] at w
      obtain ⟨d, ed, w⟩ := wpm_asD (show wpm _ t1 _ _ from w)
      cases d with
      | list xs => exact .inr fun r' t' e => by cases e; exact ⟨xs, ed⟩
      | tuple xs => exact .inl fun r' t' e => by cases e; exact ⟨xs, ed⟩
      | _ => exact w.elim
  have st : ∀ {Qv : VK}, (∀ r t1 v H1, m env t = .ok r t1 → Rl X.K B σ env tp H1 → OpdR X.K σ env (fz σ env tp H1) v r → wpm (asD r revM) t1 (OKE X.K B σ env tp Q) (fun x _ => ∀ H', Rl X.K B σ env tp H' → W x σ H') → Qv v H1) → tE X.K m W σ H Qv := by
    intro Qv hk
    rw [wpm_bnd] at w
    refine ⟨B, env, tp, t, R, ?_⟩
    unfold wpm at w ⊢
    cases q : m env t with
    | stuck => rw [q] at w; exact w
    | exc x t1 => rw [q] at w; exact w
    | ok r t1 => rw [q] at w; exact fun v H1 p => hk r t1 v H1 q p.opd.1 p.opd.2 w
  rcases key with key | key
  · refine .inr (st fun r t1 v H1 q R1 o1 w1 => ?_)
    obtain ⟨xs, ed⟩ := key r t1 q
    obtain ⟨d, ed', w1⟩ := wpm_asD w1
    rw [ed] at ed'
    cases ed'
    obtain ⟨p, vs, rfl, h1, h2⟩ := rd_tup (o1.rd R1 ed)
    exact ⟨p, vs, rfl, .of (hide_same _ _ _ _ h1), fun n hn => w1 _ _ (post_tup R1 hn h2.reverse)⟩
  · refine .inl (st fun r t1 v H1 q R1 o1 w1 => ?_)
    obtain ⟨xs, ed⟩ := key r t1 q
    obtain ⟨d, ed', w1⟩ := wpm_asD w1
    rw [ed] at ed'
    cases ed'
    obtain ⟨p, vs, rfl, h1, h2⟩ := o1.rd R1 ed
    exact ⟨p, vs, rfl, .of h1, fun n hn => w1 _ _ (post_lst R1 hn h2.reverse)⟩
theorem pe_blt1 {x : Str} {id : String} {f : BF} {e : Expr} {es : List Expr} {p pos : Pos} {ms : Env → M (List RV)} {r : List V → Hp → VK → Prop} (hc : CallR X (.builtin id) r) (hs : SrvA X.K r (bfM f)) (hg : Gl X x) (hm : X.mg x = none) (hv : bootBuiltins x = some (.builtin id)) (hn : x ≠ "__name__") (hdb : (x == ("__debug__" : Str)) = false)
    (ha : PA X (e :: es) (tAr X.K ms W)) (na : isStarE e = false ∧ (es.all fun e => !isStarE e) = true) : PE X (.Call (.Name x p) (e :: es) [] pos) (tE X.K (fun env => bnd (ms env) fun rs => bfM f rs) W) :=
  pe_imp (pe_callB hc hg hm hv ha hn hdb (star_cons na.1) (noany na.2)) fun σ H Q q => tCB_of hs q
theorem pe_blt2 {x : Str} {id : String} {f : BF} {e : Expr} {es : List Expr} {p pos : Pos} {ms : Env → M (List RV)} {r : List V → Hp → VK → Prop} (hc : CallR X (.type id) r) (hs : SrvA X.K r (bfM f)) (hg : Gl X x) (hm : X.mg x = none) (hv : bootBuiltins x = some (.type id)) (hn : x ≠ "__name__") (hdb : (x == ("__debug__" : Str)) = false)
    (ha : PA X (e :: es) (tAr X.K ms W)) (na : isStarE e = false ∧ (es.all fun e => !isStarE e) = true) : PE X (.Call (.Name x p) (e :: es) [] pos) (tE X.K (fun env => bnd (ms env) fun rs => bfM f rs) W) :=
  pe_imp (pe_callTy hc hg hm hv ha hn hdb (star_cons na.1) (noany na.2)) fun σ H Q q => tCB_of hs q
/-- the receiver's type is known ahead of the arguments -/
theorem isLD_of {o : Option D} (h : isLD o = true) : ∃ xs, o = some (.list xs) := by
  unfold isLD at h
  split at h
  · exact ⟨_, rfl⟩
  · cases h
theorem tyV_list {K : PySem.W.Frag} {σ : L2.St} {env : Env} {tp : Tp} {B H : Hp} {v : V} {r : RV} {xs : List D} (R : Rl K B σ env tp H) (o : OpdR K σ env (fz σ env tp H) v r) (e : r.dat = some (.list xs)) : tyV K "list" v H := by
  obtain ⟨p, vs, rfl, h1, _⟩ := o.rd R e
  exact .inl ⟨rfl, vs, .of h1⟩
theorem pe_countM {o : Str} {opos apos cpos : Pos} {a : Expr} {mo ma : Env → M RV} (ho : PE X (.Name o opos) (tE X.K mo W)) (ha : PE X a (tE X.K ma W)) (na : isStarE a = false) (hl : (apos.endLine == cpos.line) = true) :
    PE X (.Call (.Attribute (.Name o opos) "count" apos) [a] [] cpos) (tE X.K (fun env => bnd (mo env) fun r => guard (mthTy .count r) (bnd (bnd (ma env) fun r => bnd (ret []) fun rs => ret (r :: rs)) fun rs => mthM .count r rs)) W) :=
  pe_imp (pe_bm PySem.F.plainAttrs_list PySem.F.slot_list_count PySem.F.type_list_count mt_lcount ho (pa_consM ha pa_nilM na) (by rfl) (by rw [star_cons na]; rfl) hl (star_cons na) (by rfl)) fun σ H Q ⟨B, env, tp, t, R, w⟩ => by
  refine tE_step R w (fun _ _ q => q) fun r t1 v H1 R1 o1 w1 => ?_
  obtain ⟨hz, w1⟩ := wpm_guard w1
  obtain ⟨xs, ed⟩ := isLD_of (show isLD r.dat = true from hz)
  refine ⟨tyV_list R1 o1 ed, ?_⟩
  have ex1 := Exs.base (W := W) (fun _ _ q => q) R1
  refine tAr_step R1.base w1 ex1 fun rs t2 vs H2 R2 o2 w2 => ?_
  have R2' := R2.down R1.le
  unfold mthM at w2
  obtain ⟨d, ed', w2⟩ := wpm_asD w2
  rw [ed] at ed'
  cases ed'
  split at w2 <;> first | exact w2.elim | skip
  rename_i ds eds
  replace w2 : wpm (cntM (.list xs) ds) t2 _ _ := w2
  unfold cntM at w2
  split at w2 <;> first | exact w2.elim | skip
  rename_i xs' k hx
  cases hx
  split at w2 <;> first | exact w2.elim | skip
  rename_i ns en
  obtain ⟨p, us, rfl, h1, h2⟩ := (o1.mono R2.le).rd R2' ed
  obtain ⟨y, rfl, ry⟩ := f21 (rds_of R2' o2 eds)
  cases rd_int ry
  have hv := (h2.ints en).1
  subst hv
  exact ⟨p, ns, k, rfl, rfl, .of h1, w2 _ _ (post_d R2' (.int _))⟩
/-! ### targets -/
theorem pg_or {tg : Expr} {t t' : TG} (h : PG X tg t) (h' : PG X tg t') : PG X tg (fun v σ H Q => t v σ H Q ∨ t' v σ H Q) := ⟨fun pins s σ H v u Q I r q => q.elim (h.run pins s σ H v u Q I r) (h'.run pins s σ H v u Q I r)⟩
theorem asgEach_cons {e : Expr} {es : List Expr} {env : PySem.Env} (h : isStarE e = false) : assignEach (e :: es) env = (false, assign e env) :: assignEach es env := by
  cases e <;> first | rfl | (simp [isStarE, isSetE] at h)
theorem compTs_len {S : SC} : ∀ {es : List Expr} {ts : List T}, compTs S es = some ts → (es.all fun e => !isStarE e) = true ∧ ts.length = es.length
  | [], ts, h => by cases h; exact ⟨rfl, rfl⟩
  | e :: es, ts, h => by
    unfold compTs at h
    split at h <;> first | (cases h; done) | skip
    rename_i t ts' e1 e2 e3
    cases h
    obtain ⟨h1, h2⟩ := compTs_len e3
    exact ⟨by rw [List.all_cons, e1, h1]; rfl, congrArg (· + 1) h2⟩
theorem asgEach_len : ∀ {es : List Expr} {env : PySem.Env}, (es.all fun e => !isStarE e) = true → (assignEach es env).length = es.length ∧ (assignEach es env).findIdx? (·.1) = none
  | [], _, _ => ⟨rfl, rfl⟩
  | e :: es, env, h => by
    rw [List.all_cons, Bool.and_eq_true] at h
    have e1 : isStarE e = false := by cases q : isStarE e <;> simp [q] at h ⊢
    obtain ⟨h1, h2⟩ := asgEach_len (env := env) h.2
    rw [asgEach_cons e1]
    refine ⟨congrArg (· + 1) h1, ?_⟩
    rw [List.findIdx?_cons, h2]
    rfl
variable {S : SC}
mutual
theorem pg_T (C : Cn S X) (hc : X.calm = true) : ∀ (e : Expr) (t : T), compT S e = some t → (∀ x ∈ tgN e, X.fn x = true ∨ X.env.scope.names.lookup x = some .local) → PG X e (gT X.K t)
  | .Name x p, t, h, hf => by
    unfold compT at h
    split at h <;> first | (cases h; done) | skip
    rename_i hl
    obtain ⟨i, hi, rfl⟩ := Option.map_eq_some_iff.mp h
    exact pg_name (by rw [C.hN]; exact C.nd) (by rw [C.hN]; exact idx_get hi) (by rw [C.hS]; exact loc_of hl) (hf x (by simp [tgN]))
  | .Tuple es k p, t, h, hf => by
    unfold compT at h
    obtain ⟨ts, hts, rfl⟩ := Option.map_eq_some_iff.mp h
    obtain ⟨h1, h2⟩ := compTs_len hts
    obtain ⟨h3, h4⟩ := asgEach_len (env := X.env) h1
    have hp := pgs_T C hc es ts hts hf
    exact pg_or (pg_tup hc hp (h3.trans h2.symm) h4) (pg_lst hc hp (h3.trans h2.symm) h4)
  | .Constant .., _, h, _ => by cases h
  | .BoolOp .., _, h, _ => by cases h
  | .NamedExpr .., _, h, _ => by cases h
  | .BinOp .., _, h, _ => by cases h
  | .UnaryOp .., _, h, _ => by cases h
  | .Lambda .., _, h, _ => by cases h
  | .IfExp .., _, h, _ => by cases h
  | .Dict .., _, h, _ => by cases h
  | .Set .., _, h, _ => by cases h
  | .ListComp .., _, h, _ => by cases h
  | .SetComp .., _, h, _ => by cases h
  | .DictComp .., _, h, _ => by cases h
  | .GeneratorExp .., _, h, _ => by cases h
  | .Await .., _, h, _ => by cases h
  | .Yield .., _, h, _ => by cases h
  | .YieldFrom .., _, h, _ => by cases h
  | .Compare .., _, h, _ => by cases h
  | .Call .., _, h, _ => by cases h
  | .FormattedValue .., _, h, _ => by cases h
  | .JoinedStr .., _, h, _ => by cases h
  | .Attribute .., _, h, _ => by cases h
  | .Subscript .., _, h, _ => by cases h
  | .Starred .., _, h, _ => by cases h
  | .List .., _, h, _ => by cases h
  | .Slice .., _, h, _ => by cases h
theorem pgs_T (C : Cn S X) (hc : X.calm = true) : ∀ (es : List Expr) (ts : List T), compTs S es = some ts → (∀ x ∈ tgNs es, X.fn x = true ∨ X.env.scope.names.lookup x = some .local) → PGs X es (gTs X.K ts)
  | [], ts, h, hf => by cases h; exact pgs_nil
  | e :: es, ts, h, hf => by
    unfold compTs at h
    split at h <;> first | (cases h; done) | skip
    rename_i t ts' e1 e2 e3
    cases h
    exact pgs_cons (pg_T C hc e t e2 fun x hx => hf x (by unfold tgNs; exact List.mem_append_left _ hx)) (pgs_T C hc es ts' e3 fun x hx => hf x (by unfold tgNs; exact List.mem_append_right _ hx)) (by rw [asgEach_cons e1]; rfl)
end
/-! ### comprehensions -/
theorem fold_set {e : Expr} (h : isSetE e = false) (env : PySem.Env) (x : Value) : foldedSetIterable e env x = pure x := by
  cases e <;> first | rfl | (simp [isStarE, isSetE] at h)
theorem pe_lcM {elt tg iter : Expr} {ifs : List Expr} {scope : Scope} {own : List (Str × Nat)} {pos : Pos} {T : Pv.T} {mi : Env → M (List D × Bool)} {me : Env → M RV} {mc : Option (Env → M Bool)} (hc : X.calm = true) (hN : X.N.Nodup) (hi : PI X tg iter (tI X.K mi W)) (ok : BlkOk X.N X.env.scope scope own)
    (hg : ∀ (s : Shared) (H : Hp) (C : Addr) (cl : List (Str × Addr)) (fp : List Addr), PG (X.blk s H scope (compEnvC scope cl C X.env) fp) tg (gT X.K T)) (ht : ∀ (s : Shared) (H : Hp) (C : Addr) (cl : List (Str × Addr)) (fp : List Addr), PTs (X.blk s H scope (compEnvC scope cl C X.env) fp) ifs (tTo X.K mc))
    (he : ∀ (s : Shared) (H : Hp) (C : Addr) (cl : List (Str × Addr)) (fp : List Addr), PE (X.blk s H scope (compEnvC scope cl C X.env) fp) elt (tE X.K me WF)) (hs : isSetE iter = false) (hv : ∀ i ∈ tN T, i ∈ own.map (·.2)) :
    PE X (.ListComp elt [⟨tg, iter, ifs, 0⟩] scope pos) (tE X.K (fun env => bnd (mi env) fun p => guard (wipeOk env (own.map (·.2))) (bnd (lcL (lcF T me mc env (own.map (·.2))) p.1) fun ys => ret (.fr (.lst ys)))) W) := pe_imp (pe_lc hc hN hi ok hg ht he (fold_set hs _)) fun σ H Q ⟨B, env, tp, t, R, w⟩ => by
  rw [wpm_bnd] at w
  refine ⟨B, env, tp, t, R, wpm_mono w (fun p t1 w1 J H1 R1 hl sb _ Da hD => ?_) fun _ _ q => q⟩
  obtain ⟨hz, w1⟩ := wpm_guard w1
  rw [wpm_bnd] at w1
  exact lc_run R1 hv hz sb hl w1 Da hD
end
end Pv
/-! Pv22: orders of plain lists. -/
namespace Pv
open PySem
theorem ltT_irr : ∀ k : List Int, ltT k k = false
  | [] => rfl
  | x :: xs => by unfold ltT; rw [ltT_irr xs]; simp
theorem ltT_trans : ∀ {a b c : List Int}, ltT a b = true → ltT b c = true → ltT a c = true
  | [], [], _, h, _ => by simp [ltT] at h
  | [], _ :: _, [], _, h => by simp [ltT] at h
  | [], _ :: _, _ :: _, _, _ => rfl
  | _ :: _, [], _, h, _ => by simp [ltT] at h
  | _ :: _, _ :: _, [], _, h => by simp [ltT] at h
  | x :: xs, y :: ys, z :: zs, h, g => by
    unfold ltT at h g ⊢
    simp only [Bool.or_eq_true, Bool.and_eq_true, decide_eq_true_eq] at h g ⊢
    rcases h with h | ⟨h, h'⟩ <;> rcases g with g | ⟨g, g'⟩
    · exact .inl (by omega)
    · exact .inl (by omega)
    · exact .inl (by omega)
    · exact .inr ⟨h.trans g, ltT_trans h' g'⟩
theorem ltT_tri : ∀ (a b : List Int), ltT a b = true ∨ a = b ∨ ltT b a = true
  | [], [] => .inr (.inl rfl)
  | [], _ :: _ => .inl rfl
  | _ :: _, [] => .inr (.inr rfl)
  | x :: xs, y :: ys => by
    unfold ltT
    simp only [Bool.or_eq_true, Bool.and_eq_true, decide_eq_true_eq]
    rcases Int.lt_trichotomy x y with h | h | h
    · exact .inl (.inl h)
    · subst h
      rcases ltT_tri xs ys with h | h | h
      · exact .inl (.inr ⟨rfl, h⟩)
      · exact .inr (.inl (by rw [h]))
      · exact .inr (.inr (.inr ⟨rfl, h⟩))
    · exact .inr (.inr (.inl h))
/-- at most -/
abbrev LeT (a b : List Int) : Prop := ltT b a = false
theorem leT_anti {a b : List Int} (h : LeT a b) (g : LeT b a) : a = b := by
  rcases ltT_tri a b with q | q | q
  · rw [g] at q; cases q
  · exact q
  · rw [h] at q; cases q
theorem leT_of {a b : List Int} (h : ltT a b = true) : LeT a b := by
  cases q : ltT b a with
  | false => exact q
  | true => have := ltT_trans h q; rw [ltT_irr] at this; cases this
theorem leT_trans {a b c : List Int} (h : LeT a b) (g : LeT b c) : LeT a c := by
  cases q : ltT c a with
  | false => exact q
  | true =>
    rcases ltT_tri a b with z | z | z
    · have := ltT_trans q z; rw [g] at this; cases this
    · subst z; rw [g] at q; cases q
    · rw [h] at z; cases z
theorem insT_perm (k : List Int) : ∀ xs, (insT k xs).Perm (k :: xs)
  | [] => .refl _
  | x :: xs => by
    unfold insT
    split
    · exact ((insT_perm k xs).cons x).trans (.swap k x xs)
    · exact .refl _
theorem sortT_perm : ∀ ks, (sortT ks).Perm ks
  | [] => .refl _
  | k :: ks => (insT_perm k _).trans ((sortT_perm ks).cons k)
theorem insT_sorted (k : List Int) : ∀ xs, xs.Pairwise LeT → (insT k xs).Pairwise LeT
  | [], _ => List.pairwise_singleton _ _
  | x :: xs, h => by
    have hx := List.pairwise_cons.mp h
    unfold insT
    split
    · rename_i q
      refine List.pairwise_cons.mpr ⟨fun y hy => ?_, insT_sorted k xs hx.2⟩
      rcases List.mem_cons.mp ((insT_perm k xs).mem_iff.mp hy) with rfl | hy
      · exact leT_of q
      · exact hx.1 y hy
    · rename_i q
      have q' : LeT k x := by show ltT x k = false; cases z : ltT x k <;> simp [z] at q ⊢
      refine List.pairwise_cons.mpr ⟨fun y hy => ?_, h⟩
      rcases List.mem_cons.mp hy with rfl | hy
      · exact q'
      · exact leT_trans q' (hx.1 y hy)
theorem sortT_sorted : ∀ ks, (sortT ks).Pairwise LeT
  | [] => .nil
  | k :: ks => insT_sorted k _ (sortT_sorted ks)
theorem sortT_uni {xs ks : List (List Int)} (p : xs.Perm ks) (h : xs.Pairwise LeT) : xs = sortT ks := List.Perm.eq_of_pairwise (fun a b _ _ h g => leT_anti h g) h (sortT_sorted ks) (p.trans (sortT_perm ks).symm)
theorem insI_perm (k : Int) : ∀ xs, (insI k xs).Perm (k :: xs)
  | [] => .refl _
  | x :: xs => by
    unfold insI
    split
    · exact ((insI_perm k xs).cons x).trans (.swap k x xs)
    · exact .refl _
theorem sortI_perm : ∀ ks, (sortI ks).Perm ks
  | [] => .refl _
  | k :: ks => (insI_perm k _).trans ((sortI_perm ks).cons k)
theorem insI_sorted (k : Int) : ∀ xs, xs.Pairwise (· ≤ ·) → (insI k xs).Pairwise (· ≤ ·)
  | [], _ => List.pairwise_singleton _ _
  | x :: xs, h => by
    have hx := List.pairwise_cons.mp h
    unfold insI
    split
    · rename_i q
      refine List.pairwise_cons.mpr ⟨fun y hy => ?_, insI_sorted k xs hx.2⟩
      rcases List.mem_cons.mp ((insI_perm k xs).mem_iff.mp hy) with rfl | hy
      · omega
      · exact hx.1 y hy
    · rename_i q
      refine List.pairwise_cons.mpr ⟨fun y hy => ?_, h⟩
      rcases List.mem_cons.mp hy with rfl | hy
      · omega
      · have := hx.1 y hy; omega
theorem sortI_sorted : ∀ ks, (sortI ks).Pairwise (· ≤ ·)
  | [] => .nil
  | k :: ks => insI_sorted k _ (sortI_sorted ks)
theorem sortI_uni {xs ks : List Int} (p : xs.Perm ks) (h : xs.Pairwise (· ≤ ·)) : xs = sortI ks := List.Perm.eq_of_pairwise (fun a b _ _ h g => Int.le_antisymm h g) h (sortI_sorted ks) (p.trans (sortI_perm ks).symm)
section
variable {α : Type} [DecidableEq α]
theorem uniqL_mem : ∀ (xs : List α) (x : α), x ∈ uniqL xs ↔ x ∈ xs
  | [], x => by simp [uniqL]
  | y :: ys, x => by
    unfold uniqL
    rw [List.mem_cons, List.mem_filter, uniqL_mem ys x, List.mem_cons]
    by_cases h : x = y
    · simp [h]
    · simp [h]
theorem uniqL_nodup : ∀ (xs : List α), (uniqL xs).Nodup
  | [] => List.nodup_nil
  | y :: ys => by
    unfold uniqL
    refine List.nodup_cons.mpr ⟨fun h => ?_, (uniqL_nodup ys).sublist List.filter_sublist⟩
    have := (List.mem_filter.mp h).2
    simp at this
theorem uniq_len {xs : List α} {l : List α} (hn : l.Nodup) (h : ∀ x, x ∈ l ↔ x ∈ xs) : l.length = (uniqL xs).length :=
  ((List.perm_ext_iff_of_nodup hn (uniqL_nodup xs)).mpr fun a => (h a).trans (uniqL_mem xs a).symm).length_eq
theorem uniq_perm {xs : List α} {l : List α} (hn : l.Nodup) (h : ∀ x, x ∈ l ↔ x ∈ xs) : l.Perm (uniqL xs) :=
  (List.perm_ext_iff_of_nodup hn (uniqL_nodup xs)).mpr fun a => (h a).trans (uniqL_mem xs a).symm
end
end Pv
/-! Pv23: sorted, sets. -/
namespace Pv
open PySem PySem.Spec PyProof.Rows L2
section
variable {K : PySem.W.Frag} {X : Cx} {W : WN}
theorem reps_ints {F : Hp} {vs : List V} {ds : List D} {ns : List Int} (h : Reps F vs ds) (e : intsOf ds = some ns) : vs = ns.map V.int := (h.ints e).1
/-- a list of tuples of ints -/
theorem reps_tups {F : Hp} : ∀ {vs : List V} {ds : List D} {ks : List (List Int)}, Reps F vs ds → tupsOf ds = some ks → ∃ ps : List (Addr × List Int), vs = ps.map (fun p => V.ref p.1) ∧ ps.map (·.2) = ks ∧ ∀ p ∈ ps, F p.1 = some (.tup (p.2.map V.int))
  | _, _, ks, .nil, e => by cases e; exact ⟨[], rfl, rfl, fun _ h => nomatch h⟩
  | _, _, ks, .cons (d := d) h q, e => by
    cases d with
    | tuple xs =>
      unfold tupsOf at e
      split at e <;> first | (cases e; done) | skip
      rename_i k ks' e1 e2
      cases e
      obtain ⟨ps, h1, h2, h3⟩ := reps_tups q e2
      obtain ⟨p, vs, rfl, g1, g2⟩ := rd_tup (RdR.of h (Same.refl _))
      rw [reps_ints g2 e1] at g1
      refine ⟨(p, k) :: ps, by rw [h1]; rfl, by rw [← h2]; rfl, fun z hz => ?_⟩
      rcases List.mem_cons.mp hz with rfl | hz
      · exact g1
      · exact h3 z hz
    | _ => cases e
theorem rep_tupD {F : Hp} {p : Addr} {k : List Int} (h : F p = some (.tup (k.map V.int))) : Rep F (.ref p) (tupD k) := .tup h (Reps.of_ints k)
theorem reps_tupD {F : Hp} : ∀ {ps : List (Addr × List Int)}, (∀ p ∈ ps, F p.1 = some (.tup (p.2.map V.int))) → Reps F (ps.map fun p => V.ref p.1) ((ps.map (·.2)).map tupD)
  | [], _ => .nil
  | p :: ps, h => .cons (rep_tupD (h p List.mem_cons_self)) (reps_tupD fun q hq => h q (List.mem_cons_of_mem _ hq))
/-- the tuples' bound -/
theorem tupOk_of {ks : List (List Int)} (h : tupOk ks = true) : ks.length < 64 ∧ ∃ d, 1 ≤ d ∧ ∀ k ∈ ks, k.length = d ∧ TS.Bd 64 k := by
  unfold tupOk at h
  rw [Bool.and_eq_true, decide_eq_true_eq] at h
  obtain ⟨h1, h2⟩ := h
  refine ⟨h1, ?_⟩
  cases ks with
  | nil => exact ⟨1, Nat.le_refl _, fun _ h => nomatch h⟩
  | cons k ks =>
    simp only [Bool.and_eq_true, decide_eq_true_eq, List.all_eq_true] at h2
    exact ⟨k.length, h2.1, fun l hl => ⟨(h2.2 l hl).1, fun m hm => (h2.2 l hl).2 m hm⟩⟩
theorem code_leT : ∀ {a b : List Int}, a.length = b.length → TS.Bd 64 a → TS.Bd 64 b → TS.code 64 a ≤ TS.code 64 b → LeT a b
  | [], [], _, _, _, _ => rfl
  | [], _ :: _, h, _, _, _ => by simp at h
  | _ :: _, [], h, _, _, _ => by simp at h
  | x :: xs, y :: ys, h, h1, h2, hc => by
    have hl : xs.length = ys.length := by simpa using h
    show ltT (y :: ys) (x :: xs) = false
    unfold ltT
    rcases Int.lt_trichotomy x y with q | q | q
    · simp; exact ⟨by omega, fun z => by omega⟩
    · subst q
      have hc' : TS.code 64 xs ≤ TS.code 64 ys := by
        have e1 : TS.code 64 (x :: xs) = x * 64 ^ xs.length + TS.code 64 xs := rfl
        have e2 : TS.code 64 (x :: ys) = x * 64 ^ ys.length + TS.code 64 ys := rfl
        rw [e1, e2, hl] at hc
        omega
      have ih : ltT ys xs = false := code_leT hl h1.tail h2.tail hc'
      rw [ih]; simp
    · have := TS.code_lt (B := 64) hl.symm h2.tail h1.tail q
      omega
/-- sorted, of a tuple of ints -/
def rSortTI (K : PySem.W.Frag) : List V → Hp → VK → Prop := fun vs H Q => ∃ (a : Addr) (ns : List Int), vs = [V.ref a] ∧ SqT K H a (ns.map V.int) ∧ ns.length ≤ 1000 ∧
  ∀ (ms : List Int) (p : Addr), ms.Perm ns → ms.Pairwise (· ≤ ·) → H p = none → Q (.ref p) (upd H p (.lst (ms.map V.int)))
section
variable {P0 : Program} {w0 : World} {A0 : Around} {E0 : Value → Shared → Prop} {s0 : Shared}
theorem collect_tupO {l : Addr} {vs : List Value} {Q : List Value → Shared → Prop} (hl : s0.heap.IsTuple l vs.toArray) (hz : vs.length ≤ sizeLine)
    (fin : Q vs { s0 with heap := (s0.heap.push (PyProof.Rows.seqObj "list" #[] 0)).update s0.heap.objs.size (Obj.mapSeq (· ++ vs.toArray)) }) : wpAny (model P0 w0) A0 (collect (.ref l)) Q E0 s0 := by
  obtain ⟨o, ho, hc, n, hd⟩ := id hl
  unfold collect; refine wpAny_bind (wpAny_runValue (codeAny_builtin PyProof.Rows.entry_proto_collect' ?_))
  show wpAny (model P0 w0) _ (do again (.builtin "list.__iadd__" ⟨[← newList [], .ref l], []⟩)) _ _ s0
  refine wpAny_bind (wpAny_newList (wpAny_pure ⟨Code.quiet_builtin _ (by decide +kernel), codeAny_builtin PyProof.Rows.entry_list_iadd' ?_⟩) (Nat.zero_le _))
  show wpAny (model P0 w0) _ (Builtin.List.listExtendWith (.ref s0.heap.objs.size) (.ref l) (.ref s0.heap.objs.size)) _ _ { s0 with heap := s0.heap.push (PyProof.Rows.seqObj "list" #[] 0) }
  unfold Builtin.List.listExtendWith
  have hp : (s0.heap.push (PyProof.Rows.seqObj "list" #[] 0)).get? l = some o := Heap.get?_push_of_some _ ho
  refine wpAny_bind (wpAny_typeOf (T := "tuple") ⟨o, hp, hc⟩ ?_)
  rw [if_pos (by rw [show (Value.type "tuple" == Value.type "tuple") = true from rfl]; simp)]
  refine wpAny_bind (PyProof.Rows.listItems_at hp hd (wpAny_bind (PyProof.Rows.listItems_at (xs := #[]) (n := 0) (Heap.get?_push_size _ rfl) rfl ?_)))
  rw [if_neg (by simp)]; refine wpAny_bind (PyProof.Rows.listUpdate_at (xs := #[]) (n := 0) (Heap.get?_push_size _ rfl) rfl ?_ (Nat.zero_le _) (by show (#[] ++ vs.toArray).size ≤ sizeLine + 1; simp only [Array.size_append, List.size_toArray, List.length_nil]; omega))
  refine wpAny_pure (show wpAny (model P0 w0) A0 (load s0.heap.objs.size >>= fun u => match u.data with | .seq xs _ => pure xs.toList | _ => unsupported "internal:collect") Q E0 { s0 with heap := (s0.heap.push (PyProof.Rows.seqObj "list" #[] 0)).update s0.heap.objs.size (Obj.mapSeq (· ++ vs.toArray)) } from ?_)
  refine wpAny_bind (wpAny_load (PyProof.Rows.get?_update_seq (Heap.get?_push_size _ rfl) _) (show wpAny (model P0 w0) A0 (pure ((#[] : Array Value) ++ vs.toArray).toList) Q E0 _ from ?_))
  rw [show ((#[] : Array Value) ++ vs.toArray).toList = vs by simp]
  exact wpAny_pure fin
theorem sorted_tupO {l : Addr} {vs : List Value} {lt0 : Value → Value → Bool} {Q : Value → Shared → Prop} (O : SrtO.Swo lt0) (hl : s0.heap.IsTuple l vs.toArray) (hz : vs.length ≤ sizeLine)
    (hS : 2 ≤ vs.length → ∀ (h1 : Heap) (a : Addr), SrtO.SortableO P0 w0 A0.in1.in1 { s0 with heap := h1 } a vs lt0)
    (fin : ∀ out : List Value, SrtO.Srtd lt0 out → SrtO.Stb lt0 out vs → Q (.ref (s0.heap.objs.size + 1)) { s0 with heap := PyProof.Rows.sortedAll s0.heap vs out.toArray }) :
    wpAny (model P0 w0) A0 (call (.builtin "sorted") [.ref l]) Q E0 s0 := by
  refine Calls.call_function_entry PyProof.Rows.kind_sorted PyProof.Rows.plain_sorted PyProof.Rows.entry_sorted (PyProof.Rows.args_sorted1 _) ?_; unfold Builtin.«sorted»
  refine wpAny_bind (m := checkCount "sorted" 1 1 _) (wpAny_pure (wpAny_bind (collect_tupO hl hz (wpAny_bind (wpAny_newList ?_ hz)))))
  have e1 : ((s0.heap.push (PyProof.Rows.seqObj "list" #[] 0)).update s0.heap.objs.size (Obj.mapSeq (· ++ vs.toArray))).objs.size = s0.heap.objs.size + 1 := by
    rw [Heap.size_update, PyProof.Rows.size_push']
  have e2 : (((s0.heap.push (PyProof.Rows.seqObj "list" #[] 0)).update s0.heap.objs.size (Obj.mapSeq (· ++ vs.toArray))).push (PyProof.Rows.seqObj "list" vs.toArray 0)).get? (s0.heap.objs.size + 1) = some (PyProof.Rows.seqObj "list" vs.toArray 0) := by
    rw [← e1]
    exact Heap.get?_push_size _ rfl
  show wpAny (model P0 w0) _ _ _ _ { s0 with heap := ((s0.heap.push (PyProof.Rows.seqObj "list" #[] 0)).update s0.heap.objs.size (Obj.mapSeq (· ++ vs.toArray))).push (PyProof.Rows.seqObj "list" vs.toArray 0) }
  rw [e1]
  exact wpAny_bind (wpAny_holding (wpAny_call_entry PyProof.Rows.slot_list_sort ⟨_, e2, rfl⟩ PyProof.Rows.entry_list_sort (SrtO.list_sort_ord O e2 hz (fun h2 => hS h2 _ _) fun out hs hb => ⟨_, rfl, wpAny_pure ⟨_, rfl, fin out hs hb⟩⟩) (PyProof.Rows.args_list_sort _)))
end
theorem cr_sortTI : CallR X (.builtin "sorted") (rSortTI X.K) := by
  intro pins s σ H xs us Q I rs ⟨a, ns, e, hs, hz, q⟩
  subst e
  obtain ⟨its, rv, hl, hz'⟩ := I.tuple hs
  rw [Vals.ref1 rs]
  have hi := rv.ints
  have l0 : its.length = ns.length := by rw [← rv.length, List.length_map]
  refine sorted_tupO SrtO.swo_int (by exact hl) (by rw [l0, sizeLine_eq]; omega) (fun h2 _ _ => SrtO.ints_sortable hi h2) fun out h1 h2 => ?_
  obtain ⟨k1, k2, k3⟩ := SrtO.ints_out hi h1 h2
  obtain ⟨ep, he'⟩ := PyProof.Rows.sortedAll_at s.heap its out.toArray
  have hlen : ((out.map SrtO.iv).map V.int).length ≤ sizeLine := by rw [List.length_map, k2.length_eq, sizeLine_eq]; omega
  have L := I.laid (t' := s.toks) (o := .lst ((out.map SrtO.iv).map V.int)) (fun _ _ => PyProof.Rows.sortedAll_old) (Nat.le_succ _) ⟨hlen, out, ep, vals_of_ints k1, he'⟩
  exact ⟨.ref _, _, L, rfl, q _ _ k2 k3 (I.hok.fresh (Nat.le_succ _))⟩
/-- set, of a tuple of ints -/
def rSetTI (K : PySem.W.Frag) (w : World) : List V → Hp → VK → Prop := fun vs H Q => ∃ (a : Addr) (ns : List Int), vs = [V.ref a] ∧ SqT K H a (ns.map V.int) ∧ ns.length < 64 ∧
  ∀ (p : Addr) (c : Nat), H p = none → c ≤ ns.length → Q (.ref p) (upd H p (SetO w p (fun j => decide (j ∈ ns)) c))
theorem cr_setTI (hc : X.calm = true) : CallR X (.type "set") (rSetTI X.K X.w) := by
  intro pins s σ H xs us Q I rs ⟨a, ns, e, hs, hz, q⟩
  subst e
  obtain ⟨its, rv, hl, hz'⟩ := I.tuple hs
  rw [Vals.ref1 rs]
  have l0 : its.toArray.size = ns.length := by rw [List.size_toArray, ← rv.length, List.length_map]
  refine call_set_tupI (w := X.w) ns (I.ok.hd hc) hl (by simpa using rv.ints) (by unfold scanBound; omega) fun h' tk c hS hcn hk => ?_
  have L := I.laid (t' := tk) (o := SetO X.w s.heap.objs.size (fun j => decide (j ∈ ns)) c) hk (Nat.le_refl _) (setO_new hS)
  exact ⟨.ref _, _, L, rfl, q _ c (I.hok.fresh (Nat.le_refl _)) hcn⟩
def rSortedP (K : PySem.W.Frag) : List V → Hp → VK → Prop := fun vs H Q => rSortedI K vs H Q ∨ (∃ d, 1 ≤ d ∧ rSortU K d 64 vs H Q) ∨ rSortTI K vs H Q
theorem cr_sortedP : CallR X (.builtin "sorted") (rSortedP X.K) := fun pins s σ H xs us Q I rs q => q.elim (cr_sortedI pins s σ H xs us Q I rs) fun q => q.elim (fun ⟨d, hd, q⟩ => cr_sortT hd pins s σ H xs us Q I rs q) (cr_sortTI pins s σ H xs us Q I rs)
theorem pairs_perm {ps : List (Addr × List Int)} {F : Hp} : ∀ {ys : List V}, (∀ y ∈ ys, y ∈ ps.map fun p => V.ref p.1) → (∀ p ∈ ps, F p.1 = some (.tup (p.2.map V.int))) → ∃ qs : List (Addr × List Int), ys = qs.map (fun p => V.ref p.1) ∧ ∀ q ∈ qs, q ∈ ps
  | [], _, _ => ⟨[], rfl, fun _ h => nomatch h⟩
  | y :: ys, h, hp => by
    obtain ⟨qs, h1, h2⟩ := pairs_perm (fun z hz => h z (List.mem_cons_of_mem _ hz)) hp
    obtain ⟨p, hp', e⟩ := List.mem_map.mp (h y List.mem_cons_self)
    refine ⟨p :: qs, by rw [h1, ← e]; rfl, fun q hq => ?_⟩
    rcases List.mem_cons.mp hq with rfl | hq
    · exact hp'
    · exact h2 q hq
theorem map_int_inj {a b : List Int} (h : a.map V.int = b.map V.int) : a = b := by
  have := congrArg (List.map fun | V.int i => i | _ => 0) h
  simpa [List.map_map, Function.comp_def] using this
/-- data of refs: the same address, the same datum -/
theorem snd_perm {ps qs : List (Addr × List Int)} {F : Hp} (hp : ∀ p ∈ ps, F p.1 = some (.tup (p.2.map V.int))) (hq : ∀ q ∈ qs, q ∈ ps) (h : (qs.map fun p => V.ref p.1).Perm (ps.map fun p => V.ref p.1)) : (qs.map (·.2)).Perm (ps.map (·.2)) := by
  let g : V → List Int := fun v => match v with
    | .ref a => match F a with
      | some (.tup xs) => xs.map fun | V.int i => i | _ => 0
      | _ => []
    | _ => []
  have e : ∀ l : List (Addr × List Int), (∀ p ∈ l, F p.1 = some (.tup (p.2.map V.int))) → (l.map fun p => V.ref p.1).map g = l.map (·.2) := fun l hl => by
    rw [List.map_map]
    refine List.map_congr_left fun p hp => ?_
    show g (.ref p.1) = p.2
    show (match F p.1 with
      | some (.tup xs) => xs.map fun | V.int i => i | _ => 0
      | _ => []) = p.2
    rw [hl p hp]
    simp [List.map_map, Function.comp_def]
  have := h.map g
  rw [e qs fun q hq' => hp q (hq q hq'), e ps hp] at this
  exact this
theorem sorted_d : SrvF K (rSortedP K) (bfD .sorted) := fun B σ env tp H t Q xs ds EX R o w => by
  unfold bfD at w
  split at w <;> first | exact wpm_stk w | skip
  all_goals (first | (rename_i h; cases h; done) | skip)
  obtain ⟨x, rfl, rx⟩ := f21 o
  unfold sortedM at w
  split at w <;> first | exact wpm_stk w | skip
  case h_2 =>
    split at w <;> first | exact wpm_stk w | skip
    rename_i ns e
    obtain ⟨hz, w⟩ := wpm_guard w
    obtain ⟨p, vs, rfl, h1, h2⟩ := rd_tup rx
    have ev := reps_ints h2 e
    subst ev
    refine .inr (.inr ⟨p, ns, rfl, .of (hide_same _ _ _ _ h1), of_decide_eq_true hz, fun ns' l hp hs hn => w _ _ (post_lst R hn ?_)⟩)
    rw [sortI_uni hp hs]
    exact Reps.of_ints _
  obtain ⟨p, vs, rfl, h1, h2⟩ := rx
  split at w
  · rename_i ns e
    have ev := reps_ints h2 e
    subst ev
    refine .inl ⟨p, ns, rfl, .of h1, fun ns' l hp hs hn => w _ _ (post_lst R hn ?_)⟩
    rw [sortI_uni hp hs]
    exact Reps.of_ints _
  · split at w <;> first | exact wpm_stk w | skip
    rename_i ks e
    obtain ⟨hz, w⟩ := wpm_guard w
    obtain ⟨h64, d, hd, hb⟩ := tupOk_of hz
    obtain ⟨ps, rfl, rfl, h3⟩ := reps_tups h2 e
    have hin : ∀ p ∈ ps, H p.1 = some (.tup (p.2.map V.int)) := fun p hp => hide_same _ _ _ _ (h3 p hp)
    refine .inr (.inl ⟨d, hd, p, _, rfl, .of h1, by simpa using h64, fun x hx => ?_, fun ys l hp hs hn => w _ _ (post_lst R hn ?_)⟩)
    · obtain ⟨q, hq, rfl⟩ := List.mem_map.mp hx
      obtain ⟨b1, b2⟩ := hb q.2 (List.mem_map.mpr ⟨q, hq, rfl⟩)
      exact ⟨q.2, ⟨q.1, rfl, .of (hin q hq)⟩, b1, b2⟩
    · obtain ⟨qs, rfl, hqs⟩ := pairs_perm (ps := ps) (fun y hy => hp.mem_iff.mp hy) h3
      have hq3 : ∀ q ∈ qs, fz σ env tp H q.1 = some (.tup (q.2.map V.int)) := fun q hq => h3 q (hqs q hq)
      have pm := snd_perm h3 hqs hp
      have pw : (qs.map (·.2)).Pairwise LeT := by
        rw [List.pairwise_map] at hs ⊢
        refine List.Pairwise.imp_of_mem (fun {a b} ha hb' q => ?_) hs
        have a1 := hb a.2 (List.mem_map.mpr ⟨a, hqs a ha, rfl⟩)
        have b1 := hb b.2 (List.mem_map.mpr ⟨b, hqs b hb', rfl⟩)
        exact code_leT (a1.1.trans b1.1.symm) a1.2 b1.2 (q a.2 b.2 ⟨a.1, rfl, .of (hin a (hqs a ha))⟩ ⟨b.1, rfl, .of (hin b (hqs b hb'))⟩)
      rw [← sortT_uni pm pw]
      exact reps_tupD hq3
theorem cr_sumT (hc : X.calm = true) : CallR X (.builtin "sum") (rSumT X.K) := by
  intro pins s σ H xs us Q I rs ⟨a, ns, e, hs, q⟩
  subst e
  obtain ⟨its, rv, hl, hz'⟩ := I.tuple hs
  rw [Vals.ref1 rs]
  have hi : IntsAre its ns := rv.ints
  obtain ⟨ys, ey⟩ := hi.allInts.items
  have hn : numsOf (intItems ys).toList = ns := by rw [← ey]; exact hi.numsOf
  rw [nums_intItems] at hn
  rw [ey] at hl
  refine PySem.W.ktm_sumG (I.ok.hd hc) hl fun h' tk t' hk => ?_
  rw [preSum_eq, List.take_of_length_le (by simp), hn]
  exact ⟨.int _, H, I.kept hk, ⟨_, rfl⟩, q⟩
theorem cr_sumP (hc : X.calm = true) : CallR X (.builtin "sum") (rSumP X.K) := (cr_sum hc).or (cr_sumT hc)
/-! ### len(set(xs)) -/
theorem dedup_fold : ∀ (l acc : List Int), acc.Nodup → (l.foldl step_dedup acc).Nodup ∧ ∀ x, x ∈ l.foldl step_dedup acc ↔ x ∈ acc ∨ x ∈ l
  | [], acc, h => ⟨h, fun x => by simp⟩
  | y :: l, acc, h => by
    rw [List.foldl_cons]
    by_cases q : acc.any (· == y) = true
    · have e : step_dedup acc y = acc := by unfold step_dedup; rw [if_pos q]
      have hy : y ∈ acc := by
        obtain ⟨z, hz, ez⟩ := List.any_eq_true.mp q
        rw [← (show z = y from eq_of_beq ez)]; exact hz
      rw [e]
      obtain ⟨h1, h2⟩ := dedup_fold l acc h
      refine ⟨h1, fun x => (h2 x).trans ?_⟩
      rw [List.mem_cons]
      constructor
      · rintro (z | z)
        · exact .inl z
        · exact .inr (.inr z)
      · rintro (z | rfl | z)
        · exact .inl z
        · exact .inl hy
        · exact .inr z
    · have e : step_dedup acc y = acc ++ [y] := by unfold step_dedup; rw [if_neg q]
      have hy : y ∉ acc := fun z => q (List.any_eq_true.mpr ⟨y, z, by simp⟩)
      rw [e]
      have hn : (acc ++ [y]).Nodup := List.nodup_append.mpr ⟨h, by simp, fun a ha b hb => by
        have : b = y := by simpa using hb
        subst this
        exact fun z => hy (z ▸ ha)⟩
      obtain ⟨h1, h2⟩ := dedup_fold l (acc ++ [y]) hn
      refine ⟨h1, fun x => (h2 x).trans ?_⟩
      simp [or_assoc]
theorem firstMet_uniq (ns : List Int) : (firstMet (fun i => ns.getD i 0) ns.length).length = (uniqL ns).length := by
  have e : (List.range ns.length).map (fun i => ns.getD i 0) = ns := by
    refine List.ext_getElem (by simp) fun i h1 h2 => ?_
    simp [List.getD_eq_getElem?_getD, List.getElem?_eq_getElem h2]
  obtain ⟨h1, h2⟩ := dedup_fold ns [] List.nodup_nil
  unfold firstMet
  rw [e]
  exact uniq_len h1 fun x => by simpa using h2 x
def tLenAny (K : PySem.W.Frag) (ta : TE) : TE := fun σ H Q => ta σ H fun x H1 => ∃ (l : Addr) (ns : List Int), x = V.ref l ∧ (SqL K H1 l (ns.map V.int) ∨ SqT K H1 l (ns.map V.int)) ∧ ns.length ≤ 4000 ∧ Q (.int ((uniqL ns).length : Nat)) H1
theorem pe_lenAny {a : Expr} {ta : TE} {p p2 q pos : Pos} (hc : X.calm = true) (hg : Gl X "len") (hm : X.mg "len" = none) (hg2 : Gl X "set") (hm2 : X.mg "set" = none) (ha : PE X a ta)
    (na : starEach [a] X.env = (false, eval a X.env) :: starEach [] X.env) : PE X (.Call (.Name "len" p) [.Call (.Name "set" p2) [a] [] q] [] pos) (tLenAny X.K ta) := by
  refine ⟨fun pins s σ H Q I h => ?_⟩
  refine Call_ (ld_blt I hg hm PySem.boot_len ?_)
  refine PyProof.Rows.callWith_builtin1 (PyProof.Rows.args_cons ?_ rfl) rfl rfl
  refine Call_ (ld_blt I hg2 hm2 PyProof.Rows.boot_set ?_)
  refine PyProof.Rows.callWith_type1 (PyProof.Rows.args_cons (thn (ha.run pins s σ H _ I h) fun v s1 ⟨x, H1, I1, r1, q1⟩ => PyProof.Rows.args_nil ?_) na) na rfl
  obtain ⟨l, ns, rfl, hq, h1, q1⟩ := q1
  cases r1
  rcases hq with hq | hq
  · obtain ⟨its, r, pl, hz⟩ := I1.list hq
    have hl : its.toArray.size = ns.length := by rw [List.size_toArray, ← r.length, List.length_map]
    refine call_set_list (I1.ok.hd hc) pl.isList (ns := ns) (by simpa using r.ints) (by unfold scanBound; omega) fun h' tk hS hk => ?_
    rw [hl] at hS
    refine PyProof.Rows.args_nil ?_
    obtain ⟨o, es, ep, t, ho, hex, hd, _, _, _, hf, hn⟩ := hS
    rw [firstMet_uniq] at hn
    have hle : (uniqL ns).length ≤ ns.length := (uniqL_nodup ns).length_le_of_subset fun x hx => (uniqL_mem ns x).mp hx
    have I2 : Inv X pins σ H1 { s1 with heap := h', toks := tk } := I1.kept fun b o e => hk b o (Heap.lt_size e) e
    exact call_len_set ho hex hd hf (by rw [hn] <;> omega) ⟨.int (uniqL ns).length, H1, I2.tok _, ⟨_, by rw [hn]⟩, q1⟩
  · obtain ⟨its, r, pl, hz⟩ := I1.tuple hq
    have hl : its.toArray.size = ns.length := by rw [List.size_toArray, ← r.length, List.length_map]
    refine call_set_tupI (w := X.w) ns (I1.ok.hd hc) pl (by simpa using r.ints) (by unfold scanBound; omega) fun h' tk c hS hcn hk => ?_
    refine PyProof.Rows.args_nil ?_
    obtain ⟨o, es, ep, t, ho, hex, hd, _, hnd, hmem, _, hf, hn, _⟩ := hS
    have e : es.size = (uniqL ns).length := by
      have := uniq_len (xs := ns) hnd fun x => (hmem x).symm.trans (by simp)
      rw [List.length_map, Array.length_toList] at this
      exact this
    have I2 : Inv X pins σ H1 { s1 with heap := h', toks := tk } := I1.kept fun b o e => hk b o e
    exact call_len_set ho hex hd hf (by rw [hn] <;> omega) ⟨.int (uniqL ns).length, H1, I2.tok _, ⟨_, by rw [e]⟩, q1⟩
theorem blt1_eq (f : BF) (g : D → M RV) (hf : f ≠ .len) (h : ∀ x, bfD f [x] = g x) (Φ : Str → List Vv → M RV) (z : E) : (ev Φ (.blt f [z])) = fun env => bnd (ev Φ z env) fun r => asD r g := by
  funext env
  show bnd (bnd (ev Φ z env) fun r => bnd (ret []) fun rs => ret (r :: rs)) (fun rs => bfM f rs) = _
  rw [bnd_assoc]
  congr 1
  funext r
  show bfM f [r] = asD r g
  have e : bfM f [r] = match dats [r] with
    | some ds => bfD f ds
    | none => stk := by
    unfold bfM
    split
    · exact absurd rfl hf
    · rfl
  rw [e]
  unfold asD
  show (match (match r.dat, dats [] with
    | some x, some xs => some (x :: xs)
    | _, _ => none) with
    | some ds => bfD f ds
    | none => stk) = _
  cases r.dat with
  | none => rfl
  | some x => exact h x
theorem pe_lenSetM {a : Expr} {p p2 q pos : Pos} {m : Env → M RV} (hc : X.calm = true) (hg : Gl X "len") (hm : X.mg "len" = none) (hg2 : Gl X "set") (hm2 : X.mg "set" = none) (ha : PE X a (tE X.K m W)) (na : isStarE a = false) :
    PE X (.Call (.Name "len" p) [.Call (.Name "set" p2) [a] [] q] [] pos) (tE X.K (fun env => bnd (m env) fun r => asD r lenSetM) W) := pe_imp (pe_lenAny hc hg hm hg2 hm2 ha (star_cons na)) fun σ H Q ⟨B, env, tp, t, R, w⟩ => by
  refine tE_step R w (fun _ _ q => q) fun r t1 v H1 R1 o1 w1 => ?_
  obtain ⟨d, ed, w1⟩ := wpm_asD w1
  have rx := o1.rd R1 ed
  unfold lenSetM at w1
  split at w1 <;> first | exact wpm_stk w1 | skip
  · split at w1 <;> first | exact wpm_stk w1 | skip
    rename_i ns e
    obtain ⟨hz, w1⟩ := wpm_guard w1
    obtain ⟨p, vs, rfl, h1, h2⟩ := rd_tup rx
    rw [reps_ints h2 e] at h1
    exact ⟨p, ns, rfl, .inr (.of (hide_same _ _ _ _ h1)), of_decide_eq_true hz, w1 _ _ (post_d R1 (.int _))⟩
  · split at w1 <;> first | exact wpm_stk w1 | skip
    rename_i ns e
    obtain ⟨hz, w1⟩ := wpm_guard w1
    obtain ⟨p, vs, rfl, h1, h2⟩ := rx
    rw [reps_ints h2 e] at h1
    exact ⟨p, ns, rfl, .inl (.of h1), of_decide_eq_true hz, w1 _ _ (post_d R1 (.int _))⟩
theorem pe_sortedSetM {a : Expr} {p p2 q pos : Pos} {m : Env → M RV} (hc : X.calm = true) (hu : X.A.units + 64 < cLine) (hg : Gl X "sorted") (hm : X.mg "sorted" = none) (hg2 : Gl X "set") (hm2 : X.mg "set" = none) (ha : PE X a (tE X.K m W)) (na : isStarE a = false) :
    PE X (.Call (.Name "sorted" p) [.Call (.Name "set" p2) [a] [] q] [] pos) (tE X.K (fun env => bnd (m env) fun r => asD r sortedSetM) W) :=
  pe_imp (pe_callB ((cr_sortedT hc).or (cr_sortedSet hc)) hg hm (by decide +kernel) (pa_cons (pe_callTy ((cr_setOfT hc hu).or (cr_setTI hc)) hg2 hm2 (by decide +kernel) (pa_cons ha pa_nil (star_cons na)) (by decide) (by decide) (star_cons na) (by rfl)) pa_nil (by rfl)) (by decide) (by decide) (by rfl) (by rfl)) fun σ H Q ⟨B, env, tp, t, R, w⟩ => by
  refine tE_step R w (fun _ _ q => q) fun r t1 v H1 R1 o1 w1 => ?_
  obtain ⟨d, ed, w1⟩ := wpm_asD w1
  have rx := o1.rd R1 ed
  unfold sortedSetM at w1
  split at w1 <;> first | exact wpm_stk w1 | skip
  case h_2 =>
    split at w1 <;> first | exact wpm_stk w1 | skip
    rename_i ns e
    obtain ⟨hz, w1⟩ := wpm_guard w1
    have hz := of_decide_eq_true hz
    obtain ⟨p, vs, rfl, h1, h2⟩ := rd_tup rx
    rw [reps_ints h2 e] at h1
    refine .inr ⟨p, ns, rfl, .of (hide_same _ _ _ _ h1), hz, fun a c hn hcn => ?_⟩
    have R2 := R1.alloc (p := a) (o := SetO X.w a (fun j => decide (j ∈ ns)) c) hn
    refine .inr ⟨a, _, c, rfl, upd_same, by omega, fun ms l hp hm hl hn2 => w1 _ _ (post_lst R2 hn2 ?_)⟩
    have e1 : ms = sortI (uniqL ns) := sortI_uni (by
      refine uniq_perm (hp.imp fun h e => by omega) fun x => ?_
      rw [hm x]
      simp) (hp.imp fun h => by omega)
    rw [e1]
    exact Reps.of_ints _
  split at w1 <;> first | exact wpm_stk w1 | skip
  rename_i ks e
  obtain ⟨hz, w1⟩ := wpm_guard w1
  obtain ⟨h64, d, hd, hb⟩ := tupOk_of hz
  obtain ⟨p, vs, rfl, h1, h2⟩ := rx
  obtain ⟨ps, rfl, rfl, h3⟩ := reps_tups h2 e
  have hin : ∀ p ∈ ps, H1 p.1 = some (.tup (p.2.map V.int)) := fun p hp => hide_same _ _ _ _ (h3 p hp)
  refine .inl ⟨p, ps, rfl, .of h1, fun p hp => .of (hin p hp), by simpa using h64, fun a L hn hL hA => ?_⟩
  have R2 := R1.alloc (p := a) (o := SetTO X.prog X.w a L) hn
  have na : ∀ q ∈ L, q.1 ≠ a := fun q hq z => by
    have := hin q (hL q hq)
    rw [z, hn] at this
    cases this
  refine .inl ⟨a, L, d, 64, rfl, upd_same, fun q hq => .of (by rw [upd_ne (na q hq)]; exact hin q (hL q hq)), hd, fun q hq => hb q.2 (List.mem_map.mpr ⟨q, hL q hq, rfl⟩), fun L' l hp hnd _ hs hl => ?_⟩
  have hq3 : ∀ q ∈ L', fz σ env tp (upd H1 a (SetTO X.prog X.w a L)) q.1 = some (.tup (q.2.map V.int)) := fun q hq => fz_upd hn _ _ (h3 q (hL q (hp.mem_iff.mp hq)))
  refine w1 _ _ (post_lst R2 hl ?_)
  have pm : (L'.map (·.2)).Perm (uniqL (ps.map (·.2))) := uniq_perm hnd fun x => by
    constructor
    · intro hx
      obtain ⟨q, hq, rfl⟩ := List.mem_map.mp hx
      exact List.mem_map.mpr ⟨q, hL q (hp.mem_iff.mp hq), rfl⟩
    · intro hx
      obtain ⟨q, hq, rfl⟩ := List.mem_map.mp hx
      obtain ⟨q', hq', e'⟩ := List.mem_map.mp (hA q hq)
      exact List.mem_map.mpr ⟨q', hp.mem_iff.mpr hq', e'⟩
  have pw : (L'.map (·.2)).Pairwise LeT := by
    rw [List.pairwise_map]
    refine List.Pairwise.imp_of_mem (fun {a b} ha hb' q => ?_) hs
    have a1 := hb a.2 (List.mem_map.mpr ⟨a, hL a (hp.mem_iff.mp ha), rfl⟩)
    have b1 := hb b.2 (List.mem_map.mpr ⟨b, hL b (hp.mem_iff.mp hb'), rfl⟩)
    exact code_leT (a1.1.trans b1.1.symm) a1.2 b1.2 q
  rw [← sortT_uni pm pw]
  exact reps_tupD hq3
/-! ### min of data -/
theorem minD_fold : ∀ (ys : List D) (x : D), minD x ys = PySem.W.minD x ys
  | [], _ => rfl
  | y :: ys, x => by
    show minD (if PySem.W.dataLt y x = true then y else x) ys = _
    rw [minD_fold ys]
    rfl
def rMinDat (K : PySem.W.Frag) : List V → Hp → VK → Prop := fun vs H Q => ∃ (a : Addr) (xs : List V) (d : D) (ds : List D), vs = [V.ref a] ∧ SqL K H a xs ∧ DpAll K H xs (d :: ds) ∧ PySem.W.AlikeAll (d :: ds) ∧ PyData.depthAll (d :: ds) ≤ 64 ∧
  ∀ (i : Nat) (v : V), xs[i]? = some v → (d :: ds)[i]? = some (minD d ds) → Q v H
theorem cr_minDat (hc : X.calm = true) (hu : X.A.units + 70 < cLine) : CallR X (.builtin "min") (rMinDat X.K) := by
  intro pins s σ H vs us Q I r h
  obtain ⟨a, xs, d, ds, rfl, hs, hd, ha, hdep, q⟩ := h
  obtain ⟨its, rv, hl, _⟩ := I.list hs
  rw [Vals.ref1 r]
  obtain ⟨as, hr⟩ := Dp.readsAll I (d :: ds) xs its hd rv
  refine PySem.W.min_list_data (I.ok.hd hc) hl.isList (by simpa using hr) ha (by omega) fun i v h' tk bs hv hrd hk => ?_
  have hv' : its[i]? = some v := by simpa using hv
  obtain ⟨bs', h1, h2, h3, h4⟩ := PySem.W.readsAll_at hr i v hv'
  have h5 := PySem.W.reads_keeps hk h1
  have e1 := (h5.unique _ _ hrd).1
  have hlen := rv.length
  have hil : i < xs.length := by rw [hlen]; exact (List.getElem?_eq_some_iff.mp hv').1
  have hx : xs[i]? = some xs[i] := List.getElem?_eq_getElem hil
  obtain ⟨u, hu', rx⟩ := rv.get hx
  rw [hv'] at hu'
  cases hu'
  refine ⟨xs[i], H, I.kept hk, rx, q i _ hx ?_⟩
  rw [minD_fold, ← e1, List.getD_eq_getElem?_getD, List.getElem?_eq_getElem h2]
  rfl
theorem min1_d : SrvF K (rMinDat K) (bfD .min1) := fun B σ env tp H t Q xs ds EX R o w => by
  unfold bfD at w
  split at w <;> first | exact wpm_stk w | skip
  all_goals (first | (rename_i h; cases h; done) | skip)
  obtain ⟨x, rfl, rx⟩ := f21 o
  unfold minM at w
  split at w <;> first | exact wpm_stk w | skip
  rename_i d ds
  obtain ⟨hz, w⟩ := wpm_guard w
  obtain ⟨p, vs, rfl, h1, h2⟩ := rx
  unfold listOk alikeB at hz
  simp only [Bool.and_eq_true, List.all_eq_true] at hz
  obtain ⟨z1, z2, z3⟩ := hz
  refine ⟨p, vs, d, ds, rfl, .of h1, (h2.mono (hide_same _ _)).dp, ⟨fun a ha b hb => z1 a ha b hb, fun a ha e => ?_⟩, ?_, fun i v e1 e2 => ?_⟩
  · subst e
    exact absurd (z3 _ ha) (by decide)
  · have := SeqAt.depth_of_shaped z2
    simp only [PyData.depth] at this
    omega
  · obtain ⟨d', e3, r⟩ := h2.getV e1
    rw [e2] at e3
    cases e3
    exact w _ _ (post_d R r)
theorem pe_bltM {x : Str} {n : Nat} {f : BF} {e : Expr} {es : List Expr} {p pos : Pos} {ms : Env → M (List RV)} (h : bfOf x n = some f) (hc : X.calm = true) (hu : X.A.units + 70 < cLine) (free : ∀ b ∈ bltNames, X.mg b = none) (hg : Gl X x)
    (ha : PA X (e :: es) (tAr X.K ms W)) (na : ((e :: es).all fun e => !isStarE e) = true) : PE X (.Call (.Name x p) (e :: es) [] pos) (tE X.K (fun env => bnd (ms env) fun rs => bfM f rs) W) := by
  have na : isStarE e = false ∧ (es.all fun e => !isStarE e) = true := by
    rw [List.all_cons, Bool.and_eq_true] at na
    exact ⟨by cases q : isStarE e <;> simp [q] at na ⊢, na.2⟩
  unfold bfOf at h
  by_cases z : x = "len" ∧ n = 1
  · rw [if_pos z] at h; cases h; obtain ⟨rfl, _⟩ := z
    exact pe_blt1 call_len len_a hg (free _ (by decide)) (by decide +kernel) (by decide) (by decide) ha na
  rw [if_neg z] at h; clear z
  by_cases z : x = "abs" ∧ n = 1
  · rw [if_pos z] at h; cases h; obtain ⟨rfl, _⟩ := z
    exact pe_blt1 call_abs (srvA_f (by decide) abs_d) hg (free _ (by decide)) (by decide +kernel) (by decide) (by decide) ha na
  rw [if_neg z] at h; clear z
  by_cases z : x = "sum" ∧ n = 1
  · rw [if_pos z] at h; cases h; obtain ⟨rfl, _⟩ := z
    exact pe_blt1 (cr_sumP hc) (srvA_f (by decide) sum_d) hg (free _ (by decide)) (by decide +kernel) (by decide) (by decide) ha na
  rw [if_neg z] at h; clear z
  by_cases z : x = "max" ∧ n = 1
  · rw [if_pos z] at h; cases h; obtain ⟨rfl, _⟩ := z
    exact pe_blt1 (cr_max hc) (srvA_f (by decide) max1_d) hg (free _ (by decide)) (by decide +kernel) (by decide) (by decide) ha na
  rw [if_neg z] at h; clear z
  by_cases z : x = "min" ∧ n = 1
  · rw [if_pos z] at h; cases h; obtain ⟨rfl, _⟩ := z
    exact pe_blt1 (cr_minDat hc hu) (srvA_f (by decide) min1_d) hg (free _ (by decide)) (by decide +kernel) (by decide) (by decide) ha na
  rw [if_neg z] at h; clear z
  by_cases z : x = "min" ∧ n = 2
  · rw [if_pos z] at h; cases h; obtain ⟨rfl, _⟩ := z
    exact pe_blt1 (call_min2 hc) (srvA_f (by decide) min2_d) hg (free _ (by decide)) (by decide +kernel) (by decide) (by decide) ha na
  rw [if_neg z] at h; clear z
  by_cases z : x = "max" ∧ n = 2
  · rw [if_pos z] at h; cases h; obtain ⟨rfl, _⟩ := z
    exact pe_blt1 (call_max2 hc) (srvA_f (by decide) max2_d) hg (free _ (by decide)) (by decide +kernel) (by decide) (by decide) ha na
  rw [if_neg z] at h; clear z
  by_cases z : x = "min" ∧ n = 3
  · rw [if_pos z] at h; cases h; obtain ⟨rfl, _⟩ := z
    exact pe_blt1 (call_min3Nu hc) (srvA_f (by decide) min3_d) hg (free _ (by decide)) (by decide +kernel) (by decide) (by decide) ha na
  rw [if_neg z] at h; clear z
  by_cases z : x = "tuple" ∧ n = 1
  · rw [if_pos z] at h; cases h; obtain ⟨rfl, _⟩ := z
    exact pe_blt2 call_tuple_of (srvA_f (by decide) tuple_d) hg (free _ (by decide)) (by decide +kernel) (by decide) (by decide) ha na
  rw [if_neg z] at h; clear z
  by_cases z : x = "list" ∧ n = 1
  · rw [if_pos z] at h; cases h; obtain ⟨rfl, _⟩ := z
    exact pe_blt2 call_list_of (srvA_f (by decide) list_d) hg (free _ (by decide)) (by decide +kernel) (by decide) (by decide) ha na
  rw [if_neg z] at h; clear z
  by_cases z : x = "int" ∧ n = 1
  · rw [if_pos z] at h; cases h; obtain ⟨rfl, _⟩ := z
    exact pe_blt2 (call_int1.or call_int_str) (srvA_f (by decide) int_d) hg (free _ (by decide)) (by decide +kernel) (by decide) (by decide) ha na
  rw [if_neg z] at h; clear z
  by_cases z : x = "sorted" ∧ n = 1
  · rw [if_pos z] at h; cases h; obtain ⟨rfl, _⟩ := z
    exact pe_blt1 cr_sortedP (srvA_f (by decide) sorted_d) hg (free _ (by decide)) (by decide +kernel) (by decide) (by decide) ha na
  rw [if_neg z] at h
  cases h

end
end Pv
/-! Pv16: every expression's code is sound. -/
namespace Pv
open PySem PySem.Spec PyProof.Rows L2
structure SndE (Φ : Str → List Vv → M RV) (G : GS) (ca : Str → Addr) (n : Nat) : Prop where
  e : ∀ {X : Cx} {S : SC} {W : WN}, Cn S X → Gd Φ G ca X → Takes X (wx ca W) → ∀ (e : Expr) (c : E), compE G S n e = some c → PE X e (tE X.K (ev Φ c) W)
  t : ∀ {X : Cx} {S : SC} {W : WN}, Cn S X → Gd Φ G ca X → Takes X (wx ca W) → ∀ (e : Expr) (c : E), isIfE e = false → compE G S n e = some c → PT X e (tT X.K (fun env => bnd (ev Φ c env) truR) W)
  es : ∀ {X : Cx} {S : SC} {W : WN}, Cn S X → Gd Φ G ca X → Takes X (wx ca W) → ∀ (es : List Expr) (cs : List E), compEs G S n es = some cs → PA X es (tAr X.K (evs Φ cs) W) ∧ (es.all fun e => !isStarE e) = true
  o : ∀ {X : Cx} {S : SC} {W : WN}, Cn S X → Gd Φ G ca X → Takes X (wx ca W) → ∀ (o : Option Expr) (c : Option E), compO G S n o = some c → PO X o (tOo X.K (evo Φ c) W)
  b : ∀ {X : Cx} {S : SC} {W : WN}, Cn S X → Gd Φ G ca X → Takes X (wx ca W) → ∀ (op : BoolOp) (es : List Expr) (c : E) (pos : Pos), compB G S n op es = some c → PE X (.BoolOp op es pos) (tE X.K (ev Φ c) W) ∧ PW X (.BoolOp op es pos) (tT X.K (fun env => bnd (ev Φ c env) truR) W)
  c : ∀ {X : Cx} {S : SC} {W : WN}, Cn S X → Gd Φ G ca X → Takes X (wx ca W) → ∀ (x : Str) (es : List Expr) (c : E) (p pos : Pos), glB S.sc x = true → compC G S n x es = some c → PE X (.Call (.Name x p) es [] pos) (tE X.K (ev Φ c) W)
  i : ∀ {X : Cx} {S : SC} {W : WN}, Cn S X → Gd Φ G ca X → Takes X (wx ca W) → ∀ (tg e : Expr) (c : I), compI G S n e = some c → (needsTup c = true → isTupE tg = true) → PI X tg e (tI X.K (evi Φ c) W) ∧ isSetE e = false
theorem Gd.blk {Φ : Str → List Vv → M RV} {G : GS} {ca : Str → Addr} {X : Cx} (D : Gd Φ G ca X) {s : Shared} {H : Hp} {scope : Scope} {env : PySem.Env} {fp : List Addr} : Gd Φ G ca (X.blk s H scope env fp) := ⟨D.calm, D.hu, D.free, D.cns, D.fns⟩
theorem Cn.blk {S : SC} {X : Cx} (C : Cn S X) {s : Shared} {H : Hp} {scope : Scope} {cl : List (Str × Addr)} {Ca : Addr} {fp : List Addr} : Cn (S.blk scope) (X.blk s H scope (compEnvC scope cl Ca X.env) fp) := ⟨C.hN, by show _ = relS scope S.sc; rw [← C.hS]; rfl, C.nd⟩
theorem blk_takes {X : Cx} {ca : Str → Addr} {s : Shared} {H : Hp} {scope : Scope} {env : PySem.Env} {fp : List Addr} : Takes (X.blk s H scope env fp) (wx ca WF) := fun u s' ⟨_, _, _, _, _, _, _, _, _, _, _, _, _, _, _, _, w⟩ => by
  obtain ⟨x, _, _, w⟩ := w
  exact w.elim
theorem ownL_spec {N : List Str} : ∀ {xs : List Str} {own : List (Str × Nat)}, ownL? N xs = some own → ∀ x ∈ xs, ∃ i, idx x N = some i ∧ (x, i) ∈ own
  | [], _, _, x, hx => nomatch hx
  | y :: ys, own, h, x, hx => by
    unfold ownL? at h
    split at h <;> first | (cases h; done) | skip
    rename_i i r e1 e2
    cases h
    rcases List.mem_cons.mp hx with rfl | hx
    · exact ⟨i, e1, List.mem_cons_self⟩
    · obtain ⟨j, h1, h2⟩ := ownL_spec e2 x hx
      exact ⟨j, h1, List.mem_cons_of_mem _ h2⟩
mutual
theorem tN_own {S : SC} {own : List (Str × Nat)} : ∀ (e : Expr) (t : T), compT S e = some t → (∀ x ∈ tgN e, ∃ i, idx x S.N = some i ∧ (x, i) ∈ own) → ∀ i ∈ tN t, i ∈ own.map (·.2)
  | .Name x p, t, h, hx, i, hi => by
    unfold compT at h
    split at h <;> first | (cases h; done) | skip
    obtain ⟨j, hj, rfl⟩ := Option.map_eq_some_iff.mp h
    obtain ⟨k, h1, h2⟩ := hx x (by simp [tgN])
    rw [hj] at h1
    cases h1
    have : i = j := by simpa [tN] using hi
    subst this
    exact List.mem_map.mpr ⟨_, h2, rfl⟩
  | .Tuple es k p, t, h, hx, i, hi => by
    unfold compT at h
    obtain ⟨ts, hts, rfl⟩ := Option.map_eq_some_iff.mp h
    exact tNs_own es ts hts hx i hi
  | .Constant .., _, h, _, _, _ => by cases h
  | .BoolOp .., _, h, _, _, _ => by cases h
  | .NamedExpr .., _, h, _, _, _ => by cases h
  | .BinOp .., _, h, _, _, _ => by cases h
  | .UnaryOp .., _, h, _, _, _ => by cases h
  | .Lambda .., _, h, _, _, _ => by cases h
  | .IfExp .., _, h, _, _, _ => by cases h
  | .Dict .., _, h, _, _, _ => by cases h
  | .Set .., _, h, _, _, _ => by cases h
  | .ListComp .., _, h, _, _, _ => by cases h
  | .SetComp .., _, h, _, _, _ => by cases h
  | .DictComp .., _, h, _, _, _ => by cases h
  | .GeneratorExp .., _, h, _, _, _ => by cases h
  | .Await .., _, h, _, _, _ => by cases h
  | .Yield .., _, h, _, _, _ => by cases h
  | .YieldFrom .., _, h, _, _, _ => by cases h
  | .Compare .., _, h, _, _, _ => by cases h
  | .Call .., _, h, _, _, _ => by cases h
  | .FormattedValue .., _, h, _, _, _ => by cases h
  | .JoinedStr .., _, h, _, _, _ => by cases h
  | .Attribute .., _, h, _, _, _ => by cases h
  | .Subscript .., _, h, _, _, _ => by cases h
  | .Starred .., _, h, _, _, _ => by cases h
  | .List .., _, h, _, _, _ => by cases h
  | .Slice .., _, h, _, _, _ => by cases h
theorem tNs_own {S : SC} {own : List (Str × Nat)} : ∀ (es : List Expr) (ts : List T), compTs S es = some ts → (∀ x ∈ tgNs es, ∃ i, idx x S.N = some i ∧ (x, i) ∈ own) → ∀ i ∈ tNs ts, i ∈ own.map (·.2)
  | [], ts, h, _, i, hi => by cases h; exact nomatch hi
  | e :: es, ts, h, hx, i, hi => by
    unfold compTs at h
    split at h <;> first | (cases h; done) | skip
    rename_i t ts' e1 e2 e3
    cases h
    unfold tNs at hi
    rcases List.mem_append.mp hi with hi | hi
    · exact tN_own e t e2 (fun x q => hx x (by unfold tgNs; exact List.mem_append_left _ q)) i hi
    · exact tNs_own es ts' e3 (fun x q => hx x (by unfold tgNs; exact List.mem_append_right _ q)) i hi
end
section
variable {Φ : Str → List Vv → M RV} {G : GS} {ca : Str → Addr} {n : Nat}
theorem snd_es (P : SndE Φ G ca n) {X : Cx} {S : SC} {W : WN} (C : Cn S X) (D : Gd Φ G ca X) (tk : Takes X (wx ca W)) (es : List Expr) (cs : List E) (h : compEs G S (n + 1) es = some cs) : PA X es (tAr X.K (evs Φ cs) W) ∧ (es.all fun e => !isStarE e) = true := by
  cases es with
  | nil => cases h; exact ⟨pa_nilM, rfl⟩
  | cons e es =>
    unfold compEs at h
    split at h <;> first | (cases h; done) | skip
    rename_i x xs e1 e2 e3
    cases h
    obtain ⟨h1, h2⟩ := P.es C D tk es xs e3
    exact ⟨pa_consM (P.e C D tk e x e2) h1 e1, by rw [List.all_cons, e1, h2]; rfl⟩
theorem snd_o (P : SndE Φ G ca n) {X : Cx} {S : SC} {W : WN} (C : Cn S X) (D : Gd Φ G ca X) (tk : Takes X (wx ca W)) (o : Option Expr) (c : Option E) (h : compO G S (n + 1) o = some c) : PO X o (tOo X.K (evo Φ c) W) := by
  cases o with
  | none => cases h; exact po_noneM
  | some e =>
    unfold compO at h
    obtain ⟨x, hx, rfl⟩ := Option.map_eq_some_iff.mp h
    exact po_someM (P.e C D tk e x hx)
theorem snd_b (P : SndE Φ G ca n) {X : Cx} {S : SC} {W : WN} (C : Cn S X) (D : Gd Φ G ca X) (tk : Takes X (wx ca W)) (op : BoolOp) (es : List Expr) (c : E) (pos : Pos) (h : compB G S (n + 1) op es = some c) :
    PE X (.BoolOp op es pos) (tE X.K (ev Φ c) W) ∧ PW X (.BoolOp op es pos) (tT X.K (fun env => bnd (ev Φ c env) truR) W) := by
  match es with
  | [] => cases h
  | [e] =>
    unfold compB at h
    split at h <;> first | (cases h; done) | skip
    rename_i e1
    have e1 : isIfE e = false := by cases q : isIfE e <;> simp [q] at e1 ⊢
    refine ⟨pe_one (P.e C D tk e c h), ?_⟩
    cases op with
    | And => exact pw_and1 (P.t C D tk e c e1 h)
    | Or => exact pw_or1 (P.t C D tk e c e1 h)
  | e :: e' :: es =>
    unfold compB at h
    split at h <;> first | (cases h; done) | skip
    · rename_i x y e1 e2 e3
      cases h
      obtain ⟨h1, h2⟩ := P.b C D tk .And (e' :: es) y pos e3
      exact ⟨pe_andM (P.e C D tk e x e2) h1, pw_andM (P.t C D tk e x e1 e2) h2⟩
    · rename_i x y e1 e2 e3
      cases h
      obtain ⟨h1, h2⟩ := P.b C D tk .Or (e' :: es) y pos e3
      exact ⟨pe_orM (P.e C D tk e x e2) h1, pw_orM (P.t C D tk e x e1 e2) h2⟩
theorem bfOf_pos {x : Str} {f : BF} (h : bfOf x 0 = some f) : False := by
  unfold bfOf at h
  simp at h
theorem snd_blt (P : SndE Φ G ca n) {X : Cx} {S : SC} {W : WN} (C : Cn S X) (D : Gd Φ G ca X) (tk : Takes X (wx ca W)) {x : Str} {es : List Expr} {c : E} {p pos : Pos} (hg : glB S.sc x = true)
    (h : (match bfOf x es.length, compEs G S n es with
        | some f, some ys => some (.blt f ys)
        | _, _ => none) = some c) : PE X (.Call (.Name x p) es [] pos) (tE X.K (ev Φ c) W) := by
  split at h <;> first | (cases h; done) | skip
  rename_i f ys e1 e2
  cases h
  obtain ⟨h1, h2⟩ := P.es C D tk es ys e2
  cases es with
  | nil => exact (bfOf_pos e1).elim
  | cons e es => exact pe_bltM e1 D.calm D.hu D.free (C.gl hg) h1 h2
theorem snd_c (P : SndE Φ G ca n) {X : Cx} {S : SC} {W : WN} (C : Cn S X) (D : Gd Φ G ca X) (tk : Takes X (wx ca W)) (x : Str) (es : List Expr) (c : E) (p pos : Pos) (hg : glB S.sc x = true) (h : compC G S (n + 1) x es = some c) :
    PE X (.Call (.Name x p) es [] pos) (tE X.K (ev Φ c) W) := by
  unfold compC at h
  split at h
  · rename_i hf
    split at h <;> first | (cases h; done) | skip
    rename_i he
    obtain ⟨cs, hcs, rfl⟩ := Option.map_eq_some_iff.mp h
    obtain ⟨h1, h2⟩ := P.es C D tk es cs hcs
    cases es with
    | nil => exact absurd rfl he
    | cons e es => exact pe_callM D tk (C.gl hg) (gl_of hg).2 hf h1 h2
  · split at h
    · rename_i y p2 a q
      split at h
      · rename_i z
        obtain ⟨z1, z2, rfl, rfl⟩ := z
        obtain ⟨c', hc', rfl⟩ := Option.map_eq_some_iff.mp h
        rw [blt1_eq .lenSet lenSetM (by decide) (fun _ => rfl)]
        exact pe_lenSetM D.calm (C.gl hg) (D.free _ (by decide)) (C.gl z1) (D.free _ (by decide)) (P.e C D tk a c' hc') z2
      split at h
      · rename_i z
        obtain ⟨z1, z2, rfl, rfl⟩ := z
        obtain ⟨c', hc', rfl⟩ := Option.map_eq_some_iff.mp h
        rw [blt1_eq .sortedSet sortedSetM (by decide) (fun _ => rfl)]
        exact pe_sortedSetM D.calm (by have := D.hu; omega) (C.gl hg) (D.free _ (by decide)) (C.gl z1) (D.free _ (by decide)) (P.e C D tk a c' hc') z2
      split at h
      · rename_i z
        obtain ⟨z1, z2, rfl, rfl⟩ := z
        obtain ⟨c', hc', rfl⟩ := Option.map_eq_some_iff.mp h
        exact pe_rngl D.calm (C.gl hg) (D.free _ (by decide)) (C.gl z1) (D.free _ (by decide)) (P.e C D tk a c' hc') z2
      split at h
      · rename_i z
        obtain ⟨z1, z2, rfl, rfl⟩ := z
        obtain ⟨c', hc', rfl⟩ := Option.map_eq_some_iff.mp h
        exact pe_rngt D.calm (C.gl hg) (D.free _ (by decide)) (C.gl z1) (D.free _ (by decide)) (P.e C D tk a c' hc') z2
      · exact snd_blt P C D tk hg h
    · rename_i a t p2
      split at h
      · rename_i z
        obtain ⟨rfl, z2⟩ := z
        split at h <;> first | (cases h; done) | skip
        rename_i ty c' e1 e2 e3
        cases h
        have hty : X.mg t = none := by
          refine D.free _ ?_
          unfold tyOf at e1
          by_cases q1 : t = "int"
          · subst q1; decide
          by_cases q2 : t = "bool"
          · subst q2; decide
          by_cases q3 : t = "tuple"
          · subst q3; decide
          by_cases q4 : t = "list"
          · subst q4; decide
          by_cases q5 : t = "str"
          · subst q5; decide
          rw [if_neg q1, if_neg q2, if_neg q3, if_neg q4, if_neg q5] at e1
          cases e1
        exact pe_isi e1 (C.gl hg) (D.free _ (by decide)) (C.gl z2) hty (P.e C D tk a c' e3) e2
      · exact snd_blt P C D tk hg h
    · exact snd_blt P C D tk hg h
theorem snd_i (P : SndE Φ G ca n) {X : Cx} {S : SC} {W : WN} (C : Cn S X) (D : Gd Φ G ca X) (tk : Takes X (wx ca W)) (tg e : Expr) (c : I) (h : compI G S (n + 1) e = some c) (ht : needsTup c = true → isTupE tg = true) : PI X tg e (tI X.K (evi Φ c) W) ∧ isSetE e = false := by
  have sq : isSetE e = false → (compE G S n e).map I.seq = some c → PI X tg e (tI X.K (evi Φ c) W) ∧ isSetE e = false := fun hs q => by
    obtain ⟨c', hc', rfl⟩ := Option.map_eq_some_iff.mp q
    exact ⟨pi_seqM (P.e C D tk e c' hc'), hs⟩
  have ns : ∀ {a : Expr}, ¬ isStarE a = true → isStarE a = false := fun {a} h => by cases q : isStarE a <;> simp [q] at h ⊢
  unfold compI at h
  split at h
  · rename_i x p args pos
    split at h
    · rename_i z
      obtain ⟨z1, rfl⟩ := z
      split at h
      · rename_i a
        split at h
        · cases h
        rename_i na
        obtain ⟨c', hc', rfl⟩ := Option.map_eq_some_iff.mp h
        exact ⟨pi_rng1M (C.gl z1) (D.free _ (by decide)) (P.e C D tk a c' hc') (ns na), rfl⟩
      · rename_i a b
        split at h <;> first | (cases h; done) | skip
        rename_i y z e1 e2 e3 e4
        cases h
        exact ⟨pi_rng2M (C.gl z1) (D.free _ (by decide)) (P.e C D tk a y e3) (P.e C D tk b z e4) e1 e2, rfl⟩
      · cases h
    split at h
    · rename_i z
      obtain ⟨z1, rfl⟩ := z
      split at h
      · rename_i a
        split at h
        · cases h
        rename_i na
        obtain ⟨c', hc', rfl⟩ := Option.map_eq_some_iff.mp h
        have ht := ht rfl
        cases tg <;> first | (cases ht; done) | skip
        exact ⟨pi_enumM (C.gl z1) (D.free _ (by decide)) (P.e C D tk a c' hc') (ns na), rfl⟩
      · cases h
    split at h
    · rename_i z
      obtain ⟨z1, rfl⟩ := z
      split at h
      · rename_i a b
        split at h <;> first | (cases h; done) | skip
        rename_i y z e1 e2 e3 e4
        cases h
        have ht := ht rfl
        cases tg <;> first | (cases ht; done) | skip
        exact ⟨pi_zipM (C.gl z1) (D.free _ (by decide)) (P.e C D tk a y e3) (P.e C D tk b z e4) e1 e2, rfl⟩
      · rename_i a b c'
        split at h <;> first | (cases h; done) | skip
        rename_i x y z e1 e2 e3 e4 e5 e6
        cases h
        have ht := ht rfl
        cases tg <;> first | (cases ht; done) | skip
        exact ⟨pi_zip3M (C.gl z1) (D.free _ (by decide)) (P.e C D tk a x e4) (P.e C D tk b y e5) (P.e C D tk c' z e6) e1 e2 e3, rfl⟩
      · cases h
    · exact sq rfl h
  · cases h
  · rename_i _ ns
    refine sq ?_ h
    cases e <;> first | rfl | exact absurd rfl (ns _ _ _)

theorem pe_bad {X : Cx} {K : PySem.W.Frag} {e : Expr} {W : WN} : PE X e (tE K (fun _ => stk) W) := ⟨fun pins s σ H Q I q => by
  obtain ⟨_, _, _, _, _, w⟩ := q
  exact w.elim⟩
theorem pe_getD {X : Cx} {e : Expr} {o : Option E} {W : WN} (h : ∀ x, o = some x → PE X e (tE X.K (ev Φ x) W)) : PE X e (tE X.K (ev Φ (o.getD .bad)) W) := by
  cases o with
  | none => exact pe_bad
  | some x => exact h x rfl
theorem snd_e (P : SndE Φ G ca n) {X : Cx} {S : SC} {W : WN} (C : Cn S X) (D : Gd Φ G ca X) (tk : Takes X (wx ca W)) (e : Expr) (c : E) (h : compE G S (n + 1) e = some c) : PE X e (tE X.K (ev Φ c) W) := by
  have nif : ∀ {a : Expr}, ¬ isIfE a = true → isIfE a = false := fun {a} h => by cases q : isIfE a <;> simp [q] at h ⊢
  unfold compE at h
  split at h
  · cases h; exact pe_const pe_non fun _ => .non
  · cases h; exact pe_const pe_bl fun _ => .bl _
  · cases h; exact pe_const pe_int fun _ => .int _
  · cases h; exact pe_const pe_str fun _ => .str _
  · rename_i x p
    split at h
    · rename_i hv
      obtain ⟨i, hi, h⟩ := Option.map_eq_some_iff.mp h
      split at h
      · subst h; exact pe_slot C hv hi
      · subst h; exact pe_slot C hv hi
    split at h
    · rename_i hg
      obtain ⟨i, hi, rfl⟩ := Option.map_eq_some_iff.mp h
      obtain ⟨t, ht⟩ := D.cns x i hi
      exact pe_const (pe_glob (v := .int i) (C.gl hg) ht ⟨t, rfl⟩ (gl_of hg).2) fun _ => .int _
    · cases h
  · rename_i es k p
    obtain ⟨cs, hcs, rfl⟩ := Option.map_eq_some_iff.mp h
    exact pe_tupM (P.es C D tk es cs hcs).1
  · rename_i es p
    obtain ⟨cs, hcs, rfl⟩ := Option.map_eq_some_iff.mp h
    exact pe_lstM (P.es C D tk es cs hcs).1
  · rename_i a op b p
    split at h <;> first | (cases h; done) | skip
    rename_i o x y e1 e2 e3
    cases h
    obtain ⟨r, h1, h2⟩ := op_bin (X := X) e1
    exact pe_imp (pe_op h1 (P.e C D tk a x e2) (P.e C D tk b y e3)) fun σ H Q q => tOp_of h2 q
  · rename_i a p
    obtain ⟨c', hc', rfl⟩ := Option.map_eq_some_iff.mp h
    exact pe_negM (P.e C D tk a c' hc')
  · rename_i a p
    split at h
    · cases h
    obtain ⟨c', hc', rfl⟩ := Option.map_eq_some_iff.mp h
    exact pe_notM (P.e C D tk a c' hc')
  · rename_i op vs p
    exact (P.b C D tk op vs c p h).1
  · rename_i a op b p
    split at h <;> first | (cases h; done) | skip
    rename_i o x y e1 e2 e3 e4
    cases h
    exact pe_cmpM D.hu e1 (P.e C D tk a x e2) (P.e C D tk b y e3) e4
  · rename_i a op op' b c' p
    split at h <;> first | (cases h; done) | skip
    rename_i o o' x y z e1 e2 e3 e4 e5 e6
    cases h
    exact pe_chainM D.hu e1 e2 (P.e C D tk a x e3) (P.e C D tk b y e4) (P.e C D tk c' z e5) e6
  · rename_i c' a b p
    split at h <;> first | (cases h; done) | skip
    rename_i z e1 e2
    cases h
    exact pe_ifxM (P.t C D tk c' z e1 e2) (pe_getD fun x hx => P.e C D tk a x hx) (pe_getD fun y hy => P.e C D tk b y hy)
  · rename_i a k p1 p2 p3 p4
    obtain ⟨c', hc', rfl⟩ := Option.map_eq_some_iff.mp h
    exact pe_revM (P.e C D tk a c' hc')
  · rename_i a lo hi p2 p
    split at h <;> first | (cases h; done) | skip
    rename_i x l r e1 e2 e3
    cases h
    exact pe_sliceM (P.e C D tk a x e1) (P.o C D tk lo l e2) (P.o C D tk hi r e3)
  · rename_i a b p _ _
    split at h <;> first | (cases h; done) | skip
    rename_i x y e1 e2 e3
    cases h
    exact pe_ixM (P.e C D tk a x e2) (P.e C D tk b y e3) e1
  · rename_i x p args pos
    split at h
    · rename_i hg
      exact P.c C D tk x args c p pos hg h
    · cases h
  · rename_i o opos m apos args cpos
    split at h <;> first | (cases h; done) | skip
    rename_i z
    obtain ⟨z1, rfl⟩ := z
    split at h <;> first | (cases h; done) | skip
    rename_i x a e1
    split at h
    · cases h
    rename_i na
    obtain ⟨y, hy, rfl⟩ := Option.map_eq_some_iff.mp h
    exact pe_countM (P.e C D tk _ x e1) (P.e C D tk a y hy) (by cases q : isStarE a <;> simp [q] at na ⊢) z1
  · rename_i elt tg it ifs scope p
    split at h
    · rename_i own ho
      split at h
      · rename_i hb
        rw [Bool.and_eq_true] at hb
        split at h <;> first | (cases h; done) | skip
        rename_i t i x e1 e2 e3
        split at h
        · cases h
        rename_i hnt
        have hnt : needsTup i = true → isTupE tg = true := fun q => by
          cases q' : isTupE tg with
          | true => rfl
          | false => exact absurd (by rw [q, q']; rfl) hnt
        obtain ⟨hi, hs⟩ := P.i C D tk tg it i e2 hnt
        have hv : ∀ j ∈ tN t, j ∈ own.map (·.2) := tN_own (S := S.blk scope) tg t e1 (ownL_spec ho)
        have ok : BlkOk X.N X.env.scope scope own := by rw [C.hN, C.hS]; exact blkOk_by hb.1
        have hN : X.N.Nodup := by rw [C.hN]; exact C.nd
        have hg : ∀ (s : Shared) (H : Hp) (Ca : Addr) (cl : List (Str × Addr)) (fp : List Addr), PG (X.blk s H scope (compEnvC scope cl Ca X.env) fp) tg (gT X.K t) := fun s H Ca cl fp => pg_T C.blk D.calm tg t e1 fun z hz => by
          have q := List.all_eq_true.mp hb.2 z hz
          rcases loc_of q with q | q
          · refine .inr ?_
            show (relS scope X.env.scope).names.lookup z = some .local
            exact lookup_relS_keep (by decide) q
          · refine .inl ?_
            show (scope.names.lookup z == some .cell) = true
            rw [q]; rfl
        have he : ∀ (s : Shared) (H : Hp) (Ca : Addr) (cl : List (Str × Addr)) (fp : List Addr), PE (X.blk s H scope (compEnvC scope cl Ca X.env) fp) elt (tE X.K (ev Φ x) WF) := fun s H Ca cl fp => P.e C.blk D.blk blk_takes elt x e3
        split at h
        · cases h
          exact pe_lcM (mc := none) D.calm hN hi ok hg (fun s H Ca cl fp => pts_nil) he hs hv
        · rename_i c1
          split at h
          · cases h
          rename_i hif
          obtain ⟨y, hy, rfl⟩ := Option.map_eq_some_iff.mp h
          exact pe_lcM (mc := some fun env => bnd (ev Φ y env) truR) D.calm hN hi ok hg (fun s H Ca cl fp => pts_one (P.t C.blk D.blk blk_takes c1 y (nif hif) hy)) he hs hv
        · cases h
      · cases h
    · cases h
  · cases h
theorem snd_t (P : SndE Φ G ca n) {X : Cx} {S : SC} {W : WN} (C : Cn S X) (D : Gd Φ G ca X) (tk : Takes X (wx ca W)) (e : Expr) (c : E) (hi : isIfE e = false) (h : compE G S (n + 1) e = some c) : PT X e (tT X.K (fun env => bnd (ev Φ c env) truR) W) := by
  have nif : ∀ {a : Expr}, ¬ isIfE a = true → isIfE a = false := fun {a} h => by cases q : isIfE a <;> simp [q] at h ⊢
  have he := snd_e P C D tk e c h
  cases e with
  | BoolOp op vs p =>
    unfold compE at h
    exact (P.b C D tk op vs c p h).2.pt
  | UnaryOp op a p =>
    cases op with
    | Not =>
      unfold compE at h
      simp only at h
      split at h
      · cases h
      rename_i hif
      obtain ⟨c', hc', rfl⟩ := Option.map_eq_some_iff.mp h
      exact pt_notM (P.t C D tk a c' (nif hif) hc')
    | _ => exact pt_gen he fun _ => rfl
  | IfExp a b c' p => cases hi
  | Compare a ops bs p =>
    unfold compE at h
    split at h
    all_goals (rename_i q; first | (cases q; done) | skip)
    · cases q
      split at h <;> first | (cases h; done) | skip
      rename_i o x y e1 e2 e3 e4
      cases h
      exact pt_cmpM D.hu e1 (P.e C D tk _ x e2) (P.e C D tk _ y e3) e4
    · cases q
      split at h <;> first | (cases h; done) | skip
      rename_i o o' x y z e1 e2 e3 e4 e5 e6
      cases h
      exact pt_chainM D.hu e1 e2 (P.e C D tk _ x e3) (P.e C D tk _ y e4) (P.e C D tk _ z e5) e6
    · cases h
  | _ => exact pt_gen he fun _ => rfl
/-- expressions of any depth -/
theorem snd_all : ∀ n, SndE Φ G ca n
  | 0 => ⟨fun _ _ _ _ _ h => (by cases h), fun _ _ _ _ _ _ h => (by cases h), fun _ _ _ _ _ h => (by cases h), fun _ _ _ _ _ h => (by cases h), fun _ _ _ _ _ _ _ h => (by cases h), fun _ _ _ _ _ _ _ _ _ h => (by cases h), fun _ _ _ _ _ _ h _ => (by cases h)⟩
  | n + 1 => have P := snd_all n; ⟨fun C D tk => snd_e P C D tk, fun C D tk => snd_t P C D tk, fun C D tk => snd_es P C D tk, fun C D tk => snd_o P C D tk, fun C D tk => snd_b P C D tk, fun C D tk => snd_c P C D tk, fun C D tk => snd_i P C D tk⟩
end
end Pv
/-! Pv17: slots written; the statements' readings. -/
namespace Pv
open PySem PySem.Spec PyProof.Rows L2
section
variable {K : PySem.W.Frag} {B H H' : Hp} {σ : L2.St} {env : Env} {tp : Tp} {p : Addr} {u : HO}
theorem oa_skip : ∀ (σ : L2.St) (env : Env) (i : Nat) (x : Option V) (s : Slot), isOwn (some s) = false → oa (σ.set i x) (env.set i s) = oa (σ.set i none) (env.set i .non)
  | [], _, _, _, _, _ => rfl
  | y :: σ, [], i, x, s, _ => by cases i <;> (rw [List.set_nil, List.set_nil]; cases x <;> cases y <;> simp [oa])
  | y :: σ, e :: env, 0, x, s, h => by
    simp only [List.set_cons_zero]
    cases s <;> first | (simp [isOwn] at h; done) | (cases x with | none => rfl | some v => cases v <;> rfl)
  | y :: σ, e :: env, i + 1, x, s, h => by
    simp only [List.set_cons_succ]
    have ih := oa_skip σ env i x s h
    cases e <;> (cases y with | none => exact ih | some v => cases v <;> first | exact ih | exact congrArg _ ih)
theorem oa_same : ∀ (σ : L2.St) (env : Env) (i : Nat) (o o' : OV), env[i]? = some (.own o) → oa σ (env.set i (.own o')) = oa σ env
  | [], _, _, _, _, _ => rfl
  | y :: σ, [], i, _, _, h => by simp at h
  | y :: σ, e :: env, 0, o, o', h => by
    have h : e = .own o := by simpa using h
    subst h
    cases y with | none => rfl | some v => cases v <;> rfl
  | y :: σ, e :: env, i + 1, o, o', h => by
    simp only [List.set_cons_succ]
    have ih := oa_same σ env i o o' (by simpa using h)
    cases e <;> (cases y with | none => exact ih | some v => cases v <;> first | exact ih | exact congrArg (List.cons _) ih)
/-- a slot is overwritten by what is not owned -/
theorem Rl.wr (R : Rl K B σ env tp H) (i : Nat) (x : Option V) (s : Slot) (ns : isOwn (some s) = false) (hs : SlotR K (fz (σ.set i x) (env.set i s) tp H) H x s) :
    Rl K B (σ.set i x) (env.set i s) tp H ∧ Same (fz σ env tp H) (fz (σ.set i x) (env.set i s) tp H) := by
  have sub : ∀ a ∈ oa (σ.set i x) (env.set i s), a ∈ oa σ env := fun a ha => (oa_set σ env i x s a ha).elim id fun ⟨_, o, e⟩ => (by subst e; cases ns)
  have s1 : Same (fz σ env tp H) (fz (σ.set i x) (env.set i s) tp H) := hide_sub fun a ha => by
    rcases List.mem_append.mp ha with h | h
    · exact List.mem_append_left _ (sub a h)
    · exact List.mem_append_right _ h
  have nd := List.nodup_append.mp R.nd
  refine ⟨⟨R.le.trans s1, (R.sl.mono s1 fun _ _ => rfl).set i hs, ?_, R.tk⟩, s1⟩
  refine List.nodup_append.mpr ⟨oa_set_nodup σ env i x s nd.1 fun _ o _ e => (by subst e; cases ns), nd.2.1, fun a ha b hb => nd.2.2 a (sub a ha) b hb⟩
/-- a new list of nobody's becomes a slot's own -/
theorem Rl.wrO (R : Rl K B σ env ((p, u) :: tp) H) (i : Nat) {o : OV} (h : OvR (fz σ env ((p, u) :: tp) H) H p o) : Rl K B (σ.set i (some (.ref p))) (env.set i (.own o)) tp H := by
  have n := List.nodup_cons.mp ((List.perm_middle (l₁ := oa σ env) (a := p) (l₂ := ad tp)).nodup_iff.mp R.nd)
  have nd := List.nodup_append.mp n.2
  have sub : ∀ a ∈ oa (σ.set i (some (.ref p))) (env.set i (.own o)), a ∈ oa σ env ∨ a = p := fun a ha => (oa_set σ env i _ _ a ha).elim .inl fun ⟨e, _⟩ => by cases e; exact .inr rfl
  have s1 : Same (fz σ env ((p, u) :: tp) H) (fz (σ.set i (some (.ref p))) (env.set i (.own o)) tp H) := hide_sub fun a ha => mem_mid.mpr (by
    rcases List.mem_append.mp ha with h | h
    · rcases sub a h with h | h
      · exact .inr (List.mem_append_left _ h)
      · exact .inl h
    · exact .inr (List.mem_append_right _ h))
  refine ⟨R.le.trans s1, (R.sl.mono s1 fun _ _ => rfl).set i ⟨p, rfl, h.mono s1 rfl⟩, ?_, fun q hq => R.tk q (List.mem_cons_of_mem _ hq)⟩
  refine List.nodup_append.mpr ⟨oa_set_nodup σ env i _ _ nd.1 fun q o' e _ => ?_, nd.2.1, fun a ha b hb => ?_⟩
  · cases e
    exact fun z => n.1 (List.mem_append_left _ (oa_freeSub σ env i _ z))
  · rcases sub a ha with h | h
    · exact nd.2.2 a h b hb
    · subst h
      exact fun z => n.1 (List.mem_append_right _ (z ▸ hb))
theorem set_self {α : Type} : ∀ {xs : List α} {i : Nat} {x : α}, xs[i]? = some x → xs.set i x = xs
  | [], _, _, h => by simp at h
  | y :: ys, 0, x, h => by simp at h; subst h; rfl
  | y :: ys, i + 1, x, h => congrArg (y :: ·) (set_self (xs := ys) (by simpa using h))
/-- a slot's own list is frozen where it lies -/
theorem Rl.fzSlot (R : Rl K B σ env tp H) {j : Nat} {v : V} {xs : List D} (h1 : σ[j]? = some (some v)) (h2 : env[j]? = some (.own (.lst xs))) :
    Rl K B σ (env.set j (.val (.d (.list xs)))) tp H ∧ Same (fz σ env tp H) (fz σ (env.set j (.val (.d (.list xs)))) tp H) ∧ Rep (fz σ (env.set j (.val (.d (.list xs)))) tp H) v (.list xs) := by
  obtain ⟨y, e1, q⟩ := R.sl.get h2
  obtain ⟨p, e2, vs, h3, h4⟩ := q
  rw [h1] at e1
  cases e1
  cases e2
  have es : σ.set j (some (.ref p)) = σ := set_self h1
  have nd := List.nodup_append.mp R.nd
  have np : p ∉ oa (σ.set j (some (.ref p))) (env.set j (.val (.d (.list xs)))) ++ ad tp := fun z => by
    rcases List.mem_append.mp z with z | z
    · rw [oa_skip _ _ _ _ _ rfl] at z
      exact oa_free h1 h2 nd.1 z
    · exact nd.2.2 p (oa_mem h1 h2) p z rfl
  have s1 : Same (fz σ env tp H) (fz (σ.set j (some (.ref p))) (env.set j (.val (.d (.list xs)))) tp H) := hide_sub fun a ha => by
    rcases List.mem_append.mp ha with h | h
    · refine List.mem_append_left _ ((oa_set σ env j _ _ a h).elim id fun ⟨_, o, e⟩ => nomatch e)
    · exact List.mem_append_right _ h
  have rp : Rep (fz (σ.set j (some (.ref p))) (env.set j (.val (.d (.list xs)))) tp H) (.ref p) (.list xs) := .lst (hide_mk h3 np) (h4.mono s1)
  obtain ⟨R1, s2⟩ := R.wr j (some (.ref p)) (.val (.d (.list xs))) rfl ⟨_, rfl, rp⟩
  rw [es] at R1 s2 rp
  exact ⟨R1, s2, rp⟩
/-- a slot's own list is changed where it lies -/
theorem Rl.mod (R : Rl K B σ env tp H) {i : Nat} {o o' : OV} (h1 : σ[i]? = some (some (.ref p))) (h2 : env[i]? = some (.own o)) (h : OvR (fz σ env tp H) (upd H p u) p o') : Rl K B σ (env.set i (.own o')) tp (upd H p u) ∧ fz σ (env.set i (.own o')) tp (upd H p u) = fz σ env tp H := by
  have eo := oa_same σ env i o o' h2
  have pm : p ∈ oa σ env ++ ad tp := List.mem_append_left _ (oa_mem h1 h2)
  have nd := List.nodup_append.mp R.nd
  have ef : fz σ (env.set i (.own o')) tp (upd H p u) = fz σ env tp H := by
    unfold fz
    rw [eo]
    funext a
    unfold hide
    by_cases z : a ∈ oa σ env ++ ad tp
    · rw [if_pos z, if_pos z]
    · rw [if_neg z, if_neg z, upd_ne fun e => z (by rw [e]; exact pm)]
  have es : σ.set i (some (.ref p)) = σ := set_self h1
  refine ⟨⟨?_, ?_, by rw [eo]; exact R.nd, fun q hq => ?_⟩, ef⟩
  · have := R.le
    unfold fz at ef
    rw [ef]
    exact this
  · have g1 : SlotsR K (fz σ env tp H) H (σ.set i none) (env.set i .non) := R.sl.set i trivial
    have g2 : SlotsR K (fz σ env tp H) (upd H p u) (σ.set i none) (env.set i .non) := g1.mono (Same.refl _) fun q hq => upd_ne fun e => oa_free h1 h2 nd.1 (e ▸ hq)
    have g3 : SlotsR K (fz σ env tp H) (upd H p u) ((σ.set i none).set i (some (.ref p))) ((env.set i .non).set i (.own o')) := g2.set i ⟨p, rfl, h⟩
    rw [List.set_set, List.set_set, es] at g3
    unfold fz at ef
    rw [ef]
    exact g3
  · rw [upd_ne fun e => nd.2.2 p (oa_mem h1 h2) q.1 (List.mem_map.mpr ⟨q, hq, rfl⟩) e.symm]
    exact R.tk q hq
theorem keepE_of {v : V} {r : RV} {t : Sto} {ok : Vv × Env → Sto → Prop} {ex : Str → Sto → Prop} (P : PostE K B σ env tp r v H) (w : wpm (keepE r env) t ok ex) : ∃ x env', ok (x, env') t ∧ Rl K B σ env' tp H ∧ VvR K (fz σ env' tp H) v x ∧ Same (fz σ env tp H) (fz σ env' tp H) := by
  obtain ⟨R, o⟩ := P.opd
  unfold keepE at w
  split at w
  · exact ⟨_, env, w, R, o, Same.refl _⟩
  · obtain ⟨p, rfl, vs, h1, h2⟩ := o
    exact ⟨_, env, w, R, .lst h1 h2, Same.refl _⟩
  · obtain ⟨h1, h2⟩ := o
    obtain ⟨R1, s1, r1⟩ := R.fzSlot h1 h2
    exact ⟨_, _, w, R1, r1, s1⟩
  · exact w.elim
theorem keepED_of {v : V} {r : RV} {t : Sto} {ok : D × Env → Sto → Prop} {ex : Str → Sto → Prop} (P : PostE K B σ env tp r v H) (w : wpm (keepED r env) t ok ex) : ∃ x env', ok (x, env') t ∧ Rl K B σ env' tp H ∧ Rep (fz σ env' tp H) v x ∧ Same (fz σ env tp H) (fz σ env' tp H) := by
  unfold keepED at w
  rw [wpm_bnd] at w
  obtain ⟨x, env', w, R, q, s⟩ := keepE_of P w
  cases x <;> first | exact w.elim | exact ⟨_, env', w, R, q, s⟩
/-! ### the readings -/
variable {W : WN} {D0 : Ends} {t : Sto}
/-- behind a statement -/
def EndF (K : PySem.W.Frag) (B : Hp) (tp : Tp) (W : WN) (D0 : Ends) : Fl → Prop
  | .nx env => ∀ σ H, Rl K B σ env tp H → D0.nx σ H
  | .rt r => ∀ v H, PostC K B tp r v H → D0.rt v H
  | .xc x env => ∀ σ H, Rl K B σ env tp H → W x σ H
def wpf (K : PySem.W.Frag) (B : Hp) (tp : Tp) (W : WN) (D0 : Ends) (m : M Fl) (t : Sto) : Prop := wpm m t (fun f _ => EndF K B tp W D0 f) fun _ _ => False
def tS (K : PySem.W.Frag) (m : Env → M Fl) (W : WN) : TS := fun D0 σ H => ∃ B env tp t, Rl K B σ env tp H ∧ wpf K B tp W D0 (m env) t
theorem wpm_cat {α : Type} {m : M α} {env : Env} {k : α → M Fl} {t : Sto} {ok : Fl → Sto → Prop} {ex : Str → Sto → Prop} : wpm (cat m env k) t ok ex = wpm m t (fun a t' => wpm (k a) t' ok ex) fun x t' => ok (.xc x env) t' := by
  unfold wpm cat
  cases m t <;> rfl
theorem catE {m : Env → M RV} {k : RV → M Fl} {Q : VK} (R : Rl K B σ env tp H) (w : wpf K B tp W D0 (cat (m env) env k) t) (hk : ∀ r t1 v H1, PostE K B σ env tp r v H1 → wpf K B tp W D0 (k r) t1 → Q v H1) : tE K m W σ H Q := by
  unfold wpf at w
  rw [wpm_cat] at w
  exact ⟨B, env, tp, t, R, wpm_mono w (fun r t1 h1 v H1 p => hk r t1 v H1 p h1) fun x t1 q H' R' => q σ H' R'⟩
theorem catT {m : Env → M Bool} {k : Bool → M Fl} {Q : Bool → Hp → Prop} (R : Rl K B σ env tp H) (w : wpf K B tp W D0 (cat (m env) env k) t) (hk : ∀ r t1 H1, Rl K B σ env tp H1 → wpf K B tp W D0 (k r) t1 → Q r H1) : tT K m W σ H Q := by
  unfold wpf at w
  rw [wpm_cat] at w
  exact ⟨B, env, tp, t, R, wpm_mono w (fun r t1 h1 H1 p => hk r t1 H1 p h1) fun x t1 q H' R' => q σ H' R'⟩
theorem catI {m : Env → M (List D × Bool)} {k : List D × Bool → M Fl} {Q : It → Hp → Prop} (R : Rl K B σ env tp H) (w : wpf K B tp W D0 (cat (m env) env k) t)
    (hk : ∀ p t1 J H1, Rl K B σ env tp H1 → p.1.length ≤ sizeLine → SrcB K (fz σ env tp H1) σ env J p.1 → (p.2 = false → SrcF (fz σ env tp H1) J p.1) → wpf K B tp W D0 (k p) t1 → Q J H1) : tI K m W σ H Q := by
  unfold wpf at w
  rw [wpm_cat] at w
  exact ⟨B, env, tp, t, R, wpm_mono w (fun r t1 h1 J H1 R1 hl sb sf => hk r t1 J H1 R1 hl sb sf h1) fun x t1 q H' R' => q σ H' R'⟩
theorem catE2 {B0 : Hp} {m : Env → M RV} {k : RV → M Fl} {Q : VK} (R : Rl K B σ env tp H) (s : Same B0 B) (w : wpf K B0 tp W D0 (cat (m env) env k) t) (hk : ∀ r t1 v H1, PostE K B σ env tp r v H1 → wpf K B0 tp W D0 (k r) t1 → Q v H1) : tE K m W σ H Q := by
  unfold wpf at w
  rw [wpm_cat] at w
  exact ⟨B, env, tp, t, R, wpm_mono w (fun r t1 h1 v H1 p => hk r t1 v H1 p h1) fun x t1 q H' R' => q σ H' (R'.down s)⟩
theorem catA {m : Env → M (List RV)} {k : List RV → M Fl} {Q : List V → Hp → Prop} (R : Rl K B σ env tp H) (w : wpf K B tp W D0 (cat (m env) env k) t) (hk : ∀ rs t1 vs H1, Rl K B σ env tp H1 → OpdsR K σ env (fz σ env tp H1) vs rs → wpf K B tp W D0 (k rs) t1 → Q vs H1) : tAr K m W σ H Q := by
  unfold wpf at w
  rw [wpm_cat] at w
  exact ⟨B, env, tp, t, R, wpm_mono w (fun r t1 h1 v H1 p o => hk r t1 v H1 p o h1) fun x t1 q H' R' => q σ H' R'⟩
theorem wpf_bnd {α : Type} {m : M α} {k : α → M Fl} : wpf K B tp W D0 (bnd m k) t = wpm m t (fun a t' => wpf K B tp W D0 (k a) t') fun _ _ => False := wpm_bnd
theorem wpf_stk {P : Prop} (w : wpf K B tp W D0 stk t) : P := w.elim
end
end Pv
/-! Pv18: the small statements. -/
namespace Pv
open PySem PySem.Spec PyProof.Rows L2
section
variable {K : PySem.W.Frag} {B H H' : Hp} {σ : L2.St} {env : Env} {tp : Tp} {D0 : Ends} {t : Sto}
/-- a context of a def's statements -/
structure Bd (S : SC) (X : Cx) : Prop extends Cn S X where
  fnc : ∀ x, X.env.scope.names.lookup x = some .cell → X.fn x = true
  hp : PassesOwn (model X.prog X.w) X.A X.env X.xe
  hs : X.stack = X.env :: X.outer
  hf : X.env.frame = some X.env.locals
  hk : X.env.scope.kind = .function
variable {X : Cx} {S : SC} {W : WN}
theorem Bd.fn (C : Bd S X) {x : Str} (h : locB S.sc x = true) : X.fn x = true ∨ X.env.scope.names.lookup x = some .local := by
  rcases loc_of h with h | h
  · exact .inr (by rw [C.hS]; exact h)
  · exact .inl (C.fnc x (by rw [C.hS]; exact h))
theorem Bd.loc (C : Bd S X) {x : Str} (h : locB S.sc x = true) : Loc X.env.scope x := by
  rw [C.hS]
  exact loc_of h
theorem Bd.hN' (C : Bd S X) : X.N.Nodup := by rw [C.hN]; exact C.nd
/-- set -/
theorem set_imp {m : Env → M RV} {i : Nat} (h : tS K (fun env => cat (m env) env (setIt i env)) W D0 σ H) : tAsg (tE K m W) (gName i) D0 σ H := by
  obtain ⟨B, env, tp, t, R, w⟩ := h
  refine catE R w fun r t1 v H1 P w1 => ?_
  unfold setIt at w1
  rw [wpf_bnd] at w1
  obtain ⟨x, env', w2, R2, q2, s2⟩ := keepE_of P w1
  have hx : SlotR K (fz σ env' tp H1) H1 (some v) (.val x) := ⟨v, rfl, q2⟩
  refine w2 _ _ ?_
  have s3 : Same (fz σ env' tp H1) (fz (σ.set i (some v)) (env'.set i (.val x)) tp H1) := hide_sub fun a ha => by
    rcases List.mem_append.mp ha with h | h
    · exact List.mem_append_left _ ((oa_set σ env' i _ _ a h).elim id fun ⟨_, o, e⟩ => nomatch e)
    · exact List.mem_append_right _ h
  exact (R2.wr i (some v) (.val x) rfl ⟨v, rfl, q2.mono s3⟩).1
theorem setO_imp {m : Env → M RV} {i : Nat} (h : tS K (fun env => cat (m env) env (setOwn i env)) W D0 σ H) : tAsg (tE K m W) (gName i) D0 σ H := by
  obtain ⟨B, env, tp, t, R, w⟩ := h
  refine catE R w fun r t1 v H1 P w1 => ?_
  cases r with
  | v x => exact wpf_stk w1
  | bo j o => exact wpf_stk w1
  | fr o =>
    obtain ⟨p, u, rfl, R1, q1⟩ := P
    exact w1 _ _ (R1.wrO i q1)
theorem asgs_l : ∀ (ts : List Pv.T) (ds : List D) (env env1 : Env), asgs ts ds env = some env1 → ds.length = ts.length
  | [], [], _, _, _ => rfl
  | [], _ :: _, _, _, e => by cases e
  | _ :: _, [], _, _, e => by cases e
  | t :: ts, d :: ds, env, env1, e => by
    unfold asgs at e
    split at e
    · rw [List.length_cons, List.length_cons, asgs_l ts ds _ _ e]
    · cases e
mutual
theorem gT_any : ∀ (T : Pv.T) (d : D) (v : V) (σ : L2.St) (env env1 : Env) (Q : L2.St → Hp → Prop), Rl K B σ env tp H → Rep (fz σ env tp H) v d → asg T d env = some env1 → (∀ σ1, Rl K B σ1 env1 tp H → Same (fz σ env tp H) (fz σ1 env1 tp H) → Q σ1 H) → gT K T v σ H Q
  | .nm i, d, v, σ, env, env1, Q, R, r, e, q => by
    cases e
    have s3 : Same (fz σ env tp H) (fz (σ.set i (some v)) (env.set i (.val (.d d))) tp H) := hide_sub fun a ha => by
      rcases List.mem_append.mp ha with h | h
      · exact List.mem_append_left _ ((oa_set σ env i _ _ a h).elim id fun ⟨_, o, e⟩ => nomatch e)
      · exact List.mem_append_right _ h
    obtain ⟨R1, s1⟩ := R.wr i (some v) (.val (.d d)) rfl ⟨v, rfl, r.mono s3⟩
    exact q _ R1 s1
  | .tp ts, d, v, σ, env, env1, Q, R, r, e, q => by
    cases d with
    | tuple xs =>
      obtain ⟨p, vs, rfl, h1, h2⟩ := rd_tup (RdR.of r (hide_same _ _))
      have e : asgs ts xs env = some env1 := e
      exact .inl ⟨p, vs, rfl, .of (hide_same _ _ _ _ h1), by rw [h2.length]; exact asgs_l ts xs env env1 e, gTs_any ts xs vs σ env env1 Q R h2 e q⟩
    | list xs =>
      cases r with
      | lst h1 h2 =>
        have e : asgs ts xs env = some env1 := e
        exact .inr ⟨_, _, rfl, .of (hide_same _ _ _ _ h1), by rw [h2.length]; exact asgs_l ts xs env env1 e, gTs_any ts xs _ σ env env1 Q R h2 e q⟩
    | _ => cases e
theorem gTs_any : ∀ (ts : List T) (ds : List D) (vs : List V) (σ : L2.St) (env env1 : Env) (Q : L2.St → Hp → Prop), Rl K B σ env tp H → Reps (fz σ env tp H) vs ds → asgs ts ds env = some env1 → (∀ σ1, Rl K B σ1 env1 tp H → Same (fz σ env tp H) (fz σ1 env1 tp H) → Q σ1 H) → gTs K ts vs σ H Q
  | [], ds, vs, σ, env, env1, Q, R, r, e, q => by
    cases r with
    | nil => cases e; exact ⟨rfl, q σ R (Same.refl _)⟩
    | cons _ _ => cases e
  | T :: ts, ds, vs, σ, env, env1, Q, R, r, e, q => by
    cases r with
    | nil => cases e
    | @cons v vs d ds h1 h2 =>
      unfold asgs at e
      split at e
      · rename_i env' e'
        exact ⟨v, vs, rfl, gT_any T d v σ env env' _ R h1 e' fun σ1 R1 s1 => gTs_any ts ds vs σ1 env' env1 Q R1 (h2.mono s1) e fun σ2 R2 s2 => q σ2 R2 (s1.trans s2)⟩
      · cases e
end
theorem lists_any {T : Pv.T} {d : D} {v : V} {env1 : Env} {Q : L2.St → Hp → Prop} (R : Rl K B σ env tp H) (r : RdR (fz σ env tp H) H v d) (nT : ∀ i, T ≠ .nm i) (e : asg T d env = some env1) (q : ∀ σ1, Rl K B σ1 env1 tp H → Q σ1 H) : gT K T v σ H Q := by
  cases T with
  | nm i => exact absurd rfl (nT i)
  | tp ts =>
    cases d with
    | tuple xs =>
      obtain ⟨p, vs, rfl, h1, h2⟩ := rd_tup r
      exact .inl ⟨p, vs, rfl, .of (hide_same _ _ _ _ h1), by rw [h2.length]; exact asgs_l ts xs env env1 e, gTs_any ts xs vs σ env env1 Q R h2 e fun σ1 R1 _ => q σ1 R1⟩
    | list xs =>
      obtain ⟨p, vs, rfl, h1, h2⟩ := r
      exact .inr ⟨p, vs, rfl, .of h1, by rw [h2.length]; exact asgs_l ts xs env env1 e, gTs_any ts xs vs σ env env1 Q R h2 e fun σ1 R1 _ => q σ1 R1⟩
    | _ => cases e
theorem asgM_of {T : Pv.T} {d : D} {ok : Env → Sto → Prop} {ex : Str → Sto → Prop} (w : wpm (asgM T d env) t ok ex) : ∃ env1, asg T d env = some env1 ∧ ok env1 t := by
  unfold asgM at w
  cases e : asg T d env with
  | none => rw [e] at w; exact w.elim
  | some env1 => rw [e] at w; exact ⟨env1, rfl, w⟩
/-- unpacking -/
theorem unp_imp {m : Env → M RV} {T : Pv.T} (nT : ∀ i, T ≠ .nm i) (h : tS K (fun env => cat (m env) env fun r => asD r fun x => bnd (asgM T x env) fun env' => ret (.nx env')) W D0 σ H) : tAsg (tE K m W) (gT K T) D0 σ H := by
  obtain ⟨B, env, tp, t, R, w⟩ := h
  refine catE R w fun r t1 v H1 P w1 => ?_
  obtain ⟨R1, o1⟩ := P.opd
  obtain ⟨d, ed, w1⟩ := wpm_asD w1
  rw [wpm_bnd] at w1
  obtain ⟨env1, e1, w1⟩ := asgM_of w1
  exact lists_any R1 (o1.rd R1 ed) nT e1 fun σ1 R2 => w1 _ _ R2
/-- own lists -/
theorem ownL_of {i : Nat} {k : List D → M Fl} (R : Rl K B σ env tp H) (w : wpf K B tp W D0 (ownL env i k) t) : ∃ xs p vs, env[i]? = some (.own (.lst xs)) ∧ σ[i]? = some (some (.ref p)) ∧ H p = some (.lst vs) ∧ Reps (fz σ env tp H) vs xs ∧ wpf K B tp W D0 (k xs) t := by
  unfold ownL at w
  split at w
  · rename_i xs e
    obtain ⟨y, e1, p, e2, vs, h3, h4⟩ := R.sl.get e
    subst e2
    exact ⟨xs, p, vs, e, e1, h3, h4, w⟩
  · exact wpf_stk w
theorem intR_of {F : Hp} {v : V} {r : RV} {k : Int → M Fl} (o : OpdR K σ env F v r) (w : wpf K B tp W D0 (intR r k) t) : ∃ i, v = .int i ∧ wpf K B tp W D0 (k i) t := by
  unfold intR at w
  split at w
  · cases (show Rep _ v (.int _) from o); exact ⟨_, rfl, w⟩
  · exact wpf_stk w
/-- the slot's reading -/
def tOwn (i : Nat) : TE := fun σ H Q => ∃ v, σ[i]? = some (some v) ∧ Q v H
theorem pe_own {x : Str} {i : Nat} {pos : Pos} (C : Bd S X) (h : visB S.sc x = true) (hi : idx x S.N = some i) : PE X (.Name x pos) (tOwn i) :=
  pe_imp (pe_var (i := i) (by rw [C.hN]; exact idx_get hi) (C.toCn.vis h) (vis_of h).2.1 (vis_of h).2.2) fun σ H Q ⟨v, e, q⟩ => ⟨v, e, q⟩
theorem modL {i : Nat} {p : Addr} {xs ys : List D} {vs ws : List V} (R : Rl K B σ env tp H) (e : env[i]? = some (.own (.lst xs))) (e1 : σ[i]? = some (some (.ref p))) (h : Reps (fz σ env tp H) ws ys) : Rl K B σ (env.set i (.own (.lst ys))) tp (upd H p (.lst ws)) ∧ fz σ (env.set i (.own (.lst ys))) tp (upd H p (.lst ws)) = fz σ env tp H :=
  R.mod e1 e ⟨ws, upd_same, h⟩
theorem tyL {p : Addr} {vs : List V} (h : H p = some (.lst vs)) : tyV K "list" (.ref p) H := .inl ⟨rfl, vs, .of h⟩
theorem own_again {i : Nat} {xs : List D} (R : Rl K B σ env tp H) (e : env[i]? = some (.own (.lst xs))) : ∃ p vs, σ[i]? = some (some (.ref p)) ∧ H p = some (.lst vs) ∧ Reps (fz σ env tp H) vs xs := by
  obtain ⟨y, e1, p, e2, vs, h3, h4⟩ := R.sl.get e
  subst e2
  exact ⟨p, vs, e1, h3, h4⟩
/-- append -/
theorem app_imp {m : Env → M RV} {i : Nat} (h : tS K (fun env => ownL env i fun _ => cat (m env) env fun r => bnd (keepED r env) fun p => ownL p.2 i fun xs => guard (fits (xs.length + 1)) (ret (.nx (p.2.set i (.own (.lst (xs ++ [p.1]))))))) W D0 σ H) :
    tDrop (tBM K "list" rAppend (tOwn i) (tCons (tE K m W) tNil)) D0 σ H := by
  obtain ⟨B, env, tp, t, R, w⟩ := h
  obtain ⟨xs0, p0, vs0, f1, f2, f3, f4, w⟩ := ownL_of R w
  refine ⟨_, f2, tyL f3, ?_⟩
  refine catE R w fun r t1 y H1 P w1 => ?_
  rw [wpf_bnd] at w1
  obtain ⟨d, env', w2, R2, q2, s2⟩ := keepED_of P w1
  obtain ⟨xs, p, vs, e3, e4, h5, h6, w3⟩ := ownL_of R2 w2
  obtain ⟨hz, w3⟩ := wpm_guard w3
  rw [f2] at e4
  cases e4
  refine ⟨p0, vs, y, rfl, rfl, h5, ?_, w3 _ _ (modL (vs := vs) R2 e3 f2 (h6.append (.cons q2 .nil))).1⟩
  have := fits_le hz
  rw [h6.length]
  omega
theorem ext_imp {m : Env → M RV} {i : Nat} (h : tS K (fun env => ownL env i fun xs => cat (m env) env fun r => asD r fun
    | .list ys => guard (fits (xs.length + ys.length)) (ret (.nx (env.set i (.own (.lst (xs ++ ys))))))
    | _ => stk) W D0 σ H) : tDrop (tBM K "list" rExtend (tOwn i) (tCons (tE K m W) tNil)) D0 σ H := by
  obtain ⟨B, env, tp, t, R, w⟩ := h
  obtain ⟨xs, p, vs0, f1, f2, f3, f4, w⟩ := ownL_of R w
  refine ⟨_, f2, tyL f3, ?_⟩
  refine catE R w fun r t1 y H1 P w1 => ?_
  obtain ⟨R1, o1⟩ := P.opd
  obtain ⟨d, ed, w1⟩ := wpm_asD w1
  have rx := o1.rd R1 ed
  split at w1 <;> first | exact wpm_stk w1 | skip
  obtain ⟨q, ws, rfl, g1, g2⟩ := rx
  obtain ⟨hz, w1⟩ := wpm_guard w1
  obtain ⟨p', vs, e1, h3, h4⟩ := own_again R1 f1
  rw [f2] at e1
  cases e1
  refine ⟨p, q, vs, ws, rfl, rfl, h3, g1, ?_, w1 _ _ (modL (vs := vs) R1 f1 f2 (h4.append g2)).1⟩
  have := fits_le hz
  rw [h4.length, g2.length]
  exact this
/-- xs[k] = e -/
theorem setIx_imp {m mk : Env → M RV} {i : Nat} (h : tS K (fun env => cat (m env) env fun r => ownL env i fun xs => cat (mk env) env fun q => intR q fun j => bnd (keepD r) fun y => bnd (setAt xs j y) fun ys => ret (.nx (env.set i (.own (.lst ys))))) W D0 σ H) :
    tAsg (tE K m W) (gSub (tOwn i) (tE K mk W) rSetL) D0 σ H := by
  obtain ⟨B, env, tp, t, R, w⟩ := h
  refine catE R w fun r t1 y H1 P w1 => ?_
  obtain ⟨R1, o1⟩ := P.opd
  obtain ⟨xs, p, vs0, f1, f2, f3, f4, w1⟩ := ownL_of R1 w1
  refine ⟨_, f2, ?_⟩
  refine catE2 R1.base R1.le w1 fun q t2 z H2 P2 w2 => ?_
  obtain ⟨R2, o2⟩ := P2.opd
  obtain ⟨j, rfl, w2⟩ := intR_of o2 w2
  rw [wpf_bnd] at w2
  obtain ⟨d, rd', w2⟩ := keepD_of (o1.mono R2.le) w2
  have w2 : wpf K B tp W D0 (bnd (setAt xs j d) fun ys => ret (.nx (env.set i (.own (.lst ys))))) t2 := w2
  unfold setAt at w2
  split at w2 <;> first | exact wpf_stk w2 | skip
  rename_i n hn
  obtain ⟨p', vs, e1, h3, h4⟩ := own_again R2 f1
  rw [f2] at e1
  cases e1
  have w2 : ∀ σ H, Rl K B σ (env.set i (.own (.lst (xs.set n d)))) tp H → D0.nx σ H := w2
  refine ⟨p, vs, j, n, rfl, rfl, h3, by rw [h4.length]; exact hn, w2 _ _ (modL (vs := vs) (R2.down R1.le) f1 f2 (h4.set rd' n)).1⟩
theorem getAt_of {xs : List D} {k : Int} {ok : D → Sto → Prop} {ex : Str → Sto → Prop} (w : wpm (getAt xs k) t ok ex) : ∃ x, L2.atI xs k = some x ∧ ok x t := by
  unfold getAt at w
  cases q : L2.atI xs k with
  | none => rw [q] at w; exact w.elim
  | some x => rw [q] at w; exact ⟨x, rfl, w⟩
/-- xs[k] += e, ints -/
theorem augIx_imp {m mk : Env → M RV} {i : Nat} (h : tS K (fun env => ownL env i fun _ => cat (mk env) env fun q => intR q fun j => ownL env i fun xs => bnd (getAt xs j) fun x => cat (m env) env fun r => bnd (augM .add (.v (.d x)) r) fun z => vvD z fun y => ownL env i fun ys => bnd (setAt ys j y) fun zs => ret (.nx (env.set i (.own (.lst zs))))) W D0 σ H) :
    tAugS (tOwn i) (tE K mk W) (tE K m W) (rIxL K) (ipI fun i j => i + j) rSetL D0 σ H := by
  obtain ⟨B, env, tp, t, R, w⟩ := h
  obtain ⟨xs0, p, vs0, f1, f2, f3, f4, w⟩ := ownL_of R w
  refine ⟨_, f2, ?_⟩
  refine catE R w fun q t1 z H1 P w1 => ?_
  obtain ⟨R1, o1⟩ := P.opd
  obtain ⟨j, rfl, w1⟩ := intR_of o1 w1
  obtain ⟨xs, p', vs, g1, g2, g3, g4, w1⟩ := ownL_of R1 w1
  rw [f2] at g2
  cases g2
  rw [wpf_bnd] at w1
  obtain ⟨x, ex, w1⟩ := getAt_of w1
  obtain ⟨v, ev, rv⟩ := g4.atI ex
  refine ⟨p, vs, j, v, rfl, rfl, .of g3, ev, ?_⟩
  have w1 : wpf K B tp W D0 (cat (m env) env fun r => bnd (augM .add (.v (.d x)) r) fun z => vvD z fun y => ownL env i fun ys => bnd (setAt ys j y) fun zs => ret (.nx (env.set i (.own (.lst zs))))) t1 := w1
  refine catE R1 w1 fun r t2 u H2 P2 w2 => ?_
  obtain ⟨R2, o2⟩ := P2.opd
  unfold augM at w2
  split at w2 <;> first | exact wpf_stk w2 | skip
  rename_i a b e5 e6
  cases e6
  cases (show Rep _ v (.int a) from rv)
  cases (show Rep _ u (.int b) from o2)
  refine ⟨a, b, rfl, rfl, ?_⟩
  have w2 : wpf K B tp W D0 (ownL env i fun ys => bnd (setAt ys j (.int (a + b))) fun zs => ret (.nx (env.set i (.own (.lst zs))))) t2 := w2
  obtain ⟨ys, p', us, k1, k2, k3, k4, w2⟩ := ownL_of R2 w2
  rw [f2] at k2
  cases k2
  unfold setAt at w2
  split at w2 <;> first | exact wpf_stk w2 | skip
  rename_i n hn
  have w2 : ∀ σ H, Rl K B σ (env.set i (.own (.lst (ys.set n (.int (a + b)))))) tp H → D0.nx σ H := w2
  exact ⟨p, us, j, n, rfl, rfl, k3, by rw [k4.length]; exact hn, w2 _ _ (modL (vs := us) R2 k1 f2 (k4.set (.int _) n)).1⟩
/-- insert -/
theorem ins_imp {m mk : Env → M RV} {i : Nat} (h : tS K (fun env => ownL env i fun _ => cat (mk env) env fun q => intR q fun n => cat (m env) env fun r => bnd (keepED r env) fun p => ownL p.2 i fun xs => guard (decide (0 ≤ n ∧ n < 2 ^ 63) && fits (xs.length + 1)) (ret (.nx (p.2.set i (.own (.lst (xs.take n.toNat ++ [p.1] ++ xs.drop n.toNat))))))) W D0 σ H) :
    tDrop (tBM K "list" (fun x vs H Q => ∃ (l : Addr) (xs : List V) (i : Int) (y : V), x = .ref l ∧ vs = [.int i, y] ∧ H l = some (.lst xs) ∧ xs.length < sizeLine ∧ 0 ≤ i ∧ i < 2 ^ 63 ∧ Q .non (upd H l (.lst (xs.take i.toNat ++ [y] ++ xs.drop i.toNat)))) (tOwn i) (tCons (tE K mk W) (tCons (tE K m W) tNil))) D0 σ H := by
  obtain ⟨B, env, tp, t, R, w⟩ := h
  obtain ⟨xs0, p0, vs0, f1, f2, f3, f4, w⟩ := ownL_of R w
  refine ⟨_, f2, tyL f3, ?_⟩
  refine catE R w fun q t1 z H1 P w1 => ?_
  obtain ⟨R1, o1⟩ := P.opd
  obtain ⟨n, rfl, w1⟩ := intR_of o1 w1
  refine catE R1 w1 fun r t2 y H2 P2 w2 => ?_
  rw [wpf_bnd] at w2
  obtain ⟨d, env', w3, R3, q3, s3⟩ := keepED_of P2 w2
  obtain ⟨xs, p, vs, e3, e4, h5, h6, w4⟩ := ownL_of R3 w3
  obtain ⟨hz, w4⟩ := wpm_guard w4
  obtain ⟨z1, z2⟩ := Bool.and_eq_true_iff.mp hz
  have z1 := of_decide_eq_true z1
  rw [f2] at e4
  cases e4
  refine ⟨p0, vs, n, y, rfl, rfl, h5, ?_, z1.1, z1.2, w4 _ _ (modL (vs := vs) R3 e3 f2 (((h6.take _).append (.cons q3 .nil)).append (h6.drop _))).1⟩
  have := fits_le z2
  rw [h6.length]
  omega
/-- n += e, ints -/
theorem aug_imp {m : Env → M RV} {i : Nat} (h : tS K (fun env => bnd (slotR env i) fun q => cat (m env) env fun r => bnd (augM .add q r) fun z => ret (.nx (env.set i (.val z)))) W D0 σ H) : tAug i (tE K m W) (ipI fun i j => i + j) D0 σ H := by
  obtain ⟨B, env, tp, t, R, w⟩ := h
  rw [wpf_bnd] at w
  unfold slotR at w
  split at w <;> first | exact wpm_stk w | skip
  · rename_i x e
    obtain ⟨y, e1, q⟩ := R.sl.get e
    obtain ⟨v, e2, q⟩ := q
    subst e2
    have w : wpf K B tp W D0 (cat (m env) env fun r => bnd (augM .add (.v x) r) fun z => ret (.nx (env.set i (.val z)))) t := w
    refine ⟨v, e1, catE R w fun r t1 u H1 P w1 => ?_⟩
    obtain ⟨R1, o1⟩ := P.opd
    unfold augM at w1
    split at w1 <;> first | exact wpf_stk w1 | skip
    rename_i a b e5 e6
    cases e6
    cases (show Rep _ v (.int a) from q)
    cases (show Rep _ u (.int b) from o1)
    exact ⟨a, b, rfl, rfl, w1 _ _ (R1.wr i (some (.int (a + b))) (.val (.d (.int (a + b)))) rfl ⟨_, rfl, .int _⟩).1⟩
  · rename_i o e
    obtain ⟨y, e1, p, e2, q⟩ := R.sl.get e
    subst e2
    have w : wpf K B tp W D0 (cat (m env) env fun r => bnd (augM .add (.bo i o) r) fun z => ret (.nx (env.set i (.val z)))) t := w
    exact ⟨_, e1, catE R w fun r t1 u H1 P w1 => wpf_stk w1⟩
/-- pops -/
theorem popEnd_of {xs : List D} {ok : D × List D → Sto → Prop} {ex : Str → Sto → Prop} (w : wpm (popEnd xs) t ok ex) : ∃ y, xs[xs.length - 1]? = some y ∧ ok (y, xs.dropLast) t := by
  unfold popEnd at w
  split at w
  · rename_i y e; exact ⟨y, e, w⟩
  · exact w.elim
theorem popAt_of {xs : List D} {k : Int} {ok : D × List D → Sto → Prop} {ex : Str → Sto → Prop} (w : wpm (popAt xs k) t ok ex) : ∃ j y, ixN xs.length k = some j ∧ xs[j]? = some y ∧ -(2 ^ 63) ≤ k ∧ k < 2 ^ 63 ∧ ok (y, xs.eraseIdx j) t := by
  unfold popAt at w
  split at w <;> first | exact wpm_stk w | skip
  rename_i j hj
  split at w <;> first | exact wpm_stk w | skip
  rename_i y hy
  obtain ⟨hz, w⟩ := wpm_guard w
  have hz := of_decide_eq_true hz
  exact ⟨j, y, hj, hy, hz.1, hz.2, w⟩
theorem ixN_six {n j : Nat} {k : Int} (h : ixN n k = some j) : seqIndex? k n = some j := (ixN_seq h).1
theorem pop_imp {T : Pv.T} {i : Nat} (h : tS K (fun env => ownL env i fun xs => bnd (popEnd xs) fun p => bnd (asgM T p.1 (env.set i (.own (.lst p.2)))) fun env' => ret (.nx env')) W D0 σ H) : tAsg (tBM0 K "list" rPop (tOwn i)) (gT K T) D0 σ H := by
  obtain ⟨B, env, tp, t, R, w⟩ := h
  obtain ⟨xs, p, vs, f1, f2, f3, f4, w⟩ := ownL_of R w
  refine ⟨_, f2, tyL f3, ?_⟩
  rw [wpf_bnd] at w
  obtain ⟨y, hy, w⟩ := popEnd_of w
  rw [wpf_bnd] at w
  obtain ⟨env1, e1, w⟩ := asgM_of w
  obtain ⟨v, hv, rv⟩ := f4.get hy
  obtain ⟨R1, ef⟩ := modL (vs := vs) R f1 f2 f4.dropLast
  refine ⟨p, vs, v, rfl, rfl, f3, by rw [f4.length]; exact hv, ?_⟩
  exact gT_any T y v σ _ env1 _ R1 (by rw [ef]; exact rv) e1 fun σ1 R2 _ => w _ _ R2
theorem popk_imp {T : Pv.T} {i : Nat} {mk : Env → M RV} (h : tS K (fun env => ownL env i fun xs => cat (mk env) env fun q => intR q fun n => bnd (popAt xs n) fun p => bnd (asgM T p.1 (env.set i (.own (.lst p.2)))) fun env' => ret (.nx env')) W D0 σ H) :
    tAsg (tBM K "list" rPopAt (tOwn i) (tCons (tE K mk W) tNil)) (gT K T) D0 σ H := by
  obtain ⟨B, env, tp, t, R, w⟩ := h
  obtain ⟨xs, p, vs0, f1, f2, f3, f4, w⟩ := ownL_of R w
  refine ⟨_, f2, tyL f3, ?_⟩
  refine catE R w fun r t1 u H1 P w1 => ?_
  obtain ⟨R1, o1⟩ := P.opd
  obtain ⟨n, rfl, w1⟩ := intR_of o1 w1
  rw [wpf_bnd] at w1
  obtain ⟨j, y, hj, hy, g1, g2, w1⟩ := popAt_of w1
  rw [wpf_bnd] at w1
  obtain ⟨env1, e1, w1⟩ := asgM_of w1
  obtain ⟨p', vs, e2, h3, h4⟩ := own_again R1 f1
  rw [f2] at e2
  cases e2
  obtain ⟨v, hv, rv⟩ := h4.get hy
  obtain ⟨R2, ef⟩ := modL (vs := vs) R1 f1 f2 (h4.eraseIdx j)
  refine ⟨p, vs, n, j, v, rfl, rfl, h3, g1, g2, by rw [h4.length]; exact ixN_six hj, hv, ?_⟩
  exact gT_any T y v σ _ env1 _ R2 (by rw [ef]; exact rv) e1 fun σ1 R3 _ => w1 _ _ R3
/-- xs.append(ys.pop(k)) -/
theorem appPop_imp {i j : Nat} {mk : Env → M RV} (h : tS K (fun env => ownL env i fun _ => ownL env j fun ys => cat (mk env) env fun q => intR q fun n => bnd (popAt ys n) fun p => ownL (env.set j (.own (.lst p.2))) i fun xs =>
      guard (fits (xs.length + 1)) (ret (.nx ((env.set j (.own (.lst p.2))).set i (.own (.lst (xs ++ [p.1]))))))) W D0 σ H) :
    tDrop (tBM K "list" rAppend (tOwn i) (tCons (tBM K "list" rPopAt (tOwn j) (tCons (tE K mk W) tNil)) tNil)) D0 σ H := by
  obtain ⟨B, env, tp, t, R, w⟩ := h
  obtain ⟨xs0, p0, ws0, b1, b2, b3, b4, w⟩ := ownL_of R w
  refine ⟨_, b2, tyL b3, ?_⟩
  obtain ⟨xs, p, vs0, f1, f2, f3, f4, w⟩ := ownL_of R w
  refine ⟨_, f2, tyL f3, ?_⟩
  refine catE R w fun r t1 u H1 P w1 => ?_
  obtain ⟨R1, o1⟩ := P.opd
  obtain ⟨n, rfl, w1⟩ := intR_of o1 w1
  rw [wpf_bnd] at w1
  obtain ⟨l, y, hj, hy, g1, g2, w1⟩ := popAt_of w1
  obtain ⟨p', vs, e2, h3, h4⟩ := own_again R1 f1
  rw [f2] at e2
  cases e2
  obtain ⟨v, hv, rv⟩ := h4.get hy
  obtain ⟨R2, ef⟩ := modL (vs := vs) R1 f1 f2 (h4.eraseIdx l)
  refine ⟨p, vs, n, l, v, rfl, rfl, h3, g1, g2, by rw [h4.length]; exact ixN_six hj, hv, ?_⟩
  obtain ⟨zs, p1, us, c1, c2, c3, c4, w2⟩ := ownL_of R2 w1
  obtain ⟨hz, w2⟩ := wpm_guard w2
  rw [b2] at c2
  cases c2
  refine ⟨p0, us, v, rfl, rfl, c3, ?_, w2 _ _ (modL (vs := us) R2 c1 b2 (c4.append (.cons (by rw [ef]; exact rv) .nil))).1⟩
  have := fits_le hz
  rw [c4.length]
  omega
/-- a, b = x, y -/
def parV : List (Nat × Bool) → List V → L2.St → L2.St
  | (i, _) :: is, v :: vs, σ => parV is vs (σ.set i (some v))
  | _, _, σ => σ
theorem par_of {σ0 : L2.St} {env0 : Env} : ∀ (is : List (Nat × Bool)) (rs : List RV) (vs : List V) {σ : L2.St} {env env' : Env}, (∀ q ∈ is, q.2 = false) → Rl K B σ env tp H → OpdsR K σ0 env0 (fz σ env tp H) vs rs → parSet is rs env = some env' → Rl K B (parV is vs σ) env' tp H ∧ vs.length = is.length
  | [], rs, vs, σ, env, env', hf, R, os, e => by
    cases os with
    | nil => cases e; exact ⟨R, rfl⟩
    | cons _ _ => cases e
  | (i, b) :: is, rs, vs, σ, env, env', hf, R, os, e => by
    have hb : b = false := hf _ List.mem_cons_self
    subst hb
    cases os with
    | nil => cases e
    | @cons v vs r rs o os =>
      have key : ∀ x : Vv, VvR K (fz σ env tp H) v x → parSet is rs (env.set i (.val x)) = some env' → Rl K B (parV is vs (σ.set i (some v))) env' tp H ∧ (v :: vs).length = ((i, false) :: is).length := fun x hx e' => by
        have s3 : Same (fz σ env tp H) (fz (σ.set i (some v)) (env.set i (.val x)) tp H) := hide_sub fun a ha => by
          rcases List.mem_append.mp ha with h | h
          · exact List.mem_append_left _ ((oa_set σ env i _ _ a h).elim id fun ⟨_, o, e⟩ => nomatch e)
          · exact List.mem_append_right _ h
        obtain ⟨R1, s1⟩ := R.wr i (some v) (.val x) rfl ⟨v, rfl, hx.mono s3⟩
        obtain ⟨h1, h2⟩ := par_of is rs vs (fun q hq => hf q (List.mem_cons_of_mem _ hq)) R1 (os.mono s1) e'
        exact ⟨h1, congrArg (· + 1) h2⟩
      unfold parSet at e
      cases r with
      | v x => exact key x o e
      | bo k u => cases e
      | fr u => cases u with
        | lst xs =>
          obtain ⟨p, rfl, ws, h1, h2⟩ := o
          exact key (.d (.list xs)) (.lst h1 h2) e
        | _ => cases e
theorem par2_imp {ms : Env → M (List RV)} {i j : Nat} (h : tS K (fun env => cat (ms env) env fun rs => match parSet [(i, false), (j, false)] rs env with
    | some env' => ret (.nx env')
    | none => stk) W D0 σ H) : tPar i j (tAr K ms W) D0 σ H := by
  obtain ⟨B, env, tp, t, R, w⟩ := h
  refine catA R w fun rs t1 vs H1 R1 os w1 => ?_
  split at w1 <;> first | exact wpf_stk w1 | skip
  rename_i env' e
  obtain ⟨R2, hl⟩ := par_of _ _ _ (by simp) R1 os e
  match vs, hl with
  | [v, w], _ => exact ⟨v, w, rfl, w1 _ _ R2⟩
theorem par3_imp {ms : Env → M (List RV)} {i j l : Nat} (h : tS K (fun env => cat (ms env) env fun rs => match parSet [(i, false), (j, false), (l, false)] rs env with
    | some env' => ret (.nx env')
    | none => stk) W D0 σ H) : tPar3 i j l (tAr K ms W) D0 σ H := by
  obtain ⟨B, env, tp, t, R, w⟩ := h
  refine catA R w fun rs t1 vs H1 R1 os w1 => ?_
  split at w1 <;> first | exact wpf_stk w1 | skip
  rename_i env' e
  obtain ⟨R2, hl⟩ := par_of _ _ _ (by simp) R1 os e
  match vs, hl with
  | [u, v, w], _ => exact ⟨u, v, w, rfl, w1 _ _ R2⟩
/-! literals -/
def tLits : List (Option Int) → TA
  | [] => tNil
  | none :: os => tCons (tLst tNil) (tLits os)
  | some n :: os => tCons (tC (.int n)) (tLits os)
inductive LitM : List (Option Int) → List V → Tp → Prop
  | nil : LitM [] [] []
  | lst {os : List (Option Int)} {vs : List V} {tq : Tp} {p : Addr} : LitM os vs tq → LitM (none :: os) (.ref p :: vs) ((p, .lst []) :: tq)
  | int {os : List (Option Int)} {vs : List V} {tq : Tp} {n : Int} : LitM os vs tq → LitM (some n :: os) (.int n :: vs) tq
theorem Rl.perm {tq : Tp} (R : Rl K B σ env tp H) (p : tp.Perm tq) : Rl K B σ env tq H := by
  have pa : (oa σ env ++ ad tp).Perm (oa σ env ++ ad tq) := List.Perm.append_left _ (p.map _)
  have e : hide (oa σ env ++ ad tp) H = hide (oa σ env ++ ad tq) H := hide_eq fun a => pa.mem_iff
  exact ⟨by rw [← e]; exact R.le, by rw [← e]; exact R.sl, pa.nodup_iff.mp R.nd, fun q hq => R.tk q (p.mem_iff.mpr hq)⟩
theorem lits_run : ∀ (os : List (Option Int)) (tp : Tp) (H : Hp) (Q : List V → Hp → Prop), Rl K B σ env tp H → (∀ vs tq H', Rl K B σ env (tq ++ tp) H' → LitM os vs tq → Q vs H') → tLits os σ H Q
  | [], tp, H, Q, R, q => q [] [] H R .nil
  | none :: os, tp, H, Q, R, q => ⟨Nat.zero_le _, fun p hp => lits_run os ((p, .lst []) :: tp) _ _ (R.allocO hp).2 fun vs tq H' R' m => q _ _ _ (R'.perm (by simpa using List.perm_middle)) (.lst m)⟩
  | some n :: os, tp, H, Q, R, q => lits_run os tp H _ R fun vs tq H' R' m => q _ _ _ R' (.int m)
def parW : List Nat → List V → L2.St → L2.St
  | i :: is, v :: vs, σ => parW is vs (σ.set i (some v))
  | _, _, σ => σ
theorem litSet_of : ∀ (is : List Nat) (os : List (Option Int)) (vs : List V) (tq : Tp) {σ : L2.St} {env : Env}, is.length = os.length → Rl K B σ env (tq ++ tp) H → LitM os vs tq → Rl K B (parW is vs σ) (litSet (is.zip os) env) tp H ∧ vs.length = is.length
  | [], [], _, _, _, _, _, R, m => by cases m; exact ⟨R, rfl⟩
  | [], _ :: _, _, _, _, _, h, _, _ => by simp at h
  | _ :: _, [], _, _, _, _, h, _, _ => by simp at h
  | i :: is, none :: os, _, _, σ, env, h, R, m => by
    cases m with
    | @lst _ vs tq p m =>
    have R' : Rl K B σ env ((p, .lst []) :: (tq ++ tp)) H := R
    have R1 := R'.wrO i (o := .lst []) ⟨[], R'.tk (p, .lst []) List.mem_cons_self, .nil⟩
    obtain ⟨h1, h2⟩ := litSet_of is os _ _ (by simpa using h) R1 m
    exact ⟨h1, congrArg (· + 1) h2⟩
  | i :: is, some n :: os, _, _, σ, env, h, R, m => by
    cases m with
    | int m =>
    have R1 := (R.wr i (some (.int n)) (.val (.d (.int n))) rfl ⟨_, rfl, .int n⟩).1
    obtain ⟨h1, h2⟩ := litSet_of is os _ _ (by simpa using h) R1 m
    exact ⟨h1, congrArg (· + 1) h2⟩
theorem parL2_imp {i j : Nat} {os : List (Option Int)} (ho : os.length = 2) (h : tS K (fun env => ret (.nx (litSet ([i, j].zip os) env))) W D0 σ H) : tPar i j (tLits os) D0 σ H := by
  obtain ⟨B, env, tp, t, R, w⟩ := h
  refine lits_run os tp H _ R fun vs tq H' R' m => ?_
  obtain ⟨R2, hl⟩ := litSet_of [i, j] os vs tq (by simpa using ho.symm) R' m
  match vs, hl with
  | [v, w'], _ => exact ⟨v, w', rfl, w _ _ R2⟩
theorem parL3_imp {i j l : Nat} {os : List (Option Int)} (ho : os.length = 3) (h : tS K (fun env => ret (.nx (litSet ([i, j, l].zip os) env))) W D0 σ H) : tPar3 i j l (tLits os) D0 σ H := by
  obtain ⟨B, env, tp, t, R, w⟩ := h
  refine lits_run os tp H _ R fun vs tq H' R' m => ?_
  obtain ⟨R2, hl⟩ := litSet_of [i, j, l] os vs tq (by simpa using ho.symm) R' m
  match vs, hl with
  | [u, v, w'], _ => exact ⟨u, v, w', rfl, w _ _ R2⟩
theorem litE_star {e : Expr} {o : Option Int} (h : litE e = some o) : isStarE e = false := by
  unfold litE at h
  split at h <;> first | rfl | (cases h; done)
theorem pa_lits : ∀ {es : List Expr} {os : List (Option Int)}, litEs es = some os → PA X es (tLits os) ∧ (es.all fun e => !isStarE e) = true ∧ os.length = es.length
  | [], os, h => by cases h; exact ⟨pa_nil, rfl, rfl⟩
  | e :: es, os, h => by
    unfold litEs at h
    split at h <;> first | (cases h; done) | skip
    rename_i o os' e1 e2
    cases h
    obtain ⟨h1, h2, h3⟩ := pa_lits e2
    have hs := litE_star e1
    refine ⟨?_, by rw [List.all_cons, hs, h2]; rfl, congrArg (· + 1) h3⟩
    unfold litE at e1
    split at e1 <;> first | (cases e1; done) | skip
    · cases e1
      exact pa_cons (pe_lst pa_nil) h1 (star_cons hs)
    · cases e1
      exact pa_cons pe_int h1 (star_cons hs)
/-- return -/
def retR : RV → RV
  | .bo _ o => .fr o
  | r => r
theorem ret_post {r : RV} {v : V} (P : PostE K B σ env tp r v H) : PostC K B tp (retR r) v H := by
  cases r with
  | v x =>
    obtain ⟨R, q⟩ := P
    have s : Same (fz σ env tp H) (hide (ad tp) H) := hide_sub fun a ha => List.mem_append_right _ ha
    exact ⟨R.tk, R.le.trans s, VvR.mono s q⟩
  | fr o =>
    obtain ⟨p, u, rfl, R, q⟩ := P
    have n := List.nodup_cons.mp ((List.perm_middle (l₁ := oa σ env) (a := p) (l₂ := ad tp)).nodup_iff.mp R.nd)
    have s : Same (fz σ env ((p, u) :: tp) H) (hide (p :: ad tp) H) := hide_sub fun a ha => List.mem_append_right _ ha
    exact ⟨fun q hq => R.tk q (List.mem_cons_of_mem _ hq), p, u, rfl, R.tk (p, u) List.mem_cons_self, fun z => n.1 (List.mem_append_right _ z), R.le.trans s, q.mono s rfl⟩
  | bo i o =>
    obtain ⟨R, h1, h2⟩ := P
    obtain ⟨y, e1, p, e2, q⟩ := R.sl.get h2
    rw [h1] at e1
    cases e1
    cases e2
    have nd := List.nodup_append.mp R.nd
    obtain ⟨u, hu⟩ := q.tracked
    have pm := oa_mem h1 h2
    have s : Same (fz σ env tp H) (hide (p :: ad tp) H) := hide_sub fun a ha => by
      rcases List.mem_cons.mp ha with rfl | h
      · exact List.mem_append_left _ pm
      · exact List.mem_append_right _ h
    exact ⟨R.tk, p, u, rfl, hu, fun z => nd.2.2 p pm p z rfl, R.le.trans s, q.mono s rfl⟩
theorem PostC.down {B' : Hp} {r : RV} {v : V} (P : PostC K B tp r v H) (s : Same B' B) : PostC K B' tp r v H := by
  obtain ⟨k, P⟩ := P
  cases r with
  | v x => exact ⟨k, s.trans P.1, P.2⟩
  | fr o => obtain ⟨p, u, e, h1, h2, h3, h4⟩ := P; exact ⟨k, p, u, e, h1, h2, s.trans h3, h4⟩
  | bo i o => exact P.elim
theorem ret_imp {m : Env → M RV} (h : tS K (fun env => cat (m env) env fun r => ret (.rt (match r with
    | .bo _ o => .fr o
    | r => r))) W D0 σ H) : tRet (tE K m W) D0 σ H := by
  obtain ⟨B, env, tp, t, R, w⟩ := h
  refine catE R w fun r t1 v H1 P w1 => ?_
  have w1 : ∀ v H, PostC K B tp (match r with
    | .bo _ o => .fr o
    | r => r) v H → D0.rt v H := w1
  refine w1 v H1 ?_
  have q := ret_post P
  cases r <;> exact q
theorem retN_imp (h : tS K (fun _ => ret (.rt (rd .none))) W D0 σ H) : tRetN D0 σ H := by
  obtain ⟨B, env, tp, t, R, w⟩ := h
  have w : ∀ v H, PostC K B tp (rd .none) v H → D0.rt v H := w
  exact w _ _ (ret_post (r := rd .none) (post_d R .non))
theorem exp_imp {m : Env → M RV} (h : tS K (fun env => cat (m env) env fun _ => ret (.nx env)) W D0 σ H) : tDrop (tE K m W) D0 σ H := by
  obtain ⟨B, env, tp, t, R, w⟩ := h
  refine catE R w fun r t1 v H1 P w1 => ?_
  exact w1 _ _ P.opd.1
theorem frz_imp {is : Str → Str → Bool} {Φ : Str → List Vv → M RV} {i : Nat} {s : Pv.S} (h : tS K (ex Φ is (.frz i s)) W D0 σ H) : tS K (ex Φ is s) W D0 σ H := by
  obtain ⟨B, env, tp, t, R, w⟩ := h
  have w : wpf K B tp W D0 (match env[i]? with
    | some (.own (.lst xs)) => ex Φ is s (env.set i (.val (.d (.list xs))))
    | _ => stk) t := w
  split at w
  · rename_i xs e
    obtain ⟨x, e1, q⟩ := R.sl.get e
    obtain ⟨p, e2, _⟩ := q
    subst e2
    exact ⟨B, _, tp, t, (R.fzSlot e1 e).1, w⟩
  · exact (wpm_stk w)
theorem frzs_imp {is : Str → Str → Bool} {Φ : Str → List Vv → M RV} {s : Pv.S} : ∀ l : List Nat, tS K (ex Φ is (frzs l s)) W D0 σ H → tS K (ex Φ is s) W D0 σ H
  | [], h => h
  | _ :: l, h => frzs_imp l (frz_imp h)
theorem ife_imp {mc : Env → M Bool} {ma mb : Env → M Fl} (h : tS K (fun env => cat (mc env) env fun k => if k = true then ma env else mb env) W D0 σ H) : tIfS (tT K mc W) (tS K ma W) (tS K mb W) D0 σ H := by
  obtain ⟨B, env, tp, t, R, w⟩ := h
  refine catT R w fun k t1 H1 R1 w1 => ?_
  cases k with
  | true => exact iteT ⟨B, env, tp, t1, R1, w1⟩
  | false => exact iteF ⟨B, env, tp, t1, R1, w1⟩
theorem seq_imp {ma mb : Env → M Fl} (h : tS K (fun env => seqF (ma env) mb) W D0 σ H) : tSeq (tS K ma W) (tS K mb W) D0 σ H := by
  obtain ⟨B, env, tp, t, R, w⟩ := h
  refine ⟨B, env, tp, t, R, ?_⟩
  unfold seqF at w
  rw [wpf_bnd] at w
  refine wpm_mono w (fun f t1 w1 => ?_) fun _ _ q => q
  cases f with
  | nx env1 => exact fun σ1 H1 R1 => ⟨B, env1, tp, t1, R1, w1⟩
  | rt r => exact w1
  | xc x env1 => exact w1
theorem nil_imp (h : tS K (fun env => ret (.nx env)) W D0 σ H) : tNext D0 σ H := by
  obtain ⟨B, env, tp, t, R, w⟩ := h
  exact w _ _ R
/-- while -/
theorem whl_imp {mc : Env → M Bool} {mb : Env → M Fl} {n : Nat} (h : tS K (fun env => whileF mc mb n env) W D0 σ H) : tWhile (tT K mc W) (tS K mb W) D0 σ H := by
  obtain ⟨B, env, tp, t, R, w⟩ := h
  refine ⟨fun m σ H => ∃ env t, Rl K B σ env tp H ∧ wpf K B tp W D0 (whileF mc mb m env) t, ⟨n, env, t, R, w⟩, ?_⟩
  rintro m σ H ⟨env, t, R, w⟩
  cases m with
  | zero => exact wpf_stk w
  | succ m =>
    unfold whileF at w
    refine catT R w fun b t1 H1 R1 w1 => ?_
    cases b with
    | true =>
      refine iteT ⟨fun σ H => ∃ env t, Rl K B σ env tp H ∧ wpf K B tp W D0 (whileF mc mb m env) t, fun σ' H' q => ⟨m, Nat.lt_succ_self _, q⟩, B, env, tp, t1, R1, ?_⟩
      have w1 : wpf K B tp W D0 (seqF (mb env) (whileF mc mb m)) t1 := w1
      unfold seqF at w1
      rw [wpf_bnd] at w1
      refine wpm_mono w1 (fun f t2 w2 => ?_) fun _ _ q => q
      cases f with
      | nx env1 => exact fun σ1 H1 R1 => ⟨env1, t2, R1, w2⟩
      | rt r => exact w2
      | xc x env1 => exact w2
    | false => exact iteF (w1 _ _ R1)
/-- for -/
theorem for_imp {T : Pv.T} {mi : Env → M (List D × Bool)} {mb : Env → M Fl} (h : tS K (fun env => cat (mi env) env fun p => guard (!p.2) (forL (fun x env => bnd (asgM T x env) fun env' => mb env') p.1 env)) W D0 σ H) : tFor (tI K mi W) (gT K T) (tS K mb W) D0 σ H := by
  obtain ⟨B, env, tp, t, R, w⟩ := h
  refine catI R w fun q t1 J H1 R1 hl _ sf w1 => ?_
  obtain ⟨hq, w1⟩ := wpm_guard w1
  have hq : q.2 = false := by cases z : q.2 <;> simp [z] at hq ⊢
  have S := sf hq
  refine ⟨fun i m σ' H' => m = q.1.length - i ∧ i ≤ q.1.length ∧ ∃ env' t', Rl K (fz σ env tp H1) σ' env' tp H' ∧ wpf K B tp W D0 (forL (fun x env => bnd (asgM T x env) fun env' => mb env') (q.1.drop i) env') t', ⟨_, rfl, Nat.zero_le _, env, t1, R1.base, w1⟩, ?_⟩
  rintro i m σ' H' ⟨rfl, hi, env', t', R', w'⟩
  have sF : Same (fz σ env tp H1) H' := R'.le.trans (hide_same _ _)
  by_cases hlt : i < q.1.length
  · refine .inr ⟨Walk.goes S i H' hlt sF, fun σ2 H2 => ∃ env2 t2, Rl K (fz σ env tp H1) σ2 env2 tp H2 ∧ wpf K B tp W D0 (forL (fun x env => bnd (asgM T x env) fun env' => mb env') (q.1.drop (i + 1)) env2) t2, fun σ2 H2 z => ⟨_, by omega, rfl, hlt, z⟩, fun x H2 y => ?_⟩
    obtain ⟨d, ed, hy⟩ := Walk.yields S i H' x H2 hlt sF y
    have hd : q.1.drop i = d :: q.1.drop (i + 1) := by
      obtain ⟨h1, h2⟩ := List.getElem?_eq_some_iff.mp ed
      rw [List.drop_eq_getElem_cons h1, h2]
    rw [hd] at w'
    have step : Rl K (fz σ env tp H1) σ' env' tp H2 ∧ Rep (fz σ' env' tp H2) x d := by
      rcases hy with ⟨rfl, r⟩ | ⟨Ta, us, ds, rfl, hn, rfl, rfl, r⟩
      · exact ⟨R', r.mono R'.le⟩
      · exact ⟨R'.alloc hn, .tup (R'.at_ hn) ((r.mono R'.le).mono (fz_upd hn))⟩
    obtain ⟨R2, r2⟩ := step
    have w' : wpf K B tp W D0 (seqF (bnd (asgM T d env') fun env' => mb env') (forL (fun x env => bnd (asgM T x env) fun env' => mb env') (q.1.drop (i + 1)))) t' := w'
    unfold seqF at w'
    rw [wpf_bnd, wpm_bnd] at w'
    obtain ⟨env2, e2, w'⟩ := asgM_of w'
    refine gT_any T d x σ' env' env2 _ R2 r2 e2 fun σ2 R3 _ => ?_
    refine ⟨fz σ env tp H1, env2, tp, t', R3, wpm_mono w' (fun f t2 w2 => ?_) fun _ _ q => q⟩
    cases f with
    | nx env3 => exact fun σ3 H3 R4 => ⟨env3, t2, R4, w2⟩
    | rt r => exact fun v H3 P => w2 v H3 (PostC.down P R1.le)
    | xc x env3 => exact fun σ3 H3 R4 => w2 σ3 H3 (R4.down R1.le)
  · have e : i = q.1.length := by omega
    subst e
    rw [List.drop_length] at w'
    exact .inl ⟨Walk.stops S H' sF, w' _ _ (R'.down R1.le)⟩
end
end Pv
/-! Pv19: every statement's code is sound. -/
namespace Pv
open PySem PySem.Spec PyProof.Rows L2
section
variable {X : Cx} {S : SC} {W : WN} {G : GS} {ca : Str → Addr} {Φ : Str → List Vv → M RV} {is : Str → Str → Bool} {n : Nat}
theorem Gd.tr (D : Gd Φ G ca X) {pn : List (Addr × Obj)} {xe : Value → Shared → Prop} : Gd Φ G ca (X.tr pn xe) := ⟨D.calm, D.hu, D.free, D.cns, D.fns⟩
theorem Gx.tr (D : Gx G is ca X) {pn : List (Addr × Obj)} {xe : Value → Shared → Prop} : Gx G is ca (X.tr pn xe) := ⟨D.exc, D.exm⟩
theorem Bd.tr (C : Bd S X) {pn : List (Addr × Obj)} {xe : Value → Shared → Prop} (hp : PassesOwn (model X.prog X.w) X.A X.env xe) : Bd S (X.tr pn xe) := ⟨⟨C.hN, C.hS, C.nd⟩, C.fnc, hp, C.hs, C.hf, C.hk⟩
theorem ps_raiM {x m : Str} {j : Nat} {p p2 p3 pos : Pos} (D : Gd Φ G ca X) (D2 : Gx G is ca X) (tk : Takes X (wx ca W)) (hg : Gl X x) (hd : (x == ("__debug__" : Str)) = false) (he : G.exc.contains x = true) :
    PS X (.Raise (some (.Call (.Name x p) [.Constant (.str m) j p2] [] p3)) none pos) (tS X.K (fun env => ret (.xc x env)) W) := by
  obtain ⟨B, newId, initId, bmB, F, h1, h2, h3, h4⟩ := D2.exc x he
  refine ps_imp (ps_raise D.calm tk (pmk_own F h1 h2 h3 h4 hg hd)) fun D0 σ H ⟨B, env, tp, t, R, w⟩ => ?_
  exact ⟨x, rfl, rfl, w σ H R⟩
/-- the clauses' readings -/
def hTs (ca : Str → Addr) : List (Str × Nat × Str) → List (Value × (Addr → Value → Option Addr → TS))
  | [] => []
  | (x, i, z) :: r => (.ref (ca x), fun _ _ _ => tAsg (tC (.str z)) (gName i)) :: hTs ca r
theorem hds_ok (C : Bd S X) (D2 : Gx G is ca X) : ∀ {hs : List ExceptHandler} {l : List (Str × Nat × Str)}, hdOf S G.exc hs = some l → HdsOk X hs (hTs ca l) ∧ ∀ h ∈ l, G.exc.contains h.1 = true
  | [], l, h => by cases h; exact ⟨.nil, fun _ h => nomatch h⟩
  | hd :: hs, l, h => by
    unfold hdOf at h
    split at h
    · rename_i e
      cases e
    · rename_i x p y p2 z k p3 p4 p5 hs' e
      cases e
      split at h <;> first | (cases h; done) | skip
      rename_i q
      obtain ⟨q1, q2, q3⟩ := q
      split at h <;> first | (cases h; done) | skip
      rename_i i r e1 e2
      split at h <;> first | (cases h; done) | skip
      cases h
      obtain ⟨g1, g2⟩ := hds_ok C D2 e2
      obtain ⟨B, newId, initId, bmB, F, h1, h2, h3, h4⟩ := D2.exc x q2
      refine ⟨.cons ⟨C.toCn.gl q1, (gl_of q1).2, .inl h2⟩ (fun a oe cls d pn _ _ => ?_) g1, fun h hh => ?_⟩
      · exact pss_one (ps_set (X := X.suite a ((a, oe) :: pn)) C.hN' (by show X.N[i]? = some y; rw [C.hN]; exact idx_get e1) (C.loc q3) pe_str (by rfl) (C.fn q3))
      · rcases List.mem_cons.mp hh with rfl | hh
        · exact q2
        · exact g2 h hh
    · cases h
theorem find_try {x : Str} {env : Env} {K : PySem.W.Frag} {B H : Hp} {σ : L2.St} {tp : Tp} {D0 : Ends} (hm : ∀ y, G.exc.contains y = true → PySem.W.exmOne K (.ref (ca x)) (.ref (ca y)) = some (is x y)) (R : Rl K B σ env tp H) : ∀ (l : List (Str × Nat × Str)), (∀ h ∈ l, G.exc.contains h.1 = true) → EndF K B tp W D0 (catchH l is x env) → wMany K (wx ca W) D0 (hTs ca l) (.ref (ca x)) none σ H
  | [], _, q => ⟨x, rfl, rfl, q σ H R⟩
  | (y, i, z) :: l, hl, q => by
    refine ⟨is x y, hm y (hl _ List.mem_cons_self), fun hb a ha => ?_, fun hb => ?_⟩
    · unfold catchH at q
      rw [List.find?_cons_of_pos (by exact hb)] at q
      have q : ∀ σ H, Rl K B σ (env.set i (.val (.d (.str z)))) tp H → D0.nx σ H := q
      show D0.nx (σ.set i (some (.str z))) H
      exact q _ _ (R.wr i (some (.str z)) (.val (.d (.str z))) rfl ⟨_, rfl, .str _⟩).1
    · refine find_try hm R l (fun h hh => hl h (List.mem_cons_of_mem _ hh)) ?_
      unfold catchH at q ⊢
      rw [List.find?_cons_of_neg (by rw [hb]; decide)] at q
      exact q
theorem ps_tryM {b : List Stmt} {hs : List ExceptHandler} {l : List (Str × Nat × Str)} {pos : Pos} {mb : Env → M Fl} (C : Bd S X) (D2 : Gx G is ca X) (tk : Takes X (wx ca W)) (h : hdOf S G.exc hs = some l) (hne : l.isEmpty = false)
    (hb : ∀ (W : WN) (pn : List (Addr × Obj)) (xe : Value → Shared → Prop), Takes (X.tr pn xe) (wx ca W) → PassesOwn (model X.prog X.w) X.A X.env xe → PSs (X.tr pn xe) b (tS X.K mb W)) :
    PS X (.Try b hs [] [] pos) (tS X.K (fun env => tryM (mb env) l is) W) := by
  obtain ⟨h1, h2⟩ := hds_ok C D2 h
  cases hs with
  | nil => cases h; cases hne
  | cons h0 hs =>
    refine ps_imp (ps_try_many (tb := fun W' => tS X.K mb fun x σ H => W' (.ref (ca x)) none σ H) C.hs C.hf tk (fun W' pn xe tk' hp => ?_) h1) fun D0 σ H ⟨B, env, tp, t, R, w⟩ => ?_
    · refine hb _ pn xe (tk'.imp fun c d σ H q => ?_) hp
      obtain ⟨x, rfl, rfl, q⟩ := q
      exact q
    · refine ⟨B, env, tp, t, R, ?_⟩
      unfold tryM at w
      rw [wpf_bnd] at w
      refine wpm_mono w (fun f t1 w1 => ?_) fun _ _ q => q
      cases f with
      | nx env1 => exact w1
      | rt r => exact w1
      | xc x env1 =>
        obtain ⟨hz, w1⟩ := wpm_guard w1
        exact fun σ1 H1 R1 => find_try (fun y hy => D2.exm x y hz hy) R1 l h2 w1
/-! ### assignments of values -/
theorem far_sw {x : Str} {px : Pos} {e : Expr} {l : Nat} (C : Bd S X) (h : lcFar x px S.sc e = true) : swapsWith e (some (.Name x px)) l X.env = pure false := by
  cases e <;> first | rfl | (simp [lcFar] at h; done) | skip
  rename_i elt gs scope pos
  unfold lcFar at h
  unfold swapsWith
  show (pure _ : Sem Bool) = pure false
  congr 1
  show (X.env.blockKind == .function && X.env.scope.names.lookup x == some .local && px.line == pos.line && !(scope.names.any fun (n, k) => n == x && (k == .local || k == .cell))) = false
  rw [C.hS]
  simp only [Bool.or_eq_true, Bool.not_eq_true', decide_eq_false_iff_not] at h
  rcases h with (h | h) | h
  · have : (List.lookup x S.sc.names == some NameKind.local) = false := by
      cases q : (List.lookup x S.sc.names == some NameKind.local) with
      | false => rfl
      | true => exact absurd (by simpa using q) h
    rw [this]
    simp
  · rw [h]; simp
  · rw [h]; simp

theorem lc_imp {K : PySem.W.Frag} {T : Pv.T} {mi : Env → M (List D × Bool)} {me : Env → M RV} {mc : Option (Env → M Bool)} {vs : List Nat} (hv : ∀ i ∈ tN T, i ∈ vs) {σ : L2.St} {H : Hp} {Q : VK}
    (q : tE K (fun env => bnd (mi env) fun p => guard (wipeOk env vs) (bnd (lcL (lcF T me mc env vs) p.1) fun ys => ret (.fr (.lst ys)))) W σ H Q) : tLc (tI K mi W) (gT K T) (tTo K mc) (tE K me WF) vs σ H Q := by
  obtain ⟨B, env, tp, t, R, w⟩ := q
  rw [wpm_bnd] at w
  refine ⟨B, env, tp, t, R, wpm_mono w (fun p t1 w1 J H1 R1 hl sb _ Da hD => ?_) fun _ _ q => q⟩
  obtain ⟨hz, w1⟩ := wpm_guard w1
  rw [wpm_bnd] at w1
  exact lc_run R1 hv hz sb hl w1 Da hD
theorem ps_lcSet (P : SndE Φ G ca n) (C : Bd S X) (D : Gd Φ G ca X) (tk : Takes X (wx ca W)) {x : Str} {px p pos : Pos} {i : Nat} {elt : Expr} {gs : List Comprehension} {scope : Scope} {c : E} (hi : idx x S.N = some i) (hl : lcLine x px S.sc (.ListComp elt gs scope p) = true) (h : compE G S (n + 1) (.ListComp elt gs scope p) = some c) :
    PS X (.Assign [.Name x px] (.ListComp elt gs scope p) pos) (tAsg (tE X.K (ev Φ c) W) (gName i)) := by
  have nif : ∀ {a : Expr}, ¬ isIfE a = true → isIfE a = false := fun {a} h => by cases q : isIfE a <;> simp [q] at h ⊢
  unfold lcLine at hl
  simp only [Bool.and_eq_true, decide_eq_true_eq, Bool.not_eq_true'] at hl
  obtain ⟨⟨l1, l2⟩, l3⟩ := hl
  have l1' : X.env.scope.names.lookup x = some .local := by rw [C.hS]; exact l1
  have hNi : X.N[i]? = some x := by rw [C.hN]; exact idx_get hi
  have hsw : swapsWith (.ListComp elt gs scope p) (some (.Name x px)) pos.line X.env = pure true := sw_true C.hk l1' l2 l3
  unfold compE at h
  split at h
  all_goals (rename_i q; first | (cases q; done) | skip)
  · cases q
    split at h
    · rename_i own ho
      split at h
      · rename_i hb
        rw [Bool.and_eq_true] at hb
        split at h <;> first | (cases h; done) | skip
        rename_i t i x e1 e2 e3
        split at h
        · cases h
        rename_i hnt
        have hnt : needsTup i = true → isTupE _ = true := fun q => by
          cases q' : isTupE _ with
          | true => rfl
          | false => exact absurd (by rw [q, q']; rfl) hnt
        obtain ⟨hi, hs⟩ := P.i C.toCn D tk _ _ i e2 hnt
        have hv : ∀ j ∈ tN t, j ∈ own.map (·.2) := tN_own (S := S.blk scope) _ t e1 (ownL_spec ho)
        have ok : BlkOk X.N X.env.scope scope own := by rw [C.hN, C.hS]; exact blkOk_by hb.1
        have hg : ∀ (s : Shared) (H : Hp) (Ca : Addr) (cl : List (Str × Addr)) (fp : List Addr), PG (X.blk s H scope (compEnvC scope cl Ca X.env) fp) _ (gT X.K t) := fun s H Ca cl fp => pg_T C.toCn.blk D.calm _ t e1 fun z hz => by
          have q := List.all_eq_true.mp hb.2 z hz
          rcases loc_of q with q | q
          · refine .inr ?_
            show (relS scope X.env.scope).names.lookup z = some .local
            exact lookup_relS_keep (by decide) q
          · refine .inl ?_
            show (scope.names.lookup z == some .cell) = true
            rw [q]; rfl
        have he : ∀ (s : Shared) (H : Hp) (Ca : Addr) (cl : List (Str × Addr)) (fp : List Addr), PE (X.blk s H scope (compEnvC scope cl Ca X.env) fp) _ (tE X.K (ev Φ x) WF) := fun s H Ca cl fp => P.e C.toCn.blk D.blk blk_takes _ x e3
        split at h
        · cases h
          exact ps_imp (ps_setLc D.calm C.hN' hNi l1' hsw hi ok hg (fun s H Ca cl fp => pts_nil) he (fold_set hs _)) fun D0 σ H q => lc_imp (mc := none) hv q
        · rename_i c1
          split at h
          · cases h
          rename_i hif
          obtain ⟨y, hy, rfl⟩ := Option.map_eq_some_iff.mp h
          exact ps_imp (ps_setLc D.calm C.hN' hNi l1' hsw hi ok hg (fun s H Ca cl fp => pts_one (P.t C.toCn.blk D.blk blk_takes c1 y (nif hif) hy)) he (fold_set hs _)) fun D0 σ H q => lc_imp (mc := some fun env => bnd (ev Φ y env) truR) hv q
        · cases h
      · cases h
    · cases h
  · cases h
theorem ps_setM (P : SndE Φ G ca n) (P' : ∀ m, n = m + 1 → SndE Φ G ca m) (C : Bd S X) (D : Gd Φ G ca X) (tk : Takes X (wx ca W)) {x : Str} {px pos : Pos} {i : Nat} {e : Expr} {c : E} (hl : locB S.sc x = true) (hi : idx x S.N = some i) (hf : (lcFar x px S.sc e || lcLine x px S.sc e) = true) (h : compE G S n e = some c) :
    PS X (.Assign [.Name x px] e pos) (tAsg (tE X.K (ev Φ c) W) (gName i)) := by
  rcases Bool.or_eq_true_iff.mp hf with hf | hf
  · exact ps_set C.hN' (by rw [C.hN]; exact idx_get hi) (C.loc hl) (P.e C.toCn D tk e c h) (far_sw C hf) (C.fn hl)
  · cases n with
    | zero => cases h
    | succ m =>
      cases e <;> first | (cases hf; done) | skip
      exact ps_lcSet (P' m rfl) C D tk hi hf h
theorem sole_tup {ts : List Expr} {k : Nat} {p : Pos} {e : Expr} {l : Nat} {env : PySem.Env} : swapsWithSole [.Tuple ts k p] e l env = pure false := by
  cases e <;> rfl
theorem sole_sub {a b : Expr} {p : Pos} {e : Expr} {l : Nat} {env : PySem.Env} : swapsWithSole [.Subscript a b p] e l env = pure false := by
  cases e <;> rfl
theorem sole_name {x : Str} {px : Pos} {e : Expr} {l : Nat} {env : PySem.Env} (h : swapsWith e (some (.Name x px)) l env = pure false) : swapsWithSole [.Name x px] e l env = pure false := h
theorem parN_spec {sc : Scope} {line : Nat} {env : PySem.Env} (he : env.scope = sc) (hk : sc.kind = .function) : ∀ {ts : List Expr} {ns : List Str}, parNames sc line ts = some ns → (ts.filterMap fun
    | .Name id pos => if (env.kindOf id == some .local && pos.line == line) = true then some id else none
    | _ => none) = ns ∧ ns.length = ts.length
  | [], ns, h => by cases h; exact ⟨rfl, rfl⟩
  | t :: ts, ns, h => by
    unfold parNames at h
    split at h
    · rename_i q; cases q
    · rename_i x p es q
      cases q
      split at h <;> first | (cases h; done) | skip
      rename_i z
      obtain ⟨ns', h', rfl⟩ := Option.map_eq_some_iff.mp h
      obtain ⟨g1, g2⟩ := parN_spec he hk h'
      refine ⟨?_, congrArg (· + 1) g2⟩
      have ky : (env.kindOf x == some .local && p.line == line) = true := by
        show (env.scope.names.lookup x == some .local && p.line == line) = true
        rw [he, z.1, z.2]; rfl
      rw [List.filterMap_cons]
      simp only [ky, if_true, g1]
    · cases h

theorem star_any {vs : List Expr} (h : (vs.all fun e => !isStarE e) = true) : (vs.any fun | .Starred .. => true | _ => false) = false := by
  induction vs with
  | nil => rfl
  | cons v vs ih =>
    rw [List.all_cons, Bool.and_eq_true] at h
    rw [List.any_cons, ih h.2, Bool.or_false]
    cases v <;> first | rfl | (simp [isStarE] at h)
theorem sw_some {ts vs : List Expr} {k k2 : Nat} {pt pt2 : Pos} {ns : List Str} (C : Bd S X) (h : swOf S.sc ts vs = some ns) (nv : (vs.all fun e => !isStarE e) = true) :
    swappedStores [.Tuple ts k pt] (.Tuple vs k2 pt2) X.env = pure (some ns) ∧ parNames S.sc ((ts.head?.map (·.pos.line)).getD 0) ts = some ns ∧ ns.length = ts.length ∧ (ts.length = 2 ∨ ts.length = 3) ∧ vs.length = ts.length ∧ ns.eraseDups.length = ns.length := by
  unfold swOf at h
  split at h <;> first | (cases h; done) | skip
  rename_i h1
  split at h <;> first | (cases h; done) | skip
  rename_i ns' h2
  split at h <;> first | (cases h; done) | skip
  rename_i h3
  split at h <;> first | (cases h; done) | skip
  rename_i h4
  split at h <;> first | (cases h; done) | skip
  rename_i h5
  cases h
  have hk' : S.sc.kind = .function := by rw [← C.hS]; exact C.hk
  obtain ⟨g1, g2⟩ := parN_spec C.hS hk' h2
  have hb : X.env.blockKind = .function := by unfold PySem.Env.blockKind; rw [C.hk]; rfl
  have a1 : (!(ts.length == 2 || ts.length == 3) || vs.length != ts.length || X.env.blockKind != .function) = false := by
    rw [hb]
    cases q : (!(ts.length == 2 || ts.length == 3) || vs.length != ts.length) with
    | true => exact absurd q h1
    | false => rfl
  have h1' : (!(ts.length == 2 || ts.length == 3) || vs.length != ts.length) = false := by
    cases q : (!(ts.length == 2 || ts.length == 3) || vs.length != ts.length) with
    | true => exact absurd q h1
    | false => rfl
  simp only [Bool.or_eq_false_iff, Bool.not_eq_false', Bool.or_eq_true, beq_iff_eq, bne_eq_false_iff_eq] at h1'
  have h3' : (ns.eraseDups.length != ns.length) = false := by
    cases q : (ns.eraseDups.length != ns.length) with
    | true => exact absurd q h3
    | false => rfl
  have a3 : (ns.length != ts.length || ns.eraseDups.length != ns.length) = false := by
    rw [h3', g2]; simp
  refine ⟨?_, h2, g2, h1'.1, h1'.2, by simpa using h3'⟩
  have a3' := a3
  rw [← g1] at a3'
  unfold swappedStores
  refine (if_neg (fun z => Bool.false_ne_true (a1.symm.trans z))).trans ?_
  refine (if_neg (fun z => Bool.false_ne_true ((star_any nv).symm.trans z))).trans ?_
  refine (if_neg (fun z => Bool.false_ne_true (a3'.symm.trans z))).trans ?_
  refine (if_neg h4).trans ?_
  refine (if_neg h5).trans ?_
  exact congrArg (fun q => (pure (some q) : Sem (Option (List Str)))) g1
theorem parN_less {sc : Scope} {line : Nat} {env : PySem.Env} (he : env.scope = sc) : ∀ {ts : List Expr}, parNames sc line ts = none → (ts.filterMap fun
    | .Name id pos => if (env.kindOf id == some .local && pos.line == line) = true then some id else none
    | _ => none).length < ts.length
  | [], h => by cases h
  | t :: ts, h => by
    rw [List.filterMap_cons]
    have le : ∀ l : List Expr, (l.filterMap fun
      | .Name id pos => if (env.kindOf id == some .local && pos.line == line) = true then some id else none
      | _ => none).length ≤ l.length := fun l => List.length_filterMap_le _ _
    cases t with
    | Name x p =>
      unfold parNames at h
      split at h
      · rename_i z
        have ky : (env.kindOf x == some .local && p.line == line) = true := by
          show (env.scope.names.lookup x == some .local && p.line == line) = true
          rw [he, z.1, z.2]; rfl
        have h' : parNames sc line ts = none := by
          cases q : parNames sc line ts with
          | none => rfl
          | some v => rw [q] at h; cases h
        simp only [ky, if_true]
        exact Nat.succ_lt_succ (parN_less he h')
      · rename_i z
        have ky : (env.kindOf x == some .local && p.line == line) = false := by
          show (env.scope.names.lookup x == some .local && p.line == line) = false
          rw [he]
          cases q : (List.lookup x sc.names == some NameKind.local && p.line == line) with
          | false => rfl
          | true => exact absurd (by simpa using q) (by simpa using z)
        simp only [ky]
        exact Nat.lt_succ_of_le (le ts)
    | _ => exact Nat.lt_succ_of_le (le ts)
theorem sw_none {ts vs : List Expr} {k k2 : Nat} {pt pt2 : Pos} (C : Bd S X) (h : noSw S.sc ts vs = true) (nv : (vs.all fun e => !isStarE e) = true) : swappedStores [.Tuple ts k pt] (.Tuple vs k2 pt2) X.env = pure none := by
  unfold noSw at h
  by_cases h1 : (!(ts.length == 2 || ts.length == 3) || vs.length != ts.length || X.env.blockKind != .function) = true
  · unfold swappedStores
    exact if_pos h1
  · have h1' : ¬ (!(ts.length == 2 || ts.length == 3) || vs.length != ts.length) = true := fun z => h1 (by rw [z]; rfl)
    rw [if_neg h1'] at h
    have hk' : S.sc.kind = .function := by rw [← C.hS]; exact C.hk
    unfold swappedStores
    refine (if_neg h1).trans ?_
    refine (if_neg (fun z => Bool.false_ne_true ((star_any nv).symm.trans z))).trans ?_
    split at h
    · rename_i ns h2
      obtain ⟨g1, g2⟩ := parN_spec C.hS hk' h2
      rcases Bool.or_eq_true_iff.mp h with h | h
      · refine if_pos ?_
        have a3 : (ns.length != ts.length || ns.eraseDups.length != ns.length) = true := by rw [h, Bool.or_true]
        rw [← g1] at a3
        exact a3
      · by_cases h3 : (ns.length != ts.length || ns.eraseDups.length != ns.length) = true
        · rw [← g1] at h3
          exact if_pos h3
        · rw [← g1] at h3
          refine (if_neg h3).trans (if_pos h)
    · rename_i h2
      refine if_pos ?_
      have key := parN_less C.hS h2
      exact Bool.or_eq_true_iff.mpr (.inl (bne_iff_ne.mpr (Nat.ne_of_lt key)))
theorem sw_non {ts : List Expr} {e : Expr} {k : Nat} {pt : Pos} {env : PySem.Env} (h : isTupE e = false) : swappedStores [.Tuple ts k pt] e env = pure none := by
  cases e <;> first | rfl | (simp [isTupE] at h)
end
end Pv
/-! Pv20: statements of any depth; defs. -/
namespace Pv
open PySem PySem.Spec PyProof.Rows L2
structure SndS (Φ : Str → List Vv → M RV) (G : GS) (is : Str → Str → Bool) (ca : Str → Addr) (n : Nat) : Prop where
  s : ∀ {X : Cx} {S : SC} {W : WN}, Bd S X → Gd Φ G ca X → Gx G is ca X → Takes X (wx ca W) → ∀ (st : Stmt) (c : Pv.S), compS G S n st = some c → PS X st (tS X.K (ex Φ is c) W)
  b : ∀ {X : Cx} {S : SC} {W : WN}, Bd S X → Gd Φ G ca X → Gx G is ca X → Takes X (wx ca W) → ∀ (sts : List Stmt) (c : List Pv.S), compB' G S n sts = some c → PSs X sts (tS X.K (exB Φ is c) W)
section
variable {X : Cx} {S : SC} {W : WN} {G : GS} {ca : Str → Addr} {Φ : Str → List Vv → M RV} {is : Str → Str → Bool} {n : Nat}
theorem ownV_of {x : Str} {i : Nat} (h : ownV S x = some i) : visB S.sc x = true ∧ idx x S.N = some i := by
  unfold ownV at h
  split at h <;> first | (cases h; done) | skip
  rename_i hv
  split at h <;> first | (cases h; done) | skip
  rename_i j hj
  split at h <;> first | (cases h; done) | skip
  cases h
  exact ⟨hv, hj⟩
theorem pe_popM {y : Str} {j : Nat} {p apos cpos : Pos} (C : Bd S X) (h : ownV S y = some j) (hl : (apos.endLine == cpos.line) = true) : PE X (.Call (.Attribute (.Name y p) "pop" apos) [] [] cpos) (tBM0 X.K "list" rPop (tOwn j)) := by
  obtain ⟨h1, h2⟩ := ownV_of h
  exact pe_bm0 PySem.F.plainAttrs_list PySem.F.slot_list_pop PySem.F.type_list_pop mt_pop (pe_own C h1 h2) (by rfl) hl
theorem pe_popkM {y : Str} {j : Nat} {p apos cpos : Pos} {k : Expr} {mk : Env → M RV} (C : Bd S X) (h : ownV S y = some j) (hl : (apos.endLine == cpos.line) = true) (hk : PE X k (tE X.K mk W)) (na : isStarE k = false) :
    PE X (.Call (.Attribute (.Name y p) "pop" apos) [k] [] cpos) (tBM X.K "list" rPopAt (tOwn j) (tCons (tE X.K mk W) tNil)) := by
  obtain ⟨h1, h2⟩ := ownV_of h
  exact pe_bm PySem.F.plainAttrs_list PySem.F.slot_list_pop PySem.F.type_list_pop mt_popAt (pe_own C h1 h2) (pa_cons hk pa_nil (star_cons na)) (by rfl) (by rw [star_cons na]; rfl) hl (star_cons na) (by rfl)
theorem popOf_none {e : Expr} {j : Nat} (h : popOf S e = some (j, none)) : ∃ y p apos cpos, e = .Call (.Attribute (.Name y p) "pop" apos) [] [] cpos ∧ ownV S y = some j ∧ (apos.endLine == cpos.line) = true := by
  unfold popOf at h
  split at h
  · split at h <;> first | (cases h; done) | skip
    rename_i z
    obtain ⟨rfl, z⟩ := z
    obtain ⟨j', hj, e⟩ := Option.map_eq_some_iff.mp h
    cases e
    exact ⟨_, _, _, _, rfl, hj, z⟩
  · split at h <;> first | (cases h; done) | skip
    obtain ⟨j', hj, e⟩ := Option.map_eq_some_iff.mp h
    cases e
  · cases h
theorem popOf_some {e k : Expr} {j : Nat} (h : popOf S e = some (j, some k)) : ∃ y p apos cpos, e = .Call (.Attribute (.Name y p) "pop" apos) [k] [] cpos ∧ ownV S y = some j ∧ (apos.endLine == cpos.line) = true ∧ isStarE k = false := by
  unfold popOf at h
  split at h
  · split at h <;> first | (cases h; done) | skip
    obtain ⟨j', hj, e⟩ := Option.map_eq_some_iff.mp h
    cases e
  · split at h <;> first | (cases h; done) | skip
    rename_i z
    obtain ⟨rfl, z, z2⟩ := z
    obtain ⟨j', hj, e⟩ := Option.map_eq_some_iff.mp h
    cases e
    exact ⟨_, _, _, _, rfl, hj, z, z2⟩
  · cases h
theorem compT_nm {t : Pv.T} {ts : List Expr} {k : Nat} {p : Pos} (h : compT S (.Tuple ts k p) = some t) : ∀ i, t ≠ .nm i := by
  unfold compT at h
  obtain ⟨us, _, rfl⟩ := Option.map_eq_some_iff.mp h
  intro i e
  cases e
mutual
theorem tg_loc : ∀ (e : Expr) (t : Pv.T), compT S e = some t → ∀ x ∈ tgN e, locB S.sc x = true
  | .Name x p, t, h, y, hy => by
    unfold compT at h
    split at h <;> first | (cases h; done) | skip
    rename_i hl
    have : y = x := by simpa [tgN] using hy
    rw [this]; exact hl
  | .Tuple es k p, t, h, y, hy => by
    unfold compT at h
    obtain ⟨ts, hts, rfl⟩ := Option.map_eq_some_iff.mp h
    exact tgs_loc es ts hts y hy
  | .Constant .., _, h, _, _ => by cases h
  | .BoolOp .., _, h, _, _ => by cases h
  | .NamedExpr .., _, h, _, _ => by cases h
  | .BinOp .., _, h, _, _ => by cases h
  | .UnaryOp .., _, h, _, _ => by cases h
  | .Lambda .., _, h, _, _ => by cases h
  | .IfExp .., _, h, _, _ => by cases h
  | .Dict .., _, h, _, _ => by cases h
  | .Set .., _, h, _, _ => by cases h
  | .ListComp .., _, h, _, _ => by cases h
  | .SetComp .., _, h, _, _ => by cases h
  | .DictComp .., _, h, _, _ => by cases h
  | .GeneratorExp .., _, h, _, _ => by cases h
  | .Await .., _, h, _, _ => by cases h
  | .Yield .., _, h, _, _ => by cases h
  | .YieldFrom .., _, h, _, _ => by cases h
  | .Compare .., _, h, _, _ => by cases h
  | .Call .., _, h, _, _ => by cases h
  | .FormattedValue .., _, h, _, _ => by cases h
  | .JoinedStr .., _, h, _, _ => by cases h
  | .Attribute .., _, h, _, _ => by cases h
  | .Subscript .., _, h, _, _ => by cases h
  | .Starred .., _, h, _, _ => by cases h
  | .List .., _, h, _, _ => by cases h
  | .Slice .., _, h, _, _ => by cases h
theorem tgs_loc : ∀ (es : List Expr) (ts : List Pv.T), compTs S es = some ts → ∀ x ∈ tgNs es, locB S.sc x = true
  | [], ts, h, y, hy => by exact nomatch hy
  | e :: es, ts, h, y, hy => by
    unfold compTs at h
    split at h <;> first | (cases h; done) | skip
    rename_i t ts' e1 e2 e3
    cases h
    unfold tgNs at hy
    rcases List.mem_append.mp hy with hy | hy
    · exact tg_loc e t e2 y hy
    · exact tgs_loc es ts' e3 y hy
end
theorem pg_B (C : Bd S X) (D : Gd Φ G ca X) {e : Expr} {t : Pv.T} (h : compT S e = some t) : PG X e (gT X.K t) := pg_T C.toCn D.calm e t h fun x hx => C.fn (tg_loc e t h x hx)
theorem asg_one {e : Expr} (h : isStarE e = false) (env : PySem.Env) : (assignEach [e] env).map (·.2) = [assign e env] := by
  rw [asgEach_cons h]; rfl
theorem idxs_spec {ow : List Nat} : ∀ {N ns : List Str} {l : List (Nat × Bool)}, idxs N ow ns = some l → l.length = ns.length ∧ ∀ (k : Nat) (x : Str), ns[k]? = some x → ∃ (i : Nat) (b : Bool), l[k]? = some (i, b) ∧ idx x N = some i
  | N, [], l, h => by cases h; exact ⟨rfl, fun k x e => by simp at e⟩
  | N, y :: ys, l, h => by
    unfold idxs at h
    split at h <;> first | (cases h; done) | skip
    rename_i i r e1 e2
    cases h
    obtain ⟨h1, h2⟩ := idxs_spec e2
    refine ⟨congrArg (· + 1) h1, fun k x e => ?_⟩
    cases k with
    | zero => simp at e; subst e; exact ⟨i, _, rfl, e1⟩
    | succ k => exact h2 k x (by simpa using e)
theorem parNames_spec {sc : Scope} {line : Nat} : ∀ {ts : List Expr} {ns : List Str}, parNames sc line ts = some ns → ∀ (k : Nat) (t : Expr), ts[k]? = some t → ∃ (x : Str) (p : Pos), t = .Name x p ∧ ns[k]? = some x ∧ sc.names.lookup x = some .local
  | [], ns, h, k, t, e => by simp at e
  | u :: us, ns, h, k, t, e => by
    unfold parNames at h
    split at h
    · rename_i q; cases q
    · rename_i x p es q
      cases q
      split at h <;> first | (cases h; done) | skip
      rename_i z
      obtain ⟨ns', h', rfl⟩ := Option.map_eq_some_iff.mp h
      cases k with
      | zero => simp at e; subst e; exact ⟨x, p, rfl, rfl, z.1⟩
      | succ k => obtain ⟨x', p', a, b, c⟩ := parNames_spec h' k t (by simpa using e); exact ⟨x', p', a, by simpa using b, c⟩
    · cases h
theorem ps_parM (P : SndE Φ G ca n) (C : Bd S X) (D : Gd Φ G ca X) (tk : Takes X (wx ca W)) {ts vs : List Expr} {k k2 : Nat} {p p2 pos : Pos} {ns : List Str} {l : List (Nat × Bool)} {es : List E} (h : swOf S.sc ts vs = some ns) (hi : idxs S.N S.ow ns = some l) (he : compEs G S n vs = some es)
    (hb : (l.all (fun p => !p.2) && decide (l.map (·.1)).Nodup) = true) : PS X (.Assign [.Tuple ts k p] (.Tuple vs k2 p2) pos) (tS X.K (ex Φ is (.par l es)) W) := by
  obtain ⟨ha, hv⟩ := P.es C.toCn D tk vs es he
  obtain ⟨h1, h2, h3, h4, h5, _⟩ := sw_some (k := k) (k2 := k2) (pt := p) (pt2 := p2) C h hv
  obtain ⟨g1, g2⟩ := idxs_spec hi
  rw [Bool.and_eq_true, decide_eq_true_eq] at hb
  have fl : ∀ q ∈ l, q.2 = false := fun q hq => by
    have := List.all_eq_true.mp hb.1 q hq
    cases z : q.2 <;> simp [z] at this ⊢
  rcases h4 with h4 | h4
  · match ts, vs, h4, h5 with
    | [t1, t2], [v1, v2], _, _ =>
      obtain ⟨x, px, rfl, n1, l1⟩ := parNames_spec h2 0 t1 rfl
      obtain ⟨y, py, rfl, n2, l2⟩ := parNames_spec h2 1 t2 rfl
      obtain ⟨i, b1, e1, i1⟩ := g2 0 x n1
      obtain ⟨j, b2, e2, i2⟩ := g2 1 y n2
      have hl : l.length = 2 := g1.trans h3
      match l, hl with
      | [q1, q2], _ =>
        simp at e1 e2
        subst e1 e2
        cases (show b1 = false from fl (i, b1) (by simp))
        cases (show b2 = false from fl (j, b2) (by simp))
        match ns, h3 with
        | [x', y'], _ =>
          simp at n1 n2
          subst n1 n2
          have nd : i ≠ j := by have := hb.2; simp at this; exact this
          exact ps_imp (ps_par D.calm C.hN' (by rw [C.hN]; exact idx_get i1) (by rw [C.hN]; exact idx_get i2) nd (by rw [C.hS]; exact l1) (by rw [C.hS]; exact l2) ha h1 sole_tup) fun D0 σ H q => par2_imp q
  · match ts, vs, h4, h5 with
    | [t1, t2, t3], [v1, v2, v3], _, _ =>
      obtain ⟨x, px, rfl, n1, l1⟩ := parNames_spec h2 0 t1 rfl
      obtain ⟨y, py, rfl, n2, l2⟩ := parNames_spec h2 1 t2 rfl
      obtain ⟨z, pz, rfl, n3, l3⟩ := parNames_spec h2 2 t3 rfl
      obtain ⟨i, b1, e1, i1⟩ := g2 0 x n1
      obtain ⟨j, b2, e2, i2⟩ := g2 1 y n2
      obtain ⟨m, b3, e3, i3⟩ := g2 2 z n3
      have hl : l.length = 3 := g1.trans h3
      match l, hl with
      | [q1, q2, q3], _ =>
        simp at e1 e2 e3
        subst e1 e2 e3
        cases (show b1 = false from fl (i, b1) (by simp))
        cases (show b2 = false from fl (j, b2) (by simp))
        cases (show b3 = false from fl (m, b3) (by simp))
        match ns, h3 with
        | [x', y', z'], _ =>
          simp at n1 n2 n3
          subst n1 n2 n3
          have nd : (i ≠ j ∧ i ≠ m) ∧ j ≠ m := by have := hb.2; simp at this; exact this
          exact ps_imp (ps_par3 D.calm C.hN' (by rw [C.hN]; exact idx_get i1) (by rw [C.hN]; exact idx_get i2) (by rw [C.hN]; exact idx_get i3) nd.1.1 nd.1.2 nd.2 (by rw [C.hS]; exact l1) (by rw [C.hS]; exact l2) (by rw [C.hS]; exact l3) ha h1 sole_tup) fun D0 σ H q => par3_imp q
theorem ps_parLM (C : Bd S X) (hc : X.calm = true) {ts vs : List Expr} {k k2 : Nat} {p p2 pos : Pos} {ns : List Str} {l : List (Nat × Bool)} {os : List (Option Int)} (h : swOf S.sc ts vs = some ns) (hi : idxs S.N S.ow ns = some l) (he : litEs vs = some os)
    (hb : (litOk l os && decide (l.map (·.1)).Nodup) = true) : PS X (.Assign [.Tuple ts k p] (.Tuple vs k2 p2) pos) (tS X.K (ex Φ is (.parL ((l.map (·.1)).zip os))) W) := by
  obtain ⟨ha, hv, ho⟩ := pa_lits (X := X) he
  obtain ⟨h1, h2, h3, h4, h5, _⟩ := sw_some (k := k) (k2 := k2) (pt := p) (pt2 := p2) C h hv
  obtain ⟨g1, g2⟩ := idxs_spec hi
  rw [Bool.and_eq_true, decide_eq_true_eq] at hb
  rcases h4 with h4 | h4
  · match ts, vs, h4, h5 with
    | [t1, t2], [v1, v2], _, _ =>
      obtain ⟨x, px, rfl, n1, l1⟩ := parNames_spec h2 0 t1 rfl
      obtain ⟨y, py, rfl, n2, l2⟩ := parNames_spec h2 1 t2 rfl
      obtain ⟨i, b1, e1, i1⟩ := g2 0 x n1
      obtain ⟨j, b2, e2, i2⟩ := g2 1 y n2
      have hl : l.length = 2 := g1.trans h3
      match l, hl with
      | [q1, q2], _ =>
        simp at e1 e2
        subst e1 e2
        match ns, h3 with
        | [x', y'], _ =>
          simp at n1 n2
          subst n1 n2
          have nd : i ≠ j := by have := hb.2; simp at this; exact this
          exact ps_imp (ps_par hc C.hN' (by rw [C.hN]; exact idx_get i1) (by rw [C.hN]; exact idx_get i2) nd (by rw [C.hS]; exact l1) (by rw [C.hS]; exact l2) ha h1 sole_tup) fun D0 σ H q => parL2_imp ho q
  · match ts, vs, h4, h5 with
    | [t1, t2, t3], [v1, v2, v3], _, _ =>
      obtain ⟨x, px, rfl, n1, l1⟩ := parNames_spec h2 0 t1 rfl
      obtain ⟨y, py, rfl, n2, l2⟩ := parNames_spec h2 1 t2 rfl
      obtain ⟨z, pz, rfl, n3, l3⟩ := parNames_spec h2 2 t3 rfl
      obtain ⟨i, b1, e1, i1⟩ := g2 0 x n1
      obtain ⟨j, b2, e2, i2⟩ := g2 1 y n2
      obtain ⟨m, b3, e3, i3⟩ := g2 2 z n3
      have hl : l.length = 3 := g1.trans h3
      match l, hl with
      | [q1, q2, q3], _ =>
        simp at e1 e2 e3
        subst e1 e2 e3
        match ns, h3 with
        | [x', y', z'], _ =>
          simp at n1 n2 n3
          subst n1 n2 n3
          have nd : (i ≠ j ∧ i ≠ m) ∧ j ≠ m := by have := hb.2; simp at this; exact this
          exact ps_imp (ps_par3 hc C.hN' (by rw [C.hN]; exact idx_get i1) (by rw [C.hN]; exact idx_get i2) (by rw [C.hN]; exact idx_get i3) nd.1.1 nd.1.2 nd.2 (by rw [C.hS]; exact l1) (by rw [C.hS]; exact l2) (by rw [C.hS]; exact l3) ha h1 sole_tup) fun D0 σ H q => parL3_imp ho q
theorem notcomp_sw {e : Expr} (h : isCompE e = false) (t : Option Expr) (l : Nat) (env : PySem.Env) : swapsWith e t l env = pure false := by
  cases e <;> first | rfl | (simp [isCompE] at h)
theorem get_list : PGet X (rIxL X.K) := fun pins s σ H o i ov iv Q I ro ri h => by
  obtain ⟨p, xs, k, z, rfl, rfl, hq, he, q⟩ := h
  cases ro
  obtain ⟨t, rfl⟩ := ri
  obtain ⟨its, r, pl, hz⟩ := I.list hq
  obtain ⟨j, h1, h2, h3, h4, h5⟩ := atI_get he
  obtain ⟨w, ew, rw'⟩ := r.get h2
  have hl := r.length
  have hn := line63
  have fin : EP X pins σ Q w s := ⟨z, H, I, rw', q⟩
  by_cases h0 : 0 ≤ k
  · have hj : k.toNat = j := Option.some.inj ((seqIndex_of h0 h5).symm.trans h1)
    exact wpAny_getItem_list pl.isList h0 (by omega) (by rw [hj]; simpa using ew) fin
  · have hj : (k + (its.toArray.size : Int)).toNat = j := by
      rw [List.size_toArray, ← hl]
      exact Option.some.inj ((seqIndex_neg (by omega) h4).symm.trans h1)
    exact wpAny_getItem_list_neg pl.isList (by omega) (by rw [List.size_toArray] <;> omega) (by omega) (by rw [hj]; simpa using ew) fin
theorem snd_s (P : SndE Φ G ca n) (P' : ∀ m, n = m + 1 → SndE Φ G ca m) (Q : SndS Φ G is ca n) (C : Bd S X) (D : Gd Φ G ca X) (D2 : Gx G is ca X) (tk : Takes X (wx ca W)) (st : Stmt) (c : Pv.S) (h : compS G S (n + 1) st = some c) : PS X st (tS X.K (ex Φ is c) W) := by
  have nif : ∀ {a : Expr}, ¬ isIfE a = true → isIfE a = false := fun {a} h => by cases q : isIfE a <;> simp [q] at h ⊢
  have nst : ∀ {a : Expr}, ¬ isStarE a = true → isStarE a = false := fun {a} h => by cases q : isStarE a <;> simp [q] at h ⊢
  have nco : ∀ {a : Expr}, ¬ isCompE a = true → isCompE a = false := fun {a} h => by cases q : isCompE a <;> simp [q] at h ⊢
  unfold compS at h
  split at h
  · -- name = e
    rename_i x px e pos
    split at h <;> first | (cases h; done) | skip
    rename_i z
    split at h
    · rename_i i j hi hp
      split at h <;> first | (cases h; done) | skip
      cases h
      obtain ⟨y, p, apos, cpos, rfl, hj, hl⟩ := popOf_none hp
      exact ps_imp (ps_asg (pe_popM C hj hl) (pg_name C.hN' (by rw [C.hN]; exact idx_get hi) (C.loc z.1) (C.fn z.1)) (by rfl) (by rfl) (by rfl)) fun D0 σ H q => pop_imp q
    · rename_i i j k hi hp
      split at h <;> first | (cases h; done) | skip
      obtain ⟨ck, hk, rfl⟩ := Option.map_eq_some_iff.mp h
      obtain ⟨y, p, apos, cpos, rfl, hj, hl, na⟩ := popOf_some hp
      exact ps_imp (ps_asg (pe_popkM C hj hl (P.e C.toCn D tk k ck hk) na) (pg_name C.hN' (by rw [C.hN]; exact idx_get hi) (C.loc z.1) (C.fn z.1)) (by rfl) (by rfl) (by rfl)) fun D0 σ H q => popk_imp q
    · rename_i i hi hp
      obtain ⟨ce, hce, rfl⟩ := Option.map_eq_some_iff.mp h
      have base := ps_setM (pos := pos) P P' C D tk z.1 hi z.2 hce
      split
      · exact ps_imp base fun D0 σ H q => setO_imp q
      · exact ps_imp base fun D0 σ H q => set_imp q
    · cases h
  · rename_i ts k p vs k2 p2 pos
    split at h
    · rename_i ns hns
      split at h <;> first | (cases h; done) | skip
      rename_i l es e1 e2
      split at h
      · rename_i hb
        cases h
        exact ps_parM P C D tk hns e1 e2 hb
      · split at h <;> first | (cases h; done) | skip
        rename_i os he
        split at h <;> first | (cases h; done) | skip
        rename_i hb
        cases h
        exact ps_parLM C D.calm hns e1 he hb
    · split at h <;> first | (cases h; done) | skip
      rename_i hno
      split at h <;> first | (cases h; done) | skip
      rename_i t z e1 e2
      cases h
      have hv : (vs.all fun e => !isStarE e) = true := by
        cases n with
        | zero => cases e2
        | succ m =>
          unfold compE at e2
          obtain ⟨cs, hcs, _⟩ := Option.map_eq_some_iff.mp e2
          exact ((P' m rfl).es C.toCn D tk vs cs hcs).2
      exact ps_imp (ps_asg (P.e C.toCn D tk _ z e2) (pg_B C D e1) sole_tup (sw_none C hno hv) (asg_one rfl _)) fun D0 σ H q => unp_imp (compT_nm e1) q
  · rename_i ts k p e pos hnt
    have hnt : isTupE e = false := by cases e <;> first | rfl | exact absurd rfl (hnt _ _ _)
    split at h
    · cases h
    split at h
    · rename_i t j e1 hp
      cases h
      obtain ⟨y, p, apos, cpos, rfl, hj, hl⟩ := popOf_none hp
      exact ps_imp (ps_asg (pe_popM C hj hl) (pg_B C D e1) sole_tup (sw_non hnt) (asg_one rfl _)) fun D0 σ H q => pop_imp q
    · rename_i t j a e1 hp
      obtain ⟨ck, hk, rfl⟩ := Option.map_eq_some_iff.mp h
      obtain ⟨y, p, apos, cpos, rfl, hj, hl, na⟩ := popOf_some hp
      exact ps_imp (ps_asg (pe_popkM C hj hl (P.e C.toCn D tk a ck hk) na) (pg_B C D e1) sole_tup (sw_non hnt) (asg_one rfl _)) fun D0 σ H q => popk_imp q
    · rename_i t e1 hp
      obtain ⟨ce, hce, rfl⟩ := Option.map_eq_some_iff.mp h
      exact ps_imp (ps_asg (P.e C.toCn D tk e ce hce) (pg_B C D e1) sole_tup (sw_non hnt) (asg_one rfl _)) fun D0 σ H q => unp_imp (compT_nm e1) q
    · cases h
  · rename_i x p k p2 e pos
    split at h <;> first | (cases h; done) | skip
    rename_i hns
    split at h <;> first | (cases h; done) | skip
    rename_i i y z e1 e2 e3
    cases h
    obtain ⟨h1, h2⟩ := ownV_of e1
    exact ps_imp (ps_asg (P.e C.toCn D tk e z e3) (pg_sub (pe_own C h1 h2) (P.e C.toCn D tk k y e2) set_list (by intro v; cases k <;> first | rfl | (simp [isSliceE] at hns))) sole_sub (by cases e <;> rfl) (asg_one rfl _)) fun D0 σ H q => setIx_imp q
  · rename_i x p e pos
    split at h <;> first | (cases h; done) | skip
    rename_i z
    split at h <;> first | (cases h; done) | skip
    rename_i i ce e1 e2
    split at h <;> first | (cases h; done) | skip
    cases h
    exact ps_imp (ps_aug C.hN' (by rw [C.hN]; exact idx_get e1) (C.loc z.1) (P.e C.toCn D tk e ce e2) ip_add (C.fn z.1)) fun D0 σ H q => aug_imp q
  · rename_i x p k p2 e pos
    split at h
    · cases h
    rename_i hns
    split at h <;> first | (cases h; done) | skip
    rename_i i y z e1 e2 e3
    cases h
    obtain ⟨h1, h2⟩ := ownV_of e1
    exact ps_imp (ps_augS (pe_own C h1 h2) (P.e C.toCn D tk k y e2) get_list (P.e C.toCn D tk e z e3) ip_add set_list (by intro a b c; cases k <;> first | rfl | (simp [isSliceE] at hns))) fun D0 σ H q => augIx_imp q
  · rename_i x p m apos args cpos pos
    split at h <;> first | (cases h; done) | skip
    rename_i i hi
    split at h <;> first | (cases h; done) | skip
    rename_i hl
    obtain ⟨h1, h2⟩ := ownV_of hi
    split at h
    · rename_i y p3 m2 apos2 k cpos2
      split at h <;> first | (cases h; done) | skip
      rename_i z
      obtain ⟨rfl, rfl, _⟩ := z
      split at h <;> first | (cases h; done) | skip
      rename_i j hj
      split at h <;> first | (cases h; done) | skip
      rename_i z
      obtain ⟨ck, hk, rfl⟩ := Option.map_eq_some_iff.mp h
      have hp := pe_popkM (p := p3) C hj z.1 (P.e C.toCn D tk k ck hk) z.2.1
      exact ps_imp (ps_expr (pe_bm PySem.F.plainAttrs_list PySem.F.slot_list_append PySem.F.type_list_append mt_append (pe_own C h1 h2) (pa_cons hp pa_nil (by rfl)) (by rfl) (by rfl) hl (by rfl) (by rfl)) (by rfl)) fun D0 σ H q => appPop_imp q
    · rename_i a _
      split at h
      · cases h
      rename_i na
      split at h
      · rename_i e
        subst e
        obtain ⟨ck, hk, rfl⟩ := Option.map_eq_some_iff.mp h
        exact ps_imp (ps_expr (pe_bm PySem.F.plainAttrs_list PySem.F.slot_list_append PySem.F.type_list_append mt_append (pe_own C h1 h2) (pa_cons (P.e C.toCn D tk a ck hk) pa_nil (star_cons (nst na))) (by rfl) (by rw [star_cons (nst na)]; rfl) hl (star_cons (nst na)) (by rfl)) (by rfl)) fun D0 σ H q => app_imp q
      split at h
      · rename_i e
        subst e
        obtain ⟨ck, hk, rfl⟩ := Option.map_eq_some_iff.mp h
        exact ps_imp (ps_expr (pe_bm PySem.F.plainAttrs_list PySem.F.slot_list_extend PySem.F.type_list_extend mt_extend (pe_own C h1 h2) (pa_cons (P.e C.toCn D tk a ck hk) pa_nil (star_cons (nst na))) (by rfl) (by rw [star_cons (nst na)]; rfl) hl (star_cons (nst na)) (by rfl)) (by rfl)) fun D0 σ H q => ext_imp q
      · cases h
    · rename_i k a
      split at h <;> first | (cases h; done) | skip
      rename_i z
      obtain ⟨rfl, n1, n2⟩ := z
      split at h <;> first | (cases h; done) | skip
      rename_i y z e1 e2
      cases h
      exact ps_imp (ps_expr (pe_bm PySem.F.plainAttrs_list PySem.F.slot_list_insert PySem.F.type_list_insert mt_insert (pe_own C h1 h2) (pa_cons (P.e C.toCn D tk k y e1) (pa_cons (P.e C.toCn D tk a z e2) pa_nil (star_cons n2)) (star_cons n1)) (by rfl) (by rw [star_cons n1, star_cons n2]; rfl) hl (star_cons n1) (by rw [star_cons n2]; rfl)) (by rfl)) fun D0 σ H q => ins_imp q
    · cases h
  · rename_i e pos _
    split at h
    · cases h
    rename_i hc
    obtain ⟨ce, hce, rfl⟩ := Option.map_eq_some_iff.mp h
    exact ps_imp (ps_expr (P.e C.toCn D tk e ce hce) (notcomp_sw (nco hc) _ _ _)) fun D0 σ H q => exp_imp q
  · rename_i e a b pos
    split at h <;> first | (cases h; done) | skip
    rename_i z x y e1 e2 e3 e4
    cases h
    exact ps_imp (ps_if (P.t C.toCn D tk e z e1 e2) (Q.b C D D2 tk a x e3) (Q.b C D D2 tk b y e4)) fun D0 σ H q => ife_imp (frzs_imp _ q)
  · rename_i e b pos
    split at h <;> first | (cases h; done) | skip
    rename_i z x e1 e2 e3
    cases h
    exact ps_imp (ps_while C.hp (P.t C.toCn D tk e z e1 e2) (Q.b C D D2 tk b x e3)) fun D0 σ H q => whl_imp q
  · rename_i tg it b pos
    split at h <;> first | (cases h; done) | skip
    rename_i t i x e1 e2 e3
    split at h
    · cases h
    rename_i hnt
    cases h
    have hnt : needsTup i = true → isTupE tg = true := fun q => by
      cases q' : isTupE tg with
      | true => rfl
      | false => exact absurd (by rw [q, q']; rfl) hnt
    obtain ⟨hi, hs⟩ := P.i C.toCn D tk tg it i e2 hnt
    exact ps_imp (ps_for C.hp D.calm hi (pg_B C D e1) (Q.b C D D2 tk b x e3) (fold_set hs _)) fun D0 σ H q => for_imp q
  · rename_i e pos
    obtain ⟨ce, hce, rfl⟩ := Option.map_eq_some_iff.mp h
    exact ps_imp (ps_ret (P.e C.toCn D tk e ce hce)) fun D0 σ H q => ret_imp q
  · cases h
    exact ps_imp ps_retN fun D0 σ H q => retN_imp q
  · rename_i x p m j p2 p3 pos
    split at h <;> first | (cases h; done) | skip
    rename_i z
    cases h
    exact ps_raiM D D2 tk (C.toCn.gl z.1) (gl_of z.1).2 z.2
  · rename_i b hs pos
    split at h <;> first | (cases h; done) | skip
    rename_i x l e1 e2
    split at h
    · cases h
    rename_i hne
    cases h
    exact ps_tryM C D2 tk e2 (by cases q : l.isEmpty <;> simp [q] at hne ⊢) fun W pn xe tk' hp => Q.b (C.tr hp) D.tr D2.tr tk' b x e1
  · cases h
theorem ps_bad {K : PySem.W.Frag} {st : Stmt} : PS X st (tS K (fun _ => stk) W) := ⟨fun pins s σ H D0 I q => by
  obtain ⟨_, _, _, _, _, w⟩ := q
  exact w.elim⟩
theorem ps_getD {st : Stmt} {o : Option Pv.S} (h : ∀ c, o = some c → PS X st (tS X.K (ex Φ is c) W)) : PS X st (tS X.K (ex Φ is (o.getD .bad)) W) := by
  cases o with
  | none => exact ps_bad
  | some c => exact h c rfl
theorem snd_bb (Q : SndS Φ G is ca n) (C : Bd S X) (D : Gd Φ G ca X) (D2 : Gx G is ca X) (tk : Takes X (wx ca W)) (sts : List Stmt) (c : List Pv.S) (h : compB' G S (n + 1) sts = some c) : PSs X sts (tS X.K (exB Φ is c) W) := by
  cases sts with
  | nil => cases h; exact pss_imp pss_nil fun D0 σ H q => nil_imp q
  | cons st sts =>
    unfold compB' at h
    split at h <;> first | (cases h; done) | skip
    rename_i xs e2
    cases h
    exact pss_imp (pss_cons (ps_getD fun c hc => Q.s C D D2 tk st c hc) (Q.b C D D2 tk sts xs e2)) fun D0 σ H q => seq_imp q
theorem snd_allS : ∀ n, SndS Φ G is ca n
  | 0 => ⟨fun _ _ _ _ _ _ h => (by cases h), fun _ _ _ _ _ _ h => (by cases h)⟩
  | n + 1 => have Q := snd_allS n; ⟨fun C D D2 tk => snd_s (snd_all n) (fun m _ => snd_all m) Q C D D2 tk, fun C D D2 tk => snd_bb Q C D D2 tk⟩
end
end Pv
/-! Pv21: a text's defs, all at once. -/
namespace Pv
open PySem PySem.Spec PyProof.Rows L2
section
variable {K : PySem.W.Frag} {H : Hp} {tp : Tp} {D0 : Ends} {t : Sto} {W : WN} {Φ : Str → List Vv → M RV} {is : Str → Str → Bool}
theorem oa_non (σ : L2.St) : ∀ m : Nat, oa σ (List.replicate m .non) = [] := by
  induction σ with
  | nil => intro m; cases m <;> rfl
  | cons x σ ih =>
    intro m
    cases m with
    | zero => cases x with
      | none => rfl
      | some v => cases v <;> rfl
    | succ m =>
      rw [List.replicate_succ]
      cases x with
      | none => exact ih m
      | some v => cases v <;> exact ih m
theorem oa_start {σ : L2.St} {m : Nat} : ∀ (vs : List V) (xs : List Vv), oa (vs.map some ++ σ) (xs.map Slot.val ++ List.replicate m .non) = [] ∨ vs.length ≠ xs.length
  | [], [] => .inl (oa_non σ m)
  | [], _ :: _ => .inr (by simp)
  | _ :: _, [] => .inr (by simp)
  | v :: vs, x :: xs => by
    rcases oa_start (σ := σ) (m := m) vs xs with h | h
    · left
      cases v <;> exact h
    · right
      simpa using h
theorem slots_start {F : Hp} {m : Nat} : ∀ {vs : List V} {xs : List Vv}, VvsR K F vs xs → SlotsR K F H (vs.map some ++ List.replicate m none) (xs.map Slot.val ++ List.replicate m .non)
  | _, _, .nil => by
    show SlotsR K F H (List.replicate m none) (List.replicate m .non)
    induction m with
    | zero => exact .nil
    | succ m ih => rw [List.replicate_succ, List.replicate_succ]; exact .cons trivial ih
  | _, _, .cons h q => .cons ⟨_, rfl, h⟩ (slots_start q)
theorem body_run {N : List Str} {vs : List V} {xs : List Vv} {code : List Pv.S} {ok : RV → Sto → Prop} {ex : Str → Sto → Prop} (tk : ∀ q ∈ tp, H q.1 = some q.2) (nd : (ad tp).Nodup) (hv : VvsR K (hide (ad tp) H) vs xs)
    (w : wpm (runB Φ is (N.length - vs.length) code xs) t ok ex) (hok : ∀ r t v H', ok r t → PostC K (hide (ad tp) H) tp r v H' → D0.rt v H') (hnx : ∀ σ H', D0.rt .non H' → D0.nx σ H')
    (hex : ∀ x t σ H', ex x t → Same (hide (ad tp) H) (hide (ad tp) H') → (∀ q ∈ tp, H' q.1 = some q.2) → W x σ H') : tS K (exB Φ is code) W D0 (start N vs) H := by
  have hl := hv.length
  have eo : oa (start N vs) (xs.map Slot.val ++ List.replicate (N.length - vs.length) .non) = [] := (oa_start vs xs).elim id fun q => absurd hl q
  have R : Rl K (hide (ad tp) H) (start N vs) (xs.map Slot.val ++ List.replicate (N.length - vs.length) .non) tp H := by
    refine ⟨?_, ?_, ?_, tk⟩
    · rw [eo]; exact Same.refl _
    · rw [eo]; exact slots_start hv
    · rw [eo]; exact nd
  have down : ∀ {σ : L2.St} {env : Env} {H' : Hp}, Same (fz σ env tp H') (hide (ad tp) H') := fun {σ env H'} => hide_sub fun a ha => List.mem_append_right _ ha
  refine ⟨_, _, tp, t, R, ?_⟩
  unfold runB at w
  rw [wpm_bnd] at w
  refine wpm_mono (noX_wpm w) (fun f t1 w1 => ?_) fun _ _ q => q
  cases f with
  | nx env1 => exact fun σ1 H1 R1 => hnx σ1 H1 (hok _ _ _ _ w1 (ret_post (r := rd .none) (post_d R1 .non)))
  | rt r => exact fun v H1 P => hok r t1 v H1 w1 P
  | xc x env1 => exact fun σ1 H1 R1 => hex x t1 σ1 H1 w1 (R1.le.trans down) R1.tk
end

/-! ### a text -/
structure DI where
  d : He.DefD
  ps : List Str
  N : List Str
  ow : List Nat
  code : List Pv.S
def DI.nm (x : DI) : Str := x.d.at_.1
/-- what the text's defs do, calls k deep -/
def sem (T : List DI) (is : Str → Str → Bool) : Nat → Str → List Vv → M RV
  | 0, _, _ => stk
  | k + 1, f, xs => match T.find? fun x => x.nm == f with
    | some x => guard (decide (xs.length = x.ps.length)) (runB (sem T is k) is (x.N.length - x.ps.length) x.code xs)
    | none => stk
structure DI.Good (G : GS) (x : DI) : Prop where
  at_ : x.d.at_.2 = none
  dfl : x.d.dfl = []
  kwd : x.d.kwd = []
  sc : FnScope x.N x.ps x.d.scope
  cd : compB' G ⟨x.N, x.d.scope, x.ow⟩ 100 x.d.body = some x.code
  bd : ∀ (kV doc pm : Value) (an : Option Addr) (cdv ct : Value) (us : List Value), us.length = x.ps.length → bindArgs (PySem.W.fnOf x.d.name x.d.qual x.d.params x.d.body x.d.scope .none kV doc pm an cdv ct) ⟨us, []⟩ = pure (x.ps.zip us)
/-- the module's facts -/
structure Mg (T : List DI) (G : GS) (is : Str → Str → Bool) (K : PySem.W.Frag) (mg : Str → Option Value) : Prop where
  fn : ∀ x ∈ T, mg x.nm = some (.ref (He.ga K x.nm)) ∧ ∃ fd, FunD K x.d.name x.d.qual x.d.params x.d.body x.d.scope (x.d.dvs K) (x.d.kws K) (He.fAd K x.d.at_) fd
  free : ∀ b ∈ bltNames, mg b = none
  cns : ∀ x i, G.cns.lookup x = some i → ∃ t, mg x = some (.int i t)
  exc : ∀ x, G.exc.contains x = true → mg x = some (.ref (He.ga K x)) ∧ (He.Fa.exc x).ok K = true
  exm : ∀ x y, is x x = true → G.exc.contains y = true → PySem.W.exmOne K (.ref (He.ga K x)) (.ref (He.ga K y)) = some (is x y)
section
variable {T : List DI} {G : GS} {is : Str → Str → Bool} {K : PySem.W.Frag} {mg : Str → Option Value}
theorem find_mem {x : DI} {f : Str} (h : (T.find? fun x => x.nm == f) = some x) : x ∈ T ∧ x.nm = f := ⟨List.mem_of_find?_eq_some h, by simpa using List.find?_some h⟩
theorem Mg.gx (g : Mg T G is K mg) {X : Cx} (hK : X.K = K) (hm : X.mg = mg) : Gx G is (He.ga K) X := ⟨fun x hx => by
  obtain ⟨h1, h2⟩ := g.exc x hx
  obtain ⟨e1, e2, e3, e4⟩ := He.exc_ok h2
  rw [hK, hm]
  refine ⟨_, _, _, _, PySem.F.excBase_ValueError, e1, h1, e2, ?_⟩
  exact raises_own (by rw [hK]; exact e3) (by rw [hK]; exact e4), fun x y h1 h2 => by rw [hK]; exact g.exm x y h1 h2⟩
/-- the promise -/
abbrev Kept (T : List DI) (is : Str → Str → Bool) (P : Program) (w : World) (K : PySem.W.Frag) (mg : Str → Option Value) (base : Heap) (k : Nat) (x : DI) : Prop :=
  ∃ fd, FnOk P w K mg base (CX P w) k (He.ga K x.nm) fd x.ps (spF K (He.ga K) x.ps.length (sem T is k x.nm)) ∧ PySem.W.keepIn K (.ref (He.ga K x.nm)) = true ∧ Binds K fd x.ps []
theorem Mg.gd {P : Program} {w : World} {base : Heap} {k : Nat} (g : Mg T G is K mg) (hG : G.fns = T.map DI.nm) (ih : ∀ x ∈ T, (T.find? fun y => y.nm == x.nm) = some x → Kept T is P w K mg base k x) {X : Cx} (hP : X.prog = P) (hw : X.w = w) (hK : X.K = K) (hm : X.mg = mg) (hb : X.base = base) (hc : X.calm = true) (hr : Room k X.A) : Gd (sem T is k) G (He.ga K) X := by
  subst hP hw hK hm hb
  refine ⟨hc, by have := hr.un; omega, g.free, g.cns, fun f hf => ?_⟩
  have hmem : f ∈ T.map DI.nm := by rw [← hG]; simpa using hf
  obtain ⟨y, hy, ey⟩ := List.mem_map.mp hmem
  cases q : T.find? (fun z => z.nm == f) with
  | none =>
    have := List.find?_eq_none.mp q y hy
    simp [ey] at this
  | some x =>
    obtain ⟨h1, h2⟩ := find_mem q
    obtain ⟨fd, F, kp, b⟩ := ih x h1 (by rw [h2]; exact q)
    rw [h2] at F kp
    refine ⟨k, He.ga X.K f, fd, x.ps, F, hr, by rw [← h2]; exact (g.fn x h1).1, kp, b, fun xs t ok ex w => ?_⟩
    cases k with
    | zero => exact w.elim
    | succ k =>
      unfold sem at w
      rw [q] at w
      exact of_decide_eq_true (wpm_guard w).1
theorem dvs_nil {x : DI} (g : x.Good G) (K : PySem.W.Frag) : x.d.dvs K = [] := by unfold He.DefD.dvs; rw [g.dfl]; rfl
theorem kept_all {P : Program} {w : World} {base : Heap} (g : Mg T G is K mg) (hG : G.fns = T.map DI.nm) (good : ∀ x ∈ T, x.Good G) : ∀ k, ∀ x ∈ T, (T.find? fun y => y.nm == x.nm) = some x → Kept T is P w K mg base k x
  | 0, x, hx, _ => by
    obtain ⟨_, fd, F⟩ := g.fn x hx
    have gd := good x hx
    rw [dvs_nil gd K] at F
    have ea : He.fAd K x.d.at_ = He.ga K x.nm := by unfold He.fAd DI.nm; rw [gd.at_]
    rw [ea] at F
    exact ⟨fd, ⟨fun vs H Q E h => h.1, fun A outer s H args us vs Q E _ _ _ _ h => by obtain ⟨_, _, _, _, _, _, _, h⟩ := h; exact h.elim⟩, F.kp, F.bindsN gd.bd⟩
  | k + 1, x, hx, hu => by
    obtain ⟨_, fd, F⟩ := g.fn x hx
    have gd := good x hx
    rw [dvs_nil gd K] at F
    have ea : He.fAd K x.d.at_ = He.ga K x.nm := by unfold He.fAd DI.nm; rw [gd.at_]
    rw [ea] at F
    refine ⟨fd, F.ok gd.sc (fun vs H Q E h => h.1) (fun cdv A outer s H vs Q E hr h => ?_), F.kp, F.bindsN gd.bd⟩
    obtain ⟨hlen, tp, xs, t, tk, nd, hv, h⟩ := h
    unfold sem at h
    rw [hu] at h
    obtain ⟨_, h⟩ := wpm_guard h
    rw [← hlen] at h
    refine ⟨tS K (exB (sem T is k) is x.code) fun z σ H => E (.ref (He.ga K z)) none H, ?_, body_run tk nd hv h (fun r t v H' q p => q v H' p) (fun σ H' q => q) fun z t σ H' q => q H'⟩
    refine (snd_allS 100).b (X := cxOf (CX P w) P w K mg base x.N x.d.qual x.d.scope (He.ga K x.nm) cdv A outer s H E) (S := ⟨x.N, x.d.scope, x.ow⟩) ⟨⟨rfl, rfl, gd.sc.nd⟩, fun _ _ => rfl, passes_of rfl, rfl, rfl, gd.sc.kind⟩ (g.gd hG (kept_all g hG good k) rfl rfl rfl rfl rfl rfl hr) (g.gx rfl rfl) ?_ x.d.body x.code gd.cd
    exact (takes_of rfl rfl rfl rfl).imp fun c d σ H ⟨z, e1, e2, q⟩ => by subst e1 e2; exact q
/-- the law's def -/
theorem law_ok {P : Program} {w : World} {base : Heap} {k n : Nat} {x : DI} {fd : FuncData} (g : Mg T G is K mg) (hG : G.fns = T.map DI.nm) (good : ∀ x ∈ T, x.Good G) (hx : x ∈ T) (hu : (T.find? fun y => y.nm == x.nm) = some x) (h1 : x.ps.length = 1)
    (F : FunD K x.d.name x.d.qual x.d.params x.d.body x.d.scope (x.d.dvs K) (x.d.kws K) (He.ga K x.nm) fd) (law : ∀ ns : List Int, ns.length ≤ n → ∃ t t', sem T is (k + 1) x.nm [.scr ns] t = .ok (rd (.bool true)) t') :
    FnOk P w K mg base CX0 (k + 1) (He.ga K x.nm) fd x.ps (fun vs H Q _ => ∃ (a : Addr) (ns : List Int), vs = [.ref a] ∧ ns.length ≤ n ∧ SqL K H a (ns.map V.int) ∧ ∀ H', Q (.bl true) H') := by
  have gd := good x hx
  refine F.ok gd.sc (fun vs H Q E h => ?_) (fun cdv A outer s H vs Q E hr h => ?_)
  · obtain ⟨a, ns, rfl, _⟩ := h
    exact h1.symm
  · obtain ⟨a, ns, rfl, hn, hS, hQ⟩ := h
    obtain ⟨t, t', e⟩ := law ns hn
    unfold sem at e
    rw [hu] at e
    have hlen : ([Vv.scr ns] : List Vv).length = x.ps.length := h1.symm
    replace e : (guard (decide (([Vv.scr ns] : List Vv).length = x.ps.length)) (runB (sem T is k) is (x.N.length - x.ps.length) x.code [.scr ns])) t = .ok (rd (.bool true)) t' := e
    rw [guard_of _ (decide_eq_true hlen)] at e
    have w1 : wpm (runB (sem T is k) is (x.N.length - ([V.ref a] : List V).length) x.code [.scr ns]) t (fun rv _ => rv = rd (.bool true)) fun _ _ => False := by
      unfold wpm
      rw [show ([V.ref a] : List V).length = x.ps.length from h1.symm, e]
    have hid : hide (ad ([] : Tp)) H = H := by
      funext a
      unfold hide
      rw [if_neg (by simp [ad])]
    refine ⟨tS K (exB (sem T is k) is x.code) WF, ?_, body_run (tp := []) (fun _ h => nomatch h) List.nodup_nil (.cons (show VvR K (hide (ad []) H) (.ref a) (.scr ns) from ⟨a, rfl, by rw [hid]; exact hS⟩) .nil) w1 (fun r t v H' q p => ?_) (fun σ H' q => q) fun z t σ H' q => q.elim⟩
    · refine (snd_allS 100).b (X := cxOf CX0 P w K mg base x.N x.d.qual x.d.scope (He.ga K x.nm) cdv A outer s H E) (S := ⟨x.N, x.d.scope, x.ow⟩) ⟨⟨rfl, rfl, gd.sc.nd⟩, fun _ _ => rfl, ?_, rfl, rfl, gd.sc.kind⟩ (g.gd hG (kept_all g hG good k) rfl rfl rfl rfl rfl rfl hr) (g.gx rfl rfl) ?_ x.d.body x.code gd.cd
      · exact PassesOwn.leaving
      · exact fun u s' ⟨_, _, _, _, _, _, _, _, _, _, _, _, _, _, _, _, w⟩ => by
          obtain ⟨_, _, _, w⟩ := w
          exact w.elim
    · subst q
      obtain ⟨_, _, p⟩ := p
      cases (show Rep _ v (.bool true) from p)
      exact hQ H'
end
end Pv
/-! Pv24: the facts the head reads. -/
namespace Pv
open PySem PySem.Spec PyProof.Rows L2
/-- which exceptions an except clause of that name catches -/
def isOf (em : List (Str × Str × Bool)) (x y : Str) : Bool := em.any fun p => p.1 == x && p.2.1 == y && p.2.2
def emOk (em : List (Str × Str × Bool)) (exc : List Str) : Bool := em.all fun p => !(p.1 == p.2.1 && p.2.2) || exc.all fun y => em.any fun q => q.1 == p.1 && q.2.1 == y && (q.2.2 == isOf em p.1 y)
def faOf (T : List DI) (G : GS) (em : List (Str × Str × Bool)) : List He.Fa := T.map (fun x => .glo x.nm) ++ bltNames.map .free ++ G.cns.map (fun p => .int p.1 p.2) ++ G.exc.map .glo ++ G.exc.map .exc ++ em.map fun p => .exm p.1 p.2.1 p.2.2
def fnOf (T : List DI) : List He.DefD := T.map (·.d)
section
variable {T : List DI} {G : GS} {em : List (Str × Str × Bool)} {K : PySem.W.Frag} {mg : Str → Option Value} {h : Heap}
theorem fact_of (c : He.SaysD (faOf T G em) (fnOf T) K) {f : He.Fa} (hf : f ∈ faOf T G em) : f.ok K = true := by
  obtain ⟨i, hi⟩ := List.mem_iff_getElem?.mp hf
  exact c.fact i hi
theorem mg_of (X : K.In h) (Gm : h.Ns mainGlobals mg) (c : He.SaysD (faOf T G em) (fnOf T) K) (he : emOk em G.exc = true) : Mg T G (isOf em) K mg where
  fn := fun x hx => by
    refine ⟨He.glo_ok X Gm (fact_of c ?_), ?_⟩
    · unfold faOf; simp only [List.mem_append, List.mem_map]; exact .inl (.inl (.inl (.inl (.inl ⟨x, hx, rfl⟩))))
    · obtain ⟨i, hi⟩ := List.mem_iff_getElem?.mp hx
      exact c.def_ i (d := x.d) (by unfold fnOf; rw [List.getElem?_map, hi]; rfl)
  free := fun b hb => He.free_ok X Gm (fact_of c (by unfold faOf; simp only [List.mem_append, List.mem_map]; exact .inl (.inl (.inl (.inl (.inr ⟨b, hb, rfl⟩))))))
  cns := fun x i hx => He.int_ok X Gm (fact_of c (by unfold faOf; simp only [List.mem_append, List.mem_map]; exact .inl (.inl (.inl (.inr ⟨(x, i), PySem.mem_of_lookup hx, rfl⟩)))))
  exc := fun x hx => by
    have hx : x ∈ G.exc := by simpa using hx
    exact ⟨He.glo_ok X Gm (fact_of c (by unfold faOf; simp only [List.mem_append, List.mem_map]; exact .inl (.inl (.inr ⟨x, hx, rfl⟩)))), fact_of c (by unfold faOf; simp only [List.mem_append, List.mem_map]; exact .inl (.inr ⟨x, hx, rfl⟩))⟩
  exm := fun x y hx hy => by
    have hy : y ∈ G.exc := by simpa using hy
    obtain ⟨p, hp, e⟩ := List.any_eq_true.mp hx
    simp only [Bool.and_eq_true, beq_iff_eq] at e
    obtain ⟨⟨e1, e2⟩, e3⟩ := e
    have q := List.all_eq_true.mp he p hp
    rw [e1, e2, e3] at q
    simp only [BEq.rfl, Bool.and_self, Bool.not_true, Bool.false_or] at q
    obtain ⟨r, hr, er⟩ := List.any_eq_true.mp (List.all_eq_true.mp q y hy)
    simp only [Bool.and_eq_true, beq_iff_eq] at er
    obtain ⟨⟨r1, r2⟩, r3⟩ := er
    have := He.exm_ok (x := r.1) (y := r.2.1) (b := r.2.2) (fact_of c (by unfold faOf; simp only [List.mem_append, List.mem_map]; exact .inr ⟨r, hr, rfl⟩))
    rw [r1, r2, r3] at this
    exact this
/-- the law's promise -/
abbrev spLaw (K : PySem.W.Frag) (n : Nat) : Sp := fun vs H Q _ => ∃ (a : Addr) (ns : List Int), vs = [.ref a] ∧ ns.length ≤ n ∧ SqL K H a (ns.map V.int) ∧ ∀ H', Q (.bl true) H'
theorem law_facts {P : Program} {w : World} {f : Addr} {k n : Nat} {x : DI} {s0 : Str} (X : K.In h) (Gm : h.Ns mainGlobals mg) (hfa : mg x.nm = some (.ref f)) (c : He.SaysD (faOf T G em) (fnOf T) K) (he : emOk em G.exc = true) (hG : G.fns = T.map DI.nm) (good : ∀ x ∈ T, x.Good G) (hx : x ∈ T)
    (hu : (T.find? fun y => y.nm == x.nm) = some x) (h1 : x.ps = [s0]) (law : ∀ ns : List Int, ns.length ≤ n → ∃ t t', sem T (isOf em) (k + 1) x.nm [.scr ns] t = .ok (rd (.bool true)) t') :
    ∃ fd : FuncData, (∀ (s : Shared) (v : Value), BindsTo s fd ⟨[v], []⟩ [(s0, v)]) ∧ ∀ base : Heap, K.In base → base.Ns mainGlobals mg → FnOk P w K mg base CX0 (k + 1) f fd [s0] (spLaw K n) := by
  have g := mg_of X Gm c he
  obtain ⟨h2, fd, F⟩ := g.fn x hx
  have gd := good x hx
  rw [hfa] at h2
  cases h2
  have ea : He.fAd K x.d.at_ = He.ga K x.nm := by unfold He.fAd DI.nm; rw [gd.at_]
  rw [ea] at F
  have F0 := F
  rw [dvs_nil gd K] at F0
  refine ⟨fd, fun s v => ?_, fun base _ _ => ?_⟩
  · have := F0.bindsA (ps := x.ps) gd.bd s [v] (by rw [h1]; rfl)
    rw [h1] at this
    exact this
  · have := law_ok (P := P) (w := w) (base := base) (n := n) g hG good hx hu (by rw [h1]; rfl) F law
    rw [h1] at this
    exact this
end
end Pv
/-! Pv25: evaluation by rewriting. -/
namespace Pv
open PySem
section
variable (Φ : Str → List Vv → M RV) (is : Str → Str → Bool) (env : Env)
/-- a loop's body, a test, a comprehension's turn: left as they are until they are given their item -/
def bodyF (tg : T) (b : List S) (x : D) (env : Env) : M Fl := bnd (asgM tg x env) fun env' => exB Φ is b env'
def whlC (c : E) (env : Env) : M Bool := bnd (ev Φ c env) truR
def whlB (b : List S) (env : Env) : M Fl := exB Φ is b env
def lcB (elt : E) (tg : T) (c : Option E) (ow : List Nat) (env : Env) (x : D) : M (Option D) := noX (bnd (asgM tg x (wipeE env ow)) fun env1 => match c with
  | none => bnd (ev Φ elt env1) fun r => bnd (keepD r) fun y => ret (some y)
  | some c => bnd (bnd (ev Φ c env1) truR) fun b => if b = true then bnd (ev Φ elt env1) fun r => bnd (keepD r) fun y => ret (some y) else ret none)
/-- the two ways of an if -/
def brF (a b : List S) (env : Env) (k : Bool) : M Fl := if k = true then exB Φ is a env else exB Φ is b env
@[simp] theorem brF_t (a b : List S) : brF Φ is a b env true = exB Φ is a env := nr rfl
@[simp] theorem brF_f (a b : List S) : brF Φ is a b env false = exB Φ is b env := nr rfl
@[simp] theorem exB_nil : exB Φ is [] env = ret (.nx env) := nr rfl
@[simp] theorem exB_cons (s : S) (ss : List S) : exB Φ is (s :: ss) env = seqF (ex Φ is s env) (exB Φ is ss) := nr rfl
@[simp] theorem ev_var (i : Nat) : ev Φ (.var i) env = slotR env i := nr rfl
@[simp] theorem ev_own (i : Nat) : ev Φ (.own i) env = slotR env i := nr rfl
@[simp] theorem ev_non : ev Φ .non env = ret (rd .none) := nr rfl
@[simp] theorem ev_bl (b : Bool) : ev Φ (.bl b) env = ret (rd (.bool b)) := nr rfl
@[simp] theorem ev_int (i : Int) : ev Φ (.int i) env = ret (rd (.int i)) := nr rfl
@[simp] theorem ev_str (x : Str) : ev Φ (.str x) env = ret (rd (.str x)) := nr rfl
@[simp] theorem ev_glob (x : Str) (i : Int) : ev Φ (.glob x i) env = ret (rd (.int i)) := nr rfl
@[simp] theorem ev_tup (es : List E) : ev Φ (.tup es) env = bnd (evs Φ es env) fun rs => guard (fits rs.length) (bnd (keepAllD rs) fun xs => ret (rd (.tuple xs))) := nr rfl
@[simp] theorem ev_lst (es : List E) : ev Φ (.lst es) env = bnd (evs Φ es env) fun rs => guard (fits rs.length) (bnd (keepAllD rs) fun xs => ret (.fr (.lst xs))) := nr rfl
@[simp] theorem ev_bin (op : BOp) (a b : E) : ev Φ (.bin op a b) env = bnd (ev Φ a env) fun r => bnd (ev Φ b env) fun s => asD r fun x => asD s fun y => binD op x y := nr rfl
@[simp] theorem ev_neg (a : E) : ev Φ (.neg a) env = bnd (ev Φ a env) fun r => asD r negD := nr rfl
@[simp] theorem ev_not (a : E) : ev Φ (.not a) env = bnd (ev Φ a env) fun r => bnd (truR r) fun b => ret (rd (.bool (!b))) := nr rfl
@[simp] theorem ev_and (a b : E) : ev Φ (.and a b) env = bnd (ev Φ a env) fun r => bnd (truR r) fun c => if c = true then ev Φ b env else frzM r := nr rfl
@[simp] theorem ev_or (a b : E) : ev Φ (.or a b) env = bnd (ev Φ a env) fun r => bnd (truR r) fun c => if c = true then frzM r else ev Φ b env := nr rfl
@[simp] theorem ev_cmp (op : COp) (a b : E) : ev Φ (.cmp op a b) env = bnd (ev Φ a env) fun r => bnd (ev Φ b env) fun s => cmpR op r s := nr rfl
@[simp] theorem ev_chain (o1 o2 : COp) (a b c : E) : ev Φ (.chain o1 o2 a b c) env = bnd (ev Φ a env) fun r => bnd (ev Φ b env) fun s => bnd (cmpR o1 r s) fun q => bnd (boolR q) fun k =>
      if k = true then bnd (ev Φ c env) fun u => cmpR o2 s u else ret (rd (.bool false)) := nr rfl
@[simp] theorem ev_ifx (c a b : E) : ev Φ (.ifx c a b) env = bnd (ev Φ c env) fun r => bnd (truR r) fun k => if k = true then ev Φ a env else ev Φ b env := nr rfl
@[simp] theorem ev_ix (a b : E) : ev Φ (.ix a b) env = bnd (ev Φ a env) fun r => bnd (ev Φ b env) fun s => ixR r s := nr rfl
@[simp] theorem ev_sl (a : E) (lo hi : Option E) : ev Φ (.sl a lo hi) env = bnd (ev Φ a env) fun r => bnd (evo Φ lo env) fun i => bnd (evo Φ hi env) fun j => asD r (cutM i j) := nr rfl
@[simp] theorem ev_slr (a : E) : ev Φ (.slr a) env = bnd (ev Φ a env) fun r => asD r revM := nr rfl
@[simp] theorem ev_isi (a : E) (t : Ty) : ev Φ (.isi a t) env = bnd (ev Φ a env) fun r => isiR r t := nr rfl
@[simp] theorem ev_blt (f : BF) (es : List E) : ev Φ (.blt f es) env = bnd (evs Φ es env) fun rs => bfM f rs := nr rfl
@[simp] theorem ev_rngl (a : E) : ev Φ (.rngl a) env = bnd (ev Φ a env) fun r => asD r fun
    | .int n => guard (rangeOk 0 n) (ret (.fr (.lst (rangeL 0 n))))
    | _ => stk := nr rfl
@[simp] theorem ev_rngt (a : E) : ev Φ (.rngt a) env = bnd (ev Φ a env) fun r => asD r fun
    | .int n => guard (rangeOk 0 n) (ret (rd (.tuple (rangeL 0 n))))
    | _ => stk := nr rfl
@[simp] theorem ev_call (f : Str) (es : List E) : ev Φ (.call f es) env = bnd (evs Φ es env) fun rs => bnd (keepAll rs) fun xs => Φ f xs := nr rfl
@[simp] theorem ev_mth (m : MF) (o : E) (es : List E) : ev Φ (.mth m o es) env = bnd (ev Φ o env) fun r => guard (mthTy m r) (bnd (evs Φ es env) fun rs => mthM m r rs) := nr rfl
@[simp] theorem ev_bad : ev Φ .bad env = stk := nr rfl
@[simp] theorem ev_lc (elt : E) (tg : T) (it : I) (c : Option E) (ow : List Nat) : ev Φ (.lc elt tg it c ow) env = bnd (evi Φ it env) fun p => guard (wipeOk env ow) (bnd (lcL (lcB Φ elt tg c ow env) p.1) fun ys => ret (.fr (.lst ys))) := by
  cases c <;> rfl
@[simp] theorem evi_seq (e : E) : evi Φ (.seq e) env = bnd (ev Φ e env) fun r => asD r fun x => bnd (seqD x) fun xs => ret (xs, isBo r) := nr rfl
@[simp] theorem evi_rng1 (a : E) : evi Φ (.rng1 a) env = bnd (ev Φ a env) fun r => asD r fun
    | .int n => guard (rangeOk 0 n) (ret (rangeL 0 n, false))
    | _ => stk := nr rfl
@[simp] theorem evi_rng2 (a b : E) : evi Φ (.rng2 a b) env = bnd (ev Φ a env) fun r => bnd (ev Φ b env) fun s => asD r fun x => asD s fun y => match x, y with
    | .int i, .int j => guard (rangeOk i j) (ret (rangeL i j, false))
    | _, _ => stk := nr rfl
@[simp] theorem evi_enum (e : E) : evi Φ (.enum e) env = bnd (ev Φ e env) fun r => asD r fun x => bnd (enumD x) fun xs => ret (xs, isBo r) := nr rfl
@[simp] theorem evi_zip (a b : E) : evi Φ (.zip a b) env = bnd (ev Φ a env) fun r => bnd (ev Φ b env) fun s => asD r fun x => asD s fun y => guard (!isBo r && !isBo s) (bnd (zipD x y) fun xs => ret (xs, false)) := nr rfl
@[simp] theorem evi_zip3 (a b c : E) : evi Φ (.zip3 a b c) env = bnd (ev Φ a env) fun r => bnd (ev Φ b env) fun s => bnd (ev Φ c env) fun u => asD r fun x => asD s fun y => asD u fun z => guard (!isBo r && !isBo s && !isBo u) (bnd (seqD x) fun xs => bnd (seqD y) fun ys => bnd (seqD z) fun zs => ret (zip3L xs ys zs, false)) := nr rfl
@[simp] theorem ex_set (i : Nat) (e : E) : ex Φ is (.set i e) env = cat (ev Φ e env) env (setIt i env) := nr rfl
@[simp] theorem ex_setO (i : Nat) (e : E) : ex Φ is (.setO i e) env = cat (ev Φ e env) env (setOwn i env) := nr rfl
@[simp] theorem ex_par (l : List (Nat × Bool)) (es : List E) : ex Φ is (.par l es) env = cat (evs Φ es env) env fun rs => match parSet l rs env with
    | some env' => ret (.nx env')
    | none => stk := nr rfl
@[simp] theorem ex_parL (l : List (Nat × Option Int)) : ex Φ is (.parL l) env = ret (.nx (litSet l env)) := nr rfl
@[simp] theorem ex_unp (tg : T) (e : E) : ex Φ is (.unp tg e) env = cat (ev Φ e env) env fun r => asD r fun x => bnd (asgM tg x env) fun env' => ret (.nx env') := nr rfl
@[simp] theorem ex_setIx (i : Nat) (k e : E) : ex Φ is (.setIx i k e) env = cat (ev Φ e env) env fun r => ownL env i fun xs => cat (ev Φ k env) env fun q => intR q fun j => bnd (keepD r) fun y => bnd (setAt xs j y) fun ys => ret (.nx (env.set i (.own (.lst ys)))) := nr rfl
@[simp] theorem ex_aug (i : Nat) (op : BOp) (e : E) : ex Φ is (.aug i op e) env = bnd (slotR env i) fun q => cat (ev Φ e env) env fun r => bnd (augM op q r) fun z => ret (.nx (env.set i (.val z))) := nr rfl
@[simp] theorem ex_augIx (i : Nat) (k e : E) : ex Φ is (.augIx i k e) env = ownL env i fun _ => cat (ev Φ k env) env fun q => intR q fun j => ownL env i fun xs => bnd (getAt xs j) fun x => cat (ev Φ e env) env fun r => bnd (augM .add (.v (.d x)) r) fun z => vvD z fun y => ownL env i fun ys => bnd (setAt ys j y) fun zs => ret (.nx (env.set i (.own (.lst zs)))) := nr rfl
@[simp] theorem ex_ins (i : Nat) (k e : E) : ex Φ is (.ins i k e) env = ownL env i fun _ => cat (ev Φ k env) env fun q => intR q fun n => cat (ev Φ e env) env fun r => bnd (keepED r env) fun p => ownL p.2 i fun xs => guard (decide (0 ≤ n ∧ n < 2 ^ 63) && fits (xs.length + 1)) (ret (.nx (p.2.set i (.own (.lst (xs.take n.toNat ++ [p.1] ++ xs.drop n.toNat)))))) := nr rfl
@[simp] theorem ex_frz (i : Nat) (s : S) : ex Φ is (.frz i s) env = match env[i]? with
    | some (.own (.lst xs)) => ex Φ is s (env.set i (.val (.d (.list xs))))
    | _ => stk := nr rfl
@[simp] theorem ex_bad : ex Φ is .bad env = stk := nr rfl
@[simp] theorem ex_exp (e : E) : ex Φ is (.exp e) env = cat (ev Φ e env) env fun _ => ret (.nx env) := nr rfl
@[simp] theorem ex_app (i : Nat) (e : E) : ex Φ is (.app i e) env = ownL env i fun _ => cat (ev Φ e env) env fun r => bnd (keepED r env) fun p => ownL p.2 i fun xs => guard (fits (xs.length + 1)) (ret (.nx (p.2.set i (.own (.lst (xs ++ [p.1])))))) := nr rfl
@[simp] theorem ex_ext (i : Nat) (e : E) : ex Φ is (.ext i e) env = ownL env i fun xs => cat (ev Φ e env) env fun r => asD r fun
    | .list ys => guard (fits (xs.length + ys.length)) (ret (.nx (env.set i (.own (.lst (xs ++ ys))))))
    | _ => stk := nr rfl
@[simp] theorem ex_appPop (i j : Nat) (k : E) : ex Φ is (.appPop i j k) env = ownL env i fun _ => ownL env j fun ys => cat (ev Φ k env) env fun q => intR q fun n => bnd (popAt ys n) fun p => ownL (env.set j (.own (.lst p.2))) i fun xs =>
      guard (fits (xs.length + 1)) (ret (.nx ((env.set j (.own (.lst p.2))).set i (.own (.lst (xs ++ [p.1])))))) := nr rfl
@[simp] theorem ex_pop (tg : T) (i : Nat) : ex Φ is (.pop tg i none) env = ownL env i fun xs => bnd (popEnd xs) fun p => bnd (asgM tg p.1 (env.set i (.own (.lst p.2)))) fun env' => ret (.nx env') := nr rfl
@[simp] theorem ex_popk (tg : T) (i : Nat) (k : E) : ex Φ is (.pop tg i (some k)) env = ownL env i fun xs => cat (ev Φ k env) env fun q => intR q fun n => bnd (popAt xs n) fun p => bnd (asgM tg p.1 (env.set i (.own (.lst p.2)))) fun env' => ret (.nx env') := nr rfl
@[simp] theorem ex_ife (c : E) (a b : List S) : ex Φ is (.ife c a b) env = cat (bnd (ev Φ c env) truR) env (brF Φ is a b env) := nr rfl
@[simp] theorem ex_whl (c : E) (b : List S) : ex Φ is (.whl c b) env = whileF (whlC Φ c) (whlB Φ is b) FUEL env := nr rfl
@[simp] theorem ex_for (tg : T) (it : I) (b : List S) : ex Φ is (.for_ tg it b) env = cat (evi Φ it env) env fun p => guard (!p.2) (forL (bodyF Φ is tg b) p.1 env) := nr rfl
@[simp] theorem ex_ret (e : E) : ex Φ is (.ret e) env = cat (ev Φ e env) env fun r => ret (.rt (match r with
    | .bo _ o => .fr o
    | r => r)) := nr rfl
@[simp] theorem ex_retN : ex Φ is .retN env = ret (.rt (rd .none)) := nr rfl
@[simp] theorem ex_rai (x : Str) : ex Φ is (.rai x) env = ret (.xc x env) := nr rfl
@[simp] theorem ex_tryS (b : List S) (hs : List (Str × Nat × Str)) : ex Φ is (.tryS b hs) env = tryM (exB Φ is b env) hs is := nr rfl
end
@[simp] theorem addD_i (i j : Int) : addD (.int i) (.int j) = ret (rd (.int (i + j))) := nr rfl
@[simp] theorem addD_p (xs ys : List D) : addD (.tuple xs) (.tuple ys) = guard (fits (xs.length + ys.length)) (ret (rd (.tuple (xs ++ ys)))) := nr rfl
@[simp] theorem addD_l (xs ys : List D) : addD (.list xs) (.list ys) = guard (fits (xs.length + ys.length)) (ret (.fr (.lst (xs ++ ys)))) := nr rfl
@[simp] theorem addD_s (x y : Str) : addD (.str x) (.str y) = guard (fits (x.length + y.length)) (ret (rd (.str (x ++ y)))) := nr rfl
@[simp] theorem lenM_l (xs : List D) : lenM (.list xs) = ret (rd (.int xs.length)) := nr rfl
@[simp] theorem lenM_p (xs : List D) : lenM (.tuple xs) = ret (rd (.int xs.length)) := nr rfl
@[simp] theorem lenM_s (x : Str) : lenM (.str x) = guard (fits x.length) (ret (rd (.int x.length))) := nr rfl
@[simp] theorem seqD_l (xs : List D) : seqD (.list xs) = ret xs := nr rfl
@[simp] theorem seqD_p (xs : List D) : seqD (.tuple xs) = ret xs := nr rfl
@[simp] theorem enumD_l (xs : List D) : enumD (.list xs) = ret (enumL 0 xs) := nr rfl
@[simp] theorem enumD_p (xs : List D) : enumD (.tuple xs) = ret (enumL 0 xs) := nr rfl
@[simp] theorem ixM_l (xs : List D) (i : Int) : ixM (.list xs) (.int i) = match L2.atI xs i with
    | some x => ret (rd x)
    | none => stk := nr rfl
@[simp] theorem ixM_p (xs : List D) (i : Int) : ixM (.tuple xs) (.int i) = match L2.atI xs i with
    | some x => ret (rd x)
    | none => stk := nr rfl
@[simp] theorem ixM_s (z : Str) (i : Int) : ixM (.str z) (.int i) = guard (fits z.length) (match L2.atI z.cps.toList i with
    | some c => ret (rd (.str ⟨#[c]⟩))
    | none => stk) := nr rfl
@[simp] theorem truD_n : truD .none = ret false := nr rfl
@[simp] theorem truD_b (b : Bool) : truD (.bool b) = ret b := nr rfl
@[simp] theorem truD_i (i : Int) : truD (.int i) = ret (i != 0) := nr rfl
@[simp] theorem truD_s (x : Str) : truD (.str x) = guard (fits x.length) (ret ((x.length : Int) != 0)) := nr rfl
@[simp] theorem truD_l (xs : List D) : truD (.list xs) = ret (!xs.isEmpty) := nr rfl
@[simp] theorem truD_p (xs : List D) : truD (.tuple xs) = ret (!xs.isEmpty) := nr rfl
@[simp] theorem tupleM_li (xs : List D) : tupleM (.list xs) = ret (rd (.tuple xs)) := nr rfl
@[simp] theorem tupleM_p (xs : List D) : tupleM (.tuple xs) = ret (rd (.tuple xs)) := nr rfl
@[simp] theorem listM_l (xs : List D) : listM (.list xs) = ret (.fr (.lst xs)) := nr rfl
@[simp] theorem listM_p (xs : List D) : listM (.tuple xs) = ret (.fr (.lst xs)) := nr rfl
@[simp] theorem isTy_n (t : Ty) : isTy t .none = false := by cases t <;> rfl
@[simp] theorem isTy_i (t : Ty) (i : Int) : isTy t (.int i) = decide (t = .int) := by cases t <;> rfl
@[simp] theorem isTy_b (t : Ty) (i : Bool) : isTy t (.bool i) = (decide (t = .int) || decide (t = .bool)) := by cases t <;> rfl
@[simp] theorem isTy_s (t : Ty) (i : Str) : isTy t (.str i) = decide (t = .str) := by cases t <;> rfl
@[simp] theorem isTy_l (t : Ty) (i : List D) : isTy t (.list i) = decide (t = .list) := by cases t <;> rfl
@[simp] theorem isTy_p (t : Ty) (i : List D) : isTy t (.tuple i) = decide (t = .tuple) := by cases t <;> rfl
@[simp] theorem isNone_n : isNoneD .none = true := nr rfl
@[simp] theorem isNone_i (i : Int) : isNoneD (.int i) = false := nr rfl
@[simp] theorem isNone_b (i : Bool) : isNoneD (.bool i) = false := nr rfl
@[simp] theorem isNone_s (i : Str) : isNoneD (.str i) = false := nr rfl
@[simp] theorem isNone_l (i : List D) : isNoneD (.list i) = false := nr rfl
@[simp] theorem isNone_p (i : List D) : isNoneD (.tuple i) = false := nr rfl
@[simp] theorem cutM_l (lo hi : Option Int) (xs : List D) : cutM lo hi (.list xs) = ret (.fr (.lst (cutL xs lo hi))) := nr rfl
@[simp] theorem cutM_p (lo hi : Option Int) (xs : List D) : cutM lo hi (.tuple xs) = ret (rd (.tuple (cutL xs lo hi))) := nr rfl
@[simp] theorem revM_l (xs : List D) : revM (.list xs) = ret (.fr (.lst xs.reverse)) := nr rfl
@[simp] theorem revM_p (xs : List D) : revM (.tuple xs) = ret (rd (.tuple xs.reverse)) := nr rfl
@[simp] theorem negD_i (i : Int) : negD (.int i) = ret (rd (.int (-i))) := nr rfl
@[simp] theorem asgM_nm (i : Nat) (x : D) (env : Env) : asgM (.nm i) x env = ret (env.set i (.val (.d x))) := nr rfl
@[simp] theorem asgM_t2 (i j : Nat) (x y : D) (env : Env) : asgM (.tp [.nm i, .nm j]) (.tuple [x, y]) env = ret ((env.set i (.val (.d x))).set j (.val (.d y))) := nr rfl
@[simp] theorem asgM_t3 (i j l : Nat) (x y z : D) (env : Env) : asgM (.tp [.nm i, .nm j, .nm l]) (.tuple [x, y, z]) env = ret (((env.set i (.val (.d x))).set j (.val (.d y))).set l (.val (.d z))) := nr rfl
@[simp] theorem asgM_l2 (i j : Nat) (x y : D) (env : Env) : asgM (.tp [.nm i, .nm j]) (.list [x, y]) env = ret ((env.set i (.val (.d x))).set j (.val (.d y))) := nr rfl
@[simp] theorem asgM_l3 (i j l : Nat) (x y z : D) (env : Env) : asgM (.tp [.nm i, .nm j, .nm l]) (.list [x, y, z]) env = ret (((env.set i (.val (.d x))).set j (.val (.d y))).set l (.val (.d z))) := nr rfl
theorem cat_raise' {α : Type} (x : Str) (env : Env) (k : α → M Fl) : cat (raise x) env k = ret (.xc x env) := nr rfl
theorem bnd_congr {α β : Type} {m : M α} {a : α} {f : α → M β} (h : m = ret a) : bnd m f = f a := by rw [h]; rfl
@[simp] theorem guard_stk {α : Type} (m : M α) : guard false m = stk := nr rfl
@[simp] theorem guard_dec {α : Type} (p : Prop) [Decidable p] (m : M α) (h : p) : guard (decide p) m = m := by simp [guard, h]
@[simp] theorem noX_ite' {α : Type} (c : Prop) [Decidable c] (a b : α) : noX (if c then ret a else ret b) = if c then ret a else ret b := by split <;> rfl
/-- comprehensions over any list -/
def lcG {α : Type} (f : α → M (Option D)) : List α → M (List D)
  | [] => ret []
  | x :: xs => bnd (f x) fun o => bnd (lcG f xs) fun r => ret (match o with
    | some y => y :: r
    | none => r)
@[simp] theorem lcB_at (Φ : Str → List Vv → M RV) (elt : E) (tg : T) (ow : List Nat) (env : Env) (x : D) : lcB Φ elt tg none ow env x = noX (bnd (asgM tg x (wipeE env ow)) fun env1 => bnd (ev Φ elt env1) fun r => bnd (keepD r) fun y => ret (some y)) := nr rfl
@[simp] theorem lcB_if (Φ : Str → List Vv → M RV) (elt c : E) (tg : T) (ow : List Nat) (env : Env) (x : D) : lcB Φ elt tg (some c) ow env x = noX (bnd (asgM tg x (wipeE env ow)) fun env1 => bnd (bnd (ev Φ c env1) truR) fun b => if b = true then bnd (ev Φ elt env1) fun r => bnd (keepD r) fun y => ret (some y) else ret none) := nr rfl
theorem lcL_map {α : Type} (f : D → M (Option D)) (h : α → D) : ∀ xs : List α, lcL f (xs.map h) = lcG (fun x => f (h x)) xs
  | [] => rfl
  | x :: xs => by unfold lcG; rw [List.map_cons]; unfold lcL; rw [lcL_map f h xs]; try rfl
theorem lcG_congr {α : Type} {f g : α → M (Option D)} : ∀ {xs : List α}, (∀ x ∈ xs, f x = g x) → lcG f xs = lcG g xs
  | [], _ => rfl
  | x :: xs, h => by unfold lcG; rw [h x List.mem_cons_self, lcG_congr fun y hy => h y (List.mem_cons_of_mem _ hy)]
theorem lcG_fm {α : Type} (g : α → Option D) : ∀ xs : List α, lcG (fun x => ret (g x)) xs = ret (xs.filterMap g)
  | [] => rfl
  | x :: xs => by unfold lcG; rw [lcG_fm g xs, List.filterMap_cons]; cases g x <;> rfl
@[simp] theorem lcG_nil {α : Type} (f : α → M (Option D)) : lcG f [] = ret [] := nr rfl
@[simp] theorem lcL_nil (f : D → M (Option D)) : lcL f [] = ret [] := nr rfl
@[simp] theorem lcG_map {α : Type} (g : α → D) (xs : List α) : lcG (fun x => ret (some (g x))) xs = ret (xs.map g) := by
  rw [lcG_fm]; congr 1; induction xs with
  | nil => rfl
  | cons x xs ih => rw [List.filterMap_cons, List.map_cons, ih]
@[simp] theorem lcG_if {α : Type} (c : α → Prop) [DecidablePred c] (g : α → D) (xs : List α) : lcG (fun x => if c x then ret (some (g x)) else ret none) xs = ret ((xs.filter fun x => decide (c x)).map g) := by
  induction xs with
  | nil => rfl
  | cons x xs ih =>
    unfold lcG
    rw [ih, List.filter_cons]
    by_cases h : c x
    · simp [h]
    · simp [h]
@[simp] theorem lcG_ifn {α : Type} (c : α → Prop) [DecidablePred c] (g : α → D) (xs : List α) : lcG (fun x => if c x then ret none else ret (some (g x))) xs = ret ((xs.filter fun x => !decide (c x)).map g) := by
  induction xs with
  | nil => rfl
  | cons x xs ih =>
    unfold lcG
    rw [ih, List.filter_cons]
    by_cases h : c x
    · simp [h]
    · simp [h]
theorem lcG_on {α : Type} {f : α → M (Option D)} {xs : List α} (c : α → Prop) [DecidablePred c] (g : α → D) (h : ∀ x ∈ xs, f x = if c x then ret (some (g x)) else ret none) : lcG f xs = ret ((xs.filter fun x => decide (c x)).map g) := (lcG_congr h).trans (lcG_if c g xs)
theorem lcG_mapon {α : Type} {f : α → M (Option D)} {xs : List α} (g : α → D) (h : ∀ x ∈ xs, f x = ret (some (g x))) : lcG f xs = ret (xs.map g) := (lcG_congr h).trans (lcG_map g xs)
theorem lcL_range (f : D → M (Option D)) (a b : Int) : lcL f (rangeL a b) = lcG (fun i : Nat => f (.int (a + (i : Nat)))) (List.range (b - a).toNat) := lcL_map f _ _
/-- loops -/
def forG {α : Type} (f : α → Env → M Fl) : List α → Env → M Fl
  | [], env => ret (.nx env)
  | x :: xs, env => seqF (f x env) (forG f xs)
theorem forL_map {α : Type} (f : D → Env → M Fl) (h : α → D) : ∀ (xs : List α), forL f (xs.map h) = forG (fun x => f (h x)) xs
  | [] => rfl
  | x :: xs => by
    funext env
    unfold forG
    rw [List.map_cons]
    unfold forL
    rw [forL_map f h xs]
theorem forL_range (f : D → Env → M Fl) (a b : Int) : forL f (rangeL a b) = forG (fun i : Nat => f (.int (a + (i : Nat)))) (List.range (b - a).toNat) := forL_map f _ _
/-- a loop that runs through, by an invariant -/
theorem forG_inv {α : Type} {f : α → Env → M Fl} (P : List α → Env → Prop) : ∀ (xs : List α) (done : List α) (env : Env), P done env → (∀ (d : List α) (x : α) (r : List α) (env : Env), done ++ xs = d ++ x :: r → P d env → ∃ env', f x env = ret (.nx env') ∧ P (d ++ [x]) env') → ∃ env', forG f xs env = ret (.nx env') ∧ P (done ++ xs) env'
  | [], done, env, h, _ => ⟨env, rfl, by rw [List.append_nil]; exact h⟩
  | x :: xs, done, env, h, k => by
    obtain ⟨env', e, h'⟩ := k done x xs env rfl h
    obtain ⟨env2, e2, h2⟩ := forG_inv P xs (done ++ [x]) env' h' fun d y r env eq hp => k d y r env (by rw [← eq]; simp) hp
    refine ⟨env2, ?_, by simpa using h2⟩
    unfold forG
    rw [e]
    exact e2
/-- what a def's call is -/
theorem call_ok {m : M RV} {a : RV} {k : RV → M RV} (h : m = ret a) : bnd m k = k a := by rw [h]; rfl
end Pv
namespace Pv
open PySem
/-! ### data of ints -/
theorem depth_ints : ∀ k : List Int, PyData.depthAll (k.map .int) ≤ 1
  | [] => by simp [PyData.depthAll]
  | x :: k => by
    have := depth_ints k
    rw [List.map_cons]
    simp [PyData.depthAll, PyData.depth]
    omega
theorem lay_ints : ∀ k : List Int, PyData.canLayAll0 (k.map .int) = true
  | [] => rfl
  | x :: k => by rw [List.map_cons]; simp [PyData.canLayAll0, PyData.canLay0, lay_ints k]
theorem depth_tups : ∀ ks : List (List Int), PyData.depthAll (ks.map tupD) ≤ 2
  | [] => by simp [PyData.depthAll]
  | k :: ks => by
    have := depth_tups ks
    have h := depth_ints k
    rw [List.map_cons]
    simp only [PyData.depthAll, tupD, PyData.depth]
    omega
theorem lay_tups : ∀ ks : List (List Int), PyData.canLayAll0 (ks.map tupD) = true
  | [] => rfl
  | k :: ks => by rw [List.map_cons]; simp [PyData.canLayAll0, PyData.canLay0, tupD, lay_ints k, lay_tups ks]
@[simp] theorem shaped_int (i : Int) : SeqAt.shaped (.int i) = true := by simp [SeqAt.shaped, PyData.canLay0, PyData.depth]
@[simp] theorem shaped_bool (i : Bool) : SeqAt.shaped (.bool i) = true := by simp [SeqAt.shaped, PyData.canLay0, PyData.depth]
@[simp] theorem shaped_none : SeqAt.shaped .none = true := by simp [SeqAt.shaped, PyData.canLay0, PyData.depth]
@[simp] theorem shaped_tup (k : List Int) : SeqAt.shaped (.tuple (k.map .int)) = true := by
  have := depth_ints k
  simp [SeqAt.shaped, PyData.canLay0, PyData.depth, lay_ints]
  omega
@[simp] theorem shaped_lst (k : List Int) : SeqAt.shaped (.list (k.map .int)) = true := by
  have := depth_ints k
  simp [SeqAt.shaped, PyData.canLay0, PyData.depth, lay_ints]
  omega
@[simp] theorem shaped_tupD (k : List Int) : SeqAt.shaped (tupD k) = true := shaped_tup k
@[simp] theorem shaped_tups (ks : List (List Int)) : SeqAt.shaped (.list (ks.map tupD)) = true := by
  have := depth_tups ks
  simp [SeqAt.shaped, PyData.canLay0, PyData.depth, lay_tups]
  omega
@[simp] theorem eqv_int (a b : Int) : PyData.eqv (.int a) (.int b) = decide (a = b) := by
  rw [Bool.eq_iff_iff]
  simp [PyData.eqv]
@[simp] theorem eqv_bool (a b : Bool) : PyData.eqv (.bool a) (.bool b) = decide (a = b) := by
  rw [Bool.eq_iff_iff]
  simp [PyData.eqv]
theorem eqv_ints : ∀ a b : List Int, PyData.eqvAll (a.map .int) (b.map .int) = decide (a = b)
  | [], [] => by simp [PyData.eqvAll]
  | [], _ :: _ => by simp [PyData.eqvAll]
  | _ :: _, [] => by simp [PyData.eqvAll]
  | x :: a, y :: b => by
    rw [List.map_cons, List.map_cons]
    simp only [PyData.eqvAll, eqv_int, eqv_ints a b]
    by_cases h : x = y <;> by_cases g : a = b <;> simp [h, g]
@[simp] theorem eqv_tup (a b : List Int) : PyData.eqv (.tuple (a.map .int)) (.tuple (b.map .int)) = decide (a = b) := by
  simp only [PyData.eqv, eqv_ints]
@[simp] theorem eqv_lst (a b : List Int) : PyData.eqv (.list (a.map .int)) (.list (b.map .int)) = decide (a = b) := by
  simp only [PyData.eqv, eqv_ints]
@[simp] theorem eqv_tupD (a b : List Int) : PyData.eqv (tupD a) (tupD b) = decide (a = b) := eqv_tup a b
theorem eqv_tups : ∀ a b : List (List Int), PyData.eqvAll (a.map tupD) (b.map tupD) = decide (a = b)
  | [], [] => by simp [PyData.eqvAll]
  | [], _ :: _ => by simp [PyData.eqvAll]
  | _ :: _, [] => by simp [PyData.eqvAll]
  | x :: a, y :: b => by
    rw [List.map_cons, List.map_cons]
    simp only [PyData.eqvAll, eqv_tupD, eqv_tups a b]
    by_cases h : x = y <;> by_cases g : a = b <;> simp [h, g]
@[simp] theorem eqv_ltups (a b : List (List Int)) : PyData.eqv (.list (a.map tupD)) (.list (b.map tupD)) = decide (a = b) := by
  simp only [PyData.eqv, eqv_tups]
theorem inD_int (x : Int) : ∀ k : List Int, inD (.int x) (k.map .int) = decide (x ∈ k)
  | [] => rfl
  | y :: k => by
    have ih := inD_int x k
    unfold inD at ih ⊢
    rw [List.map_cons, List.any_cons, ih, eqv_int]
    by_cases h : y = x
    · simp [h]
    · have : ¬ x = y := fun z => h z.symm
      simp [h, this]
theorem inD_tup (x : List Int) : ∀ k : List (List Int), inD (tupD x) (k.map tupD) = decide (x ∈ k)
  | [] => rfl
  | y :: k => by
    have ih := inD_tup x k
    unfold inD at ih ⊢
    rw [List.map_cons, List.any_cons, ih, eqv_tupD]
    by_cases h : y = x
    · simp [h]
    · have : ¬ x = y := fun z => h z.symm
      simp [h, this]
theorem flat_ints (k : List Int) : (k.map PyData.int).all flatD = true := by
  simp [flatD, List.all_eq_true]
@[simp] theorem in_tup (b : Bool) (x : Int) (k : List Int) : inM b (.int x) (.tuple (k.map .int)) = ret (rd (.bool (decide (x ∈ k) == b))) := by
  unfold inM
  simp only [flat_ints, inD_int]
  rfl
@[simp] theorem in_lst (b : Bool) (x : Int) (k : List Int) : inM b (.int x) (.list (k.map .int)) = ret (rd (.bool (decide (x ∈ k) == b))) := by
  unfold inM
  simp [inD_int]
@[simp] theorem in_tups (b : Bool) (x : List Int) (k : List (List Int)) : inM b (tupD x) (.list (k.map tupD)) = ret (rd (.bool (decide (x ∈ k) == b))) := by
  unfold inM
  simp [inD_tup]
@[simp] theorem in_tups' (b : Bool) (x : List Int) (k : List (List Int)) : inM b (.tuple (x.map .int)) (.list (k.map tupD)) = ret (rd (.bool (decide (x ∈ k) == b))) := in_tups b x k
@[simp] theorem eq_M (x y : D) (h : eqOk x y = true) : eqD x y = ret (rd (.bool (PyData.eqv x y))) := by unfold eqD; rw [h]; rfl
@[simp] theorem ne_M (x y : D) (h : eqOk x y = true) : neD x y = ret (rd (.bool (!PyData.eqv x y))) := by unfold neD; rw [h]; rfl
@[simp] theorem intsOf_map : ∀ k : List Int, intsOf (k.map .int) = some k
  | [] => rfl
  | x :: k => by rw [List.map_cons]; unfold intsOf; rw [intsOf_map k]; rfl
@[simp] theorem tupsOf_map : ∀ ks : List (List Int), tupsOf (ks.map tupD) = some ks
  | [] => rfl
  | k :: ks => by rw [List.map_cons]; unfold tupsOf; simp only [tupD]; rw [intsOf_map k]; show (match some k, tupsOf (ks.map tupD) with | some k, some ks => some (k :: ks) | _, _ => none) = _; rw [tupsOf_map ks]
end Pv
namespace Pv
open PySem
theorem exB_step {Φ : Str → List Vv → M RV} {is : Str → Str → Bool} {s : S} {ss : List S} {env env' : Env} (h : ex Φ is s env = ret (.nx env')) : exB Φ is (s :: ss) env = exB Φ is ss env' := by
  show seqF (ex Φ is s env) _ = _
  rw [h]
  rfl
end Pv
/-! Pv26: loops by what was done; indices. -/
namespace Pv
open PySem L2
/-- a loop's own slot behind some turns -/
def jk {α : Type} (s0 : Slot) (h : α → D) (done : List α) : Slot := match done.getLast? with
  | none => s0
  | some x => .val (.d (h x))
@[simp] theorem jk_nil {α : Type} (s0 : Slot) (h : α → D) : jk s0 h [] = s0 := nr rfl
@[simp] theorem jk_snoc {α : Type} (s0 : Slot) (h : α → D) (d : List α) (x : α) : jk s0 h (d ++ [x]) = .val (.d (h x)) := by
  unfold jk
  rw [List.getLast?_append]
  rfl
theorem forG_at' {α : Type} {f : α → Env → M Fl} (E : List α → Env) : ∀ (xs d : List α), (∀ (d' : List α) (x : α) (r : List α), d ++ xs = d' ++ x :: r → f x (E d') = ret (.nx (E (d' ++ [x])))) → forG f xs (E d) = ret (.nx (E (d ++ xs)))
  | [], d, _ => by rw [List.append_nil]; rfl
  | x :: xs, d, h => by
    unfold forG
    rw [h d x xs rfl]
    have := forG_at' E xs (d ++ [x]) fun d' y r e => h d' y r (by rw [← e]; simp)
    rw [seqF_nx, this]
    simp
theorem forG_at {α : Type} {f : α → Env → M Fl} (E : List α → Env) (xs : List α) (h : ∀ (d : List α) (x : α) (r : List α), xs = d ++ x :: r → f x (E d) = ret (.nx (E (d ++ [x])))) : forG f xs (E []) = ret (.nx (E xs)) := by
  have := forG_at' E xs [] fun d x r e => h d x r e
  simpa using this
theorem forL_at {α : Type} {f : D → Env → M Fl} (h : α → D) (E : List α → Env) (xs : List α) (k : ∀ (d : List α) (x : α) (r : List α), xs = d ++ x :: r → f (h x) (E d) = ret (.nx (E (d ++ [x])))) : forL f (xs.map h) (E []) = ret (.nx (E xs)) := by
  rw [forL_map]
  exact forG_at E xs k
theorem whileF_at {c : Env → M Bool} {f : Env → M Fl} (E : Nat → Env) (m : Nat) (hc : ∀ i, i < m → c (E i) = ret true) (hf : ∀ i, i < m → f (E i) = ret (.nx (E (i + 1)))) (he : c (E m) = ret false) : ∀ (n i : Nat), i ≤ m → m - i < n → whileF c f n (E i) = ret (.nx (E m))
  | 0, i, _, h => absurd h (Nat.not_lt_zero _)
  | n + 1, i, h1, h2 => by
    unfold whileF
    by_cases z : i = m
    · subst z
      rw [he]
      rfl
    · have hi : i < m := by omega
      rw [hc i hi]
      show seqF (f (E i)) (whileF c f n) = _
      rw [hf i hi]
      exact whileF_at E m hc hf he n (i + 1) (by omega) (by omega)
theorem ixNn {n i : Nat} (h : i < n) : ixN n (i : Int) = some i := by
  unfold ixN
  rw [if_pos (by omega), if_pos (by omega)]
  simp
theorem atN {α : Type} {xs : List α} {i : Nat} {x : α} (h : xs[i]? = some x) : atI xs (i : Int) = some x := by
  have hl : i < xs.length := (List.getElem?_eq_some_iff.mp h).1
  unfold atI
  rw [ixNn hl]
  exact h
@[simp] theorem atI_zero {α : Type} (x : α) (xs : List α) : atI (x :: xs) 0 = some x := atN (i := 0) rfl
@[simp] theorem lcG_none {α : Type} : ∀ xs : List α, lcG (fun _ => ret none) xs = ret []
  | [] => rfl
  | x :: xs => by unfold lcG; rw [lcG_none xs]; rfl
/-- an item by an int -/
def gd (d : List Int) (a : Int) : Int := d.getD a.toNat 0
theorem gd_mem {d : List Int} {a : Int} (h0 : 0 ≤ a) (h1 : a < d.length) : gd d a ∈ d := by
  unfold gd
  rw [List.getD_eq_getElem?_getD, List.getElem?_eq_getElem (by omega)]
  exact List.getElem_mem _
theorem atI_gd {d : List Int} {a : Int} (h0 : 0 ≤ a) (h1 : a < d.length) : atI (d.map PyData.int) a = some (.int (gd d a)) := by
  obtain ⟨n, rfl⟩ : ∃ n : Nat, a = n := ⟨a.toNat, by omega⟩
  refine atN ?_
  have h : n < d.length := by omega
  rw [List.getElem?_map, List.getElem?_eq_getElem h]
  unfold gd
  rw [List.getD_eq_getElem?_getD]
  simp [List.getElem?_eq_getElem h]
theorem ixM_gd {d : List Int} {a : Int} (h0 : 0 ≤ a) (h1 : a < d.length) : ixM (.tuple (d.map .int)) (.int a) = ret (rd (.int (gd d a))) := by
  show (match atI (d.map PyData.int) a with | some x => ret (rd x) | none => stk) = _
  rw [atI_gd h0 h1]
theorem ixM_gdl {d : List Int} {a : Int} (h0 : 0 ≤ a) (h1 : a < d.length) : ixM (.list (d.map .int)) (.int a) = ret (rd (.int (gd d a))) := by
  show (match atI (d.map PyData.int) a with | some x => ret (rd x) | none => stk) = _
  rw [atI_gd h0 h1]
theorem atI_map' {α : Type} (f : α → D) {xs : List α} {i : Nat} {x : α} (h : xs[i]? = some x) : atI (xs.map f) (i : Int) = some (f x) := atN (by rw [List.getElem?_map, h]; rfl)
theorem enumL_map {α : Type} (h : α → D) : ∀ (xs : List α) (n : Nat), enumL n (xs.map h) = (xs.zipIdx n).map fun p => .tuple [.int (p.2 : Nat), h p.1]
  | [], _ => rfl
  | x :: xs, n => by
    rw [List.map_cons, List.zipIdx_cons, List.map_cons, ← enumL_map h xs (n + 1)]
    rfl
theorem cut_take {α : Type} (xs : List α) (n : Nat) : cutL xs none (some (n : Int)) = xs.take n := by
  unfold cutL
  have e1 : HT.sIx xs.length 0 none = 0 := rfl
  have e2 : HT.sIx xs.length xs.length (some (n : Int)) = min n xs.length := by
    simp [HT.sIx] <;> omega
  rw [e1, e2]
  simp
theorem cut_drop {α : Type} (xs : List α) (n : Nat) : cutL xs (some (n : Int)) none = xs.drop n := by
  unfold cutL
  have e1 : HT.sIx xs.length 0 (some (n : Int)) = min n xs.length := by
    simp [HT.sIx] <;> omega
  have e2 : HT.sIx xs.length xs.length none = xs.length := rfl
  rw [e1, e2]
  by_cases h : n ≤ xs.length
  · rw [Nat.min_eq_left h, List.take_of_length_le (by simp)]
  · rw [List.drop_eq_nil_of_le (by omega : xs.length ≤ min n xs.length), List.drop_eq_nil_of_le (by omega : xs.length ≤ n)]
    simp
theorem fits_le' {n : Nat} (h : n ≤ 16777216) : fits n = true := decide_eq_true h
theorem rangeOk_le {a b : Int} (h : -1000000 ≤ a ∧ a ≤ 1000000 ∧ -1000000 ≤ b ∧ b ≤ 1000000) : rangeOk a b = true := decide_eq_true h
@[simp] theorem eqv_nn : PyData.eqv .none .none = true := by simp [PyData.eqv]
@[simp] theorem eqv_ni (i : Int) : PyData.eqv .none (.int i) = false := by simp [PyData.eqv]
@[simp] theorem eqv_in (i : Int) : PyData.eqv (.int i) .none = false := by simp [PyData.eqv]
@[simp] theorem eqv_ll0 : PyData.eqv (.list []) (.list []) = true := by simp [PyData.eqv, PyData.eqvAll]
@[simp] theorem shaped_l0 : SeqAt.shaped (.list []) = true := by decide
/-! ### tuples of ints, kept folded -/
theorem cut_tk {α : Type} (xs : List α) (n : Int) (h : 0 ≤ n) : cutL xs none (some n) = xs.take n.toNat := by
  obtain ⟨m, rfl⟩ : ∃ m : Nat, n = m := ⟨n.toNat, by omega⟩
  rw [cut_take]
  simp
theorem cut_dr {α : Type} (xs : List α) (n : Int) (h : 0 ≤ n) : cutL xs (some n) none = xs.drop n.toNat := by
  obtain ⟨m, rfl⟩ : ∃ m : Nat, n = m := ⟨n.toNat, by omega⟩
  rw [cut_drop]
  simp
theorem cutL_map {α β : Type} (f : α → β) (xs : List α) (lo hi : Option Int) : cutL (xs.map f) lo hi = (cutL xs lo hi).map f := by
  unfold cutL
  rw [List.length_map, List.map_take, List.map_drop]
@[simp high] theorem cutL_all {α : Type} (xs : List α) : cutL xs none none = xs := by
  unfold cutL
  simp [HT.sIx]
section
variable (k l : List Int) (b : Bool) (x : Int)
@[simp high] theorem seqD_t : seqD (tupD k) = ret (k.map .int) := nr rfl
@[simp high] theorem lenM_t : lenM (tupD k) = ret (rd (.int k.length)) := by simp [tupD]
@[simp high] theorem isTy_t (t : Ty) : isTy t (tupD k) = decide (t = .tuple) := by cases t <;> rfl
@[simp high] theorem cutM_t (lo hi : Option Int) : cutM lo hi (tupD k) = ret (rd (tupD (cutL k lo hi))) := by
  show ret (rd (.tuple (cutL (k.map .int) lo hi))) = _
  rw [cutL_map]
  rfl
@[simp high] theorem addD_t : addD (tupD k) (tupD l) = guard (fits (k.length + l.length)) (ret (rd (tupD (k ++ l)))) := by
  simp [tupD]
@[simp high] theorem addD_t1 : addD (tupD k) (.tuple [.int x]) = guard (fits (k.length + 1)) (ret (rd (tupD (k ++ [x])))) := by
  simp [tupD]
@[simp high] theorem addD_1t : addD (.tuple [.int x]) (tupD k) = guard (fits (1 + k.length)) (ret (rd (tupD (x :: k)))) := by
  simp [tupD]
@[simp high] theorem truD_t : truD (tupD k) = ret (!k.isEmpty) := by simp [tupD]
@[simp high] theorem tupleM_l : tupleM (.list (k.map .int)) = ret (rd (tupD k)) := nr rfl
@[simp high] theorem tupleM_f {α : Type} (g : α → Int) (xs : List α) : tupleM (.list (xs.map fun y => .int (g y))) = ret (rd (tupD (xs.map g))) := by
  unfold tupD
  rw [List.map_map]
  rfl
@[simp high] theorem tupleM_t : tupleM (tupD k) = ret (rd (tupD k)) := nr rfl
@[simp high] theorem listM_t : listM (tupD k) = ret (.fr (.lst (k.map .int))) := nr rfl
@[simp high] theorem revM_t : revM (tupD k) = ret (rd (tupD k.reverse)) := by simp [tupD]
@[simp high] theorem inM_t : inM b (.int x) (tupD k) = ret (rd (.bool (decide (x ∈ k) == b))) := in_tup b x k
@[simp high] theorem dat_t : RV.dat (rd (tupD k)) = some (tupD k) := nr rfl
theorem ix_t {k : List Int} {a : Int} (h0 : 0 ≤ a) (h1 : a < k.length) : ixM (tupD k) (.int a) = ret (rd (.int (gd k a))) := ixM_gd h0 h1
@[simp high] theorem enumD_t : enumD (tupD k) = ret (enumL 0 (k.map .int)) := nr rfl
@[simp high] theorem lenSet_t : lenSetM (tupD k) = guard (decide (k.length ≤ 4000)) (ret (rd (.int ((uniqL k).length : Nat)))) := by
  unfold lenSetM tupD
  simp
@[simp high] theorem isNone_t : isNoneD (tupD k) = false := nr rfl
end
theorem tupD_f {α : Type} (g : α → Int) (xs : List α) : PyData.tuple (xs.map fun y => .int (g y)) = tupD (xs.map g) := by
  unfold tupD
  rw [List.map_map]
  rfl
theorem tupD_0 : PyData.tuple [] = tupD [] := rfl
end Pv
/-! Pv27: the least of data; guards by bounds. -/
namespace Pv
open PySem PySem.Spec PyProof.Rows L2
section
variable {α : Type} (key : α → List Int)
/-- the first one of the least key -/
def minK (m : α) : List α → α
  | [] => m
  | y :: ys => minK (if ltT (key y) (key m) = true then y else m) ys
theorem minK_mem : ∀ (xs : List α) (m : α), minK key m xs ∈ m :: xs
  | [], m => by simp [minK]
  | y :: ys, m => by
    unfold minK
    have := minK_mem ys (if ltT (key y) (key m) = true then y else m)
    rcases List.mem_cons.mp this with h | h
    · rw [h]
      split
      · exact List.mem_cons_of_mem _ List.mem_cons_self
      · exact List.mem_cons_self
    · exact List.mem_cons_of_mem _ (List.mem_cons_of_mem _ h)
theorem ltT_le_trans {a b c : List Int} (h : ltT b a = false) (g : ltT c b = false) : ltT c a = false := by
  rcases ltT_tri a b with z | z | z
  · rcases ltT_tri b c with y | y | y
    · have := ltT_trans z y
      rcases q : ltT c a with _ | _
      · rfl
      · have := ltT_trans this q; rw [ltT_irr] at this; cases this
    · subst y
      rcases q : ltT b a with _ | _
      · rfl
      · have := ltT_trans z q; rw [ltT_irr] at this; cases this
    · rw [g] at y; cases y
  · subst z; exact g
  · rw [h] at z; cases z
theorem minK_le : ∀ (xs : List α) (m : α), ∀ x ∈ m :: xs, ltT (key x) (key (minK key m xs)) = false
  | [], m, x, hx => by
    have : x = m := by simpa using hx
    subst this
    exact ltT_irr _
  | y :: ys, m, x, hx => by
    unfold minK
    have ih := minK_le ys (if ltT (key y) (key m) = true then y else m)
    have h0 := ih _ List.mem_cons_self
    have hm : ltT (key m) (key (if ltT (key y) (key m) = true then y else m)) = false := by
      split
      · rename_i c
        rcases q : ltT (key m) (key y) with _ | _
        · rfl
        · have := ltT_trans c q; rw [ltT_irr] at this; cases this
      · exact ltT_irr _
    have hy : ltT (key y) (key (if ltT (key y) (key m) = true then y else m)) = false := by
      split
      · exact ltT_irr _
      · rename_i c
        simpa using c
    rcases List.mem_cons.mp hx with rfl | hx
    · exact ltT_le_trans h0 hm
    · rcases List.mem_cons.mp hx with rfl | hx
      · exact ltT_le_trans h0 hy
      · exact ih x (List.mem_cons_of_mem _ hx)
theorem minK_uni (inj : ∀ x y : α, key x = key y → x = y) {xs : List α} {m b : α} (hb : b ∈ m :: xs) (h : ∀ x ∈ m :: xs, ltT (key x) (key b) = false) : minK key m xs = b := by
  have h1 := minK_mem key xs m
  have h2 := minK_le key xs m b hb
  have h3 := h _ h1
  rcases ltT_tri (key b) (key (minK key m xs)) with z | z | z
  · rw [h2] at z; cases z
  · exact (inj _ _ z).symm
  · rw [h3] at z; cases z
end
/-- pairs of an int and ints -/
abbrev PI := Int × List Int
def kP (p : PI) : List Int := p.1 :: p.2
theorem kP_inj (x y : PI) (h : kP x = kP y) : x = y := by
  cases x; cases y
  simp [kP] at h
  simp [h]
def minP : List PI → PI
  | [] => (0, [])
  | x :: xs => minK kP x xs
def minT : List (List Int) → List Int
  | [] => []
  | x :: xs => minK id x xs
def minZ : List Int → Int
  | [] => 0
  | x :: xs => minK (fun i => [i]) x xs
theorem minP_mem {xs : List PI} (h : xs ≠ []) : minP xs ∈ xs := by
  cases xs with
  | nil => exact absurd rfl h
  | cons x xs => exact minK_mem kP xs x
theorem minP_le {xs : List PI} : ∀ x ∈ xs, ltT (kP x) (kP (minP xs)) = false := by
  cases xs with
  | nil => exact fun _ h => nomatch h
  | cons x xs => exact minK_le kP xs x
theorem minP_uni {xs : List PI} {b : PI} (hb : b ∈ xs) (h : ∀ x ∈ xs, ltT (kP x) (kP b) = false) : minP xs = b := by
  cases xs with
  | nil => cases hb
  | cons x xs => exact minK_uni kP kP_inj hb h
theorem minP_congr {xs ys : List PI} (h : ∀ x, x ∈ xs ↔ x ∈ ys) : minP xs = minP ys := by
  by_cases z : ys = []
  · subst z
    have : xs = [] := by
      cases xs with
      | nil => rfl
      | cons x xs => exact absurd ((h x).mp List.mem_cons_self) (by simp)
    rw [this]
  · exact minP_uni ((h _).mpr (minP_mem z)) fun x hx => minP_le x ((h x).mp hx)
theorem minT_mem {xs : List (List Int)} (h : xs ≠ []) : minT xs ∈ xs := by
  cases xs with
  | nil => exact absurd rfl h
  | cons x xs => exact minK_mem id xs x
theorem minT_le {xs : List (List Int)} : ∀ x ∈ xs, ltT x (minT xs) = false := by
  cases xs with
  | nil => exact fun _ h => nomatch h
  | cons x xs => exact minK_le id xs x
theorem minT_uni {xs : List (List Int)} {b : List Int} (hb : b ∈ xs) (h : ∀ x ∈ xs, ltT x b = false) : minT xs = b := by
  cases xs with
  | nil => cases hb
  | cons x xs => exact minK_uni id (fun _ _ h => h) hb h
theorem minT_congr {xs ys : List (List Int)} (h : ∀ x, x ∈ xs ↔ x ∈ ys) : minT xs = minT ys := by
  by_cases z : ys = []
  · subst z
    have : xs = [] := by
      cases xs with
      | nil => rfl
      | cons x xs => exact absurd ((h x).mp List.mem_cons_self) (by simp)
    rw [this]
  · exact minT_uni ((h _).mpr (minT_mem z)) fun x hx => minT_le x ((h x).mp hx)
theorem ltT_one (a b : Int) : ltT [a] [b] = decide (a < b) := by simp [ltT]
theorem minZ_mem {xs : List Int} (h : xs ≠ []) : minZ xs ∈ xs := by
  cases xs with
  | nil => exact absurd rfl h
  | cons x xs => exact minK_mem _ xs x
theorem minZ_le {xs : List Int} : ∀ x ∈ xs, minZ xs ≤ x := by
  cases xs with
  | nil => exact fun _ h => nomatch h
  | cons y xs =>
    intro x hx
    have := minK_le (fun i : Int => [i]) xs y x hx
    rw [ltT_one] at this
    show minK _ y xs ≤ x
    have := of_decide_eq_false this
    omega
theorem minZ_uni {xs : List Int} {b : Int} (hb : b ∈ xs) (h : ∀ x ∈ xs, b ≤ x) : minZ xs = b := by
  have h1 := minZ_le b hb
  have h2 := h _ (minZ_mem (xs := xs) (fun z => by rw [z] at hb; cases hb))
  omega
/-- in plain words -/
theorem ltT_cons (a b : Int) (x y : List Int) : ltT (a :: x) (b :: y) = true ↔ a < b ∨ (a = b ∧ ltT x y = true) := by
  simp [ltT]
theorem ltT_consF (a b : Int) (x y : List Int) : ltT (a :: x) (b :: y) = false ↔ b ≤ a ∧ (a = b → ltT x y = false) := by
  rw [← Bool.not_eq_true, ltT_cons]
  constructor
  · intro h
    refine ⟨?_, fun e => ?_⟩
    · rcases Int.lt_or_le a b with z | z
      · exact absurd (.inl z) h
      · exact z
    · rcases q : ltT x y with _ | _
      · rfl
      · exact absurd (.inr ⟨e, q⟩) h
  · rintro ⟨h1, h2⟩ (z | ⟨z, q⟩)
    · omega
    · rw [h2 z] at q; cases q

/-! ### data by keys -/
theorem alikeAll_ints (a b : List Int) : PySem.W.alikeAll (a.map .int) (b.map .int) = true := PySem.W.alike_ints a b
theorem row_ints : ∀ a b : List Int, PyProof.Rows.lexLt PyProof.Rows.itemOrd (PySem.W.keyToksAll (a.map .int)) (PySem.W.keyToksAll (b.map .int)) = ltT a b := fun a b => by
  have h := PySem.W.dataLt_ints a b
  unfold PySem.W.rowLt at h
  rw [h]
  clear h
  induction a generalizing b with
  | nil => cases b with
    | nil => rfl
    | cons y b => simp [ltT]
  | cons x a ih => cases b with
    | nil => simp [ltT]
    | cons y b =>
      rw [Bool.eq_iff_iff]
      have := ih b
      rw [Bool.eq_iff_iff] at this
      simp only [decide_eq_true_eq] at this ⊢
      rw [List.cons_lt_cons_iff, ltT_cons, this]
theorem lt_tupD (a b : List Int) : PySem.W.dataLt (tupD a) (tupD b) = ltT a b := by
  unfold tupD
  rw [PySem.W.dataLt_tuple, row_ints]
theorem lt_lstD (a b : List Int) : PySem.W.dataLt (.list (a.map .int)) (.list (b.map .int)) = ltT a b := by
  rw [PySem.W.dataLt_list, row_ints]
/-- an int and ints -/
def pkL (p : PI) : D := .tuple [.int p.1, .list (p.2.map .int)]
def pkT (p : PI) : D := .tuple [.int p.1, tupD p.2]
theorem lt_pkL (p q : PI) : PySem.W.dataLt (pkL p) (pkL q) = ltT (kP p) (kP q) := by
  unfold pkL kP
  rw [PySem.W.dataLt_pair (by simp [PySem.W.alike]) (by simp [PySem.W.alike, alikeAll_ints]), PySem.W.dataLt_int, lt_lstD]
  by_cases h : p.1 = q.1
  · by_cases g : p.2 = q.2
    · simp [ltT, h, g, ltT_irr]
    · simp [ltT, h, g]
  · simp [ltT, h]
theorem lt_pkT (p q : PI) : PySem.W.dataLt (pkT p) (pkT q) = ltT (kP p) (kP q) := by
  unfold pkT kP
  rw [PySem.W.dataLt_pair (by simp [PySem.W.alike]) (by simp [PySem.W.alike, alikeAll_ints, tupD]), PySem.W.dataLt_int, lt_tupD]
  by_cases h : p.1 = q.1
  · by_cases g : p.2 = q.2
    · simp [ltT, h, g, ltT_irr]
    · simp [ltT, h, g]
  · simp [ltT, h]
theorem minD_key {α : Type} (f : α → D) (key : α → List Int) (h : ∀ x y, PySem.W.dataLt (f x) (f y) = ltT (key x) (key y)) : ∀ (xs : List α) (x : α), minD (f x) (xs.map f) = f (minK key x xs)
  | [], _ => rfl
  | y :: xs, x => by
    rw [List.map_cons]
    unfold minD minK
    rw [h, ← apply_ite f, minD_key f key h xs]
theorem listOk_map {α : Type} {f : α → D} {xs : List α} (h : ∀ x y, PySem.W.alike (f x) (f y) = true) (g : ∀ x, PyData.depth (f x) ≤ 5) (l : ∀ x, PyData.canLay0 (f x) = true) (n : ∀ x, isNoneD (f x) = false) : listOk (xs.map f) = true := by
  have d : ∀ ys : List α, PyData.depthAll (ys.map f) ≤ 5 ∧ PyData.canLayAll0 (ys.map f) = true := fun ys => by
    induction ys with
    | nil => simp [PyData.depthAll, PyData.canLayAll0]
    | cons y ys ih =>
      have := g y
      rw [List.map_cons]
      simp only [PyData.depthAll, PyData.canLayAll0, l, ih.2]
      exact ⟨by omega, rfl⟩
  obtain ⟨d1, d2⟩ := d xs
  have hs : SeqAt.shaped (.list (xs.map f)) = true := by
    simp only [SeqAt.shaped, PyData.canLay0, PyData.depth, d2]
    simp
    omega
  unfold listOk alikeB
  rw [hs]
  simp [h, n]
theorem minM_map {α : Type} (f : α → D) (key : α → List Int) (h : ∀ x y, PySem.W.dataLt (f x) (f y) = ltT (key x) (key y)) (h1 : ∀ x y, PySem.W.alike (f x) (f y) = true) (g : ∀ x, PyData.depth (f x) ≤ 5) (l : ∀ x, PyData.canLay0 (f x) = true) (n : ∀ x, isNoneD (f x) = false) (x : α) (xs : List α) : minM (.list ((x :: xs).map f)) = ret (rd (f (minK key x xs))) := by
  have := listOk_map (xs := x :: xs) h1 g l n
  rw [List.map_cons] at this ⊢
  show guard (listOk (f x :: xs.map f)) _ = _
  rw [this, minD_key f key h]
  rfl
theorem min_pkL {xs : List PI} (h : xs ≠ []) : minM (.list (xs.map pkL)) = ret (rd (pkL (minP xs))) := by
  cases xs with
  | nil => exact absurd rfl h
  | cons x xs =>
    refine minM_map pkL kP lt_pkL (fun x y => by simp [pkL, PySem.W.alike, PySem.W.alikeAll, alikeAll_ints]) (fun x => ?_) (fun x => by simp [pkL, PyData.canLay0, PyData.canLayAll0, lay_ints]) (fun _ => rfl) x xs
    have := depth_ints x.2
    simp [pkL, PyData.depth, PyData.depthAll]
    omega
theorem min_pkT {xs : List PI} (h : xs ≠ []) : minM (.list (xs.map pkT)) = ret (rd (pkT (minP xs))) := by
  cases xs with
  | nil => exact absurd rfl h
  | cons x xs =>
    refine minM_map pkT kP lt_pkT (fun x y => by simp [pkT, tupD, PySem.W.alike, PySem.W.alikeAll, alikeAll_ints]) (fun x => ?_) (fun x => by simp [pkT, tupD, PyData.canLay0, PyData.canLayAll0, lay_ints]) (fun _ => rfl) x xs
    have := depth_ints x.2
    simp [pkT, tupD, PyData.depth, PyData.depthAll]
    omega
theorem min_tupD {xs : List (List Int)} (h : xs ≠ []) : minM (.list (xs.map tupD)) = ret (rd (tupD (minT xs))) := by
  cases xs with
  | nil => exact absurd rfl h
  | cons x xs =>
    refine minM_map tupD id lt_tupD (fun x y => by simp [tupD, PySem.W.alike, alikeAll_ints]) (fun x => ?_) (fun x => by simp [tupD, PyData.canLay0, lay_ints]) (fun _ => rfl) x xs
    have := depth_ints x
    simp [tupD, PyData.depth]
    omega
theorem min_int {xs : List Int} (h : xs ≠ []) : minM (.list (xs.map .int)) = ret (rd (.int (minZ xs))) := by
  cases xs with
  | nil => exact absurd rfl h
  | cons x xs =>
    exact minM_map PyData.int (fun i => [i]) (fun x y => by rw [PySem.W.dataLt_int, ltT_one]) (fun x y => by simp [PySem.W.alike]) (fun x => by simp [PyData.depth]) (fun x => by simp [PyData.canLay0]) (fun _ => rfl) x xs
/-! ### loops by a state -/
theorem forL_fold {α β : Type} {f : D → Env → M Fl} (h : α → D) (E : β → Env) (st : β → α → β) (P : β → Prop) : ∀ (xs : List α) (b : β), P b → (∀ x ∈ xs, ∀ b, P b → f (h x) (E b) = ret (.nx (E (st b x))) ∧ P (st b x)) → forL f (xs.map h) (E b) = ret (.nx (E (xs.foldl st b))) ∧ P (xs.foldl st b)
  | [], b, hb, _ => ⟨rfl, hb⟩
  | x :: xs, b, hb, k => by
    obtain ⟨k1, k2⟩ := k x List.mem_cons_self b hb
    obtain ⟨r1, r2⟩ := forL_fold h E st P xs (st b x) k2 fun y hy => k y (List.mem_cons_of_mem _ hy)
    rw [List.map_cons, forL_cons, k1, seqF_nx]
    exact ⟨r1, r2⟩
theorem forL_inv {α : Type} {f : D → Env → M Fl} (h : α → D) (P : List α → Env → Prop) (xs : List α) {env : Env} (h0 : P [] env) (k : ∀ (d : List α) (x : α) (r : List α) (env : Env), xs = d ++ x :: r → P d env → ∃ env', f (h x) env = ret (.nx env') ∧ P (d ++ [x]) env') : ∃ env', forL f (xs.map h) env = ret (.nx env') ∧ P xs env' := by
  rw [forL_map]
  have := forG_inv (f := fun x => f (h x)) P xs [] env h0 fun d x r env e hp => k d x r env (by simpa using e) hp
  simpa using this
theorem whileF_inv {c : Env → M Bool} {f : Env → M Fl} (P : Nat → Env → Prop) (m : Nat) (hc : ∀ i env, i < m → P i env → c env = ret true) (hf : ∀ i env, i < m → P i env → ∃ env', f env = ret (.nx env') ∧ P (i + 1) env') (he : ∀ env, P m env → c env = ret false) : ∀ (n i : Nat) (env : Env), i ≤ m → m - i < n → P i env → ∃ env', whileF c f n env = ret (.nx env') ∧ P m env'
  | 0, i, _, _, h, _ => absurd h (Nat.not_lt_zero _)
  | n + 1, i, env, h1, h2, hp => by
    by_cases z : i = m
    · subst z
      refine ⟨env, ?_, hp⟩
      unfold whileF
      rw [he env hp]
      rfl
    · have hi : i < m := by omega
      obtain ⟨env1, e1, p1⟩ := hf i env hi hp
      obtain ⟨env2, e2, p2⟩ := whileF_inv P m hc hf he n (i + 1) env1 (by omega) (by omega) p1
      refine ⟨env2, ?_, p2⟩
      unfold whileF
      rw [hc i env hi hp]
      show seqF (f env) (whileF c f n) = _
      rw [e1, seqF_nx, e2]
/-! ### guards by bounds -/
@[simp] theorem fits_g {n : Nat} (h : n ≤ 16777216) : fits n = true := decide_eq_true h
@[simp] theorem range_g {a b : Int} (h1 : -1000000 ≤ a) (h2 : a ≤ 1000000) (h3 : -1000000 ≤ b) (h4 : b ≤ 1000000) : rangeOk a b = true := decide_eq_true ⟨h1, h2, h3, h4⟩
@[simp] theorem mod_g {j : Int} (h : 0 < j) : modOk j = true := decide_eq_true h
@[simp] theorem div_g {j : Int} (h1 : 0 < j) (h2 : j < 1073741824) : divOk j = true := decide_eq_true ⟨h1, h2⟩
theorem mul_gl {i j : Int} (h1 : -18446744073709551616 < i) (h2 : i < 18446744073709551616) : mulOk i j = true := by
  unfold mulOk smallI
  rw [decide_eq_true ⟨h1, h2⟩]
  rfl
theorem mul_gr {i j : Int} (h1 : -18446744073709551616 < j) (h2 : j < 18446744073709551616) : mulOk i j = true := by
  simp [mulOk, smallI, h1, h2]
@[simp] theorem guard_le {α : Type} {a b : Nat} (m : M α) (h : a ≤ b) : guard (decide (a ≤ b)) m = m := by rw [decide_eq_true h]; rfl
end Pv
set_option autoImplicit true
namespace Lw
open PySem PySem.Spec PyProof.Rows L2 Pv
def top (i : Nat) : Stmt := PySem.Challenge.pw_placeround_k01_turns.main.body.getD i (.Pass ⟨0, 0, 0, 0⟩)
def G : GS := ⟨[("MOST_PLACES", 7), ("MOST_THINGS", 6), ("MOST_ASKS", 24)], ((["_wall", "is_within", "look_size", "is_deal", "look", "look_asks", "look_weights", "look_many", "short_way", "way", "turns_told", "turns", "cost", "any_deal", "least_deal", "better", "total", "unlike", "bound", "ranks", "beside", "lean_of", "lean", "look_things", "least_lean", "balanced", "shifts", "fewest_shifts", "shown", "read"] : List Str) ++ (["_law_cell", "_law_mix", "_law_seed", "_law_pick", "_law_as", "_law_in", "_law_deal", "_law_asks", "_law_turn", "_law_word", "_law_looked", "_law_is_deal", "law"] : List Str)), (["RoundError", "NoSize", "NoWeights", "NoDeal", "NoAsks", "NoThing", "NoPlace", "NoCount", "Leans", "NoText"])⟩
def em : List (Str × Str × Bool) := ([("NoSize", "RoundError", true), ("NoSize", "NoSize", true), ("NoSize", "NoWeights", false), ("NoSize", "NoDeal", false), ("NoSize", "NoAsks", false), ("NoSize", "NoThing", false), ("NoSize", "NoPlace", false), ("NoSize", "NoCount", false), ("NoSize", "Leans", false), ("NoSize", "NoText", false), ("NoDeal", "RoundError", true), ("NoDeal", "NoSize", false), ("NoDeal", "NoWeights", false), ("NoDeal", "NoDeal", true), ("NoDeal", "NoAsks", false), ("NoDeal", "NoThing", false), ("NoDeal", "NoPlace", false), ("NoDeal", "NoCount", false), ("NoDeal", "Leans", false), ("NoDeal", "NoText", false), ("NoAsks", "RoundError", true), ("NoAsks", "NoSize", false), ("NoAsks", "NoWeights", false), ("NoAsks", "NoDeal", false), ("NoAsks", "NoAsks", true), ("NoAsks", "NoThing", false), ("NoAsks", "NoPlace", false), ("NoAsks", "NoCount", false), ("NoAsks", "Leans", false), ("NoAsks", "NoText", false)] : List (Str × Str × Bool)) ++ ([("NoPlace", "RoundError", true), ("NoPlace", "NoSize", false), ("NoPlace", "NoWeights", false), ("NoPlace", "NoDeal", false), ("NoPlace", "NoAsks", false), ("NoPlace", "NoThing", false), ("NoPlace", "NoPlace", true), ("NoPlace", "NoCount", false), ("NoPlace", "Leans", false), ("NoPlace", "NoText", false)] : List (Str × Str × Bool))
def k1__wall : Pv.E := (.bl true)
def b1__wall : List Pv.S := [.bad]
def c__wall : List Pv.S := [(.whl k1__wall b1__wall)]
def i__wall : DI := ⟨⟨("_wall", none), "_wall", "_wall", defArgs (top 0), defBody (top 0), defScope (top 0), [], []⟩, (["k"]), (["k"]), [], c__wall⟩
def c_is_within : List Pv.S := [(.ret (.and (.isi (.var 0) .int) (.and (.not (.isi (.var 0) .bool)) (.chain .le .le (.var 1) (.var 0) (.var 2)))))]
def i_is_within : DI := ⟨⟨("is_within", none), "is_within", "is_within", defArgs (top 16), defBody (top 16), defScope (top 16), [], []⟩, (["thing", "low", "high"]), (["thing", "low", "high"]), [], c_is_within⟩
def c_look_size : List Pv.S := [(.ife (.not (.call "is_within" [(.var 0), (.int 2), (.glob "MOST_PLACES" 7)])) [(.rai "NoSize")] [])]
def i_look_size : DI := ⟨⟨("look_size", none), "look_size", "look_size", defArgs (top 17), defBody (top 17), defScope (top 17), [], []⟩, (["size"]), (["size"]), [], c_look_size⟩
def l1_is_deal : Pv.E := (.var 2)
def k1_is_deal : Pv.E := (.not (.call "is_within" [(.var 2), (.int 0), (.bin .sub (.var 0) (.int 1))]))
def c_is_deal : List Pv.S := [(.ife (.or (.not (.isi (.var 1) .tuple)) (.not (.chain .le .le (.int 1) (.blt .len [(.var 1)]) (.glob "MOST_THINGS" 6)))) [(.ret (.bl false))] []), (.ret (.and (.not (.lc l1_is_deal (.nm 2) (.seq (.var 1)) (some k1_is_deal) [2])) (.cmp .eq (.blt .lenSet [(.var 1)]) (.blt .len [(.var 1)]))))]
def i_is_deal : DI := ⟨⟨("is_deal", none), "is_deal", "is_deal", defArgs (top 18), defBody (top 18), defScope (top 18), [], []⟩, (["size", "thing"]), (["size", "thing", "place"]), [], c_is_deal⟩
def c_look : List Pv.S := [(.exp (.call "look_size" [(.var 0)])), (.ife (.not (.call "is_deal" [(.var 0), (.var 1)])) [(.rai "NoDeal")] [])]
def i_look : DI := ⟨⟨("look", none), "look", "look", defArgs (top 19), defBody (top 19), defScope (top 19), [], []⟩, (["size", "deal"]), (["size", "deal"]), [], c_look⟩
def l1_look_asks : Pv.E := (.var 2)
def k1_look_asks : Pv.E := (.not (.call "is_within" [(.var 2), (.int 0), (.bin .sub (.var 0) (.int 1))]))
def c_look_asks : List Pv.S := [(.ife (.or (.not (.isi (.var 1) .tuple)) (.or (.cmp .gt (.blt .len [(.var 1)]) (.glob "MOST_ASKS" 24)) (.lc l1_look_asks (.nm 2) (.seq (.var 1)) (some k1_look_asks) [2]))) [(.rai "NoAsks")] [])]
def i_look_asks : DI := ⟨⟨("look_asks", none), "look_asks", "look_asks", defArgs (top 20), defBody (top 20), defScope (top 20), [], []⟩, (["many", "asks"]), (["many", "asks", "one"]), [], c_look_asks⟩
def l1_look_weights : Pv.E := (.var 2)
def k1_look_weights : Pv.E := (.not (.call "is_within" [(.var 2), (.int 0), (.int 99)]))
def c_look_weights : List Pv.S := [(.ife (.or (.not (.isi (.var 1) .tuple)) (.or (.cmp .ne (.blt .len [(.var 1)]) (.var 0)) (.lc l1_look_weights (.nm 2) (.seq (.var 1)) (some k1_look_weights) [2]))) [(.rai "NoWeights")] [])]
def i_look_weights : DI := ⟨⟨("look_weights", none), "look_weights", "look_weights", defArgs (top 21), defBody (top 21), defScope (top 21), [], []⟩, (["many", "weights"]), (["many", "weights", "one"]), [], c_look_weights⟩
def c_look_many : List Pv.S := [(.exp (.call "look_size" [(.var 0)])), (.ife (.not (.call "is_within" [(.var 1), (.int 1), (.blt .min2 [(.var 0), (.glob "MOST_THINGS" 6)])])) [(.rai "NoWeights")] [])]
def i_look_many : DI := ⟨⟨("look_many", none), "look_many", "look_many", defArgs (top 22), defBody (top 22), defScope (top 22), [], []⟩, (["size", "many"]), (["size", "many"]), [], c_look_many⟩
def c_short_way : List Pv.S := [(.set 3 (.bin .mod (.bin .sub (.var 2) (.var 1)) (.var 0))), (.ret (.ifx (.cmp .le (.bin .mul (.int 2) (.var 3)) (.var 0)) (.var 3) (.bin .sub (.var 3) (.var 0))))]
def i_short_way : DI := ⟨⟨("short_way", none), "short_way", "short_way", defArgs (top 23), defBody (top 23), defScope (top 23), [], []⟩, (["size", "one", "other"]), (["size", "one", "other", "ahead"]), [], c_short_way⟩
def c_way : List Pv.S := [(.exp (.call "look_size" [(.var 0)])), (.ife (.or (.not (.call "is_within" [(.var 1), (.int 0), (.bin .sub (.var 0) (.int 1))])) (.not (.call "is_within" [(.var 2), (.int 0), (.bin .sub (.var 0) (.int 1))]))) [(.rai "NoPlace")] []), (.ret (.call "short_way" [(.var 0), (.var 1), (.var 2)]))]
def i_way : DI := ⟨⟨("way", none), "way", "way", defArgs (top 24), defBody (top 24), defScope (top 24), [], []⟩, (["size", "one", "other"]), (["size", "one", "other"]), [], c_way⟩
def b1_turns_told : List Pv.S := [(.app 3 (.call "short_way" [(.var 0), (.var 4), (.ix (.var 1) (.var 5))])), (.set 4 (.ix (.var 1) (.var 5)))]
def c_turns_told : List Pv.S := [(.setO 3 (.lst [])), (.set 4 (.int 0)), (.for_ (.nm 5) (.seq (.var 2)) b1_turns_told), (.ret (.own 3))]
def i_turns_told : DI := ⟨⟨("turns_told", none), "turns_told", "turns_told", defArgs (top 25), defBody (top 25), defScope (top 25), [], []⟩, (["size", "deal", "asks"]), (["size", "deal", "asks", "found", "here", "thing"]), [3], c_turns_told⟩
def c_turns : List Pv.S := [(.exp (.call "look" [(.var 0), (.var 1)])), (.exp (.call "look_asks" [(.blt .len [(.var 1)]), (.var 2)])), (.ret (.call "turns_told" [(.var 0), (.var 1), (.var 2)]))]
def i_turns : DI := ⟨⟨("turns", none), "turns", "turns", defArgs (top 26), defBody (top 26), defScope (top 26), [], []⟩, (["size", "deal", "asks"]), (["size", "deal", "asks"]), [], c_turns⟩
def l1_cost : Pv.E := (.blt .abs [(.var 3)])
def c_cost : List Pv.S := [(.ret (.blt .sum [(.lc l1_cost (.nm 3) (.seq (.call "turns" [(.var 0), (.var 1), (.var 2)])) none [3])]))]
def i_cost : DI := ⟨⟨("cost", none), "cost", "cost", defArgs (top 27), defBody (top 27), defScope (top 27), [], []⟩, (["size", "deal", "asks"]), (["size", "deal", "asks", "turn"]), [], c_cost⟩
def c_any_deal : List Pv.S := [(.ret (.call "is_deal" [(.glob "MOST_PLACES" 7), (.var 0)]))]
def i_any_deal : DI := ⟨⟨("any_deal", none), "any_deal", "any_deal", defArgs (top 30), defBody (top 30), defScope (top 30), [], []⟩, (["deal"]), (["deal"]), [], c_any_deal⟩
def c_least_deal : List Pv.S := [(.exp (.call "look_many" [(.var 0), (.var 1)])), (.exp (.call "look_asks" [(.var 1), (.var 2)])), .bad]
def i_least_deal : DI := ⟨⟨("least_deal", none), "least_deal", "least_deal", defArgs (top 31), defBody (top 31), defScope (top 31), [], []⟩, (["size", "many", "asks"]), (["size", "many", "asks"]), [], c_least_deal⟩
def b1_better : List Pv.S := [.bad, .bad, (.ife (.and (.cmp .isnot (.var 6) .non) (.cmp .lt (.call "total" [(.var 0), (.var 6), (.var 2)]) (.call "total" [(.var 0), (.var 4), (.var 2)]))) [(.set 4 (.var 6))] [])]
def c_better : List Pv.S := [(.exp (.call "look" [(.var 0), (.var 1)])), (.exp (.call "look_asks" [(.blt .len [(.var 1)]), (.var 2)])), (.ife (.not (.call "is_within" [(.var 3), (.int 0), (.blt .len [(.var 1)])])) [(.rai "NoCount")] []), (.set 4 (.var 1)), (.for_ (.nm 5) (.rng1 (.bin .add (.var 3) (.int 1))) b1_better), (.ret (.var 4))]
def i_better : DI := ⟨⟨("better", none), "better", "better", defArgs (top 32), defBody (top 32), defScope (top 32), [], []⟩, (["size", "deal", "asks", "moves"]), (["size", "deal", "asks", "moves", "best", "many", "found"]), [], c_better⟩
def l1_total : Pv.E := (.blt .abs [(.var 3)])
def c_total : List Pv.S := [(.ret (.blt .sum [(.lc l1_total (.nm 3) (.seq (.call "turns_told" [(.var 0), (.var 1), (.var 2)])) none [3])]))]
def i_total : DI := ⟨⟨("total", none), "total", "total", defArgs (top 33), defBody (top 33), defScope (top 33), [], []⟩, (["size", "deal", "asks"]), (["size", "deal", "asks", "turn"]), [], c_total⟩
def l1_unlike : Pv.E := (.var 2)
def k1_unlike : Pv.E := (.cmp .ne (.ix (.var 1) (.var 2)) (.var 3))
def c_unlike : List Pv.S := [(.ret (.blt .len [(.lc l1_unlike (.tp [(.nm 2), (.nm 3)]) (.enum (.var 0)) (some k1_unlike) [2, 3])]))]
def i_unlike : DI := ⟨⟨("unlike", none), "unlike", "unlike", defArgs (top 34), defBody (top 34), defScope (top 34), [], []⟩, (["deal", "other"]), (["deal", "other", "thing", "place"]), [], c_unlike⟩
def l1_bound : Pv.E := (.bin .mul (.var 5) (.var 6))
def b1_bound : List Pv.S := [(.aug 3 .add (.blt .sum [(.lc l1_bound (.tp [(.nm 5), (.nm 6)]) (.zip (.call "ranks" [(.var 0)]) (.call "beside" [(.var 1), (.var 2), (.var 4)])) none [5, 6])]))]
def c_bound : List Pv.S := [(.exp (.call "look_many" [(.var 0), (.var 1)])), (.exp (.call "look_asks" [(.var 1), (.var 2)])), (.set 3 (.int 0)), (.for_ (.nm 4) (.rng1 (.var 1)) b1_bound), (.ret (.bin .fdiv (.bin .add (.var 3) (.int 1)) (.int 2)))]
def i_bound : DI := ⟨⟨("bound", none), "bound", "bound", defArgs (top 35), defBody (top 35), defScope (top 35), [], []⟩, (["size", "many", "asks"]), (["size", "many", "asks", "found", "thing", "rank", "often"]), [], c_bound⟩
def l1_ranks : Pv.E := (.blt .abs [(.call "short_way" [(.var 0), (.int 0), (.var 1)])])
def c_ranks : List Pv.S := [(.ret (.blt .sorted [(.lc l1_ranks (.nm 1) (.rng2 (.int 1) (.var 0)) none [1])]))]
def i_ranks : DI := ⟨⟨("ranks", none), "ranks", "ranks", defArgs (top 36), defBody (top 36), defScope (top 36), [], []⟩, (["size"]), (["size", "place"]), [], c_ranks⟩
def b1_beside : List Pv.S := [(.ife (.and (.cmp .eq (.var 5) (.var 2)) (.cmp .ne (.var 6) (.var 2))) [(.augIx 3 (.var 6) (.int 1))] [])]
def b2_beside : List Pv.S := [(.for_ (.tp [(.nm 5), (.nm 6)]) (.seq (.tup [(.tup [(.ix (.var 1) (.bin .sub (.var 4) (.int 1))), (.ix (.var 1) (.var 4))]), (.tup [(.ix (.var 1) (.var 4)), (.ix (.var 1) (.bin .sub (.var 4) (.int 1)))])])) b1_beside)]
def c_beside : List Pv.S := [.bad, (.for_ (.nm 4) (.rng2 (.int 1) (.blt .len [(.var 1)])) b2_beside), .bad]
def i_beside : DI := ⟨⟨("beside", none), "beside", "beside", defArgs (top 37), defBody (top 37), defScope (top 37), [], []⟩, (["many", "asks", "thing"]), (["many", "asks", "thing", "found", "at", "one", "other"]), [3], c_beside⟩
def b1_lean_of : List Pv.S := [(.setIx 3 (.var 6) (.ix (.var 1) (.var 7)))]
def b2_lean_of : List Pv.S := [(.set 8 (.sl (.bin .add (.own 3) (.own 3)) (some (.var 6)) (some (.bin .add (.var 6) (.bin .mul (.int 2) (.var 4)))))), (.set 5 (.blt .max2 [(.var 5), (.blt .abs [(.bin .sub (.blt .sum [(.sl (.var 8) none (some (.var 4)))]) (.blt .sum [(.sl (.var 8) (some (.var 4)) none)]))])]))]
def c_lean_of : List Pv.S := [(.setO 3 (.bin .mul (.lst [(.int 0)]) (.var 0))), (.for_ (.tp [(.nm 7), (.nm 6)]) (.enum (.var 2)) b1_lean_of), (.set 4 (.bin .fdiv (.var 0) (.int 2))), (.set 5 (.int 0)), (.for_ (.nm 6) (.rng1 (.var 0)) b2_lean_of), (.ret (.var 5))]
def i_lean_of : DI := ⟨⟨("lean_of", none), "lean_of", "lean_of", defArgs (top 39), defBody (top 39), defScope (top 39), [], []⟩, (["size", "weights", "deal"]), (["size", "weights", "deal", "by_place", "half", "found", "place", "thing", "row"]), [3], c_lean_of⟩
def c_lean : List Pv.S := [(.exp (.call "look" [(.var 0), (.var 2)])), (.exp (.call "look_weights" [(.blt .len [(.var 2)]), (.var 1)])), (.ret (.call "lean_of" [(.var 0), (.var 1), (.var 2)]))]
def i_lean : DI := ⟨⟨("lean", none), "lean", "lean", defArgs (top 40), defBody (top 40), defScope (top 40), [], []⟩, (["size", "weights", "deal"]), (["size", "weights", "deal"]), [], c_lean⟩
def c_look_things : List Pv.S := [(.exp (.call "look_size" [(.var 0)])), (.ife (.or (.not (.isi (.var 1) .tuple)) (.not (.chain .le .le (.int 1) (.blt .len [(.var 1)]) (.blt .min2 [(.var 0), (.glob "MOST_THINGS" 6)])))) [(.rai "NoWeights")] []), (.exp (.call "look_weights" [(.blt .len [(.var 1)]), (.var 1)]))]
def i_look_things : DI := ⟨⟨("look_things", none), "look_things", "look_things", defArgs (top 41), defBody (top 41), defScope (top 41), [], []⟩, (["size", "weights"]), (["size", "weights"]), [], c_look_things⟩
def l1_least_lean : Pv.E := (.bin .add (.var 4) (.tup [(.var 6)]))
def k1_least_lean : Pv.E := (.cmp .notin (.var 6) (.var 4))
def k2_least_lean : Pv.E := (.own 3)
def b1_least_lean : List Pv.S := [(.pop (.nm 4) 3 none), (.ife (.cmp .eq (.blt .len [(.var 4)]) (.blt .len [(.var 1)])) [(.set 5 (.tup [(.call "lean_of" [(.var 0), (.var 1), (.var 4)]), (.var 4)])), (.set 2 (.ifx (.or (.cmp .is_ (.var 2) .non) (.cmp .lt (.var 5) (.var 2))) (.var 5) (.var 2)))] [(.ext 3 (.lc l1_least_lean (.nm 6) (.rng1 (.var 0)) (some k1_least_lean) [6]))])]
def c_least_lean : List Pv.S := [(.exp (.call "look_things" [(.var 0), (.var 1)])), (.set 2 .non), (.setO 3 (.lst [(.tup [])])), (.whl k2_least_lean b1_least_lean), (.ret (.var 2))]
def i_least_lean : DI := ⟨⟨("least_lean", none), "least_lean", "least_lean", defArgs (top 42), defBody (top 42), defScope (top 42), [], []⟩, (["size", "weights"]), (["size", "weights", "best", "todo", "deal", "here", "place"]), [3], c_least_lean⟩
def c_balanced : List Pv.S := [(.exp (.call "look_things" [(.var 0), (.var 1)])), (.exp (.call "look_asks" [(.blt .len [(.var 1)]), (.var 2)])), (.ife (.not (.call "is_within" [(.var 3), (.int 0), (.int 999)])) [(.rai "NoCount")] []), .bad, .bad]
def i_balanced : DI := ⟨⟨("balanced", none), "balanced", "balanced", defArgs (top 43), defBody (top 43), defScope (top 43), [], []⟩, (["size", "weights", "asks", "most"]), (["size", "weights", "asks", "most"]), [], c_balanced⟩
def b1_shifts : List Pv.S := [(.set 9 (.bin .add (.bin .add (.sl (.var 6) none (some (.var 5))) (.tup [(.var 8)])) (.sl (.var 6) (some (.bin .add (.var 5) (.int 1))) none))), (.ife (.and (.cmp .notin (.var 8) (.var 6)) (.cmp .notin (.var 9) (.own 3))) [(.setIx 3 (.var 9) (.bl true)), (.app 4 (.tup [(.var 9), (.bin .add (.var 7) (.lst [(.tup [(.var 5), (.var 8)])]))]))] [])]
def b2_shifts : List Pv.S := [(.for_ (.nm 8) (.rng1 (.var 0)) b1_shifts)]
def k1_shifts : Pv.E := (.own 4)
def b3_shifts : List Pv.S := [(.pop (.tp [(.nm 6), (.nm 7)]) 4 (some (.int 0))), (.ife (.cmp .eq (.var 6) (.var 2)) [(.ret (.var 7))] []), (.for_ (.nm 5) (.rng1 (.blt .len [(.var 6)])) b2_shifts)]
def c_shifts : List Pv.S := [(.exp (.call "look" [(.var 0), (.var 1)])), (.ife (.or (.not (.call "is_deal" [(.var 0), (.var 2)])) (.cmp .ne (.blt .len [(.var 2)]) (.blt .len [(.var 1)]))) [(.rai "NoDeal")] []), .bad, (.setO 4 (.lst [(.tup [(.var 1), (.lst [])])])), (.whl k1_shifts b3_shifts), (.ret .non)]
def i_shifts : DI := ⟨⟨("shifts", none), "shifts", "shifts", defArgs (top 47), defBody (top 47), defScope (top 47), [], []⟩, (["size", "deal", "other"]), (["size", "deal", "other", "seen", "todo", "thing", "here", "moves", "place", "new"]), [3, 4], c_shifts⟩
def l1_fewest_shifts : Pv.E := (.var 8)
def k1_fewest_shifts : Pv.E := (.cmp .ne (.ix (.var 1) (.var 8)) (.ix (.var 2) (.var 8)))
def l2_fewest_shifts : Pv.E := (.var 8)
def k2_fewest_shifts : Pv.E := (.cmp .notin (.var 8) (.own 7))
def k3_fewest_shifts : Pv.E := (.var 4)
def b1_fewest_shifts : List Pv.S := [(.set 6 (.ix (.var 4) (.int 0))), (.setO 7 (.lst [(.var 6)])), .bad, .bad, (.set 4 (.lc l2_fewest_shifts (.nm 8) (.seq (.var 4)) (some k2_fewest_shifts) [8]))]
def c_fewest_shifts : List Pv.S := [(.exp (.call "look" [(.var 0), (.var 1)])), (.ife (.or (.not (.call "is_deal" [(.var 0), (.var 2)])) (.cmp .ne (.blt .len [(.var 2)]) (.blt .len [(.var 1)]))) [(.rai "NoDeal")] []), (.set 3 (.lc l1_fewest_shifts (.nm 8) (.rng1 (.blt .len [(.var 1)])) (some k1_fewest_shifts) [8])), (.ife (.and (.var 3) (.cmp .eq (.blt .len [(.var 1)]) (.var 0))) [(.ret .non)] []), (.set 4 (.blt .list [(.var 3)])), (.set 5 (.blt .len [(.var 3)])), (.whl k3_fewest_shifts b1_fewest_shifts), (.ret (.var 5))]
def i_fewest_shifts : DI := ⟨⟨("fewest_shifts", none), "fewest_shifts", "fewest_shifts", defArgs (top 48), defBody (top 48), defScope (top 48), [], []⟩, (["size", "deal", "other"]), (["size", "deal", "other", "moved", "left", "found", "start", "ring", "thing"]), [7], c_fewest_shifts⟩
def c_shown : List Pv.S := [(.exp (.call "look" [(.var 0), (.var 1)])), .bad]
def i_shown : DI := ⟨⟨("shown", none), "shown", "shown", defArgs (top 50), defBody (top 50), defScope (top 50), [], []⟩, (["size", "deal"]), (["size", "deal", "place"]), [], c_shown⟩
def l1_read : Pv.E := (.var 4)
def k1_read : Pv.E := (.or (.cmp .ne (.blt .len [(.var 4)]) (.int 1)) (.cmp .notin (.var 4) (.str "012345-")))
def l2_read : Pv.E := (.var 4)
def k2_read : Pv.E := (.cmp .ne (.var 4) (.str "-"))
def c_read : List Pv.S := [(.ife (.not (.isi (.var 0) .str)) [(.rai "NoText")] []), .bad, (.ife (.or (.not (.chain .le .le (.int 2) (.blt .len [(.var 1)]) (.glob "MOST_PLACES" 7))) (.lc l1_read (.nm 4) (.seq (.var 1)) (some k1_read) [4])) [(.rai "NoText")] []), (.set 2 (.blt .sorted [(.lc l2_read (.nm 4) (.seq (.var 1)) (some k2_read) [4])])), .bad, .bad, (.ife (.not (.call "is_deal" [(.blt .len [(.var 1)]), (.var 3)])) [(.rai "NoText")] []), (.ret (.tup [(.blt .len [(.var 1)]), (.var 3)]))]
def i_read : DI := ⟨⟨("read", none), "read", "read", defArgs (top 51), defBody (top 51), defScope (top 51), [], []⟩, (["text"]), (["text", "words", "things", "deal", "word", "thing"]), [], c_read⟩
def c__law_cell : List Pv.S := [(.ife (.cmp .lt (.var 1) (.blt .len [(.var 0)])) [(.ret (.ix (.var 0) (.var 1)))] []), (.ret (.int 0))]
def i__law_cell : DI := ⟨⟨("_law_cell", none), "_law_cell", "_law_cell", defArgs (top 53), defBody (top 53), defScope (top 53), [], []⟩, (["_law_script", "_law_k"]), (["_law_script", "_law_k"]), [], c__law_cell⟩
def c__law_mix : List Pv.S := [(.ret (.bin .mod (.bin .mod (.bin .pow (.bin .mod (.bin .mul (.var 0) (.int 48271)) (.var 1)) (.int 3)) (.var 1)) (.var 2)))]
def i__law_mix : DI := ⟨⟨("_law_mix", none), "_law_mix", "_law_mix", defArgs (top 54), defBody (top 54), defScope (top 54), [], []⟩, (["_law_cell_here", "_law_prime", "_law_many"]), (["_law_cell_here", "_law_prime", "_law_many"]), [], c__law_mix⟩
def c__law_seed : List Pv.S := [(.ret (.bin .mod (.bin .pow (.bin .mod (.bin .add (.bin .add (.bin .mul (.var 0) (.int 1103515245)) (.bin .mul (.int 7919) (.var 1))) (.int 12345)) (.int 2147483647)) (.int 5)) (.int 2147483647)))]
def i__law_seed : DI := ⟨⟨("_law_seed", none), "_law_seed", "_law_seed", defArgs (top 55), defBody (top 55), defScope (top 55), [], []⟩, (["_law_seed_here", "_law_k"]), (["_law_seed_here", "_law_k"]), [], c__law_seed⟩
def c__law_pick : List Pv.S := [(.ret (.bin .mod (.bin .fdiv (.var 0) (.int 97)) (.var 1)))]
def i__law_pick : DI := ⟨⟨("_law_pick", none), "_law_pick", "_law_pick", defArgs (top 56), defBody (top 56), defScope (top 56), [], []⟩, (["_law_seed_here", "_law_many"]), (["_law_seed_here", "_law_many"]), [], c__law_pick⟩
def c__law_as : List Pv.S := [(.ret (.and (.isi (.var 0) .bool) (.cmp .eq (.var 0) (.var 1))))]
def i__law_as : DI := ⟨⟨("_law_as", none), "_law_as", "_law_as", defArgs (top 57), defBody (top 57), defScope (top 57), [], []⟩, (["_law_thing", "_law_due"]), (["_law_thing", "_law_due"]), [], c__law_as⟩
def c__law_in : List Pv.S := [(.ret (.and (.isi (.var 0) .int) (.and (.not (.isi (.var 0) .bool)) (.chain .le .le (.var 1) (.var 0) (.var 2)))))]
def i__law_in : DI := ⟨⟨("_law_in", none), "_law_in", "_law_in", defArgs (top 58), defBody (top 58), defScope (top 58), [], []⟩, (["_law_thing", "_law_low", "_law_high"]), (["_law_thing", "_law_low", "_law_high"]), [], c__law_in⟩
def b1__law_deal : List Pv.S := [(.appPop 4 3 (.call "_law_pick" [(.call "_law_seed" [(.var 0), (.var 5)]), (.blt .len [(.own 3)])]))]
def c__law_deal : List Pv.S := [(.setO 3 (.rngl (.var 1))), (.setO 4 (.lst [])), (.for_ (.nm 5) (.rng1 (.var 2)) b1__law_deal), (.ret (.blt .tuple [(.own 4)]))]
def i__law_deal : DI := ⟨⟨("_law_deal", none), "_law_deal", "_law_deal", defArgs (top 59), defBody (top 59), defScope (top 59), [], []⟩, (["_law_seed_here", "_law_size", "_law_many"]), (["_law_seed_here", "_law_size", "_law_many", "_law_free", "_law_found", "_law_k"]), [3, 4], c__law_deal⟩
def l1__law_asks : Pv.E := (.call "_law_pick" [(.call "_law_seed" [(.var 0), (.var 4)]), (.ifx (.cmp .gt (.bin .mod (.var 4) (.int 5)) (.int 0)) (.blt .min2 [(.var 1), (.var 3)]) (.var 1))])
def c__law_asks : List Pv.S := [(.set 3 (.ix (.lst [(.var 1), (.int 2), (.int 3)]) (.bin .mod (.bin .fdiv (.var 0) (.int 5)) (.int 3)))), (.ret (.blt .tuple [(.lc l1__law_asks (.nm 4) (.rng1 (.var 2)) none [4])]))]
def i__law_asks : DI := ⟨⟨("_law_asks", none), "_law_asks", "_law_asks", defArgs (top 60), defBody (top 60), defScope (top 60), [], []⟩, (["_law_seed_here", "_law_many", "_law_long"]), (["_law_seed_here", "_law_many", "_law_long", "_law_wide", "_law_k"]), [], c__law_asks⟩
def k1__law_turn : Pv.E := (.cmp .ne (.bin .mod (.bin .add (.var 1) (.var 3)) (.var 0)) (.var 2))
def b1__law_turn : List Pv.S := [(.aug 3 .add (.int 1))]
def c__law_turn : List Pv.S := [(.set 3 (.int 0)), (.whl k1__law_turn b1__law_turn), (.ret (.ifx (.cmp .le (.var 3) (.bin .sub (.var 0) (.var 3))) (.var 3) (.bin .sub (.var 3) (.var 0))))]
def i__law_turn : DI := ⟨⟨("_law_turn", none), "_law_turn", "_law_turn", defArgs (top 61), defBody (top 61), defScope (top 61), [], []⟩, (["_law_size", "_law_one", "_law_other"]), (["_law_size", "_law_one", "_law_other", "_law_on"]), [], c__law_turn⟩
def c__law_word : List Pv.S := [(.set 2 (.str "")), (.tryS [(.exp (.call "_law_looked" [(.var 0), (.var 1)]))] [("NoSize", 2, "size"), ("NoWeights", 2, "weights"), ("NoDeal", 2, "deal"), ("NoAsks", 2, "asks"), ("NoPlace", 2, "place"), ("NoCount", 2, "count"), ("Leans", 2, "leans"), ("NoText", 2, "text")]), (.ret (.var 2))]
def i__law_word : DI := ⟨⟨("_law_word", none), "_law_word", "_law_word", defArgs (top 62), defBody (top 62), defScope (top 62), [], []⟩, (["_law_which", "_law_things"]), (["_law_which", "_law_things", "_law_caught"]), [], c__law_word⟩
def c__law_looked : List Pv.S := [(.ife (.cmp .lt (.var 0) (.int 4)) [(.ife (.cmp .lt (.var 0) (.int 2)) [(.ret (.ifx (.cmp .eq (.var 0) (.int 0)) (.call "way" [(.ix (.var 1) (.int 0)), (.ix (.var 1) (.int 1)), (.ix (.var 1) (.int 2))]) (.call "turns" [(.ix (.var 1) (.int 0)), (.ix (.var 1) (.int 1)), (.ix (.var 1) (.int 2))])))] []), (.ret (.ifx (.cmp .eq (.var 0) (.int 2)) (.call "cost" [(.ix (.var 1) (.int 0)), (.ix (.var 1) (.int 1)), (.ix (.var 1) (.int 2))]) (.call "least_deal" [(.ix (.var 1) (.int 0)), (.ix (.var 1) (.int 1)), (.ix (.var 1) (.int 2))])))] []), (.ife (.cmp .lt (.var 0) (.int 8)) [(.ife (.cmp .lt (.var 0) (.int 6)) [(.ret (.ifx (.cmp .eq (.var 0) (.int 4)) (.call "bound" [(.ix (.var 1) (.int 0)), (.ix (.var 1) (.int 1)), (.ix (.var 1) (.int 2))]) (.call "lean" [(.ix (.var 1) (.int 0)), (.ix (.var 1) (.int 1)), (.ix (.var 1) (.int 2))])))] []), (.ret (.ifx (.cmp .eq (.var 0) (.int 6)) (.call "better" [(.ix (.var 1) (.int 0)), (.ix (.var 1) (.int 1)), (.ix (.var 1) (.int 2)), (.ix (.var 1) (.int 3))]) (.call "least_lean" [(.ix (.var 1) (.int 0)), (.ix (.var 1) (.int 1))])))] []), (.ife (.cmp .lt (.var 0) (.int 11)) [(.ife (.cmp .eq (.var 0) (.int 8)) [(.ret (.call "balanced" [(.ix (.var 1) (.int 0)), (.ix (.var 1) (.int 1)), (.ix (.var 1) (.int 2)), (.ix (.var 1) (.int 3))]))] []), (.ret (.ifx (.cmp .eq (.var 0) (.int 9)) (.call "shifts" [(.ix (.var 1) (.int 0)), (.ix (.var 1) (.int 1)), (.ix (.var 1) (.int 2))]) (.call "fewest_shifts" [(.ix (.var 1) (.int 0)), (.ix (.var 1) (.int 1)), (.ix (.var 1) (.int 2))])))] []), (.ife (.cmp .lt (.var 0) (.int 13)) [(.ret (.ifx (.cmp .eq (.var 0) (.int 11)) .bad (.call "shown" [(.ix (.var 1) (.int 0)), (.ix (.var 1) (.int 1))])))] []), (.ret (.call "read" [(.var 1)]))]
def i__law_looked : DI := ⟨⟨("_law_looked", none), "_law_looked", "_law_looked", defArgs (top 63), defBody (top 63), defScope (top 63), [], []⟩, (["_law_which", "_law_things"]), (["_law_which", "_law_things"]), [], c__law_looked⟩
def l1__law_is_deal : Pv.E := (.var 2)
def k1__law_is_deal : Pv.E := (.not (.call "_law_in" [(.var 2), (.int 0), (.bin .sub (.var 0) (.int 1))]))
def c__law_is_deal : List Pv.S := [(.ife (.or (.not (.isi (.var 1) .tuple)) (.not (.chain .le .le (.int 1) (.blt .len [(.var 1)]) (.int 6)))) [(.ret (.bl false))] []), (.ret (.and (.cmp .eq (.lc l1__law_is_deal (.nm 2) (.seq (.var 1)) (some k1__law_is_deal) [2]) (.lst [])) (.cmp .eq (.blt .lenSet [(.var 1)]) (.blt .len [(.var 1)]))))]
def i__law_is_deal : DI := ⟨⟨("_law_is_deal", none), "_law_is_deal", "_law_is_deal", defArgs (top 64), defBody (top 64), defScope (top 64), [], []⟩, (["_law_size", "_law_thing"]), (["_law_size", "_law_thing", "_law_place"]), [], c__law_is_deal⟩
def b1_law : List Pv.S := [(.app 13 (.call "_law_turn" [(.var 1), (.var 14), (.ix (.var 3) (.var 5))])), (.set 14 (.ix (.var 3) (.var 5)))]
def l1_law : Pv.E := (.blt .abs [(.var 16)])
def l2_law : Pv.E := (.call "way" [(.var 1), (.var 6), (.var 15)])
def l3_law : Pv.E := (.call "_law_turn" [(.var 1), (.var 6), (.var 15)])
def b2_law : List Pv.S := [(.ife (.cmp .ne (.lc l2_law (.nm 15) (.rng1 (.var 1)) none [15]) (.lc l3_law (.nm 15) (.rng1 (.var 1)) none [15])) [(.ret (.bl false))] [])]
def l4_law : Pv.E := (.var 6)
def k1_law : Pv.E := (.not (.call "_law_in" [(.var 6), (.int 0), (.bin .sub (.var 2) (.int 1))]))
def b3_law : List Pv.S := [(.ife (.cmp .ne (.call "_law_word" [(.var 11), (.tup [(.var 8), (.ifx (.not (.var 10)) (.var 3) .non), .non])]) (.ix (.lst [(.str "size"), (.str "deal")]) (.blt .int [(.var 10)]))) [(.ret (.bl false))] []), (.ife (.cmp .ne (.call "_law_word" [(.var 11), (.tup [(.var 1), (.var 3), (.var 8)])]) (.ix (.lst [(.str "asks"), (.str "")]) (.blt .int [(.var 9)]))) [(.ret (.bl false))] [])]
def c_law : List Pv.S := [(.set 1 (.bin .add (.int 2) (.bin .mod (.call "_law_cell" [(.var 0), (.int 0)]) (.int 6)))), (.set 2 (.bin .add (.int 1) (.bin .mod (.call "_law_cell" [(.var 0), (.int 1)]) (.blt .min2 [(.var 1), (.int 6)])))), (.set 3 (.call "_law_deal" [(.call "_law_seed" [(.call "_law_cell" [(.var 0), (.int 2)]), (.int 0)]), (.var 1), (.var 2)])), (.set 4 (.call "_law_asks" [(.call "_law_seed" [(.call "_law_cell" [(.var 0), (.int 3)]), (.int 1)]), (.var 2), (.call "_law_mix" [(.call "_law_cell" [(.var 0), (.int 4)]), (.int 9949), (.int 25)])])), (.parL [(13, none), (14, (some 0))]), (.for_ (.nm 5) (.seq (.var 4)) b1_law), (.frz 13 (.ife (.cmp .ne (.lst [(.call "turns" [(.var 1), (.var 3), (.var 4)]), (.call "cost" [(.var 1), (.var 3), (.var 4)])]) (.lst [(.own 13), (.blt .sum [(.lc l1_law (.nm 16) (.seq (.own 13)) none [16])])])) [(.ret (.bl false))] [])), (.for_ (.nm 6) (.rng1 (.var 1)) b2_law), (.set 7 (.lst [.non, (.neg (.int 1)), (.int 8), (.int 1), (.int 0), (.int 6), (.bl true), (.str "2"), (.tup []), (.tup [(.int 0)]), (.tup [(.int 0), (.int 0)]), (.tup [(.int 7)]), (.tup [(.neg (.int 1))]), (.tup [(.bl true)]), (.lst [(.int 0)]), (.tup [.non]), (.tup [(.int 0), (.int 1)])])), (.set 8 (.ix (.bin .add (.var 7) (.lst [(.bin .mul (.tup [(.int 0)]) (.int 24)), (.bin .mul (.tup [(.int 0)]) (.int 25))])) (.bin .mod (.call "_law_cell" [(.var 0), (.int 5)]) (.int 19)))), (.ife (.or (.not (.call "_law_as" [(.call "is_deal" [(.var 1), (.var 8)]), (.call "_law_is_deal" [(.var 1), (.var 8)])])) (.cmp .isnot (.call "is_deal" [(.var 1), (.var 3)]) (.bl true))) [(.ret (.bl false))] []), (.set 9 (.and (.isi (.var 8) .tuple) (.and (.cmp .le (.blt .len [(.var 8)]) (.int 24)) (.cmp .eq (.lc l4_law (.nm 6) (.seq (.var 8)) (some k1_law) [6]) (.lst []))))), (.set 10 (.call "_law_in" [(.var 8), (.int 2), (.int 7)])), (.for_ (.nm 11) (.seq (.tup [(.int 1), (.int 2)])) b3_law), (.set 12 (.call "_law_in" [(.var 8), (.int 0), (.bin .sub (.var 1) (.int 1))])), (.ret (.cmp .eq (.lst [(.call "_law_word" [(.int 0), (.tup [(.var 1), (.var 8), (.int 0)])]), (.call "_law_word" [(.int 0), (.tup [(.var 1), (.int 0), (.var 8)])])]) (.bin .mul (.lst [(.ix (.lst [(.str "place"), (.str "")]) (.blt .int [(.var 12)]))]) (.int 2))))]
def i_law : DI := ⟨⟨("law", none), "law", "law", defArgs (top 65), defBody (top 65), defScope (top 65), [], []⟩, (["_law_script"]), (["_law_script", "_law_size", "_law_many", "_law_deal_here", "_law_asks_here", "_law_thing", "_law_one", "_law_odds", "_law_odd", "_law_fine", "_law_is_size", "_law_k", "_law_spot", "_law_due", "_law_here", "_law_other", "_law_turn_here"]), [13], c_law⟩
def T : List DI := ([i__wall, i_is_within, i_look_size, i_is_deal, i_look, i_look_asks, i_look_weights, i_look_many, i_short_way, i_way, i_turns_told, i_turns, i_cost, i_any_deal, i_least_deal, i_better, i_total, i_unlike, i_bound, i_ranks, i_beside, i_lean_of, i_lean, i_look_things, i_least_lean, i_balanced, i_shifts, i_fewest_shifts, i_shown, i_read] : List DI) ++ ([i__law_cell, i__law_mix, i__law_seed, i__law_pick, i__law_as, i__law_in, i__law_deal, i__law_asks, i__law_turn, i__law_word, i__law_looked, i__law_is_deal, i_law] : List DI)
theorem s__wall (is : Str → Str → Bool) (k : Nat) (xs : List Vv) : sem T is (k + 1) "_wall" xs = guard (decide (xs.length = 1)) (runB (sem T is k) is 0 c__wall xs) := by kernel_rfl
theorem s_is_within (is : Str → Str → Bool) (k : Nat) (xs : List Vv) : sem T is (k + 1) "is_within" xs = guard (decide (xs.length = 3)) (runB (sem T is k) is 0 c_is_within xs) := by kernel_rfl
theorem s_look_size (is : Str → Str → Bool) (k : Nat) (xs : List Vv) : sem T is (k + 1) "look_size" xs = guard (decide (xs.length = 1)) (runB (sem T is k) is 0 c_look_size xs) := by kernel_rfl
theorem s_is_deal (is : Str → Str → Bool) (k : Nat) (xs : List Vv) : sem T is (k + 1) "is_deal" xs = guard (decide (xs.length = 2)) (runB (sem T is k) is 1 c_is_deal xs) := by kernel_rfl
theorem s_look (is : Str → Str → Bool) (k : Nat) (xs : List Vv) : sem T is (k + 1) "look" xs = guard (decide (xs.length = 2)) (runB (sem T is k) is 0 c_look xs) := by kernel_rfl
theorem s_look_asks (is : Str → Str → Bool) (k : Nat) (xs : List Vv) : sem T is (k + 1) "look_asks" xs = guard (decide (xs.length = 2)) (runB (sem T is k) is 1 c_look_asks xs) := by kernel_rfl
theorem s_look_weights (is : Str → Str → Bool) (k : Nat) (xs : List Vv) : sem T is (k + 1) "look_weights" xs = guard (decide (xs.length = 2)) (runB (sem T is k) is 1 c_look_weights xs) := by kernel_rfl
theorem s_look_many (is : Str → Str → Bool) (k : Nat) (xs : List Vv) : sem T is (k + 1) "look_many" xs = guard (decide (xs.length = 2)) (runB (sem T is k) is 0 c_look_many xs) := by kernel_rfl
theorem s_short_way (is : Str → Str → Bool) (k : Nat) (xs : List Vv) : sem T is (k + 1) "short_way" xs = guard (decide (xs.length = 3)) (runB (sem T is k) is 1 c_short_way xs) := by kernel_rfl
theorem s_way (is : Str → Str → Bool) (k : Nat) (xs : List Vv) : sem T is (k + 1) "way" xs = guard (decide (xs.length = 3)) (runB (sem T is k) is 0 c_way xs) := by kernel_rfl
theorem s_turns_told (is : Str → Str → Bool) (k : Nat) (xs : List Vv) : sem T is (k + 1) "turns_told" xs = guard (decide (xs.length = 3)) (runB (sem T is k) is 3 c_turns_told xs) := by kernel_rfl
theorem s_turns (is : Str → Str → Bool) (k : Nat) (xs : List Vv) : sem T is (k + 1) "turns" xs = guard (decide (xs.length = 3)) (runB (sem T is k) is 0 c_turns xs) := by kernel_rfl
theorem s_cost (is : Str → Str → Bool) (k : Nat) (xs : List Vv) : sem T is (k + 1) "cost" xs = guard (decide (xs.length = 3)) (runB (sem T is k) is 1 c_cost xs) := by kernel_rfl
theorem s_any_deal (is : Str → Str → Bool) (k : Nat) (xs : List Vv) : sem T is (k + 1) "any_deal" xs = guard (decide (xs.length = 1)) (runB (sem T is k) is 0 c_any_deal xs) := by kernel_rfl
theorem s_least_deal (is : Str → Str → Bool) (k : Nat) (xs : List Vv) : sem T is (k + 1) "least_deal" xs = guard (decide (xs.length = 3)) (runB (sem T is k) is 0 c_least_deal xs) := by kernel_rfl
theorem s_better (is : Str → Str → Bool) (k : Nat) (xs : List Vv) : sem T is (k + 1) "better" xs = guard (decide (xs.length = 4)) (runB (sem T is k) is 3 c_better xs) := by kernel_rfl
theorem s_total (is : Str → Str → Bool) (k : Nat) (xs : List Vv) : sem T is (k + 1) "total" xs = guard (decide (xs.length = 3)) (runB (sem T is k) is 1 c_total xs) := by kernel_rfl
theorem s_unlike (is : Str → Str → Bool) (k : Nat) (xs : List Vv) : sem T is (k + 1) "unlike" xs = guard (decide (xs.length = 2)) (runB (sem T is k) is 2 c_unlike xs) := by kernel_rfl
theorem s_bound (is : Str → Str → Bool) (k : Nat) (xs : List Vv) : sem T is (k + 1) "bound" xs = guard (decide (xs.length = 3)) (runB (sem T is k) is 4 c_bound xs) := by kernel_rfl
theorem s_ranks (is : Str → Str → Bool) (k : Nat) (xs : List Vv) : sem T is (k + 1) "ranks" xs = guard (decide (xs.length = 1)) (runB (sem T is k) is 1 c_ranks xs) := by kernel_rfl
theorem s_beside (is : Str → Str → Bool) (k : Nat) (xs : List Vv) : sem T is (k + 1) "beside" xs = guard (decide (xs.length = 3)) (runB (sem T is k) is 4 c_beside xs) := by kernel_rfl
theorem s_lean_of (is : Str → Str → Bool) (k : Nat) (xs : List Vv) : sem T is (k + 1) "lean_of" xs = guard (decide (xs.length = 3)) (runB (sem T is k) is 6 c_lean_of xs) := by kernel_rfl
theorem s_lean (is : Str → Str → Bool) (k : Nat) (xs : List Vv) : sem T is (k + 1) "lean" xs = guard (decide (xs.length = 3)) (runB (sem T is k) is 0 c_lean xs) := by kernel_rfl
theorem s_look_things (is : Str → Str → Bool) (k : Nat) (xs : List Vv) : sem T is (k + 1) "look_things" xs = guard (decide (xs.length = 2)) (runB (sem T is k) is 0 c_look_things xs) := by kernel_rfl
theorem s_least_lean (is : Str → Str → Bool) (k : Nat) (xs : List Vv) : sem T is (k + 1) "least_lean" xs = guard (decide (xs.length = 2)) (runB (sem T is k) is 5 c_least_lean xs) := by kernel_rfl
theorem s_balanced (is : Str → Str → Bool) (k : Nat) (xs : List Vv) : sem T is (k + 1) "balanced" xs = guard (decide (xs.length = 4)) (runB (sem T is k) is 0 c_balanced xs) := by kernel_rfl
theorem s_shifts (is : Str → Str → Bool) (k : Nat) (xs : List Vv) : sem T is (k + 1) "shifts" xs = guard (decide (xs.length = 3)) (runB (sem T is k) is 7 c_shifts xs) := by kernel_rfl
theorem s_fewest_shifts (is : Str → Str → Bool) (k : Nat) (xs : List Vv) : sem T is (k + 1) "fewest_shifts" xs = guard (decide (xs.length = 3)) (runB (sem T is k) is 6 c_fewest_shifts xs) := by kernel_rfl
theorem s_shown (is : Str → Str → Bool) (k : Nat) (xs : List Vv) : sem T is (k + 1) "shown" xs = guard (decide (xs.length = 2)) (runB (sem T is k) is 1 c_shown xs) := by kernel_rfl
theorem s_read (is : Str → Str → Bool) (k : Nat) (xs : List Vv) : sem T is (k + 1) "read" xs = guard (decide (xs.length = 1)) (runB (sem T is k) is 5 c_read xs) := by kernel_rfl
theorem s__law_cell (is : Str → Str → Bool) (k : Nat) (xs : List Vv) : sem T is (k + 1) "_law_cell" xs = guard (decide (xs.length = 2)) (runB (sem T is k) is 0 c__law_cell xs) := by kernel_rfl
theorem s__law_mix (is : Str → Str → Bool) (k : Nat) (xs : List Vv) : sem T is (k + 1) "_law_mix" xs = guard (decide (xs.length = 3)) (runB (sem T is k) is 0 c__law_mix xs) := by kernel_rfl
theorem s__law_seed (is : Str → Str → Bool) (k : Nat) (xs : List Vv) : sem T is (k + 1) "_law_seed" xs = guard (decide (xs.length = 2)) (runB (sem T is k) is 0 c__law_seed xs) := by kernel_rfl
theorem s__law_pick (is : Str → Str → Bool) (k : Nat) (xs : List Vv) : sem T is (k + 1) "_law_pick" xs = guard (decide (xs.length = 2)) (runB (sem T is k) is 0 c__law_pick xs) := by kernel_rfl
theorem s__law_as (is : Str → Str → Bool) (k : Nat) (xs : List Vv) : sem T is (k + 1) "_law_as" xs = guard (decide (xs.length = 2)) (runB (sem T is k) is 0 c__law_as xs) := by kernel_rfl
theorem s__law_in (is : Str → Str → Bool) (k : Nat) (xs : List Vv) : sem T is (k + 1) "_law_in" xs = guard (decide (xs.length = 3)) (runB (sem T is k) is 0 c__law_in xs) := by kernel_rfl
theorem s__law_deal (is : Str → Str → Bool) (k : Nat) (xs : List Vv) : sem T is (k + 1) "_law_deal" xs = guard (decide (xs.length = 3)) (runB (sem T is k) is 3 c__law_deal xs) := by kernel_rfl
theorem s__law_asks (is : Str → Str → Bool) (k : Nat) (xs : List Vv) : sem T is (k + 1) "_law_asks" xs = guard (decide (xs.length = 3)) (runB (sem T is k) is 2 c__law_asks xs) := by kernel_rfl
theorem s__law_turn (is : Str → Str → Bool) (k : Nat) (xs : List Vv) : sem T is (k + 1) "_law_turn" xs = guard (decide (xs.length = 3)) (runB (sem T is k) is 1 c__law_turn xs) := by kernel_rfl
theorem s__law_word (is : Str → Str → Bool) (k : Nat) (xs : List Vv) : sem T is (k + 1) "_law_word" xs = guard (decide (xs.length = 2)) (runB (sem T is k) is 1 c__law_word xs) := by kernel_rfl
theorem s__law_looked (is : Str → Str → Bool) (k : Nat) (xs : List Vv) : sem T is (k + 1) "_law_looked" xs = guard (decide (xs.length = 2)) (runB (sem T is k) is 0 c__law_looked xs) := by kernel_rfl
theorem s__law_is_deal (is : Str → Str → Bool) (k : Nat) (xs : List Vv) : sem T is (k + 1) "_law_is_deal" xs = guard (decide (xs.length = 2)) (runB (sem T is k) is 1 c__law_is_deal xs) := by kernel_rfl
theorem s_law (is : Str → Str → Bool) (k : Nat) (xs : List Vv) : sem T is (k + 1) "law" xs = guard (decide (xs.length = 1)) (runB (sem T is k) is 16 c_law xs) := by kernel_rfl
end Lw
namespace Lw
open PySem PySem.Spec PyProof.Rows L2 Pv
variable {is : Str → Str → Bool}
theorem e_is_within (k : Nat) (x lo hi : Int) : sem T is (k + 1) "is_within" [.d (.int x), .d (.int lo), .d (.int hi)] = ret (rd (.bool (decide (lo ≤ x) && decide (x ≤ hi)))) := by
  rw [s_is_within]
  by_cases h : lo ≤ x <;> simp [c_is_within, h]
theorem e_look_size (k : Nat) (size : Int) (h : 2 ≤ size ∧ size ≤ 7) : sem T is (k + 2) "look_size" [.d (.int size)] = ret (rd .none) := by
  rw [s_look_size]
  simp [c_look_size, e_is_within, h]
/-- a deal -/
structure Dl (size : Int) (d : List Int) : Prop where
  s2 : 2 ≤ size
  s7 : size ≤ 7
  l1 : 1 ≤ d.length
  l6 : d.length ≤ 6
  ins : ∀ p ∈ d, 0 ≤ p ∧ p < size
  nd : d.Nodup
theorem e_is_deal (k : Nat) {size : Int} {d : List Int} (h : Dl size d) : sem T is (k + 2) "is_deal" [.d (.int size), .d (tupD d)] = ret (rd (.bool true)) := by
  have l1 : (1 : Int) ≤ d.length := by have := h.l1; omega
  have l6 : (d.length : Int) ≤ 6 := by have := h.l6; omega
  have l9 : d.length ≤ 4000 := by have := h.l6; omega
  have e0 : ∀ a ∈ d, 0 ≤ a ∧ a ≤ size - 1 := fun p hp => by
    have := h.ins p hp
    omega
  have e1 : (uniqL d).length = d.length := (uniq_len h.nd fun _ => Iff.rfl).symm
  rw [s_is_deal]
  simp [c_is_deal, l1_is_deal, k1_is_deal, tupD, e_is_within, lcL_map, l1, l6, e1, lenSetM, l9, if_pos e0]
theorem e_look (k : Nat) {size : Int} {d : List Int} (h : Dl size d) : sem T is (k + 3) "look" [.d (.int size), .d (tupD d)] = ret (rd .none) := by
  rw [s_look]
  simp [c_look, e_look_size _ _ ⟨h.s2, h.s7⟩, e_is_deal _ h]
theorem emod_inj {size a b c : Int} (h : 0 < size) (ha : 0 ≤ a ∧ a < size) (hb : 0 ≤ b ∧ b < size) (e : (a + c) % size = (b + c) % size) : a = b := by
  have h1 : (a + c - (b + c)) % size = 0 := Int.emod_eq_emod_iff_emod_sub_eq_zero.mp e
  have h2 : (a - b) % size = 0 := by rw [← h1]; congr 1; omega
  obtain ⟨q, hq⟩ := Int.dvd_of_emod_eq_zero h2
  have : q = 0 := by
    rcases Int.lt_trichotomy q 0 with z | z | z
    · have : size * q ≤ size * (-1) := Int.mul_le_mul_of_nonneg_left (by omega) (by omega)
      omega
    · exact z
    · have : size * 1 ≤ size * q := Int.mul_le_mul_of_nonneg_left (by omega) (by omega)
      omega
  subst this
  omega
theorem Dl.pos {s : Int} {d : List Int} (D : Dl s d) : 0 < s := by have := D.s2; omega
theorem Dl.at {s : Int} {d : List Int} (D : Dl s d) {a : Int} (h0 : 0 ≤ a) (h1 : a < d.length) : 0 ≤ gd d a ∧ gd d a < s := D.ins _ (gd_mem h0 h1)
end Lw
namespace Lw
open PySem PySem.Spec PyProof.Rows L2 Pv
variable {is : Str → Str → Bool}
/-- a script's cell -/
def cell (ns : List Int) (i : Nat) : Int := ns.getD i 0
theorem e_cell (k : Nat) (ns : List Int) (i : Nat) : sem T is (k + 1) "_law_cell" [.scr ns, .d (.int i)] = ret (rd (.int (cell ns i))) := by
  rw [s__law_cell]
  by_cases h : i < ns.length
  · have e : atI ns (i : Int) = some (cell ns i) := atN (by rw [List.getElem?_eq_getElem h]; simp [cell, List.getD_eq_getElem?_getD, List.getElem?_eq_getElem h])
    simp [c__law_cell, h, e]
  · have e : cell ns i = 0 := by simp [cell, List.getD_eq_getElem?_getD, List.getElem?_eq_none (by omega : ns.length ≤ i)]
    simp [c__law_cell, h, e]
def seedV (s k : Int) : Int := ((s * 1103515245 + 7919 * k + 12345) % 2147483647) ^ 5 % 2147483647
theorem e_seed (k : Nat) (s i : Int) : sem T is (k + 1) "_law_seed" [.d (.int s), .d (.int i)] = ret (rd (.int (seedV s i))) := by
  have m1 : mulOk s 1103515245 = true := by unfold mulOk smallI; simp
  have m2 : mulOk 7919 i = true := by unfold mulOk smallI; simp
  have m3 : modOk 2147483647 = true := by decide
  have m4 : powOk ((s * 1103515245 + 7919 * i + 12345) % 2147483647) 5 = true := by
    have h1 := Int.emod_nonneg (s * 1103515245 + 7919 * i + 12345) (show (2147483647 : Int) ≠ 0 by decide)
    have h2 := Int.emod_lt_of_pos (s * 1103515245 + 7919 * i + 12345) (show (0 : Int) < 2147483647 by decide)
    unfold powOk
    refine decide_eq_true ⟨by omega, by omega, ?_⟩
    omega
  rw [s__law_seed]
  simp [c__law_seed, m1, m2, m3, m4, seedV]
def pickV (s m : Int) : Int := s / 97 % m
theorem e_pick (k : Nat) (s m : Int) (h : 0 < m) : sem T is (k + 1) "_law_pick" [.d (.int s), .d (.int m)] = ret (rd (.int (pickV s m))) := by
  have m1 : divOk 97 = true := by decide
  have m2 : modOk m = true := decide_eq_true h
  rw [s__law_pick]
  simp [c__law_pick, m1, m2, pickV]
theorem map_erase {α β : Type} (f : α → β) : ∀ (xs : List α) (j : Nat), (xs.map f).eraseIdx j = (xs.eraseIdx j).map f
  | [], _ => rfl
  | x :: xs, 0 => rfl
  | x :: xs, j + 1 => congrArg (f x :: ·) (map_erase f xs j)
theorem erase_perm {α : Type} : ∀ (xs : List α) (j : Nat) (h : j < xs.length), (xs[j] :: xs.eraseIdx j).Perm xs
  | [], j, h => absurd h (by simp)
  | x :: xs, 0, _ => .refl _
  | x :: xs, j + 1, h => (List.Perm.swap x (xs[j]'(by simpa using h)) _).trans ((erase_perm xs j (by simpa using h)).cons x)
/-- a dealt deal -/
theorem e_dealG (k : Nat) (s : Int) {size : Int} {n : Nat} (h2 : 1 ≤ size) (h7 : size ≤ 7) (hn : (n : Int) ≤ size) : ∃ d, sem T is (k + 2) "_law_deal" [.d (.int s), .d (.int size), .d (.int n)] = ret (rd (tupD d)) ∧ d.length = n ∧ (∀ p ∈ d, 0 ≤ p ∧ p < size) ∧ d.Nodup := by
  have hs : rangeOk 0 size = true := by unfold rangeOk; simp; omega
  have hr : rangeOk 0 (n : Int) = true := by unfold rangeOk; simp; omega
  have f0 : fits 0 = true := by decide
  have key : ∃ env', forG (fun (i : Nat) => bodyF (sem T is (k + 1)) is (.nm 5) b1__law_deal (.int (0 + (i : Nat)))) (List.range ((n : Int) - 0).toNat) [.val (.d (.int s)), .val (.d (.int size)), .val (.d (.int n)), .own (.lst (((List.range size.toNat).map fun i : Nat => (i : Int)).map .int)), .own (.lst (([] : List Int).map .int)), .non] = ret (.nx env') ∧
      ∃ (free found : List Int) (s5 : Slot), env' = [.val (.d (.int s)), .val (.d (.int size)), .val (.d (.int n)), .own (.lst (free.map .int)), .own (.lst (found.map .int)), s5] ∧ found.length = (List.range ((n : Int) - 0).toNat).length ∧ (free ++ found).Perm ((List.range size.toNat).map fun i : Nat => (i : Int)) := by
    refine forG_inv (fun done env => ∃ (free found : List Int) (s5 : Slot), env = [.val (.d (.int s)), .val (.d (.int size)), .val (.d (.int n)), .own (.lst (free.map .int)), .own (.lst (found.map .int)), s5] ∧ found.length = done.length ∧ (free ++ found).Perm ((List.range size.toNat).map fun i : Nat => (i : Int))) _ [] _ ⟨_, [], .non, rfl, rfl, by simp⟩ fun d x r env hd ⟨free, found, s5, he, hl, hp⟩ => ?_
    subst he
    have hdl : d.length < n := by
      have := congrArg List.length hd
      simp at this
      omega
    have hfl : free.length + found.length = size.toNat := by have := hp.length_eq; simpa using this
    have hpos : (0 : Int) < free.length := by omega
    have q1 := Int.emod_nonneg (seedV s x / 97) (show (free.length : Int) ≠ 0 by omega)
    have q2 := Int.emod_lt_of_pos (seedV s x / 97) hpos
    obtain ⟨j, hj⟩ : ∃ j : Nat, pickV (seedV s x) free.length = (j : Int) := ⟨(pickV (seedV s x) free.length).toNat, by unfold pickV; omega⟩
    have hjl : j < free.length := by unfold pickV at hj; omega
    refine ⟨[.val (.d (.int s)), .val (.d (.int size)), .val (.d (.int n)), .own (.lst ((free.eraseIdx j).map .int)), .own (.lst ((found ++ [free[j]]).map .int)), .val (.d (.int (0 + (x : Nat))))], ?_, ⟨_, _, _, rfl, by simp [hl], ?_⟩⟩
    · have p : popAt (free.map PyData.int) (j : Int) = ret (.int free[j], (free.eraseIdx j).map .int) := by
        unfold popAt
        rw [List.length_map, ixNn hjl]
        have : (-9223372036854775808 : Int) ≤ j ∧ (j : Int) < 9223372036854775808 := by omega
        simp [List.getElem?_eq_getElem hjl, this, map_erase]
      have f : fits (found.length + 1) = true := by unfold fits; simp; omega
      simp only [bodyF, b1__law_deal]
      simp [e_seed k, e_pick k _ _ hpos, hj, p, f]
    · have e1 : (free.eraseIdx j ++ (found ++ [free[j]])).Perm (free ++ found) := by
        have : (free.eraseIdx j ++ (found ++ [free[j]])).Perm (free[j] :: (free.eraseIdx j ++ found)) := by
          rw [← List.append_assoc]
          exact List.perm_append_comm
        refine this.trans ?_
        rw [← List.cons_append]
        exact List.Perm.append_right _ (erase_perm free j hjl)
      exact e1.trans hp
  obtain ⟨env', e1, free, found, s5, e2, hl, hp⟩ := key
  subst e2
  simp only [List.length_range, Int.sub_zero, Int.toNat_natCast, Int.zero_add] at e1 hl
  have hm : ∀ p ∈ found, 0 ≤ p ∧ p < size := fun p hp' => by
    have := hp.mem_iff.mp (List.mem_append_right free hp')
    obtain ⟨i, hi, rfl⟩ := List.mem_map.mp this
    have := List.mem_range.mp hi
    omega
  have hnd : ((List.range size.toNat).map fun i : Nat => (i : Int)).Nodup := List.pairwise_map.mpr (List.Pairwise.imp (fun h e => h (by omega)) List.nodup_range)
  have nd : found.Nodup := (List.nodup_append.mp (hp.nodup_iff.mpr hnd)).2.1
  refine ⟨found, ?_, hl, hm, nd⟩
  rw [s__law_deal]
  have er : rangeL 0 size = ((List.range size.toNat).map fun i : Nat => (i : Int)).map .int := by
    unfold rangeL
    rw [List.map_map]
    simp [Function.comp_def]
  rw [List.map_map, List.map_nil] at e1
  simp [c__law_deal, hs, hr, f0, er, forL_range, tupD, e1]
theorem e_deal (k : Nat) (s : Int) {size : Int} {n : Nat} (h2 : 2 ≤ size) (h7 : size ≤ 7) (h1 : 1 ≤ n) (h6 : n ≤ 6) (hn : (n : Int) ≤ size) : ∃ d, sem T is (k + 2) "_law_deal" [.d (.int s), .d (.int size), .d (.int n)] = ret (rd (tupD d)) ∧ Dl size d ∧ d.length = n := by
  obtain ⟨d, e, hl, hm, nd⟩ := e_dealG (is := is) k s (size := size) (n := n) (by omega) h7 hn
  exact ⟨d, e, ⟨h2, h7, by omega, by omega, hm, nd⟩, hl⟩
end Lw
namespace Lw
open PySem PySem.Spec PyProof.Rows L2 Pv
variable {is : Str → Str → Bool}
/-- asks for n things -/
structure Ak (n : Nat) (as : List Int) : Prop where
  l24 : as.length ≤ 24
  ins : ∀ a ∈ as, 0 ≤ a ∧ a < n
theorem e_look_asks (k : Nat) {n : Nat} {as : List Int} (h : Ak n as) : sem T is (k + 2) "look_asks" [.d (.int n), .d (tupD as)] = ret (rd .none) := by
  have l : ¬ (24 : Int) < as.length := by have := h.l24; omega
  have e0 : ∀ a ∈ as, 0 ≤ a ∧ a ≤ (n : Int) - 1 := fun p hp => by
    have := h.ins p hp
    omega
  have e1 : as.filter (fun x => decide (x < 0) || decide ((n : Int) - 1 < x)) = [] := List.filter_eq_nil_iff.mpr fun a ha => by
    have := e0 a ha
    simp
    omega
  rw [s_look_asks]
  simp [c_look_asks, l1_look_asks, k1_look_asks, tupD, e_is_within, lcL_map, l, e1]
end Lw
namespace Lw
open PySem PySem.Spec PyProof.Rows L2 Pv
variable {is : Str → Str → Bool}
/-- asks drawn -/
theorem e_lasks (k : Nat) (s : Int) {n m : Nat} (h1 : 1 ≤ n) (hm : m ≤ 24) : ∃ as : List Int, sem T is (k + 2) "_law_asks" [.d (.int s), .d (.int n), .d (.int m)] = ret (rd (tupD as)) ∧ as.length = m ∧ ∀ a ∈ as, 0 ≤ a ∧ a < n := by
  have hr : rangeOk 0 (m : Int) = true := rangeOk_le (by omega)
  have q0 := Int.emod_nonneg (s / 5) (show (3 : Int) ≠ 0 by decide)
  have q1 := Int.emod_lt_of_pos (s / 5) (show (0 : Int) < 3 by decide)
  have m5 : modOk 5 = true := by decide
  have m3 : modOk 3 = true := by decide
  have d5 : divOk 5 = true := by decide
  have f3 : fits 3 = true := by decide
  obtain ⟨wd, hw, hw1⟩ : ∃ wd : Int, L2.atI [PyData.int n, PyData.int 2, PyData.int 3] (s / 5 % 3) = some (.int wd) ∧ 1 ≤ wd := by
    have : s / 5 % 3 = 0 ∨ s / 5 % 3 = 1 ∨ s / 5 % 3 = 2 := by omega
    rcases this with e | e | e
    · exact ⟨n, by rw [e]; rfl, by omega⟩
    · exact ⟨2, by rw [e]; rfl, by omega⟩
    · exact ⟨3, by rw [e]; rfl, by omega⟩
  let g : Nat → Int := fun i => pickV (seedV s i) (if ((i : Int) % 5 > 0) then minI n wd else n)
  have hp : ∀ i : Nat, 0 < (if ((i : Int) % 5 > 0) then minI n wd else (n : Int)) ∧ (if ((i : Int) % 5 > 0) then minI n wd else (n : Int)) ≤ n := fun i => by
    unfold minI
    split <;> (try split) <;> omega
  refine ⟨(List.range m).map g, ?_, by simp, fun a ha => ?_⟩
  · have key : ∀ env, env = [Pv.Slot.val (.d (.int s)), .val (.d (.int n)), .val (.d (.int m)), .val (.d (.int wd)), .non] → lcL (lcB (sem T is (k + 1)) l1__law_asks (.nm 4) none [4] env) (rangeL 0 m) = Pv.ret (((List.range m).map g).map .int) := fun env he => by
      subst he
      rw [lcL_range, show ((m : Int) - 0).toNat = m by omega]
      refine (lcG_mapon (fun i : Nat => PyData.int (g i)) fun i _ => ?_).trans (by rw [List.map_map]; rfl)
      have h2 := (hp i).1
      by_cases c : ((i : Int) % 5 > 0)
      · rw [if_pos c] at h2
        have eg : g i = pickV (seedV s i) (minI n wd) := by show pickV _ (if _ then _ else _) = _; rw [if_pos c]
        simp [l1__law_asks, e_seed k, e_pick k _ _ h2, m5, c, eg]
      · rw [if_neg c] at h2
        have eg : g i = pickV (seedV s i) n := by show pickV _ (if _ then _ else _) = _; rw [if_neg c]
        simp [l1__law_asks, e_seed k, e_pick k _ _ h2, m5, c, eg]
    rw [s__law_asks]
    simp [c__law_asks, f3, d5, m3, hw, hr, key, tupD]
  · obtain ⟨i, _, rfl⟩ := List.mem_map.mp ha
    obtain ⟨h2, h3⟩ := hp i
    have p1 := Int.emod_nonneg (seedV s i / 97) (show (if ((i : Int) % 5 > 0) then minI n wd else (n : Int)) ≠ 0 by omega)
    have p2 := Int.emod_lt_of_pos (seedV s i / 97) h2
    show 0 ≤ pickV _ _ ∧ pickV _ _ < _
    unfold pickV
    omega
end Lw
namespace Lw
open PySem PySem.Spec PyProof.Rows L2 Pv
variable {is : Str → Str → Bool}
/-- the shorter turn -/
def sw (s a b : Int) : Int := if 2 * ((b - a) % s) ≤ s then (b - a) % s else (b - a) % s - s
theorem e_sw (k : Nat) (s a b : Int) (h : 0 < s) : sem T is (k + 1) "short_way" [.d (.int s), .d (.int a), .d (.int b)] = ret (rd (.int (sw s a b))) := by
  have m : modOk s = true := decide_eq_true h
  have m2 : mulOk 2 ((b - a) % s) = true := by unfold mulOk smallI; simp
  rw [s_short_way]
  by_cases c : 2 * ((b - a) % s) ≤ s
  · simp [c_short_way, m, m2, c, sw]
  · simp [c_short_way, m, m2, c, sw]
theorem sw_inj {s a b c : Int} (h : 0 < s) (hb : 0 ≤ b ∧ b < s) (hc : 0 ≤ c ∧ c < s) (e : sw s a b = sw s a c) : b = c := by
  have h1 := Int.emod_nonneg (b - a) (show s ≠ 0 by omega)
  have h2 := Int.emod_lt_of_pos (b - a) h
  have h3 := Int.emod_nonneg (c - a) (show s ≠ 0 by omega)
  have h4 := Int.emod_lt_of_pos (c - a) h
  have e2 : (b - a) % s = (c - a) % s := by
    unfold sw at e
    split at e <;> split at e <;> omega
  exact emod_inj (c := -a) h hb hc (by have e3 : b + -a = b - a := by omega
                                       have e4 : c + -a = c - a := by omega
                                       rw [e3, e4]; exact e2)
end Lw
namespace Lw
open PySem PySem.Spec PyProof.Rows L2 Pv
variable {is : Str → Str → Bool}
/-- the turns for asks, from a place on -/
def tt (s : Int) (d : List Int) : Int → List Int → List Int
  | _, [] => []
  | h, a :: as => sw s h (gd d a) :: tt s d (gd d a) as
/-- the place at the door behind asks -/
def hereF (d : List Int) (h : Int) (as : List Int) : Int := match as.getLast? with
  | none => h
  | some a => gd d a
theorem here_snoc (d : List Int) (h : Int) (as : List Int) (a : Int) : hereF d h (as ++ [a]) = gd d a := by
  unfold hereF
  rw [List.getLast?_append]
  rfl
theorem here_cons (d : List Int) (h a : Int) (as : List Int) : hereF d h (a :: as) = hereF d (gd d a) as := by
  unfold hereF
  cases as with
  | nil => rfl
  | cons b bs => rw [List.getLast?_cons_cons]; simp [List.getLast?_cons]
theorem tt_app (s : Int) (d : List Int) : ∀ (as bs : List Int) (h : Int), tt s d h (as ++ bs) = tt s d h as ++ tt s d (hereF d h as) bs
  | [], bs, h => rfl
  | a :: as, bs, h => by
    show sw s h (gd d a) :: tt s d (gd d a) (as ++ bs) = _
    rw [tt_app s d as bs, here_cons]
    rfl
theorem tt_len (s : Int) (d : List Int) : ∀ (as : List Int) (h : Int), (tt s d h as).length = as.length
  | [], _ => rfl
  | a :: as, h => congrArg (· + 1) (tt_len s d as _)
theorem tt_take (s : Int) (d : List Int) : ∀ (as : List Int) (h : Int) (n : Nat), tt s d h (as.take n) = (tt s d h as).take n
  | [], h, n => by simp [tt]
  | a :: as, h, 0 => rfl
  | a :: as, h, n + 1 => by
    show sw s h (gd d a) :: tt s d (gd d a) (as.take n) = _
    rw [tt_take s d as _ n]
    rfl
theorem e_tt (k : Nat) {s : Int} {d as : List Int} (hs : 0 < s) (h : ∀ a ∈ as, 0 ≤ a ∧ a < d.length) (hl : as.length ≤ 1000) : sem T is (k + 2) "turns_told" [.d (.int s), .d (tupD d), .d (tupD as)] = ret (.fr (.lst ((tt s d 0 as).map .int))) := by
  have f0 : fits 0 = true := by decide
  have key := forL_at (f := bodyF (sem T is (k + 1)) is (.nm 5) b1_turns_told) PyData.int
    (fun dn => [.val (.d (.int s)), .val (.d (tupD d)), .val (.d (tupD as)), .own (.lst ((tt s d 0 dn).map .int)), .val (.d (.int (hereF d 0 dn))), jk .non PyData.int dn]) as fun dn x r e => by
      have hx := h x (by rw [e]; simp)
      have hd : dn.length < 1000 := by rw [e] at hl; simp at hl; omega
      have f : fits (dn.length + 1) = true := fits_le' (by omega)
      simp only [bodyF, b1_turns_told]
      simp [tupD, atI_gd hx.1 hx.2, e_sw k _ _ _ hs, tt_len, f, here_snoc, tt_app, tt]
  rw [s_turns_told]
  simp only [jk_nil, List.map_nil, hereF, List.getLast?_nil, tt] at key
  simp [c_turns_told, f0, tupD]
  rw [show (PyData.tuple (as.map .int)) = tupD as from rfl, show (PyData.tuple (d.map .int)) = tupD d from rfl, key]
  simp
theorem e_turns (k : Nat) {s : Int} {d as : List Int} (D : Dl s d) (A : Ak d.length as) : sem T is (k + 4) "turns" [.d (.int s), .d (tupD d), .d (tupD as)] = ret (.fr (.lst ((tt s d 0 as).map .int))) := by
  have hs : 0 < s := by have := D.s2; omega
  have l1 := e_look (is := is) k D
  have l2 := e_look_asks (is := is) (k + 1) A
  have l3 := e_tt (is := is) (k + 1) hs A.ins (by have := A.l24; omega)
  simp only [tupD] at l1 l2 l3
  rw [s_turns]
  simp [c_turns, l1, l2, l3, tupD]
end Lw
namespace Lw
open PySem PySem.Spec PyProof.Rows L2 Pv
variable {is : Str → Str → Bool}
theorem emod_cast {s : Int} (a b : Int) (h : 0 < s) (hb : 0 ≤ b ∧ b < s) (i : Nat) (hi : (i : Int) < s) : (a + (i : Int)) % s = b ↔ (i : Int) = (b - a) % s := by
  have h1 := Int.emod_nonneg (b - a) (show s ≠ 0 by omega)
  have h2 := Int.emod_lt_of_pos (b - a) h
  constructor
  · intro e
    have e2 : (b - a) % s = ((a + i) % s - a) % s := by rw [e]
    rw [Int.emod_sub_emod, show a + (i : Int) - a = i by omega, Int.emod_eq_of_lt (by omega) hi] at e2
    exact e2.symm
  · intro e
    rw [e, Int.add_emod_emod, show a + (b - a) = b by omega]
    exact Int.emod_eq_of_lt hb.1 hb.2
/-- the law's own turn -/
theorem e_lturn (k : Nat) {s a b : Int} (h : 0 < s) (h7 : s ≤ 7) (hb : 0 ≤ b ∧ b < s) : sem T is (k + 1) "_law_turn" [.d (.int s), .d (.int a), .d (.int b)] = ret (rd (.int (sw s a b))) := by
  have h1 := Int.emod_nonneg (b - a) (show s ≠ 0 by omega)
  have h2 := Int.emod_lt_of_pos (b - a) h
  obtain ⟨m, hm⟩ : ∃ m : Nat, (b - a) % s = (m : Int) := ⟨((b - a) % s).toNat, by omega⟩
  have md : modOk s = true := mod_g h
  have key := whileF_at (c := whlC (sem T is k) k1__law_turn) (f := whlB (sem T is k) is b1__law_turn) (fun i => [.val (.d (.int s)), .val (.d (.int a)), .val (.d (.int b)), .val (.d (.int i))]) m
    (fun i hi => by
      have := emod_cast a b h hb i (by omega)
      have ne : ¬ (a + (i : Int)) % s = b := fun z => by have := this.mp z; omega
      simp [whlC, k1__law_turn, md, ne])
    (fun i hi => by simp [whlB, b1__law_turn])
    (by
      have := (emod_cast a b h hb m (by omega)).mpr hm.symm
      simp [whlC, k1__law_turn, md, this]) FUEL 0 (Nat.zero_le _) (by unfold FUEL; omega)
  rw [s__law_turn]
  have key' : whileF (whlC (sem T is k) k1__law_turn) (whlB (sem T is k) is b1__law_turn) FUEL [.val (.d (.int s)), .val (.d (.int a)), .val (.d (.int b)), .val (.d (.int 0))] = _ := key
  by_cases c : 2 * ((b - a) % s) ≤ s
  · have c2 : (m : Int) ≤ s - m := by omega
    simp [c__law_turn, key', c2, sw, hm, c]
    rw [if_pos (by omega)]
  · have c2 : ¬ (m : Int) ≤ s - m := by omega
    simp [c__law_turn, key', c2, sw, hm, c]
    rw [if_neg (by omega)]
end Lw
namespace Lw
open PySem PySem.Spec PyProof.Rows L2 Pv
def dist (s a b : Int) : Int := absI (sw s a b)
/-- the cost -/
def cst (s : Int) (d : List Int) : Int → List Int → Int
  | _, [] => 0
  | h, a :: as => dist s h (gd d a) + cst s d (gd d a) as
theorem dist_eq {s a b : Int} (h : 0 < s) : dist s a b = if 2 * ((b - a) % s) ≤ s then (b - a) % s else s - (b - a) % s := by
  have h1 := Int.emod_nonneg (b - a) (show s ≠ 0 by omega)
  have h2 := Int.emod_lt_of_pos (b - a) h
  unfold dist absI sw
  split <;> (try split) <;> omega
theorem dist_nonneg (s a b : Int) : 0 ≤ dist s a b := by
  unfold dist absI
  split <;> omega
theorem dist_fw {s : Int} (a b : Int) (h : 0 < s) : dist s a b ≤ (b - a) % s := by
  have h1 := Int.emod_nonneg (b - a) (show s ≠ 0 by omega)
  have h2 := Int.emod_lt_of_pos (b - a) h
  rw [dist_eq h]
  split <;> omega
theorem dist_half {s : Int} (a b : Int) (h : 0 < s) : 2 * dist s a b ≤ s := by
  have h1 := Int.emod_nonneg (b - a) (show s ≠ 0 by omega)
  have h2 := Int.emod_lt_of_pos (b - a) h
  rw [dist_eq h]
  split <;> omega
/-- (b - a) mod s of two parts -/
theorem emod_add2 {s : Int} (h : 0 < s) (x y : Int) : (x + y) % s = x % s + y % s ∨ (x + y) % s = x % s + y % s - s := by
  have h1 := Int.emod_nonneg x (show s ≠ 0 by omega)
  have h2 := Int.emod_lt_of_pos x h
  have h3 := Int.emod_nonneg y (show s ≠ 0 by omega)
  have h4 := Int.emod_lt_of_pos y h
  have e : (x + y) % s = (x % s + y % s) % s := by simp
  rw [e]
  by_cases c : x % s + y % s < s
  · left; exact Int.emod_eq_of_lt (by omega) c
  · right
    have : (x % s + y % s) % s = (x % s + y % s - s) % s := by simp
    rw [this]
    exact Int.emod_eq_of_lt (by omega) (by omega)
theorem emod_neg2 {s : Int} (h : 0 < s) (x : Int) : (x % s = 0 ∧ (-x) % s = 0) ∨ (0 < x % s ∧ (-x) % s = s - x % s) := by
  have h1 := Int.emod_nonneg x (show s ≠ 0 by omega)
  have h2 := Int.emod_lt_of_pos x h
  have h3 := Int.emod_nonneg (-x) (show s ≠ 0 by omega)
  have h4 := Int.emod_lt_of_pos (-x) h
  have := emod_add2 h x (-x)
  rw [show x + -x = 0 by omega, Int.zero_emod] at this
  omega
theorem dist_comm {s : Int} (h : 0 < s) (a b : Int) : dist s a b = dist s b a := by
  have := emod_neg2 h (b - a)
  rw [dist_eq h, dist_eq h]
  rw [show -(b - a) = a - b by omega] at this
  split <;> split <;> omega
theorem dist_tri {s : Int} (h : 0 < s) (a b c : Int) : dist s a c ≤ dist s a b + dist s b c := by
  have k := emod_add2 h (b - a) (c - b)
  rw [show b - a + (c - b) = c - a by omega] at k
  have h1 := Int.emod_nonneg (b - a) (show s ≠ 0 by omega)
  have h2 := Int.emod_lt_of_pos (b - a) h
  have h3 := Int.emod_nonneg (c - b) (show s ≠ 0 by omega)
  have h4 := Int.emod_lt_of_pos (c - b) h
  have h5 := Int.emod_nonneg (c - a) (show s ≠ 0 by omega)
  have h6 := Int.emod_lt_of_pos (c - a) h
  rw [dist_eq h, dist_eq h, dist_eq h]
  split <;> split <;> split <;> omega
theorem dist_zero {s : Int} (h : 0 < s) (a : Int) : dist s a a = 0 := by
  rw [dist_eq h, show a - a = 0 by omega, Int.zero_emod]
  rw [if_pos (by omega)]
theorem dist_pos {s a b : Int} (ha : 0 ≤ a ∧ a < s) (hb : 0 ≤ b ∧ b < s) (h : dist s a b = 0) : a = b := by
  have hs : 0 < s := by omega
  have h1 := Int.emod_nonneg (b - a) (show s ≠ 0 by omega)
  have h2 := Int.emod_lt_of_pos (b - a) hs
  rw [dist_eq hs] at h
  have z : (b - a) % s = 0 := by split at h <;> omega
  obtain ⟨q, hq⟩ := Int.dvd_of_emod_eq_zero z
  have : q = 0 := by
    rcases Int.lt_trichotomy q 0 with y | y | y
    · have : s * q ≤ s * (-1) := Int.mul_le_mul_of_nonneg_left (by omega) (by omega)
      omega
    · exact y
    · have : s * 1 ≤ s * q := Int.mul_le_mul_of_nonneg_left (by omega) (by omega)
      omega
  subst this
  omega
theorem sw_lead (s a b c : Int) : sw s ((a + c) % s) ((b + c) % s) = sw s a b := by
  have : ((b + c) % s - (a + c) % s) % s = (b - a) % s := by
    rw [← Int.sub_emod]
    congr 1
    omega
  unfold sw
  rw [this]
theorem dist_lead (s a b c : Int) : dist s ((a + c) % s) ((b + c) % s) = dist s a b := by
  unfold dist
  rw [sw_lead]
theorem dist_mirror {s : Int} (h : 0 < s) (a b c : Int) : dist s ((c - a) % s) ((c - b) % s) = dist s a b := by
  rw [dist_comm h a b]
  have : ((c - b) % s - (c - a) % s) % s = (a - b) % s := by
    rw [← Int.sub_emod]
    congr 1
    omega
  unfold dist sw
  rw [this]
theorem cst_nonneg (s : Int) (d : List Int) : ∀ (as : List Int) (h : Int), 0 ≤ cst s d h as
  | [], _ => Int.le_refl _
  | a :: as, h => by
    have := cst_nonneg s d as (gd d a)
    have := dist_nonneg s h (gd d a)
    unfold cst
    omega
theorem cst_lead (s c : Int) {d d' : List Int} : ∀ (as : List Int) (h : Int), (∀ a ∈ as, gd d' a = (gd d a + c) % s) → cst s d' ((h + c) % s) as = cst s d h as
  | [], _, _ => rfl
  | a :: as, h, k => by
    unfold cst
    rw [k a List.mem_cons_self, dist_lead, cst_lead s c as _ fun b hb => k b (List.mem_cons_of_mem _ hb)]
end Lw
namespace Lw
open PySem PySem.Spec PyProof.Rows L2 Pv
variable {is : Str → Str → Bool}
def mixV (c p m : Int) : Int := (c * 48271 % p) ^ 3 % p % m
theorem e_mix (k : Nat) (c : Int) {p m : Int} (hp : 0 < p ∧ p < 10000) (hm : 0 < m) : sem T is (k + 1) "_law_mix" [.d (.int c), .d (.int p), .d (.int m)] = ret (rd (.int (mixV c p m))) := by
  have m1 : mulOk c 48271 = true := mul_gr (by decide) (by decide)
  have m2 : modOk p = true := mod_g hp.1
  have m3 : modOk m = true := mod_g hm
  have m4 : powOk (c * 48271 % p) 3 = true := by
    have h1 := Int.emod_nonneg (c * 48271) (show p ≠ 0 by omega)
    have h2 := Int.emod_lt_of_pos (c * 48271) hp.1
    unfold powOk
    exact decide_eq_true ⟨by omega, by omega, by omega⟩
  rw [s__law_mix]
  simp [c__law_mix, m1, m2, m3, m4, mixV]
theorem mix_in (c p : Int) {m : Int} (hm : 0 < m) : 0 ≤ mixV c p m ∧ mixV c p m < m := ⟨Int.emod_nonneg _ (by omega), Int.emod_lt_of_pos _ hm⟩
end Lw
namespace Lw
open PySem PySem.Spec PyProof.Rows L2 Pv
variable {is : Str → Str → Bool}
theorem tt_cst (s : Int) (d : List Int) : ∀ (as : List Int) (h : Int), ((tt s d h as).map absI).sum = cst s d h as
  | [], _ => rfl
  | a :: as, h => by
    show (absI (sw s h (gd d a)) :: (tt s d (gd d a) as).map absI).sum = _
    rw [List.sum_cons, tt_cst s d as]
    rfl
theorem e_cost (k : Nat) {s : Int} {d as : List Int} (D : Dl s d) (A : Ak d.length as) : sem T is (k + 5) "cost" [.d (.int s), .d (tupD d), .d (tupD as)] = ret (rd (.int (cst s d 0 as))) := by
  have l1 := e_turns (is := is) k D A
  have lc : ∀ s3, lcL (lcB (sem T is (k + 4)) l1_cost (.nm 3) none [3] [.val (.d (.int s)), .val (.d (tupD d)), .val (.d (tupD as)), s3]) ((tt s d 0 as).map .int) = Pv.ret (((tt s d 0 as).map absI).map .int) := fun s3 => by
    refine ((lcL_map _ _ _).trans (lcG_mapon (fun w => PyData.int (absI w)) fun w _ => ?_)).trans (by rw [List.map_map]; rfl)
    simp [l1_cost]
  have e := tt_cst s d as 0
  generalize (tt s d 0 as).map absI = xs at *
  rw [s_cost]
  simp [c_cost, l1, lc, sumM, e]
end Lw
namespace Lw
open PySem PySem.Spec PyProof.Rows L2 Pv
variable {is : Str → Str → Bool}
theorem e_way (k : Nat) {s a b : Int} (h2 : 2 ≤ s) (h7 : s ≤ 7) (ha : 0 ≤ a ∧ a < s) (hb : 0 ≤ b ∧ b < s) : sem T is (k + 3) "way" [.d (.int s), .d (.int a), .d (.int b)] = ret (rd (.int (sw s a b))) := by
  have a1 : a ≤ s - 1 := by omega
  have b1 : b ≤ s - 1 := by omega
  rw [s_way]
  simp [c_way, e_look_size _ _ ⟨h2, h7⟩, e_is_within, ha.1, hb.1, a1, b1, e_sw (k + 1) _ _ _ (show 0 < s by omega)]
end Lw
namespace Lw
open PySem PySem.Spec PyProof.Rows L2 Pv
variable {is : Str → Str → Bool}
/-! ### things of any kind -/
def inR (x : Pv.D) (lo hi : Int) : Bool := match x with
  | .int i => decide (lo ≤ i) && decide (i ≤ hi)
  | _ => false
theorem e_withinD (k : Nat) (x : Pv.D) (lo hi : Int) : sem T is (k + 1) "is_within" [.d x, .d (.int lo), .d (.int hi)] = ret (rd (.bool (inR x lo hi))) := by
  rw [s_is_within]
  cases x with
  | int i => by_cases h : lo ≤ i <;> simp [c_is_within, inR, h]
  | _ => simp [c_is_within, inR, isTy]
theorem e_look_sizeD (k : Nat) (x : Pv.D) : sem T is (k + 2) "look_size" [.d x] = if inR x 2 7 = true then ret (rd .none) else raise "NoSize" := by
  rw [s_look_size]
  by_cases h : inR x 2 7 = true
  · simp [c_look_size, e_withinD, h]
  · have h : inR x 2 7 = false := by simpa using h
    simp [c_look_size, e_withinD, h]
/-- elements that are no trouble -/
def smp : Pv.D → Bool
  | .none | .bool _ | .int _ => true
  | _ => false
def nice : Pv.D → Bool
  | .tuple xs => xs.all smp && decide (xs.length ≤ 30)
  | _ => true
theorem sh_smp : ∀ xs : List Pv.D, xs.all smp = true → PyData.depthAll xs ≤ 1 ∧ PyData.canLayAll0 xs = true
  | [], _ => by simp [PyData.depthAll, PyData.canLayAll0]
  | x :: xs, h => by
    rw [List.all_cons, Bool.and_eq_true] at h
    obtain ⟨h1, h2⟩ := sh_smp xs h.2
    cases x <;> first | (simp [smp] at h; done) | (simp [PyData.depthAll, PyData.canLayAll0, PyData.depth, PyData.canLay0, h2]; omega)
theorem eq_nil {xs : List Pv.D} (h : xs.all smp = true) : eqD (.list xs) (.list []) = ret (rd (.bool xs.isEmpty)) := by
  obtain ⟨h1, h2⟩ := sh_smp xs h
  have sh : SeqAt.shaped (.list xs) = true := by
    simp [SeqAt.shaped, PyData.canLay0, PyData.depth, h2]
    omega
  rw [eq_M _ _ (by simp only [eqOk, sh, shaped_l0]; rfl)]
  cases xs <;> simp [PyData.eqv, PyData.eqvAll]
/-- a deal for a size -/
def okD (s : Int) : Pv.D → Bool
  | .tuple xs => decide (1 ≤ xs.length) && decide (xs.length ≤ 6) && (xs.all fun x => inR x 0 (s - 1)) && match intsOf xs with
    | some ns => decide ((uniqL ns).length = ns.length)
    | none => false
  | _ => false
theorem ints_in : ∀ {xs : List Pv.D} {lo hi : Int}, (xs.all fun x => inR x lo hi) = true → ∃ ns : List Int, xs = ns.map PyData.int ∧ ∀ n ∈ ns, lo ≤ n ∧ n ≤ hi
  | [], _, _, _ => ⟨[], rfl, fun _ h => nomatch h⟩
  | x :: xs, lo, hi, h => by
    rw [List.all_cons, Bool.and_eq_true] at h
    obtain ⟨ns, rfl, hn⟩ := ints_in h.2
    cases x with
    | int i =>
      have h1 : lo ≤ i ∧ i ≤ hi := by simpa [inR] using h.1
      refine ⟨i :: ns, rfl, fun n hn' => ?_⟩
      rcases List.mem_cons.mp hn' with rfl | hn'
      · exact h1
      · exact hn n hn'
    | _ => simp [inR] at h
def outs (lo hi : Int) (xs : List Pv.D) : List Pv.D := xs.filter fun x => !inR x lo hi
theorem outs_nil {lo hi : Int} {xs : List Pv.D} : (outs lo hi xs).isEmpty = xs.all fun x => inR x lo hi := by
  unfold outs
  rw [Bool.eq_iff_iff, List.isEmpty_iff, List.filter_eq_nil_iff, List.all_eq_true]
  simp
theorem outs_smp {lo hi : Int} {xs : List Pv.D} (h : xs.all smp = true) : (outs lo hi xs).all smp = true := by
  rw [List.all_eq_true] at h ⊢
  exact fun x hx => h x (List.mem_filter.mp hx).1
theorem lc_outs {f : Pv.D → M (Option Pv.D)} {lo hi : Int} {xs : List Pv.D} (h : ∀ x, f x = if inR x lo hi = true then ret none else ret (some x)) : lcL f xs = ret (outs lo hi xs) := by
  have e : lcL f (xs.map id) = _ := lcL_map f id xs
  rw [List.map_id] at e
  rw [e]
  refine (lcG_congr fun x _ => h x).trans ((lcG_ifn (fun x => inR x lo hi = true) id xs).trans ?_)
  rw [List.map_id]
  unfold outs
  congr 1
  refine List.filter_congr fun x _ => ?_
  cases inR x lo hi <;> rfl
theorem e_is_dealD (k : Nat) {s : Int} (x : Pv.D) : sem T is (k + 2) "is_deal" [.d (.int s), .d x] = ret (rd (.bool (okD s x))) := by
  rw [s_is_deal]
  cases x with
  | tuple xs =>
    have lc : ∀ a1 a2, lcL (lcB (sem T is (k + 1)) l1_is_deal (.nm 2) (some k1_is_deal) [2] [.val (.d (.int s)), a1, a2]) xs = Pv.ret (outs 0 (s - 1) xs) := fun a1 a2 => lc_outs fun x => by
      cases h : inR x 0 (s - 1) <;> simp [l1_is_deal, k1_is_deal, e_withinD, h]
    have oe := outs_nil (lo := 0) (hi := s - 1) (xs := xs)
    by_cases h1 : 1 ≤ xs.length
    · by_cases h6 : xs.length ≤ 6
      · have i1 : (1 : Int) ≤ xs.length := by omega
        have i6 : (xs.length : Int) ≤ 6 := by omega
        cases ha : xs.all fun x => inR x 0 (s - 1) with
        | false =>
          rw [ha] at oe
          simp [c_is_deal, i1, i6, lc, oe, okD, ha]
        | true =>
          obtain ⟨ns, rfl, hn⟩ := ints_in ha
          rw [ha] at oe
          have l9 : ns.length ≤ 4000 := by rw [List.length_map] at h6; omega
          rw [List.length_map] at i1 i6 h1 h6
          have ei : (((uniqL ns).length : Int) = (ns.length : Int)) ↔ (uniqL ns).length = ns.length := by omega
          simp [c_is_deal, i1, i6, lc, oe, okD, ha, lenSetM, l9, h1, h6, ei]
      · have i6 : ¬ (xs.length : Int) ≤ 6 := by omega
        have i1 : (1 : Int) ≤ xs.length := by omega
        simp [c_is_deal, i1, i6, okD, h6]
    · have i1 : ¬ (1 : Int) ≤ xs.length := by omega
      simp [c_is_deal, i1, okD, h1]
  | _ => simp [c_is_deal, okD, isTy]
/-- asks for n things -/
def okA (n : Nat) : Pv.D → Bool
  | .tuple xs => decide (xs.length ≤ 24) && xs.all fun x => inR x 0 ((n : Int) - 1)
  | _ => false
theorem okA_of {n : Nat} {x : Pv.D} (h : okA n x = true) : ∃ as, x = tupD as ∧ Ak n as := by
  cases x with
  | tuple xs =>
    simp only [okA, Bool.and_eq_true, decide_eq_true_eq] at h
    obtain ⟨ns, rfl, hn⟩ := ints_in h.2
    refine ⟨ns, rfl, ⟨by simpa using h.1, fun a ha => by have := hn a ha; omega⟩⟩
  | _ => simp [okA] at h
theorem e_look_asksD (k : Nat) {n : Nat} (x : Pv.D) (h : okA n x = false) : sem T is (k + 2) "look_asks" [.d (.int n), .d x] = raise "NoAsks" := by
  rw [s_look_asks]
  cases x with
  | tuple xs =>
    have lc : ∀ a1 a2, lcL (lcB (sem T is (k + 1)) l1_look_asks (.nm 2) (some k1_look_asks) [2] [.val (.d (.int n)), a1, a2]) xs = Pv.ret (outs 0 ((n : Int) - 1) xs) := fun a1 a2 => lc_outs fun x => by
      cases h : inR x 0 ((n : Int) - 1) <;> simp [l1_look_asks, k1_look_asks, e_withinD, h]
    have oe := outs_nil (lo := 0) (hi := (n : Int) - 1) (xs := xs)
    by_cases h24 : (24 : Int) < xs.length
    · simp [c_look_asks, h24]
    · have h2 : xs.length ≤ 24 := by omega
      have ha : (xs.all fun x => inR x 0 ((n : Int) - 1)) = false := by
        simp only [okA, h2, decide_true, Bool.true_and] at h
        exact h
      rw [ha] at oe
      simp [c_look_asks, h24, lc, oe]
  | _ => simp [c_look_asks, isTy]
end Lw
namespace Lw
open PySem PySem.Spec PyProof.Rows L2 Pv
variable {is : Str → Str → Bool}
theorem e_linD (k : Nat) (x : Pv.D) (lo hi : Int) : sem T is (k + 1) "_law_in" [.d x, .d (.int lo), .d (.int hi)] = ret (rd (.bool (inR x lo hi))) := by
  rw [s__law_in]
  cases x with
  | int i => by_cases h : lo ≤ i <;> simp [c__law_in, inR, h]
  | _ => simp [c__law_in, inR, isTy]
theorem e_las (k : Nat) (a : Bool) : sem T is (k + 1) "_law_as" [.d (.bool a), .d (.bool a)] = ret (rd (.bool true)) := by
  rw [s__law_as]
  simp [c__law_as]
theorem e_lis_dealD (k : Nat) {s : Int} (x : Pv.D) (hx : nice x = true) : sem T is (k + 2) "_law_is_deal" [.d (.int s), .d x] = ret (rd (.bool (okD s x))) := by
  rw [s__law_is_deal]
  cases x with
  | tuple xs =>
    simp only [nice, Bool.and_eq_true, decide_eq_true_eq] at hx
    have lc : ∀ a1 a2, lcL (lcB (sem T is (k + 1)) l1__law_is_deal (.nm 2) (some k1__law_is_deal) [2] [.val (.d (.int s)), a1, a2]) xs = Pv.ret (outs 0 (s - 1) xs) := fun a1 a2 => lc_outs fun x => by
      cases h : inR x 0 (s - 1) <;> simp [l1__law_is_deal, k1__law_is_deal, e_linD, h]
    have oe := outs_nil (lo := 0) (hi := s - 1) (xs := xs)
    have en := eq_nil (outs_smp (lo := 0) (hi := s - 1) hx.1)
    have f0 : fits 0 = true := by decide
    by_cases h1 : 1 ≤ xs.length
    · by_cases h6 : xs.length ≤ 6
      · have i1 : (1 : Int) ≤ xs.length := by omega
        have i6 : (xs.length : Int) ≤ 6 := by omega
        cases ha : xs.all fun x => inR x 0 (s - 1) with
        | false =>
          rw [ha] at oe
          rw [oe] at en
          generalize outs 0 (s - 1) xs = os at *
          simp [c__law_is_deal, i1, i6, lc, en, f0, okD, ha, -eq_M]
        | true =>
          rw [ha] at oe
          rw [oe] at en
          obtain ⟨ns, rfl, hn⟩ := ints_in ha
          have l9 : ns.length ≤ 4000 := by rw [List.length_map] at h6; omega
          rw [List.length_map] at i1 i6 h1 h6
          have ei : (((uniqL ns).length : Int) = (ns.length : Int)) ↔ (uniqL ns).length = ns.length := by omega
          have eI : eqD (.int ((uniqL ns).length : Nat)) (.int (ns.length : Nat)) = ret (rd (.bool (decide ((uniqL ns).length = ns.length)))) := by
            rw [eq_M _ _ (by simp only [eqOk, shaped_int]; rfl), eqv_int]
            simp [ei]
          generalize outs 0 (s - 1) (ns.map PyData.int) = os at *
          simp [c__law_is_deal, i1, i6, lc, en, f0, okD, ha, lenSetM, l9, h1, h6, eI, -eq_M]
      · have i6 : ¬ (xs.length : Int) ≤ 6 := by omega
        have i1 : (1 : Int) ≤ xs.length := by omega
        simp [c__law_is_deal, i1, i6, okD, h6]
    · have i1 : ¬ (1 : Int) ≤ xs.length := by omega
      simp [c__law_is_deal, i1, okD, h1]
  | _ => simp [c__law_is_deal, okD, isTy]
/-! ### the word of the class that refuses -/
theorem w_ok (k : Nat) {w t : Pv.D} {r : RV} (h : sem T (isOf em) (k + 1) "_law_looked" [.d w, .d t] = ret r) : sem T (isOf em) (k + 2) "_law_word" [.d w, .d t] = ret (rd (.str "")) := by
  rw [s__law_word]
  simp [c__law_word, h]
theorem w_size (k : Nat) {w t : Pv.D} (h : sem T (isOf em) (k + 1) "_law_looked" [.d w, .d t] = raise "NoSize") : sem T (isOf em) (k + 2) "_law_word" [.d w, .d t] = ret (rd (.str "size")) := by
  have g1 : isOf em "NoSize" "NoSize" = true := by decide +kernel
  rw [s__law_word]
  simp [c__law_word, h, catchH, g1]
theorem w_deal (k : Nat) {w t : Pv.D} (h : sem T (isOf em) (k + 1) "_law_looked" [.d w, .d t] = raise "NoDeal") : sem T (isOf em) (k + 2) "_law_word" [.d w, .d t] = ret (rd (.str "deal")) := by
  have g1 : isOf em "NoDeal" "NoDeal" = true := by decide +kernel
  have g2 : isOf em "NoDeal" "NoSize" = false := by decide +kernel
  have g3 : isOf em "NoDeal" "NoWeights" = false := by decide +kernel
  rw [s__law_word]
  simp [c__law_word, h, catchH, g1, g2, g3]
theorem w_asks (k : Nat) {w t : Pv.D} (h : sem T (isOf em) (k + 1) "_law_looked" [.d w, .d t] = raise "NoAsks") : sem T (isOf em) (k + 2) "_law_word" [.d w, .d t] = ret (rd (.str "asks")) := by
  have g1 : isOf em "NoAsks" "NoAsks" = true := by decide +kernel
  have g2 : isOf em "NoAsks" "NoSize" = false := by decide +kernel
  have g3 : isOf em "NoAsks" "NoWeights" = false := by decide +kernel
  have g4 : isOf em "NoAsks" "NoDeal" = false := by decide +kernel
  rw [s__law_word]
  simp [c__law_word, h, catchH, g1, g2, g3, g4]
theorem w_place (k : Nat) {w t : Pv.D} (h : sem T (isOf em) (k + 1) "_law_looked" [.d w, .d t] = raise "NoPlace") : sem T (isOf em) (k + 2) "_law_word" [.d w, .d t] = ret (rd (.str "place")) := by
  have g1 : isOf em "NoPlace" "NoPlace" = true := by decide +kernel
  have g2 : isOf em "NoPlace" "NoSize" = false := by decide +kernel
  have g3 : isOf em "NoPlace" "NoWeights" = false := by decide +kernel
  have g4 : isOf em "NoPlace" "NoDeal" = false := by decide +kernel
  have g5 : isOf em "NoPlace" "NoAsks" = false := by decide +kernel
  rw [s__law_word]
  simp [c__law_word, h, catchH, g1, g2, g3, g4, g5]
end Lw
namespace Lw
open PySem PySem.Spec PyProof.Rows L2 Pv
variable {is : Str → Str → Bool}
theorem look_size_no (k : Nat) {x : Pv.D} (y : Pv.D) (h : inR x 2 7 = false) : sem T is (k + 3) "look" [.d x, .d y] = raise "NoSize" := by
  have l1 := e_look_sizeD (is := is) k x
  rw [h, if_neg (by simp)] at l1
  rw [s_look]
  simp [c_look, l1]
theorem look_deal_no (k : Nat) {s : Int} {y : Pv.D} (h2 : 2 ≤ s ∧ s ≤ 7) (h : okD s y = false) : sem T is (k + 3) "look" [.d (.int s), .d y] = raise "NoDeal" := by
  have l1 := e_look_size (is := is) k s h2
  have l2 := e_is_dealD (is := is) k (s := s) y
  rw [h] at l2
  rw [s_look]
  simp [c_look, l1, l2]
theorem turns_size_no (k : Nat) {x : Pv.D} (y z : Pv.D) (h : inR x 2 7 = false) : sem T is (k + 4) "turns" [.d x, .d y, .d z] = raise "NoSize" := by
  rw [s_turns]
  have l1 := look_size_no (is := is) k y h
  simp [c_turns, l1]
theorem turns_deal_no (k : Nat) {s : Int} {y : Pv.D} (z : Pv.D) (h2 : 2 ≤ s ∧ s ≤ 7) (h : okD s y = false) : sem T is (k + 4) "turns" [.d (.int s), .d y, .d z] = raise "NoDeal" := by
  rw [s_turns]
  have l1 := look_deal_no (is := is) k h2 h
  simp [c_turns, l1]
theorem turns_asks_no (k : Nat) {s : Int} {d : List Int} {z : Pv.D} (D : Dl s d) (h : okA d.length z = false) : sem T is (k + 4) "turns" [.d (.int s), .d (tupD d), .d z] = raise "NoAsks" := by
  rw [s_turns]
  have l1 := e_look (is := is) k D
  have l2 := e_look_asksD (is := is) (k + 1) z h
  simp [c_turns, l1, l2]
theorem cost_no (k : Nat) {x y z : Pv.D} {e : Str} (h : sem T is k "turns" [.d x, .d y, .d z] = raise e) : sem T is (k + 1) "cost" [.d x, .d y, .d z] = raise e := by
  rw [s_cost]
  simp [c_cost, h]
theorem way_no1 (k : Nat) {s : Int} {x : Pv.D} (h2 : 2 ≤ s ∧ s ≤ 7) (h : inR x 0 (s - 1) = false) : sem T is (k + 3) "way" [.d (.int s), .d x, .d (.int 0)] = raise "NoPlace" := by
  rw [s_way]
  simp [c_way, e_look_size (is := is) k s h2, e_withinD, h]
theorem way_no2 (k : Nat) {s : Int} {x : Pv.D} (h2 : 2 ≤ s ∧ s ≤ 7) (h : inR x 0 (s - 1) = false) : sem T is (k + 3) "way" [.d (.int s), .d (.int 0), .d x] = raise "NoPlace" := by
  have z : inR (.int 0) 0 (s - 1) = true := by simp [inR]; omega
  rw [s_way]
  simp [c_way, e_look_size (is := is) k s h2, e_withinD, h, z]
section
variable (k : Nat) {a b c : Pv.D}
theorem lk_no {w : Int} {f : Str} {e : Str} (hw : (w = 0 ∧ f = "way") ∨ (w = 1 ∧ f = "turns") ∨ (w = 2 ∧ f = "cost")) (h : sem T is k f [.d a, .d b, .d c] = raise e) : sem T is (k + 1) "_law_looked" [.d (.int w), .d (.tuple [a, b, c])] = raise e := by
  have i0 : L2.atI [a, b, c] 0 = some a := rfl
  have i1 : L2.atI [a, b, c] 1 = some b := rfl
  have i2 : L2.atI [a, b, c] 2 = some c := rfl
  rw [s__law_looked]
  rcases hw with ⟨rfl, rfl⟩ | ⟨rfl, rfl⟩ | ⟨rfl, rfl⟩ <;> simp [c__law_looked, i0, i1, i2, h]
theorem lk_way {x : Pv.D} (h : sem T is k "way" [.d a, .d b, .d c] = ret (rd x)) : sem T is (k + 1) "_law_looked" [.d (.int 0), .d (.tuple [a, b, c])] = ret (rd x) := by
  have i0 : L2.atI [a, b, c] 0 = some a := rfl
  have i1 : L2.atI [a, b, c] 1 = some b := rfl
  have i2 : L2.atI [a, b, c] 2 = some c := rfl
  rw [s__law_looked]
  simp [c__law_looked, i0, i1, i2, h]
theorem lk_cost {x : Pv.D} (h : sem T is k "cost" [.d a, .d b, .d c] = ret (rd x)) : sem T is (k + 1) "_law_looked" [.d (.int 2), .d (.tuple [a, b, c])] = ret (rd x) := by
  have i0 : L2.atI [a, b, c] 0 = some a := rfl
  have i1 : L2.atI [a, b, c] 1 = some b := rfl
  have i2 : L2.atI [a, b, c] 2 = some c := rfl
  rw [s__law_looked]
  simp [c__law_looked, i0, i1, i2, h]
theorem lk_turns {xs : List Pv.D} (h : sem T is k "turns" [.d a, .d b, .d c] = ret (.fr (.lst xs))) : sem T is (k + 1) "_law_looked" [.d (.int 1), .d (.tuple [a, b, c])] = ret (.fr (.lst xs)) := by
  have i0 : L2.atI [a, b, c] 0 = some a := rfl
  have i1 : L2.atI [a, b, c] 1 = some b := rfl
  have i2 : L2.atI [a, b, c] 2 = some c := rfl
  rw [s__law_looked]
  simp [c__law_looked, i0, i1, i2, h]
end
end Lw
namespace Lw
open PySem PySem.Spec PyProof.Rows L2 Pv
variable {is : Str → Str → Bool}
theorem ne_lst (xs : List Int) : neD (.list (xs.map .int)) (.list (xs.map .int)) = ret (rd (.bool false)) := by
  have := ne_M (.list (xs.map .int)) (.list (xs.map .int)) (by simp only [eqOk, shaped_lst]; rfl)
  rw [eqv_lst] at this
  exact this.trans (by simp)
theorem ne_li (xs : List Int) (c : Int) : neD (.list [.list (xs.map .int), .int c]) (.list [.list (xs.map .int), .int c]) = ret (rd (.bool false)) := by
  have h1 := depth_ints xs
  have sh : SeqAt.shaped (.list [.list (xs.map .int), .int c]) = true := by
    simp [SeqAt.shaped, PyData.canLay0, PyData.canLayAll0, PyData.depth, PyData.depthAll, lay_ints]
    omega
  rw [ne_M _ _ (by simp only [eqOk, sh]; rfl)]
  simp [PyData.eqv, PyData.eqvAll, eqv_ints]
theorem ne_str (x : Str) (h : PyData.strOk x = true) : neD (.str x) (.str x) = ret (rd (.bool false)) := by
  have sh : SeqAt.shaped (.str x) = true := by simp [SeqAt.shaped, PyData.canLay0, PyData.depth, h]
  rw [ne_M _ _ (by simp only [eqOk, sh]; rfl)]
  simp [PyData.eqv]
theorem eq_str2 (x : Str) (h : PyData.strOk x = true) : eqD (.list [.str x, .str x]) (.list [.str x, .str x]) = ret (rd (.bool true)) := by
  have sh : SeqAt.shaped (.list [.str x, .str x]) = true := by simp [SeqAt.shaped, PyData.canLay0, PyData.canLayAll0, PyData.depth, PyData.depthAll, h]
  rw [eq_M _ _ (by simp only [eqOk, sh]; rfl)]
  simp [PyData.eqv, PyData.eqvAll]
/-- the odd things -/
def odds : List Pv.D := [.none, .int (-1), .int 8, .int 1, .int 0, .int 6, .bool true, .str "2", .tuple [], .tuple [.int 0], .tuple [.int 0, .int 0], .tuple [.int 7], .tuple [.int (-1)], .tuple [.bool true], .list [.int 0], .tuple [.none], .tuple [.int 0, .int 1]]
def odds2 : List Pv.D := odds ++ [.tuple (List.replicate 24 (.int 0)), .tuple (List.replicate 25 (.int 0))]
theorem odds_nice : ∀ x ∈ odds2, nice x = true := List.all_eq_true.mp (by decide +kernel : odds2.all nice = true)
/-- sizes among the odd things are whole numbers -/
theorem odds_size : ∀ x ∈ odds2, inR x 2 7 = true → ∃ i, x = .int i := fun x _ h => by
  cases x <;> first | (exact ⟨_, rfl⟩) | (simp [inR] at h)
theorem inR_of {x : Pv.D} {lo hi : Int} (h : inR x lo hi = true) : ∃ i, x = .int i ∧ lo ≤ i ∧ i ≤ hi := by
  cases x with
  | int i => exact ⟨i, rfl, by simpa [inR] using h⟩
  | _ => simp [inR] at h
abbrev M5 := sem T (isOf em)
theorem word_a (k : Nat) (w : Int) (hw : w = 1 ∨ w = 2) {x : Pv.D} (d : List Int) : M5 (k + 8) "_law_word" [.d (.int w), .d (.tuple [x, if inR x 2 7 = true then .none else tupD d, .none])] = ret (rd (.str (if inR x 2 7 = true then "deal" else "size"))) := by
  cases h : inR x 2 7 with
  | false =>
    simp only [Bool.false_eq_true, if_false]
    have h1 := turns_size_no (is := isOf em) (k + 2) (tupD d) .none h
    have h2 := turns_size_no (is := isOf em) (k + 1) (tupD d) .none h
    rcases hw with rfl | rfl
    · exact w_size (k + 6) (lk_no (k + 6) (.inr (.inl ⟨rfl, rfl⟩)) h1)
    · exact w_size (k + 6) (lk_no (k + 6) (.inr (.inr ⟨rfl, rfl⟩)) (cost_no (k + 5) h2))
  | true =>
    simp only [if_true]
    obtain ⟨i, rfl, hi⟩ := inR_of h
    have h1 := turns_deal_no (is := isOf em) (k + 2) (s := i) (y := .none) .none hi rfl
    have h2 := turns_deal_no (is := isOf em) (k + 1) (s := i) (y := .none) .none hi rfl
    rcases hw with rfl | rfl
    · exact w_deal (k + 6) (lk_no (k + 6) (.inr (.inl ⟨rfl, rfl⟩)) h1)
    · exact w_deal (k + 6) (lk_no (k + 6) (.inr (.inr ⟨rfl, rfl⟩)) (cost_no (k + 5) h2))
theorem word_b (k : Nat) (w : Int) (hw : w = 1 ∨ w = 2) {s : Int} {d : List Int} {x : Pv.D} (D : Dl s d) : M5 (k + 8) "_law_word" [.d (.int w), .d (.tuple [.int s, tupD d, x])] = ret (rd (.str (if okA d.length x = true then "" else "asks"))) := by
  cases h : okA d.length x with
  | false =>
    simp only [Bool.false_eq_true, if_false]
    have h1 := turns_asks_no (is := isOf em) (k + 2) D h
    have h2 := turns_asks_no (is := isOf em) (k + 1) D h
    rcases hw with rfl | rfl
    · exact w_asks (k + 6) (lk_no (k + 6) (.inr (.inl ⟨rfl, rfl⟩)) h1)
    · exact w_asks (k + 6) (lk_no (k + 6) (.inr (.inr ⟨rfl, rfl⟩)) (cost_no (k + 5) h2))
  | true =>
    simp only [if_true]
    obtain ⟨as, rfl, A⟩ := okA_of h
    have h1 := e_turns (is := isOf em) (k + 2) D A
    have h2 := e_cost (is := isOf em) (k + 1) D A
    rcases hw with rfl | rfl
    · exact w_ok (k + 6) (lk_turns (is := isOf em) (k + 6) h1)
    · exact w_ok (k + 6) (lk_cost (is := isOf em) (k + 6) h2)
theorem word_c (k : Nat) {s : Int} {x : Pv.D} (h2 : 2 ≤ s ∧ s ≤ 7) : M5 (k + 8) "_law_word" [.d (.int 0), .d (.tuple [.int s, x, .int 0])] = ret (rd (.str (if inR x 0 (s - 1) = true then "" else "place"))) ∧ M5 (k + 8) "_law_word" [.d (.int 0), .d (.tuple [.int s, .int 0, x])] = ret (rd (.str (if inR x 0 (s - 1) = true then "" else "place"))) := by
  cases h : inR x 0 (s - 1) with
  | false =>
    simp only [Bool.false_eq_true, if_false]
    exact ⟨w_place (k + 6) (lk_no (k + 6) (.inl ⟨rfl, rfl⟩) (way_no1 (k + 3) h2 h)), w_place (k + 6) (lk_no (k + 6) (.inl ⟨rfl, rfl⟩) (way_no2 (k + 3) h2 h))⟩
  | true =>
    simp only [if_true]
    obtain ⟨i, rfl, hi⟩ := inR_of h
    have hr := lk_way (is := isOf em) (k + 6) (e_way (is := isOf em) (k + 3) h2.1 h2.2 (a := i) (b := 0) (by omega) (by omega))
    have hr' := lk_way (is := isOf em) (k + 6) (e_way (is := isOf em) (k + 3) h2.1 h2.2 (a := 0) (b := i) (by omega) (by omega))
    exact ⟨w_ok (k + 6) hr, w_ok (k + 6) hr'⟩
theorem e_law (k : Nat) (ns : List Int) : sem T (isOf em) (k + 9) "law" [.scr ns] = ret (rd (.bool true)) := by
  have c0 : sem T (isOf em) (k + 8) "_law_cell" [.scr ns, .d (.int 0)] = _ := e_cell (is := isOf em) (k + 7) ns 0
  have c1 : sem T (isOf em) (k + 8) "_law_cell" [.scr ns, .d (.int 1)] = _ := e_cell (is := isOf em) (k + 7) ns 1
  have c2 : sem T (isOf em) (k + 8) "_law_cell" [.scr ns, .d (.int 2)] = _ := e_cell (is := isOf em) (k + 7) ns 2
  have c3 : sem T (isOf em) (k + 8) "_law_cell" [.scr ns, .d (.int 3)] = _ := e_cell (is := isOf em) (k + 7) ns 3
  have c4 : sem T (isOf em) (k + 8) "_law_cell" [.scr ns, .d (.int 4)] = _ := e_cell (is := isOf em) (k + 7) ns 4
  have c5 : sem T (isOf em) (k + 8) "_law_cell" [.scr ns, .d (.int 5)] = _ := e_cell (is := isOf em) (k + 7) ns 5
  have m6 : modOk 6 = true := by decide
  have m19 : modOk 19 = true := by decide
  have a0 := Int.emod_nonneg (cell ns 0) (show (6 : Int) ≠ 0 by decide)
  have a1 := Int.emod_lt_of_pos (cell ns 0) (show (0 : Int) < 6 by decide)
  generalize hsz : 2 + cell ns 0 % 6 = s at *
  have hs : 0 < s := by omega
  have hm : 0 < minI s 6 := by unfold minI; split <;> omega
  have hm2 : minI s 6 ≤ s ∧ minI s 6 ≤ 6 := by unfold minI; split <;> omega
  have b0 := Int.emod_nonneg (cell ns 1) (show minI s 6 ≠ 0 by omega)
  have b1 := Int.emod_lt_of_pos (cell ns 1) hm
  have mm : modOk (minI s 6) = true := mod_g hm
  obtain ⟨n, hn⟩ : ∃ n : Nat, 1 + cell ns 1 % minI s 6 = (n : Int) := ⟨(1 + cell ns 1 % minI s 6).toNat, by omega⟩
  obtain ⟨d, hd1, D, hl⟩ := e_deal (is := isOf em) (k + 6) (seedV (cell ns 2) 0) (size := s) (n := n) (by omega) (by omega) (by omega) (by omega) (by omega)
  have mx := e_mix (is := isOf em) (k + 7) (cell ns 4) (p := 9949) (m := 25) (by decide) (by decide)
  have mi := mix_in (cell ns 4) 9949 (m := 25) (by decide)
  obtain ⟨m, hmm⟩ : ∃ m : Nat, mixV (cell ns 4) 9949 25 = (m : Int) := ⟨(mixV (cell ns 4) 9949 25).toNat, by omega⟩
  rw [hmm] at mx
  obtain ⟨as, ha1, hal, Ai⟩ := e_lasks (is := isOf em) (k + 6) (seedV (cell ns 3) 1) (n := n) (m := m) (by omega) (by omega)
  have A : Ak d.length as := ⟨by omega, by rw [hl]; exact Ai⟩
  have t1 := e_turns (is := isOf em) (k + 4) D A
  have t2 := e_cost (is := isOf em) (k + 3) D A
  -- the turns, found here
  obtain ⟨env1, lp1, s5, g1, g5⟩ := forL_inv (f := bodyF (sem T (isOf em) (k + 8)) (isOf em) (.nm 5) b1_law) PyData.int
    (fun dn env => ∃ s5, env = [.val (.scr ns), .val (.d (.int s)), .val (.d (.int n)), .val (.d (tupD d)), .val (.d (tupD as)), s5, .non, .non, .non, .non, .non, .non, .non, .own (.lst ((tt s d 0 dn).map .int)), .val (.d (.int (hereF d 0 dn))), .non, .non] ∧ (s5 = .non ∨ ∃ v, s5 = .val v)) as
    (env := [.val (.scr ns), .val (.d (.int s)), .val (.d (.int n)), .val (.d (tupD d)), .val (.d (tupD as)), .non, .non, .non, .non, .non, .non, .non, .non, .own (.lst []), .val (.d (.int 0)), .non, .non]) ⟨.non, rfl, .inl rfl⟩ fun dn x r env e ⟨t5, he, _⟩ => by
      subst he
      have hx := A.ins x (by rw [e]; simp)
      have hd : dn.length < 25 := by
        have := congrArg List.length e
        simp at this
        omega
      have f : fits (dn.length + 1) = true := fits_le' (by omega)
      have tn := e_lturn (is := isOf em) (k + 7) (a := hereF d 0 dn) D.pos D.s7 (D.at hx.1 hx.2)
      rw [tt_app, here_snoc]
      refine ⟨_, ?_, ⟨.val (.d (.int x)), rfl, .inr ⟨_, rfl⟩⟩⟩
      simp only [bodyF, b1_law]
      simp [ix_t hx.1 hx.2, tn, tt_len, f, tt]
  subst g1
  have lcA : ∀ b0 b1 b2 b3 b4 b5 b6 b7 b8 b9 b10 b11 b12 b13 b14 b15, lcL (lcB (sem T (isOf em) (k + 8)) l1_law (.nm 16) none [16] [b0, b1, b2, b3, b4, b5, b6, b7, b8, b9, b10, b11, b12, b13, b14, b15, .non]) ((tt s d 0 as).map .int) = Pv.ret (((tt s d 0 as).map absI).map .int) := fun b0 b1 b2 b3 b4 b5 b6 b7 b8 b9 b10 b11 b12 b13 b14 b15 => by
    refine ((lcL_map _ _ _).trans (lcG_mapon (fun w => PyData.int (absI w)) fun w _ => ?_)).trans (by rw [List.map_map]; rfl)
    simp [l1_law]
  have sm : sumM (.list (((tt s d 0 as).map absI).map .int)) = ret (rd (.int (cst s d 0 as))) := by
    unfold sumM
    simp only [intsOf_map, tt_cst]
  have n1 := ne_li (tt s d 0 as) (cst s d 0 as)
  -- all ways
  have hr : rangeOk 0 s = true := rangeOk_le (by omega)
  have hrs : rangeL 0 s = (List.range s.toNat).map fun j : Nat => PyData.int (0 + (j : Nat)) := by unfold rangeL; rw [Int.sub_zero]
  have lp2 : ∀ (v5 : Pv.Slot) (R : List Int) (x14 : Pv.Slot), ∃ v6, forL (bodyF (sem T (isOf em) (k + 8)) (isOf em) (.nm 6) b2_law) ((List.range s.toNat).map fun j : Nat => PyData.int (0 + (j : Nat))) [.val (.scr ns), .val (.d (.int s)), .val (.d (.int n)), .val (.d (tupD d)), .val (.d (tupD as)), v5, .non, .non, .non, .non, .non, .non, .non, .val (.d (.list (R.map .int))), x14, .non, .non] =
      ret (.nx [.val (.scr ns), .val (.d (.int s)), .val (.d (.int n)), .val (.d (tupD d)), .val (.d (tupD as)), v5, .val v6, .non, .non, .non, .non, .non, .non, .val (.d (.list (R.map .int))), x14, .non, .non]) := fun v5 R x14 => by
    obtain ⟨env2, lp, s6, g, g6⟩ := forL_inv (f := bodyF (sem T (isOf em) (k + 8)) (isOf em) (.nm 6) b2_law) (fun j : Nat => PyData.int (0 + (j : Nat)))
      (fun dn env => ∃ s6, env = [.val (.scr ns), .val (.d (.int s)), .val (.d (.int n)), .val (.d (tupD d)), .val (.d (tupD as)), v5, s6, .non, .non, .non, .non, .non, .non, .val (.d (.list (R.map .int))), x14, .non, .non] ∧ (dn ≠ [] → ∃ v, s6 = .val v)) (List.range s.toNat)
      (env := [.val (.scr ns), .val (.d (.int s)), .val (.d (.int n)), .val (.d (tupD d)), .val (.d (tupD as)), v5, .non, .non, .non, .non, .non, .non, .non, .val (.d (.list (R.map .int))), x14, .non, .non]) ⟨.non, rfl, fun h => absurd rfl h⟩ fun dn i r env e ⟨t6, he, _⟩ => by
        subst he
        have hi : i ∈ List.range s.toNat := by rw [e]; simp
        have hi := List.mem_range.mp hi
        refine ⟨_, ?_, ⟨.val (.d (.int i)), rfl, fun _ => ⟨_, rfl⟩⟩⟩
        have lw : lcL (lcB (sem T (isOf em) (k + 8)) l2_law (.nm 15) none [15] [.val (.scr ns), .val (.d (.int s)), .val (.d (.int n)), .val (.d (tupD d)), .val (.d (tupD as)), v5, .val (.d (.int i)), .non, .non, .non, .non, .non, .non, .val (.d (.list (R.map .int))), x14, .non, .non]) ((List.range s.toNat).map fun j : Nat => PyData.int (0 + (j : Nat))) = Pv.ret (((List.range s.toNat).map fun j : Nat => sw s i j).map .int) := by
          refine ((lcL_map _ _ _).trans (lcG_mapon (fun j : Nat => PyData.int (sw s i j)) fun j hj => ?_)).trans (by rw [List.map_map]; rfl)
          have hj := List.mem_range.mp hj
          have ew := e_way (is := isOf em) (k + 5) D.s2 D.s7 (a := (i : Int)) (b := (j : Int)) (by omega) (by omega)
          simp [l2_law, ew]
        have ll : lcL (lcB (sem T (isOf em) (k + 8)) l3_law (.nm 15) none [15] [.val (.scr ns), .val (.d (.int s)), .val (.d (.int n)), .val (.d (tupD d)), .val (.d (tupD as)), v5, .val (.d (.int i)), .non, .non, .non, .non, .non, .non, .val (.d (.list (R.map .int))), x14, .non, .non]) ((List.range s.toNat).map fun j : Nat => PyData.int (0 + (j : Nat))) = Pv.ret (((List.range s.toNat).map fun j : Nat => sw s i j).map .int) := by
          refine ((lcL_map _ _ _).trans (lcG_mapon (fun j : Nat => PyData.int (sw s i j)) fun j hj => ?_)).trans (by rw [List.map_map]; rfl)
          have hj := List.mem_range.mp hj
          have et := e_lturn (is := isOf em) (k + 7) (a := (i : Int)) (b := (j : Int)) D.pos D.s7 (by omega)
          simp [l3_law, et]
        have nn := ne_lst ((List.range s.toNat).map fun j : Nat => sw s i j)
        generalize ((List.range s.toNat).map fun j : Nat => sw s i j) = ws at *
        generalize ((List.range s.toNat).map fun j : Nat => PyData.int (0 + (j : Nat))) = rg at *
        simp only [bodyF, b2_law]
        simp [hr, hrs, lw, ll, nn]
    subst g
    obtain ⟨v6, rfl⟩ := g6 (fun z => by
      have := congrArg List.length z
      simp at this
      omega)
    exact ⟨v6, lp⟩
  -- an odd thing
  have o0 := Int.emod_nonneg (cell ns 5) (show (19 : Int) ≠ 0 by decide)
  have o1 := Int.emod_lt_of_pos (cell ns 5) (show (0 : Int) < 19 by decide)
  obtain ⟨x, hx, hxm⟩ : ∃ x, L2.atI odds2 (cell ns 5 % 19) = some x ∧ x ∈ odds2 := by
    obtain ⟨i, hi⟩ : ∃ i : Nat, cell ns 5 % 19 = (i : Int) := ⟨(cell ns 5 % 19).toNat, by omega⟩
    have hl : i < odds2.length := by
      have : odds2.length = 19 := by decide
      omega
    exact ⟨odds2[i], by rw [hi]; exact atN (List.getElem?_eq_getElem hl), List.getElem_mem _⟩
  have nx := odds_nice x hxm
  have hx : L2.atI [PyData.none, .int (-1), .int 8, .int 1, .int 0, .int 6, .bool true, .str "2", .tuple [], .tuple [.int 0], .tuple [.int 0, .int 0], .tuple [.int 7], .tuple [.int (-1)], .tuple [.bool true], .list [.int 0], .tuple [.none], .tuple [.int 0, .int 1], .tuple (rep [.int 0] 24), .tuple (rep [.int 0] 25)] (cell ns 5 % 19) = some x := hx
  clear hxm
  have i1 := e_is_dealD (is := isOf em) (k + 6) (s := s) x
  have i2 := e_lis_dealD (is := isOf em) (k + 6) (s := s) x nx
  have i3 := e_las (is := isOf em) (k + 7) (okD s x)
  have i4 := e_is_deal (is := isOf em) (k + 6) D
  have l1 := e_linD (is := isOf em) (k + 7) x 2 7
  have l2 := e_linD (is := isOf em) (k + 7) x 0 (s - 1)
  have wc := word_c k (x := x) ⟨D.s2, D.s7⟩
  have wb := fun w hw => word_b k w hw (x := x) D
  have wa := fun w hw => word_a k w hw (x := x) d
  rw [hl] at wb
  have ns1 := ne_str "size" (by decide +kernel)
  have ns2 := ne_str "deal" (by decide +kernel)
  have ns3 := ne_str "asks" (by decide +kernel)
  have ns4 := ne_str "" (by decide +kernel)
  have es1 := eq_str2 "place" (by decide +kernel)
  have es2 := eq_str2 "" (by decide +kernel)
  have f0 : fits 0 = true := by decide
  have f1 : fits 1 = true := by decide
  have f2 : fits 2 = true := by decide
  have f3 : fits 3 = true := by decide
  have f17 : fits 17 = true := by decide
  have f19 : fits 19 = true := by decide
  have rp2 : ∀ a : Pv.D, rep [a] 2 = [a, a] := fun a => rfl
  have rok : repOk 1 2 = true := by decide
  have as0 : ∀ a : Pv.D, L2.atI [PyData.str "size", .str "deal"] 0 = some (.str "size") := fun _ => rfl
  have b3 : ∀ (w : Int) (hw : w = 1 ∨ w = 2) (v5 v6 : Pv.Slot) (o7 o13 : Pv.Slot) (x14 s11 : Pv.Slot), bodyF (sem T (isOf em) (k + 8)) (isOf em) (.nm 11) b3_law (.int w) [.val (.scr ns), .val (.d (.int s)), .val (.d (.int n)), .val (.d (tupD d)), .val (.d (tupD as)), v5, v6, o7, .val (.d x), .val (.d (.bool (okA n x))), .val (.d (.bool (inR x 2 7))), s11, .non, o13, x14, .non, .non] =
      ret (.nx [.val (.scr ns), .val (.d (.int s)), .val (.d (.int n)), .val (.d (tupD d)), .val (.d (tupD as)), v5, v6, o7, .val (.d x), .val (.d (.bool (okA n x))), .val (.d (.bool (inR x 2 7))), .val (.d (.int w)), .non, o13, x14, .non, .non]) := fun w hw v5 v6 o7 o13 x14 s11 => by
    have wa : sem T (isOf em) (k + 8) "_law_word" [.d (.int w), .d (.tuple [x, if inR x 2 7 = true then .none else tupD d, .none])] = ret (rd (.str (if inR x 2 7 = true then "deal" else "size"))) := wa w hw
    have wb : sem T (isOf em) (k + 8) "_law_word" [.d (.int w), .d (.tuple [.int s, tupD d, x])] = ret (rd (.str (if okA n x = true then "" else "asks"))) := wb w hw
    have q0 : L2.atI [PyData.str "size", .str "deal"] 1 = some (.str "deal") := rfl
    have q1 : L2.atI [PyData.str "asks", .str ""] 1 = some (.str "") := rfl
    generalize inR x 2 7 = p at *
    generalize okA n x = q at *
    simp only [bodyF, b3_law]
    cases p <;> cases q <;> simp only [Bool.false_eq_true, if_false, if_true] at wa wb <;> simp [f3, f2, wa, wb, intM, q0, q1, ns1, ns2, ns3, ns4]
  have e9 : ∀ (v5 v6 o7 o13 x14 : Pv.Slot), (∃ v, v6 = .val v) → bnd (ev (sem T (isOf em) (k + 8)) (.isi (.var 8) .tuple) [.val (.scr ns), .val (.d (.int s)), .val (.d (.int n)), .val (.d (tupD d)), .val (.d (tupD as)), v5, v6, o7, .val (.d x), .non, .non, .non, .non, o13, x14, .non, .non]) (fun r => bnd (truR r) fun c => if c = true then ev (sem T (isOf em) (k + 8)) (.and (.cmp .le (.blt .len [(.var 8)]) (.int 24)) (.cmp .eq (.lc l4_law (.nm 6) (.seq (.var 8)) (some k1_law) [6]) (.lst []))) [.val (.scr ns), .val (.d (.int s)), .val (.d (.int n)), .val (.d (tupD d)), .val (.d (tupD as)), v5, v6, o7, .val (.d x), .non, .non, .non, .non, o13, x14, .non, .non] else frzM r) = ret (rd (.bool (okA n x))) := fun v5 v6 o7 o13 x14 ⟨v, hv⟩ => by
    subst hv
    cases x with
    | tuple xs =>
      simp only [nice, Bool.and_eq_true, decide_eq_true_eq] at nx
      have lc : lcL (lcB (sem T (isOf em) (k + 8)) l4_law (.nm 6) (some k1_law) [6] [.val (.scr ns), .val (.d (.int s)), .val (.d (.int n)), .val (.d (tupD d)), .val (.d (tupD as)), v5, .val v, o7, .val (.d (.tuple xs)), .non, .non, .non, .non, o13, x14, .non, .non]) xs = Pv.ret (outs 0 ((n : Int) - 1) xs) := lc_outs fun y => by
        have ly := e_linD (is := isOf em) (k + 7) y 0 ((n : Int) - 1)
        cases h : inR y 0 ((n : Int) - 1) <;> simp [l4_law, k1_law, ly, h]
      have oe := outs_nil (lo := 0) (hi := (n : Int) - 1) (xs := xs)
      have en := eq_nil (outs_smp (lo := 0) (hi := (n : Int) - 1) nx.1)
      rw [oe] at en
      generalize outs 0 ((n : Int) - 1) xs = os at *
      by_cases h24 : xs.length ≤ 24
      · have j24 : (xs.length : Int) ≤ 24 := by omega
        simp [j24, lc, f0, en, okA, h24, -eq_M]
      · have j24 : ¬ (xs.length : Int) ≤ 24 := by omega
        simp [j24, okA, h24]
    | _ => simp [okA, isTy]
  have w1 : sem T (isOf em) (k + 8) "_law_word" [.d (.int 0), .d (.tuple [.int s, x, .int 0])] = ret (rd (.str (if inR x 0 (s - 1) = true then "" else "place"))) := wc.1
  have w2 : sem T (isOf em) (k + 8) "_law_word" [.d (.int 0), .d (.tuple [.int s, .int 0, x])] = ret (rd (.str (if inR x 0 (s - 1) = true then "" else "place"))) := wc.2
  have q3 : L2.atI [PyData.str "place", .str ""] 1 = some (.str "") := rfl
  generalize hereF d 0 as = hd at *
  generalize ((tt s d 0 as).map absI) = ab at *
  generalize tt s d 0 as = ts at *
  have key : exB (sem T (isOf em) (k + 8)) (isOf em) c_law [.val (.scr ns), .non, .non, .non, .non, .non, .non, .non, .non, .non, .non, .non, .non, .non, .non, .non, .non] = ret (.rt (rd (.bool true))) := by
    unfold c_law
    obtain ⟨v6, lp2⟩ := lp2 s5 ts (.val (.d (.int hd)))
    generalize ((List.range s.toNat).map fun j : Nat => PyData.int (0 + (j : Nat))) = rg at hrs lp2
    have st9 : ∀ o7, ex (sem T (isOf em) (k + 8)) (isOf em) (.set 9 (.and (.isi (.var 8) .tuple) (.and (.cmp .le (.blt .len [(.var 8)]) (.int 24)) (.cmp .eq (.lc l4_law (.nm 6) (.seq (.var 8)) (some k1_law) [6]) (.lst []))))) [.val (.scr ns), .val (.d (.int s)), .val (.d (.int n)), .val (.d (tupD d)), .val (.d (tupD as)), s5, .val v6, o7, .val (.d x), .non, .non, .non, .non, .val (.d (.list (ts.map .int))), .val (.d (.int hd)), .non, .non] = ret (.nx [.val (.scr ns), .val (.d (.int s)), .val (.d (.int n)), .val (.d (tupD d)), .val (.d (tupD as)), s5, .val v6, o7, .val (.d x), .val (.d (.bool (okA n x))), .non, .non, .non, .val (.d (.list (ts.map .int))), .val (.d (.int hd)), .non, .non]) := fun o7 => by
      rw [ex_set, ev_and, e9 s5 (.val v6) o7 (.val (.d (.list (ts.map .int)))) (.val (.d (.int hd))) ⟨_, rfl⟩]
      simp
    iterate 11 (rw [exB_cons]; simp [c0, c1, c2, c3, c4, c5, e_seed (k + 7), m6, hsz, mm, hn, hd1, mx, ha1, lp1, t1, t2, lcA, sm, f0, f1, f2, f3, f17, f19, n1, hr, hrs, lp2, m19, hx, i1, i2, i3, i4, -exB_cons])
    rw [exB_cons, st9, seqF_nx]
    have b31 := fun o7 s11 => b3 1 (.inl rfl) s5 (.val v6) o7 (.val (.d (.list (ts.map .int)))) (.val (.d (.int hd))) s11
    have b32 := fun o7 s11 => b3 2 (.inr rfl) s5 (.val v6) o7 (.val (.d (.list (ts.map .int)))) (.val (.d (.int hd))) s11
    generalize hp : inR x 0 (s - 1) = p at *
    generalize hq : inR x 2 7 = q at *
    generalize hr2 : okA n x = r at *
    cases p <;> simp only [Bool.false_eq_true, if_false, if_true] at w1 w2 <;> (repeat (rw [exB_cons]; simp [l1, forL_cons, b31, b32, l2, w1, w2, f1, f2, f3, q3, rok, rp2, es1, es2, intM, -exB_cons]))
  rw [s_law]
  simp [key]
end Lw
namespace Lw
open PySem PySem.Spec PyProof.Rows L2 Pv
theorem g__wall : i__wall.Good G := ⟨rfl, rfl, rfl, ⟨by kernel_rfl, by kernel_rfl, by kernel_rfl, by decide +kernel, by kernel_rfl, by decide +kernel, by decide +kernel⟩, by kernel_rfl, fun _ _ _ _ _ _ us hl => match us, hl with | [_], _ => rfl⟩
theorem g_is_within : i_is_within.Good G := ⟨rfl, rfl, rfl, ⟨by kernel_rfl, by kernel_rfl, by kernel_rfl, by decide +kernel, by kernel_rfl, by decide +kernel, by decide +kernel⟩, by kernel_rfl, fun _ _ _ _ _ _ us hl => match us, hl with | [_, _, _], _ => rfl⟩
theorem g_look_size : i_look_size.Good G := ⟨rfl, rfl, rfl, ⟨by kernel_rfl, by kernel_rfl, by kernel_rfl, by decide +kernel, by kernel_rfl, by decide +kernel, by decide +kernel⟩, by kernel_rfl, fun _ _ _ _ _ _ us hl => match us, hl with | [_], _ => rfl⟩
theorem g_is_deal : i_is_deal.Good G := ⟨rfl, rfl, rfl, ⟨by kernel_rfl, by kernel_rfl, by kernel_rfl, by decide +kernel, by kernel_rfl, by decide +kernel, by decide +kernel⟩, by kernel_rfl, fun _ _ _ _ _ _ us hl => match us, hl with | [_, _], _ => rfl⟩
theorem g_look : i_look.Good G := ⟨rfl, rfl, rfl, ⟨by kernel_rfl, by kernel_rfl, by kernel_rfl, by decide +kernel, by kernel_rfl, by decide +kernel, by decide +kernel⟩, by kernel_rfl, fun _ _ _ _ _ _ us hl => match us, hl with | [_, _], _ => rfl⟩
theorem g_look_asks : i_look_asks.Good G := ⟨rfl, rfl, rfl, ⟨by kernel_rfl, by kernel_rfl, by kernel_rfl, by decide +kernel, by kernel_rfl, by decide +kernel, by decide +kernel⟩, by kernel_rfl, fun _ _ _ _ _ _ us hl => match us, hl with | [_, _], _ => rfl⟩
theorem g_look_weights : i_look_weights.Good G := ⟨rfl, rfl, rfl, ⟨by kernel_rfl, by kernel_rfl, by kernel_rfl, by decide +kernel, by kernel_rfl, by decide +kernel, by decide +kernel⟩, by kernel_rfl, fun _ _ _ _ _ _ us hl => match us, hl with | [_, _], _ => rfl⟩
theorem g_look_many : i_look_many.Good G := ⟨rfl, rfl, rfl, ⟨by kernel_rfl, by kernel_rfl, by kernel_rfl, by decide +kernel, by kernel_rfl, by decide +kernel, by decide +kernel⟩, by kernel_rfl, fun _ _ _ _ _ _ us hl => match us, hl with | [_, _], _ => rfl⟩
theorem g_short_way : i_short_way.Good G := ⟨rfl, rfl, rfl, ⟨by kernel_rfl, by kernel_rfl, by kernel_rfl, by decide +kernel, by kernel_rfl, by decide +kernel, by decide +kernel⟩, by kernel_rfl, fun _ _ _ _ _ _ us hl => match us, hl with | [_, _, _], _ => rfl⟩
theorem g_way : i_way.Good G := ⟨rfl, rfl, rfl, ⟨by kernel_rfl, by kernel_rfl, by kernel_rfl, by decide +kernel, by kernel_rfl, by decide +kernel, by decide +kernel⟩, by kernel_rfl, fun _ _ _ _ _ _ us hl => match us, hl with | [_, _, _], _ => rfl⟩
theorem g_turns_told : i_turns_told.Good G := ⟨rfl, rfl, rfl, ⟨by kernel_rfl, by kernel_rfl, by kernel_rfl, by decide +kernel, by kernel_rfl, by decide +kernel, by decide +kernel⟩, by kernel_rfl, fun _ _ _ _ _ _ us hl => match us, hl with | [_, _, _], _ => rfl⟩
theorem g_turns : i_turns.Good G := ⟨rfl, rfl, rfl, ⟨by kernel_rfl, by kernel_rfl, by kernel_rfl, by decide +kernel, by kernel_rfl, by decide +kernel, by decide +kernel⟩, by kernel_rfl, fun _ _ _ _ _ _ us hl => match us, hl with | [_, _, _], _ => rfl⟩
theorem g_cost : i_cost.Good G := ⟨rfl, rfl, rfl, ⟨by kernel_rfl, by kernel_rfl, by kernel_rfl, by decide +kernel, by kernel_rfl, by decide +kernel, by decide +kernel⟩, by kernel_rfl, fun _ _ _ _ _ _ us hl => match us, hl with | [_, _, _], _ => rfl⟩
theorem g_any_deal : i_any_deal.Good G := ⟨rfl, rfl, rfl, ⟨by kernel_rfl, by kernel_rfl, by kernel_rfl, by decide +kernel, by kernel_rfl, by decide +kernel, by decide +kernel⟩, by kernel_rfl, fun _ _ _ _ _ _ us hl => match us, hl with | [_], _ => rfl⟩
theorem g_least_deal : i_least_deal.Good G := ⟨rfl, rfl, rfl, ⟨by kernel_rfl, by kernel_rfl, by kernel_rfl, by decide +kernel, by kernel_rfl, by decide +kernel, by decide +kernel⟩, by kernel_rfl, fun _ _ _ _ _ _ us hl => match us, hl with | [_, _, _], _ => rfl⟩
theorem g_better : i_better.Good G := ⟨rfl, rfl, rfl, ⟨by kernel_rfl, by kernel_rfl, by kernel_rfl, by decide +kernel, by kernel_rfl, by decide +kernel, by decide +kernel⟩, by kernel_rfl, fun _ _ _ _ _ _ us hl => match us, hl with | [_, _, _, _], _ => rfl⟩
theorem g_total : i_total.Good G := ⟨rfl, rfl, rfl, ⟨by kernel_rfl, by kernel_rfl, by kernel_rfl, by decide +kernel, by kernel_rfl, by decide +kernel, by decide +kernel⟩, by kernel_rfl, fun _ _ _ _ _ _ us hl => match us, hl with | [_, _, _], _ => rfl⟩
theorem g_unlike : i_unlike.Good G := ⟨rfl, rfl, rfl, ⟨by kernel_rfl, by kernel_rfl, by kernel_rfl, by decide +kernel, by kernel_rfl, by decide +kernel, by decide +kernel⟩, by kernel_rfl, fun _ _ _ _ _ _ us hl => match us, hl with | [_, _], _ => rfl⟩
theorem g_bound : i_bound.Good G := ⟨rfl, rfl, rfl, ⟨by kernel_rfl, by kernel_rfl, by kernel_rfl, by decide +kernel, by kernel_rfl, by decide +kernel, by decide +kernel⟩, by kernel_rfl, fun _ _ _ _ _ _ us hl => match us, hl with | [_, _, _], _ => rfl⟩
theorem g_ranks : i_ranks.Good G := ⟨rfl, rfl, rfl, ⟨by kernel_rfl, by kernel_rfl, by kernel_rfl, by decide +kernel, by kernel_rfl, by decide +kernel, by decide +kernel⟩, by kernel_rfl, fun _ _ _ _ _ _ us hl => match us, hl with | [_], _ => rfl⟩
theorem g_beside : i_beside.Good G := ⟨rfl, rfl, rfl, ⟨by kernel_rfl, by kernel_rfl, by kernel_rfl, by decide +kernel, by kernel_rfl, by decide +kernel, by decide +kernel⟩, by kernel_rfl, fun _ _ _ _ _ _ us hl => match us, hl with | [_, _, _], _ => rfl⟩
theorem g_lean_of : i_lean_of.Good G := ⟨rfl, rfl, rfl, ⟨by kernel_rfl, by kernel_rfl, by kernel_rfl, by decide +kernel, by kernel_rfl, by decide +kernel, by decide +kernel⟩, by kernel_rfl, fun _ _ _ _ _ _ us hl => match us, hl with | [_, _, _], _ => rfl⟩
theorem g_lean : i_lean.Good G := ⟨rfl, rfl, rfl, ⟨by kernel_rfl, by kernel_rfl, by kernel_rfl, by decide +kernel, by kernel_rfl, by decide +kernel, by decide +kernel⟩, by kernel_rfl, fun _ _ _ _ _ _ us hl => match us, hl with | [_, _, _], _ => rfl⟩
theorem g_look_things : i_look_things.Good G := ⟨rfl, rfl, rfl, ⟨by kernel_rfl, by kernel_rfl, by kernel_rfl, by decide +kernel, by kernel_rfl, by decide +kernel, by decide +kernel⟩, by kernel_rfl, fun _ _ _ _ _ _ us hl => match us, hl with | [_, _], _ => rfl⟩
theorem g_least_lean : i_least_lean.Good G := ⟨rfl, rfl, rfl, ⟨by kernel_rfl, by kernel_rfl, by kernel_rfl, by decide +kernel, by kernel_rfl, by decide +kernel, by decide +kernel⟩, by kernel_rfl, fun _ _ _ _ _ _ us hl => match us, hl with | [_, _], _ => rfl⟩
theorem g_balanced : i_balanced.Good G := ⟨rfl, rfl, rfl, ⟨by kernel_rfl, by kernel_rfl, by kernel_rfl, by decide +kernel, by kernel_rfl, by decide +kernel, by decide +kernel⟩, by kernel_rfl, fun _ _ _ _ _ _ us hl => match us, hl with | [_, _, _, _], _ => rfl⟩
theorem g_shifts : i_shifts.Good G := ⟨rfl, rfl, rfl, ⟨by kernel_rfl, by kernel_rfl, by kernel_rfl, by decide +kernel, by kernel_rfl, by decide +kernel, by decide +kernel⟩, by kernel_rfl, fun _ _ _ _ _ _ us hl => match us, hl with | [_, _, _], _ => rfl⟩
theorem g_fewest_shifts : i_fewest_shifts.Good G := ⟨rfl, rfl, rfl, ⟨by kernel_rfl, by kernel_rfl, by kernel_rfl, by decide +kernel, by kernel_rfl, by decide +kernel, by decide +kernel⟩, by kernel_rfl, fun _ _ _ _ _ _ us hl => match us, hl with | [_, _, _], _ => rfl⟩
theorem g_shown : i_shown.Good G := ⟨rfl, rfl, rfl, ⟨by kernel_rfl, by kernel_rfl, by kernel_rfl, by decide +kernel, by kernel_rfl, by decide +kernel, by decide +kernel⟩, by kernel_rfl, fun _ _ _ _ _ _ us hl => match us, hl with | [_, _], _ => rfl⟩
theorem g_read : i_read.Good G := ⟨rfl, rfl, rfl, ⟨by kernel_rfl, by kernel_rfl, by kernel_rfl, by decide +kernel, by kernel_rfl, by decide +kernel, by decide +kernel⟩, by kernel_rfl, fun _ _ _ _ _ _ us hl => match us, hl with | [_], _ => rfl⟩
theorem g__law_cell : i__law_cell.Good G := ⟨rfl, rfl, rfl, ⟨by kernel_rfl, by kernel_rfl, by kernel_rfl, by decide +kernel, by kernel_rfl, by decide +kernel, by decide +kernel⟩, by kernel_rfl, fun _ _ _ _ _ _ us hl => match us, hl with | [_, _], _ => rfl⟩
theorem g__law_mix : i__law_mix.Good G := ⟨rfl, rfl, rfl, ⟨by kernel_rfl, by kernel_rfl, by kernel_rfl, by decide +kernel, by kernel_rfl, by decide +kernel, by decide +kernel⟩, by kernel_rfl, fun _ _ _ _ _ _ us hl => match us, hl with | [_, _, _], _ => rfl⟩
theorem g__law_seed : i__law_seed.Good G := ⟨rfl, rfl, rfl, ⟨by kernel_rfl, by kernel_rfl, by kernel_rfl, by decide +kernel, by kernel_rfl, by decide +kernel, by decide +kernel⟩, by kernel_rfl, fun _ _ _ _ _ _ us hl => match us, hl with | [_, _], _ => rfl⟩
theorem g__law_pick : i__law_pick.Good G := ⟨rfl, rfl, rfl, ⟨by kernel_rfl, by kernel_rfl, by kernel_rfl, by decide +kernel, by kernel_rfl, by decide +kernel, by decide +kernel⟩, by kernel_rfl, fun _ _ _ _ _ _ us hl => match us, hl with | [_, _], _ => rfl⟩
theorem g__law_as : i__law_as.Good G := ⟨rfl, rfl, rfl, ⟨by kernel_rfl, by kernel_rfl, by kernel_rfl, by decide +kernel, by kernel_rfl, by decide +kernel, by decide +kernel⟩, by kernel_rfl, fun _ _ _ _ _ _ us hl => match us, hl with | [_, _], _ => rfl⟩
theorem g__law_in : i__law_in.Good G := ⟨rfl, rfl, rfl, ⟨by kernel_rfl, by kernel_rfl, by kernel_rfl, by decide +kernel, by kernel_rfl, by decide +kernel, by decide +kernel⟩, by kernel_rfl, fun _ _ _ _ _ _ us hl => match us, hl with | [_, _, _], _ => rfl⟩
theorem g__law_deal : i__law_deal.Good G := ⟨rfl, rfl, rfl, ⟨by kernel_rfl, by kernel_rfl, by kernel_rfl, by decide +kernel, by kernel_rfl, by decide +kernel, by decide +kernel⟩, by kernel_rfl, fun _ _ _ _ _ _ us hl => match us, hl with | [_, _, _], _ => rfl⟩
theorem g__law_asks : i__law_asks.Good G := ⟨rfl, rfl, rfl, ⟨by kernel_rfl, by kernel_rfl, by kernel_rfl, by decide +kernel, by kernel_rfl, by decide +kernel, by decide +kernel⟩, by kernel_rfl, fun _ _ _ _ _ _ us hl => match us, hl with | [_, _, _], _ => rfl⟩
theorem g__law_turn : i__law_turn.Good G := ⟨rfl, rfl, rfl, ⟨by kernel_rfl, by kernel_rfl, by kernel_rfl, by decide +kernel, by kernel_rfl, by decide +kernel, by decide +kernel⟩, by kernel_rfl, fun _ _ _ _ _ _ us hl => match us, hl with | [_, _, _], _ => rfl⟩
theorem g__law_word : i__law_word.Good G := ⟨rfl, rfl, rfl, ⟨by kernel_rfl, by kernel_rfl, by kernel_rfl, by decide +kernel, by kernel_rfl, by decide +kernel, by decide +kernel⟩, by kernel_rfl, fun _ _ _ _ _ _ us hl => match us, hl with | [_, _], _ => rfl⟩
theorem g__law_looked : i__law_looked.Good G := ⟨rfl, rfl, rfl, ⟨by kernel_rfl, by kernel_rfl, by kernel_rfl, by decide +kernel, by kernel_rfl, by decide +kernel, by decide +kernel⟩, by kernel_rfl, fun _ _ _ _ _ _ us hl => match us, hl with | [_, _], _ => rfl⟩
theorem g__law_is_deal : i__law_is_deal.Good G := ⟨rfl, rfl, rfl, ⟨by kernel_rfl, by kernel_rfl, by kernel_rfl, by decide +kernel, by kernel_rfl, by decide +kernel, by decide +kernel⟩, by kernel_rfl, fun _ _ _ _ _ _ us hl => match us, hl with | [_, _], _ => rfl⟩
theorem g_law : i_law.Good G := ⟨rfl, rfl, rfl, ⟨by kernel_rfl, by kernel_rfl, by kernel_rfl, by decide +kernel, by kernel_rfl, by decide +kernel, by decide +kernel⟩, by kernel_rfl, fun _ _ _ _ _ _ us hl => match us, hl with | [_], _ => rfl⟩
theorem good : ∀ x ∈ T, x.Good G := by
  intro x hx
  simp only [T, List.mem_append, List.mem_cons, List.not_mem_nil, or_false] at hx
  rcases hx with (rfl | rfl | rfl | rfl | rfl | rfl | rfl | rfl | rfl | rfl | rfl | rfl | rfl | rfl | rfl | rfl | rfl | rfl | rfl | rfl | rfl | rfl | rfl | rfl | rfl | rfl | rfl | rfl | rfl | rfl) | (rfl | rfl | rfl | rfl | rfl | rfl | rfl | rfl | rfl | rfl | rfl | rfl | rfl)
  · exact g__wall
  · exact g_is_within
  · exact g_look_size
  · exact g_is_deal
  · exact g_look
  · exact g_look_asks
  · exact g_look_weights
  · exact g_look_many
  · exact g_short_way
  · exact g_way
  · exact g_turns_told
  · exact g_turns
  · exact g_cost
  · exact g_any_deal
  · exact g_least_deal
  · exact g_better
  · exact g_total
  · exact g_unlike
  · exact g_bound
  · exact g_ranks
  · exact g_beside
  · exact g_lean_of
  · exact g_lean
  · exact g_look_things
  · exact g_least_lean
  · exact g_balanced
  · exact g_shifts
  · exact g_fewest_shifts
  · exact g_shown
  · exact g_read
  · exact g__law_cell
  · exact g__law_mix
  · exact g__law_seed
  · exact g__law_pick
  · exact g__law_as
  · exact g__law_in
  · exact g__law_deal
  · exact g__law_asks
  · exact g__law_turn
  · exact g__law_word
  · exact g__law_looked
  · exact g__law_is_deal
  · exact g_law
def names : List PySem.Str := ((["_wall", "__name__", "RoundError", "NoSize", "NoWeights", "NoDeal", "NoAsks", "NoThing", "NoPlace", "NoCount", "Leans", "NoText", "MOST_PLACES", "MOST_THINGS", "MOST_ASKS", "is_within", "look_size", "is_deal", "look", "look_asks", "look_weights", "look_many", "short_way", "way", "turns_told", "turns", "cost", "Search", "any_deal", "least_deal"] : List Str) ++ (["better", "total", "unlike", "bound", "ranks", "beside", "lean_of", "lean", "look_things", "least_lean", "balanced", "Round", "shifts", "fewest_shifts", "shown", "read", "_law_cell", "_law_mix", "_law_seed", "_law_pick", "_law_as", "_law_in", "_law_deal", "_law_asks", "_law_turn", "_law_word", "_law_looked", "_law_is_deal"] : List Str))
abbrev R : PySem.W.OpenRow := PySem.W.OpenLaw.row PySem.Challenge.rw_placeround_k01_turns
def fa : List He.Fa := faOf T G em
def fn : List He.DefD := fnOf T
abbrev hk : PySem.W.Hook := He.hookD 5 fa fn
def ob (s : PySem.W.SharedT) : He.AlD := He.obsDG 5 fa fn (HandSHeadRun.getT s)
theorem ob_eq (s : PySem.W.SharedT) : ob s = hk.obs s.abs := He.obsDG_eq (HandSHeadRun.getT_eq s)
theorem run (w : World) : HandSHeadRun.RunEq R (PySem.W.view R.prog [65]) hk ob 12000 names w := by
  intro os
  kernel_rfl
theorem law_true : ∀ ns : List Int, ns.length ≤ 63 → ∃ t t', sem T (isOf em) (11 + 1) i_law.nm [.scr ns] t = .ok (rd (.bool true)) t' := fun ns _ => ⟨[], [], by
  have e := e_law 3 ns
  show sem T (isOf em) (3 + 9) "law" [.scr ns] [] = _
  rw [e]
  rfl⟩
end Lw
open PySem PySem.W PySem.Calls PyProof.Rows
theorem PySem.Challenge.cw_placeround_k01_turns_holds : PySem.Challenge.rw_placeround_k01_turns.Holds := by
  w_on; o_law
  refine HandSHeadRun.head_any (r := OpenLaw.row PySem.Challenge.rw_placeround_k01_turns) (q := view (OpenLaw.row PySem.Challenge.rw_placeround_k01_turns).prog [65]) (H := Lw.hk) (ob := Lw.ob) (M := 12000) (loose := Lw.names) (d := HandSHeadRun.topDef (OpenLaw.row PySem.Challenge.rw_placeround_k01_turns).prog 65) (kwd := []) Lw.ob_eq
    (by kernel_rfl) (fun s => by kernel_rfl) Lw.run (by kernel_rfl) (by kernel_rfl) (by kernel_rfl) (by rfl) (by first | assumption | decide +kernel) (by decide +kernel) ⟨rfl, rfl, rfl, rfl, rfl, by decide +kernel⟩ ?hw ?hc
  case hw => w_witness2
  case hc =>
    refine L2.walk_ofE (l := PySem.Challenge.rw_placeround_k01_turns) (n := 63) (k := 12) (x := "_law_script") (CX := L2.CX0) rfl (by decide) (by kernel_rfl) ⟨rfl, by decide, by decide⟩ ?F (fun _ _ _ _ z => z)
    intro w mg fa h Y Gm hmg0
    obtain ⟨K, KX, c⟩ := Y
    have hmg : mg ("law" : PySem.Str) = some (.ref fa) := by
      have e : (HandSHeadRun.topDef (OpenLaw.row PySem.Challenge.rw_placeround_k01_turns).prog 65).name = ("law" : PySem.Str) := by kernel_rfl
      rw [← e]
      exact hmg0
    obtain ⟨fd, hb, hF⟩ := Pv.law_facts (P := (PySem.Challenge.rw_placeround_k01_turns).prog) (w := w) (k := 11) (n := 63) (x := Lw.i_law) (s0 := "_law_script") KX Gm hmg c (by decide +kernel) (by kernel_rfl) Lw.good (by simp [Lw.T]) (by kernel_rfl) rfl Lw.law_true
    exact ⟨K, fd, Pv.spLaw K 63, KX, hb, fun H a ns hl _ hS => ⟨a, ns, rfl, hl, hS, fun _ => rfl⟩, hF⟩
