import PyProof.Rows.All
import Wide.All
import OpenK.AllK
import Wide.FinOn
import HandS.ForMost
import HandS.TupAny
import HandS.Style
import HandS.IsInst
import HandS.Wide
import HandS.Rev
import HandS.Conv
import HandS.Zip
import HandS.Exc
import HandS.TryOnly
import HandS.TryMany
import HandS.ExcOwn
import HandS.WordsExc
import HandS.Defaults
import HandS.HeadHook1
import HandS.HeadHook2
import HandS.Head0
import HandS.Head1
import HandS.Head2
import HandS.HeadEnd
import PySem.Challenge.RW_mirrorwalk_k00_golden_numbers
set_option Elab.async false
set_option linter.all false
set_option maxRecDepth 100000
set_option maxHeartbeats 4000000
namespace WM
open PySem PySem.Spec PyProof.Rows L2

/-! ## values -/
inductive W where
  | non | bl (b : Bool) | int (i : Int) | str (x : Str)
  | tup (xs : List W) | lst (xs : List W)
  | klst (xs : List W)
  | ref (n : Nat)
  | dct (ks : List W) (vs : List W)
  | ins (c : Nat) (fs : List W)

/-- a living object -/
inductive HOb where
  | lst (xs : List W)
  | dct (ks : List W) (vs : List W)
  | ins (c : Nat) (fs : List W)

abbrev Hm := List HOb
def hget : Hm → Nat → Option HOb
  | [], _ => none
  | o :: t, n => if n = t.length then some o else hget t n
def hset : Hm → Nat → HOb → Hm
  | [], _, _ => []
  | o :: t, n, u => if n = t.length then u :: t else o :: hset t n u

structure Xc where
  c : Nat
  fs : List W

inductive Res (α : Type) where
  | ok (a : α)
  | exc (x : Xc)

abbrev M (α : Type) := Hm → Option (Res α × Hm)
def ret {α : Type} (a : α) : M α := fun m => some (.ok a, m)
def stuck {α : Type} : M α := fun _ => none
def throw {α : Type} (x : Xc) : M α := fun m => some (.exc x, m)
def bnd {α β : Type} (x : M α) (f : α → M β) : M β := fun m => match x m with
  | some (.ok a, m') => f a m'
  | some (.exc e, m') => some (.exc e, m')
  | none => none
def opt {α : Type} : Option α → M α
  | some a => ret a
  | none => stuck
@[simp] theorem bnd_ret {α β : Type} (a : α) (f : α → M β) : bnd (ret a) f = f a := Eq.trans rfl rfl
@[simp] theorem bnd_stuck {α β : Type} (f : α → M β) : bnd (stuck : M α) f = stuck := Eq.trans rfl rfl
@[simp] theorem opt_some {α : Type} (a : α) : opt (some a) = ret a := Eq.trans rfl rfl
@[simp] theorem opt_none {α : Type} : opt (none : Option α) = stuck := Eq.trans rfl rfl
theorem ret_at {α : Type} (a : α) (m : Hm) : ret a m = some (.ok a, m) := rfl
theorem bnd_at {α β : Type} {x : M α} {f : α → M β} {m m' : Hm} {a : α} (h : x m = some (.ok a, m')) : bnd x f m = f a m' := by
  unfold bnd; rw [h]
theorem bnd_assoc {α β γ : Type} (x : M α) (f : α → M β) (g : β → M γ) : bnd (bnd x f) g = bnd x fun a => bnd (f a) g := by
  funext m; unfold bnd
  cases x m with
  | none => rfl
  | some p => obtain ⟨r, m'⟩ := p; cases r <;> rfl

/-! ## the little language -/
inductive Bop where
  | add | sub | mul | fdiv | mod | pow | shl | shr | band | bor
  deriving DecidableEq
inductive Cop where
  | eq | ne | lt | le | gt | ge | is | isnot | isin | notin
  deriving DecidableEq
inductive Bi where
  | len | int | list | tuple | min2 | max2 | abs | sum | all | any | range1 | range2 | sorted
  deriving DecidableEq
inductive Tg where
  | v (i : Nat)
  | t (ts : List Tg)

inductive E where
  | lit (w : W)
  | var (i : Nat)
  | glob (g : Nat)
  | tup (es : List E)
  | lst (es : List E)
  | bin (o : Bop) (a b : E)
  | neg (a : E)
  | cmp (o : Cop) (a b : E)
  | cmp2 (o p : Cop) (a b c : E)
  | and (a b : E) | or (a b : E)
  | not (a : E)
  | ife (c a b : E)
  | idx (a b : E)
  | nop
  | slc (a lo hi : E)
  | rev (a : E)
  | call (f : Nat) (es : List E)
  | bi (b : Bi) (es : List E)
  | isi (a : E) (t : String)
  | comp (elt : E) (tg : Tg) (src cond : E) (own : List Nat)
  | newl (es : List E)
  | newc (e : E)
  -- what is walked
  | srng1 (a : E) | srng2 (a b : E) | sseq (a : E) | senum (a : E) | szip (a b : E) | srev (a : E)

inductive S where
  | pass | brk | cnt
  | expr (e : E)
  | ret (e : E)
  | retN
  | set (tg : Tg) (e : E)
  | setc (i : Nat) (e : E)
  | par (tg : List Nat) (es : List E)
  | aug (i : Nat) (o : Bop) (e : E)
  | setI (o i e : E)
  | app (o e : E)
  | ife (c : E) (a b : List S)
  | loop (tg : Tg) (src : E) (body : List S)
  | while (c : E) (body : List S)

/-! ## what values do -/
mutual
def W.dat : W → Option PyData
  | .non => some .none
  | .bl b => some (.bool b)
  | .int i => some (.int i)
  | .str x => some (.str x)
  | .tup xs => (W.dats xs).map .tuple
  | .lst xs => (W.dats xs).map .list
  | .klst _ => none
  | .ref _ => none
  | .dct _ _ => none
  | .ins _ _ => none
def W.dats : List W → Option (List PyData)
  | [] => some []
  | x :: xs => match W.dat x, W.dats xs with
    | some d, some ds => some (d :: ds)
    | _, _ => none
end
mutual
/-- == of two values (data alone) -/
def W.eqv : W → W → Bool
  | .non, .non => true
  | .bl a, .bl b => a == b
  | .bl a, .int j => (if a then 1 else 0) == j
  | .int i, .bl b => i == (if b then 1 else 0)
  | .int i, .int j => decide (i = j)
  | .str x, .str y => decide (x = y)
  | .lst xs, .lst ys => W.eqvs xs ys
  | .tup xs, .tup ys => W.eqvs xs ys
  | _, _ => false
def W.eqvs : List W → List W → Bool
  | [], [] => true
  | x :: xs, y :: ys => W.eqv x y && W.eqvs xs ys
  | _, _ => false
end
mutual
/-- data, of that depth at most -/
def W.isD : Nat → W → Bool
  | _, .non => true
  | _, .bl _ => true
  | _, .int _ => true
  | _, .str x => PyData.strOk x
  | n + 1, .tup xs => W.isDs n xs
  | n + 1, .lst xs => W.isDs n xs
  | 0, .tup _ => false
  | 0, .lst _ => false
  | _, .klst _ => false
  | _, .ref _ => false
  | _, .dct _ _ => false
  | _, .ins _ _ => false
def W.isDs : Nat → List W → Bool
  | _, [] => true
  | n, x :: xs => W.isD n x && W.isDs n xs
end
mutual
/-- all references are to objects below k -/
def W.rb (k : Nat) : W → Bool
  | .ref n => decide (n < k)
  | .tup xs => W.rbs k xs
  | .lst xs => W.rbs k xs
  | .klst xs => W.rbs k xs
  | .dct ks vs => W.rbs k ks && W.rbs k vs
  | .ins _ fs => W.rbs k fs
  | _ => true
def W.rbs (k : Nat) : List W → Bool
  | [] => true
  | x :: xs => W.rb k x && W.rbs k xs
end
def HOb.rb (k : Nat) : HOb → Bool
  | .lst xs => W.rbs k xs
  | .dct ks vs => W.rbs k ks && W.rbs k vs
  | .ins _ fs => W.rbs k fs

def szOk (n : Nat) : Bool := decide (n ≤ 16777216)
def mulOk (i j : Int) : Bool := (decide (-(2 ^ 64) < i) && decide (i < 2 ^ 64)) || (decide (-(2 ^ 64) < j) && decide (j < 2 ^ 64)) || decide (i.natAbs.log2 + j.natAbs.log2 < 1000000)

def binW : Bop → W → W → Option W
  | .add, .int i, .int j => some (.int (i + j))
  | .add, .tup xs, .tup ys => if szOk (xs.length + ys.length) then some (.tup (xs ++ ys)) else none
  | .add, .lst xs, .lst ys => if szOk (xs.length + ys.length) then some (.lst (xs ++ ys)) else none
  | .add, .str x, .str y => if szOk (x.length + y.length) then some (.str (x ++ y)) else none
  | .sub, .int i, .int j => some (.int (i - j))
  | .mul, .int i, .int j => if mulOk i j then some (.int (i * j)) else none
  | .fdiv, .int i, .int j => if decide (0 < j) && (decide (j < 1073741824) || decide (j.natAbs.log2 < 9000)) then some (.int (i / j)) else none
  | .mod, .int i, .int j => if decide (0 < j) then some (.int (i % j)) else none
  | .pow, .int i, .int j => if decide (0 ≤ j) && decide (j ≤ 1000000) && decide (i.natAbs < 2 ^ 64) then some (.int (i ^ j.toNat)) else none
  | .shl, .int i, .int j => if decide (0 ≤ j) && decide (j ≤ 1000000) && decide (i.natAbs < 2 ^ 64) then some (.int (i * 2 ^ j.toNat)) else none
  | .shr, .int i, .int j => if decide (0 ≤ j) then some (.int (i / 2 ^ j.toNat)) else none
  | .band, .int i, .int j => some (.int (Builtin.bitAnd i j))
  | .bor, .int i, .int j => some (.int (Builtin.bitOr i j))
  | _, _, _ => none

def isScal : W → Bool
  | .non => true | .bl _ => true | .int _ => true | .str _ => true | _ => false

def isNon : W → Bool
  | .non => true
  | _ => false
def cmpW : Cop → W → W → Option W
  | .eq, a, b => if W.isD 60 a && W.isD 60 b then some (.bl (W.eqv a b)) else none
  | .ne, a, b => if W.isD 60 a && W.isD 60 b then some (.bl (!W.eqv a b)) else none
  | .lt, .int i, .int j => some (.bl (decide (i < j)))
  | .le, .int i, .int j => some (.bl (decide (i ≤ j)))
  | .gt, .int i, .int j => some (.bl (decide (j < i)))
  | .ge, .int i, .int j => some (.bl (decide (j ≤ i)))
  | .is, a, .non => some (.bl (isNon a))
  | .isnot, a, .non => some (.bl (!isNon a))
  | .is, .bl a, .bl b => some (.bl (decide (a = b)))
  | .isnot, .bl a, .bl b => some (.bl (!decide (a = b)))
  | _, _, _ => none

/-- the items of a list or a tuple -/
def seqW (m : Hm) : W → Option (List W)
  | .tup xs => some xs
  | .lst xs => some xs
  | .klst xs => some xs
  | .ref n => match hget m n with
    | some (.lst xs) => some xs
    | _ => none
  | _ => none
def seqM (w : W) : M (List W) := fun m => match seqW m w with
  | some xs => some (.ok xs, m)
  | none => none
@[simp] theorem seqM_tup (xs : List W) : seqM (.tup xs) = ret xs := Eq.trans rfl rfl
@[simp] theorem seqM_klst (xs : List W) : seqM (.klst xs) = ret xs := Eq.trans rfl rfl
@[simp] theorem seqM_lst (xs : List W) : seqM (.lst xs) = ret xs := Eq.trans rfl rfl

def idxW (xs : List W) : W → Option W
  | .int i => atI xs i
  | _ => none
def idxM (a b : W) : M W := bnd (seqM a) fun xs => opt (idxW xs b)

def cutW (xs : List W) (lo hi : Option Int) : List W := (xs.drop (HT.sIx xs.length 0 lo)).take (HT.sIx xs.length xs.length hi - HT.sIx xs.length 0 lo)

def intsW : List W → Option (List Int)
  | [] => some []
  | .int i :: r => (intsW r).map (i :: ·)
  | _ :: _ => none
def blsW : List W → Option (List Bool)
  | [] => some []
  | .bl i :: r => (blsW r).map (i :: ·)
  | _ :: _ => none

def rngW (lo hi : Int) : Option (List W) :=
  if decide (-(2 ^ 62) ≤ lo) && decide (lo < 2 ^ 62) && decide (-(2 ^ 62) ≤ hi) && decide (hi < 2 ^ 62) && szOk (hi - lo).toNat then
    some ((List.range (hi - lo).toNat).map fun (k : Nat) => W.int (lo + (k : Int))) else none

def biM : Bi → List W → M W
  | .len, [.str x] => if szOk x.length then ret (.int x.length) else stuck
  | .len, [a] => bnd (seqM a) fun xs => ret (.int xs.length)
  | .int, [.int i] => ret (.int i)
  | .int, [.bl b] => ret (.int (if b then 1 else 0))
  | .list, [a] => bnd (seqM a) fun xs => ret (.lst xs)
  | .tuple, [a] => bnd (seqM a) fun xs => ret (.tup xs)
  | .min2, [.int i, .int j] => ret (.int (if j < i then j else i))
  | .max2, [.int i, .int j] => ret (.int (if j > i then j else i))
  | .abs, [.int i] => ret (.int (if i < 0 then -i else i))
  | .sum, [.lst xs] => bnd (opt (intsW xs)) fun is => ret (.int is.sum)
  | .all, [.lst xs] => bnd (opt (blsW xs)) fun is => ret (.bl (is.all id))
  | .any, [.lst xs] => bnd (opt (blsW xs)) fun is => ret (.bl (is.any id))
  | _, _ => stuck

/-- the class names that a value's isinstance says yes to (bool is an int) -/
def isiW (t : String) : W → Option Bool
  | .non => if t = "int" ∨ t = "bool" ∨ t = "str" ∨ t = "tuple" ∨ t = "list" ∨ t = "dict" then some false else none
  | .bl _ => if t = "int" ∨ t = "bool" then some true else if t = "str" ∨ t = "tuple" ∨ t = "list" ∨ t = "dict" then some false else none
  | .int _ => if t = "int" then some true else if t = "bool" ∨ t = "str" ∨ t = "tuple" ∨ t = "list" ∨ t = "dict" then some false else none
  | .str _ => if t = "str" then some true else if t = "int" ∨ t = "bool" ∨ t = "tuple" ∨ t = "list" ∨ t = "dict" then some false else none
  | .tup _ => if t = "tuple" then some true else if t = "int" ∨ t = "bool" ∨ t = "str" ∨ t = "list" ∨ t = "dict" then some false else none
  | .lst _ => if t = "list" then some true else if t = "int" ∨ t = "bool" ∨ t = "str" ∨ t = "tuple" ∨ t = "dict" then some false else none
  | _ => none

/-! ## slots, targets -/
abbrev Sg := List (Option W)
mutual
def asgT : Tg → W → Sg → Option Sg
  | .v i, w, sg => some (sg.set i (some w))
  | .t ts, .tup ws, sg => asgTs ts ws sg
  | .t _, _, _ => none
def asgTs : List Tg → List W → Sg → Option Sg
  | [], [], sg => some sg
  | t :: ts, w :: ws, sg => match asgT t w sg with
    | some sg' => asgTs ts ws sg'
    | none => none
  | _, _, _ => none
end
def setMany : List Nat → List W → Sg → Option Sg
  | [], [], sg => some sg
  | i :: is, w :: ws, sg => setMany is ws (sg.set i (some w))
  | _, _, _ => none
def wipeW (sg : Sg) : List Nat → Sg
  | [] => sg
  | v :: vs => (wipeW sg vs).set v none

/-! ## running -/
abbrev Calls := Nat → List W → M W
structure Fn where
  np : Nat
  ns : Nat
  body : List S
  keep : Bool := false
structure Tab where
  glob : Nat → Option W
  fn : Nat → Option Fn

/-- one item after the other: elements that pass the test -/
def compGo (tg : Tg) (sg : Sg) (tst : Sg → M W) (elt : Sg → M W) : List W → M (List W)
  | [] => ret []
  | x :: xs => bnd (opt (asgT tg x sg)) fun sg' => bnd (tst sg') fun b => match b with
    | .bl true => bnd (elt sg') fun y => bnd (compGo tg sg tst elt xs) fun ys => ret (y :: ys)
    | .bl false => compGo tg sg tst elt xs
    | _ => stuck
/-- what leaves a block without being an exception -/
def noExc {α : Type} (x : M α) : M α := fun m => match x m with
  | some (.ok a, m') => some (.ok a, m')
  | _ => none
@[simp] theorem noExc_ret {α : Type} (a : α) : noExc (ret a) = ret a := Eq.trans rfl rfl
def alloc (o : HOb) : M W := fun m => some (.ok (.ref m.length), o :: m)

/-- a part of a slice -/
def partM (e : E) (x : M W) : M (Option Int) := match e with
  | .nop => ret none
  | _ => bnd x fun w => match w with
    | .int i => ret (some i)
    | _ => stuck
mutual
def evE (T : Tab) (C : Calls) : E → Sg → M W
  | .lit w, _ => ret w
  | .var i, sg => match sg[i]? with
    | some (some w) => ret w
    | _ => stuck
  | .glob g, _ => opt (T.glob g)
  | .tup es, sg => bnd (evEs T C es sg) fun ws => ret (.tup ws)
  | .lst es, sg => bnd (evEs T C es sg) fun ws => ret (.lst ws)
  | .bin o a b, sg => bnd (evE T C a sg) fun x => bnd (evE T C b sg) fun y => opt (binW o x y)
  | .neg a, sg => bnd (evE T C a sg) fun x => match x with
    | .int i => ret (.int (-i))
    | _ => stuck
  | .cmp o a b, sg => bnd (evE T C a sg) fun x => bnd (evE T C b sg) fun y => opt (cmpW o x y)
  | .cmp2 o p a b c, sg => bnd (evE T C a sg) fun x => bnd (evE T C b sg) fun y => bnd (opt (cmpW o x y)) fun z => match z with
    | .bl true => bnd (evE T C c sg) fun u => opt (cmpW p y u)
    | .bl false => ret (.bl false)
    | _ => stuck
  | .and a b, sg => bnd (evE T C a sg) fun x => match x with
    | .bl true => evE T C b sg
    | .bl false => ret (.bl false)
    | _ => stuck
  | .or a b, sg => bnd (evE T C a sg) fun x => match x with
    | .bl true => ret (.bl true)
    | .bl false => evE T C b sg
    | _ => stuck
  | .not a, sg => bnd (evE T C a sg) fun x => match x with
    | .bl b => ret (.bl (!b))
    | _ => stuck
  | .ife c a b, sg => bnd (evE T C c sg) fun x => match x with
    | .bl true => evE T C a sg
    | .bl false => evE T C b sg
    | _ => stuck
  | .idx a b, sg => bnd (evE T C a sg) fun x => bnd (evE T C b sg) fun y => idxM x y
  | .nop, _ => stuck
  | .slc a lo hi, sg => bnd (evE T C a sg) fun x => bnd (partM lo (evE T C lo sg)) fun l => bnd (partM hi (evE T C hi sg)) fun h => match x with
    | .tup xs => ret (.tup (cutW xs l h))
    | .lst xs => ret (.lst (cutW xs l h))
    | .ref _ => bnd (seqM x) fun xs => ret (.lst (cutW xs l h))
    | _ => stuck
  | .rev a, sg => bnd (evE T C a sg) fun x => match x with
    | .tup xs => ret (.tup xs.reverse)
    | .lst xs => ret (.lst xs.reverse)
    | .ref _ => bnd (seqM x) fun xs => ret (.lst xs.reverse)
    | _ => stuck
  | .call f es, sg => bnd (evEs T C es sg) fun ws => C f ws
  | .bi b es, sg => bnd (evEs T C es sg) fun ws => biM b ws
  | .isi a t, sg => bnd (evE T C a sg) fun x => bnd (opt (isiW t x)) fun b => ret (.bl b)
  | .comp elt tg src cond own, sg => bnd (evI T C src sg) fun xs =>
      bnd (noExc (compGo tg (wipeW sg own) (evE T C cond) (evE T C elt) xs)) fun ys => ret (.lst ys)
  | .newl es, sg => bnd (evEs T C es sg) fun ws => alloc (.lst ws)
  | .newc e, sg => bnd (evE T C e sg) fun w => match w with
    | .lst xs => alloc (.lst xs)
    | _ => stuck
  | .srng1 _, _ => stuck
  | .srng2 _ _, _ => stuck
  | .sseq _, _ => stuck
  | .senum _, _ => stuck
  | .szip _ _, _ => stuck
  | .srev _, _ => stuck
def evEs (T : Tab) (C : Calls) : List E → Sg → M (List W)
  | [], _ => ret []
  | e :: es, sg => bnd (evE T C e sg) fun w => bnd (evEs T C es sg) fun ws => ret (w :: ws)
/-- what a for walks -/
def evI (T : Tab) (C : Calls) : E → Sg → M (List W)
  | .srng1 a, sg => bnd (evE T C a sg) fun w => match w with
    | .int i => opt (rngW 0 i)
    | _ => stuck
  | .srng2 a b, sg => bnd (evE T C a sg) fun x => bnd (evE T C b sg) fun y => match x, y with
    | .int i, .int j => opt (rngW i j)
    | _, _ => stuck
  | .sseq a, sg => bnd (evE T C a sg) fun x => match x with
    | .tup xs => ret xs
    | .lst xs => ret xs
    | .klst xs => ret xs
    | _ => stuck
  | _, _ => stuck
end
/-! ## statements -/
inductive SO where
  | nx | brk | cnt
  | rt (w : W)
  | ex (x : Xc)
abbrev MS := Hm → Option (SO × Sg × Hm)
/-- an expression's outcome, in a statement -/
def lft {α : Type} (x : M α) (sg : Sg) (k : α → MS) : MS := fun m => match x m with
  | some (.ok a, m') => k a m'
  | some (.exc e, m') => some (.ex e, sg, m')
  | none => none
@[simp] theorem lft_ret {α : Type} (a : α) (sg : Sg) (k : α → MS) : lft (ret a) sg k = k a := Eq.trans rfl rfl
@[simp] theorem lft_stuck {α : Type} (sg : Sg) (k : α → MS) : lft (stuck : M α) sg k = fun _ => none := Eq.trans rfl rfl
theorem lft_at {α : Type} {x : M α} {sg : Sg} {k : α → MS} {m m' : Hm} {a : α} (h : x m = some (.ok a, m')) : lft x sg k m = k a m' := by
  unfold lft; rw [h]
/-- behind a statement -/
def thenS (x : Option (SO × Sg × Hm)) (k : Sg → MS) : Option (SO × Sg × Hm) := match x with
  | some (.nx, sg, m) => k sg m
  | some (.brk, sg, m) => some (.brk, sg, m)
  | some (.cnt, sg, m) => some (.cnt, sg, m)
  | some (.rt w, sg, m) => some (.rt w, sg, m)
  | some (.ex x, sg, m) => some (.ex x, sg, m)
  | none => none
/-- behind a loop's turn -/
def turnS (x : Option (SO × Sg × Hm)) (k : Sg → MS) : Option (SO × Sg × Hm) := match x with
  | some (.nx, sg, m) => k sg m
  | some (.cnt, sg, m) => k sg m
  | some (.brk, sg, m) => some (.nx, sg, m)
  | some (.rt w, sg, m) => some (.rt w, sg, m)
  | some (.ex x, sg, m) => some (.ex x, sg, m)
  | none => none
@[simp] theorem thenS_nx (sg : Sg) (m : Hm) (k : Sg → MS) : thenS (some (.nx, sg, m)) k = k sg m := Eq.trans rfl rfl
@[simp] theorem thenS_rt (w : W) (sg : Sg) (m : Hm) (k : Sg → MS) : thenS (some (.rt w, sg, m)) k = some (.rt w, sg, m) := Eq.trans rfl rfl
@[simp] theorem thenS_brk (sg : Sg) (m : Hm) (k : Sg → MS) : thenS (some (.brk, sg, m)) k = some (.brk, sg, m) := Eq.trans rfl rfl
@[simp] theorem thenS_cnt (sg : Sg) (m : Hm) (k : Sg → MS) : thenS (some (.cnt, sg, m)) k = some (.cnt, sg, m) := Eq.trans rfl rfl
@[simp] theorem turnS_nx (sg : Sg) (m : Hm) (k : Sg → MS) : turnS (some (.nx, sg, m)) k = k sg m := Eq.trans rfl rfl
@[simp] theorem turnS_cnt (sg : Sg) (m : Hm) (k : Sg → MS) : turnS (some (.cnt, sg, m)) k = k sg m := Eq.trans rfl rfl
@[simp] theorem turnS_brk (sg : Sg) (m : Hm) (k : Sg → MS) : turnS (some (.brk, sg, m)) k = some (.nx, sg, m) := Eq.trans rfl rfl
@[simp] theorem turnS_rt (w : W) (sg : Sg) (m : Hm) (k : Sg → MS) : turnS (some (.rt w, sg, m)) k = some (.rt w, sg, m) := Eq.trans rfl rfl

def loopGo (tg : Tg) (body : Sg → MS) : List W → Sg → MS
  | [], sg => fun m => some (.nx, sg, m)
  | x :: xs, sg => fun m => match asgT tg x sg with
    | none => none
    | some sg' => turnS (body sg' m) (loopGo tg body xs)
def whileF (c : Sg → M W) (body : Sg → MS) : Nat → Sg → MS
  | 0, _ => fun _ => none
  | n + 1, sg => lft (c sg) sg fun w => match w with
    | .bl true => fun m => turnS (body sg m) (whileF c body n)
    | .bl false => fun m => some (.nx, sg, m)
    | _ => fun _ => none
open Classical in
noncomputable def whileL (c : Sg → M W) (body : Sg → MS) (sg : Sg) : MS := fun m =>
  if h : ∃ n, ∃ r, whileF c body n sg m = some r then whileF c body h.choose sg m else none

/-- it is a living list -/
def lstM (x : W) : M Unit := match x with
  | .ref n => fun m => match hget m n with
    | some (.lst _) => some (.ok (), m)
    | _ => none
  | _ => stuck
def appM (x y : W) : M W := match x with
  | .ref n => fun m => match hget m n with
    | some (.lst xs) => if szOk (xs.length + 1) then some (.ok .non, hset m n (.lst (xs ++ [y]))) else none
    | _ => none
  | _ => stuck
def setIM (o i y : W) : M W := match o, i with
  | .ref n, .int k => fun m => match hget m n with
    | some (.lst xs) => match ixN xs.length k with
      | some j => some (.ok .non, hset m n (.lst (xs.set j y)))
      | none => none
    | _ => none
  | _, _ => stuck
def augW (o : Bop) (x y : W) : Option W := match o, x, y with
  | .add, .int i, .int j => some (.int (i + j))
  | .sub, .int i, .int j => some (.int (i - j))
  | _, _, _ => none

mutual
noncomputable def evS (T : Tab) (C : Calls) : S → Sg → MS
  | .pass, sg => fun m => some (.nx, sg, m)
  | .brk, sg => fun m => some (.brk, sg, m)
  | .cnt, sg => fun m => some (.cnt, sg, m)
  | .expr e, sg => lft (evE T C e sg) sg fun _ m => some (.nx, sg, m)
  | .ret e, sg => lft (evE T C e sg) sg fun w m => some (.rt w, sg, m)
  | .retN, sg => fun m => some (.rt .non, sg, m)
  | .set tg e, sg => lft (evE T C e sg) sg fun w => match asgT tg w sg with
    | some sg' => fun m => some (.nx, sg', m)
    | none => fun _ => none
  | .setc i e, sg => lft (evE T C e sg) sg fun w m => some (.nx, sg.set i (some w), m)
  | .par is es, sg => lft (evEs T C es sg) sg fun ws => match setMany is ws sg with
    | some sg' => fun m => some (.nx, sg', m)
    | none => fun _ => none
  | .aug i o e, sg => match sg[i]? with
    | some (some x) => lft (bnd (evE T C e sg) fun y => opt (augW o x y)) sg fun w m => some (.nx, sg.set i (some w), m)
    | _ => fun _ => none
  | .setI o i e, sg => lft (bnd (evE T C e sg) fun y => bnd (evE T C o sg) fun x => bnd (evE T C i sg) fun k => setIM x k y) sg fun _ m => some (.nx, sg, m)
  | .app o e, sg => lft (bnd (evE T C o sg) fun x => bnd (lstM x) fun _ => bnd (evE T C e sg) fun y => appM x y) sg fun _ m => some (.nx, sg, m)
  | .ife c a b, sg => lft (evE T C c sg) sg fun w => match w with
    | .bl true => evSs T C a sg
    | .bl false => evSs T C b sg
    | _ => fun _ => none
  | .loop tg src body, sg => lft (evI T C src sg) sg fun xs => loopGo tg (evSs T C body) xs sg
  | .while c body, sg => whileL (evE T C c) (evSs T C body) sg
noncomputable def evSs (T : Tab) (C : Calls) : List S → Sg → MS
  | [], sg => fun m => some (.nx, sg, m)
  | s :: ss, sg => fun m => thenS (evS T C s sg m) (evSs T C ss)
end

/-- a value whose own objects do not live on -/
def frzW (k : Nat) (m : Hm) : Nat → W → Option W
  | 0, _ => none
  | n + 1, w => if W.rb k w then some w else match w with
    | .ref i => match hget m i with
      | some (.lst xs) => (xs.mapM (frzW k m n)).map .lst
      | some (.dct ks vs) => (ks.mapM (frzW k m n)).bind fun ks' => (vs.mapM (frzW k m n)).map (.dct ks')
      | some (.ins c fs) => (fs.mapM (frzW k m n)).map (.ins c)
      | none => none
    | .tup xs => (xs.mapM (frzW k m n)).map .tup
    | .lst xs => (xs.mapM (frzW k m n)).map .lst
    | .klst xs => (xs.mapM (frzW k m n)).map .klst
    | .dct ks vs => (ks.mapM (frzW k m n)).bind fun ks' => (vs.mapM (frzW k m n)).map (.dct ks')
    | .ins c fs => (fs.mapM (frzW k m n)).map (.ins c)
    | _ => none
open Classical in
/-- a call's end: m ahead of it, m' behind it; what it made is let go -/
noncomputable def fin (keep : Bool) (m m' : Hm) (w : W) : Option (Res W × Hm) :=
  if keep = true ∨ m'.length = m.length then some (.ok w, m')
  else if m.length ≤ m'.length ∧ (m'.drop (m'.length - m.length) = m ∨ (m'.drop (m'.length - m.length)).all (HOb.rb m.length) = true) then
    match frzW m.length m' 20 w with
    | some w' => some (.ok w', m'.drop (m'.length - m.length))
    | none => none
  else none
open Classical in
noncomputable def finx (m m' : Hm) (x : Xc) : Option (Res W × Hm) :=
  if m.length ≤ m'.length ∧ W.rbs 0 x.fs = true ∧ (m'.drop (m'.length - m.length) = m ∨ (m'.drop (m'.length - m.length)).all (HOb.rb m.length) = true) then
    some (.exc x, m'.drop (m'.length - m.length))
  else none
noncomputable def runF (T : Tab) (C : Calls) (F : Fn) (ws : List W) : M W := fun m =>
  if ws.length = F.np then
    match evSs T C F.body (ws.map some ++ List.replicate (F.ns - F.np) none) m with
    | some (.rt w, _, m') => fin F.keep m m' w
    | some (.nx, _, m') => fin F.keep m m' .non
    | some (.ex x, _, m') => finx m m' x
    | _ => none
  else none
noncomputable def evC (T : Tab) : Nat → Calls
  | 0 => fun _ _ => stuck
  | l + 1 => fun f ws => match T.fn f with
    | some F => runF T (evC T l) F ws
    | none => stuck
end WM
namespace WM
open PySem PySem.Spec PyProof.Rows L2

/-- what the text has written: its part K, the classes' addresses and fields -/
structure En where
  K : PySem.W.Frag
  ca : Nat → Addr
  cf : Nat → List Str
  /-- addresses that nobody here may name -/
  F : Addr → Prop := fun _ => False

def KT (K : PySem.W.Frag) (a : Addr) (xs : List V) : Prop :=
  ∃ (o : Obj) (its : Array Value) (n : Nat), K.lookup a = some o ∧ o.cls = .type "tuple" ∧ o.data = .seq its n ∧ its.size ≤ sizeLine ∧ Vals xs its.toList
def KL (K : PySem.W.Frag) (a : Addr) (xs : List V) : Prop :=
  ∃ (o : Obj) (its : Array Value) (n : Nat), K.lookup a = some o ∧ o.cls = .type "list" ∧ o.dict = none ∧ o.data = .seq its n ∧ its.size ≤ sizeLine ∧ Vals xs its.toList
/-- no living object stands there -/
def NL (N : En) (ρ : Nat → Addr) (k : Nat) (a : Addr) : Prop := (∀ n, n < k → ρ n ≠ a) ∧ ¬ N.F a
def FzT (N : En) (ρ : Nat → Addr) (k : Nat) (H : Hp) (a : Addr) (vs : List V) : Prop :=
  vs.length ≤ sizeLine ∧ ((Rd H a (.tup vs) ∧ NL N ρ k a) ∨ KT N.K a vs)
def FzL (N : En) (ρ : Nat → Addr) (k : Nat) (H : Hp) (a : Addr) (vs : List V) : Prop :=
  vs.length ≤ sizeLine ∧ H a = some (.lst vs) ∧ NL N ρ k a
def FzK (N : En) (ρ : Nat → Addr) (k : Nat) (H : Hp) (a : Addr) (vs : List V) : Prop :=
  vs.length ≤ sizeLine ∧ ((Rd H a (.lst vs) ∧ NL N ρ k a) ∨ KL N.K a vs)
theorem FzT.seq {N : En} {ρ k H a vs} (h : FzT N ρ k H a vs) : SqT N.K H a vs := h.2.elim (fun z => .inl z.1) fun z => .inr z
theorem FzL.seq {N : En} {ρ k H a vs} (h : FzL N ρ k H a vs) : SqL N.K H a vs := .inl (.inl h.2.1)
theorem FzK.seq {N : En} {ρ k H a vs} (h : FzK N ρ k H a vs) : SqL N.K H a vs := h.2.elim (fun z => .inl z.1) fun z => .inr z

mutual
def RV (N : En) (ρ : Nat → Addr) (k : Nat) (H : Hp) : W → V → Prop
  | .non, v => v = .non
  | .bl b, v => v = .bl b
  | .int i, v => v = .int i
  | .str x, v => v = .str x
  | .tup ws, v => ∃ a vs, v = .ref a ∧ FzT N ρ k H a vs ∧ RVs N ρ k H ws vs
  | .lst ws, v => ∃ a vs, v = .ref a ∧ FzL N ρ k H a vs ∧ RVs N ρ k H ws vs
  | .klst ws, v => ∃ a vs, v = .ref a ∧ FzK N ρ k H a vs ∧ RVs N ρ k H ws vs
  | .ref n, v => n < k ∧ v = .ref (ρ n)
  | .dct _ _, _ => False
  | .ins _ _, _ => False
def RVs (N : En) (ρ : Nat → Addr) (k : Nat) (H : Hp) : List W → List V → Prop
  | [], vs => vs = []
  | w :: ws, vs => ∃ v r, vs = v :: r ∧ RV N ρ k H w v ∧ RVs N ρ k H ws r
end
def RO (N : En) (ρ : Nat → Addr) (k : Nat) (H : Hp) : HOb → Addr → Prop
  | .lst ws, a => ∃ vs, H a = some (.lst vs) ∧ vs.length ≤ sizeLine ∧ RVs N ρ k H ws vs
  | .dct _ _, _ => False
  | .ins _ _, _ => False
structure Rl (N : En) (ρ : Nat → Addr) (m : Hm) (H : Hp) : Prop where
  fb : ∀ a, N.F a → H a ≠ none
  nf : ∀ n, n < m.length → ¬ N.F (ρ n)
  inj : ∀ i j, i < m.length → j < m.length → ρ i = ρ j → i = j
  lv : ∀ i, i < m.length → H (ρ i) ≠ none
  obj : ∀ n o, hget m n = some o → RO N ρ m.length H o (ρ n)
structure Ext (N : En) (ρ : Nat → Addr) (k : Nat) (H : Hp) (ρ' : Nat → Addr) (k' : Nat) (H' : Hp) : Prop where
  le : k ≤ k'
  rho : ∀ n, n < k → ρ' n = ρ n
  keep : ∀ a o, H a = some o → NL N ρ k a → H' a = some o
  keepF : ∀ a, N.F a → H' a = H a
  lv : ∀ n, n < k → H (ρ n) ≠ none → H' (ρ n) ≠ none
  fresh : ∀ n, k ≤ n → n < k' → H (ρ' n) = none
theorem Ext.refl {N ρ k H} : Ext N ρ k H ρ k H := ⟨Nat.le_refl _, fun _ _ => rfl, fun _ _ h _ => h, fun _ _ => rfl, fun _ _ h => h, fun n h h' => absurd (Nat.lt_of_lt_of_le h' h) (Nat.lt_irrefl _)⟩
theorem Ext.nl {ρ k H ρ' k' H' a o} (e : Ext N ρ k H ρ' k' H') (h : H a = some o) (n : NL N ρ k a) : NL N ρ' k' a := by
  refine ⟨fun i hi q => ?_, n.2⟩
  by_cases hk : i < k
  · rw [e.rho i hk] at q; exact n.1 i hk q
  · have := e.fresh i (Nat.le_of_not_lt hk) hi
    rw [q, h] at this; cases this
theorem Ext.trans {N ρ k H ρ' k' H' ρ'' k'' H''} (a : Ext N ρ k H ρ' k' H') (b : Ext N ρ' k' H' ρ'' k'' H'') : Ext N ρ k H ρ'' k'' H'' where
  le := Nat.le_trans a.le b.le
  rho := fun n h => (b.rho n (Nat.lt_of_lt_of_le h a.le)).trans (a.rho n h)
  keep := fun c o h n => b.keep c o (a.keep c o h n) (a.nl h n)
  keepF := fun c h => (b.keepF c h).trans (a.keepF c h)
  lv := fun n h z => by
    have q := a.lv n h z
    have r := b.lv n (Nat.lt_of_lt_of_le h a.le)
    rw [a.rho n h] at r
    exact r q
  fresh := fun n h1 h2 => by
    by_cases hk : n < k'
    · rw [b.rho n hk]; exact a.fresh n h1 hk
    · have q := b.fresh n (Nat.le_of_not_lt hk) h2
      cases z : H (ρ'' n) with
      | none => rfl
      | some o =>
        by_cases hf : N.F (ρ'' n)
        · rw [a.keepF _ hf, z] at q; cases q
        by_cases hn : ∀ j, j < k → ρ j ≠ ρ'' n
        · rw [a.keep _ o z ⟨hn, hf⟩] at q; cases q
        · have : ∃ j, j < k ∧ ρ j = ρ'' n := by
            simp only [Classical.not_forall] at hn
            obtain ⟨j, h3, h4⟩ := hn
            exact ⟨j, h3, Classical.not_not.mp h4⟩
          obtain ⟨j, h3, h4⟩ := this
          have r := a.lv j h3
          rw [h4, z] at r
          exact absurd q (r (by simp))
theorem FzT.mono {N ρ k H ρ' k' H' a vs} (e : Ext N ρ k H ρ' k' H') (h : FzT N ρ k H a vs) : FzT N ρ' k' H' a vs := by
  refine ⟨h.1, ?_⟩
  rcases h.2 with ⟨r, n⟩ | r
  · rcases r with r | ⟨o, r⟩
    · exact .inl ⟨.inl (e.keep _ _ r n), e.nl r n⟩
    · exact .inl ⟨.inr ⟨o, e.keep _ _ r n⟩, e.nl r n⟩
  · exact .inr r
theorem FzL.mono {N ρ k H ρ' k' H' a vs} (e : Ext N ρ k H ρ' k' H') (h : FzL N ρ k H a vs) : FzL N ρ' k' H' a vs := ⟨h.1, e.keep _ _ h.2.1 h.2.2, e.nl h.2.1 h.2.2⟩
theorem FzK.mono {N ρ k H ρ' k' H' a vs} (e : Ext N ρ k H ρ' k' H') (h : FzK N ρ k H a vs) : FzK N ρ' k' H' a vs := by
  refine ⟨h.1, ?_⟩
  rcases h.2 with ⟨r, n⟩ | r
  · rcases r with r | ⟨o, r⟩
    · exact .inl ⟨.inl (e.keep _ _ r n), e.nl r n⟩
    · exact .inl ⟨.inr ⟨o, e.keep _ _ r n⟩, e.nl r n⟩
  · exact .inr r
mutual
theorem RV.mono {N ρ k H ρ' k' H'} (e : Ext N ρ k H ρ' k' H') : ∀ (w : W) (v : V), RV N ρ k H w v → RV N ρ' k' H' w v
  | .non, _, h => h
  | .bl _, _, h => h
  | .int _, _, h => h
  | .str _, _, h => h
  | .tup ws, _, ⟨a, vs, h1, h2, h3⟩ => ⟨a, vs, h1, h2.mono e, RVs.mono e ws vs h3⟩
  | .lst ws, _, ⟨a, vs, h1, h2, h3⟩ => ⟨a, vs, h1, h2.mono e, RVs.mono e ws vs h3⟩
  | .klst ws, _, ⟨a, vs, h1, h2, h3⟩ => ⟨a, vs, h1, h2.mono e, RVs.mono e ws vs h3⟩
  | .ref n, _, ⟨h1, h2⟩ => ⟨Nat.lt_of_lt_of_le h1 e.le, by rw [e.rho n h1]; exact h2⟩
  | .dct _ _, _, h => h
  | .ins _ _, _, h => h
theorem RVs.mono {N ρ k H ρ' k' H'} (e : Ext N ρ k H ρ' k' H') : ∀ (w : List W) (v : List V), RVs N ρ k H w v → RVs N ρ' k' H' w v
  | [], _, h => h
  | w :: ws, _, ⟨v, r, h1, h2, h3⟩ => ⟨v, r, h1, RV.mono e w v h2, RVs.mono e ws r h3⟩
end
theorem RVs.len {N ρ k H} : ∀ {ws : List W} {vs : List V}, RVs N ρ k H ws vs → ws.length = vs.length
  | [], _, h => by rw [h]; rfl
  | _ :: ws, _, ⟨_, _, h1, _, h3⟩ => by rw [h1, List.length_cons, List.length_cons, RVs.len h3]
theorem RVs.get {N ρ k H} : ∀ {ws : List W} {vs : List V} {i : Nat} {w : W}, RVs N ρ k H ws vs → ws[i]? = some w → ∃ v, vs[i]? = some v ∧ RV N ρ k H w v
  | [], _, _, _, _, e => by simp at e
  | x :: ws, _, 0, w, ⟨v, r, h1, h2, _⟩, e => by
    simp at e; subst e; exact ⟨v, by rw [h1]; rfl, h2⟩
  | x :: ws, _, i + 1, w, ⟨v, r, h1, _, h3⟩, e => by
    obtain ⟨u, h4, h5⟩ := RVs.get (i := i) (w := w) h3 (by simpa using e)
    exact ⟨u, by rw [h1]; simpa using h4, h5⟩
theorem RVs.none_of {N ρ k H} {ws : List W} {vs : List V} {i : Nat} (h : RVs N ρ k H ws vs) (e : ws[i]? = none) : vs[i]? = none := by
  have := h.len
  exact List.getElem?_eq_none_iff.mpr (by have := List.getElem?_eq_none_iff.mp e; omega)
theorem RVs.append {N ρ k H} : ∀ {ws ws' : List W} {vs vs' : List V}, RVs N ρ k H ws vs → RVs N ρ k H ws' vs' → RVs N ρ k H (ws ++ ws') (vs ++ vs')
  | [], _, _, _, h, h' => by rw [h]; exact h'
  | _ :: _, _, _, _, ⟨v, r, h1, h2, h3⟩, h' => ⟨v, r ++ _, by rw [h1]; rfl, h2, RVs.append h3 h'⟩
theorem RVs.drop {N ρ k H} : ∀ {ws : List W} {vs : List V} (n : Nat), RVs N ρ k H ws vs → RVs N ρ k H (ws.drop n) (vs.drop n)
  | _, _, 0, h => h
  | [], _, n + 1, h => by rw [h]; rfl
  | _ :: _, _, n + 1, ⟨v, r, h1, h2, h3⟩ => by rw [h1]; exact RVs.drop n h3
theorem RVs.take {N ρ k H} : ∀ {ws : List W} {vs : List V} (n : Nat), RVs N ρ k H ws vs → RVs N ρ k H (ws.take n) (vs.take n)
  | _, _, 0, h => by simp [RVs]
  | [], _, n + 1, h => by rw [h]; rfl
  | _ :: _, _, n + 1, ⟨v, r, h1, h2, h3⟩ => by rw [h1]; exact ⟨v, r.take n, rfl, h2, RVs.take n h3⟩
theorem RVs.reverse {N ρ k H} : ∀ {ws : List W} {vs : List V}, RVs N ρ k H ws vs → RVs N ρ k H ws.reverse vs.reverse
  | [], _, h => by rw [h]; rfl
  | _ :: _, _, ⟨v, r, h1, h2, h3⟩ => by
    rw [h1, List.reverse_cons, List.reverse_cons]
    exact RVs.append (RVs.reverse h3) ⟨v, [], rfl, h2, rfl⟩
theorem RVs.set {N ρ k H w v} (q : RV N ρ k H w v) : ∀ {ws : List W} {vs : List V} (i : Nat), RVs N ρ k H ws vs → RVs N ρ k H (ws.set i w) (vs.set i v)
  | [], _, _, h => by rw [h]; rfl
  | _ :: _, _, 0, ⟨u, r, h1, h2, h3⟩ => by rw [h1]; exact ⟨v, r, rfl, q, h3⟩
  | _ :: _, _, i + 1, ⟨u, r, h1, h2, h3⟩ => by rw [h1]; exact ⟨u, r.set i v, rfl, h2, RVs.set q i h3⟩
theorem RVs.one {N ρ k H w} {vs : List V} (h : RVs N ρ k H [w] vs) : ∃ v, vs = [v] ∧ RV N ρ k H w v := by
  obtain ⟨v, r, h1, h2, h3⟩ := h
  exact ⟨v, by rw [h1, h3], h2⟩
theorem RVs.two {N ρ k H w w'} {vs : List V} (h : RVs N ρ k H [w, w'] vs) : ∃ v v', vs = [v, v'] ∧ RV N ρ k H w v ∧ RV N ρ k H w' v' := by
  obtain ⟨v, r, h1, h2, v', r', h4, h5, h6⟩ := h
  exact ⟨v, v', by rw [h1, h4, h6], h2, h5⟩

/-! ### heaps that grow, that change -/
theorem hget_lt : ∀ {m : Hm} {n : Nat} {o : HOb}, hget m n = some o → n < m.length
  | [], _, _, h => by simp [hget] at h
  | x :: t, n, o, h => by
    unfold hget at h
    split at h
    · rename_i e; rw [e, List.length_cons]; exact Nat.lt_succ_self _
    · exact Nat.lt_succ_of_lt (hget_lt h)
theorem hget_some : ∀ {m : Hm} {n : Nat}, n < m.length → ∃ o, hget m n = some o
  | [], _, h => by simp at h
  | x :: t, n, h => by
    unfold hget
    split
    · exact ⟨_, rfl⟩
    · rename_i e
      exact hget_some (by rw [List.length_cons] at h; omega)
theorem hset_length : ∀ (m : Hm) (n : Nat) (o : HOb), (hset m n o).length = m.length
  | [], _, _ => rfl
  | x :: t, n, o => by
    unfold hset
    split
    · rfl
    · rw [List.length_cons, List.length_cons, hset_length t n o]
theorem hget_hset : ∀ {m : Hm} {n j : Nat} {o : HOb}, n < m.length → hget (hset m n o) j = if j = n then some o else hget m j
  | [], _, _, _, h => by simp at h
  | x :: t, n, j, o, h => by
    unfold hset
    split
    · rename_i e
      subst e
      unfold hget
      split
      · rfl
      · rfl
    · rename_i e
      have hn : n < t.length := by rw [List.length_cons] at h; omega
      unfold hget
      rw [hset_length]
      split
      · rename_i e2
        rw [if_neg (by omega)]
      · rw [hget_hset hn]
theorem NL.ne {N ρ k a n} (h : NL N ρ k a) (hn : n < k) : a ≠ ρ n := fun e => h.1 n hn e.symm
/-- a new thing that is not living -/
theorem Ext.new {N ρ m H p o} (R : Rl N ρ m H) (hp : H p = none) : Ext N ρ m.length H ρ m.length (upd H p o) where
  le := Nat.le_refl _
  rho := fun _ _ => rfl
  keep := fun a u h _ => by rw [upd_ne (ne_of_none h hp)]; exact h
  keepF := fun a h => upd_ne fun e => R.fb a h (by rw [e]; exact hp)
  lv := fun n hn h => by
    by_cases e : ρ n = p
    · rw [e, upd_same]; simp
    · rw [upd_ne e]; exact h
  fresh := fun n h h' => absurd (Nat.lt_of_lt_of_le h' h) (Nat.lt_irrefl _)
theorem RO.mono {N ρ k H ρ' k' H'} (e : Ext N ρ k H ρ' k' H') {o : HOb} {a a' : Addr} (h : RO N ρ k H o a) (ha : H' a' = H a) : RO N ρ' k' H' o a' := by
  cases o with
  | lst ws => obtain ⟨vs, h1, h2, h3⟩ := h; exact ⟨vs, by rw [ha]; exact h1, h2, RVs.mono e _ _ h3⟩
  | dct _ _ => exact h
  | ins _ _ => exact h
theorem Rl.new {N ρ m H p o} (R : Rl N ρ m H) (hp : H p = none) : Rl N ρ m (upd H p o) := by
  have hne : ∀ i, i < m.length → ρ i ≠ p := fun i hi e => R.lv i hi (by rw [e]; exact hp)
  refine ⟨fun a h => by rw [upd_ne fun e => R.fb a h (by rw [e]; exact hp)]; exact R.fb a h, R.nf, R.inj, fun i hi => by rw [upd_ne (hne i hi)]; exact R.lv i hi, fun n u h => ?_⟩
  exact RO.mono (Ext.new R hp) (R.obj n u h) (upd_ne (hne n (hget_lt h)))
theorem Rl.nF {N ρ m H p} (R : Rl N ρ m H) (hp : H p = none) : ¬ N.F p := fun h => R.fb p h hp
theorem NL.new {N ρ m H p} (R : Rl N ρ m H) (hp : H p = none) : NL N ρ m.length p := ⟨fun n hn e => R.lv n hn (by rw [e]; exact hp), R.nF hp⟩
/-- a value laid as a new tuple, a new list -/
theorem RV.newT {N ρ m H p ws vs} (R : Rl N ρ m H) (hp : H p = none) (hz : vs.length ≤ sizeLine) (r : RVs N ρ m.length H ws vs) : RV N ρ m.length (upd H p (.tup vs)) (.tup ws) (.ref p) :=
  ⟨p, vs, rfl, ⟨hz, .inl ⟨.inl upd_same, NL.new R hp⟩⟩, RVs.mono (Ext.new R hp) _ _ r⟩
theorem RV.newL {N ρ m H p ws vs} (R : Rl N ρ m H) (hp : H p = none) (hz : vs.length ≤ sizeLine) (r : RVs N ρ m.length H ws vs) : RV N ρ m.length (upd H p (.lst vs)) (.lst ws) (.ref p) :=
  ⟨p, vs, rfl, ⟨hz, upd_same, NL.new R hp⟩, RVs.mono (Ext.new R hp) _ _ r⟩
/-- a new living object -/
def rAdd (ρ : Nat → Addr) (k : Nat) (p : Addr) : Nat → Addr := fun n => if n = k then p else ρ n
theorem rAdd_same {ρ k p} : rAdd ρ k p k = p := if_pos rfl
theorem rAdd_ne {ρ k p n} (h : n ≠ k) : rAdd ρ k p n = ρ n := if_neg h
theorem Ext.live {N ρ m H p o} {u : HOb} (R : Rl N ρ m H) (hp : H p = none) : Ext N ρ m.length H (rAdd ρ m.length p) (u :: m).length (upd H p o) where
  le := Nat.le_succ _
  rho := fun n hn => rAdd_ne (Nat.ne_of_lt hn)
  keep := fun a u h _ => by rw [upd_ne (ne_of_none h hp)]; exact h
  keepF := fun a h => upd_ne fun e => R.fb a h (by rw [e]; exact hp)
  lv := fun n hn h => by
    by_cases e : ρ n = p
    · rw [e, upd_same]; simp
    · rw [upd_ne e]; exact h
  fresh := fun n h h' => by
    have e : n = m.length := by rw [List.length_cons] at h'; omega
    rw [e, rAdd_same]; exact hp
theorem Rl.live {N ρ m H p o} {u : HOb} (R : Rl N ρ m H) (hp : H p = none) (h : RO N (rAdd ρ m.length p) (u :: m).length (upd H p o) u p) : Rl N (rAdd ρ m.length p) (u :: m) (upd H p o) := by
  have hne : ∀ i, i < m.length → ρ i ≠ p := fun i hi e => R.lv i hi (by rw [e]; exact hp)
  refine ⟨fun a h => by rw [upd_ne fun e => R.fb a h (by rw [e]; exact hp)]; exact R.fb a h, fun n hn h => ?_, fun i j hi hj e => ?_, fun i hi => ?_, fun n x hx => ?_⟩
  · rw [List.length_cons] at hn
    by_cases en : n = m.length
    · rw [en, rAdd_same] at h; exact R.nF hp h
    · rw [rAdd_ne en] at h; exact R.nf n (by omega) h
  · rw [List.length_cons] at hi hj
    by_cases ei : i = m.length <;> by_cases ej : j = m.length
    · omega
    · rw [ei, rAdd_same, rAdd_ne ej] at e; exact absurd e.symm (hne j (by omega))
    · rw [ej, rAdd_same, rAdd_ne ei] at e; exact absurd e (hne i (by omega))
    · rw [rAdd_ne ei, rAdd_ne ej] at e; exact R.inj i j (by omega) (by omega) e
  · rw [List.length_cons] at hi
    by_cases ei : i = m.length
    · rw [ei, rAdd_same, upd_same]; simp
    · rw [rAdd_ne ei, upd_ne (hne i (by omega))]; exact R.lv i (by omega)
  · unfold hget at hx
    split at hx
    · rename_i e
      cases hx
      rw [e, rAdd_same]; exact h
    · rename_i e
      have hn := hget_lt hx
      refine RO.mono (Ext.live (u := u) R hp) (R.obj n x hx) ?_
      rw [rAdd_ne e, upd_ne (hne n hn)]
/-- a living object changed -/
theorem Ext.write {N ρ m H n o} (R : Rl N ρ m H) (hn : n < m.length) : Ext N ρ m.length H ρ m.length (upd H (ρ n) o) where
  le := Nat.le_refl _
  rho := fun _ _ => rfl
  keep := fun a u h nl => by rw [upd_ne (NL.ne nl hn)]; exact h
  keepF := fun a h => upd_ne fun e => R.nf n hn (by rw [← e]; exact h)
  lv := fun j hj h => by
    by_cases e : ρ j = ρ n
    · rw [e, upd_same]; simp
    · rw [upd_ne e]; exact h
  fresh := fun n h h' => absurd (Nat.lt_of_lt_of_le h' h) (Nat.lt_irrefl _)
theorem Rl.write {N ρ m H n o u} (R : Rl N ρ m H) (hn : n < m.length) (h : RO N ρ m.length (upd H (ρ n) o) u (ρ n)) : Rl N ρ (hset m n u) (upd H (ρ n) o) := by
  refine ⟨fun a h => by rw [upd_ne fun e => R.nf n hn (by rw [← e]; exact h)]; exact R.fb a h, fun i hi => R.nf i (by rw [hset_length] at hi; exact hi), fun i j hi hj e => R.inj i j (by rw [hset_length] at hi; exact hi) (by rw [hset_length] at hj; exact hj) e, fun i hi => ?_, fun j x hx => ?_⟩
  · rw [hset_length] at hi
    by_cases e : ρ i = ρ n
    · rw [e, upd_same]; simp
    · rw [upd_ne e]; exact R.lv i hi
  · rw [hset_length]
    rw [hget_hset hn] at hx
    split at hx
    · rename_i e
      cases hx
      rw [e]; exact h
    · rename_i e
      refine RO.mono (Ext.write R hn) (R.obj j x hx) (upd_ne fun q => e (R.inj j n (hget_lt hx) hn q))

/-! ### slots -/
def RS (N : En) (ρ : Nat → Addr) (k : Nat) (H : Hp) (sg : Sg) (σ : L2.St) : Prop :=
  sg.length = σ.length ∧ ∀ (i : Nat) (w : W), sg[i]? = some (some w) → ∃ v, σ[i]? = some (some v) ∧ RV N ρ k H w v
theorem RS.mono {N ρ k H ρ' k' H' sg σ} (e : Ext N ρ k H ρ' k' H') (h : RS N ρ k H sg σ) : RS N ρ' k' H' sg σ :=
  ⟨h.1, fun i w q => let ⟨v, h1, h2⟩ := h.2 i w q; ⟨v, h1, RV.mono e w v h2⟩⟩
theorem RS.set {N ρ k H sg σ w v} (h : RS N ρ k H sg σ) (i : Nat) (q : RV N ρ k H w v) : RS N ρ k H (sg.set i (some w)) (σ.set i (some v)) := by
  refine ⟨by rw [List.length_set, List.length_set]; exact h.1, fun j x hx => ?_⟩
  by_cases e : i = j
  · subst e
    by_cases hl : i < sg.length
    · rw [List.getElem?_set_self hl] at hx
      cases hx
      exact ⟨v, List.getElem?_set_self (by rw [← h.1]; exact hl), q⟩
    · rw [List.getElem?_eq_none (by rw [List.length_set]; omega)] at hx; cases hx
  · rw [List.getElem?_set_ne e] at hx ⊢
    exact h.2 j x hx
theorem RS.setN {N ρ k H sg σ} (h : RS N ρ k H sg σ) (i : Nat) : RS N ρ k H (sg.set i none) (σ.set i none) := by
  refine ⟨by rw [List.length_set, List.length_set]; exact h.1, fun j x hx => ?_⟩
  by_cases e : i = j
  · subst e
    by_cases hl : i < sg.length
    · rw [List.getElem?_set_self hl] at hx; cases hx
    · rw [List.getElem?_eq_none (by rw [List.length_set]; omega)] at hx; cases hx
  · rw [List.getElem?_set_ne e] at hx ⊢
    exact h.2 j x hx
theorem RS.wipe {N ρ k H sg σ} (h : RS N ρ k H sg σ) : ∀ vs : List Nat, RS N ρ k H (wipeW sg vs) (L2.wipe σ vs)
  | [] => h
  | v :: vs => (RS.wipe h vs).setN v

/-! ### one address more that nobody may name -/
def En.wF (N : En) (F : Addr → Prop) : En := { N with F := F }
def En.plus (N : En) (D : Addr) : En := { N with F := fun a => N.F a ∨ a = D }
theorem NL.plus {N : En} {ρ k a D} (h : NL N ρ k a) (hd : a ≠ D) : NL (N.plus D) ρ k a := ⟨h.1, fun z => z.elim h.2 hd⟩
theorem NL.minus {N : En} {ρ k a D} (h : NL (N.plus D) ρ k a) : NL N ρ k a := ⟨h.1, fun z => h.2 (.inl z)⟩
theorem rd_ne {H : Hp} {a D : Addr} {u : HO} (h : Rd H a u) (hd : H D = none) : a ≠ D := by
  rcases h with h | ⟨o, h⟩ <;> exact ne_of_none h hd
mutual
/-- a new thing at D, that nobody names -/
theorem RV.plus {N : En} {ρ k H D o} (hd : H D = none) : ∀ (w : W) (v : V), RV N ρ k H w v → RV (N.plus D) ρ k (upd H D o) w v
  | .non, _, h => h
  | .bl _, _, h => h
  | .int _, _, h => h
  | .str _, _, h => h
  | .tup ws, _, ⟨a, vs, h1, h2, h3⟩ => ⟨a, vs, h1, ⟨h2.1, h2.2.imp (fun z => ⟨z.1.imp (fun q => by rw [upd_ne (ne_of_none q hd)]; exact q) (fun ⟨o, q⟩ => ⟨o, by rw [upd_ne (ne_of_none q hd)]; exact q⟩), z.2.plus (rd_ne z.1 hd)⟩) id⟩, RVs.plus hd ws vs h3⟩
  | .lst ws, _, ⟨a, vs, h1, h2, h3⟩ => ⟨a, vs, h1, ⟨h2.1, by rw [upd_ne (ne_of_none h2.2.1 hd)]; exact h2.2.1, h2.2.2.plus (ne_of_none h2.2.1 hd)⟩, RVs.plus hd ws vs h3⟩
  | .klst ws, _, ⟨a, vs, h1, h2, h3⟩ => ⟨a, vs, h1, ⟨h2.1, h2.2.imp (fun z => ⟨z.1.imp (fun q => by rw [upd_ne (ne_of_none q hd)]; exact q) (fun ⟨o, q⟩ => ⟨o, by rw [upd_ne (ne_of_none q hd)]; exact q⟩), z.2.plus (rd_ne z.1 hd)⟩) id⟩, RVs.plus hd ws vs h3⟩
  | .ref n, _, h => h
  | .dct _ _, _, h => h
  | .ins _ _, _, h => h
theorem RVs.plus {N : En} {ρ k H D o} (hd : H D = none) : ∀ (w : List W) (v : List V), RVs N ρ k H w v → RVs (N.plus D) ρ k (upd H D o) w v
  | [], _, h => h
  | w :: ws, _, ⟨v, r, h1, h2, h3⟩ => ⟨v, r, h1, RV.plus hd w v h2, RVs.plus hd ws r h3⟩
end
mutual
/-- what stands at D changes, nobody names it -/
theorem RV.turn {N : En} {ρ k H D o} : ∀ (w : W) (v : V), RV (N.plus D) ρ k H w v → RV (N.plus D) ρ k (upd H D o) w v
  | .non, _, h => h
  | .bl _, _, h => h
  | .int _, _, h => h
  | .str _, _, h => h
  | .tup ws, _, ⟨a, vs, h1, h2, h3⟩ => ⟨a, vs, h1, ⟨h2.1, h2.2.imp (fun z => ⟨z.1.imp (fun q => by rw [upd_ne fun e => z.2.2 (.inr e)]; exact q) (fun ⟨o, q⟩ => ⟨o, by rw [upd_ne fun e => z.2.2 (.inr e)]; exact q⟩), z.2⟩) id⟩, RVs.turn ws vs h3⟩
  | .lst ws, _, ⟨a, vs, h1, h2, h3⟩ => ⟨a, vs, h1, ⟨h2.1, by rw [upd_ne fun e => h2.2.2.2 (.inr e)]; exact h2.2.1, h2.2.2⟩, RVs.turn ws vs h3⟩
  | .klst ws, _, ⟨a, vs, h1, h2, h3⟩ => ⟨a, vs, h1, ⟨h2.1, h2.2.imp (fun z => ⟨z.1.imp (fun q => by rw [upd_ne fun e => z.2.2 (.inr e)]; exact q) (fun ⟨o, q⟩ => ⟨o, by rw [upd_ne fun e => z.2.2 (.inr e)]; exact q⟩), z.2⟩) id⟩, RVs.turn ws vs h3⟩
  | .ref n, _, h => h
  | .dct _ _, _, h => h
  | .ins _ _, _, h => h
theorem RVs.turn {N : En} {ρ k H D o} : ∀ (w : List W) (v : List V), RVs (N.plus D) ρ k H w v → RVs (N.plus D) ρ k (upd H D o) w v
  | [], _, h => h
  | w :: ws, _, ⟨v, r, h1, h2, h3⟩ => ⟨v, r, h1, RV.turn w v h2, RVs.turn ws r h3⟩
end
mutual
theorem RV.minus {N : En} {ρ k H D} : ∀ (w : W) (v : V), RV (N.plus D) ρ k H w v → RV N ρ k H w v
  | .non, _, h => h
  | .bl _, _, h => h
  | .int _, _, h => h
  | .str _, _, h => h
  | .tup ws, _, ⟨a, vs, h1, h2, h3⟩ => ⟨a, vs, h1, ⟨h2.1, h2.2.imp (fun z => ⟨z.1, z.2.minus⟩) id⟩, RVs.minus ws vs h3⟩
  | .lst ws, _, ⟨a, vs, h1, h2, h3⟩ => ⟨a, vs, h1, ⟨h2.1, h2.2.1, h2.2.2.minus⟩, RVs.minus ws vs h3⟩
  | .klst ws, _, ⟨a, vs, h1, h2, h3⟩ => ⟨a, vs, h1, ⟨h2.1, h2.2.imp (fun z => ⟨z.1, z.2.minus⟩) id⟩, RVs.minus ws vs h3⟩
  | .ref n, _, h => h
  | .dct _ _, _, h => h
  | .ins _ _, _, h => h
theorem RVs.minus {N : En} {ρ k H D} : ∀ (w : List W) (v : List V), RVs (N.plus D) ρ k H w v → RVs N ρ k H w v
  | [], _, h => h
  | w :: ws, _, ⟨v, r, h1, h2, h3⟩ => ⟨v, r, h1, RV.minus w v h2, RVs.minus ws r h3⟩
end
theorem RO.minus {N : En} {ρ k H D} {o : HOb} {a : Addr} (h : RO (N.plus D) ρ k H o a) : RO N ρ k H o a := by
  cases o with
  | lst ws => obtain ⟨vs, h1, h2, h3⟩ := h; exact ⟨vs, h1, h2, RVs.minus _ _ h3⟩
  | dct _ _ => exact h
  | ins _ _ => exact h
theorem Rl.plus {N : En} {ρ m H D o} (R : Rl N ρ m H) (hd : H D = none) : Rl (N.plus D) ρ m (upd H D o) := by
  have hne : ∀ i, i < m.length → ρ i ≠ D := fun i hi e => R.lv i hi (by rw [e]; exact hd)
  refine ⟨fun a h => ?_, fun n hn h => h.elim (R.nf n hn) (hne n hn), R.inj, fun i hi => by rw [upd_ne (hne i hi)]; exact R.lv i hi, fun n u h => ?_⟩
  · by_cases e : a = D
    · rw [e, upd_same]; simp
    · rw [upd_ne e]; exact R.fb a (h.elim id fun z => absurd z e)
  · have q := R.obj n u h
    have hn := hne n (hget_lt h)
    cases u with
    | lst ws => obtain ⟨vs, h1, h2, h3⟩ := q; exact ⟨vs, by rw [upd_ne hn]; exact h1, h2, RVs.plus hd _ _ h3⟩
    | dct _ _ => exact q
    | ins _ _ => exact q
theorem Rl.turn {N : En} {ρ m H D o} (R : Rl (N.plus D) ρ m H) : Rl (N.plus D) ρ m (upd H D o) := by
  have hne : ∀ i, i < m.length → ρ i ≠ D := fun i hi e => R.nf i hi (.inr e)
  refine ⟨fun a h => ?_, R.nf, R.inj, fun i hi => by rw [upd_ne (hne i hi)]; exact R.lv i hi, fun n u h => ?_⟩
  · by_cases e : a = D
    · rw [e, upd_same]; simp
    · rw [upd_ne e]; exact R.fb a h
  · have q := R.obj n u h
    have hn := hne n (hget_lt h)
    cases u with
    | lst ws => obtain ⟨vs, h1, h2, h3⟩ := q; exact ⟨vs, by rw [upd_ne hn]; exact h1, h2, RVs.turn _ _ h3⟩
    | dct _ _ => exact q
    | ins _ _ => exact q
theorem Rl.minus {N : En} {ρ m H D} (R : Rl (N.plus D) ρ m H) : Rl N ρ m H :=
  ⟨fun a h => R.fb a (.inl h), fun n hn h => R.nf n hn (.inl h), R.inj, R.lv, fun n u h => (R.obj n u h).minus⟩
theorem RS.plus {N : En} {ρ k H D o sg σ} (h : RS N ρ k H sg σ) (hd : H D = none) : RS (N.plus D) ρ k (upd H D o) sg σ :=
  ⟨h.1, fun i w q => let ⟨v, h1, h2⟩ := h.2 i w q; ⟨v, h1, RV.plus hd w v h2⟩⟩
theorem RS.turn {N : En} {ρ k H D o sg σ} (h : RS (N.plus D) ρ k H sg σ) : RS (N.plus D) ρ k (upd H D o) sg σ :=
  ⟨h.1, fun i w q => let ⟨v, h1, h2⟩ := h.2 i w q; ⟨v, h1, RV.turn w v h2⟩⟩
/-- behind D's first making: from a heap without D -/
theorem Ext.first {N : En} {ρ m H D o ρ' k' H'} (R : Rl N ρ m H) (hd : H D = none) (e : Ext (N.plus D) ρ m.length (upd H D o) ρ' k' H') : Ext N ρ m.length H ρ' k' H' where
  le := e.le
  rho := e.rho
  keep := fun a u h n => e.keep a u (by rw [upd_ne (ne_of_none h hd)]; exact h) (n.plus (ne_of_none h hd))
  keepF := fun a h => by
    have hne : a ≠ D := fun z => R.fb a h (by rw [z]; exact hd)
    rw [e.keepF a (.inl h), upd_ne hne]
  lv := fun n hn h => e.lv n hn (by rw [upd_ne fun z => h (by rw [z]; exact hd)]; exact h)
  fresh := fun n h1 h2 => by
    have q := e.fresh n h1 h2
    by_cases z : ρ' n = D
    · rw [z, upd_same] at q; cases q
    · rw [upd_ne z] at q; exact q
/-- D turns at the end -/
theorem Ext.last {N ρ k H ρ' k' H' D o} (e : Ext N ρ k H ρ' k' H') (hd : H D = none) (hf : ¬ N.F D) : Ext N ρ k H ρ' k' (upd H' D o) where
  le := e.le
  rho := e.rho
  keep := fun a u h n => by rw [upd_ne (ne_of_none h hd)]; exact e.keep a u h n
  keepF := fun a h => by rw [upd_ne fun z => hf (by rw [← z]; exact h)]; exact e.keepF a h
  lv := fun n hn h => by rw [upd_ne fun z => h (by rw [z]; exact hd)]; exact e.lv n hn h
  fresh := e.fresh

/-! ### what a computation gives -/
def Den {α : Type} (N : En) (ρ : Nat → Addr) (m : Hm) (H : Hp) (WW : Xc → (Nat → Addr) → Hm → Hp → Prop) (r : Option (Res α × Hm)) (P : α → (Nat → Addr) → Hm → Hp → Prop) : Prop :=
  match r with
  | none => False
  | some (.ok a, m') => ∀ ρ' H', Ext N ρ m.length H ρ' m'.length H' → Rl N ρ' m' H' → P a ρ' m' H'
  | some (.exc x, m') => ∀ ρ' H', Ext N ρ m.length H ρ' m'.length H' → Rl N ρ' m' H' → WW x ρ' m' H'
theorem Den.bind {α β : Type} {N ρ m H WW} {x : M α} {f : α → M β} {P : β → (Nat → Addr) → Hm → Hp → Prop} (h : Den N ρ m H WW (bnd x f m) P) :
    Den N ρ m H WW (x m) (fun a ρ' m' H' => Den N ρ' m' H' WW (f a m') P) := by
  unfold bnd at h
  cases e : x m with
  | none => rw [e] at h; exact h
  | some p =>
    obtain ⟨r, m'⟩ := p
    rw [e] at h
    cases r with
    | exc y => exact h
    | ok a =>
      intro ρ' H' ext rl
      have h' : Den N ρ m H WW (f a m') P := h
      unfold Den at h' ⊢
      cases e2 : f a m' with
      | none => rw [e2] at h'; exact h'
      | some q =>
        obtain ⟨r2, m2⟩ := q
        rw [e2] at h'
        cases r2 with
        | ok b => exact fun ρ2 H2 ext2 rl2 => h' ρ2 H2 (ext.trans ext2) rl2
        | exc y => exact fun ρ2 H2 ext2 rl2 => h' ρ2 H2 (ext.trans ext2) rl2
theorem Den.imp {α : Type} {N ρ m H WW} {r : Option (Res α × Hm)} {P P' : α → (Nat → Addr) → Hm → Hp → Prop} (h : Den N ρ m H WW r P)
    (i : ∀ a ρ' m' H', Ext N ρ m.length H ρ' m'.length H' → Rl N ρ' m' H' → P a ρ' m' H' → P' a ρ' m' H') : Den N ρ m H WW r P' := by
  unfold Den at h ⊢
  cases r with
  | none => exact h
  | some p =>
    obtain ⟨r, m'⟩ := p
    cases r with
    | ok a => exact fun ρ' H' e rl => i a ρ' m' H' e rl (h ρ' H' e rl)
    | exc x => exact h
theorem Den.ret {α : Type} {N ρ m H WW} {a : α} {P : α → (Nat → Addr) → Hm → Hp → Prop} (R : Rl N ρ m H) (h : Den N ρ m H WW (ret a m) P) : P a ρ m H := h ρ H Ext.refl R
end WM
namespace WM
open PySem PySem.Spec PyProof.Rows L2

def RX (N : En) (ρ : Nat → Addr) (k : Nat) (H : Hp) (x : Xc) (d : Option Addr) : Prop :=
  (x.fs = [] ∧ d = none) ∨ ∃ p vs, d = some p ∧ H p = some (.xd ((N.cf x.c).zip vs)) ∧ (N.cf x.c).length = vs.length ∧ RVs N ρ k H x.fs vs
def WS (N : En) (Wx : WX) (σ : L2.St) : Xc → (Nat → Addr) → Hm → Hp → Prop := fun x ρ m H => ∀ d, RX N ρ m.length H x d → Wx (.ref (N.ca x.c)) d σ H

section
variable (T : Tab) (N : En) (C : Calls)
def tE (e : E) (Wx : WX) : TE := fun σ H Q => ∃ F ρ m sg, Rl (N.wF F) ρ m H ∧ RS (N.wF F) ρ m.length H sg σ ∧ Den (N.wF F) ρ m H (WS (N.wF F) Wx σ) (evE T C e sg m) (fun w ρ' m' H' => ∀ v, RV (N.wF F) ρ' m'.length H' w v → Q v H')
def tT (e : E) (Wx : WX) : TT := fun σ H Q => ∃ F ρ m sg, Rl (N.wF F) ρ m H ∧ RS (N.wF F) ρ m.length H sg σ ∧ Den (N.wF F) ρ m H (WS (N.wF F) Wx σ) (evE T C e sg m) (fun w ρ' m' H' => ∃ b, w = .bl b ∧ Q b H')
def tEs (es : List E) (Wx : WX) : TA := fun σ H Q => ∃ F ρ m sg, Rl (N.wF F) ρ m H ∧ RS (N.wF F) ρ m.length H sg σ ∧ Den (N.wF F) ρ m H (WS (N.wF F) Wx σ) (evEs T C es sg m) (fun ws ρ' m' H' => ∀ vs, RVs (N.wF F) ρ' m'.length H' ws vs → Q vs H')
end
section
variable {T : Tab} {N : En} {C : Calls} {X : Cx} {Wx : WX}
theorem tE.mk {e : E} {σ H Q F ρ m sg P} (R : Rl (N.wF F) ρ m H) (S : RS (N.wF F) ρ m.length H sg σ) (D : Den (N.wF F) ρ m H (WS (N.wF F) Wx σ) (evE T C e sg m) P)
    (i : ∀ w ρ' m' H' v, Ext (N.wF F) ρ m.length H ρ' m'.length H' → Rl (N.wF F) ρ' m' H' → P w ρ' m' H' → RV (N.wF F) ρ' m'.length H' w v → Q v H') : tE T N C e Wx σ H Q :=
  ⟨F, ρ, m, sg, R, S, D.imp fun w ρ' m' H' e r p v rv => i w ρ' m' H' v e r p rv⟩
theorem tEs.mk {es : List E} {σ H Q F ρ m sg P} (R : Rl (N.wF F) ρ m H) (S : RS (N.wF F) ρ m.length H sg σ) (D : Den (N.wF F) ρ m H (WS (N.wF F) Wx σ) (evEs T C es sg m) P)
    (i : ∀ ws ρ' m' H' vs, Ext (N.wF F) ρ m.length H ρ' m'.length H' → Rl (N.wF F) ρ' m' H' → P ws ρ' m' H' → RVs (N.wF F) ρ' m'.length H' ws vs → Q vs H') : tEs T N C es Wx σ H Q :=
  ⟨F, ρ, m, sg, R, S, D.imp fun w ρ' m' H' e r p v rv => i w ρ' m' H' v e r p rv⟩
theorem tT.mk {e : E} {σ H Q F ρ m sg P} (R : Rl (N.wF F) ρ m H) (S : RS (N.wF F) ρ m.length H sg σ) (D : Den (N.wF F) ρ m H (WS (N.wF F) Wx σ) (evE T C e sg m) P)
    (i : ∀ w ρ' m' H', Ext (N.wF F) ρ m.length H ρ' m'.length H' → Rl (N.wF F) ρ' m' H' → P w ρ' m' H' → ∃ b, w = .bl b ∧ Q b H') : tT T N C e Wx σ H Q :=
  ⟨F, ρ, m, sg, R, S, D.imp fun w ρ' m' H' e r p => i w ρ' m' H' e r p⟩
theorem _root_.L2.PE.imp {e : Expr} {t t' : TE} (h : PE X e t) (i : ∀ σ H Q, t' σ H Q → t σ H Q) : PE X e t' := ⟨fun pins s σ H Q I q => h.run pins s σ H Q I (i σ H Q q)⟩
theorem _root_.L2.PT.imp {e : Expr} {t t' : TT} (h : PT X e t) (i : ∀ σ H Q, t' σ H Q → t σ H Q) : PT X e t' := ⟨fun pins s σ H Q I q => h.run pins s σ H Q I (i σ H Q q)⟩
theorem _root_.L2.PW.imp {e : Expr} {t t' : TT} (h : PW X e t) (i : ∀ σ H Q, t' σ H Q → t σ H Q) : PW X e t' := ⟨fun wh pins s σ H Q I q => h.run wh pins s σ H Q I (i σ H Q q)⟩
theorem _root_.L2.PA.imp {e : List Expr} {t t' : TA} (h : PA X e t) (i : ∀ σ H Q, t' σ H Q → t σ H Q) : PA X e t' := ⟨fun pos pins s σ H Q I q => h.run pos pins s σ H Q I (i σ H Q q)⟩
theorem _root_.L2.PS.imp {e : Stmt} {t t' : TS} (h : PS X e t) (i : ∀ D σ H, t' D σ H → t D σ H) : PS X e t' := ⟨fun pins s σ H D I q => h.run pins s σ H D I (i D σ H q)⟩
theorem _root_.L2.PSs.imp {e : List Stmt} {t t' : TS} (h : PSs X e t) (i : ∀ D σ H, t' D σ H → t D σ H) : PSs X e t' := ⟨fun pins s σ H D I q => h.run pins s σ H D I (i D σ H q)⟩

/-! ### names, constants -/
theorem sim_var {i : Nat} {x : Str} {pos : Pos} (hN : X.N[i]? = some x) (hv : Vis X.env.scope x) (hd : (x == ("__debug__" : Str)) = false) (hcd : (x == ("__classdict__" : Str)) = false) : PE X (.Name x pos) (tE T N C (.var i) Wx) := by
  refine (pe_var hN hv hd hcd).imp fun σ H Q ⟨F, ρ, m, sg, R, S, D⟩ => ?_
  rw [evE] at D
  cases e : sg[i]? with
  | none => rw [e] at D; exact False.elim D
  | some o =>
    rw [e] at D
    cases o with
    | none => exact False.elim D
    | some w =>
      obtain ⟨v, h1, h2⟩ := S.2 i w e
      exact ⟨v, h1, Den.ret R D v h2⟩
theorem sim_lit {w : W} {c : Const} {j pos} (h : match c, w with
    | .none, .non => True
    | .bool b, .bl b' => b = b'
    | .int i, .int i' => i = i'
    | .str x, .str x' => x = x'
    | _, _ => False) : PE X (.Constant c j pos) (tE T N C (.lit w) Wx) := by
  have go : ∀ (v : V), PE X (.Constant c j pos) (tC v) → (∀ F ρ k H, RV (N.wF F) ρ k H w v) → PE X (.Constant c j pos) (tE T N C (.lit w) Wx) := fun v p r =>
    p.imp fun σ H Q ⟨F, ρ, m, sg, R, S, D⟩ => by
      rw [evE] at D
      exact Den.ret R D v (r F ρ _ H)
  split at h
  · exact go _ pe_non fun _ _ _ _ => rfl
  · subst h; exact go _ pe_bl fun _ _ _ _ => rfl
  · subst h; exact go _ pe_int fun _ _ _ _ => rfl
  · subst h; exact go _ pe_str fun _ _ _ _ => rfl
  · exact h.elim
theorem sim_glob {g : Nat} {x : Str} {pos : Pos} (hg : Gl X x) (hm : ∀ w, T.glob g = some w → ∃ v u, X.mg x = some u ∧ RelV v u ∧ ∀ F ρ k H, RV (N.wF F) ρ k H w v) (hd : (x == ("__debug__" : Str)) = false) : PE X (.Name x pos) (tE T N C (.glob g) Wx) := by
  cases e : T.glob g with
  | none =>
    refine ⟨fun pins s σ H Q I ⟨F, ρ, m, sg, R, S, D⟩ => ?_⟩
    rw [evE, e] at D
    exact D.elim
  | some w =>
    obtain ⟨v, u, h1, h2, h3⟩ := hm w e
    refine (pe_glob hg h1 h2 hd).imp fun σ H Q ⟨F, ρ, m, sg, R, S, D⟩ => ?_
    rw [evE, e] at D
    exact Den.ret R D v (h3 F ρ _ H)

/-! ### rows of expressions -/
theorem sim_nil : PA X [] (tEs T N C [] Wx) := by
  refine pa_nil.imp fun σ H Q ⟨F, ρ, m, sg, R, S, D⟩ => ?_
  rw [evEs] at D
  exact Den.ret R D [] rfl
def notStar : Expr → Bool
  | .Starred _ _ => false
  | _ => true
theorem star_cons {e : Expr} {es : List Expr} {env : Env} (h : notStar e = true) : starEach (e :: es) env = (false, eval e env) :: starEach es env := by
  cases e <;> first | rfl | cases h
theorem sim_cons {e' : E} {es' : List E} {e : Expr} {es : List Expr} (h : PE X e (tE T N C e' Wx)) (hs : PA X es (tEs T N C es' Wx)) (ns : notStar e = true) : PA X (e :: es) (tEs T N C (e' :: es') Wx) := by
  refine (pa_cons h hs (star_cons ns)).imp fun σ H Q ⟨F, ρ, m, sg, R, S, D⟩ => ?_
  rw [evEs] at D
  refine tE.mk R S (Den.bind D) fun w ρ1 m1 H1 v e1 R1 D1 rv => ?_
  refine tEs.mk R1 (S.mono e1) (Den.bind D1) fun ws ρ2 m2 H2 vs e2 R2 D2 rvs => ?_
  exact Den.ret R2 D2 _ ⟨v, vs, rfl, RV.mono e2 _ _ rv, rvs⟩
theorem small_sz {n : Nat} (h : n ≤ 1000) : n ≤ sizeLine := Nat.le_trans h (by rw [sizeLine_eq]; decide)
theorem Den.at' {α : Type} {N ρ m H WW} {a : α} {P : α → (Nat → Addr) → Hm → Hp → Prop} {ρ' H'} (h : Den N ρ m H WW (WM.ret a m) P) (e : Ext N ρ m.length H ρ' m.length H') (R : Rl N ρ' m H') : P a ρ' m H' := h ρ' H' e R
theorem evEs_len : ∀ {es : List E} {sg : Sg} {m : Hm} {ws : List W} {m' : Hm}, evEs T C es sg m = some (.ok ws, m') → ws.length = es.length
  | [], sg, m, ws, m', h => by
    rw [evEs] at h
    cases h; rfl
  | e :: es, sg, m, ws, m', h => by
    rw [evEs] at h
    unfold bnd at h
    split at h
    · rename_i a m1 _
      dsimp only at h
      split at h
      · rename_i b m2 h2
        have ih := evEs_len h2
        cases h
        rw [List.length_cons, List.length_cons, ih]
      · cases h
      · cases h
    · cases h
    · cases h
theorem Den.len {es : List E} {sg ρ m H WW P} (D : Den N ρ m H WW (evEs T C es sg m) P) : Den N ρ m H WW (evEs T C es sg m) fun ws ρ' m' H' => ws.length = es.length ∧ P ws ρ' m' H' := by
  unfold Den at D ⊢
  split at D
  · exact D
  · rename_i ws m' h
    intro ρ' H' e R
    exact ⟨evEs_len h, D ρ' H' e R⟩
  · exact D
theorem sim_tup {es' : List E} {es : List Expr} {k pos} (h : PA X es (tEs T N C es' Wx)) (hz : es'.length ≤ 1000) : PE X (.Tuple es k pos) (tE T N C (.tup es') Wx) := by
  refine (pe_tup h).imp fun σ H Q ⟨F, ρ, m, sg, R, S, D⟩ => ?_
  rw [evE] at D
  refine tEs.mk R S (Den.len (Den.bind D)) fun ws ρ1 m1 H1 vs e1 R1 D1 rvs => ?_
  have hl : vs.length ≤ sizeLine := small_sz (by rw [← rvs.len, D1.1]; exact hz)
  exact ⟨hl, fun p hp => Den.at' D1.2 (Ext.new R1 hp) (R1.new hp) _ (RV.newT R1 hp hl rvs)⟩
theorem sim_lst {es' : List E} {es : List Expr} {pos} (h : PA X es (tEs T N C es' Wx)) (hz : es'.length ≤ 1000) : PE X (.List es pos) (tE T N C (.lst es') Wx) := by
  refine (pe_lst h).imp fun σ H Q ⟨F, ρ, m, sg, R, S, D⟩ => ?_
  rw [evE] at D
  refine tEs.mk R S (Den.len (Den.bind D)) fun ws ρ1 m1 H1 vs e1 R1 D1 rvs => ?_
  have hl : vs.length ≤ sizeLine := small_sz (by rw [← rvs.len, D1.1]; exact hz)
  exact ⟨hl, fun p hp => Den.at' D1.2 (Ext.new R1 hp) (R1.new hp) _ (RV.newL R1 hp hl rvs)⟩
theorem Den.alloc {ρ m H WW P p vs ws} (D : Den N ρ m H WW (WM.alloc (.lst ws) m) P) (R : Rl N ρ m H) (hp : H p = none) (hz : vs.length ≤ sizeLine) (r : RVs N ρ m.length H ws vs) :
    P (.ref m.length) (rAdd ρ m.length p) (.lst ws :: m) (upd H p (.lst vs)) ∧ RV N (rAdd ρ m.length p) (HOb.lst ws :: m).length (upd H p (.lst vs)) (.ref m.length) (.ref p) := by
  have e := Ext.live (o := .lst vs) (u := .lst ws) R hp
  refine ⟨D _ _ e (R.live hp ⟨vs, upd_same, hz, RVs.mono e _ _ r⟩), ?_, ?_⟩
  · rw [List.length_cons]; exact Nat.lt_succ_self _
  · rw [rAdd_same]
theorem sim_newl {es' : List E} {es : List Expr} {pos} (h : PA X es (tEs T N C es' Wx)) (hz : es'.length ≤ 1000) : PE X (.List es pos) (tE T N C (.newl es') Wx) := by
  refine (pe_lst h).imp fun σ H Q ⟨F, ρ, m, sg, R, S, D⟩ => ?_
  rw [evE] at D
  refine tEs.mk R S (Den.len (Den.bind D)) fun ws ρ1 m1 H1 vs e1 R1 D1 rvs => ?_
  have hl : vs.length ≤ sizeLine := small_sz (by rw [← rvs.len, D1.1]; exact hz)
  exact ⟨hl, fun p hp => let ⟨a, b⟩ := Den.alloc D1.2 R1 hp hl rvs; a _ b⟩

/-! ### operators -/
theorem sz_ok {n : Nat} (h : szOk n = true) : n ≤ sizeLine := by
  unfold szOk at h
  rw [sizeLine_eq]; exact of_decide_eq_true h
theorem Den.opt {α : Type} {ρ m H WW} {o : Option α} {P : α → (Nat → Addr) → Hm → Hp → Prop} (D : Den N ρ m H WW (WM.opt o m) P) : ∃ a, o = some a ∧ Den N ρ m H WW (WM.ret a m) P := by
  cases o with
  | none => exact D.elim
  | some a => exact ⟨a, rfl, D⟩
/-- an operator over values -/
def OpOk (X : Cx) (N : En) (f : Value → Value → Sem Value) (g : W → W → Option W) : Prop :=
  ∃ r, OpR X f r ∧ ∀ (F : Addr → Prop) (x y w : W) (v1 v2 : V) (ρ : Nat → Addr) (m : Hm) (H : Hp) (WW : Xc → (Nat → Addr) → Hm → Hp → Prop) (Q : VK), g x y = some w → Rl (N.wF F) ρ m H → RV (N.wF F) ρ m.length H x v1 → RV (N.wF F) ρ m.length H y v2 →
    Den (N.wF F) ρ m H WW (ret w m) (fun w ρ' m' H' => ∀ v, RV (N.wF F) ρ' m'.length H' w v → Q v H') → r v1 v2 H Q
theorem sim_bin {o : Bop} {p : Operator} {a b : Expr} {a' b' : E} {pos} (hop : OpOk X N (binaryOp p) (binW o)) (ha : PE X a (tE T N C a' Wx)) (hb : PE X b (tE T N C b' Wx)) : PE X (.BinOp a p b pos) (tE T N C (.bin o a' b') Wx) := by
  obtain ⟨r, h1, h2⟩ := hop
  refine (pe_op h1 ha hb).imp fun σ H Q ⟨F, ρ, m, sg, R, S, D⟩ => ?_
  rw [evE] at D
  refine tE.mk R S (Den.bind D) fun x ρ1 m1 H1 v1 e1 R1 D1 rv1 => ?_
  refine tE.mk R1 (S.mono e1) (Den.bind D1) fun y ρ2 m2 H2 v2 e2 R2 D2 rv2 => ?_
  obtain ⟨w, hw, D3⟩ := D2.opt
  exact h2 F x y w v1 v2 ρ2 m2 H2 _ Q hw R2 (RV.mono e2 _ _ rv1) rv2 D3
theorem sim_cmp {o : Cop} {p : CmpOp} {a b : Expr} {a' b' : E} {pos} (hop : OpOk X N (compareOp p) (cmpW o)) (hm : behindInMarks p b = false) (ha : PE X a (tE T N C a' Wx)) (hb : PE X b (tE T N C b' Wx)) :
    PE X (.Compare a [p] [b] pos) (tE T N C (.cmp o a' b') Wx) := by
  obtain ⟨r, h1, h2⟩ := hop
  refine (pe_cmpR h1 ha hb hm).imp fun σ H Q ⟨F, ρ, m, sg, R, S, D⟩ => ?_
  rw [evE] at D
  refine tE.mk R S (Den.bind D) fun x ρ1 m1 H1 v1 e1 R1 D1 rv1 => ?_
  refine tE.mk R1 (S.mono e1) (Den.bind D1) fun y ρ2 m2 H2 v2 e2 R2 D2 rv2 => ?_
  obtain ⟨w, hw, D3⟩ := D2.opt
  exact h2 F x y w v1 v2 ρ2 m2 H2 _ Q hw R2 (RV.mono e2 _ _ rv1) rv2 D3
theorem RV.bl_of {ρ k H b v} (h : RV N ρ k H (.bl b) v) : v = .bl b := h
theorem sim_cmpT {o : Cop} {p : CmpOp} {a b : Expr} {a' b' : E} {pos} (hop : OpOk X N (compareOp p) (cmpW o)) (hb2 : ∀ x y w, cmpW o x y = some w → ∃ k, w = .bl k) (hm : behindInMarks p b = false) (ha : PE X a (tE T N C a' Wx)) (hb : PE X b (tE T N C b' Wx)) :
    PT X (.Compare a [p] [b] pos) (tT T N C (.cmp o a' b') Wx) := by
  obtain ⟨r, h1, h2⟩ := hop
  refine (pt_cmpR h1 ha hb hm).imp fun σ H Q ⟨F, ρ, m, sg, R, S, D⟩ => ?_
  rw [evE] at D
  refine tE.mk R S (Den.bind D) fun x ρ1 m1 H1 v1 e1 R1 D1 rv1 => ?_
  refine tE.mk R1 (S.mono e1) (Den.bind D1) fun y ρ2 m2 H2 v2 e2 R2 D2 rv2 => ?_
  obtain ⟨w, hw, D3⟩ := D2.opt
  refine h2 F x y w v1 v2 ρ2 m2 H2 (WS (N.wF F) Wx σ) _ hw R2 (RV.mono e2 _ _ rv1) rv2 (D3.imp fun w ρ' m' H' _ _ ⟨k, e, q⟩ v rv => ?_)
  subst e
  exact ⟨k, rv, q⟩
end
end WM
namespace WM
open PySem PySem.Spec PyProof.Rows L2

section
variable {T : Tab} {N : En} {C : Calls} {X : Cx} {Wx : WX}
theorem RV.inv_int {ρ k H w i} (h : RV N ρ k H w (.int i)) : w = .int i := by
  cases w <;> first | (cases h; rfl) | (obtain ⟨_, _, e, _⟩ := h; cases e; done) | (cases h; done) | exact False.elim h | (obtain ⟨_, e⟩ := h; cases e)

/-! ### operators by values -/
theorem fin_val {w : W} {v : V} {ρ : Nat → Addr} {m : Hm} {H : Hp} {WW : Xc → (Nat → Addr) → Hm → Hp → Prop} {Q : VK} (R : Rl N ρ m H)
    (D : Den N ρ m H WW (ret w m) (fun w ρ' m' H' => ∀ v, RV N ρ' m'.length H' w v → Q v H')) (r : RV N ρ m.length H w v) : Q v H := Den.ret R D v r
theorem opok_of {f : Value → Value → Sem Value} {r : R2} {g : W → W → Option W} (h : OpR X f r)
    (h2 : ∀ (F : Addr → Prop) (x y w : W) (v1 v2 : V) (ρ : Nat → Addr) (m : Hm) (H : Hp) (Q : VK), g x y = some w → Rl (N.wF F) ρ m H → RV (N.wF F) ρ m.length H x v1 → RV (N.wF F) ρ m.length H y v2 →
      (∀ v, RV (N.wF F) ρ m.length H w v → Q v H) → (∀ p vs, H p = none → vs.length ≤ sizeLine → (∃ ws, w = .tup ws ∧ RVs (N.wF F) ρ m.length H ws vs) → Q (.ref p) (upd H p (.tup vs))) →
      (∀ p vs, H p = none → vs.length ≤ sizeLine → (∃ ws, w = .lst ws ∧ RVs (N.wF F) ρ m.length H ws vs) → Q (.ref p) (upd H p (.lst vs))) → r v1 v2 H Q) : OpOk X N f g := by
  refine ⟨r, h, fun F x y w v1 v2 ρ m H WW Q e R r1 r2 D => h2 F x y w v1 v2 ρ m H Q e R r1 r2 (fun v rv => Den.ret R D v rv) (fun p vs hp hz ⟨ws, ew, rv⟩ => ?_) (fun p vs hp hz ⟨ws, ew, rv⟩ => ?_)⟩
  · subst ew; exact Den.at' D (Ext.new R hp) (R.new hp) _ (RV.newT R hp hz rv)
  · subst ew; exact Den.at' D (Ext.new R hp) (R.new hp) _ (RV.newL R hp hz rv)

theorem ok_add (hK : X.K = N.K) : OpOk X N (binaryOp .Add) (binW .add) := by
  have hc := op_catA (X := X)
  rw [hK] at hc
  refine opok_of (op_add.or (hc.or (op_cat.or op_add_str))) fun F x y w v1 v2 ρ m H Q e R r1 r2 q qt ql => ?_
  cases x <;> cases y <;> first | (simp [binW] at e; done) | skip
  · -- int int
    rename_i i j
    cases r1; cases r2
    simp only [binW, Option.some.injEq] at e
    exact .inl ⟨i, j, rfl, rfl, q _ (by rw [← e]; rfl)⟩
  · -- str str
    rename_i a b
    cases r1; cases r2
    simp only [binW] at e
    split at e
    · rename_i hz
      cases e
      exact .inr (.inr (.inr ⟨a, b, rfl, rfl, sz_ok hz, q _ rfl⟩))
    · cases e
  · -- tup tup
    rename_i xs ys
    obtain ⟨a, vs, rfl, fa, ra⟩ := r1
    obtain ⟨b, us, rfl, fb, rb⟩ := r2
    simp only [binW] at e
    split at e
    · rename_i hz
      cases e
      have hl : vs.length + us.length ≤ sizeLine := by rw [← ra.len, ← rb.len]; exact sz_ok hz
      refine .inr (.inl ⟨a, b, vs, us, rfl, rfl, fa.seq, fb.seq, hl, fun z => ?_, fun z z2 => ?_, fun z z2 p hp => ?_⟩)
      · refine q _ ⟨b, us, rfl, fb, ?_⟩
        have : xs = [] := List.length_eq_zero_iff.mp (by rw [ra.len, z]; rfl)
        rw [this]; exact rb
      · refine q _ ⟨a, vs, rfl, fa, ?_⟩
        have : ys = [] := List.length_eq_zero_iff.mp (by rw [rb.len, z2]; rfl)
        rw [this, List.append_nil]; exact ra
      · exact qt p _ hp (by rw [List.length_append]; exact hl) ⟨_, rfl, ra.append rb⟩
    · cases e
  · -- lst lst
    rename_i xs ys
    obtain ⟨a, vs, rfl, fa, ra⟩ := r1
    obtain ⟨b, us, rfl, fb, rb⟩ := r2
    simp only [binW] at e
    split at e
    · rename_i hz
      cases e
      have hl : vs.length + us.length ≤ sizeLine := by rw [← ra.len, ← rb.len]; exact sz_ok hz
      exact .inr (.inr (.inl ⟨a, b, vs, us, rfl, rfl, fa.2.1, fb.2.1, hl, fun p hp => ql p _ hp (by rw [List.length_append]; exact hl) ⟨_, rfl, ra.append rb⟩⟩))
    · cases e
/-- an operator of two ints -/
theorem ok_ints {f : Value → Value → Sem Value} {Cc : Int → Int → Prop} {g : Int → Int → Int} {o : Bop} (h : OpR X f (rI Cc fun i j => .int (g i j)))
    (hb : ∀ x y w, binW o x y = some w → ∃ i j, x = .int i ∧ y = .int j ∧ Cc i j ∧ w = .int (g i j)) : OpOk X N f (binW o) :=
  opok_of h fun F x y w v1 v2 ρ m H Q e R r1 r2 q _ _ => by
    obtain ⟨i, j, rfl, rfl, hc, rfl⟩ := hb x y w e
    cases r1; cases r2
    exact ⟨i, j, rfl, rfl, hc, q _ rfl⟩
theorem ok_ints0 {f : Value → Value → Sem Value} {g : Int → Int → Int} {o : Bop} (h : OpR X f (rI0 fun i j => .int (g i j)))
    (hb : ∀ x y w, binW o x y = some w → ∃ i j, x = .int i ∧ y = .int j ∧ w = .int (g i j)) : OpOk X N f (binW o) :=
  opok_of h fun F x y w v1 v2 ρ m H Q e R r1 r2 q _ _ => by
    obtain ⟨i, j, rfl, rfl, rfl⟩ := hb x y w e
    cases r1; cases r2
    exact ⟨i, j, rfl, rfl, q _ rfl⟩
theorem ok_sub : OpOk X N (binaryOp .Sub) (binW .sub) := ok_ints0 op_sub fun x y w e => by
  cases x <;> cases y <;> first | (simp [binW] at e; done) | (simp only [binW, Option.some.injEq] at e; exact ⟨_, _, rfl, rfl, e.symm⟩)
def CMulA (i j : Int) : Prop := CMul i j ∨ CMulW i j
theorem OpR.orI {f : Value → Value → Sem Value} {c1 c2 : Int → Int → Prop} {g : Int → Int → V} (h : OpR X f (rI c1 g)) (h' : OpR X f (rI c2 g)) : OpR X f (rI (fun i j => c1 i j ∨ c2 i j) g) := by
  intro pins s σ H x y v u Q I r1 r2 q
  obtain ⟨i, j, e1, e2, hc, q⟩ := q
  rcases hc with hc | hc
  · exact h pins s σ H x y v u Q I r1 r2 ⟨i, j, e1, e2, hc, q⟩
  · exact h' pins s σ H x y v u Q I r1 r2 ⟨i, j, e1, e2, hc, q⟩
theorem ok_mul : OpOk X N (binaryOp .Mult) (binW .mul) := ok_ints (OpR.orI op_mul op_mulW) fun x y w e => by
  cases x <;> cases y <;> first | (simp [binW] at e; done) | skip
  simp only [binW] at e
  split at e
  · rename_i i j hz
    cases e
    refine ⟨_, _, rfl, rfl, ?_, rfl⟩
    unfold mulOk at hz
    simp only [Bool.or_eq_true, Bool.and_eq_true, decide_eq_true_eq] at hz
    rcases hz with (hz | hz) | hz
    · exact .inl (.inl hz)
    · exact .inl (.inr hz)
    · exact .inr hz
  · cases e
theorem ok_fdiv : OpOk X N (binaryOp .FloorDiv) (binW .fdiv) := ok_ints (OpR.orI op_fdiv op_fdivW) fun x y w e => by
  cases x <;> cases y <;> first | (simp [binW] at e; done) | skip
  simp only [binW] at e
  split at e
  · rename_i i j hz
    cases e
    refine ⟨_, _, rfl, rfl, ?_, rfl⟩
    simp only [Bool.or_eq_true, Bool.and_eq_true, decide_eq_true_eq] at hz
    rcases hz with ⟨h0, hz | hz⟩
    · exact .inl ⟨h0, hz⟩
    · exact .inr ⟨h0, hz⟩
  · cases e
theorem ok_mod : OpOk X N (binaryOp .Mod) (binW .mod) := ok_ints op_mod fun x y w e => by
  cases x <;> cases y <;> first | (simp [binW] at e; done) | skip
  simp only [binW] at e
  split at e
  · rename_i i j hz
    cases e
    exact ⟨_, _, rfl, rfl, of_decide_eq_true hz, rfl⟩
  · cases e
theorem ok_pow : OpOk X N (binaryOp .Pow) (binW .pow) := ok_ints op_pow fun x y w e => by
  cases x <;> cases y <;> first | (simp [binW] at e; done) | skip
  simp only [binW] at e
  split at e
  · rename_i i j hz
    cases e
    simp only [Bool.and_eq_true, decide_eq_true_eq] at hz
    exact ⟨_, _, rfl, rfl, ⟨hz.1.1, hz.1.2, hz.2⟩, rfl⟩
  · cases e
theorem ok_shl : OpOk X N (binaryOp .LShift) (binW .shl) := ok_ints op_shl fun x y w e => by
  cases x <;> cases y <;> first | (simp [binW] at e; done) | skip
  simp only [binW] at e
  split at e
  · rename_i i j hz
    cases e
    simp only [Bool.and_eq_true, decide_eq_true_eq] at hz
    exact ⟨_, _, rfl, rfl, ⟨hz.1.1, hz.1.2, hz.2⟩, rfl⟩
  · cases e
theorem ok_shr : OpOk X N (binaryOp .RShift) (binW .shr) := ok_ints op_shr fun x y w e => by
  cases x <;> cases y <;> first | (simp [binW] at e; done) | skip
  simp only [binW] at e
  split at e
  · rename_i i j hz
    cases e
    exact ⟨_, _, rfl, rfl, of_decide_eq_true hz, rfl⟩
  · cases e
theorem ok_band : OpOk X N (binaryOp .BitAnd) (binW .band) := ok_ints0 op_and fun x y w e => by
  cases x <;> cases y <;> first | (simp [binW] at e; done) | (simp only [binW, Option.some.injEq] at e; exact ⟨_, _, rfl, rfl, e.symm⟩)
theorem ok_bor : OpOk X N (binaryOp .BitOr) (binW .bor) := ok_ints0 op_or fun x y w e => by
  cases x <;> cases y <;> first | (simp [binW] at e; done) | (simp only [binW, Option.some.injEq] at e; exact ⟨_, _, rfl, rfl, e.symm⟩)
def opB : Bop → Operator
  | .add => .Add | .sub => .Sub | .mul => .Mult | .fdiv => .FloorDiv | .mod => .Mod | .pow => .Pow | .shl => .LShift | .shr => .RShift | .band => .BitAnd | .bor => .BitOr
theorem ok_bop (hK : X.K = N.K) : ∀ o, OpOk X N (binaryOp (opB o)) (binW o)
  | .add => ok_add hK | .sub => ok_sub | .mul => ok_mul | .fdiv => ok_fdiv | .mod => ok_mod | .pow => ok_pow | .shl => ok_shl | .shr => ok_shr | .band => ok_band | .bor => ok_bor

/-! ### data, == -/
mutual
def datP : W → PyData
  | .non => .none
  | .bl b => .bool b
  | .int i => .int i
  | .str x => .str x
  | .tup xs => .tuple (datsP xs)
  | .lst xs => .list (datsP xs)
  | .klst _ => .none
  | .ref _ => .none
  | .dct _ _ => .none
  | .ins _ _ => .none
def datsP : List W → List PyData
  | [] => []
  | x :: xs => datP x :: datsP xs
end
mutual
theorem isD_shaped : ∀ (w : W) (n : Nat), W.isD n w = true → (datP w).canLay0 = true ∧ (datP w).depth ≤ n
  | .non, n, _ => ⟨rfl, by rw [datP, PyData.depth]; exact Nat.zero_le _⟩
  | .bl _, n, _ => ⟨rfl, by rw [datP, PyData.depth]; exact Nat.zero_le _⟩
  | .int _, n, _ => ⟨rfl, by rw [datP, PyData.depth]; exact Nat.zero_le _⟩
  | .str x, n, h => by
    rw [W.isD] at h
    rw [datP]
    exact ⟨by rw [PyData.canLay0]; exact h, by rw [PyData.depth]; exact Nat.zero_le _⟩
  | .tup xs, 0, h => by rw [W.isD] at h; cases h
  | .tup xs, n + 1, h => by
    rw [W.isD] at h
    obtain ⟨h1, h2⟩ := isDs_shaped xs n h
    rw [datP]
    exact ⟨by rw [PyData.canLay0]; exact h1, by rw [PyData.depth]; omega⟩
  | .lst xs, 0, h => by rw [W.isD] at h; cases h
  | .lst xs, n + 1, h => by
    rw [W.isD] at h
    obtain ⟨h1, h2⟩ := isDs_shaped xs n h
    rw [datP]
    exact ⟨by rw [PyData.canLay0]; exact h1, by rw [PyData.depth]; omega⟩
  | .klst _, n, h => by rw [W.isD] at h; cases h
  | .ref _, n, h => by rw [W.isD] at h; cases h
  | .dct _ _, n, h => by rw [W.isD] at h; cases h
  | .ins _ _, n, h => by rw [W.isD] at h; cases h
theorem isDs_shaped : ∀ (ws : List W) (n : Nat), W.isDs n ws = true → PyData.canLayAll0 (datsP ws) = true ∧ PyData.depthAll (datsP ws) ≤ n
  | [], n, _ => ⟨by rw [datsP, PyData.canLayAll0], by rw [datsP, PyData.depthAll]; exact Nat.zero_le _⟩
  | x :: xs, n, h => by
    rw [W.isDs, Bool.and_eq_true] at h
    obtain ⟨h1, h2⟩ := isD_shaped x n h.1
    obtain ⟨h3, h4⟩ := isDs_shaped xs n h.2
    rw [datsP]
    exact ⟨by rw [PyData.canLayAll0, h1, h3]; rfl, by rw [PyData.depthAll]; omega⟩
end
mutual
theorem eqv_datP : ∀ (a b : W) (n k : Nat), W.isD n a = true → W.isD k b = true → PyData.eqv (datP a) (datP b) = W.eqv a b
  | a, b, n, k, ha, hb => by
    cases a with
    | tup xs =>
      cases b with
      | tup ys =>
        cases n with
        | zero => rw [W.isD] at ha; cases ha
        | succ n =>
          cases k with
          | zero => rw [W.isD] at hb; cases hb
          | succ k =>
            rw [W.isD] at ha hb
            rw [datP, datP, PyData.eqv, W.eqv]
            exact eqvs_datP xs ys n k ha hb
      | _ => first | (simp [datP, PyData.eqv, W.eqv]; done) | (simp [W.isD] at hb; done)
    | lst xs =>
      cases b with
      | lst ys =>
        cases n with
        | zero => rw [W.isD] at ha; cases ha
        | succ n =>
          cases k with
          | zero => rw [W.isD] at hb; cases hb
          | succ k =>
            rw [W.isD] at ha hb
            rw [datP, datP, PyData.eqv, W.eqv]
            exact eqvs_datP xs ys n k ha hb
      | _ => first | (simp [datP, PyData.eqv, W.eqv]; done) | (simp [W.isD] at hb; done)
    | klst _ => simp [W.isD] at ha
    | ref _ => simp [W.isD] at ha
    | dct _ _ => simp [W.isD] at ha
    | ins _ _ => simp [W.isD] at ha
    | _ => cases b <;> first | (simp [datP, PyData.eqv, W.eqv]; done) | (simp [W.isD] at hb; done) | (simp only [datP, PyData.eqv, W.eqv]; rfl) | (simp only [datP, PyData.eqv, W.eqv]; exact Bool.beq_eq_decide_eq _ _)
theorem eqvs_datP : ∀ (a b : List W) (n k : Nat), W.isDs n a = true → W.isDs k b = true → PyData.eqvAll (datsP a) (datsP b) = W.eqvs a b
  | [], [], _, _, _, _ => by rw [datsP, PyData.eqvAll, W.eqvs]
  | [], _ :: _, _, _, _, _ => by simp [datsP, PyData.eqvAll, W.eqvs]
  | _ :: _, [], _, _, _, _ => by simp [datsP, PyData.eqvAll, W.eqvs]
  | x :: xs, y :: ys, n, k, ha, hb => by
    rw [W.isDs, Bool.and_eq_true] at ha hb
    rw [datsP, datsP, PyData.eqvAll, W.eqvs, eqv_datP x y n k ha.1 hb.1, eqvs_datP xs ys n k ha.2 hb.2]
end
mutual
theorem RV.dp {ρ k H} : ∀ (w : W) (v : V) (n : Nat), W.isD n w = true → RV N ρ k H w v → Dp N.K H v (datP w)
  | .non, _, _, _, h => by cases h; exact .non
  | .bl _, _, _, _, h => by cases h; exact .bl _
  | .int _, _, _, _, h => by cases h; exact .int _
  | .str _, _, _, _, h => by cases h; exact .str _
  | .tup ws, _, 0, hd, _ => by rw [W.isD] at hd; cases hd
  | .tup ws, _, n + 1, hd, ⟨a, vs, h1, h2, h3⟩ => by
    rw [W.isD] at hd
    rw [h1, datP]
    exact .tup h2.seq (RVs.dp ws vs n hd h3)
  | .lst ws, _, 0, hd, _ => by rw [W.isD] at hd; cases hd
  | .lst ws, _, n + 1, hd, ⟨a, vs, h1, h2, h3⟩ => by
    rw [W.isD] at hd
    rw [h1, datP]
    exact .lst h2.seq (RVs.dp ws vs n hd h3)
  | .klst _, _, _, hd, _ => by rw [W.isD] at hd; cases hd
  | .ref _, _, _, hd, _ => by rw [W.isD] at hd; cases hd
  | .dct _ _, _, _, hd, _ => by rw [W.isD] at hd; cases hd
  | .ins _ _, _, _, hd, _ => by rw [W.isD] at hd; cases hd
theorem RVs.dp {ρ k H} : ∀ (ws : List W) (vs : List V) (n : Nat), W.isDs n ws = true → RVs N ρ k H ws vs → DpAll N.K H vs (datsP ws)
  | [], _, _, _, h => by rw [h, datsP]; exact .nil
  | w :: ws, _, n, hd, ⟨v, r, h1, h2, h3⟩ => by
    rw [W.isDs, Bool.and_eq_true] at hd
    rw [h1, datsP]
    exact .cons (RV.dp w v n hd.1 h2) (RVs.dp ws r n hd.2 h3)
end
theorem shaped60 {w : W} (h : W.isD 60 w = true) : SeqAt.shaped (datP w) = true := by
  obtain ⟨h1, h2⟩ := isD_shaped w 60 h
  unfold SeqAt.shaped
  rw [h1, Bool.true_and]
  exact decide_eq_true (by omega)
theorem ok_eq (hK : X.K = N.K) (hu : X.A.units + 64 < cLine) : OpOk X N (compareOp .Eq) (cmpW .eq) := by
  have hc := op_eqD (X := X) hu
  rw [hK] at hc
  refine opok_of hc fun F x y w v1 v2 ρ m H Q e R r1 r2 q _ _ => ?_
  rw [cmpW] at e
  split at e
  · rename_i hd
    rw [Bool.and_eq_true] at hd
    cases e
    refine ⟨datP x, datP y, RV.dp (N := N.wF F) x v1 60 hd.1 r1, RV.dp (N := N.wF F) y v2 60 hd.2 r2, shaped60 hd.1, shaped60 hd.2, ?_⟩
    rw [eqv_datP x y 60 60 hd.1 hd.2]
    exact q _ rfl
  · cases e
theorem ok_ne (hK : X.K = N.K) (hu : X.A.units + 64 < cLine) : OpOk X N (compareOp .NotEq) (cmpW .ne) := by
  have hc := op_neD (X := X) hu
  rw [hK] at hc
  refine opok_of hc fun F x y w v1 v2 ρ m H Q e R r1 r2 q _ _ => ?_
  rw [cmpW] at e
  split at e
  · rename_i hd
    rw [Bool.and_eq_true] at hd
    cases e
    refine ⟨datP x, datP y, RV.dp (N := N.wF F) x v1 60 hd.1 r1, RV.dp (N := N.wF F) y v2 60 hd.2 r2, shaped60 hd.1, shaped60 hd.2, ?_⟩
    rw [eqv_datP x y 60 60 hd.1 hd.2]
    exact q _ rfl
  · cases e
/-- an order of two ints -/
theorem ok_ord {f : Value → Value → Sem Value} {g : Int → Int → Bool} {o : Cop} (h : OpR X f (rI0 fun i j => .bl (g i j)))
    (hb : ∀ x y w, cmpW o x y = some w → ∃ i j, x = .int i ∧ y = .int j ∧ w = .bl (g i j)) : OpOk X N f (cmpW o) :=
  opok_of h fun F x y w v1 v2 ρ m H Q e R r1 r2 q _ _ => by
    obtain ⟨i, j, rfl, rfl, rfl⟩ := hb x y w e
    cases r1; cases r2
    exact ⟨i, j, rfl, rfl, q _ rfl⟩
theorem ok_lt : OpOk X N (compareOp .Lt) (cmpW .lt) := ok_ord op_lt fun x y w e => by
  cases x <;> cases y <;> first | (simp [cmpW] at e; done) | (simp only [cmpW, Option.some.injEq] at e; exact ⟨_, _, rfl, rfl, e.symm⟩)
theorem ok_le : OpOk X N (compareOp .LtE) (cmpW .le) := ok_ord op_le fun x y w e => by
  cases x <;> cases y <;> first | (simp [cmpW] at e; done) | (simp only [cmpW, Option.some.injEq] at e; exact ⟨_, _, rfl, rfl, e.symm⟩)
theorem ok_gt : OpOk X N (compareOp .Gt) (cmpW .gt) := ok_ord op_gt fun x y w e => by
  cases x <;> cases y <;> first | (simp [cmpW] at e; done) | (simp only [cmpW, Option.some.injEq] at e; exact ⟨_, _, rfl, rfl, e.symm⟩)
theorem ok_ge : OpOk X N (compareOp .GtE) (cmpW .ge) := ok_ord op_ge fun x y w e => by
  cases x <;> cases y <;> first | (simp [cmpW] at e; done) | (simp only [cmpW, Option.some.injEq] at e; exact ⟨_, _, rfl, rfl, e.symm⟩)
theorem RV.non_iff {ρ k H} {w : W} {v : V} (h : RV N ρ k H w v) : decide (v = .non) = isNon w := by
  cases w with
  | non => cases h; rfl
  | bl _ => cases h; rfl
  | int _ => cases h; rfl
  | str _ => cases h; rfl
  | tup _ => obtain ⟨_, _, rfl, _⟩ := h; rfl
  | lst _ => obtain ⟨_, _, rfl, _⟩ := h; rfl
  | klst _ => obtain ⟨_, _, rfl, _⟩ := h; rfl
  | ref _ => obtain ⟨_, rfl⟩ := h; rfl
  | dct _ _ => exact h.elim
  | ins _ _ => exact h.elim
theorem ok_is : OpOk X N (compareOp .Is) (cmpW .is) := by
  refine opok_of (op_isN.or op_isBl) fun F x y w v1 v2 ρ m H Q e R r1 r2 q _ _ => ?_
  cases y with
  | non =>
    cases r2
    have e' : some (W.bl (isNon x)) = some w := by rw [← e]; cases x <;> rfl
    cases e'
    exact .inl ⟨rfl, q _ (by rw [RV.non_iff r1]; rfl)⟩
  | bl b =>
    cases x with
    | bl a =>
      cases r1; cases r2
      simp only [cmpW, Option.some.injEq] at e
      exact .inr ⟨a, b, rfl, rfl, q _ (by rw [← e]; rfl)⟩
    | _ => simp [cmpW] at e
  | _ => cases x <;> (simp [cmpW] at e)
theorem ok_isnot : OpOk X N (compareOp .IsNot) (cmpW .isnot) := by
  refine opok_of (op_notN.or op_notBl) fun F x y w v1 v2 ρ m H Q e R r1 r2 q _ _ => ?_
  cases y with
  | non =>
    cases r2
    have e' : some (W.bl (!isNon x)) = some w := by rw [← e]; cases x <;> rfl
    cases e'
    exact .inl ⟨rfl, q _ (by rw [RV.non_iff r1]; rfl)⟩
  | bl b =>
    cases x with
    | bl a =>
      cases r1; cases r2
      simp only [cmpW, Option.some.injEq] at e
      exact .inr ⟨a, b, rfl, rfl, q _ (by rw [← e]; rfl)⟩
    | _ => simp [cmpW] at e
  | _ => cases x <;> (simp [cmpW] at e)
end
end WM
namespace WM
open PySem PySem.Spec PyProof.Rows L2

section
variable {T : Tab} {N : En} {C : Calls} {X : Cx} {Wx : WX}

/-! ### truth -/
theorem sim_and {a b : Expr} {rest : List Expr} {a' b' : E} {pos} (ha : PE X a (tE T N C a' Wx)) (hb : PE X (.BoolOp .And (b :: rest) pos) (tE T N C b' Wx)) :
    PE X (.BoolOp .And (a :: b :: rest) pos) (tE T N C (.and a' b') Wx) := by
  refine (pe_and ha hb).imp fun σ H Q ⟨F, ρ, m, sg, R, S, D⟩ => ?_
  rw [evE] at D
  refine tE.mk R S (Den.bind D) fun x ρ1 m1 H1 v1 e1 R1 D1 rv1 => ?_
  cases x with
  | bl c =>
    cases c with
    | true => exact ⟨true, rv1, iteT ⟨F, ρ1, m1, sg, R1, S.mono e1, D1⟩⟩
    | false => exact ⟨false, rv1, iteF (Den.ret R1 D1 _ rfl)⟩
  | _ => exact False.elim D1
theorem sim_or {a b : Expr} {rest : List Expr} {a' b' : E} {pos} (ha : PE X a (tE T N C a' Wx)) (hb : PE X (.BoolOp .Or (b :: rest) pos) (tE T N C b' Wx)) :
    PE X (.BoolOp .Or (a :: b :: rest) pos) (tE T N C (.or a' b') Wx) := by
  refine (pe_or ha hb).imp fun σ H Q ⟨F, ρ, m, sg, R, S, D⟩ => ?_
  rw [evE] at D
  refine tE.mk R S (Den.bind D) fun x ρ1 m1 H1 v1 e1 R1 D1 rv1 => ?_
  cases x with
  | bl c =>
    cases c with
    | true => exact ⟨true, rv1, iteT (Den.ret R1 D1 _ rfl)⟩
    | false => exact ⟨false, rv1, iteF ⟨F, ρ1, m1, sg, R1, S.mono e1, D1⟩⟩
  | _ => exact False.elim D1
theorem sim_andT {a b : Expr} {rest : List Expr} {a' b' : E} {pos} (ha : PT X a (tT T N C a' Wx)) (hb : PW X (.BoolOp .And (b :: rest) pos) (tT T N C b' Wx)) :
    PW X (.BoolOp .And (a :: b :: rest) pos) (tT T N C (.and a' b') Wx) := by
  refine (pw_and ha hb).imp fun σ H Q ⟨F, ρ, m, sg, R, S, D⟩ => ?_
  rw [evE] at D
  refine tT.mk R S (Den.bind D) fun x ρ1 m1 H1 e1 R1 D1 => ?_
  cases x with
  | bl c =>
    cases c with
    | true => exact ⟨true, rfl, iteT ⟨F, ρ1, m1, sg, R1, S.mono e1, D1⟩⟩
    | false =>
      obtain ⟨b, e, q⟩ := Den.ret R1 D1
      cases e
      exact ⟨false, rfl, iteF q⟩
  | _ => exact False.elim D1
theorem sim_orT {a b : Expr} {rest : List Expr} {a' b' : E} {pos} (ha : PT X a (tT T N C a' Wx)) (hb : PW X (.BoolOp .Or (b :: rest) pos) (tT T N C b' Wx)) :
    PW X (.BoolOp .Or (a :: b :: rest) pos) (tT T N C (.or a' b') Wx) := by
  refine (pw_or ha hb).imp fun σ H Q ⟨F, ρ, m, sg, R, S, D⟩ => ?_
  rw [evE] at D
  refine tT.mk R S (Den.bind D) fun x ρ1 m1 H1 e1 R1 D1 => ?_
  cases x with
  | bl c =>
    cases c with
    | true =>
      obtain ⟨b, e, q⟩ := Den.ret R1 D1
      cases e
      exact ⟨true, rfl, iteT q⟩
    | false => exact ⟨false, rfl, iteF ⟨F, ρ1, m1, sg, R1, S.mono e1, D1⟩⟩
  | _ => exact False.elim D1
theorem sim_not {a : Expr} {a' : E} {pos} (ha : PE X a (tE T N C a' Wx)) : PE X (.UnaryOp .Not a pos) (tE T N C (.not a') Wx) := by
  refine (pe_not ha).imp fun σ H Q ⟨F, ρ, m, sg, R, S, D⟩ => ?_
  rw [evE] at D
  refine tE.mk R S (Den.bind D) fun x ρ1 m1 H1 v1 e1 R1 D1 rv1 => ?_
  cases x with
  | bl c => exact ⟨c, rv1, Den.ret R1 D1 _ rfl⟩
  | _ => exact False.elim D1
theorem sim_notT {a : Expr} {a' : E} {pos} (ha : PT X a (tT T N C a' Wx)) : PT X (.UnaryOp .Not a pos) (tT T N C (.not a') Wx) := by
  refine (pt_not ha).imp fun σ H Q ⟨F, ρ, m, sg, R, S, D⟩ => ?_
  rw [evE] at D
  refine tT.mk R S (Den.bind D) fun x ρ1 m1 H1 e1 R1 D1 => ?_
  cases x with
  | bl c =>
    obtain ⟨b, e, q⟩ := Den.ret R1 D1
    cases e
    exact ⟨c, rfl, q⟩
  | _ => exact False.elim D1
theorem sim_neg {a : Expr} {a' : E} {pos} (ha : PE X a (tE T N C a' Wx)) : PE X (.UnaryOp .USub a pos) (tE T N C (.neg a') Wx) := by
  refine (pe_un un_neg ha).imp fun σ H Q ⟨F, ρ, m, sg, R, S, D⟩ => ?_
  rw [evE] at D
  refine tE.mk R S (Den.bind D) fun x ρ1 m1 H1 v1 e1 R1 D1 rv1 => ?_
  cases x with
  | int c => exact ⟨c, rv1, Den.ret R1 D1 _ rfl⟩
  | _ => exact False.elim D1
theorem sim_ife {c a b : Expr} {c' a' b' : E} {pos} (hc : PT X c (tT T N C c' Wx)) (ha : PE X a (tE T N C a' Wx)) (hb : PE X b (tE T N C b' Wx)) : PE X (.IfExp c a b pos) (tE T N C (.ife c' a' b') Wx) := by
  refine (pe_ifExp hc ha hb).imp fun σ H Q ⟨F, ρ, m, sg, R, S, D⟩ => ?_
  rw [evE] at D
  refine tT.mk R S (Den.bind D) fun x ρ1 m1 H1 e1 R1 D1 => ?_
  cases x with
  | bl c =>
    refine ⟨c, rfl, ?_⟩
    cases c with
    | true => exact iteT ⟨F, ρ1, m1, sg, R1, S.mono e1, D1⟩
    | false => exact iteF ⟨F, ρ1, m1, sg, R1, S.mono e1, D1⟩
  | _ => exact False.elim D1
/-- a value that is a bool, as a test -/
theorem sim_val {e : Expr} {e' : E} (h : PE X e (tE T N C e' Wx)) (he : ∀ whole, isTrue e X.env whole = (do let v ← whole; standAt e.pos; holding [v] (truthy v))) : PT X e (tT T N C e' Wx) := by
  refine (pt_val h he).imp fun σ H Q ⟨F, ρ, m, sg, R, S, D⟩ => ?_
  refine tE.mk R S D fun x ρ1 m1 H1 v1 e1 R1 ⟨b, e, q⟩ rv1 => ?_
  subst e
  exact ⟨b, rv1, q⟩
theorem sim_cmp2 {o o2 : Cop} {p p2 : CmpOp} {a b c : Expr} {a' b' c' : E} {pos} (hop : OpOk X N (compareOp p) (cmpW o)) (hop2 : OpOk X N (compareOp p2) (cmpW o2)) (hm : lastMarks [p, p2] [b, c] = false)
    (hb1 : ∀ x y w, cmpW o x y = some w → ∃ k, w = .bl k)
    (ha : PE X a (tE T N C a' Wx)) (hb : PE X b (tE T N C b' Wx)) (hc : PE X c (tE T N C c' Wx)) : PE X (.Compare a [p, p2] [b, c] pos) (tE T N C (.cmp2 o o2 a' b' c') Wx) := by
  obtain ⟨r, h1, h2⟩ := hop
  obtain ⟨r', h1', h2'⟩ := hop2
  refine (pe_chain h1 h1' ha hb hc hm).imp fun σ H Q ⟨F, ρ, m, sg, R, S, D⟩ => ?_
  rw [evE] at D
  refine tE.mk R S (Den.bind D) fun x ρ1 m1 H1 v1 e1 R1 D1 rv1 => ?_
  refine tE.mk R1 (S.mono e1) (Den.bind D1) fun y ρ2 m2 H2 v2 e2 R2 D2 rv2 => ?_
  obtain ⟨w, hw, D3⟩ := (Den.bind D2).opt
  obtain ⟨k, ek⟩ := hb1 x y w hw
  subst ek
  refine h2 F x y _ v1 v2 ρ2 m2 H2 (WS (N.wF F) Wx σ) _ hw R2 (RV.mono e2 _ _ rv1) rv2 (D3.imp fun w ρ3 m3 H3 e3 R3 D4 v rv => ?_)
  cases w with
  | bl c =>
    refine ⟨c, rv, ?_⟩
    cases c with
    | true =>
      refine iteT (tE.mk R3 ((S.mono (e1.trans e2)).mono e3) (Den.bind D4) fun u ρ4 m4 H4 v4 e4 R4 D5 rv4 => ?_)
      obtain ⟨w5, hw5, D6⟩ := D5.opt
      exact h2' F y u w5 v2 v4 ρ4 m4 H4 _ Q hw5 R4 (RV.mono (e3.trans e4) _ _ rv2) rv4 D6
    | false => exact iteF (Den.ret R3 D4 _ rfl)
  | _ => exact False.elim D4
theorem sim_cmp2T {o o2 : Cop} {p p2 : CmpOp} {a b c : Expr} {a' b' c' : E} {pos} (hop : OpOk X N (compareOp p) (cmpW o)) (hop2 : OpOk X N (compareOp p2) (cmpW o2)) (hm : lastMarks [p, p2] [b, c] = false)
    (hb1 : ∀ x y w, cmpW o x y = some w → ∃ k, w = .bl k) (hb2 : ∀ x y w, cmpW o2 x y = some w → ∃ k, w = .bl k)
    (ha : PE X a (tE T N C a' Wx)) (hb : PE X b (tE T N C b' Wx)) (hc : PE X c (tE T N C c' Wx)) : PT X (.Compare a [p, p2] [b, c] pos) (tT T N C (.cmp2 o o2 a' b' c') Wx) := by
  obtain ⟨r, h1, h2⟩ := hop
  obtain ⟨r', h1', h2'⟩ := hop2
  refine (pt_chain h1 h1' ha hb hc hm).imp fun σ H Q ⟨F, ρ, m, sg, R, S, D⟩ => ?_
  rw [evE] at D
  refine tE.mk R S (Den.bind D) fun x ρ1 m1 H1 v1 e1 R1 D1 rv1 => ?_
  refine tE.mk R1 (S.mono e1) (Den.bind D1) fun y ρ2 m2 H2 v2 e2 R2 D2 rv2 => ?_
  obtain ⟨w, hw, D3⟩ := (Den.bind D2).opt
  obtain ⟨k, ek⟩ := hb1 x y w hw
  subst ek
  refine h2 F x y _ v1 v2 ρ2 m2 H2 (WS (N.wF F) Wx σ) _ hw R2 (RV.mono e2 _ _ rv1) rv2 (D3.imp fun w ρ3 m3 H3 e3 R3 D4 v rv => ?_)
  cases w with
  | bl c =>
    refine ⟨c, rv, ?_⟩
    cases c with
    | true =>
      refine iteT (tE.mk R3 ((S.mono (e1.trans e2)).mono e3) (Den.bind D4) fun u ρ4 m4 H4 v4 e4 R4 D5 rv4 => ?_)
      obtain ⟨w5, hw5, D6⟩ := D5.opt
      refine h2' F y u w5 v2 v4 ρ4 m4 H4 (WS (N.wF F) Wx σ) _ hw5 R4 (RV.mono (e3.trans e4) _ _ rv2) rv4 (D6.imp fun w ρ' m' H' _ _ ⟨k, e, q⟩ v rv => ?_)
      subst e
      exact ⟨k, rv, q⟩
    | false =>
      obtain ⟨b, e, q⟩ := Den.ret R3 D4
      cases e
      exact iteF ⟨false, rfl, q⟩
  | _ => exact False.elim D4

/-! ### items, slices -/
theorem seq_of {w : W} {v : V} {ρ m H xs} (R : Rl N ρ m H) (r : RV N ρ m.length H w v) (e : seqW m w = some xs) :
    ∃ a vs, v = .ref a ∧ RVs N ρ m.length H xs vs ∧ vs.length ≤ sizeLine ∧ (SqL N.K H a vs ∨ SqT N.K H a vs) := by
  cases w with
  | tup ws =>
    obtain ⟨a, vs, h1, h2, h3⟩ := r
    cases e
    exact ⟨a, vs, h1, h3, h2.1, .inr h2.seq⟩
  | lst ws =>
    obtain ⟨a, vs, h1, h2, h3⟩ := r
    cases e
    exact ⟨a, vs, h1, h3, h2.1, .inl h2.seq⟩
  | klst ws =>
    obtain ⟨a, vs, h1, h2, h3⟩ := r
    cases e
    exact ⟨a, vs, h1, h3, h2.1, .inl h2.seq⟩
  | ref n =>
    obtain ⟨h1, h2⟩ := r
    have e' : (match hget m n with | some (.lst xs) => some xs | _ => none) = some xs := e
    cases q : hget m n with
    | none => rw [q] at e'; cases e'
    | some o =>
      rw [q] at e'
      cases o with
      | lst ws =>
        cases e'
        obtain ⟨vs, h3, h4, h5⟩ := R.obj _ _ q
        exact ⟨_, vs, h2, h5, h4, .inl (SqL.of h3)⟩
      | _ => cases e'
  | _ => cases e
theorem Den.seqM {α : Type} {ρ m H WW} {w : W} {f : List W → M α} {P : α → (Nat → Addr) → Hm → Hp → Prop} (D : Den N ρ m H WW (bnd (seqM w) f m) P) : ∃ xs, seqW m w = some xs ∧ Den N ρ m H WW (f xs m) P := by
  unfold bnd WM.seqM at D
  cases e : seqW m w with
  | none => rw [e] at D; exact False.elim D
  | some xs => rw [e] at D; exact ⟨xs, rfl, D⟩
theorem RVs.atI {ρ k H} {ws : List W} {vs : List V} {i : Int} {w : W} (h : RVs N ρ k H ws vs) (e : L2.atI ws i = some w) : ∃ v, L2.atI vs i = some v ∧ RV N ρ k H w v := by
  unfold L2.atI at e ⊢
  rw [← h.len]
  cases q : ixN ws.length i with
  | none => rw [q] at e; cases e
  | some j =>
    rw [q] at e
    obtain ⟨v, h1, h2⟩ := h.get (i := j) (w := w) e
    exact ⟨v, h1, h2⟩
theorem sim_idx {a b : Expr} {a' b' : E} {pos} (hK : X.K = N.K) (ha : PE X a (tE T N C a' Wx)) (hb : PE X b (tE T N C b' Wx)) (hs : PlainIx b) : PE X (.Subscript a b pos) (tE T N C (.idx a' b') Wx) := by
  have hi := ix_list.or (ix_tup (X := X))
  rw [hK] at hi
  refine (pe_ix hi ha hb hs).imp fun σ H Q ⟨F, ρ, m, sg, R, S, D⟩ => ?_
  rw [evE] at D
  refine tE.mk R S (Den.bind D) fun x ρ1 m1 H1 v1 e1 R1 D1 rv1 => ?_
  refine tE.mk R1 (S.mono e1) (Den.bind D1) fun y ρ2 m2 H2 v2 e2 R2 D2 rv2 => ?_
  obtain ⟨xs, hx, D3⟩ := Den.seqM D2
  obtain ⟨p, vs, ep, hvs, hz, hq⟩ := seq_of R2 (RV.mono e2 _ _ rv1) hx
  obtain ⟨w, hw, D4⟩ := D3.opt
  cases y with
  | int i =>
    obtain ⟨v, hv, rv⟩ := hvs.atI (i := i) hw
    have q := Den.ret R2 D4 v rv
    rcases hq with hq | hq
    · exact .inl ⟨p, vs, i, v, ep, rv2, hq, hv, q⟩
    · exact .inr ⟨p, vs, i, v, ep, rv2, hq, hv, q⟩
  | _ => cases hw
def tP (T : Tab) (N : En) (C : Calls) (e : E) (Wx : WX) : TO := fun σ H R => ∃ F ρ m sg, Rl (N.wF F) ρ m H ∧ RS (N.wF F) ρ m.length H sg σ ∧ Den (N.wF F) ρ m H (WS (N.wF F) Wx σ) (partM e (evE T C e sg) m) (fun o ρ' m' H' => R o H')
theorem PO.imp {e : Option Expr} {t t' : TO} (h : PO X e t) (i : ∀ σ H Q, t' σ H Q → t σ H Q) : PO X e t' := ⟨fun pins s σ H Q I q => h.run pins s σ H Q I (i σ H Q q)⟩
theorem tP.mk {e : E} {σ H Q F ρ m sg P} (R : Rl (N.wF F) ρ m H) (S : RS (N.wF F) ρ m.length H sg σ) (D : Den (N.wF F) ρ m H (WS (N.wF F) Wx σ) (partM e (evE T C e sg) m) P)
    (i : ∀ o ρ' m' H', Ext (N.wF F) ρ m.length H ρ' m'.length H' → Rl (N.wF F) ρ' m' H' → P o ρ' m' H' → Q o H') : tP T N C e Wx σ H Q :=
  ⟨F, ρ, m, sg, R, S, D.imp fun w ρ' m' H' e r p => i w ρ' m' H' e r p⟩
theorem sim_pnone : PO X none (tP T N C .nop Wx) := by
  refine PO.imp po_none fun σ H Q ⟨F, ρ, m, sg, R, S, D⟩ => ?_
  exact Den.ret R D
theorem sim_psome {e : Expr} {e' : E} (h : PE X e (tE T N C e' Wx)) (hn : (match e' with | .nop => false | _ => true) = true) : PO X (some e) (tP T N C e' Wx) := by
  refine PO.imp (po_some h) fun σ H Q ⟨F, ρ, m, sg, R, S, D⟩ => ?_
  have D' : Den (N.wF F) ρ m H (WS (N.wF F) Wx σ) (bnd (evE T C e' sg) (fun w => match w with | .int i => WM.ret (some i) | _ => stuck) m) (fun o ρ' m' H' => Q o H') := by
    cases e' <;> first | exact D | cases hn
  refine tE.mk R S (Den.bind D') fun x ρ1 m1 H1 v1 e1 R1 D1 rv1 => ?_
  cases x with
  | int i => exact ⟨i, rv1, Den.ret R1 D1⟩
  | _ => exact False.elim D1
theorem RVs.cut {ρ k H} {ws : List W} {vs : List V} (h : RVs N ρ k H ws vs) (lo hi : Option Int) : RVs N ρ k H (cutW ws lo hi) (cutV vs lo hi) := by
  unfold cutW cutV
  rw [h.len]
  exact (h.drop _).take _
theorem cutV_len (xs : List V) (lo hi : Option Int) (h : xs.length ≤ sizeLine) : (cutV xs lo hi).length ≤ sizeLine := Nat.le_trans (cutV_length xs lo hi) h
theorem cut_whole {α : Type} (xs : List α) {l h : Nat} (h1 : l = 0) (h2 : h = xs.length) : (xs.drop l).take (h - l) = xs := by
  subst h1; subst h2; simp
theorem sim_slc {a : Expr} {lo hi : Option Expr} {a' lo' hi' : E} {p2 pos} (hK : X.K = N.K) (ha : PE X a (tE T N C a' Wx)) (hl : PO X lo (tP T N C lo' Wx)) (hh : PO X hi (tP T N C hi' Wx)) :
    PE X (.Subscript a (.Slice lo hi none p2) pos) (tE T N C (.slc a' lo' hi') Wx) := by
  have hr := SlR.or (sl_tupA (X := X)) sl_list
  rw [hK] at hr
  refine (pe_slice hr ha hl hh).imp fun σ H Q ⟨F, ρ, m, sg, R, S, D⟩ => ?_
  rw [evE] at D
  refine tE.mk R S (Den.bind D) fun x ρ1 m1 H1 v1 e1 R1 D1 rv1 => ?_
  refine tP.mk R1 (S.mono e1) (Den.bind D1) fun l ρ2 m2 H2 e2 R2 D2 => ?_
  refine tP.mk R2 (S.mono (e1.trans e2)) (Den.bind D2) fun u ρ3 m3 H3 e3 R3 D3 => ?_
  have rv3 := RV.mono (e2.trans e3) _ _ rv1
  cases x with
  | tup xs =>
    obtain ⟨p, vs, ep, hf, hv⟩ := rv3
    refine .inl ⟨p, vs, ep, hf.seq, fun hw => ?_, fun hw q hq => ?_⟩
    · refine Den.ret R3 D3 _ ⟨p, vs, rfl, hf, ?_⟩
      have := hv.cut l u
      unfold cutV at this
      rw [cut_whole vs hw.1 hw.2] at this
      exact this
    · exact Den.at' D3 (Ext.new R3 hq) (R3.new hq) _ (RV.newT R3 hq (cutV_len vs l u hf.1) (hv.cut l u))
  | lst xs =>
    obtain ⟨p, vs, ep, hf, hv⟩ := rv3
    exact .inr ⟨p, vs, ep, hf.seq, fun q hq => Den.at' D3 (Ext.new R3 hq) (R3.new hq) _ (RV.newL R3 hq (cutV_len vs l u hf.1) (hv.cut l u))⟩
  | ref n =>
    obtain ⟨xs, hx, D4⟩ := Den.seqM D3
    have e : ∃ xs', hget m3 n = some (.lst xs') ∧ xs' = xs := by
      unfold seqW at hx
      dsimp only at hx
      split at hx
      · rename_i q; cases hx; exact ⟨_, q, rfl⟩
      · cases hx
    obtain ⟨xs', h1, h2⟩ := e
    subst h2
    obtain ⟨vs, h3, h4, h5⟩ := R3.obj _ _ h1
    exact .inr ⟨_, vs, rv3.2, SqL.of h3, fun q hq => Den.at' D4 (Ext.new R3 hq) (R3.new hq) _ (RV.newL R3 hq (cutV_len vs l u h4) (h5.cut l u))⟩
  | _ => exact False.elim D3
end
end WM
namespace WM
open PySem PySem.Spec PyProof.Rows L2

section
variable {T : Tab} {N : En} {C : Calls} {X : Cx} {Wx : WX}
theorem star_any {pos : Pos} {env : Env} : ∀ {es : List Expr}, es.all notStar = true → (backTo pos (starEach es env)).any (·.1) = false
  | [], _ => rfl
  | e :: es, h => by
    rw [List.all_cons, Bool.and_eq_true] at h
    rw [star_cons h.1]
    have ih := star_any (pos := pos) (env := env) h.2
    unfold backTo at ih ⊢
    rw [List.map_cons, List.any_cons, ih]
    rfl

/-! ### built-ins -/
def BiOk (X : Cx) (N : En) (f : Value) (b : Bi) : Prop :=
  ∃ r, CallR X f r ∧ ∀ (F : Addr → Prop) (ws : List W) (vs : List V) (ρ : Nat → Addr) (m : Hm) (H : Hp) (WW : Xc → (Nat → Addr) → Hm → Hp → Prop) (Q : VK), Rl (N.wF F) ρ m H → RVs (N.wF F) ρ m.length H ws vs →
    Den (N.wF F) ρ m H WW (biM b ws m) (fun w ρ' m' H' => ∀ v, RV (N.wF F) ρ' m'.length H' w v → Q v H') → r vs H Q
theorem sim_biB {b : Bi} {id : String} {x : Str} {e : Expr} {es : List Expr} {es' : List E} {p pos} (h : BiOk X N (.builtin id) b) (hg : Gl X x) (hm : X.mg x = none) (hv : bootBuiltins x = some (.builtin id))
    (ha : PA X (e :: es) (tEs T N C es' Wx)) (hs : (e :: es).all notStar = true) (hn : x ≠ "__name__") (hdb : (x == ("__debug__" : Str)) = false) : PE X (.Call (.Name x p) (e :: es) [] pos) (tE T N C (.bi b es') Wx) := by
  obtain ⟨r, h1, h2⟩ := h
  rw [List.all_cons, Bool.and_eq_true] at hs
  refine (pe_callB h1 hg hm hv ha hn hdb (star_cons hs.1) (star_any hs.2)).imp fun σ H Q ⟨F, ρ, m, sg, R, S, D⟩ => ?_
  rw [evE] at D
  exact tEs.mk R S (Den.bind D) fun ws ρ1 m1 H1 vs e1 R1 D1 rvs => h2 F ws vs ρ1 m1 H1 _ Q R1 rvs D1
theorem sim_biT {b : Bi} {id : String} {x : Str} {e : Expr} {es : List Expr} {es' : List E} {p pos} (h : BiOk X N (.type id) b) (hg : Gl X x) (hm : X.mg x = none) (hv : bootBuiltins x = some (.type id))
    (ha : PA X (e :: es) (tEs T N C es' Wx)) (hs : (e :: es).all notStar = true) (hn : x ≠ "__name__") (hdb : (x == ("__debug__" : Str)) = false) : PE X (.Call (.Name x p) (e :: es) [] pos) (tE T N C (.bi b es') Wx) := by
  obtain ⟨r, h1, h2⟩ := h
  rw [List.all_cons, Bool.and_eq_true] at hs
  refine (pe_callTy h1 hg hm hv ha hn hdb (star_cons hs.1) (star_any hs.2)).imp fun σ H Q ⟨F, ρ, m, sg, R, S, D⟩ => ?_
  rw [evE] at D
  exact tEs.mk R S (Den.bind D) fun ws ρ1 m1 H1 vs e1 R1 D1 rvs => h2 F ws vs ρ1 m1 H1 _ Q R1 rvs D1
theorem bi_len (hK : X.K = N.K) : BiOk X N (.builtin "len") .len := by
  have h := call_len (X := X)
  rw [hK] at h
  refine ⟨_, h, fun F ws vs ρ m H WW Q R r D => ?_⟩
  match ws, r, D with
  | [], _, D => exact False.elim D
  | [.str x], r, D =>
    obtain ⟨v, rfl, rv⟩ := RVs.one r
    cases rv
    have D' : Den (N.wF F) ρ m H WW ((if szOk x.length then WM.ret (.int x.length) else stuck : M W) m) (fun w ρ' m' H' => ∀ v, RV (N.wF F) ρ' m'.length H' w v → Q v H') := D
    split at D'
    · rename_i hz
      exact ⟨_, x.length, rfl, ⟨sz_ok hz, rfl⟩, Den.ret R D' _ rfl⟩
    · exact False.elim D'
  | [.tup xs], r, D =>
    obtain ⟨v, rfl, rv⟩ := RVs.one r
    obtain ⟨a, us, rfl, hf, hu⟩ := rv
    exact ⟨_, us.length, rfl, .inr ⟨us, hf.seq, rfl⟩, Den.ret R D _ (by rw [← hu.len]; rfl)⟩
  | [.lst xs], r, D =>
    obtain ⟨v, rfl, rv⟩ := RVs.one r
    obtain ⟨a, us, rfl, hf, hu⟩ := rv
    exact ⟨_, us.length, rfl, .inl ⟨us, hf.seq, rfl⟩, Den.ret R D _ (by rw [← hu.len]; rfl)⟩
  | [.klst xs], r, D =>
    obtain ⟨v, rfl, rv⟩ := RVs.one r
    obtain ⟨a, us, rfl, hf, hu⟩ := rv
    exact ⟨_, us.length, rfl, .inl ⟨us, hf.seq, rfl⟩, Den.ret R D _ (by rw [← hu.len]; rfl)⟩
  | [.ref n], r, D =>
    obtain ⟨v, rfl, rv⟩ := RVs.one r
    obtain ⟨xs, hx, D2⟩ := Den.seqM (w := .ref n) D
    obtain ⟨a, us, rfl, hu, hz, hq⟩ := seq_of R rv hx
    refine ⟨_, us.length, rfl, ?_, Den.ret R D2 _ (by rw [← hu.len]; rfl)⟩
    rcases hq with hq | hq
    · exact .inl ⟨us, hq, rfl⟩
    · exact .inr ⟨us, hq, rfl⟩
  | [.non], _, D => exact False.elim D
  | [.bl _], _, D => exact False.elim D
  | [.int _], _, D => exact False.elim D
  | [.dct _ _], _, D => exact False.elim D
  | [.ins _ _], _, D => exact False.elim D
  | a :: _ :: _, _, D => exact False.elim (by cases a <;> exact D)
theorem bi_int : BiOk X N (.type "int") .int := by
  refine ⟨_, call_int1, fun F ws vs ρ m H WW Q R r D => ?_⟩
  match ws, r, D with
  | [.int i], r, D =>
    obtain ⟨v, rfl, rv⟩ := RVs.one r
    cases rv
    exact .inl ⟨i, rfl, Den.ret R D _ rfl⟩
  | [.bl b], r, D =>
    obtain ⟨v, rfl, rv⟩ := RVs.one r
    cases rv
    exact .inr ⟨b, rfl, Den.ret R D _ rfl⟩
  | [], _, D => exact False.elim D
  | [.non], _, D => exact False.elim D
  | [.str _], _, D => exact False.elim D
  | [.tup _], _, D => exact False.elim D
  | [.lst _], _, D => exact False.elim D
  | [.klst _], _, D => exact False.elim D
  | [.ref _], _, D => exact False.elim D
  | [.dct _ _], _, D => exact False.elim D
  | [.ins _ _], _, D => exact False.elim D
  | a :: _ :: _, _, D => exact False.elim (by cases a <;> exact D)
theorem bi_list (hK : X.K = N.K) : BiOk X N (.type "list") .list := by
  have h := call_list_of (X := X)
  rw [hK] at h
  refine ⟨_, h, fun F ws vs ρ m H WW Q R r D => ?_⟩
  match ws, r, D with
  | [], _, D => exact False.elim D
  | [a], r, D =>
    obtain ⟨v, rfl, rv⟩ := RVs.one r
    obtain ⟨xs, hx, D2⟩ := Den.seqM (w := a) D
    obtain ⟨p, us, rfl, hu, hz, hq⟩ := seq_of R rv hx
    exact ⟨p, us, rfl, hq, fun l hl => Den.at' D2 (Ext.new R hl) (R.new hl) _ (RV.newL R hl hz hu)⟩
  | a :: _ :: _, _, D => exact False.elim D
theorem bi_tuple (hK : X.K = N.K) : BiOk X N (.type "tuple") .tuple := by
  have h := call_tuple_of (X := X)
  rw [hK] at h
  refine ⟨_, h, fun F ws vs ρ m H WW Q R r D => ?_⟩
  match ws, r, D with
  | [], _, D => exact False.elim D
  | [a], r, D =>
    obtain ⟨v, rfl, rv⟩ := RVs.one r
    obtain ⟨xs, hx, D2⟩ := Den.seqM (w := a) D
    have lst : ∀ p us, SqL N.K H p us → RVs (N.wF F) ρ m.length H xs us → us.length ≤ sizeLine → ∀ l, H l = none → Q (.ref l) (upd H l (.tup us)) := fun p us _ hu hz l hl =>
      Den.at' D2 (Ext.new R hl) (R.new hl) _ (RV.newT R hl hz hu)
    cases a with
    | tup ws =>
      obtain ⟨p, us, rfl, hf, hu⟩ := rv
      cases hx
      exact ⟨p, us, rfl, .inr ⟨hf.seq, Den.ret R D2 _ ⟨p, us, rfl, hf, hu⟩⟩⟩
    | lst ws =>
      obtain ⟨p, us, rfl, hf, hu⟩ := rv
      cases hx
      exact ⟨p, us, rfl, .inl ⟨hf.seq, lst p us hf.seq hu hf.1⟩⟩
    | klst ws =>
      obtain ⟨p, us, rfl, hf, hu⟩ := rv
      cases hx
      exact ⟨p, us, rfl, .inl ⟨hf.seq, lst p us hf.seq hu hf.1⟩⟩
    | ref n =>
      have hx' : (match hget m n with | some (.lst xs) => some xs | _ => none) = some xs := hx
      cases q : hget m n with
      | none => rw [q] at hx'; cases hx'
      | some o =>
        rw [q] at hx'
        cases o with
        | lst ws =>
          cases hx'
          obtain ⟨us, h3, h4, h5⟩ := R.obj _ _ q
          obtain ⟨_, ev⟩ := rv
          subst ev
          exact ⟨_, us, rfl, .inl ⟨SqL.of h3, lst _ us (SqL.of h3) h5 h4⟩⟩
        | _ => cases hx'
    | _ => cases hx
  | a :: _ :: _, _, D => exact False.elim D
theorem bi_abs : BiOk X N (.builtin "abs") .abs := by
  refine ⟨_, call_abs, fun F ws vs ρ m H WW Q R r D => ?_⟩
  match ws, r, D with
  | [.int i], r, D =>
    obtain ⟨v, rfl, rv⟩ := RVs.one r
    cases rv
    exact ⟨i, rfl, Den.ret R D _ rfl⟩
  | [], _, D => exact False.elim D
  | [.non], _, D => exact False.elim D
  | [.bl _], _, D => exact False.elim D
  | [.str _], _, D => exact False.elim D
  | [.tup _], _, D => exact False.elim D
  | [.lst _], _, D => exact False.elim D
  | [.klst _], _, D => exact False.elim D
  | [.ref _], _, D => exact False.elim D
  | [.dct _ _], _, D => exact False.elim D
  | [.ins _ _], _, D => exact False.elim D
  | a :: _ :: _, _, D => exact False.elim (by cases a <;> exact D)
theorem bi_two {f : Value} {b : Bi} {g : Int → Int → Int} (h : CallR X f (fun xs H Q => ∃ i j, xs = [.int i, .int j] ∧ Q (.int (g i j)) H))
    (hb : ∀ ws m r, biM b ws m = some r → ∃ i j, ws = [.int i, .int j] ∧ r = (.ok (.int (g i j)), m)) : BiOk X N f b := by
  refine ⟨_, h, fun F ws vs ρ m H WW Q R r D => ?_⟩
  unfold Den at D
  cases e : biM b ws m with
  | none => rw [e] at D; exact False.elim D
  | some p =>
    obtain ⟨i, j, ew, er⟩ := hb ws m p e
    rw [e] at D
    subst ew er
    obtain ⟨v, v', rfl, h1, h2⟩ := RVs.two r
    cases h1; cases h2
    exact ⟨i, j, rfl, Den.ret (N := N.wF F) (WW := WW) (a := W.int (g i j)) (P := fun w ρ' m' H' => ∀ v, RV (N.wF F) ρ' m'.length H' w v → Q v H') R D _ rfl⟩
theorem biM_two {b : Bi} {g : Int → Int → Int} (hb : b = .min2 ∧ (g = fun i j => if j < i then j else i) ∨ b = .max2 ∧ (g = fun i j => if j > i then j else i)) (ws : List W) (m : Hm) (r : Res W × Hm) (h : biM b ws m = some r) :
    ∃ i j, ws = [.int i, .int j] ∧ r = (.ok (.int (g i j)), m) := by
  have key : ∃ i j, ws = [.int i, .int j] := by
    rcases hb with ⟨rfl, _⟩ | ⟨rfl, _⟩
    all_goals
      cases ws with
      | nil => cases h
      | cons x xs =>
        cases xs with
        | nil => cases x <;> cases h
        | cons y ys =>
          cases ys with
          | nil => cases x <;> cases y <;> first | exact ⟨_, _, rfl⟩ | cases h
          | cons z zs => cases x <;> cases y <;> cases h
  obtain ⟨i, j, rfl⟩ := key
  rcases hb with ⟨rfl, rfl⟩ | ⟨rfl, rfl⟩ <;> (cases h; exact ⟨i, j, rfl, rfl⟩)
theorem bi_min (hc : X.calm = true) : BiOk X N (.builtin "min") .min2 := bi_two (call_min2 hc) (biM_two (.inl ⟨rfl, rfl⟩))
theorem bi_max (hc : X.calm = true) : BiOk X N (.builtin "max") .max2 := bi_two (call_max2 hc) (biM_two (.inr ⟨rfl, rfl⟩))
theorem RVs.ints {ρ k H} : ∀ {ws : List W} {vs : List V} {is : List Int}, RVs N ρ k H ws vs → intsW ws = some is → vs = is.map V.int
  | [], vs, is, h, e => by cases e; rw [h]; rfl
  | w :: ws, vs, is, ⟨v, r, h1, h2, h3⟩, e => by
    cases w with
    | int i =>
      have e' : (intsW ws).map (i :: ·) = some is := e
      cases q : intsW ws with
      | none => rw [q] at e'; cases e'
      | some js =>
        rw [q] at e'
        cases e'
        rw [h1, show v = V.int i from h2, RVs.ints h3 q]
        rfl
    | _ => cases e
theorem RVs.bls {ρ k H} : ∀ {ws : List W} {vs : List V} {is : List Bool}, RVs N ρ k H ws vs → blsW ws = some is → vs = is.map V.bl
  | [], vs, is, h, e => by cases e; rw [h]; rfl
  | w :: ws, vs, is, ⟨v, r, h1, h2, h3⟩, e => by
    cases w with
    | bl i =>
      have e' : (blsW ws).map (i :: ·) = some is := e
      cases q : blsW ws with
      | none => rw [q] at e'; cases e'
      | some js =>
        rw [q] at e'
        cases e'
        rw [h1, show v = V.bl i from h2, RVs.bls h3 q]
        rfl
    | _ => cases e
theorem Den.optb {α β : Type} {ρ m H WW} {o : Option α} {f : α → M β} {P : β → (Nat → Addr) → Hm → Hp → Prop} (D : Den N ρ m H WW (bnd (WM.opt o) f m) P) : ∃ a, o = some a ∧ Den N ρ m H WW (f a m) P := by
  cases o with
  | none => exact False.elim D
  | some a => exact ⟨a, rfl, D⟩
theorem bi_sum (hK : X.K = N.K) (hc : X.calm = true) : BiOk X N (.builtin "sum") .sum := by
  have h := cr_sum (X := X) hc
  rw [hK] at h
  refine ⟨_, h, fun F ws vs ρ m H WW Q R r D => ?_⟩
  match ws, r, D with
  | [.lst xs], r, D =>
    obtain ⟨v, rfl, rv⟩ := RVs.one r
    obtain ⟨a, us, rfl, hf, hu⟩ := rv
    obtain ⟨is, hi, D2⟩ := Den.optb (o := intsW xs) (f := fun is => WM.ret (W.int is.sum)) D
    have e := hu.ints hi
    subst e
    exact ⟨a, is, rfl, hf.seq, Den.ret R D2 _ rfl⟩
  | [], _, D => exact False.elim D
  | [.non], _, D => exact False.elim D
  | [.bl _], _, D => exact False.elim D
  | [.int _], _, D => exact False.elim D
  | [.str _], _, D => exact False.elim D
  | [.tup _], _, D => exact False.elim D
  | [.klst _], _, D => exact False.elim D
  | [.ref _], _, D => exact False.elim D
  | [.dct _ _], _, D => exact False.elim D
  | [.ins _ _], _, D => exact False.elim D
  | a :: _ :: _, _, D => exact False.elim (by cases a <;> exact D)
theorem bi_all (hK : X.K = N.K) (hc : X.calm = true) : BiOk X N (.builtin "all") .all := by
  have h := cr_all (X := X) hc
  rw [hK] at h
  refine ⟨_, h, fun F ws vs ρ m H WW Q R r D => ?_⟩
  match ws, r, D with
  | [.lst xs], r, D =>
    obtain ⟨v, rfl, rv⟩ := RVs.one r
    obtain ⟨a, us, rfl, hf, hu⟩ := rv
    obtain ⟨is, hi, D2⟩ := Den.optb (o := blsW xs) (f := fun is => WM.ret (W.bl (is.all id))) D
    have e := hu.bls hi
    subst e
    exact ⟨a, is, rfl, hf.seq, Den.ret R D2 _ rfl⟩
  | [], _, D => exact False.elim D
  | [.non], _, D => exact False.elim D
  | [.bl _], _, D => exact False.elim D
  | [.int _], _, D => exact False.elim D
  | [.str _], _, D => exact False.elim D
  | [.tup _], _, D => exact False.elim D
  | [.klst _], _, D => exact False.elim D
  | [.ref _], _, D => exact False.elim D
  | [.dct _ _], _, D => exact False.elim D
  | [.ins _ _], _, D => exact False.elim D
  | a :: _ :: _, _, D => exact False.elim (by cases a <;> exact D)
theorem bi_any (hK : X.K = N.K) (hc : X.calm = true) : BiOk X N (.builtin "any") .any := by
  have h := cr_any (X := X) hc
  rw [hK] at h
  refine ⟨_, h, fun F ws vs ρ m H WW Q R r D => ?_⟩
  match ws, r, D with
  | [.lst xs], r, D =>
    obtain ⟨v, rfl, rv⟩ := RVs.one r
    obtain ⟨a, us, rfl, hf, hu⟩ := rv
    obtain ⟨is, hi, D2⟩ := Den.optb (o := blsW xs) (f := fun is => WM.ret (W.bl (is.any id))) D
    have e := hu.bls hi
    subst e
    exact ⟨a, is, rfl, hf.seq, Den.ret R D2 _ rfl⟩
  | [], _, D => exact False.elim D
  | [.non], _, D => exact False.elim D
  | [.bl _], _, D => exact False.elim D
  | [.int _], _, D => exact False.elim D
  | [.str _], _, D => exact False.elim D
  | [.tup _], _, D => exact False.elim D
  | [.klst _], _, D => exact False.elim D
  | [.ref _], _, D => exact False.elim D
  | [.dct _ _], _, D => exact False.elim D
  | [.ins _ _], _, D => exact False.elim D
  | a :: _ :: _, _, D => exact False.elim (by cases a <;> exact D)

/-! ### isinstance -/
def tyName : W → String
  | .non => "NoneType" | .bl _ => "bool" | .int _ => "int" | .str _ => "str" | .tup _ => "tuple" | .lst _ => "list" | _ => ""
theorem RV.ty {ρ k H} {w : W} {v : V} (h : RV N ρ k H w v) (hw : tyName w ≠ "") : TyX N.K H v (.type (tyName w)) := by
  cases w with
  | non => cases h; exact .base .non
  | bl _ => cases h; exact .base (.bl _)
  | int _ => cases h; exact .base (.int _)
  | str _ => cases h; exact .base (.str _)
  | tup ws =>
    obtain ⟨a, vs, rfl, hf, _⟩ := h
    rcases hf.2 with ⟨h1 | ⟨o, h1⟩, _⟩ | ⟨o, its, n, h1, h2, _⟩
    · exact .base (.tup h1)
    · exact .fTuple h1
    · exact .kTuple h1 h2
  | lst ws =>
    obtain ⟨a, vs, rfl, hf, _⟩ := h
    exact .base (.lst hf.2.1)
  | _ => exact absurd rfl hw
theorem isi_kit {t : String} {w : W} {b : Bool} (h : isiW t w = some b) : tyName w ≠ "" ∧ kitB (tyName w) t = some b := by
  have big : ∀ n : String, (t = "int" ∨ t = "bool" ∨ t = "str" ∨ t = "tuple" ∨ t = "list" ∨ t = "dict") → (n = "NoneType" ∨ n = "bool" ∨ n = "int" ∨ n = "str" ∨ n = "tuple" ∨ n = "list") →
      kitB n t = some (decide (n = t ∨ (n = "bool" ∧ t = "int"))) := by
    intro n ht hn
    rcases ht with rfl | rfl | rfl | rfl | rfl | rfl <;> rcases hn with rfl | rfl | rfl | rfl | rfl | rfl <;> decide +kernel
  have ht : t = "int" ∨ t = "bool" ∨ t = "str" ∨ t = "tuple" ∨ t = "list" ∨ t = "dict" := by
    cases w <;> simp only [isiW] at h <;> (try split at h) <;> (try split at h) <;> first | (cases h; done) | (rename_i q; rcases q with q | q | q | q | q | q <;> simp [q]; done) | (rename_i q; simp [q]; done) | (rename_i q q2; rcases q2 with q2 | q2 | q2 | q2 | q2 <;> simp [q2]; done) | (rename_i q q2; rcases q2 with q2 | q2 | q2 | q2 <;> simp [q2]; done) | (rename_i q; rcases q with q | q <;> simp [q]; done)
  cases w with
  | non => refine ⟨by decide, ?_⟩; rw [show tyName .non = "NoneType" from rfl, big _ ht (.inl rfl)]; rcases ht with rfl | rfl | rfl | rfl | rfl | rfl <;> revert h <;> (simp [isiW])
  | bl _ => refine ⟨by simp [tyName], ?_⟩; rw [show tyName (.bl _) = "bool" from rfl, big _ ht (by simp)]; rcases ht with rfl | rfl | rfl | rfl | rfl | rfl <;> revert h <;> (simp [isiW])
  | int _ => refine ⟨by simp [tyName], ?_⟩; rw [show tyName (.int _) = "int" from rfl, big _ ht (by simp)]; rcases ht with rfl | rfl | rfl | rfl | rfl | rfl <;> revert h <;> (simp [isiW])
  | str _ => refine ⟨by simp [tyName], ?_⟩; rw [show tyName (.str _) = "str" from rfl, big _ ht (by simp)]; rcases ht with rfl | rfl | rfl | rfl | rfl | rfl <;> revert h <;> (simp [isiW])
  | tup _ => refine ⟨by simp [tyName], ?_⟩; rw [show tyName (.tup _) = "tuple" from rfl, big _ ht (by simp)]; rcases ht with rfl | rfl | rfl | rfl | rfl | rfl <;> revert h <;> (simp [isiW])
  | lst _ => refine ⟨by simp [tyName], ?_⟩; rw [show tyName (.lst _) = "list" from rfl, big _ ht (by simp)]; rcases ht with rfl | rfl | rfl | rfl | rfl | rfl <;> revert h <;> (simp [isiW])
  | _ => simp [isiW] at h
theorem sim_isi {a : Expr} {a' : E} {t : String} {ty : Str} {p p2 pos} (hK : X.K = N.K) (hg : Gl X "isinstance") (hm : X.mg "isinstance" = none) (ha : PE X a (tE T N C a' Wx)) (ns : notStar a = true)
    (hg2 : Gl X ty) (hm2 : X.mg ty = none) (hv : bootBuiltins ty = some (.type t)) (hn : ty ≠ "__name__") (hd : (ty == ("__debug__" : Str)) = false) : PE X (.Call (.Name "isinstance" p) [a, .Name ty p2] [] pos) (tE T N C (.isi a' t) Wx) := by
  have hc := call_isi (X := X)
  rw [hK] at hc
  refine (pe_callB hc hg hm (by decide +kernel) (pa_cons ha (pa_cons (pe_bltn (v := .ty t) hg2 hm2 hv rfl hn hd) pa_nil) (star_cons ns)) (by decide) (by decide) (star_cons ns) rfl).imp fun σ H Q ⟨F, ρ, m, sg, R, S, D⟩ => ?_
  rw [evE] at D
  refine tE.mk R S (Den.bind D) fun w ρ1 m1 H1 v e1 R1 D1 rv => ?_
  obtain ⟨b, hb, D2⟩ := Den.optb D1
  obtain ⟨h1, h2⟩ := isi_kit hb
  exact ⟨v, .ty t, .type (tyName w), .type t, b, rfl, .ty t, rv.ty h1, kit_ty h2, Den.ret R1 D2 _ rfl⟩
end
end WM
namespace WM
open PySem PySem.Spec PyProof.Rows L2

/-! ### calls of the text's own defs -/
/-- what the def number f promises where so many calls are left -/
def spF (T : Tab) (N : En) (lvl : Nat) (np : Nat) (f : Nat) : Sp := fun vs H Q E => vs.length = np ∧ ∃ F ρ m ws, Rl (N.wF F) ρ m H ∧ RVs (N.wF F) ρ m.length H ws vs ∧
  Den (N.wF F) ρ m H (fun x ρ' m' H' => ∀ d, RX (N.wF F) ρ' m'.length H' x d → E (.ref (N.ca x.c)) d H') (evC T lvl f ws m) (fun w ρ' m' H' => ∀ v, RV (N.wF F) ρ' m'.length H' w v → Q v H')
/-- the def stands where the module's name says, and keeps its promise -/
def FnFact (T : Tab) (N : En) (X : Cx) (lvl : Nat) (f : Nat) (x : Str) : Prop :=
  ∃ (a : Addr) (fd : FuncData) (ps : List Str), X.mg x = some (.ref a) ∧ PySem.W.keepIn X.K (.ref a) = true ∧ Binds X.K fd ps [] ∧ FnOk X.prog X.w X.K X.mg X.base (L2.CX X.prog X.w) lvl a fd ps (spF T N lvl ps.length f)
section
variable {T : Tab} {N : En} {X : Cx} {Wx : WX} {lvl : Nat}
theorem Den.argc {ρ m H WW P f ws} (D : Den N ρ m H WW (evC T lvl f ws m) P) : ∃ l F, lvl = l + 1 ∧ T.fn f = some F ∧ ws.length = F.np := by
  cases lvl with
  | zero => exact False.elim D
  | succ l =>
    refine ⟨l, ?_⟩
    unfold evC at D
    cases e : T.fn f with
    | none => rw [e] at D; exact False.elim D
    | some F =>
      rw [e] at D
      refine ⟨F, rfl, rfl, ?_⟩
      dsimp only at D
      unfold runF at D
      by_cases h : ws.length = F.np
      · exact h
      · rw [if_neg h] at D; exact False.elim D
theorem sim_call {f : Nat} {x : Str} {e : Expr} {es : List Expr} {es' : List E} {p pos} (F : FnFact T N X lvl f x) (hn : ∀ a fd ps, X.mg x = some (.ref a) → FnOk X.prog X.w X.K X.mg X.base (L2.CX X.prog X.w) lvl a fd ps (spF T N lvl ps.length f) → ps.length = es'.length)
    (hr : Room lvl X.A) (hg : Gl X x) (tk : Takes X Wx)
    (ha : PA X (e :: es) (tEs T N (evC T lvl) es' Wx)) (hs : (e :: es).all notStar = true) (hdb : (x == ("__debug__" : Str)) = false) : PE X (.Call (.Name x p) (e :: es) [] pos) (tE T N (evC T lvl) (.call f es') Wx) := by
  obtain ⟨a, fd, ps, h1, h2, h3, h4⟩ := F
  rw [List.all_cons, Bool.and_eq_true] at hs
  refine (pe_callS h4 hr hg h1 h2 h3 (passAt tk) ha hdb (star_cons hs.1) (star_any hs.2)).imp fun σ H Q ⟨F, ρ, m, sg, R, S, D⟩ => ?_
  rw [evE] at D
  refine tEs.mk R S (Den.len (Den.bind D)) fun ws ρ1 m1 H1 vs e1 R1 ⟨D0, D1⟩ rvs => ⟨?_, F, ρ1, m1, ws, R1, rvs, D1⟩
  rw [← rvs.len, D0, hn a fd ps h1 h4]
end

/-! ### what is walked -/
section
variable {T : Tab} {N : En} {X : Cx} {Wx : WX} {lvl : Nat}
theorem sim_callA {f : Nat} {x : Str} {e : Expr} {es : List Expr} {es' : List E} {p pos} {a : Addr} {fd : FuncData} {ps : List Str} (h1 : X.mg x = some (.ref a)) (h2 : PySem.W.keepIn X.K (.ref a) = true) (h3 : Binds X.K fd ps [])
    (h4 : FnOk X.prog X.w X.K X.mg X.base (L2.CX X.prog X.w) lvl a fd ps (spF T N lvl ps.length f)) (hn : ps.length = es'.length)
    (hr : Room lvl X.A) (hg : Gl X x) (tk : Takes X Wx)
    (ha : PA X (e :: es) (tEs T N (evC T lvl) es' Wx)) (hs : (e :: es).all notStar = true) (hdb : (x == ("__debug__" : Str)) = false) : PE X (.Call (.Name x p) (e :: es) [] pos) (tE T N (evC T lvl) (.call f es') Wx) := by
  rw [List.all_cons, Bool.and_eq_true] at hs
  refine (pe_callS h4 hr hg h1 h2 h3 (passAt tk) ha hdb (star_cons hs.1) (star_any hs.2)).imp fun σ H Q ⟨F, ρ, m, sg, R, S, D⟩ => ?_
  rw [evE] at D
  refine tEs.mk R S (Den.len (Den.bind D)) fun ws ρ1 m1 H1 vs e1 R1 ⟨D0, D1⟩ rvs => ⟨?_, F, ρ1, m1, ws, R1, rvs, D1⟩
  rw [← rvs.len, D0, hn]
end

/-- all values lie as they lay -/
structure Tr (N : En) (ρ : Nat → Addr) (k : Nat) (H : Hp) (N' : En) (ρ' : Nat → Addr) (k' : Nat) (H' : Hp) : Prop where
  K : N'.K = N.K
  rv : ∀ w v, RV N ρ k H w v → RV N' ρ' k' H' w v
theorem Tr.of {N ρ k H ρ' k' H'} (e : Ext N ρ k H ρ' k' H') : Tr N ρ k H N ρ' k' H' := ⟨rfl, fun w v => RV.mono e w v⟩
theorem Tr.plus {N : En} {ρ k H D o} (hd : H D = none) : Tr N ρ k H (N.plus D) ρ k (upd H D o) := ⟨rfl, fun w v => RV.plus hd w v⟩
theorem Tr.trans {N ρ k H N' ρ' k' H' N'' ρ'' k'' H''} (a : Tr N ρ k H N' ρ' k' H') (b : Tr N' ρ' k' H' N'' ρ'' k'' H'') : Tr N ρ k H N'' ρ'' k'' H'' := ⟨b.K.trans a.K, fun w v h => b.rv w v (a.rv w v h)⟩
theorem Tr.turn {N : En} {ρ k H D o} : Tr (N.plus D) ρ k H (N.plus D) ρ k (upd H D o) := ⟨rfl, fun w v => RV.turn w v⟩
def SrcOk (N : En) (J : It) (ρ : Nat → Addr) (m : Hm) (H : Hp) (ws : List W) : Prop :=
  ∀ (N' : En) (ρ' : Nat → Addr) (m' : Hm) (H' : Hp), Tr N ρ m.length H N' ρ' m'.length H' → Rl N' ρ' m' H' → ∀ i,
    (∀ w, ws[i]? = some w → J.go i H' ∧ ∀ x H'', J.yld i H' x H'' → Rl N' ρ' m' H'' ∧ Ext N' ρ' m'.length H' ρ' m'.length H'' ∧ RV N' ρ' m'.length H'' w x) ∧ (ws.length ≤ i → J.stop i H')
def tI (T : Tab) (N : En) (C : Calls) (e : E) (Wx : WX) : TI := fun σ H Rr => ∃ F ρ m sg, Rl (N.wF F) ρ m H ∧ RS (N.wF F) ρ m.length H sg σ ∧
  Den (N.wF F) ρ m H (WS (N.wF F) Wx σ) (evI T C e sg m) (fun ws ρ' m' H' => ∀ J, ws.length ≤ sizeLine → SrcOk (N.wF F) J ρ' m' H' ws → Rr J H')
section
variable {T : Tab} {N : En} {C : Calls} {X : Cx} {Wx : WX} {tg : Expr}
theorem _root_.L2.PI.imp {e : Expr} {t t' : TI} (h : PI X tg e t) (i : ∀ σ H Q, t' σ H Q → t σ H Q) : PI X tg e t' := ⟨fun pins s σ H Q I q => h.run pins s σ H Q I (i σ H Q q)⟩
theorem rng_inv {lo hi : Int} {ws : List W} (h : rngW lo hi = some ws) : (-(2 ^ 62) ≤ lo ∧ lo < 2 ^ 62 ∧ -(2 ^ 62) ≤ hi ∧ hi < 2 ^ 62) ∧ (hi - lo).toNat ≤ sizeLine ∧ ws = (List.range (hi - lo).toNat).map fun (k : Nat) => W.int (lo + (k : Int)) := by
  unfold rngW at h
  split at h
  · rename_i q
    simp only [Bool.and_eq_true, decide_eq_true_eq] at q
    cases h
    exact ⟨⟨q.1.1.1.1, q.1.1.1.2, q.1.1.2, q.1.2⟩, sz_ok q.2, rfl⟩
  · cases h
theorem src_rng {lo : Int} {n : Nat} {ρ m H} : SrcOk N (Itr lo n) ρ m H ((List.range n).map fun (k : Nat) => W.int (lo + (k : Int))) := by
  intro N' ρ' m' H' tr R' i
  refine ⟨fun w hw => ?_, fun h => show n ≤ i by simpa using h⟩
  rw [List.getElem?_map] at hw
  cases e : (List.range n)[i]? with
  | none => rw [e] at hw; cases hw
  | some j =>
    rw [e] at hw
    obtain ⟨h1, h2⟩ := List.getElem?_eq_some_iff.mp e
    rw [List.getElem_range] at h2
    subst h2
    cases hw
    refine ⟨show i < n by simpa using h1, fun x H'' y => ?_⟩
    obtain ⟨e1, e2⟩ := y
    subst e1 e2
    exact ⟨R', Ext.refl, rfl⟩
theorem sim_srng1 {a : Expr} {a' : E} {p pos} (hg : Gl X "range") (hm : X.mg "range" = none) (ha : PE X a (tE T N C a' Wx)) (ns : notStar a = true) : PI X tg (.Call (.Name "range" p) [a] [] pos) (tI T N C (.srng1 a') Wx) := by
  refine (pi_range1 hg hm (pa_cons ha pa_nil (star_cons ns)) (star_cons ns)).imp fun σ H Rr ⟨F, ρ, m, sg, R, S, D⟩ => ?_
  rw [evI] at D
  refine tE.mk R S (Den.bind D) fun x ρ1 m1 H1 v e1 R1 D1 rv => ?_
  cases x with
  | int j =>
    obtain ⟨ws, hw, D2⟩ := D1.opt
    obtain ⟨⟨_, _, b1, b2⟩, hz, e⟩ := rng_inv hw
    subst e
    have q := Den.ret R1 D2
    refine ⟨j, by rw [show v = V.int j from rv], b1, b2, q _ (by rw [List.length_map, List.length_range]; exact hz) ?_⟩
    rw [Int.sub_zero]
    exact src_rng
  | _ => exact False.elim D1
theorem sim_srng2 {a b : Expr} {a' b' : E} {p pos} (hg : Gl X "range") (hm : X.mg "range" = none) (ha : PE X a (tE T N C a' Wx)) (ns : notStar a = true) (hb : PE X b (tE T N C b' Wx)) (ns2 : notStar b = true) :
    PI X tg (.Call (.Name "range" p) [a, b] [] pos) (tI T N C (.srng2 a' b') Wx) := by
  have hs2 : starEach [b] X.env = [(false, eval b X.env)] := star_cons ns2
  have hs1 : starEach [a, b] X.env = [(false, eval a X.env), (false, eval b X.env)] := by rw [star_cons ns, hs2]
  refine (pi_range2 hg hm (pa_cons ha (pa_cons hb pa_nil (star_cons ns2)) (star_cons ns)) hs1 hs2).imp fun σ H Rr ⟨F, ρ, m, sg, R, S, D⟩ => ?_
  rw [evI] at D
  refine tE.mk R S (Den.bind D) fun x ρ1 m1 H1 v e1 R1 D1 rv => ?_
  refine tE.mk R1 (S.mono e1) (Den.bind D1) fun y ρ2 m2 H2 u e2 R2 D2 ru => ?_
  cases x with
  | int i =>
    cases y with
    | int j =>
      obtain ⟨ws, hw, D3⟩ := D2.opt
      obtain ⟨⟨b0, b1, b2, b3⟩, hz, e⟩ := rng_inv hw
      subst e
      have q := Den.ret R2 D3
      exact ⟨i, j, by rw [show v = V.int i from rv, show u = V.int j from ru], ⟨b0, b1, b2, b3⟩, q _ (by rw [List.length_map, List.length_range]; exact hz) src_rng⟩
    | _ => exact False.elim D2
  | _ => cases y <;> exact False.elim D2
theorem src_tup {xs : List W} {ρ m H a vs} (hf : FzT N ρ m.length H a vs) (hv : RVs N ρ m.length H xs vs) : SrcOk N (Itt N.K a) ρ m H xs := by
  intro N' ρ' m' H' tr R' i
  obtain ⟨a', vs', e, hf', hv'⟩ := tr.rv (.tup xs) (.ref a) ⟨a, vs, rfl, hf, hv⟩
  cases e
  have hq : SqT N.K H' a vs' := by have := hf'.seq; rw [tr.K] at this; exact this
  refine ⟨fun w hw => ?_, fun h => ⟨vs', hq, by rw [← hv'.len]; exact h⟩⟩
  obtain ⟨v, h1, h2⟩ := hv'.get hw
  refine ⟨⟨vs', v, hq, h1⟩, fun x H'' y => ?_⟩
  obtain ⟨e1, e2⟩ := y
  subst e1
  have := e2 vs' hq
  rw [h1] at this
  cases this
  exact ⟨R', Ext.refl, h2⟩
theorem src_lst {w : W} {xs : List W} {ρ m H a} (hw : w = .lst xs ∨ w = .klst xs) (hv : RV N ρ m.length H w (.ref a)) : SrcOk N (Itl N.K a) ρ m H xs := by
  intro N' ρ' m' H' tr R' i
  have h0 := tr.rv w (.ref a) hv
  have h1 : ∃ vs', SqL N.K H' a vs' ∧ RVs N' ρ' m'.length H' xs vs' := by
    rcases hw with rfl | rfl
    · obtain ⟨a', vs', e, hf', hv'⟩ := h0
      cases e
      exact ⟨vs', by have := hf'.seq (N := N'); rw [tr.K] at this; exact this, hv'⟩
    · obtain ⟨a', vs', e, hf', hv'⟩ := h0
      cases e
      exact ⟨vs', by have := hf'.seq; rw [tr.K] at this; exact this, hv'⟩
  obtain ⟨vs', hq, hv'⟩ := h1
  refine ⟨fun w hw => ?_, fun h => ⟨vs', hq, by rw [← hv'.len]; exact h⟩⟩
  obtain ⟨v, h1, h2⟩ := hv'.get hw
  refine ⟨⟨vs', v, hq, h1⟩, fun x H'' y => ?_⟩
  obtain ⟨e1, e2⟩ := y
  subst e1
  have := e2 vs' hq
  rw [h1] at this
  cases this
  exact ⟨R', Ext.refl, h2⟩
/-- a tuple or a list, whichever comes -/
theorem pi_either {l : Expr} {tl : TE} (hl : PE X l tl) : PI X tg l (fun σ H R => tl σ H fun x H1 => ∃ a, x = .ref a ∧ (((∃ xs, SqL X.K H1 a xs) ∧ R (Itl X.K a) H1) ∨ ((∃ xs, SqT X.K H1 a xs) ∧ R (Itt X.K a) H1))) := by
  refine ⟨fun pins s σ H R I h => thn (hl.run pins s σ H _ I h) fun v s1 hx => ?_⟩
  obtain ⟨x, H1, I1, r1, a, e, q⟩ := hx
  subst e
  obtain rfl : v = Value.ref a := r1
  have big : ∀ b ∈ [s1.heap.objs.size], FpOk X pins H1 b := fun b hb => by
    rw [List.mem_singleton.mp hb]
    exact I1.fpOk (Nat.le_refl _) (I1.hok.fresh (Nat.le_refl _))
  rcases q with ⟨⟨xs, hq⟩, q⟩ | ⟨⟨xs, hq⟩, q⟩
  · obtain ⟨its, _, p, _⟩ := I1.list hq
    exact wpAny_pyIter_list p.isList ⟨_, [s1.heap.objs.size], _, _, H1, rfl, I1.kept (t' := s1.toks) fun _ _ z => Heap.get?_push_of_some _ z, turn_list a _, ⟨_, Heap.get?_push_size _ rfl, rfl, rfl⟩, big, q⟩
  · obtain ⟨its, _, p, _⟩ := I1.tuple hq
    exact wpAny_pyIter_tuple (items := its.toArray) p ⟨_, [s1.heap.objs.size], _, _, H1, rfl, I1.kept (t' := s1.toks) fun _ _ z => Heap.get?_push_of_some _ z, turn_tuple a _, ⟨_, Heap.get?_push_size _ rfl, rfl, rfl⟩, big, q⟩
theorem sim_sseq {a : Expr} {a' : E} (hK : X.K = N.K) (ha : PE X a (tE T N C a' Wx)) : PI X tg a (tI T N C (.sseq a') Wx) := by
  have h := pi_either (tg := tg) ha
  rw [hK] at h
  refine h.imp fun σ H Rr ⟨F, ρ, m, sg, R, S, D⟩ => ?_
  rw [evI] at D
  refine tE.mk R S (Den.bind D) fun x ρ1 m1 H1 v e1 R1 D1 rv => ?_
  cases x with
  | tup xs =>
    have q := Den.ret R1 D1
    obtain ⟨b, vs, ev, hf, hv⟩ := rv
    exact ⟨b, ev, .inr ⟨⟨vs, hf.seq⟩, q _ (by rw [hv.len]; exact hf.1) (src_tup (N := N.wF F) hf hv)⟩⟩
  | lst xs =>
    have q := Den.ret R1 D1
    obtain ⟨b, vs, ev, hf, hv⟩ := id rv
    subst ev
    exact ⟨b, rfl, .inl ⟨⟨vs, hf.seq (N := N.wF F)⟩, q _ (by rw [hv.len]; exact hf.1) (src_lst (N := N.wF F) (.inl rfl) rv)⟩⟩
  | klst xs =>
    have q := Den.ret R1 D1
    obtain ⟨b, vs, ev, hf, hv⟩ := id rv
    subst ev
    exact ⟨b, rfl, .inl ⟨⟨vs, hf.seq⟩, q _ (by rw [hv.len]; exact hf.1) (src_lst (N := N.wF F) (.inr rfl) rv)⟩⟩
  | _ => exact False.elim D1
end
end WM
namespace WM
open PySem PySem.Spec PyProof.Rows L2

section
variable {T : Tab} {N : En} {C : Calls} {X : Cx} {Wx : WX}
/-! ### targets -/
mutual
/-- the slots that a target names -/
def Tg.ix : Tg → List Nat
  | .v i => [i]
  | .t xs => Tg.ixs xs
def Tg.ixs : List Tg → List Nat
  | [] => []
  | x :: xs => Tg.ix x ++ Tg.ixs xs
end
/-- the slots but these are as they were -/
def Oth (l : List Nat) (σ σ' : L2.St) : Prop := σ'.length = σ.length ∧ ∀ j, j ∉ l → σ'[j]? = σ[j]?
theorem Oth.refl {l σ} : Oth l σ σ := ⟨rfl, fun _ _ => rfl⟩
theorem Oth.trans {l l' σ σ' σ''} (a : Oth l σ σ') (b : Oth l' σ' σ'') : Oth (l ++ l') σ σ'' :=
  ⟨b.1.trans a.1, fun j hj => (b.2 j fun z => hj (List.mem_append_right _ z)).trans (a.2 j fun z => hj (List.mem_append_left _ z))⟩
def gT (N : En) (t : Tg) : TG := fun v σ H Q => ∃ F ρ m sg w sg', Rl (N.wF F) ρ m H ∧ RS (N.wF F) ρ m.length H sg σ ∧ RV (N.wF F) ρ m.length H w v ∧ asgT t w sg = some sg' ∧
  ∀ σ', RS (N.wF F) ρ m.length H sg' σ' → Oth t.ix σ σ' → Q σ' H
def gTs (N : En) (ts : List Tg) : TGs := fun vs σ H Q => ∃ F ρ m sg ws sg', Rl (N.wF F) ρ m H ∧ RS (N.wF F) ρ m.length H sg σ ∧ RVs (N.wF F) ρ m.length H ws vs ∧ asgTs ts ws sg = some sg' ∧
  ∀ σ', RS (N.wF F) ρ m.length H sg' σ' → Oth (Tg.ixs ts) σ σ' → Q σ' H
theorem _root_.L2.PG.imp {e : Expr} {t t' : TG} (h : PG X e t) (i : ∀ v σ H Q, t' v σ H Q → t v σ H Q) : PG X e t' := ⟨fun pins s σ H v u Q I r q => h.run pins s σ H v u Q I r (i v σ H Q q)⟩
theorem _root_.L2.PGs.imp {e : List Expr} {t t' : TGs} (h : PGs X e t) (i : ∀ v σ H Q, t' v σ H Q → t v σ H Q) : PGs X e t' := ⟨fun pins s σ H v u Q I r q => h.run pins s σ H v u Q I r (i v σ H Q q)⟩
theorem sim_gname {i : Nat} {x : Str} {pos} (hN : X.N.Nodup) (hi : X.N[i]? = some x) (hx : Loc X.env.scope x) (hf : X.fn x = true ∨ X.env.scope.names.lookup x = some .local) : PG X (.Name x pos) (gT N (.v i)) := by
  refine (pg_name hN hi hx hf).imp fun v σ H Q ⟨F, ρ, m, sg, w, sg', R, S, r, e, q⟩ => ?_
  rw [asgT] at e
  cases e
  exact q _ (S.set i r) ⟨List.length_set, fun j hj => List.getElem?_set_ne (fun z => hj (by rw [Tg.ix, z]; exact List.mem_singleton.mpr rfl))⟩
theorem sim_gnil : PGs X [] (gTs N []) := by
  refine pgs_nil.imp fun v σ H Q ⟨F, ρ, m, sg, ws, sg', R, S, r, e, q⟩ => ?_
  cases ws with
  | nil => rw [asgTs] at e; cases e; exact ⟨r, q _ S Oth.refl⟩
  | cons w ws => simp [asgTs] at e
theorem star_cons_asg {e : Expr} {es : List Expr} {env : Env} (h : notStar e = true) : (assignEach (e :: es) env).map (·.2) = assign e env :: (assignEach es env).map (·.2) := by
  cases e <;> first | rfl | cases h
theorem sim_gcons {e : Expr} {es : List Expr} {t : Tg} {ts : List Tg} (h : PG X e (gT N t)) (hs : PGs X es (gTs N ts)) (ns : notStar e = true) : PGs X (e :: es) (gTs N (t :: ts)) := by
  refine (pgs_cons h hs (star_cons_asg ns)).imp fun vs σ H Q ⟨F, ρ, m, sg, ws, sg', R, S, r, e, q⟩ => ?_
  cases ws with
  | nil => simp [asgTs] at e
  | cons w ws =>
    obtain ⟨v, vr, ev, h1, h2⟩ := r
    rw [asgTs] at e
    cases e1 : asgT t w sg with
    | none => rw [e1] at e; cases e
    | some sg1 =>
      rw [e1] at e
      exact ⟨v, vr, ev, F, ρ, m, sg, w, sg1, R, S, h1, e1, fun σ' S' o => ⟨F, ρ, m, sg1, ws, sg', R, S', h2, e, fun σ'' S'' o' => q σ'' S'' (by rw [Tg.ixs]; exact o.trans o')⟩⟩
theorem asg_len {env : Env} : ∀ {es : List Expr}, (assignEach es env).length = es.length
  | [] => rfl
  | e :: es => by cases e <;> (show (assignEach es env).length + 1 = es.length + 1; rw [asg_len])
theorem asg_nostar {env : Env} : ∀ {es : List Expr}, es.all notStar = true → (assignEach es env).findIdx? (·.1) = none
  | [], _ => rfl
  | e :: es, h => by
    rw [List.all_cons, Bool.and_eq_true] at h
    have ih := asg_nostar (env := env) h.2
    have e1 : assignEach (e :: es) env = (false, assign e env) :: assignEach es env := by cases e <;> first | rfl | cases h.1
    rw [e1, List.findIdx?_cons, ih]
    rfl
theorem asgTs_len : ∀ {ts : List Tg} {ws : List W} {sg sg' : Sg}, asgTs ts ws sg = some sg' → ts.length = ws.length
  | [], [], _, _, _ => rfl
  | [], _ :: _, _, _, h => by simp [asgTs] at h
  | _ :: _, [], _, _, h => by simp [asgTs] at h
  | t :: ts, w :: ws, sg, sg', h => by
    rw [asgTs] at h
    split at h
    · rw [List.length_cons, List.length_cons, asgTs_len h]
    · cases h
theorem sim_gtup {es : List Expr} {ts : List Tg} {k pos} (hK : X.K = N.K) (hc : X.calm = true) (h : PGs X es (gTs N ts)) (hl : es.length = ts.length) (ns : es.all notStar = true) : PG X (.Tuple es k pos) (gT N (.t ts)) := by
  have hg := pg_tup (k := k) (pos := pos) (n := es.length) hc h asg_len (asg_nostar ns)
  rw [hK] at hg
  refine hg.imp fun v σ H Q ⟨F, ρ, m, sg, w, sg', R, S, r, e, q⟩ => ?_
  cases w with
  | tup ws =>
    rw [asgT] at e
    obtain ⟨a, vs, ev, hf, hv⟩ := r
    exact ⟨a, vs, ev, hf.seq, by rw [← hv.len, hl, asgTs_len e], F, ρ, m, sg, ws, sg', R, S, hv, e, fun σ' S' o => q σ' S' (by rw [Tg.ix]; exact o)⟩
  | _ => simp [asgT] at e

/-! ### comprehensions -/
theorem sim_noif' : PTs X [] (tT T N C (.lit (.bl true)) Wx) := by
  refine ⟨fun pins s σ H Q I h => pts_nil.run pins s σ H Q I ?_⟩
  obtain ⟨F, ρ, m, sg, R, S, D⟩ := h
  rw [evE] at D
  obtain ⟨b, e, q⟩ := Den.ret R D
  cases e
  exact q
theorem Den.noExc {α : Type} {N : En} {ρ m H WW} {x : M α} {P : α → (Nat → Addr) → Hm → Hp → Prop} (D : Den N ρ m H WW (WM.noExc x m) P) : Den N ρ m H (fun _ _ _ _ => False) (x m) P := by
  unfold WM.noExc at D
  unfold Den at D ⊢
  cases e : x m with
  | none => rw [e] at D; exact D
  | some p =>
    obtain ⟨r, m'⟩ := p
    rw [e] at D
    cases r with
    | ok a => exact D
    | exc y => exact False.elim D
theorem Den.wk {α : Type} {N : En} {ρ m H WW WW'} {r : Option (Res α × Hm)} {P : α → (Nat → Addr) → Hm → Hp → Prop} (D : Den N ρ m H WW r P) (h : ∀ x ρ' m' H', WW x ρ' m' H' → WW' x ρ' m' H') : Den N ρ m H WW' r P := by
  unfold Den at D ⊢
  cases r with
  | none => exact D
  | some p =>
    obtain ⟨r, m'⟩ := p
    cases r with
    | ok a => exact D
    | exc y => exact fun ρ' H' e R => h _ _ _ _ (D ρ' H' e R)
theorem wipe_len (sg : Sg) : ∀ vs : List Nat, (wipeW sg vs).length = sg.length
  | [] => rfl
  | v :: vs => by unfold wipeW; rw [List.length_set, wipe_len sg vs]
theorem wipe_get (σ : L2.St) (j : Nat) : ∀ vs : List Nat, (L2.wipe σ vs)[j]? = if j ∈ vs ∧ j < σ.length then some none else σ[j]?
  | [] => by simp [L2.wipe]
  | v :: vs => by
    unfold L2.wipe
    by_cases e : v = j
    · subst e
      by_cases hl : v < σ.length
      · rw [List.getElem?_set_self (by rw [wipe_length]; exact hl), if_pos ⟨List.mem_cons_self, hl⟩]
      · rw [if_neg fun z => hl z.2, List.getElem?_eq_none (by rw [List.length_set, wipe_length]; omega), List.getElem?_eq_none (by omega)]
    · rw [List.getElem?_set_ne e, wipe_get σ j vs]
      have : j ∈ v :: vs ↔ j ∈ vs := by rw [List.mem_cons]; exact ⟨fun z => z.elim (fun q => absurd q.symm e) id, .inr⟩
      simp only [this]
theorem wipe_oth {σ σ' : L2.St} {l vs : List Nat} (h : Oth l (L2.wipe σ vs) σ') (hl : ∀ j ∈ l, j ∈ vs) : L2.wipe σ' vs = L2.wipe σ vs := by
  apply List.ext_getElem?
  intro j
  have e1 : σ'.length = σ.length := by rw [h.1, wipe_length]
  rw [wipe_get, wipe_get, e1]
  by_cases hj : j ∈ vs
  · by_cases hz : j < σ.length
    · rw [if_pos ⟨hj, hz⟩, if_pos ⟨hj, hz⟩]
    · rw [if_neg fun z => hz z.2, if_neg fun z => hz z.2, List.getElem?_eq_none (by omega), List.getElem?_eq_none (by omega)]
  · rw [if_neg fun z => hj z.1, if_neg fun z => hj z.1, h.2 j fun z => hj (hl j z), wipe_get, if_neg fun z => hj z.1]

theorem RS.tr {N ρ k H N' ρ' k' H' sg σ} (e : Tr N ρ k H N' ρ' k' H') (h : RS N ρ k H sg σ) : RS N' ρ' k' H' sg σ :=
  ⟨h.1, fun i w q => let ⟨v, h1, h2⟩ := h.2 i w q; ⟨v, h1, e.rv w v h2⟩⟩
theorem bnd_some {α β : Type} {x : M α} {f : α → M β} {m m2 : Hm} {b : β} (h : bnd x f m = some (.ok b, m2)) : ∃ a m1, x m = some (.ok a, m1) ∧ f a m1 = some (.ok b, m2) := by
  unfold bnd at h
  cases e : x m with
  | none => rw [e] at h; cases h
  | some p =>
    obtain ⟨r, m'⟩ := p
    rw [e] at h
    cases r with
    | ok a => exact ⟨a, m', rfl, h⟩
    | exc y => cases h
theorem opt_some_inv {α : Type} {o : Option α} {m m' : Hm} {a : α} (h : WM.opt o m = some (.ok a, m')) : o = some a ∧ m' = m := by
  cases o with
  | none => cases h
  | some b => cases h; exact ⟨rfl, rfl⟩
theorem comp_turn {tg : Tg} {sg : Sg} {tst elt : Sg → M W} {x : W} {xs ys : List W} {m m' : Hm} (h : compGo tg sg tst elt (x :: xs) m = some (.ok ys, m')) :
    ∃ sg' b m1, asgT tg x sg = some sg' ∧ tst sg' m = some (.ok (.bl b), m1) ∧
      ((b = true ∧ ∃ y m2 zs, elt sg' m1 = some (.ok y, m2) ∧ compGo tg sg tst elt xs m2 = some (.ok zs, m') ∧ ys = y :: zs) ∨ (b = false ∧ compGo tg sg tst elt xs m1 = some (.ok ys, m'))) := by
  unfold compGo at h
  obtain ⟨sg', m0, h1, h2⟩ := bnd_some h
  obtain ⟨h3, h4⟩ := opt_some_inv h1
  subst h4
  obtain ⟨w, m1, h5, h6⟩ := bnd_some h2
  cases w with
  | bl b =>
    refine ⟨sg', b, m1, h3, h5, ?_⟩
    cases b with
    | true =>
      obtain ⟨y, m2, h7, h8⟩ := bnd_some h6
      obtain ⟨zs, m3, h9, h10⟩ := bnd_some h8
      cases h10
      exact .inl ⟨rfl, y, m2, zs, h7, h9, rfl⟩
    | false => exact .inr ⟨rfl, h6⟩
  | _ => cases h6
theorem den_of {α : Type} {N : En} {ρ m H WW} {r : Option (Res α × Hm)} {a : α} {m' : Hm} {P : α → (Nat → Addr) → Hm → Hp → Prop} (e : r = some (.ok a, m')) (h : ∀ ρ' H', Ext N ρ m.length H ρ' m'.length H' → Rl N ρ' m' H' → P a ρ' m' H') : Den N ρ m H WW r P := by
  rw [e]; exact h
theorem comp_reads {elt' src' cond' : E} {t : Tg} {vs : List Nat} (hix : ∀ j ∈ t.ix, j ∈ vs) (σ : L2.St) (H : Hp) (Q : VK) (h : tE T N C (.comp elt' t src' cond' vs) Wx σ H Q) :
    tLc (tI T N C src' Wx) (gT N t) (tT T N C cond' fun _ _ _ _ => False) (tE T N C elt' fun _ _ _ _ => False) vs σ H Q := by
  obtain ⟨F, ρ, m, sg, R, S, D⟩ := h
  rw [evE] at D
  refine ⟨F, ρ, m, sg, R, S, (Den.bind D).imp fun ws ρ1 m1 H1 e1 R1 D1 J hz hJ Da hD => ?_⟩
  -- the whole run
  have hrun : ∃ ys mend, compGo t (wipeW sg vs) (evE T C cond') (evE T C elt') ws m1 = some (.ok ys, mend) ∧
      ∀ ρ' H', Ext (N.wF F) ρ1 m1.length H1 ρ' mend.length H' → Rl (N.wF F) ρ' mend H' → ∀ v, RV (N.wF F) ρ' mend.length H' (.lst ys) v → Q v H' := by
    have D2 := Den.bind D1
    unfold Den WM.noExc at D2
    cases e : compGo t (wipeW sg vs) (evE T C cond') (evE T C elt') ws m1 with
    | none => rw [e] at D2; exact False.elim D2
    | some p =>
      obtain ⟨r, mend⟩ := p
      rw [e] at D2
      cases r with
      | ok ys => exact ⟨ys, mend, rfl, fun ρ' H' e' R' v rv => D2 ρ' H' e' R' ρ' H' Ext.refl R' v rv⟩
      | exc y => exact False.elim D2
  obtain ⟨ys, mend, hrun, hend⟩ := hrun
  have S1 := S.mono e1
  refine ⟨fun i n H2 => n = ws.length - i ∧ i ≤ ws.length ∧ ∃ ρ2 m2 acc vacc rest, Ext (N.wF F) ρ1 m1.length H1 ρ2 m2.length H2 ∧ Tr (N.wF F) ρ1 m1.length H1 ((N.wF F).plus Da) ρ2 m2.length H2 ∧ Rl ((N.wF F).plus Da) ρ2 m2 H2 ∧
      H2 Da = some (.lst vacc) ∧ RVs ((N.wF F).plus Da) ρ2 m2.length H2 acc vacc ∧ acc.length ≤ i ∧
      compGo t (wipeW sg vs) (evE T C cond') (evE T C elt') (ws.drop i) m2 = some (.ok rest, mend) ∧ ys = acc ++ rest,
    ⟨ws.length, rfl, Nat.zero_le _, ρ1, m1, [], [], ys, Ext.first R1 hD Ext.refl, Tr.plus hD, R1.plus hD, upd_same, rfl, Nat.le_refl _, hrun, rfl⟩, ?_⟩
  rintro i n H2 ⟨rfl, hi, ρ2, m2, acc, vacc, rest, e2, tr2, R2, hDa, hacc, hlen, hgo, hys⟩
  have hsrc := hJ _ ρ2 m2 H2 tr2 R2 i
  by_cases hlt : i < ws.length
  · obtain ⟨hgo1, hyld⟩ := hsrc.1 ws[i] (List.getElem?_eq_getElem hlt)
    rw [List.drop_eq_getElem_cons hlt] at hgo
    obtain ⟨sg', b, m3, ha, hb, hrest⟩ := comp_turn hgo
    refine .inr ⟨hgo1, fun H' => ∃ n', n' < ws.length - i ∧ (n' = ws.length - (i + 1) ∧ i + 1 ≤ ws.length ∧ ∃ ρ2 m2 acc vacc rest, Ext (N.wF F) ρ1 m1.length H1 ρ2 m2.length H' ∧ Tr (N.wF F) ρ1 m1.length H1 ((N.wF F).plus Da) ρ2 m2.length H' ∧ Rl ((N.wF F).plus Da) ρ2 m2 H' ∧
      H' Da = some (.lst vacc) ∧ RVs ((N.wF F).plus Da) ρ2 m2.length H' acc vacc ∧ acc.length ≤ i + 1 ∧
      compGo t (wipeW sg vs) (evE T C cond') (evE T C elt') (ws.drop (i + 1)) m2 = some (.ok rest, mend) ∧ ys = acc ++ rest), fun H' z => z, fun x H3 hy => ?_⟩
    obtain ⟨R3, e3, rx⟩ := hyld x H3 hy
    have tr3 := tr2.trans (Tr.of e3)
    have S3 : RS ((N.wF F).plus Da) ρ2 m2.length H3 (wipeW sg vs) (L2.wipe σ vs) := (S1.tr tr3).wipe vs
    have hDa3 : H3 Da = some (.lst vacc) := by rw [e3.keepF Da (.inr rfl)]; exact hDa
    refine ⟨_, ρ2, m2, wipeW sg vs, ws[i], sg', R3, S3, rx, ha, fun σ2 S4 o => ⟨wipe_oth o hix, ?_⟩⟩
    refine ⟨_, ρ2, m2, sg', R3, S4, den_of hb fun ρ4 H4 e4 R4 => ⟨b, rfl, ?_⟩⟩
    have hDa4 : H4 Da = some (.lst vacc) := by rw [e4.keepF Da (.inr rfl)]; exact hDa3
    have tr4 := tr3.trans (Tr.of e4)
    have ext4 : Ext (N.wF F) ρ1 m1.length H1 ρ4 m3.length H4 := by
      have q : Ext ((N.wF F).plus Da) ρ2 m2.length H2 ρ4 m3.length H4 := e3.trans e4
      refine ⟨Nat.le_trans e2.le q.le, fun n hn => (q.rho n (Nat.lt_of_lt_of_le hn e2.le)).trans (e2.rho n hn), fun a u hu hn => ?_, fun a hf => ?_, fun n hn hu => ?_, fun n hn hn' => ?_⟩
      · exact q.keep a u (e2.keep a u hu hn) ((e2.nl hu hn).plus (ne_of_none hu hD))
      · rw [q.keepF a (.inl hf)]; exact e2.keepF a hf
      · have z := q.lv n (Nat.lt_of_lt_of_le hn e2.le)
        rw [e2.rho n hn] at z
        exact z (e2.lv n hn hu)
      · by_cases hk : n < m2.length
        · rw [q.rho n hk]; exact e2.fresh n hn hk
        · have z := q.fresh n (Nat.le_of_not_lt hk) hn'
          cases y : H1 (ρ4 n) with
          | none => rfl
          | some u =>
            by_cases hf : (N.wF F).F (ρ4 n)
            · rw [e2.keepF _ hf, y] at z; cases z
            by_cases hnl : ∀ j, j < m1.length → ρ1 j ≠ ρ4 n
            · rw [e2.keep _ u y ⟨hnl, hf⟩] at z; cases z
            · have ⟨j, h3, h4⟩ : ∃ j, j < m1.length ∧ ρ1 j = ρ4 n := by
                simp only [Classical.not_forall] at hnl
                obtain ⟨j, h3, h4⟩ := hnl
                exact ⟨j, h3, Classical.not_not.mp h4⟩
              have r := e2.lv j h3
              rw [h4, y] at r
              exact absurd z (r (by simp))
    rcases hrest with ⟨rfl, y, m5, zs, hy5, hz5, hr5⟩ | ⟨rfl, hz5⟩
    · refine iteT ⟨_, ρ4, m3, sg', R4, S4.mono e4, den_of hy5 fun ρ5 H5 e5 R5 v rv => ?_⟩
      have hDa5 : H5 Da = some (.lst vacc) := by rw [e5.keepF Da (.inr rfl)]; exact hDa4
      have hacc5 := RVs.mono e5 _ _ (RVs.mono e4 _ _ (RVs.mono e3 _ _ hacc))
      refine ⟨vacc, hDa5, ?_, ws.length - (i + 1), by omega, rfl, hlt, ρ5, m5, acc ++ [y], vacc ++ [v], zs, ?_, (tr4.trans (Tr.of e5)).trans (Tr.turn (N := N.wF F) (D := Da)), Rl.turn (N := N.wF F) (D := Da) R5, upd_same, RVs.turn (N := N.wF F) (D := Da) _ _ (hacc5.append ⟨v, [], rfl, rv, rfl⟩), ?_, hz5, ?_⟩
      · rw [← hacc5.len]; omega
      · have q : Ext (N.wF F) ρ1 m1.length H1 ρ5 m5.length H5 := by
          refine ⟨Nat.le_trans ext4.le e5.le, fun n hn => (e5.rho n (Nat.lt_of_lt_of_le hn ext4.le)).trans (ext4.rho n hn), fun a u hu hn => ?_, fun a hf => ?_, fun n hn hu => ?_, fun n hn hn' => ?_⟩
          · exact e5.keep a u (ext4.keep a u hu hn) ((ext4.nl hu hn).plus (ne_of_none hu hD))
          · rw [e5.keepF a (.inl hf)]; exact ext4.keepF a hf
          · have z := e5.lv n (Nat.lt_of_lt_of_le hn ext4.le)
            rw [ext4.rho n hn] at z
            exact z (ext4.lv n hn hu)
          · by_cases hk : n < m3.length
            · rw [e5.rho n hk]; exact ext4.fresh n hn hk
            · have z := e5.fresh n (Nat.le_of_not_lt hk) hn'
              cases y : H1 (ρ5 n) with
              | none => rfl
              | some u =>
                by_cases hf : (N.wF F).F (ρ5 n)
                · rw [ext4.keepF _ hf, y] at z; cases z
                by_cases hnl : ∀ j, j < m1.length → ρ1 j ≠ ρ5 n
                · rw [ext4.keep _ u y ⟨hnl, hf⟩] at z; cases z
                · have ⟨j, h3, h4⟩ : ∃ j, j < m1.length ∧ ρ1 j = ρ5 n := by
                    simp only [Classical.not_forall] at hnl
                    obtain ⟨j, h3, h4⟩ := hnl
                    exact ⟨j, h3, Classical.not_not.mp h4⟩
                  have r := ext4.lv j h3
                  rw [h4, y] at r
                  exact absurd z (r (by simp))
        exact q.last hD (R1.nF hD)
      · rw [List.length_append]; simp only [List.length_cons, List.length_nil]; omega
      · rw [hys, hr5, List.append_assoc]; rfl
    · exact iteF ⟨ws.length - (i + 1), by omega, rfl, hlt, ρ4, m3, acc, vacc, rest, ext4, tr4, R4, hDa4, RVs.mono e4 _ _ (RVs.mono e3 _ _ hacc), by omega, hz5, hys⟩
  · refine .inl ⟨hsrc.2 (Nat.le_of_not_lt hlt), ?_⟩
    rw [List.drop_eq_nil_of_le (Nat.le_of_not_lt hlt)] at hgo
    have hgo' : some (Res.ok ([] : List W), m2) = some (.ok rest, mend) := hgo
    cases hgo'
    rw [List.append_nil] at hys
    subst hys
    refine hend ρ2 H2 e2 R2.minus (.ref Da) ⟨Da, vacc, rfl, ⟨?_, hDa, ?_⟩, RVs.minus _ _ hacc⟩
    · rw [← hacc.len]; omega
    · exact ⟨fun n hn z => R2.nf n hn (.inr z), R1.nF hD⟩
end
end WM
namespace WM
open PySem PySem.Spec PyProof.Rows L2

def SOk (N : En) (Wx : WX) (D : Ends) : SO → (Nat → Addr) → Nat → Hp → L2.St → Prop
  | .nx, _, _, H, σ => D.nx σ H
  | .brk, _, _, H, σ => D.bk σ H
  | .cnt, _, _, H, σ => D.ct σ H
  | .rt w, ρ, k, H, _ => ∀ v, RV N ρ k H w v → D.rt v H
  | .ex x, ρ, k, H, σ => ∀ d, RX N ρ k H x d → Wx (.ref (N.ca x.c)) d σ H
def DenS (N : En) (ρ : Nat → Addr) (m : Hm) (H : Hp) (Wx : WX) (D : Ends) (r : Option (SO × Sg × Hm)) : Prop :=
  match r with
  | none => False
  | some (o, sg', m') => ∀ ρ' H' σ', Ext N ρ m.length H ρ' m'.length H' → Rl N ρ' m' H' → RS N ρ' m'.length H' sg' σ' → SOk N Wx D o ρ' m'.length H' σ'
def tSs (T : Tab) (N : En) (C : Calls) (ss : List S) (Wx : WX) : TS := fun D σ H => ∃ F ρ m sg, Rl (N.wF F) ρ m H ∧ RS (N.wF F) ρ m.length H sg σ ∧ DenS (N.wF F) ρ m H Wx D (evSs T C ss sg m)
def tS (T : Tab) (N : En) (C : Calls) (s : S) (Wx : WX) : TS := fun D σ H => ∃ F ρ m sg, Rl (N.wF F) ρ m H ∧ RS (N.wF F) ρ m.length H sg σ ∧ DenS (N.wF F) ρ m H Wx D (evS T C s sg m)

section
variable {T : Tab} {N : En} {C : Calls} {X : Cx} {Wx : WX}
theorem DenS.lft {α : Type} {ρ m H D sg σ} {x : M α} {k : α → MS} (h : DenS N ρ m H Wx D (WM.lft x sg k m)) (S : RS N ρ m.length H sg σ) :
    Den N ρ m H (WS N Wx σ) (x m) (fun a ρ' m' H' => DenS N ρ' m' H' Wx D (k a m')) := by
  unfold WM.lft at h
  cases e : x m with
  | none => rw [e] at h; exact h
  | some p =>
    obtain ⟨r, m'⟩ := p
    rw [e] at h
    cases r with
    | exc y => exact fun ρ' H' e' R' => h ρ' H' σ e' R' (S.mono e')
    | ok a =>
      intro ρ' H' ext rl
      have h' : DenS N ρ m H Wx D (k a m') := h
      unfold DenS at h' ⊢
      cases e2 : k a m' with
      | none => rw [e2] at h'; exact h'
      | some q =>
        obtain ⟨o, sg', m2⟩ := q
        rw [e2] at h'
        exact fun ρ2 H2 σ2 e3 R2 S2 => h' ρ2 H2 σ2 (ext.trans e3) R2 S2
theorem DenS.nx {ρ m H D sg σ} (h : DenS N ρ m H Wx D (some (.nx, sg, m))) (R : Rl N ρ m H) (S : RS N ρ m.length H sg σ) : D.nx σ H := h ρ H σ Ext.refl R S
theorem sim_pass {pos} : PS X (.Pass pos) (tS T N C .pass Wx) := ps_pass.imp fun D σ H ⟨F, ρ, m, sg, R, S, h⟩ => by
  rw [evS] at h; exact h.nx R S
theorem sim_brk {pos} : PS X (.Break pos) (tS T N C .brk Wx) := ps_break.imp fun D σ H ⟨F, ρ, m, sg, R, S, h⟩ => by
  rw [evS] at h; exact h ρ H σ Ext.refl R S
theorem sim_cnt {pos} : PS X (.Continue pos) (tS T N C .cnt Wx) := ps_continue.imp fun D σ H ⟨F, ρ, m, sg, R, S, h⟩ => by
  rw [evS] at h; exact h ρ H σ Ext.refl R S
theorem sim_doc {x j pos pos'} : PS X (.Expr (.Constant (.str x) j pos) pos') (tS T N C .pass Wx) := ps_doc.imp fun D σ H ⟨F, ρ, m, sg, R, S, h⟩ => by
  rw [evS] at h; exact h.nx R S
def notComp : Expr → Bool
  | .ListComp .. => false
  | .SetComp .. => false
  | .DictComp .. => false
  | _ => true
theorem nosw {e : Expr} {t : Option Expr} {l : Nat} {env : Env} (h : notComp e = true) : swapsWith e t l env = pure false := by
  cases e <;> first | rfl | cases h
theorem sim_expr {e : Expr} {e' : E} {pos} (he : PE X e (tE T N C e' Wx)) (hn : notComp e = true) : PS X (.Expr e pos) (tS T N C (.expr e') Wx) := by
  refine (ps_expr he (nosw hn)).imp fun D σ H ⟨F, ρ, m, sg, R, S, h⟩ => ?_
  rw [evS] at h
  exact tE.mk R S (h.lft S) fun w ρ1 m1 H1 v e1 R1 D1 rv => DenS.nx D1 R1 (S.mono e1)
theorem sim_ret {e : Expr} {e' : E} {pos} (he : PE X e (tE T N C e' Wx)) : PS X (.Return (some e) pos) (tS T N C (.ret e') Wx) := by
  refine (ps_ret he).imp fun D σ H ⟨F, ρ, m, sg, R, S, h⟩ => ?_
  rw [evS] at h
  exact tE.mk R S (h.lft S) fun w ρ1 m1 H1 v e1 R1 D1 rv => D1 ρ1 H1 σ Ext.refl R1 (S.mono e1) v rv
theorem sim_retN {pos} : PS X (.Return none pos) (tS T N C .retN Wx) := by
  refine ps_retN.imp fun D σ H ⟨F, ρ, m, sg, R, S, h⟩ => ?_
  rw [evS] at h
  exact h ρ H σ Ext.refl R S _ rfl
/-! ### assignments -/
theorem asg_reads {e' : E} {t : Tg} (D : Ends) (σ : L2.St) (H : Hp) (h : tS T N C (.set t e') Wx D σ H) : tAsg (tE T N C e' Wx) (gT N t) D σ H := by
  obtain ⟨F, ρ, m, sg, R, S, h⟩ := h
  rw [evS] at h
  refine tE.mk R S (h.lft S) fun w ρ1 m1 H1 v e1 R1 D1 rv => ?_
  cases ea : asgT t w sg with
  | none => rw [ea] at D1; exact False.elim D1
  | some sg' =>
    rw [ea] at D1
    exact ⟨F, ρ1, m1, sg, w, sg', R1, S.mono e1, rv, ea, fun σ' S' _ => DenS.nx D1 R1 S'⟩
theorem sole_false {tg e : Expr} {l : Nat} {env : Env} (h : notComp e = true) : swapsWithSole [tg] e l env = pure false := nosw h
theorem sim_set {tg e : Expr} {e' : E} {t : Tg} {pos} (he : PE X e (tE T N C e' Wx)) (hg : PG X tg (gT N t)) (hs : swapsWithSole [tg] e pos.line X.env = pure false) (hw : swappedStores [tg] e X.env = pure none) (ns : notStar tg = true) :
    PS X (.Assign [tg] e pos) (tS T N C (.set t e') Wx) :=
  (ps_asg he hg hs hw (star_cons_asg ns)).imp asg_reads
theorem par_reads2 {a' b' : E} {i j : Nat} (D : Ends) (σ : L2.St) (H : Hp) (h : tS T N C (.par [i, j] [a', b']) Wx D σ H) : tPar i j (tEs T N C [a', b'] Wx) D σ H := by
  obtain ⟨F, ρ, m, sg, R, S, h⟩ := h
  rw [evS] at h
  refine tEs.mk R S (h.lft S) fun ws ρ1 m1 H1 vs e1 R1 D1 rv => ?_
  match ws, rv, D1 with
  | [x, y], rv, D1 =>
    obtain ⟨v, u, ev, h1, h2⟩ := RVs.two rv
    exact ⟨v, u, ev, DenS.nx D1 R1 (((S.mono e1).set i h1).set j h2)⟩
  | [], _, D1 => exact False.elim D1
  | [_], _, D1 => exact False.elim D1
  | _ :: _ :: _ :: _, _, D1 => exact False.elim D1
theorem par_reads3 {a' b' c' : E} {i j l : Nat} (D : Ends) (σ : L2.St) (H : Hp) (h : tS T N C (.par [i, j, l] [a', b', c']) Wx D σ H) : tPar3 i j l (tEs T N C [a', b', c'] Wx) D σ H := by
  obtain ⟨F, ρ, m, sg, R, S, h⟩ := h
  rw [evS] at h
  refine tEs.mk R S (h.lft S) fun ws ρ1 m1 H1 vs e1 R1 D1 rv => ?_
  match ws, rv, D1 with
  | [x, y, z], rv, D1 =>
    obtain ⟨v, r, ev, h1, h2⟩ := rv
    obtain ⟨u, t, eu, h3, h4⟩ := RVs.two h2
    exact ⟨v, u, t, by rw [ev, eu], DenS.nx D1 R1 ((((S.mono e1).set i h1).set j h3).set l h4)⟩
  | [], _, D1 => exact False.elim D1
  | [_], _, D1 => exact False.elim D1
  | [_, _], _, D1 => exact False.elim D1
  | _ :: _ :: _ :: _ :: _, _, D1 => exact False.elim D1
def augP : Bop → Option Operator
  | .add => some .Add
  | .sub => some .Sub
  | _ => none
theorem sim_aug {i : Nat} {x : Str} {e : Expr} {e' : E} {o : Bop} {op : Operator} {pos' pos} (hN : X.N.Nodup) (hi : X.N[i]? = some x) (hx : Loc X.env.scope x) (hf : X.fn x = true ∨ X.env.scope.names.lookup x = some .local)
    (he : PE X e (tE T N C e' Wx)) (ho : augP o = some op) : PS X (.AugAssign (.Name x pos') op e pos) (tS T N C (.aug i o e') Wx) := by
  have go : ∀ (g : Int → Int → Int), PIp X op (ipI g) → (∀ x y w, augW o x y = some w → ∃ i j, x = .int i ∧ y = .int j ∧ w = .int (g i j)) → PS X (.AugAssign (.Name x pos') op e pos) (tS T N C (.aug i o e') Wx) := by
    intro g hp hg
    refine (ps_aug hN hi hx he hp hf).imp fun D σ H ⟨F, ρ, m, sg, R, S, h⟩ => ?_
    rw [evS] at h
    cases es : sg[i]? with
    | none => rw [es] at h; exact False.elim h
    | some z =>
      rw [es] at h
      cases z with
      | none => exact False.elim h
      | some w0 =>
        obtain ⟨v0, h1, h2⟩ := S.2 i w0 es
        refine ⟨v0, h1, ?_⟩
        have h' : DenS (N.wF F) ρ m H Wx D (WM.lft (bnd (evE T C e' sg) fun y => WM.opt (augW o w0 y)) sg (fun w m => some (.nx, sg.set i (some w), m)) m) := h
        refine tE.mk R S (Den.bind (h'.lft S)) fun y ρ1 m1 H1 v e1 R1 D1 rv => ?_
        obtain ⟨w, hw, D2⟩ := D1.opt
        obtain ⟨a, b, ea, eb, ew⟩ := hg _ _ _ hw
        subst ea eb ew
        exact ⟨a, b, h2, rv, DenS.nx (Den.ret R1 D2) R1 ((S.mono e1).set i (show RV (N.wF F) ρ1 m1.length H1 (.int (g a b)) (.int (g a b)) from rfl))⟩
  cases o with
  | add =>
    cases ho
    refine go (fun i j => i + j) ip_add fun x y w hw => ?_
    cases x <;> cases y <;> first | (simp [augW] at hw; done) | (simp only [augW, Option.some.injEq] at hw; exact ⟨_, _, rfl, rfl, hw.symm⟩)
  | sub =>
    cases ho
    refine go (fun i j => i - j) ip_sub fun x y w hw => ?_
    cases x <;> cases y <;> first | (simp [augW] at hw; done) | (simp only [augW, Option.some.injEq] at hw; exact ⟨_, _, rfl, rfl, hw.symm⟩)
  | _ => cases ho
def notSlice : Expr → Bool
  | .Slice .. => false
  | _ => true
theorem plainIx {b : Expr} (h : notSlice b = true) : PlainIx b := by
  intro o i
  cases b <;> first | rfl | cases h
theorem bnd3 {ρ m H WW} {α β γ : Type} {x : M α} {y : M β} {f : α → β → M γ} {P : γ → (Nat → Addr) → Hm → Hp → Prop} (D : Den N ρ m H WW (bnd x (fun a => bnd y fun b => f a b) m) P) :
    Den N ρ m H WW (x m) (fun a ρ1 m1 H1 => Den N ρ1 m1 H1 WW (y m1) (fun b ρ2 m2 H2 => Den N ρ2 m2 H2 WW (f a b m2) P)) :=
  (Den.bind D).imp fun a ρ1 m1 H1 _ _ D1 => Den.bind D1
theorem sim_setI {o i e : Expr} {o' i' e' : E} {p2 pos} (ho : PE X o (tE T N C o' Wx)) (hi : PE X i (tE T N C i' Wx)) (he : PE X e (tE T N C e' Wx)) (hn : notComp e = true) (hsl : notSlice i = true) :
    PS X (.Assign [.Subscript o i p2] e pos) (tS T N C (.setI o' i' e') Wx) := by
  have hg : PG X (.Subscript o i p2) (gSub (tE T N C o' Wx) (tE T N C i' Wx) rSetL) := pg_sub ho hi set_list (fun v => by
    cases i <;> first | rfl | cases hsl)
  have hw : swappedStores [.Subscript o i p2] e X.env = pure none := by cases e <;> rfl
  refine (ps_asg he hg (sole_false hn) hw rfl).imp fun D σ H ⟨F, ρ, m, sg, R, S, h⟩ => ?_
  rw [evS] at h
  refine tE.mk R S (Den.bind (h.lft S)) fun y ρ1 m1 H1 v e1 R1 D1 rv => ?_
  refine tE.mk R1 (S.mono e1) (Den.bind D1) fun x ρ2 m2 H2 u e2 R2 D2 ru => ?_
  refine tE.mk R2 (S.mono (e1.trans e2)) (Den.bind D2) fun k ρ3 m3 H3 t e3 R3 D3 rt => ?_
  cases x with
  | ref n =>
    cases k with
    | int j =>
      have D4 : Den (N.wF F) ρ3 m3 H3 (WS (N.wF F) Wx σ) (match hget m3 n with
        | some (.lst xs) => match ixN xs.length j with
          | some q => some (Res.ok W.non, hset m3 n (.lst (xs.set q y)))
          | none => none
        | _ => none) (fun _ ρ' m' H' => DenS (N.wF F) ρ' m' H' Wx D (some (.nx, sg, m'))) := D3
      have ru3 := RV.mono e3 _ _ ru
      cases hq : hget m3 n with
      | none => rw [hq] at D4; exact False.elim D4
      | some ob =>
        rw [hq] at D4
        cases ob with
        | lst xs =>
          obtain ⟨vs, h1, h2, h3⟩ := R3.obj _ _ hq
          cases hx : ixN xs.length j with
          | none => dsimp only at D4; rw [hx] at D4; exact False.elim D4
          | some q =>
            dsimp only at D4
            rw [hx] at D4
            have rv3 := RV.mono (e2.trans e3) _ _ rv
            have ex := Ext.write (o := .lst (vs.set q v)) R3 ru3.1
            have Rw : Rl (N.wF F) ρ3 (hset m3 n (.lst (xs.set q y))) (upd H3 (ρ3 n) (.lst (vs.set q v))) :=
              R3.write ru3.1 ⟨_, upd_same, by rw [List.length_set]; exact h2, RVs.mono ex _ _ (h3.set rv3 q)⟩
            have ex' : Ext (N.wF F) ρ3 m3.length H3 ρ3 (hset m3 n (.lst (xs.set q y))).length (upd H3 (ρ3 n) (.lst (vs.set q v))) := by rw [hset_length]; exact ex
            refine ⟨ρ3 n, vs, j, q, ru3.2, rt, h1, by rw [← h3.len]; exact hx, ?_⟩
            exact DenS.nx (D4 ρ3 _ ex' Rw) Rw (S.mono (((e1.trans e2).trans e3).trans ex'))
        | _ => exact False.elim D4
    | _ => exact False.elim D3
  | _ => exact False.elim D3
/-! ### o.append(e) -/
def plainBase : Expr → Bool
  | .Call .. => false
  | _ => true
theorem base_ok {o : Expr} {a : Str} {env : Env} (h : plainBase o = true) : attributeBase o a env (eval o env) = eval o env := by
  cases o <;> first | rfl | cases h
theorem lstM_inv {x : W} {m : Hm} {r : Res Unit × Hm} (h : lstM x m = some r) : ∃ n xs, x = .ref n ∧ hget m n = some (.lst xs) ∧ r = (.ok (), m) := by
  cases x with
  | ref n =>
    have h' : (match hget m n with | some (.lst _) => some (Res.ok (), m) | _ => none) = some r := h
    cases hq : hget m n with
    | none => rw [hq] at h'; cases h'
    | some ob =>
      rw [hq] at h'
      cases ob with
      | lst xs => cases h'; exact ⟨n, xs, rfl, hq, rfl⟩
      | _ => cases h'
  | _ => cases h
theorem Den.lstM {α : Type} {ρ m H WW} {x : W} {f : Unit → M α} {P : α → (Nat → Addr) → Hm → Hp → Prop} (D : Den N ρ m H WW (bnd (WM.lstM x) f m) P) :
    ∃ n xs, x = .ref n ∧ hget m n = some (.lst xs) ∧ Den N ρ m H WW (f () m) P := by
  cases e : WM.lstM x m with
  | none =>
    unfold bnd at D
    rw [e] at D
    exact False.elim D
  | some r =>
    obtain ⟨n, xs, h1, h2, h3⟩ := lstM_inv e
    subst h3
    rw [bnd_at e] at D
    exact ⟨n, xs, h1, h2, D⟩
theorem sim_app {o e : Expr} {o' e' : E} {apos cpos pos : Pos} (hK : X.K = N.K) (ho : PE X o (tE T N C o' Wx)) (he : PE X e (tE T N C e' Wx)) (hb : plainBase o = true) (ns : notStar e = true) (hl : (apos.endLine == cpos.line) = true) :
    PS X (.Expr (.Call (.Attribute o "append" apos) [e] [] cpos) pos) (tS T N C (.app o' e') Wx) := by
  have hfew : ((backTo cpos (starEach [e] X.env)).all (fun x => !x.1) && (backToKw cpos (keywordEach [] X.env)).all (fun x => x.1.isSome)
      && decide ([e].length + ([] : List Keyword).length + (if ([] : List Keyword).isEmpty then 0 else 1) < 30)) = true := by
    rw [star_cons ns]; rfl
  have hc := pe_bm (cpos := cpos) (apos := apos) (X := X) PySem.F.plainAttrs_list PySem.F.slot_list_append PySem.F.type_list_append mt_append ho (pa_cons he pa_nil (star_cons ns)) (base_ok hb) hfew hl (star_cons ns) rfl
  rw [hK] at hc
  refine (ps_expr hc rfl).imp fun D σ H ⟨F, ρ, m, sg, R, S, h⟩ => ?_
  rw [evS] at h
  refine tE.mk R S (Den.bind (h.lft S)) fun x ρ1 m1 H1 u e1 R1 D1 ru => ?_
  obtain ⟨n, xs0, ex, hq0, D2⟩ := Den.lstM D1
  obtain ⟨vs0, hv0, _⟩ := R1.obj _ _ hq0
  subst ex
  refine ⟨?_, ?_⟩
  · rw [ru.2]
    exact .inl ⟨rfl, vs0, SqL.of hv0⟩
  refine tE.mk R1 (S.mono e1) (Den.bind D2) fun y ρ2 m2 H2 v e2 R2 D3 rv => ?_
  have ru2 := RV.mono e2 _ _ ru
  have D4 : Den (N.wF F) ρ2 m2 H2 (WS (N.wF F) Wx σ) (match hget m2 n with
    | some (.lst xs) => if szOk (xs.length + 1) then some (Res.ok W.non, hset m2 n (.lst (xs ++ [y]))) else none
    | _ => none) (fun _ ρ' m' H' => DenS (N.wF F) ρ' m' H' Wx D (some (.nx, sg, m'))) := D3
  cases hq : hget m2 n with
  | none => rw [hq] at D4; exact False.elim D4
  | some ob =>
    rw [hq] at D4
    cases ob with
    | lst xs =>
      obtain ⟨vs, h1, h2, h3⟩ := R2.obj _ _ hq
      dsimp only at D4
      by_cases hz : szOk (xs.length + 1) = true
      · rw [if_pos hz] at D4
        have hl : vs.length + 1 ≤ sizeLine := by rw [← h3.len]; exact sz_ok hz
        have ex := Ext.write (o := .lst (vs ++ [v])) R2 ru2.1
        have Rw : Rl (N.wF F) ρ2 (hset m2 n (.lst (xs ++ [y]))) (upd H2 (ρ2 n) (.lst (vs ++ [v]))) :=
          R2.write ru2.1 ⟨_, upd_same, by rw [List.length_append]; exact hl, RVs.mono ex _ _ (h3.append ⟨v, [], rfl, rv, rfl⟩)⟩
        have ex' : Ext (N.wF F) ρ2 m2.length H2 ρ2 (hset m2 n (.lst (xs ++ [y]))).length (upd H2 (ρ2 n) (.lst (vs ++ [v]))) := by rw [hset_length]; exact ex
        exact ⟨ρ2 n, vs, v, ru2.2, rfl, h1, hl, DenS.nx (D4 ρ2 _ ex' Rw) Rw (S.mono ((e1.trans e2).trans ex'))⟩
      · rw [if_neg hz] at D4; exact False.elim D4
    | _ => exact False.elim D4
end
end WM
namespace WM
open PySem PySem.Spec PyProof.Rows L2

section
variable {T : Tab} {N : En} {C : Calls} {X : Cx} {Wx : WX}
theorem DenS.shift {ρ m H ρ' m' H' D r} (h : DenS N ρ m H Wx D r) (e : Ext N ρ m.length H ρ' m'.length H') : DenS N ρ' m' H' Wx D r := by
  unfold DenS at h ⊢
  cases r with
  | none => exact h
  | some p =>
    obtain ⟨o, sg, m2⟩ := p
    exact fun ρ2 H2 σ2 e2 R2 S2 => h ρ2 H2 σ2 (e.trans e2) R2 S2
theorem sim_snil : PSs X [] (tSs T N C [] Wx) := by
  refine pss_nil.imp fun D σ H ⟨F, ρ, m, sg, R, S, h⟩ => ?_
  rw [evSs] at h
  exact h.nx R S
theorem sim_scons {st : Stmt} {rest : List Stmt} {s : S} {ss : List S} (h1 : PS X st (tS T N C s Wx)) (h2 : PSs X rest (tSs T N C ss Wx)) : PSs X (st :: rest) (tSs T N C (s :: ss) Wx) := by
  refine (pss_cons h1 h2).imp fun D σ H ⟨F, ρ, m, sg, R, S, h⟩ => ?_
  rw [evSs] at h
  replace h : DenS (N.wF F) ρ m H Wx D (thenS (evS T C s sg m) (evSs T C ss)) := h
  refine ⟨F, ρ, m, sg, R, S, ?_⟩
  cases e : evS T C s sg m with
  | none => rw [e] at h; exact h
  | some p =>
    obtain ⟨o, sg', m'⟩ := p
    rw [e] at h
    cases o with
    | nx => exact fun ρ' H' σ' e' R' S' => ⟨F, ρ', m', sg', R', S', DenS.shift h e'⟩
    | brk => exact h
    | cnt => exact h
    | rt w => exact h
    | ex x => exact h
theorem sim_ifs {c : Expr} {a b : List Stmt} {c' : E} {a' b' : List S} {pos} (hc : PT X c (tT T N C c' Wx)) (ha : PSs X a (tSs T N C a' Wx)) (hb : PSs X b (tSs T N C b' Wx)) : PS X (.If c a b pos) (tS T N C (.ife c' a' b') Wx) := by
  refine (ps_if hc ha hb).imp fun D σ H ⟨F, ρ, m, sg, R, S, h⟩ => ?_
  rw [evS] at h
  refine tT.mk R S (h.lft S) fun x ρ1 m1 H1 e1 R1 D1 => ?_
  cases x with
  | bl c =>
    cases c with
    | true => exact ⟨true, rfl, iteT ⟨F, ρ1, m1, sg, R1, S.mono e1, D1⟩⟩
    | false => exact ⟨false, rfl, iteF ⟨F, ρ1, m1, sg, R1, S.mono e1, D1⟩⟩
  | _ => exact False.elim D1
/-- a loop's turn, under what is wanted behind it -/
theorem DenS.turn {ρ m H D r k} {Nx : L2.St → Hp → Prop} (h : DenS N ρ m H Wx D (turnS r k))
    (hk : ∀ sg' m' ρ' H' σ', Ext N ρ m.length H ρ' m'.length H' → Rl N ρ' m' H' → RS N ρ' m'.length H' sg' σ' → DenS N ρ' m' H' Wx D (k sg' m') → Nx σ' H') :
    DenS N ρ m H Wx { D with nx := Nx, ct := Nx, bk := D.nx } r := by
  cases r with
  | none => exact h
  | some p =>
    obtain ⟨o, sg', m'⟩ := p
    cases o with
    | nx => exact fun ρ' H' σ' e' R' S' => hk sg' m' ρ' H' σ' e' R' S' (DenS.shift h e')
    | cnt => exact fun ρ' H' σ' e' R' S' => hk sg' m' ρ' H' σ' e' R' S' (DenS.shift h e')
    | brk => exact h
    | rt w => exact h
    | ex x => exact h
theorem loop_reads {src : E} {t : Tg} {body : List S} (D : Ends) (σ : L2.St) (H : Hp) (h : tS T N C (.loop t src body) Wx D σ H) : tFor (tI T N C src Wx) (gT N t) (tSs T N C body Wx) D σ H := by
  obtain ⟨F, ρ, m, sg, R, S, h⟩ := h
  rw [evS] at h
  refine ⟨F, ρ, m, sg, R, S, (h.lft S).imp fun ws ρ1 m1 H1 e1 R1 D1 J hz hJ => ?_⟩
  refine ⟨fun i n σ2 H2 => n = ws.length - i ∧ i ≤ ws.length ∧ ∃ ρ2 m2 sg2, Ext (N.wF F) ρ1 m1.length H1 ρ2 m2.length H2 ∧ Rl (N.wF F) ρ2 m2 H2 ∧ RS (N.wF F) ρ2 m2.length H2 sg2 σ2 ∧
      DenS (N.wF F) ρ2 m2 H2 Wx D (loopGo t (evSs T C body) (ws.drop i) sg2 m2),
    ⟨ws.length, rfl, Nat.zero_le _, ρ1, m1, sg, Ext.refl, R1, S.mono e1, D1⟩, ?_⟩
  rintro i n σ2 H2 ⟨rfl, hi, ρ2, m2, sg2, e2, R2, S2, D2⟩
  have hsrc := hJ _ ρ2 m2 H2 (Tr.of e2) R2 i
  by_cases hlt : i < ws.length
  · obtain ⟨hgo, hyld⟩ := hsrc.1 ws[i] (List.getElem?_eq_getElem hlt)
    rw [List.drop_eq_getElem_cons hlt] at D2
    refine .inr ⟨hgo, fun σ' H' => ∃ n', n' < ws.length - i ∧ (n' = ws.length - (i + 1) ∧ i + 1 ≤ ws.length ∧ ∃ ρ2 m2 sg2, Ext (N.wF F) ρ1 m1.length H1 ρ2 m2.length H' ∧ Rl (N.wF F) ρ2 m2 H' ∧ RS (N.wF F) ρ2 m2.length H' sg2 σ' ∧
      DenS (N.wF F) ρ2 m2 H' Wx D (loopGo t (evSs T C body) (ws.drop (i + 1)) sg2 m2)), fun σ' H' z => z, fun x H3 hy => ?_⟩
    obtain ⟨R3, e3, rx⟩ := hyld x H3 hy
    have D3 := DenS.shift D2 e3
    unfold loopGo at D3
    cases ea : asgT t ws[i] sg2 with
    | none => rw [ea] at D3; exact False.elim D3
    | some sg' =>
      rw [ea] at D3
      refine ⟨F, ρ2, m2, sg2, ws[i], sg', R3, S2.mono e3, rx, ea, fun σ3 S3 _ => ⟨F, ρ2, m2, sg', R3, S3, DenS.turn D3 fun sg4 m4 ρ4 H4 σ4 e4 R4 S4 D4 => ?_⟩⟩
      exact ⟨ws.length - (i + 1), by omega, rfl, hlt, ρ4, m4, sg4, (e2.trans e3).trans e4, R4, S4, D4⟩
  · refine .inl ⟨hsrc.2 (Nat.le_of_not_lt hlt), ?_⟩
    rw [List.drop_eq_nil_of_le (Nat.le_of_not_lt hlt)] at D2
    exact DenS.nx D2 R2 S2
theorem sim_loop {tg iter : Expr} {body : List Stmt} {t : Tg} {src : E} {body' : List S} {pos} (hp : PassesOwn (model X.prog X.w) X.A X.env X.xe) (hc : X.calm = true) (hi : PI X tg iter (tI T N C src Wx)) (hg : PG X tg (gT N t))
    (hb : PSs X body (tSs T N C body' Wx)) (hs : ∀ x, foldedSetIterable iter X.env x = pure x) : PS X (.For tg iter body [] pos) (tS T N C (.loop t src body') Wx) :=
  (ps_for hp hc hi hg hb hs).imp loop_reads

/-! ### while -/
theorem whileF_mono {c : Sg → M W} {b : Sg → MS} : ∀ {n : Nat} {sg : Sg} {m : Hm} {r}, whileF c b n sg m = some r → whileF c b (n + 1) sg m = some r
  | 0, _, _, _, h => by cases h
  | n + 1, sg, m, r, h => by
    unfold whileF at h ⊢
    unfold WM.lft at h ⊢
    cases e : c sg m with
    | none => rw [e] at h; cases h
    | some p =>
      obtain ⟨q, m'⟩ := p
      rw [e] at h
      cases q with
      | exc y => exact h
      | ok w =>
        cases w with
        | bl k =>
          cases k with
          | false => exact h
          | true =>
            have h' : turnS (b sg m') (whileF c b n) = some r := h
            show turnS (b sg m') (whileF c b (n + 1)) = some r
            cases e2 : b sg m' with
            | none => rw [e2] at h'; cases h'
            | some p2 =>
              obtain ⟨o, sg2, m2⟩ := p2
              rw [e2] at h'
              cases o with
              | nx => exact whileF_mono (n := n) h'
              | cnt => exact whileF_mono (n := n) h'
              | _ => exact h'
        | _ => cases h
theorem whileF_le {c : Sg → M W} {b : Sg → MS} {n k : Nat} {sg : Sg} {m : Hm} {r} (h : whileF c b n sg m = some r) (hk : n ≤ k) : whileF c b k sg m = some r := by
  induction hk with
  | refl => exact h
  | step _ ih => exact whileF_mono ih
theorem whileL_some {c : Sg → M W} {b : Sg → MS} {n : Nat} {sg : Sg} {m : Hm} {r} (h : whileF c b n sg m = some r) : whileL c b sg m = some r := by
  unfold whileL
  have hex : ∃ n, ∃ r, whileF c b n sg m = some r := ⟨n, r, h⟩
  rw [dif_pos hex]
  obtain ⟨r', h'⟩ := hex.choose_spec
  have h1 := whileF_le h (Nat.le_max_left n hex.choose)
  have h2 := whileF_le h' (Nat.le_max_right n hex.choose)
  rw [h1] at h2
  cases h2
  exact h'
theorem whileL_inv {c : Sg → M W} {b : Sg → MS} {sg : Sg} {m : Hm} {r} (h : whileL c b sg m = some r) : ∃ n, whileF c b n sg m = some r := by
  unfold whileL at h
  by_cases hex : ∃ n, ∃ r, whileF c b n sg m = some r
  · rw [dif_pos hex] at h
    exact ⟨_, h⟩
  · rw [dif_neg hex] at h; cases h
/-- one turn of a while -/
theorem whileL_eq (c : Sg → M W) (b : Sg → MS) (sg : Sg) (m : Hm) : whileL c b sg m = WM.lft (c sg) sg (fun w => match w with
    | .bl true => fun m => turnS (b sg m) (whileL c b)
    | .bl false => fun m => some (.nx, sg, m)
    | _ => fun _ => none) m := by
  have key : ∀ r, whileL c b sg m = some r ↔ WM.lft (c sg) sg (fun w => match w with
    | .bl true => fun m => turnS (b sg m) (whileL c b)
    | .bl false => fun m => some (.nx, sg, m)
    | _ => fun _ => none) m = some r := by
    intro r
    constructor
    · intro h
      obtain ⟨n, hn⟩ := whileL_inv h
      cases n with
      | zero => cases hn
      | succ n =>
        unfold whileF at hn
        unfold WM.lft at hn ⊢
        cases e : c sg m with
        | none => rw [e] at hn; cases hn
        | some p =>
          obtain ⟨q, m'⟩ := p
          rw [e] at hn
          cases q with
          | exc y => exact hn
          | ok w =>
            cases w with
            | bl k =>
              cases k with
              | false => exact hn
              | true =>
                have h' : turnS (b sg m') (whileF c b n) = some r := hn
                show turnS (b sg m') (whileL c b) = some r
                cases e2 : b sg m' with
                | none => rw [e2] at h'; cases h'
                | some p2 =>
                  obtain ⟨o, sg2, m2⟩ := p2
                  rw [e2] at h'
                  cases o with
                  | nx => exact whileL_some (n := n) h'
                  | cnt => exact whileL_some (n := n) h'
                  | _ => exact h'
            | _ => cases hn
    · intro h
      have fin : ∀ n, whileF c b (n + 1) sg m = some r → whileL c b sg m = some r := fun n => whileL_some
      unfold WM.lft at h
      cases e : c sg m with
      | none => rw [e] at h; cases h
      | some p =>
        obtain ⟨q, m'⟩ := p
        rw [e] at h
        cases q with
        | exc y => exact fin 0 (by unfold whileF WM.lft; rw [e]; exact h)
        | ok w =>
          cases w with
          | bl k =>
            cases k with
            | false => exact fin 0 (by unfold whileF WM.lft; rw [e]; exact h)
            | true =>
              have h' : turnS (b sg m') (whileL c b) = some r := h
              cases e2 : b sg m' with
              | none => rw [e2] at h'; cases h'
              | some p2 =>
                obtain ⟨o, sg2, m2⟩ := p2
                rw [e2] at h'
                have two : ∀ n, turnS (some (o, sg2, m2)) (whileF c b n) = some r → whileL c b sg m = some r := fun n hn => fin n (by
                  unfold whileF WM.lft; rw [e]; show turnS (b sg m') (whileF c b n) = some r; rw [e2]; exact hn)
                cases o with
                | nx => obtain ⟨n, hn⟩ := whileL_inv (r := r) (show whileL c b sg2 m2 = some r from h'); exact two n hn
                | cnt => obtain ⟨n, hn⟩ := whileL_inv (r := r) (show whileL c b sg2 m2 = some r from h'); exact two n hn
                | brk => exact two 0 h'
                | rt w => exact two 0 h'
                | ex x => exact two 0 h'
          | _ => cases h
  cases e : whileL c b sg m with
  | some r => exact ((key r).mp e).symm
  | none =>
    cases e2 : WM.lft (c sg) sg (fun w => match w with
      | .bl true => fun m => turnS (b sg m) (whileL c b)
      | .bl false => fun m => some (.nx, sg, m)
      | _ => fun _ => none) m with
    | none => rfl
    | some r => rw [(key r).mpr e2] at e; cases e
theorem while_reads {c : E} {body : List S} (D : Ends) (σ : L2.St) (H : Hp) (h : tS T N C (.while c body) Wx D σ H) : tWhile (tT T N C c Wx) (tSs T N C body Wx) D σ H := by
  obtain ⟨F, ρ, m, sg, R, S, h⟩ := h
  rw [evS] at h
  have hn : ∃ n, DenS (N.wF F) ρ m H Wx D (whileF (evE T C c) (evSs T C body) n sg m) := by
    cases e : whileL (evE T C c) (evSs T C body) sg m with
    | none => rw [e] at h; exact False.elim h
    | some r =>
      obtain ⟨n, hn⟩ := whileL_inv e
      exact ⟨n, by rw [hn, ← e]; exact h⟩
  obtain ⟨n0, hn0⟩ := hn
  refine ⟨fun n σ2 H2 => ∃ ρ2 m2 sg2, Rl (N.wF F) ρ2 m2 H2 ∧ RS (N.wF F) ρ2 m2.length H2 sg2 σ2 ∧ DenS (N.wF F) ρ2 m2 H2 Wx D (whileF (evE T C c) (evSs T C body) n sg2 m2), ⟨n0, ρ, m, sg, R, S, hn0⟩, ?_⟩
  rintro n σ2 H2 ⟨ρ2, m2, sg2, R2, S2, D2⟩
  cases n with
  | zero => exact False.elim D2
  | succ n =>
    unfold whileF at D2
    refine tT.mk R2 S2 (DenS.lft D2 S2) fun x ρ3 m3 H3 e3 R3 D3 => ?_
    cases x with
    | bl k =>
      refine ⟨k, rfl, ?_⟩
      cases k with
      | true =>
        refine iteT ⟨fun σ' H' => ∃ n', n' < n + 1 ∧ ∃ ρ2 m2 sg2, Rl (N.wF F) ρ2 m2 H' ∧ RS (N.wF F) ρ2 m2.length H' sg2 σ' ∧ DenS (N.wF F) ρ2 m2 H' Wx D (whileF (evE T C c) (evSs T C body) n' sg2 m2), fun _ _ z => z,
          F, ρ3, m3, sg2, R3, S2.mono e3, DenS.turn D3 fun sg4 m4 ρ4 H4 σ4 e4 R4 S4 D4 => ⟨n, Nat.lt_succ_self n, ρ4, m4, sg4, R4, S4, D4⟩⟩
      | false => exact iteF (DenS.nx D3 R3 (S2.mono e3))
    | _ => exact False.elim D3
theorem sim_while {c : Expr} {body : List Stmt} {c' : E} {body' : List S} {pos} (hp : PassesOwn (model X.prog X.w) X.A X.env X.xe) (hc : PT X c (tT T N C c' Wx)) (hb : PSs X body (tSs T N C body' Wx)) : PS X (.While c body [] pos) (tS T N C (.while c' body') Wx) :=
  (ps_while hp hc hb).imp while_reads
end
end WM
namespace WM
open PySem PySem.Spec PyProof.Rows L2

/-! ### a call's end -/
mutual
theorem RV.rb {N ρ k H} : ∀ (w : W) (v : V), RV N ρ k H w v → W.rb k w = true
  | .non, _, _ => by rw [W.rb]; all_goals simp
  | .bl _, _, _ => by rw [W.rb]; all_goals simp
  | .int _, _, _ => by rw [W.rb]; all_goals simp
  | .str _, _, _ => by rw [W.rb]; all_goals simp
  | .tup ws, _, ⟨_, vs, _, _, h⟩ => by rw [W.rb]; exact RVs.rb ws vs h
  | .lst ws, _, ⟨_, vs, _, _, h⟩ => by rw [W.rb]; exact RVs.rb ws vs h
  | .klst ws, _, ⟨_, vs, _, _, h⟩ => by rw [W.rb]; exact RVs.rb ws vs h
  | .ref n, _, h => by rw [W.rb]; exact decide_eq_true h.1
  | .dct _ _, _, h => h.elim
  | .ins _ _, _, h => h.elim
theorem RVs.rb {N ρ k H} : ∀ (ws : List W) (vs : List V), RVs N ρ k H ws vs → W.rbs k ws = true
  | [], _, _ => by rw [W.rbs]
  | w :: ws, _, ⟨v, r, _, h2, h3⟩ => by rw [W.rbs, RV.rb w v h2, RVs.rb ws r h3]; rfl
end
theorem NL.down {N ρ k k' a} (h : NL N ρ k' a) (hk : k ≤ k') : NL N ρ k a := ⟨fun n hn => h.1 n (Nat.lt_of_lt_of_le hn hk), h.2⟩
mutual
theorem RV.down {N ρ k k' H} (hk : k ≤ k') : ∀ (w : W) (v : V), RV N ρ k' H w v → W.rb k w = true → RV N ρ k H w v
  | .non, _, h, _ => h
  | .bl _, _, h, _ => h
  | .int _, _, h, _ => h
  | .str _, _, h, _ => h
  | .tup ws, _, ⟨a, vs, h1, h2, h3⟩, hb => by
    rw [W.rb] at hb
    exact ⟨a, vs, h1, ⟨h2.1, h2.2.imp (fun z => ⟨z.1, z.2.down hk⟩) id⟩, RVs.down hk ws vs h3 hb⟩
  | .lst ws, _, ⟨a, vs, h1, h2, h3⟩, hb => by
    rw [W.rb] at hb
    exact ⟨a, vs, h1, ⟨h2.1, h2.2.1, h2.2.2.down hk⟩, RVs.down hk ws vs h3 hb⟩
  | .klst ws, _, ⟨a, vs, h1, h2, h3⟩, hb => by
    rw [W.rb] at hb
    exact ⟨a, vs, h1, ⟨h2.1, h2.2.imp (fun z => ⟨z.1, z.2.down hk⟩) id⟩, RVs.down hk ws vs h3 hb⟩
  | .ref n, _, h, hb => by
    rw [W.rb] at hb
    exact ⟨of_decide_eq_true hb, h.2⟩
  | .dct _ _, _, h, _ => h
  | .ins _ _, _, h, _ => h
theorem RVs.down {N ρ k k' H} (hk : k ≤ k') : ∀ (ws : List W) (vs : List V), RVs N ρ k' H ws vs → W.rbs k ws = true → RVs N ρ k H ws vs
  | [], _, h, _ => h
  | w :: ws, _, ⟨v, r, h1, h2, h3⟩, hb => by
    rw [W.rbs, Bool.and_eq_true] at hb
    exact ⟨v, r, h1, RV.down hk w v h2 hb.1, RVs.down hk ws r h3 hb.2⟩
end
theorem hget_drop : ∀ (m : Hm) (j n : Nat), n < m.length - j → hget (m.drop j) n = hget m n
  | _, 0, _, _ => rfl
  | [], j + 1, n, _ => rfl
  | o :: t, j + 1, n, h => by
    rw [List.length_cons] at h
    have h' : n < t.length - j := by omega
    show hget (t.drop j) n = _
    rw [hget_drop t j n h']
    conv => rhs; unfold hget
    rw [if_neg (by omega)]
theorem RO.rb {N ρ k H} {o : HOb} {a : Addr} (h : RO N ρ k H o a) : HOb.rb k o = true := by
  cases o with
  | lst ws => obtain ⟨vs, _, _, h3⟩ := h; exact RVs.rb ws vs h3
  | dct _ _ => exact h.elim
  | ins _ _ => exact h.elim
theorem RO.down {N ρ k k' H} (hk : k ≤ k') {o : HOb} {a : Addr} (h : RO N ρ k' H o a) (hb : HOb.rb k o = true) : RO N ρ k H o a := by
  cases o with
  | lst ws => obtain ⟨vs, h1, h2, h3⟩ := h; exact ⟨vs, h1, h2, RVs.down hk ws vs h3 hb⟩
  | dct _ _ => exact h
  | ins _ _ => exact h
theorem hget_mem : ∀ {m : Hm} {n : Nat} {o : HOb}, hget m n = some o → o ∈ m
  | [], _, _, h => by simp [hget] at h
  | x :: t, n, o, h => by
    unfold hget at h
    split at h
    · cases h; exact List.mem_cons_self
    · exact List.mem_cons_of_mem _ (hget_mem h)
theorem old_ok {N ρ m H ρ' m' H'} (R : Rl N ρ m H) (e : Ext N ρ m.length H ρ' m'.length H') (R' : Rl N ρ' m' H') (hle : m.length ≤ m'.length)
    (ho : m'.drop (m'.length - m.length) = m ∨ (m'.drop (m'.length - m.length)).all (HOb.rb m.length) = true) :
    (m'.drop (m'.length - m.length)).length = m.length ∧ Ext N ρ m.length H ρ' (m'.drop (m'.length - m.length)).length H' ∧ Rl N ρ' (m'.drop (m'.length - m.length)) H' := by
  have hl : (m'.drop (m'.length - m.length)).length = m.length := by rw [List.length_drop]; omega
  refine ⟨hl, ?_, ?_⟩
  · rw [hl]
    exact ⟨Nat.le_refl _, e.rho, e.keep, e.keepF, e.lv, fun n h h' => absurd (Nat.lt_of_lt_of_le h' h) (Nat.lt_irrefl _)⟩
  · refine ⟨R'.fb, fun n hn => R'.nf n (by omega), fun i j hi hj q => R'.inj i j (by omega) (by omega) q, fun i hi => R'.lv i (by omega), fun n o hn => ?_⟩
    have hn' := hget_lt hn
    have hn2 : hget m' n = some o := by rw [← hget_drop m' (m'.length - m.length) n (by omega)]; exact hn
    rw [hl]
    refine (R'.obj n o hn2).down hle ?_
    rcases ho with ho | ho
    · rw [ho] at hn
      exact (R.obj n o hn).rb
    · exact List.all_eq_true.mp ho o (hget_mem hn)
theorem frz_mapM {N ρ k k' H} {g : W → Option W} (hg : ∀ w w' v, g w = some w' → RV N ρ k' H w v → RV N ρ k H w' v) : ∀ {ws ws' : List W} {vs : List V}, ws.mapM g = some ws' → RVs N ρ k' H ws vs → RVs N ρ k H ws' vs
  | [], ws', vs, h, r => by
    rw [List.mapM_nil] at h
    cases h; exact r
  | w :: ws, ws', vs, h, ⟨v, r, h1, h2, h3⟩ => by
    rw [List.mapM_cons] at h
    cases e1 : g w with
    | none => rw [e1] at h; cases h
    | some x =>
      rw [e1] at h
      cases e2 : ws.mapM g with
      | none => rw [e2] at h; cases h
      | some xs =>
        rw [e2] at h
        cases h
        exact ⟨v, r, h1, hg w x v e1 h2, frz_mapM hg e2 h3⟩
theorem frz_ok {N ρ k m H} (R : Rl N ρ m H) (hk : k ≤ m.length) : ∀ (n : Nat) (w w' : W) (v : V), frzW k m n w = some w' → RV N ρ m.length H w v → RV N ρ k H w' v
  | 0, _, _, _, h, _ => by cases h
  | n + 1, w, w', v, h, r => by
    unfold frzW at h
    by_cases hb : W.rb k w = true
    · rw [if_pos hb] at h
      cases h
      exact RV.down hk w v r hb
    · rw [if_neg hb] at h
      have ih := frz_ok R hk n
      cases w with
      | tup xs =>
        obtain ⟨a, vs, h1, h2, h3⟩ := r
        have h' : (xs.mapM (frzW k m n)).map W.tup = some w' := h
        cases e : xs.mapM (frzW k m n) with
        | none => rw [e] at h'; cases h'
        | some ys =>
          rw [e] at h'
          cases h'
          exact ⟨a, vs, h1, ⟨h2.1, h2.2.imp (fun z => ⟨z.1, z.2.down hk⟩) id⟩, frz_mapM (fun w w' v => ih w w' v) e h3⟩
      | lst xs =>
        obtain ⟨a, vs, h1, h2, h3⟩ := r
        have h' : (xs.mapM (frzW k m n)).map W.lst = some w' := h
        cases e : xs.mapM (frzW k m n) with
        | none => rw [e] at h'; cases h'
        | some ys =>
          rw [e] at h'
          cases h'
          exact ⟨a, vs, h1, ⟨h2.1, h2.2.1, h2.2.2.down hk⟩, frz_mapM (fun w w' v => ih w w' v) e h3⟩
      | klst xs =>
        obtain ⟨a, vs, h1, h2, h3⟩ := r
        have h' : (xs.mapM (frzW k m n)).map W.klst = some w' := h
        cases e : xs.mapM (frzW k m n) with
        | none => rw [e] at h'; cases h'
        | some ys =>
          rw [e] at h'
          cases h'
          exact ⟨a, vs, h1, ⟨h2.1, h2.2.imp (fun z => ⟨z.1, z.2.down hk⟩) id⟩, frz_mapM (fun w w' v => ih w w' v) e h3⟩
      | ref i =>
        obtain ⟨h1, h2⟩ := r
        have hi : k ≤ i := by
          rw [W.rb] at hb
          exact Nat.le_of_not_lt fun z => hb (decide_eq_true z)
        have h' : (match hget m i with
          | some (.lst xs) => (xs.mapM (frzW k m n)).map W.lst
          | some (.dct ks vs) => (ks.mapM (frzW k m n)).bind fun ks' => (vs.mapM (frzW k m n)).map (.dct ks')
          | some (.ins c fs) => (fs.mapM (frzW k m n)).map (.ins c)
          | none => none) = some w' := h
        cases e : hget m i with
        | none => rw [e] at h'; cases h'
        | some o =>
          rw [e] at h'
          have ro := R.obj _ _ e
          cases o with
          | lst xs =>
            obtain ⟨vs, h3, h4, h5⟩ := ro
            dsimp only at h'
            cases e2 : xs.mapM (frzW k m n) with
            | none => rw [e2] at h'; cases h'
            | some ys =>
              rw [e2] at h'
              cases h'
              exact ⟨ρ i, vs, h2, ⟨h4, h3, ⟨fun j hj q => by have := R.inj j i (by omega) h1 q; omega, R.nf i h1⟩⟩, frz_mapM (fun w w' v => ih w w' v) e2 h5⟩
          | dct _ _ => exact ro.elim
          | ins _ _ => exact ro.elim
      | dct _ _ => exact r.elim
      | ins _ _ => exact r.elim
      | non => cases h
      | bl _ => cases h
      | int _ => cases h
      | str _ => cases h
theorem fin_ok {N ρ m H ρ' m' H' keep w w' m'' v} (R : Rl N ρ m H) (e : Ext N ρ m.length H ρ' m'.length H') (R' : Rl N ρ' m' H') (h : fin keep m m' w = some (.ok w', m'')) (r : RV N ρ' m'.length H' w v) :
    Ext N ρ m.length H ρ' m''.length H' ∧ Rl N ρ' m'' H' ∧ RV N ρ' m''.length H' w' v := by
  unfold fin at h
  split at h
  · cases h; exact ⟨e, R', r⟩
  · split at h
    · rename_i hc
      obtain ⟨hl, e2, R2⟩ := old_ok R e R' hc.1 hc.2
      cases q : frzW m.length m' 20 w with
      | none => rw [q] at h; cases h
      | some x =>
        rw [q] at h
        cases h
        refine ⟨e2, R2, ?_⟩
        rw [hl]
        exact frz_ok R' hc.1 20 w _ v q r
    · cases h
theorem fin_noex {keep m m' w x m''} : fin keep m m' w = some (.exc x, m'') → False := by
  intro h
  unfold fin at h
  split at h
  · cases h
  · split at h
    · split at h <;> cases h
    · cases h
mutual
theorem rb_mono {k : Nat} : ∀ (w : W), W.rb 0 w = true → W.rb k w = true
  | .non, _ => by rw [W.rb]; all_goals simp
  | .bl _, _ => by rw [W.rb]; all_goals simp
  | .int _, _ => by rw [W.rb]; all_goals simp
  | .str _, _ => by rw [W.rb]; all_goals simp
  | .tup ws, h => by rw [W.rb] at h ⊢; exact rbs_mono ws h
  | .lst ws, h => by rw [W.rb] at h ⊢; exact rbs_mono ws h
  | .klst ws, h => by rw [W.rb] at h ⊢; exact rbs_mono ws h
  | .ref n, h => by rw [W.rb] at h; simp at h
  | .dct ks vs, h => by rw [W.rb, Bool.and_eq_true] at h ⊢; exact ⟨rbs_mono ks h.1, rbs_mono vs h.2⟩
  | .ins _ fs, h => by rw [W.rb] at h ⊢; exact rbs_mono fs h
theorem rbs_mono {k : Nat} : ∀ (ws : List W), W.rbs 0 ws = true → W.rbs k ws = true
  | [], _ => by rw [W.rbs]
  | w :: ws, h => by rw [W.rbs, Bool.and_eq_true] at h ⊢; exact ⟨rb_mono w h.1, rbs_mono ws h.2⟩
end
theorem finx_ok {N ρ m H ρ' m' H' x y m'' d} (R : Rl N ρ m H) (e : Ext N ρ m.length H ρ' m'.length H') (R' : Rl N ρ' m' H') (h : finx m m' x = some (.exc y, m'')) (r : RX N ρ' m'.length H' x d) :
    Ext N ρ m.length H ρ' m''.length H' ∧ Rl N ρ' m'' H' ∧ RX N ρ' m''.length H' y d := by
  unfold finx at h
  split at h
  · rename_i hc
    obtain ⟨hl, e2, R2⟩ := old_ok R e R' hc.1 hc.2.2
    cases h
    refine ⟨e2, R2, ?_⟩
    rw [hl]
    rcases r with r | ⟨p, vs, h1, h2, h3, h4⟩
    · exact .inl r
    · exact .inr ⟨p, vs, h1, h2, h3, RVs.down hc.1 _ _ h4 (rbs_mono _ hc.2.1)⟩
  · cases h
theorem finx_nook {m m' x w m''} : finx m m' x = some (.ok w, m'') → False := by
  intro h
  unfold finx at h
  split at h <;> cases h

/-! ### a def of the text -/
theorem start_ok {N : En} {ρ k H} {ws : List W} {vs : List V} {Nn : List Str} {ns : Nat} (h : RVs N ρ k H ws vs) (hl : Nn.length = ns) : RS N ρ k H (ws.map some ++ List.replicate (ns - ws.length) none) (L2.start Nn vs) := by
  unfold L2.start
  rw [hl, ← h.len]
  refine ⟨by simp [h.len], fun i w hw => ?_⟩
  by_cases hi : i < ws.length
  · rw [List.getElem?_append_left (by simpa using hi), List.getElem?_map] at hw
    cases e : ws[i]? with
    | none => rw [e] at hw; cases hw
    | some x =>
      rw [e] at hw
      cases hw
      obtain ⟨v, h1, h2⟩ := h.get e
      exact ⟨v, by rw [List.getElem?_append_left (by simp [← h.len, hi]), List.getElem?_map, h1]; rfl, h2⟩
  · rw [List.getElem?_append_right (by simpa using Nat.le_of_not_lt hi), List.getElem?_replicate] at hw
    split at hw <;> cases hw
theorem fn_body {T : Tab} {N : En} {P : Program} {w : World} {K : PySem.W.Frag} {mg : Str → Option Value} {base : Heap} {l : Nat} {f : Nat} {F : Fn} {x qual : Str} {params : Arguments} {body : List Stmt} {scope : Scope} {a : Addr} {fd : FuncData} {Nn ps : List Str}
    (hF : FunD K x qual params body scope [] [] a fd) (S : FnScope Nn ps scope) (hf : T.fn f = some F) (hnp : ps.length = F.np) (hns : Nn.length = F.ns)
    (hb : ∀ (cdv : Value) (A : Around) (outer : List Env) (s : Shared) (H : Hp) (E : XK), Room l (A.deeper (envOfC qual scope s.heap.objs.size a cdv)) →
      PSs (cxOf (L2.CX P w) P w K mg base Nn qual scope a cdv A outer s H E) body (tSs T N (evC T l) F.body fun cls d _ H => E cls d H)) :
    FnOk P w K mg base (L2.CX P w) (l + 1) a fd ps (spF T N (l + 1) ps.length f) := by
  refine hF.ok S (fun vs H Q E h => h.1) fun cdv A outer s H vs Q E hr h => ⟨_, hb cdv A outer s H E hr, ?_⟩
  obtain ⟨hvl, Fb, ρ, m, ws, R, r, D⟩ := h
  have hwl : ws.length = F.np := by rw [r.len, hvl, hnp]
  have D1 : Den (N.wF Fb) ρ m H (fun x ρ' m' H' => ∀ d, RX (N.wF Fb) ρ' m'.length H' x d → E (.ref (N.ca x.c)) d H') (runF T (evC T l) F ws m) (fun w ρ' m' H' => ∀ v, RV (N.wF Fb) ρ' m'.length H' w v → Q v H') := by
    unfold evC at D
    rw [hf] at D
    exact D
  unfold runF at D1
  rw [if_pos hwl] at D1
  refine ⟨Fb, ρ, m, _, R, start_ok r hns, ?_⟩
  rw [← hwl] at D1
  cases e : evSs T (evC T l) F.body (ws.map some ++ List.replicate (F.ns - ws.length) none) m with
  | none => rw [e] at D1; exact D1
  | some p =>
    obtain ⟨o, sg', m'⟩ := p
    rw [e] at D1
    intro ρ' H' σ' e' R' S'
    cases o with
    | nx =>
      have D2 : Den (N.wF Fb) ρ m H _ (fin F.keep m m' .non) _ := D1
      unfold Den at D2
      cases q : fin F.keep m m' .non with
      | none => rw [q] at D2; exact False.elim D2
      | some z =>
        obtain ⟨z1, z2⟩ := z
        rw [q] at D2
        cases z1 with
        | exc y => exact False.elim (fin_noex q)
        | ok w' =>
          obtain ⟨e2, R2, r2⟩ := fin_ok (v := .non) R e' R' q rfl
          exact D2 ρ' H' e2 R2 .non r2
    | rt w0 =>
      have D2 : Den (N.wF Fb) ρ m H _ (fin F.keep m m' w0) _ := D1
      unfold Den at D2
      intro v rv
      cases q : fin F.keep m m' w0 with
      | none => rw [q] at D2; exact False.elim D2
      | some z =>
        obtain ⟨z1, z2⟩ := z
        rw [q] at D2
        cases z1 with
        | exc y => exact False.elim (fin_noex q)
        | ok w' =>
          obtain ⟨e2, R2, r2⟩ := fin_ok R e' R' q rv
          exact D2 ρ' H' e2 R2 v r2
    | ex x =>
      have D2 : Den (N.wF Fb) ρ m H _ (finx m m' x) _ := D1
      unfold Den at D2
      intro d rx
      cases q : finx m m' x with
      | none => rw [q] at D2; exact False.elim D2
      | some z =>
        obtain ⟨z1, z2⟩ := z
        rw [q] at D2
        cases z1 with
        | ok y => exact False.elim (finx_nook q)
        | exc y =>
          obtain ⟨e2, R2, r2⟩ := finx_ok R e' R' q rx
          have hc : y.c = x.c := by
            unfold finx at q
            split at q
            · cases q; rfl
            · cases q
          have := D2 ρ' H' e2 R2 d r2
          rw [hc] at this
          exact this
    | brk => exact False.elim D1
    | cnt => exact False.elim D1
theorem fn_zero {T : Tab} {N : En} {P : Program} {w : World} {K : PySem.W.Frag} {mg : Str → Option Value} {base : Heap} {f : Nat} {a : Addr} {fd : FuncData} {ps : List Str} : FnOk P w K mg base (L2.CX P w) 0 a fd ps (spF T N 0 ps.length f) := by
  refine ⟨fun vs H Q E h => h.1, fun A outer s H args us vs Q E _ _ _ _ h => ?_⟩
  obtain ⟨_, _, _, _, _, _, _, D⟩ := h
  exact False.elim D
end WM
namespace WM
open PySem PySem.Spec PyProof.Rows L2

/-! ### looking at the text -/
def vName : Expr → Option Str
  | .Name x _ => some x
  | _ => none
def vConst : Expr → Option Const
  | .Constant c _ _ => some c
  | _ => none
def vTuple : Expr → Option (List Expr)
  | .Tuple es _ _ => some es
  | _ => none
def vList : Expr → Option (List Expr)
  | .List es _ => some es
  | _ => none
def vBin : Expr → Option (Expr × Operator × Expr)
  | .BinOp a o b _ => some (a, o, b)
  | _ => none
def vUn : Expr → Option (UnaryOp × Expr)
  | .UnaryOp o a _ => some (o, a)
  | _ => none
def vBO : Expr → Option (BoolOp × List Expr × Pos)
  | .BoolOp o es p => some (o, es, p)
  | _ => none
def vCmp : Expr → Option (Expr × List CmpOp × List Expr)
  | .Compare a o b _ => some (a, o, b)
  | _ => none
def vIf : Expr → Option (Expr × Expr × Expr)
  | .IfExp a o b _ => some (a, o, b)
  | _ => none
def vSub : Expr → Option (Expr × Expr)
  | .Subscript a b _ => some (a, b)
  | _ => none
def vSlice : Expr → Option (Option Expr × Option Expr × Option Expr)
  | .Slice a b c _ => some (a, b, c)
  | _ => none
def vCall : Expr → Option (Expr × List Expr × List Keyword)
  | .Call a b c _ => some (a, b, c)
  | _ => none
def vComp : Expr → Option (Expr × List Comprehension × Scope)
  | .ListComp a b c _ => some (a, b, c)
  | _ => none
theorem vName_inv {e x} (h : vName e = some x) : ∃ p, e = .Name x p := by cases e <;> first | (cases h; exact ⟨_, rfl⟩) | cases h
theorem vConst_inv {e x} (h : vConst e = some x) : ∃ j p, e = .Constant x j p := by cases e <;> first | (cases h; exact ⟨_, _, rfl⟩) | cases h
theorem vTuple_inv {e x} (h : vTuple e = some x) : ∃ j p, e = .Tuple x j p := by cases e <;> first | (cases h; exact ⟨_, _, rfl⟩) | cases h
theorem vList_inv {e x} (h : vList e = some x) : ∃ p, e = .List x p := by cases e <;> first | (cases h; exact ⟨_, rfl⟩) | cases h
theorem vBin_inv {e a o b} (h : vBin e = some (a, o, b)) : ∃ p, e = .BinOp a o b p := by cases e <;> first | (cases h; exact ⟨_, rfl⟩) | cases h
theorem vUn_inv {e o a} (h : vUn e = some (o, a)) : ∃ p, e = .UnaryOp o a p := by cases e <;> first | (cases h; exact ⟨_, rfl⟩) | cases h
theorem vBO_inv {e o a p} (h : vBO e = some (o, a, p)) : e = .BoolOp o a p := by cases e <;> first | (cases h; exact rfl) | cases h
theorem vCmp_inv {e a o b} (h : vCmp e = some (a, o, b)) : ∃ p, e = .Compare a o b p := by cases e <;> first | (cases h; exact ⟨_, rfl⟩) | cases h
theorem vIf_inv {e a o b} (h : vIf e = some (a, o, b)) : ∃ p, e = .IfExp a o b p := by cases e <;> first | (cases h; exact ⟨_, rfl⟩) | cases h
theorem vSub_inv {e a b} (h : vSub e = some (a, b)) : ∃ p, e = .Subscript a b p := by cases e <;> first | (cases h; exact ⟨_, rfl⟩) | cases h
theorem vSlice_inv {e a b c} (h : vSlice e = some (a, b, c)) : ∃ p, e = .Slice a b c p := by cases e <;> first | (cases h; exact ⟨_, rfl⟩) | cases h
theorem vCall_inv {e a b c} (h : vCall e = some (a, b, c)) : ∃ p, e = .Call a b c p := by cases e <;> first | (cases h; exact ⟨_, rfl⟩) | cases h
theorem vComp_inv {e a b c} (h : vComp e = some (a, b, c)) : ∃ p, e = .ListComp a b c p := by cases e <;> first | (cases h; exact ⟨_, rfl⟩) | cases h

structure TI where
  fname : Nat → Str
  gname : Nat → Str
structure SC where
  N : List Str
  sc : Scope
  blk : Bool
def visB (S : SC) (x : Str) : Bool := match S.sc.names.lookup x with
  | some .local => true
  | some .cell => true
  | some .free => true
  | _ => false
def glB (S : SC) (x : Str) : Bool := match S.sc.names.lookup x with
  | some .globalImplicit => true
  | _ => false
def locB (S : SC) (x : Str) : Bool := match S.sc.names.lookup x with
  | some .local => true
  | some .cell => !S.blk
  | _ => false
def undbg (x : Str) : Bool := !(x == ("__debug__" : Str)) && !(x == ("__classdict__" : Str))
def plainTest : Expr → Bool
  | .UnaryOp .Not _ _ => false
  | .BoolOp .. => false
  | .IfExp .. => false
  | .Compare .. => false
  | _ => true
theorem plain_true {e : Expr} {env : Env} (h : plainTest e = true) (whole : Sem Value) : isTrue e env whole = (do let v ← whole; standAt e.pos; holding [v] (truthy v)) := by
  cases e with
  | UnaryOp op a p => cases op <;> first | rfl | cases h
  | BoolOp => cases h
  | IfExp => cases h
  | Compare => cases h
  | _ => rfl
def litB : W → Const → Bool
  | .non, .none => true
  | .bl b, .bool c => b == c
  | .int i, .int j => decide (i = j)
  | .str x, .str y => decide (x = y)
  | _, _ => false
def opC : Cop → CmpOp
  | .eq => .Eq | .ne => .NotEq | .lt => .Lt | .le => .LtE | .gt => .Gt | .ge => .GtE | .is => .Is | .isnot => .IsNot | .isin => .In | .notin => .NotIn
def copOk : Cop → Bool
  | .isin => false
  | .notin => false
  | _ => true
def isNop : E → Bool
  | .nop => true
  | _ => false
/-- a built-in by its name: its name, whether it is a type, how many arguments -/
def biN : Bi → Option (String × Bool)
  | .len => some ("len", false)
  | .int => some ("int", true)
  | .list => some ("list", true)
  | .tuple => some ("tuple", true)
  | .min2 => some ("min", false)
  | .max2 => some ("max", false)
  | .abs => some ("abs", false)
  | .sum => some ("sum", false)
  | .all => some ("all", false)
  | .any => some ("any", false)
  | _ => none
def tyNames : List String := ["int", "bool", "str", "tuple", "list", "dict"]
def bNames : List String := ["len", "int", "list", "tuple", "min", "max", "abs", "sum", "all", "any", "range", "isinstance", "bool", "str", "dict", "enumerate", "zip", "reversed", "sorted"]
def notSet : Expr → Bool
  | .Set .. => false
  | _ => true
theorem noset {e : Expr} {env : Env} (h : notSet e = true) : ∀ x, foldedSetIterable e env x = pure x := by
  intro x
  cases e <;> first | rfl | cases h
def ownB (N : List Str) (own : List Nat) : List (Str × Nat) := own.map fun i => (N.getD i Str.empty, i)
mutual
def ckT : Tg → SC → Expr → Bool
  | .v i, S, e => match vName e with
    | some x => decide (S.N[i]? = some x) && locB S x
    | none => false
  | .t ts, S, e => match vTuple e with
    | some es => ckTs ts S es && decide (es.length = ts.length)
    | none => false
def ckTs : List Tg → SC → List Expr → Bool
  | [], _, [] => true
  | t :: ts, S, e :: es => ckT t S e && notStar e && ckTs ts S es
  | _, _, _ => false
end
mutual
def ck (T : Tab) (I : TI) : E → Bool → SC → Expr → Bool
  | .lit w, _, _, e => match vConst e with
    | some c => litB w c
    | none => false
  | .var i, _, S, e => match vName e with
    | some x => decide (S.N[i]? = some x) && visB S x && undbg x
    | none => false
  | .glob g, _, S, e => match vName e with
    | some x => decide (x = I.gname g) && glB S x && undbg x
    | none => false
  | .tup es, _, S, e => match vTuple e with
    | some xs => cks T I es S xs && decide (es.length ≤ 1000)
    | none => false
  | .lst es, _, S, e => match vList e with
    | some xs => cks T I es S xs && decide (es.length ≤ 1000)
    | none => false
  | .newl es, _, S, e => match vList e with
    | some xs => cks T I es S xs && decide (es.length ≤ 1000)
    | none => false
  | .bin o a b, _, S, e => match vBin e with
    | some (x, p, y) => decide (opB o = p) && ck T I a false S x && ck T I b false S y
    | none => false
  | .neg a, _, S, e => match vUn e with
    | some (.USub, x) => ck T I a false S x
    | _ => false
  | .not a, md, S, e => match vUn e with
    | some (.Not, x) => ck T I a md S x
    | _ => false
  | .and a b, md, S, e => match vBO e with
    | some (.And, [x, y], _) => ck T I a md S x && ck T I b md S y
    | some (.And, x :: y :: z :: r, p) => ck T I a md S x && ck T I b md S (.BoolOp .And (y :: z :: r) p)
    | _ => false
  | .or a b, md, S, e => match vBO e with
    | some (.Or, [x, y], _) => ck T I a md S x && ck T I b md S y
    | some (.Or, x :: y :: z :: r, p) => ck T I a md S x && ck T I b md S (.BoolOp .Or (y :: z :: r) p)
    | _ => false
  | .cmp o a b, _, S, e => match vCmp e with
    | some (x, [p], [y]) => decide (opC o = p) && copOk o && ck T I a false S x && ck T I b false S y
    | _ => false
  | .cmp2 o o2 a b c, _, S, e => match vCmp e with
    | some (x, [p, p2], [y, z]) => decide (opC o = p) && copOk o && decide (opC o2 = p2) && copOk o2 && ck T I a false S x && ck T I b false S y && ck T I c false S z
    | _ => false
  | .ife c a b, md, S, e => match vIf e with
    | some (x, y, z) => !md && ck T I c true S x && ck T I a false S y && ck T I b false S z
    | none => false
  | .idx a b, _, S, e => match vSub e with
    | some (x, y) => ck T I a false S x && ck T I b false S y && notSlice y
    | none => false
  | .slc a lo hi, _, S, e => match vSub e with
    | some (x, y) => match vSlice y with
      | some (l, h, none) => ck T I a false S x && (match l with
          | none => isNop lo
          | some l => !isNop lo && ck T I lo false S l) && (match h with
          | none => isNop hi
          | some h => !isNop hi && ck T I hi false S h)
      | _ => false
    | none => false
  | .call f es, _, S, e => match vCall e with
    | some (fn, x :: xs, []) => match vName fn with
      | some n => decide (n = I.fname f) && glB S n && undbg n && cks T I es S (x :: xs) && (match T.fn f with
          | some F => decide (F.np = es.length)
          | none => false)
      | none => false
    | _ => false
  | .bi b es, _, S, e => match vCall e with
    | some (fn, x :: xs, []) => match vName fn with
      | some n => (match biN b with
          | some (nm, _) => decide (n = Str.ofString nm) && glB S n && cks T I es S (x :: xs)
          | none => false)
      | none => false
    | _ => false
  | .isi a t, _, S, e => match vCall e with
    | some (fn, [x, y], []) => match vName fn, vName y with
      | some n, some ty => decide (n = Str.ofString "isinstance") && decide (ty = Str.ofString t) && decide (t ∈ tyNames) && glB S n && glB S ty && ck T I a false S x && notStar x
      | _, _ => false
    | _ => false
  | .comp elt tg src cond own, _, S, e => match vComp e with
    | some (x, [⟨tgE, it, ifs, asy⟩], scope) => decide (asy = 0) && ckI T I src S it && notSet it && blkC S.N S.sc scope (ownB S.N own) && ckT tg ⟨S.N, relS scope S.sc, true⟩ tgE &&
        (match ifs with
          | [] => (match cond with
            | .lit (.bl true) => true
            | _ => false)
          | [c] => ck T I cond true ⟨S.N, relS scope S.sc, true⟩ c
          | _ => false) && ck T I elt false ⟨S.N, relS scope S.sc, true⟩ x && tg.ix.all fun i => own.contains i
    | _ => false
  | _, _, _, _ => false
def cks (T : Tab) (I : TI) : List E → SC → List Expr → Bool
  | [], _, [] => true
  | e' :: es', S, e :: es => ck T I e' false S e && notStar e && cks T I es' S es
  | _, _, _ => false
def ckI (T : Tab) (I : TI) : E → SC → Expr → Bool
  | .srng1 a, S, e => match vCall e with
    | some (fn, [x], []) => match vName fn with
      | some n => decide (n = Str.ofString "range") && glB S n && ck T I a false S x && notStar x
      | none => false
    | _ => false
  | .srng2 a b, S, e => match vCall e with
    | some (fn, [x, y], []) => match vName fn with
      | some n => decide (n = Str.ofString "range") && glB S n && ck T I a false S x && notStar x && ck T I b false S y && notStar y
      | none => false
    | _ => false
  | .sseq a, S, e => ck T I a false S e
  | _, _, _ => false
end
structure XOk (T : Tab) (N : En) (I : TI) (lvl : Nat) (S : SC) (Wx : WX) (X : Cx) : Prop where
  hK : X.K = N.K
  hN : X.N = S.N
  nd : S.N.Nodup
  sc : X.env.scope = S.sc
  calm : X.calm = true
  room : Room lvl X.A
  free : ∀ x ∈ bNames, X.mg (Str.ofString x) = none
  fns : ∀ f F, T.fn f = some F → ∃ (a : Addr) (fd : FuncData) (ps : List Str), ps.length = F.np ∧ X.mg (I.fname f) = some (.ref a) ∧ PySem.W.keepIn X.K (.ref a) = true ∧ Binds X.K fd ps [] ∧ FnOk X.prog X.w X.K X.mg X.base (L2.CX X.prog X.w) lvl a fd ps (spF T N lvl ps.length f)
  gls : ∀ g w, T.glob g = some w → ∃ v u, X.mg (I.gname g) = some u ∧ RelV v u ∧ ∀ F ρ k H, RV (N.wF F) ρ k H w v
  tk : Takes X Wx
  fnl : S.blk = false → ∀ x, X.fn x = true
  po : S.blk = false → PassesOwn (model X.prog X.w) X.A X.env X.xe
end WM
namespace WM
open PySem PySem.Spec PyProof.Rows L2

section
variable {T : Tab} {N : En} {I : TI} {lvl : Nat} {S : SC} {Wx : WX} {X : Cx}
theorem XOk.gl (h : XOk T N I lvl S Wx X) {x : Str} (g : glB S x = true) : Gl X x := by
  unfold Gl Env.kindOf
  rw [h.sc]
  unfold glB at g
  split at g
  · assumption
  · cases g
theorem XOk.vis (h : XOk T N I lvl S Wx X) {x : Str} (g : visB S x = true) : Vis X.env.scope x := by
  unfold Vis
  rw [h.sc]
  unfold visB at g
  split at g
  · exact .inl (by assumption)
  · exact .inr (.inl (by assumption))
  · exact .inr (.inr (by assumption))
  · cases g
theorem XOk.loc (h : XOk T N I lvl S Wx X) {x : Str} (g : locB S x = true) : L2.Loc X.env.scope x ∧ (X.fn x = true ∨ X.env.scope.names.lookup x = some .local) := by
  unfold L2.Loc
  rw [h.sc]
  unfold locB at g
  split at g
  · rename_i q
    exact ⟨.inl q, .inr q⟩
  · rename_i q
    refine ⟨.inr q, .inl (h.fnl ?_ x)⟩
    cases hb : S.blk with
    | true => rw [hb] at g; cases g
    | false => rfl
  · cases g
theorem undbg_ok {x : Str} (h : undbg x = true) : (x == ("__debug__" : Str)) = false ∧ (x == ("__classdict__" : Str)) = false := by
  unfold undbg at h
  rw [Bool.and_eq_true, Bool.not_eq_true', Bool.not_eq_true'] at h
  exact h
def Snd (T : Tab) (N : En) (lvl : Nat) (Wx : WX) (X : Cx) (md : Bool) (e' : E) (e : Expr) : Prop :=
  (md = false → PE X e (tE T N (evC T lvl) e' Wx)) ∧ (md = true → PT X e (tT T N (evC T lvl) e' Wx) ∧ ∀ op vs p, e = .BoolOp op vs p → PW X e (tT T N (evC T lvl) e' Wx))
theorem Snd.plain {md : Bool} {e' : E} {e : Expr} (h : PE X e (tE T N (evC T lvl) e' Wx)) (hp : plainTest e = true) : Snd T N lvl Wx X md e' e :=
  ⟨fun _ => h, fun _ => ⟨sim_val h (plain_true hp), fun op vs p q => by rw [q] at hp; cases hp⟩⟩
theorem ok_cop (hK : X.K = N.K) (hu : X.A.units + 64 < cLine) : ∀ o, copOk o = true → OpOk X N (compareOp (opC o)) (cmpW o)
  | .eq, _ => ok_eq hK hu | .ne, _ => ok_ne hK hu | .lt, _ => ok_lt | .le, _ => ok_le | .gt, _ => ok_gt | .ge, _ => ok_ge | .is, _ => ok_is | .isnot, _ => ok_isnot
  | .isin, h => by cases h
  | .notin, h => by cases h
theorem cmp_bl {o : Cop} {x y w : W} (h : cmpW o x y = some w) : ∃ k, w = .bl k := by
  have two : ∀ a b : Bool, (if a then some (W.bl b) else none) = some w → ∃ k, w = .bl k := by
    intro a b h
    cases a with
    | true => cases h; exact ⟨_, rfl⟩
    | false => cases h
  cases o with
  | eq => exact two _ _ (by rw [cmpW] at h; exact h)
  | ne => exact two _ _ (by rw [cmpW] at h; exact h)
  | _ => cases x <;> cases y <;> first | (cases h; done) | (cases h; exact ⟨_, rfl⟩)
theorem cop_mark {o : Cop} (h : copOk o = true) (b : Expr) : behindInMarks (opC o) b = false := by
  cases o <;> first | exact nomark b | cases h
theorem cop_marks {o : Cop} {p : CmpOp} {b c : Expr} (h : copOk o = true) : lastMarks [p, opC o] [b, c] = false := by
  show behindInMarks (opC o) c = false
  exact cop_mark h c
theorem sim_lit' {w : W} {c : Const} {j pos} {C : Calls} (h : litB w c = true) : PE X (.Constant c j pos) (tE T N C (.lit w) Wx) := by
  refine sim_lit ?_
  cases w <;> cases c <;> first | exact trivial | exact (eq_of_beq h).symm | exact (of_decide_eq_true h).symm | (cases h; done)
theorem bn {x : String} (h : XOk T N I lvl S Wx X) (hx : x ∈ bNames := by decide) : X.mg (Str.ofString x) = none := h.free x hx
theorem sim_bi (h : XOk T N I lvl S Wx X) {b : Bi} {nm : String} {ty : Bool} (hb : biN b = some (nm, ty)) {e : Expr} {es : List Expr} {es' : List E} {p pos} (hg : glB S (Str.ofString nm) = true)
    (ha : PA X (e :: es) (tEs T N (evC T lvl) es' Wx)) (hs : (e :: es).all notStar = true) : PE X (.Call (.Name (Str.ofString nm) p) (e :: es) [] pos) (tE T N (evC T lvl) (.bi b es') Wx) := by
  have gl := h.gl hg
  cases b <;> (first | cases hb) <;> first
    | exact sim_biB (bi_len h.hK) gl (bn h) (by decide +kernel) ha hs (by decide +kernel) (by decide +kernel)
    | exact sim_biT bi_int gl (bn h) (by decide +kernel) ha hs (by decide +kernel) (by decide +kernel)
    | exact sim_biT (bi_list h.hK) gl (bn h) (by decide +kernel) ha hs (by decide +kernel) (by decide +kernel)
    | exact sim_biT (bi_tuple h.hK) gl (bn h) (by decide +kernel) ha hs (by decide +kernel) (by decide +kernel)
    | exact sim_biB (bi_min h.calm) gl (bn h) (by decide +kernel) ha hs (by decide +kernel) (by decide +kernel)
    | exact sim_biB (bi_max h.calm) gl (bn h) (by decide +kernel) ha hs (by decide +kernel) (by decide +kernel)
    | exact sim_biB bi_abs gl (bn h) (by decide +kernel) ha hs (by decide +kernel) (by decide +kernel)
    | exact sim_biB (bi_sum h.hK h.calm) gl (bn h) (by decide +kernel) ha hs (by decide +kernel) (by decide +kernel)
    | exact sim_biB (bi_all h.hK h.calm) gl (bn h) (by decide +kernel) ha hs (by decide +kernel) (by decide +kernel)
    | exact sim_biB (bi_any h.hK h.calm) gl (bn h) (by decide +kernel) ha hs (by decide +kernel) (by decide +kernel)
theorem sim_isi' (h : XOk T N I lvl S Wx X) {C : Calls} {a : Expr} {a' : E} {t : String} {p p2 pos} (ht : t ∈ tyNames) (hg : glB S (Str.ofString "isinstance") = true) (hg2 : glB S (Str.ofString t) = true)
    (ha : PE X a (tE T N C a' Wx)) (ns : notStar a = true) : PE X (.Call (.Name (Str.ofString "isinstance") p) [a, .Name (Str.ofString t) p2] [] pos) (tE T N C (.isi a' t) Wx) := by
  have gl := h.gl hg
  have gl2 := h.gl hg2
  have key : ∀ t : String, t ∈ tyNames → bootBuiltins (Str.ofString t) = some (.type t) ∧ (Str.ofString t) ≠ "__name__" ∧ ((Str.ofString t) == ("__debug__" : Str)) = false ∧ t ∈ bNames := by
    intro t ht
    simp only [tyNames, List.mem_cons, List.not_mem_nil, or_false] at ht
    rcases ht with rfl | rfl | rfl | rfl | rfl | rfl <;> exact ⟨by decide +kernel, by decide +kernel, by decide +kernel, by decide⟩
  obtain ⟨k1, k2, k3, k4⟩ := key t ht
  exact sim_isi h.hK gl (bn h) ha ns gl2 (h.free t k4) k1 k2 k3
theorem XOk.blk (h : XOk T N I lvl S Wx X) (s : Shared) (H : Hp) (scope : Scope) (cl : List (Str × Addr)) (Ca : Addr) (fp : List Addr) :
    XOk T N I lvl ⟨S.N, relS scope S.sc, true⟩ (fun _ _ _ _ => False) (X.blk s H scope (compEnvC scope cl Ca X.env) fp) where
  hK := h.hK
  hN := h.hN
  nd := h.nd
  sc := by rw [← h.sc]; rfl
  calm := h.calm
  room := h.room
  free := h.free
  fns := h.fns
  gls := h.gls
  tk := takes0
  fnl := fun z => by cases z
  po := fun z => by cases z
mutual
theorem ckT_ok (h : XOk T N I lvl S Wx X) : ∀ (t : Tg) (e : Expr), ckT t S e = true → PG X e (gT N t)
  | .v i, e, q => by
    unfold ckT at q
    cases e1 : vName e with
    | none => rw [e1] at q; cases q
    | some x =>
      rw [e1] at q
      obtain ⟨p, rfl⟩ := vName_inv e1
      simp only [Bool.and_eq_true, decide_eq_true_eq] at q
      obtain ⟨l1, l2⟩ := h.loc q.2
      exact sim_gname (by rw [h.hN]; exact h.nd) (by rw [h.hN]; exact q.1) l1 l2
  | .t ts, e, q => by
    unfold ckT at q
    cases e1 : vTuple e with
    | none => rw [e1] at q; cases q
    | some es =>
      rw [e1] at q
      obtain ⟨j, p, rfl⟩ := vTuple_inv e1
      simp only [Bool.and_eq_true, decide_eq_true_eq] at q
      obtain ⟨h1, h2⟩ := ckTs_ok h ts es q.1
      exact sim_gtup h.hK h.calm h1 q.2 h2
theorem ckTs_ok (h : XOk T N I lvl S Wx X) : ∀ (ts : List Tg) (es : List Expr), ckTs ts S es = true → PGs X es (gTs N ts) ∧ es.all notStar = true
  | [], [], _ => ⟨sim_gnil, rfl⟩
  | [], _ :: _, q => by simp [ckTs] at q
  | _ :: _, [], q => by simp [ckTs] at q
  | t :: ts, e :: es, q => by
    rw [ckTs, Bool.and_eq_true, Bool.and_eq_true] at q
    obtain ⟨h1, h2⟩ := ckTs_ok h ts es q.2
    exact ⟨sim_gcons (ckT_ok h t e q.1.1) h1 q.1.2, by rw [List.all_cons, q.1.2, h2]; rfl⟩
end
theorem own_fst (Nn : List Str) (own : List Nat) : (ownB Nn own).map (·.2) = own := by
  unfold ownB
  rw [List.map_map]
  exact List.map_id' own
end
section
variable {T : Tab} {N : En} {I : TI} {lvl : Nat}
mutual
theorem ck_ok : ∀ (e' : E) (md : Bool) (S : SC) (e : Expr), ck T I e' md S e = true → ∀ (X : Cx) (Wx : WX), XOk T N I lvl S Wx X → Snd T N lvl Wx X md e' e
  | .lit w, md, S, e, q, X, Wx, h => by
    unfold ck at q
    cases e1 : vConst e with
    | none => rw [e1] at q; cases q
    | some c =>
      rw [e1] at q
      obtain ⟨j, p, rfl⟩ := vConst_inv e1
      exact .plain (sim_lit' q) rfl
  | .var i, md, S, e, q, X, Wx, h => by
    unfold ck at q
    cases e1 : vName e with
    | none => rw [e1] at q; cases q
    | some x =>
      rw [e1] at q
      obtain ⟨p, rfl⟩ := vName_inv e1
      simp only [Bool.and_eq_true, decide_eq_true_eq] at q
      exact .plain (sim_var (by rw [h.hN]; exact q.1.1) (h.vis q.1.2) (undbg_ok q.2).1 (undbg_ok q.2).2) rfl
  | .glob g, md, S, e, q, X, Wx, h => by
    unfold ck at q
    cases e1 : vName e with
    | none => rw [e1] at q; cases q
    | some x =>
      rw [e1] at q
      obtain ⟨p, rfl⟩ := vName_inv e1
      simp only [Bool.and_eq_true, decide_eq_true_eq] at q
      obtain ⟨⟨q1, q2⟩, q3⟩ := q
      subst q1
      exact .plain (sim_glob (h.gl q2) (fun w hw => h.gls g w hw) (undbg_ok q3).1) rfl
  | .tup es, md, S, e, q, X, Wx, h => by
    unfold ck at q
    cases e1 : vTuple e with
    | none => rw [e1] at q; cases q
    | some xs =>
      rw [e1] at q
      obtain ⟨j, p, rfl⟩ := vTuple_inv e1
      simp only [Bool.and_eq_true, decide_eq_true_eq] at q
      exact .plain (sim_tup (cks_ok es S xs q.1 X Wx h).1 q.2) rfl
  | .lst es, md, S, e, q, X, Wx, h => by
    unfold ck at q
    cases e1 : vList e with
    | none => rw [e1] at q; cases q
    | some xs =>
      rw [e1] at q
      obtain ⟨p, rfl⟩ := vList_inv e1
      simp only [Bool.and_eq_true, decide_eq_true_eq] at q
      exact .plain (sim_lst (cks_ok es S xs q.1 X Wx h).1 q.2) rfl
  | .newl es, md, S, e, q, X, Wx, h => by
    unfold ck at q
    cases e1 : vList e with
    | none => rw [e1] at q; cases q
    | some xs =>
      rw [e1] at q
      obtain ⟨p, rfl⟩ := vList_inv e1
      simp only [Bool.and_eq_true, decide_eq_true_eq] at q
      exact .plain (sim_newl (cks_ok es S xs q.1 X Wx h).1 q.2) rfl
  | .bin o a b, md, S, e, q, X, Wx, h => by
    unfold ck at q
    cases e1 : vBin e with
    | none => rw [e1] at q; cases q
    | some r =>
      obtain ⟨x, op, y⟩ := r
      rw [e1] at q
      obtain ⟨p, rfl⟩ := vBin_inv e1
      simp only [Bool.and_eq_true, decide_eq_true_eq] at q
      obtain ⟨⟨q1, q2⟩, q3⟩ := q
      subst q1
      exact .plain (sim_bin (ok_bop h.hK o) ((ck_ok a false S x q2 X Wx h).1 rfl) ((ck_ok b false S y q3 X Wx h).1 rfl)) rfl
  | .neg a, md, S, e, q, X, Wx, h => by
    unfold ck at q
    cases e1 : vUn e with
    | none => rw [e1] at q; cases q
    | some r =>
      obtain ⟨op, x⟩ := r
      rw [e1] at q
      obtain ⟨p, rfl⟩ := vUn_inv e1
      cases op with
      | USub => exact .plain (sim_neg ((ck_ok a false S x q X Wx h).1 rfl)) rfl
      | _ => cases q
  | .not a, md, S, e, q, X, Wx, h => by
    unfold ck at q
    cases e1 : vUn e with
    | none => rw [e1] at q; cases q
    | some r =>
      obtain ⟨op, x⟩ := r
      rw [e1] at q
      obtain ⟨p, rfl⟩ := vUn_inv e1
      cases op with
      | Not =>
        have ih := ck_ok a md S x q X Wx h
        exact ⟨fun z => sim_not (ih.1 z), fun z => ⟨sim_notT (ih.2 z).1, fun op vs p e => by cases e⟩⟩
      | _ => cases q
  | .and a b, md, S, e, q, X, Wx, h => by
    unfold ck at q
    cases e1 : vBO e with
    | none => rw [e1] at q; cases q
    | some r =>
      obtain ⟨op, xs, p⟩ := r
      rw [e1] at q
      have ee := vBO_inv e1
      subst ee
      cases op with
      | Or => cases q
      | And =>
        cases xs with
        | nil => cases q
        | cons x xs =>
          cases xs with
          | nil => cases q
          | cons y xs =>
            cases xs with
            | nil =>
              simp only [Bool.and_eq_true] at q
              have i1 := ck_ok a md S x q.1 X Wx h
              have i2 := ck_ok b md S y q.2 X Wx h
              refine ⟨fun z => sim_and (i1.1 z) (pe_one (i2.1 z)), fun z => ?_⟩
              have pw := sim_andT (pos := p) (i1.2 z).1 (pw_and1 (i2.2 z).1)
              exact ⟨pw.pt, fun _ _ _ _ => pw⟩
            | cons w xs =>
              simp only [Bool.and_eq_true] at q
              have i1 := ck_ok a md S x q.1 X Wx h
              have i2 := ck_ok b md S _ q.2 X Wx h
              refine ⟨fun z => sim_and (i1.1 z) (i2.1 z), fun z => ?_⟩
              have pw := sim_andT (pos := p) (i1.2 z).1 ((i2.2 z).2 _ _ _ rfl)
              exact ⟨pw.pt, fun _ _ _ _ => pw⟩
  | .or a b, md, S, e, q, X, Wx, h => by
    unfold ck at q
    cases e1 : vBO e with
    | none => rw [e1] at q; cases q
    | some r =>
      obtain ⟨op, xs, p⟩ := r
      rw [e1] at q
      have ee := vBO_inv e1
      subst ee
      cases op with
      | And => cases q
      | Or =>
        cases xs with
        | nil => cases q
        | cons x xs =>
          cases xs with
          | nil => cases q
          | cons y xs =>
            cases xs with
            | nil =>
              simp only [Bool.and_eq_true] at q
              have i1 := ck_ok a md S x q.1 X Wx h
              have i2 := ck_ok b md S y q.2 X Wx h
              refine ⟨fun z => sim_or (i1.1 z) (pe_one (i2.1 z)), fun z => ?_⟩
              have pw := sim_orT (pos := p) (i1.2 z).1 (pw_or1 (i2.2 z).1)
              exact ⟨pw.pt, fun _ _ _ _ => pw⟩
            | cons w xs =>
              simp only [Bool.and_eq_true] at q
              have i1 := ck_ok a md S x q.1 X Wx h
              have i2 := ck_ok b md S _ q.2 X Wx h
              refine ⟨fun z => sim_or (i1.1 z) (i2.1 z), fun z => ?_⟩
              have pw := sim_orT (pos := p) (i1.2 z).1 ((i2.2 z).2 _ _ _ rfl)
              exact ⟨pw.pt, fun _ _ _ _ => pw⟩
  | .cmp o a b, md, S, e, q, X, Wx, h => by
    unfold ck at q
    cases e1 : vCmp e with
    | none => rw [e1] at q; cases q
    | some r =>
      obtain ⟨x, ops, ys⟩ := r
      rw [e1] at q
      obtain ⟨p, rfl⟩ := vCmp_inv e1
      match ops, ys, q with
      | [op], [y], q =>
        simp only [Bool.and_eq_true, decide_eq_true_eq] at q
        obtain ⟨⟨⟨q1, q2⟩, q3⟩, q4⟩ := q
        subst q1
        have i1 := (ck_ok a false S x q3 X Wx h).1 rfl
        have i2 := (ck_ok b false S y q4 X Wx h).1 rfl
        have ho := ok_cop (N := N) h.hK h.room.units o q2
        exact ⟨fun _ => sim_cmp ho (cop_mark q2 y) i1 i2, fun _ => ⟨sim_cmpT ho (fun _ _ _ => cmp_bl) (cop_mark q2 y) i1 i2, fun op vs p e => by cases e⟩⟩
  | .cmp2 o o2 a b c, md, S, e, q, X, Wx, h => by
    unfold ck at q
    cases e1 : vCmp e with
    | none => rw [e1] at q; cases q
    | some r =>
      obtain ⟨x, ops, ys⟩ := r
      rw [e1] at q
      obtain ⟨p, rfl⟩ := vCmp_inv e1
      match ops, ys, q with
      | [op, op2], [y, z], q =>
        simp only [Bool.and_eq_true, decide_eq_true_eq] at q
        obtain ⟨⟨⟨⟨⟨⟨q1, q2⟩, q3⟩, q4⟩, q5⟩, q6⟩, q7⟩ := q
        subst q1 q3
        have i1 := (ck_ok a false S x q5 X Wx h).1 rfl
        have i2 := (ck_ok b false S y q6 X Wx h).1 rfl
        have i3 := (ck_ok c false S z q7 X Wx h).1 rfl
        have ho := ok_cop (N := N) h.hK h.room.units o q2
        have ho2 := ok_cop (N := N) h.hK h.room.units o2 q4
        exact ⟨fun _ => sim_cmp2 ho ho2 (cop_marks q4) (fun _ _ _ => cmp_bl) i1 i2 i3, fun _ => ⟨sim_cmp2T ho ho2 (cop_marks q4) (fun _ _ _ => cmp_bl) (fun _ _ _ => cmp_bl) i1 i2 i3, fun op vs p e => by cases e⟩⟩
  | .ife c a b, md, S, e, q, X, Wx, h => by
    unfold ck at q
    cases e1 : vIf e with
    | none => rw [e1] at q; cases q
    | some r =>
      obtain ⟨x, y, z⟩ := r
      rw [e1] at q
      obtain ⟨p, rfl⟩ := vIf_inv e1
      simp only [Bool.and_eq_true, Bool.not_eq_true'] at q
      obtain ⟨⟨⟨q1, q2⟩, q3⟩, q4⟩ := q
      exact ⟨fun _ => sim_ife ((ck_ok c true S x q2 X Wx h).2 rfl).1 ((ck_ok a false S y q3 X Wx h).1 rfl) ((ck_ok b false S z q4 X Wx h).1 rfl), fun z => by rw [z] at q1; cases q1⟩
  | .idx a b, md, S, e, q, X, Wx, h => by
    unfold ck at q
    cases e1 : vSub e with
    | none => rw [e1] at q; cases q
    | some r =>
      obtain ⟨x, y⟩ := r
      rw [e1] at q
      obtain ⟨p, rfl⟩ := vSub_inv e1
      simp only [Bool.and_eq_true] at q
      exact .plain (sim_idx h.hK ((ck_ok a false S x q.1.1 X Wx h).1 rfl) ((ck_ok b false S y q.1.2 X Wx h).1 rfl) (plainIx q.2)) rfl
  | .slc a lo hi, md, S, e, q, X, Wx, h => by
    unfold ck at q
    cases e1 : vSub e with
    | none => rw [e1] at q; cases q
    | some r =>
      obtain ⟨x, y⟩ := r
      rw [e1] at q
      obtain ⟨p, rfl⟩ := vSub_inv e1
      dsimp only at q
      cases e2 : vSlice y with
      | none => rw [e2] at q; cases q
      | some r =>
        obtain ⟨l, u, st⟩ := r
        rw [e2] at q
        obtain ⟨p2, rfl⟩ := vSlice_inv e2
        cases st with
        | some _ => cases q
        | none =>
          simp only [Bool.and_eq_true] at q
          obtain ⟨⟨q1, q2⟩, q3⟩ := q
          have part : ∀ (e' : E) (o : Option Expr), (∀ x, ck T I e' false S x = true → Snd T N lvl Wx X false e' x) → (match o with | none => isNop e' | some l => !isNop e' && ck T I e' false S l) = true → PO X o (tP T N (evC T lvl) e' Wx) := by
            intro e' o ih hq
            cases o with
            | none =>
              cases e' <;> first | exact sim_pnone | cases hq
            | some l =>
              simp only [Bool.and_eq_true, Bool.not_eq_true'] at hq
              exact sim_psome ((ih l hq.2).1 rfl) (by cases e' <;> first | rfl | cases hq.1)
          exact .plain (sim_slc h.hK ((ck_ok a false S x q1 X Wx h).1 rfl) (part lo l (fun x hx => ck_ok lo false S x hx X Wx h) q2) (part hi u (fun x hx => ck_ok hi false S x hx X Wx h) q3)) rfl
  | .call f es, md, S, e, q, X, Wx, h => by
    unfold ck at q
    cases e1 : vCall e with
    | none => rw [e1] at q; cases q
    | some r =>
      obtain ⟨fn, args, kw⟩ := r
      rw [e1] at q
      obtain ⟨p, rfl⟩ := vCall_inv e1
      match args, kw, q with
      | x :: xs, [], q0 =>
        clear q
        have q := q0
        clear q0
        dsimp only at q
        cases e2 : vName fn with
        | none => rw [e2] at q; cases q
        | some n =>
          rw [e2] at q
          obtain ⟨p2, rfl⟩ := vName_inv e2
          simp only [Bool.and_eq_true, decide_eq_true_eq] at q
          obtain ⟨⟨⟨⟨q1, q2⟩, q3⟩, q4⟩, q5⟩ := q
          subst q1
          cases e3 : T.fn f with
          | none => rw [e3] at q5; cases q5
          | some F =>
            rw [e3] at q5
            have hl : F.np = es.length := of_decide_eq_true q5
            obtain ⟨a, fd, ps, h0, h1, h2, h3, h4⟩ := h.fns f F e3
            obtain ⟨k1, k2⟩ := cks_ok es S (x :: xs) q4 X Wx h
            exact .plain (sim_callA h1 h2 h3 h4 (h0.trans hl) h.room (h.gl q2) h.tk k1 k2 (undbg_ok q3).1) rfl
  | .bi b es, md, S, e, q, X, Wx, h => by
    unfold ck at q
    cases e1 : vCall e with
    | none => rw [e1] at q; cases q
    | some r =>
      obtain ⟨fn, args, kw⟩ := r
      rw [e1] at q
      obtain ⟨p, rfl⟩ := vCall_inv e1
      match args, kw, q with
      | x :: xs, [], q0 =>
        clear q
        have q := q0
        clear q0
        dsimp only at q
        cases e2 : vName fn with
        | none => rw [e2] at q; cases q
        | some n =>
          rw [e2] at q
          obtain ⟨p2, rfl⟩ := vName_inv e2
          dsimp only at q
          cases e3 : biN b with
          | none => rw [e3] at q; cases q
          | some r =>
            obtain ⟨nm, ty⟩ := r
            rw [e3] at q
            simp only [Bool.and_eq_true, decide_eq_true_eq] at q
            obtain ⟨⟨q1, q2⟩, q3⟩ := q
            subst q1
            obtain ⟨k1, k2⟩ := cks_ok es S (x :: xs) q3 X Wx h
            exact .plain (sim_bi h e3 q2 k1 k2) rfl
  | .isi a t, md, S, e, q, X, Wx, h => by
    unfold ck at q
    cases e1 : vCall e with
    | none => rw [e1] at q; cases q
    | some r =>
      obtain ⟨fn, args, kw⟩ := r
      rw [e1] at q
      obtain ⟨p, rfl⟩ := vCall_inv e1
      match args, kw, q with
      | [x, y], [], q0 =>
        clear q
        have q := q0
        clear q0
        dsimp only at q
        cases e2 : vName fn with
        | none => rw [e2] at q; cases q
        | some n =>
          cases e3 : vName y with
          | none => rw [e2, e3] at q; cases q
          | some ty =>
            rw [e2, e3] at q
            obtain ⟨p2, rfl⟩ := vName_inv e2
            obtain ⟨p3, rfl⟩ := vName_inv e3
            simp only [Bool.and_eq_true, decide_eq_true_eq] at q
            obtain ⟨⟨⟨⟨⟨⟨q1, q2⟩, q3⟩, q4⟩, q5⟩, q6⟩, q7⟩ := q
            subst q1 q2
            exact .plain (sim_isi' h q3 q4 q5 ((ck_ok a false S x q6 X Wx h).1 rfl) q7) rfl
  | .comp elt tg src cond own, md, S, e, q, X, Wx, h => by
    unfold ck at q
    cases e1 : vComp e with
    | none => rw [e1] at q; cases q
    | some r =>
      obtain ⟨x, gens, scope⟩ := r
      rw [e1] at q
      obtain ⟨p, rfl⟩ := vComp_inv e1
      match gens, q with
      | [⟨tgE, it, ifs, asy⟩], q =>
        dsimp only at q
        simp only [Bool.and_eq_true, decide_eq_true_eq] at q
        obtain ⟨⟨⟨⟨⟨⟨⟨q1, q2⟩, q3⟩, q4⟩, q5⟩, q6⟩, q7⟩, q8⟩ := q
        subst q1
        have hif : ∀ X' Wx', XOk T N I lvl ⟨S.N, relS scope S.sc, true⟩ Wx' X' → PTs X' ifs (tT T N (evC T lvl) cond Wx') := by
          intro X' Wx' h'
          match ifs, q6 with
          | [], q6 =>
            cases cond with
            | lit w =>
              cases w with
              | bl b => cases b with
                | true => exact sim_noif'
                | false => cases q6
              | _ => cases q6
            | _ => cases q6
          | [c], q6 => exact pts_one ((ck_ok cond true _ c q6 X' Wx' h').2 rfl).1
        have hpe := pe_lc (pos := p) h.calm (by rw [h.hN]; exact h.nd) (ckI_ok src S it q2 X Wx h tgE) (blkOk_by (by rw [h.hN, h.sc]; exact q4))
          (fun s H Ca cl fp => ckT_ok (h.blk s H scope cl Ca fp) tg tgE q5) (fun s H Ca cl fp => hif _ _ (h.blk s H scope cl Ca fp))
          (fun s H Ca cl fp => (ck_ok elt false _ x q7 _ _ (h.blk s H scope cl Ca fp)).1 rfl) (noset q3)
        refine .plain (hpe.imp fun σ H Q z => ?_) rfl
        rw [own_fst]
        exact comp_reads (fun j hj => by
          have := List.all_eq_true.mp q8 j hj
          exact List.contains_iff_mem.mp this) σ H Q z
  | .nop, _, _, _, q, _, _, _ => by unfold ck at q; cases q
  | .rev _, _, _, _, q, _, _, _ => by unfold ck at q; cases q
  | .newc _, _, _, _, q, _, _, _ => by unfold ck at q; cases q
  | .srng1 _, _, _, _, q, _, _, _ => by unfold ck at q; cases q
  | .srng2 _ _, _, _, _, q, _, _, _ => by unfold ck at q; cases q
  | .sseq _, _, _, _, q, _, _, _ => by unfold ck at q; cases q
  | .senum _, _, _, _, q, _, _, _ => by unfold ck at q; cases q
  | .szip _ _, _, _, _, q, _, _, _ => by unfold ck at q; cases q
  | .srev _, _, _, _, q, _, _, _ => by unfold ck at q; cases q
theorem cks_ok : ∀ (es' : List E) (S : SC) (es : List Expr), cks T I es' S es = true → ∀ (X : Cx) (Wx : WX), XOk T N I lvl S Wx X → PA X es (tEs T N (evC T lvl) es' Wx) ∧ es.all notStar = true
  | [], S, [], _, X, Wx, h => ⟨sim_nil, rfl⟩
  | [], _, _ :: _, q, _, _, _ => by simp [cks] at q
  | _ :: _, _, [], q, _, _, _ => by simp [cks] at q
  | e' :: es', S, e :: es, q, X, Wx, h => by
    rw [cks, Bool.and_eq_true, Bool.and_eq_true] at q
    obtain ⟨h1, h2⟩ := cks_ok es' S es q.2 X Wx h
    exact ⟨sim_cons ((ck_ok e' false S e q.1.1 X Wx h).1 rfl) h1 q.1.2, by rw [List.all_cons, q.1.2, h2]; rfl⟩
theorem ckI_ok : ∀ (src : E) (S : SC) (e : Expr), ckI T I src S e = true → ∀ (X : Cx) (Wx : WX), XOk T N I lvl S Wx X → ∀ tg, PI X tg e (tI T N (evC T lvl) src Wx)
  | .srng1 a, S, e, q, X, Wx, h, tg => by
    unfold ckI at q
    cases e1 : vCall e with
    | none => rw [e1] at q; cases q
    | some r =>
      obtain ⟨fn, args, kw⟩ := r
      rw [e1] at q
      obtain ⟨p, rfl⟩ := vCall_inv e1
      match args, kw, q with
      | [x], [], q0 =>
        clear q
        have q := q0
        clear q0
        dsimp only at q
        cases e2 : vName fn with
        | none => rw [e2] at q; cases q
        | some n =>
          rw [e2] at q
          obtain ⟨p2, rfl⟩ := vName_inv e2
          simp only [Bool.and_eq_true, decide_eq_true_eq] at q
          obtain ⟨⟨⟨q1, q2⟩, q3⟩, q4⟩ := q
          subst q1
          exact sim_srng1 (h.gl q2) (bn h) ((ck_ok a false S x q3 X Wx h).1 rfl) q4
  | .srng2 a b, S, e, q, X, Wx, h, tg => by
    unfold ckI at q
    cases e1 : vCall e with
    | none => rw [e1] at q; cases q
    | some r =>
      obtain ⟨fn, args, kw⟩ := r
      rw [e1] at q
      obtain ⟨p, rfl⟩ := vCall_inv e1
      match args, kw, q with
      | [x, y], [], q0 =>
        clear q
        have q := q0
        clear q0
        dsimp only at q
        cases e2 : vName fn with
        | none => rw [e2] at q; cases q
        | some n =>
          rw [e2] at q
          obtain ⟨p2, rfl⟩ := vName_inv e2
          simp only [Bool.and_eq_true, decide_eq_true_eq] at q
          obtain ⟨⟨⟨⟨⟨q1, q2⟩, q3⟩, q4⟩, q5⟩, q6⟩ := q
          subst q1
          exact sim_srng2 (h.gl q2) (bn h) ((ck_ok a false S x q3 X Wx h).1 rfl) q4 ((ck_ok b false S y q5 X Wx h).1 rfl) q6
  | .sseq a, S, e, q, X, Wx, h, tg => by
    unfold ckI at q
    exact sim_sseq h.hK ((ck_ok a false S e q X Wx h).1 rfl)
  | .lit _, _, _, q, _, _, _, _ => by unfold ckI at q; cases q
  | .var _, _, _, q, _, _, _, _ => by unfold ckI at q; cases q
  | .glob _, _, _, q, _, _, _, _ => by unfold ckI at q; cases q
  | .tup _, _, _, q, _, _, _, _ => by unfold ckI at q; cases q
  | .lst _, _, _, q, _, _, _, _ => by unfold ckI at q; cases q
  | .newl _, _, _, q, _, _, _, _ => by unfold ckI at q; cases q
  | .newc _, _, _, q, _, _, _, _ => by unfold ckI at q; cases q
  | .bin _ _ _, _, _, q, _, _, _, _ => by unfold ckI at q; cases q
  | .neg _, _, _, q, _, _, _, _ => by unfold ckI at q; cases q
  | .not _, _, _, q, _, _, _, _ => by unfold ckI at q; cases q
  | .and _ _, _, _, q, _, _, _, _ => by unfold ckI at q; cases q
  | .or _ _, _, _, q, _, _, _, _ => by unfold ckI at q; cases q
  | .cmp _ _ _, _, _, q, _, _, _, _ => by unfold ckI at q; cases q
  | .cmp2 _ _ _ _ _, _, _, q, _, _, _, _ => by unfold ckI at q; cases q
  | .ife _ _ _, _, _, q, _, _, _, _ => by unfold ckI at q; cases q
  | .idx _ _, _, _, q, _, _, _, _ => by unfold ckI at q; cases q
  | .nop, _, _, q, _, _, _, _ => by unfold ckI at q; cases q
  | .slc _ _ _, _, _, q, _, _, _, _ => by unfold ckI at q; cases q
  | .rev _, _, _, q, _, _, _, _ => by unfold ckI at q; cases q
  | .call _ _, _, _, q, _, _, _, _ => by unfold ckI at q; cases q
  | .bi _ _, _, _, q, _, _, _, _ => by unfold ckI at q; cases q
  | .isi _ _, _, _, q, _, _, _, _ => by unfold ckI at q; cases q
  | .comp _ _ _ _ _, _, _, q, _, _, _, _ => by unfold ckI at q; cases q
  | .senum _, _, _, q, _, _, _, _ => by unfold ckI at q; cases q
  | .szip _ _, _, _, q, _, _, _, _ => by unfold ckI at q; cases q
  | .srev _, _, _, q, _, _, _, _ => by unfold ckI at q; cases q
end
end
end WM
namespace WM
open PySem PySem.Spec PyProof.Rows L2

/-! ### which names are stored swapped -/
def isStarE : Expr → Bool
  | .Starred .. => true
  | _ => false
def nameE (sc : Scope) (line : Nat) : Expr → Option Str
  | .Name id pos => if sc.names.lookup id == some .local && pos.line == line then some id else none
  | _ => none
def lineE (ts : List Expr) : Nat := (ts.head?.map (·.pos.line)).getD 0
/-- some r: what swappedStores tells; none: it does not tell -/
def swapR (S : SC) (ts vs : List Expr) : Option (Option (List Str)) :=
  if (!(ts.length == 2 || ts.length == 3) || vs.length != ts.length || (if S.sc.kind.isAnnotationScope then ScopeKind.function else S.sc.kind) != .function) = true then some none
  else if vs.any isStarE = true then some none
  else if ((ts.filterMap (nameE S.sc (lineE ts))).length != ts.length || (ts.filterMap (nameE S.sc (lineE ts))).eraseDups.length != (ts.filterMap (nameE S.sc (lineE ts))).length) = true then some none
  else if vs.all (foldedForSure 8) = true then some none
  else if vs.all (constantsAlone 8) = true then none
  else some (some (ts.filterMap (nameE S.sc (lineE ts))))
theorem swap_ok {S : SC} {ts vs : List Expr} {k p k2 p2} {env : Env} (hs : env.scope = S.sc) {r : Option (List Str)} (h : swapR S ts vs = some r) : swappedStores [.Tuple ts k p] (.Tuple vs k2 p2) env = pure r := by
  have e : swappedStores [.Tuple ts k p] (.Tuple vs k2 p2) env =
      if (!(ts.length == 2 || ts.length == 3) || vs.length != ts.length || (if S.sc.kind.isAnnotationScope then ScopeKind.function else S.sc.kind) != .function) = true then pure none
      else if vs.any isStarE = true then pure none
      else if ((ts.filterMap (nameE S.sc (lineE ts))).length != ts.length || (ts.filterMap (nameE S.sc (lineE ts))).eraseDups.length != (ts.filterMap (nameE S.sc (lineE ts))).length) = true then pure none
      else if vs.all (foldedForSure 8) = true then pure none
      else if vs.all (constantsAlone 8) = true then (do unsupported "assign.tuple-of-constant-expressions:order-of-the-stores"; pure (some (ts.filterMap (nameE S.sc (lineE ts)))))
      else pure (some (ts.filterMap (nameE S.sc (lineE ts)))) := by
    unfold swappedStores Env.blockKind Env.kindOf
    rw [hs]
    rfl
  rw [e]
  unfold swapR at h
  generalize (!(ts.length == 2 || ts.length == 3) || vs.length != ts.length || (if S.sc.kind.isAnnotationScope then ScopeKind.function else S.sc.kind) != .function) = c1 at h ⊢
  generalize vs.any isStarE = c2 at h ⊢
  generalize ((ts.filterMap (nameE S.sc (lineE ts))).length != ts.length || (ts.filterMap (nameE S.sc (lineE ts))).eraseDups.length != (ts.filterMap (nameE S.sc (lineE ts))).length) = c3 at h ⊢
  generalize vs.all (foldedForSure 8) = c4 at h ⊢
  generalize vs.all (constantsAlone 8) = c5 at h ⊢
  cases c1
  · cases c2
    · cases c3
      · cases c4
        · cases c5
          · cases h; rfl
          · cases h
        · cases h; rfl
      · cases h; rfl
    · cases h; rfl
  · cases h; rfl
def swapNone (S : SC) (tg e : Expr) : Bool := match vTuple tg, vTuple e with
  | some ts, some vs => decide (swapR S ts vs = some none)
  | _, _ => true
theorem swapNone_ok {S : SC} {tg e : Expr} {env : Env} (hs : env.scope = S.sc) (h : swapNone S tg e = true) (hl : vList tg = none) : swappedStores [tg] e env = pure none := by
  unfold swapNone at h
  cases e1 : vTuple tg with
  | none =>
    cases tg <;> first | rfl | (cases e1; done) | (cases hl; done)
  | some ts =>
    obtain ⟨j, p, rfl⟩ := vTuple_inv e1
    cases e2 : vTuple e with
    | none => cases e <;> first | rfl | cases e2
    | some vs =>
      obtain ⟨j2, p2, rfl⟩ := vTuple_inv e2
      rw [e1, e2] at h
      exact swap_ok hs (of_decide_eq_true h)

/-! ### looking at statements -/
def vNames : List Expr → Option (List Str)
  | [] => some []
  | .Name x _ :: r => (vNames r).map (x :: ·)
  | _ :: _ => none
mutual
def ckS (T : Tab) (I : TI) : S → SC → Stmt → Bool
  | .pass, _, st => match st with
    | .Pass _ => true
    | .Expr (.Constant (.str _) _ _) _ => true
    | _ => false
  | .brk, _, st => match st with
    | .Break _ => true
    | _ => false
  | .cnt, _, st => match st with
    | .Continue _ => true
    | _ => false
  | .expr e', S, st => match st with
    | .Expr e _ => ck T I e' false S e && notComp e
    | _ => false
  | .ret e', S, st => match st with
    | .Return (some e) _ => ck T I e' false S e
    | _ => false
  | .retN, _, st => match st with
    | .Return none _ => true
    | _ => false
  | .set t e', S, st => match st with
    | .Assign [tg] e _ => ckT t S tg && ck T I e' false S e && notComp e && swapNone S tg e && (vList tg).isNone && notStar tg
    | _ => false
  | .setc i e', S, st => match st with
    | .Assign [.Name y py] (.ListComp elt gens scope pos) spos => !S.blk && decide (S.N[i]? = some y) && ck T I e' false S (.ListComp elt gens scope pos) &&
        (match S.sc.names.lookup y with
          | some .local => decide (py.line = pos.line) && !(scope.names.any fun (n, k) => n == y && (k == .local || k == .cell)) && (match S.sc.kind with
            | .function => true
            | _ => false)
          | some .cell => true
          | _ => false)
    | _ => false
  | .par is es', S, st => match st with
    | .Assign [.Tuple ts _ _] (.Tuple es _ _) _ => (match vNames ts with
        | some xs => decide (swapR S ts es = some (some xs)) && (match is, xs with
          | [i, j], [x, y] => decide (S.N[i]? = some x) && decide (S.N[j]? = some y) && decide (i ≠ j) && decide (S.sc.names.lookup x = some .local) && decide (S.sc.names.lookup y = some .local)
          | [i, j, l], [x, y, z] => decide (S.N[i]? = some x) && decide (S.N[j]? = some y) && decide (S.N[l]? = some z) && decide (i ≠ j) && decide (i ≠ l) && decide (j ≠ l) &&
              decide (S.sc.names.lookup x = some .local) && decide (S.sc.names.lookup y = some .local) && decide (S.sc.names.lookup z = some .local)
          | _, _ => false)
        | none => false) && cks T I es' S es && decide (es.length = is.length)
    | _ => false
  | .aug i o e', S, st => match st with
    | .AugAssign (.Name x _) op e _ => decide (S.N[i]? = some x) && locB S x && decide (augP o = some op) && ck T I e' false S e
    | _ => false
  | .setI o i e', S, st => match st with
    | .Assign [.Subscript oe ie _] e _ => ck T I o false S oe && ck T I i false S ie && ck T I e' false S e && notComp e && notSlice ie
    | _ => false
  | .app o e', S, st => match st with
    | .Expr (.Call (.Attribute oe nm apos) [e] [] cpos) _ => decide (nm = Str.ofString "append") && ck T I o false S oe && ck T I e' false S e && plainBase oe && notStar e && (apos.endLine == cpos.line)
    | _ => false
  | .ife c a b, S, st => match st with
    | .If ce as bs _ => ck T I c true S ce && ckSs T I a S as && ckSs T I b S bs
    | _ => false
  | .loop t src body, S, st => match st with
    | .For tg it bd [] _ => ckT t S tg && ckI T I src S it && ckSs T I body S bd && notSet it && !S.blk
    | _ => false
  | .while c body, S, st => match st with
    | .While ce bd [] _ => ck T I c true S ce && ckSs T I body S bd && !S.blk
    | _ => false
def ckSs (T : Tab) (I : TI) : List S → SC → List Stmt → Bool
  | [], _, [] => true
  | s :: ss, S, st :: r => ckS T I s S st && ckSs T I ss S r
  | _, _, _ => false
end
theorem cks_len {T : Tab} {I : TI} : ∀ {es' : List E} {S : SC} {es : List Expr}, cks T I es' S es = true → es'.length = es.length
  | [], _, [], _ => rfl
  | [], _, _ :: _, q => by simp [cks] at q
  | _ :: _, _, [], q => by simp [cks] at q
  | e' :: es', S, e :: es, q => by
    rw [cks, Bool.and_eq_true, Bool.and_eq_true] at q
    rw [List.length_cons, List.length_cons, cks_len q.2]
theorem vNames_inv : ∀ {ts : List Expr} {xs : List Str}, vNames ts = some xs → ∃ ps : List Pos, ts.length = xs.length ∧ ps.length = xs.length ∧ ts = (xs.zip ps).map fun p => Expr.Name p.1 p.2
  | [], xs, h => by cases h; exact ⟨[], rfl, rfl, rfl⟩
  | t :: r, xs, h => by
    cases t with
    | Name x p =>
      have h' : (vNames r).map (x :: ·) = some xs := h
      cases e : vNames r with
      | none => rw [e] at h'; cases h'
      | some ys =>
        rw [e] at h'
        cases h'
        obtain ⟨ps, h1, h2, h3⟩ := vNames_inv e
        exact ⟨p :: ps, by simp [h1], by simp [h2], by rw [h3]; rfl⟩
    | _ => cases h
section
variable {T : Tab} {N : En} {I : TI} {lvl : Nat} {S : SC} {Wx : WX} {X : Cx}
theorem comp_parts (h : XOk T N I lvl S Wx X) {elt' src cond : E} {tg : Tg} {own : List Nat} {md : Bool} {elt : Expr} {gens : List Comprehension} {scope : Scope} {p : Pos} (q : ck T I (.comp elt' tg src cond own) md S (.ListComp elt gens scope p) = true) :
    ∃ tgE it ifs, gens = [⟨tgE, it, ifs, 0⟩] ∧ PI X tgE it (tI T N (evC T lvl) src Wx) ∧ BlkOk X.N X.env.scope scope (ownB S.N own) ∧
      (∀ (s : Shared) (H : Hp) (Ca : Addr) (cl : List (Str × Addr)) (fp : List Addr), PG (X.blk s H scope (compEnvC scope cl Ca X.env) fp) tgE (gT N tg)) ∧
      (∀ (s : Shared) (H : Hp) (Ca : Addr) (cl : List (Str × Addr)) (fp : List Addr), PTs (X.blk s H scope (compEnvC scope cl Ca X.env) fp) ifs (tT T N (evC T lvl) cond fun _ _ _ _ => False)) ∧
      (∀ (s : Shared) (H : Hp) (Ca : Addr) (cl : List (Str × Addr)) (fp : List Addr), PE (X.blk s H scope (compEnvC scope cl Ca X.env) fp) elt (tE T N (evC T lvl) elt' fun _ _ _ _ => False)) ∧
      (∀ x, foldedSetIterable it X.env x = pure x) ∧ ∀ j ∈ tg.ix, j ∈ own := by
  unfold ck at q
  have e1 : vComp (.ListComp elt gens scope p) = some (elt, gens, scope) := rfl
  rw [e1] at q
  match gens, q with
  | [⟨tgE, it, ifs, asy⟩], q0 =>
    clear q
    have q := q0
    clear q0
    dsimp only at q
    simp only [Bool.and_eq_true, decide_eq_true_eq] at q
    obtain ⟨⟨⟨⟨⟨⟨⟨q1, q2⟩, q3⟩, q4⟩, q5⟩, q6⟩, q7⟩, q8⟩ := q
    subst q1
    refine ⟨tgE, it, ifs, rfl, ckI_ok src S it q2 X Wx h tgE, blkOk_by (by rw [h.hN, h.sc]; exact q4), fun s H Ca cl fp => ckT_ok (h.blk s H scope cl Ca fp) tg tgE q5, fun s H Ca cl fp => ?_,
      fun s H Ca cl fp => (ck_ok elt' false _ elt q7 _ _ (h.blk s H scope cl Ca fp)).1 rfl, noset q3, fun j hj => List.contains_iff_mem.mp (List.all_eq_true.mp q8 j hj)⟩
    match ifs, q6 with
    | [], q6 =>
      cases cond with
      | lit w =>
        cases w with
        | bl b => cases b with
          | true => exact sim_noif'
          | false => cases q6
        | _ => cases q6
      | _ => cases q6
    | [c], q6 => exact pts_one ((ck_ok cond true _ c q6 _ _ (h.blk s H scope cl Ca fp)).2 rfl).1
theorem sim_setc (h : XOk T N I lvl S Wx X) {i : Nat} {e' : E} {y : Str} {py : Pos} {elt : Expr} {gens : List Comprehension} {scope : Scope} {pos spos : Pos}
    (q : ckS T I (.setc i e') S (.Assign [.Name y py] (.ListComp elt gens scope pos) spos) = true) : PS X (.Assign [.Name y py] (.ListComp elt gens scope pos) spos) (tS T N (evC T lvl) (.setc i e') Wx) := by
  have q' : (!S.blk && decide (S.N[i]? = some y) && ck T I e' false S (.ListComp elt gens scope pos) &&
        (match S.sc.names.lookup y with
          | some .local => decide (py.line = pos.line) && !(scope.names.any fun (n, k) => n == y && (k == .local || k == .cell)) && (match S.sc.kind with
            | .function => true
            | _ => false)
          | some .cell => true
          | _ => false)) = true := by unfold ckS at q; exact q
  clear q
  rw [Bool.and_eq_true, Bool.and_eq_true, Bool.and_eq_true] at q'
  obtain ⟨⟨⟨q1, q2⟩, q3⟩, q4⟩ := q'
  have hi : X.N[i]? = some y := by rw [h.hN]; exact of_decide_eq_true q2
  have hb : S.blk = false := by cases e : S.blk with
    | true => rw [e] at q1; cases q1
    | false => rfl
  have hn : X.N.Nodup := by rw [h.hN]; exact h.nd
  cases hk : S.sc.names.lookup y with
  | none => rw [hk] at q4; cases q4
  | some k =>
    rw [hk] at q4
    cases k with
    | «local» =>
      dsimp only at q4
      rw [Bool.and_eq_true, Bool.and_eq_true] at q4
      obtain ⟨⟨l1, l2⟩, l3⟩ := q4
      cases e' with
      | comp elt' tg src cond own =>
        obtain ⟨tgE, it, ifs, eg, p1, p2, p3, p4, p5, p6, p7⟩ := comp_parts h q3
        subst eg
        have hkind : X.env.scope.kind = .function := by
          rw [h.sc]
          split at l3
          · assumption
          · cases l3
        have hloc : X.env.scope.names.lookup y = some .local := by rw [h.sc]; exact hk
        refine (ps_setLc h.calm hn hi hloc (sw_true hkind hloc (by rw [of_decide_eq_true l1]; exact beq_self_eq_true _) (by simpa using l2)) p1 p2 p3 p4 p5 p6).imp fun D σ H ⟨F, ρ, m, sg, R, S', hh⟩ => ?_
        rw [own_fst]
        rw [evS] at hh
        exact comp_reads p7 σ H _ (tE.mk R S' (hh.lft S') fun w ρ1 m1 H1 v e1 R1 D1 rv => DenS.nx D1 R1 ((S'.mono e1).set i rv))
      | _ => unfold ck at q3; cases q3
    | cell =>
      have hc : X.env.scope.names.lookup y = some .cell := by rw [h.sc]; exact hk
      have hg : PG X (.Name y py) (gName i) := pg_name hn hi (.inr hc) (.inl (h.fnl hb y))
      have he := (ck_ok e' false S _ q3 X Wx h).1 rfl
      have hs : swapsWithSole [.Name y py] (.ListComp elt gens scope pos) spos.line X.env = pure false := by
        have ky : X.env.kindOf y = some .cell := hc
        unfold swapsWithSole swapsWith
        simp only [ky]
        rw [show (some NameKind.cell == some NameKind.local) = false from rfl, Bool.and_false, Bool.false_and, Bool.false_and]
      refine (ps_asg he hg hs rfl rfl).imp fun D σ H ⟨F, ρ, m, sg, R, S', hh⟩ => ?_
      rw [evS] at hh
      exact tE.mk R S' (hh.lft S') fun w ρ1 m1 H1 v e1 R1 D1 rv => DenS.nx D1 R1 ((S'.mono e1).set i rv)
    | _ => cases q4
theorem lkp_of {x : Str} {k : Option NameKind} (h : XOk T N I lvl S Wx X) (e : S.sc.names.lookup x = k) : X.env.scope.names.lookup x = k := by rw [h.sc]; exact e
mutual
theorem ckS_ok : ∀ (s : WM.S) (st : Stmt), ckS T I s S st = true → XOk T N I lvl S Wx X → PS X st (tS T N (evC T lvl) s Wx)
  | .pass, st, q, h => by
    unfold ckS at q
    split at q
    · exact sim_pass
    · exact sim_doc
    · cases q
  | .brk, st, q, h => by
    unfold ckS at q
    split at q
    · exact sim_brk
    · cases q
  | .cnt, st, q, h => by
    unfold ckS at q
    split at q
    · exact sim_cnt
    · cases q
  | .expr e', st, q, h => by
    unfold ckS at q
    split at q
    · rw [Bool.and_eq_true] at q
      exact sim_expr ((ck_ok e' false S _ q.1 X Wx h).1 rfl) q.2
    · cases q
  | .ret e', st, q, h => by
    unfold ckS at q
    split at q
    · exact sim_ret ((ck_ok e' false S _ q X Wx h).1 rfl)
    · cases q
  | .retN, st, q, h => by
    unfold ckS at q
    split at q
    · exact sim_retN
    · cases q
  | .set t e', st, q, h => by
    unfold ckS at q
    split at q
    · simp only [Bool.and_eq_true, Option.isNone_iff_eq_none] at q
      obtain ⟨⟨⟨⟨⟨q1, q2⟩, q3⟩, q4⟩, q5⟩, q6⟩ := q
      exact sim_set ((ck_ok e' false S _ q2 X Wx h).1 rfl) (ckT_ok h t _ q1) (sole_false q3) (swapNone_ok h.sc q4 q5) q6
    · cases q
  | .setc i e', st, q, h => by
    have q2 := q
    unfold ckS at q
    split at q
    · exact sim_setc h q2
    · cases q
  | .par is es', st, q, h => by
    unfold ckS at q
    split at q
    · rename_i ts k1 p1 es k2 p2 pos
      rw [Bool.and_eq_true, Bool.and_eq_true] at q
      obtain ⟨⟨q1, q2⟩, q3⟩ := q
      cases e1 : vNames ts with
      | none => rw [e1] at q1; cases q1
      | some xs =>
        rw [e1] at q1
        dsimp only at q1
        rw [Bool.and_eq_true] at q1
        obtain ⟨q4, q5⟩ := q1
        have hw := swap_ok (k := k1) (p := p1) (k2 := k2) (p2 := p2) h.sc (of_decide_eq_true q4)
        obtain ⟨ps, hl1, hl2, hts⟩ := vNames_inv e1
        obtain ⟨ha, _⟩ := cks_ok es' S es q2 X Wx h
        have hn : X.N.Nodup := by rw [h.hN]; exact h.nd
        match is, xs, q5 with
        | [i, j], [x, y], q5 =>
          simp only [Bool.and_eq_true, decide_eq_true_eq] at q5
          obtain ⟨⟨⟨⟨a1, a2⟩, a3⟩, a4⟩, a5⟩ := q5
          match ps, hl2 with
          | [pa, pb], _ =>
            have hts' : ts = [.Name x pa, .Name y pb] := hts
            subst hts'
            have hel : es.length = 2 := of_decide_eq_true q3
            match es, hel, ha, hw with
            | [ea, eb], _, ha, hw =>
              match es', cks_len q2, ha with
              | [ea', eb'], _, ha =>
                exact (ps_par h.calm hn (by rw [h.hN]; exact a1) (by rw [h.hN]; exact a2) a3 (lkp_of h a4) (lkp_of h a5) ha hw).imp par_reads2
        | [i, j, l], [x, y, z], q5 =>
          simp only [Bool.and_eq_true, decide_eq_true_eq] at q5
          obtain ⟨⟨⟨⟨⟨⟨⟨⟨a1, a2⟩, a3⟩, a4⟩, a5⟩, a6⟩, a7⟩, a8⟩, a9⟩ := q5
          match ps, hl2 with
          | [pa, pb, pc], _ =>
            have hts' : ts = [.Name x pa, .Name y pb, .Name z pc] := hts
            subst hts'
            have hel : es.length = 3 := of_decide_eq_true q3
            match es, hel, ha, hw with
            | [ea, eb, ec], _, ha, hw =>
              match es', cks_len q2, ha with
              | [ea', eb', ec'], _, ha =>
                exact (ps_par3 h.calm hn (by rw [h.hN]; exact a1) (by rw [h.hN]; exact a2) (by rw [h.hN]; exact a3) a4 a5 a6 (lkp_of h a7) (lkp_of h a8) (lkp_of h a9) ha hw).imp par_reads3
    · cases q
  | .aug i o e', st, q, h => by
    unfold ckS at q
    split at q
    · simp only [Bool.and_eq_true, decide_eq_true_eq] at q
      obtain ⟨⟨⟨q1, q2⟩, q3⟩, q4⟩ := q
      obtain ⟨l1, l2⟩ := h.loc q2
      exact sim_aug (by rw [h.hN]; exact h.nd) (by rw [h.hN]; exact q1) l1 l2 ((ck_ok e' false S _ q4 X Wx h).1 rfl) q3
    · cases q
  | .setI o i e', st, q, h => by
    unfold ckS at q
    split at q
    · simp only [Bool.and_eq_true] at q
      obtain ⟨⟨⟨⟨q1, q2⟩, q3⟩, q4⟩, q5⟩ := q
      exact sim_setI ((ck_ok o false S _ q1 X Wx h).1 rfl) ((ck_ok i false S _ q2 X Wx h).1 rfl) ((ck_ok e' false S _ q3 X Wx h).1 rfl) q4 q5
    · cases q
  | .app o e', st, q, h => by
    unfold ckS at q
    split at q
    · simp only [Bool.and_eq_true, decide_eq_true_eq] at q
      obtain ⟨⟨⟨⟨⟨q1, q2⟩, q3⟩, q4⟩, q5⟩, q6⟩ := q
      subst q1
      exact sim_app h.hK ((ck_ok o false S _ q2 X Wx h).1 rfl) ((ck_ok e' false S _ q3 X Wx h).1 rfl) q4 q5 q6
    · cases q
  | .ife c a b, st, q, h => by
    unfold ckS at q
    split at q
    · simp only [Bool.and_eq_true] at q
      exact sim_ifs ((ck_ok c true S _ q.1.1 X Wx h).2 rfl).1 (ckSs_ok a _ q.1.2 h) (ckSs_ok b _ q.2 h)
    · cases q
  | .loop t src body, st, q, h => by
    unfold ckS at q
    split at q
    · simp only [Bool.and_eq_true, Bool.not_eq_true'] at q
      obtain ⟨⟨⟨⟨q1, q2⟩, q3⟩, q4⟩, q5⟩ := q
      exact sim_loop (h.po q5) h.calm (ckI_ok src S _ q2 X Wx h _) (ckT_ok h t _ q1) (ckSs_ok body _ q3 h) (noset q4)
    · cases q
  | .while c body, st, q, h => by
    unfold ckS at q
    split at q
    · simp only [Bool.and_eq_true, Bool.not_eq_true'] at q
      exact sim_while (h.po q.2) ((ck_ok c true S _ q.1.1 X Wx h).2 rfl).1 (ckSs_ok body _ q.1.2 h)
    · cases q
theorem ckSs_ok : ∀ (ss : List WM.S) (st : List Stmt), ckSs T I ss S st = true → XOk T N I lvl S Wx X → PSs X st (tSs T N (evC T lvl) ss Wx)
  | [], [], _, _ => sim_snil
  | [], _ :: _, q, _ => by simp [ckSs] at q
  | _ :: _, [], q, _ => by simp [ckSs] at q
  | s :: ss, st :: r, q, h => by
    rw [ckSs, Bool.and_eq_true] at q
    exact sim_scons (ckS_ok s st q.1 h) (ckSs_ok ss r q.2 h)
end
end
end WM
namespace WM
open PySem PySem.Spec PyProof.Rows L2

/-! ### the text's defs as a table -/
structure DR where
  fn : Nat
  F : Fn
  d : He.DefD
  N : List Str
  ps : List Str
def scopeB (N ps : List Str) (sc : Scope) : Bool :=
  (match sc.kind with
    | .function => true
    | _ => false) && !sc.isCoroutine && !sc.isGenerator && decide N.Nodup && decide (N.take ps.length = ps) && (ps.all fun x => match sc.names.lookup x with
      | some .local => true
      | some .cell => true
      | _ => false) && (sc.names.all fun y => match y.2 with
      | .free => false
      | _ => true)
theorem scopeB_ok {N ps : List Str} {sc : Scope} (h : scopeB N ps sc = true) : FnScope N ps sc := by
  unfold scopeB at h
  simp only [Bool.and_eq_true, decide_eq_true_eq, Bool.not_eq_true'] at h
  obtain ⟨⟨⟨⟨⟨⟨h1, h2⟩, h3⟩, h4⟩, h5⟩, h6⟩, h7⟩ := h
  refine ⟨?_, h2, h3, h4, h5, fun x hx => ?_, fun y hy e => ?_⟩
  · split at h1
    · assumption
    · cases h1
  · have q := List.all_eq_true.mp h6 x hx
    split at q
    · exact .inl (by assumption)
    · exact .inr (by assumption)
    · cases q
  · have q := List.all_eq_true.mp h7 y hy
    rw [e] at q
    cases q
def DR.ok (T : Tab) (I : TI) (r : DR) : Bool :=
  decide (r.d.at_ = (I.fname r.fn, none)) && r.d.dfl.isEmpty && r.d.kwd.isEmpty && scopeB r.N r.ps r.d.scope && decide (r.ps.length = r.F.np) && decide (r.N.length = r.F.ns) && ckSs T I r.F.body ⟨r.N, r.d.scope, false⟩ r.d.body
/-- how its arguments bind -/
def DR.Bi (r : DR) : Prop := ∀ (kV doc pm : Value) (an : Option Addr) (cdv ct : Value) (us : List Value), us.length = r.ps.length → bindArgs (PySem.W.fnOf r.d.name r.d.qual r.d.params r.d.body r.d.scope .none kV doc pm an cdv ct) ⟨us, []⟩ = pure (r.ps.zip us)
/-- the table that the evaluator takes -/
def tabOf (glob : Nat → Option W) (tab : List DR) : Tab := ⟨glob, fun f => (tab.find? fun r => r.fn == f).map (·.F)⟩
theorem tabOf_fn {glob : Nat → Option W} {tab : List DR} {f : Nat} {F : Fn} (h : (tabOf glob tab).fn f = some F) : ∃ r ∈ tab, r.fn = f ∧ r.F = F := by
  have h' : (tab.find? fun r => r.fn == f).map (·.F) = some F := h
  cases e : tab.find? fun r => r.fn == f with
  | none => rw [e] at h'; cases h'
  | some r =>
    rw [e] at h'
    cases h'
    exact ⟨r, List.mem_of_find?_eq_some e, eq_of_beq (show (r.fn == f) = true from List.find?_some (p := fun r : DR => r.fn == f) e), rfl⟩

theorem FnOk.cx {P : Program} {w : World} {K : PySem.W.Frag} {mg : Str → Option Value} {base : Heap} {CX CX' : CXT} {k : Nat} {f : Addr} {fd : FuncData} {ps : List Str} {sp : Sp} (F : FnOk P w K mg base CX k f fd ps sp)
    (h : ∀ outer H s E u s', CX outer H s E u s' → CX' outer H s E u s') : FnOk P w K mg base CX' k f fd ps sp := by
  refine ⟨F.len, fun A outer s H args us vs Q E hr he hb hv hs => codeAny_mono (F.run A outer s H args us vs Q E hr he hb hv hs) fun r s' hq => ?_⟩
  cases r with
  | error e => exact h _ _ _ _ _ _ hq
  | ok fl => cases fl <;> exact hq

section
variable {glob : Nat → Option W} {tab : List DR} {N : En} {I : TI} {P : Program} {w : World} {mg : Str → Option Value} {base : Heap}
/-- THE RULE: every def of the text does what the evaluator says -/
theorem fns_ok (hok : tab.all (DR.ok (tabOf glob tab) I) = true) (hB : ∀ r ∈ tab, r.Bi)
    (hdef : ∀ r ∈ tab, ∃ fd, FunD N.K r.d.name r.d.qual r.d.params r.d.body r.d.scope [] [] (He.ga N.K (I.fname r.fn)) fd) (hmg : ∀ r ∈ tab, mg (I.fname r.fn) = some (.ref (He.ga N.K (I.fname r.fn))))
    (free : ∀ x ∈ bNames, mg (Str.ofString x) = none) (gls : ∀ g w, glob g = some w → ∃ v u, mg (I.gname g) = some u ∧ RelV v u ∧ ∀ F ρ k H, RV (N.wF F) ρ k H w v) :
    ∀ lvl, ∀ r ∈ tab, (tabOf glob tab).fn r.fn = some r.F → ∃ fd, FunD N.K r.d.name r.d.qual r.d.params r.d.body r.d.scope [] [] (He.ga N.K (I.fname r.fn)) fd ∧ FnOk P w N.K mg base (L2.CX P w) lvl (He.ga N.K (I.fname r.fn)) fd r.ps (spF (tabOf glob tab) N lvl r.ps.length r.fn) := by
  intro lvl
  induction lvl with
  | zero =>
    intro r hr hf
    obtain ⟨fd, F⟩ := hdef r hr
    exact ⟨fd, F, fn_zero⟩
  | succ l ih =>
    intro r hr hf
    obtain ⟨fd, F⟩ := hdef r hr
    have q := List.all_eq_true.mp hok r hr
    unfold DR.ok at q
    simp only [Bool.and_eq_true, decide_eq_true_eq] at q
    obtain ⟨⟨⟨⟨⟨⟨q1, q2⟩, q3⟩, q4⟩, q5⟩, q6⟩, q7⟩ := q
    refine ⟨fd, F, fn_body F (scopeB_ok q4) hf q5 q6 fun cdv A outer s H E hr => ckSs_ok r.F.body r.d.body q7 ?_⟩
    exact {
      hK := rfl
      hN := rfl
      nd := (scopeB_ok q4).nd
      sc := rfl
      calm := rfl
      room := hr
      free := free
      fns := fun f F' hf' => by
        obtain ⟨r', hr', e1, e2⟩ := tabOf_fn hf'
        subst e1
        subst e2
        obtain ⟨fd', FD, ok⟩ := ih r' hr' hf'
        have q' := List.all_eq_true.mp hok r' hr'
        unfold DR.ok at q'
        simp only [Bool.and_eq_true, decide_eq_true_eq] at q'
        exact ⟨_, fd', r'.ps, q'.1.1.2, hmg r' hr', FD.kp, FD.bindsN (hB r' hr'), ok⟩
      gls := gls
      tk := takes_of rfl rfl rfl rfl
      fnl := fun _ _ => rfl
      po := fun _ => passes_of rfl }
end

/-! ### constants of the text's own top -/
def relW (K : PySem.W.Frag) : Nat → W → Value → Bool
  | 0, _, _ => false
  | n + 1, w, u => match w, u with
    | .non, .none => true
    | .bl b, .bool c => b == c
    | .int i, .int j _ => decide (i = j)
    | .str x, .str y _ => decide (x = y)
    | .tup ws, .ref a => (match K.lookup a with
      | some ⟨.type c, _, .seq its _, _⟩ => decide (c = "tuple") && decide (its.size ≤ sizeLine) && decide (ws.length = its.toList.length) && (ws.zip its.toList).all fun p => relW K n p.1 p.2
      | _ => false)
    | .klst ws, .ref a => (match K.lookup a with
      | some ⟨.type c, none, .seq its _, _⟩ => decide (c = "list") && decide (its.size ≤ sizeLine) && decide (ws.length = its.toList.length) && (ws.zip its.toList).all fun p => relW K n p.1 p.2
      | _ => false)
    | _, _ => false
def KRel (N : En) (w : W) (u : Value) : Prop := ∃ v, RelV v u ∧ ∀ F ρ k H, RV (N.wF F) ρ k H w v
theorem krels {N : En} : ∀ {ws : List W} {us : List Value}, ws.length = us.length → (∀ p ∈ ws.zip us, KRel N p.1 p.2) → ∃ vs, Vals vs us ∧ ∀ F ρ k H, RVs (N.wF F) ρ k H ws vs
  | [], [], _, _ => ⟨[], .nil, fun _ _ _ _ => rfl⟩
  | [], _ :: _, e, _ => by cases e
  | _ :: _, [], e, _ => by cases e
  | w :: ws, u :: us, e, h => by
    obtain ⟨v, h1, h2⟩ := h (w, u) List.mem_cons_self
    obtain ⟨vs, h3, h4⟩ := krels (ws := ws) (us := us) (Nat.succ.inj e) fun p hp => h p (List.mem_cons_of_mem _ hp)
    exact ⟨v :: vs, .cons h1 h3, fun F ρ k H => ⟨v, vs, rfl, h2 F ρ k H, h4 F ρ k H⟩⟩
theorem relW_ok {N : En} : ∀ (n : Nat) (w : W) (u : Value), relW N.K n w u = true → KRel N w u
  | 0, _, _, h => by cases h
  | n + 1, w, u, h => by
    cases w with
    | non => cases u <;> first | exact ⟨.non, rfl, fun _ _ _ _ => rfl⟩ | cases h
    | bl b => cases u <;> first | (cases eq_of_beq h; exact ⟨.bl b, rfl, fun _ _ _ _ => rfl⟩) | cases h
    | int i => cases u <;> first | (cases of_decide_eq_true h; exact ⟨.int i, ⟨_, rfl⟩, fun _ _ _ _ => rfl⟩) | cases h
    | str x => cases u <;> first | (cases of_decide_eq_true h; exact ⟨.str x, ⟨_, rfl⟩, fun _ _ _ _ => rfl⟩) | cases h
    | tup ws =>
      cases u with
      | ref a =>
        have h' : (match N.K.lookup a with
          | some ⟨.type c, _, .seq its _, _⟩ => decide (c = "tuple") && decide (its.size ≤ sizeLine) && decide (ws.length = its.toList.length) && (ws.zip its.toList).all fun p => relW N.K n p.1 p.2
          | _ => false) = true := h
        split at h'
        · rename_i c od its nn sl e
          simp only [Bool.and_eq_true, decide_eq_true_eq] at h'
          obtain ⟨⟨⟨h1, h2⟩, h3⟩, h4⟩ := h'
          obtain ⟨vs, h5, h6⟩ := krels (N := N) h3 fun p hp => relW_ok n p.1 p.2 (List.all_eq_true.mp h4 p hp)
          have hl := h5.length
          refine ⟨.ref a, rfl, fun F ρ k H => ⟨a, vs, rfl, ⟨?_, .inr ⟨_, its, nn, e, congrArg Value.type h1, rfl, h2, h5⟩⟩, h6 F ρ k H⟩⟩
          rw [hl, Array.length_toList]; exact h2
        · cases h'
      | _ => cases h
    | klst ws =>
      cases u with
      | ref a =>
        have h' : (match N.K.lookup a with
          | some ⟨.type c, none, .seq its _, _⟩ => decide (c = "list") && decide (its.size ≤ sizeLine) && decide (ws.length = its.toList.length) && (ws.zip its.toList).all fun p => relW N.K n p.1 p.2
          | _ => false) = true := h
        split at h'
        · rename_i c its nn sl e
          simp only [Bool.and_eq_true, decide_eq_true_eq] at h'
          obtain ⟨⟨⟨h1, h2⟩, h3⟩, h4⟩ := h'
          obtain ⟨vs, h5, h6⟩ := krels (N := N) h3 fun p hp => relW_ok n p.1 p.2 (List.all_eq_true.mp h4 p hp)
          have hl := h5.length
          refine ⟨.ref a, rfl, fun F ρ k H => ⟨a, vs, rfl, ⟨?_, .inr ⟨_, its, nn, e, congrArg Value.type h1, rfl, rfl, h2, h5⟩⟩, h6 F ρ k H⟩⟩
          rw [hl, Array.length_toList]; exact h2
        · cases h'
      | _ => cases h
    | _ => cases u <;> cases h
def globB (K : PySem.W.Frag) (I : TI) (p : Nat × W) : Bool := match PySem.W.nsIn K mainGlobals (I.gname p.1) with
  | some (some u) => relW K 8 p.2 u
  | _ => false

/-! ### the head's facts -/
def hkFa (I : TI) (tab : List DR) : List He.Fa := (tab.map fun r => He.Fa.glo (I.fname r.fn)) ++ bNames.map fun x => He.Fa.free (Str.ofString x)
abbrev AlW : Type := Bool × List He.FnW
def obsW (I : TI) (gl : List (Nat × W)) (tab : List DR) (K : PySem.W.Frag) : AlW :=
  (((hkFa I tab).all fun f => f.ok K) && (gl.all (globB K I)) && tab.all fun r => r.d.ok K, tab.map fun r => He.fnW K r.d.at_)
def valW (tab : List DR) : AlW := (true, tab.map fun r => r.d.val)
def obsWG (n : Nat) (I : TI) (gl : List (Nat × W)) (tab : List DR) (g : Addr → Option Obj) : AlW := obsW I gl tab (He.frG g (He.asD g n))
def hookW (n : Nat) (I : TI) (gl : List (Nat × W)) (tab : List DR) : PySem.W.Hook where
  α := AlW
  obs := fun s => obsWG n I gl tab s.heap.get?
  val := fun _ => valW tab
  says := fun _ h => ∃ K : PySem.W.Frag, K.In h ∧ obsW I gl tab K = valW tab
  of := fun _ _ e => ⟨_, He.frG_in, e⟩
  keeps := fun _ _ _ ⟨K, hK, c⟩ k => ⟨K, PySem.W.Frag.In.keeps hK k, c⟩
theorem obsWG_eq {n : Nat} {I : TI} {gl : List (Nat × W)} {tab : List DR} {g : Addr → Option Obj} {s : Shared} (h : ∀ a, g a = s.heap.get? a) : obsWG n I gl tab g = (hookW n I gl tab).obs s := by
  have e : g = s.heap.get? := funext h
  rw [e] <;> rfl
def globOf (gl : List (Nat × W)) : Nat → Option W := fun g => gl.lookup g
theorem mem_of_lk {α β : Type} [BEq α] [LawfulBEq α] : ∀ {l : List (α × β)} {a : α} {b : β}, l.lookup a = some b → (a, b) ∈ l
  | [], _, _, h => by cases h
  | (x, y) :: r, a, b, h => by
    rw [List.lookup_cons] at h
    split at h
    · rename_i e
      cases h
      rw [eq_of_beq e]
      exact List.mem_cons_self
    · exact List.mem_cons_of_mem _ (mem_of_lk h)

/-- THE END: the law's equation gives the walk -/
theorem law_walk {l : PySem.W.OpenLaw} {q : Program} {loose : List Str} {XP : (Str → Option Value) → Heap → Prop} {d : DefRec} {n : Nat} {I : TI} {gl : List (Nat × W)} {tab : List DR} {rl : DR} {lvl : Nat}
    (hn : l.most = some 63) (hdf : d.params.defaults = []) (hr : Room lvl callerA)
    (hok : tab.all (DR.ok (tabOf (globOf gl) tab) I) = true) (hB : ∀ r ∈ tab, r.Bi) (hrl : rl ∈ tab) (hfl : (tabOf (globOf gl) tab).fn rl.fn = some rl.F) (hname : d.name = I.fname rl.fn) (hps : rl.ps = [("script" : Str)])
    (law : ∀ ns : List Int, ns.length ≤ 63 → ∃ m', evC (tabOf (globOf gl) tab) lvl rl.fn [.klst (ns.map .int)] [] = some (.ok (.bl true), m')) :
    PySem.W.WalkO q loose XP (hookW n I gl tab).says l.row.toRowW d [] (fun f vs => PySem.call f vs) := by
  refine L2.walk_ofE (l := l) (n := 63) (k := lvl) (x := "script") (CX := fun outer H s E u s' => ∃ w, L2.CX l.prog w outer H s E u s') hn (by rw [sizeLine_eq]; decide) hdf hr ?F ?X
  case X =>
    intro H s e s' ⟨w, z⟩
    obtain ⟨_, _, _, _, _, _, _, _, _, _, _, _, z⟩ := z
    exact z
  case F =>
    intro w mg fa h Y G hmg0
    obtain ⟨K, KX, c⟩ := Y
    have c1 : (((hkFa I tab).all fun f => f.ok K) && (gl.all (globB K I)) && tab.all fun r => r.d.ok K) = true := congrArg (fun z : AlW => z.1) c
    have c2 : (tab.map fun r => He.fnW K r.d.at_) = tab.map fun r => r.d.val := congrArg (fun z : AlW => z.2) c
    simp only [Bool.and_eq_true] at c1
    obtain ⟨⟨f1, f2⟩, f3⟩ := c1
    have okr : ∀ r ∈ tab, r.d.at_ = (I.fname r.fn, none) ∧ r.d.dfl = [] ∧ r.d.kwd = [] := fun r hr => by
      have q := List.all_eq_true.mp hok r hr
      unfold DR.ok at q
      simp only [Bool.and_eq_true, decide_eq_true_eq, List.isEmpty_iff] at q
      exact ⟨q.1.1.1.1.1.1, q.1.1.1.1.1.2, q.1.1.1.1.2⟩
    have fad : ∀ r ∈ tab, He.fAd K r.d.at_ = He.ga K (I.fname r.fn) := fun r hr => by rw [(okr r hr).1]; rfl
    have hmg : ∀ r ∈ tab, mg (I.fname r.fn) = some (.ref (He.ga K (I.fname r.fn))) := fun r hr =>
      He.glo_ok KX G (List.all_eq_true.mp f1 _ (List.mem_append_left _ (List.mem_map.mpr ⟨r, hr, rfl⟩)))
    have hfree : ∀ x ∈ bNames, mg (Str.ofString x) = none := fun x hx =>
      He.free_ok KX G (List.all_eq_true.mp f1 _ (List.mem_append_right _ (List.mem_map.mpr ⟨x, hx, rfl⟩)))
    have hdef : ∀ r ∈ tab, ∃ fd, FunD K r.d.name r.d.qual r.d.params r.d.body r.d.scope [] [] (He.ga K (I.fname r.fn)) fd := fun r hr => by
      have e : He.fnW K r.d.at_ = r.d.val := by
        obtain ⟨i, hi⟩ := List.getElem?_of_mem hr
        have e2 : (tab.map fun r => He.fnW K r.d.at_)[i]? = (tab.map fun r => r.d.val)[i]? := by rw [c2]
        rw [List.getElem?_map, List.getElem?_map, hi] at e2
        exact Option.some.inj e2
      obtain ⟨fd, FD⟩ := He.DefD.funD e (List.all_eq_true.mp f3 r hr)
      refine ⟨fd, ?_⟩
      rw [fad r hr] at FD
      have e1 : r.d.dvs K = [] := by unfold He.DefD.dvs; rw [(okr r hr).2.1]; rfl
      have e2 : r.d.kws K = [] := by unfold He.DefD.kws; rw [(okr r hr).2.2]; rfl
      rw [e1, e2] at FD
      exact FD
    have hgls : ∀ g w, globOf gl g = some w → ∃ v u, mg (I.gname g) = some u ∧ RelV v u ∧ ∀ F ρ k H, RV ((⟨K, fun _ => 0, fun _ => [], fun _ => False⟩ : En).wF F) ρ k H w v := fun g w hg => by
      have q := List.all_eq_true.mp f2 (g, w) (mem_of_lk hg)
      unfold globB at q
      dsimp only at q
      split at q
      · rename_i u e
        obtain ⟨v, h1, h2⟩ := relW_ok (N := ⟨K, fun _ => 0, fun _ => [], fun _ => False⟩) 8 w u q
        exact ⟨v, u, PySem.W.mg_of KX G e, h1, h2⟩
      · cases q
    have efa : fa = He.ga K (I.fname rl.fn) := by
      rw [hname, hmg rl hrl] at hmg0
      cases hmg0; rfl
    obtain ⟨fd, FD⟩ := hdef rl hrl
    refine ⟨K, fd, spF (tabOf (globOf gl) tab) ⟨K, fun _ => 0, fun _ => [], fun _ => False⟩ lvl rl.ps.length rl.fn, KX, fun s u => ?_, fun H a ns hl _ hS => ?_, fun base hb hg => ?_⟩
    · have b := FunD.bindsA (ps := rl.ps) FD (hB rl hrl) s [u] (by rw [hps]; rfl)
      rw [hps] at b
      exact b
    · obtain ⟨m', hm⟩ := law ns hl
      have hz : (ns.map V.int).length ≤ sizeLine := by rw [List.length_map, sizeLine_eq]; omega
      refine ⟨by rw [hps]; rfl, fun _ => False, fun _ => 0, [], [.klst (ns.map .int)], ⟨fun _ z => z.elim, fun n hn => absurd hn (by simp), fun i j hi => absurd hi (by simp), fun i hi => absurd hi (by simp), fun n o hn => by simp [hget] at hn⟩, ?_, ?_⟩
      · refine ⟨.ref a, [], rfl, ⟨a, ns.map V.int, rfl, ⟨hz, ?_⟩, ?_⟩, rfl⟩
        · rcases hS with hS | hS
          · exact .inl ⟨hS, ⟨fun n hn => absurd hn (by simp), id⟩⟩
          · exact .inr hS
        · have : ∀ ns : List Int, RVs ((⟨K, fun _ => 0, fun _ => [], fun _ => False⟩ : En).wF fun _ => False) (fun _ => 0) ([] : Hm).length H (ns.map .int) (ns.map V.int) := by
            intro ns
            induction ns with
            | nil => rfl
            | cons x r ih => exact ⟨.int x, _, rfl, rfl, ih⟩
          exact this ns
      · rw [hm]
        intro ρ' H' _ _ v rv
        exact rv
    · have hall := fns_ok (P := l.prog) (w := w) (mg := mg) (base := base) (N := ⟨K, fun _ => 0, fun _ => [], fun _ => False⟩) hok hB hdef hmg hfree hgls lvl rl hrl hfl
      obtain ⟨fd', FD', ok⟩ := hall
      have efd : fd' = fd := by
        obtain ⟨_, _, _, _, _, _, _, _, _, _, _, l1, _⟩ := FD.ex
        obtain ⟨_, _, _, _, _, _, _, _, _, _, _, l2, _⟩ := FD'.ex
        rw [l1] at l2
        cases l2; rfl
      subst efd
      rw [efa]
      rw [hps] at ok ⊢
      exact FnOk.cx ok fun outer H s E u s' z => ⟨w, z⟩
end WM
namespace WM
open PySem PySem.Spec PyProof.Rows L2
theorem room_le {n : Nat} (h : n ≤ 100) : Room n callerA := (show Room 100 callerA from ⟨rfl, by decide, by decide⟩).mono h
end WM
/-! simp equations of the little language -/
namespace WM
open PySem PySem.Spec PyProof.Rows L2
section
variable (T : Tab) (C : Calls) (sg : Sg)
@[simp] theorem evE_lit (w : W) : evE T C (.lit w) sg = ret w := by simp [evE]
@[simp] theorem evE_var (i : Nat) : evE T C (.var i) sg = match sg[i]? with | some (some w) => ret w | _ => stuck := by simp only [evE] <;> rfl
@[simp] theorem evE_glob (g : Nat) : evE T C (.glob g) sg = opt (T.glob g) := by simp [evE]
@[simp] theorem evE_tup (es : List E) : evE T C (.tup es) sg = bnd (evEs T C es sg) fun ws => ret (.tup ws) := by simp [evE]
@[simp] theorem evE_lst (es : List E) : evE T C (.lst es) sg = bnd (evEs T C es sg) fun ws => ret (.lst ws) := by simp [evE]
@[simp] theorem evE_bin (o : Bop) (a b : E) : evE T C (.bin o a b) sg = bnd (evE T C a sg) fun x => bnd (evE T C b sg) fun y => opt (binW o x y) := by simp only [evE]
def negM : W → M W
  | .int i => ret (.int (-i))
  | _ => stuck
@[simp] theorem negM_int (i : Int) : negM (.int i) = ret (.int (-i)) := Eq.trans rfl rfl
@[simp] theorem evE_neg (a : E) : evE T C (.neg a) sg = bnd (evE T C a sg) negM := by simp only [evE]; rfl
@[simp] theorem evE_cmp (o : Cop) (a b : E) : evE T C (.cmp o a b) sg = bnd (evE T C a sg) fun x => bnd (evE T C b sg) fun y => opt (cmpW o x y) := by simp only [evE]
def ifM {α : Type} (x : W) (a b : M α) : M α := match x with
  | .bl true => a
  | .bl false => b
  | _ => stuck
@[simp] theorem ifM_true {α : Type} (a b : M α) : ifM (.bl true) a b = a := Eq.trans rfl rfl
@[simp] theorem ifM_false {α : Type} (a b : M α) : ifM (.bl false) a b = b := Eq.trans rfl rfl
theorem ifM_dec {α : Type} (p : Prop) [Decidable p] (a b : M α) : ifM (.bl (decide p)) a b = if p then a else b := by
  by_cases h : p <;> simp [h]
@[simp] theorem evE_cmp2 (o p : Cop) (a b c : E) : evE T C (.cmp2 o p a b c) sg = bnd (evE T C a sg) fun x => bnd (evE T C b sg) fun y => bnd (opt (cmpW o x y)) fun z => ifM z (bnd (evE T C c sg) fun u => opt (cmpW p y u)) (ret (.bl false)) := by
  simp only [evE]; rfl
@[simp] theorem evE_and (a b : E) : evE T C (.and a b) sg = bnd (evE T C a sg) fun x => ifM x (evE T C b sg) (ret (.bl false)) := by simp only [evE]; rfl
@[simp] theorem evE_or (a b : E) : evE T C (.or a b) sg = bnd (evE T C a sg) fun x => ifM x (ret (.bl true)) (evE T C b sg) := by simp only [evE]; rfl
def notM : W → M W
  | .bl b => ret (.bl (!b))
  | _ => stuck
@[simp] theorem notM_bl (b : Bool) : notM (.bl b) = ret (.bl (!b)) := Eq.trans rfl rfl
@[simp] theorem evE_not (a : E) : evE T C (.not a) sg = bnd (evE T C a sg) notM := by simp only [evE]; rfl
@[simp] theorem evE_ife (c a b : E) : evE T C (.ife c a b) sg = bnd (evE T C c sg) fun x => ifM x (evE T C a sg) (evE T C b sg) := by simp only [evE]; rfl
@[simp] theorem evE_idx (a b : E) : evE T C (.idx a b) sg = bnd (evE T C a sg) fun x => bnd (evE T C b sg) fun y => idxM x y := by simp only [evE]
@[simp] theorem evE_call (f : Nat) (es : List E) : evE T C (.call f es) sg = bnd (evEs T C es sg) fun ws => C f ws := by simp only [evE]
@[simp] theorem evE_bi (b : Bi) (es : List E) : evE T C (.bi b es) sg = bnd (evEs T C es sg) fun ws => biM b ws := by simp only [evE]
@[simp] theorem evE_isi (a : E) (t : String) : evE T C (.isi a t) sg = bnd (evE T C a sg) fun x => bnd (opt (isiW t x)) fun b => ret (.bl b) := by simp only [evE]
@[simp] theorem evE_comp (elt : E) (tg : Tg) (src cond : E) (own : List Nat) : evE T C (.comp elt tg src cond own) sg = bnd (evI T C src sg) fun xs =>
      bnd (noExc (compGo tg (wipeW sg own) (evE T C cond) (evE T C elt) xs)) fun ys => ret (.lst ys) := by simp only [evE]
@[simp] theorem evE_newl (es : List E) : evE T C (.newl es) sg = bnd (evEs T C es sg) fun ws => alloc (.lst ws) := by simp only [evE]
@[simp] theorem evEs_nil : evEs T C [] sg = ret [] := by simp only [evEs]
@[simp] theorem evEs_cons (e : E) (es : List E) : evEs T C (e :: es) sg = bnd (evE T C e sg) fun w => bnd (evEs T C es sg) fun ws => ret (w :: ws) := by simp only [evEs]
def rngM (x y : W) : M (List W) := match x, y with
  | .int i, .int j => opt (rngW i j)
  | _, _ => stuck
@[simp] theorem rngM_int (i j : Int) : rngM (.int i) (.int j) = opt (rngW i j) := by simp only [rngM]
@[simp] theorem evI_r1 (a : E) : evI T C (.srng1 a) sg = bnd (evE T C a sg) fun w => rngM (.int 0) w := by simp only [evI]; congr 1; funext x; cases x <;> rfl
@[simp] theorem evI_r2 (a b : E) : evI T C (.srng2 a b) sg = bnd (evE T C a sg) fun x => bnd (evE T C b sg) fun y => rngM x y := by simp only [evI]; rfl
def seqI (x : W) : M (List W) := match x with
  | .tup xs => ret xs
  | .lst xs => ret xs
  | .klst xs => ret xs
  | _ => stuck
@[simp] theorem seqI_tup (xs : List W) : seqI (.tup xs) = ret xs := Eq.trans rfl rfl
@[simp] theorem seqI_lst (xs : List W) : seqI (.lst xs) = ret xs := Eq.trans rfl rfl
@[simp] theorem seqI_klst (xs : List W) : seqI (.klst xs) = ret xs := Eq.trans rfl rfl
@[simp] theorem evI_sq (a : E) : evI T C (.sseq a) sg = bnd (evE T C a sg) seqI := by simp only [evI]; rfl
def asgS (o : Option Sg) : MS := fun m => match o with
  | some sg' => some (.nx, sg', m)
  | none => none
@[simp] theorem asgS_some (s : Sg) (m : Hm) : asgS (some s) m = some (.nx, s, m) := Eq.trans rfl rfl
@[simp] theorem evS_pass (m : Hm) : evS T C .pass sg m = some (.nx, sg, m) := by simp [evS]
@[simp] theorem evS_brk (m : Hm) : evS T C .brk sg m = some (.brk, sg, m) := by simp [evS]
@[simp] theorem evS_cnt (m : Hm) : evS T C .cnt sg m = some (.cnt, sg, m) := by simp [evS]
@[simp] theorem evS_expr (e : E) : evS T C (.expr e) sg = lft (evE T C e sg) sg fun _ m => some (.nx, sg, m) := by simp [evS]
@[simp] theorem evS_ret (e : E) : evS T C (.ret e) sg = lft (evE T C e sg) sg fun w m => some (.rt w, sg, m) := by simp only [evS]
@[simp] theorem evS_retN (m : Hm) : evS T C .retN sg m = some (.rt .non, sg, m) := by simp [evS]
@[simp] theorem evS_set (tg : Tg) (e : E) : evS T C (.set tg e) sg = lft (evE T C e sg) sg fun w => asgS (asgT tg w sg) := by
  simp only [evS]; congr 1; funext w; cases asgT tg w sg <;> rfl
@[simp] theorem evS_setc (i : Nat) (e : E) : evS T C (.setc i e) sg = lft (evE T C e sg) sg fun w m => some (.nx, sg.set i (some w), m) := by simp [evS]
@[simp] theorem evS_par (is : List Nat) (es : List E) : evS T C (.par is es) sg = lft (evEs T C es sg) sg fun ws => asgS (setMany is ws sg) := by
  simp only [evS]; congr 1; funext w; cases setMany is w sg <;> rfl
@[simp] theorem evS_aug (i : Nat) (o : Bop) (e : E) : evS T C (.aug i o e) sg = match sg[i]? with
    | some (some x) => lft (bnd (evE T C e sg) fun y => opt (augW o x y)) sg fun w m => some (.nx, sg.set i (some w), m)
    | _ => fun _ => none := by simp only [evS] <;> rfl
@[simp] theorem evS_setI (o i e : E) : evS T C (.setI o i e) sg = lft (bnd (evE T C e sg) fun y => bnd (evE T C o sg) fun x => bnd (evE T C i sg) fun k => setIM x k y) sg fun _ m => some (.nx, sg, m) := by simp only [evS]
@[simp] theorem evS_app (o e : E) : evS T C (.app o e) sg = lft (bnd (evE T C o sg) fun x => bnd (lstM x) fun _ => bnd (evE T C e sg) fun y => appM x y) sg fun _ m => some (.nx, sg, m) := by simp only [evS]
def ifS (w : W) (a b : MS) : MS := match w with
  | .bl true => a
  | .bl false => b
  | _ => fun _ => none
@[simp] theorem ifS_true (a b : MS) : ifS (.bl true) a b = a := Eq.trans rfl rfl
@[simp] theorem ifS_false (a b : MS) : ifS (.bl false) a b = b := Eq.trans rfl rfl
theorem ifS_dec (p : Prop) [Decidable p] (a b : MS) : ifS (.bl (decide p)) a b = if p then a else b := by
  by_cases h : p <;> simp [h]
@[simp] theorem evS_ife (c : E) (a b : List S) : evS T C (.ife c a b) sg = lft (evE T C c sg) sg fun w => ifS w (evSs T C a sg) (evSs T C b sg) := by
  simp only [evS]; rfl
@[simp] theorem evS_loop (tg : Tg) (src : E) (body : List S) : evS T C (.loop tg src body) sg = lft (evI T C src sg) sg fun xs => loopGo tg (evSs T C body) xs sg := by simp only [evS]
@[simp] theorem evSs_nil (m : Hm) : evSs T C [] sg m = some (.nx, sg, m) := by simp [evSs]
@[simp] theorem evSs_cons (s : S) (ss : List S) (m : Hm) : evSs T C (s :: ss) sg m = thenS (evS T C s sg m) (evSs T C ss) := by simp [evSs]
end
@[simp] theorem lft_opt_some {α : Type} (a : α) (sg : Sg) (k : α → MS) : lft (opt (some a)) sg k = k a := Eq.trans rfl rfl
@[simp] theorem loop_nil (tg : Tg) (b : Sg → MS) (sg : Sg) (m : Hm) : loopGo tg b [] sg m = some (.nx, sg, m) := Eq.trans rfl rfl
theorem loop_cons {tg : Tg} {b : Sg → MS} {x : W} {xs : List W} {sg sg' : Sg} {m : Hm} (h : asgT tg x sg = some sg') : loopGo tg b (x :: xs) sg m = turnS (b sg' m) (loopGo tg b xs) := by
  simp only [loopGo, h]
theorem loop_inv {tg : Tg} {b : Sg → MS} (P : Sg → Hm → Prop) {xs : List W} (h : ∀ x ∈ xs, ∀ sg m, P sg m → ∃ sg1 sg2 m', asgT tg x sg = some sg1 ∧ b sg1 m = some (.nx, sg2, m') ∧ P sg2 m') :
    ∀ sg m, P sg m → ∃ sg' m', loopGo tg b xs sg m = some (.nx, sg', m') ∧ P sg' m' := by
  induction xs with
  | nil => intro sg m hp; exact ⟨sg, m, rfl, hp⟩
  | cons x xs ih =>
    intro sg m hp
    obtain ⟨sg1, sg2, m', h1, h2, h3⟩ := h x (by simp) sg m hp
    obtain ⟨sg', m'', h4, h5⟩ := ih (fun y hy => h y (by simp [hy])) sg2 m' h3
    exact ⟨sg', m'', by rw [loop_cons h1, h2, turnS_nx, h4], h5⟩
theorem compGo_none {tg : Tg} {sg : Sg} {tst elt : Sg → M W} {xs : List W} (h : ∀ x ∈ xs, ∃ sg', asgT tg x sg = some sg' ∧ tst sg' = ret (.bl false)) : compGo tg sg tst elt xs = ret [] := by
  induction xs with
  | nil => rfl
  | cons x xs ih =>
    obtain ⟨sg', h1, h2⟩ := h x (by simp)
    rw [compGo, h1, opt_some, bnd_ret, h2, bnd_ret]
    exact ih fun y hy => h y (by simp [hy])
theorem compGo_all {tg : Tg} {sg : Sg} {tst elt : Sg → M W} (f : W → W) {xs : List W} (h : ∀ x ∈ xs, ∃ sg', asgT tg x sg = some sg' ∧ tst sg' = ret (.bl true) ∧ elt sg' = ret (f x)) : compGo tg sg tst elt xs = ret (xs.map f) := by
  induction xs with
  | nil => rfl
  | cons x xs ih =>
    obtain ⟨sg', h1, h2, h3⟩ := h x (by simp)
    rw [compGo, h1, opt_some, bnd_ret, h2, bnd_ret]
    simp only []
    rw [h3, bnd_ret, ih fun y hy => h y (by simp [hy]), bnd_ret]
    rfl
/-- a call's end, of what its block gave -/
noncomputable def endR (k : Bool) (m : Hm) (x : Option (SO × Sg × Hm)) : Option (Res W × Hm) := match x with
  | some (.rt w, _, m') => fin k m m' w
  | some (.nx, _, m') => fin k m m' .non
  | some (.ex x, _, m') => finx m m' x
  | _ => none
theorem run_eq {T : Tab} {C : Calls} {F : Fn} {ws : List W} {m : Hm} (hn : ws.length = F.np) : runF T C F ws m = endR F.keep m (evSs T C F.body (ws.map some ++ List.replicate (F.ns - F.np) none) m) := by
  unfold runF
  rw [if_pos hn]; rfl
theorem call_eq {T : Tab} {l f : Nat} {ws : List W} {F : Fn} (h : T.fn f = some F) (hn : ws.length = F.np) (m : Hm) : evC T (l+1) f ws m = endR F.keep m (evSs T (evC T l) F.body (ws.map some ++ List.replicate (F.ns - F.np) none) m) := by
  rw [← run_eq hn]
  show (match T.fn f with | some F => runF T (evC T l) F ws | none => stuck) m = _
  rw [h]
@[simp] theorem endR_same (k : Bool) (m : Hm) (w : W) (sg : Sg) : endR k m (some (.rt w, sg, m)) = some (.ok w, m) := by simp [endR, fin]
@[simp] theorem endR_nx (k : Bool) (m : Hm) (sg : Sg) : endR k m (some (.nx, sg, m)) = some (.ok .non, m) := by simp [endR, fin]
@[simp] theorem endR_keep (m m' : Hm) (w : W) (sg : Sg) : endR true m (some (.rt w, sg, m')) = some (.ok w, m') := by simp [endR, fin]
theorem endR_len {k : Bool} {m m' : Hm} {w : W} {sg : Sg} (h : m'.length = m.length) : endR k m (some (.rt w, sg, m')) = some (.ok w, m') := by simp [endR, fin, h]
theorem pure_of {T : Tab} {l f : Nat} {ws : List W} {F : Fn} {w : W} (h : T.fn f = some F) (hn : ws.length = F.np) (hb : ∀ m, endR F.keep m (evSs T (evC T l) F.body (ws.map some ++ List.replicate (F.ns - F.np) none) m) = some (.ok w, m)) : evC T (l+1) f ws = ret w := by
  funext m; rw [call_eq h hn, hb]; rfl
@[simp] theorem iW0 (a : W) (xs : List W) : idxW (a :: xs) (.int 0) = some a := by
  simp [idxW, atI, ixN]
@[simp] theorem iW1 (a b : W) (xs : List W) : idxW (a :: b :: xs) (.int 1) = some b := by
  simp [idxW, atI, ixN]
  rw [if_pos (by omega)]; rfl
@[simp] theorem iW2 (a b c : W) (xs : List W) : idxW (a :: b :: c :: xs) (.int 2) = some c := by
  simp [idxW, atI, ixN]
  rw [if_pos (by omega)]; rfl
@[simp] theorem iW3 (a b c d : W) (xs : List W) : idxW (a :: b :: c :: d :: xs) (.int 3) = some d := by
  simp [idxW, atI, ixN]
  rw [if_pos (by omega)]; rfl
theorem iWn {xs : List W} {i : Int} (h0 : 0 ≤ i) (h : i.toNat < xs.length) : idxW xs (.int i) = some (xs[i.toNat]) := by
  simp only [idxW, atI, ixN, if_pos h0]
  rw [if_pos (by omega)]
  simp [h]
theorem iWk {xs : List W} {k : Nat} (h : k < xs.length) : idxW xs (.int (k : Int)) = some (xs[k]) := by simpa using iWn (xs := xs) (i := (k : Int)) (by omega) (by simpa using h)
theorem ixN_pos {n : Nat} {i : Int} (h0 : 0 ≤ i) (h : i < n) : ixN n i = some i.toNat := by
  simp [ixN, h0, h]
theorem hget_bot (pre : Hm) (o : HOb) : hget (pre ++ [o]) 0 = some o := by
  induction pre with
  | nil => rfl
  | cons x xs ih => simp [hget, ih]
theorem hset_bot (pre : Hm) (o u : HOb) : hset (pre ++ [o]) 0 u = pre ++ [u] := by
  induction pre with
  | nil => rfl
  | cons x xs ih => simp [hset, ih]

/-! ## sizes of products -/
def bd (n : Nat) (i : Int) : Prop := i.natAbs < 2 ^ n
theorem bd_mul {n k : Nat} {i j : Int} (h : bd n i) (g : bd k j) : bd (n + k) (i * j) := by
  unfold bd at *
  rw [Int.natAbs_mul, Nat.pow_add]
  exact Nat.mul_lt_mul'' h g
theorem bd_mono {n k : Nat} {i : Int} (h : bd n i) (g : n ≤ k) : bd k i := by
  unfold bd at *
  exact Nat.lt_of_lt_of_le h (Nat.pow_le_pow_right (by omega) g)
theorem bd_add {n : Nat} {i j : Int} (h : bd n i) (g : bd n j) : bd (n + 1) (i + j) := by
  unfold bd at *
  rw [Nat.pow_succ]; omega
theorem bd_sub {n : Nat} {i j : Int} (h : bd n i) (g : bd n j) : bd (n + 1) (i - j) := by
  unfold bd at *
  rw [Nat.pow_succ]; omega
theorem bd_neg {n : Nat} {i : Int} (h : bd n i) : bd n (-i) := by
  unfold bd at *; omega
theorem bd_log {n : Nat} {i : Int} (h : bd n i) : i.natAbs.log2 ≤ n := by
  unfold bd at h
  by_cases h0 : i.natAbs = 0
  · rw [h0]; simp
  · have := (Nat.log2_lt h0).2 h
    omega
theorem mulOk_bd {n k : Nat} {i j : Int} (h : bd n i) (g : bd k j) (hn : n + k < 1000000) : mulOk i j = true := by
  have := bd_log h; have := bd_log g
  unfold mulOk
  have : i.natAbs.log2 + j.natAbs.log2 < 1000000 := by omega
  simp [this]
theorem mulOk_l {i j : Int} (h : -(2 ^ 64) < i ∧ i < 2 ^ 64) : mulOk i j = true := by
  unfold mulOk; simp only [decide_eq_true h.1, decide_eq_true h.2, Bool.and_self, Bool.true_or]
theorem mulOk_r {i j : Int} (h : -(2 ^ 64) < j ∧ j < 2 ^ 64) : mulOk i j = true := by
  unfold mulOk; simp only [decide_eq_true h.1, decide_eq_true h.2, Bool.and_self, Bool.true_or, Bool.or_true]
end WM
namespace WM
open PySem PySem.Spec PyProof.Rows L2
@[simp] theorem lft_bnd {α β : Type} (x : M α) (f : α → M β) (sg : Sg) (k : β → MS) : lft (bnd x f) sg k = lft x sg fun a => lft (f a) sg k := by
  funext m; unfold lft bnd
  cases x m with
  | none => rfl
  | some p => obtain ⟨r, m'⟩ := p; cases r <;> rfl
def optK {α β : Type} (o : Option α) (f : α → Option β) : Option β := match o with
  | some a => f a
  | none => none
@[simp] theorem optK_some {α β : Type} (a : α) (f : α → Option β) : optK (some a) f = f a := Eq.trans rfl rfl
theorem seqM_bot (pre : Hm) (xs : List W) : seqM (.ref 0) (pre ++ [.lst xs]) = some (.ok xs, pre ++ [.lst xs]) := by
  simp [seqM, seqW, hget_bot]
@[simp] theorem lft_seq_bot (pre : Hm) (xs : List W) (sg : Sg) (k : List W → MS) : lft (seqM (.ref 0)) sg k (pre ++ [.lst xs]) = k xs (pre ++ [.lst xs]) := lft_at (seqM_bot pre xs)
@[simp] theorem lft_idx_bot (pre : Hm) (xs : List W) (j : W) (sg : Sg) (k : W → MS) : lft (idxM (.ref 0) j) sg k (pre ++ [.lst xs]) = optK (idxW xs j) fun w => k w (pre ++ [.lst xs]) := by
  rw [idxM, lft_bnd, lft_seq_bot]
  cases idxW xs j <;> rfl
theorem set_bot (pre : Hm) (xs : List W) (i : Int) (y : W) (h0 : 0 ≤ i) (h : i < xs.length) : setIM (.ref 0) (.int i) y (pre ++ [.lst xs]) = some (.ok .non, pre ++ [.lst (xs.set i.toNat y)]) := by
  simp [setIM, hget_bot, hset_bot, ixN_pos h0 h]
@[simp] theorem lft_set_1 (pre : Hm) (a b c d y : W) (sg : Sg) (k : W → MS) : lft (setIM (.ref 0) (.int 1) y) sg k (pre ++ [.lst [a, b, c, d]]) = k .non (pre ++ [.lst [a, y, c, d]]) := lft_at (set_bot pre _ 1 y (by decide) (by simp))
@[simp] theorem lft_set_2 (pre : Hm) (a b c d y : W) (sg : Sg) (k : W → MS) : lft (setIM (.ref 0) (.int 2) y) sg k (pre ++ [.lst [a, b, c, d]]) = k .non (pre ++ [.lst [a, b, y, d]]) := lft_at (set_bot pre _ 2 y (by decide) (by simp))
@[simp] theorem lft_set_3 (pre : Hm) (a b c d y : W) (sg : Sg) (k : W → MS) : lft (setIM (.ref 0) (.int 3) y) sg k (pre ++ [.lst [a, b, c, d]]) = k .non (pre ++ [.lst [a, b, c, y]]) := lft_at (set_bot pre _ 3 y (by decide) (by simp))
@[simp] theorem lft_alloc (o : HOb) (sg : Sg) (k : W → MS) (m : Hm) : lft (alloc o) sg k m = k (.ref m.length) (o :: m) := Eq.trans rfl rfl
end WM
namespace WM
open PySem PySem.Spec PyProof.Rows L2
@[simp] theorem idxM_lst (xs : List W) (j : W) : idxM (.lst xs) j = opt (idxW xs j) := Eq.trans rfl rfl
@[simp] theorem idxM_tup (xs : List W) (j : W) : idxM (.tup xs) j = opt (idxW xs j) := Eq.trans rfl rfl
@[simp] theorem idxM_klst (xs : List W) (j : W) : idxM (.klst xs) j = opt (idxW xs j) := Eq.trans rfl rfl
end WM
namespace WM
open PySem hiding alloc ret
open PySem.Spec PyProof.Rows L2
@[simp] theorem biM_len_tup (xs : List W) : biM .len [.tup xs] = ret (.int xs.length) := by simp only [biM, seqM_tup, bnd_ret]
@[simp] theorem biM_len_lst (xs : List W) : biM .len [.lst xs] = ret (.int xs.length) := by simp only [biM, seqM_lst, bnd_ret]
@[simp] theorem biM_len_klst (xs : List W) : biM .len [.klst xs] = ret (.int xs.length) := by simp only [biM, seqM_klst, bnd_ret]
@[simp] theorem biM_int (i : Int) : biM .int [.int i] = ret (.int i) := Eq.trans rfl rfl
@[simp] theorem biM_int_bl (b : Bool) : biM .int [.bl b] = ret (.int (if b then 1 else 0)) := Eq.trans rfl rfl
@[simp] theorem biM_list_lst (xs : List W) : biM .list [.lst xs] = ret (.lst xs) := Eq.trans rfl rfl
@[simp] theorem biM_list_tup (xs : List W) : biM .list [.tup xs] = ret (.lst xs) := Eq.trans rfl rfl
@[simp] theorem biM_list_klst (xs : List W) : biM .list [.klst xs] = ret (.lst xs) := Eq.trans rfl rfl
@[simp] theorem biM_tuple_lst (xs : List W) : biM .tuple [.lst xs] = ret (.tup xs) := Eq.trans rfl rfl
@[simp] theorem biM_tuple_tup (xs : List W) : biM .tuple [.tup xs] = ret (.tup xs) := Eq.trans rfl rfl
end WM
namespace WM
open PySem hiding alloc ret
open PySem.Spec PyProof.Rows L2
theorem frzW_rb {k n : Nat} {m : Hm} {w : W} (h : W.rb k w = true) : frzW k m (n + 1) w = some w := by
  unfold frzW; rw [if_pos h]
theorem endR_let {k : Bool} {m m' : Hm} {w : W} {sg : Sg} (h1 : m.length ≤ m'.length) (h2 : m'.drop (m'.length - m.length) = m ∨ (m'.drop (m'.length - m.length)).all (HOb.rb m.length) = true) (hw : W.rb m.length w = true) :
    ∃ m2, endR k m (some (.rt w, sg, m')) = some (.ok w, m2) ∧ (k = false → m2 = m'.drop (m'.length - m.length)) := by
  simp only [endR, fin]
  by_cases hk : k = true ∨ m'.length = m.length
  · rw [if_pos hk]
    refine ⟨m', rfl, fun h0 => ?_⟩
    rcases hk with hk | hk
    · rw [h0] at hk; cases hk
    · rw [hk, Nat.sub_self]; rfl
  · rw [if_neg hk, if_pos ⟨h1, h2⟩, frzW_rb hw]
    exact ⟨_, rfl, fun _ => rfl⟩
theorem endR_nil {k : Bool} {m' : Hm} {w : W} {sg : Sg} (hw : W.rb 0 w = true) : ∃ m2, endR k [] (some (.rt w, sg, m')) = some (.ok w, m2) := by
  obtain ⟨m2, h, _⟩ := endR_let (k := k) (m := []) (m' := m') (w := w) (sg := sg) (by simp) (Or.inl (by simp)) hw
  exact ⟨m2, h⟩
end WM
namespace Lk
open PySem PySem.Spec PyProof.Rows L2 WM
def topS (i : Nat) : Stmt := PySem.Challenge.pw_mirrorwalk_k00_golden_numbers.main.body.getD i (.Pass ⟨0, 0, 0, 0⟩)
abbrev f_is_integer : Nat := 3
abbrev f_is_golden : Nat := 4
abbrev f_plus : Nat := 5
abbrev f_negated : Nat := 6
abbrev f_minus : Nat := 7
abbrev f_times : Nat := 8
abbrev f_sign : Nat := 9
abbrev f_total : Nat := 10
abbrev f__law_draws : Nat := 11
abbrev f__law_draw : Nat := 12
abbrev f__law_same : Nat := 13
abbrev f__law_number : Nat := 14
abbrev f__law_above : Nat := 15
abbrev f_law : Nat := 16
def b_is_integer : List WM.S := [(.ret (.and (.isi (.var 0) "int") (.not (.isi (.var 0) "bool"))))]
def F_is_integer : Fn := ⟨1, 1, b_is_integer, false⟩
def b_is_golden : List WM.S := [(.ret (.and (.isi (.var 0) "tuple") (.and (.cmp .eq (.bi .len [(.var 0)]) (.lit (.int 2))) (.and (.call f_is_integer [(.idx (.var 0) (.lit (.int 0)))]) (.call f_is_integer [(.idx (.var 0) (.lit (.int 1)))])))))]
def F_is_golden : Fn := ⟨1, 1, b_is_golden, false⟩
def b_plus : List WM.S := [(.ret (.tup [(.bin .add (.idx (.var 0) (.lit (.int 0))) (.idx (.var 1) (.lit (.int 0)))), (.bin .add (.idx (.var 0) (.lit (.int 1))) (.idx (.var 1) (.lit (.int 1))))]))]
def F_plus : Fn := ⟨2, 2, b_plus, false⟩
def b_negated : List WM.S := [(.ret (.tup [(.neg (.idx (.var 0) (.lit (.int 0)))), (.neg (.idx (.var 0) (.lit (.int 1))))]))]
def F_negated : Fn := ⟨1, 1, b_negated, false⟩
def b_minus : List WM.S := [(.ret (.tup [(.bin .sub (.idx (.var 0) (.lit (.int 0))) (.idx (.var 1) (.lit (.int 0)))), (.bin .sub (.idx (.var 0) (.lit (.int 1))) (.idx (.var 1) (.lit (.int 1))))]))]
def F_minus : Fn := ⟨2, 2, b_minus, false⟩
def b_times : List WM.S := [(.set (.v 2) (.bin .mul (.idx (.var 0) (.lit (.int 1))) (.idx (.var 1) (.lit (.int 1))))), (.ret (.tup [(.bin .add (.bin .mul (.idx (.var 0) (.lit (.int 0))) (.idx (.var 1) (.lit (.int 0)))) (.var 2)), (.bin .add (.bin .add (.bin .mul (.idx (.var 0) (.lit (.int 0))) (.idx (.var 1) (.lit (.int 1)))) (.bin .mul (.idx (.var 0) (.lit (.int 1))) (.idx (.var 1) (.lit (.int 0))))) (.var 2))]))]
def F_times : Fn := ⟨2, 3, b_times, false⟩
def b_sign : List WM.S := [(.par [1, 2] [(.bin .add (.bin .mul (.lit (.int 2)) (.idx (.var 0) (.lit (.int 0)))) (.idx (.var 0) (.lit (.int 1)))), (.idx (.var 0) (.lit (.int 1)))]), (.ife (.and (.cmp .ge (.var 1) (.lit (.int 0))) (.cmp .ge (.var 2) (.lit (.int 0)))) [(.ret (.bi .int [(.or (.cmp .gt (.var 1) (.lit (.int 0))) (.cmp .gt (.var 2) (.lit (.int 0))))]))] []), (.ife (.and (.cmp .le (.var 1) (.lit (.int 0))) (.cmp .le (.var 2) (.lit (.int 0)))) [(.ret (.neg (.lit (.int 1))))] []), (.set (.v 3) (.cmp .gt (.bin .mul (.var 1) (.var 1)) (.bin .mul (.bin .mul (.lit (.int 5)) (.var 2)) (.var 2)))), (.ret (.ife (.cmp .eq (.cmp .gt (.var 1) (.lit (.int 0))) (.var 3)) (.lit (.int 1)) (.neg (.lit (.int 1)))))]
def F_sign : Fn := ⟨1, 4, b_sign, false⟩
def b_total : List WM.S := [(.set (.v 1) (.glob 0)), (.loop (.v 2) (.sseq (.var 0)) [(.set (.v 1) (.call f_plus [(.var 1), (.var 2)]))]), (.ret (.var 1))]
def F_total : Fn := ⟨1, 3, b_total, false⟩
def b__law_draws : List WM.S := [(.ret (.newl [(.bi .list [(.var 0)]), (.lit (.int 0)), (.lit (.int 0)), (.lit (.int 1))]))]
def F__law_draws : Fn := ⟨1, 1, b__law_draws, true⟩
def b__law_draw : List WM.S := [(.ife (.and (.cmp .eq (.idx (.var 0) (.lit (.int 2))) (.lit (.int 0))) (.cmp .lt (.idx (.var 0) (.lit (.int 1))) (.bi .len [(.idx (.var 0) (.lit (.int 0)))]))) [(.set (.v 2) (.idx (.idx (.var 0) (.lit (.int 0))) (.idx (.var 0) (.lit (.int 1))))), (.setI (.var 0) (.lit (.int 1)) (.bin .add (.idx (.var 0) (.lit (.int 1))) (.lit (.int 1)))), (.ife (.cmp .ge (.var 2) (.bin .pow (.lit (.int 10)) (.lit (.int 18)))) [(.setI (.var 0) (.lit (.int 2)) (.var 2))] []), (.setI (.var 0) (.lit (.int 3)) (.bin .mod (.bi .int [(.bin .add (.bin .add (.bin .mul (.idx (.var 0) (.lit (.int 3))) (.lit (.int 48271))) (.var 2)) (.lit (.int 13)))]) (.lit (.int 2147483647))))] []), (.ife (.cmp .gt (.idx (.var 0) (.lit (.int 2))) (.lit (.int 0))) [(.set (.v 3) (.bin .mod (.bi .int [(.idx (.var 0) (.lit (.int 2)))]) (.var 1))), (.setI (.var 0) (.lit (.int 2)) (.bin .fdiv (.idx (.var 0) (.lit (.int 2))) (.var 1))), (.ret (.var 3))] []), (.setI (.var 0) (.lit (.int 3)) (.bin .mod (.bi .int [(.bin .add (.bin .mul (.idx (.var 0) (.lit (.int 3))) (.lit (.int 69621))) (.lit (.int 7)))]) (.lit (.int 2147483629)))), (.ret (.bin .mod (.bi .int [(.bin .fdiv (.idx (.var 0) (.lit (.int 3))) (.lit (.int 11)))]) (.var 1)))]
def F__law_draw : Fn := ⟨2, 4, b__law_draw, false⟩
def b__law_same : List WM.S := [(.ife (.or (.isi (.var 1) "tuple") (.isi (.var 1) "list")) [(.ife (.or (.cmp .ne (.isi (.var 1) "tuple") (.isi (.var 0) "tuple")) (.cmp .ne (.isi (.var 1) "list") (.isi (.var 0) "list"))) [(.ret (.lit (.bl false)))] []), (.ife (.cmp .ne (.bi .len [(.var 0)]) (.bi .len [(.var 1)])) [(.ret (.lit (.bl false)))] []), (.ret (.cmp .eq (.bi .len [(.comp (.var 2) (.v 2) (.srng1 (.bi .len [(.var 1)])) (.not (.call f__law_same [(.idx (.var 0) (.var 2)), (.idx (.var 1) (.var 2))])) [2])]) (.lit (.int 0))))] []), (.ife (.isi (.var 1) "str") [(.ret (.and (.isi (.var 0) "str") (.cmp .eq (.var 0) (.var 1))))] []), (.ife (.cmp .is (.var 1) (.lit .non)) [(.ret (.cmp .is (.var 0) (.lit .non)))] []), (.ife (.or (.isi (.var 1) "bool") (.isi (.var 0) "bool")) [(.ret (.and (.isi (.var 1) "bool") (.and (.isi (.var 0) "bool") (.cmp .eq (.var 0) (.var 1)))))] []), (.ret (.and (.isi (.var 0) "int") (.and (.isi (.var 1) "int") (.cmp .eq (.var 0) (.var 1)))))]
def F__law_same : Fn := ⟨2, 3, b__law_same, false⟩
def b__law_number : List WM.S := [(.set (.v 1) (.idx (.lst [(.lit (.int 3)), (.lit (.int 10)), (.lit (.int 1000)), (.bin .pow (.lit (.int 10)) (.lit (.int 12)))]) (.call f__law_draw [(.var 0), (.lit (.int 4))]))), (.set (.v 2) (.bin .sub (.call f__law_draw [(.var 0), (.var 1)]) (.bin .fdiv (.var 1) (.lit (.int 2))))), (.ife (.cmp .eq (.call f__law_draw [(.var 0), (.lit (.int 2))]) (.lit (.int 0))) [(.ret (.tup [(.var 2), (.bin .sub (.call f__law_draw [(.var 0), (.var 1)]) (.bin .fdiv (.var 1) (.lit (.int 2))))]))] []), (.ret (.tup [(.var 2), (.bin .sub (.bin .add (.bin .fdiv (.neg (.bin .mul (.var 2) (.lit (.int 618033988749895)))) (.bin .pow (.lit (.int 10)) (.lit (.int 15)))) (.call f__law_draw [(.var 0), (.lit (.int 3))])) (.lit (.int 1)))]))]
def F__law_number : Fn := ⟨1, 3, b__law_number, false⟩
def b__law_above : List WM.S := [(.par [1, 2] [(.bin .add (.bin .mul (.lit (.int 2)) (.idx (.var 0) (.lit (.int 0)))) (.idx (.var 0) (.lit (.int 1)))), (.neg (.idx (.var 0) (.lit (.int 1))))]), (.ife (.cmp .lt (.var 2) (.lit (.int 0))) [(.ret (.or (.cmp .ge (.var 1) (.lit (.int 0))) (.cmp .lt (.bin .mul (.var 1) (.var 1)) (.bin .mul (.bin .mul (.lit (.int 5)) (.var 2)) (.var 2)))))] []), (.ret (.and (.cmp .gt (.var 1) (.lit (.int 0))) (.cmp .gt (.bin .mul (.var 1) (.var 1)) (.bin .mul (.bin .mul (.lit (.int 5)) (.var 2)) (.var 2)))))]
def F__law_above : Fn := ⟨1, 3, b__law_above, false⟩
def b_law : List WM.S := [(.set (.v 1) (.call f__law_draws [(.var 0)])), (.ife (.not (.call f__law_same [(.lst [(.glob 0), (.glob 1), (.glob 2), (.call f_times [(.glob 2), (.glob 2)])]), (.lst [(.tup [(.lit (.int 0)), (.lit (.int 0))]), (.tup [(.lit (.int 1)), (.lit (.int 0))]), (.tup [(.lit (.int 0)), (.lit (.int 1))]), (.tup [(.lit (.int 1)), (.lit (.int 1))])])])) [(.ret (.lit (.bl false)))] []), (.loop (.v 2) (.srng1 (.lit (.int 8))) [(.par [6, 7, 8] [(.call f__law_number [(.var 1)]), (.call f__law_number [(.var 1)]), (.call f__law_number [(.var 1)])]), (.set (.v 9) (.tup [(.bin .add (.bin .mul (.idx (.var 6) (.lit (.int 0))) (.idx (.var 7) (.lit (.int 0)))) (.bin .mul (.idx (.var 6) (.lit (.int 1))) (.idx (.var 7) (.lit (.int 1))))), (.bin .add (.bin .add (.bin .mul (.idx (.var 6) (.lit (.int 0))) (.idx (.var 7) (.lit (.int 1)))) (.bin .mul (.idx (.var 6) (.lit (.int 1))) (.idx (.var 7) (.lit (.int 0))))) (.bin .mul (.idx (.var 6) (.lit (.int 1))) (.idx (.var 7) (.lit (.int 1)))))])), (.ife (.or (.not (.call f__law_same [(.call f_times [(.var 6), (.var 7)]), (.var 9)])) (.not (.call f__law_same [(.call f_plus [(.var 6), (.var 7)]), (.tup [(.bin .add (.idx (.var 6) (.lit (.int 0))) (.idx (.var 7) (.lit (.int 0)))), (.bin .add (.idx (.var 6) (.lit (.int 1))) (.idx (.var 7) (.lit (.int 1))))])]))) [(.ret (.lit (.bl false)))] []), (.ife (.or (.not (.call f__law_same [(.call f_minus [(.var 6), (.var 7)]), (.tup [(.bin .sub (.idx (.var 6) (.lit (.int 0))) (.idx (.var 7) (.lit (.int 0)))), (.bin .sub (.idx (.var 6) (.lit (.int 1))) (.idx (.var 7) (.lit (.int 1))))])])) (.not (.call f__law_same [(.call f_negated [(.var 6)]), (.tup [(.neg (.idx (.var 6) (.lit (.int 0)))), (.neg (.idx (.var 6) (.lit (.int 1))))])]))) [(.ret (.lit (.bl false)))] []), (.ife (.or (.not (.call f__law_same [(.call f_total [(.lst [(.var 6), (.var 7), (.var 8)])]), (.call f_plus [(.var 6), (.call f_plus [(.var 7), (.var 8)])])])) (.not (.call f__law_same [(.call f_total [(.tup [])]), (.tup [(.lit (.int 0)), (.lit (.int 0))])]))) [(.ret (.lit (.bl false)))] []), (.loop (.v 10) (.sseq (.tup [(.var 6), (.var 9), (.call f_minus [(.var 6), (.var 7)])])) [(.set (.v 11) (.ife (.cmp .eq (.var 10) (.tup [(.lit (.int 0)), (.lit (.int 0))])) (.lit (.int 0)) (.ife (.call f__law_above [(.var 10)]) (.lit (.int 1)) (.neg (.lit (.int 1)))))), (.ife (.or (.not (.call f__law_same [(.call f_sign [(.var 10)]), (.var 11)])) (.not (.call f__law_same [(.call f_sign [(.call f_negated [(.var 10)])]), (.neg (.var 11))]))) [(.ret (.lit (.bl false)))] [])]), (.ife (.cmp .ne (.call f_sign [(.call f_times [(.var 6), (.var 7)])]) (.bin .mul (.call f_sign [(.var 6)]) (.call f_sign [(.var 7)]))) [(.ret (.lit (.bl false)))] [])]), (.set (.t [(.v 3), (.v 4)]) (.tup [(.tup [(.lit (.int 1)), (.lit (.int 0))]), (.tup [(.lit (.int 0)), (.lit (.int 1))])])), (.loop (.v 2) (.srng1 (.lit (.int 20))) [(.par [3, 4] [(.var 4), (.call f_plus [(.var 3), (.var 4)])]), (.ife (.or (.not (.call f__law_same [(.var 4), (.call f_times [(.var 3), (.glob 2)])])) (.cmp .ne (.call f_sign [(.call f_minus [(.var 4), (.var 3)])]) (.lit (.int 1)))) [(.ret (.lit (.bl false)))] [])]), (.loop (.v 5) (.sseq (.lst [(.lit .non), (.lit (.int 1)), (.tup [(.lit (.int 1))]), (.tup [(.lit (.int 1)), (.lit (.int 2)), (.lit (.int 3))]), (.lst [(.lit (.int 1)), (.lit (.int 2))]), (.tup [(.lit (.bl true)), (.lit (.int 1))]), (.tup [(.lit (.int 1)), (.lit (.bl false))]), (.tup [(.lit (.int 1)), (.lit (.str (PySem.Str.ofString "2")))]), (.tup [(.lit (.int 1)), (.lit .non)])])) [(.ife (.cmp .isnot (.call f_is_golden [(.var 5)]) (.lit (.bl false))) [(.ret (.lit (.bl false)))] [])]), (.ret (.cmp .is (.call f_is_golden [(.tup [(.neg (.lit (.int 3))), (.bin .pow (.lit (.int 10)) (.lit (.int 30)))])]) (.lit (.bl true))))]
def F_law : Fn := ⟨1, 12, b_law, false⟩
def r_is_integer : DR := ⟨f_is_integer, F_is_integer, ⟨("is_integer", none), "is_integer", "is_integer", defArgs (topS 4), defBody (topS 4), defScope (topS 4), [], []⟩, ["value"], ["value"]⟩
def r_is_golden : DR := ⟨f_is_golden, F_is_golden, ⟨("is_golden", none), "is_golden", "is_golden", defArgs (topS 5), defBody (topS 5), defScope (topS 5), [], []⟩, ["value"], ["value"]⟩
def r_plus : DR := ⟨f_plus, F_plus, ⟨("plus", none), "plus", "plus", defArgs (topS 6), defBody (topS 6), defScope (topS 6), [], []⟩, ["first", "other"], ["first", "other"]⟩
def r_negated : DR := ⟨f_negated, F_negated, ⟨("negated", none), "negated", "negated", defArgs (topS 7), defBody (topS 7), defScope (topS 7), [], []⟩, ["number"], ["number"]⟩
def r_minus : DR := ⟨f_minus, F_minus, ⟨("minus", none), "minus", "minus", defArgs (topS 8), defBody (topS 8), defScope (topS 8), [], []⟩, ["first", "other"], ["first", "other"]⟩
def r_times : DR := ⟨f_times, F_times, ⟨("times", none), "times", "times", defArgs (topS 9), defBody (topS 9), defScope (topS 9), [], []⟩, ["first", "other", "both"], ["first", "other"]⟩
def r_sign : DR := ⟨f_sign, F_sign, ⟨("sign", none), "sign", "sign", defArgs (topS 10), defBody (topS 10), defScope (topS 10), [], []⟩, ["number", "whole", "rooted", "greater"], ["number"]⟩
def r_total : DR := ⟨f_total, F_total, ⟨("total", none), "total", "total", defArgs (topS 11), defBody (topS 11), defScope (topS 11), [], []⟩, ["numbers", "found", "number"], ["numbers"]⟩
def r__law_draws : DR := ⟨f__law_draws, F__law_draws, ⟨("_law_draws", none), "_law_draws", "_law_draws", defArgs (topS 13), defBody (topS 13), defScope (topS 13), [], []⟩, ["script"], ["script"]⟩
def r__law_draw : DR := ⟨f__law_draw, F__law_draw, ⟨("_law_draw", none), "_law_draw", "_law_draw", defArgs (topS 14), defBody (topS 14), defScope (topS 14), [], []⟩, ["draws", "limit", "cell", "value"], ["draws", "limit"]⟩
def r__law_same : DR := ⟨f__law_same, F__law_same, ⟨("_law_same", none), "_law_same", "_law_same", defArgs (topS 15), defBody (topS 15), defScope (topS 15), [], []⟩, ["actual", "expected", "k"], ["actual", "expected"]⟩
def r__law_number : DR := ⟨f__law_number, F__law_number, ⟨("_law_number", none), "_law_number", "_law_number", defArgs (topS 16), defBody (topS 16), defScope (topS 16), [], []⟩, ["draws", "far", "number"], ["draws"]⟩
def r__law_above : DR := ⟨f__law_above, F__law_above, ⟨("_law_above", none), "_law_above", "_law_above", defArgs (topS 17), defBody (topS 17), defScope (topS 17), [], []⟩, ["number", "whole", "rooted"], ["number"]⟩
def r_law : DR := ⟨f_law, F_law, ⟨("law", none), "law", "law", defArgs (topS 18), defBody (topS 18), defScope (topS 18), [], []⟩, ["script", "draws", "turn", "first", "other", "bad", "one", "two", "three", "due", "number", "side"], ["script"]⟩
def tab : List DR := [r_is_integer, r_is_golden, r_plus, r_negated, r_minus, r_times, r_sign, r_total, r__law_draws, r__law_draw, r__law_same, r__law_number, r__law_above, r_law]
def I : WM.TI := ⟨fun n => match n with | 3 => "is_integer" | 4 => "is_golden" | 5 => "plus" | 6 => "negated" | 7 => "minus" | 8 => "times" | 9 => "sign" | 10 => "total" | 11 => "_law_draws" | 12 => "_law_draw" | 13 => "_law_same" | 14 => "_law_number" | 15 => "_law_above" | 16 => "law" | _ => "", fun n => match n with | 0 => "ZERO" | 1 => "ONE" | 2 => "GOLD" | _ => ""⟩
def gl : List (Nat × W) := [(0, (.tup [(.int 0), (.int 0)])), (1, (.tup [(.int 1), (.int 0)])), (2, (.tup [(.int 0), (.int 1)]))]
abbrev T : Tab := tabOf (globOf gl) tab
theorem t_is_integer : T.fn f_is_integer = some F_is_integer := rfl
theorem t_is_golden : T.fn f_is_golden = some F_is_golden := rfl
theorem t_plus : T.fn f_plus = some F_plus := rfl
theorem t_negated : T.fn f_negated = some F_negated := rfl
theorem t_minus : T.fn f_minus = some F_minus := rfl
theorem t_times : T.fn f_times = some F_times := rfl
theorem t_sign : T.fn f_sign = some F_sign := rfl
theorem t_total : T.fn f_total = some F_total := rfl
theorem t__law_draws : T.fn f__law_draws = some F__law_draws := rfl
theorem t__law_draw : T.fn f__law_draw = some F__law_draw := rfl
theorem t__law_same : T.fn f__law_same = some F__law_same := rfl
theorem t__law_number : T.fn f__law_number = some F__law_number := rfl
theorem t__law_above : T.fn f__law_above = some F__law_above := rfl
theorem t_law : T.fn f_law = some F_law := rfl
theorem g_ZERO : T.glob 0 = some (.tup [(.int 0), (.int 0)]) := rfl
theorem g_ONE : T.glob 1 = some (.tup [(.int 1), (.int 0)]) := rfl
theorem g_GOLD : T.glob 2 = some (.tup [(.int 0), (.int 1)]) := rfl
theorem k_is_integer : DR.ok T I r_is_integer = true := by decide +kernel
theorem k_is_golden : DR.ok T I r_is_golden = true := by decide +kernel
theorem k_plus : DR.ok T I r_plus = true := by decide +kernel
theorem k_negated : DR.ok T I r_negated = true := by decide +kernel
theorem k_minus : DR.ok T I r_minus = true := by decide +kernel
theorem k_times : DR.ok T I r_times = true := by decide +kernel
theorem k_sign : DR.ok T I r_sign = true := by decide +kernel
theorem k_total : DR.ok T I r_total = true := by decide +kernel
theorem k__law_draws : DR.ok T I r__law_draws = true := by decide +kernel
theorem k__law_draw : DR.ok T I r__law_draw = true := by decide +kernel
theorem k__law_same : DR.ok T I r__law_same = true := by decide +kernel
theorem k__law_number : DR.ok T I r__law_number = true := by decide +kernel
theorem k__law_above : DR.ok T I r__law_above = true := by decide +kernel
theorem k_law : DR.ok T I r_law = true := by decide +kernel
theorem tab_ok : tab.all (DR.ok T I) = true := by
  unfold tab
  simp only [List.all_cons, List.all_nil, k_is_integer, k_is_golden, k_plus, k_negated, k_minus, k_times, k_sign, k_total, k__law_draws, k__law_draw, k__law_same, k__law_number, k__law_above, k_law, Bool.and_self]
theorem bi_is_integer : r_is_integer.Bi := fun _ _ _ _ _ _ us hl => match us, hl with | [_], _ => rfl
theorem bi_is_golden : r_is_golden.Bi := fun _ _ _ _ _ _ us hl => match us, hl with | [_], _ => rfl
theorem bi_plus : r_plus.Bi := fun _ _ _ _ _ _ us hl => match us, hl with | [_, _], _ => rfl
theorem bi_negated : r_negated.Bi := fun _ _ _ _ _ _ us hl => match us, hl with | [_], _ => rfl
theorem bi_minus : r_minus.Bi := fun _ _ _ _ _ _ us hl => match us, hl with | [_, _], _ => rfl
theorem bi_times : r_times.Bi := fun _ _ _ _ _ _ us hl => match us, hl with | [_, _], _ => rfl
theorem bi_sign : r_sign.Bi := fun _ _ _ _ _ _ us hl => match us, hl with | [_], _ => rfl
theorem bi_total : r_total.Bi := fun _ _ _ _ _ _ us hl => match us, hl with | [_], _ => rfl
theorem bi__law_draws : r__law_draws.Bi := fun _ _ _ _ _ _ us hl => match us, hl with | [_], _ => rfl
theorem bi__law_draw : r__law_draw.Bi := fun _ _ _ _ _ _ us hl => match us, hl with | [_, _], _ => rfl
theorem bi__law_same : r__law_same.Bi := fun _ _ _ _ _ _ us hl => match us, hl with | [_, _], _ => rfl
theorem bi__law_number : r__law_number.Bi := fun _ _ _ _ _ _ us hl => match us, hl with | [_], _ => rfl
theorem bi__law_above : r__law_above.Bi := fun _ _ _ _ _ _ us hl => match us, hl with | [_], _ => rfl
theorem bi_law : r_law.Bi := fun _ _ _ _ _ _ us hl => match us, hl with | [_], _ => rfl
theorem tab_bi : ∀ r ∈ tab, r.Bi := by
  unfold tab
  simp only [List.forall_mem_cons, bi_is_integer, bi_is_golden, bi_plus, bi_negated, bi_minus, bi_times, bi_sign, bi_total, bi__law_draws, bi__law_draw, bi__law_same, bi__law_number, bi__law_above, bi_law, List.not_mem_nil, true_and, false_imp_iff, implies_true]
abbrev R : PySem.W.OpenRow := PySem.W.OpenLaw.row PySem.Challenge.rw_mirrorwalk_k00_golden_numbers
abbrev hk : PySem.W.Hook := hookW 5 I gl tab
def ob (s : PySem.W.SharedT) : AlW := obsWG 5 I gl tab (HandSHeadRun.getT s)
theorem ob_eq (s : PySem.W.SharedT) : ob s = hk.obs s.abs := obsWG_eq (HandSHeadRun.getT_eq s)
def loose0 : List PySem.Str := ["ZERO", "ONE", "GOLD", "is_integer", "is_golden", "plus", "negated", "minus", "times", "sign", "total", "_law_draws", "_law_draw", "_law_same", "_law_number", "_law_above"]
def loose : List PySem.Str := loose0
theorem run (w : World) : HandSHeadRun.RunEq R (PySem.W.view R.prog [18]) hk ob 4000 loose w := by
  intro os
  kernel_rfl
end Lk
open PySem PySem.W PySem.Calls PyProof.Rows
/-- the law's equation gives the statement -/
theorem Lk.holds (lvl : Nat) (hr : lvl ≤ 100) (law : ∀ ns : List Int, ns.length ≤ 63 → ∃ m', WM.evC Lk.T lvl Lk.f_law [.klst (ns.map .int)] [] = some (.ok (.bl true), m')) : PySem.Challenge.rw_mirrorwalk_k00_golden_numbers.Holds := by
  w_on; o_law
  refine HandSHeadRun.head_any (r := OpenLaw.row PySem.Challenge.rw_mirrorwalk_k00_golden_numbers) (q := view (OpenLaw.row PySem.Challenge.rw_mirrorwalk_k00_golden_numbers).prog [18]) (H := Lk.hk) (ob := Lk.ob) (M := 4000) (loose := Lk.loose) (d := HandSHeadRun.topDef (OpenLaw.row PySem.Challenge.rw_mirrorwalk_k00_golden_numbers).prog 18) (kwd := []) Lk.ob_eq
    (by kernel_rfl) (fun s => by kernel_rfl) Lk.run (by kernel_rfl) (by kernel_rfl) (by kernel_rfl) (by rfl) (by first | assumption | decide +kernel) (by decide +kernel) ⟨rfl, rfl, rfl, rfl, rfl, by decide +kernel⟩ ?hw ?hc
  case hw => w_witness2
  case hc => exact WM.law_walk (l := PySem.Challenge.rw_mirrorwalk_k00_golden_numbers) (rl := Lk.r_law) (lvl := lvl) rfl (by kernel_rfl) (WM.room_le hr) Lk.tab_ok Lk.tab_bi (by unfold Lk.tab; simp) Lk.t_law (by kernel_rfl) rfl law
namespace Lk
open PySem PySem.Spec PyProof.Rows L2 WM
theorem s_plus (l : Nat) (a b c d : Int) : evC T (l+1) f_plus [.tup [.int a, .int b], .tup [.int c, .int d]] = ret (.tup [.int (a+c), .int (b+d)]) := by
  refine pure_of t_plus rfl fun m => ?_
  simp [F_plus, b_plus, idxM, binW]
theorem s_minus (l : Nat) (a b c d : Int) : evC T (l+1) f_minus [.tup [.int a, .int b], .tup [.int c, .int d]] = ret (.tup [.int (a-c), .int (b-d)]) := by
  refine pure_of t_minus rfl fun m => ?_
  simp [F_minus, b_minus, idxM, binW]
theorem s_negated (l : Nat) (a b : Int) : evC T (l+1) f_negated [.tup [.int a, .int b]] = ret (.tup [.int (-a), .int (-b)]) := by
  refine pure_of t_negated rfl fun m => ?_
  simp [F_negated, b_negated, idxM, binW]
theorem s_times (l : Nat) (a b c d : Int) (h1 : mulOk b d = true) (h2 : mulOk a c = true) (h3 : mulOk a d = true) (h4 : mulOk b c = true) :
    evC T (l+1) f_times [.tup [.int a, .int b], .tup [.int c, .int d]] = ret (.tup [.int (a*c+b*d), .int (a*d+b*c+b*d)]) := by
  refine pure_of t_times rfl fun m => ?_
  simp [F_times, b_times, idxM, binW, h1, h2, h3, h4, asgT]
def sgn (a b : Int) : Int :=
  if 0 ≤ 2*a+b ∧ 0 ≤ b then (if 0 < 2*a+b ∨ 0 < b then 1 else 0)
  else if 2*a+b ≤ 0 ∧ b ≤ 0 then -1
  else if (0 < 2*a+b ↔ 5*b*b < (2*a+b)*(2*a+b)) then 1 else -1
theorem s_sign (l : Nat) (a b : Int) (h1 : mulOk (2*a+b) (2*a+b) = true) (h2 : mulOk 5 b = true) (h3 : mulOk (5*b) b = true) (h4 : mulOk 2 a = true) :
    evC T (l+1) f_sign [.tup [.int a, .int b]] = ret (.int (sgn a b)) := by
  refine pure_of t_sign rfl fun m => ?_
  unfold sgn
  generalize hu : 2*a+b = u at *
  by_cases c1 : 0 ≤ u <;> by_cases c2 : 0 ≤ b
  · by_cases c5 : 0 < u <;> by_cases c6 : 0 < b <;>
    simp [F_sign, b_sign, idxM, binW, h1, h2, h3, h4, asgT, setMany, cmpW, c1, c2, c5, c6, biM, W.isD, W.eqv, hu]
  · have c3 : b ≤ 0 := by omega
    by_cases c4 : u ≤ 0
    · simp [F_sign, b_sign, idxM, binW, h1, h2, h3, h4, asgT, setMany, cmpW, c1, c2, c3, c4, biM, W.isD, W.eqv, hu]
    · have c5 : 0 < u := by omega
      by_cases c7 : 5*b*b < u*u <;>
      simp [F_sign, b_sign, idxM, binW, h1, h2, h3, h4, asgT, setMany, cmpW, c1, c2, c3, c4, c5, c7, biM, W.isD, W.eqv, hu]
  · have c3 : u ≤ 0 := by omega
    have c5 : ¬ 0 < u := by omega
    by_cases c4 : b ≤ 0
    · simp [F_sign, b_sign, idxM, binW, h1, h2, h3, h4, asgT, setMany, cmpW, c1, c2, c3, c4, biM, W.isD, W.eqv, hu]
    · by_cases c7 : 5*b*b < u*u <;>
      simp [F_sign, b_sign, idxM, binW, h1, h2, h3, h4, asgT, setMany, cmpW, c1, c2, c3, c4, c5, c7, biM, W.isD, W.eqv, hu]
  · have c3 : b ≤ 0 := by omega
    have c4 : u ≤ 0 := by omega
    simp [F_sign, b_sign, idxM, binW, h1, h2, h3, h4, asgT, setMany, cmpW, c1, c2, c3, c4, biM, W.isD, W.eqv, hu]
end Lk
namespace Lk
open PySem PySem.Spec PyProof.Rows L2 WM
/-! ## the signs of a + b g -/
theorem five_dvd {u : Int} (h : 5 ∣ u * u) : 5 ∣ u := by
  have h1 : u % 5 = 0 ∨ u % 5 = 1 ∨ u % 5 = 2 ∨ u % 5 = 3 ∨ u % 5 = 4 := by omega
  have h2 : (u * u) % 5 = 0 := Int.emod_eq_zero_of_dvd h
  rw [Int.mul_emod] at h2
  rcases h1 with h1 | h1 | h1 | h1 | h1 <;> rw [h1] at h2 <;> first | omega | (exfalso; revert h2; decide)
theorem irr_aux (n : Nat) : ∀ u b : Int, b.natAbs ≤ n → u * u = 5 * b * b → b = 0 := by
  induction n with
  | zero => intro u b h _; omega
  | succ n ih =>
    intro u b hb h
    have h5 : 5 ∣ u := five_dvd ⟨b * b, by rw [h, Int.mul_assoc]⟩
    obtain ⟨v, rfl⟩ := h5
    have hbb : b * b = 5 * (v * v) := by
      have : 5 * (b * b) = 5 * (5 * (v * v)) := by
        rw [← Int.mul_assoc, ← h]
        simp only [Int.mul_assoc, Int.mul_left_comm]
      omega
    obtain ⟨c, rfl⟩ := five_dvd ⟨v * v, hbb⟩
    have hv : v * v = 5 * c * c := by
      have : 5 * (v * v) = 5 * (5 * c * c) := by
        rw [← hbb]; simp only [Int.mul_assoc, Int.mul_left_comm]
      omega
    by_cases hc : c = 0
    · rw [hc]; rfl
    have := ih v c (by omega) hv
    contradiction
theorem irr {u b : Int} (h : u * u = 5 * b * b) : b = 0 := irr_aux _ u b (Nat.le_refl _) h
theorem sq_nonneg (a : Int) : 0 ≤ a * a := by
  rcases Int.le_total 0 a with h | h
  · exact Int.mul_nonneg h h
  · exact Int.mul_nonneg_of_nonpos_of_nonpos h h
theorem sq_pos {a : Int} (h : a ≠ 0) : 0 < a * a := by
  have := sq_nonneg a
  have : a * a ≠ 0 := fun h1 => by rcases Int.mul_eq_zero.1 h1 with h2 | h2 <;> exact h h2
  omega
/-- the sign by the norm -/
def sg (u b : Int) : Int := if 5 * b * b < u * u then u.sign else if u * u < 5 * b * b then b.sign else 0
theorem sg_zero : sg 0 0 = 0 := by decide
theorem five_bb (b : Int) : 5 * b * b = 5 * (b * b) := Int.mul_assoc ..
theorem sgn_sg (a b : Int) : sgn a b = sg (2 * a + b) b := by
  unfold sgn sg
  generalize 2 * a + b = u
  have hir : u * u = 5 * b * b → b = 0 := irr
  have hu := sq_nonneg u; have hb := sq_nonneg b
  have hu' : u ≠ 0 → 0 < u * u := sq_pos
  have hb' : b ≠ 0 → 0 < b * b := sq_pos
  have hu0 : u = 0 → u * u = 0 := by rintro rfl; rfl
  have hb0 : b = 0 → b * b = 0 := by rintro rfl; rfl
  rw [five_bb] at *
  have su : 0 < u → u.sign = 1 := Int.sign_eq_one_of_pos
  have su' : u < 0 → u.sign = -1 := Int.sign_eq_neg_one_of_neg
  have sb : 0 < b → b.sign = 1 := Int.sign_eq_one_of_pos
  have sb' : b < 0 → b.sign = -1 := Int.sign_eq_neg_one_of_neg
  have su0 : u = 0 → u.sign = 0 := by rintro rfl; rfl
  have sb0 : b = 0 → b.sign = 0 := by rintro rfl; rfl
  generalize u * u = uu at *
  generalize b * b = bb at *
  generalize u.sign = x at *
  generalize b.sign = y at *
  split <;> split <;> (try split) <;> (try split) <;> omega
theorem sg_neg (u b : Int) : sg (-u) (-b) = - sg u b := by
  unfold sg
  have e1 : -u * -u = u * u := Int.neg_mul_neg ..
  have e2 : 5 * -b * -b = 5 * b * b := by rw [five_bb, five_bb, Int.neg_mul_neg]
  rw [e1, e2, Int.sign_neg, Int.sign_neg]
  split
  · rfl
  · split <;> rfl
theorem sgn_neg (a b : Int) : sgn (-a) (-b) = - sgn a b := by
  rw [sgn_sg, sgn_sg, ← sg_neg]; congr 1; omega
theorem sg_two (u b : Int) : sg (2 * u) (2 * b) = sg u b := by
  unfold sg
  have e1 : 2 * u * (2 * u) = 4 * (u * u) := by rw [Int.mul_assoc, Int.mul_left_comm u]; omega
  have e2 : 5 * (2 * b) * (2 * b) = 4 * (5 * b * b) := by
    rw [five_bb, five_bb, Int.mul_assoc 2 b, Int.mul_left_comm b]; omega
  have s2 : ∀ x : Int, (2 * x).sign = x.sign := fun x => by rw [Int.sign_mul]; exact Int.one_mul _
  rw [e1, e2, s2, s2]
  generalize u * u = uu
  generalize 5 * b * b = bb
  by_cases h : bb < uu
  · rw [if_pos h, if_pos (by omega)]
  · rw [if_neg h, if_neg (by omega)]
    by_cases g : uu < bb
    · rw [if_pos g, if_pos (by omega)]
    · rw [if_neg g, if_neg (by omega)]
/-- the greater part gives a sum's sign -/
theorem sign_add {p q : Int} (h : q * q < p * p) : (p + q).sign = p.sign := by
  have key : ∀ x y : Int, 0 ≤ x → 0 ≤ y → y * y < x * x → y < x := by
    intro x y hx hy hh
    rcases Int.lt_or_le y x with g | g
    · exact g
    · have := Int.mul_le_mul g g hx hy
      omega
  rcases Int.lt_trichotomy p 0 with hp | hp | hp
  · have : (p + q) < 0 := by
      rcases Int.le_total 0 q with hq | hq
      · have := key (-p) q (by omega) hq (by rw [Int.neg_mul_neg]; exact h)
        omega
      · omega
    rw [Int.sign_eq_neg_one_of_neg this, Int.sign_eq_neg_one_of_neg hp]
  · subst hp
    have := sq_nonneg q
    omega
  · have : 0 < (p + q) := by
      rcases Int.le_total 0 q with hq | hq
      · omega
      · have := key p (-q) (by omega) (by omega) (by rw [Int.neg_mul_neg]; exact h)
        omega
    rw [Int.sign_eq_one_of_pos this, Int.sign_eq_one_of_pos hp]
theorem mul_lt {a b c d : Int} (h : a < b) (g : c < d) (ha : 0 ≤ a) (hc : 0 ≤ c) : a * c < b * d := by
  have h1 : a * c ≤ a * d := Int.mul_le_mul_of_nonneg_left (by omega) ha
  have h2 : a * d < b * d := Int.mul_lt_mul_of_pos_right h (by omega)
  omega
theorem sg_mul (u b v c : Int) : sg (u * v + 5 * b * c) (u * c + b * v) = sg u b * sg v c := by
  have hb := sq_nonneg b; have hc := sq_nonneg c; have hu := sq_nonneg u; have hv := sq_nonneg v
  have n1 : (u * v + 5 * b * c) * (u * v + 5 * b * c) - 5 * (u * c + b * v) * (u * c + b * v) = (u * u - 5 * b * b) * (v * v - 5 * c * c) := by
    grind
  have x1 : 5 * b * c * (5 * b * c) = (5 * b * b) * (5 * c * c) := by grind
  have x2 : u * v * (u * v) = (u * u) * (v * v) := by grind
  have y1 : u * c * (u * c) = (u * u) * (c * c) := by grind
  have y2 : b * v * (b * v) = (b * b) * (v * v) := by grind
  have z0 : u * u = 5 * b * b → b = 0 := irr
  have z1 : v * v = 5 * c * c → c = 0 := irr
  rcases Int.lt_trichotomy (u * u) (5 * b * b) with hx | hx | hx
  · rcases Int.lt_trichotomy (v * v) (5 * c * c) with hy | hy | hy
    · -- both by the second part: the product by the first
      have hp : 0 < (u * u - 5 * b * b) * (v * v - 5 * c * c) := Int.mul_pos_of_neg_of_neg (by omega) (by omega)
      have hl : u * v * (u * v) < 5 * b * c * (5 * b * c) := by
        rw [x1, x2]; exact mul_lt hx hy hu hv
      have e : sg (u * v + 5 * b * c) (u * c + b * v) = (u * v + 5 * b * c).sign := by
        unfold sg; rw [if_pos (by omega)]
      have e1 : sg u b = b.sign := by unfold sg; rw [if_neg (by omega), if_pos hx]
      have e2 : sg v c = c.sign := by unfold sg; rw [if_neg (by omega), if_pos hy]
      rw [e, e1, e2, Int.add_comm, sign_add hl, Int.mul_assoc, Int.sign_mul, Int.sign_mul]
      exact Int.one_mul _
    · have hc0 := z1 hy
      subst hc0
      have hv0 : v = 0 := by
        rcases Int.mul_eq_zero.1 (show v * v = 0 by omega) with h | h <;> exact h
      subst hv0
      simp [sg_zero]
    · have hp : (u * u - 5 * b * b) * (v * v - 5 * c * c) < 0 := Int.mul_neg_of_neg_of_pos (by omega) (by omega)
      have hl : u * c * (u * c) < b * v * (b * v) := by
        have := mul_lt hx hy hu (by rw [five_bb]; omega)
        rw [y1, y2]
        have e3 : u * u * (5 * c * c) = 5 * (u * u * (c * c)) := by grind
        have e4 : 5 * b * b * (v * v) = 5 * (b * b * (v * v)) := by grind
        omega
      have e : sg (u * v + 5 * b * c) (u * c + b * v) = (u * c + b * v).sign := by
        unfold sg; rw [if_neg (by omega), if_pos (by omega)]
      have e1 : sg u b = b.sign := by unfold sg; rw [if_neg (by omega), if_pos hx]
      have e2 : sg v c = v.sign := by unfold sg; rw [if_pos hy]
      rw [e, e1, e2, Int.add_comm, sign_add hl, Int.sign_mul]
  · have hb0 := z0 hx
    subst hb0
    have hu0 : u = 0 := by
      rcases Int.mul_eq_zero.1 (show u * u = 0 by omega) with h | h <;> exact h
    subst hu0
    simp [sg_zero]
  · rcases Int.lt_trichotomy (v * v) (5 * c * c) with hy | hy | hy
    · have hp : (u * u - 5 * b * b) * (v * v - 5 * c * c) < 0 := Int.mul_neg_of_pos_of_neg (by omega) (by omega)
      have hl : b * v * (b * v) < u * c * (u * c) := by
        have := mul_lt hx hy (by rw [five_bb]; omega) hv
        rw [y1, y2]
        have e3 : u * u * (5 * c * c) = 5 * (u * u * (c * c)) := by grind
        have e4 : 5 * b * b * (v * v) = 5 * (b * b * (v * v)) := by grind
        omega
      have e : sg (u * v + 5 * b * c) (u * c + b * v) = (u * c + b * v).sign := by
        unfold sg; rw [if_neg (by omega), if_pos (by omega)]
      have e1 : sg u b = u.sign := by unfold sg; rw [if_pos hx]
      have e2 : sg v c = c.sign := by unfold sg; rw [if_neg (by omega), if_pos hy]
      rw [e, e1, e2, sign_add hl, Int.sign_mul]
    · have hc0 := z1 hy
      subst hc0
      have hv0 : v = 0 := by
        rcases Int.mul_eq_zero.1 (show v * v = 0 by omega) with h | h <;> exact h
      subst hv0
      simp [sg_zero]
    · have hp : 0 < (u * u - 5 * b * b) * (v * v - 5 * c * c) := Int.mul_pos (by omega) (by omega)
      have hl : 5 * b * c * (5 * b * c) < u * v * (u * v) := by
        rw [x1, x2]; exact mul_lt hx hy (by rw [five_bb]; omega) (by rw [five_bb]; omega)
      have e : sg (u * v + 5 * b * c) (u * c + b * v) = (u * v + 5 * b * c).sign := by
        unfold sg; rw [if_pos (by omega)]
      have e1 : sg u b = u.sign := by unfold sg; rw [if_pos hx]
      have e2 : sg v c = v.sign := by unfold sg; rw [if_pos hy]
      rw [e, e1, e2, sign_add hl, Int.sign_mul]
theorem sgn_mul (a b c d : Int) : sgn (a * c + b * d) (a * d + b * c + b * d) = sgn a b * sgn c d := by
  rw [sgn_sg, sgn_sg, sgn_sg, ← sg_mul, ← sg_two]
  congr 1 <;> grind
end Lk
namespace Lk
open PySem hiding alloc ret
open PySem.Spec PyProof.Rows L2 WM
/-! ## the law's own tools -/
/-- the heap: the draws lie at its bottom -/
def dmo (ns : List Int) (p s q : Int) : HOb := .lst [.lst (ns.map .int), .int p, .int s, .int q]
def Dm (ns : List Int) (pre m : Hm) : Prop := ∃ p s q : Int, 0 ≤ p ∧ m = pre ++ [dmo ns p s q]
theorem Dm.len {ns : List Int} {pre m : Hm} (h : Dm ns pre m) : m.length = pre.length + 1 := by
  obtain ⟨p, s, q, _, rfl⟩ := h; simp
theorem s_draws (l : Nat) (ns : List Int) : ∃ m', evC T (l+1) f__law_draws [.klst (ns.map .int)] [] = some (.ok (.ref 0), m') ∧ Dm ns [] m' := by
  refine ⟨[dmo ns 0 0 1], ?_, ⟨0, 0, 1, by omega, rfl⟩⟩
  rw [call_eq t__law_draws rfl]
  simp [F__law_draws, b__law_draws, biM, dmo]
theorem s_draw (l : Nat) (ns : List Int) (pre m : Hm) (lim : Int) (hn : ns.length ≤ 63) (h : Dm ns pre m) (h0 : 0 < lim) (h1 : lim < 2 ^ 64) :
    ∃ (v : Int) (m' : Hm), evC T (l+1) f__law_draw [.ref 0, .int lim] m = some (.ok (.int v), m') ∧ Dm ns pre m' ∧ 0 ≤ v ∧ v < lim := by
  obtain ⟨p, s, q, hp, rfl⟩ := h
  have hl : lim.natAbs.log2 < 9000 := by
    have : bd 64 lim := by unfold bd; omega
    have := bd_log this; omega
  have mr1 : ∀ q : Int, mulOk q 48271 = true := fun q => mulOk_r (by decide)
  have mr2 : ∀ q : Int, mulOk q 69621 = true := fun q => mulOk_r (by decide)
  have hx : ∀ x : Int, 0 ≤ x % lim ∧ x % lim < lim := fun x => ⟨Int.emod_nonneg _ (by omega), Int.emod_lt_of_pos _ h0⟩
  rw [call_eq t__law_draw rfl]
  unfold dmo
  have fl : ∀ {sg : Sg} {p q s p' q' s' : Int} {v : Int}, 0 ≤ p' → (0 ≤ v ∧ v < lim) → ∃ (v' : Int) (m' : Hm), endR false (pre ++ [HOb.lst [W.lst (ns.map .int), .int p, .int s, .int q]]) (some (.rt (.int v), sg, pre ++ [HOb.lst [W.lst (ns.map .int), .int p', .int s', .int q']])) = some (.ok (.int v'), m') ∧ Dm ns pre m' ∧ 0 ≤ v' ∧ v' < lim := by
    intro sg p q s p' q' s' v hp' hv
    exact ⟨v, _, endR_len (by simp), ⟨p', s', q', hp', rfl⟩, hv⟩
  by_cases c1 : s = 0 <;> by_cases c2 : p < ns.length
  · have c2' : p.toNat < ns.length := by omega
    have hc : idxW (ns.map .int) (.int p) = some (.int (ns[p.toNat])) := by
      rw [iWn hp (by simpa using c2')]; simp
    generalize ns[p.toNat] = cell at hc
    by_cases c3 : 1000000000000000000 ≤ cell
    · have c4 : 0 < cell := by omega
      simp [F__law_draw, b__law_draw, cmpW, W.isD, W.eqv, c1, c2, hc, binW, biM, asgT, c3, c4, mr1, mr2, h0, hl, hp]
      exact fl (by omega) (hx _)
    · simp [F__law_draw, b__law_draw, cmpW, W.isD, W.eqv, c1, c2, hc, binW, biM, asgT, c3, mr1, mr2, h0, hl, hp]
      exact fl (by omega) (hx _)
  · simp [F__law_draw, b__law_draw, cmpW, W.isD, W.eqv, c1, c2, binW, biM, asgT, mr1, mr2, h0, hl, hp]
    exact fl hp (hx _)
  · by_cases c4 : 0 < s <;> simp [F__law_draw, b__law_draw, cmpW, W.isD, W.eqv, c1, c2, c4, binW, biM, asgT, mr1, mr2, h0, hl, hp] <;>
    exact fl hp (hx _)
  · by_cases c4 : 0 < s <;> simp [F__law_draw, b__law_draw, cmpW, W.isD, W.eqv, c1, c2, c4, binW, biM, asgT, mr1, mr2, h0, hl, hp] <;>
    exact fl hp (hx _)
end Lk
namespace Lk
open PySem hiding alloc ret
open PySem.Spec PyProof.Rows L2 WM
/-! ## alike: a value is alike itself -/
def sdv : Nat → W → Prop
  | _, .non => True
  | _, .bl _ => True
  | _, .int _ => True
  | _, .str x => PyData.strOk x = true
  | n + 1, .tup xs => szOk xs.length = true ∧ ∀ x ∈ xs, sdv n x
  | n + 1, .lst xs => szOk xs.length = true ∧ ∀ x ∈ xs, sdv n x
  | _, _ => False
theorem rng0 {n : Nat} (h : szOk n = true) : rngW 0 (n : Int) = some ((List.range n).map fun (k : Nat) => W.int (k : Int)) := by
  have h : n ≤ 16777216 := of_decide_eq_true h
  unfold rngW szOk
  have e1 : decide (-(2 ^ 62) ≤ (0 : Int)) = true := by decide
  have e2 : decide ((0 : Int) < 2 ^ 62) = true := by decide
  have e3 : decide (-(2 ^ 62) ≤ (n : Int)) = true := decide_eq_true (by omega)
  have e4 : decide ((n : Int) < 2 ^ 62) = true := decide_eq_true (by omega)
  have e5 : decide (((n : Int) - 0).toNat ≤ 16777216) = true := decide_eq_true (by omega)
  rw [e1, e2, e3, e4, e5]
  simp
theorem s_same : ∀ (n l : Nat) (w : W), sdv n w → n < l → evC T l f__law_same [w, w] = ret (.bl true) := by
  intro n
  induction n with
  | zero =>
    intro l w h hl
    obtain ⟨l, rfl⟩ : ∃ k, l = k + 1 := ⟨l - 1, by omega⟩
    refine pure_of t__law_same rfl fun m => ?_
    cases w with
    | non => simp [F__law_same, b__law_same, isiW, cmpW, isNon]
    | bl b => simp [F__law_same, b__law_same, isiW, cmpW, isNon, W.isD, W.eqv]
    | int i => simp [F__law_same, b__law_same, isiW, cmpW, isNon, W.isD, W.eqv]
    | str x => simp [sdv] at h; simp [F__law_same, b__law_same, isiW, cmpW, isNon, W.isD, W.eqv, h]
    | _ => simp [sdv] at h
  | succ n ih =>
    intro l w h hl
    obtain ⟨l, rfl⟩ : ∃ k, l = k + 1 := ⟨l - 1, by omega⟩
    refine pure_of t__law_same rfl fun m => ?_
    cases w with
    | non => simp [F__law_same, b__law_same, isiW, cmpW, isNon]
    | bl b => simp [F__law_same, b__law_same, isiW, cmpW, isNon, W.isD, W.eqv]
    | int i => simp [F__law_same, b__law_same, isiW, cmpW, isNon, W.isD, W.eqv]
    | str x => simp [sdv] at h; simp [F__law_same, b__law_same, isiW, cmpW, isNon, W.isD, W.eqv, h]
    | tup xs =>
      simp only [sdv] at h
      have hc : ∀ sg tst elt, sg = [some (W.tup xs), some (W.tup xs), none] → tst = evE T (evC T l) (E.not (.call f__law_same [(.idx (.var 0) (.var 2)), (.idx (.var 1) (.var 2))])) → compGo (.v 2) sg tst elt ((List.range xs.length).map fun (k : Nat) => W.int (k : Int)) = ret [] := by
        rintro sg tst elt rfl rfl
        refine compGo_none fun x hx => ?_
        obtain ⟨k, hk, rfl⟩ := List.mem_map.1 hx
        have hk' : k < xs.length := List.mem_range.1 hk
        refine ⟨_, rfl, ?_⟩
        simp [iWk hk', ih l (xs[k]) (h.2 _ (List.getElem_mem hk')) (by omega)]
      simp [F__law_same, b__law_same, isiW, cmpW, isNon, W.isD, W.eqv, biM, rng0 h.1, wipeW, hc]
    | lst xs =>
      simp only [sdv] at h
      have hc : ∀ sg tst elt, sg = [some (W.lst xs), some (W.lst xs), none] → tst = evE T (evC T l) (E.not (.call f__law_same [(.idx (.var 0) (.var 2)), (.idx (.var 1) (.var 2))])) → compGo (.v 2) sg tst elt ((List.range xs.length).map fun (k : Nat) => W.int (k : Int)) = ret [] := by
        rintro sg tst elt rfl rfl
        refine compGo_none fun x hx => ?_
        obtain ⟨k, hk, rfl⟩ := List.mem_map.1 hx
        have hk' : k < xs.length := List.mem_range.1 hk
        refine ⟨_, rfl, ?_⟩
        simp [iWk hk', ih l (xs[k]) (h.2 _ (List.getElem_mem hk')) (by omega)]
      simp [F__law_same, b__law_same, isiW, cmpW, isNon, W.isD, W.eqv, biM, rng0 h.1, wipeW, hc]
    | _ => simp [sdv] at h
end Lk
namespace Lk
open PySem hiding alloc ret
open PySem.Spec PyProof.Rows L2 WM
def isint : W → Bool
  | .int _ => true
  | _ => false
theorem s_is_integer (l : Nat) (w : W) (h : (match w with | .klst _ => False | .ref _ => False | .dct _ _ => False | .ins _ _ => False | _ => True)) : evC T (l+1) f_is_integer [w] = ret (.bl (isint w)) := by
  refine pure_of t_is_integer rfl fun m => ?_
  cases w <;> first | exact h.elim | simp [F_is_integer, b_is_integer, isiW, isint]
theorem s_total3 (l : Nat) (a b c d e f : Int) : evC T (l+2) f_total [.lst [.tup [.int a, .int b], .tup [.int c, .int d], .tup [.int e, .int f]]] = ret (.tup [.int (a+c+e), .int (b+d+f)]) := by
  refine pure_of t_total rfl fun m => ?_
  simp [F_total, b_total, g_ZERO, asgT, loopGo, s_plus]
theorem s_total0 (l : Nat) : evC T (l+2) f_total [.tup []] = ret (.tup [.int 0, .int 0]) := by
  refine pure_of t_total rfl fun m => ?_
  simp [F_total, b_total, g_ZERO, asgT, loopGo, s_plus]
def above (a b : Int) : Bool := if -b < 0 then decide (0 ≤ 2*a+b) || decide ((2*a+b)*(2*a+b) < 5 * -b * -b) else decide (0 < 2*a+b) && decide (5 * -b * -b < (2*a+b)*(2*a+b))
theorem s_above (l : Nat) (a b : Int) (h1 : mulOk (2*a+b) (2*a+b) = true) (h2 : mulOk 5 (-b) = true) (h3 : mulOk (5 * -b) (-b) = true) (h4 : mulOk 2 a = true) :
    evC T (l+1) f__law_above [.tup [.int a, .int b]] = ret (.bl (above a b)) := by
  refine pure_of t__law_above rfl fun m => ?_
  unfold above
  generalize hu : 2*a+b = u at *
  by_cases c1 : -b < 0
  · have c1' : 0 < b := by omega
    by_cases c2 : 0 ≤ u <;>
    simp [F__law_above, b__law_above, idxM, binW, h1, h2, h3, h4, asgT, setMany, cmpW, hu, c1', c2]
  · have c1' : ¬ 0 < b := by omega
    by_cases c2 : 0 < u <;>
    simp [F__law_above, b__law_above, idxM, binW, h1, h2, h3, h4, asgT, setMany, cmpW, hu, c1', c2]
theorem above_sgn (a b : Int) : (if a = 0 ∧ b = 0 then 0 else if above a b then 1 else -1) = sgn a b := by
  rw [sgn_sg]
  unfold above sg
  have e : 5 * -b * -b = 5 * b * b := by rw [five_bb, five_bb, Int.neg_mul_neg]
  rw [e]
  by_cases h0 : a = 0 ∧ b = 0
  · rw [if_pos h0]; obtain ⟨rfl, rfl⟩ := h0; decide
  rw [if_neg h0]
  have h0' : ¬ (2 * a + b = 0 ∧ b = 0) := fun h1 => h0 ⟨by omega, h1.2⟩
  clear h0
  generalize 2 * a + b = u at *
  have hir : u * u = 5 * b * b → b = 0 := irr
  have hu := sq_nonneg u; have hb := sq_nonneg b
  have hu' : u ≠ 0 → 0 < u * u := sq_pos
  have hb' : b ≠ 0 → 0 < b * b := sq_pos
  have hu0 : u = 0 → u * u = 0 := by rintro rfl; rfl
  have hb0 : b = 0 → b * b = 0 := by rintro rfl; rfl
  rw [five_bb] at *
  have su : 0 < u → u.sign = 1 := Int.sign_eq_one_of_pos
  have su' : u < 0 → u.sign = -1 := Int.sign_eq_neg_one_of_neg
  have sb : 0 < b → b.sign = 1 := Int.sign_eq_one_of_pos
  have sb' : b < 0 → b.sign = -1 := Int.sign_eq_neg_one_of_neg
  have su0 : u = 0 → u.sign = 0 := by rintro rfl; rfl
  have sb0 : b = 0 → b.sign = 0 := by rintro rfl; rfl
  generalize u * u = uu at *
  generalize b * b = bb at *
  generalize u.sign = x at *
  generalize b.sign = y at *
  have key : ∀ v : Int, ((5 * bb < uu → v = x) ∧ (¬ 5 * bb < uu → uu < 5 * bb → v = y) ∧ (¬ 5 * bb < uu → ¬ uu < 5 * bb → v = 0)) → v = if 5 * bb < uu then x else if uu < 5 * bb then y else 0 := by
    intro v hv
    split
    · exact hv.1 ‹_›
    · split
      · exact hv.2.1 ‹_› ‹_›
      · exact hv.2.2 ‹_› ‹_›
  apply key
  by_cases c1 : -b < 0
  · rw [if_pos c1]
    cases hB : (decide (0 ≤ u) || decide (uu < 5 * bb))
    · simp at hB; rw [if_neg (by decide)]; refine ⟨?_, ?_, ?_⟩ <;> intros <;> omega
    · simp at hB; rw [if_pos rfl]; refine ⟨?_, ?_, ?_⟩ <;> intros <;> omega
  · rw [if_neg c1]
    cases hB : (decide (0 < u) && decide (5 * bb < uu))
    · simp at hB; rw [if_neg (by decide)]; have hB2 : ¬ 0 < u ∨ uu ≤ 5 * bb := by { rcases Int.lt_or_le 0 u with h | h; exact Or.inr (hB h); exact Or.inl (by omega) }; clear hB; refine ⟨?_, ?_, ?_⟩ <;> intros <;> omega
    · simp at hB; rw [if_pos rfl]; refine ⟨?_, ?_, ?_⟩ <;> intros <;> omega
theorem s_number (l : Nat) (ns : List Int) (pre m : Hm) (hn : ns.length ≤ 63) (h : Dm ns pre m) :
    ∃ (a b : Int) (m' : Hm), evC T (l+2) f__law_number [.ref 0] m = some (.ok (.tup [.int a, .int b]), m') ∧ Dm ns pre m' ∧ bd 60 a ∧ bd 60 b := by
  rw [call_eq t__law_number rfl]
  obtain ⟨v, m1, e1, d1, b1, b1'⟩ := s_draw l ns pre m 4 hn h (by omega) (by omega)
  obtain ⟨far, ef, hf, hf'⟩ : ∃ far : Int, idxW [.int 3, .int 10, .int 1000, .int 1000000000000] (.int v) = some (.int far) ∧ 0 < far ∧ far ≤ 1000000000000 := by
    have : v = 0 ∨ v = 1 ∨ v = 2 ∨ v = 3 := by omega
    rcases this with rfl | rfl | rfl | rfl
    · exact ⟨_, iW0 .., by omega, by omega⟩
    · exact ⟨_, iW1 .., by omega, by omega⟩
    · exact ⟨_, iW2 .., by omega, by omega⟩
    · exact ⟨_, iW3 .., by omega, by omega⟩
  obtain ⟨x, m2, e2, d2, b2, b2'⟩ := s_draw l ns pre m1 far hn d1 hf (by omega)
  obtain ⟨k, m3, e3, d3, b3, b3'⟩ := s_draw l ns pre m2 2 hn d2 (by omega) (by omega)
  have hm : ∀ i : Int, mulOk i 618033988749895 = true := fun i => mulOk_r (by decide)
  have hg : Nat.log2 1000000000000000 < 9000 := by decide
  by_cases hk : k = 0
  · obtain ⟨y, m4, e4, d4, b4, b4'⟩ := s_draw l ns pre m3 far hn d3 hf (by omega)
    refine ⟨x - far / 2, y - far / 2, m4, ?_, d4, ?_, ?_⟩
    · simp [F__law_number, b__law_number, lft_at e1, lft_at e2, lft_at e3, lft_at e4, binW, ef, asgT, cmpW, W.isD, W.eqv, hk, endR_len (d4.len.trans h.len.symm)]
    · unfold bd; omega
    · unfold bd; omega
  · obtain ⟨y, m4, e4, d4, b4, b4'⟩ := s_draw l ns pre m3 3 hn d3 (by omega) (by omega)
    refine ⟨x - far / 2, -((x - far / 2) * 618033988749895) / 1000000000000000 + y - 1, m4, ?_, d4, ?_, ?_⟩
    · simp [F__law_number, b__law_number, lft_at e1, lft_at e2, lft_at e3, lft_at e4, binW, ef, asgT, cmpW, W.isD, W.eqv, hk, hm, hg, endR_len (d4.len.trans h.len.symm)]
    · unfold bd; omega
    · unfold bd; omega
end Lk
namespace Lk
open PySem hiding alloc ret
open PySem.Spec PyProof.Rows L2 WM
theorem sg2 (n : Nat) (a b : Int) : sdv (n + 1) (.tup [.int a, .int b]) := ⟨by simp [szOk], by intro x hx; simp at hx; rcases hx with rfl | rfl <;> cases n <;> trivial⟩
theorem same2 (l : Nat) (a b : Int) : evC T (l+2) f__law_same [.tup [.int a, .int b], .tup [.int a, .int b]] = ret (.bl true) := s_same 1 (l+2) _ (sg2 0 a b) (by omega)
theorem same1 (l : Nat) (a : Int) : evC T (l+1) f__law_same [.int a, .int a] = ret (.bl true) := s_same 0 (l+1) _ trivial (by omega)
theorem sgn_ok (a b : Int) (ha : bd 200 a) (hb : bd 200 b) (l : Nat) : evC T (l+1) f_sign [.tup [.int a, .int b]] = ret (.int (sgn a b)) := by
  have ha2 : bd 202 (2 * a) := bd_mul (n := 2) (by unfold bd; decide) ha
  have hu : bd 203 (2 * a + b) := bd_add ha2 (bd_mono hb (by omega))
  exact s_sign l a b (mulOk_bd hu hu (by omega)) (mulOk_l (by decide)) (mulOk_bd (bd_mul (n := 3) (by unfold bd; decide) hb) hb (by omega)) (mulOk_l (by decide))
theorem above_ok (a b : Int) (ha : bd 200 a) (hb : bd 200 b) (l : Nat) : evC T (l+1) f__law_above [.tup [.int a, .int b]] = ret (.bl (above a b)) := by
  have ha2 : bd 202 (2 * a) := bd_mul (n := 2) (by unfold bd; decide) ha
  have hu : bd 203 (2 * a + b) := bd_add ha2 (bd_mono hb (by omega))
  exact s_above l a b (mulOk_bd hu hu (by omega)) (mulOk_l (by decide)) (mulOk_bd (bd_mul (n := 3) (by unfold bd; decide) (bd_neg hb)) (bd_neg hb) (by omega)) (mulOk_l (by decide))
theorem times_ok (a b c d : Int) (ha : bd 200 a) (hb : bd 200 b) (hc : bd 200 c) (hd : bd 200 d) (l : Nat) :
    evC T (l+1) f_times [.tup [.int a, .int b], .tup [.int c, .int d]] = ret (.tup [.int (a*c+b*d), .int (a*d+b*c+b*d)]) :=
  s_times l a b c d (mulOk_bd hb hd (by omega)) (mulOk_bd ha hc (by omega)) (mulOk_bd ha hd (by omega)) (mulOk_bd hb hc (by omega))
/-- the inner loop's turn -/
def inB : List S := [(.set (.v 11) (.ife (.cmp .eq (.var 10) (.tup [(.lit (.int 0)), (.lit (.int 0))])) (.lit (.int 0)) (.ife (.call f__law_above [(.var 10)]) (.lit (.int 1)) (.neg (.lit (.int 1)))))),
  (.ife (.or (.not (.call f__law_same [(.call f_sign [(.var 10)]), (.var 11)])) (.not (.call f__law_same [(.call f_sign [(.call f_negated [(.var 10)])]), (.neg (.var 11))]))) [(.ret (.lit (.bl false)))] [])]
theorem in_ok (l L : Nat) (hL : L = l + 2) (o0 o1 o2 o3 o4 o5 o6 o7 o8 o9 o11 : Option W) (a b : Int) (ha : bd 200 a) (hb : bd 200 b) (m : Hm) : ∃ o11', evSs T (evC T L) inB [o0, o1, o2, o3, o4, o5, o6, o7, o8, o9, some (.tup [.int a, .int b]), o11] m = some (.nx, [o0, o1, o2, o3, o4, o5, o6, o7, o8, o9, some (.tup [.int a, .int b]), o11'], m) := by
  subst hL
  have e := above_sgn a b
  by_cases h0 : a = 0 ∧ b = 0
  · obtain ⟨rfl, rfl⟩ := h0
    have e1 : sgn 0 0 = 0 := by decide
    simp [inB, cmpW, W.isD, W.isDs, W.eqv, W.eqvs, asgT, sgn_ok 0 0 ha hb, s_negated, e1, same1]
  · rw [if_neg h0] at e
    have hx : (decide (a = 0) && decide (b = 0)) = false := by simp; intro h1 h2; exact h0 ⟨h1, h2⟩
    cases hab : above a b with
    | true =>
      rw [hab, if_pos rfl] at e
      have e2 : sgn (-a) (-b) = -1 := by rw [sgn_neg, ← e]
      simp [inB, cmpW, W.isD, W.isDs, W.eqv, W.eqvs, asgT, sgn_ok a b ha hb, sgn_ok (-a) (-b) (bd_neg ha) (bd_neg hb), s_negated, above_ok a b ha hb, hab, hx, e2, ← e, same1]
    | false =>
      rw [hab, if_neg (by decide)] at e
      have e2 : sgn (-a) (-b) = 1 := by rw [sgn_neg, ← e]; rfl
      simp [inB, cmpW, W.isD, W.isDs, W.eqv, W.eqvs, asgT, sgn_ok a b ha hb, sgn_ok (-a) (-b) (bd_neg ha) (bd_neg hb), s_negated, above_ok a b ha hb, hab, hx, e2, ← e, same1]
def loopB (i : Nat) : List S := match b_law[i]? with
  | some (.loop _ _ b) => b
  | _ => []
theorem turn_ok (l : Nat) (ns : List Int) (hn : ns.length ≤ 63) (s0 : W) (o2 o3 o4 o5 o6 o7 o8 o9 o10 o11 : Option W) (m : Hm) (h : Dm ns [] m) : ∃ q6 q7 q8 q9 q10 q11 m', evSs T (evC T (l+5)) (loopB 2) [some s0, some (.ref 0), o2, o3, o4, o5, o6, o7, o8, o9, o10, o11] m = some (.nx, [some s0, some (.ref 0), o2, o3, o4, o5, q6, q7, q8, q9, q10, q11], m') ∧ Dm ns [] m' := by
  obtain ⟨a, b, m1, e1, d1, ha, hb⟩ := s_number (l+3) ns [] m hn h
  obtain ⟨c, d, m2, e2, d2, hc, hd⟩ := s_number (l+3) ns [] m1 hn d1
  obtain ⟨e, f, m3, e3, d3, he, hf⟩ := s_number (l+3) ns [] m2 hn d2
  have b1 : bd 200 (a*c+b*d) := bd_mono (bd_add (bd_mul ha hc) (bd_mul hb hd)) (by omega)
  have b2 : bd 200 (a*d+b*c+b*d) := bd_mono (bd_add (bd_add (bd_mul ha hd) (bd_mul hb hc)) (bd_mono (bd_mul hb hd) (by omega))) (by omega)
  have b3 : bd 200 (a - c) := bd_mono (bd_sub ha hc) (by omega)
  have b4 : bd 200 (b - d) := bd_mono (bd_sub hb hd) (by omega)
  have ha := bd_mono ha (show 60 ≤ 200 by omega)
  have hb := bd_mono hb (show 60 ≤ 200 by omega)
  have hc := bd_mono hc (show 60 ≤ 200 by omega)
  have hd := bd_mono hd (show 60 ≤ 200 by omega)
  have mu : ∀ i j : Int, bd 200 i → bd 200 j → mulOk i j = true := fun i j hi hj => mulOk_bd hi hj (by omega)
  obtain ⟨p1, i1⟩ := in_ok (l+3) (l+5) rfl (some s0) (some (.ref 0)) o2 o3 o4 o5 (some (.tup [.int a, .int b])) (some (.tup [.int c, .int d])) (some (.tup [.int e, .int f])) (some (.tup [.int (a*c+b*d), .int (a*d+b*c+b*d)])) o11 a b ha hb m3
  obtain ⟨p2, i2⟩ := in_ok (l+3) (l+5) rfl (some s0) (some (.ref 0)) o2 o3 o4 o5 (some (.tup [.int a, .int b])) (some (.tup [.int c, .int d])) (some (.tup [.int e, .int f])) (some (.tup [.int (a*c+b*d), .int (a*d+b*c+b*d)])) p1 (a*c+b*d) (a*d+b*c+b*d) b1 b2 m3
  obtain ⟨p3, i3⟩ := in_ok (l+3) (l+5) rfl (some s0) (some (.ref 0)) o2 o3 o4 o5 (some (.tup [.int a, .int b])) (some (.tup [.int c, .int d])) (some (.tup [.int e, .int f])) (some (.tup [.int (a*c+b*d), .int (a*d+b*c+b*d)])) p2 (a-c) (b-d) b3 b4 m3
  have hm : sgn (a*c+b*d) (a*d+b*c+b*d) = sgn a b * sgn c d := sgn_mul ..
  have hs : mulOk (sgn a b) (sgn c d) = true := mulOk_l (by unfold sgn; (repeat' split) <;> decide)
  have as1 : a + (c + e) = a + c + e := by omega
  have as2 : b + (d + f) = b + d + f := by omega
  refine ⟨some (.tup [.int a, .int b]), some (.tup [.int c, .int d]), some (.tup [.int e, .int f]), some (.tup [.int (a*c+b*d), .int (a*d+b*c+b*d)]), some (.tup [.int (a-c), .int (b-d)]), p3, m3, ?_, d3⟩
  show evSs T (evC T (l+5)) [_, _, _, _, _, .loop (.v 10) _ inB, _] _ _ = _
  simp [lft_at e1, lft_at e2, lft_at e3, setMany, asgT, binW, mu, ha, hb, hc, hd, times_ok, s_plus, s_minus, s_negated, s_total3, s_total0, same2, sgn_ok, b1, b2, hm, hs, as1, as2, cmpW, W.isD, W.eqv, loopGo, i1, i2, i3]
end Lk
namespace Lk
open PySem hiding alloc ret
open PySem.Spec PyProof.Rows L2 WM
theorem fib_sgn {a b : Int} (ha : 0 ≤ a) (hb : 0 ≤ b) (h : 0 < a + b) : sgn a b = 1 := by
  unfold sgn
  rw [if_pos ⟨by omega, hb⟩, if_pos (by omega)]
theorem fib_ok (l : Nat) (s0 : W) (o2 o5 o6 o7 o8 o9 o10 o11 : Option W) (a b : Int) (ha : 0 ≤ a) (hb : 0 ≤ b) (h : 0 < a + b) (m : Hm) :
    evSs T (evC T (l+5)) (loopB 4) [some s0, some (.ref 0), o2, some (.tup [.int a, .int b]), some (.tup [.int b, .int (a+b)]), o5, o6, o7, o8, o9, o10, o11] m = some (.nx, [some s0, some (.ref 0), o2, some (.tup [.int b, .int (a+b)]), some (.tup [.int (a+b), .int (b+(a+b))]), o5, o6, o7, o8, o9, o10, o11], m) := by
  have g1 : ∀ i : Int, mulOk i 0 = true := fun i => mulOk_r (by decide)
  have g2 : ∀ i : Int, mulOk i 1 = true := fun i => mulOk_r (by decide)
  have e : ∀ c d : Int, evC T (l+5) f_times [.tup [.int c, .int d], .tup [.int 0, .int 1]] = ret (.tup [.int d, .int (c+d)]) := by
    intro c d
    rw [s_times (l+4) c d 0 1 (g2 _) (g1 _) (g2 _) (g1 _)]
    simp
  have e2 : evC T (l+5) f_sign [.tup [.int a, .int b]] = ret (.int 1) := by
    refine pure_of t_sign rfl fun m => ?_
    have h1 : 0 ≤ 2 * a + b := by omega
    have h2 : 0 < 2 * a + b := by omega
    have h3 : mulOk 2 a = true := mulOk_l (by decide)
    simp [F_sign, b_sign, idxM, binW, h3, asgT, setMany, cmpW, h1, h2, hb, biM]
  show evSs T (evC T (l+5)) [_, _] _ _ = _
  simp [setMany, s_plus, e, e2, g_GOLD, same2, s_minus, cmpW, W.isD, W.eqv]
theorem ii_int (l : Nat) (i : Int) : evC T (l+1) f_is_integer [.int i] = ret (.bl true) := s_is_integer l (.int i) trivial
theorem ii_bl (l : Nat) (b : Bool) : evC T (l+1) f_is_integer [.bl b] = ret (.bl false) := s_is_integer l (.bl b) trivial
theorem ii_str (l : Nat) (x : Str) : evC T (l+1) f_is_integer [.str x] = ret (.bl false) := s_is_integer l (.str x) trivial
theorem ii_non (l : Nat) : evC T (l+1) f_is_integer [.non] = ret (.bl false) := s_is_integer l .non trivial
theorem bad1 (l : Nat) : evC T (l+2) f_is_golden [.non] = ret (.bl false) := by
  refine pure_of t_is_golden rfl fun m => ?_
  simp [F_is_golden, b_is_golden, isiW, cmpW, W.isD, W.eqv, ii_int, ii_bl, ii_str, ii_non]
theorem bad2 (l : Nat) : evC T (l+2) f_is_golden [.int 1] = ret (.bl false) := by
  refine pure_of t_is_golden rfl fun m => ?_
  simp [F_is_golden, b_is_golden, isiW, cmpW, W.isD, W.eqv, ii_int, ii_bl, ii_str, ii_non]
theorem bad3 (l : Nat) : evC T (l+2) f_is_golden [.tup [.int 1]] = ret (.bl false) := by
  refine pure_of t_is_golden rfl fun m => ?_
  simp [F_is_golden, b_is_golden, isiW, cmpW, W.isD, W.eqv, ii_int, ii_bl, ii_str, ii_non]
theorem bad4 (l : Nat) : evC T (l+2) f_is_golden [.tup [.int 1, .int 2, .int 3]] = ret (.bl false) := by
  refine pure_of t_is_golden rfl fun m => ?_
  simp [F_is_golden, b_is_golden, isiW, cmpW, W.isD, W.eqv, ii_int, ii_bl, ii_str, ii_non]
theorem bad5 (l : Nat) : evC T (l+2) f_is_golden [.lst [.int 1, .int 2]] = ret (.bl false) := by
  refine pure_of t_is_golden rfl fun m => ?_
  simp [F_is_golden, b_is_golden, isiW, cmpW, W.isD, W.eqv, ii_int, ii_bl, ii_str, ii_non]
theorem bad6 (l : Nat) : evC T (l+2) f_is_golden [.tup [.bl true, .int 1]] = ret (.bl false) := by
  refine pure_of t_is_golden rfl fun m => ?_
  simp [F_is_golden, b_is_golden, isiW, cmpW, W.isD, W.eqv, ii_int, ii_bl, ii_str, ii_non]
theorem bad7 (l : Nat) : evC T (l+2) f_is_golden [.tup [.int 1, .bl false]] = ret (.bl false) := by
  refine pure_of t_is_golden rfl fun m => ?_
  simp [F_is_golden, b_is_golden, isiW, cmpW, W.isD, W.eqv, ii_int, ii_bl, ii_str, ii_non]
theorem bad8 (l : Nat) : evC T (l+2) f_is_golden [.tup [.int 1, .str (PySem.Str.ofString "2")]] = ret (.bl false) := by
  refine pure_of t_is_golden rfl fun m => ?_
  simp [F_is_golden, b_is_golden, isiW, cmpW, W.isD, W.eqv, ii_int, ii_bl, ii_str, ii_non]
theorem bad9 (l : Nat) : evC T (l+2) f_is_golden [.tup [.int 1, .non]] = ret (.bl false) := by
  refine pure_of t_is_golden rfl fun m => ?_
  simp [F_is_golden, b_is_golden, isiW, cmpW, W.isD, W.eqv, ii_int, ii_bl, ii_str, ii_non]
theorem good (l : Nat) (i j : Int) : evC T (l+2) f_is_golden [.tup [.int i, .int j]] = ret (.bl true) := by
  refine pure_of t_is_golden rfl fun m => ?_
  simp [F_is_golden, b_is_golden, isiW, cmpW, W.isD, W.eqv, ii_int, ii_bl, ii_str, ii_non]
theorem law_ok (ns : List Int) (hn : ns.length ≤ 63) : ∃ m', evC T 8 f_law [.klst (ns.map .int)] [] = some (.ok (.bl true), m') := by
  obtain ⟨m0, e0, d0⟩ := s_draws 6 ns
  have hP := loop_inv (tg := .v 2) (b := evSs T (evC T 7) (loopB 2)) (xs := (List.range 8).map fun (k : Nat) => W.int (k : Int))
    (fun sg m => Dm ns [] m ∧ ∃ o2 o3 o4 o5 o6 o7 o8 o9 o10 o11, sg = [some (.klst (ns.map .int)), some (.ref 0), o2, o3, o4, o5, o6, o7, o8, o9, o10, o11])
    (by
      rintro x hx sg m ⟨hd, o2, o3, o4, o5, o6, o7, o8, o9, o10, o11, rfl⟩
      obtain ⟨q6, q7, q8, q9, q10, q11, m', h1, h2⟩ := turn_ok 2 ns hn (.klst (ns.map .int)) (some x) o3 o4 o5 o6 o7 o8 o9 o10 o11 m hd
      exact ⟨_, _, m', rfl, h1, h2, _, _, _, _, _, _, _, _, _, _, rfl⟩)
    [some (.klst (ns.map .int)), some (.ref 0), none, none, none, none, none, none, none, none, none, none] m0 ⟨d0, _, _, _, _, _, _, _, _, _, _, rfl⟩
  obtain ⟨sg1, m1, h1, d1, o2, o3, o4, o5, o6, o7, o8, o9, o10, o11, rfl⟩ := hP
  have hF := loop_inv (tg := .v 2) (b := evSs T (evC T 7) (loopB 4)) (xs := (List.range 20).map fun (k : Nat) => W.int (k : Int))
    (fun sg m => m = m1 ∧ ∃ o2 : Option W, ∃ a b : Int, 0 ≤ a ∧ 0 ≤ b ∧ 0 < a + b ∧ sg = [some (.klst (ns.map .int)), some (.ref 0), o2, some (.tup [.int a, .int b]), some (.tup [.int b, .int (a+b)]), o5, o6, o7, o8, o9, o10, o11])
    (by
      rintro x hx sg m ⟨rfl, o2, a, b, ha, hb, hab, rfl⟩
      have := fib_ok 2 (.klst (ns.map .int)) (some x) o5 o6 o7 o8 o9 o10 o11 a b ha hb hab m
      exact ⟨_, _, m, rfl, this, rfl, _, b, a + b, hb, by omega, by omega, rfl⟩)
    [some (.klst (ns.map .int)), some (.ref 0), o2, some (.tup [.int 1, .int 0]), some (.tup [.int 0, .int 1]), o5, o6, o7, o8, o9, o10, o11] m1 ⟨rfl, o2, 1, 0, by omega, by omega, by omega, rfl⟩
  obtain ⟨sg2, m2, h2, rfl, o2', a, b, _, _, _, rfl⟩ := hF
  have r8 : rngW 0 8 = some ((List.range 8).map fun (k : Nat) => W.int (k : Int)) := rng0 (n := 8) (by simp [szOk])
  have r20 : rngW 0 20 = some ((List.range 20).map fun (k : Nat) => W.int (k : Int)) := rng0 (n := 20) (by simp [szOk])
  have g0 : ∀ i : Int, mulOk i 0 = true := fun i => mulOk_r (by decide)
  have g1 : ∀ i : Int, mulOk i 1 = true := fun i => mulOk_r (by decide)
  have tg : evC T 7 f_times [.tup [.int 0, .int 1], .tup [.int 0, .int 1]] = ret (.tup [.int 1, .int 1]) := s_times 6 0 1 0 1 (g1 _) (g0 _) (g1 _) (g0 _)
  have sm : evC T 7 f__law_same [.lst [.tup [.int 0, .int 0], .tup [.int 1, .int 0], .tup [.int 0, .int 1], .tup [.int 1, .int 1]], .lst [.tup [.int 0, .int 0], .tup [.int 1, .int 0], .tup [.int 0, .int 1], .tup [.int 1, .int 1]]] = ret (.bl true) := by
    refine s_same 2 7 _ ⟨by simp [szOk], ?_⟩ (by omega)
    intro x hx
    simp at hx
    rcases hx with rfl | rfl | rfl | rfl <;> exact sg2 0 _ _
  have h3 : ∀ m, loopGo (.v 5) (evSs T (evC T 7) (loopB 5)) [.non, .int 1, .tup [.int 1], .tup [.int 1, .int 2, .int 3], .lst [.int 1, .int 2], .tup [.bl true, .int 1], .tup [.int 1, .bl false], .tup [.int 1, .str (PySem.Str.ofString "2")], .tup [.int 1, .non]] [some (.klst (ns.map .int)), some (.ref 0), o2', some (.tup [.int a, .int b]), some (.tup [.int b, .int (a+b)]), o5, o6, o7, o8, o9, o10, o11] m = some (.nx, [some (.klst (ns.map .int)), some (.ref 0), o2', some (.tup [.int a, .int b]), some (.tup [.int b, .int (a+b)]), some (.tup [.int 1, .non]), o6, o7, o8, o9, o10, o11], m) := by
    intro m
    simp [loopGo, asgT, loopB, b_law, bad1, bad2, bad3, bad4, bad5, bad6, bad7, bad8, bad9, cmpW]
  refine Exists.imp (fun mm hh => ?_) (endR_nil (k := false) (m' := m2) (w := .bl true) (sg := [some (.klst (ns.map .int)), some (.ref 0), o2', some (.tup [.int a, .int b]), some (.tup [.int b, .int (a+b)]), some (.tup [.int 1, .non]), o6, o7, o8, o9, o10, o11]) rfl)
  rw [call_eq t_law rfl]
  show endR false _ (evSs T (evC T 7) [_, _, .loop (.v 2) (.srng1 (.lit (.int 8))) (loopB 2), _, .loop (.v 2) (.srng1 (.lit (.int 20))) (loopB 4), .loop (.v 5) _ (loopB 5), _] _ _) = _
  simp [lft_at e0, asgT, asgTs, g_ZERO, g_ONE, g_GOLD, tg, sm, r8, r20, F_law, h1, h2, h3, good, binW, cmpW, hh]
end Lk
theorem PySem.Challenge.cw_mirrorwalk_k00_golden_numbers_holds : PySem.Challenge.rw_mirrorwalk_k00_golden_numbers.Holds := by
  exact Lk.holds 8 (by omega) Lk.law_ok
