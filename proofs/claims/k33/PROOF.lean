import PyProof.Rows.All
import Wide.All
import OpenK.AllK
import Wide.FinOn
import HandS.ForMost
import HandS.TupAny
import HandS.Style
import HandS.IsInst
import HandS.Wide
import HandS.Rev
import HandS.Deep
import HandS.TupMul
import HandS.SortInts
import KE.GoesMore
import HandS.Conv
import HandS.Zip
import HandS.Exc
import HandS.TryOnly
import HandS.TryMany
import HandS.ExcOwn
import HandS.WordsExc
import HandS.Defaults
import HandS.HeadHook1
import HandS.HeadHook2
import HandS.DictComp
import HandS.More
import HandS.SetFor
import HandS.Strs
import HandS.ExcIs
import KE.DataFind
import HandS.Head0
import HandS.Head1
import HandS.Head2
import HandS.HeadEnd
import PySem.Challenge.RW_mirrorwalk_k33_elements_beside_sets
set_option Elab.async false
set_option linter.all false
set_option maxRecDepth 100000
set_option maxHeartbeats 4000000
namespace WM
open PySem PySem.Spec PyProof.Rows L2

/-! ## values -/
inductive W where
  | non | bl (b : Bool) | int (i : Int) | str (x : Str)
  | tup (xs : List W) | lst (xs : List W)
  | klst (xs : List W)
  | ref (n : Nat)
  | dct (ks : List W) (vs : List W)
  | ins (c : Nat) (fs : List W)

/-- a living object -/
inductive HOb where
  | lst (xs : List W)
  | dK (kvs : List (Key × W))
  | dT (kvs : List (List Key × W))
  | ins (c : Nat) (fs : List W)
/-- what it holds -/
def HOb.its : HOb → List W
  | .lst xs => xs
  | .dK kvs => kvs.map (·.2)
  | .dT kvs => kvs.map (·.2)
  | .ins _ fs => fs

abbrev Hm := List HOb
def hget : Hm → Nat → Option HOb
  | [], _ => none
  | o :: t, n => if n = t.length then some o else hget t n
def hset : Hm → Nat → HOb → Hm
  | [], _, _ => []
  | o :: t, n, u => if n = t.length then u :: t else o :: hset t n u

structure Xc where
  c : Nat
  fs : List W

inductive Res (α : Type) where
  | ok (a : α)
  | exc (x : Xc)

abbrev M (α : Type) := Hm → Option (Res α × Hm)
def ret {α : Type} (a : α) : M α := fun m => some (.ok a, m)
def stuck {α : Type} : M α := fun _ => none
def throw {α : Type} (x : Xc) : M α := fun m => some (.exc x, m)
def bnd {α β : Type} (x : M α) (f : α → M β) : M β := fun m => match x m with
  | some (.ok a, m') => f a m'
  | some (.exc e, m') => some (.exc e, m')
  | none => none
def opt {α : Type} : Option α → M α
  | some a => ret a
  | none => stuck
@[simp] theorem bnd_ret {α β : Type} (a : α) (f : α → M β) : bnd (ret a) f = f a := Eq.trans rfl rfl
@[simp] theorem bnd_stuck {α β : Type} (f : α → M β) : bnd (stuck : M α) f = stuck := Eq.trans rfl rfl
@[simp] theorem opt_some {α : Type} (a : α) : opt (some a) = ret a := Eq.trans rfl rfl
@[simp] theorem opt_none {α : Type} : opt (none : Option α) = stuck := Eq.trans rfl rfl
theorem ret_at {α : Type} (a : α) (m : Hm) : ret a m = some (.ok a, m) := rfl
theorem bnd_at {α β : Type} {x : M α} {f : α → M β} {m m' : Hm} {a : α} (h : x m = some (.ok a, m')) : bnd x f m = f a m' := by
  unfold bnd; rw [h]
theorem bnd_assoc {α β γ : Type} (x : M α) (f : α → M β) (g : β → M γ) : bnd (bnd x f) g = bnd x fun a => bnd (f a) g := by
  funext m; unfold bnd
  cases x m with
  | none => rfl
  | some p => obtain ⟨r, m'⟩ := p; cases r <;> rfl

/-! ## the little language -/
inductive Bop where
  | add | sub | mul | fdiv | mod | pow | shl | shr | band | bor
  deriving DecidableEq
inductive Cop where
  | eq | ne | lt | le | gt | ge | is | isnot | isin | notin
  deriving DecidableEq
inductive Bi where
  | len | int | list | tuple | min2 | max2 | abs | sum | all | any | range1 | range2 | sorted
  deriving DecidableEq
inductive Tg where
  | v (i : Nat)
  | t (ts : List Tg)

inductive E where
  | lit (w : W)
  | var (i : Nat)
  | glob (g : Nat)
  | tup (es : List E)
  | lst (es : List E)
  | bin (o : Bop) (a b : E)
  | neg (a : E)
  | cmp (o : Cop) (a b : E)
  | cmp2 (o p : Cop) (a b c : E)
  | and (a b : E) | or (a b : E)
  | not (a : E)
  | ife (c a b : E)
  | idx (a b : E)
  | nop
  | slc (a lo hi : E)
  | rev (a : E)
  | call (f : Nat) (es : List E)
  | bi (b : Bi) (es : List E)
  | isi (a : E) (t : String)
  | comp (elt : E) (tg : Tg) (src cond : E) (own : List Nat)
  | compL (elt : E) (tg : Tg) (src cond : E) (own : List Nat)
  | sdc (elt : E) (tg : Tg) (src cond : E) (own : List Nat)
  | cat (a b : E)
  | sset (a : E)
  | trng (a : E)
  | lrng (a : E)
  | newl (es : List E)
  | newc (e : E)
  | isin (ng : Bool) (a b : E)
  | dsel (ks : List Int) (es : List E) (i : E)
  | cmp3 (o p q : Cop) (a b c d : E)
  | cut (a lo hi : E)
  | attr (c f : Nat) (a : E)
  | meth (c f : Nat) (o : E) (es : List E)
  | make (c f : Nat) (es : List E)
  | pop (a : E)
  | dnew (t : Bool)
  | din (t ng : Bool) (k d : E)
  | dget (t : Bool) (d k : E)
  | dget2 (t : Bool) (d k x : E)
  -- what is walked
  | srng1 (a : E) | srng2 (a b : E) | sseq (a : E) | senum (a : E) | szip (a b : E) | srev (a : E)

inductive S where
  | pass | brk | cnt
  | expr (e : E)
  | ret (e : E)
  | retN
  | set (tg : Tg) (e : E)
  | setc (i : Nat) (e : E)
  | par (tg : List Nat) (es : List E)
  | aug (i : Nat) (o : Bop) (e : E)
  | setI (o i e : E)
  | dead
  | setA (c f : Nat) (o e : E)
  | dput (t : Bool) (d k e : E)
  | app (o e : E)
  | rem (o e : E)
  | raise (c : Nat)
  | tryB (c : Nat) (body : List S) (i : Nat)
  | ife (c : E) (a b : List S)
  | loop (tg : Tg) (src : E) (body : List S)
  | loopL (tg : Tg) (src : E) (body : List S)
  | while (c : E) (body : List S)

/-! ## what values do -/
mutual
def W.dat : W → Option PyData
  | .non => some .none
  | .bl b => some (.bool b)
  | .int i => some (.int i)
  | .str x => some (.str x)
  | .tup xs => (W.dats xs).map .tuple
  | .lst xs => (W.dats xs).map .list
  | .klst _ => none
  | .ref _ => none
  | .dct _ _ => none
  | .ins _ _ => none
def W.dats : List W → Option (List PyData)
  | [] => some []
  | x :: xs => match W.dat x, W.dats xs with
    | some d, some ds => some (d :: ds)
    | _, _ => none
end
mutual
/-- == of two values (data alone) -/
def W.eqv : W → W → Bool
  | .non, .non => true
  | .bl a, .bl b => a == b
  | .bl a, .int j => (if a then 1 else 0) == j
  | .int i, .bl b => i == (if b then 1 else 0)
  | .int i, .int j => decide (i = j)
  | .str x, .str y => decide (x = y)
  | .lst xs, .lst ys => W.eqvs xs ys
  | .tup xs, .tup ys => W.eqvs xs ys
  | _, _ => false
def W.eqvs : List W → List W → Bool
  | [], [] => true
  | x :: xs, y :: ys => W.eqv x y && W.eqvs xs ys
  | _, _ => false
end
mutual
/-- data, of that depth at most -/
def W.isD : Nat → W → Bool
  | _, .non => true
  | _, .bl _ => true
  | _, .int _ => true
  | _, .str x => PyData.strOk x
  | n + 1, .tup xs => W.isDs n xs
  | n + 1, .lst xs => W.isDs n xs
  | 0, .tup _ => false
  | 0, .lst _ => false
  | _, .klst _ => false
  | _, .ref _ => false
  | _, .dct _ _ => false
  | _, .ins _ _ => false
def W.isDs : Nat → List W → Bool
  | _, [] => true
  | n, x :: xs => W.isD n x && W.isDs n xs
end
mutual
/-- all references are to objects below k -/
def W.rb (k : Nat) : W → Bool
  | .ref n => decide (n < k)
  | .tup xs => W.rbs k xs
  | .lst xs => W.rbs k xs
  | .klst xs => W.rbs k xs
  | .dct ks vs => W.rbs k ks && W.rbs k vs
  | .ins _ fs => W.rbs k fs
  | _ => true
def W.rbs (k : Nat) : List W → Bool
  | [] => true
  | x :: xs => W.rb k x && W.rbs k xs
end
def HOb.rb (k : Nat) (o : HOb) : Bool := W.rbs k o.its

def szOk (n : Nat) : Bool := decide (n ≤ 16777216)
def mulOk (i j : Int) : Bool := (decide (-(2 ^ 64) < i) && decide (i < 2 ^ 64)) || (decide (-(2 ^ 64) < j) && decide (j < 2 ^ 64)) || decide (i.natAbs.log2 + j.natAbs.log2 < 1000000)

def binW : Bop → W → W → Option W
  | .add, .int i, .int j => some (.int (i + j))
  | .add, .tup xs, .tup ys => if szOk (xs.length + ys.length) then some (.tup (xs ++ ys)) else none
  | .add, .lst xs, .lst ys => if szOk (xs.length + ys.length) then some (.lst (xs ++ ys)) else none
  | .add, .str x, .str y => if szOk (x.length + y.length) then some (.str (x ++ y)) else none
  | .sub, .int i, .int j => some (.int (i - j))
  | .mul, .int i, .int j => if mulOk i j then some (.int (i * j)) else none
  | .mul, .lst xs, .int k => if decide (0 ≤ k) && decide (k ≤ 16777216) && szOk (xs.length * k.toNat) then some (.lst (List.replicate k.toNat xs).flatten) else none
  | .mul, .tup xs, .int k => if decide (2 ≤ k) && decide (k ≤ 1000) && decide (xs ≠ []) && decide (xs.length ≤ 1000) then some (.tup (List.replicate k.toNat xs).flatten) else none
  | .fdiv, .int i, .int j => if decide (0 < j) && (decide (j < 1073741824) || decide (j.natAbs.log2 < 9000)) then some (.int (i / j)) else none
  | .mod, .int i, .int j => if decide (0 < j) then some (.int (i % j)) else none
  | .pow, .int i, .int j => if decide (0 ≤ j) && decide (j ≤ 1000000) && decide (i.natAbs < 2 ^ 64) then some (.int (i ^ j.toNat)) else none
  | .shl, .int i, .int j => if decide (0 ≤ j) && decide (j ≤ 1000000) && decide (i.natAbs < 2 ^ 64) then some (.int (i * 2 ^ j.toNat)) else none
  | .shr, .int i, .int j => if decide (0 ≤ j) then some (.int (i / 2 ^ j.toNat)) else none
  | .band, .int i, .int j => some (.int (Builtin.bitAnd i j))
  | .bor, .int i, .int j => some (.int (Builtin.bitOr i j))
  | _, _, _ => none

def isScal : W → Bool
  | .non => true | .bl _ => true | .int _ => true | .str _ => true | _ => false

def isNon : W → Bool
  | .non => true
  | _ => false
def cmpW : Cop → W → W → Option W
  | .eq, a, b => if W.isD 60 a && W.isD 60 b then some (.bl (W.eqv a b)) else none
  | .ne, a, b => if W.isD 60 a && W.isD 60 b then some (.bl (!W.eqv a b)) else none
  | .lt, .int i, .int j => some (.bl (decide (i < j)))
  | .le, .int i, .int j => some (.bl (decide (i ≤ j)))
  | .gt, .int i, .int j => some (.bl (decide (j < i)))
  | .ge, .int i, .int j => some (.bl (decide (j ≤ i)))
  | .is, a, .non => some (.bl (isNon a))
  | .isnot, a, .non => some (.bl (!isNon a))
  | .is, .bl a, .bl b => some (.bl (decide (a = b)))
  | .isnot, .bl a, .bl b => some (.bl (!decide (a = b)))
  | _, _, _ => none

/-- the items of a list or a tuple -/
def seqW (m : Hm) : W → Option (List W)
  | .tup xs => some xs
  | .lst xs => some xs
  | .klst xs => some xs
  | .ref n => match hget m n with
    | some (.lst xs) => some xs
    | _ => none
  | _ => none
def seqM (w : W) : M (List W) := fun m => match seqW m w with
  | some xs => some (.ok xs, m)
  | none => none
@[simp] theorem seqM_tup (xs : List W) : seqM (.tup xs) = ret xs := Eq.trans rfl rfl
@[simp] theorem seqM_klst (xs : List W) : seqM (.klst xs) = ret xs := Eq.trans rfl rfl
@[simp] theorem seqM_lst (xs : List W) : seqM (.lst xs) = ret xs := Eq.trans rfl rfl

def idxW (xs : List W) : W → Option W
  | .int i => atI xs i
  | _ => none
def idxM (a b : W) : M W := bnd (seqM a) fun xs => opt (idxW xs b)

def cutW (xs : List W) (lo hi : Option Int) : List W := (xs.drop (HT.sIx xs.length 0 lo)).take (HT.sIx xs.length xs.length hi - HT.sIx xs.length 0 lo)

def intsW : List W → Option (List Int)
  | [] => some []
  | .int i :: r => (intsW r).map (i :: ·)
  | _ :: _ => none
def blsW : List W → Option (List Bool)
  | [] => some []
  | .bl i :: r => (blsW r).map (i :: ·)
  | _ :: _ => none

def rngW (lo hi : Int) : Option (List W) :=
  if decide (-(2 ^ 62) ≤ lo) && decide (lo < 2 ^ 62) && decide (-(2 ^ 62) ≤ hi) && decide (hi < 2 ^ 62) && szOk (hi - lo).toNat then
    some ((List.range (hi - lo).toNat).map fun (k : Nat) => W.int (lo + (k : Int))) else none

def rng0M : W → M (List W)
  | .int i => opt (rngW 0 i)
  | _ => stuck
/-- {k: w, ..}[i] -/
def dselW : List Int → List W → W → Option W
  | k :: ks, w :: ws, .int i => if k = i then some w else dselW ks ws (.int i)
  | _, _, _ => none
def insI (a : Int) : List Int → List Int
  | [] => [a]
  | b :: r => if a ≤ b then a :: b :: r else b :: insI a r
def sortI : List Int → List Int
  | [] => []
  | a :: r => insI a (sortI r)
/-- tuples of ints -/
def wordsW : List W → Option (List (List Int))
  | [] => some []
  | .tup xs :: r => match intsW xs, wordsW r with
    | some i, some is => some (i :: is)
    | _, _ => none
  | _ :: _ => none
/-- one tuple before another one -/
def lexL : List Int → List Int → Bool
  | [], [] => false
  | [], _ :: _ => true
  | _ :: _, [] => false
  | x :: xs, y :: ys => if x = y then lexL xs ys else decide (x < y)
def insL (a : List Int) : List (List Int) → List (List Int)
  | [] => [a]
  | b :: r => if lexL b a then b :: insL a r else a :: b :: r
def sortL : List (List Int) → List (List Int)
  | [] => []
  | a :: r => insL a (sortL r)
def ituW (w : List Int) : W := .tup (w.map .int)
/-- each int once, as they come -/
def dedI (is : List Int) : List Int := is.foldl (fun acc i => if i ∈ acc then acc else acc ++ [i]) []
/-- sorted keys of a dict whose keys are ints -/
def sdcW (ys : List W) : Option W := match intsW ys with
  | some is => if (dedI is).length < 64 then some (.lst ((sortI (dedI is)).map .int)) else none
  | none => none
/-- the members of a tuple of ints, ascending, each once -/
def ssetW (x : W) : Option W := match x with
  | .tup xs => match intsW xs with
    | some is => if is.length < 64 then some (.lst ((sortI (dedI is)).map .int)) else none
    | none => none
  | _ => none
/-- a list, living or not -/
def lstS (w : W) : M (List W) := fun m => match w with
  | .lst xs => some (.ok xs, m)
  | .ref n => match hget m n with
    | some (.lst xs) => some (.ok xs, m)
    | _ => none
  | _ => none
/-- two lists, one behind the other, as a list that does not live -/
def catM (x y : W) : M W := bnd (lstS x) fun xs => bnd (lstS y) fun ys => if szOk (xs.length + ys.length) then ret (.lst (xs ++ ys)) else stuck
def intG : W → M W
  | .int i => ret (.int i)
  | _ => stuck
def sortM (xs : List W) : M W := match intsW xs with
  | some is => ret (.lst ((sortI is).map .int))
  | none => match wordsW xs with
    | some ws => if decide (xs.length < 2) || ws.all (fun w => !w.isEmpty) then ret (.lst ((sortL ws).map ituW)) else stuck
    | none => stuck
def biM : Bi → List W → M W
  | .len, [.str x] => if szOk x.length then ret (.int x.length) else stuck
  | .len, [a] => bnd (seqM a) fun xs => ret (.int xs.length)
  | .int, [.int i] => ret (.int i)
  | .int, [.bl b] => ret (.int (if b then 1 else 0))
  | .list, [a] => bnd (seqM a) fun xs => ret (.lst xs)
  | .tuple, [a] => bnd (seqM a) fun xs => ret (.tup xs)
  | .min2, [.int i, .int j] => ret (.int (if j < i then j else i))
  | .max2, [.int i, .int j] => ret (.int (if j > i then j else i))
  | .abs, [.int i] => ret (.int (if i < 0 then -i else i))
  | .sum, [.lst xs] => bnd (opt (intsW xs)) fun is => ret (.int is.sum)
  | .all, [.lst xs] => bnd (opt (blsW xs)) fun is => ret (.bl (is.all id))
  | .any, [.lst xs] => bnd (opt (blsW xs)) fun is => ret (.bl (is.any id))
  | .sorted, [a] => bnd (seqM a) sortM
  | _, _ => stuck

/-- enumerate, zip: each pair a new tuple -/
def enW (xs : List W) : List W := xs.mapIdx fun i x => W.tup [.int (i : Nat), x]
def ziW (xs ys : List W) : List W := List.zipWith (fun x y => W.tup [x, y]) xs ys
/-- x in y: items that are data (a list), or flat (a tuple) -/
def inW (t : Bool) (x : W) (ys : List W) : Option Bool :=
  if (if t then isScal x && ys.all isScal else W.isD 58 x && W.isDs 57 ys) then some (ys.any fun y => W.eqv y x) else none
def isTupW : W → Bool
  | .tup _ => true
  | _ => false
/-- the class names that a value's isinstance says yes to (bool is an int) -/
def isiW (t : String) : W → Option Bool
  | .non => if t = "int" ∨ t = "bool" ∨ t = "str" ∨ t = "tuple" ∨ t = "list" ∨ t = "dict" then some false else none
  | .bl _ => if t = "int" ∨ t = "bool" then some true else if t = "str" ∨ t = "tuple" ∨ t = "list" ∨ t = "dict" then some false else none
  | .int _ => if t = "int" then some true else if t = "bool" ∨ t = "str" ∨ t = "tuple" ∨ t = "list" ∨ t = "dict" then some false else none
  | .str _ => if t = "str" then some true else if t = "int" ∨ t = "bool" ∨ t = "tuple" ∨ t = "list" ∨ t = "dict" then some false else none
  | .tup _ => if t = "tuple" then some true else if t = "int" ∨ t = "bool" ∨ t = "str" ∨ t = "list" ∨ t = "dict" then some false else none
  | .lst _ => if t = "list" then some true else if t = "int" ∨ t = "bool" ∨ t = "str" ∨ t = "tuple" ∨ t = "dict" then some false else none
  | _ => none

/-! ## slots, targets -/
abbrev Sg := List (Option W)
mutual
def asgT : Tg → W → Sg → Option Sg
  | .v i, w, sg => some (sg.set i (some w))
  | .t ts, .tup ws, sg => asgTs ts ws sg
  | .t _, _, _ => none
def asgTs : List Tg → List W → Sg → Option Sg
  | [], [], sg => some sg
  | t :: ts, w :: ws, sg => match asgT t w sg with
    | some sg' => asgTs ts ws sg'
    | none => none
  | _, _, _ => none
end
def setMany : List Nat → List W → Sg → Option Sg
  | [], [], sg => some sg
  | i :: is, w :: ws, sg => setMany is ws (sg.set i (some w))
  | _, _, _ => none
def wipeW (sg : Sg) : List Nat → Sg
  | [] => sg
  | v :: vs => (wipeW sg vs).set v none

/-! ## running -/
abbrev Calls := Nat → List W → M W
structure Fn where
  np : Nat
  ns : Nat
  body : List S
  keep : Bool := false
structure Tab where
  glob : Nat → Option W
  fn : Nat → Option Fn

/-- one item after the other: elements that pass the test -/
def compGo (tg : Tg) (sg : Sg) (tst : Sg → M W) (elt : Sg → M W) : List W → M (List W)
  | [] => ret []
  | x :: xs => bnd (opt (asgT tg x sg)) fun sg' => bnd (tst sg') fun b => match b with
    | .bl true => bnd (elt sg') fun y => bnd (compGo tg sg tst elt xs) fun ys => ret (y :: ys)
    | .bl false => compGo tg sg tst elt xs
    | _ => stuck
/-- what leaves a block without being an exception -/
def noExc {α : Type} (x : M α) : M α := fun m => match x m with
  | some (.ok a, m') => some (.ok a, m')
  | _ => none
@[simp] theorem noExc_ret {α : Type} (a : α) : noExc (ret a) = ret a := Eq.trans rfl rfl
def alloc (o : HOb) : M W := fun m => some (.ok (.ref m.length), o :: m)

/-- a part of a slice -/
def partM (e : E) (x : M W) : M (Option Int) := match e with
  | .nop => ret none
  | _ => bnd x fun w => match w with
    | .int i => ret (some i)
    | _ => stuck
/-! ## instances and dicts -/
def popM (x : W) : M W := match x with
  | .ref n => fun m => match hget m n with
    | some (.lst xs) => match xs[xs.length - 1]? with
      | some y => some (.ok y, hset m n (.lst xs.dropLast))
      | none => none
    | _ => none
  | _ => stuck
def attrM (c i : Nat) : W → M W
  | .ref n => fun m => match hget m n with
    | some (.ins c' fs) => if c' = c then (match fs[i]? with
      | some x => some (.ok x, m)
      | none => none) else none
    | _ => none
  | _ => stuck
def insM (c : Nat) : W → M Unit
  | .ref n => fun m => match hget m n with
    | some (.ins c' _) => if c' = c then some (.ok (), m) else none
    | _ => none
  | _ => stuck
def putA (fs : List W) (i : Nat) (y : W) : Option (List W) := if i < fs.length then some (fs.set i y) else if i = fs.length then some (fs ++ [y]) else none
def setAM (c i : Nat) (x y : W) : M W := match x with
  | .ref n => fun m => match hget m n with
    | some (.ins c' fs) => if c' = c then (match putA fs i y with
      | some gs => if gs.length < 1000 then some (.ok .non, hset m n (.ins c gs)) else none
      | none => none) else none
    | _ => none
  | _ => stuck
def keyW : W → Option Key
  | .int i => some (.inl i)
  | .str x => some (.inr x)
  | _ => none
def keysW : List W → Option (List Key)
  | [] => some []
  | w :: r => match keyW w, keysW r with
    | some k, some ks => some (k :: ks)
    | _, _ => none
def tupKey : W → Option (List Key)
  | .tup ws => keysW ws
  | _ => none
def gvW {κ : Type} [DecidableEq κ] : List (κ × W) → κ → Option W
  | [], _ => none
  | (q, w) :: r, k => if q = k then some w else gvW r k
def putW {κ : Type} [DecidableEq κ] (kvs : List (κ × W)) (k : κ) (w : W) : List (κ × W) :=
  if (kvs.any fun kv => decide (kv.1 = k)) = true then kvs.map (fun kv => if kv.1 = k then (kv.1, w) else kv) else kvs ++ [(k, w)]
def isDM : W → M Unit
  | .ref n => fun m => match hget m n with
    | some (.dK _) => some (.ok (), m)
    | some (.dT _) => some (.ok (), m)
    | _ => none
  | _ => stuck
def dgetM (t : Bool) (d k : W) : M (Option W) := match d with
  | .ref n => fun m => match hget m n with
    | some (.dK kvs) => if t then none else match keyW k with
      | some q => some (.ok (gvW kvs q), m)
      | none => none
    | some (.dT kvs) => if t then (match tupKey k with
      | some q => some (.ok (gvW kvs q), m)
      | none => none) else none
    | _ => none
  | _ => stuck
def dputM (t : Bool) (d k y : W) : M W := match d with
  | .ref n => fun m => match hget m n with
    | some (.dK kvs) => if t then none else match keyW k with
      | some q => if szOk (kvs.length + 1) then some (.ok .non, hset m n (.dK (putW kvs q y))) else none
      | none => none
    | some (.dT kvs) => if t then (match tupKey k with
      | some q => if szOk (kvs.length + 1) then some (.ok .non, hset m n (.dT (putW kvs q y))) else none
      | none => none) else none
    | _ => none
  | _ => stuck
open Classical in
/-- a test that looks first whether a living list stands as it stood -/
noncomputable def guardL (n : Nat) (xs : List W) (tst : Sg → M W) (sg : Sg) : M W := fun m => if hget m n = some (.lst xs) then tst sg m else none
open Classical in
noncomputable def compD (tg : Tg) (sg : Sg) (tst elt : Sg → M W) (n : Nat) : M W := fun m => match hget m n with
  | some (.lst xs) => match compGo tg sg (guardL n xs tst) elt xs m with
    | some (.ok ys, m') => if hget m' n = some (.lst xs) then some (.ok (.lst ys), m') else none
    | _ => none
  | _ => none
/-- a comprehension over a tuple or a list, living or not -/
noncomputable def compW (tg : Tg) (sg : Sg) (tst elt : Sg → M W) (w : W) : M W := match w with
  | .tup xs => bnd (noExc (compGo tg sg tst elt xs)) fun ys => ret (.lst ys)
  | .lst xs => bnd (noExc (compGo tg sg tst elt xs)) fun ys => ret (.lst ys)
  | .klst xs => bnd (noExc (compGo tg sg tst elt xs)) fun ys => ret (.lst ys)
  | .ref n => compD tg sg tst elt n
  | _ => stuck
mutual
noncomputable def evE (T : Tab) (C : Calls) : E → Sg → M W
  | .lit w, _ => ret w
  | .var i, sg => match sg[i]? with
    | some (some w) => ret w
    | _ => stuck
  | .glob g, _ => opt (T.glob g)
  | .tup es, sg => bnd (evEs T C es sg) fun ws => ret (.tup ws)
  | .lst es, sg => bnd (evEs T C es sg) fun ws => ret (.lst ws)
  | .bin o a b, sg => bnd (evE T C a sg) fun x => bnd (evE T C b sg) fun y => opt (binW o x y)
  | .neg a, sg => bnd (evE T C a sg) fun x => match x with
    | .int i => ret (.int (-i))
    | _ => stuck
  | .cmp o a b, sg => bnd (evE T C a sg) fun x => bnd (evE T C b sg) fun y => opt (cmpW o x y)
  | .cmp2 o p a b c, sg => bnd (evE T C a sg) fun x => bnd (evE T C b sg) fun y => bnd (opt (cmpW o x y)) fun z => match z with
    | .bl true => bnd (evE T C c sg) fun u => opt (cmpW p y u)
    | .bl false => ret (.bl false)
    | _ => stuck
  | .and a b, sg => bnd (evE T C a sg) fun x => match x with
    | .bl true => evE T C b sg
    | .bl false => ret (.bl false)
    | _ => stuck
  | .or a b, sg => bnd (evE T C a sg) fun x => match x with
    | .bl true => ret (.bl true)
    | .bl false => evE T C b sg
    | _ => stuck
  | .not a, sg => bnd (evE T C a sg) fun x => match x with
    | .bl b => ret (.bl (!b))
    | _ => stuck
  | .ife c a b, sg => bnd (evE T C c sg) fun x => match x with
    | .bl true => evE T C a sg
    | .bl false => evE T C b sg
    | _ => stuck
  | .idx a b, sg => bnd (evE T C a sg) fun x => bnd (evE T C b sg) fun y => idxM x y
  | .nop, _ => stuck
  | .slc a lo hi, sg => bnd (evE T C a sg) fun x => bnd (partM lo (evE T C lo sg)) fun l => bnd (partM hi (evE T C hi sg)) fun h => match x with
    | .tup xs => ret (.tup (cutW xs l h))
    | .lst xs => ret (.lst (cutW xs l h))
    | .ref _ => bnd (seqM x) fun xs => ret (.lst (cutW xs l h))
    | _ => stuck
  | .rev a, sg => bnd (evE T C a sg) fun x => match x with
    | .tup xs => ret (.tup xs.reverse)
    | .lst xs => ret (.lst xs.reverse)
    | .ref _ => bnd (seqM x) fun xs => ret (.lst xs.reverse)
    | _ => stuck
  | .call f es, sg => bnd (evEs T C es sg) fun ws => C f ws
  | .bi b es, sg => bnd (evEs T C es sg) fun ws => biM b ws
  | .isi a t, sg => bnd (evE T C a sg) fun x => bnd (opt (isiW t x)) fun b => ret (.bl b)
  | .comp elt tg src cond own, sg => bnd (evI T C src sg) fun xs =>
      bnd (noExc (compGo tg (wipeW sg own) (evE T C cond) (evE T C elt) xs)) fun ys => ret (.lst ys)
  | .sset a, sg => bnd (evE T C a sg) fun x => opt (ssetW x)
  | .trng a, sg => bnd (evE T C a sg) fun x => bnd (rng0M x) fun xs => ret (.tup xs)
  | .lrng a, sg => bnd (evE T C a sg) fun x => bnd (rng0M x) fun xs => ret (.lst xs)
  | .cat a b, sg => bnd (evE T C a sg) fun x => bnd (evE T C b sg) fun y => catM x y
  | .sdc elt tg src cond own, sg => bnd (evI T C src sg) fun xs =>
      bnd (noExc (compGo tg (wipeW sg own) (evE T C cond) (fun s => bnd (evE T C elt s) intG) xs)) fun ys => opt (sdcW ys)
  | .compL elt tg src cond own, sg => bnd (evE T C src sg) fun w => compW tg (wipeW sg own) (evE T C cond) (evE T C elt) w
  | .newl es, sg => bnd (evEs T C es sg) fun ws => alloc (.lst ws)
  | .newc e, sg => bnd (evE T C e sg) fun w => match w with
    | .lst xs => alloc (.lst xs)
    | _ => stuck
  | .isin ng a b, sg => bnd (evE T C a sg) fun x => bnd (evE T C b sg) fun y => bnd (seqM y) fun ys => bnd (opt (inW (isTupW y) x ys)) fun r => ret (.bl (if ng then !r else r))
  | .dsel ks es i, sg => bnd (noExc (evEs T C es sg)) fun ws => bnd (noExc (evE T C i sg)) fun k => opt (dselW ks ws k)
  | .cmp3 o p q a b c d, sg => bnd (evE T C a sg) fun x => bnd (evE T C b sg) fun y => bnd (opt (cmpW o x y)) fun z => match z with
    | .bl true => bnd (evE T C c sg) fun u => bnd (opt (cmpW p y u)) fun z2 => match z2 with
      | .bl true => bnd (evE T C d sg) fun v => opt (cmpW q u v)
      | .bl false => ret (.bl false)
      | _ => stuck
    | .bl false => ret (.bl false)
    | _ => stuck
  | .cut a lo hi, sg => bnd (evE T C a sg) fun x => bnd (partM lo (evE T C lo sg)) fun l => bnd (partM hi (evE T C hi sg)) fun h => match x with
    | .tup xs => if decide ((cutW xs l h).length < xs.length) then ret (.tup (cutW xs l h)) else stuck
    | _ => stuck
  | .attr c f a, sg => bnd (evE T C a sg) fun x => attrM c f x
  | .meth c f o es, sg => bnd (evE T C o sg) fun x => bnd (insM c x) fun _ => bnd (evEs T C es sg) fun ws => noExc (C f (x :: ws))
  | .make c f es, sg => bnd (evEs T C es sg) fun ws => bnd (alloc (.ins c [])) fun x => bnd (noExc (C f (x :: ws))) fun r => match r with
    | .non => ret x
    | _ => stuck
  | .pop a, sg => bnd (evE T C a sg) popM
  | .dnew t, _ => alloc (if t then .dT [] else .dK [])
  | .din t ng k d, sg => bnd (evE T C k sg) fun y => bnd (evE T C d sg) fun x => bnd (dgetM t x y) fun o => ret (.bl (if ng then !o.isSome else o.isSome))
  | .dget t d k, sg => bnd (evE T C d sg) fun x => bnd (evE T C k sg) fun y => bnd (dgetM t x y) fun o => opt o
  | .dget2 t d k z, sg => bnd (evE T C d sg) fun x => bnd (isDM x) fun _ => bnd (evE T C k sg) fun y => bnd (evE T C z sg) fun u => bnd (dgetM t x y) fun o => ret (o.getD u)
  | .srng1 _, _ => stuck
  | .srng2 _ _, _ => stuck
  | .sseq _, _ => stuck
  | .senum _, _ => stuck
  | .szip _ _, _ => stuck
  | .srev _, _ => stuck
noncomputable def evEs (T : Tab) (C : Calls) : List E → Sg → M (List W)
  | [], _ => ret []
  | e :: es, sg => bnd (evE T C e sg) fun w => bnd (evEs T C es sg) fun ws => ret (w :: ws)
/-- what a for walks -/
noncomputable def evI (T : Tab) (C : Calls) : E → Sg → M (List W)
  | .srng1 a, sg => bnd (evE T C a sg) fun w => match w with
    | .int i => opt (rngW 0 i)
    | _ => stuck
  | .srng2 a b, sg => bnd (evE T C a sg) fun x => bnd (evE T C b sg) fun y => match x, y with
    | .int i, .int j => opt (rngW i j)
    | _, _ => stuck
  | .sseq a, sg => bnd (evE T C a sg) fun x => match x with
    | .tup xs => ret xs
    | .lst xs => ret xs
    | .klst xs => ret xs
    | _ => stuck
  | .senum a, sg => bnd (evE T C a sg) fun x => match x with
    | .tup xs => ret (enW xs)
    | .lst xs => ret (enW xs)
    | .klst xs => ret (enW xs)
    | _ => stuck
  | .szip a b, sg => bnd (evE T C a sg) fun x => bnd (evE T C b sg) fun y => match x, y with
    | .tup xs, .tup ys => ret (ziW xs ys)
    | .lst xs, .lst ys => ret (ziW xs ys)
    | _, _ => stuck
  | .srev a, sg => bnd (evE T C a sg) fun x => match x with
    | .tup xs => ret xs.reverse
    | .lst xs => ret xs.reverse
    | .klst xs => ret xs.reverse
    | _ => stuck
  | _, _ => stuck
end
/-! ## statements -/
inductive SO where
  | nx | brk | cnt
  | rt (w : W)
  | ex (x : Xc)
abbrev MS := Hm → Option (SO × Sg × Hm)
/-- an expression's outcome, in a statement -/
def lft {α : Type} (x : M α) (sg : Sg) (k : α → MS) : MS := fun m => match x m with
  | some (.ok a, m') => k a m'
  | some (.exc e, m') => some (.ex e, sg, m')
  | none => none
@[simp] theorem lft_ret {α : Type} (a : α) (sg : Sg) (k : α → MS) : lft (ret a) sg k = k a := Eq.trans rfl rfl
@[simp] theorem lft_stuck {α : Type} (sg : Sg) (k : α → MS) : lft (stuck : M α) sg k = fun _ => none := Eq.trans rfl rfl
theorem lft_at {α : Type} {x : M α} {sg : Sg} {k : α → MS} {m m' : Hm} {a : α} (h : x m = some (.ok a, m')) : lft x sg k m = k a m' := by
  unfold lft; rw [h]
/-- behind a statement -/
def thenS (x : Option (SO × Sg × Hm)) (k : Sg → MS) : Option (SO × Sg × Hm) := match x with
  | some (.nx, sg, m) => k sg m
  | some (.brk, sg, m) => some (.brk, sg, m)
  | some (.cnt, sg, m) => some (.cnt, sg, m)
  | some (.rt w, sg, m) => some (.rt w, sg, m)
  | some (.ex x, sg, m) => some (.ex x, sg, m)
  | none => none
/-- behind a loop's turn -/
def turnS (x : Option (SO × Sg × Hm)) (k : Sg → MS) : Option (SO × Sg × Hm) := match x with
  | some (.nx, sg, m) => k sg m
  | some (.cnt, sg, m) => k sg m
  | some (.brk, sg, m) => some (.nx, sg, m)
  | some (.rt w, sg, m) => some (.rt w, sg, m)
  | some (.ex x, sg, m) => some (.ex x, sg, m)
  | none => none
@[simp] theorem thenS_nx (sg : Sg) (m : Hm) (k : Sg → MS) : thenS (some (.nx, sg, m)) k = k sg m := Eq.trans rfl rfl
@[simp] theorem thenS_rt (w : W) (sg : Sg) (m : Hm) (k : Sg → MS) : thenS (some (.rt w, sg, m)) k = some (.rt w, sg, m) := Eq.trans rfl rfl
@[simp] theorem thenS_brk (sg : Sg) (m : Hm) (k : Sg → MS) : thenS (some (.brk, sg, m)) k = some (.brk, sg, m) := Eq.trans rfl rfl
@[simp] theorem thenS_cnt (sg : Sg) (m : Hm) (k : Sg → MS) : thenS (some (.cnt, sg, m)) k = some (.cnt, sg, m) := Eq.trans rfl rfl
@[simp] theorem turnS_nx (sg : Sg) (m : Hm) (k : Sg → MS) : turnS (some (.nx, sg, m)) k = k sg m := Eq.trans rfl rfl
@[simp] theorem turnS_cnt (sg : Sg) (m : Hm) (k : Sg → MS) : turnS (some (.cnt, sg, m)) k = k sg m := Eq.trans rfl rfl
@[simp] theorem turnS_brk (sg : Sg) (m : Hm) (k : Sg → MS) : turnS (some (.brk, sg, m)) k = some (.nx, sg, m) := Eq.trans rfl rfl
@[simp] theorem turnS_rt (w : W) (sg : Sg) (m : Hm) (k : Sg → MS) : turnS (some (.rt w, sg, m)) k = some (.rt w, sg, m) := Eq.trans rfl rfl

def loopGo (tg : Tg) (body : Sg → MS) : List W → Sg → MS
  | [], sg => fun m => some (.nx, sg, m)
  | x :: xs, sg => fun m => match asgT tg x sg with
    | none => none
    | some sg' => turnS (body sg' m) (loopGo tg body xs)
/-- a walk over a living list: as it stands at each turn -/
def loopF (tg : Tg) (body : Sg → MS) (n : Nat) : Nat → Nat → Sg → MS
  | 0, _, _ => fun _ => none
  | k + 1, i, sg => fun m => match hget m n with
    | some (.lst xs) => match xs[i]? with
      | none => some (.nx, sg, m)
      | some x => match asgT tg x sg with
        | none => none
        | some sg' => turnS (body sg' m) (loopF tg body n k (i + 1))
    | _ => none
open Classical in
noncomputable def loopD (tg : Tg) (body : Sg → MS) (n : Nat) (sg : Sg) : MS := fun m =>
  if h : ∃ k, ∃ r, loopF tg body n k 0 sg m = some r then loopF tg body n h.choose 0 sg m else none
/-- a walk over a tuple or a list, living or not -/
noncomputable def loopW (tg : Tg) (body : Sg → MS) (w : W) (sg : Sg) : MS := match w with
  | .tup xs => loopGo tg body xs sg
  | .lst xs => loopGo tg body xs sg
  | .klst xs => loopGo tg body xs sg
  | .ref n => loopD tg body n sg
  | _ => fun _ => none
def whileF (c : Sg → M W) (body : Sg → MS) : Nat → Sg → MS
  | 0, _ => fun _ => none
  | n + 1, sg => lft (c sg) sg fun w => match w with
    | .bl true => fun m => turnS (body sg m) (whileF c body n)
    | .bl false => fun m => some (.nx, sg, m)
    | _ => fun _ => none
open Classical in
noncomputable def whileL (c : Sg → M W) (body : Sg → MS) (sg : Sg) : MS := fun m =>
  if h : ∃ n, ∃ r, whileF c body n sg m = some r then whileF c body h.choose sg m else none

/-- it is a living list -/
def lstM (x : W) : M Unit := match x with
  | .ref n => fun m => match hget m n with
    | some (.lst _) => some (.ok (), m)
    | _ => none
  | _ => stuck
def appM (x y : W) : M W := match x with
  | .ref n => fun m => match hget m n with
    | some (.lst xs) => if szOk (xs.length + 1) then some (.ok .non, hset m n (.lst (xs ++ [y]))) else none
    | _ => none
  | _ => stuck
/-- the first equal one goes -/
def remW (y : W) (xs : List W) : Option (List W) := if W.isD 58 y && W.isDs 57 xs then (match xs.findIdx? (fun z => W.eqv z y) with
  | some j => some (xs.eraseIdx j)
  | none => none) else none
def remM (x y : W) : M W := match x with
  | .ref n => fun m => match hget m n with
    | some (.lst xs) => match remW y xs with
      | some zs => some (.ok .non, hset m n (.lst zs))
      | none => none
    | _ => none
  | _ => stuck
/-- an own error of the class c is caught -/
def catchS (c i : Nat) (r : Option (SO × Sg × Hm)) : Option (SO × Sg × Hm) := match r with
  | some (.ex x, sg, m) => if x.c = c ∧ x.fs.length = 0 ∧ i < sg.length then some (.nx, sg.set i none, m) else none
  | some (.nx, sg, m) => some (.nx, sg, m)
  | some (.brk, sg, m) => some (.brk, sg, m)
  | some (.cnt, sg, m) => some (.cnt, sg, m)
  | some (.rt w, sg, m) => some (.rt w, sg, m)
  | none => none
def setIM (o i y : W) : M W := match o, i with
  | .ref n, .int k => fun m => match hget m n with
    | some (.lst xs) => match ixN xs.length k with
      | some j => some (.ok .non, hset m n (.lst (xs.set j y)))
      | none => none
    | _ => none
  | _, _ => stuck
def augW (o : Bop) (x y : W) : Option W := match o, x, y with
  | .add, .int i, .int j => some (.int (i + j))
  | .sub, .int i, .int j => some (.int (i - j))
  | _, _, _ => none

mutual
noncomputable def evS (T : Tab) (C : Calls) : S → Sg → MS
  | .pass, sg => fun m => some (.nx, sg, m)
  | .brk, sg => fun m => some (.brk, sg, m)
  | .cnt, sg => fun m => some (.cnt, sg, m)
  | .expr e, sg => lft (evE T C e sg) sg fun _ m => some (.nx, sg, m)
  | .ret e, sg => lft (evE T C e sg) sg fun w m => some (.rt w, sg, m)
  | .retN, sg => fun m => some (.rt .non, sg, m)
  | .dead, _ => fun _ => none
  | .setA c f o e, sg => lft (bnd (evE T C e sg) fun y => bnd (evE T C o sg) fun x => setAM c f x y) sg fun _ m => some (.nx, sg, m)
  | .dput t d k e, sg => lft (bnd (evE T C e sg) fun y => bnd (evE T C d sg) fun x => bnd (evE T C k sg) fun q => dputM t x q y) sg fun _ m => some (.nx, sg, m)
  | .set tg e, sg => lft (evE T C e sg) sg fun w => match asgT tg w sg with
    | some sg' => fun m => some (.nx, sg', m)
    | none => fun _ => none
  | .setc i e, sg => lft (evE T C e sg) sg fun w m => some (.nx, sg.set i (some w), m)
  | .par is es, sg => lft (evEs T C es sg) sg fun ws => match setMany is ws sg with
    | some sg' => fun m => some (.nx, sg', m)
    | none => fun _ => none
  | .aug i o e, sg => match sg[i]? with
    | some (some x) => lft (bnd (evE T C e sg) fun y => opt (augW o x y)) sg fun w m => some (.nx, sg.set i (some w), m)
    | _ => fun _ => none
  | .setI o i e, sg => lft (bnd (evE T C e sg) fun y => bnd (evE T C o sg) fun x => bnd (evE T C i sg) fun k => setIM x k y) sg fun _ m => some (.nx, sg, m)
  | .app o e, sg => lft (bnd (evE T C o sg) fun x => bnd (lstM x) fun _ => bnd (evE T C e sg) fun y => appM x y) sg fun _ m => some (.nx, sg, m)
  | .rem o e, sg => lft (bnd (evE T C o sg) fun x => bnd (lstM x) fun _ => bnd (evE T C e sg) fun y => remM x y) sg fun _ m => some (.nx, sg, m)
  | .raise c, sg => fun m => some (.ex ⟨c, []⟩, sg, m)
  | .tryB c body i, sg => fun m => catchS c i (evSs T C body sg m)
  | .ife c a b, sg => lft (evE T C c sg) sg fun w => match w with
    | .bl true => evSs T C a sg
    | .bl false => evSs T C b sg
    | _ => fun _ => none
  | .loop tg src body, sg => lft (evI T C src sg) sg fun xs => loopGo tg (evSs T C body) xs sg
  | .loopL tg src body, sg => lft (evE T C src sg) sg fun w => loopW tg (evSs T C body) w sg
  | .while c body, sg => whileL (evE T C c) (evSs T C body) sg
noncomputable def evSs (T : Tab) (C : Calls) : List S → Sg → MS
  | [], sg => fun m => some (.nx, sg, m)
  | s :: ss, sg => fun m => thenS (evS T C s sg m) (evSs T C ss)
end

/-- a value whose own objects do not live on -/
def frzW (k : Nat) (m : Hm) : Nat → W → Option W
  | 0, _ => none
  | n + 1, w => if W.rb k w then some w else match w with
    | .ref i => match hget m i with
      | some (.lst xs) => (xs.mapM (frzW k m n)).map .lst
      | some (.dK _) => none
      | some (.dT _) => none
      | some (.ins _ _) => none
      | none => none
    | .tup xs => (xs.mapM (frzW k m n)).map .tup
    | .lst xs => (xs.mapM (frzW k m n)).map .lst
    | .klst xs => (xs.mapM (frzW k m n)).map .klst
    | .dct ks vs => (ks.mapM (frzW k m n)).bind fun ks' => (vs.mapM (frzW k m n)).map (.dct ks')
    | .ins c fs => (fs.mapM (frzW k m n)).map (.ins c)
    | _ => none
open Classical in
/-- a call's end: m ahead of it, m' behind it; what it made is let go -/
noncomputable def fin (keep : Bool) (m m' : Hm) (w : W) : Option (Res W × Hm) :=
  if keep = true ∨ m'.length = m.length then some (.ok w, m')
  else if m.length ≤ m'.length ∧ (m'.drop (m'.length - m.length) = m ∨ (m'.drop (m'.length - m.length)).all (HOb.rb m.length) = true) then
    match frzW m.length m' 20 w with
    | some w' => some (.ok w', m'.drop (m'.length - m.length))
    | none => none
  else none
open Classical in
noncomputable def finx (m m' : Hm) (x : Xc) : Option (Res W × Hm) :=
  if m.length ≤ m'.length ∧ W.rbs 0 x.fs = true ∧ (m'.drop (m'.length - m.length) = m ∨ (m'.drop (m'.length - m.length)).all (HOb.rb m.length) = true) then
    some (.exc x, m'.drop (m'.length - m.length))
  else none
noncomputable def runF (T : Tab) (C : Calls) (F : Fn) (ws : List W) : M W := fun m =>
  if ws.length = F.np then
    match evSs T C F.body (ws.map some ++ List.replicate (F.ns - F.np) none) m with
    | some (.rt w, _, m') => fin F.keep m m' w
    | some (.nx, _, m') => fin F.keep m m' .non
    | some (.ex x, _, m') => finx m m' x
    | _ => none
  else none
noncomputable def evC (T : Tab) : Nat → Calls
  | 0 => fun _ _ => stuck
  | l + 1 => fun f ws => match T.fn f with
    | some F => runF T (evC T l) F ws
    | none => stuck
end WM
namespace WM
open PySem PySem.Spec PyProof.Rows L2

/-- what the text has written: its part K, the classes' addresses and fields -/
structure En where
  K : PySem.W.Frag
  ca : Nat → Addr
  cf : Nat → List Str
  /-- addresses that nobody here may name -/
  F : Addr → Prop := fun _ => False

def KT (K : PySem.W.Frag) (a : Addr) (xs : List V) : Prop :=
  ∃ (o : Obj) (its : Array Value) (n : Nat), K.lookup a = some o ∧ o.cls = .type "tuple" ∧ o.data = .seq its n ∧ its.size ≤ sizeLine ∧ Vals xs its.toList
def KL (K : PySem.W.Frag) (a : Addr) (xs : List V) : Prop :=
  ∃ (o : Obj) (its : Array Value) (n : Nat), K.lookup a = some o ∧ o.cls = .type "list" ∧ o.dict = none ∧ o.data = .seq its n ∧ its.size ≤ sizeLine ∧ Vals xs its.toList
/-- no living object stands there -/
def NL (N : En) (ρ : Nat → Addr) (k : Nat) (a : Addr) : Prop := (∀ n, n < k → ρ n ≠ a) ∧ ¬ N.F a
def FzT (N : En) (ρ : Nat → Addr) (k : Nat) (H : Hp) (a : Addr) (vs : List V) : Prop :=
  vs.length ≤ sizeLine ∧ ((Rd H a (.tup vs) ∧ NL N ρ k a) ∨ KT N.K a vs)
def FzL (N : En) (ρ : Nat → Addr) (k : Nat) (H : Hp) (a : Addr) (vs : List V) : Prop :=
  vs.length ≤ sizeLine ∧ H a = some (.lst vs) ∧ NL N ρ k a
def FzK (N : En) (ρ : Nat → Addr) (k : Nat) (H : Hp) (a : Addr) (vs : List V) : Prop :=
  vs.length ≤ sizeLine ∧ ((Rd H a (.lst vs) ∧ NL N ρ k a) ∨ KL N.K a vs)
theorem FzT.seq {N : En} {ρ k H a vs} (h : FzT N ρ k H a vs) : SqT N.K H a vs := h.2.elim (fun z => .inl z.1) fun z => .inr z
theorem FzL.seq {N : En} {ρ k H a vs} (h : FzL N ρ k H a vs) : SqL N.K H a vs := .inl (.inl h.2.1)
theorem FzK.seq {N : En} {ρ k H a vs} (h : FzK N ρ k H a vs) : SqL N.K H a vs := h.2.elim (fun z => .inl z.1) fun z => .inr z

mutual
def RV (N : En) (ρ : Nat → Addr) (k : Nat) (H : Hp) : W → V → Prop
  | .non, v => v = .non
  | .bl b, v => v = .bl b
  | .int i, v => v = .int i
  | .str x, v => v = .str x
  | .tup ws, v => ∃ a vs, v = .ref a ∧ FzT N ρ k H a vs ∧ RVs N ρ k H ws vs
  | .lst ws, v => ∃ a vs, v = .ref a ∧ FzL N ρ k H a vs ∧ RVs N ρ k H ws vs
  | .klst ws, v => ∃ a vs, v = .ref a ∧ FzK N ρ k H a vs ∧ RVs N ρ k H ws vs
  | .ref n, v => n < k ∧ v = .ref (ρ n)
  | .dct _ _, _ => False
  | .ins _ _, _ => False
def RVs (N : En) (ρ : Nat → Addr) (k : Nat) (H : Hp) : List W → List V → Prop
  | [], vs => vs = []
  | w :: ws, vs => ∃ v r, vs = v :: r ∧ RV N ρ k H w v ∧ RVs N ρ k H ws r
end
/-- what stands there in the tracked heap, vs its values -/
def Sh (N : En) : HOb → HO → List V → Prop
  | .dK kvs, .dK q, vs => q.map (·.1) = kvs.map (·.1) ∧ q.map (·.2) = vs
  | .dT kvs, .dT q, vs => q.map (·.1) = kvs.map (·.1) ∧ q.map (·.2) = vs
  | .ins c fs, .ins C _ q, vs => C = N.ca c ∧ q.map (·.1) = (N.cf c).take fs.length ∧ q.map (·.2) = vs
  | _, _, _ => False
def RO (N : En) (ρ : Nat → Addr) (k : Nat) (H : Hp) : HOb → Addr → Prop
  | .lst ws, a => ∃ vs, H a = some (.lst vs) ∧ vs.length ≤ sizeLine ∧ RVs N ρ k H ws vs
  | o, a => ∃ ho vs, H a = some ho ∧ Sh N o ho vs ∧ RVs N ρ k H o.its vs
structure Rl (N : En) (ρ : Nat → Addr) (m : Hm) (H : Hp) : Prop where
  fb : ∀ a, N.F a → H a ≠ none
  nf : ∀ n, n < m.length → ¬ N.F (ρ n)
  inj : ∀ i j, i < m.length → j < m.length → ρ i = ρ j → i = j
  lv : ∀ i, i < m.length → H (ρ i) ≠ none
  obj : ∀ n o, hget m n = some o → RO N ρ m.length H o (ρ n)
structure Ext (N : En) (ρ : Nat → Addr) (k : Nat) (H : Hp) (ρ' : Nat → Addr) (k' : Nat) (H' : Hp) : Prop where
  le : k ≤ k'
  rho : ∀ n, n < k → ρ' n = ρ n
  keep : ∀ a o, H a = some o → NL N ρ k a → H' a = some o
  keepF : ∀ a, N.F a → H' a = H a
  lv : ∀ n, n < k → H (ρ n) ≠ none → H' (ρ n) ≠ none
  fresh : ∀ n, k ≤ n → n < k' → H (ρ' n) = none
theorem Ext.refl {N ρ k H} : Ext N ρ k H ρ k H := ⟨Nat.le_refl _, fun _ _ => rfl, fun _ _ h _ => h, fun _ _ => rfl, fun _ _ h => h, fun n h h' => absurd (Nat.lt_of_lt_of_le h' h) (Nat.lt_irrefl _)⟩
theorem Ext.nl {ρ k H ρ' k' H' a o} (e : Ext N ρ k H ρ' k' H') (h : H a = some o) (n : NL N ρ k a) : NL N ρ' k' a := by
  refine ⟨fun i hi q => ?_, n.2⟩
  by_cases hk : i < k
  · rw [e.rho i hk] at q; exact n.1 i hk q
  · have := e.fresh i (Nat.le_of_not_lt hk) hi
    rw [q, h] at this; cases this
theorem Ext.trans {N ρ k H ρ' k' H' ρ'' k'' H''} (a : Ext N ρ k H ρ' k' H') (b : Ext N ρ' k' H' ρ'' k'' H'') : Ext N ρ k H ρ'' k'' H'' where
  le := Nat.le_trans a.le b.le
  rho := fun n h => (b.rho n (Nat.lt_of_lt_of_le h a.le)).trans (a.rho n h)
  keep := fun c o h n => b.keep c o (a.keep c o h n) (a.nl h n)
  keepF := fun c h => (b.keepF c h).trans (a.keepF c h)
  lv := fun n h z => by
    have q := a.lv n h z
    have r := b.lv n (Nat.lt_of_lt_of_le h a.le)
    rw [a.rho n h] at r
    exact r q
  fresh := fun n h1 h2 => by
    by_cases hk : n < k'
    · rw [b.rho n hk]; exact a.fresh n h1 hk
    · have q := b.fresh n (Nat.le_of_not_lt hk) h2
      cases z : H (ρ'' n) with
      | none => rfl
      | some o =>
        by_cases hf : N.F (ρ'' n)
        · rw [a.keepF _ hf, z] at q; cases q
        by_cases hn : ∀ j, j < k → ρ j ≠ ρ'' n
        · rw [a.keep _ o z ⟨hn, hf⟩] at q; cases q
        · have : ∃ j, j < k ∧ ρ j = ρ'' n := by
            simp only [Classical.not_forall] at hn
            obtain ⟨j, h3, h4⟩ := hn
            exact ⟨j, h3, Classical.not_not.mp h4⟩
          obtain ⟨j, h3, h4⟩ := this
          have r := a.lv j h3
          rw [h4, z] at r
          exact absurd q (r (by simp))
theorem FzT.mono {N ρ k H ρ' k' H' a vs} (e : Ext N ρ k H ρ' k' H') (h : FzT N ρ k H a vs) : FzT N ρ' k' H' a vs := by
  refine ⟨h.1, ?_⟩
  rcases h.2 with ⟨r, n⟩ | r
  · rcases r with r | ⟨o, r⟩
    · exact .inl ⟨.inl (e.keep _ _ r n), e.nl r n⟩
    · exact .inl ⟨.inr ⟨o, e.keep _ _ r n⟩, e.nl r n⟩
  · exact .inr r
theorem FzL.mono {N ρ k H ρ' k' H' a vs} (e : Ext N ρ k H ρ' k' H') (h : FzL N ρ k H a vs) : FzL N ρ' k' H' a vs := ⟨h.1, e.keep _ _ h.2.1 h.2.2, e.nl h.2.1 h.2.2⟩
theorem FzK.mono {N ρ k H ρ' k' H' a vs} (e : Ext N ρ k H ρ' k' H') (h : FzK N ρ k H a vs) : FzK N ρ' k' H' a vs := by
  refine ⟨h.1, ?_⟩
  rcases h.2 with ⟨r, n⟩ | r
  · rcases r with r | ⟨o, r⟩
    · exact .inl ⟨.inl (e.keep _ _ r n), e.nl r n⟩
    · exact .inl ⟨.inr ⟨o, e.keep _ _ r n⟩, e.nl r n⟩
  · exact .inr r
mutual
theorem RV.mono {N ρ k H ρ' k' H'} (e : Ext N ρ k H ρ' k' H') : ∀ (w : W) (v : V), RV N ρ k H w v → RV N ρ' k' H' w v
  | .non, _, h => h
  | .bl _, _, h => h
  | .int _, _, h => h
  | .str _, _, h => h
  | .tup ws, _, ⟨a, vs, h1, h2, h3⟩ => ⟨a, vs, h1, h2.mono e, RVs.mono e ws vs h3⟩
  | .lst ws, _, ⟨a, vs, h1, h2, h3⟩ => ⟨a, vs, h1, h2.mono e, RVs.mono e ws vs h3⟩
  | .klst ws, _, ⟨a, vs, h1, h2, h3⟩ => ⟨a, vs, h1, h2.mono e, RVs.mono e ws vs h3⟩
  | .ref n, _, ⟨h1, h2⟩ => ⟨Nat.lt_of_lt_of_le h1 e.le, by rw [e.rho n h1]; exact h2⟩
  | .dct _ _, _, h => h
  | .ins _ _, _, h => h
theorem RVs.mono {N ρ k H ρ' k' H'} (e : Ext N ρ k H ρ' k' H') : ∀ (w : List W) (v : List V), RVs N ρ k H w v → RVs N ρ' k' H' w v
  | [], _, h => h
  | w :: ws, _, ⟨v, r, h1, h2, h3⟩ => ⟨v, r, h1, RV.mono e w v h2, RVs.mono e ws r h3⟩
end
theorem RVs.len {N ρ k H} : ∀ {ws : List W} {vs : List V}, RVs N ρ k H ws vs → ws.length = vs.length
  | [], _, h => by rw [h]; rfl
  | _ :: ws, _, ⟨_, _, h1, _, h3⟩ => by rw [h1, List.length_cons, List.length_cons, RVs.len h3]
theorem RVs.get {N ρ k H} : ∀ {ws : List W} {vs : List V} {i : Nat} {w : W}, RVs N ρ k H ws vs → ws[i]? = some w → ∃ v, vs[i]? = some v ∧ RV N ρ k H w v
  | [], _, _, _, _, e => by simp at e
  | x :: ws, _, 0, w, ⟨v, r, h1, h2, _⟩, e => by
    simp at e; subst e; exact ⟨v, by rw [h1]; rfl, h2⟩
  | x :: ws, _, i + 1, w, ⟨v, r, h1, _, h3⟩, e => by
    obtain ⟨u, h4, h5⟩ := RVs.get (i := i) (w := w) h3 (by simpa using e)
    exact ⟨u, by rw [h1]; simpa using h4, h5⟩
theorem RVs.none_of {N ρ k H} {ws : List W} {vs : List V} {i : Nat} (h : RVs N ρ k H ws vs) (e : ws[i]? = none) : vs[i]? = none := by
  have := h.len
  exact List.getElem?_eq_none_iff.mpr (by have := List.getElem?_eq_none_iff.mp e; omega)
theorem RVs.append {N ρ k H} : ∀ {ws ws' : List W} {vs vs' : List V}, RVs N ρ k H ws vs → RVs N ρ k H ws' vs' → RVs N ρ k H (ws ++ ws') (vs ++ vs')
  | [], _, _, _, h, h' => by rw [h]; exact h'
  | _ :: _, _, _, _, ⟨v, r, h1, h2, h3⟩, h' => ⟨v, r ++ _, by rw [h1]; rfl, h2, RVs.append h3 h'⟩
theorem RVs.drop {N ρ k H} : ∀ {ws : List W} {vs : List V} (n : Nat), RVs N ρ k H ws vs → RVs N ρ k H (ws.drop n) (vs.drop n)
  | _, _, 0, h => h
  | [], _, n + 1, h => by rw [h]; rfl
  | _ :: _, _, n + 1, ⟨v, r, h1, h2, h3⟩ => by rw [h1]; exact RVs.drop n h3
theorem RVs.take {N ρ k H} : ∀ {ws : List W} {vs : List V} (n : Nat), RVs N ρ k H ws vs → RVs N ρ k H (ws.take n) (vs.take n)
  | _, _, 0, h => by simp [RVs]
  | [], _, n + 1, h => by rw [h]; rfl
  | _ :: _, _, n + 1, ⟨v, r, h1, h2, h3⟩ => by rw [h1]; exact ⟨v, r.take n, rfl, h2, RVs.take n h3⟩
theorem RVs.reverse {N ρ k H} : ∀ {ws : List W} {vs : List V}, RVs N ρ k H ws vs → RVs N ρ k H ws.reverse vs.reverse
  | [], _, h => by rw [h]; rfl
  | _ :: _, _, ⟨v, r, h1, h2, h3⟩ => by
    rw [h1, List.reverse_cons, List.reverse_cons]
    exact RVs.append (RVs.reverse h3) ⟨v, [], rfl, h2, rfl⟩
theorem RVs.set {N ρ k H w v} (q : RV N ρ k H w v) : ∀ {ws : List W} {vs : List V} (i : Nat), RVs N ρ k H ws vs → RVs N ρ k H (ws.set i w) (vs.set i v)
  | [], _, _, h => by rw [h]; rfl
  | _ :: _, _, 0, ⟨u, r, h1, h2, h3⟩ => by rw [h1]; exact ⟨v, r, rfl, q, h3⟩
  | _ :: _, _, i + 1, ⟨u, r, h1, h2, h3⟩ => by rw [h1]; exact ⟨u, r.set i v, rfl, h2, RVs.set q i h3⟩
theorem RVs.one {N ρ k H w} {vs : List V} (h : RVs N ρ k H [w] vs) : ∃ v, vs = [v] ∧ RV N ρ k H w v := by
  obtain ⟨v, r, h1, h2, h3⟩ := h
  exact ⟨v, by rw [h1, h3], h2⟩
theorem RVs.two {N ρ k H w w'} {vs : List V} (h : RVs N ρ k H [w, w'] vs) : ∃ v v', vs = [v, v'] ∧ RV N ρ k H w v ∧ RV N ρ k H w' v' := by
  obtain ⟨v, r, h1, h2, v', r', h4, h5, h6⟩ := h
  exact ⟨v, v', by rw [h1, h4, h6], h2, h5⟩

/-! ### heaps that grow, that change -/
theorem hget_lt : ∀ {m : Hm} {n : Nat} {o : HOb}, hget m n = some o → n < m.length
  | [], _, _, h => by simp [hget] at h
  | x :: t, n, o, h => by
    unfold hget at h
    split at h
    · rename_i e; rw [e, List.length_cons]; exact Nat.lt_succ_self _
    · exact Nat.lt_succ_of_lt (hget_lt h)
theorem hget_some : ∀ {m : Hm} {n : Nat}, n < m.length → ∃ o, hget m n = some o
  | [], _, h => by simp at h
  | x :: t, n, h => by
    unfold hget
    split
    · exact ⟨_, rfl⟩
    · rename_i e
      exact hget_some (by rw [List.length_cons] at h; omega)
theorem hset_length : ∀ (m : Hm) (n : Nat) (o : HOb), (hset m n o).length = m.length
  | [], _, _ => rfl
  | x :: t, n, o => by
    unfold hset
    split
    · rfl
    · rw [List.length_cons, List.length_cons, hset_length t n o]
theorem hget_hset : ∀ {m : Hm} {n j : Nat} {o : HOb}, n < m.length → hget (hset m n o) j = if j = n then some o else hget m j
  | [], _, _, _, h => by simp at h
  | x :: t, n, j, o, h => by
    unfold hset
    split
    · rename_i e
      subst e
      unfold hget
      split
      · rfl
      · rfl
    · rename_i e
      have hn : n < t.length := by rw [List.length_cons] at h; omega
      unfold hget
      rw [hset_length]
      split
      · rename_i e2
        rw [if_neg (by omega)]
      · rw [hget_hset hn]
theorem NL.ne {N ρ k a n} (h : NL N ρ k a) (hn : n < k) : a ≠ ρ n := fun e => h.1 n hn e.symm
/-- a new thing that is not living -/
theorem Ext.new {N ρ m H p o} (R : Rl N ρ m H) (hp : H p = none) : Ext N ρ m.length H ρ m.length (upd H p o) where
  le := Nat.le_refl _
  rho := fun _ _ => rfl
  keep := fun a u h _ => by rw [upd_ne (ne_of_none h hp)]; exact h
  keepF := fun a h => upd_ne fun e => R.fb a h (by rw [e]; exact hp)
  lv := fun n hn h => by
    by_cases e : ρ n = p
    · rw [e, upd_same]; simp
    · rw [upd_ne e]; exact h
  fresh := fun n h h' => absurd (Nat.lt_of_lt_of_le h' h) (Nat.lt_irrefl _)
theorem RO.mono {N ρ k H ρ' k' H'} (e : Ext N ρ k H ρ' k' H') {o : HOb} {a a' : Addr} (h : RO N ρ k H o a) (ha : H' a' = H a) : RO N ρ' k' H' o a' := by
  cases o with
  | lst ws => obtain ⟨vs, h1, h2, h3⟩ := h; exact ⟨vs, by rw [ha]; exact h1, h2, RVs.mono e _ _ h3⟩
  | dK _ => obtain ⟨ho, vs, h1, h2, h3⟩ := h; exact ⟨ho, vs, by rw [ha]; exact h1, h2, RVs.mono e _ _ h3⟩
  | dT _ => obtain ⟨ho, vs, h1, h2, h3⟩ := h; exact ⟨ho, vs, by rw [ha]; exact h1, h2, RVs.mono e _ _ h3⟩
  | ins _ _ => obtain ⟨ho, vs, h1, h2, h3⟩ := h; exact ⟨ho, vs, by rw [ha]; exact h1, h2, RVs.mono e _ _ h3⟩
theorem Rl.new {N ρ m H p o} (R : Rl N ρ m H) (hp : H p = none) : Rl N ρ m (upd H p o) := by
  have hne : ∀ i, i < m.length → ρ i ≠ p := fun i hi e => R.lv i hi (by rw [e]; exact hp)
  refine ⟨fun a h => by rw [upd_ne fun e => R.fb a h (by rw [e]; exact hp)]; exact R.fb a h, R.nf, R.inj, fun i hi => by rw [upd_ne (hne i hi)]; exact R.lv i hi, fun n u h => ?_⟩
  exact RO.mono (Ext.new R hp) (R.obj n u h) (upd_ne (hne n (hget_lt h)))
theorem Rl.nF {N ρ m H p} (R : Rl N ρ m H) (hp : H p = none) : ¬ N.F p := fun h => R.fb p h hp
theorem NL.new {N ρ m H p} (R : Rl N ρ m H) (hp : H p = none) : NL N ρ m.length p := ⟨fun n hn e => R.lv n hn (by rw [e]; exact hp), R.nF hp⟩
/-- a value laid as a new tuple, a new list -/
theorem RV.newT {N ρ m H p ws vs} (R : Rl N ρ m H) (hp : H p = none) (hz : vs.length ≤ sizeLine) (r : RVs N ρ m.length H ws vs) : RV N ρ m.length (upd H p (.tup vs)) (.tup ws) (.ref p) :=
  ⟨p, vs, rfl, ⟨hz, .inl ⟨.inl upd_same, NL.new R hp⟩⟩, RVs.mono (Ext.new R hp) _ _ r⟩
theorem RV.newL {N ρ m H p ws vs} (R : Rl N ρ m H) (hp : H p = none) (hz : vs.length ≤ sizeLine) (r : RVs N ρ m.length H ws vs) : RV N ρ m.length (upd H p (.lst vs)) (.lst ws) (.ref p) :=
  ⟨p, vs, rfl, ⟨hz, upd_same, NL.new R hp⟩, RVs.mono (Ext.new R hp) _ _ r⟩
/-- a new living object -/
def rAdd (ρ : Nat → Addr) (k : Nat) (p : Addr) : Nat → Addr := fun n => if n = k then p else ρ n
theorem rAdd_same {ρ k p} : rAdd ρ k p k = p := if_pos rfl
theorem rAdd_ne {ρ k p n} (h : n ≠ k) : rAdd ρ k p n = ρ n := if_neg h
theorem Ext.live {N ρ m H p o} {u : HOb} (R : Rl N ρ m H) (hp : H p = none) : Ext N ρ m.length H (rAdd ρ m.length p) (u :: m).length (upd H p o) where
  le := Nat.le_succ _
  rho := fun n hn => rAdd_ne (Nat.ne_of_lt hn)
  keep := fun a u h _ => by rw [upd_ne (ne_of_none h hp)]; exact h
  keepF := fun a h => upd_ne fun e => R.fb a h (by rw [e]; exact hp)
  lv := fun n hn h => by
    by_cases e : ρ n = p
    · rw [e, upd_same]; simp
    · rw [upd_ne e]; exact h
  fresh := fun n h h' => by
    have e : n = m.length := by rw [List.length_cons] at h'; omega
    rw [e, rAdd_same]; exact hp
theorem Rl.live {N ρ m H p o} {u : HOb} (R : Rl N ρ m H) (hp : H p = none) (h : RO N (rAdd ρ m.length p) (u :: m).length (upd H p o) u p) : Rl N (rAdd ρ m.length p) (u :: m) (upd H p o) := by
  have hne : ∀ i, i < m.length → ρ i ≠ p := fun i hi e => R.lv i hi (by rw [e]; exact hp)
  refine ⟨fun a h => by rw [upd_ne fun e => R.fb a h (by rw [e]; exact hp)]; exact R.fb a h, fun n hn h => ?_, fun i j hi hj e => ?_, fun i hi => ?_, fun n x hx => ?_⟩
  · rw [List.length_cons] at hn
    by_cases en : n = m.length
    · rw [en, rAdd_same] at h; exact R.nF hp h
    · rw [rAdd_ne en] at h; exact R.nf n (by omega) h
  · rw [List.length_cons] at hi hj
    by_cases ei : i = m.length <;> by_cases ej : j = m.length
    · omega
    · rw [ei, rAdd_same, rAdd_ne ej] at e; exact absurd e.symm (hne j (by omega))
    · rw [ej, rAdd_same, rAdd_ne ei] at e; exact absurd e (hne i (by omega))
    · rw [rAdd_ne ei, rAdd_ne ej] at e; exact R.inj i j (by omega) (by omega) e
  · rw [List.length_cons] at hi
    by_cases ei : i = m.length
    · rw [ei, rAdd_same, upd_same]; simp
    · rw [rAdd_ne ei, upd_ne (hne i (by omega))]; exact R.lv i (by omega)
  · unfold hget at hx
    split at hx
    · rename_i e
      cases hx
      rw [e, rAdd_same]; exact h
    · rename_i e
      have hn := hget_lt hx
      refine RO.mono (Ext.live (u := u) R hp) (R.obj n x hx) ?_
      rw [rAdd_ne e, upd_ne (hne n hn)]
/-- a living object changed -/
theorem Ext.write {N ρ m H n o} (R : Rl N ρ m H) (hn : n < m.length) : Ext N ρ m.length H ρ m.length (upd H (ρ n) o) where
  le := Nat.le_refl _
  rho := fun _ _ => rfl
  keep := fun a u h nl => by rw [upd_ne (NL.ne nl hn)]; exact h
  keepF := fun a h => upd_ne fun e => R.nf n hn (by rw [← e]; exact h)
  lv := fun j hj h => by
    by_cases e : ρ j = ρ n
    · rw [e, upd_same]; simp
    · rw [upd_ne e]; exact h
  fresh := fun n h h' => absurd (Nat.lt_of_lt_of_le h' h) (Nat.lt_irrefl _)
theorem Rl.write {N ρ m H n o u} (R : Rl N ρ m H) (hn : n < m.length) (h : RO N ρ m.length (upd H (ρ n) o) u (ρ n)) : Rl N ρ (hset m n u) (upd H (ρ n) o) := by
  refine ⟨fun a h => by rw [upd_ne fun e => R.nf n hn (by rw [← e]; exact h)]; exact R.fb a h, fun i hi => R.nf i (by rw [hset_length] at hi; exact hi), fun i j hi hj e => R.inj i j (by rw [hset_length] at hi; exact hi) (by rw [hset_length] at hj; exact hj) e, fun i hi => ?_, fun j x hx => ?_⟩
  · rw [hset_length] at hi
    by_cases e : ρ i = ρ n
    · rw [e, upd_same]; simp
    · rw [upd_ne e]; exact R.lv i hi
  · rw [hset_length]
    rw [hget_hset hn] at hx
    split at hx
    · rename_i e
      cases hx
      rw [e]; exact h
    · rename_i e
      refine RO.mono (Ext.write R hn) (R.obj j x hx) (upd_ne fun q => e (R.inj j n (hget_lt hx) hn q))

/-! ### slots -/
def RS (N : En) (ρ : Nat → Addr) (k : Nat) (H : Hp) (sg : Sg) (σ : L2.St) : Prop :=
  sg.length = σ.length ∧ ∀ (i : Nat) (w : W), sg[i]? = some (some w) → ∃ v, σ[i]? = some (some v) ∧ RV N ρ k H w v
theorem RS.mono {N ρ k H ρ' k' H' sg σ} (e : Ext N ρ k H ρ' k' H') (h : RS N ρ k H sg σ) : RS N ρ' k' H' sg σ :=
  ⟨h.1, fun i w q => let ⟨v, h1, h2⟩ := h.2 i w q; ⟨v, h1, RV.mono e w v h2⟩⟩
theorem RS.set {N ρ k H sg σ w v} (h : RS N ρ k H sg σ) (i : Nat) (q : RV N ρ k H w v) : RS N ρ k H (sg.set i (some w)) (σ.set i (some v)) := by
  refine ⟨by rw [List.length_set, List.length_set]; exact h.1, fun j x hx => ?_⟩
  by_cases e : i = j
  · subst e
    by_cases hl : i < sg.length
    · rw [List.getElem?_set_self hl] at hx
      cases hx
      exact ⟨v, List.getElem?_set_self (by rw [← h.1]; exact hl), q⟩
    · rw [List.getElem?_eq_none (by rw [List.length_set]; omega)] at hx; cases hx
  · rw [List.getElem?_set_ne e] at hx ⊢
    exact h.2 j x hx
theorem RS.setN {N ρ k H sg σ} (h : RS N ρ k H sg σ) (i : Nat) : RS N ρ k H (sg.set i none) (σ.set i none) := by
  refine ⟨by rw [List.length_set, List.length_set]; exact h.1, fun j x hx => ?_⟩
  by_cases e : i = j
  · subst e
    by_cases hl : i < sg.length
    · rw [List.getElem?_set_self hl] at hx; cases hx
    · rw [List.getElem?_eq_none (by rw [List.length_set]; omega)] at hx; cases hx
  · rw [List.getElem?_set_ne e] at hx ⊢
    exact h.2 j x hx
theorem RS.wipe {N ρ k H sg σ} (h : RS N ρ k H sg σ) : ∀ vs : List Nat, RS N ρ k H (wipeW sg vs) (L2.wipe σ vs)
  | [] => h
  | v :: vs => (RS.wipe h vs).setN v

/-! ### one address more that nobody may name -/
def En.wF (N : En) (F : Addr → Prop) : En := { N with F := F }
def En.plus (N : En) (D : Addr) : En := { N with F := fun a => N.F a ∨ a = D }
theorem NL.plus {N : En} {ρ k a D} (h : NL N ρ k a) (hd : a ≠ D) : NL (N.plus D) ρ k a := ⟨h.1, fun z => z.elim h.2 hd⟩
theorem NL.minus {N : En} {ρ k a D} (h : NL (N.plus D) ρ k a) : NL N ρ k a := ⟨h.1, fun z => h.2 (.inl z)⟩
theorem rd_ne {H : Hp} {a D : Addr} {u : HO} (h : Rd H a u) (hd : H D = none) : a ≠ D := by
  rcases h with h | ⟨o, h⟩ <;> exact ne_of_none h hd
mutual
/-- a new thing at D, that nobody names -/
theorem RV.plus {N : En} {ρ k H D o} (hd : H D = none) : ∀ (w : W) (v : V), RV N ρ k H w v → RV (N.plus D) ρ k (upd H D o) w v
  | .non, _, h => h
  | .bl _, _, h => h
  | .int _, _, h => h
  | .str _, _, h => h
  | .tup ws, _, ⟨a, vs, h1, h2, h3⟩ => ⟨a, vs, h1, ⟨h2.1, h2.2.imp (fun z => ⟨z.1.imp (fun q => by rw [upd_ne (ne_of_none q hd)]; exact q) (fun ⟨o, q⟩ => ⟨o, by rw [upd_ne (ne_of_none q hd)]; exact q⟩), z.2.plus (rd_ne z.1 hd)⟩) id⟩, RVs.plus hd ws vs h3⟩
  | .lst ws, _, ⟨a, vs, h1, h2, h3⟩ => ⟨a, vs, h1, ⟨h2.1, by rw [upd_ne (ne_of_none h2.2.1 hd)]; exact h2.2.1, h2.2.2.plus (ne_of_none h2.2.1 hd)⟩, RVs.plus hd ws vs h3⟩
  | .klst ws, _, ⟨a, vs, h1, h2, h3⟩ => ⟨a, vs, h1, ⟨h2.1, h2.2.imp (fun z => ⟨z.1.imp (fun q => by rw [upd_ne (ne_of_none q hd)]; exact q) (fun ⟨o, q⟩ => ⟨o, by rw [upd_ne (ne_of_none q hd)]; exact q⟩), z.2.plus (rd_ne z.1 hd)⟩) id⟩, RVs.plus hd ws vs h3⟩
  | .ref n, _, h => h
  | .dct _ _, _, h => h
  | .ins _ _, _, h => h
theorem RVs.plus {N : En} {ρ k H D o} (hd : H D = none) : ∀ (w : List W) (v : List V), RVs N ρ k H w v → RVs (N.plus D) ρ k (upd H D o) w v
  | [], _, h => h
  | w :: ws, _, ⟨v, r, h1, h2, h3⟩ => ⟨v, r, h1, RV.plus hd w v h2, RVs.plus hd ws r h3⟩
end
mutual
/-- what stands at D changes, nobody names it -/
theorem RV.turn {N : En} {ρ k H D o} : ∀ (w : W) (v : V), RV (N.plus D) ρ k H w v → RV (N.plus D) ρ k (upd H D o) w v
  | .non, _, h => h
  | .bl _, _, h => h
  | .int _, _, h => h
  | .str _, _, h => h
  | .tup ws, _, ⟨a, vs, h1, h2, h3⟩ => ⟨a, vs, h1, ⟨h2.1, h2.2.imp (fun z => ⟨z.1.imp (fun q => by rw [upd_ne fun e => z.2.2 (.inr e)]; exact q) (fun ⟨o, q⟩ => ⟨o, by rw [upd_ne fun e => z.2.2 (.inr e)]; exact q⟩), z.2⟩) id⟩, RVs.turn ws vs h3⟩
  | .lst ws, _, ⟨a, vs, h1, h2, h3⟩ => ⟨a, vs, h1, ⟨h2.1, by rw [upd_ne fun e => h2.2.2.2 (.inr e)]; exact h2.2.1, h2.2.2⟩, RVs.turn ws vs h3⟩
  | .klst ws, _, ⟨a, vs, h1, h2, h3⟩ => ⟨a, vs, h1, ⟨h2.1, h2.2.imp (fun z => ⟨z.1.imp (fun q => by rw [upd_ne fun e => z.2.2 (.inr e)]; exact q) (fun ⟨o, q⟩ => ⟨o, by rw [upd_ne fun e => z.2.2 (.inr e)]; exact q⟩), z.2⟩) id⟩, RVs.turn ws vs h3⟩
  | .ref n, _, h => h
  | .dct _ _, _, h => h
  | .ins _ _, _, h => h
theorem RVs.turn {N : En} {ρ k H D o} : ∀ (w : List W) (v : List V), RVs (N.plus D) ρ k H w v → RVs (N.plus D) ρ k (upd H D o) w v
  | [], _, h => h
  | w :: ws, _, ⟨v, r, h1, h2, h3⟩ => ⟨v, r, h1, RV.turn w v h2, RVs.turn ws r h3⟩
end
mutual
theorem RV.minus {N : En} {ρ k H D} : ∀ (w : W) (v : V), RV (N.plus D) ρ k H w v → RV N ρ k H w v
  | .non, _, h => h
  | .bl _, _, h => h
  | .int _, _, h => h
  | .str _, _, h => h
  | .tup ws, _, ⟨a, vs, h1, h2, h3⟩ => ⟨a, vs, h1, ⟨h2.1, h2.2.imp (fun z => ⟨z.1, z.2.minus⟩) id⟩, RVs.minus ws vs h3⟩
  | .lst ws, _, ⟨a, vs, h1, h2, h3⟩ => ⟨a, vs, h1, ⟨h2.1, h2.2.1, h2.2.2.minus⟩, RVs.minus ws vs h3⟩
  | .klst ws, _, ⟨a, vs, h1, h2, h3⟩ => ⟨a, vs, h1, ⟨h2.1, h2.2.imp (fun z => ⟨z.1, z.2.minus⟩) id⟩, RVs.minus ws vs h3⟩
  | .ref n, _, h => h
  | .dct _ _, _, h => h
  | .ins _ _, _, h => h
theorem RVs.minus {N : En} {ρ k H D} : ∀ (w : List W) (v : List V), RVs (N.plus D) ρ k H w v → RVs N ρ k H w v
  | [], _, h => h
  | w :: ws, _, ⟨v, r, h1, h2, h3⟩ => ⟨v, r, h1, RV.minus w v h2, RVs.minus ws r h3⟩
end
theorem RO.minus {N : En} {ρ k H D} {o : HOb} {a : Addr} (h : RO (N.plus D) ρ k H o a) : RO N ρ k H o a := by
  cases o with
  | lst ws => obtain ⟨vs, h1, h2, h3⟩ := h; exact ⟨vs, h1, h2, RVs.minus _ _ h3⟩
  | dK _ => obtain ⟨ho, vs, h1, h2, h3⟩ := h; exact ⟨ho, vs, h1, h2, RVs.minus _ _ h3⟩
  | dT _ => obtain ⟨ho, vs, h1, h2, h3⟩ := h; exact ⟨ho, vs, h1, h2, RVs.minus _ _ h3⟩
  | ins _ _ => obtain ⟨ho, vs, h1, h2, h3⟩ := h; exact ⟨ho, vs, h1, h2, RVs.minus _ _ h3⟩
theorem Rl.plus {N : En} {ρ m H D o} (R : Rl N ρ m H) (hd : H D = none) : Rl (N.plus D) ρ m (upd H D o) := by
  have hne : ∀ i, i < m.length → ρ i ≠ D := fun i hi e => R.lv i hi (by rw [e]; exact hd)
  refine ⟨fun a h => ?_, fun n hn h => h.elim (R.nf n hn) (hne n hn), R.inj, fun i hi => by rw [upd_ne (hne i hi)]; exact R.lv i hi, fun n u h => ?_⟩
  · by_cases e : a = D
    · rw [e, upd_same]; simp
    · rw [upd_ne e]; exact R.fb a (h.elim id fun z => absurd z e)
  · have q := R.obj n u h
    have hn := hne n (hget_lt h)
    cases u with
    | lst ws => obtain ⟨vs, h1, h2, h3⟩ := q; exact ⟨vs, by rw [upd_ne hn]; exact h1, h2, RVs.plus hd _ _ h3⟩
    | dK _ => obtain ⟨ho, vs, h1, h2, h3⟩ := q; exact ⟨ho, vs, by rw [upd_ne hn]; exact h1, h2, RVs.plus hd _ _ h3⟩
    | dT _ => obtain ⟨ho, vs, h1, h2, h3⟩ := q; exact ⟨ho, vs, by rw [upd_ne hn]; exact h1, h2, RVs.plus hd _ _ h3⟩
    | ins _ _ => obtain ⟨ho, vs, h1, h2, h3⟩ := q; exact ⟨ho, vs, by rw [upd_ne hn]; exact h1, h2, RVs.plus hd _ _ h3⟩
theorem Rl.turn {N : En} {ρ m H D o} (R : Rl (N.plus D) ρ m H) : Rl (N.plus D) ρ m (upd H D o) := by
  have hne : ∀ i, i < m.length → ρ i ≠ D := fun i hi e => R.nf i hi (.inr e)
  refine ⟨fun a h => ?_, R.nf, R.inj, fun i hi => by rw [upd_ne (hne i hi)]; exact R.lv i hi, fun n u h => ?_⟩
  · by_cases e : a = D
    · rw [e, upd_same]; simp
    · rw [upd_ne e]; exact R.fb a h
  · have q := R.obj n u h
    have hn := hne n (hget_lt h)
    cases u with
    | lst ws => obtain ⟨vs, h1, h2, h3⟩ := q; exact ⟨vs, by rw [upd_ne hn]; exact h1, h2, RVs.turn _ _ h3⟩
    | dK _ => obtain ⟨ho, vs, h1, h2, h3⟩ := q; exact ⟨ho, vs, by rw [upd_ne hn]; exact h1, h2, RVs.turn _ _ h3⟩
    | dT _ => obtain ⟨ho, vs, h1, h2, h3⟩ := q; exact ⟨ho, vs, by rw [upd_ne hn]; exact h1, h2, RVs.turn _ _ h3⟩
    | ins _ _ => obtain ⟨ho, vs, h1, h2, h3⟩ := q; exact ⟨ho, vs, by rw [upd_ne hn]; exact h1, h2, RVs.turn _ _ h3⟩
theorem Rl.minus {N : En} {ρ m H D} (R : Rl (N.plus D) ρ m H) : Rl N ρ m H :=
  ⟨fun a h => R.fb a (.inl h), fun n hn h => R.nf n hn (.inl h), R.inj, R.lv, fun n u h => (R.obj n u h).minus⟩
theorem RS.plus {N : En} {ρ k H D o sg σ} (h : RS N ρ k H sg σ) (hd : H D = none) : RS (N.plus D) ρ k (upd H D o) sg σ :=
  ⟨h.1, fun i w q => let ⟨v, h1, h2⟩ := h.2 i w q; ⟨v, h1, RV.plus hd w v h2⟩⟩
theorem RS.turn {N : En} {ρ k H D o sg σ} (h : RS (N.plus D) ρ k H sg σ) : RS (N.plus D) ρ k (upd H D o) sg σ :=
  ⟨h.1, fun i w q => let ⟨v, h1, h2⟩ := h.2 i w q; ⟨v, h1, RV.turn w v h2⟩⟩
/-- behind D's first making: from a heap without D -/
theorem Ext.first {N : En} {ρ m H D o ρ' k' H'} (R : Rl N ρ m H) (hd : H D = none) (e : Ext (N.plus D) ρ m.length (upd H D o) ρ' k' H') : Ext N ρ m.length H ρ' k' H' where
  le := e.le
  rho := e.rho
  keep := fun a u h n => e.keep a u (by rw [upd_ne (ne_of_none h hd)]; exact h) (n.plus (ne_of_none h hd))
  keepF := fun a h => by
    have hne : a ≠ D := fun z => R.fb a h (by rw [z]; exact hd)
    rw [e.keepF a (.inl h), upd_ne hne]
  lv := fun n hn h => e.lv n hn (by rw [upd_ne fun z => h (by rw [z]; exact hd)]; exact h)
  fresh := fun n h1 h2 => by
    have q := e.fresh n h1 h2
    by_cases z : ρ' n = D
    · rw [z, upd_same] at q; cases q
    · rw [upd_ne z] at q; exact q
/-- D turns at the end -/
theorem Ext.last {N ρ k H ρ' k' H' D o} (e : Ext N ρ k H ρ' k' H') (hd : H D = none) (hf : ¬ N.F D) : Ext N ρ k H ρ' k' (upd H' D o) where
  le := e.le
  rho := e.rho
  keep := fun a u h n => by rw [upd_ne (ne_of_none h hd)]; exact e.keep a u h n
  keepF := fun a h => by rw [upd_ne fun z => hf (by rw [← z]; exact h)]; exact e.keepF a h
  lv := fun n hn h => by rw [upd_ne fun z => h (by rw [z]; exact hd)]; exact e.lv n hn h
  fresh := e.fresh

/-! ### what a computation gives -/
def Den {α : Type} (N : En) (ρ : Nat → Addr) (m : Hm) (H : Hp) (WW : Xc → (Nat → Addr) → Hm → Hp → Prop) (r : Option (Res α × Hm)) (P : α → (Nat → Addr) → Hm → Hp → Prop) : Prop :=
  match r with
  | none => False
  | some (.ok a, m') => ∀ ρ' H', Ext N ρ m.length H ρ' m'.length H' → Rl N ρ' m' H' → P a ρ' m' H'
  | some (.exc x, m') => ∀ ρ' H', Ext N ρ m.length H ρ' m'.length H' → Rl N ρ' m' H' → WW x ρ' m' H'
theorem Den.bind {α β : Type} {N ρ m H WW} {x : M α} {f : α → M β} {P : β → (Nat → Addr) → Hm → Hp → Prop} (h : Den N ρ m H WW (bnd x f m) P) :
    Den N ρ m H WW (x m) (fun a ρ' m' H' => Den N ρ' m' H' WW (f a m') P) := by
  unfold bnd at h
  cases e : x m with
  | none => rw [e] at h; exact h
  | some p =>
    obtain ⟨r, m'⟩ := p
    rw [e] at h
    cases r with
    | exc y => exact h
    | ok a =>
      intro ρ' H' ext rl
      have h' : Den N ρ m H WW (f a m') P := h
      unfold Den at h' ⊢
      cases e2 : f a m' with
      | none => rw [e2] at h'; exact h'
      | some q =>
        obtain ⟨r2, m2⟩ := q
        rw [e2] at h'
        cases r2 with
        | ok b => exact fun ρ2 H2 ext2 rl2 => h' ρ2 H2 (ext.trans ext2) rl2
        | exc y => exact fun ρ2 H2 ext2 rl2 => h' ρ2 H2 (ext.trans ext2) rl2
theorem Den.imp {α : Type} {N ρ m H WW} {r : Option (Res α × Hm)} {P P' : α → (Nat → Addr) → Hm → Hp → Prop} (h : Den N ρ m H WW r P)
    (i : ∀ a ρ' m' H', Ext N ρ m.length H ρ' m'.length H' → Rl N ρ' m' H' → P a ρ' m' H' → P' a ρ' m' H') : Den N ρ m H WW r P' := by
  unfold Den at h ⊢
  cases r with
  | none => exact h
  | some p =>
    obtain ⟨r, m'⟩ := p
    cases r with
    | ok a => exact fun ρ' H' e rl => i a ρ' m' H' e rl (h ρ' H' e rl)
    | exc x => exact h
theorem Den.ret {α : Type} {N ρ m H WW} {a : α} {P : α → (Nat → Addr) → Hm → Hp → Prop} (R : Rl N ρ m H) (h : Den N ρ m H WW (ret a m) P) : P a ρ m H := h ρ H Ext.refl R
end WM
namespace WM
open PySem PySem.Spec PyProof.Rows L2

def RX (N : En) (ρ : Nat → Addr) (k : Nat) (H : Hp) (x : Xc) (d : Option Addr) : Prop :=
  (x.fs = [] ∧ d = none) ∨ ∃ p vs, x.fs ≠ [] ∧ d = some p ∧ H p = some (.xd ((N.cf x.c).zip vs)) ∧ (N.cf x.c).length = vs.length ∧ RVs N ρ k H x.fs vs
def WS (N : En) (Wx : WX) (σ : L2.St) : Xc → (Nat → Addr) → Hm → Hp → Prop := fun x ρ m H => ∀ d, RX N ρ m.length H x d → Wx (.ref (N.ca x.c)) d σ H

section
variable (T : Tab) (N : En) (C : Calls)
def tE (e : E) (Wx : WX) : TE := fun σ H Q => ∃ F ρ m sg, Rl (N.wF F) ρ m H ∧ RS (N.wF F) ρ m.length H sg σ ∧ Den (N.wF F) ρ m H (WS (N.wF F) Wx σ) (evE T C e sg m) (fun w ρ' m' H' => ∀ v, RV (N.wF F) ρ' m'.length H' w v → Q v H')
def tT (e : E) (Wx : WX) : TT := fun σ H Q => ∃ F ρ m sg, Rl (N.wF F) ρ m H ∧ RS (N.wF F) ρ m.length H sg σ ∧ Den (N.wF F) ρ m H (WS (N.wF F) Wx σ) (evE T C e sg m) (fun w ρ' m' H' => ∃ b, w = .bl b ∧ Q b H')
def tEs (es : List E) (Wx : WX) : TA := fun σ H Q => ∃ F ρ m sg, Rl (N.wF F) ρ m H ∧ RS (N.wF F) ρ m.length H sg σ ∧ Den (N.wF F) ρ m H (WS (N.wF F) Wx σ) (evEs T C es sg m) (fun ws ρ' m' H' => ∀ vs, RVs (N.wF F) ρ' m'.length H' ws vs → Q vs H')
end
section
variable {T : Tab} {N : En} {C : Calls} {X : Cx} {Wx : WX}
theorem tE.mk {e : E} {σ H Q F ρ m sg P} (R : Rl (N.wF F) ρ m H) (S : RS (N.wF F) ρ m.length H sg σ) (D : Den (N.wF F) ρ m H (WS (N.wF F) Wx σ) (evE T C e sg m) P)
    (i : ∀ w ρ' m' H' v, Ext (N.wF F) ρ m.length H ρ' m'.length H' → Rl (N.wF F) ρ' m' H' → P w ρ' m' H' → RV (N.wF F) ρ' m'.length H' w v → Q v H') : tE T N C e Wx σ H Q :=
  ⟨F, ρ, m, sg, R, S, D.imp fun w ρ' m' H' e r p v rv => i w ρ' m' H' v e r p rv⟩
theorem tEs.mk {es : List E} {σ H Q F ρ m sg P} (R : Rl (N.wF F) ρ m H) (S : RS (N.wF F) ρ m.length H sg σ) (D : Den (N.wF F) ρ m H (WS (N.wF F) Wx σ) (evEs T C es sg m) P)
    (i : ∀ ws ρ' m' H' vs, Ext (N.wF F) ρ m.length H ρ' m'.length H' → Rl (N.wF F) ρ' m' H' → P ws ρ' m' H' → RVs (N.wF F) ρ' m'.length H' ws vs → Q vs H') : tEs T N C es Wx σ H Q :=
  ⟨F, ρ, m, sg, R, S, D.imp fun w ρ' m' H' e r p v rv => i w ρ' m' H' v e r p rv⟩
theorem tT.mk {e : E} {σ H Q F ρ m sg P} (R : Rl (N.wF F) ρ m H) (S : RS (N.wF F) ρ m.length H sg σ) (D : Den (N.wF F) ρ m H (WS (N.wF F) Wx σ) (evE T C e sg m) P)
    (i : ∀ w ρ' m' H', Ext (N.wF F) ρ m.length H ρ' m'.length H' → Rl (N.wF F) ρ' m' H' → P w ρ' m' H' → ∃ b, w = .bl b ∧ Q b H') : tT T N C e Wx σ H Q :=
  ⟨F, ρ, m, sg, R, S, D.imp fun w ρ' m' H' e r p => i w ρ' m' H' e r p⟩
theorem _root_.L2.PE.imp {e : Expr} {t t' : TE} (h : PE X e t) (i : ∀ σ H Q, t' σ H Q → t σ H Q) : PE X e t' := ⟨fun pins s σ H Q I q => h.run pins s σ H Q I (i σ H Q q)⟩
theorem _root_.L2.PT.imp {e : Expr} {t t' : TT} (h : PT X e t) (i : ∀ σ H Q, t' σ H Q → t σ H Q) : PT X e t' := ⟨fun pins s σ H Q I q => h.run pins s σ H Q I (i σ H Q q)⟩
theorem _root_.L2.PW.imp {e : Expr} {t t' : TT} (h : PW X e t) (i : ∀ σ H Q, t' σ H Q → t σ H Q) : PW X e t' := ⟨fun wh pins s σ H Q I q => h.run wh pins s σ H Q I (i σ H Q q)⟩
theorem _root_.L2.PA.imp {e : List Expr} {t t' : TA} (h : PA X e t) (i : ∀ σ H Q, t' σ H Q → t σ H Q) : PA X e t' := ⟨fun pos pins s σ H Q I q => h.run pos pins s σ H Q I (i σ H Q q)⟩
theorem _root_.L2.PS.imp {e : Stmt} {t t' : TS} (h : PS X e t) (i : ∀ D σ H, t' D σ H → t D σ H) : PS X e t' := ⟨fun pins s σ H D I q => h.run pins s σ H D I (i D σ H q)⟩
theorem _root_.L2.PSs.imp {e : List Stmt} {t t' : TS} (h : PSs X e t) (i : ∀ D σ H, t' D σ H → t D σ H) : PSs X e t' := ⟨fun pins s σ H D I q => h.run pins s σ H D I (i D σ H q)⟩

/-! ### names, constants -/
theorem sim_var {i : Nat} {x : Str} {pos : Pos} (hN : X.N[i]? = some x) (hv : Vis X.env.scope x) (hd : (x == ("__debug__" : Str)) = false) (hcd : (x == ("__classdict__" : Str)) = false) : PE X (.Name x pos) (tE T N C (.var i) Wx) := by
  refine (pe_var hN hv hd hcd).imp fun σ H Q ⟨F, ρ, m, sg, R, S, D⟩ => ?_
  rw [evE] at D
  cases e : sg[i]? with
  | none => rw [e] at D; exact False.elim D
  | some o =>
    rw [e] at D
    cases o with
    | none => exact False.elim D
    | some w =>
      obtain ⟨v, h1, h2⟩ := S.2 i w e
      exact ⟨v, h1, Den.ret R D v h2⟩
theorem sim_lit {w : W} {c : Const} {j pos} (h : match c, w with
    | .none, .non => True
    | .bool b, .bl b' => b = b'
    | .int i, .int i' => i = i'
    | .str x, .str x' => x = x'
    | _, _ => False) : PE X (.Constant c j pos) (tE T N C (.lit w) Wx) := by
  have go : ∀ (v : V), PE X (.Constant c j pos) (tC v) → (∀ F ρ k H, RV (N.wF F) ρ k H w v) → PE X (.Constant c j pos) (tE T N C (.lit w) Wx) := fun v p r =>
    p.imp fun σ H Q ⟨F, ρ, m, sg, R, S, D⟩ => by
      rw [evE] at D
      exact Den.ret R D v (r F ρ _ H)
  split at h
  · exact go _ pe_non fun _ _ _ _ => rfl
  · subst h; exact go _ pe_bl fun _ _ _ _ => rfl
  · subst h; exact go _ pe_int fun _ _ _ _ => rfl
  · subst h; exact go _ pe_str fun _ _ _ _ => rfl
  · exact h.elim
theorem sim_glob {g : Nat} {x : Str} {pos : Pos} (hg : Gl X x) (hm : ∀ w, T.glob g = some w → ∃ v u, X.mg x = some u ∧ RelV v u ∧ ∀ F ρ k H, RV (N.wF F) ρ k H w v) (hd : (x == ("__debug__" : Str)) = false) : PE X (.Name x pos) (tE T N C (.glob g) Wx) := by
  cases e : T.glob g with
  | none =>
    refine ⟨fun pins s σ H Q I ⟨F, ρ, m, sg, R, S, D⟩ => ?_⟩
    rw [evE, e] at D
    exact D.elim
  | some w =>
    obtain ⟨v, u, h1, h2, h3⟩ := hm w e
    refine (pe_glob hg h1 h2 hd).imp fun σ H Q ⟨F, ρ, m, sg, R, S, D⟩ => ?_
    rw [evE, e] at D
    exact Den.ret R D v (h3 F ρ _ H)

/-! ### rows of expressions -/
theorem sim_nil : PA X [] (tEs T N C [] Wx) := by
  refine pa_nil.imp fun σ H Q ⟨F, ρ, m, sg, R, S, D⟩ => ?_
  rw [evEs] at D
  exact Den.ret R D [] rfl
def notStar : Expr → Bool
  | .Starred _ _ => false
  | _ => true
theorem star_cons {e : Expr} {es : List Expr} {env : Env} (h : notStar e = true) : starEach (e :: es) env = (false, eval e env) :: starEach es env := by
  cases e <;> first | rfl | cases h
theorem sim_cons {e' : E} {es' : List E} {e : Expr} {es : List Expr} (h : PE X e (tE T N C e' Wx)) (hs : PA X es (tEs T N C es' Wx)) (ns : notStar e = true) : PA X (e :: es) (tEs T N C (e' :: es') Wx) := by
  refine (pa_cons h hs (star_cons ns)).imp fun σ H Q ⟨F, ρ, m, sg, R, S, D⟩ => ?_
  rw [evEs] at D
  refine tE.mk R S (Den.bind D) fun w ρ1 m1 H1 v e1 R1 D1 rv => ?_
  refine tEs.mk R1 (S.mono e1) (Den.bind D1) fun ws ρ2 m2 H2 vs e2 R2 D2 rvs => ?_
  exact Den.ret R2 D2 _ ⟨v, vs, rfl, RV.mono e2 _ _ rv, rvs⟩
theorem small_sz {n : Nat} (h : n ≤ 1000) : n ≤ sizeLine := Nat.le_trans h (by rw [sizeLine_eq]; decide)
theorem Den.at' {α : Type} {N ρ m H WW} {a : α} {P : α → (Nat → Addr) → Hm → Hp → Prop} {ρ' H'} (h : Den N ρ m H WW (WM.ret a m) P) (e : Ext N ρ m.length H ρ' m.length H') (R : Rl N ρ' m H') : P a ρ' m H' := h ρ' H' e R
theorem evEs_len : ∀ {es : List E} {sg : Sg} {m : Hm} {ws : List W} {m' : Hm}, evEs T C es sg m = some (.ok ws, m') → ws.length = es.length
  | [], sg, m, ws, m', h => by
    rw [evEs] at h
    cases h; rfl
  | e :: es, sg, m, ws, m', h => by
    rw [evEs] at h
    unfold bnd at h
    split at h
    · rename_i a m1 _
      dsimp only at h
      split at h
      · rename_i b m2 h2
        have ih := evEs_len h2
        cases h
        rw [List.length_cons, List.length_cons, ih]
      · cases h
      · cases h
    · cases h
    · cases h
theorem Den.len {es : List E} {sg ρ m H WW P} (D : Den N ρ m H WW (evEs T C es sg m) P) : Den N ρ m H WW (evEs T C es sg m) fun ws ρ' m' H' => ws.length = es.length ∧ P ws ρ' m' H' := by
  unfold Den at D ⊢
  split at D
  · exact D
  · rename_i ws m' h
    intro ρ' H' e R
    exact ⟨evEs_len h, D ρ' H' e R⟩
  · exact D
theorem sim_tup {es' : List E} {es : List Expr} {k pos} (h : PA X es (tEs T N C es' Wx)) (hz : es'.length ≤ 1000) : PE X (.Tuple es k pos) (tE T N C (.tup es') Wx) := by
  refine (pe_tup h).imp fun σ H Q ⟨F, ρ, m, sg, R, S, D⟩ => ?_
  rw [evE] at D
  refine tEs.mk R S (Den.len (Den.bind D)) fun ws ρ1 m1 H1 vs e1 R1 D1 rvs => ?_
  have hl : vs.length ≤ sizeLine := small_sz (by rw [← rvs.len, D1.1]; exact hz)
  exact ⟨hl, fun p hp => Den.at' D1.2 (Ext.new R1 hp) (R1.new hp) _ (RV.newT R1 hp hl rvs)⟩
theorem sim_lst {es' : List E} {es : List Expr} {pos} (h : PA X es (tEs T N C es' Wx)) (hz : es'.length ≤ 1000) : PE X (.List es pos) (tE T N C (.lst es') Wx) := by
  refine (pe_lst h).imp fun σ H Q ⟨F, ρ, m, sg, R, S, D⟩ => ?_
  rw [evE] at D
  refine tEs.mk R S (Den.len (Den.bind D)) fun ws ρ1 m1 H1 vs e1 R1 D1 rvs => ?_
  have hl : vs.length ≤ sizeLine := small_sz (by rw [← rvs.len, D1.1]; exact hz)
  exact ⟨hl, fun p hp => Den.at' D1.2 (Ext.new R1 hp) (R1.new hp) _ (RV.newL R1 hp hl rvs)⟩
theorem Den.alloc {ρ m H WW P p vs ws} (D : Den N ρ m H WW (WM.alloc (.lst ws) m) P) (R : Rl N ρ m H) (hp : H p = none) (hz : vs.length ≤ sizeLine) (r : RVs N ρ m.length H ws vs) :
    P (.ref m.length) (rAdd ρ m.length p) (.lst ws :: m) (upd H p (.lst vs)) ∧ RV N (rAdd ρ m.length p) (HOb.lst ws :: m).length (upd H p (.lst vs)) (.ref m.length) (.ref p) := by
  have e := Ext.live (o := .lst vs) (u := .lst ws) R hp
  refine ⟨D _ _ e (R.live hp ⟨vs, upd_same, hz, RVs.mono e _ _ r⟩), ?_, ?_⟩
  · rw [List.length_cons]; exact Nat.lt_succ_self _
  · rw [rAdd_same]
theorem sim_newl {es' : List E} {es : List Expr} {pos} (h : PA X es (tEs T N C es' Wx)) (hz : es'.length ≤ 1000) : PE X (.List es pos) (tE T N C (.newl es') Wx) := by
  refine (pe_lst h).imp fun σ H Q ⟨F, ρ, m, sg, R, S, D⟩ => ?_
  rw [evE] at D
  refine tEs.mk R S (Den.len (Den.bind D)) fun ws ρ1 m1 H1 vs e1 R1 D1 rvs => ?_
  have hl : vs.length ≤ sizeLine := small_sz (by rw [← rvs.len, D1.1]; exact hz)
  exact ⟨hl, fun p hp => let ⟨a, b⟩ := Den.alloc D1.2 R1 hp hl rvs; a _ b⟩

/-! ### operators -/
theorem sz_ok {n : Nat} (h : szOk n = true) : n ≤ sizeLine := by
  unfold szOk at h
  rw [sizeLine_eq]; exact of_decide_eq_true h
theorem Den.opt {α : Type} {ρ m H WW} {o : Option α} {P : α → (Nat → Addr) → Hm → Hp → Prop} (D : Den N ρ m H WW (WM.opt o m) P) : ∃ a, o = some a ∧ Den N ρ m H WW (WM.ret a m) P := by
  cases o with
  | none => exact D.elim
  | some a => exact ⟨a, rfl, D⟩
/-- an operator over values -/
def OpOk (X : Cx) (N : En) (f : Value → Value → Sem Value) (g : W → W → Option W) : Prop :=
  ∃ r, OpR X f r ∧ ∀ (F : Addr → Prop) (x y w : W) (v1 v2 : V) (ρ : Nat → Addr) (m : Hm) (H : Hp) (WW : Xc → (Nat → Addr) → Hm → Hp → Prop) (Q : VK), g x y = some w → Rl (N.wF F) ρ m H → RV (N.wF F) ρ m.length H x v1 → RV (N.wF F) ρ m.length H y v2 →
    Den (N.wF F) ρ m H WW (ret w m) (fun w ρ' m' H' => ∀ v, RV (N.wF F) ρ' m'.length H' w v → Q v H') → r v1 v2 H Q
theorem sim_bin {o : Bop} {p : Operator} {a b : Expr} {a' b' : E} {pos} (hop : OpOk X N (binaryOp p) (binW o)) (ha : PE X a (tE T N C a' Wx)) (hb : PE X b (tE T N C b' Wx)) : PE X (.BinOp a p b pos) (tE T N C (.bin o a' b') Wx) := by
  obtain ⟨r, h1, h2⟩ := hop
  refine (pe_op h1 ha hb).imp fun σ H Q ⟨F, ρ, m, sg, R, S, D⟩ => ?_
  rw [evE] at D
  refine tE.mk R S (Den.bind D) fun x ρ1 m1 H1 v1 e1 R1 D1 rv1 => ?_
  refine tE.mk R1 (S.mono e1) (Den.bind D1) fun y ρ2 m2 H2 v2 e2 R2 D2 rv2 => ?_
  obtain ⟨w, hw, D3⟩ := D2.opt
  exact h2 F x y w v1 v2 ρ2 m2 H2 _ Q hw R2 (RV.mono e2 _ _ rv1) rv2 D3
theorem sim_cmp {o : Cop} {p : CmpOp} {a b : Expr} {a' b' : E} {pos} (hop : OpOk X N (compareOp p) (cmpW o)) (hm : behindInMarks p b = false) (ha : PE X a (tE T N C a' Wx)) (hb : PE X b (tE T N C b' Wx)) :
    PE X (.Compare a [p] [b] pos) (tE T N C (.cmp o a' b') Wx) := by
  obtain ⟨r, h1, h2⟩ := hop
  refine (pe_cmpR h1 ha hb hm).imp fun σ H Q ⟨F, ρ, m, sg, R, S, D⟩ => ?_
  rw [evE] at D
  refine tE.mk R S (Den.bind D) fun x ρ1 m1 H1 v1 e1 R1 D1 rv1 => ?_
  refine tE.mk R1 (S.mono e1) (Den.bind D1) fun y ρ2 m2 H2 v2 e2 R2 D2 rv2 => ?_
  obtain ⟨w, hw, D3⟩ := D2.opt
  exact h2 F x y w v1 v2 ρ2 m2 H2 _ Q hw R2 (RV.mono e2 _ _ rv1) rv2 D3
theorem RV.bl_of {ρ k H b v} (h : RV N ρ k H (.bl b) v) : v = .bl b := h
theorem sim_cmpT {o : Cop} {p : CmpOp} {a b : Expr} {a' b' : E} {pos} (hop : OpOk X N (compareOp p) (cmpW o)) (hb2 : ∀ x y w, cmpW o x y = some w → ∃ k, w = .bl k) (hm : behindInMarks p b = false) (ha : PE X a (tE T N C a' Wx)) (hb : PE X b (tE T N C b' Wx)) :
    PT X (.Compare a [p] [b] pos) (tT T N C (.cmp o a' b') Wx) := by
  obtain ⟨r, h1, h2⟩ := hop
  refine (pt_cmpR h1 ha hb hm).imp fun σ H Q ⟨F, ρ, m, sg, R, S, D⟩ => ?_
  rw [evE] at D
  refine tE.mk R S (Den.bind D) fun x ρ1 m1 H1 v1 e1 R1 D1 rv1 => ?_
  refine tE.mk R1 (S.mono e1) (Den.bind D1) fun y ρ2 m2 H2 v2 e2 R2 D2 rv2 => ?_
  obtain ⟨w, hw, D3⟩ := D2.opt
  refine h2 F x y w v1 v2 ρ2 m2 H2 (WS (N.wF F) Wx σ) _ hw R2 (RV.mono e2 _ _ rv1) rv2 (D3.imp fun w ρ' m' H' _ _ ⟨k, e, q⟩ v rv => ?_)
  subst e
  exact ⟨k, rv, q⟩
end
end WM
namespace WM
open PySem PySem.Spec PyProof.Rows L2

section
variable {T : Tab} {N : En} {C : Calls} {X : Cx} {Wx : WX}
theorem RV.inv_int {ρ k H w i} (h : RV N ρ k H w (.int i)) : w = .int i := by
  cases w <;> first | (cases h; rfl) | (obtain ⟨_, _, e, _⟩ := h; cases e; done) | (cases h; done) | exact False.elim h | (obtain ⟨_, e⟩ := h; cases e)

/-! ### operators by values -/
theorem fin_val {w : W} {v : V} {ρ : Nat → Addr} {m : Hm} {H : Hp} {WW : Xc → (Nat → Addr) → Hm → Hp → Prop} {Q : VK} (R : Rl N ρ m H)
    (D : Den N ρ m H WW (ret w m) (fun w ρ' m' H' => ∀ v, RV N ρ' m'.length H' w v → Q v H')) (r : RV N ρ m.length H w v) : Q v H := Den.ret R D v r
theorem opok_of {f : Value → Value → Sem Value} {r : R2} {g : W → W → Option W} (h : OpR X f r)
    (h2 : ∀ (F : Addr → Prop) (x y w : W) (v1 v2 : V) (ρ : Nat → Addr) (m : Hm) (H : Hp) (Q : VK), g x y = some w → Rl (N.wF F) ρ m H → RV (N.wF F) ρ m.length H x v1 → RV (N.wF F) ρ m.length H y v2 →
      (∀ v, RV (N.wF F) ρ m.length H w v → Q v H) → (∀ p vs, H p = none → vs.length ≤ sizeLine → (∃ ws, w = .tup ws ∧ RVs (N.wF F) ρ m.length H ws vs) → Q (.ref p) (upd H p (.tup vs))) →
      (∀ p vs, H p = none → vs.length ≤ sizeLine → (∃ ws, w = .lst ws ∧ RVs (N.wF F) ρ m.length H ws vs) → Q (.ref p) (upd H p (.lst vs))) → r v1 v2 H Q) : OpOk X N f g := by
  refine ⟨r, h, fun F x y w v1 v2 ρ m H WW Q e R r1 r2 D => h2 F x y w v1 v2 ρ m H Q e R r1 r2 (fun v rv => Den.ret R D v rv) (fun p vs hp hz ⟨ws, ew, rv⟩ => ?_) (fun p vs hp hz ⟨ws, ew, rv⟩ => ?_)⟩
  · subst ew; exact Den.at' D (Ext.new R hp) (R.new hp) _ (RV.newT R hp hz rv)
  · subst ew; exact Den.at' D (Ext.new R hp) (R.new hp) _ (RV.newL R hp hz rv)

theorem ok_add (hK : X.K = N.K) : OpOk X N (binaryOp .Add) (binW .add) := by
  have hc := op_catA (X := X)
  rw [hK] at hc
  refine opok_of (op_add.or (hc.or (op_cat.or op_add_str))) fun F x y w v1 v2 ρ m H Q e R r1 r2 q qt ql => ?_
  cases x <;> cases y <;> first | (simp [binW] at e; done) | skip
  · -- int int
    rename_i i j
    cases r1; cases r2
    simp only [binW, Option.some.injEq] at e
    exact .inl ⟨i, j, rfl, rfl, q _ (by rw [← e]; rfl)⟩
  · -- str str
    rename_i a b
    cases r1; cases r2
    simp only [binW] at e
    split at e
    · rename_i hz
      cases e
      exact .inr (.inr (.inr ⟨a, b, rfl, rfl, sz_ok hz, q _ rfl⟩))
    · cases e
  · -- tup tup
    rename_i xs ys
    obtain ⟨a, vs, rfl, fa, ra⟩ := r1
    obtain ⟨b, us, rfl, fb, rb⟩ := r2
    simp only [binW] at e
    split at e
    · rename_i hz
      cases e
      have hl : vs.length + us.length ≤ sizeLine := by rw [← ra.len, ← rb.len]; exact sz_ok hz
      refine .inr (.inl ⟨a, b, vs, us, rfl, rfl, fa.seq, fb.seq, hl, fun z => ?_, fun z z2 => ?_, fun z z2 p hp => ?_⟩)
      · refine q _ ⟨b, us, rfl, fb, ?_⟩
        have : xs = [] := List.length_eq_zero_iff.mp (by rw [ra.len, z]; rfl)
        rw [this]; exact rb
      · refine q _ ⟨a, vs, rfl, fa, ?_⟩
        have : ys = [] := List.length_eq_zero_iff.mp (by rw [rb.len, z2]; rfl)
        rw [this, List.append_nil]; exact ra
      · exact qt p _ hp (by rw [List.length_append]; exact hl) ⟨_, rfl, ra.append rb⟩
    · cases e
  · -- lst lst
    rename_i xs ys
    obtain ⟨a, vs, rfl, fa, ra⟩ := r1
    obtain ⟨b, us, rfl, fb, rb⟩ := r2
    simp only [binW] at e
    split at e
    · rename_i hz
      cases e
      have hl : vs.length + us.length ≤ sizeLine := by rw [← ra.len, ← rb.len]; exact sz_ok hz
      exact .inr (.inr (.inl ⟨a, b, vs, us, rfl, rfl, fa.2.1, fb.2.1, hl, fun p hp => ql p _ hp (by rw [List.length_append]; exact hl) ⟨_, rfl, ra.append rb⟩⟩))
    · cases e
/-- an operator of two ints -/
theorem ok_ints {f : Value → Value → Sem Value} {Cc : Int → Int → Prop} {g : Int → Int → Int} {o : Bop} (h : OpR X f (rI Cc fun i j => .int (g i j)))
    (hb : ∀ x y w, binW o x y = some w → ∃ i j, x = .int i ∧ y = .int j ∧ Cc i j ∧ w = .int (g i j)) : OpOk X N f (binW o) :=
  opok_of h fun F x y w v1 v2 ρ m H Q e R r1 r2 q _ _ => by
    obtain ⟨i, j, rfl, rfl, hc, rfl⟩ := hb x y w e
    cases r1; cases r2
    exact ⟨i, j, rfl, rfl, hc, q _ rfl⟩
theorem ok_ints0 {f : Value → Value → Sem Value} {g : Int → Int → Int} {o : Bop} (h : OpR X f (rI0 fun i j => .int (g i j)))
    (hb : ∀ x y w, binW o x y = some w → ∃ i j, x = .int i ∧ y = .int j ∧ w = .int (g i j)) : OpOk X N f (binW o) :=
  opok_of h fun F x y w v1 v2 ρ m H Q e R r1 r2 q _ _ => by
    obtain ⟨i, j, rfl, rfl, rfl⟩ := hb x y w e
    cases r1; cases r2
    exact ⟨i, j, rfl, rfl, q _ rfl⟩
theorem ok_sub : OpOk X N (binaryOp .Sub) (binW .sub) := ok_ints0 op_sub fun x y w e => by
  cases x <;> cases y <;> first | (simp [binW] at e; done) | (simp only [binW, Option.some.injEq] at e; exact ⟨_, _, rfl, rfl, e.symm⟩)
def CMulA (i j : Int) : Prop := CMul i j ∨ CMulW i j
theorem OpR.orI {f : Value → Value → Sem Value} {c1 c2 : Int → Int → Prop} {g : Int → Int → V} (h : OpR X f (rI c1 g)) (h' : OpR X f (rI c2 g)) : OpR X f (rI (fun i j => c1 i j ∨ c2 i j) g) := by
  intro pins s σ H x y v u Q I r1 r2 q
  obtain ⟨i, j, e1, e2, hc, q⟩ := q
  rcases hc with hc | hc
  · exact h pins s σ H x y v u Q I r1 r2 ⟨i, j, e1, e2, hc, q⟩
  · exact h' pins s σ H x y v u Q I r1 r2 ⟨i, j, e1, e2, hc, q⟩
theorem RVs.flat {ρ k H ws vs} (h : RVs N ρ k H ws vs) : ∀ n : Nat, RVs N ρ k H (List.replicate n ws).flatten (List.replicate n vs).flatten
  | 0 => rfl
  | n + 1 => by
    rw [List.replicate_succ, List.flatten_cons, List.replicate_succ, List.flatten_cons]
    exact h.append (RVs.flat h n)
theorem flat_len {α : Type} (xs : List α) (n : Nat) : (List.replicate n xs).flatten.length = xs.length * n := by
  rw [List.length_flatten, List.map_replicate, List.sum_replicate_nat, Nat.mul_comm]
theorem ok_mul (hK : X.K = N.K) : OpOk X N (binaryOp .Mult) (binW .mul) := by
  have hc := op_repT (X := X)
  rw [hK] at hc
  refine opok_of ((OpR.orI op_mul op_mulW).or (hc.or op_rep)) fun F x y w v1 v2 ρ m H Q e R r1 r2 q qt ql => ?_
  cases x <;> cases y <;> first | (simp [binW] at e; done) | skip
  · -- int int
    simp only [binW] at e
    split at e
    · rename_i i j hz
      cases e
      cases r1; cases r2
      refine .inl ⟨_, _, rfl, rfl, ?_, q _ rfl⟩
      unfold mulOk at hz
      simp only [Bool.or_eq_true, Bool.and_eq_true, decide_eq_true_eq] at hz
      rcases hz with (hz | hz) | hz
      · exact .inl (.inl hz)
      · exact .inl (.inr hz)
      · exact .inr hz
    · cases e
  · -- tuple int
    rename_i xs k
    simp only [binW] at e
    split at e
    · rename_i hz
      cases e
      simp only [Bool.and_eq_true, decide_eq_true_eq] at hz
      obtain ⟨a, vs, rfl, fa, ra⟩ := r1
      cases r2
      refine .inr (.inl ⟨a, k, vs, rfl, rfl, fa.seq, fun z => hz.1.2 ?_, hz.1.1.1, hz.1.1.2, by rw [← ra.len]; exact hz.2, fun p hp => qt p _ hp ?_ ⟨_, rfl, ra.flat _⟩⟩)
      · exact List.length_eq_zero_iff.mp (by rw [ra.len, z]; rfl)
      · rw [flat_len, ← ra.len, sizeLine_eq]
        exact Nat.le_trans (Nat.mul_le_mul hz.2 (show k.toNat ≤ 1000 by omega)) (by decide)
    · cases e
  · -- list int
    rename_i xs k
    simp only [binW] at e
    split at e
    · rename_i hz
      cases e
      simp only [Bool.and_eq_true, decide_eq_true_eq] at hz
      obtain ⟨a, vs, rfl, fa, ra⟩ := r1
      cases r2
      have hl : vs.length * k.toNat ≤ sizeLine := by rw [← ra.len]; exact sz_ok hz.2
      refine .inr (.inr ⟨a, k, vs, rfl, rfl, fa.2.1, by omega, by omega, hl, fun p hp => ql p _ hp ?_ ⟨_, rfl, ra.flat _⟩⟩)
      rw [flat_len]; exact hl
    · cases e
theorem ok_fdiv : OpOk X N (binaryOp .FloorDiv) (binW .fdiv) := ok_ints (OpR.orI op_fdiv op_fdivW) fun x y w e => by
  cases x <;> cases y <;> first | (simp [binW] at e; done) | skip
  simp only [binW] at e
  split at e
  · rename_i i j hz
    cases e
    refine ⟨_, _, rfl, rfl, ?_, rfl⟩
    simp only [Bool.or_eq_true, Bool.and_eq_true, decide_eq_true_eq] at hz
    rcases hz with ⟨h0, hz | hz⟩
    · exact .inl ⟨h0, hz⟩
    · exact .inr ⟨h0, hz⟩
  · cases e
theorem ok_mod : OpOk X N (binaryOp .Mod) (binW .mod) := ok_ints op_mod fun x y w e => by
  cases x <;> cases y <;> first | (simp [binW] at e; done) | skip
  simp only [binW] at e
  split at e
  · rename_i i j hz
    cases e
    exact ⟨_, _, rfl, rfl, of_decide_eq_true hz, rfl⟩
  · cases e
theorem ok_pow : OpOk X N (binaryOp .Pow) (binW .pow) := ok_ints op_pow fun x y w e => by
  cases x <;> cases y <;> first | (simp [binW] at e; done) | skip
  simp only [binW] at e
  split at e
  · rename_i i j hz
    cases e
    simp only [Bool.and_eq_true, decide_eq_true_eq] at hz
    exact ⟨_, _, rfl, rfl, ⟨hz.1.1, hz.1.2, hz.2⟩, rfl⟩
  · cases e
theorem ok_shl : OpOk X N (binaryOp .LShift) (binW .shl) := ok_ints op_shl fun x y w e => by
  cases x <;> cases y <;> first | (simp [binW] at e; done) | skip
  simp only [binW] at e
  split at e
  · rename_i i j hz
    cases e
    simp only [Bool.and_eq_true, decide_eq_true_eq] at hz
    exact ⟨_, _, rfl, rfl, ⟨hz.1.1, hz.1.2, hz.2⟩, rfl⟩
  · cases e
theorem ok_shr : OpOk X N (binaryOp .RShift) (binW .shr) := ok_ints op_shr fun x y w e => by
  cases x <;> cases y <;> first | (simp [binW] at e; done) | skip
  simp only [binW] at e
  split at e
  · rename_i i j hz
    cases e
    exact ⟨_, _, rfl, rfl, of_decide_eq_true hz, rfl⟩
  · cases e
theorem ok_band : OpOk X N (binaryOp .BitAnd) (binW .band) := ok_ints0 op_and fun x y w e => by
  cases x <;> cases y <;> first | (simp [binW] at e; done) | (simp only [binW, Option.some.injEq] at e; exact ⟨_, _, rfl, rfl, e.symm⟩)
theorem ok_bor : OpOk X N (binaryOp .BitOr) (binW .bor) := ok_ints0 op_or fun x y w e => by
  cases x <;> cases y <;> first | (simp [binW] at e; done) | (simp only [binW, Option.some.injEq] at e; exact ⟨_, _, rfl, rfl, e.symm⟩)
def opB : Bop → Operator
  | .add => .Add | .sub => .Sub | .mul => .Mult | .fdiv => .FloorDiv | .mod => .Mod | .pow => .Pow | .shl => .LShift | .shr => .RShift | .band => .BitAnd | .bor => .BitOr
theorem ok_bop (hK : X.K = N.K) : ∀ o, OpOk X N (binaryOp (opB o)) (binW o)
  | .add => ok_add hK | .sub => ok_sub | .mul => ok_mul hK | .fdiv => ok_fdiv | .mod => ok_mod | .pow => ok_pow | .shl => ok_shl | .shr => ok_shr | .band => ok_band | .bor => ok_bor

/-! ### data, == -/
mutual
def datP : W → PyData
  | .non => .none
  | .bl b => .bool b
  | .int i => .int i
  | .str x => .str x
  | .tup xs => .tuple (datsP xs)
  | .lst xs => .list (datsP xs)
  | .klst _ => .none
  | .ref _ => .none
  | .dct _ _ => .none
  | .ins _ _ => .none
def datsP : List W → List PyData
  | [] => []
  | x :: xs => datP x :: datsP xs
end
mutual
theorem isD_shaped : ∀ (w : W) (n : Nat), W.isD n w = true → (datP w).canLay0 = true ∧ (datP w).depth ≤ n
  | .non, n, _ => ⟨rfl, by rw [datP, PyData.depth]; exact Nat.zero_le _⟩
  | .bl _, n, _ => ⟨rfl, by rw [datP, PyData.depth]; exact Nat.zero_le _⟩
  | .int _, n, _ => ⟨rfl, by rw [datP, PyData.depth]; exact Nat.zero_le _⟩
  | .str x, n, h => by
    rw [W.isD] at h
    rw [datP]
    exact ⟨by rw [PyData.canLay0]; exact h, by rw [PyData.depth]; exact Nat.zero_le _⟩
  | .tup xs, 0, h => by rw [W.isD] at h; cases h
  | .tup xs, n + 1, h => by
    rw [W.isD] at h
    obtain ⟨h1, h2⟩ := isDs_shaped xs n h
    rw [datP]
    exact ⟨by rw [PyData.canLay0]; exact h1, by rw [PyData.depth]; omega⟩
  | .lst xs, 0, h => by rw [W.isD] at h; cases h
  | .lst xs, n + 1, h => by
    rw [W.isD] at h
    obtain ⟨h1, h2⟩ := isDs_shaped xs n h
    rw [datP]
    exact ⟨by rw [PyData.canLay0]; exact h1, by rw [PyData.depth]; omega⟩
  | .klst _, n, h => by rw [W.isD] at h; cases h
  | .ref _, n, h => by rw [W.isD] at h; cases h
  | .dct _ _, n, h => by rw [W.isD] at h; cases h
  | .ins _ _, n, h => by rw [W.isD] at h; cases h
theorem isDs_shaped : ∀ (ws : List W) (n : Nat), W.isDs n ws = true → PyData.canLayAll0 (datsP ws) = true ∧ PyData.depthAll (datsP ws) ≤ n
  | [], n, _ => ⟨by rw [datsP, PyData.canLayAll0], by rw [datsP, PyData.depthAll]; exact Nat.zero_le _⟩
  | x :: xs, n, h => by
    rw [W.isDs, Bool.and_eq_true] at h
    obtain ⟨h1, h2⟩ := isD_shaped x n h.1
    obtain ⟨h3, h4⟩ := isDs_shaped xs n h.2
    rw [datsP]
    exact ⟨by rw [PyData.canLayAll0, h1, h3]; rfl, by rw [PyData.depthAll]; omega⟩
end
mutual
theorem eqv_datP : ∀ (a b : W) (n k : Nat), W.isD n a = true → W.isD k b = true → PyData.eqv (datP a) (datP b) = W.eqv a b
  | a, b, n, k, ha, hb => by
    cases a with
    | tup xs =>
      cases b with
      | tup ys =>
        cases n with
        | zero => rw [W.isD] at ha; cases ha
        | succ n =>
          cases k with
          | zero => rw [W.isD] at hb; cases hb
          | succ k =>
            rw [W.isD] at ha hb
            rw [datP, datP, PyData.eqv, W.eqv]
            exact eqvs_datP xs ys n k ha hb
      | _ => first | (simp [datP, PyData.eqv, W.eqv]; done) | (simp [W.isD] at hb; done)
    | lst xs =>
      cases b with
      | lst ys =>
        cases n with
        | zero => rw [W.isD] at ha; cases ha
        | succ n =>
          cases k with
          | zero => rw [W.isD] at hb; cases hb
          | succ k =>
            rw [W.isD] at ha hb
            rw [datP, datP, PyData.eqv, W.eqv]
            exact eqvs_datP xs ys n k ha hb
      | _ => first | (simp [datP, PyData.eqv, W.eqv]; done) | (simp [W.isD] at hb; done)
    | klst _ => simp [W.isD] at ha
    | ref _ => simp [W.isD] at ha
    | dct _ _ => simp [W.isD] at ha
    | ins _ _ => simp [W.isD] at ha
    | _ => cases b <;> first | (simp [datP, PyData.eqv, W.eqv]; done) | (simp [W.isD] at hb; done) | (simp only [datP, PyData.eqv, W.eqv]; rfl) | (simp only [datP, PyData.eqv, W.eqv]; exact Bool.beq_eq_decide_eq _ _)
theorem eqvs_datP : ∀ (a b : List W) (n k : Nat), W.isDs n a = true → W.isDs k b = true → PyData.eqvAll (datsP a) (datsP b) = W.eqvs a b
  | [], [], _, _, _, _ => by rw [datsP, PyData.eqvAll, W.eqvs]
  | [], _ :: _, _, _, _, _ => by simp [datsP, PyData.eqvAll, W.eqvs]
  | _ :: _, [], _, _, _, _ => by simp [datsP, PyData.eqvAll, W.eqvs]
  | x :: xs, y :: ys, n, k, ha, hb => by
    rw [W.isDs, Bool.and_eq_true] at ha hb
    rw [datsP, datsP, PyData.eqvAll, W.eqvs, eqv_datP x y n k ha.1 hb.1, eqvs_datP xs ys n k ha.2 hb.2]
end
mutual
theorem RV.dp {ρ k H} : ∀ (w : W) (v : V) (n : Nat), W.isD n w = true → RV N ρ k H w v → Dp N.K H v (datP w)
  | .non, _, _, _, h => by cases h; exact .non
  | .bl _, _, _, _, h => by cases h; exact .bl _
  | .int _, _, _, _, h => by cases h; exact .int _
  | .str _, _, _, _, h => by cases h; exact .str _
  | .tup ws, _, 0, hd, _ => by rw [W.isD] at hd; cases hd
  | .tup ws, _, n + 1, hd, ⟨a, vs, h1, h2, h3⟩ => by
    rw [W.isD] at hd
    rw [h1, datP]
    exact .tup h2.seq (RVs.dp ws vs n hd h3)
  | .lst ws, _, 0, hd, _ => by rw [W.isD] at hd; cases hd
  | .lst ws, _, n + 1, hd, ⟨a, vs, h1, h2, h3⟩ => by
    rw [W.isD] at hd
    rw [h1, datP]
    exact .lst h2.seq (RVs.dp ws vs n hd h3)
  | .klst _, _, _, hd, _ => by rw [W.isD] at hd; cases hd
  | .ref _, _, _, hd, _ => by rw [W.isD] at hd; cases hd
  | .dct _ _, _, _, hd, _ => by rw [W.isD] at hd; cases hd
  | .ins _ _, _, _, hd, _ => by rw [W.isD] at hd; cases hd
theorem RVs.dp {ρ k H} : ∀ (ws : List W) (vs : List V) (n : Nat), W.isDs n ws = true → RVs N ρ k H ws vs → DpAll N.K H vs (datsP ws)
  | [], _, _, _, h => by rw [h, datsP]; exact .nil
  | w :: ws, _, n, hd, ⟨v, r, h1, h2, h3⟩ => by
    rw [W.isDs, Bool.and_eq_true] at hd
    rw [h1, datsP]
    exact .cons (RV.dp w v n hd.1 h2) (RVs.dp ws r n hd.2 h3)
end
theorem shaped60 {w : W} (h : W.isD 60 w = true) : SeqAt.shaped (datP w) = true := by
  obtain ⟨h1, h2⟩ := isD_shaped w 60 h
  unfold SeqAt.shaped
  rw [h1, Bool.true_and]
  exact decide_eq_true (by omega)
theorem ok_eq (hK : X.K = N.K) (hu : X.A.units + 64 < cLine) : OpOk X N (compareOp .Eq) (cmpW .eq) := by
  have hc := op_eqD (X := X) hu
  rw [hK] at hc
  refine opok_of hc fun F x y w v1 v2 ρ m H Q e R r1 r2 q _ _ => ?_
  rw [cmpW] at e
  split at e
  · rename_i hd
    rw [Bool.and_eq_true] at hd
    cases e
    refine ⟨datP x, datP y, RV.dp (N := N.wF F) x v1 60 hd.1 r1, RV.dp (N := N.wF F) y v2 60 hd.2 r2, shaped60 hd.1, shaped60 hd.2, ?_⟩
    rw [eqv_datP x y 60 60 hd.1 hd.2]
    exact q _ rfl
  · cases e
theorem ok_ne (hK : X.K = N.K) (hu : X.A.units + 64 < cLine) : OpOk X N (compareOp .NotEq) (cmpW .ne) := by
  have hc := op_neD (X := X) hu
  rw [hK] at hc
  refine opok_of hc fun F x y w v1 v2 ρ m H Q e R r1 r2 q _ _ => ?_
  rw [cmpW] at e
  split at e
  · rename_i hd
    rw [Bool.and_eq_true] at hd
    cases e
    refine ⟨datP x, datP y, RV.dp (N := N.wF F) x v1 60 hd.1 r1, RV.dp (N := N.wF F) y v2 60 hd.2 r2, shaped60 hd.1, shaped60 hd.2, ?_⟩
    rw [eqv_datP x y 60 60 hd.1 hd.2]
    exact q _ rfl
  · cases e
/-- an order of two ints -/
theorem ok_ord {f : Value → Value → Sem Value} {g : Int → Int → Bool} {o : Cop} (h : OpR X f (rI0 fun i j => .bl (g i j)))
    (hb : ∀ x y w, cmpW o x y = some w → ∃ i j, x = .int i ∧ y = .int j ∧ w = .bl (g i j)) : OpOk X N f (cmpW o) :=
  opok_of h fun F x y w v1 v2 ρ m H Q e R r1 r2 q _ _ => by
    obtain ⟨i, j, rfl, rfl, rfl⟩ := hb x y w e
    cases r1; cases r2
    exact ⟨i, j, rfl, rfl, q _ rfl⟩
theorem ok_lt : OpOk X N (compareOp .Lt) (cmpW .lt) := ok_ord op_lt fun x y w e => by
  cases x <;> cases y <;> first | (simp [cmpW] at e; done) | (simp only [cmpW, Option.some.injEq] at e; exact ⟨_, _, rfl, rfl, e.symm⟩)
theorem ok_le : OpOk X N (compareOp .LtE) (cmpW .le) := ok_ord op_le fun x y w e => by
  cases x <;> cases y <;> first | (simp [cmpW] at e; done) | (simp only [cmpW, Option.some.injEq] at e; exact ⟨_, _, rfl, rfl, e.symm⟩)
theorem ok_gt : OpOk X N (compareOp .Gt) (cmpW .gt) := ok_ord op_gt fun x y w e => by
  cases x <;> cases y <;> first | (simp [cmpW] at e; done) | (simp only [cmpW, Option.some.injEq] at e; exact ⟨_, _, rfl, rfl, e.symm⟩)
theorem ok_ge : OpOk X N (compareOp .GtE) (cmpW .ge) := ok_ord op_ge fun x y w e => by
  cases x <;> cases y <;> first | (simp [cmpW] at e; done) | (simp only [cmpW, Option.some.injEq] at e; exact ⟨_, _, rfl, rfl, e.symm⟩)
theorem RV.non_iff {ρ k H} {w : W} {v : V} (h : RV N ρ k H w v) : decide (v = .non) = isNon w := by
  cases w with
  | non => cases h; rfl
  | bl _ => cases h; rfl
  | int _ => cases h; rfl
  | str _ => cases h; rfl
  | tup _ => obtain ⟨_, _, rfl, _⟩ := h; rfl
  | lst _ => obtain ⟨_, _, rfl, _⟩ := h; rfl
  | klst _ => obtain ⟨_, _, rfl, _⟩ := h; rfl
  | ref _ => obtain ⟨_, rfl⟩ := h; rfl
  | dct _ _ => exact h.elim
  | ins _ _ => exact h.elim
theorem ok_is : OpOk X N (compareOp .Is) (cmpW .is) := by
  refine opok_of (op_isN.or op_isBl) fun F x y w v1 v2 ρ m H Q e R r1 r2 q _ _ => ?_
  cases y with
  | non =>
    cases r2
    have e' : some (W.bl (isNon x)) = some w := by rw [← e]; cases x <;> rfl
    cases e'
    exact .inl ⟨rfl, q _ (by rw [RV.non_iff r1]; rfl)⟩
  | bl b =>
    cases x with
    | bl a =>
      cases r1; cases r2
      simp only [cmpW, Option.some.injEq] at e
      exact .inr ⟨a, b, rfl, rfl, q _ (by rw [← e]; rfl)⟩
    | _ => simp [cmpW] at e
  | _ => cases x <;> (simp [cmpW] at e)
theorem ok_isnot : OpOk X N (compareOp .IsNot) (cmpW .isnot) := by
  refine opok_of (op_notN.or op_notBl) fun F x y w v1 v2 ρ m H Q e R r1 r2 q _ _ => ?_
  cases y with
  | non =>
    cases r2
    have e' : some (W.bl (!isNon x)) = some w := by rw [← e]; cases x <;> rfl
    cases e'
    exact .inl ⟨rfl, q _ (by rw [RV.non_iff r1]; rfl)⟩
  | bl b =>
    cases x with
    | bl a =>
      cases r1; cases r2
      simp only [cmpW, Option.some.injEq] at e
      exact .inr ⟨a, b, rfl, rfl, q _ (by rw [← e]; rfl)⟩
    | _ => simp [cmpW] at e
  | _ => cases x <;> (simp [cmpW] at e)
end
end WM
namespace WM
open PySem PySem.Spec PyProof.Rows L2

section
variable {T : Tab} {N : En} {C : Calls} {X : Cx} {Wx : WX}

/-! ### truth -/
theorem sim_and {a b : Expr} {rest : List Expr} {a' b' : E} {pos} (ha : PE X a (tE T N C a' Wx)) (hb : PE X (.BoolOp .And (b :: rest) pos) (tE T N C b' Wx)) :
    PE X (.BoolOp .And (a :: b :: rest) pos) (tE T N C (.and a' b') Wx) := by
  refine (pe_and ha hb).imp fun σ H Q ⟨F, ρ, m, sg, R, S, D⟩ => ?_
  rw [evE] at D
  refine tE.mk R S (Den.bind D) fun x ρ1 m1 H1 v1 e1 R1 D1 rv1 => ?_
  cases x with
  | bl c =>
    cases c with
    | true => exact ⟨true, rv1, iteT ⟨F, ρ1, m1, sg, R1, S.mono e1, D1⟩⟩
    | false => exact ⟨false, rv1, iteF (Den.ret R1 D1 _ rfl)⟩
  | _ => exact False.elim D1
theorem sim_or {a b : Expr} {rest : List Expr} {a' b' : E} {pos} (ha : PE X a (tE T N C a' Wx)) (hb : PE X (.BoolOp .Or (b :: rest) pos) (tE T N C b' Wx)) :
    PE X (.BoolOp .Or (a :: b :: rest) pos) (tE T N C (.or a' b') Wx) := by
  refine (pe_or ha hb).imp fun σ H Q ⟨F, ρ, m, sg, R, S, D⟩ => ?_
  rw [evE] at D
  refine tE.mk R S (Den.bind D) fun x ρ1 m1 H1 v1 e1 R1 D1 rv1 => ?_
  cases x with
  | bl c =>
    cases c with
    | true => exact ⟨true, rv1, iteT (Den.ret R1 D1 _ rfl)⟩
    | false => exact ⟨false, rv1, iteF ⟨F, ρ1, m1, sg, R1, S.mono e1, D1⟩⟩
  | _ => exact False.elim D1
theorem sim_andT {a b : Expr} {rest : List Expr} {a' b' : E} {pos} (ha : PT X a (tT T N C a' Wx)) (hb : PW X (.BoolOp .And (b :: rest) pos) (tT T N C b' Wx)) :
    PW X (.BoolOp .And (a :: b :: rest) pos) (tT T N C (.and a' b') Wx) := by
  refine (pw_and ha hb).imp fun σ H Q ⟨F, ρ, m, sg, R, S, D⟩ => ?_
  rw [evE] at D
  refine tT.mk R S (Den.bind D) fun x ρ1 m1 H1 e1 R1 D1 => ?_
  cases x with
  | bl c =>
    cases c with
    | true => exact ⟨true, rfl, iteT ⟨F, ρ1, m1, sg, R1, S.mono e1, D1⟩⟩
    | false =>
      obtain ⟨b, e, q⟩ := Den.ret R1 D1
      cases e
      exact ⟨false, rfl, iteF q⟩
  | _ => exact False.elim D1
theorem sim_orT {a b : Expr} {rest : List Expr} {a' b' : E} {pos} (ha : PT X a (tT T N C a' Wx)) (hb : PW X (.BoolOp .Or (b :: rest) pos) (tT T N C b' Wx)) :
    PW X (.BoolOp .Or (a :: b :: rest) pos) (tT T N C (.or a' b') Wx) := by
  refine (pw_or ha hb).imp fun σ H Q ⟨F, ρ, m, sg, R, S, D⟩ => ?_
  rw [evE] at D
  refine tT.mk R S (Den.bind D) fun x ρ1 m1 H1 e1 R1 D1 => ?_
  cases x with
  | bl c =>
    cases c with
    | true =>
      obtain ⟨b, e, q⟩ := Den.ret R1 D1
      cases e
      exact ⟨true, rfl, iteT q⟩
    | false => exact ⟨false, rfl, iteF ⟨F, ρ1, m1, sg, R1, S.mono e1, D1⟩⟩
  | _ => exact False.elim D1
theorem sim_not {a : Expr} {a' : E} {pos} (ha : PE X a (tE T N C a' Wx)) : PE X (.UnaryOp .Not a pos) (tE T N C (.not a') Wx) := by
  refine (pe_not ha).imp fun σ H Q ⟨F, ρ, m, sg, R, S, D⟩ => ?_
  rw [evE] at D
  refine tE.mk R S (Den.bind D) fun x ρ1 m1 H1 v1 e1 R1 D1 rv1 => ?_
  cases x with
  | bl c => exact ⟨c, rv1, Den.ret R1 D1 _ rfl⟩
  | _ => exact False.elim D1
theorem sim_notT {a : Expr} {a' : E} {pos} (ha : PT X a (tT T N C a' Wx)) : PT X (.UnaryOp .Not a pos) (tT T N C (.not a') Wx) := by
  refine (pt_not ha).imp fun σ H Q ⟨F, ρ, m, sg, R, S, D⟩ => ?_
  rw [evE] at D
  refine tT.mk R S (Den.bind D) fun x ρ1 m1 H1 e1 R1 D1 => ?_
  cases x with
  | bl c =>
    obtain ⟨b, e, q⟩ := Den.ret R1 D1
    cases e
    exact ⟨c, rfl, q⟩
  | _ => exact False.elim D1
theorem sim_neg {a : Expr} {a' : E} {pos} (ha : PE X a (tE T N C a' Wx)) : PE X (.UnaryOp .USub a pos) (tE T N C (.neg a') Wx) := by
  refine (pe_un un_neg ha).imp fun σ H Q ⟨F, ρ, m, sg, R, S, D⟩ => ?_
  rw [evE] at D
  refine tE.mk R S (Den.bind D) fun x ρ1 m1 H1 v1 e1 R1 D1 rv1 => ?_
  cases x with
  | int c => exact ⟨c, rv1, Den.ret R1 D1 _ rfl⟩
  | _ => exact False.elim D1
theorem sim_ife {c a b : Expr} {c' a' b' : E} {pos} (hc : PT X c (tT T N C c' Wx)) (ha : PE X a (tE T N C a' Wx)) (hb : PE X b (tE T N C b' Wx)) : PE X (.IfExp c a b pos) (tE T N C (.ife c' a' b') Wx) := by
  refine (pe_ifExp hc ha hb).imp fun σ H Q ⟨F, ρ, m, sg, R, S, D⟩ => ?_
  rw [evE] at D
  refine tT.mk R S (Den.bind D) fun x ρ1 m1 H1 e1 R1 D1 => ?_
  cases x with
  | bl c =>
    refine ⟨c, rfl, ?_⟩
    cases c with
    | true => exact iteT ⟨F, ρ1, m1, sg, R1, S.mono e1, D1⟩
    | false => exact iteF ⟨F, ρ1, m1, sg, R1, S.mono e1, D1⟩
  | _ => exact False.elim D1
/-- a value that is a bool, as a test -/
theorem sim_val {e : Expr} {e' : E} (h : PE X e (tE T N C e' Wx)) (he : ∀ whole, isTrue e X.env whole = (do let v ← whole; standAt e.pos; holding [v] (truthy v))) : PT X e (tT T N C e' Wx) := by
  refine (pt_val h he).imp fun σ H Q ⟨F, ρ, m, sg, R, S, D⟩ => ?_
  refine tE.mk R S D fun x ρ1 m1 H1 v1 e1 R1 ⟨b, e, q⟩ rv1 => ?_
  subst e
  exact ⟨b, rv1, q⟩
theorem sim_cmp2 {o o2 : Cop} {p p2 : CmpOp} {a b c : Expr} {a' b' c' : E} {pos} (hop : OpOk X N (compareOp p) (cmpW o)) (hop2 : OpOk X N (compareOp p2) (cmpW o2)) (hm : lastMarks [p, p2] [b, c] = false)
    (hb1 : ∀ x y w, cmpW o x y = some w → ∃ k, w = .bl k)
    (ha : PE X a (tE T N C a' Wx)) (hb : PE X b (tE T N C b' Wx)) (hc : PE X c (tE T N C c' Wx)) : PE X (.Compare a [p, p2] [b, c] pos) (tE T N C (.cmp2 o o2 a' b' c') Wx) := by
  obtain ⟨r, h1, h2⟩ := hop
  obtain ⟨r', h1', h2'⟩ := hop2
  refine (pe_chain h1 h1' ha hb hc hm).imp fun σ H Q ⟨F, ρ, m, sg, R, S, D⟩ => ?_
  rw [evE] at D
  refine tE.mk R S (Den.bind D) fun x ρ1 m1 H1 v1 e1 R1 D1 rv1 => ?_
  refine tE.mk R1 (S.mono e1) (Den.bind D1) fun y ρ2 m2 H2 v2 e2 R2 D2 rv2 => ?_
  obtain ⟨w, hw, D3⟩ := (Den.bind D2).opt
  obtain ⟨k, ek⟩ := hb1 x y w hw
  subst ek
  refine h2 F x y _ v1 v2 ρ2 m2 H2 (WS (N.wF F) Wx σ) _ hw R2 (RV.mono e2 _ _ rv1) rv2 (D3.imp fun w ρ3 m3 H3 e3 R3 D4 v rv => ?_)
  cases w with
  | bl c =>
    refine ⟨c, rv, ?_⟩
    cases c with
    | true =>
      refine iteT (tE.mk R3 ((S.mono (e1.trans e2)).mono e3) (Den.bind D4) fun u ρ4 m4 H4 v4 e4 R4 D5 rv4 => ?_)
      obtain ⟨w5, hw5, D6⟩ := D5.opt
      exact h2' F y u w5 v2 v4 ρ4 m4 H4 _ Q hw5 R4 (RV.mono (e3.trans e4) _ _ rv2) rv4 D6
    | false => exact iteF (Den.ret R3 D4 _ rfl)
  | _ => exact False.elim D4
theorem sim_cmp2T {o o2 : Cop} {p p2 : CmpOp} {a b c : Expr} {a' b' c' : E} {pos} (hop : OpOk X N (compareOp p) (cmpW o)) (hop2 : OpOk X N (compareOp p2) (cmpW o2)) (hm : lastMarks [p, p2] [b, c] = false)
    (hb1 : ∀ x y w, cmpW o x y = some w → ∃ k, w = .bl k) (hb2 : ∀ x y w, cmpW o2 x y = some w → ∃ k, w = .bl k)
    (ha : PE X a (tE T N C a' Wx)) (hb : PE X b (tE T N C b' Wx)) (hc : PE X c (tE T N C c' Wx)) : PT X (.Compare a [p, p2] [b, c] pos) (tT T N C (.cmp2 o o2 a' b' c') Wx) := by
  obtain ⟨r, h1, h2⟩ := hop
  obtain ⟨r', h1', h2'⟩ := hop2
  refine (pt_chain h1 h1' ha hb hc hm).imp fun σ H Q ⟨F, ρ, m, sg, R, S, D⟩ => ?_
  rw [evE] at D
  refine tE.mk R S (Den.bind D) fun x ρ1 m1 H1 v1 e1 R1 D1 rv1 => ?_
  refine tE.mk R1 (S.mono e1) (Den.bind D1) fun y ρ2 m2 H2 v2 e2 R2 D2 rv2 => ?_
  obtain ⟨w, hw, D3⟩ := (Den.bind D2).opt
  obtain ⟨k, ek⟩ := hb1 x y w hw
  subst ek
  refine h2 F x y _ v1 v2 ρ2 m2 H2 (WS (N.wF F) Wx σ) _ hw R2 (RV.mono e2 _ _ rv1) rv2 (D3.imp fun w ρ3 m3 H3 e3 R3 D4 v rv => ?_)
  cases w with
  | bl c =>
    refine ⟨c, rv, ?_⟩
    cases c with
    | true =>
      refine iteT (tE.mk R3 ((S.mono (e1.trans e2)).mono e3) (Den.bind D4) fun u ρ4 m4 H4 v4 e4 R4 D5 rv4 => ?_)
      obtain ⟨w5, hw5, D6⟩ := D5.opt
      refine h2' F y u w5 v2 v4 ρ4 m4 H4 (WS (N.wF F) Wx σ) _ hw5 R4 (RV.mono (e3.trans e4) _ _ rv2) rv4 (D6.imp fun w ρ' m' H' _ _ ⟨k, e, q⟩ v rv => ?_)
      subst e
      exact ⟨k, rv, q⟩
    | false =>
      obtain ⟨b, e, q⟩ := Den.ret R3 D4
      cases e
      exact iteF ⟨false, rfl, q⟩
  | _ => exact False.elim D4

/-! ### items, slices -/
theorem seq_of {w : W} {v : V} {ρ m H xs} (R : Rl N ρ m H) (r : RV N ρ m.length H w v) (e : seqW m w = some xs) :
    ∃ a vs, v = .ref a ∧ RVs N ρ m.length H xs vs ∧ vs.length ≤ sizeLine ∧ (SqL N.K H a vs ∨ SqT N.K H a vs) := by
  cases w with
  | tup ws =>
    obtain ⟨a, vs, h1, h2, h3⟩ := r
    cases e
    exact ⟨a, vs, h1, h3, h2.1, .inr h2.seq⟩
  | lst ws =>
    obtain ⟨a, vs, h1, h2, h3⟩ := r
    cases e
    exact ⟨a, vs, h1, h3, h2.1, .inl h2.seq⟩
  | klst ws =>
    obtain ⟨a, vs, h1, h2, h3⟩ := r
    cases e
    exact ⟨a, vs, h1, h3, h2.1, .inl h2.seq⟩
  | ref n =>
    obtain ⟨h1, h2⟩ := r
    have e' : (match hget m n with | some (.lst xs) => some xs | _ => none) = some xs := e
    cases q : hget m n with
    | none => rw [q] at e'; cases e'
    | some o =>
      rw [q] at e'
      cases o with
      | lst ws =>
        cases e'
        obtain ⟨vs, h3, h4, h5⟩ := R.obj _ _ q
        exact ⟨_, vs, h2, h5, h4, .inl (SqL.of h3)⟩
      | _ => cases e'
  | _ => cases e
theorem Den.seqM {α : Type} {ρ m H WW} {w : W} {f : List W → M α} {P : α → (Nat → Addr) → Hm → Hp → Prop} (D : Den N ρ m H WW (bnd (seqM w) f m) P) : ∃ xs, seqW m w = some xs ∧ Den N ρ m H WW (f xs m) P := by
  unfold bnd WM.seqM at D
  cases e : seqW m w with
  | none => rw [e] at D; exact False.elim D
  | some xs => rw [e] at D; exact ⟨xs, rfl, D⟩
theorem RVs.atI {ρ k H} {ws : List W} {vs : List V} {i : Int} {w : W} (h : RVs N ρ k H ws vs) (e : L2.atI ws i = some w) : ∃ v, L2.atI vs i = some v ∧ RV N ρ k H w v := by
  unfold L2.atI at e ⊢
  rw [← h.len]
  cases q : ixN ws.length i with
  | none => rw [q] at e; cases e
  | some j =>
    rw [q] at e
    obtain ⟨v, h1, h2⟩ := h.get (i := j) (w := w) e
    exact ⟨v, h1, h2⟩
theorem sim_idx {a b : Expr} {a' b' : E} {pos} (hK : X.K = N.K) (ha : PE X a (tE T N C a' Wx)) (hb : PE X b (tE T N C b' Wx)) (hs : PlainIx b) : PE X (.Subscript a b pos) (tE T N C (.idx a' b') Wx) := by
  have hi := ix_list.or (ix_tup (X := X))
  rw [hK] at hi
  refine (pe_ix hi ha hb hs).imp fun σ H Q ⟨F, ρ, m, sg, R, S, D⟩ => ?_
  rw [evE] at D
  refine tE.mk R S (Den.bind D) fun x ρ1 m1 H1 v1 e1 R1 D1 rv1 => ?_
  refine tE.mk R1 (S.mono e1) (Den.bind D1) fun y ρ2 m2 H2 v2 e2 R2 D2 rv2 => ?_
  obtain ⟨xs, hx, D3⟩ := Den.seqM D2
  obtain ⟨p, vs, ep, hvs, hz, hq⟩ := seq_of R2 (RV.mono e2 _ _ rv1) hx
  obtain ⟨w, hw, D4⟩ := D3.opt
  cases y with
  | int i =>
    obtain ⟨v, hv, rv⟩ := hvs.atI (i := i) hw
    have q := Den.ret R2 D4 v rv
    rcases hq with hq | hq
    · exact .inl ⟨p, vs, i, v, ep, rv2, hq, hv, q⟩
    · exact .inr ⟨p, vs, i, v, ep, rv2, hq, hv, q⟩
  | _ => cases hw
def tP (T : Tab) (N : En) (C : Calls) (e : E) (Wx : WX) : TO := fun σ H R => ∃ F ρ m sg, Rl (N.wF F) ρ m H ∧ RS (N.wF F) ρ m.length H sg σ ∧ Den (N.wF F) ρ m H (WS (N.wF F) Wx σ) (partM e (evE T C e sg) m) (fun o ρ' m' H' => R o H')
theorem PO.imp {e : Option Expr} {t t' : TO} (h : PO X e t) (i : ∀ σ H Q, t' σ H Q → t σ H Q) : PO X e t' := ⟨fun pins s σ H Q I q => h.run pins s σ H Q I (i σ H Q q)⟩
theorem tP.mk {e : E} {σ H Q F ρ m sg P} (R : Rl (N.wF F) ρ m H) (S : RS (N.wF F) ρ m.length H sg σ) (D : Den (N.wF F) ρ m H (WS (N.wF F) Wx σ) (partM e (evE T C e sg) m) P)
    (i : ∀ o ρ' m' H', Ext (N.wF F) ρ m.length H ρ' m'.length H' → Rl (N.wF F) ρ' m' H' → P o ρ' m' H' → Q o H') : tP T N C e Wx σ H Q :=
  ⟨F, ρ, m, sg, R, S, D.imp fun w ρ' m' H' e r p => i w ρ' m' H' e r p⟩
theorem sim_pnone : PO X none (tP T N C .nop Wx) := by
  refine PO.imp po_none fun σ H Q ⟨F, ρ, m, sg, R, S, D⟩ => ?_
  exact Den.ret R D
theorem sim_psome {e : Expr} {e' : E} (h : PE X e (tE T N C e' Wx)) (hn : (match e' with | .nop => false | _ => true) = true) : PO X (some e) (tP T N C e' Wx) := by
  refine PO.imp (po_some h) fun σ H Q ⟨F, ρ, m, sg, R, S, D⟩ => ?_
  have D' : Den (N.wF F) ρ m H (WS (N.wF F) Wx σ) (bnd (evE T C e' sg) (fun w => match w with | .int i => WM.ret (some i) | _ => stuck) m) (fun o ρ' m' H' => Q o H') := by
    cases e' <;> first | exact D | cases hn
  refine tE.mk R S (Den.bind D') fun x ρ1 m1 H1 v1 e1 R1 D1 rv1 => ?_
  cases x with
  | int i => exact ⟨i, rv1, Den.ret R1 D1⟩
  | _ => exact False.elim D1
theorem RVs.cut {ρ k H} {ws : List W} {vs : List V} (h : RVs N ρ k H ws vs) (lo hi : Option Int) : RVs N ρ k H (cutW ws lo hi) (cutV vs lo hi) := by
  unfold cutW cutV
  rw [h.len]
  exact (h.drop _).take _
theorem cutV_len (xs : List V) (lo hi : Option Int) (h : xs.length ≤ sizeLine) : (cutV xs lo hi).length ≤ sizeLine := Nat.le_trans (cutV_length xs lo hi) h
theorem cut_whole {α : Type} (xs : List α) {l h : Nat} (h1 : l = 0) (h2 : h = xs.length) : (xs.drop l).take (h - l) = xs := by
  subst h1; subst h2; simp
theorem sim_slc {a : Expr} {lo hi : Option Expr} {a' lo' hi' : E} {p2 pos} (hK : X.K = N.K) (ha : PE X a (tE T N C a' Wx)) (hl : PO X lo (tP T N C lo' Wx)) (hh : PO X hi (tP T N C hi' Wx)) :
    PE X (.Subscript a (.Slice lo hi none p2) pos) (tE T N C (.slc a' lo' hi') Wx) := by
  have hr := SlR.or (sl_tupA (X := X)) sl_list
  rw [hK] at hr
  refine (pe_slice hr ha hl hh).imp fun σ H Q ⟨F, ρ, m, sg, R, S, D⟩ => ?_
  rw [evE] at D
  refine tE.mk R S (Den.bind D) fun x ρ1 m1 H1 v1 e1 R1 D1 rv1 => ?_
  refine tP.mk R1 (S.mono e1) (Den.bind D1) fun l ρ2 m2 H2 e2 R2 D2 => ?_
  refine tP.mk R2 (S.mono (e1.trans e2)) (Den.bind D2) fun u ρ3 m3 H3 e3 R3 D3 => ?_
  have rv3 := RV.mono (e2.trans e3) _ _ rv1
  cases x with
  | tup xs =>
    obtain ⟨p, vs, ep, hf, hv⟩ := rv3
    refine .inl ⟨p, vs, ep, hf.seq, fun hw => ?_, fun hw q hq => ?_⟩
    · refine Den.ret R3 D3 _ ⟨p, vs, rfl, hf, ?_⟩
      have := hv.cut l u
      unfold cutV at this
      rw [cut_whole vs hw.1 hw.2] at this
      exact this
    · exact Den.at' D3 (Ext.new R3 hq) (R3.new hq) _ (RV.newT R3 hq (cutV_len vs l u hf.1) (hv.cut l u))
  | lst xs =>
    obtain ⟨p, vs, ep, hf, hv⟩ := rv3
    exact .inr ⟨p, vs, ep, hf.seq, fun q hq => Den.at' D3 (Ext.new R3 hq) (R3.new hq) _ (RV.newL R3 hq (cutV_len vs l u hf.1) (hv.cut l u))⟩
  | ref n =>
    obtain ⟨xs, hx, D4⟩ := Den.seqM D3
    have e : ∃ xs', hget m3 n = some (.lst xs') ∧ xs' = xs := by
      unfold seqW at hx
      dsimp only at hx
      split at hx
      · rename_i q; cases hx; exact ⟨_, q, rfl⟩
      · cases hx
    obtain ⟨xs', h1, h2⟩ := e
    subst h2
    obtain ⟨vs, h3, h4, h5⟩ := R3.obj _ _ h1
    exact .inr ⟨_, vs, rv3.2, SqL.of h3, fun q hq => Den.at' D4 (Ext.new R3 hq) (R3.new hq) _ (RV.newL R3 hq (cutV_len vs l u h4) (h5.cut l u))⟩
  | _ => exact False.elim D3
end
end WM
/-! a < b < c < d -/
namespace WM
open PySem PySem.Spec PyProof.Rows L2
def tChain3 (r r' r'' : R2) (ta tb tc td : TE) : TE := fun σ H Q => ta σ H fun x H1 => tb σ H1 fun y H2 => r x y H2 fun z H3 => ∃ k, z = .bl k ∧
  (if k = true then tc σ H3 fun u H4 => r' y u H4 fun z2 H5 => ∃ k2, z2 = .bl k2 ∧ (if k2 = true then td σ H5 fun v H6 => r'' u v H6 Q else Q (.bl false) H5) else Q (.bl false) H3)
section
variable {X : Cx} {a b c d : Expr} {ta tb tc td : TE} {pos : Pos}
theorem pe_chain3 {op op' op'' : CmpOp} {r r' r'' : R2} (ho : OpR X (compareOp op) r) (ho' : OpR X (compareOp op') r') (ho'' : OpR X (compareOp op'') r'') (ha : PE X a ta) (hb : PE X b tb) (hc : PE X c tc) (hd : PE X d td)
    (hm : lastMarks [op, op', op''] [b, c, d] = false) : PE X (.Compare a [op, op', op''] [b, c, d] pos) (tChain3 r r' r'' ta tb tc td) := by
  refine ⟨fun pins s σ H Q I h => ?_⟩
  refine Compare_chain (thn (ha.run pins s σ H _ I h) fun v s1 ⟨x, H1, I1, r1, q1⟩ => chain_link (thn (hb.run pins s1 σ H1 _ I1 q1) fun u s2 ⟨y, H2, I2, r2, q2⟩ =>
    thn (ho pins s2 σ H2 x y v u _ I2 r1 r2 q2) fun d1 s3 ⟨z, H3, I3, r3, k, e, q3⟩ => ?_)) hm
  subst e
  cases r3
  refine wpAny_truthy_bool ?_
  cases k with
  | false => exact ite_ff ⟨.bl false, H3, I3, rfl, q3⟩
  | true =>
    refine ite_tt (chain_link (thn (hc.run pins s3 σ H3 _ I3 q3) fun w' s4 ⟨z', H4, I4, r4, q4⟩ => thn (ho' pins s4 σ H4 y z' u w' _ I4 r2 r4 q4) fun d2 s5 ⟨z5, H5, I5, r5, k5, e5, q5⟩ => ?_))
    subst e5
    cases r5
    refine wpAny_truthy_bool ?_
    cases k5 with
    | false => exact ite_ff ⟨.bl false, H5, I5, rfl, q5⟩
    | true => exact ite_tt (chain_last (thn (hd.run pins s5 σ H5 _ I5 q5) fun w6 s6 ⟨z6, H6, I6, r6, q6⟩ => ho'' pins s6 σ H6 z' z6 w' w6 Q I6 r4 r6 q6))
end
section
variable {T : Tab} {N : En} {C : Calls} {X : Cx} {Wx : WX}
theorem sim_cmp3 {o o2 o3 : Cop} {p p2 p3 : CmpOp} {a b c d : Expr} {a' b' c' d' : E} {pos} (hop : OpOk X N (compareOp p) (cmpW o)) (hop2 : OpOk X N (compareOp p2) (cmpW o2)) (hop3 : OpOk X N (compareOp p3) (cmpW o3)) (hm : lastMarks [p, p2, p3] [b, c, d] = false)
    (hb1 : ∀ x y w, cmpW o x y = some w → ∃ k, w = .bl k) (hb2 : ∀ x y w, cmpW o2 x y = some w → ∃ k, w = .bl k)
    (ha : PE X a (tE T N C a' Wx)) (hb : PE X b (tE T N C b' Wx)) (hc : PE X c (tE T N C c' Wx)) (hd : PE X d (tE T N C d' Wx)) : PE X (.Compare a [p, p2, p3] [b, c, d] pos) (tE T N C (.cmp3 o o2 o3 a' b' c' d') Wx) := by
  obtain ⟨r, h1, h2⟩ := hop
  obtain ⟨r', h1', h2'⟩ := hop2
  obtain ⟨r'', h1'', h2''⟩ := hop3
  refine (pe_chain3 h1 h1' h1'' ha hb hc hd hm).imp fun σ H Q ⟨F, ρ, m, sg, R, S, D⟩ => ?_
  rw [evE] at D
  refine tE.mk R S (Den.bind D) fun x ρ1 m1 H1 v1 e1 R1 D1 rv1 => ?_
  refine tE.mk R1 (S.mono e1) (Den.bind D1) fun y ρ2 m2 H2 v2 e2 R2 D2 rv2 => ?_
  obtain ⟨w, hw, D3⟩ := (Den.bind D2).opt
  obtain ⟨k, ek⟩ := hb1 x y w hw
  subst ek
  refine h2 F x y _ v1 v2 ρ2 m2 H2 (WS (N.wF F) Wx σ) _ hw R2 (RV.mono e2 _ _ rv1) rv2 (D3.imp fun w ρ3 m3 H3 e3 R3 D4 v rv => ?_)
  cases w with
  | bl c =>
    refine ⟨c, rv, ?_⟩
    cases c with
    | true =>
      refine iteT (tE.mk R3 ((S.mono (e1.trans e2)).mono e3) (Den.bind D4) fun u ρ4 m4 H4 v4 e4 R4 D5 rv4 => ?_)
      obtain ⟨w5, hw5, D6⟩ := (Den.bind D5).opt
      obtain ⟨k5, ek5⟩ := hb2 y u w5 hw5
      subst ek5
      refine h2' F y u _ v2 v4 ρ4 m4 H4 (WS (N.wF F) Wx σ) _ hw5 R4 (RV.mono (e3.trans e4) _ _ rv2) rv4 (D6.imp fun w ρ6 m6 H6 e6 R6 D7 v6 rv6 => ?_)
      cases w with
      | bl c2 =>
        refine ⟨c2, rv6, ?_⟩
        cases c2 with
        | true =>
          refine iteT (tE.mk R6 ((((S.mono (e1.trans e2)).mono e3).mono e4).mono e6) (Den.bind D7) fun u8 ρ8 m8 H8 v8 e8 R8 D8 rv8 => ?_)
          obtain ⟨w9, hw9, D9⟩ := D8.opt
          exact h2'' F u u8 w9 v4 v8 ρ8 m8 H8 _ Q hw9 R8 (RV.mono (e6.trans e8) _ _ rv4) rv8 D9
        | false => exact iteF (Den.ret R6 D7 _ rfl)
      | _ => exact False.elim D7
    | false => exact iteF (Den.ret R3 D4 _ rfl)
  | _ => exact False.elim D4
end
end WM
namespace WM
open PySem PySem.Spec PyProof.Rows L2

section
variable {T : Tab} {N : En} {C : Calls} {X : Cx} {Wx : WX}
theorem star_any {pos : Pos} {env : Env} : ∀ {es : List Expr}, es.all notStar = true → (backTo pos (starEach es env)).any (·.1) = false
  | [], _ => rfl
  | e :: es, h => by
    rw [List.all_cons, Bool.and_eq_true] at h
    rw [star_cons h.1]
    have ih := star_any (pos := pos) (env := env) h.2
    unfold backTo at ih ⊢
    rw [List.map_cons, List.any_cons, ih]
    rfl

/-! ### built-ins -/
def BiOk (X : Cx) (N : En) (f : Value) (b : Bi) : Prop :=
  ∃ r, CallR X f r ∧ ∀ (F : Addr → Prop) (ws : List W) (vs : List V) (ρ : Nat → Addr) (m : Hm) (H : Hp) (WW : Xc → (Nat → Addr) → Hm → Hp → Prop) (Q : VK), Rl (N.wF F) ρ m H → RVs (N.wF F) ρ m.length H ws vs →
    Den (N.wF F) ρ m H WW (biM b ws m) (fun w ρ' m' H' => ∀ v, RV (N.wF F) ρ' m'.length H' w v → Q v H') → r vs H Q
theorem sim_biB {b : Bi} {id : String} {x : Str} {e : Expr} {es : List Expr} {es' : List E} {p pos} (h : BiOk X N (.builtin id) b) (hg : Gl X x) (hm : X.mg x = none) (hv : bootBuiltins x = some (.builtin id))
    (ha : PA X (e :: es) (tEs T N C es' Wx)) (hs : (e :: es).all notStar = true) (hn : x ≠ "__name__") (hdb : (x == ("__debug__" : Str)) = false) : PE X (.Call (.Name x p) (e :: es) [] pos) (tE T N C (.bi b es') Wx) := by
  obtain ⟨r, h1, h2⟩ := h
  rw [List.all_cons, Bool.and_eq_true] at hs
  refine (pe_callB h1 hg hm hv ha hn hdb (star_cons hs.1) (star_any hs.2)).imp fun σ H Q ⟨F, ρ, m, sg, R, S, D⟩ => ?_
  rw [evE] at D
  exact tEs.mk R S (Den.bind D) fun ws ρ1 m1 H1 vs e1 R1 D1 rvs => h2 F ws vs ρ1 m1 H1 _ Q R1 rvs D1
theorem sim_biT {b : Bi} {id : String} {x : Str} {e : Expr} {es : List Expr} {es' : List E} {p pos} (h : BiOk X N (.type id) b) (hg : Gl X x) (hm : X.mg x = none) (hv : bootBuiltins x = some (.type id))
    (ha : PA X (e :: es) (tEs T N C es' Wx)) (hs : (e :: es).all notStar = true) (hn : x ≠ "__name__") (hdb : (x == ("__debug__" : Str)) = false) : PE X (.Call (.Name x p) (e :: es) [] pos) (tE T N C (.bi b es') Wx) := by
  obtain ⟨r, h1, h2⟩ := h
  rw [List.all_cons, Bool.and_eq_true] at hs
  refine (pe_callTy h1 hg hm hv ha hn hdb (star_cons hs.1) (star_any hs.2)).imp fun σ H Q ⟨F, ρ, m, sg, R, S, D⟩ => ?_
  rw [evE] at D
  exact tEs.mk R S (Den.bind D) fun ws ρ1 m1 H1 vs e1 R1 D1 rvs => h2 F ws vs ρ1 m1 H1 _ Q R1 rvs D1
theorem bi_len (hK : X.K = N.K) : BiOk X N (.builtin "len") .len := by
  have h := call_len (X := X)
  rw [hK] at h
  refine ⟨_, h, fun F ws vs ρ m H WW Q R r D => ?_⟩
  match ws, r, D with
  | [], _, D => exact False.elim D
  | [.str x], r, D =>
    obtain ⟨v, rfl, rv⟩ := RVs.one r
    cases rv
    have D' : Den (N.wF F) ρ m H WW ((if szOk x.length then WM.ret (.int x.length) else stuck : M W) m) (fun w ρ' m' H' => ∀ v, RV (N.wF F) ρ' m'.length H' w v → Q v H') := D
    split at D'
    · rename_i hz
      exact ⟨_, x.length, rfl, ⟨sz_ok hz, rfl⟩, Den.ret R D' _ rfl⟩
    · exact False.elim D'
  | [.tup xs], r, D =>
    obtain ⟨v, rfl, rv⟩ := RVs.one r
    obtain ⟨a, us, rfl, hf, hu⟩ := rv
    exact ⟨_, us.length, rfl, .inr ⟨us, hf.seq, rfl⟩, Den.ret R D _ (by rw [← hu.len]; rfl)⟩
  | [.lst xs], r, D =>
    obtain ⟨v, rfl, rv⟩ := RVs.one r
    obtain ⟨a, us, rfl, hf, hu⟩ := rv
    exact ⟨_, us.length, rfl, .inl ⟨us, hf.seq, rfl⟩, Den.ret R D _ (by rw [← hu.len]; rfl)⟩
  | [.klst xs], r, D =>
    obtain ⟨v, rfl, rv⟩ := RVs.one r
    obtain ⟨a, us, rfl, hf, hu⟩ := rv
    exact ⟨_, us.length, rfl, .inl ⟨us, hf.seq, rfl⟩, Den.ret R D _ (by rw [← hu.len]; rfl)⟩
  | [.ref n], r, D =>
    obtain ⟨v, rfl, rv⟩ := RVs.one r
    obtain ⟨xs, hx, D2⟩ := Den.seqM (w := .ref n) D
    obtain ⟨a, us, rfl, hu, hz, hq⟩ := seq_of R rv hx
    refine ⟨_, us.length, rfl, ?_, Den.ret R D2 _ (by rw [← hu.len]; rfl)⟩
    rcases hq with hq | hq
    · exact .inl ⟨us, hq, rfl⟩
    · exact .inr ⟨us, hq, rfl⟩
  | [.non], _, D => exact False.elim D
  | [.bl _], _, D => exact False.elim D
  | [.int _], _, D => exact False.elim D
  | [.dct _ _], _, D => exact False.elim D
  | [.ins _ _], _, D => exact False.elim D
  | a :: _ :: _, _, D => exact False.elim (by cases a <;> exact D)
theorem bi_int : BiOk X N (.type "int") .int := by
  refine ⟨_, call_int1, fun F ws vs ρ m H WW Q R r D => ?_⟩
  match ws, r, D with
  | [.int i], r, D =>
    obtain ⟨v, rfl, rv⟩ := RVs.one r
    cases rv
    exact .inl ⟨i, rfl, Den.ret R D _ rfl⟩
  | [.bl b], r, D =>
    obtain ⟨v, rfl, rv⟩ := RVs.one r
    cases rv
    exact .inr ⟨b, rfl, Den.ret R D _ rfl⟩
  | [], _, D => exact False.elim D
  | [.non], _, D => exact False.elim D
  | [.str _], _, D => exact False.elim D
  | [.tup _], _, D => exact False.elim D
  | [.lst _], _, D => exact False.elim D
  | [.klst _], _, D => exact False.elim D
  | [.ref _], _, D => exact False.elim D
  | [.dct _ _], _, D => exact False.elim D
  | [.ins _ _], _, D => exact False.elim D
  | a :: _ :: _, _, D => exact False.elim (by cases a <;> exact D)
theorem bi_list (hK : X.K = N.K) : BiOk X N (.type "list") .list := by
  have h := call_list_of (X := X)
  rw [hK] at h
  refine ⟨_, h, fun F ws vs ρ m H WW Q R r D => ?_⟩
  match ws, r, D with
  | [], _, D => exact False.elim D
  | [a], r, D =>
    obtain ⟨v, rfl, rv⟩ := RVs.one r
    obtain ⟨xs, hx, D2⟩ := Den.seqM (w := a) D
    obtain ⟨p, us, rfl, hu, hz, hq⟩ := seq_of R rv hx
    exact ⟨p, us, rfl, hq, fun l hl => Den.at' D2 (Ext.new R hl) (R.new hl) _ (RV.newL R hl hz hu)⟩
  | a :: _ :: _, _, D => exact False.elim D
theorem bi_tuple (hK : X.K = N.K) : BiOk X N (.type "tuple") .tuple := by
  have h := call_tuple_of (X := X)
  rw [hK] at h
  refine ⟨_, h, fun F ws vs ρ m H WW Q R r D => ?_⟩
  match ws, r, D with
  | [], _, D => exact False.elim D
  | [a], r, D =>
    obtain ⟨v, rfl, rv⟩ := RVs.one r
    obtain ⟨xs, hx, D2⟩ := Den.seqM (w := a) D
    have lst : ∀ p us, SqL N.K H p us → RVs (N.wF F) ρ m.length H xs us → us.length ≤ sizeLine → ∀ l, H l = none → Q (.ref l) (upd H l (.tup us)) := fun p us _ hu hz l hl =>
      Den.at' D2 (Ext.new R hl) (R.new hl) _ (RV.newT R hl hz hu)
    cases a with
    | tup ws =>
      obtain ⟨p, us, rfl, hf, hu⟩ := rv
      cases hx
      exact ⟨p, us, rfl, .inr ⟨hf.seq, Den.ret R D2 _ ⟨p, us, rfl, hf, hu⟩⟩⟩
    | lst ws =>
      obtain ⟨p, us, rfl, hf, hu⟩ := rv
      cases hx
      exact ⟨p, us, rfl, .inl ⟨hf.seq, lst p us hf.seq hu hf.1⟩⟩
    | klst ws =>
      obtain ⟨p, us, rfl, hf, hu⟩ := rv
      cases hx
      exact ⟨p, us, rfl, .inl ⟨hf.seq, lst p us hf.seq hu hf.1⟩⟩
    | ref n =>
      have hx' : (match hget m n with | some (.lst xs) => some xs | _ => none) = some xs := hx
      cases q : hget m n with
      | none => rw [q] at hx'; cases hx'
      | some o =>
        rw [q] at hx'
        cases o with
        | lst ws =>
          cases hx'
          obtain ⟨us, h3, h4, h5⟩ := R.obj _ _ q
          obtain ⟨_, ev⟩ := rv
          subst ev
          exact ⟨_, us, rfl, .inl ⟨SqL.of h3, lst _ us (SqL.of h3) h5 h4⟩⟩
        | _ => cases hx'
    | _ => cases hx
  | a :: _ :: _, _, D => exact False.elim D
theorem bi_abs : BiOk X N (.builtin "abs") .abs := by
  refine ⟨_, call_abs, fun F ws vs ρ m H WW Q R r D => ?_⟩
  match ws, r, D with
  | [.int i], r, D =>
    obtain ⟨v, rfl, rv⟩ := RVs.one r
    cases rv
    exact ⟨i, rfl, Den.ret R D _ rfl⟩
  | [], _, D => exact False.elim D
  | [.non], _, D => exact False.elim D
  | [.bl _], _, D => exact False.elim D
  | [.str _], _, D => exact False.elim D
  | [.tup _], _, D => exact False.elim D
  | [.lst _], _, D => exact False.elim D
  | [.klst _], _, D => exact False.elim D
  | [.ref _], _, D => exact False.elim D
  | [.dct _ _], _, D => exact False.elim D
  | [.ins _ _], _, D => exact False.elim D
  | a :: _ :: _, _, D => exact False.elim (by cases a <;> exact D)
theorem bi_two {f : Value} {b : Bi} {g : Int → Int → Int} (h : CallR X f (fun xs H Q => ∃ i j, xs = [.int i, .int j] ∧ Q (.int (g i j)) H))
    (hb : ∀ ws m r, biM b ws m = some r → ∃ i j, ws = [.int i, .int j] ∧ r = (.ok (.int (g i j)), m)) : BiOk X N f b := by
  refine ⟨_, h, fun F ws vs ρ m H WW Q R r D => ?_⟩
  unfold Den at D
  cases e : biM b ws m with
  | none => rw [e] at D; exact False.elim D
  | some p =>
    obtain ⟨i, j, ew, er⟩ := hb ws m p e
    rw [e] at D
    subst ew er
    obtain ⟨v, v', rfl, h1, h2⟩ := RVs.two r
    cases h1; cases h2
    exact ⟨i, j, rfl, Den.ret (N := N.wF F) (WW := WW) (a := W.int (g i j)) (P := fun w ρ' m' H' => ∀ v, RV (N.wF F) ρ' m'.length H' w v → Q v H') R D _ rfl⟩
theorem biM_two {b : Bi} {g : Int → Int → Int} (hb : b = .min2 ∧ (g = fun i j => if j < i then j else i) ∨ b = .max2 ∧ (g = fun i j => if j > i then j else i)) (ws : List W) (m : Hm) (r : Res W × Hm) (h : biM b ws m = some r) :
    ∃ i j, ws = [.int i, .int j] ∧ r = (.ok (.int (g i j)), m) := by
  have key : ∃ i j, ws = [.int i, .int j] := by
    rcases hb with ⟨rfl, _⟩ | ⟨rfl, _⟩
    all_goals
      cases ws with
      | nil => cases h
      | cons x xs =>
        cases xs with
        | nil => cases x <;> cases h
        | cons y ys =>
          cases ys with
          | nil => cases x <;> cases y <;> first | exact ⟨_, _, rfl⟩ | cases h
          | cons z zs => cases x <;> cases y <;> cases h
  obtain ⟨i, j, rfl⟩ := key
  rcases hb with ⟨rfl, rfl⟩ | ⟨rfl, rfl⟩ <;> (cases h; exact ⟨i, j, rfl, rfl⟩)
theorem bi_min (hc : X.calm = true) : BiOk X N (.builtin "min") .min2 := bi_two (call_min2 hc) (biM_two (.inl ⟨rfl, rfl⟩))
theorem bi_max (hc : X.calm = true) : BiOk X N (.builtin "max") .max2 := bi_two (call_max2 hc) (biM_two (.inr ⟨rfl, rfl⟩))
theorem RVs.ints {ρ k H} : ∀ {ws : List W} {vs : List V} {is : List Int}, RVs N ρ k H ws vs → intsW ws = some is → vs = is.map V.int
  | [], vs, is, h, e => by cases e; rw [h]; rfl
  | w :: ws, vs, is, ⟨v, r, h1, h2, h3⟩, e => by
    cases w with
    | int i =>
      have e' : (intsW ws).map (i :: ·) = some is := e
      cases q : intsW ws with
      | none => rw [q] at e'; cases e'
      | some js =>
        rw [q] at e'
        cases e'
        rw [h1, show v = V.int i from h2, RVs.ints h3 q]
        rfl
    | _ => cases e
theorem RVs.bls {ρ k H} : ∀ {ws : List W} {vs : List V} {is : List Bool}, RVs N ρ k H ws vs → blsW ws = some is → vs = is.map V.bl
  | [], vs, is, h, e => by cases e; rw [h]; rfl
  | w :: ws, vs, is, ⟨v, r, h1, h2, h3⟩, e => by
    cases w with
    | bl i =>
      have e' : (blsW ws).map (i :: ·) = some is := e
      cases q : blsW ws with
      | none => rw [q] at e'; cases e'
      | some js =>
        rw [q] at e'
        cases e'
        rw [h1, show v = V.bl i from h2, RVs.bls h3 q]
        rfl
    | _ => cases e
theorem Den.optb {α β : Type} {ρ m H WW} {o : Option α} {f : α → M β} {P : β → (Nat → Addr) → Hm → Hp → Prop} (D : Den N ρ m H WW (bnd (WM.opt o) f m) P) : ∃ a, o = some a ∧ Den N ρ m H WW (f a m) P := by
  cases o with
  | none => exact False.elim D
  | some a => exact ⟨a, rfl, D⟩
theorem bi_sum (hK : X.K = N.K) (hc : X.calm = true) : BiOk X N (.builtin "sum") .sum := by
  have h := cr_sum (X := X) hc
  rw [hK] at h
  refine ⟨_, h, fun F ws vs ρ m H WW Q R r D => ?_⟩
  match ws, r, D with
  | [.lst xs], r, D =>
    obtain ⟨v, rfl, rv⟩ := RVs.one r
    obtain ⟨a, us, rfl, hf, hu⟩ := rv
    obtain ⟨is, hi, D2⟩ := Den.optb (o := intsW xs) (f := fun is => WM.ret (W.int is.sum)) D
    have e := hu.ints hi
    subst e
    exact ⟨a, is, rfl, hf.seq, Den.ret R D2 _ rfl⟩
  | [], _, D => exact False.elim D
  | [.non], _, D => exact False.elim D
  | [.bl _], _, D => exact False.elim D
  | [.int _], _, D => exact False.elim D
  | [.str _], _, D => exact False.elim D
  | [.tup _], _, D => exact False.elim D
  | [.klst _], _, D => exact False.elim D
  | [.ref _], _, D => exact False.elim D
  | [.dct _ _], _, D => exact False.elim D
  | [.ins _ _], _, D => exact False.elim D
  | a :: _ :: _, _, D => exact False.elim (by cases a <;> exact D)
theorem bi_all (hK : X.K = N.K) (hc : X.calm = true) : BiOk X N (.builtin "all") .all := by
  have h := cr_all (X := X) hc
  rw [hK] at h
  refine ⟨_, h, fun F ws vs ρ m H WW Q R r D => ?_⟩
  match ws, r, D with
  | [.lst xs], r, D =>
    obtain ⟨v, rfl, rv⟩ := RVs.one r
    obtain ⟨a, us, rfl, hf, hu⟩ := rv
    obtain ⟨is, hi, D2⟩ := Den.optb (o := blsW xs) (f := fun is => WM.ret (W.bl (is.all id))) D
    have e := hu.bls hi
    subst e
    exact ⟨a, is, rfl, hf.seq, Den.ret R D2 _ rfl⟩
  | [], _, D => exact False.elim D
  | [.non], _, D => exact False.elim D
  | [.bl _], _, D => exact False.elim D
  | [.int _], _, D => exact False.elim D
  | [.str _], _, D => exact False.elim D
  | [.tup _], _, D => exact False.elim D
  | [.klst _], _, D => exact False.elim D
  | [.ref _], _, D => exact False.elim D
  | [.dct _ _], _, D => exact False.elim D
  | [.ins _ _], _, D => exact False.elim D
  | a :: _ :: _, _, D => exact False.elim (by cases a <;> exact D)
theorem bi_any (hK : X.K = N.K) (hc : X.calm = true) : BiOk X N (.builtin "any") .any := by
  have h := cr_any (X := X) hc
  rw [hK] at h
  refine ⟨_, h, fun F ws vs ρ m H WW Q R r D => ?_⟩
  match ws, r, D with
  | [.lst xs], r, D =>
    obtain ⟨v, rfl, rv⟩ := RVs.one r
    obtain ⟨a, us, rfl, hf, hu⟩ := rv
    obtain ⟨is, hi, D2⟩ := Den.optb (o := blsW xs) (f := fun is => WM.ret (W.bl (is.any id))) D
    have e := hu.bls hi
    subst e
    exact ⟨a, is, rfl, hf.seq, Den.ret R D2 _ rfl⟩
  | [], _, D => exact False.elim D
  | [.non], _, D => exact False.elim D
  | [.bl _], _, D => exact False.elim D
  | [.int _], _, D => exact False.elim D
  | [.str _], _, D => exact False.elim D
  | [.tup _], _, D => exact False.elim D
  | [.klst _], _, D => exact False.elim D
  | [.ref _], _, D => exact False.elim D
  | [.dct _ _], _, D => exact False.elim D
  | [.ins _ _], _, D => exact False.elim D
  | a :: _ :: _, _, D => exact False.elim (by cases a <;> exact D)

/-! ### isinstance -/
def tyName : W → String
  | .non => "NoneType" | .bl _ => "bool" | .int _ => "int" | .str _ => "str" | .tup _ => "tuple" | .lst _ => "list" | _ => ""
theorem RV.ty {ρ k H} {w : W} {v : V} (h : RV N ρ k H w v) (hw : tyName w ≠ "") : TyX N.K H v (.type (tyName w)) := by
  cases w with
  | non => cases h; exact .base .non
  | bl _ => cases h; exact .base (.bl _)
  | int _ => cases h; exact .base (.int _)
  | str _ => cases h; exact .base (.str _)
  | tup ws =>
    obtain ⟨a, vs, rfl, hf, _⟩ := h
    rcases hf.2 with ⟨h1 | ⟨o, h1⟩, _⟩ | ⟨o, its, n, h1, h2, _⟩
    · exact .base (.tup h1)
    · exact .fTuple h1
    · exact .kTuple h1 h2
  | lst ws =>
    obtain ⟨a, vs, rfl, hf, _⟩ := h
    exact .base (.lst hf.2.1)
  | _ => exact absurd rfl hw
theorem isi_kit {t : String} {w : W} {b : Bool} (h : isiW t w = some b) : tyName w ≠ "" ∧ kitB (tyName w) t = some b := by
  have big : ∀ n : String, (t = "int" ∨ t = "bool" ∨ t = "str" ∨ t = "tuple" ∨ t = "list" ∨ t = "dict") → (n = "NoneType" ∨ n = "bool" ∨ n = "int" ∨ n = "str" ∨ n = "tuple" ∨ n = "list") →
      kitB n t = some (decide (n = t ∨ (n = "bool" ∧ t = "int"))) := by
    intro n ht hn
    rcases ht with rfl | rfl | rfl | rfl | rfl | rfl <;> rcases hn with rfl | rfl | rfl | rfl | rfl | rfl <;> decide +kernel
  have ht : t = "int" ∨ t = "bool" ∨ t = "str" ∨ t = "tuple" ∨ t = "list" ∨ t = "dict" := by
    cases w <;> simp only [isiW] at h <;> (try split at h) <;> (try split at h) <;> first | (cases h; done) | (rename_i q; rcases q with q | q | q | q | q | q <;> simp [q]; done) | (rename_i q; simp [q]; done) | (rename_i q q2; rcases q2 with q2 | q2 | q2 | q2 | q2 <;> simp [q2]; done) | (rename_i q q2; rcases q2 with q2 | q2 | q2 | q2 <;> simp [q2]; done) | (rename_i q; rcases q with q | q <;> simp [q]; done)
  cases w with
  | non => refine ⟨by decide, ?_⟩; rw [show tyName .non = "NoneType" from rfl, big _ ht (.inl rfl)]; rcases ht with rfl | rfl | rfl | rfl | rfl | rfl <;> revert h <;> (simp [isiW])
  | bl _ => refine ⟨by simp [tyName], ?_⟩; rw [show tyName (.bl _) = "bool" from rfl, big _ ht (by simp)]; rcases ht with rfl | rfl | rfl | rfl | rfl | rfl <;> revert h <;> (simp [isiW])
  | int _ => refine ⟨by simp [tyName], ?_⟩; rw [show tyName (.int _) = "int" from rfl, big _ ht (by simp)]; rcases ht with rfl | rfl | rfl | rfl | rfl | rfl <;> revert h <;> (simp [isiW])
  | str _ => refine ⟨by simp [tyName], ?_⟩; rw [show tyName (.str _) = "str" from rfl, big _ ht (by simp)]; rcases ht with rfl | rfl | rfl | rfl | rfl | rfl <;> revert h <;> (simp [isiW])
  | tup _ => refine ⟨by simp [tyName], ?_⟩; rw [show tyName (.tup _) = "tuple" from rfl, big _ ht (by simp)]; rcases ht with rfl | rfl | rfl | rfl | rfl | rfl <;> revert h <;> (simp [isiW])
  | lst _ => refine ⟨by simp [tyName], ?_⟩; rw [show tyName (.lst _) = "list" from rfl, big _ ht (by simp)]; rcases ht with rfl | rfl | rfl | rfl | rfl | rfl <;> revert h <;> (simp [isiW])
  | _ => simp [isiW] at h
theorem sim_isi {a : Expr} {a' : E} {t : String} {ty : Str} {p p2 pos} (hK : X.K = N.K) (hg : Gl X "isinstance") (hm : X.mg "isinstance" = none) (ha : PE X a (tE T N C a' Wx)) (ns : notStar a = true)
    (hg2 : Gl X ty) (hm2 : X.mg ty = none) (hv : bootBuiltins ty = some (.type t)) (hn : ty ≠ "__name__") (hd : (ty == ("__debug__" : Str)) = false) : PE X (.Call (.Name "isinstance" p) [a, .Name ty p2] [] pos) (tE T N C (.isi a' t) Wx) := by
  have hc := call_isi (X := X)
  rw [hK] at hc
  refine (pe_callB hc hg hm (by decide +kernel) (pa_cons ha (pa_cons (pe_bltn (v := .ty t) hg2 hm2 hv rfl hn hd) pa_nil) (star_cons ns)) (by decide) (by decide) (star_cons ns) rfl).imp fun σ H Q ⟨F, ρ, m, sg, R, S, D⟩ => ?_
  rw [evE] at D
  refine tE.mk R S (Den.bind D) fun w ρ1 m1 H1 v e1 R1 D1 rv => ?_
  obtain ⟨b, hb, D2⟩ := Den.optb D1
  obtain ⟨h1, h2⟩ := isi_kit hb
  exact ⟨v, .ty t, .type (tyName w), .type t, b, rfl, .ty t, rv.ty h1, kit_ty h2, Den.ret R1 D2 _ rfl⟩
end
end WM
namespace WM
open PySem PySem.Spec PyProof.Rows L2

/-! ### calls of the text's own defs -/
/-- what the def number f promises where so many calls are left -/
def spF (T : Tab) (N : En) (lvl : Nat) (np : Nat) (f : Nat) : Sp := fun vs H Q E => vs.length = np ∧ ∃ F ρ m ws, Rl (N.wF F) ρ m H ∧ RVs (N.wF F) ρ m.length H ws vs ∧
  Den (N.wF F) ρ m H (fun x ρ' m' H' => ∀ d, RX (N.wF F) ρ' m'.length H' x d → E (.ref (N.ca x.c)) d H') (evC T lvl f ws m) (fun w ρ' m' H' => ∀ v, RV (N.wF F) ρ' m'.length H' w v → Q v H')
/-- the def stands where the module's name says, and keeps its promise -/
def FnFact (T : Tab) (N : En) (X : Cx) (lvl : Nat) (f : Nat) (x : Str) : Prop :=
  ∃ (a : Addr) (fd : FuncData) (ps : List Str), X.mg x = some (.ref a) ∧ PySem.W.keepIn X.K (.ref a) = true ∧ Binds X.K fd ps [] ∧ FnOk X.prog X.w X.K X.mg X.base (L2.CX X.prog X.w) lvl a fd ps (spF T N lvl ps.length f)
section
variable {T : Tab} {N : En} {X : Cx} {Wx : WX} {lvl : Nat}
theorem Den.argc {ρ m H WW P f ws} (D : Den N ρ m H WW (evC T lvl f ws m) P) : ∃ l F, lvl = l + 1 ∧ T.fn f = some F ∧ ws.length = F.np := by
  cases lvl with
  | zero => exact False.elim D
  | succ l =>
    refine ⟨l, ?_⟩
    unfold evC at D
    cases e : T.fn f with
    | none => rw [e] at D; exact False.elim D
    | some F =>
      rw [e] at D
      refine ⟨F, rfl, rfl, ?_⟩
      dsimp only at D
      unfold runF at D
      by_cases h : ws.length = F.np
      · exact h
      · rw [if_neg h] at D; exact False.elim D
theorem sim_call {f : Nat} {x : Str} {e : Expr} {es : List Expr} {es' : List E} {p pos} (F : FnFact T N X lvl f x) (hn : ∀ a fd ps, X.mg x = some (.ref a) → FnOk X.prog X.w X.K X.mg X.base (L2.CX X.prog X.w) lvl a fd ps (spF T N lvl ps.length f) → ps.length = es'.length)
    (hr : Room lvl X.A) (hg : Gl X x) (tk : Takes X Wx)
    (ha : PA X (e :: es) (tEs T N (evC T lvl) es' Wx)) (hs : (e :: es).all notStar = true) (hdb : (x == ("__debug__" : Str)) = false) : PE X (.Call (.Name x p) (e :: es) [] pos) (tE T N (evC T lvl) (.call f es') Wx) := by
  obtain ⟨a, fd, ps, h1, h2, h3, h4⟩ := F
  rw [List.all_cons, Bool.and_eq_true] at hs
  refine (pe_callS h4 hr hg h1 h2 h3 (passAt tk) ha hdb (star_cons hs.1) (star_any hs.2)).imp fun σ H Q ⟨F, ρ, m, sg, R, S, D⟩ => ?_
  rw [evE] at D
  refine tEs.mk R S (Den.len (Den.bind D)) fun ws ρ1 m1 H1 vs e1 R1 ⟨D0, D1⟩ rvs => ⟨?_, F, ρ1, m1, ws, R1, rvs, D1⟩
  rw [← rvs.len, D0, hn a fd ps h1 h4]
end

/-! ### what is walked -/
section
variable {T : Tab} {N : En} {X : Cx} {Wx : WX} {lvl : Nat}
theorem sim_callA {f k : Nat} {x : Str} {e : Expr} {es : List Expr} {es' : List E} {p pos} {a : Addr} {fd : FuncData} {ps : List Str} (h1 : X.mg x = some (.ref a)) (h2 : PySem.W.keepIn X.K (.ref a) = true) (h3 : Binds X.K fd ps [])
    (h4 : FnOk X.prog X.w X.K X.mg X.base (L2.CX X.prog X.w) k a fd ps (spF T N lvl ps.length f)) (hn : ps.length = es'.length)
    (hr : Room k X.A) (hg : Gl X x) (tk : Takes X Wx)
    (ha : PA X (e :: es) (tEs T N (evC T lvl) es' Wx)) (hs : (e :: es).all notStar = true) (hdb : (x == ("__debug__" : Str)) = false) : PE X (.Call (.Name x p) (e :: es) [] pos) (tE T N (evC T lvl) (.call f es') Wx) := by
  rw [List.all_cons, Bool.and_eq_true] at hs
  refine (pe_callS h4 hr hg h1 h2 h3 (passAt tk) ha hdb (star_cons hs.1) (star_any hs.2)).imp fun σ H Q ⟨F, ρ, m, sg, R, S, D⟩ => ?_
  rw [evE] at D
  refine tEs.mk R S (Den.len (Den.bind D)) fun ws ρ1 m1 H1 vs e1 R1 ⟨D0, D1⟩ rvs => ⟨?_, F, ρ1, m1, ws, R1, rvs, D1⟩
  rw [← rvs.len, D0, hn]
end

/-- all values lie as they lay -/
structure Tr (N : En) (ρ : Nat → Addr) (k : Nat) (H : Hp) (N' : En) (ρ' : Nat → Addr) (k' : Nat) (H' : Hp) : Prop where
  K : N'.K = N.K
  rv : ∀ w v, RV N ρ k H w v → RV N' ρ' k' H' w v
theorem Tr.of {N ρ k H ρ' k' H'} (e : Ext N ρ k H ρ' k' H') : Tr N ρ k H N ρ' k' H' := ⟨rfl, fun w v => RV.mono e w v⟩
theorem Tr.plus {N : En} {ρ k H D o} (hd : H D = none) : Tr N ρ k H (N.plus D) ρ k (upd H D o) := ⟨rfl, fun w v => RV.plus hd w v⟩
theorem Tr.trans {N ρ k H N' ρ' k' H' N'' ρ'' k'' H''} (a : Tr N ρ k H N' ρ' k' H') (b : Tr N' ρ' k' H' N'' ρ'' k'' H'') : Tr N ρ k H N'' ρ'' k'' H'' := ⟨b.K.trans a.K, fun w v h => b.rv w v (a.rv w v h)⟩
theorem Tr.turn {N : En} {ρ k H D o} : Tr (N.plus D) ρ k H (N.plus D) ρ k (upd H D o) := ⟨rfl, fun w v => RV.turn w v⟩
def SrcOk (N : En) (J : It) (ρ : Nat → Addr) (m : Hm) (H : Hp) (ws : List W) : Prop :=
  ∀ (N' : En) (ρ' : Nat → Addr) (m' : Hm) (H' : Hp), Tr N ρ m.length H N' ρ' m'.length H' → Rl N' ρ' m' H' → ∀ i,
    (∀ w, ws[i]? = some w → J.go i H' ∧ ∀ x H'', J.yld i H' x H'' → Rl N' ρ' m' H'' ∧ Ext N' ρ' m'.length H' ρ' m'.length H'' ∧ RV N' ρ' m'.length H'' w x) ∧ (ws.length ≤ i → J.stop i H')
def tI (T : Tab) (N : En) (C : Calls) (e : E) (Wx : WX) : TI := fun σ H Rr => ∃ F ρ m sg, Rl (N.wF F) ρ m H ∧ RS (N.wF F) ρ m.length H sg σ ∧
  Den (N.wF F) ρ m H (WS (N.wF F) Wx σ) (evI T C e sg m) (fun ws ρ' m' H' => ∀ J, ws.length ≤ sizeLine → SrcOk (N.wF F) J ρ' m' H' ws → Rr J H')
section
variable {T : Tab} {N : En} {C : Calls} {X : Cx} {Wx : WX} {tg : Expr}
theorem _root_.L2.PI.imp {e : Expr} {t t' : TI} (h : PI X tg e t) (i : ∀ σ H Q, t' σ H Q → t σ H Q) : PI X tg e t' := ⟨fun pins s σ H Q I q => h.run pins s σ H Q I (i σ H Q q)⟩
theorem rng_inv {lo hi : Int} {ws : List W} (h : rngW lo hi = some ws) : (-(2 ^ 62) ≤ lo ∧ lo < 2 ^ 62 ∧ -(2 ^ 62) ≤ hi ∧ hi < 2 ^ 62) ∧ (hi - lo).toNat ≤ sizeLine ∧ ws = (List.range (hi - lo).toNat).map fun (k : Nat) => W.int (lo + (k : Int)) := by
  unfold rngW at h
  split at h
  · rename_i q
    simp only [Bool.and_eq_true, decide_eq_true_eq] at q
    cases h
    exact ⟨⟨q.1.1.1.1, q.1.1.1.2, q.1.1.2, q.1.2⟩, sz_ok q.2, rfl⟩
  · cases h
theorem src_rng {lo : Int} {n : Nat} {ρ m H} : SrcOk N (Itr lo n) ρ m H ((List.range n).map fun (k : Nat) => W.int (lo + (k : Int))) := by
  intro N' ρ' m' H' tr R' i
  refine ⟨fun w hw => ?_, fun h => show n ≤ i by simpa using h⟩
  rw [List.getElem?_map] at hw
  cases e : (List.range n)[i]? with
  | none => rw [e] at hw; cases hw
  | some j =>
    rw [e] at hw
    obtain ⟨h1, h2⟩ := List.getElem?_eq_some_iff.mp e
    rw [List.getElem_range] at h2
    subst h2
    cases hw
    refine ⟨show i < n by simpa using h1, fun x H'' y => ?_⟩
    obtain ⟨e1, e2⟩ := y
    subst e1 e2
    exact ⟨R', Ext.refl, rfl⟩
theorem sim_srng1 {a : Expr} {a' : E} {p pos} (hg : Gl X "range") (hm : X.mg "range" = none) (ha : PE X a (tE T N C a' Wx)) (ns : notStar a = true) : PI X tg (.Call (.Name "range" p) [a] [] pos) (tI T N C (.srng1 a') Wx) := by
  refine (pi_range1 hg hm (pa_cons ha pa_nil (star_cons ns)) (star_cons ns)).imp fun σ H Rr ⟨F, ρ, m, sg, R, S, D⟩ => ?_
  rw [evI] at D
  refine tE.mk R S (Den.bind D) fun x ρ1 m1 H1 v e1 R1 D1 rv => ?_
  cases x with
  | int j =>
    obtain ⟨ws, hw, D2⟩ := D1.opt
    obtain ⟨⟨_, _, b1, b2⟩, hz, e⟩ := rng_inv hw
    subst e
    have q := Den.ret R1 D2
    refine ⟨j, by rw [show v = V.int j from rv], b1, b2, q _ (by rw [List.length_map, List.length_range]; exact hz) ?_⟩
    rw [Int.sub_zero]
    exact src_rng
  | _ => exact False.elim D1
theorem sim_srng2 {a b : Expr} {a' b' : E} {p pos} (hg : Gl X "range") (hm : X.mg "range" = none) (ha : PE X a (tE T N C a' Wx)) (ns : notStar a = true) (hb : PE X b (tE T N C b' Wx)) (ns2 : notStar b = true) :
    PI X tg (.Call (.Name "range" p) [a, b] [] pos) (tI T N C (.srng2 a' b') Wx) := by
  have hs2 : starEach [b] X.env = [(false, eval b X.env)] := star_cons ns2
  have hs1 : starEach [a, b] X.env = [(false, eval a X.env), (false, eval b X.env)] := by rw [star_cons ns, hs2]
  refine (pi_range2 hg hm (pa_cons ha (pa_cons hb pa_nil (star_cons ns2)) (star_cons ns)) hs1 hs2).imp fun σ H Rr ⟨F, ρ, m, sg, R, S, D⟩ => ?_
  rw [evI] at D
  refine tE.mk R S (Den.bind D) fun x ρ1 m1 H1 v e1 R1 D1 rv => ?_
  refine tE.mk R1 (S.mono e1) (Den.bind D1) fun y ρ2 m2 H2 u e2 R2 D2 ru => ?_
  cases x with
  | int i =>
    cases y with
    | int j =>
      obtain ⟨ws, hw, D3⟩ := D2.opt
      obtain ⟨⟨b0, b1, b2, b3⟩, hz, e⟩ := rng_inv hw
      subst e
      have q := Den.ret R2 D3
      exact ⟨i, j, by rw [show v = V.int i from rv, show u = V.int j from ru], ⟨b0, b1, b2, b3⟩, q _ (by rw [List.length_map, List.length_range]; exact hz) src_rng⟩
    | _ => exact False.elim D2
  | _ => cases y <;> exact False.elim D2
theorem src_tup {xs : List W} {ρ m H a vs} (hf : FzT N ρ m.length H a vs) (hv : RVs N ρ m.length H xs vs) : SrcOk N (Itt N.K a) ρ m H xs := by
  intro N' ρ' m' H' tr R' i
  obtain ⟨a', vs', e, hf', hv'⟩ := tr.rv (.tup xs) (.ref a) ⟨a, vs, rfl, hf, hv⟩
  cases e
  have hq : SqT N.K H' a vs' := by have := hf'.seq; rw [tr.K] at this; exact this
  refine ⟨fun w hw => ?_, fun h => ⟨vs', hq, by rw [← hv'.len]; exact h⟩⟩
  obtain ⟨v, h1, h2⟩ := hv'.get hw
  refine ⟨⟨vs', v, hq, h1⟩, fun x H'' y => ?_⟩
  obtain ⟨e1, e2⟩ := y
  subst e1
  have := e2 vs' hq
  rw [h1] at this
  cases this
  exact ⟨R', Ext.refl, h2⟩
theorem src_lst {w : W} {xs : List W} {ρ m H a} (hw : w = .lst xs ∨ w = .klst xs) (hv : RV N ρ m.length H w (.ref a)) : SrcOk N (Itl N.K a) ρ m H xs := by
  intro N' ρ' m' H' tr R' i
  have h0 := tr.rv w (.ref a) hv
  have h1 : ∃ vs', SqL N.K H' a vs' ∧ RVs N' ρ' m'.length H' xs vs' := by
    rcases hw with rfl | rfl
    · obtain ⟨a', vs', e, hf', hv'⟩ := h0
      cases e
      exact ⟨vs', by have := hf'.seq (N := N'); rw [tr.K] at this; exact this, hv'⟩
    · obtain ⟨a', vs', e, hf', hv'⟩ := h0
      cases e
      exact ⟨vs', by have := hf'.seq; rw [tr.K] at this; exact this, hv'⟩
  obtain ⟨vs', hq, hv'⟩ := h1
  refine ⟨fun w hw => ?_, fun h => ⟨vs', hq, by rw [← hv'.len]; exact h⟩⟩
  obtain ⟨v, h1, h2⟩ := hv'.get hw
  refine ⟨⟨vs', v, hq, h1⟩, fun x H'' y => ?_⟩
  obtain ⟨e1, e2⟩ := y
  subst e1
  have := e2 vs' hq
  rw [h1] at this
  cases this
  exact ⟨R', Ext.refl, h2⟩
/-- a tuple or a list, whichever comes -/
theorem pi_either {l : Expr} {tl : TE} (hl : PE X l tl) : PI X tg l (fun σ H R => tl σ H fun x H1 => ∃ a, x = .ref a ∧ (((∃ xs, SqL X.K H1 a xs) ∧ R (Itl X.K a) H1) ∨ ((∃ xs, SqT X.K H1 a xs) ∧ R (Itt X.K a) H1))) := by
  refine ⟨fun pins s σ H R I h => thn (hl.run pins s σ H _ I h) fun v s1 hx => ?_⟩
  obtain ⟨x, H1, I1, r1, a, e, q⟩ := hx
  subst e
  obtain rfl : v = Value.ref a := r1
  have big : ∀ b ∈ [s1.heap.objs.size], FpOk X pins H1 b := fun b hb => by
    rw [List.mem_singleton.mp hb]
    exact I1.fpOk (Nat.le_refl _) (I1.hok.fresh (Nat.le_refl _))
  rcases q with ⟨⟨xs, hq⟩, q⟩ | ⟨⟨xs, hq⟩, q⟩
  · obtain ⟨its, _, p, _⟩ := I1.list hq
    exact wpAny_pyIter_list p.isList ⟨_, [s1.heap.objs.size], _, _, H1, rfl, I1.kept (t' := s1.toks) fun _ _ z => Heap.get?_push_of_some _ z, turn_list a _, ⟨_, Heap.get?_push_size _ rfl, rfl, rfl⟩, big, q⟩
  · obtain ⟨its, _, p, _⟩ := I1.tuple hq
    exact wpAny_pyIter_tuple (items := its.toArray) p ⟨_, [s1.heap.objs.size], _, _, H1, rfl, I1.kept (t' := s1.toks) fun _ _ z => Heap.get?_push_of_some _ z, turn_tuple a _, ⟨_, Heap.get?_push_size _ rfl, rfl, rfl⟩, big, q⟩
theorem sim_sseq {a : Expr} {a' : E} (hK : X.K = N.K) (ha : PE X a (tE T N C a' Wx)) : PI X tg a (tI T N C (.sseq a') Wx) := by
  have h := pi_either (tg := tg) ha
  rw [hK] at h
  refine h.imp fun σ H Rr ⟨F, ρ, m, sg, R, S, D⟩ => ?_
  rw [evI] at D
  refine tE.mk R S (Den.bind D) fun x ρ1 m1 H1 v e1 R1 D1 rv => ?_
  cases x with
  | tup xs =>
    have q := Den.ret R1 D1
    obtain ⟨b, vs, ev, hf, hv⟩ := rv
    exact ⟨b, ev, .inr ⟨⟨vs, hf.seq⟩, q _ (by rw [hv.len]; exact hf.1) (src_tup (N := N.wF F) hf hv)⟩⟩
  | lst xs =>
    have q := Den.ret R1 D1
    obtain ⟨b, vs, ev, hf, hv⟩ := id rv
    subst ev
    exact ⟨b, rfl, .inl ⟨⟨vs, hf.seq (N := N.wF F)⟩, q _ (by rw [hv.len]; exact hf.1) (src_lst (N := N.wF F) (.inl rfl) rv)⟩⟩
  | klst xs =>
    have q := Den.ret R1 D1
    obtain ⟨b, vs, ev, hf, hv⟩ := id rv
    subst ev
    exact ⟨b, rfl, .inl ⟨⟨vs, hf.seq⟩, q _ (by rw [hv.len]; exact hf.1) (src_lst (N := N.wF F) (.inr rfl) rv)⟩⟩
  | _ => exact False.elim D1
end
end WM
/-! t[::-1] of a tuple -/
namespace WM
open PySem PySem.Spec PyProof.Rows L2
section
variable {prog : Program} {w : World} {A : Around} {E : Value → Shared → Prop} {s : Shared}
theorem adjust_rev (n : Nat) : Builtin.Slice.sliceAdjust none none (-1) (n : Int) = ((n : Int) - 1, -1) := by
  unfold Builtin.Slice.sliceAdjust
  have h1 : ((-1 : Int) < 0) := by omega
  simp only [h1, if_true]
theorem places_rev (n : Nat) : Builtin.Slice.slicePlaces ((n : Int) - 1) (-1) (-1) = n := by
  unfold Builtin.Slice.slicePlaces
  have h1 : ¬ (-1 : Int) > 0 := by omega
  have e1 : (- -1 : Int) = 1 := by decide
  simp only [h1, if_false, e1, Int.ediv_one]
  split <;> omega
theorem fm_congr {α β : Type} {f g : α → Option β} : ∀ {l : List α}, (∀ x ∈ l, f x = g x) → l.filterMap f = l.filterMap g
  | [], _ => rfl
  | x :: l, h => by
    rw [List.filterMap_cons, List.filterMap_cons, h x List.mem_cons_self, fm_congr fun y hy => h y (List.mem_cons_of_mem _ hy)]
theorem sliceApplied_rev {sl : Addr} {vs : Value} {n : Nat} {Q : Int × Int × Nat → Shared → Prop} (hs : s.heap.IsSliceOf sl .none .none vs) (ps : IsPart vs (some (-1)))
    (h : Q ((n : Int) - 1, -1, n) s) : wpAny (model prog w) A (Builtin.Slice.sliceApplied (.ref sl) (pure (n : Int))) Q E s := by
  obtain ⟨os, hos, hcs, hds⟩ := id hs
  unfold Builtin.Slice.sliceApplied Builtin.Slice.sliceFields
  refine wpAny_bind (wpAny_bind (wpAny_field hos hds (x := .none) rfl (wpAny_bind (wpAny_field hos hds (x := .none) rfl (wpAny_bind (wpAny_field hos hds (x := vs) rfl (wpAny_pure ?_)))))))
  refine wpAny_bind (HT.slicePart_ ps ?_)
  show wpAny _ _ (if ((-1 : Int) == 0) = true then _ else _) _ _ s
  rw [if_neg (by decide)]
  refine wpAny_bind (slicePart_none (wpAny_bind (slicePart_none (wpAny_bind (wpAny_pure ?_)))))
  show wpAny _ _ (match Builtin.Slice.sliceAdjust none none (-1) (n : Int) with | (lo, hi) => pure (lo, (-1 : Int), Builtin.Slice.slicePlaces lo hi (-1))) _ _ s
  rw [adjust_rev n]
  show wpAny _ _ (pure ((n : Int) - 1, (-1 : Int), Builtin.Slice.slicePlaces ((n : Int) - 1) (-1) (-1))) _ _ s
  rw [places_rev]
  exact wpAny_pure h
theorem pick_rev (xs : Array Value) : ((List.range xs.size).filterMap fun (m : Nat) => xs[(((xs.size : Int) - 1) + (m : Int) * -1).toNat]?).toArray = xs.toList.reverse.toArray := by
  rw [← PySem.W.krv_pick]
  unfold slicePick
  rw [PySem.W.krv_bounds]
  show _ = ((sliceRange ((xs.size : Int) - 1) (-1) (-1)).filterMap (xs[·]?)).toArray
  rw [PySem.W.krv_sliceRange, List.filterMap_map]
  congr 1
  apply fm_congr
  intro k hk
  have := List.mem_range.mp hk
  have e : (((xs.size : Int) - 1) + (k : Int) * -1).toNat = xs.size - 1 - k := by omega
  rw [e]; rfl
theorem getItem_tuple_rev {t sl : Addr} {items : Array Value} {vs : Value} {Q : Value → Shared → Prop} (ht : IsTup s.heap t items) (hs : s.heap.IsSliceOf sl .none .none vs) (ps : IsPart vs (some (-1)))
    (h : Q (.ref s.heap.objs.size) { s with heap := s.heap.push { cls := .type "tuple", data := .seq items.toList.reverse.toArray } })
    (hsz : items.size ≤ sizeLine) : wpAny (model prog w) A (getItem (.ref t) (.ref sl)) Q E s := by
  have htake : sizeOk (.seq items.toList.reverse.toArray) := by
    show items.toList.reverse.toArray.size ≤ sizeLine
    rw [List.size_toArray, List.length_reverse, Array.length_toList]
    exact hsz
  obtain ⟨os, hos, hcs, hds⟩ := id hs
  have hTs : s.TypeIs (.ref sl) "slice" := ⟨os, hos, hcs⟩
  unfold getItem
  try with_reducible refine wpAny_holding ?_
  first | refine wpAny_bind (wpAny_pure ?_) | skip
  refine wpAny_bind (wpAny_sequenceKey ht.typeIs (by decide) ?_)
  refine wpAny_bind (wpAny_callSpecial?_slot (name := Str.ofString "__getitem__") ht.typeIs PyProof.Rows.slot_tuple_getitem
    (wpAny_call_entry PyProof.Rows.slot_tuple_getitem ht.typeIs entry_tuple_getitem ?_ (args_tuple_getitem _ _)))
  show wpAny _ _ (Builtin.Tuple.tupleItemsOf (.ref t) >>= _) _ _ s
  refine wpAny_bind (tupleItemsOf_ ht ?_)
  refine wpAny_bind (wpAny_typeOf hTs ?_)
  rw [if_pos (by decide)]
  refine wpAny_bind (sliceApplied_rev hs ps ?_)
  have hno : ¬ (((((items.size : Int) - 1) == 0) && ((-1 : Int) == 1) && (items.size == items.size)) = true) := by
    intro q
    rw [Bool.and_eq_true, Bool.and_eq_true] at q
    exact absurd q.1.2 (by decide)
  show wpAny _ _ (if ((((items.size : Int) - 1) == 0) && ((-1 : Int) == 1) && (items.size == items.size)) = true then _ else _) _ _ s
  rw [if_neg hno, pick_rev]
  first
    | exact wpAny_bind (m := Builtin.Tuple.tupleExact _) (wpAny_newObj_type (wpAny_pure ⟨_, rfl, wpAny_pure h⟩) htake)
    | exact wpAny_bind (m := Builtin.Tuple.tupleExact _) (wpAny_newObj_type (wpAny_bind (wpAny_pure (wpAny_pure ⟨_, rfl, wpAny_pure h⟩))) htake)
    | exact wpAny_bind (wpAny_bind (m := Builtin.Tuple.tupleExact _) (wpAny_newObj_type (wpAny_pure (wpAny_pure ⟨_, rfl, wpAny_pure h⟩)) htake))
    | exact wpAny_bind (wpAny_bind (m := Builtin.Tuple.tupleExact _) (wpAny_newObj_type (wpAny_pure ⟨_, rfl, wpAny_pure h⟩) htake))
end
def tRevA (K : PySem.W.Frag) (te : TE) : TE := fun σ H Q => te σ H fun x H1 => ∃ a xs, x = .ref a ∧ ((SqL K H1 a xs ∧ ∀ p, H1 p = none → Q (.ref p) (upd H1 p (.lst xs.reverse))) ∨ (SqT K H1 a xs ∧ ∀ p, H1 p = none → Q (.ref p) (upd H1 p (.tup xs.reverse))))
section
variable {X : Cx}
theorem pe_revA {e : Expr} {te : TE} {k : Nat} {p1 p2 p3 pos : Pos} (he : PE X e te) : PE X (.Subscript e (.Slice none none (some (.UnaryOp .USub (.Constant (.int 1) k p1) p2)) p3) pos) (tRevA X.K te) := by
  refine ⟨fun pins s σ H Q I h => ?_⟩
  refine Subscript_ (thn (he.run pins s σ H _ I h) fun v s1 ⟨x, H1, I1, r1, q1⟩ => ?_)
  obtain ⟨a, xs, ex, hq⟩ := q1
  subst ex
  cases r1
  have hst : PO X (some (.UnaryOp .USub (.Constant (.int 1) k p1) p2)) (tPart (tUn (rU fun i => .int (-i)) (tC (.int 1)))) := po_some (pe_un un_neg pe_int)
  refine wpAny_Slice (thn (po_none.run pins s1 σ H1 (fun o H2 => o = none ∧ H2 = H1) I1 ⟨rfl, rfl⟩) fun vl s2 ⟨l, H2, I2, pl, el, e2⟩ => ?_)
  subst el e2
  refine thn (po_none.run pins s2 σ H2 (fun o H3 => o = none ∧ H3 = H2) I2 ⟨rfl, rfl⟩) fun vu s3 ⟨u, H3, I3, pu, eu, e3⟩ => ?_
  subst eu e3
  refine thn (hst.run pins s3 σ H3 (fun o H4 => o = some (-1) ∧ H4 = H3) I3 ⟨1, rfl, -1, rfl, rfl, rfl⟩) fun vs s4 ⟨o, H4, I4, ps, eo, e4⟩ => ?_
  subst eo e4
  have I5 : Inv X pins σ H4 { s4 with heap := s4.heap.push { cls := .type "slice", data := .fields #[vl, vu, vs] } } := I4.kept (t' := s4.toks) fun b ob q => Heap.get?_push_of_some _ q
  show wpAny (model X.prog X.w) X.A (subscriptTail e (.Slice none none (some (.UnaryOp .USub (.Constant (.int 1) k p1) p2)) p3) (.ref a) (.ref s4.heap.objs.size)) (EP X pins σ Q) X.xe { s4 with heap := s4.heap.push { cls := .type "slice", data := .fields #[vl, vu, vs] } }
  rcases hq with ⟨hx, q⟩ | ⟨hx, q⟩
  · obtain ⟨its, r, ht, hz⟩ := I5.list hx
    have hlen := r.length
    refine tail_any (ops := [.ref a, .ref s4.heap.objs.size]) ht.isList.typeIs (PySem.slot_list_getitem.lookup) ?_ (by with_unfolding_all rfl)
    refine wpAny_getItem_list_slice ht.isList (Heap.IsSliceOf.new _ vl vu vs) pl pu ps (by decide) ?_ (by rw [List.size_toArray]; omega)
    rw [PySem.W.krv_pick]
    refine ⟨.ref _, _, I5.laid (t' := s4.toks) (o := .lst xs.reverse) (fun b ob q => Heap.get?_push_of_some _ q) (Nat.le_refl _) ?_, rfl, q _ (I5.hok.fresh (Nat.le_refl _))⟩
    exact ⟨by rw [List.length_reverse]; exact hz, _, 0, r.reverse, Heap.get?_push_size _ rfl⟩
  · obtain ⟨its, r, ht, hz⟩ := I5.tuple hx
    have hlen := r.length
    cases pl
    cases pu
    refine tail_any (ops := [.ref a, .ref s4.heap.objs.size]) ht.typeIs PyProof.Rows.slot_tuple_getitem.lookup ?_ (by with_unfolding_all rfl)
    refine getItem_tuple_rev ht (Heap.IsSliceOf.new _ .none .none vs) ps ?_ (by rw [List.size_toArray]; omega)
    refine ⟨.ref _, _, I5.laid (t' := s4.toks) (o := .tup xs.reverse) (fun b ob q => Heap.get?_push_of_some _ q) (Nat.le_refl _) ?_, rfl, q _ (I5.hok.fresh (Nat.le_refl _))⟩
    exact ⟨by rw [List.length_reverse]; exact hz, _, r.reverse, IsTup.new _ _⟩
end
section
variable {T : Tab} {N : En} {C : Calls} {X : Cx} {Wx : WX}
theorem sim_rev {e : Expr} {e' : E} {k : Nat} {p1 p2 p3 pos : Pos} (hK : X.K = N.K) (he : PE X e (tE T N C e' Wx)) : PE X (.Subscript e (.Slice none none (some (.UnaryOp .USub (.Constant (.int 1) k p1) p2)) p3) pos) (tE T N C (.rev e') Wx) := by
  refine (pe_revA he).imp fun σ H Q ⟨F, ρ, m, sg, R, S, D⟩ => ?_
  rw [evE] at D
  rw [hK]
  refine tE.mk R S (Den.bind D) fun x ρ1 m1 H1 v1 e1 R1 D1 rv1 => ?_
  cases x with
  | tup xs =>
    obtain ⟨p, vs, ep, hf, hv⟩ := rv1
    exact ⟨p, vs, ep, .inr ⟨hf.seq, fun q hq => Den.at' D1 (Ext.new R1 hq) (R1.new hq) _ (RV.newT R1 hq (by rw [List.length_reverse]; exact hf.1) hv.reverse)⟩⟩
  | lst xs =>
    obtain ⟨p, vs, ep, hf, hv⟩ := rv1
    exact ⟨p, vs, ep, .inl ⟨hf.seq, fun q hq => Den.at' D1 (Ext.new R1 hq) (R1.new hq) _ (RV.newL R1 hq (by rw [List.length_reverse]; exact hf.1) hv.reverse)⟩⟩
  | ref n =>
    obtain ⟨xs, hx, D4⟩ := Den.seqM D1
    have e : ∃ xs', hget m1 n = some (.lst xs') ∧ xs' = xs := by
      unfold seqW at hx
      dsimp only at hx
      split at hx
      · rename_i q; cases hx; exact ⟨_, q, rfl⟩
      · cases hx
    obtain ⟨xs', h1, h2⟩ := e
    subst h2
    obtain ⟨vs, h3, h4, h5⟩ := R1.obj _ _ h1
    exact ⟨_, vs, rv1.2, .inl ⟨SqL.of h3, fun q hq => Den.at' D4 (Ext.new R1 hq) (R1.new hq) _ (RV.newL R1 hq (by rw [List.length_reverse]; exact h4) h5.reverse)⟩⟩
  | _ => exact False.elim D1
end
end WM
namespace WM
open PySem PySem.Spec PyProof.Rows L2
/-! ## x in y -/
section
variable {T : Tab} {N : En} {C : Calls} {X : Cx} {Wx : WX}
theorem scal_eq {N : En} {ρ k H} {x y : W} {v u : V} (hx : isScal x = true) (hy : isScal y = true) (rx : RV N ρ k H x v) (ry : RV N ρ k H y u) : eqV u v = W.eqv y x := by
  cases x <;> first | cases hx | skip
  all_goals cases y <;> first | cases hy | skip
  all_goals cases rx; cases ry; simp [eqV, W.eqv]
  · rename_i i j
    by_cases h : j = i <;> simp [h]
  · rename_i i j
    by_cases h : j = i <;> simp [h]
theorem scal_flat {N : En} {ρ k H} {x : W} {v : V} (hx : isScal x = true) (rx : RV N ρ k H x v) : flatV v = true := by
  cases x <;> first | (have e := rx; cases e; rfl) | cases hx
theorem scals {N : En} {ρ k H} {x : W} {v : V} (hx : isScal x = true) (rx : RV N ρ k H x v) : ∀ {ws : List W} {vs : List V}, ws.all isScal = true → RVs N ρ k H ws vs → vs.all flatV = true ∧ inV v vs = ws.any fun y => W.eqv y x
  | [], _, _, h => by rw [h]; exact ⟨rfl, rfl⟩
  | w :: ws, _, ha, ⟨u, r, h1, h2, h3⟩ => by
    rw [List.all_cons, Bool.and_eq_true] at ha
    obtain ⟨q1, q2⟩ := scals hx rx ha.2 h3
    rw [h1]
    refine ⟨by rw [List.all_cons, scal_flat ha.1 h2, q1]; rfl, ?_⟩
    unfold inV at q2 ⊢
    rw [List.any_cons, List.any_cons, q2, scal_eq hx ha.1 rx h2]
theorem any_datP {x : W} (hx : W.isD 58 x = true) : ∀ (ws : List W) (n : Nat), W.isDs n ws = true → ((datsP ws).any fun z => PyData.eqv z (datP x)) = ws.any fun y => W.eqv y x
  | [], _, _ => rfl
  | w :: ws, n, h => by
    rw [W.isDs, Bool.and_eq_true] at h
    rw [datsP, List.any_cons, List.any_cons, any_datP hx ws n h.2, eqv_datP w x n 58 h.1 hx]
theorem shaped58 {w : W} (h : W.isD 58 w = true) : SeqAt.shaped (datP w) = true := by
  obtain ⟨h1, h2⟩ := isD_shaped w 58 h
  unfold SeqAt.shaped
  rw [h1, Bool.true_and]
  exact decide_eq_true (by omega)
theorem shapedL {ws : List W} (h : W.isDs 57 ws = true) : SeqAt.shaped (.list (datsP ws)) = true := shaped58 (w := .lst ws) h
theorem seq_ofL {w : W} {v : V} {ρ m H xs} (ht : isTupW w = false) (R : Rl N ρ m H) (r : RV N ρ m.length H w v) (e : seqW m w = some xs) :
    ∃ a vs, v = .ref a ∧ RVs N ρ m.length H xs vs ∧ SqL N.K H a vs := by
  cases w with
  | tup _ => cases ht
  | lst ws =>
    obtain ⟨a, vs, h1, h2, h3⟩ := r
    cases e
    exact ⟨a, vs, h1, h3, h2.seq⟩
  | klst ws =>
    obtain ⟨a, vs, h1, h2, h3⟩ := r
    cases e
    exact ⟨a, vs, h1, h3, h2.seq⟩
  | ref n =>
    obtain ⟨h1, h2⟩ := r
    have e' : ∃ xs', hget m n = some (.lst xs') ∧ xs' = xs := by
      unfold seqW at e
      dsimp only at e
      split at e
      · rename_i q; cases e; exact ⟨_, q, rfl⟩
      · cases e
    obtain ⟨xs', q, e2⟩ := e'
    subst e2
    obtain ⟨vs, h3, h4, h5⟩ := R.obj _ _ q
    exact ⟨_, vs, h2, h5, SqL.of h3⟩
  | _ => cases e
theorem in_reads {K : PySem.W.Frag} {x y : W} {ys : List W} {r : Bool} {F ρ m H v u} (hK : K = N.K) (R : Rl (N.wF F) ρ m H) (rx : RV (N.wF F) ρ m.length H x v) (ry : RV (N.wF F) ρ m.length H y u) (hs : seqW m y = some ys)
    (hi : inW (isTupW y) x ys = some r) : (∃ p xs, u = .ref p ∧ (SqL K H p xs ∨ SqT K H p xs) ∧ flatV v = true ∧ xs.all flatV = true ∧ inV v xs = r) ∨
      ∃ d ds, Dp K H v d ∧ Dp K H u (.list ds) ∧ SeqAt.shaped d = true ∧ SeqAt.shaped (.list ds) = true ∧ (ds.any fun z => PyData.eqv z d) = r := by
  subst hK
  unfold inW at hi
  cases ht : isTupW y with
  | true =>
    rw [ht] at hi
    obtain ⟨p, vs, ep, hvs, hz, hq⟩ := seq_of R ry hs
    by_cases hc : (isScal x && ys.all isScal) = true
    · rw [if_pos (by simpa using hc)] at hi
      cases hi
      rw [Bool.and_eq_true] at hc
      obtain ⟨q1, q2⟩ := scals hc.1 rx hc.2 hvs
      exact .inl ⟨p, vs, ep, hq, scal_flat hc.1 rx, q1, q2⟩
    · rw [if_neg (by simpa using hc)] at hi
      cases hi
  | false =>
    rw [ht] at hi
    obtain ⟨p, vs, ep, hvs, hl⟩ := seq_ofL ht R ry hs
    by_cases hc : (W.isD 58 x && W.isDs 57 ys) = true
    · rw [if_pos (by simpa using hc)] at hi
      cases hi
      rw [Bool.and_eq_true] at hc
      refine .inr ⟨datP x, datsP ys, RV.dp (N := N.wF F) x v 58 hc.1 rx, ?_, shaped58 hc.1, shapedL hc.2, any_datP hc.1 ys 57 hc.2⟩
      rw [ep]
      exact .lst hl (RVs.dp (N := N.wF F) ys vs 57 hc.2 hvs)
    · rw [if_neg (by simpa using hc)] at hi
      cases hi
def inOp (ng : Bool) : CmpOp := if ng then .NotIn else .In
theorem rIn_op (hu : X.A.units + 65 < cLine) (ng : Bool) : OpR X (compareOp (inOp ng)) (fun v u H Q => (∃ r, ((∃ p xs, u = .ref p ∧ (SqL X.K H p xs ∨ SqT X.K H p xs) ∧ flatV v = true ∧ xs.all flatV = true ∧ inV v xs = r) ∨
      ∃ d ds, Dp X.K H v d ∧ Dp X.K H u (.list ds) ∧ SeqAt.shaped d = true ∧ SeqAt.shaped (.list ds) = true ∧ (ds.any fun z => PyData.eqv z d) = r) ∧ Q (.bl (if ng then !r else r)) H)) := by
  cases ng with
  | false =>
    intro pins s σ H x y v u Q I rx ry ⟨r, h, q⟩
    rcases h with ⟨p, xs, e1, e2, e3, e4, e5⟩ | ⟨d, ds, e1, e2, e3, e4, e5⟩
    · exact op_in_seq pins s σ H x y v u Q I rx ry ⟨p, xs, e1, e2, e3, e4, by rw [e5]; exact q⟩
    · exact op_inD hu pins s σ H x y v u Q I rx ry ⟨d, ds, e1, e2, e3, e4, by rw [e5]; exact q⟩
  | true =>
    intro pins s σ H x y v u Q I rx ry ⟨r, h, q⟩
    rcases h with ⟨p, xs, e1, e2, e3, e4, e5⟩ | ⟨d, ds, e1, e2, e3, e4, e5⟩
    · exact op_notIn_seq pins s σ H x y v u Q I rx ry ⟨p, xs, e1, e2, e3, e4, by rw [e5]; exact q⟩
    · exact op_notInD hu pins s σ H x y v u Q I rx ry ⟨d, ds, e1, e2, e3, e4, by rw [e5]; exact q⟩
theorem sim_isin {ng : Bool} {a b : Expr} {a' b' : E} {pos} (hK : X.K = N.K) (hu : X.A.units + 65 < cLine) (hm : behindInMarks (inOp ng) b = false) (ha : PE X a (tE T N C a' Wx)) (hb : PE X b (tE T N C b' Wx)) :
    PE X (.Compare a [inOp ng] [b] pos) (tE T N C (.isin ng a' b') Wx) := by
  refine (pe_cmpR (rIn_op hu ng) ha hb hm).imp fun σ H Q ⟨F, ρ, m, sg, R, S, D⟩ => ?_
  rw [evE] at D
  refine tE.mk R S (Den.bind D) fun x ρ1 m1 H1 v1 e1 R1 D1 rv1 => ?_
  refine tE.mk R1 (S.mono e1) (Den.bind D1) fun y ρ2 m2 H2 v2 e2 R2 D2 rv2 => ?_
  obtain ⟨ys, hs, D3⟩ := Den.seqM D2
  obtain ⟨r, hr, D4⟩ := D3.optb
  exact ⟨r, in_reads hK R2 (RV.mono e2 _ _ rv1) rv2 hs hr, Den.ret R2 D4 _ rfl⟩
theorem sim_isinT {ng : Bool} {a b : Expr} {a' b' : E} {pos} (hK : X.K = N.K) (hu : X.A.units + 65 < cLine) (hm : behindInMarks (inOp ng) b = false) (ha : PE X a (tE T N C a' Wx)) (hb : PE X b (tE T N C b' Wx)) :
    PT X (.Compare a [inOp ng] [b] pos) (tT T N C (.isin ng a' b') Wx) := by
  refine (pt_cmpR (rIn_op hu ng) ha hb hm).imp fun σ H Q ⟨F, ρ, m, sg, R, S, D⟩ => ?_
  rw [evE] at D
  refine tE.mk R S (Den.bind D) fun x ρ1 m1 H1 v1 e1 R1 D1 rv1 => ?_
  refine tE.mk R1 (S.mono e1) (Den.bind D1) fun y ρ2 m2 H2 v2 e2 R2 D2 rv2 => ?_
  obtain ⟨ys, hs, D3⟩ := Den.seqM D2
  obtain ⟨r, hr, D4⟩ := D3.optb
  obtain ⟨b, e, q⟩ := Den.ret R2 D4
  cases e
  exact ⟨r, in_reads hK R2 (RV.mono e2 _ _ rv1) rv2 hs hr, _, rfl, q⟩
end
end WM
/-! enumerate(list or tuple), zip, reversed -/
namespace WM
open PySem PySem.Spec PyProof.Rows L2
theorem meets_enumerate_newT (l : Addr) (items : Array Value) (n : Nat) (dct : Option Addr) (sl : Array (Option Value)) :
    Meets (Builtin.«enumerate.__new__» ⟨[.type "enumerate", .ref l], []⟩) (fun _ R s => s.heap.get? l = some { cls := .type "tuple", dict := dct, data := .seq items n, slots := sl } ∧
      R (.ok (.ret (.ref (s.heap.push { cls := .type "tuple_iterator", data := .fields #[.ref l, .int 0 0] }).objs.size)))
        { s with heap := (s.heap.push { cls := .type "tuple_iterator", data := .fields #[.ref l, .int 0 0] }).push { cls := .type "enumerate", data := .fields #[.none, .bool false, .ref s.heap.objs.size, rawInt 0, .none, .none] } }) :=
  .of_wp fun prog w A R s h => by
    obtain ⟨hp, g, d, tk, os⟩ := s; obtain ⟨hl, h⟩ := h
    have hsub := sub_enumerate
    have hL : Heap.IsTuple (Shared.heap ⟨hp, g, d, tk, os⟩) l items := ⟨_, hl, rfl, n, rfl⟩
    wp_walk using AutoSeq1.wpAny_loadPart' hl
    refine wpAny_stack_any fun st => wpAny_pure ?_
    split
    · rename_i c _ _ _ _ _
      cases (c == Value.type "enumerate")
      · wp_walk using AutoSeq1.wpAny_loadPart' hl, wpAny_pyIter_tuple hL
        exact ⟨_, rfl, h⟩
      · wp_walk using AutoSeq1.wpAny_loadPart' hl, wpAny_pyIter_tuple hL
        exact ⟨_, rfl, h⟩
    · wp_walk using AutoSeq1.wpAny_loadPart' hl, wpAny_pyIter_tuple hL
      exact ⟨_, rfl, h⟩
section
variable {prog : Program} {w : World} {A : Around} {E : Value → Shared → Prop} {s : Shared}
theorem call_enumerate_tuple {l : Addr} {items : Array Value} {Q : Value → Shared → Prop} (hL : s.heap.IsTuple l items)
    (h : ∀ h', IsEnum h' (s.heap.objs.size + 1) s.heap.objs.size 0 .none → h'.IsTupleIter s.heap.objs.size l 0 → h'.objs.size = s.heap.objs.size + 2 →
      (∀ b o, s.heap.get? b = some o → h'.get? b = some o) → Q (.ref (s.heap.objs.size + 1)) { s with heap := h' }) :
    wpAny (model prog w) A (call (.type "enumerate") [.ref l]) Q E s := by
  obtain ⟨⟨c, dct, dt, sl⟩, hl, hc, n, hd⟩ := hL
  replace hc : c = .type "tuple" := hc
  replace hd : dt = .seq items n := hd
  subst hc hd
  refine callType_new F.called_enumerate (by decide) (F.typeCall_enumerate_1 _) (F.newCall_enumerate_1 _) (fun obj => F.args_object_init_2 obj _) F.entry_enumerate_new
    (meets_enumerate_newT l items n dct sl) ⟨hl, ?_⟩
  have hz : (s.heap.push { cls := .type "tuple_iterator", data := .fields #[.ref l, .int 0 0] }).objs.size = s.heap.objs.size + 1 := Heap.size_push ..
  show _ ∧ _
  rw [hz]
  have he : IsEnum ((s.heap.push { cls := .type "tuple_iterator", data := .fields #[.ref l, .int 0 0] }).push
      { cls := .type "enumerate", data := .fields #[.none, .bool false, .ref s.heap.objs.size, rawInt 0, .none, .none] }) (s.heap.objs.size + 1) s.heap.objs.size 0 .none := by
    have := Heap.get?_push_size (s.heap.push { cls := .type "tuple_iterator", data := .fields #[.ref l, .int 0 0] })
      (o := { cls := .type "enumerate", data := .fields #[.none, .bool false, .ref s.heap.objs.size, rawInt 0, .none, .none] }) rfl
    rw [hz] at this; exact this
  refine ⟨⟨_, he, rfl⟩, h _ he ⟨_, Heap.get?_push_of_some _ (Heap.get?_push_size _ rfl), rfl, rfl⟩ (by rw [Heap.size_push, hz]) fun b o x => Heap.get?_push_of_some _ (Heap.get?_push_of_some _ x)⟩
end
section
variable {prog : Program} {w : World} {A : Around} {E : Value → Shared → Prop} {s : Shared}
theorem wpAny_pyNext_enum_end_tup {e it l : Addr} {i : Nat} {items : Array Value} {old : Value} {Q : Option Value → Shared → Prop} (hh : A.handled = none)
    (he : IsEnum s.heap e it i old) (hit : s.heap.IsTupleIter it l i) (hl : s.heap.IsTuple l items) (hx : items[i]? = none)
    (hQ : ∀ h', Heap.ExtBut it s.heap h' → Q none { s with heap := h' }) : wpAny (model prog w) A (pyNext (.ref e)) Q E s := by
  have hT : s.TypeIs (.ref e) "enumerate" := ⟨_, he, rfl⟩
  unfold pyNext
  refine wpAny_bind (wpAny_attempt (wpAny_callSpecial?_slot (name := Str.ofString "__next__") hT F.slot_enumerate_next
    (wpAny_call_entry F.slot_enumerate_next hT F.entry_enumerate_next ?_ (F.args_enumerate_next_1 _))))
  show wpAny _ _ (field (.ref e) 2 >>= _) _ _ _
  refine wpAny_bind (wpAny_field he rfl (x := .ref it) rfl ?_)
  refine wpAny_bind (wpAny_nextOf_tuple_end hh hit hl hx fun h' x he' hx' => ?_)
  obtain ⟨o, ho, hc⟩ := hx'
  refine wpAny_bind (wpAny_isInstance (T := "StopIteration") (b := true) ⟨o, ho, hc⟩ isSubtype_stop ?_)
  exact wpAny_pure (hQ _ he')
end
/-- the tuple at a as it stands at each turn, each item in a new pair -/
def IteT (K : PySem.W.Frag) (a : Addr) : It :=
  ⟨fun i H => ∃ (xs : List V) (x : V), SqT K H a xs ∧ xs[i]? = some x, fun i H v H' => ∃ T x, v = .ref T ∧ H T = none ∧ H' = upd H T (.tup [.int (i : Nat), x]) ∧ ∀ xs, SqT K H a xs → xs[i]? = some x, fun i H => ∃ xs : List V, SqT K H a xs ∧ xs.length ≤ i⟩
theorem turn_enumT {P : Program} {w : World} {K : PySem.W.Frag} {elts : List Expr} {kk : Nat} {tpos : Pos} (a e it : Addr) :
    Turn P w K (.Tuple elts kk tpos) (IteT K a) [e, it] e (fun i h => (∃ old, IsEnum h e it ((i : Nat) : Int) old) ∧ h.IsTupleIter it a i ∧ e ≠ it ∧ a ≠ it ∧ a ≠ e) where
  mem := by simp
  obj := fun i h st b hb => by
    obtain ⟨⟨old, he⟩, ⟨o, ho, hc, hd⟩, _⟩ := st
    have e' : b = e ∨ b = it := by simpa using hb
    rcases e' with z | z
    · rw [z]; exact ⟨_, he, fun v q => nomatch q⟩
    · rw [z]; exact ⟨o, ho, fun v q => by rw [hd] at q; cases q⟩
  keep := fun i h h' st k => let ⟨⟨old, he⟩, hi, hne⟩ := st; ⟨⟨old, k e (by simp) _ he⟩, hi.at fun o q => k it (by simp) o q, hne⟩
  item := by
    intro X hP hw hK hc i pins s σ H E I hf st hg
    subst hP hw hK
    obtain ⟨⟨old, he⟩, hit, hne, hai, hae⟩ := st
    obtain ⟨xs, x, hq, hx⟩ := hg
    obtain ⟨its, rv, p, hz⟩ := I.tuple hq
    obtain ⟨u, hu, ru⟩ := rv.get hx
    have hel : e < s.heap.objs.size := Heap.lt_size he
    have hil : it < s.heap.objs.size := by obtain ⟨_, q, _⟩ := hit; exact Heap.lt_size q
    have hlt : i < its.toArray.size := by
      rw [List.size_toArray]
      have := (List.getElem?_eq_some_iff.mp hu).1
      exact this
    have Dr := Draws.tuple (prog := X.prog) (w := X.w) (A := X.A.in1) (I.ok.hd hc) it a hai its.toArray
    have hef : e ∉ [it, a] := by
      intro q
      have q' : e = it ∨ e = a := by simpa using q
      rcases q' with q' | q'
      · exact hne q'
      · exact hae q'.symm
    refine wpAny_pyNext_enum_itemD Dr he ⟨hit, p⟩ hlt hne hef fun x' h' tk hP ho hst hT hsz hk => ?_
    obtain ⟨hit', p'⟩ := hst
    have ex : x' = u := by
      have q : its.toArray[i]? = some x' := hP
      have q2 : its[i]? = some x' := by simpa using q
      rw [hu] at q2
      exact (Option.some.inj q2).symm
    subst ex
    refine ⟨_, rfl, wpAny_letOwnedTupleGo_enum (s := { s with heap := h', toks := tk + 1 }) ho fun h'' he' sb => ?_⟩
    have hT2 : h''.get? s.heap.objs.size = some { cls := .type "tuple", data := .seq #[.int i tk, x'] } := (sb.2 _ (Nat.ne_of_gt hel)).trans hT
    have new : ObjOk X.prog X.w (upd H s.heap.objs.size (.tup [.int (i : Nat), x])) h'' s.heap.objs.size (.tup [.int (i : Nat), x]) :=
      ⟨by show 2 ≤ sizeLine; decide, [.int i tk, x'], .cons ⟨_, rfl⟩ (.cons ru .nil), ⟨_, hT2, rfl, _, rfl⟩⟩
    have I1 : Inv X pins σ (upd H s.heap.objs.size (.tup [.int (i : Nat), x])) { s with heap := h'', toks := tk + 1 } :=
      I.turnedNew (t' := tk + 1) (ch := [e, it]) (fun b ob hb q => (sb.2 b (fun z => hb (by simp [z]))).trans (hk b ob (fun z => hb (by simp [z])) (fun z => hb (by simp [z])) q)) hf (Nat.le_refl _) new
    refine ⟨.ref s.heap.objs.size, _, I1, rfl, ⟨_, x, rfl, I.hok.fresh (Nat.le_refl _), rfl, fun ys hy => by rw [I.tuple_inj hy hq]; exact hx⟩, ⟨⟨x', ?_⟩, hit'.at fun o q => (sb.2 it (Ne.symm hne)).trans q, hne, hai, hae⟩, fun b hb => ?_⟩
    · have e1 : ((i + 1 : Nat) : Int) = (i : Int) + 1 := by omega
      rw [e1]; exact he'
    · have hb' : b < s.heap.objs.size := by
        have e' : b = e ∨ b = it := by simpa using hb
        rcases e' with z | z
        · rw [z]; exact hel
        · rw [z]; exact hil
      rw [upd_ne (Nat.ne_of_lt hb')]
      exact (hf b hb).1
  done := by
    intro X hP hw hK hc i pins s σ H E I hf st hg
    subst hP hw hK
    obtain ⟨⟨old, he⟩, hit, hne, hai, hae⟩ := st
    obtain ⟨xs, hq, hx⟩ := hg
    obtain ⟨its, rv, p, hz⟩ := I.tuple hq
    obtain ⟨f0, f1, f2, f3, f4, f5⟩ := hf it (by simp)
    have hl := rv.length
    refine wpAny_pyNext_enum_end_tup (I.ok.hd hc) he hit p (by simp; omega) fun h' eb => ⟨rfl, I.turned (t' := s.toks) (fun b o hb q => eb b o hb q) f0 f1 f3 f4 f5⟩
  self := fun A i s Q E st h => let ⟨⟨_, he⟩, _⟩ := st; wpAny_pyIter_enum he h
def iEnumA (K : PySem.W.Frag) (te : TE) : TI := fun σ H R => te σ H fun v H1 => ∃ (a : Addr) (xs : List V), v = .ref a ∧ ((SqL K H1 a xs ∧ R (Ite K a) H1) ∨ (SqT K H1 a xs ∧ R (IteT K a) H1))
theorem pi_enumA {X : Cx} {e : Expr} {te : TE} {p pos tpos : Pos} {elts : List Expr} {kk : Nat} (hg : Gl X "enumerate") (hm : X.mg "enumerate" = none) (he : PE X e te) (hs : starEach [e] X.env = (false, eval e X.env) :: starEach [] X.env := by rfl) :
    PI X (.Tuple elts kk tpos) (.Call (.Name "enumerate" p) [e] [] pos) (iEnumA X.K te) := by
  refine ⟨fun pins s σ H R I h => ?_⟩
  refine Call_ (ld_blt I hg hm boot_enumerate (PyProof.Rows.callWith_type1 (args_cons (thn (he.run pins s σ H _ I h) fun u s1 ⟨v, H1, I1, r1, q1⟩ => args_nil ?_) hs) hs rfl))
  obtain ⟨a, xs, ev, q⟩ := q1
  subst ev
  obtain rfl : u = Value.ref a := r1
  have fr : ∀ b, b ∈ [s1.heap.objs.size + 1, s1.heap.objs.size] → FpOk X pins H1 b := fun b hb => by
    have e' : b = s1.heap.objs.size + 1 ∨ b = s1.heap.objs.size := by simpa using hb
    have hle : s1.heap.objs.size ≤ b := by
      rcases e' with z | z
      · rw [z]; exact Nat.le_add_right _ _
      · rw [z]; exact Nat.le_refl _
    exact I1.fpOk hle (I1.hok.fresh hle)
  rcases q with ⟨hq, q⟩ | ⟨hq, q⟩
  · obtain ⟨its, rv, p', hz⟩ := I1.list hq
    refine call_enumerate_list p'.isList fun h' he hit hsz hk => wpAny_pyIter_enum he ?_
    have I2 : Inv X pins σ H1 { s1 with heap := h' } := I1.kept (t' := s1.toks) hk
    exact ⟨s1.heap.objs.size + 1, [s1.heap.objs.size + 1, s1.heap.objs.size], _, _, H1, rfl, I2, turn_enum a (s1.heap.objs.size + 1) s1.heap.objs.size, ⟨⟨.none, he⟩, hit, Nat.succ_ne_self _⟩, fr, q⟩
  · obtain ⟨its, rv, p', hz⟩ := I1.tuple hq
    obtain ⟨o, ho, _⟩ := id p'
    have hlt := Heap.lt_size ho
    refine call_enumerate_tuple p' fun h' he hit hsz hk => wpAny_pyIter_enum he ?_
    have I2 : Inv X pins σ H1 { s1 with heap := h' } := I1.kept (t' := s1.toks) hk
    exact ⟨s1.heap.objs.size + 1, [s1.heap.objs.size + 1, s1.heap.objs.size], _, _, H1, rfl, I2, turn_enumT a (s1.heap.objs.size + 1) s1.heap.objs.size, ⟨⟨.none, he⟩, hit, Nat.succ_ne_self _, Nat.ne_of_lt hlt, Nat.ne_of_lt (Nat.lt_succ_of_lt hlt)⟩, fr, q⟩
/-! ## their sources -/
section
variable {T : Tab} {N : En} {C : Calls} {X : Cx} {Wx : WX} {tg : Expr}
theorem enW_get (xs : List W) (i : Nat) : (enW xs)[i]? = (xs[i]?).map fun x => W.tup [.int (i : Nat), x] := by
  unfold enW; rw [List.getElem?_mapIdx]
theorem enW_len (xs : List W) : (enW xs).length = xs.length := by unfold enW; rw [List.length_mapIdx]
theorem pair_sz {a b : V} : [a, b].length ≤ sizeLine := by rw [sizeLine_eq]; show 2 ≤ 16777216; decide
theorem pair_turn {N : En} {ρ m H T x y w u} (R : Rl N ρ m H) (hT : H T = none) (rx : RV N ρ m.length H w x) (ry : RV N ρ m.length H u y) :
    Rl N ρ m (upd H T (.tup [x, y])) ∧ Ext N ρ m.length H ρ m.length (upd H T (.tup [x, y])) ∧ RV N ρ m.length (upd H T (.tup [x, y])) (.tup [w, u]) (.ref T) :=
  ⟨R.new hT, Ext.new R hT, RV.newT R hT pair_sz ⟨x, [y], rfl, rx, y, [], rfl, ry, rfl⟩⟩
theorem src_enT {xs : List W} {ρ m H a vs} (hf : FzT N ρ m.length H a vs) (hv : RVs N ρ m.length H xs vs) : SrcOk N (IteT N.K a) ρ m H (enW xs) := by
  intro N' ρ' m' H' tr R' i
  obtain ⟨a', vs', e, hf', hv'⟩ := tr.rv (.tup xs) (.ref a) ⟨a, vs, rfl, hf, hv⟩
  cases e
  have hq : SqT N.K H' a vs' := by have := hf'.seq; rw [tr.K] at this; exact this
  refine ⟨fun w hw => ?_, fun h => ⟨vs', hq, by rw [← hv'.len, ← enW_len]; exact h⟩⟩
  rw [enW_get] at hw
  cases hx : xs[i]? with
  | none => rw [hx] at hw; cases hw
  | some x =>
    rw [hx] at hw
    cases hw
    obtain ⟨v, h1, h2⟩ := hv'.get hx
    refine ⟨⟨vs', v, hq, h1⟩, fun z H'' y => ?_⟩
    obtain ⟨T', x', e1, e2, e3, e4⟩ := y
    subst e1 e3
    have := e4 vs' hq
    rw [h1] at this
    cases this
    exact pair_turn R' e2 rfl h2
theorem src_enL {w : W} {xs : List W} {ρ m H a} (hw : w = .lst xs ∨ w = .klst xs) (hv : RV N ρ m.length H w (.ref a)) : SrcOk N (Ite N.K a) ρ m H (enW xs) := by
  intro N' ρ' m' H' tr R' i
  have h0 := tr.rv w (.ref a) hv
  have h1 : ∃ vs', SqL N.K H' a vs' ∧ RVs N' ρ' m'.length H' xs vs' := by
    rcases hw with rfl | rfl
    · obtain ⟨a', vs', e, hf', hv'⟩ := h0
      cases e
      exact ⟨vs', by have := hf'.seq (N := N'); rw [tr.K] at this; exact this, hv'⟩
    · obtain ⟨a', vs', e, hf', hv'⟩ := h0
      cases e
      exact ⟨vs', by have := hf'.seq; rw [tr.K] at this; exact this, hv'⟩
  obtain ⟨vs', hq, hv'⟩ := h1
  refine ⟨fun w hw => ?_, fun h => ⟨vs', hq, by rw [← hv'.len, ← enW_len]; exact h⟩⟩
  rw [enW_get] at hw
  cases hx : xs[i]? with
  | none => rw [hx] at hw; cases hw
  | some x =>
    rw [hx] at hw
    cases hw
    obtain ⟨v, h1, h2⟩ := hv'.get hx
    refine ⟨⟨vs', v, hq, h1⟩, fun z H'' y => ?_⟩
    obtain ⟨T', x', e1, e2, e3, e4⟩ := y
    subst e1 e3
    have := e4 vs' hq
    rw [h1] at this
    cases this
    exact pair_turn R' e2 rfl h2
theorem sim_senum {a : Expr} {a' : E} {elts : List Expr} {kk : Nat} {tpos p pos} (hK : X.K = N.K) (hg : Gl X "enumerate") (hm : X.mg "enumerate" = none) (ha : PE X a (tE T N C a' Wx)) (ns : notStar a = true) :
    PI X (.Tuple elts kk tpos) (.Call (.Name "enumerate" p) [a] [] pos) (tI T N C (.senum a') Wx) := by
  refine (pi_enumA hg hm ha (star_cons ns)).imp fun σ H Rr ⟨F, ρ, m, sg, R, S, D⟩ => ?_
  rw [evI] at D
  rw [hK]
  refine tE.mk R S (Den.bind D) fun x ρ1 m1 H1 v e1 R1 D1 rv => ?_
  cases x with
  | tup xs =>
    obtain ⟨q, vs, rfl, hf, hv⟩ := rv
    refine ⟨q, vs, rfl, .inr ⟨hf.seq, Den.ret R1 D1 _ ?_ (src_enT hf hv)⟩⟩
    rw [enW_len, hv.len]; exact hf.1
  | lst xs =>
    obtain ⟨q, vs, rfl, hf, hv⟩ := id rv
    refine ⟨q, vs, rfl, .inl ⟨hf.seq, Den.ret R1 D1 _ ?_ (src_enL (.inl rfl) rv)⟩⟩
    rw [enW_len, hv.len]; exact hf.1
  | klst xs =>
    obtain ⟨q, vs, rfl, hf, hv⟩ := id rv
    refine ⟨q, vs, rfl, .inl ⟨hf.seq, Den.ret R1 D1 _ ?_ (src_enL (.inr rfl) rv)⟩⟩
    rw [enW_len, hv.len]; exact hf.1
  | _ => exact False.elim D1
/-! reversed -/
theorem src_rvT {xs : List W} {ρ m H a vs} (hf : FzT N ρ m.length H a vs) (hv : RVs N ρ m.length H xs vs) : SrcOk N (RT.ItvT N.K a vs.length) ρ m H xs.reverse := by
  intro N' ρ' m' H' tr R' i
  obtain ⟨a', vs', e, hf', hv'⟩ := tr.rv (.tup xs) (.ref a) ⟨a, vs, rfl, hf, hv⟩
  cases e
  have hq : SqT N.K H' a vs' := by have := hf'.seq; rw [tr.K] at this; exact this
  have hl : vs.length = vs'.length := by rw [← hv.len, hv'.len]
  refine ⟨fun w hw => ?_, fun h => ?_⟩
  · obtain ⟨v, h1, h2⟩ := hv'.reverse.get hw
    have hi : i < vs'.length := by
      have := (List.getElem?_eq_some_iff.mp h1).1
      rw [List.length_reverse] at this; exact this
    rw [List.getElem?_reverse hi] at h1
    refine ⟨⟨by omega, vs', v, hq, by rw [hl]; exact h1⟩, fun x H'' y => ?_⟩
    obtain ⟨e1, e2⟩ := y
    subst e1
    have := e2 vs' hq
    rw [hl, h1] at this
    cases this
    exact ⟨R', Ext.refl, h2⟩
  · show vs.length ≤ i
    rw [← hv.len, ← List.length_reverse (as := xs)]; exact h
theorem src_rvL {w : W} {xs : List W} {ρ m H a n} (hw : w = .lst xs ∨ w = .klst xs) (hv : RV N ρ m.length H w (.ref a)) (hn : n = xs.length) : SrcOk N (Itv N.K a n) ρ m H xs.reverse := by
  intro N' ρ' m' H' tr R' i
  subst hn
  have h0 := tr.rv w (.ref a) hv
  have h1 : ∃ vs', SqL N.K H' a vs' ∧ RVs N' ρ' m'.length H' xs vs' := by
    rcases hw with rfl | rfl
    · obtain ⟨a', vs', e, hf', hv'⟩ := h0
      cases e
      exact ⟨vs', by have := hf'.seq (N := N'); rw [tr.K] at this; exact this, hv'⟩
    · obtain ⟨a', vs', e, hf', hv'⟩ := h0
      cases e
      exact ⟨vs', by have := hf'.seq; rw [tr.K] at this; exact this, hv'⟩
  obtain ⟨vs', hq, hv'⟩ := h1
  have hl : xs.length = vs'.length := hv'.len
  refine ⟨fun w hw => ?_, fun h => ?_⟩
  · obtain ⟨v, h1, h2⟩ := hv'.reverse.get hw
    have hi : i < vs'.length := by
      have := (List.getElem?_eq_some_iff.mp h1).1
      rw [List.length_reverse] at this; exact this
    rw [List.getElem?_reverse hi] at h1
    refine ⟨⟨by omega, vs', v, hq, by rw [hl]; exact h1⟩, fun x H'' y => ?_⟩
    obtain ⟨e1, e2⟩ := y
    subst e1
    have := e2 vs' hq
    rw [hl, h1] at this
    cases this
    exact ⟨R', Ext.refl, h2⟩
  · show xs.length ≤ i
    rw [← List.length_reverse (as := xs)]; exact h
theorem sim_srev {a : Expr} {a' : E} {p pos} (hK : X.K = N.K) (hg : Gl X "reversed") (hm : X.mg "reversed" = none) (ha : PE X a (tE T N C a' Wx)) (ns : notStar a = true) :
    PI X tg (.Call (.Name "reversed" p) [a] [] pos) (tI T N C (.srev a') Wx) := by
  refine (RT.pi_revA hg hm ha (star_cons ns)).imp fun σ H Rr ⟨F, ρ, m, sg, R, S, D⟩ => ?_
  rw [evI] at D
  rw [hK]
  refine tE.mk R S (Den.bind D) fun x ρ1 m1 H1 v e1 R1 D1 rv => ?_
  cases x with
  | tup xs =>
    obtain ⟨q, vs, rfl, hf, hv⟩ := rv
    refine ⟨q, vs, rfl, .inr ⟨hf.seq, Den.ret R1 D1 _ ?_ (src_rvT hf hv)⟩⟩
    rw [List.length_reverse, hv.len]; exact hf.1
  | lst xs =>
    obtain ⟨q, vs, rfl, hf, hv⟩ := id rv
    refine ⟨q, vs, rfl, .inl ⟨hf.seq, Den.ret R1 D1 _ ?_ (src_rvL (.inl rfl) rv hv.len.symm)⟩⟩
    rw [List.length_reverse, hv.len]; exact hf.1
  | klst xs =>
    obtain ⟨q, vs, rfl, hf, hv⟩ := id rv
    refine ⟨q, vs, rfl, .inl ⟨hf.seq, Den.ret R1 D1 _ ?_ (src_rvL (.inr rfl) rv hv.len.symm)⟩⟩
    rw [List.length_reverse, hv.len]; exact hf.1
  | _ => exact False.elim D1
/-! zip -/
theorem ziW_get (xs ys : List W) (i : Nat) (w : W) (h : (ziW xs ys)[i]? = some w) : ∃ x y, xs[i]? = some x ∧ ys[i]? = some y ∧ w = .tup [x, y] := by
  unfold ziW at h
  rw [List.getElem?_zipWith] at h
  cases hx : xs[i]? with
  | none => rw [hx] at h; cases h
  | some x =>
    cases hy : ys[i]? with
    | none => rw [hx, hy] at h; cases h
    | some y => rw [hx, hy] at h; cases h; exact ⟨x, y, rfl, rfl, rfl⟩
theorem ziW_len (xs ys : List W) : (ziW xs ys).length = min xs.length ys.length := by unfold ziW; rw [List.length_zipWith]
theorem src_ziT {xs ys : List W} {ρ m H a b vs us} (hf : FzT N ρ m.length H a vs) (hv : RVs N ρ m.length H xs vs) (hf2 : FzT N ρ m.length H b us) (hv2 : RVs N ρ m.length H ys us) : SrcOk N (RZ.ItzT N.K a b) ρ m H (ziW xs ys) := by
  intro N' ρ' m' H' tr R' i
  obtain ⟨a', vs', e, hf', hv'⟩ := tr.rv (.tup xs) (.ref a) ⟨a, vs, rfl, hf, hv⟩
  cases e
  obtain ⟨b', us', e, hg', hu'⟩ := tr.rv (.tup ys) (.ref b) ⟨b, us, rfl, hf2, hv2⟩
  cases e
  have hq : SqT N.K H' a vs' := by have := hf'.seq; rw [tr.K] at this; exact this
  have hq2 : SqT N.K H' b us' := by have := hg'.seq; rw [tr.K] at this; exact this
  refine ⟨fun w hw => ?_, fun h => ⟨vs', us', hq, hq2, by rw [ziW_len, hv'.len, hu'.len] at h; omega⟩⟩
  obtain ⟨x, y, hx, hy, ew⟩ := ziW_get _ _ _ _ hw
  subst ew
  obtain ⟨v, h1, h2⟩ := hv'.get hx
  obtain ⟨u, g1, g2⟩ := hu'.get hy
  refine ⟨⟨vs', us', v, u, hq, hq2, h1, g1⟩, fun z H'' yy => ?_⟩
  obtain ⟨T', x', y', e1, e2, e3, e4, e5⟩ := yy
  subst e1 e3
  have := e4 vs' hq
  rw [h1] at this
  cases this
  have := e5 us' hq2
  rw [g1] at this
  cases this
  exact pair_turn R' e2 h2 g2
theorem src_ziL {xs ys : List W} {ρ m H a b vs us} (hf : FzL N ρ m.length H a vs) (hv : RVs N ρ m.length H xs vs) (hf2 : FzL N ρ m.length H b us) (hv2 : RVs N ρ m.length H ys us) : SrcOk N (Itz N.K a b) ρ m H (ziW xs ys) := by
  intro N' ρ' m' H' tr R' i
  obtain ⟨a', vs', e, hf', hv'⟩ := tr.rv (.lst xs) (.ref a) ⟨a, vs, rfl, hf, hv⟩
  cases e
  obtain ⟨b', us', e, hg', hu'⟩ := tr.rv (.lst ys) (.ref b) ⟨b, us, rfl, hf2, hv2⟩
  cases e
  have hq : SqL N.K H' a vs' := by have := hf'.seq (N := N'); rw [tr.K] at this; exact this
  have hq2 : SqL N.K H' b us' := by have := hg'.seq (N := N'); rw [tr.K] at this; exact this
  refine ⟨fun w hw => ?_, fun h => ⟨vs', us', hq, hq2, by rw [ziW_len, hv'.len, hu'.len] at h; omega⟩⟩
  obtain ⟨x, y, hx, hy, ew⟩ := ziW_get _ _ _ _ hw
  subst ew
  obtain ⟨v, h1, h2⟩ := hv'.get hx
  obtain ⟨u, g1, g2⟩ := hu'.get hy
  refine ⟨⟨vs', us', v, u, hq, hq2, h1, g1⟩, fun z H'' yy => ?_⟩
  obtain ⟨T', x', y', e1, e2, e3, e4, e5⟩ := yy
  subst e1 e3
  have := e4 vs' hq
  rw [h1] at this
  cases this
  have := e5 us' hq2
  rw [g1] at this
  cases this
  exact pair_turn R' e2 h2 g2
theorem sim_szip {a b : Expr} {a' b' : E} {elts : List Expr} {kk : Nat} {tpos p pos} (hK : X.K = N.K) (hg : Gl X "zip") (hm : X.mg "zip" = none) (ha : PE X a (tE T N C a' Wx)) (ns : notStar a = true) (hb : PE X b (tE T N C b' Wx)) (ns2 : notStar b = true) :
    PI X (.Tuple elts kk tpos) (.Call (.Name "zip" p) [a, b] [] pos) (tI T N C (.szip a' b') Wx) := by
  refine (RZ.pi_zipA hg hm (pa_cons ha (pa_cons hb pa_nil (star_cons ns2)) (star_cons ns)) (star_cons ns) (star_any (es := [b]) (by simp [ns2]))).imp fun σ H Rr ⟨F, ρ, m, sg, R, S, D⟩ => ?_
  rw [evI] at D
  rw [hK]
  refine tE.mk R S (Den.bind D) fun x ρ1 m1 H1 v e1 R1 D1 rv => ?_
  refine tE.mk R1 (S.mono e1) (Den.bind D1) fun y ρ2 m2 H2 u e2 R2 D2 ru => ?_
  have rv2 := RV.mono e2 _ _ rv
  cases x with
  | tup xs =>
    cases y with
    | tup ys =>
      obtain ⟨q, vs, rfl, hf, hv⟩ := rv2
      obtain ⟨q', us, rfl, hf', hv'⟩ := ru
      refine ⟨q, q', vs, us, rfl, .inr ⟨hf.seq, hf'.seq, Den.ret R2 D2 _ ?_ (src_ziT hf hv hf' hv')⟩⟩
      rw [ziW_len, hv.len]; exact Nat.le_trans (Nat.min_le_left _ _) hf.1
    | _ => exact False.elim D2
  | lst xs =>
    cases y with
    | lst ys =>
      obtain ⟨q, vs, rfl, hf, hv⟩ := rv2
      obtain ⟨q', us, rfl, hf', hv'⟩ := ru
      refine ⟨q, q', vs, us, rfl, .inl ⟨hf.seq, hf'.seq, Den.ret R2 D2 _ ?_ (src_ziL hf hv hf' hv')⟩⟩
      rw [ziW_len, hv.len]; exact Nat.le_trans (Nat.min_le_left _ _) hf.1
    | _ => exact False.elim D2
  | _ => cases y <;> exact False.elim D2
end
end WM
/-! sorted(list or tuple of ints) -/
namespace WM
open PySem PySem.Spec PyProof.Rows L2
section
variable {prog : Program} {w : World} {A : Around} {E : Value → Shared → Prop} {s : Shared}
theorem collect_tup {l : Addr} {vs : List Value} {Q : List Value → Shared → Prop} (hl : s.heap.IsTuple l vs.toArray)
    (h : Q vs { s with heap := (s.heap.push (seqObj "list" #[] 0)).update s.heap.objs.size (Obj.mapSeq (· ++ vs.toArray)) }) (hsz : vs.length ≤ sizeLine) :
    wpAny (model prog w) A (collect (.ref l)) Q E s := by
  obtain ⟨o, ho, hc, n, hd⟩ := id hl
  unfold collect
  refine wpAny_bind (wpAny_runValue (codeAny_builtin entry_proto_collect' ?_))
  show wpAny _ _ (do again (.builtin "list.__iadd__" ⟨[← newList [], .ref l], []⟩)) _ _ s
  refine wpAny_bind (wpAny_newList (wpAny_pure ⟨Code.quiet_builtin _ (by decide +kernel), codeAny_builtin entry_list_iadd' ?_⟩))
  show wpAny _ _ (Builtin.List.listExtendWith (.ref s.heap.objs.size) (.ref l) (.ref s.heap.objs.size)) _ _ { s with heap := s.heap.push (seqObj "list" #[] 0) }
  unfold Builtin.List.listExtendWith
  have ho' : (s.heap.push (seqObj "list" #[] 0)).get? l = some o := Heap.get?_push_of_some _ ho
  refine wpAny_bind (wpAny_typeOf (T := "tuple") ⟨o, ho', hc⟩ ?_)
  have ht : (Value.type "tuple" == Value.type "tuple") = true := by rfl
  rw [if_pos (by rw [ht]; simp)]
  refine wpAny_bind (listItems_at ho' hd ?_)
  refine wpAny_bind (listItems_at (xs := #[]) (n := 0) (Heap.get?_push_size _ rfl) rfl ?_)
  rw [if_neg (by simp)]
  refine wpAny_bind (listUpdate_at (xs := #[]) (n := 0) (Heap.get?_push_size _ rfl) rfl ?_ (Nat.zero_le _) (by show (#[] ++ vs.toArray).size ≤ sizeLine + 1; simp only [Array.size_append, List.size_toArray, List.length_nil]; omega))
  refine wpAny_pure ?_
  show wpAny (model prog w) A (do
      let o ← load s.heap.objs.size
      match o.data with
      | .seq xs _ => pure xs.toList
      | _ => unsupported "internal:collect") Q E { s with heap := (s.heap.push (seqObj "list" #[] 0)).update s.heap.objs.size (Obj.mapSeq (· ++ vs.toArray)) }
  refine wpAny_bind (wpAny_load (get?_update_seq (Heap.get?_push_size _ rfl) _) ?_)
  show wpAny _ _ (pure ((#[] : Array Value) ++ vs.toArray).toList) Q E _
  rw [show ((#[] : Array Value) ++ vs.toArray).toList = vs by simp]
  exact wpAny_pure h
open SrtO Calls in
theorem sorted_ordT {l : Addr} {vs : List Value} {ltv : Value → Value → Bool} {Q : Value → Shared → Prop} (O : Swo ltv) (hl : s.heap.IsTuple l vs.toArray) (hz : vs.length ≤ sizeLine)
    (hS : 2 ≤ vs.length → ∀ (h₁ : Heap) (a : Addr), h₁.get? a = some (seqObj "list" vs.toArray 0) → (∀ b o, s.heap.get? b = some o → b ≠ a ∧ h₁.get? b = some o) → SortableO prog w A.in1.in1 { s with heap := h₁ } a vs ltv)
    (h : ∀ out : List Value, Srtd ltv out → Stb ltv out vs → Q (.ref (s.heap.objs.size + 1)) { s with heap := sortedAll s.heap vs out.toArray }) :
    wpAny (model prog w) A (call (.builtin "sorted") [.ref l]) Q E s := by
  refine Calls.call_function_entry kind_sorted plain_sorted entry_sorted (args_sorted1 _) ?_
  unfold Builtin.«sorted»
  refine wpAny_bind (m := checkCount "sorted" 1 1 _) (wpAny_pure ?_)
  refine wpAny_bind (collect_tup hl ?_ hz)
  refine wpAny_bind (wpAny_newList ?_ hz)
  have hsz : ((s.heap.push (seqObj "list" #[] 0)).update s.heap.objs.size (Obj.mapSeq (· ++ vs.toArray))).objs.size = s.heap.objs.size + 1 := by
    rw [Heap.size_update, Heap.size_push]
  have hoL : (((s.heap.push (seqObj "list" #[] 0)).update s.heap.objs.size (Obj.mapSeq (· ++ vs.toArray))).push (seqObj "list" vs.toArray 0)).get? (s.heap.objs.size + 1) = some (seqObj "list" vs.toArray 0) := by
    rw [← hsz]; exact Heap.get?_push_size _ rfl
  have keep : ∀ b o, s.heap.get? b = some o → b ≠ s.heap.objs.size + 1 ∧ (((s.heap.push (seqObj "list" #[] 0)).update s.heap.objs.size (Obj.mapSeq (· ++ vs.toArray))).push (seqObj "list" vs.toArray 0)).get? b = some o := fun b o q => by
    have hlt : b < s.heap.objs.size := Heap.lt_size q
    refine ⟨Nat.ne_of_lt (Nat.lt_succ_of_lt hlt), Heap.get?_push_of_some _ ?_⟩
    rw [Heap.get?_update_ne _ _ _ _ (Nat.ne_of_lt hlt)]
    exact Heap.get?_push_of_some _ q
  show wpAny _ _ _ _ _ { s with heap := ((s.heap.push (seqObj "list" #[] 0)).update s.heap.objs.size (Obj.mapSeq (· ++ vs.toArray))).push (seqObj "list" vs.toArray 0) }
  rw [hsz]
  refine wpAny_bind (wpAny_holding (wpAny_call_entry slot_list_sort ⟨_, hoL, rfl⟩ entry_list_sort (list_sort_ord O hoL hz (fun h2 => hS h2 _ _ hoL keep) fun out hs hb => ⟨_, rfl, ?_⟩) (args_list_sort _)))
  exact wpAny_pure ⟨_, rfl, h out hs hb⟩
end
def rSortedA (K : PySem.W.Frag) : List V → Hp → VK → Prop := fun vs H Q => ∃ (a : Addr) (ns : List Int), vs = [V.ref a] ∧ (SqL K H a (ns.map V.int) ∨ SqT K H a (ns.map V.int)) ∧
  ∀ (ns' : List Int) (p : Addr), ns'.Perm ns → ns'.Pairwise (· ≤ ·) → H p = none → Q (.ref p) (upd H p (.lst (ns'.map V.int)))
section
variable {X : Cx}
theorem cr_sortedA : CallR X (.builtin "sorted") (rSortedA X.K) := by
  intro pins s σ H vs us Q I r h
  obtain ⟨a, ns, rfl, hs, q⟩ := h
  rcases hs with hs | hs
  · exact cr_sortedI pins s σ H _ us Q I r ⟨a, ns, rfl, hs, q⟩
  obtain ⟨its, rv, hl, hz⟩ := I.tuple hs
  rw [Vals.ref1 r]
  have hi := rv.ints
  refine sorted_ordT SrtO.swo_int hl (by rw [← rv.length]; exact hz) (fun h2 h₁ a' _ _ => SrtO.ints_sortable hi h2) fun out h1 h2 => ?_
  obtain ⟨k1, k2, k3⟩ := SrtO.ints_out hi h1 h2
  obtain ⟨ep, he'⟩ := PyProof.Rows.sortedAll_at s.heap its out.toArray
  have hlen : ((out.map SrtO.iv).map V.int).length ≤ sizeLine := by
    rw [List.length_map, k2.length_eq]
    rw [List.length_map] at hz
    exact hz
  exact ⟨.ref _, upd H (s.heap.objs.size + 1) (.lst ((out.map SrtO.iv).map V.int)), I.laid (t' := s.toks) (fun _ _ => PyProof.Rows.sortedAll_old) (Nat.le_succ _) ⟨hlen, out, ep, vals_of_ints k1, he'⟩, rfl, q _ _ k2 k3 (I.hok.fresh (Nat.le_succ _))⟩
end
/-! ### tuples of ints, any number of them -/
def IsTupI (h : Heap) (v : Value) (ns : List Int) : Prop := ∃ (a : Addr) (its : List Value), v = .ref a ∧ IsTup h a its.toArray ∧ IntsAre its ns
theorem lexL_irr : ∀ x : List Int, lexL x x = false
  | [] => rfl
  | a :: x => by rw [lexL, if_pos rfl, lexL_irr x]
theorem lexL_asym : ∀ x y : List Int, lexL x y = true → lexL y x = false
  | [], [], h => by cases h
  | [], _ :: _, _ => rfl
  | _ :: _, [], h => by cases h
  | a :: x, b :: y, h => by
    unfold lexL at *
    by_cases e : a = b
    · rw [if_pos e] at h; rw [if_pos e.symm]; exact lexL_asym x y h
    · rw [if_neg e] at h; rw [if_neg (fun z => e z.symm)]
      have := of_decide_eq_true h
      exact decide_eq_false (by omega)
theorem lexL_ntr : ∀ x y z : List Int, lexL y x = false → lexL z y = false → lexL z x = false
  | [], _, [], _, _ => rfl
  | [], [], _ :: _, _, _ => rfl
  | [], _ :: _, _ :: _, _, _ => rfl
  | _ :: _, [], _, h, _ => by cases h
  | _ :: _, _ :: _, [], _, h => by cases h
  | a :: x, b :: y, c :: z, h1, h2 => by
    unfold lexL at *
    by_cases e1 : b = a
    · subst e1
      rw [if_pos rfl] at h1
      by_cases e2 : c = b
      · subst e2
        rw [if_pos rfl] at h2 ⊢
        exact lexL_ntr x y z h1 h2
      · rw [if_neg e2] at h2 ⊢; exact h2
    · rw [if_neg e1] at h1
      have h1 := of_decide_eq_false h1
      by_cases e2 : c = b
      · subst e2
        rw [if_neg e1]; exact decide_eq_false h1
      · rw [if_neg e2] at h2
        have h2 := of_decide_eq_false h2
        rw [if_neg (by omega)]
        exact decide_eq_false (by omega)
theorem swo_lexL {α : Type} (k : α → List Int) : SrtO.Swo fun v u => lexL (k v) (k u) := ⟨fun x y h => lexL_asym _ _ h, fun x y z h1 h2 => lexL_ntr _ _ _ h1 h2⟩
/-- the comparison's walk, what it gives where the shorter one ends -/
def lexF (fin : Bool) : List Int → List Int → Bool
  | x :: xs, y :: ys => if x = y then lexF fin xs ys else decide (x < y)
  | _, _ => fin
theorem lexF_lexL : ∀ x y : List Int, ∀ d : Nat, lexF (decide (d + x.length < d + y.length)) x y = lexL x y
  | [], [], d => by simp [lexF, lexL]
  | [], _ :: _, d => by simp [lexF, lexL]
  | _ :: _, [], d => by simp [lexF, lexL]
  | a :: x, b :: y, d => by
    unfold lexF lexL
    by_cases e : a = b
    · rw [if_pos e, if_pos e, ← lexF_lexL x y (d + 1), List.length_cons, List.length_cons]
      congr 2
      simp only [eq_iff_iff]
      omega
    · rw [if_neg e, if_neg e]
section
variable {prog : Program} {w : World} {A : Around} {E : Value → Shared → Prop} {s : Shared}
theorem lex_walk (fin : Bool) : ∀ {vs us : List Value} {ns ms : List Int} (i : Nat), IntsAre vs ns → IntsAre us ms → PySem.W.KatLex prog w A true fin (fun r s' => s' = s ∧ r = lexF fin ns ms) (vs.zip us) i s
  | [], _, _, _, i, .nil, _ => PySem.W.kat_nil ⟨rfl, by cases ‹List Int› <;> rfl⟩
  | _ :: _, [], _, _, i, .cons _ _ _, .nil => PySem.W.kat_nil ⟨rfl, rfl⟩
  | _ :: vs, _ :: us, _, _, i, .cons x t r, .cons y u q => by
    refine PySem.W.kat_cons (SeqAt.EqAt.int_int x t y u prog w _ _ ?_)
    refine PySem.W.kat_go (fun e1 => ?_) (fun e1 => ?_)
    · have ex : x = y := by simpa using e1
      have := lex_walk fin (i + 1) r q
      refine PySem.W.kat_yes ?_
      show PySem.W.KatLex prog w A true fin (fun r s' => s' = s ∧ r = if x = y then lexF fin _ _ else decide (x < y)) _ _ s
      rw [if_pos ex]
      exact this
    · have ex : ¬ x = y := by simpa using e1
      refine PySem.W.kat_no ?_
      show wpAny _ _ _ (fun r s' => s' = s ∧ r = if x = y then lexF fin _ _ else decide (x < y)) _ s
      rw [if_neg ex]
      cases i with
      | zero => exact oneLt_int ⟨rfl, rfl⟩
      | succ i => exact PySem.W.kat_one _ _ (PyProof.Rows.lt_int (show s = s ∧ decide (x < y) = decide (x < y) from ⟨rfl, rfl⟩))
theorem tup_cmp {vs : List Value} {k : Value → List Int} (hp : ∀ v ∈ vs, IsTupI s.heap v (k v)) : SrtO.Cmp prog w A s (tuples' true) (fun p => p.1 ∈ vs) (SrtO.lt2 fun v u => lexL (k v) (k u)) := by
  intro p q hm hm'
  obtain ⟨a, its, e, ⟨o, ho, hc, n, hd⟩, hi⟩ := hp _ hm
  obtain ⟨a', its', e', ⟨o', ho', hc', n', hd'⟩, hi'⟩ := hp _ hm'
  show wpAny (model prog w) A (keyLt' (tuples' true) p.1 q.1) (fun r s' => s' = s ∧ r = lexL (k p.1) (k q.1)) (fun _ _ => False) s
  generalize k p.1 = ns at hi ⊢
  generalize k q.1 = ms at hi' ⊢
  rw [e, e']
  refine PySem.W.kat_lt ho hd ho' hd' ?_
  have h := lex_walk (prog := prog) (w := w) (A := A) (s := s) (decide (its.toArray.size < its'.toArray.size)) 0 hi hi'
  have e2 : lexF (decide (its.toArray.size < its'.toArray.size)) ns ms = lexL ns ms := by
    have := lexF_lexL ns ms 0
    rw [Nat.zero_add, Nat.zero_add, ← hi.length, ← hi'.length] at this
    simpa using this
  rw [e2] at h
  exact h
theorem tup_firsts {h : Heap} {k : Value → List Int} : ∀ {vs : List Value}, (∀ v ∈ vs, IsTupI h v (k v) ∧ k v ≠ []) → ∃ fs : List Value, PySem.W.KatTups h vs fs ∧ fs.length = vs.length ∧ ∀ f ∈ fs, ∃ x t, f = Value.int x t
  | [], _ => ⟨[], PySem.W.KatTups.nil, rfl, fun _ hm => by simp at hm⟩
  | v :: vs, hp => by
    obtain ⟨fs, h1, h2, h3⟩ := tup_firsts (vs := vs) fun v' hm => hp v' (List.mem_cons_of_mem _ hm)
    obtain ⟨⟨a, its, e, ⟨o, ho, hc, n, hd⟩, hi⟩, hne⟩ := hp v List.mem_cons_self
    subst e
    generalize k (Value.ref a) = kk at hi hne
    cases hi with
    | nil => exact absurd rfl hne
    | cons x t r =>
      refine ⟨.int x t :: fs, PySem.W.KatTups.cons ho hc hd rfl h1, by rw [List.length_cons, List.length_cons, h2], fun f hm => ?_⟩
      rcases List.mem_cons.mp hm with rfl | hm
      · exact ⟨x, t, rfl⟩
      · exact h3 f hm
theorem tups_sortable {a : Addr} {vs : List Value} {k : Value → List Int} (h0 : 0 < vs.length) (hp : ∀ v ∈ vs, IsTupI s.heap v (k v) ∧ k v ≠ []) (ha : ∀ o, s.heap.get? a = some o → o.cls ≠ .type "tuple") : SrtO.SortableO prog w A s a vs fun v u => lexL (k v) (k u) := by
  intro h' keep
  have hp' : ∀ v ∈ vs, IsTupI h' v (k v) ∧ k v ≠ [] := fun v hm => by
    obtain ⟨⟨b, its, e, ⟨o, ho, hc, n, hd⟩, hi⟩, hne⟩ := hp v hm
    exact ⟨⟨b, its, e, ⟨o, keep b o (fun z => by subst z; exact ha o ho hc) ho, hc, n, hd⟩, hi⟩, hne⟩
  obtain ⟨fs, h1, h2, h3⟩ := tup_firsts hp'
  refine ⟨tuples' true, fun Q E hq => ?_, tup_cmp fun v hv => (hp' v hv).1⟩
  refine PySem.W.kat_kind (T := .type "int") h1 (by omega) (fun f hm => ?_) (by rfl) ?_
  · obtain ⟨x, t, rfl⟩ := h3 f hm
    exact PySem.W.Looks.now
  · have e : (Value.type "int" != Value.type "tuple") = true := by first | decide +kernel | rfl | decide
    rw [e]
    exact hq
end
def rSortedW (K : PySem.W.Frag) : List V → Hp → VK → Prop := fun vs H Q => ∃ (a : Addr) (L : List (V × List Int)), vs = [V.ref a] ∧ (SqL K H a (L.map (·.1)) ∨ SqT K H a (L.map (·.1))) ∧ (∀ x ∈ L, ∃ t, x.1 = V.ref t ∧ SqT K H t (x.2.map V.int)) ∧ (2 ≤ L.length → ∀ x ∈ L, x.2 ≠ []) ∧
  ∀ (L' : List (V × List Int)) (p : Addr), L'.Perm L → L'.Pairwise (fun x y => lexL y.2 x.2 = false) → H p = none → Q (.ref p) (upd H p (.lst (L'.map (·.1))))
section
variable {X : Cx}
open Classical in
theorem cr_sortedW : CallR X (.builtin "sorted") (rSortedW X.K) := by
  intro pins s σ H vs us Q I r h
  obtain ⟨a, L, rfl, hs, hx, hne, q⟩ := h
  rw [Vals.ref1 r]
  have hit : ∃ its : List Value, Vals (L.map (·.1)) its ∧ (s.heap.IsList a its.toArray ∨ s.heap.IsTuple a its.toArray) ∧ (L.map (·.1)).length ≤ sizeLine := by
    rcases hs with hs | hs
    · obtain ⟨its, rv, hl, hz⟩ := I.list hs
      exact ⟨its, rv, .inl hl.isList, hz⟩
    · obtain ⟨its, rv, hl, hz⟩ := I.tuple hs
      exact ⟨its, rv, .inr hl, hz⟩
  obtain ⟨its, rv, hl, hz⟩ := hit
  obtain ⟨e1, e2⟩ := refs_back rv fun x m => by
    obtain ⟨y, hy, rfl⟩ := List.mem_map.mp m
    obtain ⟨t, e, _⟩ := hx y hy
    exact ⟨t, e⟩
  -- the key of a value
  let key : V → List Int := fun v => if h : ∃ ns : List Int, ∃ t, v = V.ref t ∧ SqT X.K H t (ns.map V.int) then h.choose else []
  have hinj : ∀ {ns ms : List Int}, ns.map V.int = ms.map V.int → ns = ms := by
    intro ns
    induction ns with
    | nil => intro ms h; cases ms with
      | nil => rfl
      | cons _ _ => cases h
    | cons x ns ih => intro ms h; cases ms with
      | nil => cases h
      | cons y ms =>
        rw [List.map_cons, List.map_cons] at h
        injection h with h1 h2
        injection h1 with h1
        rw [h1, ih h2]
  have hkey : ∀ x ∈ L, key x.1 = x.2 := fun x hm => by
    obtain ⟨t, e, ht⟩ := hx x hm
    have hex : ∃ ns : List Int, ∃ t, x.1 = V.ref t ∧ SqT X.K H t (ns.map V.int) := ⟨x.2, t, e, ht⟩
    show (if h : ∃ ns : List Int, ∃ t, x.1 = V.ref t ∧ SqT X.K H t (ns.map V.int) then h.choose else []) = x.2
    rw [dif_pos hex]
    obtain ⟨t', e', ht'⟩ := hex.choose_spec
    rw [e] at e'
    cases e'
    exact hinj (I.tuple_inj ht' ht)
  have hL : L = its.map fun u => (backV u, key (backV u)) := by
    have h1 : L = (L.map (·.1)).map fun v => (v, key v) := by
      rw [List.map_map]
      refine (List.map_id L).symm.trans (List.map_congr_left fun x hm => ?_)
      show x = (x.1, key x.1)
      rw [hkey x hm]
    rw [h1, e1, List.map_map]; rfl
  have hp : ∀ v ∈ its, IsTupI s.heap v (key (backV v)) := fun v hv => by
    have hm : (backV v, key (backV v)) ∈ L := by rw [hL]; exact List.mem_map.mpr ⟨v, hv, rfl⟩
    obtain ⟨t, e, ht⟩ := hx _ hm
    obtain ⟨b, rfl⟩ := e2 v hv
    cases e
    obtain ⟨its2, rv2, hl2, _⟩ := I.tuple ht
    exact ⟨_, its2, rfl, hl2, rv2.ints⟩
  have hlen : its.length = L.length := by rw [hL, List.length_map]
  have hS : 2 ≤ its.length → ∀ (h₁ : Heap) (a' : Addr), h₁.get? a' = some (seqObj "list" its.toArray 0) → (∀ b o, s.heap.get? b = some o → b ≠ a' ∧ h₁.get? b = some o) → ∀ A' : Around, SrtO.SortableO X.prog X.w A' { s with heap := h₁ } a' its fun v u => lexL (key (backV v)) (key (backV u)) := fun h2 h₁ a' ha kk A' => by
    refine tups_sortable (s := { s with heap := h₁ }) (k := fun v => key (backV v)) (by omega) (fun v hm => ⟨?_, ?_⟩) fun o e => ?_
    · obtain ⟨b, its2, e, ⟨o, ho, hc, n, hd⟩, hi⟩ := hp v hm
      exact ⟨b, its2, e, ⟨o, (kk b o ho).2, hc, n, hd⟩, hi⟩
    · have hm2 : (backV v, key (backV v)) ∈ L := by rw [hL]; exact List.mem_map.mpr ⟨v, hm, rfl⟩
      exact hne (by omega) _ hm2
    · have e' : some o = some (seqObj "list" its.toArray 0) := e.symm.trans ha
      cases e'
      intro c
      exact absurd (Value.type.inj c) (by decide)
  have hqq : ∀ (out : List Value) (p : Addr), SrtO.Srtd (fun v u => lexL (key (backV v)) (key (backV u))) out → SrtO.Stb (fun v u => lexL (key (backV v)) (key (backV u))) out its → H p = none → Q (.ref p) (upd H p (.lst (out.map backV))) := fun out p h1 h2 hp => by
    have := q (out.map fun u => (backV u, key (backV u))) p (by rw [hL]; exact h2.perm.map _) (List.pairwise_map.mpr h1) hp
    rwa [List.map_map] at this
  have hrf : ∀ out : List Value, SrtO.Stb (fun v u => lexL (key (backV v)) (key (backV u))) out its → (∀ u ∈ out, ∃ a, u = Value.ref a) ∧ (out.map backV).length ≤ sizeLine := fun out h2 => by
    refine ⟨fun u hu => e2 u (h2.perm.mem_iff.mp hu), ?_⟩
    rw [List.length_map, h2.perm.length_eq, hlen]
    rw [List.length_map] at hz
    exact hz
  have hzz : its.length ≤ sizeLine := by rw [hlen]; rw [List.length_map] at hz; exact hz
  rcases hl with hl | hl
  · refine SrtO.sorted_ord (swo_lexL fun v => key (backV v)) hl hzz (fun h2 h₁ a' ha kk => hS h2 h₁ a' ha kk _) fun out h1 h2 => ?_
    obtain ⟨ep, he'⟩ := PyProof.Rows.sortedAll_at s.heap its out.toArray
    obtain ⟨h3, h4⟩ := hrf out h2
    exact ⟨.ref _, upd H (s.heap.objs.size + 1) (.lst (out.map backV)), I.laid (t' := s.toks) (fun _ _ => PyProof.Rows.sortedAll_old) (Nat.le_succ _) ⟨h4, out, ep, vals_back h3, he'⟩, rfl, hqq out _ h1 h2 (I.hok.fresh (Nat.le_succ _))⟩
  · refine sorted_ordT (swo_lexL fun v => key (backV v)) hl hzz (fun h2 h₁ a' ha kk => hS h2 h₁ a' ha kk _) fun out h1 h2 => ?_
    obtain ⟨ep, he'⟩ := PyProof.Rows.sortedAll_at s.heap its out.toArray
    obtain ⟨h3, h4⟩ := hrf out h2
    exact ⟨.ref _, upd H (s.heap.objs.size + 1) (.lst (out.map backV)), I.laid (t' := s.toks) (fun _ _ => PyProof.Rows.sortedAll_old) (Nat.le_succ _) ⟨h4, out, ep, vals_back h3, he'⟩, rfl, hqq out _ h1 h2 (I.hok.fresh (Nat.le_succ _))⟩
/-- either of both -/
theorem cr_sortedB : CallR X (.builtin "sorted") (fun vs H Q => rSortedA X.K vs H Q ∨ rSortedW X.K vs H Q) := by
  intro pins s σ H vs us Q I r h
  rcases h with h | h
  · exact cr_sortedA pins s σ H vs us Q I r h
  · exact cr_sortedW pins s σ H vs us Q I r h
end
theorem insI_perm (a : Int) : ∀ r : List Int, (insI a r).Perm (a :: r)
  | [] => .refl _
  | b :: r => by
    unfold insI
    split
    · exact .refl _
    · exact ((insI_perm a r).cons b).trans (.swap a b r)
theorem sortI_perm : ∀ r : List Int, (sortI r).Perm r
  | [] => .refl _
  | a :: r => (insI_perm a _).trans ((sortI_perm r).cons a)
theorem insI_srt (a : Int) : ∀ r : List Int, r.Pairwise (· ≤ ·) → (insI a r).Pairwise (· ≤ ·)
  | [], _ => by simp [insI]
  | b :: r, h => by
    unfold insI
    rw [List.pairwise_cons] at h
    split
    · rename_i hab
      refine List.pairwise_cons.mpr ⟨fun x hx => ?_, List.pairwise_cons.mpr h⟩
      rcases List.mem_cons.mp hx with rfl | hx
      · exact hab
      · exact Int.le_trans hab (h.1 x hx)
    · rename_i hab
      refine List.pairwise_cons.mpr ⟨fun x hx => ?_, insI_srt a r h.2⟩
      have := (insI_perm a r).mem_iff.mp hx
      rcases List.mem_cons.mp this with rfl | hx
      · omega
      · exact h.1 x hx
theorem sortI_srt : ∀ r : List Int, (sortI r).Pairwise (· ≤ ·)
  | [] => .nil
  | a :: r => insI_srt a _ (sortI_srt r)
theorem srt_one {a b : List Int} (hp : a.Perm b) (ha : a.Pairwise (· ≤ ·)) (hb : b.Pairwise (· ≤ ·)) : a = b :=
  List.Perm.eq_of_pairwise (le := (· ≤ ·)) (fun x y _ _ h1 h2 => Int.le_antisymm h1 h2) ha hb hp
section
variable {X : Cx} {N : En}
theorem ints_len {ws : List W} {is : List Int} (h : intsW ws = some is) : is.length = ws.length := by
  induction ws generalizing is with
  | nil => cases h; rfl
  | cons w r ih =>
    cases w with
    | int i =>
      simp only [intsW] at h
      cases e : intsW r with
      | none => rw [e] at h; cases h
      | some js => rw [e] at h; cases h; rw [List.length_cons, List.length_cons, ih e]
    | _ => cases h
theorem RVs.ofInts {N : En} {ρ k H} : ∀ is : List Int, RVs N ρ k H (is.map W.int) (is.map V.int)
  | [] => rfl
  | i :: r => ⟨.int i, _, rfl, rfl, RVs.ofInts r⟩
end
section
variable {X : Cx} {N : En}
theorem insL_perm (a : List Int) : ∀ r : List (List Int), (insL a r).Perm (a :: r)
  | [] => .refl _
  | b :: r => by
    unfold insL
    split
    · exact ((insL_perm a r).cons b).trans (.swap a b r)
    · exact .refl _
theorem sortL_perm : ∀ r : List (List Int), (sortL r).Perm r
  | [] => .refl _
  | a :: r => (insL_perm a _).trans ((sortL_perm r).cons a)
theorem insL_srt (a : List Int) : ∀ r : List (List Int), r.Pairwise (fun x y => lexL y x = false) → (insL a r).Pairwise (fun x y => lexL y x = false)
  | [], _ => by simp [insL]
  | b :: r, h => by
    unfold insL
    rw [List.pairwise_cons] at h
    split
    · rename_i hab
      refine List.pairwise_cons.mpr ⟨fun x hx => ?_, insL_srt a r h.2⟩
      have := (insL_perm a r).mem_iff.mp hx
      rcases List.mem_cons.mp this with rfl | hx
      · exact lexL_asym _ _ hab
      · exact h.1 x hx
    · rename_i hab
      have hab : lexL b a = false := by simpa using hab
      refine List.pairwise_cons.mpr ⟨fun x hx => ?_, List.pairwise_cons.mpr h⟩
      rcases List.mem_cons.mp hx with rfl | hx
      · exact hab
      · exact lexL_ntr _ _ _ hab (h.1 x hx)
theorem sortL_srt : ∀ r : List (List Int), (sortL r).Pairwise (fun x y => lexL y x = false)
  | [] => .nil
  | a :: r => insL_srt a _ (sortL_srt r)
theorem lexL_eq : ∀ x y : List Int, lexL x y = false → lexL y x = false → x = y
  | [], [], _, _ => rfl
  | [], _ :: _, h, _ => by cases h
  | _ :: _, [], _, h => by cases h
  | a :: x, b :: y, h, g => by
    unfold lexL at h g
    by_cases e : a = b
    · subst e
      rw [if_pos rfl] at h g
      rw [lexL_eq x y h g]
    · rw [if_neg e] at h
      rw [if_neg (fun z => e z.symm)] at g
      have := of_decide_eq_false h
      have := of_decide_eq_false g
      omega
theorem srtL_one {a b : List (List Int)} (hp : a.Perm b) (ha : a.Pairwise (fun x y => lexL y x = false)) (hb : b.Pairwise (fun x y => lexL y x = false)) : a = b :=
  List.Perm.eq_of_pairwise (le := fun x y => lexL y x = false) (fun x y _ _ h1 h2 => lexL_eq x y h2 h1) ha hb hp
theorem RVs.of_pairs {N : En} {ρ k H} : ∀ {L : List (V × List Int)}, (∀ y ∈ L, RV N ρ k H (ituW y.2) y.1) → RVs N ρ k H ((L.map (·.2)).map ituW) (L.map (·.1))
  | [], _ => rfl
  | y :: ys, h => ⟨y.1, ys.map (·.1), rfl, h y List.mem_cons_self, RVs.of_pairs fun z hz => h z (List.mem_cons_of_mem _ hz)⟩
theorem words_pairs {N : En} {ρ k H} : ∀ {ws : List W} {vs : List V} {wds : List (List Int)}, RVs N ρ k H ws vs → wordsW ws = some wds →
    ∃ L : List (V × List Int), L.map (·.1) = vs ∧ L.map (·.2) = wds ∧ ∀ x ∈ L, (∃ t, x.1 = V.ref t ∧ SqT N.K H t (x.2.map V.int)) ∧ RV N ρ k H (ituW x.2) x.1
  | [], vs, wds, h, e => by
    cases e
    exact ⟨[], by rw [h]; rfl, rfl, fun x hx => by cases hx⟩
  | w :: ws, _, wds, ⟨v, r, rfl, h2, h3⟩, e => by
    cases w with
    | tup xs =>
      unfold wordsW at e
      cases hi : intsW xs with
      | none => rw [hi] at e; cases e
      | some is =>
        cases hr : wordsW ws with
        | none => rw [hi, hr] at e; cases e
        | some iss =>
          rw [hi, hr] at e
          cases e
          obtain ⟨L, l1, l2, l3⟩ := words_pairs h3 hr
          obtain ⟨t, us, rfl, hf, hu⟩ := h2
          have hus := RVs.ints hu hi
          refine ⟨(V.ref t, is) :: L, by rw [List.map_cons, l1], by rw [List.map_cons, l2], fun x hx => ?_⟩
          rcases List.mem_cons.mp hx with e | hx
          · subst e
            refine ⟨⟨t, rfl, by rw [← hus]; exact hf.seq⟩, t, us, rfl, hf, ?_⟩
            rw [hus]
            exact RVs.ofInts is
          · exact l3 x hx
    | _ => cases e
theorem bi_sorted (hK : X.K = N.K) : BiOk X N (.builtin "sorted") .sorted := by
  have h := cr_sortedB (X := X)
  rw [hK] at h
  refine ⟨_, h, fun F ws vs ρ m H WW Q R r D => ?_⟩
  match ws, r, D with
  | [w], r, D =>
    obtain ⟨v, rfl, rv⟩ := RVs.one r
    obtain ⟨xs, hx, D2⟩ := Den.seqM (w := w) (f := sortM) D
    obtain ⟨a, us, rfl, hu, hz, hq⟩ := seq_of R rv hx
    cases hi : intsW xs with
    | some is =>
      have D3 : Den (N.wF F) ρ m H WW (WM.ret (W.lst ((sortI is).map .int)) m) (fun w ρ' m' H' => ∀ v, RV (N.wF F) ρ' m'.length H' w v → Q v H') := by
        unfold sortM at D2
        rw [hi] at D2
        exact D2
      have e := hu.ints hi
      subst e
      refine .inl ⟨a, is, rfl, hq, fun ns' p h1 h2 hp => ?_⟩
      have e2 : ns' = sortI is := srt_one (h1.trans (sortI_perm is).symm) h2 (sortI_srt is)
      subst e2
      refine Den.at' D3 (Ext.new R hp) (R.new hp) _ (RV.newL R hp ?_ (RVs.ofInts _))
      rw [List.length_map, (sortI_perm is).length_eq]
      rw [List.length_map] at hz
      exact hz
    | none =>
      cases hw : wordsW xs with
      | none =>
        unfold sortM at D2
        rw [hi, hw] at D2
        exact False.elim D2
      | some wds =>
        have D3 : (decide (xs.length < 2) || wds.all (fun w => !w.isEmpty)) = true ∧ Den (N.wF F) ρ m H WW (WM.ret (W.lst ((sortL wds).map ituW)) m) (fun w ρ' m' H' => ∀ v, RV (N.wF F) ρ' m'.length H' w v → Q v H') := by
          unfold sortM at D2
          rw [hi, hw] at D2
          dsimp only at D2
          by_cases hc : (decide (xs.length < 2) || wds.all (fun w => !w.isEmpty)) = true
          · rw [if_pos hc] at D2; exact ⟨hc, D2⟩
          · rw [if_neg hc] at D2; exact False.elim D2
        obtain ⟨hc, D3⟩ := D3
        obtain ⟨L, l1, l2, hk⟩ := words_pairs hu hw
        have hlen : us.length = xs.length := hu.len.symm
        have hll : L.length = us.length := by rw [← l1, List.length_map]
        refine .inr ⟨a, L, rfl, by rw [l1]; exact hq, fun x hx => ?_, fun h2 x hx => ?_, fun ys p h1 h2 hp => ?_⟩
        · exact (hk x hx).1
        · rw [Bool.or_eq_true] at hc
          rcases hc with hc | hc
          · have := of_decide_eq_true hc; omega
          · have hm : x.2 ∈ wds := by rw [← l2]; exact List.mem_map_of_mem hx
            have := List.all_eq_true.mp hc _ hm
            intro e
            rw [e] at this; cases this
        · have e2 : ys.map (·.2) = sortL wds := by
            refine srtL_one ?_ ?_ (sortL_srt wds)
            · have q := h1.map (·.2)
              rw [l2] at q
              exact q.trans (sortL_perm wds).symm
            · exact List.pairwise_map.mpr h2
          have hys : RVs (N.wF F) ρ m.length H ((sortL wds).map ituW) (ys.map (·.1)) := by
            rw [← e2]
            exact RVs.of_pairs fun y hy => (hk y (h1.mem_iff.mp hy)).2
          refine Den.at' D3 (Ext.new R hp) (R.new hp) _ (RV.newL R hp ?_ hys)
          rw [List.length_map, h1.length_eq, hll]; exact hz
  | [], _, D => exact False.elim D
  | a :: _ :: _, _, D => exact False.elim (by cases a <;> exact D)
end
end WM
namespace WM
open PySem PySem.Spec PyProof.Rows L2

section
variable {T : Tab} {N : En} {C : Calls} {X : Cx} {Wx : WX}
/-! ### targets -/
mutual
/-- the slots that a target names -/
def Tg.ix : Tg → List Nat
  | .v i => [i]
  | .t xs => Tg.ixs xs
def Tg.ixs : List Tg → List Nat
  | [] => []
  | x :: xs => Tg.ix x ++ Tg.ixs xs
end
/-- the slots but these are as they were -/
def Oth (l : List Nat) (σ σ' : L2.St) : Prop := σ'.length = σ.length ∧ ∀ j, j ∉ l → σ'[j]? = σ[j]?
theorem Oth.refl {l σ} : Oth l σ σ := ⟨rfl, fun _ _ => rfl⟩
theorem Oth.trans {l l' σ σ' σ''} (a : Oth l σ σ') (b : Oth l' σ' σ'') : Oth (l ++ l') σ σ'' :=
  ⟨b.1.trans a.1, fun j hj => (b.2 j fun z => hj (List.mem_append_right _ z)).trans (a.2 j fun z => hj (List.mem_append_left _ z))⟩
def gT (N : En) (t : Tg) : TG := fun v σ H Q => ∃ F ρ m sg w sg', Rl (N.wF F) ρ m H ∧ RS (N.wF F) ρ m.length H sg σ ∧ RV (N.wF F) ρ m.length H w v ∧ asgT t w sg = some sg' ∧
  ∀ σ', RS (N.wF F) ρ m.length H sg' σ' → Oth t.ix σ σ' → Q σ' H
def gTs (N : En) (ts : List Tg) : TGs := fun vs σ H Q => ∃ F ρ m sg ws sg', Rl (N.wF F) ρ m H ∧ RS (N.wF F) ρ m.length H sg σ ∧ RVs (N.wF F) ρ m.length H ws vs ∧ asgTs ts ws sg = some sg' ∧
  ∀ σ', RS (N.wF F) ρ m.length H sg' σ' → Oth (Tg.ixs ts) σ σ' → Q σ' H
theorem _root_.L2.PG.imp {e : Expr} {t t' : TG} (h : PG X e t) (i : ∀ v σ H Q, t' v σ H Q → t v σ H Q) : PG X e t' := ⟨fun pins s σ H v u Q I r q => h.run pins s σ H v u Q I r (i v σ H Q q)⟩
theorem _root_.L2.PGs.imp {e : List Expr} {t t' : TGs} (h : PGs X e t) (i : ∀ v σ H Q, t' v σ H Q → t v σ H Q) : PGs X e t' := ⟨fun pins s σ H v u Q I r q => h.run pins s σ H v u Q I r (i v σ H Q q)⟩
theorem sim_gname {i : Nat} {x : Str} {pos} (hN : X.N.Nodup) (hi : X.N[i]? = some x) (hx : Loc X.env.scope x) (hf : X.fn x = true ∨ X.env.scope.names.lookup x = some .local) : PG X (.Name x pos) (gT N (.v i)) := by
  refine (pg_name hN hi hx hf).imp fun v σ H Q ⟨F, ρ, m, sg, w, sg', R, S, r, e, q⟩ => ?_
  rw [asgT] at e
  cases e
  exact q _ (S.set i r) ⟨List.length_set, fun j hj => List.getElem?_set_ne (fun z => hj (by rw [Tg.ix, z]; exact List.mem_singleton.mpr rfl))⟩
theorem sim_gnil : PGs X [] (gTs N []) := by
  refine pgs_nil.imp fun v σ H Q ⟨F, ρ, m, sg, ws, sg', R, S, r, e, q⟩ => ?_
  cases ws with
  | nil => rw [asgTs] at e; cases e; exact ⟨r, q _ S Oth.refl⟩
  | cons w ws => simp [asgTs] at e
theorem star_cons_asg {e : Expr} {es : List Expr} {env : Env} (h : notStar e = true) : (assignEach (e :: es) env).map (·.2) = assign e env :: (assignEach es env).map (·.2) := by
  cases e <;> first | rfl | cases h
theorem sim_gcons {e : Expr} {es : List Expr} {t : Tg} {ts : List Tg} (h : PG X e (gT N t)) (hs : PGs X es (gTs N ts)) (ns : notStar e = true) : PGs X (e :: es) (gTs N (t :: ts)) := by
  refine (pgs_cons h hs (star_cons_asg ns)).imp fun vs σ H Q ⟨F, ρ, m, sg, ws, sg', R, S, r, e, q⟩ => ?_
  cases ws with
  | nil => simp [asgTs] at e
  | cons w ws =>
    obtain ⟨v, vr, ev, h1, h2⟩ := r
    rw [asgTs] at e
    cases e1 : asgT t w sg with
    | none => rw [e1] at e; cases e
    | some sg1 =>
      rw [e1] at e
      exact ⟨v, vr, ev, F, ρ, m, sg, w, sg1, R, S, h1, e1, fun σ' S' o => ⟨F, ρ, m, sg1, ws, sg', R, S', h2, e, fun σ'' S'' o' => q σ'' S'' (by rw [Tg.ixs]; exact o.trans o')⟩⟩
theorem asg_len {env : Env} : ∀ {es : List Expr}, (assignEach es env).length = es.length
  | [] => rfl
  | e :: es => by cases e <;> (show (assignEach es env).length + 1 = es.length + 1; rw [asg_len])
theorem asg_nostar {env : Env} : ∀ {es : List Expr}, es.all notStar = true → (assignEach es env).findIdx? (·.1) = none
  | [], _ => rfl
  | e :: es, h => by
    rw [List.all_cons, Bool.and_eq_true] at h
    have ih := asg_nostar (env := env) h.2
    have e1 : assignEach (e :: es) env = (false, assign e env) :: assignEach es env := by cases e <;> first | rfl | cases h.1
    rw [e1, List.findIdx?_cons, ih]
    rfl
theorem asgTs_len : ∀ {ts : List Tg} {ws : List W} {sg sg' : Sg}, asgTs ts ws sg = some sg' → ts.length = ws.length
  | [], [], _, _, _ => rfl
  | [], _ :: _, _, _, h => by simp [asgTs] at h
  | _ :: _, [], _, _, h => by simp [asgTs] at h
  | t :: ts, w :: ws, sg, sg', h => by
    rw [asgTs] at h
    split at h
    · rw [List.length_cons, List.length_cons, asgTs_len h]
    · cases h
theorem sim_gtup {es : List Expr} {ts : List Tg} {k pos} (hK : X.K = N.K) (hc : X.calm = true) (h : PGs X es (gTs N ts)) (hl : es.length = ts.length) (ns : es.all notStar = true) : PG X (.Tuple es k pos) (gT N (.t ts)) := by
  have hg := pg_tup (k := k) (pos := pos) (n := es.length) hc h asg_len (asg_nostar ns)
  rw [hK] at hg
  refine hg.imp fun v σ H Q ⟨F, ρ, m, sg, w, sg', R, S, r, e, q⟩ => ?_
  cases w with
  | tup ws =>
    rw [asgT] at e
    obtain ⟨a, vs, ev, hf, hv⟩ := r
    exact ⟨a, vs, ev, hf.seq, by rw [← hv.len, hl, asgTs_len e], F, ρ, m, sg, ws, sg', R, S, hv, e, fun σ' S' o => q σ' S' (by rw [Tg.ix]; exact o)⟩
  | _ => simp [asgT] at e

/-! ### comprehensions -/
theorem sim_noif' : PTs X [] (tT T N C (.lit (.bl true)) Wx) := by
  refine ⟨fun pins s σ H Q I h => pts_nil.run pins s σ H Q I ?_⟩
  obtain ⟨F, ρ, m, sg, R, S, D⟩ := h
  rw [evE] at D
  obtain ⟨b, e, q⟩ := Den.ret R D
  cases e
  exact q
theorem Den.noExc {α : Type} {N : En} {ρ m H WW} {x : M α} {P : α → (Nat → Addr) → Hm → Hp → Prop} (D : Den N ρ m H WW (WM.noExc x m) P) : Den N ρ m H (fun _ _ _ _ => False) (x m) P := by
  unfold WM.noExc at D
  unfold Den at D ⊢
  cases e : x m with
  | none => rw [e] at D; exact D
  | some p =>
    obtain ⟨r, m'⟩ := p
    rw [e] at D
    cases r with
    | ok a => exact D
    | exc y => exact False.elim D
theorem Den.wk {α : Type} {N : En} {ρ m H WW WW'} {r : Option (Res α × Hm)} {P : α → (Nat → Addr) → Hm → Hp → Prop} (D : Den N ρ m H WW r P) (h : ∀ x ρ' m' H', WW x ρ' m' H' → WW' x ρ' m' H') : Den N ρ m H WW' r P := by
  unfold Den at D ⊢
  cases r with
  | none => exact D
  | some p =>
    obtain ⟨r, m'⟩ := p
    cases r with
    | ok a => exact D
    | exc y => exact fun ρ' H' e R => h _ _ _ _ (D ρ' H' e R)
theorem wipe_len (sg : Sg) : ∀ vs : List Nat, (wipeW sg vs).length = sg.length
  | [] => rfl
  | v :: vs => by unfold wipeW; rw [List.length_set, wipe_len sg vs]
theorem wipe_get (σ : L2.St) (j : Nat) : ∀ vs : List Nat, (L2.wipe σ vs)[j]? = if j ∈ vs ∧ j < σ.length then some none else σ[j]?
  | [] => by simp [L2.wipe]
  | v :: vs => by
    unfold L2.wipe
    by_cases e : v = j
    · subst e
      by_cases hl : v < σ.length
      · rw [List.getElem?_set_self (by rw [wipe_length]; exact hl), if_pos ⟨List.mem_cons_self, hl⟩]
      · rw [if_neg fun z => hl z.2, List.getElem?_eq_none (by rw [List.length_set, wipe_length]; omega), List.getElem?_eq_none (by omega)]
    · rw [List.getElem?_set_ne e, wipe_get σ j vs]
      have : j ∈ v :: vs ↔ j ∈ vs := by rw [List.mem_cons]; exact ⟨fun z => z.elim (fun q => absurd q.symm e) id, .inr⟩
      simp only [this]
theorem wipe_oth {σ σ' : L2.St} {l vs : List Nat} (h : Oth l (L2.wipe σ vs) σ') (hl : ∀ j ∈ l, j ∈ vs) : L2.wipe σ' vs = L2.wipe σ vs := by
  apply List.ext_getElem?
  intro j
  have e1 : σ'.length = σ.length := by rw [h.1, wipe_length]
  rw [wipe_get, wipe_get, e1]
  by_cases hj : j ∈ vs
  · by_cases hz : j < σ.length
    · rw [if_pos ⟨hj, hz⟩, if_pos ⟨hj, hz⟩]
    · rw [if_neg fun z => hz z.2, if_neg fun z => hz z.2, List.getElem?_eq_none (by omega), List.getElem?_eq_none (by omega)]
  · rw [if_neg fun z => hj z.1, if_neg fun z => hj z.1, h.2 j fun z => hj (hl j z), wipe_get, if_neg fun z => hj z.1]

theorem RS.tr {N ρ k H N' ρ' k' H' sg σ} (e : Tr N ρ k H N' ρ' k' H') (h : RS N ρ k H sg σ) : RS N' ρ' k' H' sg σ :=
  ⟨h.1, fun i w q => let ⟨v, h1, h2⟩ := h.2 i w q; ⟨v, h1, e.rv w v h2⟩⟩
theorem bnd_some {α β : Type} {x : M α} {f : α → M β} {m m2 : Hm} {b : β} (h : bnd x f m = some (.ok b, m2)) : ∃ a m1, x m = some (.ok a, m1) ∧ f a m1 = some (.ok b, m2) := by
  unfold bnd at h
  cases e : x m with
  | none => rw [e] at h; cases h
  | some p =>
    obtain ⟨r, m'⟩ := p
    rw [e] at h
    cases r with
    | ok a => exact ⟨a, m', rfl, h⟩
    | exc y => cases h
theorem opt_some_inv {α : Type} {o : Option α} {m m' : Hm} {a : α} (h : WM.opt o m = some (.ok a, m')) : o = some a ∧ m' = m := by
  cases o with
  | none => cases h
  | some b => cases h; exact ⟨rfl, rfl⟩
theorem comp_turn {tg : Tg} {sg : Sg} {tst elt : Sg → M W} {x : W} {xs ys : List W} {m m' : Hm} (h : compGo tg sg tst elt (x :: xs) m = some (.ok ys, m')) :
    ∃ sg' b m1, asgT tg x sg = some sg' ∧ tst sg' m = some (.ok (.bl b), m1) ∧
      ((b = true ∧ ∃ y m2 zs, elt sg' m1 = some (.ok y, m2) ∧ compGo tg sg tst elt xs m2 = some (.ok zs, m') ∧ ys = y :: zs) ∨ (b = false ∧ compGo tg sg tst elt xs m1 = some (.ok ys, m'))) := by
  unfold compGo at h
  obtain ⟨sg', m0, h1, h2⟩ := bnd_some h
  obtain ⟨h3, h4⟩ := opt_some_inv h1
  subst h4
  obtain ⟨w, m1, h5, h6⟩ := bnd_some h2
  cases w with
  | bl b =>
    refine ⟨sg', b, m1, h3, h5, ?_⟩
    cases b with
    | true =>
      obtain ⟨y, m2, h7, h8⟩ := bnd_some h6
      obtain ⟨zs, m3, h9, h10⟩ := bnd_some h8
      cases h10
      exact .inl ⟨rfl, y, m2, zs, h7, h9, rfl⟩
    | false => exact .inr ⟨rfl, h6⟩
  | _ => cases h6
theorem den_of {α : Type} {N : En} {ρ m H WW} {r : Option (Res α × Hm)} {a : α} {m' : Hm} {P : α → (Nat → Addr) → Hm → Hp → Prop} (e : r = some (.ok a, m')) (h : ∀ ρ' H', Ext N ρ m.length H ρ' m'.length H' → Rl N ρ' m' H' → P a ρ' m' H') : Den N ρ m H WW r P := by
  rw [e]; exact h
theorem NL.reveal {N : En} {ρ k a D} (h : NL (N.plus D) ρ k a) : NL N (rAdd ρ k D) (k + 1) a := by
  refine ⟨fun n hn => ?_, fun z => h.2 (.inl z)⟩
  by_cases e : n = k
  · rw [e, rAdd_same]; exact fun z => h.2 (.inr z.symm)
  · rw [rAdd_ne e]; exact h.1 n (by omega)
mutual
/-- what nobody could name becomes a living thing -/
theorem RV.reveal {N : En} {ρ k H D} : ∀ (w : W) (v : V), RV (N.plus D) ρ k H w v → RV N (rAdd ρ k D) (k + 1) H w v
  | .non, _, h => h
  | .bl _, _, h => h
  | .int _, _, h => h
  | .str _, _, h => h
  | .tup ws, _, ⟨a, vs, h1, h2, h3⟩ => ⟨a, vs, h1, ⟨h2.1, h2.2.imp (fun z => ⟨z.1, z.2.reveal⟩) id⟩, RVs.reveal ws vs h3⟩
  | .lst ws, _, ⟨a, vs, h1, h2, h3⟩ => ⟨a, vs, h1, ⟨h2.1, h2.2.1, h2.2.2.reveal⟩, RVs.reveal ws vs h3⟩
  | .klst ws, _, ⟨a, vs, h1, h2, h3⟩ => ⟨a, vs, h1, ⟨h2.1, h2.2.imp (fun z => ⟨z.1, z.2.reveal⟩) id⟩, RVs.reveal ws vs h3⟩
  | .ref n, _, h => ⟨Nat.lt_succ_of_lt h.1, by rw [rAdd_ne (Nat.ne_of_lt h.1)]; exact h.2⟩
  | .dct _ _, _, h => h
  | .ins _ _, _, h => h
theorem RVs.reveal {N : En} {ρ k H D} : ∀ (w : List W) (v : List V), RVs (N.plus D) ρ k H w v → RVs N (rAdd ρ k D) (k + 1) H w v
  | [], _, h => h
  | w :: ws, _, ⟨v, r, h1, h2, h3⟩ => ⟨v, r, h1, RV.reveal w v h2, RVs.reveal ws r h3⟩
end
theorem RO.reveal {N : En} {ρ k H D} {o : HOb} {a : Addr} (h : RO (N.plus D) ρ k H o a) : RO N (rAdd ρ k D) (k + 1) H o a := by
  cases o with
  | lst ws => obtain ⟨vs, h1, h2, h3⟩ := h; exact ⟨vs, h1, h2, RVs.reveal _ _ h3⟩
  | dK _ => obtain ⟨ho, vs, h1, h2, h3⟩ := h; exact ⟨ho, vs, h1, h2, RVs.reveal _ _ h3⟩
  | dT _ => obtain ⟨ho, vs, h1, h2, h3⟩ := h; exact ⟨ho, vs, h1, h2, RVs.reveal _ _ h3⟩
  | ins _ _ => obtain ⟨ho, vs, h1, h2, h3⟩ := h; exact ⟨ho, vs, h1, h2, RVs.reveal _ _ h3⟩
theorem Rl.reveal {N : En} {ρ m H D ws vs} (R : Rl (N.plus D) ρ m H) (DNF : ¬ N.F D) (hD : H D = some (.lst vs)) (hz : vs.length ≤ sizeLine) (hr : RVs (N.plus D) ρ m.length H ws vs) : Rl N (rAdd ρ m.length D) (.lst ws :: m) H := by
  have hne : ∀ j, j < m.length → ρ j ≠ D := fun j hj z => R.nf j hj (.inr z)
  refine ⟨fun a h => R.fb a (.inl h), fun n hn h => ?_, fun i j hi hj e => ?_, fun i hi => ?_, fun n x hx => ?_⟩
  · rw [List.length_cons] at hn
    by_cases en : n = m.length
    · rw [en, rAdd_same] at h; exact DNF h
    · rw [rAdd_ne en] at h; exact R.nf n (by omega) (.inl h)
  · rw [List.length_cons] at hi hj
    by_cases ei : i = m.length <;> by_cases ej : j = m.length
    · omega
    · rw [ei, rAdd_same, rAdd_ne ej] at e; exact absurd e.symm (hne j (by omega))
    · rw [ej, rAdd_same, rAdd_ne ei] at e; exact absurd e (hne i (by omega))
    · rw [rAdd_ne ei, rAdd_ne ej] at e; exact R.inj i j (by omega) (by omega) e
  · rw [List.length_cons] at hi
    by_cases ei : i = m.length
    · rw [ei, rAdd_same, hD]; simp
    · rw [rAdd_ne ei]; exact R.lv i (by omega)
  · rw [List.length_cons]
    unfold hget at hx
    by_cases en : n = m.length
    · rw [if_pos en] at hx
      injection hx with hx
      subst hx
      rw [en, rAdd_same]
      exact ⟨vs, hD, hz, RVs.reveal _ _ hr⟩
    · rw [if_neg en] at hx
      rw [rAdd_ne en]
      exact (R.obj n x hx).reveal
theorem comp_reads {elt' src' cond' : E} {t : Tg} {vs : List Nat} (hix : ∀ j ∈ t.ix, j ∈ vs) (σ : L2.St) (H : Hp) (Q : VK) (h : tE T N C (.comp elt' t src' cond' vs) Wx σ H Q) :
    tLc (tI T N C src' Wx) (gT N t) (tT T N C cond' fun _ _ _ _ => False) (tE T N C elt' fun _ _ _ _ => False) vs σ H Q := by
  obtain ⟨F, ρ, m, sg, R, S, D⟩ := h
  rw [evE] at D
  refine ⟨F, ρ, m, sg, R, S, (Den.bind D).imp fun ws ρ1 m1 H1 e1 R1 D1 J hz hJ Da hD => ?_⟩
  -- the whole run
  have hrun : ∃ ys mend, compGo t (wipeW sg vs) (evE T C cond') (evE T C elt') ws m1 = some (.ok ys, mend) ∧
      ∀ ρ' H', Ext (N.wF F) ρ1 m1.length H1 ρ' mend.length H' → Rl (N.wF F) ρ' mend H' → ∀ v, RV (N.wF F) ρ' mend.length H' (.lst ys) v → Q v H' := by
    have D2 := Den.bind D1
    unfold Den WM.noExc at D2
    cases e : compGo t (wipeW sg vs) (evE T C cond') (evE T C elt') ws m1 with
    | none => rw [e] at D2; exact False.elim D2
    | some p =>
      obtain ⟨r, mend⟩ := p
      rw [e] at D2
      cases r with
      | ok ys => exact ⟨ys, mend, rfl, fun ρ' H' e' R' v rv => D2 ρ' H' e' R' ρ' H' Ext.refl R' v rv⟩
      | exc y => exact False.elim D2
  obtain ⟨ys, mend, hrun, hend⟩ := hrun
  have S1 := S.mono e1
  refine ⟨fun i n H2 => n = ws.length - i ∧ i ≤ ws.length ∧ ∃ ρ2 m2 acc vacc rest, Ext (N.wF F) ρ1 m1.length H1 ρ2 m2.length H2 ∧ Tr (N.wF F) ρ1 m1.length H1 ((N.wF F).plus Da) ρ2 m2.length H2 ∧ Rl ((N.wF F).plus Da) ρ2 m2 H2 ∧
      H2 Da = some (.lst vacc) ∧ RVs ((N.wF F).plus Da) ρ2 m2.length H2 acc vacc ∧ acc.length ≤ i ∧
      compGo t (wipeW sg vs) (evE T C cond') (evE T C elt') (ws.drop i) m2 = some (.ok rest, mend) ∧ ys = acc ++ rest,
    ⟨ws.length, rfl, Nat.zero_le _, ρ1, m1, [], [], ys, Ext.first R1 hD Ext.refl, Tr.plus hD, R1.plus hD, upd_same, rfl, Nat.le_refl _, hrun, rfl⟩, ?_⟩
  rintro i n H2 ⟨rfl, hi, ρ2, m2, acc, vacc, rest, e2, tr2, R2, hDa, hacc, hlen, hgo, hys⟩
  have hsrc := hJ _ ρ2 m2 H2 tr2 R2 i
  by_cases hlt : i < ws.length
  · obtain ⟨hgo1, hyld⟩ := hsrc.1 ws[i] (List.getElem?_eq_getElem hlt)
    rw [List.drop_eq_getElem_cons hlt] at hgo
    obtain ⟨sg', b, m3, ha, hb, hrest⟩ := comp_turn hgo
    refine .inr ⟨hgo1, fun H' => ∃ n', n' < ws.length - i ∧ (n' = ws.length - (i + 1) ∧ i + 1 ≤ ws.length ∧ ∃ ρ2 m2 acc vacc rest, Ext (N.wF F) ρ1 m1.length H1 ρ2 m2.length H' ∧ Tr (N.wF F) ρ1 m1.length H1 ((N.wF F).plus Da) ρ2 m2.length H' ∧ Rl ((N.wF F).plus Da) ρ2 m2 H' ∧
      H' Da = some (.lst vacc) ∧ RVs ((N.wF F).plus Da) ρ2 m2.length H' acc vacc ∧ acc.length ≤ i + 1 ∧
      compGo t (wipeW sg vs) (evE T C cond') (evE T C elt') (ws.drop (i + 1)) m2 = some (.ok rest, mend) ∧ ys = acc ++ rest), fun H' z => z, fun x H3 hy => ?_⟩
    obtain ⟨R3, e3, rx⟩ := hyld x H3 hy
    have tr3 := tr2.trans (Tr.of e3)
    have S3 : RS ((N.wF F).plus Da) ρ2 m2.length H3 (wipeW sg vs) (L2.wipe σ vs) := (S1.tr tr3).wipe vs
    have hDa3 : H3 Da = some (.lst vacc) := by rw [e3.keepF Da (.inr rfl)]; exact hDa
    refine ⟨_, ρ2, m2, wipeW sg vs, ws[i], sg', R3, S3, rx, ha, fun σ2 S4 o => ⟨wipe_oth o hix, ?_⟩⟩
    refine ⟨_, ρ2, m2, sg', R3, S4, den_of hb fun ρ4 H4 e4 R4 => ⟨b, rfl, ?_⟩⟩
    have hDa4 : H4 Da = some (.lst vacc) := by rw [e4.keepF Da (.inr rfl)]; exact hDa3
    have tr4 := tr3.trans (Tr.of e4)
    have ext4 : Ext (N.wF F) ρ1 m1.length H1 ρ4 m3.length H4 := by
      have q : Ext ((N.wF F).plus Da) ρ2 m2.length H2 ρ4 m3.length H4 := e3.trans e4
      refine ⟨Nat.le_trans e2.le q.le, fun n hn => (q.rho n (Nat.lt_of_lt_of_le hn e2.le)).trans (e2.rho n hn), fun a u hu hn => ?_, fun a hf => ?_, fun n hn hu => ?_, fun n hn hn' => ?_⟩
      · exact q.keep a u (e2.keep a u hu hn) ((e2.nl hu hn).plus (ne_of_none hu hD))
      · rw [q.keepF a (.inl hf)]; exact e2.keepF a hf
      · have z := q.lv n (Nat.lt_of_lt_of_le hn e2.le)
        rw [e2.rho n hn] at z
        exact z (e2.lv n hn hu)
      · by_cases hk : n < m2.length
        · rw [q.rho n hk]; exact e2.fresh n hn hk
        · have z := q.fresh n (Nat.le_of_not_lt hk) hn'
          cases y : H1 (ρ4 n) with
          | none => rfl
          | some u =>
            by_cases hf : (N.wF F).F (ρ4 n)
            · rw [e2.keepF _ hf, y] at z; cases z
            by_cases hnl : ∀ j, j < m1.length → ρ1 j ≠ ρ4 n
            · rw [e2.keep _ u y ⟨hnl, hf⟩] at z; cases z
            · have ⟨j, h3, h4⟩ : ∃ j, j < m1.length ∧ ρ1 j = ρ4 n := by
                simp only [Classical.not_forall] at hnl
                obtain ⟨j, h3, h4⟩ := hnl
                exact ⟨j, h3, Classical.not_not.mp h4⟩
              have r := e2.lv j h3
              rw [h4, y] at r
              exact absurd z (r (by simp))
    rcases hrest with ⟨rfl, y, m5, zs, hy5, hz5, hr5⟩ | ⟨rfl, hz5⟩
    · refine iteT ⟨_, ρ4, m3, sg', R4, S4.mono e4, den_of hy5 fun ρ5 H5 e5 R5 v rv => ?_⟩
      have hDa5 : H5 Da = some (.lst vacc) := by rw [e5.keepF Da (.inr rfl)]; exact hDa4
      have hacc5 := RVs.mono e5 _ _ (RVs.mono e4 _ _ (RVs.mono e3 _ _ hacc))
      refine ⟨vacc, hDa5, ?_, ws.length - (i + 1), by omega, rfl, hlt, ρ5, m5, acc ++ [y], vacc ++ [v], zs, ?_, (tr4.trans (Tr.of e5)).trans (Tr.turn (N := N.wF F) (D := Da)), Rl.turn (N := N.wF F) (D := Da) R5, upd_same, RVs.turn (N := N.wF F) (D := Da) _ _ (hacc5.append ⟨v, [], rfl, rv, rfl⟩), ?_, hz5, ?_⟩
      · rw [← hacc5.len]; omega
      · have q : Ext (N.wF F) ρ1 m1.length H1 ρ5 m5.length H5 := by
          refine ⟨Nat.le_trans ext4.le e5.le, fun n hn => (e5.rho n (Nat.lt_of_lt_of_le hn ext4.le)).trans (ext4.rho n hn), fun a u hu hn => ?_, fun a hf => ?_, fun n hn hu => ?_, fun n hn hn' => ?_⟩
          · exact e5.keep a u (ext4.keep a u hu hn) ((ext4.nl hu hn).plus (ne_of_none hu hD))
          · rw [e5.keepF a (.inl hf)]; exact ext4.keepF a hf
          · have z := e5.lv n (Nat.lt_of_lt_of_le hn ext4.le)
            rw [ext4.rho n hn] at z
            exact z (ext4.lv n hn hu)
          · by_cases hk : n < m3.length
            · rw [e5.rho n hk]; exact ext4.fresh n hn hk
            · have z := e5.fresh n (Nat.le_of_not_lt hk) hn'
              cases y : H1 (ρ5 n) with
              | none => rfl
              | some u =>
                by_cases hf : (N.wF F).F (ρ5 n)
                · rw [ext4.keepF _ hf, y] at z; cases z
                by_cases hnl : ∀ j, j < m1.length → ρ1 j ≠ ρ5 n
                · rw [ext4.keep _ u y ⟨hnl, hf⟩] at z; cases z
                · have ⟨j, h3, h4⟩ : ∃ j, j < m1.length ∧ ρ1 j = ρ5 n := by
                    simp only [Classical.not_forall] at hnl
                    obtain ⟨j, h3, h4⟩ := hnl
                    exact ⟨j, h3, Classical.not_not.mp h4⟩
                  have r := ext4.lv j h3
                  rw [h4, y] at r
                  exact absurd z (r (by simp))
        exact q.last hD (R1.nF hD)
      · rw [List.length_append]; simp only [List.length_cons, List.length_nil]; omega
      · rw [hys, hr5, List.append_assoc]; rfl
    · exact iteF ⟨ws.length - (i + 1), by omega, rfl, hlt, ρ4, m3, acc, vacc, rest, ext4, tr4, R4, hDa4, RVs.mono e4 _ _ (RVs.mono e3 _ _ hacc), by omega, hz5, hys⟩
  · refine .inl ⟨hsrc.2 (Nat.le_of_not_lt hlt), ?_⟩
    rw [List.drop_eq_nil_of_le (Nat.le_of_not_lt hlt)] at hgo
    have hgo' : some (Res.ok ([] : List W), m2) = some (.ok rest, mend) := hgo
    cases hgo'
    rw [List.append_nil] at hys
    subst hys
    refine hend ρ2 H2 e2 R2.minus (.ref Da) ⟨Da, vacc, rfl, ⟨?_, hDa, ?_⟩, RVs.minus _ _ hacc⟩
    · rw [← hacc.len]; omega
    · exact ⟨fun n hn z => R2.nf n hn (.inr z), R1.nF hD⟩
/-- a comprehension's turns -/
theorem comp_core {F : Addr → Prop} {elt' cond' : E} {t : Tg} {vs : List Nat} {J : It} {ρ1 : Nat → Addr} {m1 : Hm} {H1 : Hp} {sg : Sg} {σ : L2.St} {Q : VK} {tst : Sg → M W} {ws ys : List W} {mend : Hm} {Da : Addr} (hix : ∀ j ∈ t.ix, j ∈ vs)
    (R1 : Rl (N.wF F) ρ1 m1 H1) (S1 : RS (N.wF F) ρ1 m1.length H1 sg σ) (ht : ∀ sg m r, tst sg m = some r → evE T C cond' sg m = some r)
    (hJ : ∀ (i : Nat) (m2 : Hm) (rest : List W), compGo t (wipeW sg vs) tst (evE T C elt') (ws.drop i) m2 = some (.ok rest, mend) → ∀ (N' : En) (ρ' : Nat → Addr) (H' : Hp), Tr (N.wF F) ρ1 m1.length H1 N' ρ' m2.length H' → Rl N' ρ' m2 H' →
      (∀ w, ws[i]? = some w → J.go i H' ∧ ∀ x H'', J.yld i H' x H'' → Rl N' ρ' m2 H'' ∧ Ext N' ρ' m2.length H' ρ' m2.length H'' ∧ RV N' ρ' m2.length H'' w x) ∧ (ws.length ≤ i → J.stop i H'))
    (hz : ws.length ≤ sizeLine) (hD : H1 Da = none) (hrun : compGo t (wipeW sg vs) tst (evE T C elt') ws m1 = some (.ok ys, mend))
    (hend : ∀ ρ' H', Ext (N.wF F) ρ1 m1.length H1 ρ' mend.length H' → Rl (N.wF F) ρ' mend H' → ∀ v, RV (N.wF F) ρ' mend.length H' (.lst ys) v → Q v H') :
    ∃ W : Nat → Nat → Hp → Prop, (∃ m, W 0 m (upd H1 Da (.lst []))) ∧ ∀ i m H, W i m H →
      (J.stop i H ∧ Q (.ref Da) H) ∨ (J.go i H ∧ ∃ Nx : Hp → Prop, (∀ H', Nx H' → ∃ m', m' < m ∧ W (i + 1) m' H') ∧ ∀ x H', J.yld i H x H' → gT N t x (L2.wipe σ vs) H' fun σ2 H2 => L2.wipe σ2 vs = L2.wipe σ vs ∧ tT T N C cond' (fun _ _ _ _ => False) σ2 H2 fun b H3 =>
        if b = true then tE T N C elt' (fun _ _ _ _ => False) σ2 H3 fun y H4 => ∃ acc, H4 Da = some (.lst acc) ∧ acc.length < sizeLine ∧ Nx (upd H4 Da (.lst (acc ++ [y]))) else Nx H3) := by
  refine ⟨fun i n H2 => n = ws.length - i ∧ i ≤ ws.length ∧ ∃ ρ2 m2 acc vacc rest, Ext (N.wF F) ρ1 m1.length H1 ρ2 m2.length H2 ∧ Tr (N.wF F) ρ1 m1.length H1 ((N.wF F).plus Da) ρ2 m2.length H2 ∧ Rl ((N.wF F).plus Da) ρ2 m2 H2 ∧
      H2 Da = some (.lst vacc) ∧ RVs ((N.wF F).plus Da) ρ2 m2.length H2 acc vacc ∧ acc.length ≤ i ∧
      compGo t (wipeW sg vs) tst (evE T C elt') (ws.drop i) m2 = some (.ok rest, mend) ∧ ys = acc ++ rest,
    ⟨ws.length, rfl, Nat.zero_le _, ρ1, m1, [], [], ys, Ext.first R1 hD Ext.refl, Tr.plus hD, R1.plus hD, upd_same, rfl, Nat.le_refl _, hrun, rfl⟩, ?_⟩
  rintro i n H2 ⟨rfl, hi, ρ2, m2, acc, vacc, rest, e2, tr2, R2, hDa, hacc, hlen, hgo, hys⟩
  have hsrc := hJ i m2 rest hgo _ ρ2 H2 tr2 R2
  by_cases hlt : i < ws.length
  · obtain ⟨hgo1, hyld⟩ := hsrc.1 ws[i] (List.getElem?_eq_getElem hlt)
    rw [List.drop_eq_getElem_cons hlt] at hgo
    obtain ⟨sg', b, m3, ha, hb, hrest⟩ := comp_turn hgo
    have hb := ht _ _ _ hb
    refine .inr ⟨hgo1, fun H' => ∃ n', n' < ws.length - i ∧ (n' = ws.length - (i + 1) ∧ i + 1 ≤ ws.length ∧ ∃ ρ2 m2 acc vacc rest, Ext (N.wF F) ρ1 m1.length H1 ρ2 m2.length H' ∧ Tr (N.wF F) ρ1 m1.length H1 ((N.wF F).plus Da) ρ2 m2.length H' ∧ Rl ((N.wF F).plus Da) ρ2 m2 H' ∧
      H' Da = some (.lst vacc) ∧ RVs ((N.wF F).plus Da) ρ2 m2.length H' acc vacc ∧ acc.length ≤ i + 1 ∧
      compGo t (wipeW sg vs) tst (evE T C elt') (ws.drop (i + 1)) m2 = some (.ok rest, mend) ∧ ys = acc ++ rest), fun H' z => z, fun x H3 hy => ?_⟩
    obtain ⟨R3, e3, rx⟩ := hyld x H3 hy
    have tr3 := tr2.trans (Tr.of e3)
    have S3 : RS ((N.wF F).plus Da) ρ2 m2.length H3 (wipeW sg vs) (L2.wipe σ vs) := (S1.tr tr3).wipe vs
    have hDa3 : H3 Da = some (.lst vacc) := by rw [e3.keepF Da (.inr rfl)]; exact hDa
    refine ⟨_, ρ2, m2, wipeW sg vs, ws[i], sg', R3, S3, rx, ha, fun σ2 S4 o => ⟨wipe_oth o hix, ?_⟩⟩
    refine ⟨_, ρ2, m2, sg', R3, S4, den_of hb fun ρ4 H4 e4 R4 => ⟨b, rfl, ?_⟩⟩
    have hDa4 : H4 Da = some (.lst vacc) := by rw [e4.keepF Da (.inr rfl)]; exact hDa3
    have tr4 := tr3.trans (Tr.of e4)
    have ext4 : Ext (N.wF F) ρ1 m1.length H1 ρ4 m3.length H4 := by
      have q : Ext ((N.wF F).plus Da) ρ2 m2.length H2 ρ4 m3.length H4 := e3.trans e4
      refine ⟨Nat.le_trans e2.le q.le, fun n hn => (q.rho n (Nat.lt_of_lt_of_le hn e2.le)).trans (e2.rho n hn), fun a u hu hn => ?_, fun a hf => ?_, fun n hn hu => ?_, fun n hn hn' => ?_⟩
      · exact q.keep a u (e2.keep a u hu hn) ((e2.nl hu hn).plus (ne_of_none hu hD))
      · rw [q.keepF a (.inl hf)]; exact e2.keepF a hf
      · have z := q.lv n (Nat.lt_of_lt_of_le hn e2.le)
        rw [e2.rho n hn] at z
        exact z (e2.lv n hn hu)
      · by_cases hk : n < m2.length
        · rw [q.rho n hk]; exact e2.fresh n hn hk
        · have z := q.fresh n (Nat.le_of_not_lt hk) hn'
          cases y : H1 (ρ4 n) with
          | none => rfl
          | some u =>
            by_cases hf : (N.wF F).F (ρ4 n)
            · rw [e2.keepF _ hf, y] at z; cases z
            by_cases hnl : ∀ j, j < m1.length → ρ1 j ≠ ρ4 n
            · rw [e2.keep _ u y ⟨hnl, hf⟩] at z; cases z
            · have ⟨j, h3, h4⟩ : ∃ j, j < m1.length ∧ ρ1 j = ρ4 n := by
                simp only [Classical.not_forall] at hnl
                obtain ⟨j, h3, h4⟩ := hnl
                exact ⟨j, h3, Classical.not_not.mp h4⟩
              have r := e2.lv j h3
              rw [h4, y] at r
              exact absurd z (r (by simp))
    rcases hrest with ⟨rfl, y, m5, zs, hy5, hz5, hr5⟩ | ⟨rfl, hz5⟩
    · refine iteT ⟨_, ρ4, m3, sg', R4, S4.mono e4, den_of hy5 fun ρ5 H5 e5 R5 v rv => ?_⟩
      have hDa5 : H5 Da = some (.lst vacc) := by rw [e5.keepF Da (.inr rfl)]; exact hDa4
      have hacc5 := RVs.mono e5 _ _ (RVs.mono e4 _ _ (RVs.mono e3 _ _ hacc))
      refine ⟨vacc, hDa5, ?_, ws.length - (i + 1), by omega, rfl, hlt, ρ5, m5, acc ++ [y], vacc ++ [v], zs, ?_, (tr4.trans (Tr.of e5)).trans (Tr.turn (N := N.wF F) (D := Da)), Rl.turn (N := N.wF F) (D := Da) R5, upd_same, RVs.turn (N := N.wF F) (D := Da) _ _ (hacc5.append ⟨v, [], rfl, rv, rfl⟩), ?_, hz5, ?_⟩
      · rw [← hacc5.len]; omega
      · have q : Ext (N.wF F) ρ1 m1.length H1 ρ5 m5.length H5 := by
          refine ⟨Nat.le_trans ext4.le e5.le, fun n hn => (e5.rho n (Nat.lt_of_lt_of_le hn ext4.le)).trans (ext4.rho n hn), fun a u hu hn => ?_, fun a hf => ?_, fun n hn hu => ?_, fun n hn hn' => ?_⟩
          · exact e5.keep a u (ext4.keep a u hu hn) ((ext4.nl hu hn).plus (ne_of_none hu hD))
          · rw [e5.keepF a (.inl hf)]; exact ext4.keepF a hf
          · have z := e5.lv n (Nat.lt_of_lt_of_le hn ext4.le)
            rw [ext4.rho n hn] at z
            exact z (ext4.lv n hn hu)
          · by_cases hk : n < m3.length
            · rw [e5.rho n hk]; exact ext4.fresh n hn hk
            · have z := e5.fresh n (Nat.le_of_not_lt hk) hn'
              cases y : H1 (ρ5 n) with
              | none => rfl
              | some u =>
                by_cases hf : (N.wF F).F (ρ5 n)
                · rw [ext4.keepF _ hf, y] at z; cases z
                by_cases hnl : ∀ j, j < m1.length → ρ1 j ≠ ρ5 n
                · rw [ext4.keep _ u y ⟨hnl, hf⟩] at z; cases z
                · have ⟨j, h3, h4⟩ : ∃ j, j < m1.length ∧ ρ1 j = ρ5 n := by
                    simp only [Classical.not_forall] at hnl
                    obtain ⟨j, h3, h4⟩ := hnl
                    exact ⟨j, h3, Classical.not_not.mp h4⟩
                  have r := ext4.lv j h3
                  rw [h4, y] at r
                  exact absurd z (r (by simp))
        exact q.last hD (R1.nF hD)
      · rw [List.length_append]; simp only [List.length_cons, List.length_nil]; omega
      · rw [hys, hr5, List.append_assoc]; rfl
    · exact iteF ⟨ws.length - (i + 1), by omega, rfl, hlt, ρ4, m3, acc, vacc, rest, ext4, tr4, R4, hDa4, RVs.mono e4 _ _ (RVs.mono e3 _ _ hacc), by omega, hz5, hys⟩
  · refine .inl ⟨hsrc.2 (Nat.le_of_not_lt hlt), ?_⟩
    rw [List.drop_eq_nil_of_le (Nat.le_of_not_lt hlt)] at hgo
    have hgo' : some (Res.ok ([] : List W), m2) = some (.ok rest, mend) := hgo
    cases hgo'
    rw [List.append_nil] at hys
    subst hys
    refine hend ρ2 H2 e2 R2.minus (.ref Da) ⟨Da, vacc, rfl, ⟨?_, hDa, ?_⟩, RVs.minus _ _ hacc⟩
    · rw [← hacc.len]; omega
    · exact ⟨fun n hn z => R2.nf n hn (.inr z), R1.nF hD⟩
theorem guard_inv {n : Nat} {xs : List W} {tst : Sg → M W} {sg : Sg} {m : Hm} {r} (h : guardL n xs tst sg m = some r) : hget m n = some (.lst xs) ∧ tst sg m = some r := by
  unfold guardL at h
  split at h
  · rename_i q; exact ⟨q, h⟩
  · cases h
theorem comp_readsL {elt' a' cond' : E} {t : Tg} {vs : List Nat} (hix : ∀ j ∈ t.ix, j ∈ vs) (σ : L2.St) (H : Hp) (Q : VK) (h : tE T N C (.compL elt' t a' cond' vs) Wx σ H Q) :
    tLc (fun σ H R => tE T N C a' Wx σ H fun x H1 => ∃ a, x = .ref a ∧ (((∃ xs, SqL N.K H1 a xs) ∧ R (Itl N.K a) H1) ∨ ((∃ xs, SqT N.K H1 a xs) ∧ R (Itt N.K a) H1))) (gT N t) (tT T N C cond' fun _ _ _ _ => False) (tE T N C elt' fun _ _ _ _ => False) vs σ H Q := by
  obtain ⟨F, ρ, m, sg, R, S, D⟩ := h
  rw [evE] at D
  refine tE.mk R S (Den.bind D) fun w ρ1 m1 H1 v e1 R1 D1 rv => ?_
  have S1 := S.mono e1
  -- what does not live
  have dead : ∀ (ws : List W) (J : It), ws.length ≤ sizeLine → SrcOk (N.wF F) J ρ1 m1 H1 ws → Den (N.wF F) ρ1 m1 H1 (WS (N.wF F) Wx σ) (bnd (WM.noExc (compGo t (wipeW sg vs) (evE T C cond') (evE T C elt') ws)) (fun ys => WM.ret (.lst ys)) m1) (fun w ρ' m' H' => ∀ v, RV (N.wF F) ρ' m'.length H' w v → Q v H') →
      ∀ Da, H1 Da = none → ∃ W : Nat → Nat → Hp → Prop, (∃ m, W 0 m (upd H1 Da (.lst []))) ∧ ∀ i m H, W i m H →
      (J.stop i H ∧ Q (.ref Da) H) ∨ (J.go i H ∧ ∃ Nx : Hp → Prop, (∀ H', Nx H' → ∃ m', m' < m ∧ W (i + 1) m' H') ∧ ∀ x H', J.yld i H x H' → gT N t x (L2.wipe σ vs) H' fun σ2 H2 => L2.wipe σ2 vs = L2.wipe σ vs ∧ tT T N C cond' (fun _ _ _ _ => False) σ2 H2 fun b H3 =>
        if b = true then tE T N C elt' (fun _ _ _ _ => False) σ2 H3 fun y H4 => ∃ acc, H4 Da = some (.lst acc) ∧ acc.length < sizeLine ∧ Nx (upd H4 Da (.lst (acc ++ [y]))) else Nx H3) := by
    intro ws J hz hJ D1 Da hD
    have D2 := Den.bind D1
    unfold Den WM.noExc at D2
    cases e : compGo t (wipeW sg vs) (evE T C cond') (evE T C elt') ws m1 with
    | none => rw [e] at D2; exact False.elim D2
    | some p =>
      obtain ⟨r, mend⟩ := p
      rw [e] at D2
      cases r with
      | ok ys => exact comp_core hix R1 S1 (fun _ _ _ q => q) (fun i m2 rest _ N' ρ' H' tr R' => hJ N' ρ' m2 H' tr R' i) hz hD e (fun ρ' H' e' R' v rv => D2 ρ' H' e' R' ρ' H' Ext.refl R' v rv)
      | exc y => exact False.elim D2
  cases w with
  | tup xs =>
    obtain ⟨b, us, ev, hf, hv⟩ := rv
    exact ⟨b, ev, .inr ⟨⟨us, hf.seq⟩, dead xs _ (by rw [hv.len]; exact hf.1) (src_tup (N := N.wF F) hf hv) D1⟩⟩
  | lst xs =>
    obtain ⟨b, us, ev, hf, hv⟩ := id rv
    subst ev
    exact ⟨b, rfl, .inl ⟨⟨us, hf.seq (N := N.wF F)⟩, dead xs _ (by rw [hv.len]; exact hf.1) (src_lst (N := N.wF F) (.inl rfl) rv) D1⟩⟩
  | klst xs =>
    obtain ⟨b, us, ev, hf, hv⟩ := id rv
    subst ev
    exact ⟨b, rfl, .inl ⟨⟨us, hf.seq⟩, dead xs _ (by rw [hv.len]; exact hf.1) (src_lst (N := N.wF F) (.inr rfl) rv) D1⟩⟩
  | ref n =>
    have D2 : Den (N.wF F) ρ1 m1 H1 (WS (N.wF F) Wx σ) (compD t (wipeW sg vs) (evE T C cond') (evE T C elt') n m1) (fun w ρ' m' H' => ∀ v, RV (N.wF F) ρ' m'.length H' w v → Q v H') := D1
    unfold compD at D2
    cases hq : hget m1 n with
    | none => rw [hq] at D2; exact False.elim D2
    | some ob =>
      rw [hq] at D2
      cases ob with
      | lst xs =>
        dsimp only at D2
        obtain ⟨us, g1, g2, g3⟩ := R1.obj _ _ hq
        obtain ⟨hlt, ev⟩ := id rv
        refine ⟨ρ1 n, ev, .inl ⟨⟨us, SqL.of g1⟩, fun Da hD => ?_⟩⟩
        cases e : compGo t (wipeW sg vs) (guardL n xs (evE T C cond')) (evE T C elt') xs m1 with
        | none => rw [e] at D2; exact False.elim D2
        | some p =>
          obtain ⟨r, mend⟩ := p
          rw [e] at D2
          cases r with
          | exc y => exact False.elim D2
          | ok ys =>
            dsimp only at D2
            by_cases hme : hget mend n = some (.lst xs)
            · rw [if_pos hme] at D2
              refine comp_core (tst := guardL n xs (evE T C cond')) hix R1 S1 (fun _ _ _ q => (guard_inv q).2) (fun i m2 rest hgo N' ρ' H' tr R' => ?_) (by rw [g3.len]; exact g2) hD e (fun ρ' H' e' R' v rv => D2 ρ' H' e' R' v rv)
              have hx : hget m2 n = some (.lst xs) := by
                by_cases hlt : i < xs.length
                · rw [List.drop_eq_getElem_cons hlt] at hgo
                  obtain ⟨sg', b, m3, ha, hb, hrest⟩ := comp_turn hgo
                  exact (guard_inv hb).1
                · rw [List.drop_eq_nil_of_le (Nat.le_of_not_lt hlt)] at hgo
                  have hgo' : some (Res.ok ([] : List W), m2) = some (.ok rest, mend) := hgo
                  cases hgo'
                  exact hme
              have hr := tr.rv (.ref n) (.ref (ρ1 n)) ⟨hlt, rfl⟩
              obtain ⟨us', k1, k2, k3⟩ := R'.obj _ _ hx
              have er : ρ' n = ρ1 n := by
                have := hr.2
                injection this with this
                exact this.symm
              rw [er] at k1
              refine ⟨fun w hw => ?_, fun h => ⟨us', SqL.of k1, by rw [← k3.len]; exact h⟩⟩
              obtain ⟨u, q1, q2⟩ := k3.get hw
              refine ⟨⟨us', u, SqL.of k1, q1⟩, fun x H'' y => ?_⟩
              obtain ⟨y1, y2⟩ := y
              subst y1
              have := y2 us' (SqL.of k1)
              rw [q1] at this
              cases this
              exact ⟨R', Ext.refl, q2⟩
            · rw [if_neg hme] at D2; exact False.elim D2
      | _ => exact False.elim D2
  | _ => exact False.elim D1
theorem comp_newc {elt' src' cond' : E} {t : Tg} {vs : List Nat} (hix : ∀ j ∈ t.ix, j ∈ vs) (σ : L2.St) (H : Hp) (Q : VK) (h : tE T N C (.newc (.comp elt' t src' cond' vs)) Wx σ H Q) :
    tLc (tI T N C src' Wx) (gT N t) (tT T N C cond' fun _ _ _ _ => False) (tE T N C elt' fun _ _ _ _ => False) vs σ H Q := by
  obtain ⟨F, ρ, m, sg, R, S, D⟩ := h
  rw [evE, evE, bnd_assoc] at D
  refine ⟨F, ρ, m, sg, R, S, (Den.bind D).imp fun ws ρ1 m1 H1 e1 R1 D1 J hz hJ Da hD => ?_⟩
  -- the whole run
  have hrun : ∃ ys mend, compGo t (wipeW sg vs) (evE T C cond') (evE T C elt') ws m1 = some (.ok ys, mend) ∧
      ∀ ρ' H', Ext (N.wF F) ρ1 m1.length H1 ρ' (HOb.lst ys :: mend).length H' → Rl (N.wF F) ρ' (HOb.lst ys :: mend) H' → ∀ v, RV (N.wF F) ρ' (HOb.lst ys :: mend).length H' (.ref mend.length) v → Q v H' := by
    unfold Den WM.bnd WM.noExc at D1
    cases e : compGo t (wipeW sg vs) (evE T C cond') (evE T C elt') ws m1 with
    | none => rw [e] at D1; exact False.elim D1
    | some p =>
      obtain ⟨r, mend⟩ := p
      rw [e] at D1
      cases r with
      | ok ys => exact ⟨ys, mend, rfl, fun ρ' H' e' R' v rv => D1 ρ' H' e' R' v rv⟩
      | exc y => exact False.elim D1
  obtain ⟨ys, mend, hrun, hend⟩ := hrun
  have S1 := S.mono e1
  refine ⟨fun i n H2 => n = ws.length - i ∧ i ≤ ws.length ∧ ∃ ρ2 m2 acc vacc rest, Ext (N.wF F) ρ1 m1.length H1 ρ2 m2.length H2 ∧ Tr (N.wF F) ρ1 m1.length H1 ((N.wF F).plus Da) ρ2 m2.length H2 ∧ Rl ((N.wF F).plus Da) ρ2 m2 H2 ∧
      H2 Da = some (.lst vacc) ∧ RVs ((N.wF F).plus Da) ρ2 m2.length H2 acc vacc ∧ acc.length ≤ i ∧
      compGo t (wipeW sg vs) (evE T C cond') (evE T C elt') (ws.drop i) m2 = some (.ok rest, mend) ∧ ys = acc ++ rest,
    ⟨ws.length, rfl, Nat.zero_le _, ρ1, m1, [], [], ys, Ext.first R1 hD Ext.refl, Tr.plus hD, R1.plus hD, upd_same, rfl, Nat.le_refl _, hrun, rfl⟩, ?_⟩
  rintro i n H2 ⟨rfl, hi, ρ2, m2, acc, vacc, rest, e2, tr2, R2, hDa, hacc, hlen, hgo, hys⟩
  have hsrc := hJ _ ρ2 m2 H2 tr2 R2 i
  by_cases hlt : i < ws.length
  · obtain ⟨hgo1, hyld⟩ := hsrc.1 ws[i] (List.getElem?_eq_getElem hlt)
    rw [List.drop_eq_getElem_cons hlt] at hgo
    obtain ⟨sg', b, m3, ha, hb, hrest⟩ := comp_turn hgo
    refine .inr ⟨hgo1, fun H' => ∃ n', n' < ws.length - i ∧ (n' = ws.length - (i + 1) ∧ i + 1 ≤ ws.length ∧ ∃ ρ2 m2 acc vacc rest, Ext (N.wF F) ρ1 m1.length H1 ρ2 m2.length H' ∧ Tr (N.wF F) ρ1 m1.length H1 ((N.wF F).plus Da) ρ2 m2.length H' ∧ Rl ((N.wF F).plus Da) ρ2 m2 H' ∧
      H' Da = some (.lst vacc) ∧ RVs ((N.wF F).plus Da) ρ2 m2.length H' acc vacc ∧ acc.length ≤ i + 1 ∧
      compGo t (wipeW sg vs) (evE T C cond') (evE T C elt') (ws.drop (i + 1)) m2 = some (.ok rest, mend) ∧ ys = acc ++ rest), fun H' z => z, fun x H3 hy => ?_⟩
    obtain ⟨R3, e3, rx⟩ := hyld x H3 hy
    have tr3 := tr2.trans (Tr.of e3)
    have S3 : RS ((N.wF F).plus Da) ρ2 m2.length H3 (wipeW sg vs) (L2.wipe σ vs) := (S1.tr tr3).wipe vs
    have hDa3 : H3 Da = some (.lst vacc) := by rw [e3.keepF Da (.inr rfl)]; exact hDa
    refine ⟨_, ρ2, m2, wipeW sg vs, ws[i], sg', R3, S3, rx, ha, fun σ2 S4 o => ⟨wipe_oth o hix, ?_⟩⟩
    refine ⟨_, ρ2, m2, sg', R3, S4, den_of hb fun ρ4 H4 e4 R4 => ⟨b, rfl, ?_⟩⟩
    have hDa4 : H4 Da = some (.lst vacc) := by rw [e4.keepF Da (.inr rfl)]; exact hDa3
    have tr4 := tr3.trans (Tr.of e4)
    have ext4 : Ext (N.wF F) ρ1 m1.length H1 ρ4 m3.length H4 := by
      have q : Ext ((N.wF F).plus Da) ρ2 m2.length H2 ρ4 m3.length H4 := e3.trans e4
      refine ⟨Nat.le_trans e2.le q.le, fun n hn => (q.rho n (Nat.lt_of_lt_of_le hn e2.le)).trans (e2.rho n hn), fun a u hu hn => ?_, fun a hf => ?_, fun n hn hu => ?_, fun n hn hn' => ?_⟩
      · exact q.keep a u (e2.keep a u hu hn) ((e2.nl hu hn).plus (ne_of_none hu hD))
      · rw [q.keepF a (.inl hf)]; exact e2.keepF a hf
      · have z := q.lv n (Nat.lt_of_lt_of_le hn e2.le)
        rw [e2.rho n hn] at z
        exact z (e2.lv n hn hu)
      · by_cases hk : n < m2.length
        · rw [q.rho n hk]; exact e2.fresh n hn hk
        · have z := q.fresh n (Nat.le_of_not_lt hk) hn'
          cases y : H1 (ρ4 n) with
          | none => rfl
          | some u =>
            by_cases hf : (N.wF F).F (ρ4 n)
            · rw [e2.keepF _ hf, y] at z; cases z
            by_cases hnl : ∀ j, j < m1.length → ρ1 j ≠ ρ4 n
            · rw [e2.keep _ u y ⟨hnl, hf⟩] at z; cases z
            · have ⟨j, h3, h4⟩ : ∃ j, j < m1.length ∧ ρ1 j = ρ4 n := by
                simp only [Classical.not_forall] at hnl
                obtain ⟨j, h3, h4⟩ := hnl
                exact ⟨j, h3, Classical.not_not.mp h4⟩
              have r := e2.lv j h3
              rw [h4, y] at r
              exact absurd z (r (by simp))
    rcases hrest with ⟨rfl, y, m5, zs, hy5, hz5, hr5⟩ | ⟨rfl, hz5⟩
    · refine iteT ⟨_, ρ4, m3, sg', R4, S4.mono e4, den_of hy5 fun ρ5 H5 e5 R5 v rv => ?_⟩
      have hDa5 : H5 Da = some (.lst vacc) := by rw [e5.keepF Da (.inr rfl)]; exact hDa4
      have hacc5 := RVs.mono e5 _ _ (RVs.mono e4 _ _ (RVs.mono e3 _ _ hacc))
      refine ⟨vacc, hDa5, ?_, ws.length - (i + 1), by omega, rfl, hlt, ρ5, m5, acc ++ [y], vacc ++ [v], zs, ?_, (tr4.trans (Tr.of e5)).trans (Tr.turn (N := N.wF F) (D := Da)), Rl.turn (N := N.wF F) (D := Da) R5, upd_same, RVs.turn (N := N.wF F) (D := Da) _ _ (hacc5.append ⟨v, [], rfl, rv, rfl⟩), ?_, hz5, ?_⟩
      · rw [← hacc5.len]; omega
      · have q : Ext (N.wF F) ρ1 m1.length H1 ρ5 m5.length H5 := by
          refine ⟨Nat.le_trans ext4.le e5.le, fun n hn => (e5.rho n (Nat.lt_of_lt_of_le hn ext4.le)).trans (ext4.rho n hn), fun a u hu hn => ?_, fun a hf => ?_, fun n hn hu => ?_, fun n hn hn' => ?_⟩
          · exact e5.keep a u (ext4.keep a u hu hn) ((ext4.nl hu hn).plus (ne_of_none hu hD))
          · rw [e5.keepF a (.inl hf)]; exact ext4.keepF a hf
          · have z := e5.lv n (Nat.lt_of_lt_of_le hn ext4.le)
            rw [ext4.rho n hn] at z
            exact z (ext4.lv n hn hu)
          · by_cases hk : n < m3.length
            · rw [e5.rho n hk]; exact ext4.fresh n hn hk
            · have z := e5.fresh n (Nat.le_of_not_lt hk) hn'
              cases y : H1 (ρ5 n) with
              | none => rfl
              | some u =>
                by_cases hf : (N.wF F).F (ρ5 n)
                · rw [ext4.keepF _ hf, y] at z; cases z
                by_cases hnl : ∀ j, j < m1.length → ρ1 j ≠ ρ5 n
                · rw [ext4.keep _ u y ⟨hnl, hf⟩] at z; cases z
                · have ⟨j, h3, h4⟩ : ∃ j, j < m1.length ∧ ρ1 j = ρ5 n := by
                    simp only [Classical.not_forall] at hnl
                    obtain ⟨j, h3, h4⟩ := hnl
                    exact ⟨j, h3, Classical.not_not.mp h4⟩
                  have r := ext4.lv j h3
                  rw [h4, y] at r
                  exact absurd z (r (by simp))
        exact q.last hD (R1.nF hD)
      · rw [List.length_append]; simp only [List.length_cons, List.length_nil]; omega
      · rw [hys, hr5, List.append_assoc]; rfl
    · exact iteF ⟨ws.length - (i + 1), by omega, rfl, hlt, ρ4, m3, acc, vacc, rest, ext4, tr4, R4, hDa4, RVs.mono e4 _ _ (RVs.mono e3 _ _ hacc), by omega, hz5, hys⟩
  · refine .inl ⟨hsrc.2 (Nat.le_of_not_lt hlt), ?_⟩
    rw [List.drop_eq_nil_of_le (Nat.le_of_not_lt hlt)] at hgo
    have hgo' : some (Res.ok ([] : List W), m2) = some (.ok rest, mend) := hgo
    cases hgo'
    rw [List.append_nil] at hys
    subst hys
    have hne : ∀ j, j < mend.length → ρ2 j ≠ Da := fun j hj z => R2.nf j hj (.inr z)
    have hle : vacc.length ≤ sizeLine := by rw [← hacc.len]; omega
    refine hend (rAdd ρ2 mend.length Da) H2 ?_ (R2.reveal (R1.nF hD) hDa hle hacc) (.ref Da) ⟨Nat.lt_succ_self _, by rw [rAdd_same]⟩
    refine ⟨Nat.le_succ_of_le e2.le, fun n hn => ?_, e2.keep, e2.keepF, e2.lv, fun n h1 h2 => ?_⟩
    · rw [rAdd_ne (by have := e2.le; omega)]; exact e2.rho n hn
    · by_cases hk : n = mend.length
      · rw [hk, rAdd_same]; exact hD
      · rw [rAdd_ne hk]; exact e2.fresh n h1 (by rw [List.length_cons] at h2; omega)
end
end WM
/-! sorted({k: True for ..}) over ints -/
namespace WM
open PySem PySem.Spec PyProof.Rows L2
theorem dedI_snoc (is : List Int) (i : Int) : dedI (is ++ [i]) = if i ∈ dedI is then dedI is else dedI is ++ [i] := by
  unfold dedI
  rw [List.foldl_append]; rfl
theorem putK_keys {kvs : List (Key × V)} {ks : List Int} (h : kvs.map (·.1) = ks.map Sum.inl) (i : Int) (z : V) : (putK kvs (Sum.inl i) z).map (·.1) = (if i ∈ ks then ks else ks ++ [i]).map (Sum.inl (β := Str)) := by
  have hany : (kvs.any fun kv => decide (kv.1 = (Sum.inl i : Key))) = decide (i ∈ ks) := by
    rw [Bool.eq_iff_iff, List.any_eq_true, decide_eq_true_eq]
    constructor
    · rintro ⟨kv, hk, e⟩
      have e := of_decide_eq_true e
      have : kv.1 ∈ kvs.map (·.1) := List.mem_map.2 ⟨kv, hk, rfl⟩
      rw [h, e] at this
      obtain ⟨j, hj, e2⟩ := List.mem_map.1 this
      injection e2 with e2
      rw [← e2]; exact hj
    · intro hi
      have : (Sum.inl i : Key) ∈ kvs.map (·.1) := by rw [h]; exact List.mem_map.2 ⟨i, hi, rfl⟩
      obtain ⟨kv, hk, e⟩ := List.mem_map.1 this
      exact ⟨kv, hk, decide_eq_true e⟩
  unfold putK
  rw [hany]
  by_cases hi : i ∈ ks
  · rw [if_pos (decide_eq_true hi), if_pos hi, List.map_map, ← h]
    refine List.map_congr_left fun kv _ => ?_
    show (if kv.1 = Sum.inl i then (kv.1, z) else kv).1 = kv.1
    split <;> rfl
  · rw [if_neg (by rw [decide_eq_false hi]; exact Bool.false_ne_true), if_neg hi, List.map_append, List.map_append, h]; rfl
theorem intsW_app : ∀ {a : List W} {b : List W} {is : List Int}, intsW (a ++ b) = some is → ∃ ia ib, intsW a = some ia ∧ intsW b = some ib ∧ is = ia ++ ib
  | [], b, is, h => ⟨[], is, rfl, h, rfl⟩
  | w :: a, b, is, h => by
    rw [List.cons_append] at h
    cases w with
    | int i =>
      unfold intsW at h
      cases e : intsW (a ++ b) with
      | none => rw [e] at h; cases h
      | some js =>
        rw [e] at h
        cases h
        obtain ⟨ia, ib, h1, h2, h3⟩ := intsW_app e
        exact ⟨i :: ia, ib, by unfold intsW; rw [h1]; rfl, h2, by rw [h3]; rfl⟩
    | _ => cases h
theorem intsW_map : ∀ is : List Int, intsW (is.map W.int) = some is
  | [] => rfl
  | i :: is => by rw [List.map_cons, intsW, intsW_map is]; rfl
theorem dedI_len (is : List Int) : (dedI is).length ≤ is.length := by
  have : ∀ (is acc : List Int), (is.foldl (fun acc i => if i ∈ acc then acc else acc ++ [i]) acc).length ≤ acc.length + is.length := by
    intro is
    induction is with
    | nil => intro acc; exact Nat.le_refl _
    | cons i is ih =>
      intro acc
      rw [List.foldl_cons, List.length_cons]
      have := ih (if i ∈ acc then acc else acc ++ [i])
      split at this
      · rename_i hh; rw [if_pos hh]; omega
      · rename_i hh; rw [if_neg hh]; rw [List.length_append] at this; simp at this; omega
  have := this is []
  unfold dedI
  simpa using this
/-- what sorted makes of a dict whose keys are ints -/
def rSDI : List V → Hp → VK → Prop := fun xs H Q => ∃ (a : Addr) (kvs : List (Key × V)) (ks : List Int), xs = [.ref a] ∧ Rd H a (.dK kvs) ∧ kvs.map (·.1) = ks.map Sum.inl ∧ ks.length < 64 ∧
    ∀ (ys : List Int) (p : Addr), ys.Perm ks → ys.Pairwise (· ≤ ·) → H p = none → Q (.ref p) (upd H p (.lst (ys.map V.int)))
section
variable {T : Tab} {N : En} {C : Calls} {X : Cx} {Wx : WX}
theorem sdc_reads {elt' src' cond' : E} {t : Tg} {vs : List Nat} (hix : ∀ j ∈ t.ix, j ∈ vs) (σ : L2.St) (H : Hp) (Q : VK) (h : tE T N C (.sdc elt' t src' cond' vs) Wx σ H Q) :
    tDc (tI T N C src' Wx) (gT N t) (tT T N C cond' fun _ _ _ _ => False) (tE T N C elt' fun _ _ _ _ => False) (tE T N C (.lit (.bl true)) fun _ _ _ _ => False) vs σ H (fun x H' => rSDI [x] H' Q) := by
  obtain ⟨F, ρ, m, sg, R, S, D⟩ := h
  rw [evE] at D
  refine ⟨F, ρ, m, sg, R, S, (Den.bind D).imp fun ws ρ1 m1 H1 e1 R1 D1 J hz hJ Da hD => ?_⟩
  -- the whole run
  have hrun : ∃ ys mend, compGo t (wipeW sg vs) (evE T C cond') (fun s => WM.bnd (evE T C elt' s) intG) ws m1 = some (.ok ys, mend) ∧
      ∀ ρ' H', Ext (N.wF F) ρ1 m1.length H1 ρ' mend.length H' → Rl (N.wF F) ρ' mend H' → ∃ is, intsW ys = some is ∧ (dedI is).length < 64 ∧ (∀ ρ2 H2, Ext (N.wF F) ρ' mend.length H' ρ2 mend.length H2 → Rl (N.wF F) ρ2 mend H2 → ∀ v, RV (N.wF F) ρ2 mend.length H2 (.lst ((sortI (dedI is)).map .int)) v → Q v H2) := by
    have D2 := Den.bind D1
    unfold Den WM.noExc at D2
    cases e : compGo t (wipeW sg vs) (evE T C cond') (fun s => WM.bnd (evE T C elt' s) intG) ws m1 with
    | none => rw [e] at D2; exact False.elim D2
    | some p =>
      obtain ⟨r, mend⟩ := p
      rw [e] at D2
      cases r with
      | ok ys =>
        refine ⟨ys, mend, rfl, fun ρ' H' e' R' => ?_⟩
        have D3 : Den (N.wF F) ρ' mend H' (WS (N.wF F) Wx σ) (WM.opt (sdcW ys) mend) (fun w ρ' m' H' => ∀ v, RV (N.wF F) ρ' m'.length H' w v → Q v H') := D2 ρ' H' e' R'
        cases hi : intsW ys with
        | none =>
          have e3 : sdcW ys = none := by unfold sdcW; rw [hi]
          rw [e3] at D3; exact False.elim D3
        | some is =>
          by_cases hl : (dedI is).length < 64
          · have e3 : sdcW ys = some (.lst ((sortI (dedI is)).map .int)) := by unfold sdcW; rw [hi]; exact if_pos hl
            rw [e3] at D3
            exact ⟨is, rfl, hl, fun ρ2 H2 e2 R2 v rv => D3 ρ2 H2 e2 R2 v rv⟩
          · have e3 : sdcW ys = none := by unfold sdcW; rw [hi]; exact if_neg hl
            rw [e3] at D3; exact False.elim D3
      | exc y => exact False.elim D2
  obtain ⟨ys, mend, hrun, hend⟩ := hrun
  have S1 := S.mono e1
  refine ⟨fun i n H2 => n = ws.length - i ∧ i ≤ ws.length ∧ ∃ ρ2 m2 ia kvs rest, Ext (N.wF F) ρ1 m1.length H1 ρ2 m2.length H2 ∧ Tr (N.wF F) ρ1 m1.length H1 ((N.wF F).plus Da) ρ2 m2.length H2 ∧ Rl ((N.wF F).plus Da) ρ2 m2 H2 ∧
      H2 Da = some (.dK kvs) ∧ kvs.map (·.1) = (dedI ia).map Sum.inl ∧ ia.length ≤ i ∧
      compGo t (wipeW sg vs) (evE T C cond') (fun s => WM.bnd (evE T C elt' s) intG) (ws.drop i) m2 = some (.ok rest, mend) ∧ ys = ia.map W.int ++ rest,
    ⟨ws.length, rfl, Nat.zero_le _, ρ1, m1, [], [], ys, Ext.first R1 hD Ext.refl, Tr.plus hD, R1.plus hD, upd_same, rfl, Nat.le_refl _, hrun, rfl⟩, ?_⟩
  rintro i n H2 ⟨rfl, hi, ρ2, m2, ia, kvs, rest, e2, tr2, R2, hDa, hacc, hlen, hgo, hys⟩
  have hsrc := hJ _ ρ2 m2 H2 tr2 R2 i
  by_cases hlt : i < ws.length
  · obtain ⟨hgo1, hyld⟩ := hsrc.1 ws[i] (List.getElem?_eq_getElem hlt)
    rw [List.drop_eq_getElem_cons hlt] at hgo
    obtain ⟨sg', b, m3, ha, hb, hrest⟩ := comp_turn hgo
    refine .inr ⟨hgo1, fun H' => ∃ n', n' < ws.length - i ∧ (n' = ws.length - (i + 1) ∧ i + 1 ≤ ws.length ∧ ∃ ρ2 m2 ia kvs rest, Ext (N.wF F) ρ1 m1.length H1 ρ2 m2.length H' ∧ Tr (N.wF F) ρ1 m1.length H1 ((N.wF F).plus Da) ρ2 m2.length H' ∧ Rl ((N.wF F).plus Da) ρ2 m2 H' ∧
      H' Da = some (.dK kvs) ∧ kvs.map (·.1) = (dedI ia).map Sum.inl ∧ ia.length ≤ i + 1 ∧
      compGo t (wipeW sg vs) (evE T C cond') (fun s => WM.bnd (evE T C elt' s) intG) (ws.drop (i + 1)) m2 = some (.ok rest, mend) ∧ ys = ia.map W.int ++ rest), fun H' z => z, fun x H3 hy => ?_⟩
    obtain ⟨R3, e3, rx⟩ := hyld x H3 hy
    have tr3 := tr2.trans (Tr.of e3)
    have S3 : RS ((N.wF F).plus Da) ρ2 m2.length H3 (wipeW sg vs) (L2.wipe σ vs) := (S1.tr tr3).wipe vs
    have hDa3 : H3 Da = some (.dK kvs) := by rw [e3.keepF Da (.inr rfl)]; exact hDa
    refine ⟨_, ρ2, m2, wipeW sg vs, ws[i], sg', R3, S3, rx, ha, fun σ2 S4 o => ⟨wipe_oth o hix, ?_⟩⟩
    refine ⟨_, ρ2, m2, sg', R3, S4, den_of hb fun ρ4 H4 e4 R4 => ⟨b, rfl, ?_⟩⟩
    have hDa4 : H4 Da = some (.dK kvs) := by rw [e4.keepF Da (.inr rfl)]; exact hDa3
    have tr4 := tr3.trans (Tr.of e4)
    have ext_any : ∀ {ρ' : Nat → Addr} {k : Nat} {H' : Hp}, Ext ((N.wF F).plus Da) ρ2 m2.length H2 ρ' k H' → Ext (N.wF F) ρ1 m1.length H1 ρ' k H' := by
      intro ρ' k H' q
      refine ⟨Nat.le_trans e2.le q.le, fun n hn => (q.rho n (Nat.lt_of_lt_of_le hn e2.le)).trans (e2.rho n hn), fun a u hu hn => ?_, fun a hf => ?_, fun n hn hu => ?_, fun n hn hn' => ?_⟩
      · exact q.keep a u (e2.keep a u hu hn) ((e2.nl hu hn).plus (ne_of_none hu hD))
      · rw [q.keepF a (.inl hf)]; exact e2.keepF a hf
      · have z := q.lv n (Nat.lt_of_lt_of_le hn e2.le)
        rw [e2.rho n hn] at z
        exact z (e2.lv n hn hu)
      · by_cases hk : n < m2.length
        · rw [q.rho n hk]; exact e2.fresh n hn hk
        · have z := q.fresh n (Nat.le_of_not_lt hk) hn'
          cases y : H1 (ρ' n) with
          | none => rfl
          | some u =>
            by_cases hf : (N.wF F).F (ρ' n)
            · rw [e2.keepF _ hf, y] at z; cases z
            by_cases hnl : ∀ j, j < m1.length → ρ1 j ≠ ρ' n
            · rw [e2.keep _ u y ⟨hnl, hf⟩] at z; cases z
            · have ⟨j, h3, h4⟩ : ∃ j, j < m1.length ∧ ρ1 j = ρ' n := by
                simp only [Classical.not_forall] at hnl
                obtain ⟨j, h3, h4⟩ := hnl
                exact ⟨j, h3, Classical.not_not.mp h4⟩
              have r := e2.lv j h3
              rw [h4, y] at r
              exact absurd z (r (by simp))
    rcases hrest with ⟨rfl, y, m5, zs, hy5, hz5, hr5⟩ | ⟨rfl, hz5⟩
    · -- the key is an int
      obtain ⟨y0, m50, hy50, hg⟩ := bnd_some hy5
      have hyi : ∃ j, y0 = W.int j ∧ y = W.int j ∧ m50 = m5 := by
        cases y0 with
        | int j => cases hg; exact ⟨j, rfl, rfl, rfl⟩
        | _ => cases hg
      obtain ⟨j, rfl, rfl, rfl⟩ := hyi
      refine iteT ⟨_, ρ4, m3, sg', R4, S4.mono e4, den_of hy50 fun ρ5 H5 e5 R5 v rv => ?_⟩
      have ev : v = V.int j := rv
      subst ev
      have hDa5 : H5 Da = some (.dK kvs) := by rw [e5.keepF Da (.inr rfl)]; exact hDa4
      refine ⟨_, ρ5, m50, sg', R5, (S4.mono e4).mono e5, ?_⟩
      rw [evE]
      refine den_of rfl fun ρ6 H6 e6 R6 z rz => ?_
      have hDa6 : H6 Da = some (.dK kvs) := by rw [e6.keepF Da (.inr rfl)]; exact hDa5
      have hkl : kvs.length < sizeLine := by
        have h1 := congrArg List.length hacc
        rw [List.length_map, List.length_map] at h1
        have h2 := dedI_len ia
        omega
      refine ⟨kvs, Sum.inl j, rfl, hDa6, hkl, ws.length - (i + 1), by omega, rfl, hlt, ρ6, m50, ia ++ [j], putK kvs (Sum.inl j) z, zs, ?_, ((tr4.trans (Tr.of e5)).trans (Tr.of e6)).trans (Tr.turn (N := N.wF F) (D := Da)), Rl.turn (N := N.wF F) (D := Da) R6, upd_same, ?_, ?_, hz5, ?_⟩
      · exact (ext_any (((e3.trans e4).trans e5).trans e6)).last hD (R1.nF hD)
      · rw [putK_keys hacc, dedI_snoc]
      · rw [List.length_append]; simp only [List.length_cons, List.length_nil]; omega
      · rw [hys, hr5, List.map_append, List.append_assoc]; rfl
    · exact iteF ⟨ws.length - (i + 1), by omega, rfl, hlt, ρ4, m3, ia, kvs, rest, ext_any (e3.trans e4), tr4, R4, hDa4, hacc, by omega, hz5, hys⟩
  · refine .inl ⟨hsrc.2 (Nat.le_of_not_lt hlt), ?_⟩
    rw [List.drop_eq_nil_of_le (Nat.le_of_not_lt hlt)] at hgo
    have hgo' : some (Res.ok ([] : List W), m2) = some (.ok rest, mend) := hgo
    cases hgo'
    rw [List.append_nil] at hys
    subst hys
    obtain ⟨is, h1, h2, h3⟩ := hend ρ2 H2 e2 R2.minus
    rw [intsW_map] at h1
    injection h1 with h1
    subst h1
    refine ⟨Da, kvs, dedI ia, rfl, Rd.of hDa, hacc, h2, fun zs p hp hs hn => ?_⟩
    have ez : zs = sortI (dedI ia) := srt_one (hp.trans (sortI_perm _).symm) hs (sortI_srt _)
    subst ez
    refine h3 ρ2 _ (Ext.new R2.minus hn) (R2.minus.new hn) _ (RV.newL R2.minus hn ?_ (RVs.ofInts _))
    rw [List.length_map, (sortI_perm _).length_eq]
    have : (64 : Nat) ≤ sizeLine := by rw [sizeLine_eq]; omega
    omega
theorem lstS_den {α : Type} {F : Addr → Prop} {ρ : Nat → Addr} {m : Hm} {H : Hp} {WW : Xc → (Nat → Addr) → Hm → Hp → Prop} {x : W} {v : V} {f : List W → M α} {P : α → (Nat → Addr) → Hm → Hp → Prop} (R : Rl (N.wF F) ρ m H) (rv : RV (N.wF F) ρ m.length H x v) (D : Den (N.wF F) ρ m H WW (WM.bnd (lstS x) f m) P) :
    ∃ xs a us, v = .ref a ∧ H a = some (.lst us) ∧ us.length ≤ sizeLine ∧ RVs (N.wF F) ρ m.length H xs us ∧ Den (N.wF F) ρ m H WW (f xs m) P := by
  cases x with
  | lst xs =>
    obtain ⟨a, us, rfl, fa, ra⟩ := rv
    exact ⟨xs, a, us, rfl, fa.2.1, fa.1, ra, D⟩
  | ref n =>
    obtain ⟨hl, rfl⟩ := rv
    cases hq : hget m n with
    | none =>
      have : WM.bnd (lstS (.ref n)) f m = none := by unfold WM.bnd lstS; simp only [hq]
      rw [this] at D; exact False.elim D
    | some ob =>
      cases ob with
      | lst xs =>
        obtain ⟨us, g1, g2, g3⟩ := R.obj _ _ hq
        have : WM.bnd (lstS (.ref n)) f m = f xs m := by unfold WM.bnd lstS; simp only [hq]
        rw [this] at D
        exact ⟨xs, _, us, rfl, g1, g2, g3, D⟩
      | _ =>
        have : WM.bnd (lstS (.ref n)) f m = none := by unfold WM.bnd lstS; simp only [hq]
        rw [this] at D; exact False.elim D
  | _ => exact False.elim D
theorem sim_cat {a b : Expr} {a' b' : E} {pos} (ha : PE X a (tE T N C a' Wx)) (hb : PE X b (tE T N C b' Wx)) : PE X (.BinOp a .Add b pos) (tE T N C (.cat a' b') Wx) := by
  refine (pe_op op_cat ha hb).imp fun σ H Q ⟨F, ρ, m, sg, R, S, D⟩ => ?_
  rw [evE] at D
  refine tE.mk R S (Den.bind D) fun x ρ1 m1 H1 v1 e1 R1 D1 rv1 => ?_
  refine tE.mk R1 (S.mono e1) (Den.bind D1) fun y ρ2 m2 H2 v2 e2 R2 D2 rv2 => ?_
  unfold catM at D2
  obtain ⟨xs, p, us, rfl, k1, k2, k3, D3⟩ := lstS_den R2 (RV.mono e2 _ _ rv1) D2
  obtain ⟨ys, q, vs, rfl, l1, l2, l3, D4⟩ := lstS_den R2 rv2 D3
  by_cases hz : szOk (xs.length + ys.length) = true
  · rw [if_pos hz] at D4
    have hl : us.length + vs.length ≤ sizeLine := by rw [← k3.len, ← l3.len]; exact sz_ok hz
    refine ⟨p, q, us, vs, rfl, rfl, k1, l1, hl, fun r hr => ?_⟩
    exact Den.at' D4 (Ext.new R2 hr) (R2.new hr) _ (RV.newL R2 hr (by rw [List.length_append]; exact hl) (k3.append l3))
  · rw [if_neg hz] at D4; exact False.elim D4
theorem sim_sdc {elt' src' cond' : E} {t : Tg} {vs : List Nat} {e : Expr} {p2 p : Pos} (hc : X.calm = true) (hix : ∀ j ∈ t.ix, j ∈ vs) (gl : Gl X (Str.ofString "sorted")) (hm : X.mg (Str.ofString "sorted") = none) (ns : notStar e = true)
    (hpe : PE X e (tDc (tI T N C src' Wx) (gT N t) (tT T N C cond' fun _ _ _ _ => False) (tE T N C elt' fun _ _ _ _ => False) (tE T N C (.lit (.bl true)) fun _ _ _ _ => False) vs)) :
    PE X (.Call (.Name (Str.ofString "sorted") p2) [e] [] p) (tE T N C (.sdc elt' t src' cond' vs) Wx) :=
  (pe_callB (call_sortedDI hc) gl hm (by decide +kernel) (pa_cons hpe pa_nil (star_cons ns)) (by decide +kernel) (by decide +kernel) (star_cons ns) (star_any rfl)).imp fun σ H Q z => sdc_reads hix σ H Q z
/-! ### sorted(set(t)) -/
def rSetTI (K : PySem.W.Frag) (w : World) : List V → Hp → VK → Prop := fun xs H Q => ∃ (a : Addr) (ns : List Int), xs = [.ref a] ∧ SqT K H a (ns.map V.int) ∧ ns.length < 64 ∧ ∀ (p : Addr) (c : Nat), H p = none → c ≤ ns.length → Q (.ref p) (upd H p (SetO w p (fun j => decide (j ∈ ns)) c))
theorem cr_setTI (hc : X.calm = true) : CallR X (.type "set") (rSetTI X.K X.w) := by
  intro pins s σ H xs us Q I r h
  obtain ⟨a, ns, rfl, ht, hl, q⟩ := h
  rw [Vals.ref1 r]
  obtain ⟨its, rv, pl, hz⟩ := I.tuple ht
  refine call_set_tupI ns (I.ok.hd hc) pl (by simpa using rv.ints) (by unfold scanBound; omega) fun h' tk c R hle hk => ?_
  exact ⟨.ref _, upd H s.heap.objs.size (SetO X.w s.heap.objs.size (fun j => decide (j ∈ ns)) c), I.laid (t' := tk) (fun b u e => hk b u e) (Nat.le_refl _) (setO_new R), rfl, q _ _ (I.hok.fresh (Nat.le_refl _)) hle⟩
theorem dedI_mem : ∀ (is acc : List Int) (x : Int), x ∈ is.foldl (fun acc i => if i ∈ acc then acc else acc ++ [i]) acc ↔ x ∈ acc ∨ x ∈ is
  | [], acc, x => by simp
  | i :: is, acc, x => by
    rw [List.foldl_cons, dedI_mem is]
    by_cases h : i ∈ acc
    · rw [if_pos h, List.mem_cons]
      constructor
      · rintro (g | g)
        · exact .inl g
        · exact .inr (.inr g)
      · rintro (g | rfl | g)
        · exact .inl g
        · exact .inl h
        · exact .inr g
    · rw [if_neg h, List.mem_append, List.mem_singleton, List.mem_cons]
      constructor
      · rintro ((g | g) | g)
        · exact .inl g
        · exact .inr (.inl g)
        · exact .inr (.inr g)
      · rintro (g | g | g)
        · exact .inl (.inl g)
        · exact .inl (.inr g)
        · exact .inr g
theorem dedI_nd : ∀ (is acc : List Int), acc.Nodup → (is.foldl (fun acc i => if i ∈ acc then acc else acc ++ [i]) acc).Nodup
  | [], acc, h => h
  | i :: is, acc, h => by
    rw [List.foldl_cons]
    refine dedI_nd is _ ?_
    split
    · exact h
    · rename_i hi
      rw [List.nodup_append]
      refine ⟨h, by simp, fun a ha b hb e => hi ?_⟩
      rw [List.mem_singleton.1 hb] at e
      rw [← e]; exact ha
theorem set_one {is ns : List Int} (h : ns.Pairwise (· < ·)) (hm : ∀ k : Int, k ∈ ns ↔ k ∈ is) : ns = sortI (dedI is) := by
  have hn : ns.Nodup := h.imp fun {a b} hab => by omega
  have hd : (dedI is).Nodup := dedI_nd is [] List.nodup_nil
  have hp : ns.Perm (dedI is) := (List.perm_ext_iff_of_nodup hn hd).2 fun x => by
    rw [hm]
    have := dedI_mem is [] x
    unfold dedI
    rw [this]; simp
  exact srt_one (hp.trans (sortI_perm _).symm) (h.imp fun {a b} hab => by omega) (sortI_srt _)
theorem sim_sset {a : Expr} {a' : E} {p p2 p3 p4 : Pos} (hK : X.K = N.K) (hc : X.calm = true) (gl : Gl X (Str.ofString "sorted")) (hm : X.mg (Str.ofString "sorted") = none) (gl2 : Gl X (Str.ofString "set")) (hm2 : X.mg (Str.ofString "set") = none) (ha : PE X a (tE T N C a' Wx)) (ns : notStar a = true) :
    PE X (.Call (.Name (Str.ofString "sorted") p) [.Call (.Name (Str.ofString "set") p2) [a] [] p3] [] p4) (tE T N C (.sset a') Wx) := by
  refine (pe_callB (cr_sortedSet hc) gl hm (by decide +kernel) (pa_cons (pe_callTy (cr_setTI hc) gl2 hm2 (by decide +kernel) (pa_cons ha pa_nil (star_cons ns)) (by decide +kernel) (by decide +kernel) (star_cons ns) (star_any rfl)) pa_nil (star_cons rfl)) (by decide +kernel) (by decide +kernel) (star_cons rfl) (star_any rfl)).imp fun σ H Q ⟨F, ρ, m, sg, R, S, D⟩ => ?_
  rw [evE] at D
  refine tE.mk R S (Den.bind D) fun x ρ1 m1 H1 v1 e1 R1 D1 rv1 => ?_
  cases x with
  | tup xs =>
    obtain ⟨b, us, rfl, hf, hv⟩ := rv1
    cases hi : intsW xs with
    | none =>
      have e3 : ssetW (.tup xs) = none := by unfold ssetW; dsimp only; rw [hi]
      rw [e3] at D1; exact False.elim D1
    | some is =>
      by_cases hl : is.length < 64
      · have e3 : ssetW (.tup xs) = some (.lst ((sortI (dedI is)).map .int)) := by unfold ssetW; dsimp only; rw [hi]; exact if_pos hl
        rw [e3] at D1
        have hus := RVs.ints hv hi
        have hsq : SqT X.K H1 b (is.map V.int) := by rw [hK, ← hus]; exact hf.seq
        refine ⟨b, is, rfl, hsq, hl, fun q c hq hcl => ?_⟩
        refine ⟨q, fun j => decide (j ∈ is), c, rfl, upd_same, by omega, fun ks r hks hmem hlen hr => ?_⟩
        have ek : ks = sortI (dedI is) := set_one hks fun k => by rw [hmem]; exact decide_eq_true_iff
        subst ek
        have R2 := R1.new (o := SetO X.w q (fun j => decide (j ∈ is)) c) hq
        refine Den.at' D1 ((Ext.new R1 hq).trans (Ext.new R2 hr)) (R2.new hr) _ (RV.newL R2 hr ?_ (RVs.ofInts _))
        rw [List.length_map, hlen]
        have : (64 : Nat) ≤ sizeLine := by rw [sizeLine_eq]; omega
        omega
      · have e3 : ssetW (.tup xs) = none := by unfold ssetW; dsimp only; rw [hi]; exact if_neg hl
        rw [e3] at D1; exact False.elim D1
  | _ => exact False.elim D1
end
end WM
/-! {k: w, ..}[i] -/
namespace WM
open PySem PySem.Spec PyProof.Rows L2
theorem merge_nd : ∀ (more acc : List (Key × V)), ((acc ++ more).map (·.1)).Nodup → mergeK acc more = acc ++ more
  | [], acc, _ => by rw [List.append_nil]; rfl
  | p :: r, acc, h => by
    have hp : (acc.any fun kv => decide (kv.1 = p.1)) = false := by
      rw [List.any_eq_false]
      intro q hq
      simp only [decide_eq_true_eq]
      intro e
      rw [List.map_append, List.nodup_append] at h
      exact h.2.2 q.1 (List.mem_map_of_mem hq) p.1 (List.mem_map_of_mem List.mem_cons_self) e
    have e : putK acc p.1 p.2 = acc ++ [p] := by
      unfold putK
      rw [if_neg (by rw [hp]; exact Bool.false_ne_true)]
    show mergeK (putK acc p.1 p.2) r = _
    rw [e, merge_nd r (acc ++ [p]) (by rw [List.append_assoc]; exact h), List.append_assoc]
    rfl
def kvZ (ks : List Int) (vs : List V) : List (Key × V) := List.zipWith (fun k v => (Sum.inl k, v)) ks vs
theorem dsel_get {N : En} {ρ k H} {i : Int} {w : W} : ∀ {ks : List Int} {ws : List W} {vs : List V}, RVs N ρ k H ws vs → dselW ks ws (.int i) = some w → ∃ v, valV (kvZ ks vs) (.inl i) = some v ∧ RV N ρ k H w v
  | [], _, _, _, e => by cases e
  | _ :: _, [], _, _, e => by cases e
  | c :: ks, x :: ws, _, ⟨v, r, h1, h2, h3⟩, e => by
    subst h1
    unfold dselW at e
    by_cases hc : c = i
    · rw [if_pos hc] at e
      cases e
      exact ⟨v, by rw [show kvZ (c :: ks) (v :: r) = (Sum.inl c, v) :: kvZ ks r from rfl, valV_pos (by rw [hc])], h2⟩
    · rw [if_neg hc] at e
      obtain ⟨u, e1, e2⟩ := dsel_get h3 e
      exact ⟨u, by rw [show kvZ (c :: ks) (v :: r) = (Sum.inl c, v) :: kvZ ks r from rfl, valV_neg (by intro z; cases z; exact hc rfl)]; exact e1, e2⟩
theorem kvZ_keys : ∀ {ks : List Int} {vs : List V}, (kvZ ks vs).map (·.1) = (ks.take vs.length).map Sum.inl
  | [], _ => by simp [kvZ]
  | _ :: _, [] => by simp [kvZ]
  | c :: ks, v :: vs => by
    rw [show kvZ (c :: ks) (v :: vs) = (Sum.inl c, v) :: kvZ ks vs from rfl, List.map_cons, kvZ_keys, List.length_cons, List.take_succ_cons, List.map_cons]
theorem kvZ_nodup {ks : List Int} {vs : List V} (h : ks.Nodup) : ((kvZ ks vs).map (·.1)).Nodup := by
  rw [kvZ_keys]
  have h2 : (ks.take vs.length).Nodup := h.sublist (List.take_sublist _ _)
  unfold List.Nodup at h2 ⊢
  rw [List.pairwise_map]
  exact h2.imp fun hab e => hab (Sum.inl.inj e)
theorem Ext.turned {N : En} {ρ k H ρ1 k1 H1 ρ2 k2 H2 p o} (e1 : Ext N ρ k H ρ1 k1 H1) (hp : H p = none) (hf : ¬ N.F p) (e2 : Ext (N.plus p) ρ1 k1 (upd H1 p o) ρ2 k2 H2) : Ext N ρ k H ρ2 k2 H2 where
  le := Nat.le_trans e1.le e2.le
  rho := fun n h => (e2.rho n (Nat.lt_of_lt_of_le h e1.le)).trans (e1.rho n h)
  keep := fun a u h n => by
    have hne := ne_of_none h hp
    exact e2.keep a u (by rw [upd_ne hne]; exact e1.keep a u h n) ((e1.nl h n).plus hne)
  keepF := fun a h => by
    have hne : a ≠ p := fun z => hf (by rw [← z]; exact h)
    rw [e2.keepF a (.inl h), upd_ne hne]; exact e1.keepF a h
  lv := fun n h z => by
    have q := e1.lv n h z
    have r := e2.lv n (Nat.lt_of_lt_of_le h e1.le)
    rw [e1.rho n h] at r
    refine r ?_
    by_cases e : ρ n = p
    · rw [e, upd_same]; simp
    · rw [upd_ne e]; exact q
  fresh := fun n h1 h2 => by
    by_cases hk : n < k1
    · rw [e2.rho n hk]; exact e1.fresh n h1 hk
    · have z := e2.fresh n (Nat.le_of_not_lt hk) h2
      have hne : ρ2 n ≠ p := fun e => by rw [e, upd_same] at z; cases z
      rw [upd_ne hne] at z
      cases y : H (ρ2 n) with
      | none => rfl
      | some u =>
        by_cases hf2 : N.F (ρ2 n)
        · rw [e1.keepF _ hf2, y] at z; cases z
        by_cases hnl : ∀ j, j < k → ρ j ≠ ρ2 n
        · rw [e1.keep _ u y ⟨hnl, hf2⟩] at z; cases z
        · have ⟨j, h3, h4⟩ : ∃ j, j < k ∧ ρ j = ρ2 n := by
            simp only [Classical.not_forall] at hnl
            obtain ⟨j, h3, h4⟩ := hnl
            exact ⟨j, h3, Classical.not_not.mp h4⟩
          have r := e1.lv j h3
          rw [h4, y] at r
          exact absurd z (r (by simp))
section
variable {T : Tab} {N : En} {C : Calls} {X : Cx} {Wx : WX}
/-- the pairs' values -/
theorem pairs_reads : ∀ (ks : List Int) (es : List E), ks.length = es.length → ∀ (F : Addr → Prop) (ρ : Nat → Addr) (m m' : Hm) (H : Hp) (sg : Sg) (σ : L2.St) (ws : List W) (Q : List (V × V) → Hp → Prop), Rl (N.wF F) ρ m H → RS (N.wF F) ρ m.length H sg σ →
      evEs T C es sg m = some (.ok ws, m') → (∀ ρ' H' vs, Ext (N.wF F) ρ m.length H ρ' m'.length H' → Rl (N.wF F) ρ' m' H' → RVs (N.wF F) ρ' m'.length H' ws vs → Q ((kvZ ks vs).map fun kv => (kV kv.1, kv.2)) H') →
      tPairs (List.zipWith (fun k e => (tC (.int k), tE T N C e fun _ _ _ _ => False)) ks es) σ H Q
  | [], [], _, F, ρ, m, m', H, sg, σ, ws, Q, R, S, e, h => by
    rw [evEs] at e
    cases e
    exact h ρ H [] Ext.refl R rfl
  | k :: ks, c :: es, hl, F, ρ, m, m', H, sg, σ, ws, Q, R, S, e, h => by
    rw [evEs] at e
    obtain ⟨w, m1, e1, e2⟩ := bnd_some e
    obtain ⟨ws', m2, e3, e4⟩ := bnd_some e2
    cases e4
    refine ⟨F, ρ, m, sg, R, S, den_of e1 fun ρ1 H1 x1 R1 v rv => ?_⟩
    refine pairs_reads ks es (Nat.succ.inj hl) F ρ1 m1 m' H1 sg σ ws' _ R1 (S.mono x1) e3 fun ρ2 H2 vs x2 R2 rvs => ?_
    exact h ρ2 H2 (v :: vs) (x1.trans x2) R2 ⟨v, vs, rfl, RV.mono x2 _ _ rv, rvs⟩
  | [], _ :: _, hl, _, _, _, _, _, _, _, _, _, _, _, _, _ => by cases hl
  | _ :: _, [], hl, _, _, _, _, _, _, _, _, _, _, _, _, _ => by cases hl
theorem noExc_inv {α : Type} {x : M α} {m : Hm} {N : En} {ρ H WW} {P : α → (Nat → Addr) → Hm → Hp → Prop} (D : Den N ρ m H WW (WM.noExc x m) P) : ∃ a m', x m = some (.ok a, m') ∧ ∀ ρ' H', Ext N ρ m.length H ρ' m'.length H' → Rl N ρ' m' H' → P a ρ' m' H' := by
  have D2 := D.noExc
  unfold Den at D2
  cases e : x m with
  | none => rw [e] at D2; exact False.elim D2
  | some p =>
    obtain ⟨r, m'⟩ := p
    rw [e] at D2
    cases r with
    | ok a =>
      unfold Den WM.noExc at D
      rw [e] at D
      exact ⟨a, m', rfl, D⟩
    | exc y =>
      unfold Den WM.noExc at D
      rw [e] at D
      exact False.elim D
theorem bnd_noExc {α β : Type} {x : M α} {f : α → M β} {m m' : Hm} {a : α} (e : x m = some (.ok a, m')) : bnd (WM.noExc x) f m = f a m' := by
  unfold bnd WM.noExc; rw [e]
theorem sim_dsel {ks : List Int} {es' : List E} {i' : E} {keys : List (Option Expr)} {values : List Expr} {ie : Expr} {p2 pos} (hu : X.A.units + 1 < cLine) (hl : ks.length = es'.length) (hnd : ks.Nodup)
    (hp : PPs X p2 keys values (List.zipWith (fun k e => (tC (.int k), tE T N C e fun _ _ _ _ => False)) ks es')) (hall : keys.all (·.isSome) = true) (hkv : keys.length = values.length) (h0 : keys ≠ []) (h15 : keys.length ≤ 15) (hk15 : ks.length ≤ 15)
    (hi : PE X ie (tE T N C i' fun _ _ _ _ => False)) (hs : NoSl ie) : PE X (.Subscript (.Dict keys values p2) ie pos) (tE T N C (.dsel ks es' i') Wx) := by
  refine (pe_dget hu (pe_disp hp hall hkv h0 h15) hi hs).imp fun σ H Q ⟨F, ρ, m, sg, R, S, D⟩ => ?_
  rw [evE] at D
  -- what the little language does
  obtain ⟨ws, m1, e1, D1⟩ := noExc_inv (Den.bind D)
  intro p hpn
  have R0 := R.plus (o := .dK []) hpn
  have S0 := S.plus (o := .dK []) hpn
  refine pairs_reads ks es' hl (fun a => F a ∨ a = p) ρ m m1 _ sg σ ws _ R0 S0 e1 fun ρ1 H1 vs x1 R1 rvs => ?_
  have hp1 : H1 p = some (.dK []) := by rw [x1.keepF p (.inr rfl)]; exact upd_same
  refine ⟨hp1, kvZ ks vs, rfl, ?_, ?_⟩
  · show (List.zipWith _ ks vs).length ≤ 15
    rw [List.length_zipWith]
    exact Nat.le_trans (Nat.min_le_left _ _) hk15
  rw [merge_nd (kvZ ks vs) [] (by rw [List.nil_append]; exact kvZ_nodup hnd), List.nil_append]
  have x1' : Ext (N.wF F) ρ m.length H ρ1 m1.length H1 := Ext.first R hpn x1
  have hk : ∃ k m2, evE T C i' sg m1 = some (.ok k, m2) ∧ ∃ w, dselW ks ws k = some w := by
    have D2 := D1 ρ1 H1 x1' (Rl.minus (N := N.wF F) (D := p) R1)
    obtain ⟨k, m2, e2, D3⟩ := noExc_inv (Den.bind D2)
    have hpn1 := Rl.minus (N := N.wF F) (D := p) R1
    cases q : dselW ks ws k with
    | some w => exact ⟨k, m2, e2, w, q⟩
    | none =>
      have D4 := Den.bind D2
      unfold Den WM.noExc at D4
      rw [e2] at D4
      exact ⟨k, m2, e2, False.elim (by
        have z := Den.bind D
        unfold Den WM.noExc at z
        rw [e1] at z
        have whole : evE T C (.dsel ks es' i') sg m = none := by
          rw [evE, bnd_noExc e1, bnd_noExc e2, q]; rfl
        rw [evE] at whole
        unfold Den at D
        rw [whole] at D
        exact D)⟩
  obtain ⟨k, m2, e2, w, hw⟩ := hk
  have hkint : ∃ j, k = .int j := by
    cases k with
    | int j => exact ⟨j, rfl⟩
    | _ => cases ks <;> cases ws <;> cases hw
  obtain ⟨j, rfl⟩ := hkint
  have R2 := Rl.turn (N := N.wF F) (D := p) (o := .dK (kvZ ks vs)) R1
  have S2 : RS ((N.wF F).plus p) ρ1 m1.length (upd H1 p (.dK (kvZ ks vs))) sg σ := (S0.mono x1).turn (N := N.wF F) (D := p)
  refine ⟨fun a => F a ∨ a = p, ρ1, m1, sg, R2, S2, den_of e2 fun ρ2 H2 x2 R3 y ry => ?_⟩
  have hp2 : H2 p = some (.dK (kvZ ks vs)) := by rw [x2.keepF p (.inr rfl)]; exact upd_same
  have rvs2 : RVs ((N.wF F).plus p) ρ2 m2.length H2 ws vs := RVs.mono x2 _ _ (RVs.turn (N := N.wF F) (D := p) _ _ rvs)
  obtain ⟨v, hv, rv⟩ := dsel_get rvs2 hw
  have ey : y = .int j := ry
  subst ey
  refine ⟨p, v, rfl, .inl ⟨_, .inl j, .inl hp2, rfl, hv.symm⟩, ?_⟩
  have whole : evE T C (.dsel ks es' i') sg m = some (.ok w, m2) := by
    rw [evE, bnd_noExc e1, bnd_noExc e2, hw]; rfl
  rw [evE] at whole
  unfold Den at D
  rw [whole] at D
  exact D ρ2 H2 (Ext.turned x1' hpn (R.nF hpn) x2) (Rl.minus (N := N.wF F) (D := p) R3) v (RV.minus (N := N.wF F) (D := p) w v rv)
end
end WM
namespace WM
open PySem PySem.Spec PyProof.Rows L2

def SOk (N : En) (Wx : WX) (D : Ends) : SO → (Nat → Addr) → Nat → Hp → L2.St → Prop
  | .nx, _, _, H, σ => D.nx σ H
  | .brk, _, _, H, σ => D.bk σ H
  | .cnt, _, _, H, σ => D.ct σ H
  | .rt w, ρ, k, H, _ => ∀ v, RV N ρ k H w v → D.rt v H
  | .ex x, ρ, k, H, σ => ∀ d, RX N ρ k H x d → Wx (.ref (N.ca x.c)) d σ H
def DenS (N : En) (ρ : Nat → Addr) (m : Hm) (H : Hp) (Wx : WX) (D : Ends) (r : Option (SO × Sg × Hm)) : Prop :=
  match r with
  | none => False
  | some (o, sg', m') => ∀ ρ' H' σ', Ext N ρ m.length H ρ' m'.length H' → Rl N ρ' m' H' → RS N ρ' m'.length H' sg' σ' → SOk N Wx D o ρ' m'.length H' σ'
def tSs (T : Tab) (N : En) (C : Calls) (ss : List S) (Wx : WX) : TS := fun D σ H => ∃ F ρ m sg, Rl (N.wF F) ρ m H ∧ RS (N.wF F) ρ m.length H sg σ ∧ DenS (N.wF F) ρ m H Wx D (evSs T C ss sg m)
def tS (T : Tab) (N : En) (C : Calls) (s : S) (Wx : WX) : TS := fun D σ H => ∃ F ρ m sg, Rl (N.wF F) ρ m H ∧ RS (N.wF F) ρ m.length H sg σ ∧ DenS (N.wF F) ρ m H Wx D (evS T C s sg m)

section
variable {T : Tab} {N : En} {C : Calls} {X : Cx} {Wx : WX}
theorem DenS.lft {α : Type} {ρ m H D sg σ} {x : M α} {k : α → MS} (h : DenS N ρ m H Wx D (WM.lft x sg k m)) (S : RS N ρ m.length H sg σ) :
    Den N ρ m H (WS N Wx σ) (x m) (fun a ρ' m' H' => DenS N ρ' m' H' Wx D (k a m')) := by
  unfold WM.lft at h
  cases e : x m with
  | none => rw [e] at h; exact h
  | some p =>
    obtain ⟨r, m'⟩ := p
    rw [e] at h
    cases r with
    | exc y => exact fun ρ' H' e' R' => h ρ' H' σ e' R' (S.mono e')
    | ok a =>
      intro ρ' H' ext rl
      have h' : DenS N ρ m H Wx D (k a m') := h
      unfold DenS at h' ⊢
      cases e2 : k a m' with
      | none => rw [e2] at h'; exact h'
      | some q =>
        obtain ⟨o, sg', m2⟩ := q
        rw [e2] at h'
        exact fun ρ2 H2 σ2 e3 R2 S2 => h' ρ2 H2 σ2 (ext.trans e3) R2 S2
theorem DenS.nx {ρ m H D sg σ} (h : DenS N ρ m H Wx D (some (.nx, sg, m))) (R : Rl N ρ m H) (S : RS N ρ m.length H sg σ) : D.nx σ H := h ρ H σ Ext.refl R S
theorem sim_pass {pos} : PS X (.Pass pos) (tS T N C .pass Wx) := ps_pass.imp fun D σ H ⟨F, ρ, m, sg, R, S, h⟩ => by
  rw [evS] at h; exact h.nx R S
theorem sim_brk {pos} : PS X (.Break pos) (tS T N C .brk Wx) := ps_break.imp fun D σ H ⟨F, ρ, m, sg, R, S, h⟩ => by
  rw [evS] at h; exact h ρ H σ Ext.refl R S
theorem sim_cnt {pos} : PS X (.Continue pos) (tS T N C .cnt Wx) := ps_continue.imp fun D σ H ⟨F, ρ, m, sg, R, S, h⟩ => by
  rw [evS] at h; exact h ρ H σ Ext.refl R S
theorem sim_doc {x j pos pos'} : PS X (.Expr (.Constant (.str x) j pos) pos') (tS T N C .pass Wx) := ps_doc.imp fun D σ H ⟨F, ρ, m, sg, R, S, h⟩ => by
  rw [evS] at h; exact h.nx R S
def notComp : Expr → Bool
  | .ListComp .. => false
  | .SetComp .. => false
  | .DictComp .. => false
  | _ => true
theorem nosw {e : Expr} {t : Option Expr} {l : Nat} {env : Env} (h : notComp e = true) : swapsWith e t l env = pure false := by
  cases e <;> first | rfl | cases h
theorem sim_expr {e : Expr} {e' : E} {pos} (he : PE X e (tE T N C e' Wx)) (hn : notComp e = true) : PS X (.Expr e pos) (tS T N C (.expr e') Wx) := by
  refine (ps_expr he (nosw hn)).imp fun D σ H ⟨F, ρ, m, sg, R, S, h⟩ => ?_
  rw [evS] at h
  exact tE.mk R S (h.lft S) fun w ρ1 m1 H1 v e1 R1 D1 rv => DenS.nx D1 R1 (S.mono e1)
theorem sim_ret {e : Expr} {e' : E} {pos} (he : PE X e (tE T N C e' Wx)) : PS X (.Return (some e) pos) (tS T N C (.ret e') Wx) := by
  refine (ps_ret he).imp fun D σ H ⟨F, ρ, m, sg, R, S, h⟩ => ?_
  rw [evS] at h
  exact tE.mk R S (h.lft S) fun w ρ1 m1 H1 v e1 R1 D1 rv => D1 ρ1 H1 σ Ext.refl R1 (S.mono e1) v rv
theorem sim_retN {pos} : PS X (.Return none pos) (tS T N C .retN Wx) := by
  refine ps_retN.imp fun D σ H ⟨F, ρ, m, sg, R, S, h⟩ => ?_
  rw [evS] at h
  exact h ρ H σ Ext.refl R S _ rfl
/-! ### assignments -/
theorem asg_reads {e' : E} {t : Tg} (D : Ends) (σ : L2.St) (H : Hp) (h : tS T N C (.set t e') Wx D σ H) : tAsg (tE T N C e' Wx) (gT N t) D σ H := by
  obtain ⟨F, ρ, m, sg, R, S, h⟩ := h
  rw [evS] at h
  refine tE.mk R S (h.lft S) fun w ρ1 m1 H1 v e1 R1 D1 rv => ?_
  cases ea : asgT t w sg with
  | none => rw [ea] at D1; exact False.elim D1
  | some sg' =>
    rw [ea] at D1
    exact ⟨F, ρ1, m1, sg, w, sg', R1, S.mono e1, rv, ea, fun σ' S' _ => DenS.nx D1 R1 S'⟩
theorem sole_false {tg e : Expr} {l : Nat} {env : Env} (h : notComp e = true) : swapsWithSole [tg] e l env = pure false := nosw h
theorem sim_set {tg e : Expr} {e' : E} {t : Tg} {pos} (he : PE X e (tE T N C e' Wx)) (hg : PG X tg (gT N t)) (hs : swapsWithSole [tg] e pos.line X.env = pure false) (hw : swappedStores [tg] e X.env = pure none) (ns : notStar tg = true) :
    PS X (.Assign [tg] e pos) (tS T N C (.set t e') Wx) :=
  (ps_asg he hg hs hw (star_cons_asg ns)).imp asg_reads
theorem par_reads2 {a' b' : E} {i j : Nat} (D : Ends) (σ : L2.St) (H : Hp) (h : tS T N C (.par [i, j] [a', b']) Wx D σ H) : tPar i j (tEs T N C [a', b'] Wx) D σ H := by
  obtain ⟨F, ρ, m, sg, R, S, h⟩ := h
  rw [evS] at h
  refine tEs.mk R S (h.lft S) fun ws ρ1 m1 H1 vs e1 R1 D1 rv => ?_
  match ws, rv, D1 with
  | [x, y], rv, D1 =>
    obtain ⟨v, u, ev, h1, h2⟩ := RVs.two rv
    exact ⟨v, u, ev, DenS.nx D1 R1 (((S.mono e1).set i h1).set j h2)⟩
  | [], _, D1 => exact False.elim D1
  | [_], _, D1 => exact False.elim D1
  | _ :: _ :: _ :: _, _, D1 => exact False.elim D1
theorem par_reads3 {a' b' c' : E} {i j l : Nat} (D : Ends) (σ : L2.St) (H : Hp) (h : tS T N C (.par [i, j, l] [a', b', c']) Wx D σ H) : tPar3 i j l (tEs T N C [a', b', c'] Wx) D σ H := by
  obtain ⟨F, ρ, m, sg, R, S, h⟩ := h
  rw [evS] at h
  refine tEs.mk R S (h.lft S) fun ws ρ1 m1 H1 vs e1 R1 D1 rv => ?_
  match ws, rv, D1 with
  | [x, y, z], rv, D1 =>
    obtain ⟨v, r, ev, h1, h2⟩ := rv
    obtain ⟨u, t, eu, h3, h4⟩ := RVs.two h2
    exact ⟨v, u, t, by rw [ev, eu], DenS.nx D1 R1 ((((S.mono e1).set i h1).set j h3).set l h4)⟩
  | [], _, D1 => exact False.elim D1
  | [_], _, D1 => exact False.elim D1
  | [_, _], _, D1 => exact False.elim D1
  | _ :: _ :: _ :: _ :: _, _, D1 => exact False.elim D1
def augP : Bop → Option Operator
  | .add => some .Add
  | .sub => some .Sub
  | _ => none
theorem sim_aug {i : Nat} {x : Str} {e : Expr} {e' : E} {o : Bop} {op : Operator} {pos' pos} (hN : X.N.Nodup) (hi : X.N[i]? = some x) (hx : Loc X.env.scope x) (hf : X.fn x = true ∨ X.env.scope.names.lookup x = some .local)
    (he : PE X e (tE T N C e' Wx)) (ho : augP o = some op) : PS X (.AugAssign (.Name x pos') op e pos) (tS T N C (.aug i o e') Wx) := by
  have go : ∀ (g : Int → Int → Int), PIp X op (ipI g) → (∀ x y w, augW o x y = some w → ∃ i j, x = .int i ∧ y = .int j ∧ w = .int (g i j)) → PS X (.AugAssign (.Name x pos') op e pos) (tS T N C (.aug i o e') Wx) := by
    intro g hp hg
    refine (ps_aug hN hi hx he hp hf).imp fun D σ H ⟨F, ρ, m, sg, R, S, h⟩ => ?_
    rw [evS] at h
    cases es : sg[i]? with
    | none => rw [es] at h; exact False.elim h
    | some z =>
      rw [es] at h
      cases z with
      | none => exact False.elim h
      | some w0 =>
        obtain ⟨v0, h1, h2⟩ := S.2 i w0 es
        refine ⟨v0, h1, ?_⟩
        have h' : DenS (N.wF F) ρ m H Wx D (WM.lft (bnd (evE T C e' sg) fun y => WM.opt (augW o w0 y)) sg (fun w m => some (.nx, sg.set i (some w), m)) m) := h
        refine tE.mk R S (Den.bind (h'.lft S)) fun y ρ1 m1 H1 v e1 R1 D1 rv => ?_
        obtain ⟨w, hw, D2⟩ := D1.opt
        obtain ⟨a, b, ea, eb, ew⟩ := hg _ _ _ hw
        subst ea eb ew
        exact ⟨a, b, h2, rv, DenS.nx (Den.ret R1 D2) R1 ((S.mono e1).set i (show RV (N.wF F) ρ1 m1.length H1 (.int (g a b)) (.int (g a b)) from rfl))⟩
  cases o with
  | add =>
    cases ho
    refine go (fun i j => i + j) ip_add fun x y w hw => ?_
    cases x <;> cases y <;> first | (simp [augW] at hw; done) | (simp only [augW, Option.some.injEq] at hw; exact ⟨_, _, rfl, rfl, hw.symm⟩)
  | sub =>
    cases ho
    refine go (fun i j => i - j) ip_sub fun x y w hw => ?_
    cases x <;> cases y <;> first | (simp [augW] at hw; done) | (simp only [augW, Option.some.injEq] at hw; exact ⟨_, _, rfl, rfl, hw.symm⟩)
  | _ => cases ho
def notSlice : Expr → Bool
  | .Slice .. => false
  | _ => true
theorem plainIx {b : Expr} (h : notSlice b = true) : PlainIx b := by
  intro o i
  cases b <;> first | rfl | cases h
theorem bnd3 {ρ m H WW} {α β γ : Type} {x : M α} {y : M β} {f : α → β → M γ} {P : γ → (Nat → Addr) → Hm → Hp → Prop} (D : Den N ρ m H WW (bnd x (fun a => bnd y fun b => f a b) m) P) :
    Den N ρ m H WW (x m) (fun a ρ1 m1 H1 => Den N ρ1 m1 H1 WW (y m1) (fun b ρ2 m2 H2 => Den N ρ2 m2 H2 WW (f a b m2) P)) :=
  (Den.bind D).imp fun a ρ1 m1 H1 _ _ D1 => Den.bind D1
theorem sim_setI {o i e : Expr} {o' i' e' : E} {p2 pos} (ho : PE X o (tE T N C o' Wx)) (hi : PE X i (tE T N C i' Wx)) (he : PE X e (tE T N C e' Wx)) (hn : notComp e = true) (hsl : notSlice i = true) :
    PS X (.Assign [.Subscript o i p2] e pos) (tS T N C (.setI o' i' e') Wx) := by
  have hg : PG X (.Subscript o i p2) (gSub (tE T N C o' Wx) (tE T N C i' Wx) rSetL) := pg_sub ho hi set_list (fun v => by
    cases i <;> first | rfl | cases hsl)
  have hw : swappedStores [.Subscript o i p2] e X.env = pure none := by cases e <;> rfl
  refine (ps_asg he hg (sole_false hn) hw rfl).imp fun D σ H ⟨F, ρ, m, sg, R, S, h⟩ => ?_
  rw [evS] at h
  refine tE.mk R S (Den.bind (h.lft S)) fun y ρ1 m1 H1 v e1 R1 D1 rv => ?_
  refine tE.mk R1 (S.mono e1) (Den.bind D1) fun x ρ2 m2 H2 u e2 R2 D2 ru => ?_
  refine tE.mk R2 (S.mono (e1.trans e2)) (Den.bind D2) fun k ρ3 m3 H3 t e3 R3 D3 rt => ?_
  cases x with
  | ref n =>
    cases k with
    | int j =>
      have D4 : Den (N.wF F) ρ3 m3 H3 (WS (N.wF F) Wx σ) (match hget m3 n with
        | some (.lst xs) => match ixN xs.length j with
          | some q => some (Res.ok W.non, hset m3 n (.lst (xs.set q y)))
          | none => none
        | _ => none) (fun _ ρ' m' H' => DenS (N.wF F) ρ' m' H' Wx D (some (.nx, sg, m'))) := D3
      have ru3 := RV.mono e3 _ _ ru
      cases hq : hget m3 n with
      | none => rw [hq] at D4; exact False.elim D4
      | some ob =>
        rw [hq] at D4
        cases ob with
        | lst xs =>
          obtain ⟨vs, h1, h2, h3⟩ := R3.obj _ _ hq
          cases hx : ixN xs.length j with
          | none => dsimp only at D4; rw [hx] at D4; exact False.elim D4
          | some q =>
            dsimp only at D4
            rw [hx] at D4
            have rv3 := RV.mono (e2.trans e3) _ _ rv
            have ex := Ext.write (o := .lst (vs.set q v)) R3 ru3.1
            have Rw : Rl (N.wF F) ρ3 (hset m3 n (.lst (xs.set q y))) (upd H3 (ρ3 n) (.lst (vs.set q v))) :=
              R3.write ru3.1 ⟨_, upd_same, by rw [List.length_set]; exact h2, RVs.mono ex _ _ (h3.set rv3 q)⟩
            have ex' : Ext (N.wF F) ρ3 m3.length H3 ρ3 (hset m3 n (.lst (xs.set q y))).length (upd H3 (ρ3 n) (.lst (vs.set q v))) := by rw [hset_length]; exact ex
            refine ⟨ρ3 n, vs, j, q, ru3.2, rt, h1, by rw [← h3.len]; exact hx, ?_⟩
            exact DenS.nx (D4 ρ3 _ ex' Rw) Rw (S.mono (((e1.trans e2).trans e3).trans ex'))
        | _ => exact False.elim D4
    | _ => exact False.elim D3
  | _ => exact False.elim D3
/-! ### o.append(e) -/
def plainBase : Expr → Bool
  | .Call (.Name _ _) [] [] _ => false
  | _ => true
theorem base_ok {o : Expr} {a : Str} {env : Env} (h : plainBase o = true) : attributeBase o a env (eval o env) = eval o env := by
  unfold attributeBase
  split
  · cases h
  · rfl
theorem lstM_inv {x : W} {m : Hm} {r : Res Unit × Hm} (h : lstM x m = some r) : ∃ n xs, x = .ref n ∧ hget m n = some (.lst xs) ∧ r = (.ok (), m) := by
  cases x with
  | ref n =>
    have h' : (match hget m n with | some (.lst _) => some (Res.ok (), m) | _ => none) = some r := h
    cases hq : hget m n with
    | none => rw [hq] at h'; cases h'
    | some ob =>
      rw [hq] at h'
      cases ob with
      | lst xs => cases h'; exact ⟨n, xs, rfl, hq, rfl⟩
      | _ => cases h'
  | _ => cases h
theorem Den.lstM {α : Type} {ρ m H WW} {x : W} {f : Unit → M α} {P : α → (Nat → Addr) → Hm → Hp → Prop} (D : Den N ρ m H WW (bnd (WM.lstM x) f m) P) :
    ∃ n xs, x = .ref n ∧ hget m n = some (.lst xs) ∧ Den N ρ m H WW (f () m) P := by
  cases e : WM.lstM x m with
  | none =>
    unfold bnd at D
    rw [e] at D
    exact False.elim D
  | some r =>
    obtain ⟨n, xs, h1, h2, h3⟩ := lstM_inv e
    subst h3
    rw [bnd_at e] at D
    exact ⟨n, xs, h1, h2, D⟩
theorem sim_app {o e : Expr} {o' e' : E} {apos cpos pos : Pos} (hK : X.K = N.K) (ho : PE X o (tE T N C o' Wx)) (he : PE X e (tE T N C e' Wx)) (hb : plainBase o = true) (ns : notStar e = true) (hl : (apos.endLine == cpos.line) = true) :
    PS X (.Expr (.Call (.Attribute o "append" apos) [e] [] cpos) pos) (tS T N C (.app o' e') Wx) := by
  have hfew : ((backTo cpos (starEach [e] X.env)).all (fun x => !x.1) && (backToKw cpos (keywordEach [] X.env)).all (fun x => x.1.isSome)
      && decide ([e].length + ([] : List Keyword).length + (if ([] : List Keyword).isEmpty then 0 else 1) < 30)) = true := by
    rw [star_cons ns]; rfl
  have hc := pe_bm (cpos := cpos) (apos := apos) (X := X) PySem.F.plainAttrs_list PySem.F.slot_list_append PySem.F.type_list_append mt_append ho (pa_cons he pa_nil (star_cons ns)) (base_ok hb) hfew hl (star_cons ns) rfl
  rw [hK] at hc
  refine (ps_expr hc rfl).imp fun D σ H ⟨F, ρ, m, sg, R, S, h⟩ => ?_
  rw [evS] at h
  refine tE.mk R S (Den.bind (h.lft S)) fun x ρ1 m1 H1 u e1 R1 D1 ru => ?_
  obtain ⟨n, xs0, ex, hq0, D2⟩ := Den.lstM D1
  obtain ⟨vs0, hv0, _⟩ := R1.obj _ _ hq0
  subst ex
  refine ⟨?_, ?_⟩
  · rw [ru.2]
    exact .inl ⟨rfl, vs0, SqL.of hv0⟩
  refine tE.mk R1 (S.mono e1) (Den.bind D2) fun y ρ2 m2 H2 v e2 R2 D3 rv => ?_
  have ru2 := RV.mono e2 _ _ ru
  have D4 : Den (N.wF F) ρ2 m2 H2 (WS (N.wF F) Wx σ) (match hget m2 n with
    | some (.lst xs) => if szOk (xs.length + 1) then some (Res.ok W.non, hset m2 n (.lst (xs ++ [y]))) else none
    | _ => none) (fun _ ρ' m' H' => DenS (N.wF F) ρ' m' H' Wx D (some (.nx, sg, m'))) := D3
  cases hq : hget m2 n with
  | none => rw [hq] at D4; exact False.elim D4
  | some ob =>
    rw [hq] at D4
    cases ob with
    | lst xs =>
      obtain ⟨vs, h1, h2, h3⟩ := R2.obj _ _ hq
      dsimp only at D4
      by_cases hz : szOk (xs.length + 1) = true
      · rw [if_pos hz] at D4
        have hl : vs.length + 1 ≤ sizeLine := by rw [← h3.len]; exact sz_ok hz
        have ex := Ext.write (o := .lst (vs ++ [v])) R2 ru2.1
        have Rw : Rl (N.wF F) ρ2 (hset m2 n (.lst (xs ++ [y]))) (upd H2 (ρ2 n) (.lst (vs ++ [v]))) :=
          R2.write ru2.1 ⟨_, upd_same, by rw [List.length_append]; exact hl, RVs.mono ex _ _ (h3.append ⟨v, [], rfl, rv, rfl⟩)⟩
        have ex' : Ext (N.wF F) ρ2 m2.length H2 ρ2 (hset m2 n (.lst (xs ++ [y]))).length (upd H2 (ρ2 n) (.lst (vs ++ [v]))) := by rw [hset_length]; exact ex
        exact ⟨ρ2 n, vs, v, ru2.2, rfl, h1, hl, DenS.nx (D4 ρ2 _ ex' Rw) Rw (S.mono ((e1.trans e2).trans ex'))⟩
      · rw [if_neg hz] at D4; exact False.elim D4
    | _ => exact False.elim D4
theorem RVs.dropLast {N : En} {ρ k H} {ws : List W} {vs : List V} (h : RVs N ρ k H ws vs) : RVs N ρ k H ws.dropLast vs.dropLast := by
  rw [List.dropLast_eq_take, List.dropLast_eq_take, h.len]
  exact RVs.take _ h
theorem sim_pop {o : Expr} {o' : E} {apos cpos : Pos} (hK : X.K = N.K) (ho : PE X o (tE T N C o' Wx)) (hb : plainBase o = true) (hl : (apos.endLine == cpos.line) = true) :
    PE X (.Call (.Attribute o "pop" apos) [] [] cpos) (tE T N C (.pop o') Wx) := by
  have hc := pe_bm0 (cpos := cpos) (apos := apos) (X := X) PySem.F.plainAttrs_list PySem.F.slot_list_pop PySem.F.type_list_pop mt_pop ho (base_ok hb) hl
  rw [hK] at hc
  refine hc.imp fun σ H Q ⟨F, ρ, m, sg, R, S, D⟩ => ?_
  rw [evE] at D
  refine tE.mk R S (Den.bind D) fun x ρ1 m1 H1 u e1 R1 D1 ru => ?_
  cases x with
  | ref n =>
    have D2 : Den (N.wF F) ρ1 m1 H1 (WS (N.wF F) Wx σ) (match hget m1 n with
      | some (.lst xs) => match xs[xs.length - 1]? with
        | some y => some (Res.ok y, hset m1 n (.lst xs.dropLast))
        | none => none
      | _ => none) (fun w ρ' m' H' => ∀ v, RV (N.wF F) ρ' m'.length H' w v → Q v H') := D1
    cases hq : hget m1 n with
    | none => rw [hq] at D2; exact False.elim D2
    | some ob =>
      rw [hq] at D2
      cases ob with
      | lst xs =>
        obtain ⟨vs, h1, h2, h3⟩ := R1.obj _ _ hq
        dsimp only at D2
        cases hy : xs[xs.length - 1]? with
        | none => rw [hy] at D2; exact False.elim D2
        | some y =>
          rw [hy] at D2
          dsimp only at D2
          obtain ⟨v, hv, rv⟩ := h3.get hy
          have ex := Ext.write (o := .lst vs.dropLast) R1 ru.1
          have Rw : Rl (N.wF F) ρ1 (hset m1 n (.lst xs.dropLast)) (upd H1 (ρ1 n) (.lst vs.dropLast)) :=
            R1.write ru.1 ⟨_, upd_same, by rw [List.length_dropLast]; omega, RVs.mono ex _ _ h3.dropLast⟩
          have ex' : Ext (N.wF F) ρ1 m1.length H1 ρ1 (hset m1 n (.lst xs.dropLast)).length (upd H1 (ρ1 n) (.lst vs.dropLast)) := by rw [hset_length]; exact ex
          refine ⟨?_, ρ1 n, vs, v, ru.2, rfl, h1, by rw [← h3.len]; exact hv, D2 ρ1 _ ex' Rw _ (RV.mono ex' _ _ rv)⟩
          rw [ru.2]
          exact .inl ⟨rfl, vs, SqL.of h1⟩
      | _ => exact False.elim D2
  | _ => exact False.elim D1
end
end WM
/-! instances: attributes, methods, making -/
namespace WM
open PySem PySem.Spec PyProof.Rows L2
theorem ins_of {N : En} {ρ m H n c fs} (R : Rl N ρ m H) (h : hget m n = some (.ins c fs)) : ∃ dx q, H (ρ n) = some (.ins (N.ca c) dx q) ∧ q.map (·.1) = (N.cf c).take fs.length ∧ RVs N ρ m.length H fs (q.map (·.2)) := by
  obtain ⟨ho, vs, h1, h2, h3⟩ := R.obj _ _ h
  cases ho <;> first | exact h2.elim | skip
  obtain ⟨e1, e2, e3⟩ := h2
  subst e1 e3
  exact ⟨_, _, h1, e2, h3⟩
theorem lk_at : ∀ {q : List (Str × V)} {names : List Str} {k i : Nat} {x : Str} {v : V}, names.Nodup → q.map (·.1) = names.take k → names[i]? = some x → (q.map (·.2))[i]? = some v → q.lookup x = some v
  | [], _, _, _, _, _, _, _, _, h => by simp at h
  | (y, u) :: q, [], _, _, _, _, _, h, _, _ => by simp at h
  | (y, u) :: q, n :: names, 0, _, _, _, _, h, _, _ => by simp at h
  | (y, u) :: q, n :: names, k + 1, 0, x, v, hn, h, h1, h2 => by
    rw [List.map_cons, List.take_succ_cons, List.cons.injEq] at h
    simp at h1 h2
    rw [List.lookup_cons, ← h1, ← h.1, h2]
    simp
  | (y, u) :: q, n :: names, k + 1, i + 1, x, v, hn, h, h1, h2 => by
    rw [List.map_cons, List.take_succ_cons, List.cons.injEq] at h
    rw [List.nodup_cons] at hn
    have h1' : names[i]? = some x := by simpa using h1
    have h2' : (q.map (·.2))[i]? = some v := by simpa using h2
    have hx : x ≠ y := by
      intro e
      refine hn.1 ?_
      rw [← h.1, show (y, u).1 = y from rfl, ← e]
      exact List.mem_of_getElem? h1'
    have hb : (x == y) = false := by simpa using hx
    rw [List.lookup_cons, hb]
    exact lk_at hn.2 h.2 h1' h2'
theorem put_at : ∀ {q : List (Str × V)} {names : List Str} {k i : Nat} {x : Str} {v : V}, names.Nodup → q.map (·.1) = names.take k → names[i]? = some x → i < k → k ≤ names.length →
    (putF x v q).map (·.1) = q.map (·.1) ∧ (putF x v q).map (·.2) = (q.map (·.2)).set i v
  | [], names, k, i, _, _, _, h, _, hi, hk => by
    have := congrArg List.length h
    simp at this
    omega
  | (y, u) :: q, [], _, _, _, _, _, h, _, _, _ => by simp at h
  | (y, u) :: q, n :: names, 0, _, _, _, _, h, _, _, _ => by simp at h
  | (y, u) :: q, n :: names, k + 1, 0, x, v, hn, h, h1, _, _ => by
    rw [List.map_cons, List.take_succ_cons, List.cons.injEq] at h
    have h1' : n = x := by simpa using h1
    have e : y = x := by rw [← h1', ← h.1]
    unfold putF
    rw [if_pos e]
    exact ⟨rfl, rfl⟩
  | (y, u) :: q, n :: names, k + 1, i + 1, x, v, hn, h, h1, hi, hk => by
    rw [List.map_cons, List.take_succ_cons, List.cons.injEq] at h
    rw [List.nodup_cons] at hn
    have h1' : names[i]? = some x := by simpa using h1
    have hx : ¬ y = x := by
      intro e
      refine hn.1 ?_
      rw [← h.1, show (y, u).1 = y from rfl, e]
      exact List.mem_of_getElem? h1'
    obtain ⟨g1, g2⟩ := put_at (v := v) hn.2 h.2 h1' (Nat.lt_of_succ_lt_succ hi) (by rw [List.length_cons] at hk; omega)
    unfold putF
    rw [if_neg hx, List.map_cons, List.map_cons, List.map_cons, List.map_cons, g1, g2]
    exact ⟨rfl, rfl⟩
theorem put_end : ∀ {q : List (Str × V)} {x : Str} {v : V}, x ∉ q.map (·.1) → putF x v q = q ++ [(x, v)]
  | [], _, _, _ => rfl
  | (y, u) :: q, x, v, h => by
    rw [List.map_cons, List.mem_cons, not_or] at h
    unfold putF
    rw [if_neg fun e => h.1 e.symm, put_end h.2]
    rfl
theorem Den.some {α : Type} {N : En} {ρ m H WW} {r : Option (Res α × Hm)} {P : α → (Nat → Addr) → Hm → Hp → Prop} (D : Den N ρ m H WW r P) : ∃ r', r = Option.some r' := by
  cases r with
  | none => exact D.elim
  | some r' => exact ⟨r', rfl⟩
theorem attrM_inv {c i : Nat} {w : W} {m : Hm} {r} (h : attrM c i w m = some r) : ∃ n fs x, w = .ref n ∧ hget m n = some (.ins c fs) ∧ fs[i]? = some x ∧ r = (.ok x, m) := by
  cases w with
  | ref n =>
    simp only [attrM] at h
    split at h
    · rename_i c' fs hq
      split at h
      · rename_i e
        subst e
        split at h
        · rename_i x hx
          cases h
          exact ⟨n, fs, x, rfl, hq, hx, rfl⟩
        · cases h
      · cases h
    · cases h
  | _ => cases h
theorem insM_inv {c : Nat} {w : W} {m : Hm} {r} (h : insM c w m = some r) : ∃ n fs, w = .ref n ∧ hget m n = some (.ins c fs) ∧ r = (.ok (), m) := by
  cases w with
  | ref n =>
    simp only [insM] at h
    split at h
    · rename_i c' fs hq
      split at h
      · rename_i e
        subst e
        cases h
        exact ⟨n, fs, rfl, hq, rfl⟩
      · cases h
    · cases h
  | _ => cases h
theorem setAM_inv {c i : Nat} {w y : W} {m : Hm} {r} (h : setAM c i w y m = some r) : ∃ n fs gs, w = .ref n ∧ hget m n = some (.ins c fs) ∧ putA fs i y = some gs ∧ gs.length < 1000 ∧ r = (.ok .non, hset m n (.ins c gs)) := by
  cases w with
  | ref n =>
    simp only [setAM] at h
    split at h
    · rename_i c' fs hq
      split at h
      · rename_i e
        subst e
        split at h
        · rename_i gs hx
          split at h
          · rename_i hz
            cases h
            exact ⟨n, fs, gs, rfl, hq, hx, hz, rfl⟩
          · cases h
        · cases h
      · cases h
    · cases h
  | _ => cases h
theorem lk_mem : ∀ {q : List (Str × V)} {x : Str} {u : V}, q.lookup x = some u → x ∈ q.map (·.1)
  | [], _, _, h => by cases h
  | (y, z) :: q, x, u, h => by
    rw [List.lookup_cons] at h
    rw [List.map_cons, List.mem_cons]
    by_cases hb : (x == y) = true
    · exact .inl (eq_of_beq hb)
    · have hb' : (x == y) = false := by simpa using hb
      rw [hb'] at h
      exact .inr (lk_mem h)
/-- a class as the text has it -/
structure ClsOk (N : En) (X : Cx) (c : Nat) : Prop where
  cl : Cls X.K (N.ca c)
  nd : (N.cf c).Nodup
  na : ∀ x ∈ N.cf c, NoAttr X.K (N.ca c) x
section
variable {T : Tab} {N : En} {X : Cx} {Wx : WX} {lvl : Nat} {C : Calls}
theorem sim_attr {c f : Nat} {x : Str} {a : Expr} {a' : E} {pos : Pos} (hK : X.K = N.K) (hc : ClsOk N X c) (hx : (N.cf c)[f]? = some x) (ha : PE X a (tE T N C a' Wx)) (hb : plainBase a = true) : PE X (.Attribute a x pos) (tE T N C (.attr c f a') Wx) := by
  refine (pe_fld ha (base_ok hb)).imp fun σ H Q ⟨F, ρ, m, sg, R, S, D⟩ => ?_
  rw [evE] at D
  refine tE.mk R S (Den.bind D) fun w ρ1 m1 H1 v e1 R1 D1 rv => ?_
  obtain ⟨r, hr⟩ := D1.some
  obtain ⟨n, fs, w', e0, e2, e3, e4⟩ := attrM_inv hr
  subst e0 e4
  have D2 : Den (N.wF F) ρ1 m1 H1 (WS (N.wF F) Wx σ) (WM.ret w' m1) (fun w ρ' m' H' => ∀ v, RV (N.wF F) ρ' m'.length H' w v → Q v H') := by
    rw [hr] at D1; exact D1
  obtain ⟨dx, q, h1, h2, h3⟩ := ins_of R1 e2
  obtain ⟨u, g1, g2⟩ := h3.get e3
  exact ⟨ρ1 n, N.ca c, dx, q, u, rv.2, h1, hc.cl, hc.na x (List.mem_of_getElem? hx), lk_at hc.nd h2 hx g1, Den.ret R1 D2 u g2⟩
/-! ### making a thing, its methods -/
theorem passNo {X : Cx} : Passes (L2.CX X.prog X.w) X (fun _ _ _ => False) := by
  intro pins σ H s e s' I c
  obtain ⟨_, _, _, _, _, _, _, _, _, _, _, _, z⟩ := c
  exact z.elim
theorem sim_meth {c f k : Nat} {x : Str} {a : Addr} {fd : FuncData} {ps : List Str} {o e : Expr} {es : List Expr} {o' : E} {es' : List E} {apos pos : Pos} (hK : X.K = N.K) (hc : ClsOk N X c) (hm : Meth X.K (N.ca c) x a) (hx : x ∉ N.cf c) (h3 : Binds X.K fd ps [])
    (h4 : FnOk X.prog X.w X.K X.mg X.base (L2.CX X.prog X.w) k a fd ps (spF T N lvl ps.length f)) (hn : ps.length = es'.length + 1) (hr : Room k X.A)
    (ho : PE X o (tE T N (evC T lvl) o' Wx)) (ha : PA X (e :: es) (tEs T N (evC T lvl) es' Wx)) (hs : (e :: es).all notStar = true) {pl : Sem Bool}
    (ht : eval (.Call (.Attribute o x apos) (e :: es) [] pos) X.env = (do
      let ov ← eval o X.env
      standAt apos.atName
      let (f, first) ← holding [ov] (getMethod ov x pl)
      callWith pos f first (backTo pos (starEach (e :: es) X.env)) (backToKw pos (keywordEach [] X.env)))) :
    PE X (.Call (.Attribute o x apos) (e :: es) [] pos) (tE T N (evC T lvl) (.meth c f o' es') Wx) := by
  rw [List.all_cons, Bool.and_eq_true] at hs
  refine (pe_meth (pl := pl) ho hc.cl hm h4 hr h3 .nil passNo ha (star_cons hs.1) (star_any hs.2) ht).imp fun σ H Q ⟨F, ρ, m, sg, R, S, D⟩ => ?_
  rw [evE] at D
  refine tE.mk R S (Den.bind D) fun w ρ1 m1 H1 v e1 R1 D1 rv => ?_
  obtain ⟨r, hr1⟩ := (Den.bind D1).some
  obtain ⟨n, fs, e0, e2, e4⟩ := insM_inv hr1
  subst e0 e4
  have D2 : Den (N.wF F) ρ1 m1 H1 (WS (N.wF F) Wx σ) (bnd (evEs T (evC T lvl) es' sg) (fun ws => WM.noExc (evC T lvl f (.ref n :: ws))) m1) (fun w ρ' m' H' => ∀ v, RV (N.wF F) ρ' m'.length H' w v → Q v H') := by
    unfold bnd at D1; rw [hr1] at D1; exact D1
  obtain ⟨dx, q, h1, h2, h3'⟩ := ins_of R1 e2
  have hlk : q.lookup x = none := by
    cases hq : q.lookup x with
    | none => rfl
    | some u =>
      have : x ∈ q.map (·.1) := lk_mem hq
      rw [h2] at this
      exact absurd (List.mem_of_mem_take this) hx
  refine ⟨ρ1 n, dx, q, rv.2, h1, hlk, ?_⟩
  refine tEs.mk R1 (S.mono e1) (Den.len (Den.bind D2)) fun ws ρ2 m2 H2 vs e5 R2 ⟨D0, D3⟩ rvs => ?_
  obtain ⟨a', m', g1, g2⟩ := noExc_inv D3
  refine ⟨?_, F, ρ2, m2, .ref n :: ws, R2, ⟨v, vs, ?_, RV.mono e5 _ _ rv, rvs⟩, den_of g1 g2⟩
  · rw [List.append_nil, List.length_cons, ← rvs.len, D0, hn]
  · rw [List.append_nil]
theorem sim_meth0 {c f k : Nat} {x : Str} {a : Addr} {fd : FuncData} {ps : List Str} {o : Expr} {o' : E} {apos pos : Pos} (hK : X.K = N.K) (hc : ClsOk N X c) (hm : Meth X.K (N.ca c) x a) (hx : x ∉ N.cf c) (h3 : Binds X.K fd ps [])
    (h4 : FnOk X.prog X.w X.K X.mg X.base (L2.CX X.prog X.w) k a fd ps (spF T N lvl ps.length f)) (hn : ps.length = 1) (hr : Room k X.A)
    (ho : PE X o (tE T N (evC T lvl) o' Wx)) {pl : Sem Bool}
    (ht : eval (.Call (.Attribute o x apos) [] [] pos) X.env = (do
      let ov ← eval o X.env
      standAt apos.atName
      let (f, first) ← holding [ov] (getMethod ov x pl)
      callWith pos f first (backTo pos (starEach [] X.env)) (backToKw pos (keywordEach [] X.env)))) :
    PE X (.Call (.Attribute o x apos) [] [] pos) (tE T N (evC T lvl) (.meth c f o' []) Wx) := by
  refine (pe_meth0 (pl := pl) ho hc.cl hm h4 hr h3 .nil passNo ht).imp fun σ H Q ⟨F, ρ, m, sg, R, S, D⟩ => ?_
  rw [evE] at D
  refine tE.mk R S (Den.bind D) fun w ρ1 m1 H1 v e1 R1 D1 rv => ?_
  obtain ⟨r, hr1⟩ := (Den.bind D1).some
  obtain ⟨n, fs, e0, e2, e4⟩ := insM_inv hr1
  subst e0 e4
  have D2 : Den (N.wF F) ρ1 m1 H1 (WS (N.wF F) Wx σ) (WM.noExc (evC T lvl f [.ref n]) m1) (fun w ρ' m' H' => ∀ v, RV (N.wF F) ρ' m'.length H' w v → Q v H') := by
    rw [evEs] at D1
    unfold bnd at D1; rw [hr1] at D1; exact D1
  obtain ⟨dx, q, h1, h2, h3'⟩ := ins_of R1 e2
  have hlk : q.lookup x = none := by
    cases hq : q.lookup x with
    | none => rfl
    | some u =>
      have : x ∈ q.map (·.1) := lk_mem hq
      rw [h2] at this
      exact absurd (List.mem_of_mem_take this) hx
  refine ⟨ρ1 n, dx, q, rv.2, h1, hlk, ?_⟩
  obtain ⟨a', m', g1, g2⟩ := noExc_inv D2
  exact ⟨by rw [hn]; rfl, F, ρ1, m1, [.ref n], R1, ⟨v, [], by rw [rv.2]; rfl, rv, rfl⟩, den_of g1 g2⟩
end
end WM
namespace WM
open PySem PySem.Spec PyProof.Rows L2
section
variable {T : Tab} {N : En} {X : Cx} {Wx : WX} {lvl : Nat} {C : Calls}
theorem sim_make {c f k : Nat} {x : Str} {p pos : Pos} {a : Addr} {fd : FuncData} {ps : List Str} {e : Expr} {es : List Expr} {es' : List E} (hM : Mk X.K (N.ca c) a) (hg : Gl X x) (hm : X.mg x = some (.ref (N.ca c))) (h3 : Binds X.K fd ps [])
    (h4 : FnOk X.prog X.w X.K X.mg X.base (L2.CX X.prog X.w) k a fd ps (spF T N lvl ps.length f)) (hn : ps.length = es'.length + 1) (hr : Room (k + 1) X.A)
    (ha : PA X (e :: es) (tEs T N (evC T lvl) es' Wx)) (hs : (e :: es).all notStar = true) (hdb : (x == ("__debug__" : Str)) = false) :
    PE X (.Call (.Name x p) (e :: es) [] pos) (tE T N (evC T lvl) (.make c f es') Wx) := by
  rw [List.all_cons, Bool.and_eq_true] at hs
  refine (pe_make hM h4 hr hg hm h3 .nil passNo ha hdb (star_cons hs.1) (star_any hs.2)).imp fun σ H Q ⟨F, ρ, m, sg, R, S, D⟩ => ?_
  rw [evE] at D
  refine tEs.mk R S (Den.len (Den.bind D)) fun ws ρ1 m1 H1 vs e1 R1 ⟨D0, D1⟩ rvs => ?_
  intro y dx hy hdx hne
  -- the instance's own dict, then the instance
  have R2 : Rl (N.wF F) ρ1 m1 (upd H1 dx (.own y)) := R1.new hdx
  have E2 : Ext (N.wF F) ρ1 m1.length H1 ρ1 m1.length (upd H1 dx (.own y)) := Ext.new R1 hdx
  have hy2 : upd H1 dx (.own y) y = none := by rw [upd_ne (Ne.symm hne)]; exact hy
  have E3 := Ext.live (o := .ins (N.ca c) dx []) (u := .ins c []) R2 hy2
  have R3 : Rl (N.wF F) (rAdd ρ1 m1.length y) (.ins c [] :: m1) (upd (upd H1 dx (.own y)) y (.ins (N.ca c) dx [])) :=
    R2.live hy2 ⟨.ins (N.ca c) dx [], [], upd_same, ⟨rfl, by simp, rfl⟩, rfl⟩
  have E4 := E2.trans E3
  have D2 : Den (N.wF F) (rAdd ρ1 m1.length y) (.ins c [] :: m1) (upd (upd H1 dx (.own y)) y (.ins (N.ca c) dx [])) (WS (N.wF F) Wx σ)
      (bnd (WM.noExc (evC T lvl f (.ref m1.length :: ws))) (fun r => match r with
        | .non => WM.ret (.ref m1.length)
        | _ => stuck) (.ins c [] :: m1)) (fun w ρ' m' H' => ∀ v, RV (N.wF F) ρ' m'.length H' w v → Q v H') := (Den.bind D1) _ _ E4 R3
  obtain ⟨r, m2, g1, g2⟩ := noExc_inv (Den.bind D2)
  have rvs3 : RVs (N.wF F) (rAdd ρ1 m1.length y) (HOb.ins c [] :: m1).length (upd (upd H1 dx (.own y)) y (.ins (N.ca c) dx [])) ws vs := RVs.mono E4 _ _ rvs
  have rx : RV (N.wF F) (rAdd ρ1 m1.length y) (HOb.ins c [] :: m1).length (upd (upd H1 dx (.own y)) y (.ins (N.ca c) dx [])) (.ref m1.length) (.ref y) :=
    ⟨by rw [List.length_cons]; exact Nat.lt_succ_self _, by rw [rAdd_same]⟩
  refine ⟨?_, F, _, _, .ref m1.length :: ws, R3, ⟨.ref y, vs, by rw [List.append_nil], rx, rvs3⟩, den_of g1 fun ρ' H' e' R' v rv => ?_⟩
  · rw [List.append_nil, List.length_cons, ← rvs.len, D0, hn]
  · have D5 := g2 ρ' H' e' R'
    cases r with
    | non => exact ⟨rv, Den.ret R' D5 _ (RV.mono e' _ _ rx)⟩
    | _ => exact D5.elim
theorem sim_setA {c f : Nat} {x : Str} {o e : Expr} {o' e' : E} {p pos : Pos} (hc : ClsOk N X c) (hx : (N.cf c)[f]? = some x) (ho : PE X o (tE T N C o' Wx)) (he : PE X e (tE T N C e' Wx)) (hn : notComp e = true) :
    PS X (.Assign [.Attribute o x p] e pos) (tS T N C (.setA c f o' e') Wx) := by
  refine (ps_fld ho he (nosw hn)).imp fun D σ H ⟨F, ρ, m, sg, R, S, h⟩ => ?_
  rw [evS] at h
  refine tE.mk R S (Den.bind (h.lft S)) fun y ρ1 m1 H1 v e1 R1 D1 rv => ?_
  refine tE.mk R1 (S.mono e1) (Den.bind D1) fun w ρ2 m2 H2 u e2 R2 D2 ru => ?_
  obtain ⟨r, hr⟩ := D2.some
  obtain ⟨n, fs, gs, e0, q2, q3, q4, q5⟩ := setAM_inv hr
  subst e0 q5
  rw [hr] at D2
  obtain ⟨dx, q, h1, h2', h3⟩ := ins_of R2 q2
  have h2 : q.map (·.1) = (N.cf c).take fs.length := h2'
  clear h2'
  have rv2 := RV.mono e2 _ _ rv
  have hfx : f < (N.cf c).length := (List.getElem?_eq_some_iff.mp hx).1
  have hlen : q.length = fs.length := by have := h3.len; rw [List.length_map] at this; exact this.symm
  have hle : fs.length ≤ (N.cf c).length := by
    have := congrArg List.length h2
    rw [List.length_map, List.length_take, hlen] at this
    omega
  have hgs : (putF x v q).map (·.1) = (N.cf c).take gs.length ∧ ∃ vs, (putF x v q).map (·.2) = vs ∧ RVs (N.wF F) ρ2 m2.length H2 gs vs ∧ q.length < 1000 := by
    unfold putA at q3
    split at q3
    · rename_i hi
      cases q3
      obtain ⟨g1, g2⟩ := put_at (v := v) hc.nd h2 hx hi hle
      refine ⟨by rw [g1, h2, List.length_set], _, g2, h3.set rv2 f, ?_⟩
      rw [List.length_set] at q4
      omega
    · split at q3
      · rename_i hi hi2
        cases q3
        have hnot : x ∉ q.map (·.1) := by
          rw [h2]
          intro hmem
          have := hc.nd
          have hsp : (N.cf c) = (N.cf c).take fs.length ++ (N.cf c).drop fs.length := (List.take_append_drop _ _).symm
          rw [hsp, List.nodup_append] at this
          refine this.2.2 x hmem x ?_ rfl
          refine List.mem_of_getElem? (i := 0) ?_
          rw [List.getElem?_drop, Nat.add_zero, ← hi2]
          exact hx
        have e9 := put_end (v := v) hnot
        rw [e9]
        refine ⟨?_, _, rfl, ?_, ?_⟩
        · rw [List.map_append, h2, List.length_append]
          show List.take fs.length (N.cf c) ++ [x] = List.take (fs.length + 1) (N.cf c)
          rw [List.take_add_one, ← hi2, hx]
          rfl
        · rw [List.map_append]
          exact h3.append ⟨v, [], rfl, rv2, rfl⟩
        · rw [List.length_append] at q4
          have : [y].length = 1 := rfl
          omega
      · cases q3
  obtain ⟨k1, vs, k2, k3, k4⟩ := hgs
  have ex := Ext.write (o := .ins (N.ca c) dx (putF x v q)) R2 ru.1
  have Rw : Rl (N.wF F) ρ2 (hset m2 n (.ins c gs)) (upd H2 (ρ2 n) (.ins (N.ca c) dx (putF x v q))) :=
    R2.write ru.1 ⟨_, vs, upd_same, ⟨rfl, k1, k2⟩, RVs.mono ex _ _ k3⟩
  have ex' : Ext (N.wF F) ρ2 m2.length H2 ρ2 (hset m2 n (.ins c gs)).length (upd H2 (ρ2 n) (.ins (N.ca c) dx (putF x v q))) := by rw [hset_length]; exact ex
  refine ⟨ρ2 n, N.ca c, dx, q, ru.2, h1, hc.cl, hc.na x (List.mem_of_getElem? hx), k4, ?_⟩
  exact DenS.nx (D2 ρ2 _ ex' Rw) Rw (S.mono ((e1.trans e2).trans ex'))
end
end WM
/-! dicts that live -/
namespace WM
open PySem PySem.Spec PyProof.Rows L2
section
variable {N : En} {ρ : Nat → Addr} {k : Nat} {H : Hp} {κ : Type} [DecidableEq κ]
/-- entry by entry -/
def ER (N : En) (ρ : Nat → Addr) (k : Nat) (H : Hp) {κ : Type} : List (κ × W) → List (κ × V) → Prop
  | [], q => q = []
  | p :: r, q => ∃ v s, q = (p.1, v) :: s ∧ RV N ρ k H p.2 v ∧ ER N ρ k H r s
theorem ER.of {N : En} {ρ : Nat → Addr} {k : Nat} {H : Hp} {κ : Type} : ∀ {kvs : List (κ × W)} {q : List (κ × V)}, q.map (·.1) = kvs.map (·.1) → RVs N ρ k H (kvs.map (·.2)) (q.map (·.2)) → ER N ρ k H kvs q
  | [], q, h, _ => List.map_eq_nil_iff.mp h
  | p :: r, [], h, _ => by simp at h
  | p :: r, (b, v) :: s, h, ⟨u, t, e1, e2, e3⟩ => by
    rw [List.map_cons, List.map_cons, List.cons.injEq] at h
    rw [List.map_cons, List.cons.injEq] at e1
    obtain ⟨rfl, rfl⟩ := e1
    refine ⟨v, s, ?_, e2, ER.of h.2 e3⟩
    rw [← h.1]
theorem ER.keys {N : En} {ρ : Nat → Addr} {k : Nat} {H : Hp} {κ : Type} : ∀ {kvs : List (κ × W)} {q : List (κ × V)}, ER N ρ k H kvs q → q.map (·.1) = kvs.map (·.1)
  | [], q, h => by rw [show q = [] from h]; rfl
  | p :: r, _, ⟨v, s, e, _, h⟩ => by rw [e, List.map_cons, List.map_cons, ER.keys h]
theorem ER.vals {N : En} {ρ : Nat → Addr} {k : Nat} {H : Hp} {κ : Type} : ∀ {kvs : List (κ × W)} {q : List (κ × V)}, ER N ρ k H kvs q → RVs N ρ k H (kvs.map (·.2)) (q.map (·.2))
  | [], q, h => by rw [show q = [] from h]; rfl
  | p :: r, _, ⟨v, s, e, h1, h⟩ => by rw [e, List.map_cons, List.map_cons]; exact ⟨v, _, rfl, h1, ER.vals h⟩
theorem ER.some : ∀ {kvs : List (κ × W)} {q : List (κ × V)} {c : κ} {w : W}, ER N ρ k H kvs q → gvW kvs c = Option.some w → ∃ v, valV q c = Option.some v ∧ RV N ρ k H w v
  | [], _, _, _, _, h => by cases h
  | (a, x) :: r, _, c, w, ⟨v, s, e, h1, h2⟩, h => by
    subst e
    unfold gvW at h
    by_cases hc : a = c
    · rw [if_pos hc] at h; cases h; exact ⟨v, valV_pos hc, h1⟩
    · rw [if_neg hc] at h
      obtain ⟨u, g1, g2⟩ := ER.some h2 h
      exact ⟨u, by rw [valV_neg hc]; exact g1, g2⟩
theorem ER.none : ∀ {kvs : List (κ × W)} {q : List (κ × V)} {c : κ}, ER N ρ k H kvs q → gvW kvs c = Option.none → valV q c = Option.none
  | [], q, _, h, _ => by rw [show q = [] from h]; rfl
  | (a, x) :: r, _, c, ⟨v, s, e, h1, h2⟩, h => by
    subst e
    unfold gvW at h
    by_cases hc : a = c
    · rw [if_pos hc] at h; cases h
    · rw [if_neg hc] at h
      rw [valV_neg hc]; exact ER.none h2 h
theorem ER.any : ∀ {kvs : List (κ × W)} {q : List (κ × V)} {c : κ}, ER N ρ k H kvs q → (q.any fun kv => decide (kv.1 = c)) = kvs.any fun kv => decide (kv.1 = c)
  | [], q, _, h => by rw [show q = [] from h]; rfl
  | p :: r, _, c, ⟨v, s, e, h1, h2⟩ => by rw [e, List.any_cons, List.any_cons, ER.any h2]
theorem ER.map {c : κ} {w : W} {v : V} (rv : RV N ρ k H w v) : ∀ {kvs : List (κ × W)} {q : List (κ × V)}, ER N ρ k H kvs q → ER N ρ k H (kvs.map fun kv => if kv.1 = c then (kv.1, w) else kv) (q.map fun kv => if kv.1 = c then (kv.1, v) else kv)
  | [], q, h => by rw [show q = [] from h]; rfl
  | (a, x) :: r, _, ⟨u, s, e, h1, h2⟩ => by
    subst e
    rw [List.map_cons, List.map_cons]
    by_cases hc : a = c
    · rw [if_pos hc, if_pos hc]; exact ⟨v, _, rfl, rv, ER.map rv h2⟩
    · rw [if_neg hc, if_neg hc]; exact ⟨u, _, rfl, h1, ER.map rv h2⟩
theorem ER.end_ {c : κ} {w : W} {v : V} (rv : RV N ρ k H w v) : ∀ {kvs : List (κ × W)} {q : List (κ × V)}, ER N ρ k H kvs q → ER N ρ k H (kvs ++ [(c, w)]) (q ++ [(c, v)])
  | [], q, h => by rw [show q = [] from h]; exact ⟨v, [], rfl, rv, rfl⟩
  | p :: r, _, ⟨u, s, e, h1, h2⟩ => by rw [e]; exact ⟨u, _, rfl, h1, ER.end_ rv h2⟩
theorem ER.put {kvs : List (κ × W)} {q : List (κ × V)} {c : κ} {w : W} {v : V} (h : ER N ρ k H kvs q) (rv : RV N ρ k H w v) : ER N ρ k H (putW kvs c w) (putK q c v) := by
  unfold putW putK
  rw [h.any]
  by_cases ha : (kvs.any fun kv => decide (kv.1 = c)) = true
  · rw [if_pos ha, if_pos ha]; exact ER.map rv h
  · rw [if_neg ha, if_neg ha]; exact ER.end_ rv h
theorem ER.len {κ : Type} {kvs : List (κ × W)} {q : List (κ × V)} (h : ER N ρ k H kvs q) : q.length = kvs.length := by
  have := congrArg List.length h.keys
  rwa [List.length_map, List.length_map] at this
end
theorem dK_of {N : En} {ρ m H n kvs} (R : Rl N ρ m H) (h : hget m n = some (.dK kvs)) : ∃ q, H (ρ n) = some (.dK q) ∧ ER N ρ m.length H kvs q := by
  obtain ⟨ho, vs, h1, h2, h3⟩ := R.obj _ _ h
  cases ho <;> first | exact h2.elim | skip
  obtain ⟨e2, e3⟩ := h2
  subst e3
  exact ⟨_, h1, ER.of e2 h3⟩
theorem dT_of {N : En} {ρ m H n kvs} (R : Rl N ρ m H) (h : hget m n = some (.dT kvs)) : ∃ q, H (ρ n) = some (.dT q) ∧ ER N ρ m.length H kvs q := by
  obtain ⟨ho, vs, h1, h2, h3⟩ := R.obj _ _ h
  cases ho <;> first | exact h2.elim | skip
  obtain ⟨e2, e3⟩ := h2
  subst e3
  exact ⟨_, h1, ER.of e2 h3⟩
theorem key_rv {N : En} {ρ k H w c v} (h : keyW w = some c) (r : RV N ρ k H w v) : v = kV c := by
  cases w <;> first | (cases h; exact r) | cases h
theorem keys_rv {N : En} {ρ k H} : ∀ {ws : List W} {cs : List Key} {vs : List V}, keysW ws = some cs → RVs N ρ k H ws vs → vs = cs.map kV
  | [], cs, vs, h, r => by cases h; exact r
  | w :: ws, cs, _, h, ⟨v, s, e, r1, r2⟩ => by
    unfold keysW at h
    cases h1 : keyW w with
    | none => rw [h1] at h; cases h
    | some c =>
      cases h2 : keysW ws with
      | none => rw [h1, h2] at h; cases h
      | some cs' =>
        rw [h1, h2] at h
        cases h
        rw [e, List.map_cons, key_rv h1 r1, keys_rv h2 r2]
/-- a tuple of the text's own making -/
def Trk (N : En) (ρ : Nat → Addr) (k : Nat) (H : Hp) (w : W) (v : V) : Prop := ∀ ws, w = .tup ws → ∃ b vs, v = .ref b ∧ H b = some (.tup vs) ∧ NL N ρ k b ∧ RVs N ρ k H ws vs
theorem Trk.mono {N ρ k H ρ' k' H' w v} (e : Ext N ρ k H ρ' k' H') (h : Trk N ρ k H w v) : Trk N ρ' k' H' w v := fun ws hw => let ⟨b, vs, h1, h2, h3, h4⟩ := h ws hw; ⟨b, vs, h1, e.keep _ _ h2 h3, e.nl h2 h3, RVs.mono e _ _ h4⟩
def tEk (T : Tab) (N : En) (C : Calls) (t : Bool) (e : E) (Wx : WX) : TE := fun σ H Q => ∃ F ρ m sg, Rl (N.wF F) ρ m H ∧ RS (N.wF F) ρ m.length H sg σ ∧ Den (N.wF F) ρ m H (WS (N.wF F) Wx σ) (evE T C e sg m) (fun w ρ' m' H' => ∀ v, RV (N.wF F) ρ' m'.length H' w v → (t = true → Trk (N.wF F) ρ' m'.length H' w v) → Q v H')
section
variable {T : Tab} {N : En} {C : Calls} {X : Cx} {Wx : WX}
theorem tEk.mk {t : Bool} {e : E} {σ H Q F ρ m sg P} (R : Rl (N.wF F) ρ m H) (S : RS (N.wF F) ρ m.length H sg σ) (D : Den (N.wF F) ρ m H (WS (N.wF F) Wx σ) (evE T C e sg m) P)
    (i : ∀ w ρ' m' H' v, Ext (N.wF F) ρ m.length H ρ' m'.length H' → Rl (N.wF F) ρ' m' H' → P w ρ' m' H' → RV (N.wF F) ρ' m'.length H' w v → (t = true → Trk (N.wF F) ρ' m'.length H' w v) → Q v H') : tEk T N C t e Wx σ H Q :=
  ⟨F, ρ, m, sg, R, S, D.imp fun w ρ' m' H' e R' p v rv tk => i w ρ' m' H' v e R' p rv tk⟩
theorem sim_kI {e : Expr} {e' : E} (h : PE X e (tE T N C e' Wx)) : PE X e (tEk T N C false e' Wx) :=
  h.imp fun σ H Q ⟨F, ρ, m, sg, R, S, D⟩ => ⟨F, ρ, m, sg, R, S, D.imp fun w ρ' m' H' _ _ q v rv => q v rv (fun z => by cases z)⟩
theorem sim_kT {es' : List E} {es : List Expr} {j pos} (h : PA X es (tEs T N C es' Wx)) (hz : es'.length ≤ 1000) : PE X (.Tuple es j pos) (tEk T N C true (.tup es') Wx) := by
  refine (pe_tup h).imp fun σ H Q ⟨F, ρ, m, sg, R, S, D⟩ => ?_
  rw [evE] at D
  refine tEs.mk R S (Den.len (Den.bind D)) fun ws ρ1 m1 H1 vs e1 R1 D1 rvs => ?_
  have hl : vs.length ≤ sizeLine := small_sz (by rw [← rvs.len, D1.1]; exact hz)
  exact ⟨hl, fun p hp => Den.at' D1.2 (Ext.new R1 hp) (R1.new hp) _ (RV.newT R1 hp hl rvs) fun _ ws' hw => by
    cases hw
    exact ⟨p, vs, rfl, upd_same, NL.new R1 hp, RVs.mono (Ext.new R1 hp) _ _ rvs⟩⟩
theorem sim_kC {a : Expr} {lo hi : Option Expr} {a' lo' hi' : E} {p2 pos} (hK : X.K = N.K) (ha : PE X a (tE T N C a' Wx)) (hl : PO X lo (tP T N C lo' Wx)) (hh : PO X hi (tP T N C hi' Wx)) :
    PE X (.Subscript a (.Slice lo hi none p2) pos) (tEk T N C true (.cut a' lo' hi') Wx) := by
  have hr := sl_tup (X := X)
  rw [hK] at hr
  refine (pe_slice hr ha hl hh).imp fun σ H Q ⟨F, ρ, m, sg, R, S, D⟩ => ?_
  rw [evE] at D
  refine tE.mk R S (Den.bind D) fun x ρ1 m1 H1 v1 e1 R1 D1 rv1 => ?_
  refine tP.mk R1 (S.mono e1) (Den.bind D1) fun l ρ2 m2 H2 e2 R2 D2 => ?_
  refine tP.mk R2 (S.mono (e1.trans e2)) (Den.bind D2) fun u ρ3 m3 H3 e3 R3 D3 => ?_
  have rv3 := RV.mono (e2.trans e3) _ _ rv1
  cases x with
  | tup xs =>
    obtain ⟨p, vs, ep, hf, hv⟩ := rv3
    by_cases hcut : (cutW xs l u).length < xs.length
    · have D4 : Den (N.wF F) ρ3 m3 H3 (WS (N.wF F) Wx σ) (WM.ret (.tup (cutW xs l u)) m3) (fun w ρ' m' H' => ∀ v, RV (N.wF F) ρ' m'.length H' w v → (true = true → Trk (N.wF F) ρ' m'.length H' w v) → Q v H') := by
        have hd : decide ((cutW xs l u).length < xs.length) = true := decide_eq_true hcut
        change Den (N.wF F) ρ3 m3 H3 (WS (N.wF F) Wx σ) ((if decide ((cutW xs l u).length < xs.length) = true then WM.ret (W.tup (cutW xs l u)) else stuck) m3) _ at D3
        rw [hd, if_pos rfl] at D3
        exact D3
      refine ⟨p, vs, ep, hf.seq, fun hw => ?_, fun q hq => Den.at' D4 (Ext.new R3 hq) (R3.new hq) _ (RV.newT R3 hq (cutV_len vs l u hf.1) (hv.cut l u)) fun _ ws' hw => by
        cases hw
        exact ⟨q, _, rfl, upd_same, NL.new R3 hq, RVs.mono (Ext.new R3 hq) _ _ (hv.cut l u)⟩⟩
      have hle := (hv.cut l u).len
      unfold cutV at hle
      rw [cut_whole vs hw.1 hw.2, ← hv.len] at hle
      omega
    · have D4 : Den (N.wF F) ρ3 m3 H3 (WS (N.wF F) Wx σ) (stuck m3) (fun w ρ' m' H' => ∀ v, RV (N.wF F) ρ' m'.length H' w v → (true = true → Trk (N.wF F) ρ' m'.length H' w v) → Q v H') := by
        have hd : decide ((cutW xs l u).length < xs.length) = false := decide_eq_false hcut
        change Den (N.wF F) ρ3 m3 H3 (WS (N.wF F) Wx σ) ((if decide ((cutW xs l u).length < xs.length) = true then WM.ret (W.tup (cutW xs l u)) else stuck) m3) _ at D3
        rw [hd, if_neg Bool.false_ne_true] at D3
        exact D3
      exact D4.elim
  | _ => exact False.elim D3
theorem dget_inv {t : Bool} {d k : W} {m : Hm} {r} (h : dgetM t d k m = some r) : ∃ n o, d = .ref n ∧ r = (.ok o, m) ∧
    ((t = false ∧ ∃ kvs q, hget m n = some (.dK kvs) ∧ keyW k = some q ∧ o = gvW kvs q) ∨ (t = true ∧ ∃ kvs ws q, hget m n = some (.dT kvs) ∧ k = .tup ws ∧ keysW ws = some q ∧ o = gvW kvs q)) := by
  cases d with
  | ref n =>
    simp only [dgetM] at h
    split at h
    · rename_i kvs hq
      cases t with
      | true => cases h
      | false =>
        simp only [Bool.false_eq_true, if_false] at h
        split at h
        · rename_i q hk
          cases h
          exact ⟨n, _, rfl, rfl, .inl ⟨rfl, kvs, q, hq, hk, rfl⟩⟩
        · cases h
    · rename_i kvs hq
      cases t with
      | false => cases h
      | true =>
        simp only [if_true] at h
        split at h
        · rename_i q hk
          cases h
          cases k with
          | tup ws => exact ⟨n, _, rfl, rfl, .inr ⟨rfl, kvs, ws, q, hq, rfl, hk, rfl⟩⟩
          | _ => cases hk
        · cases h
    · cases h
  | _ => cases h
/-- what a look-up reads -/
theorem dget_rel {t : Bool} {d k : W} {m : Hm} {o : Option W} {F ρ H u v} (R : Rl (N.wF F) ρ m H) (h : dgetM t d k m = some (.ok o, m)) (ru : RV (N.wF F) ρ m.length H d u) (rv : RV (N.wF F) ρ m.length H k v) (tk : t = true → Trk (N.wF F) ρ m.length H k v) :
    ∃ a o', u = .ref a ∧ DGet H a v o' ∧ (∀ w, o = some w → ∃ x, o' = some x ∧ RV (N.wF F) ρ m.length H w x) ∧ (o = none → o' = none) := by
  obtain ⟨n, o1, e1, e2, h3⟩ := dget_inv h
  subst e1
  cases e2
  rcases h3 with ⟨_, kvs, q, h4, h5, rfl⟩ | ⟨ht, kvs, ws, q, h4, rfl, h5, rfl⟩
  · obtain ⟨Q, h6, h7⟩ := dK_of R h4
    rw [key_rv h5 rv]
    refine ⟨ρ n, _, ru.2, DGet.k h6, fun w hw => ?_, fun hw => h7.none hw⟩
    exact h7.some hw
  · obtain ⟨Q, h6, h7⟩ := dT_of R h4
    obtain ⟨b, vs, eb, hb, _, hv⟩ := tk ht ws rfl
    rw [keys_rv h5 hv] at hb
    rw [eb]
    refine ⟨ρ n, _, ru.2, DGet.t h6 hb, fun w hw => h7.some hw, fun hw => h7.none hw⟩
theorem trk_no {N : En} {ρ k H w v} : (false = true → Trk N ρ k H w v) := fun z => by cases z
theorem sim_dnew {t : Bool} {pos} : PE X (.Dict [] [] pos) (tE T N C (.dnew t) Wx) := by
  cases t with
  | false =>
    refine pe_dnewK.imp fun σ H Q ⟨F, ρ, m, sg, R, S, D⟩ => ?_
    rw [evE] at D
    intro d hd
    have e := Ext.live (o := .dK []) (u := .dK []) R hd
    exact D _ _ e (R.live hd ⟨.dK [], [], upd_same, ⟨rfl, rfl⟩, rfl⟩) _ ⟨by rw [List.length_cons]; exact Nat.lt_succ_self _, by rw [rAdd_same]⟩
  | true =>
    refine pe_dnewT.imp fun σ H Q ⟨F, ρ, m, sg, R, S, D⟩ => ?_
    rw [evE] at D
    intro d hd
    have e := Ext.live (o := .dT []) (u := .dT []) R hd
    exact D _ _ e (R.live hd ⟨.dT [], [], upd_same, ⟨rfl, rfl⟩, rfl⟩) _ ⟨by rw [List.length_cons]; exact Nat.lt_succ_self _, by rw [rAdd_same]⟩
theorem Den.get {α : Type} {ρ m H WW} {t : Bool} {d k : W} {f : Option W → M α} {P : α → (Nat → Addr) → Hm → Hp → Prop} (D : Den N ρ m H WW (bnd (dgetM t d k) f m) P) : ∃ o, dgetM t d k m = Option.some (Res.ok o, m) ∧ Den N ρ m H WW (f o m) P := by
  obtain ⟨r, hr⟩ := (Den.bind D).some
  obtain ⟨n, o, _, e, _⟩ := dget_inv hr
  subst e
  unfold bnd at D
  rw [hr] at D
  exact ⟨o, hr, D⟩
theorem sim_dget {t : Bool} {d k : Expr} {d' k' : E} {pos} (hu : X.A.units + 1 < cLine) (hd : PE X d (tE T N C d' Wx)) (hk : PE X k (tEk T N C t k' Wx)) (hs : NoSl k) : PE X (.Subscript d k pos) (tE T N C (.dget t d' k') Wx) := by
  refine (pe_dget hu hd hk hs).imp fun σ H Q ⟨F, ρ, m, sg, R, S, D⟩ => ?_
  rw [evE] at D
  refine tE.mk R S (Den.bind D) fun x ρ1 m1 H1 u e1 R1 D1 ru => ?_
  refine tEk.mk R1 (S.mono e1) (Den.bind D1) fun y ρ2 m2 H2 v e2 R2 D2 rv tk => ?_
  obtain ⟨o, ho, D3⟩ := D2.get
  obtain ⟨w, ew, D4⟩ := D3.opt
  subst ew
  obtain ⟨a, o', ea, g1, g2, _⟩ := dget_rel R2 ho (RV.mono e2 _ _ ru) rv tk
  obtain ⟨z, ez, rz⟩ := g2 w rfl
  subst ez
  exact ⟨a, z, ea, g1, Den.ret R2 D4 z rz⟩
theorem sim_din {t ng : Bool} {d k : Expr} {d' k' : E} {pos} (hu : X.A.units + 1 < cLine) (hm : behindInMarks (inOp ng) d = false) (hd : PE X d (tE T N C d' Wx)) (hk : PE X k (tEk T N C t k' Wx)) :
    PE X (.Compare k [inOp ng] [d] pos) (tE T N C (.din t ng k' d') Wx) := by
  cases ng with
  | false =>
    refine (pe_cmp (pc_din hu hk hd) hm).imp fun σ H Q ⟨F, ρ, m, sg, R, S, D⟩ => ?_
    rw [evE] at D
    refine tEk.mk R S (Den.bind D) fun y ρ1 m1 H1 v e1 R1 D1 rv tk => ?_
    refine tE.mk R1 (S.mono e1) (Den.bind D1) fun x ρ2 m2 H2 u e2 R2 D2 ru => ?_
    obtain ⟨o, ho, D3⟩ := D2.get
    obtain ⟨a, o', ea, g1, g2, g3⟩ := dget_rel R2 ho ru (RV.mono e2 _ _ rv) fun z => (tk z).mono e2
    have hoo : o'.isSome = o.isSome := by
      cases o with
      | none => rw [g3 rfl]; rfl
      | some w => obtain ⟨z, ez, _⟩ := g2 w rfl; rw [ez]; rfl
    refine ⟨a, o', ea, g1, ?_⟩
    rw [hoo]
    exact Den.ret R2 D3 _ rfl
  | true =>
    refine (pe_cmp (pc_dnotin hu hk hd) hm).imp fun σ H Q ⟨F, ρ, m, sg, R, S, D⟩ => ?_
    rw [evE] at D
    refine tEk.mk R S (Den.bind D) fun y ρ1 m1 H1 v e1 R1 D1 rv tk => ?_
    refine tE.mk R1 (S.mono e1) (Den.bind D1) fun x ρ2 m2 H2 u e2 R2 D2 ru => ?_
    obtain ⟨o, ho, D3⟩ := D2.get
    obtain ⟨a, o', ea, g1, g2, g3⟩ := dget_rel R2 ho ru (RV.mono e2 _ _ rv) fun z => (tk z).mono e2
    have hoo : o'.isSome = o.isSome := by
      cases o with
      | none => rw [g3 rfl]; rfl
      | some w => obtain ⟨z, ez, _⟩ := g2 w rfl; rw [ez]; rfl
    refine ⟨a, o', ea, g1, ?_⟩
    rw [hoo]
    exact Den.ret R2 D3 _ rfl
theorem pt_of_pe {e : Expr} {e' : E} (h : PE X e (tE T N C e' Wx)) (hp : ∀ whole, isTrue e X.env whole = (do let v ← whole; standAt e.pos; holding [v] (truthy v))) : PT X e (tT T N C e' Wx) := sim_val h hp
theorem isDM_inv {w : W} {m : Hm} {r} (h : isDM w m = some r) : ∃ n, w = .ref n ∧ r = (.ok (), m) ∧ ((∃ kvs, hget m n = some (.dK kvs)) ∨ ∃ kvs, hget m n = some (.dT kvs)) := by
  cases w with
  | ref n =>
    simp only [isDM] at h
    split at h
    · rename_i kvs hq
      cases h; exact ⟨n, rfl, rfl, .inl ⟨_, hq⟩⟩
    · rename_i kvs hq
      cases h; exact ⟨n, rfl, rfl, .inr ⟨_, hq⟩⟩
    · cases h
  | _ => cases h
theorem m2_ok {o e f : Expr} {m : Str} {apos cpos : Pos} (h1 : plainBase o = true) (h2 : notStar e = true) (h3 : notStar f = true) (h4 : (apos.endLine == cpos.line) = true) : M2 X o m apos e f cpos := by
  have hst : starEach [e, f] X.env = [(false, eval e X.env), (false, eval f X.env)] := by
    rw [star_cons h2, show starEach [f] X.env = (false, eval f X.env) :: starEach [] X.env from star_cons h3]; rfl
  have hb : backTo cpos (starEach [e, f] X.env) = [(false, eval e X.env), (false, eval f X.env)] := by rw [hst]; rfl
  exact ⟨base_ok h1, by rw [hb]; rfl, h4, hb⟩
theorem sim_dget2 {t : Bool} {d k z : Expr} {d' k' z' : E} {apos cpos} (hu : X.A.units + 1 < cLine) (hd : PE X d (tE T N C d' Wx)) (hk : PE X k (tEk T N C t k' Wx)) (hz : PE X z (tE T N C z' Wx)) (h1 : plainBase d = true) (h2 : notStar k = true) (h3 : notStar z = true) (h4 : (apos.endLine == cpos.line) = true) :
    PE X (.Call (.Attribute d "get" apos) [k, z] [] cpos) (tE T N C (.dget2 t d' k' z') Wx) := by
  refine (pe_dget2 hu hd hk hz (m2_ok h1 h2 h3 h4)).imp fun σ H Q ⟨F, ρ, m, sg, R, S, D⟩ => ?_
  rw [evE] at D
  refine tE.mk R S (Den.bind D) fun x ρ1 m1 H1 u e1 R1 D1 ru => ?_
  obtain ⟨r, hr⟩ := (Den.bind D1).some
  obtain ⟨n, e0, e9, hdict⟩ := isDM_inv hr
  subst e0 e9
  have D2 : Den (N.wF F) ρ1 m1 H1 (WS (N.wF F) Wx σ) (bnd (evE T C k' sg) (fun y => bnd (evE T C z' sg) fun u => bnd (dgetM t (.ref n) y) fun o => WM.ret (o.getD u)) m1) (fun w ρ' m' H' => ∀ v, RV (N.wF F) ρ' m'.length H' w v → Q v H') := by
    unfold bnd at D1; rw [hr] at D1; exact D1
  refine ⟨ρ1 n, ru.2, ?_, ?_⟩
  · rcases hdict with ⟨kvs, h⟩ | ⟨kvs, h⟩
    · obtain ⟨q, g1, _⟩ := dK_of R1 h
      exact .inl ⟨q, .inl g1⟩
    · obtain ⟨q, g1, _⟩ := dT_of R1 h
      exact .inr ⟨q, .inl g1⟩
  · refine tEk.mk R1 (S.mono e1) (Den.bind D2) fun y ρ2 m2 H2 v e2 R2 D3 rv tk => ?_
    refine tE.mk R2 (S.mono (e1.trans e2)) (Den.bind D3) fun w ρ3 m3 H3 x e3 R3 D4 rx => ?_
    obtain ⟨o, ho, D5⟩ := D4.get
    obtain ⟨a, o', ea, g1, g2, g3⟩ := dget_rel R3 ho (RV.mono (e2.trans e3) _ _ ru) (RV.mono e3 _ _ rv) fun z => (tk z).mono e3
    rw [(RV.mono (e2.trans e3) _ _ ru).2] at ea
    cases ea
    have eρ : ρ3 n = ρ1 n := (e2.trans e3).rho n ru.1
    rw [eρ] at g1
    refine ⟨o', g1, ?_⟩
    cases o with
    | none => rw [g3 rfl]; exact Den.ret R3 D5 _ rx
    | some w' => obtain ⟨z, ez, rz⟩ := g2 w' rfl; rw [ez]; exact Den.ret R3 D5 _ rz
theorem dput_inv {t : Bool} {d k y : W} {m : Hm} {r} (h : dputM t d k y m = some r) : ∃ n, d = .ref n ∧
    ((t = false ∧ ∃ kvs q, hget m n = some (.dK kvs) ∧ keyW k = some q ∧ szOk (kvs.length + 1) = true ∧ r = (.ok .non, hset m n (.dK (putW kvs q y)))) ∨
     (t = true ∧ ∃ kvs ws q, hget m n = some (.dT kvs) ∧ k = .tup ws ∧ keysW ws = some q ∧ szOk (kvs.length + 1) = true ∧ r = (.ok .non, hset m n (.dT (putW kvs q y))))) := by
  cases d with
  | ref n =>
    simp only [dputM] at h
    split at h
    · rename_i kvs hq
      cases t with
      | true => cases h
      | false =>
        simp only [Bool.false_eq_true, if_false] at h
        split at h
        · rename_i q hk
          split at h
          · rename_i hz
            cases h
            exact ⟨n, rfl, .inl ⟨rfl, kvs, q, hq, hk, hz, rfl⟩⟩
          · cases h
        · cases h
    · rename_i kvs hq
      cases t with
      | false => cases h
      | true =>
        simp only [if_true] at h
        split at h
        · rename_i q hk
          split at h
          · rename_i hz
            cases h
            cases k with
            | tup ws => exact ⟨n, rfl, .inr ⟨rfl, kvs, ws, q, hq, rfl, hk, hz, rfl⟩⟩
            | _ => cases hk
          · cases h
        · cases h
    · cases h
  | _ => cases h
theorem sim_dput {t : Bool} {d k e : Expr} {d' k' e' : E} {p2 pos} (hu : X.A.units + 1 < cLine) (hd : PE X d (tE T N C d' Wx)) (hk : PE X k (tEk T N C t k' Wx)) (he : PE X e (tE T N C e' Wx)) (hn : notComp e = true) :
    PS X (.Assign [.Subscript d k p2] e pos) (tS T N C (.dput t d' k' e') Wx) := by
  refine (ps_dput hu hd hk he (nosw hn)).imp fun D σ H ⟨F, ρ, m, sg, R, S, h⟩ => ?_
  rw [evS] at h
  refine tE.mk R S (Den.bind (h.lft S)) fun y ρ1 m1 H1 v e1 R1 D1 rv => ?_
  refine tE.mk R1 (S.mono e1) (Den.bind D1) fun x ρ2 m2 H2 u e2 R2 D2 ru => ?_
  refine tEk.mk R2 (S.mono (e1.trans e2)) (Den.bind D2) fun q ρ3 m3 H3 c e3 R3 D3 rc tk => ?_
  obtain ⟨r, hr⟩ := D3.some
  have rv3 := RV.mono (e2.trans e3) _ _ rv
  have ru3 := RV.mono e3 _ _ ru
  have S3 := S.mono ((e1.trans e2).trans e3)
  obtain ⟨n, e0, hcase⟩ := dput_inv hr
  subst e0
  rw [hr] at D3
  rcases hcase with ⟨_, kvs, key, q1, q2, q3, rfl⟩ | ⟨ht, kvs, ws, key, q1, rfl, q2, q3, rfl⟩
  · obtain ⟨Qd, h6, h7⟩ := dK_of R3 q1
    have hl : Qd.length < sizeLine := by rw [h7.len]; have := sz_ok q3; omega
    rw [key_rv q2 rc]
    have ex := Ext.write (o := .dK (putK Qd key v)) R3 ru3.1
    have hp := h7.put (c := key) rv3
    have Rw : Rl (N.wF F) ρ3 (hset m3 n (.dK (putW kvs key y))) (upd H3 (ρ3 n) (.dK (putK Qd key v))) :=
      R3.write ru3.1 ⟨_, _, upd_same, ⟨hp.keys, rfl⟩, RVs.mono ex _ _ hp.vals⟩
    have ex' : Ext (N.wF F) ρ3 m3.length H3 ρ3 (hset m3 n (.dK (putW kvs key y))).length (upd H3 (ρ3 n) (.dK (putK Qd key v))) := by rw [hset_length]; exact ex
    exact ⟨ρ3 n, _, ru3.2, DPut.k h6 hl, DenS.nx (D3 ρ3 _ ex' Rw) Rw (S3.mono ex')⟩
  · obtain ⟨Qd, h6, h7⟩ := dT_of R3 q1
    have hl : Qd.length < sizeLine := by rw [h7.len]; have := sz_ok q3; omega
    obtain ⟨b, vs, eb, hb, _, hv⟩ := tk ht ws rfl
    rw [keys_rv q2 hv] at hb
    rw [eb]
    have ex := Ext.write (o := .dT (putK Qd key v)) R3 ru3.1
    have hp := h7.put (c := key) rv3
    have Rw : Rl (N.wF F) ρ3 (hset m3 n (.dT (putW kvs key y))) (upd H3 (ρ3 n) (.dT (putK Qd key v))) :=
      R3.write ru3.1 ⟨_, _, upd_same, ⟨hp.keys, rfl⟩, RVs.mono ex _ _ hp.vals⟩
    have ex' : Ext (N.wF F) ρ3 m3.length H3 ρ3 (hset m3 n (.dT (putW kvs key y))).length (upd H3 (ρ3 n) (.dT (putK Qd key v))) := by rw [hset_length]; exact ex
    exact ⟨ρ3 n, _, ru3.2, DPut.t h6 hb hl, DenS.nx (D3 ρ3 _ ex' Rw) Rw (S3.mono ex')⟩
end
end WM
namespace WM
open PySem PySem.Spec PyProof.Rows L2
theorem meth_form {o : Expr} {x : Str} {apos pos : Pos} {es : List Expr} {env : Env} (h1 : plainBase o = true) (h2 : es.all notStar = true) (h3 : es.length < 29) (h4 : (apos.endLine == pos.line) = true) :
    ∃ pl : Sem Bool, eval (.Call (.Attribute o x apos) es [] pos) env = (do
      let ov ← eval o env
      standAt apos.atName
      let (f, first) ← holding [ov] (getMethod ov x pl)
      callWith pos f first (backTo pos (starEach es env)) (backToKw pos (keywordEach [] env))) := by
  have hst : (backTo pos (starEach es env)).all (fun x => !x.1) = true := by
    have := star_any (pos := pos) (env := env) h2
    rw [List.any_eq_false] at this
    rw [List.all_eq_true]
    intro y hy
    have := this y hy
    simpa using this
  have hform : methodCallForm (es.length + ([] : List Keyword).length) (backTo pos (starEach es env)) (backToKw pos (keywordEach [] env)) = true := by
    unfold methodCallForm
    rw [hst]
    show (true && true && decide (es.length + 0 + 0 < 30)) = true
    simp; omega
  have hpos : methodCallPos true o env apos pos = pure pos := by unfold methodCallPos; simp [h4]
  refine ⟨?_, ?_⟩
  rotate_left
  rw [arm_eval_Call, base_ok h1]
  unfold methodCall
  rw [hform]
  simp only [hpos]
  unfold calleeOf
  rfl
section
variable {T : Tab} {N : En} {C : Calls} {X : Cx} {Wx : WX}
theorem sim_cut {a : Expr} {lo hi : Option Expr} {a' lo' hi' : E} {p2 pos} (hK : X.K = N.K) (ha : PE X a (tE T N C a' Wx)) (hl : PO X lo (tP T N C lo' Wx)) (hh : PO X hi (tP T N C hi' Wx)) :
    PE X (.Subscript a (.Slice lo hi none p2) pos) (tE T N C (.cut a' lo' hi') Wx) :=
  (sim_kC hK ha hl hh).imp fun σ H Q ⟨F, ρ, m, sg, R, S, D⟩ => ⟨F, ρ, m, sg, R, S, D.imp fun w ρ' m' H' _ _ q v rv _ => q v rv⟩
theorem sim_dinT {t ng : Bool} {d k : Expr} {d' k' : E} {pos} (hu : X.A.units + 1 < cLine) (hm : behindInMarks (inOp ng) d = false) (hd : PE X d (tE T N C d' Wx)) (hk : PE X k (tEk T N C t k' Wx)) :
    PT X (.Compare k [inOp ng] [d] pos) (tT T N C (.din t ng k' d') Wx) := by
  cases ng with
  | false =>
    refine (pt_cmp (pc_din hu hk hd) hm).imp fun σ H Q ⟨F, ρ, m, sg, R, S, D⟩ => ?_
    rw [evE] at D
    refine tEk.mk R S (Den.bind D) fun y ρ1 m1 H1 v e1 R1 D1 rv tk => ?_
    refine tE.mk R1 (S.mono e1) (Den.bind D1) fun x ρ2 m2 H2 u e2 R2 D2 ru => ?_
    obtain ⟨o, ho, D3⟩ := D2.get
    obtain ⟨a, o', ea, g1, g2, g3⟩ := dget_rel R2 ho ru (RV.mono e2 _ _ rv) fun z => (tk z).mono e2
    have hoo : o'.isSome = o.isSome := by
      cases o with
      | none => rw [g3 rfl]; rfl
      | some w => obtain ⟨z, ez, _⟩ := g2 w rfl; rw [ez]; rfl
    obtain ⟨b, e, q⟩ := Den.ret R2 D3
    cases e
    refine ⟨a, o', ea, g1, _, rfl, ?_⟩
    rw [hoo]
    exact q
  | true =>
    refine (pt_cmp (pc_dnotin hu hk hd) hm).imp fun σ H Q ⟨F, ρ, m, sg, R, S, D⟩ => ?_
    rw [evE] at D
    refine tEk.mk R S (Den.bind D) fun y ρ1 m1 H1 v e1 R1 D1 rv tk => ?_
    refine tE.mk R1 (S.mono e1) (Den.bind D1) fun x ρ2 m2 H2 u e2 R2 D2 ru => ?_
    obtain ⟨o, ho, D3⟩ := D2.get
    obtain ⟨a, o', ea, g1, g2, g3⟩ := dget_rel R2 ho ru (RV.mono e2 _ _ rv) fun z => (tk z).mono e2
    have hoo : o'.isSome = o.isSome := by
      cases o with
      | none => rw [g3 rfl]; rfl
      | some w => obtain ⟨z, ez, _⟩ := g2 w rfl; rw [ez]; rfl
    obtain ⟨b, e, q⟩ := Den.ret R2 D3
    cases e
    refine ⟨a, o', ea, g1, _, rfl, ?_⟩
    rw [hoo]
    exact q
end
end WM
namespace WM
open PySem PySem.Spec PyProof.Rows L2

section
variable {T : Tab} {N : En} {C : Calls} {X : Cx} {Wx : WX}
theorem DenS.shift {ρ m H ρ' m' H' D r} (h : DenS N ρ m H Wx D r) (e : Ext N ρ m.length H ρ' m'.length H') : DenS N ρ' m' H' Wx D r := by
  unfold DenS at h ⊢
  cases r with
  | none => exact h
  | some p =>
    obtain ⟨o, sg, m2⟩ := p
    exact fun ρ2 H2 σ2 e2 R2 S2 => h ρ2 H2 σ2 (e.trans e2) R2 S2
theorem sim_snil : PSs X [] (tSs T N C [] Wx) := by
  refine pss_nil.imp fun D σ H ⟨F, ρ, m, sg, R, S, h⟩ => ?_
  rw [evSs] at h
  exact h.nx R S
theorem sim_scons {st : Stmt} {rest : List Stmt} {s : S} {ss : List S} (h1 : PS X st (tS T N C s Wx)) (h2 : PSs X rest (tSs T N C ss Wx)) : PSs X (st :: rest) (tSs T N C (s :: ss) Wx) := by
  refine (pss_cons h1 h2).imp fun D σ H ⟨F, ρ, m, sg, R, S, h⟩ => ?_
  rw [evSs] at h
  replace h : DenS (N.wF F) ρ m H Wx D (thenS (evS T C s sg m) (evSs T C ss)) := h
  refine ⟨F, ρ, m, sg, R, S, ?_⟩
  cases e : evS T C s sg m with
  | none => rw [e] at h; exact h
  | some p =>
    obtain ⟨o, sg', m'⟩ := p
    rw [e] at h
    cases o with
    | nx => exact fun ρ' H' σ' e' R' S' => ⟨F, ρ', m', sg', R', S', DenS.shift h e'⟩
    | brk => exact h
    | cnt => exact h
    | rt w => exact h
    | ex x => exact h
theorem sim_ifs {c : Expr} {a b : List Stmt} {c' : E} {a' b' : List S} {pos} (hc : PT X c (tT T N C c' Wx)) (ha : PSs X a (tSs T N C a' Wx)) (hb : PSs X b (tSs T N C b' Wx)) : PS X (.If c a b pos) (tS T N C (.ife c' a' b') Wx) := by
  refine (ps_if hc ha hb).imp fun D σ H ⟨F, ρ, m, sg, R, S, h⟩ => ?_
  rw [evS] at h
  refine tT.mk R S (h.lft S) fun x ρ1 m1 H1 e1 R1 D1 => ?_
  cases x with
  | bl c =>
    cases c with
    | true => exact ⟨true, rfl, iteT ⟨F, ρ1, m1, sg, R1, S.mono e1, D1⟩⟩
    | false => exact ⟨false, rfl, iteF ⟨F, ρ1, m1, sg, R1, S.mono e1, D1⟩⟩
  | _ => exact False.elim D1
/-- a loop's turn, under what is wanted behind it -/
theorem DenS.turn {ρ m H D r k} {Nx : L2.St → Hp → Prop} (h : DenS N ρ m H Wx D (turnS r k))
    (hk : ∀ sg' m' ρ' H' σ', Ext N ρ m.length H ρ' m'.length H' → Rl N ρ' m' H' → RS N ρ' m'.length H' sg' σ' → DenS N ρ' m' H' Wx D (k sg' m') → Nx σ' H') :
    DenS N ρ m H Wx { D with nx := Nx, ct := Nx, bk := D.nx } r := by
  cases r with
  | none => exact h
  | some p =>
    obtain ⟨o, sg', m'⟩ := p
    cases o with
    | nx => exact fun ρ' H' σ' e' R' S' => hk sg' m' ρ' H' σ' e' R' S' (DenS.shift h e')
    | cnt => exact fun ρ' H' σ' e' R' S' => hk sg' m' ρ' H' σ' e' R' S' (DenS.shift h e')
    | brk => exact h
    | rt w => exact h
    | ex x => exact h
theorem loop_reads {src : E} {t : Tg} {body : List S} (D : Ends) (σ : L2.St) (H : Hp) (h : tS T N C (.loop t src body) Wx D σ H) : tFor (tI T N C src Wx) (gT N t) (tSs T N C body Wx) D σ H := by
  obtain ⟨F, ρ, m, sg, R, S, h⟩ := h
  rw [evS] at h
  refine ⟨F, ρ, m, sg, R, S, (h.lft S).imp fun ws ρ1 m1 H1 e1 R1 D1 J hz hJ => ?_⟩
  refine ⟨fun i n σ2 H2 => n = ws.length - i ∧ i ≤ ws.length ∧ ∃ ρ2 m2 sg2, Ext (N.wF F) ρ1 m1.length H1 ρ2 m2.length H2 ∧ Rl (N.wF F) ρ2 m2 H2 ∧ RS (N.wF F) ρ2 m2.length H2 sg2 σ2 ∧
      DenS (N.wF F) ρ2 m2 H2 Wx D (loopGo t (evSs T C body) (ws.drop i) sg2 m2),
    ⟨ws.length, rfl, Nat.zero_le _, ρ1, m1, sg, Ext.refl, R1, S.mono e1, D1⟩, ?_⟩
  rintro i n σ2 H2 ⟨rfl, hi, ρ2, m2, sg2, e2, R2, S2, D2⟩
  have hsrc := hJ _ ρ2 m2 H2 (Tr.of e2) R2 i
  by_cases hlt : i < ws.length
  · obtain ⟨hgo, hyld⟩ := hsrc.1 ws[i] (List.getElem?_eq_getElem hlt)
    rw [List.drop_eq_getElem_cons hlt] at D2
    refine .inr ⟨hgo, fun σ' H' => ∃ n', n' < ws.length - i ∧ (n' = ws.length - (i + 1) ∧ i + 1 ≤ ws.length ∧ ∃ ρ2 m2 sg2, Ext (N.wF F) ρ1 m1.length H1 ρ2 m2.length H' ∧ Rl (N.wF F) ρ2 m2 H' ∧ RS (N.wF F) ρ2 m2.length H' sg2 σ' ∧
      DenS (N.wF F) ρ2 m2 H' Wx D (loopGo t (evSs T C body) (ws.drop (i + 1)) sg2 m2)), fun σ' H' z => z, fun x H3 hy => ?_⟩
    obtain ⟨R3, e3, rx⟩ := hyld x H3 hy
    have D3 := DenS.shift D2 e3
    unfold loopGo at D3
    cases ea : asgT t ws[i] sg2 with
    | none => rw [ea] at D3; exact False.elim D3
    | some sg' =>
      rw [ea] at D3
      refine ⟨F, ρ2, m2, sg2, ws[i], sg', R3, S2.mono e3, rx, ea, fun σ3 S3 _ => ⟨F, ρ2, m2, sg', R3, S3, DenS.turn D3 fun sg4 m4 ρ4 H4 σ4 e4 R4 S4 D4 => ?_⟩⟩
      exact ⟨ws.length - (i + 1), by omega, rfl, hlt, ρ4, m4, sg4, (e2.trans e3).trans e4, R4, S4, D4⟩
  · refine .inl ⟨hsrc.2 (Nat.le_of_not_lt hlt), ?_⟩
    rw [List.drop_eq_nil_of_le (Nat.le_of_not_lt hlt)] at D2
    exact DenS.nx D2 R2 S2
theorem sim_loop {tg iter : Expr} {body : List Stmt} {t : Tg} {src : E} {body' : List S} {pos} (hp : PassesOwn (model X.prog X.w) X.A X.env X.xe) (hc : X.calm = true) (hi : PI X tg iter (tI T N C src Wx)) (hg : PG X tg (gT N t))
    (hb : PSs X body (tSs T N C body' Wx)) (hs : ∀ x, foldedSetIterable iter X.env x = pure x) : PS X (.For tg iter body [] pos) (tS T N C (.loop t src body') Wx) :=
  (ps_for hp hc hi hg hb hs).imp loop_reads

/-! ### walks over what may live -/
theorem loop_core {F} {t : Tg} {body : List S} {D : Ends} {ws : List W} {J : It} {ρ1 : Nat → Addr} {m1 : Hm} {H1 : Hp} {sg : Sg} {σ : L2.St} (R1 : Rl (N.wF F) ρ1 m1 H1) (S1 : RS (N.wF F) ρ1 m1.length H1 sg σ)
    (D1 : DenS (N.wF F) ρ1 m1 H1 Wx D (loopGo t (evSs T C body) ws sg m1)) (hJ : SrcOk (N.wF F) J ρ1 m1 H1 ws) :
    ∃ W : Nat → Nat → L2.St → Hp → Prop, (∃ m, W 0 m σ H1) ∧ ∀ i m σ H, W i m σ H →
      (J.stop i H ∧ D.nx σ H) ∨ (J.go i H ∧ ∃ Nx : L2.St → Hp → Prop, (∀ σ' H', Nx σ' H' → ∃ m', m' < m ∧ W (i + 1) m' σ' H') ∧ ∀ x H', J.yld i H x H' → gT N t x σ H' fun σ2 H2 => tSs T N C body Wx { D with nx := Nx, ct := Nx, bk := D.nx } σ2 H2) := by
  refine ⟨fun i n σ2 H2 => n = ws.length - i ∧ i ≤ ws.length ∧ ∃ ρ2 m2 sg2, Ext (N.wF F) ρ1 m1.length H1 ρ2 m2.length H2 ∧ Rl (N.wF F) ρ2 m2 H2 ∧ RS (N.wF F) ρ2 m2.length H2 sg2 σ2 ∧
      DenS (N.wF F) ρ2 m2 H2 Wx D (loopGo t (evSs T C body) (ws.drop i) sg2 m2),
    ⟨ws.length, rfl, Nat.zero_le _, ρ1, m1, sg, Ext.refl, R1, S1, D1⟩, ?_⟩
  rintro i n σ2 H2 ⟨rfl, hi, ρ2, m2, sg2, e2, R2, S2, D2⟩
  have hsrc := hJ _ ρ2 m2 H2 (Tr.of e2) R2 i
  by_cases hlt : i < ws.length
  · obtain ⟨hgo, hyld⟩ := hsrc.1 ws[i] (List.getElem?_eq_getElem hlt)
    rw [List.drop_eq_getElem_cons hlt] at D2
    refine .inr ⟨hgo, fun σ' H' => ∃ n', n' < ws.length - i ∧ (n' = ws.length - (i + 1) ∧ i + 1 ≤ ws.length ∧ ∃ ρ2 m2 sg2, Ext (N.wF F) ρ1 m1.length H1 ρ2 m2.length H' ∧ Rl (N.wF F) ρ2 m2 H' ∧ RS (N.wF F) ρ2 m2.length H' sg2 σ' ∧
      DenS (N.wF F) ρ2 m2 H' Wx D (loopGo t (evSs T C body) (ws.drop (i + 1)) sg2 m2)), fun σ' H' z => z, fun x H3 hy => ?_⟩
    obtain ⟨R3, e3, rx⟩ := hyld x H3 hy
    have D3 := DenS.shift D2 e3
    unfold loopGo at D3
    cases ea : asgT t ws[i] sg2 with
    | none => rw [ea] at D3; exact False.elim D3
    | some sg' =>
      rw [ea] at D3
      refine ⟨F, ρ2, m2, sg2, ws[i], sg', R3, S2.mono e3, rx, ea, fun σ3 S3 _ => ⟨F, ρ2, m2, sg', R3, S3, DenS.turn D3 fun sg4 m4 ρ4 H4 σ4 e4 R4 S4 D4 => ?_⟩⟩
      exact ⟨ws.length - (i + 1), by omega, rfl, hlt, ρ4, m4, sg4, (e2.trans e3).trans e4, R4, S4, D4⟩
  · refine .inl ⟨hsrc.2 (Nat.le_of_not_lt hlt), ?_⟩
    rw [List.drop_eq_nil_of_le (Nat.le_of_not_lt hlt)] at D2
    exact DenS.nx D2 R2 S2
theorem loopD_inv {tg : Tg} {b : Sg → MS} {n : Nat} {sg : Sg} {m : Hm} {r} (h : loopD tg b n sg m = some r) : ∃ k, loopF tg b n k 0 sg m = some r := by
  unfold loopD at h
  by_cases hex : ∃ k, ∃ r, loopF tg b n k 0 sg m = some r
  · rw [dif_pos hex] at h
    exact ⟨_, h⟩
  · rw [dif_neg hex] at h; cases h
theorem loopF_mono {tg : Tg} {b : Sg → MS} {n : Nat} : ∀ {k i : Nat} {sg : Sg} {m : Hm} {r}, loopF tg b n k i sg m = some r → loopF tg b n (k + 1) i sg m = some r
  | 0, _, _, _, _, h => by cases h
  | k + 1, i, sg, m, r, h => by
    unfold loopF at h ⊢
    cases e : hget m n with
    | none => rw [e] at h; cases h
    | some ob =>
      rw [e] at h
      cases ob with
      | lst xs =>
        dsimp only at h ⊢
        cases ex : xs[i]? with
        | none => rw [ex] at h; exact h
        | some x =>
          rw [ex] at h
          dsimp only at h ⊢
          cases ea : asgT tg x sg with
          | none => rw [ea] at h; cases h
          | some sg' =>
            rw [ea] at h
            have h' : turnS (b sg' m) (loopF tg b n k (i + 1)) = some r := h
            show turnS (b sg' m) (loopF tg b n (k + 1) (i + 1)) = some r
            cases e2 : b sg' m with
            | none => rw [e2] at h'; cases h'
            | some p2 =>
              obtain ⟨o, sg2, m2⟩ := p2
              rw [e2] at h'
              cases o with
              | nx => exact loopF_mono (k := k) h'
              | cnt => exact loopF_mono (k := k) h'
              | _ => exact h'
      | _ => cases h
theorem loopF_le {tg : Tg} {b : Sg → MS} {n k k' i : Nat} {sg : Sg} {m : Hm} {r} (h : loopF tg b n k i sg m = some r) (hk : k ≤ k') : loopF tg b n k' i sg m = some r := by
  induction hk with
  | refl => exact h
  | step _ ih => exact loopF_mono ih
theorem loopD_some {tg : Tg} {b : Sg → MS} {n k : Nat} {sg : Sg} {m : Hm} {r} (h : loopF tg b n k 0 sg m = some r) : loopD tg b n sg m = some r := by
  unfold loopD
  have hex : ∃ k, ∃ r, loopF tg b n k 0 sg m = some r := ⟨k, r, h⟩
  rw [dif_pos hex]
  obtain ⟨r', h'⟩ := hex.choose_spec
  have h1 := loopF_le h (Nat.le_max_left k hex.choose)
  have h2 := loopF_le h' (Nat.le_max_right k hex.choose)
  rw [h1] at h2
  cases h2
  exact h'
theorem loopL_reads {src : E} {t : Tg} {body : List S} (D : Ends) (σ : L2.St) (H : Hp) (h : tS T N C (.loopL t src body) Wx D σ H) :
    tFor (fun σ H R => tE T N C src Wx σ H fun x H1 => ∃ a, x = .ref a ∧ (((∃ xs, SqL N.K H1 a xs) ∧ R (Itl N.K a) H1) ∨ ((∃ xs, SqT N.K H1 a xs) ∧ R (Itt N.K a) H1))) (gT N t) (tSs T N C body Wx) D σ H := by
  obtain ⟨F, ρ, m, sg, R, S, h⟩ := h
  rw [evS] at h
  refine tE.mk R S (h.lft S) fun w ρ1 m1 H1 v e1 R1 D1 rv => ?_
  cases w with
  | tup xs =>
    obtain ⟨b, vs, ev, hf, hv⟩ := rv
    exact ⟨b, ev, .inr ⟨⟨vs, hf.seq⟩, loop_core R1 (S.mono e1) D1 (src_tup (N := N.wF F) hf hv)⟩⟩
  | lst xs =>
    obtain ⟨b, vs, ev, hf, hv⟩ := id rv
    subst ev
    exact ⟨b, rfl, .inl ⟨⟨vs, hf.seq (N := N.wF F)⟩, loop_core R1 (S.mono e1) D1 (src_lst (N := N.wF F) (.inl rfl) rv)⟩⟩
  | klst xs =>
    obtain ⟨b, vs, ev, hf, hv⟩ := id rv
    subst ev
    exact ⟨b, rfl, .inl ⟨⟨vs, hf.seq⟩, loop_core R1 (S.mono e1) D1 (src_lst (N := N.wF F) (.inr rfl) rv)⟩⟩
  | ref n =>
    obtain ⟨hlt, ev⟩ := rv
    have D1' : DenS (N.wF F) ρ1 m1 H1 Wx D (loopD t (evSs T C body) n sg m1) := D1
    have hn : ∃ k, DenS (N.wF F) ρ1 m1 H1 Wx D (loopF t (evSs T C body) n k 0 sg m1) := by
      cases e : loopD t (evSs T C body) n sg m1 with
      | none => rw [e] at D1'; exact False.elim D1'
      | some r =>
        obtain ⟨k, hk⟩ := loopD_inv e
        exact ⟨k, by rw [hk, ← e]; exact D1'⟩
    obtain ⟨k0, hk0⟩ := hn
    have hl : ∃ vs, SqL N.K H1 (ρ1 n) vs := by
      cases k0 with
      | zero => exact False.elim hk0
      | succ k =>
        unfold loopF at hk0
        cases hq : hget m1 n with
        | none => rw [hq] at hk0; exact False.elim hk0
        | some ob =>
          rw [hq] at hk0
          cases ob with
          | lst xs =>
            obtain ⟨vs, g1, g2, g3⟩ := R1.obj _ _ hq
            exact ⟨vs, SqL.of g1⟩
          | _ => exact False.elim hk0
    refine ⟨ρ1 n, ev, .inl ⟨hl, fun i k σ2 H2 => ∃ ρ2 m2 sg2, Ext (N.wF F) ρ1 m1.length H1 ρ2 m2.length H2 ∧ Rl (N.wF F) ρ2 m2 H2 ∧ RS (N.wF F) ρ2 m2.length H2 sg2 σ2 ∧
      DenS (N.wF F) ρ2 m2 H2 Wx D (loopF t (evSs T C body) n k i sg2 m2), ⟨k0, ρ1, m1, sg, Ext.refl, R1, S.mono e1, hk0⟩, ?_⟩⟩
    rintro i k σ2 H2 ⟨ρ2, m2, sg2, e2, R2, S2, D2⟩
    have eρ : ρ2 n = ρ1 n := e2.rho n hlt
    cases k with
    | zero => exact False.elim D2
    | succ k =>
      unfold loopF at D2
      cases hq : hget m2 n with
      | none => rw [hq] at D2; exact False.elim D2
      | some ob =>
        rw [hq] at D2
        cases ob with
        | lst xs =>
          obtain ⟨vs, g1, g2, g3⟩ := R2.obj _ _ hq
          rw [eρ] at g1
          dsimp only at D2
          cases hx : xs[i]? with
          | none =>
            rw [hx] at D2
            exact .inl ⟨⟨vs, SqL.of g1, by rw [← g3.len]; exact List.getElem?_eq_none_iff.1 hx⟩, DenS.nx D2 R2 S2⟩
          | some x =>
            rw [hx] at D2
            dsimp only at D2
            obtain ⟨y, hy, ry⟩ := g3.get hx
            refine .inr ⟨⟨vs, y, SqL.of g1, hy⟩, fun σ' H' => ∃ k', k' < k + 1 ∧ ∃ ρ2 m2 sg2, Ext (N.wF F) ρ1 m1.length H1 ρ2 m2.length H' ∧ Rl (N.wF F) ρ2 m2 H' ∧ RS (N.wF F) ρ2 m2.length H' sg2 σ' ∧
              DenS (N.wF F) ρ2 m2 H' Wx D (loopF t (evSs T C body) n k' (i + 1) sg2 m2), fun _ _ z => z, fun x' H3 hyl => ?_⟩
            obtain ⟨e3, hyl⟩ := hyl
            subst e3
            have q := hyl vs (SqL.of g1)
            rw [hy] at q
            cases q
            cases ea : asgT t x sg2 with
            | none => rw [ea] at D2; exact False.elim D2
            | some sg' =>
              rw [ea] at D2
              exact ⟨F, ρ2, m2, sg2, x, sg', R2, S2, ry, ea, fun σ3 S3 _ => ⟨F, ρ2, m2, sg', R2, S3, DenS.turn D2 fun sg4 m4 ρ4 H4 σ4 e4 R4 S4 D4 => ⟨k, Nat.lt_succ_self k, ρ4, m4, sg4, e2.trans e4, R4, S4, D4⟩⟩⟩
        | _ => exact False.elim D2
  | _ => exact False.elim D1
theorem sim_loopL {tg iter : Expr} {body : List Stmt} {t : Tg} {src : E} {body' : List S} {pos} (hK : X.K = N.K) (hp : PassesOwn (model X.prog X.w) X.A X.env X.xe) (hc : X.calm = true) (hi : PE X iter (tE T N C src Wx)) (hg : PG X tg (gT N t))
    (hb : PSs X body (tSs T N C body' Wx)) (hs : ∀ x, foldedSetIterable iter X.env x = pure x) : PS X (.For tg iter body [] pos) (tS T N C (.loopL t src body') Wx) := by
  have h := pi_either (tg := tg) hi
  rw [hK] at h
  exact (ps_for hp hc h hg hb hs).imp loopL_reads

/-! ### while -/
theorem whileF_mono {c : Sg → M W} {b : Sg → MS} : ∀ {n : Nat} {sg : Sg} {m : Hm} {r}, whileF c b n sg m = some r → whileF c b (n + 1) sg m = some r
  | 0, _, _, _, h => by cases h
  | n + 1, sg, m, r, h => by
    unfold whileF at h ⊢
    unfold WM.lft at h ⊢
    cases e : c sg m with
    | none => rw [e] at h; cases h
    | some p =>
      obtain ⟨q, m'⟩ := p
      rw [e] at h
      cases q with
      | exc y => exact h
      | ok w =>
        cases w with
        | bl k =>
          cases k with
          | false => exact h
          | true =>
            have h' : turnS (b sg m') (whileF c b n) = some r := h
            show turnS (b sg m') (whileF c b (n + 1)) = some r
            cases e2 : b sg m' with
            | none => rw [e2] at h'; cases h'
            | some p2 =>
              obtain ⟨o, sg2, m2⟩ := p2
              rw [e2] at h'
              cases o with
              | nx => exact whileF_mono (n := n) h'
              | cnt => exact whileF_mono (n := n) h'
              | _ => exact h'
        | _ => cases h
theorem whileF_le {c : Sg → M W} {b : Sg → MS} {n k : Nat} {sg : Sg} {m : Hm} {r} (h : whileF c b n sg m = some r) (hk : n ≤ k) : whileF c b k sg m = some r := by
  induction hk with
  | refl => exact h
  | step _ ih => exact whileF_mono ih
theorem whileL_some {c : Sg → M W} {b : Sg → MS} {n : Nat} {sg : Sg} {m : Hm} {r} (h : whileF c b n sg m = some r) : whileL c b sg m = some r := by
  unfold whileL
  have hex : ∃ n, ∃ r, whileF c b n sg m = some r := ⟨n, r, h⟩
  rw [dif_pos hex]
  obtain ⟨r', h'⟩ := hex.choose_spec
  have h1 := whileF_le h (Nat.le_max_left n hex.choose)
  have h2 := whileF_le h' (Nat.le_max_right n hex.choose)
  rw [h1] at h2
  cases h2
  exact h'
theorem whileL_inv {c : Sg → M W} {b : Sg → MS} {sg : Sg} {m : Hm} {r} (h : whileL c b sg m = some r) : ∃ n, whileF c b n sg m = some r := by
  unfold whileL at h
  by_cases hex : ∃ n, ∃ r, whileF c b n sg m = some r
  · rw [dif_pos hex] at h
    exact ⟨_, h⟩
  · rw [dif_neg hex] at h; cases h
/-- one turn of a while -/
theorem whileL_eq (c : Sg → M W) (b : Sg → MS) (sg : Sg) (m : Hm) : whileL c b sg m = WM.lft (c sg) sg (fun w => match w with
    | .bl true => fun m => turnS (b sg m) (whileL c b)
    | .bl false => fun m => some (.nx, sg, m)
    | _ => fun _ => none) m := by
  have key : ∀ r, whileL c b sg m = some r ↔ WM.lft (c sg) sg (fun w => match w with
    | .bl true => fun m => turnS (b sg m) (whileL c b)
    | .bl false => fun m => some (.nx, sg, m)
    | _ => fun _ => none) m = some r := by
    intro r
    constructor
    · intro h
      obtain ⟨n, hn⟩ := whileL_inv h
      cases n with
      | zero => cases hn
      | succ n =>
        unfold whileF at hn
        unfold WM.lft at hn ⊢
        cases e : c sg m with
        | none => rw [e] at hn; cases hn
        | some p =>
          obtain ⟨q, m'⟩ := p
          rw [e] at hn
          cases q with
          | exc y => exact hn
          | ok w =>
            cases w with
            | bl k =>
              cases k with
              | false => exact hn
              | true =>
                have h' : turnS (b sg m') (whileF c b n) = some r := hn
                show turnS (b sg m') (whileL c b) = some r
                cases e2 : b sg m' with
                | none => rw [e2] at h'; cases h'
                | some p2 =>
                  obtain ⟨o, sg2, m2⟩ := p2
                  rw [e2] at h'
                  cases o with
                  | nx => exact whileL_some (n := n) h'
                  | cnt => exact whileL_some (n := n) h'
                  | _ => exact h'
            | _ => cases hn
    · intro h
      have fin : ∀ n, whileF c b (n + 1) sg m = some r → whileL c b sg m = some r := fun n => whileL_some
      unfold WM.lft at h
      cases e : c sg m with
      | none => rw [e] at h; cases h
      | some p =>
        obtain ⟨q, m'⟩ := p
        rw [e] at h
        cases q with
        | exc y => exact fin 0 (by unfold whileF WM.lft; rw [e]; exact h)
        | ok w =>
          cases w with
          | bl k =>
            cases k with
            | false => exact fin 0 (by unfold whileF WM.lft; rw [e]; exact h)
            | true =>
              have h' : turnS (b sg m') (whileL c b) = some r := h
              cases e2 : b sg m' with
              | none => rw [e2] at h'; cases h'
              | some p2 =>
                obtain ⟨o, sg2, m2⟩ := p2
                rw [e2] at h'
                have two : ∀ n, turnS (some (o, sg2, m2)) (whileF c b n) = some r → whileL c b sg m = some r := fun n hn => fin n (by
                  unfold whileF WM.lft; rw [e]; show turnS (b sg m') (whileF c b n) = some r; rw [e2]; exact hn)
                cases o with
                | nx => obtain ⟨n, hn⟩ := whileL_inv (r := r) (show whileL c b sg2 m2 = some r from h'); exact two n hn
                | cnt => obtain ⟨n, hn⟩ := whileL_inv (r := r) (show whileL c b sg2 m2 = some r from h'); exact two n hn
                | brk => exact two 0 h'
                | rt w => exact two 0 h'
                | ex x => exact two 0 h'
          | _ => cases h
  cases e : whileL c b sg m with
  | some r => exact ((key r).mp e).symm
  | none =>
    cases e2 : WM.lft (c sg) sg (fun w => match w with
      | .bl true => fun m => turnS (b sg m) (whileL c b)
      | .bl false => fun m => some (.nx, sg, m)
      | _ => fun _ => none) m with
    | none => rfl
    | some r => rw [(key r).mpr e2] at e; cases e
theorem while_reads {c : E} {body : List S} (D : Ends) (σ : L2.St) (H : Hp) (h : tS T N C (.while c body) Wx D σ H) : tWhile (tT T N C c Wx) (tSs T N C body Wx) D σ H := by
  obtain ⟨F, ρ, m, sg, R, S, h⟩ := h
  rw [evS] at h
  have hn : ∃ n, DenS (N.wF F) ρ m H Wx D (whileF (evE T C c) (evSs T C body) n sg m) := by
    cases e : whileL (evE T C c) (evSs T C body) sg m with
    | none => rw [e] at h; exact False.elim h
    | some r =>
      obtain ⟨n, hn⟩ := whileL_inv e
      exact ⟨n, by rw [hn, ← e]; exact h⟩
  obtain ⟨n0, hn0⟩ := hn
  refine ⟨fun n σ2 H2 => ∃ ρ2 m2 sg2, Rl (N.wF F) ρ2 m2 H2 ∧ RS (N.wF F) ρ2 m2.length H2 sg2 σ2 ∧ DenS (N.wF F) ρ2 m2 H2 Wx D (whileF (evE T C c) (evSs T C body) n sg2 m2), ⟨n0, ρ, m, sg, R, S, hn0⟩, ?_⟩
  rintro n σ2 H2 ⟨ρ2, m2, sg2, R2, S2, D2⟩
  cases n with
  | zero => exact False.elim D2
  | succ n =>
    unfold whileF at D2
    refine tT.mk R2 S2 (DenS.lft D2 S2) fun x ρ3 m3 H3 e3 R3 D3 => ?_
    cases x with
    | bl k =>
      refine ⟨k, rfl, ?_⟩
      cases k with
      | true =>
        refine iteT ⟨fun σ' H' => ∃ n', n' < n + 1 ∧ ∃ ρ2 m2 sg2, Rl (N.wF F) ρ2 m2 H' ∧ RS (N.wF F) ρ2 m2.length H' sg2 σ' ∧ DenS (N.wF F) ρ2 m2 H' Wx D (whileF (evE T C c) (evSs T C body) n' sg2 m2), fun _ _ z => z,
          F, ρ3, m3, sg2, R3, S2.mono e3, DenS.turn D3 fun sg4 m4 ρ4 H4 σ4 e4 R4 S4 D4 => ⟨n, Nat.lt_succ_self n, ρ4, m4, sg4, R4, S4, D4⟩⟩
      | false => exact iteF (DenS.nx D3 R3 (S2.mono e3))
    | _ => exact False.elim D3
theorem sim_while {c : Expr} {body : List Stmt} {c' : E} {body' : List S} {pos} (hp : PassesOwn (model X.prog X.w) X.A X.env X.xe) (hc : PT X c (tT T N C c' Wx)) (hb : PSs X body (tSs T N C body' Wx)) : PS X (.While c body [] pos) (tS T N C (.while c' body') Wx) :=
  (ps_while hp hc hb).imp while_reads
end
end WM
namespace WM
open PySem PySem.Spec PyProof.Rows L2

/-! ### a call's end -/
mutual
theorem RV.rb {N ρ k H} : ∀ (w : W) (v : V), RV N ρ k H w v → W.rb k w = true
  | .non, _, _ => by rw [W.rb]; all_goals simp
  | .bl _, _, _ => by rw [W.rb]; all_goals simp
  | .int _, _, _ => by rw [W.rb]; all_goals simp
  | .str _, _, _ => by rw [W.rb]; all_goals simp
  | .tup ws, _, ⟨_, vs, _, _, h⟩ => by rw [W.rb]; exact RVs.rb ws vs h
  | .lst ws, _, ⟨_, vs, _, _, h⟩ => by rw [W.rb]; exact RVs.rb ws vs h
  | .klst ws, _, ⟨_, vs, _, _, h⟩ => by rw [W.rb]; exact RVs.rb ws vs h
  | .ref n, _, h => by rw [W.rb]; exact decide_eq_true h.1
  | .dct _ _, _, h => h.elim
  | .ins _ _, _, h => h.elim
theorem RVs.rb {N ρ k H} : ∀ (ws : List W) (vs : List V), RVs N ρ k H ws vs → W.rbs k ws = true
  | [], _, _ => by rw [W.rbs]
  | w :: ws, _, ⟨v, r, _, h2, h3⟩ => by rw [W.rbs, RV.rb w v h2, RVs.rb ws r h3]; rfl
end
theorem NL.down {N ρ k k' a} (h : NL N ρ k' a) (hk : k ≤ k') : NL N ρ k a := ⟨fun n hn => h.1 n (Nat.lt_of_lt_of_le hn hk), h.2⟩
mutual
theorem RV.down {N ρ k k' H} (hk : k ≤ k') : ∀ (w : W) (v : V), RV N ρ k' H w v → W.rb k w = true → RV N ρ k H w v
  | .non, _, h, _ => h
  | .bl _, _, h, _ => h
  | .int _, _, h, _ => h
  | .str _, _, h, _ => h
  | .tup ws, _, ⟨a, vs, h1, h2, h3⟩, hb => by
    rw [W.rb] at hb
    exact ⟨a, vs, h1, ⟨h2.1, h2.2.imp (fun z => ⟨z.1, z.2.down hk⟩) id⟩, RVs.down hk ws vs h3 hb⟩
  | .lst ws, _, ⟨a, vs, h1, h2, h3⟩, hb => by
    rw [W.rb] at hb
    exact ⟨a, vs, h1, ⟨h2.1, h2.2.1, h2.2.2.down hk⟩, RVs.down hk ws vs h3 hb⟩
  | .klst ws, _, ⟨a, vs, h1, h2, h3⟩, hb => by
    rw [W.rb] at hb
    exact ⟨a, vs, h1, ⟨h2.1, h2.2.imp (fun z => ⟨z.1, z.2.down hk⟩) id⟩, RVs.down hk ws vs h3 hb⟩
  | .ref n, _, h, hb => by
    rw [W.rb] at hb
    exact ⟨of_decide_eq_true hb, h.2⟩
  | .dct _ _, _, h, _ => h
  | .ins _ _, _, h, _ => h
theorem RVs.down {N ρ k k' H} (hk : k ≤ k') : ∀ (ws : List W) (vs : List V), RVs N ρ k' H ws vs → W.rbs k ws = true → RVs N ρ k H ws vs
  | [], _, h, _ => h
  | w :: ws, _, ⟨v, r, h1, h2, h3⟩, hb => by
    rw [W.rbs, Bool.and_eq_true] at hb
    exact ⟨v, r, h1, RV.down hk w v h2 hb.1, RVs.down hk ws r h3 hb.2⟩
end
theorem hget_drop : ∀ (m : Hm) (j n : Nat), n < m.length - j → hget (m.drop j) n = hget m n
  | _, 0, _, _ => rfl
  | [], j + 1, n, _ => rfl
  | o :: t, j + 1, n, h => by
    rw [List.length_cons] at h
    have h' : n < t.length - j := by omega
    show hget (t.drop j) n = _
    rw [hget_drop t j n h']
    conv => rhs; unfold hget
    rw [if_neg (by omega)]
theorem RO.rb {N ρ k H} {o : HOb} {a : Addr} (h : RO N ρ k H o a) : HOb.rb k o = true := by
  cases o with
  | lst ws => obtain ⟨vs, _, _, h3⟩ := h; exact RVs.rb ws vs h3
  | dK _ => obtain ⟨_, vs, _, _, h3⟩ := h; exact RVs.rb _ vs h3
  | dT _ => obtain ⟨_, vs, _, _, h3⟩ := h; exact RVs.rb _ vs h3
  | ins _ _ => obtain ⟨_, vs, _, _, h3⟩ := h; exact RVs.rb _ vs h3
theorem RO.down {N ρ k k' H} (hk : k ≤ k') {o : HOb} {a : Addr} (h : RO N ρ k' H o a) (hb : HOb.rb k o = true) : RO N ρ k H o a := by
  cases o with
  | lst ws => obtain ⟨vs, h1, h2, h3⟩ := h; exact ⟨vs, h1, h2, RVs.down hk ws vs h3 hb⟩
  | dK _ => obtain ⟨ho, vs, h1, h2, h3⟩ := h; exact ⟨ho, vs, h1, h2, RVs.down hk _ vs h3 hb⟩
  | dT _ => obtain ⟨ho, vs, h1, h2, h3⟩ := h; exact ⟨ho, vs, h1, h2, RVs.down hk _ vs h3 hb⟩
  | ins _ _ => obtain ⟨ho, vs, h1, h2, h3⟩ := h; exact ⟨ho, vs, h1, h2, RVs.down hk _ vs h3 hb⟩
theorem hget_mem : ∀ {m : Hm} {n : Nat} {o : HOb}, hget m n = some o → o ∈ m
  | [], _, _, h => by simp [hget] at h
  | x :: t, n, o, h => by
    unfold hget at h
    split at h
    · cases h; exact List.mem_cons_self
    · exact List.mem_cons_of_mem _ (hget_mem h)
theorem old_ok {N ρ m H ρ' m' H'} (R : Rl N ρ m H) (e : Ext N ρ m.length H ρ' m'.length H') (R' : Rl N ρ' m' H') (hle : m.length ≤ m'.length)
    (ho : m'.drop (m'.length - m.length) = m ∨ (m'.drop (m'.length - m.length)).all (HOb.rb m.length) = true) :
    (m'.drop (m'.length - m.length)).length = m.length ∧ Ext N ρ m.length H ρ' (m'.drop (m'.length - m.length)).length H' ∧ Rl N ρ' (m'.drop (m'.length - m.length)) H' := by
  have hl : (m'.drop (m'.length - m.length)).length = m.length := by rw [List.length_drop]; omega
  refine ⟨hl, ?_, ?_⟩
  · rw [hl]
    exact ⟨Nat.le_refl _, e.rho, e.keep, e.keepF, e.lv, fun n h h' => absurd (Nat.lt_of_lt_of_le h' h) (Nat.lt_irrefl _)⟩
  · refine ⟨R'.fb, fun n hn => R'.nf n (by omega), fun i j hi hj q => R'.inj i j (by omega) (by omega) q, fun i hi => R'.lv i (by omega), fun n o hn => ?_⟩
    have hn' := hget_lt hn
    have hn2 : hget m' n = some o := by rw [← hget_drop m' (m'.length - m.length) n (by omega)]; exact hn
    rw [hl]
    refine (R'.obj n o hn2).down hle ?_
    rcases ho with ho | ho
    · rw [ho] at hn
      exact (R.obj n o hn).rb
    · exact List.all_eq_true.mp ho o (hget_mem hn)
theorem frz_mapM {N ρ k k' H} {g : W → Option W} (hg : ∀ w w' v, g w = some w' → RV N ρ k' H w v → RV N ρ k H w' v) : ∀ {ws ws' : List W} {vs : List V}, ws.mapM g = some ws' → RVs N ρ k' H ws vs → RVs N ρ k H ws' vs
  | [], ws', vs, h, r => by
    rw [List.mapM_nil] at h
    cases h; exact r
  | w :: ws, ws', vs, h, ⟨v, r, h1, h2, h3⟩ => by
    rw [List.mapM_cons] at h
    cases e1 : g w with
    | none => rw [e1] at h; cases h
    | some x =>
      rw [e1] at h
      cases e2 : ws.mapM g with
      | none => rw [e2] at h; cases h
      | some xs =>
        rw [e2] at h
        cases h
        exact ⟨v, r, h1, hg w x v e1 h2, frz_mapM hg e2 h3⟩
theorem frz_ok {N ρ k m H} (R : Rl N ρ m H) (hk : k ≤ m.length) : ∀ (n : Nat) (w w' : W) (v : V), frzW k m n w = some w' → RV N ρ m.length H w v → RV N ρ k H w' v
  | 0, _, _, _, h, _ => by cases h
  | n + 1, w, w', v, h, r => by
    unfold frzW at h
    by_cases hb : W.rb k w = true
    · rw [if_pos hb] at h
      cases h
      exact RV.down hk w v r hb
    · rw [if_neg hb] at h
      have ih := frz_ok R hk n
      cases w with
      | tup xs =>
        obtain ⟨a, vs, h1, h2, h3⟩ := r
        have h' : (xs.mapM (frzW k m n)).map W.tup = some w' := h
        cases e : xs.mapM (frzW k m n) with
        | none => rw [e] at h'; cases h'
        | some ys =>
          rw [e] at h'
          cases h'
          exact ⟨a, vs, h1, ⟨h2.1, h2.2.imp (fun z => ⟨z.1, z.2.down hk⟩) id⟩, frz_mapM (fun w w' v => ih w w' v) e h3⟩
      | lst xs =>
        obtain ⟨a, vs, h1, h2, h3⟩ := r
        have h' : (xs.mapM (frzW k m n)).map W.lst = some w' := h
        cases e : xs.mapM (frzW k m n) with
        | none => rw [e] at h'; cases h'
        | some ys =>
          rw [e] at h'
          cases h'
          exact ⟨a, vs, h1, ⟨h2.1, h2.2.1, h2.2.2.down hk⟩, frz_mapM (fun w w' v => ih w w' v) e h3⟩
      | klst xs =>
        obtain ⟨a, vs, h1, h2, h3⟩ := r
        have h' : (xs.mapM (frzW k m n)).map W.klst = some w' := h
        cases e : xs.mapM (frzW k m n) with
        | none => rw [e] at h'; cases h'
        | some ys =>
          rw [e] at h'
          cases h'
          exact ⟨a, vs, h1, ⟨h2.1, h2.2.imp (fun z => ⟨z.1, z.2.down hk⟩) id⟩, frz_mapM (fun w w' v => ih w w' v) e h3⟩
      | ref i =>
        obtain ⟨h1, h2⟩ := r
        have hi : k ≤ i := by
          rw [W.rb] at hb
          exact Nat.le_of_not_lt fun z => hb (decide_eq_true z)
        have h' : (match hget m i with
          | some (.lst xs) => (xs.mapM (frzW k m n)).map W.lst
          | some (.dK _) => none
          | some (.dT _) => none
          | some (.ins _ _) => none
          | none => none) = some w' := h
        cases e : hget m i with
        | none => rw [e] at h'; cases h'
        | some o =>
          rw [e] at h'
          have ro := R.obj _ _ e
          cases o with
          | lst xs =>
            obtain ⟨vs, h3, h4, h5⟩ := ro
            dsimp only at h'
            cases e2 : xs.mapM (frzW k m n) with
            | none => rw [e2] at h'; cases h'
            | some ys =>
              rw [e2] at h'
              cases h'
              exact ⟨ρ i, vs, h2, ⟨h4, h3, ⟨fun j hj q => by have := R.inj j i (by omega) h1 q; omega, R.nf i h1⟩⟩, frz_mapM (fun w w' v => ih w w' v) e2 h5⟩
          | dK _ => cases h'
          | dT _ => cases h'
          | ins _ _ => cases h'
      | dct _ _ => exact r.elim
      | ins _ _ => exact r.elim
      | non => cases h
      | bl _ => cases h
      | int _ => cases h
      | str _ => cases h
theorem fin_ok {N ρ m H ρ' m' H' keep w w' m'' v} (R : Rl N ρ m H) (e : Ext N ρ m.length H ρ' m'.length H') (R' : Rl N ρ' m' H') (h : fin keep m m' w = some (.ok w', m'')) (r : RV N ρ' m'.length H' w v) :
    Ext N ρ m.length H ρ' m''.length H' ∧ Rl N ρ' m'' H' ∧ RV N ρ' m''.length H' w' v := by
  unfold fin at h
  split at h
  · cases h; exact ⟨e, R', r⟩
  · split at h
    · rename_i hc
      obtain ⟨hl, e2, R2⟩ := old_ok R e R' hc.1 hc.2
      cases q : frzW m.length m' 20 w with
      | none => rw [q] at h; cases h
      | some x =>
        rw [q] at h
        cases h
        refine ⟨e2, R2, ?_⟩
        rw [hl]
        exact frz_ok R' hc.1 20 w _ v q r
    · cases h
theorem fin_noex {keep m m' w x m''} : fin keep m m' w = some (.exc x, m'') → False := by
  intro h
  unfold fin at h
  split at h
  · cases h
  · split at h
    · split at h <;> cases h
    · cases h
mutual
theorem rb_mono {k : Nat} : ∀ (w : W), W.rb 0 w = true → W.rb k w = true
  | .non, _ => by rw [W.rb]; all_goals simp
  | .bl _, _ => by rw [W.rb]; all_goals simp
  | .int _, _ => by rw [W.rb]; all_goals simp
  | .str _, _ => by rw [W.rb]; all_goals simp
  | .tup ws, h => by rw [W.rb] at h ⊢; exact rbs_mono ws h
  | .lst ws, h => by rw [W.rb] at h ⊢; exact rbs_mono ws h
  | .klst ws, h => by rw [W.rb] at h ⊢; exact rbs_mono ws h
  | .ref n, h => by rw [W.rb] at h; simp at h
  | .dct ks vs, h => by rw [W.rb, Bool.and_eq_true] at h ⊢; exact ⟨rbs_mono ks h.1, rbs_mono vs h.2⟩
  | .ins _ fs, h => by rw [W.rb] at h ⊢; exact rbs_mono fs h
theorem rbs_mono {k : Nat} : ∀ (ws : List W), W.rbs 0 ws = true → W.rbs k ws = true
  | [], _ => by rw [W.rbs]
  | w :: ws, h => by rw [W.rbs, Bool.and_eq_true] at h ⊢; exact ⟨rb_mono w h.1, rbs_mono ws h.2⟩
end
theorem finx_ok {N ρ m H ρ' m' H' x y m'' d} (R : Rl N ρ m H) (e : Ext N ρ m.length H ρ' m'.length H') (R' : Rl N ρ' m' H') (h : finx m m' x = some (.exc y, m'')) (r : RX N ρ' m'.length H' x d) :
    Ext N ρ m.length H ρ' m''.length H' ∧ Rl N ρ' m'' H' ∧ RX N ρ' m''.length H' y d := by
  unfold finx at h
  split at h
  · rename_i hc
    obtain ⟨hl, e2, R2⟩ := old_ok R e R' hc.1 hc.2.2
    cases h
    refine ⟨e2, R2, ?_⟩
    rw [hl]
    rcases r with r | ⟨p, vs, h0, h1, h2, h3, h4⟩
    · exact .inl r
    · exact .inr ⟨p, vs, h0, h1, h2, h3, RVs.down hc.1 _ _ h4 (rbs_mono _ hc.2.1)⟩
  · cases h
theorem finx_nook {m m' x w m''} : finx m m' x = some (.ok w, m'') → False := by
  intro h
  unfold finx at h
  split at h <;> cases h

/-! ### a def of the text -/
theorem start_ok {N : En} {ρ k H} {ws : List W} {vs : List V} {Nn : List Str} {ns : Nat} (h : RVs N ρ k H ws vs) (hl : Nn.length = ns) : RS N ρ k H (ws.map some ++ List.replicate (ns - ws.length) none) (L2.start Nn vs) := by
  unfold L2.start
  rw [hl, ← h.len]
  refine ⟨by simp [h.len], fun i w hw => ?_⟩
  by_cases hi : i < ws.length
  · rw [List.getElem?_append_left (by simpa using hi), List.getElem?_map] at hw
    cases e : ws[i]? with
    | none => rw [e] at hw; cases hw
    | some x =>
      rw [e] at hw
      cases hw
      obtain ⟨v, h1, h2⟩ := h.get e
      exact ⟨v, by rw [List.getElem?_append_left (by simp [← h.len, hi]), List.getElem?_map, h1]; rfl, h2⟩
  · rw [List.getElem?_append_right (by simpa using Nat.le_of_not_lt hi), List.getElem?_replicate] at hw
    split at hw <;> cases hw
theorem fn_body {T : Tab} {N : En} {P : Program} {w : World} {K : PySem.W.Frag} {mg : Str → Option Value} {base : Heap} {l : Nat} {f : Nat} {F : Fn} {x qual : Str} {params : Arguments} {body : List Stmt} {scope : Scope} {a : Addr} {fd : FuncData} {Nn ps : List Str}
    (hF : FunD K x qual params body scope [] [] a fd) (S : FnScope Nn ps scope) (hf : T.fn f = some F) (hnp : ps.length = F.np) (hns : Nn.length = F.ns)
    (hb : ∀ (cdv : Value) (A : Around) (outer : List Env) (s : Shared) (H : Hp) (E : XK), Room (2 * l + 1) (A.deeper (envOfC qual scope s.heap.objs.size a cdv)) →
      PSs (cxOf (L2.CX P w) P w K mg base Nn qual scope a cdv A outer s H E) body (tSs T N (evC T l) F.body fun cls d _ H => E cls d H)) :
    FnOk P w K mg base (L2.CX P w) (2 * l + 2) a fd ps (spF T N (l + 1) ps.length f) := by
  refine hF.ok S (fun vs H Q E h => h.1) fun cdv A outer s H vs Q E hr h => ⟨_, hb cdv A outer s H E hr, ?_⟩
  obtain ⟨hvl, Fb, ρ, m, ws, R, r, D⟩ := h
  have hwl : ws.length = F.np := by rw [r.len, hvl, hnp]
  have D1 : Den (N.wF Fb) ρ m H (fun x ρ' m' H' => ∀ d, RX (N.wF Fb) ρ' m'.length H' x d → E (.ref (N.ca x.c)) d H') (runF T (evC T l) F ws m) (fun w ρ' m' H' => ∀ v, RV (N.wF Fb) ρ' m'.length H' w v → Q v H') := by
    unfold evC at D
    rw [hf] at D
    exact D
  unfold runF at D1
  rw [if_pos hwl] at D1
  refine ⟨Fb, ρ, m, _, R, start_ok r hns, ?_⟩
  rw [← hwl] at D1
  cases e : evSs T (evC T l) F.body (ws.map some ++ List.replicate (F.ns - ws.length) none) m with
  | none => rw [e] at D1; exact D1
  | some p =>
    obtain ⟨o, sg', m'⟩ := p
    rw [e] at D1
    intro ρ' H' σ' e' R' S'
    cases o with
    | nx =>
      have D2 : Den (N.wF Fb) ρ m H _ (fin F.keep m m' .non) _ := D1
      unfold Den at D2
      cases q : fin F.keep m m' .non with
      | none => rw [q] at D2; exact False.elim D2
      | some z =>
        obtain ⟨z1, z2⟩ := z
        rw [q] at D2
        cases z1 with
        | exc y => exact False.elim (fin_noex q)
        | ok w' =>
          obtain ⟨e2, R2, r2⟩ := fin_ok (v := .non) R e' R' q rfl
          exact D2 ρ' H' e2 R2 .non r2
    | rt w0 =>
      have D2 : Den (N.wF Fb) ρ m H _ (fin F.keep m m' w0) _ := D1
      unfold Den at D2
      intro v rv
      cases q : fin F.keep m m' w0 with
      | none => rw [q] at D2; exact False.elim D2
      | some z =>
        obtain ⟨z1, z2⟩ := z
        rw [q] at D2
        cases z1 with
        | exc y => exact False.elim (fin_noex q)
        | ok w' =>
          obtain ⟨e2, R2, r2⟩ := fin_ok R e' R' q rv
          exact D2 ρ' H' e2 R2 v r2
    | ex x =>
      have D2 : Den (N.wF Fb) ρ m H _ (finx m m' x) _ := D1
      unfold Den at D2
      intro d rx
      cases q : finx m m' x with
      | none => rw [q] at D2; exact False.elim D2
      | some z =>
        obtain ⟨z1, z2⟩ := z
        rw [q] at D2
        cases z1 with
        | ok y => exact False.elim (finx_nook q)
        | exc y =>
          obtain ⟨e2, R2, r2⟩ := finx_ok R e' R' q rx
          have hc : y.c = x.c := by
            unfold finx at q
            split at q
            · cases q; rfl
            · cases q
          have := D2 ρ' H' e2 R2 d r2
          rw [hc] at this
          exact this
    | brk => exact False.elim D1
    | cnt => exact False.elim D1
theorem fn_zero {k : Nat} {T : Tab} {N : En} {P : Program} {w : World} {K : PySem.W.Frag} {mg : Str → Option Value} {base : Heap} {f : Nat} {a : Addr} {fd : FuncData} {ps : List Str} : FnOk P w K mg base (L2.CX P w) k a fd ps (spF T N 0 ps.length f) := by
  refine ⟨fun vs H Q E h => h.1, fun A outer s H args us vs Q E _ _ _ _ h => ?_⟩
  obtain ⟨_, _, _, _, _, _, _, D⟩ := h
  exact False.elim D
end WM
namespace WM
open PySem PySem.Spec PyProof.Rows L2

/-! ### own errors: raised, caught -/
/-- what is said of an own error's class (over ValueError, no own __init__) -/
structure XcK (K : PySem.W.Frag) (a : Addr) : Prop where
  q : PySem.W.excIn K a He.veBase "ValueError.__new__" = true
  k : PySem.W.keepIn K (.ref a) = true
  b : PySem.W.subIn K (.ref a) (.type "BaseException") = some true
  t : PySem.W.typeIn K (.ref a) = some (.type "type")
  m : PySem.W.exmOne K (.ref a) (.ref a) = some true
  i : ExcC K a
  v : PySem.W.kitOne K (.ref a) (.type "ValueError") = some true
def xcB (K : PySem.W.Frag) (a : Addr) : Bool :=
  PySem.W.excIn K a He.veBase "ValueError.__new__" && PySem.W.keepIn K (.ref a) && decide (PySem.W.subIn K (.ref a) (.type "BaseException") = some true) && decide (PySem.W.typeIn K (.ref a) = some (.type "type")) &&
  decide (PySem.W.exmOne K (.ref a) (.ref a) = some true) && He.eqO (PySem.W.findIn K (.ref a) "__getattribute__") (some (some (.builtin "BaseException.__getattribute__"))) && He.eqO (PySem.W.findIn K (.ref a) "__getattr__") (some none) &&
  PySem.W.hasDictIn K a && He.eqO (PySem.W.findIn K (.ref a) "__class__") (some (some (.builtin "object.__class__"))) && He.eqO (PySem.W.specialIn K (.builtin "object.__class__") "__get__") (some (some (.builtin "getset_descriptor.__get__"))) &&
  decide (PySem.W.takesIn K (.builtin "object.__class__") = some true) && decide (PySem.W.mroIn K a (.type "object") = some true) && decide (PySem.W.kitOne K (.ref a) (.type "ValueError") = some true)
theorem xcB_ok {K : PySem.W.Frag} {a : Addr} (h : xcB K a = true) : XcK K a := by
  unfold xcB at h
  simp only [Bool.and_eq_true, decide_eq_true_eq] at h
  obtain ⟨⟨⟨⟨⟨⟨⟨⟨⟨⟨⟨⟨h1, h2⟩, h3⟩, h4⟩, h5⟩, h6⟩, h7⟩, h8⟩, h9⟩, h10⟩, h11⟩, h12⟩, h13⟩ := h
  exact ⟨h1, h2, h3, h4, h5, ⟨He.eqO_ok h6, He.eqO_ok h7, h3, h8, He.eqO_ok h9, He.eqO_ok h10, h11, h12⟩, h13⟩

section
variable {T : Tab} {N : En} {C : Calls} {X : Cx} {Wx : WX}
theorem sim_raise {c : Nat} {x m : Str} {j : Nat} {p p2 pos pos2 : Pos} (hK : X.K = N.K) (hc : X.calm = true) (tk : Takes X Wx) (F : XcK N.K (N.ca c)) (g : X.mg x = some (.ref (N.ca c))) (hg : Gl X x) (hd : (x == ("__debug__" : Str)) = false) :
    PS X (.Raise (some (.Call (.Name x p) [.Constant (.str m) j p2] [] pos)) none pos2) (tS T N C (.raise c) Wx) := by
  have F' : XcK X.K (N.ca c) := by rw [hK]; exact F
  refine (ps_raise hc tk (pmk_own PySem.F.excBase_ValueError F'.q g F'.k (raises_own F'.b F'.t) hg hd)).imp fun D σ H ⟨Fb, ρ, mm, sg, R, S, h⟩ => ?_
  rw [evS] at h
  exact h ρ H σ Ext.refl R S none (.inl ⟨rfl, rfl⟩)
/-- what the suite wishes: the error stands in its slot -/
def sIs (N : En) (c i : Nat) : Addr → Value → Option Addr → TS := fun a cls d D σ H => cls = .ref (N.ca c) ∧ d = none ∧ σ[i]? = some (some (.ref a)) ∧ D.nx σ H
/-- if not isinstance(n, ValueError): return False -/
theorem suite_ok {c i : Nat} {n : Str} {a : Addr} {oe : Obj} {cls : Value} {d : Option Addr} {pn : List (Addr × Obj)} {p1 p2 p3 p4 p5 p6 p7 p8 : Pos} {j : Nat} (hK : X.K = N.K) (F : XcK N.K (N.ca c)) (hi : X.N[i]? = some n) (hln : X.env.kindOf n = some .local)
    (g1 : Gl X "isinstance") (m1 : X.mg "isinstance" = none) (g2 : Gl X "ValueError") (m2 : X.mg "ValueError" = none) (hd : (n == ("__debug__" : Str)) = false) (hcd : (n == ("__classdict__" : Str)) = false)
    (hz : Zc cls d oe) (hf : ∃ vs, oe.data = .fields vs) :
    PSs (X.suite a ((a, oe) :: pn)) [.If (.UnaryOp .Not (.Call (.Name "isinstance" p1) [.Name n p2, .Name "ValueError" p3] [] p4) p5) [.Return (some (.Constant (.bool false) j p6)) p7] [] p8] (sIs N c i a cls d) := by
  refine ⟨fun pins s σ H D I h => ?_⟩
  obtain ⟨rfl, rfl, hv, q⟩ := h
  have C1 : ExcC X.K (N.ca c) := by rw [hK]; exact F.i
  have v1 : PySem.W.kitOne X.K (.ref (N.ca c)) (.type "ValueError") = some true := by rw [hK]; exact F.v
  have hc := call_isE (X := X) (a := a) (oe := oe) (pn := pn) C1 hz hf
  have pa : PA (X.suite a ((a, oe) :: pn)) [.Name n p2, .Name "ValueError" p3] (tCons (tVar i) (tCons (tC (.ty "ValueError")) tNil)) :=
    pa_cons (pe_var (X := X.suite a ((a, oe) :: pn)) hi (.inl hln) hd hcd) (pa_cons (pe_bltn (X := X.suite a ((a, oe) :: pn)) (v := .ty "ValueError") (u := .type "ValueError") g2 m2 (by decide +kernel) rfl (by decide) (by decide)) pa_nil)
  have pc := pe_callB (X := X.suite a ((a, oe) :: pn)) (p := p1) (pos := p4) hc g1 m1 (by decide +kernel) pa (by decide) (by decide)
  have pr : PS (X.suite a ((a, oe) :: pn)) (.Return (some (.Constant (.bool false) j p6)) p7) _ := ps_ret pe_bl
  exact (pss_one (ps_if (pos := p8) (pt_not (pos := p5) (pt_val pc)) (pss_one pr) pss_nil)).run pins s σ H D I
    ⟨_, hv, .ty "ValueError", .type "ValueError", true, rfl, fun u r => r, v1, true, rfl, q⟩
theorem sim_tryB {c i : Nat} {body : List S} {x n : Str} {b : List Stmt} {np p1 p2 p3 p4 p5 p6 p7 p8 pos' pos : Pos} {j : Nat} (hK : X.K = N.K) (hs : X.stack = X.env :: X.outer) (hf : X.env.frame = some X.env.locals) (hN : X.N.Nodup) (hi : X.N[i]? = some n)
    (hln : X.env.kindOf n = some .local) (hc : Names X x (.ref (N.ca c))) (tk : Takes X Wx) (F : XcK N.K (N.ca c))
    (hb : ∀ (W : WX) (pn : List (Addr × Obj)) (xe : Value → Shared → Prop), Takes (X.tr pn xe) W → PassesOwn (model X.prog X.w) X.A X.env xe → PSs (X.tr pn xe) b (tSs T N C body W))
    (g1 : Gl X "isinstance") (m1 : X.mg "isinstance" = none) (g2 : Gl X "ValueError") (m2 : X.mg "ValueError" = none) (hd : (n == ("__debug__" : Str)) = false) (hcd : (n == ("__classdict__" : Str)) = false) :
    PS X (.Try b [.ExceptHandler (some (.Name x np)) (some n) [.If (.UnaryOp .Not (.Call (.Name "isinstance" p1) [.Name n p2, .Name "ValueError" p3] [] p4) p5) [.Return (some (.Constant (.bool false) j p6)) p7] [] p8] pos'] [] [] pos)
      (tS T N C (.tryB c body i) Wx) := by
  refine (ps_try_as (tb := fun W => tSs T N C body W) (ts := sIs N c i) (Wout := Wx) hs hf hN hi hln hc tk hb (fun a oe cls d pn hz hfl => suite_ok hK F hi hln g1 m1 g2 m2 hd hcd hz hfl)).imp fun D σ H ⟨Fb, ρ, m, sg, R, S, h⟩ => ?_
  rw [evS] at h
  refine ⟨Fb, ρ, m, sg, R, S, ?_⟩
  replace h : DenS (N.wF Fb) ρ m H Wx D (catchS c i (evSs T C body sg m)) := h
  cases e : evSs T C body sg m with
  | none => rw [e] at h; exact h
  | some r =>
    obtain ⟨o, sg', m'⟩ := r
    rw [e] at h
    cases o with
    | nx => exact h
    | brk => exact h
    | cnt => exact h
    | rt w => exact h
    | ex y =>
      have h' : DenS (N.wF Fb) ρ m H Wx D (if y.c = c ∧ y.fs.length = 0 ∧ i < sg'.length then some (.nx, sg'.set i none, m') else none) := h
      by_cases q : y.c = c ∧ y.fs.length = 0 ∧ i < sg'.length
      · rw [if_pos q] at h'
        obtain ⟨q1, q2, q3⟩ := q
        intro ρ' H' σ' e' R' S' d rx
        have hnil : y.fs = [] := List.eq_nil_of_length_eq_zero q2
        have hdn : d = none := by
          rcases rx with ⟨_, z⟩ | ⟨p, vs, z0, _⟩
          · exact z
          · exact absurd hnil z0
        refine ⟨true, by rw [hK, q1]; exact F.m, fun _ a ha => ⟨by rw [q1]; rfl, ?_, ?_, ?_⟩, fun z => Bool.noConfusion z⟩
        · exact hdn
        · have hl : i < σ'.length := by rw [← S'.1]; exact q3
          rw [List.getElem?_set_self hl]
        · show D.nx ((σ'.set i (some (.ref a))).set i none) H'
          rw [List.set_set]
          exact h' ρ' H' (σ'.set i none) e' R' (S'.setN i)
      · rw [if_neg q] at h'
        exact h'.elim
end
end WM
namespace WM
open PySem PySem.Spec PyProof.Rows L2

/-! ### o.remove(e): items that are data -/
def rRemD (K : PySem.W.Frag) : V → List V → Hp → VK → Prop := fun x xs H Q => ∃ (l : Addr) (vs : List V) (y : V) (d : PyData) (ds : List PyData) (j : Nat), x = .ref l ∧ xs = [y] ∧ H l = some (.lst vs) ∧ DpAll K H vs ds ∧ Dp K H y d ∧
  SeqAt.shaped (.list ds) = true ∧ SeqAt.shaped d = true ∧ ds.findIdx? (fun z => PyData.eqv z d) = some j ∧ Q .non (upd H l (.lst (vs.eraseIdx j)))
theorem mt_removeD {X : Cx} (hu : X.A.units + 65 < cLine) : MtM X "list.remove" (rRemD X.K) := by
  intro pins s σ H x xs v us Q I rx rxs h
  obtain ⟨l, vs, y, d, ds, j, rfl, rfl, hH, hl, hy, sl, sd, hj, q⟩ := h
  cases rx
  obtain ⟨u, rfl, ru⟩ := rxs.one
  obtain ⟨z, its, n, r, hlen, e⟩ := I.lstM hH
  obtain ⟨bs, r1⟩ := Dp.reads I d y u hy ru
  obtain ⟨as, h4⟩ := Dp.readsAll I ds vs its hl r
  have hxs : PyData.canLayAll0 ds = true := SeqAt.canLay_of_shaped sl
  refine SeqAt.remove_list_data (l := l) (vs := its.toArray) (xs := ds) (d := d) (as := as) (bs := bs) (j := j) ⟨_, e, rfl, n, rfl⟩ h4 r1 (PyData.plainAll_of_canLay0 ds hxs) (PyData.plain_of_canLay0 d (SeqAt.canLay_of_shaped sd)) (room_in_shaped sd hu) hj
    (by rw [List.size_toArray, ← hlen]; exact z) ?_
  have rr := r.eraseIdx j
  refine ⟨.non, _, I.lset (its' := its.eraseIdx j) (t' := s.toks) hH e ?_ rr ?_, rfl, q⟩
  · show its.toArray.eraseIdxIfInBounds j = (its.eraseIdx j).toArray
    rw [List.eraseIdxIfInBounds_toArray]
  · exact Nat.le_trans (List.length_eraseIdx_le vs j) z
theorem find_datP {x : W} (hx : W.isD 58 x = true) : ∀ (ws : List W) (n : Nat), W.isDs n ws = true → (datsP ws).findIdx? (fun z => PyData.eqv z (datP x)) = ws.findIdx? fun y => W.eqv y x
  | [], _, _ => rfl
  | w :: ws, n, h => by
    rw [W.isDs, Bool.and_eq_true] at h
    rw [datsP, List.findIdx?_cons, List.findIdx?_cons, find_datP hx ws n h.2, eqv_datP w x n 58 h.1 hx]
section
variable {T : Tab} {N : En} {C : Calls} {X : Cx} {Wx : WX}
theorem RVs.eraseIdx {N : En} {ρ k H} : ∀ {ws : List W} {vs : List V} (j : Nat), RVs N ρ k H ws vs → RVs N ρ k H (ws.eraseIdx j) (vs.eraseIdx j)
  | [], _, j, h => by
    have e : _ = [] := h
    subst e
    cases j <;> rfl
  | w :: ws, _, 0, ⟨v, r, h1, h2, h3⟩ => by rw [h1]; exact h3
  | w :: ws, _, j + 1, ⟨v, r, h1, h2, h3⟩ => by rw [h1]; exact ⟨v, r.eraseIdx j, rfl, h2, RVs.eraseIdx j h3⟩
theorem remW_inv {y : W} {xs zs : List W} (h : remW y xs = some zs) : W.isD 58 y = true ∧ W.isDs 57 xs = true ∧ ∃ j, xs.findIdx? (fun z => W.eqv z y) = some j ∧ zs = xs.eraseIdx j := by
  unfold remW at h
  split at h
  · rename_i hc
    rw [Bool.and_eq_true] at hc
    split at h
    · rename_i j hj
      cases h
      exact ⟨hc.1, hc.2, j, hj, rfl⟩
    · cases h
  · cases h
theorem sim_rem {o e : Expr} {o' e' : E} {apos cpos pos : Pos} (hK : X.K = N.K) (hu : X.A.units + 65 < cLine) (ho : PE X o (tE T N C o' Wx)) (he : PE X e (tE T N C e' Wx)) (hb : plainBase o = true) (ns : notStar e = true) (hl : (apos.endLine == cpos.line) = true) :
    PS X (.Expr (.Call (.Attribute o "remove" apos) [e] [] cpos) pos) (tS T N C (.rem o' e') Wx) := by
  have hfew : ((backTo cpos (starEach [e] X.env)).all (fun x => !x.1) && (backToKw cpos (keywordEach [] X.env)).all (fun x => x.1.isSome)
      && decide ([e].length + ([] : List Keyword).length + (if ([] : List Keyword).isEmpty then 0 else 1) < 30)) = true := by
    rw [star_cons ns]; rfl
  have hc := pe_bm (cpos := cpos) (apos := apos) (X := X) PySem.F.plainAttrs_list PySem.F.slot_list_remove PySem.F.type_list_remove (mt_removeD hu) ho (pa_cons he pa_nil (star_cons ns)) (base_ok hb) hfew hl (star_cons ns) rfl
  rw [hK] at hc
  refine (ps_expr hc rfl).imp fun D σ H ⟨F, ρ, m, sg, R, S, h⟩ => ?_
  rw [evS] at h
  refine tE.mk R S (Den.bind (h.lft S)) fun x ρ1 m1 H1 u e1 R1 D1 ru => ?_
  obtain ⟨n, xs0, ex, hq0, D2⟩ := Den.lstM D1
  obtain ⟨vs0, hv0, _⟩ := R1.obj _ _ hq0
  subst ex
  refine ⟨?_, ?_⟩
  · rw [ru.2]
    exact .inl ⟨rfl, vs0, SqL.of hv0⟩
  refine tE.mk R1 (S.mono e1) (Den.bind D2) fun y ρ2 m2 H2 v e2 R2 D3 rv => ?_
  have ru2 := RV.mono e2 _ _ ru
  have D4 : Den (N.wF F) ρ2 m2 H2 (WS (N.wF F) Wx σ) (match hget m2 n with
    | some (.lst xs) => match remW y xs with
      | some zs => some (Res.ok W.non, hset m2 n (.lst zs))
      | none => none
    | _ => none) (fun _ ρ' m' H' => DenS (N.wF F) ρ' m' H' Wx D (some (.nx, sg, m'))) := D3
  cases hq : hget m2 n with
  | none => rw [hq] at D4; exact False.elim D4
  | some ob =>
    rw [hq] at D4
    cases ob with
    | lst xs =>
      obtain ⟨vs, h1, h2, h3⟩ := R2.obj _ _ hq
      dsimp only at D4
      cases hr : remW y xs with
      | none => rw [hr] at D4; exact False.elim D4
      | some zs =>
        rw [hr] at D4
        dsimp only at D4
        obtain ⟨d1, d2, j, d3, d4⟩ := remW_inv hr
        subst d4
        have h3' := h3.eraseIdx j
        have ex := Ext.write (o := .lst (vs.eraseIdx j)) R2 ru2.1
        have Rw : Rl (N.wF F) ρ2 (hset m2 n (.lst (xs.eraseIdx j))) (upd H2 (ρ2 n) (.lst (vs.eraseIdx j))) :=
          R2.write ru2.1 ⟨_, upd_same, Nat.le_trans (List.length_eraseIdx_le vs j) h2, RVs.mono ex _ _ h3'⟩
        have ex' : Ext (N.wF F) ρ2 m2.length H2 ρ2 (hset m2 n (.lst (xs.eraseIdx j))).length (upd H2 (ρ2 n) (.lst (vs.eraseIdx j))) := by rw [hset_length]; exact ex
        exact ⟨ρ2 n, vs, v, datP y, datsP xs, j, ru2.2, rfl, h1, RVs.dp (N := N.wF F) xs vs 57 d2 h3, RV.dp (N := N.wF F) y v 58 d1 rv, shapedL d2, shaped58 d1, by rw [find_datP d1 xs 57 d2]; exact d3,
          DenS.nx (D4 ρ2 _ ex' Rw) Rw (S.mono ((e1.trans e2).trans ex'))⟩
    | _ => exact False.elim D4

/-! ### list(range(n)), tuple(range(n)) -/
theorem rng0M_inv {α : Type} {ρ m H WW} {x : W} {f : List W → M α} {P : α → (Nat → Addr) → Hm → Hp → Prop} (D : Den N ρ m H WW (bnd (rng0M x) f m) P) : ∃ j : Int, x = .int j ∧ -(2 ^ 62) ≤ (0 : Int) ∧ j < 2 ^ 62 ∧ -(2 ^ 62) ≤ j ∧ j.toNat ≤ sizeLine ∧
    Den N ρ m H WW (f ((List.range j.toNat).map fun (k : Nat) => W.int (0 + (k : Int))) m) P := by
  cases x with
  | int j =>
    obtain ⟨ws, hw, D2⟩ := Den.optb (show Den N ρ m H WW (bnd (WM.opt (rngW 0 j)) f m) P from D)
    obtain ⟨⟨b0, _, b1, b2⟩, hz, e⟩ := rng_inv hw
    subst e
    rw [Int.sub_zero] at hz D2
    exact ⟨j, rfl, b0, b2, b1, hz, D2⟩
  | _ => exact False.elim D
theorem rv_rg {N : En} {ρ k H} : ∀ l : List Nat, RVs N ρ k H (l.map fun (k : Nat) => W.int (0 + (k : Int))) (l.map fun (i : Nat) => V.int (0 + (i : Nat)))
  | [] => rfl
  | i :: l => ⟨_, _, rfl, rfl, rv_rg l⟩
theorem sim_trng {a : Expr} {a' : E} {p p2 pos pos2 : Pos} (hc : X.calm = true) (g1 : Gl X "tuple") (m1 : X.mg "tuple" = none) (g2 : Gl X "range") (m2 : X.mg "range" = none) (ha : PE X a (tE T N C a' Wx)) (ns : notStar a = true) :
    PE X (.Call (.Name "tuple" p) [.Call (.Name "range" p2) [a] [] pos2] [] pos) (tE T N C (.trng a') Wx) := by
  refine (pe_tupRg hc g1 m1 (prg_1 g2 m2 ha (star_cons ns))).imp fun σ H Q ⟨F, ρ, m, sg, R, S, D⟩ => ?_
  rw [evE] at D
  refine tE.mk R S (Den.bind D) fun x ρ1 m1 H1 v e1 R1 D1 rv => ?_
  obtain ⟨j, ex, b0, b1, b2, hz, D2⟩ := rng0M_inv D1
  subst ex
  have hsl := sizeLine_eq
  refine ⟨j, rv, ⟨b0, by omega, b2, b1, by rw [Int.sub_zero]; omega⟩, fun q hq => ?_⟩
  have e2 : rgV 0 j = (List.range j.toNat).map fun (i : Nat) => V.int (0 + (i : Nat)) := by unfold rgV; rw [Int.sub_zero]
  rw [e2]
  exact Den.at' D2 (Ext.new R1 hq) (R1.new hq) _ (RV.newT R1 hq (by rw [List.length_map, List.length_range]; exact hz) (rv_rg _))
theorem sim_lrng {a : Expr} {a' : E} {p p2 pos pos2 : Pos} (hc : X.calm = true) (g1 : Gl X "list") (m1 : X.mg "list" = none) (g2 : Gl X "range") (m2 : X.mg "range" = none) (ha : PE X a (tE T N C a' Wx)) (ns : notStar a = true) :
    PE X (.Call (.Name "list" p) [.Call (.Name "range" p2) [a] [] pos2] [] pos) (tE T N C (.lrng a') Wx) := by
  refine (pe_listRg hc g1 m1 (prg_1 g2 m2 ha (star_cons ns))).imp fun σ H Q ⟨F, ρ, m, sg, R, S, D⟩ => ?_
  rw [evE] at D
  refine tE.mk R S (Den.bind D) fun x ρ1 m1 H1 v e1 R1 D1 rv => ?_
  obtain ⟨j, ex, b0, b1, b2, hz, D2⟩ := rng0M_inv D1
  subst ex
  have hsl := sizeLine_eq
  refine ⟨j, rv, ⟨b0, by omega, b2, b1, by rw [Int.sub_zero]; omega⟩, fun q hq => ?_⟩
  have e2 : rgV 0 j = (List.range j.toNat).map fun (i : Nat) => V.int (0 + (i : Nat)) := by unfold rgV; rw [Int.sub_zero]
  rw [e2]
  exact Den.at' D2 (Ext.new R1 hq) (R1.new hq) _ (RV.newL R1 hq (by rw [List.length_map, List.length_range]; exact hz) (rv_rg _))
end
end WM
namespace WM
open PySem PySem.Spec PyProof.Rows L2

/-! ### looking at the text -/
def vName : Expr → Option Str
  | .Name x _ => some x
  | _ => none
def vConst : Expr → Option Const
  | .Constant c _ _ => some c
  | _ => none
def vTuple : Expr → Option (List Expr)
  | .Tuple es _ _ => some es
  | _ => none
def vList : Expr → Option (List Expr)
  | .List es _ => some es
  | _ => none
def vBin : Expr → Option (Expr × Operator × Expr)
  | .BinOp a o b _ => some (a, o, b)
  | _ => none
def vUn : Expr → Option (UnaryOp × Expr)
  | .UnaryOp o a _ => some (o, a)
  | _ => none
def vBO : Expr → Option (BoolOp × List Expr × Pos)
  | .BoolOp o es p => some (o, es, p)
  | _ => none
def vCmp : Expr → Option (Expr × List CmpOp × List Expr)
  | .Compare a o b _ => some (a, o, b)
  | _ => none
def vIf : Expr → Option (Expr × Expr × Expr)
  | .IfExp a o b _ => some (a, o, b)
  | _ => none
def vSub : Expr → Option (Expr × Expr)
  | .Subscript a b _ => some (a, b)
  | _ => none
def vSlice : Expr → Option (Option Expr × Option Expr × Option Expr)
  | .Slice a b c _ => some (a, b, c)
  | _ => none
def vCall : Expr → Option (Expr × List Expr × List Keyword)
  | .Call a b c _ => some (a, b, c)
  | _ => none
def vComp : Expr → Option (Expr × List Comprehension × Scope)
  | .ListComp a b c _ => some (a, b, c)
  | _ => none
def vDComp : Expr → Option (Expr × Expr × List Comprehension × Scope)
  | .DictComp a v b c _ => some (a, v, b, c)
  | _ => none
theorem vName_inv {e x} (h : vName e = some x) : ∃ p, e = .Name x p := by cases e <;> first | (cases h; exact ⟨_, rfl⟩) | cases h
theorem vConst_inv {e x} (h : vConst e = some x) : ∃ j p, e = .Constant x j p := by cases e <;> first | (cases h; exact ⟨_, _, rfl⟩) | cases h
theorem vTuple_inv {e x} (h : vTuple e = some x) : ∃ j p, e = .Tuple x j p := by cases e <;> first | (cases h; exact ⟨_, _, rfl⟩) | cases h
theorem vList_inv {e x} (h : vList e = some x) : ∃ p, e = .List x p := by cases e <;> first | (cases h; exact ⟨_, rfl⟩) | cases h
theorem vBin_inv {e a o b} (h : vBin e = some (a, o, b)) : ∃ p, e = .BinOp a o b p := by cases e <;> first | (cases h; exact ⟨_, rfl⟩) | cases h
theorem vUn_inv {e o a} (h : vUn e = some (o, a)) : ∃ p, e = .UnaryOp o a p := by cases e <;> first | (cases h; exact ⟨_, rfl⟩) | cases h
theorem vBO_inv {e o a p} (h : vBO e = some (o, a, p)) : e = .BoolOp o a p := by cases e <;> first | (cases h; exact rfl) | cases h
theorem vCmp_inv {e a o b} (h : vCmp e = some (a, o, b)) : ∃ p, e = .Compare a o b p := by cases e <;> first | (cases h; exact ⟨_, rfl⟩) | cases h
theorem vIf_inv {e a o b} (h : vIf e = some (a, o, b)) : ∃ p, e = .IfExp a o b p := by cases e <;> first | (cases h; exact ⟨_, rfl⟩) | cases h
theorem vSub_inv {e a b} (h : vSub e = some (a, b)) : ∃ p, e = .Subscript a b p := by cases e <;> first | (cases h; exact ⟨_, rfl⟩) | cases h
theorem vSlice_inv {e a b c} (h : vSlice e = some (a, b, c)) : ∃ p, e = .Slice a b c p := by cases e <;> first | (cases h; exact ⟨_, rfl⟩) | cases h
theorem vCall_inv {e a b c} (h : vCall e = some (a, b, c)) : ∃ p, e = .Call a b c p := by cases e <;> first | (cases h; exact ⟨_, rfl⟩) | cases h
theorem vDComp_inv {e a v b c} (h : vDComp e = some (a, v, b, c)) : ∃ p, e = .DictComp a v b c p := by cases e <;> first | (cases h; exact ⟨_, rfl⟩) | cases h
theorem vComp_inv {e a b c} (h : vComp e = some (a, b, c)) : ∃ p, e = .ListComp a b c p := by cases e <;> first | (cases h; exact ⟨_, rfl⟩) | cases h

def vRevS : Expr → Bool
  | .Slice none none (some (.UnaryOp .USub (.Constant (.int 1) _ _) _)) _ => true
  | _ => false
theorem vRevS_inv {e : Expr} (h : vRevS e = true) : ∃ k p1 p2 p3, e = .Slice none none (some (.UnaryOp .USub (.Constant (.int 1) k p1) p2)) p3 := by
  unfold vRevS at h
  split at h
  · exact ⟨_, _, _, _, rfl⟩
  · cases h
def vDict : Expr → Option (List (Option Expr) × List Expr)
  | .Dict a b _ => some (a, b)
  | _ => none
theorem vDict_inv {e a b} (h : vDict e = some (a, b)) : ∃ p, e = .Dict a b p := by cases e <;> first | (cases h; exact ⟨_, rfl⟩) | cases h
/-- the keys are these ints -/
def keysB : List Int → List (Option Expr) → Bool
  | [], [] => true
  | k :: ks, some (.Constant (.int i) _ _) :: r => decide (i = k) && keysB ks r
  | _, _ => false
def isTupE : Expr → Bool
  | .Tuple .. => true
  | _ => false
structure TI where
  fname : Nat → Str
  gname : Nat → Str
  /-- classes: their names, their fields; of which class a def is a method -/
  cl : List Nat := []
  cname : Nat → Str := fun _ => Str.empty
  flds : Nat → List Str := fun _ => []
  mth : Nat → Option Nat := fun _ => none
  /-- own errors' classes (their names in cname) -/
  xcl : List Nat := []
def TI.isX (I : TI) (c : Nat) : Bool := I.xcl.contains c
def TI.isC (I : TI) (c : Nat) : Bool := I.cl.contains c
structure SC where
  N : List Str
  sc : Scope
  blk : Bool
def visB (S : SC) (x : Str) : Bool := match S.sc.names.lookup x with
  | some .local => true
  | some .cell => true
  | some .free => true
  | _ => false
def glB (S : SC) (x : Str) : Bool := match S.sc.names.lookup x with
  | some .globalImplicit => true
  | _ => false
def locB (S : SC) (x : Str) : Bool := match S.sc.names.lookup x with
  | some .local => true
  | some .cell => !S.blk
  | _ => false
def undbg (x : Str) : Bool := !(x == ("__debug__" : Str)) && !(x == ("__classdict__" : Str))
def plainTest : Expr → Bool
  | .UnaryOp .Not _ _ => false
  | .BoolOp .. => false
  | .IfExp .. => false
  | .Compare .. => false
  | _ => true
theorem plain_true {e : Expr} {env : Env} (h : plainTest e = true) (whole : Sem Value) : isTrue e env whole = (do let v ← whole; standAt e.pos; holding [v] (truthy v)) := by
  cases e with
  | UnaryOp op a p => cases op <;> first | rfl | cases h
  | BoolOp => cases h
  | IfExp => cases h
  | Compare => cases h
  | _ => rfl
def litB : W → Const → Bool
  | .non, .none => true
  | .bl b, .bool c => b == c
  | .int i, .int j => decide (i = j)
  | .str x, .str y => decide (x = y)
  | _, _ => false
def opC : Cop → CmpOp
  | .eq => .Eq | .ne => .NotEq | .lt => .Lt | .le => .LtE | .gt => .Gt | .ge => .GtE | .is => .Is | .isnot => .IsNot | .isin => .In | .notin => .NotIn
def copOk : Cop → Bool
  | .isin => false
  | .notin => false
  | _ => true
def isNop : E → Bool
  | .nop => true
  | _ => false
/-- a built-in by its name: its name, whether it is a type, how many arguments -/
def biN : Bi → Option (String × Bool)
  | .len => some ("len", false)
  | .int => some ("int", true)
  | .list => some ("list", true)
  | .tuple => some ("tuple", true)
  | .min2 => some ("min", false)
  | .max2 => some ("max", false)
  | .abs => some ("abs", false)
  | .sum => some ("sum", false)
  | .all => some ("all", false)
  | .any => some ("any", false)
  | .sorted => some ("sorted", false)
  | _ => none
def tyNames : List String := ["int", "bool", "str", "tuple", "list", "dict"]
def bNames : List String := ["len", "int", "list", "tuple", "min", "max", "abs", "sum", "all", "any", "range", "isinstance", "bool", "str", "dict", "enumerate", "zip", "reversed", "sorted", "set", "ValueError"]
def notSet : Expr → Bool
  | .Set .. => false
  | _ => true
theorem noset {e : Expr} {env : Env} (h : notSet e = true) : ∀ x, foldedSetIterable e env x = pure x := by
  intro x
  cases e <;> first | rfl | cases h
def ownB (N : List Str) (own : List Nat) : List (Str × Nat) := own.map fun i => (N.getD i Str.empty, i)
mutual
def ckT : Tg → SC → Expr → Bool
  | .v i, S, e => match vName e with
    | some x => decide (S.N[i]? = some x) && locB S x
    | none => false
  | .t ts, S, e => match vTuple e with
    | some es => ckTs ts S es && decide (es.length = ts.length)
    | none => false
def ckTs : List Tg → SC → List Expr → Bool
  | [], _, [] => true
  | t :: ts, S, e :: es => ckT t S e && notStar e && ckTs ts S es
  | _, _, _ => false
end
mutual
def ck (T : Tab) (I : TI) : E → Bool → SC → Expr → Bool
  | .lit w, _, _, e => match vConst e with
    | some c => litB w c
    | none => false
  | .var i, _, S, e => match vName e with
    | some x => decide (S.N[i]? = some x) && visB S x && undbg x
    | none => false
  | .glob g, _, S, e => match vName e with
    | some x => decide (x = I.gname g) && glB S x && undbg x
    | none => false
  | .tup es, _, S, e => match vTuple e with
    | some xs => cks T I es S xs && decide (es.length ≤ 1000)
    | none => false
  | .lst es, _, S, e => match vList e with
    | some xs => cks T I es S xs && decide (es.length ≤ 1000)
    | none => false
  | .newl es, _, S, e => match vList e with
    | some xs => cks T I es S xs && decide (es.length ≤ 1000)
    | none => false
  | .bin o a b, _, S, e => match vBin e with
    | some (x, p, y) => decide (opB o = p) && ck T I a false S x && ck T I b false S y
    | none => false
  | .sset a, _, S, e => match vCall e with
    | some (fn, [x0], []) => match vName fn, vCall x0 with
      | some nm, some (fn2, [x], []) => match vName fn2 with
        | some nm2 => decide (nm = Str.ofString "sorted") && decide (nm2 = Str.ofString "set") && glB S nm && glB S nm2 && ck T I a false S x && notStar x
        | none => false
      | _, _ => false
    | _ => false
  | .trng a, _, S, e => match vCall e with
    | some (fn, [x0], []) => match vName fn, vCall x0 with
      | some nm, some (fn2, [x], []) => match vName fn2 with
        | some nm2 => decide (nm = Str.ofString "tuple") && decide (nm2 = Str.ofString "range") && glB S nm && glB S nm2 && ck T I a false S x && notStar x
        | none => false
      | _, _ => false
    | _ => false
  | .lrng a, _, S, e => match vCall e with
    | some (fn, [x0], []) => match vName fn, vCall x0 with
      | some nm, some (fn2, [x], []) => match vName fn2 with
        | some nm2 => decide (nm = Str.ofString "list") && decide (nm2 = Str.ofString "range") && glB S nm && glB S nm2 && ck T I a false S x && notStar x
        | none => false
      | _, _ => false
    | _ => false
  | .cat a b, _, S, e => match vBin e with
    | some (x, .Add, y) => ck T I a false S x && ck T I b false S y
    | _ => false
  | .neg a, _, S, e => match vUn e with
    | some (.USub, x) => ck T I a false S x
    | _ => false
  | .not a, md, S, e => match vUn e with
    | some (.Not, x) => ck T I a md S x
    | _ => false
  | .and a b, md, S, e => match vBO e with
    | some (.And, [x, y], _) => ck T I a md S x && ck T I b md S y
    | some (.And, x :: y :: z :: r, p) => ck T I a md S x && ck T I b md S (.BoolOp .And (y :: z :: r) p)
    | _ => false
  | .or a b, md, S, e => match vBO e with
    | some (.Or, [x, y], _) => ck T I a md S x && ck T I b md S y
    | some (.Or, x :: y :: z :: r, p) => ck T I a md S x && ck T I b md S (.BoolOp .Or (y :: z :: r) p)
    | _ => false
  | .cmp o a b, _, S, e => match vCmp e with
    | some (x, [p], [y]) => decide (opC o = p) && copOk o && ck T I a false S x && ck T I b false S y
    | _ => false
  | .cmp2 o o2 a b c, _, S, e => match vCmp e with
    | some (x, [p, p2], [y, z]) => decide (opC o = p) && copOk o && decide (opC o2 = p2) && copOk o2 && ck T I a false S x && ck T I b false S y && ck T I c false S z
    | _ => false
  | .ife c a b, md, S, e => match vIf e with
    | some (x, y, z) => !md && ck T I c true S x && ck T I a false S y && ck T I b false S z
    | none => false
  | .idx a b, _, S, e => match vSub e with
    | some (x, y) => ck T I a false S x && ck T I b false S y && notSlice y
    | none => false
  | .slc a lo hi, _, S, e => match vSub e with
    | some (x, y) => match vSlice y with
      | some (l, h, none) => ck T I a false S x && (match l with
          | none => isNop lo
          | some l => !isNop lo && ck T I lo false S l) && (match h with
          | none => isNop hi
          | some h => !isNop hi && ck T I hi false S h)
      | _ => false
    | none => false
  | .call f es, _, S, e => match vCall e with
    | some (fn, x :: xs, []) => match vName fn with
      | some n => decide (n = I.fname f) && decide (I.mth f = none) && glB S n && undbg n && cks T I es S (x :: xs) && (match T.fn f with
          | some F => decide (F.np = es.length)
          | none => false)
      | none => false
    | _ => false
  | .bi b es, _, S, e => match vCall e with
    | some (fn, x :: xs, []) => match vName fn with
      | some n => (match biN b with
          | some (nm, _) => decide (n = Str.ofString nm) && glB S n && cks T I es S (x :: xs)
          | none => false)
      | none => false
    | _ => false
  | .rev a, _, S, e => match vSub e with
    | some (x, y) => vRevS y && ck T I a false S x
    | none => false
  | .isin ng a b, _, S, e => match vCmp e with
    | some (x, [p], [y]) => decide (inOp ng = p) && !behindInMarks (inOp ng) y && ck T I a false S x && ck T I b false S y
    | _ => false
  | .dsel ks es i, _, S, e => match vSub e with
    | some (x, y) => (match vDict x with
      | some (keys, values) => keysB ks keys && cks T I es S values && ck T I i false S y && notSlice y && decide (ks.Nodup) && decide (ks.length = es.length) && decide (ks ≠ []) && decide (ks.length ≤ 15)
      | none => false)
    | none => false
  | .cmp3 o o2 o3 a b c d, md, S, e => match vCmp e with
    | some (x, [p, p2, p3], [y, z, w]) => !md && decide (opC o = p) && copOk o && decide (opC o2 = p2) && copOk o2 && decide (opC o3 = p3) && copOk o3 && ck T I a false S x && ck T I b false S y && ck T I c false S z && ck T I d false S w
    | _ => false
  | .cut a lo hi, _, S, e => (match vSub e with
        | some (u, y) => (match vSlice y with
          | some (l, h, none) => ck T I a false S u && (match l with
              | none => isNop lo
              | some l => !isNop lo && ck T I lo false S l) && (match h with
              | none => isNop hi
              | some h => !isNop hi && ck T I hi false S h)
          | _ => false)
        | none => false)
  | .attr c f a, _, S, e => match e with
    | .Attribute x nm _ => I.isC c && decide ((I.flds c)[f]? = some nm) && ck T I a false S x && plainBase x
    | _ => false
  | .meth c f o es, _, S, e => match e with
    | .Call (.Attribute oe nm apos) args [] cpos => I.isC c && decide (I.mth f = some c) && decide (I.fname f = nm) && decide (nm ≠ Str.ofString "__init__") && decide (nm ∉ I.flds c) && ck T I o false S oe && cks T I es S args && (match T.fn f with
          | some F => decide (F.np = es.length + 1)
          | none => false) && plainBase oe && (apos.endLine == cpos.line) && decide (args.length < 29)
    | _ => false
  | .make c f es, _, S, e => match vCall e with
    | some (fn, x :: xs, []) => match vName fn with
      | some n => I.isC c && decide (I.mth f = some c) && decide (I.fname f = Str.ofString "__init__") && decide (n = I.cname c) && glB S n && undbg n && cks T I es S (x :: xs) && (match T.fn f with
          | some F => decide (F.np = es.length + 1)
          | none => false)
      | none => false
    | _ => false
  | .pop a, _, S, e => match e with
    | .Call (.Attribute z nm apos) [] [] cpos => decide (nm = Str.ofString "pop") && ck T I a false S z && plainBase z && (apos.endLine == cpos.line)
    | _ => false
  | .dnew _, _, _, e => match vDict e with
    | some ([], []) => true
    | _ => false
  | .din t ng k d, _, S, e => match vCmp e with
    | some (x, [p], [z]) => decide (inOp ng = p) && !behindInMarks (inOp ng) z && (match t, k with
      | false, k => ck T I k false S x
      | true, .tup es => (match vTuple x with
        | some xs => cks T I es S xs && decide (es.length ≤ 1000)
        | none => false)
      | true, .cut a lo hi => (match vSub x with
        | some (u, y) => (match vSlice y with
          | some (l, h, none) => ck T I a false S u && (match l with
              | none => isNop lo
              | some l => !isNop lo && ck T I lo false S l) && (match h with
              | none => isNop hi
              | some h => !isNop hi && ck T I hi false S h)
          | _ => false)
        | none => false)
      | true, _ => false) && ck T I d false S z
    | _ => false
  | .dget t d k, _, S, e => match vSub e with
    | some (z, x) => (match t, k with
      | false, k => ck T I k false S x
      | true, .tup es => (match vTuple x with
        | some xs => cks T I es S xs && decide (es.length ≤ 1000)
        | none => false)
      | true, .cut a lo hi => (match vSub x with
        | some (u, y) => (match vSlice y with
          | some (l, h, none) => ck T I a false S u && (match l with
              | none => isNop lo
              | some l => !isNop lo && ck T I lo false S l) && (match h with
              | none => isNop hi
              | some h => !isNop hi && ck T I hi false S h)
          | _ => false)
        | none => false)
      | true, _ => false) && ck T I d false S z && notSlice x
    | _ => false
  | .dget2 t d k w, _, S, e => match e with
    | .Call (.Attribute z nm apos) [x, v] [] cpos => decide (nm = Str.ofString "get") && (match t, k with
      | false, k => ck T I k false S x
      | true, .tup es => (match vTuple x with
        | some xs => cks T I es S xs && decide (es.length ≤ 1000)
        | none => false)
      | true, .cut a lo hi => (match vSub x with
        | some (u, y) => (match vSlice y with
          | some (l, h, none) => ck T I a false S u && (match l with
              | none => isNop lo
              | some l => !isNop lo && ck T I lo false S l) && (match h with
              | none => isNop hi
              | some h => !isNop hi && ck T I hi false S h)
          | _ => false)
        | none => false)
      | true, _ => false) && ck T I d false S z && ck T I w false S v && plainBase z && notStar x && notStar v && (apos.endLine == cpos.line)
    | _ => false
  | .isi a t, _, S, e => match vCall e with
    | some (fn, [x, y], []) => match vName fn, vName y with
      | some n, some ty => decide (n = Str.ofString "isinstance") && decide (ty = Str.ofString t) && decide (t ∈ tyNames) && glB S n && glB S ty && ck T I a false S x && notStar x
      | _, _ => false
    | _ => false
  | .sdc elt tg src cond own, _, S, e => match vCall e with
    | some (fn, [x0], []) => match vName fn, vDComp x0 with
      | some nm, some (x, vx, [⟨tgE, it, ifs, asy⟩], scope) => (decide (nm = Str.ofString "sorted") && glB S nm && notStar x0 && (match vConst vx with
          | some c => litB (.bl true) c
          | none => false)) && (decide (asy = 0) && ckI T I src S tgE it && notSet it && blkC S.N S.sc scope (ownB S.N own) && ckT tg ⟨S.N, relS scope S.sc, true⟩ tgE &&
        (match ifs with
          | [] => (match cond with
            | .lit (.bl true) => true
            | _ => false)
          | [c] => ck T I cond true ⟨S.N, relS scope S.sc, true⟩ c
          | _ => false) && ck T I elt false ⟨S.N, relS scope S.sc, true⟩ x && tg.ix.all fun i => own.contains i)
      | _, _ => false
    | _ => false
  | .compL elt tg src cond own, _, S, e => match vComp e with
    | some (x, [⟨tgE, it, ifs, asy⟩], scope) => decide (asy = 0) && ck T I src false S it && notSet it && blkC S.N S.sc scope (ownB S.N own) && ckT tg ⟨S.N, relS scope S.sc, true⟩ tgE &&
        (match ifs with
          | [] => (match cond with
            | .lit (.bl true) => true
            | _ => false)
          | [c] => ck T I cond true ⟨S.N, relS scope S.sc, true⟩ c
          | _ => false) && ck T I elt false ⟨S.N, relS scope S.sc, true⟩ x && tg.ix.all fun i => own.contains i
    | _ => false
  | .comp elt tg src cond own, _, S, e => match vComp e with
    | some (x, [⟨tgE, it, ifs, asy⟩], scope) => decide (asy = 0) && ckI T I src S tgE it && notSet it && blkC S.N S.sc scope (ownB S.N own) && ckT tg ⟨S.N, relS scope S.sc, true⟩ tgE &&
        (match ifs with
          | [] => (match cond with
            | .lit (.bl true) => true
            | _ => false)
          | [c] => ck T I cond true ⟨S.N, relS scope S.sc, true⟩ c
          | _ => false) && ck T I elt false ⟨S.N, relS scope S.sc, true⟩ x && tg.ix.all fun i => own.contains i
    | _ => false
  | .newc (.comp elt tg src cond own), _, S, e => match vComp e with
    | some (x, [⟨tgE, it, ifs, asy⟩], scope) => decide (asy = 0) && ckI T I src S tgE it && notSet it && blkC S.N S.sc scope (ownB S.N own) && ckT tg ⟨S.N, relS scope S.sc, true⟩ tgE &&
        (match ifs with
          | [] => (match cond with
            | .lit (.bl true) => true
            | _ => false)
          | [c] => ck T I cond true ⟨S.N, relS scope S.sc, true⟩ c
          | _ => false) && ck T I elt false ⟨S.N, relS scope S.sc, true⟩ x && tg.ix.all fun i => own.contains i
    | _ => false
  | _, _, _, _ => false
def cks (T : Tab) (I : TI) : List E → SC → List Expr → Bool
  | [], _, [] => true
  | e' :: es', S, e :: es => ck T I e' false S e && notStar e && cks T I es' S es
  | _, _, _ => false
def ckI (T : Tab) (I : TI) : E → SC → Expr → Expr → Bool
  | .srng1 a, S, _, e => match vCall e with
    | some (fn, [x], []) => match vName fn with
      | some n => decide (n = Str.ofString "range") && glB S n && ck T I a false S x && notStar x
      | none => false
    | _ => false
  | .srng2 a b, S, _, e => match vCall e with
    | some (fn, [x, y], []) => match vName fn with
      | some n => decide (n = Str.ofString "range") && glB S n && ck T I a false S x && notStar x && ck T I b false S y && notStar y
      | none => false
    | _ => false
  | .senum a, S, tg, e => match vCall e with
    | some (fn, [x], []) => match vName fn with
      | some n => decide (n = Str.ofString "enumerate") && glB S n && ck T I a false S x && notStar x && isTupE tg
      | none => false
    | _ => false
  | .srev a, S, _, e => match vCall e with
    | some (fn, [x], []) => match vName fn with
      | some n => decide (n = Str.ofString "reversed") && glB S n && ck T I a false S x && notStar x
      | none => false
    | _ => false
  | .szip a b, S, tg, e => match vCall e with
    | some (fn, [x, y], []) => match vName fn with
      | some n => decide (n = Str.ofString "zip") && glB S n && ck T I a false S x && notStar x && ck T I b false S y && notStar y && isTupE tg
      | none => false
    | _ => false
  | .sseq a, S, _, e => ck T I a false S e
  | _, _, _, _ => false
end
structure XOk (T : Tab) (N : En) (I : TI) (lvl : Nat) (S : SC) (Wx : WX) (X : Cx) : Prop where
  hK : X.K = N.K
  hN : X.N = S.N
  nd : S.N.Nodup
  sc : X.env.scope = S.sc
  calm : X.calm = true
  room : Room (2 * lvl + 1) X.A
  free : ∀ x ∈ bNames, X.mg (Str.ofString x) = none
  fns : ∀ f F, T.fn f = some F → I.mth f = none → ∃ (a : Addr) (fd : FuncData) (ps : List Str), ps.length = F.np ∧ X.mg (I.fname f) = some (.ref a) ∧ PySem.W.keepIn X.K (.ref a) = true ∧ Binds X.K fd ps [] ∧ FnOk X.prog X.w X.K X.mg X.base (L2.CX X.prog X.w) (2 * lvl) a fd ps (spF T N lvl ps.length f)
  mts : ∀ f F c, T.fn f = some F → I.mth f = some c → ∃ (a : Addr) (fd : FuncData) (ps : List Str), ps.length = F.np ∧ (I.fname f ≠ Str.ofString "__init__" → Meth X.K (N.ca c) (I.fname f) a) ∧ (I.fname f = Str.ofString "__init__" → Mk X.K (N.ca c) a) ∧ Binds X.K fd ps [] ∧ FnOk X.prog X.w X.K X.mg X.base (L2.CX X.prog X.w) (2 * lvl) a fd ps (spF T N lvl ps.length f)
  cls : ∀ c, I.isC c = true → ClsOk N X c ∧ N.cf c = I.flds c ∧ X.mg (I.cname c) = some (.ref (N.ca c))
  gls : ∀ g w, T.glob g = some w → ∃ v u, X.mg (I.gname g) = some u ∧ RelV v u ∧ ∀ F ρ k H, RV (N.wF F) ρ k H w v
  tk : Takes X Wx
  hs : S.blk = false → X.stack = X.env :: X.outer
  hf : S.blk = false → X.env.frame = some X.env.locals
  xcs : ∀ c, I.isX c = true → XcK N.K (N.ca c) ∧ X.mg (I.cname c) = some (.ref (N.ca c))
  fnl : S.blk = false → ∀ x, X.fn x = true
  po : S.blk = false → PassesOwn (model X.prog X.w) X.A X.env X.xe
end WM
namespace WM
open PySem PySem.Spec PyProof.Rows L2

section
variable {T : Tab} {N : En} {I : TI} {lvl : Nat} {S : SC} {Wx : WX} {X : Cx}
theorem XOk.gl (h : XOk T N I lvl S Wx X) {x : Str} (g : glB S x = true) : Gl X x := by
  unfold Gl Env.kindOf
  rw [h.sc]
  unfold glB at g
  split at g
  · assumption
  · cases g
theorem XOk.vis (h : XOk T N I lvl S Wx X) {x : Str} (g : visB S x = true) : Vis X.env.scope x := by
  unfold Vis
  rw [h.sc]
  unfold visB at g
  split at g
  · exact .inl (by assumption)
  · exact .inr (.inl (by assumption))
  · exact .inr (.inr (by assumption))
  · cases g
theorem XOk.loc (h : XOk T N I lvl S Wx X) {x : Str} (g : locB S x = true) : L2.Loc X.env.scope x ∧ (X.fn x = true ∨ X.env.scope.names.lookup x = some .local) := by
  unfold L2.Loc
  rw [h.sc]
  unfold locB at g
  split at g
  · rename_i q
    exact ⟨.inl q, .inr q⟩
  · rename_i q
    refine ⟨.inr q, .inl (h.fnl ?_ x)⟩
    cases hb : S.blk with
    | true => rw [hb] at g; cases g
    | false => rfl
  · cases g
theorem undbg_ok {x : Str} (h : undbg x = true) : (x == ("__debug__" : Str)) = false ∧ (x == ("__classdict__" : Str)) = false := by
  unfold undbg at h
  rw [Bool.and_eq_true, Bool.not_eq_true', Bool.not_eq_true'] at h
  exact h
def Snd (T : Tab) (N : En) (lvl : Nat) (Wx : WX) (X : Cx) (md : Bool) (e' : E) (e : Expr) : Prop :=
  (md = false → PE X e (tE T N (evC T lvl) e' Wx)) ∧ (md = true → PT X e (tT T N (evC T lvl) e' Wx) ∧ ∀ op vs p, e = .BoolOp op vs p → PW X e (tT T N (evC T lvl) e' Wx))
theorem Snd.plain {md : Bool} {e' : E} {e : Expr} (h : PE X e (tE T N (evC T lvl) e' Wx)) (hp : plainTest e = true) : Snd T N lvl Wx X md e' e :=
  ⟨fun _ => h, fun _ => ⟨sim_val h (plain_true hp), fun op vs p q => by rw [q] at hp; cases hp⟩⟩
theorem ok_cop (hK : X.K = N.K) (hu : X.A.units + 64 < cLine) : ∀ o, copOk o = true → OpOk X N (compareOp (opC o)) (cmpW o)
  | .eq, _ => ok_eq hK hu | .ne, _ => ok_ne hK hu | .lt, _ => ok_lt | .le, _ => ok_le | .gt, _ => ok_gt | .ge, _ => ok_ge | .is, _ => ok_is | .isnot, _ => ok_isnot
  | .isin, h => by cases h
  | .notin, h => by cases h
theorem cmp_bl {o : Cop} {x y w : W} (h : cmpW o x y = some w) : ∃ k, w = .bl k := by
  have two : ∀ a b : Bool, (if a then some (W.bl b) else none) = some w → ∃ k, w = .bl k := by
    intro a b h
    cases a with
    | true => cases h; exact ⟨_, rfl⟩
    | false => cases h
  cases o with
  | eq => exact two _ _ (by rw [cmpW] at h; exact h)
  | ne => exact two _ _ (by rw [cmpW] at h; exact h)
  | _ => cases x <;> cases y <;> first | (cases h; done) | (cases h; exact ⟨_, rfl⟩)
theorem cop_mark {o : Cop} (h : copOk o = true) (b : Expr) : behindInMarks (opC o) b = false := by
  cases o <;> first | exact nomark b | cases h
theorem cop_marks {o : Cop} {p : CmpOp} {b c : Expr} (h : copOk o = true) : lastMarks [p, opC o] [b, c] = false := by
  show behindInMarks (opC o) c = false
  exact cop_mark h c
theorem sim_lit' {w : W} {c : Const} {j pos} {C : Calls} (h : litB w c = true) : PE X (.Constant c j pos) (tE T N C (.lit w) Wx) := by
  refine sim_lit ?_
  cases w <;> cases c <;> first | exact trivial | exact (eq_of_beq h).symm | exact (of_decide_eq_true h).symm | (cases h; done)
theorem bn {x : String} (h : XOk T N I lvl S Wx X) (hx : x ∈ bNames := by decide) : X.mg (Str.ofString x) = none := h.free x hx
theorem sim_bi (h : XOk T N I lvl S Wx X) {b : Bi} {nm : String} {ty : Bool} (hb : biN b = some (nm, ty)) {e : Expr} {es : List Expr} {es' : List E} {p pos} (hg : glB S (Str.ofString nm) = true)
    (ha : PA X (e :: es) (tEs T N (evC T lvl) es' Wx)) (hs : (e :: es).all notStar = true) : PE X (.Call (.Name (Str.ofString nm) p) (e :: es) [] pos) (tE T N (evC T lvl) (.bi b es') Wx) := by
  have gl := h.gl hg
  cases b <;> (first | cases hb) <;> first
    | exact sim_biB (bi_len h.hK) gl (bn h) (by decide +kernel) ha hs (by decide +kernel) (by decide +kernel)
    | exact sim_biT bi_int gl (bn h) (by decide +kernel) ha hs (by decide +kernel) (by decide +kernel)
    | exact sim_biT (bi_list h.hK) gl (bn h) (by decide +kernel) ha hs (by decide +kernel) (by decide +kernel)
    | exact sim_biT (bi_tuple h.hK) gl (bn h) (by decide +kernel) ha hs (by decide +kernel) (by decide +kernel)
    | exact sim_biB (bi_min h.calm) gl (bn h) (by decide +kernel) ha hs (by decide +kernel) (by decide +kernel)
    | exact sim_biB (bi_max h.calm) gl (bn h) (by decide +kernel) ha hs (by decide +kernel) (by decide +kernel)
    | exact sim_biB bi_abs gl (bn h) (by decide +kernel) ha hs (by decide +kernel) (by decide +kernel)
    | exact sim_biB (bi_sum h.hK h.calm) gl (bn h) (by decide +kernel) ha hs (by decide +kernel) (by decide +kernel)
    | exact sim_biB (bi_all h.hK h.calm) gl (bn h) (by decide +kernel) ha hs (by decide +kernel) (by decide +kernel)
    | exact sim_biB (bi_any h.hK h.calm) gl (bn h) (by decide +kernel) ha hs (by decide +kernel) (by decide +kernel)
    | exact sim_biB (bi_sorted h.hK) gl (bn h) (by decide +kernel) ha hs (by decide +kernel) (by decide +kernel)
theorem sim_isi' (h : XOk T N I lvl S Wx X) {C : Calls} {a : Expr} {a' : E} {t : String} {p p2 pos} (ht : t ∈ tyNames) (hg : glB S (Str.ofString "isinstance") = true) (hg2 : glB S (Str.ofString t) = true)
    (ha : PE X a (tE T N C a' Wx)) (ns : notStar a = true) : PE X (.Call (.Name (Str.ofString "isinstance") p) [a, .Name (Str.ofString t) p2] [] pos) (tE T N C (.isi a' t) Wx) := by
  have gl := h.gl hg
  have gl2 := h.gl hg2
  have key : ∀ t : String, t ∈ tyNames → bootBuiltins (Str.ofString t) = some (.type t) ∧ (Str.ofString t) ≠ "__name__" ∧ ((Str.ofString t) == ("__debug__" : Str)) = false ∧ t ∈ bNames := by
    intro t ht
    simp only [tyNames, List.mem_cons, List.not_mem_nil, or_false] at ht
    rcases ht with rfl | rfl | rfl | rfl | rfl | rfl <;> exact ⟨by decide +kernel, by decide +kernel, by decide +kernel, by decide⟩
  obtain ⟨k1, k2, k3, k4⟩ := key t ht
  exact sim_isi h.hK gl (bn h) ha ns gl2 (h.free t k4) k1 k2 k3
theorem XOk.tr (h : XOk T N I lvl S Wx X) {W : WX} {pn : List (Addr × Obj)} {xe : Value → Shared → Prop} (tk : Takes (X.tr pn xe) W) (po : PassesOwn (model X.prog X.w) X.A X.env xe) : XOk T N I lvl S W (X.tr pn xe) where
  hK := h.hK
  hN := h.hN
  nd := h.nd
  sc := h.sc
  calm := h.calm
  room := h.room
  free := h.free
  fns := h.fns
  mts := h.mts
  cls := fun c hc => let ⟨a, b, d⟩ := h.cls c hc; ⟨⟨a.cl, a.nd, a.na⟩, b, d⟩
  gls := h.gls
  tk := tk
  hs := h.hs
  hf := h.hf
  xcs := h.xcs
  fnl := h.fnl
  po := fun _ => po
theorem XOk.blk (h : XOk T N I lvl S Wx X) (s : Shared) (H : Hp) (scope : Scope) (cl : List (Str × Addr)) (Ca : Addr) (fp : List Addr) :
    XOk T N I lvl ⟨S.N, relS scope S.sc, true⟩ (fun _ _ _ _ => False) (X.blk s H scope (compEnvC scope cl Ca X.env) fp) where
  hK := h.hK
  hN := h.hN
  nd := h.nd
  sc := by rw [← h.sc]; rfl
  calm := h.calm
  room := h.room
  free := h.free
  fns := h.fns
  mts := h.mts
  cls := fun c hc => let ⟨a, b, d⟩ := h.cls c hc; ⟨⟨a.cl, a.nd, a.na⟩, b, d⟩
  gls := h.gls
  tk := takes0
  hs := fun z => by cases z
  hf := fun z => by cases z
  xcs := h.xcs
  fnl := fun z => by cases z
  po := fun z => by cases z
mutual
theorem ckT_ok (h : XOk T N I lvl S Wx X) : ∀ (t : Tg) (e : Expr), ckT t S e = true → PG X e (gT N t)
  | .v i, e, q => by
    unfold ckT at q
    cases e1 : vName e with
    | none => rw [e1] at q; cases q
    | some x =>
      rw [e1] at q
      obtain ⟨p, rfl⟩ := vName_inv e1
      simp only [Bool.and_eq_true, decide_eq_true_eq] at q
      obtain ⟨l1, l2⟩ := h.loc q.2
      exact sim_gname (by rw [h.hN]; exact h.nd) (by rw [h.hN]; exact q.1) l1 l2
  | .t ts, e, q => by
    unfold ckT at q
    cases e1 : vTuple e with
    | none => rw [e1] at q; cases q
    | some es =>
      rw [e1] at q
      obtain ⟨j, p, rfl⟩ := vTuple_inv e1
      simp only [Bool.and_eq_true, decide_eq_true_eq] at q
      obtain ⟨h1, h2⟩ := ckTs_ok h ts es q.1
      exact sim_gtup h.hK h.calm h1 q.2 h2
theorem ckTs_ok (h : XOk T N I lvl S Wx X) : ∀ (ts : List Tg) (es : List Expr), ckTs ts S es = true → PGs X es (gTs N ts) ∧ es.all notStar = true
  | [], [], _ => ⟨sim_gnil, rfl⟩
  | [], _ :: _, q => by simp [ckTs] at q
  | _ :: _, [], q => by simp [ckTs] at q
  | t :: ts, e :: es, q => by
    rw [ckTs, Bool.and_eq_true, Bool.and_eq_true] at q
    obtain ⟨h1, h2⟩ := ckTs_ok h ts es q.2
    exact ⟨sim_gcons (ckT_ok h t e q.1.1) h1 q.1.2, by rw [List.all_cons, q.1.2, h2]; rfl⟩
end
theorem XOk.calmW (h : XOk T N I lvl S Wx X) : XOk T N I lvl S (fun _ _ _ _ => False) X where
  hK := h.hK
  hN := h.hN
  nd := h.nd
  sc := h.sc
  calm := h.calm
  room := h.room
  free := h.free
  fns := h.fns
  mts := h.mts
  cls := h.cls
  gls := h.gls
  tk := takes0
  hs := h.hs
  hf := h.hf
  xcs := h.xcs
  fnl := h.fnl
  po := h.po
theorem noSl_ok {b : Expr} (h : notSlice b = true) : NoSl b := plainIx h
theorem keys_pps {pos : Pos} {X : Cx} : ∀ {ks : List Int} {keys : List (Option Expr)} {es : List E} {values : List Expr}, keysB ks keys = true → (∀ p ∈ es.zip values, PE X p.2 (tE T N (evC T lvl) p.1 fun _ _ _ _ => False)) → es.length = values.length → ks.length = es.length →
    PPs X pos keys values (List.zipWith (fun k e => (tC (.int k), tE T N (evC T lvl) e fun _ _ _ _ => False)) ks es) ∧ keys.all (·.isSome) = true ∧ keys.length = ks.length
  | [], [], [], [], _, _, _, _ => ⟨pps_nil, rfl, rfl⟩
  | k :: ks, key :: r, e :: es, v :: vs, h, hp, h1, h2 => by
    unfold keysB at h
    split at h
    · rename_i q1; cases q1
    · rename_i k' ks' i j p r' q1 q2
      cases q1; cases q2
      simp only [Bool.and_eq_true, decide_eq_true_eq] at h
      obtain ⟨h3, h4⟩ := h
      subst h3
      obtain ⟨g1, g2, g3⟩ := keys_pps (pos := pos) h4 (fun p hp' => hp p (List.mem_cons_of_mem _ hp')) (Nat.succ.inj h1) (Nat.succ.inj h2)
      exact ⟨pps_cons pe_int (hp (e, v) List.mem_cons_self) g1, by rw [List.all_cons, g2]; rfl, by rw [List.length_cons, List.length_cons, g3]⟩
    · cases h
  | [], _ :: _, _, _, h, _, _, _ => by simp [keysB] at h
  | _ :: _, [], _, _, h, _, _, _ => by simp [keysB] at h
  | [], [], _ :: _, _, _, _, _, h => by cases h
  | [], [], [], _ :: _, _, _, h, _ => by cases h
  | _ :: _, _ :: _, [], _, _, _, _, h => by cases h
  | _ :: _, _ :: _, _ :: _, [], _, _, h, _ => by cases h
theorem part_ok {e' : E} {o : Option Expr} (ih : ∀ x, ck T I e' false S x = true → Snd T N lvl Wx X false e' x) (hq : (match o with | none => isNop e' | some l => !isNop e' && ck T I e' false S l) = true) : PO X o (tP T N (evC T lvl) e' Wx) := by
  cases o with
  | none =>
    cases e' <;> first | exact sim_pnone | cases hq
  | some l =>
    simp only [Bool.and_eq_true, Bool.not_eq_true'] at hq
    exact sim_psome ((ih l hq.2).1 rfl) (by cases e' <;> first | rfl | cases hq.1)
theorem own_fst (Nn : List Str) (own : List Nat) : (ownB Nn own).map (·.2) = own := by
  unfold ownB
  rw [List.map_map]
  exact List.map_id' own
end
section
variable {T : Tab} {N : En} {I : TI} {lvl : Nat}
mutual
theorem ck_ok : ∀ (e' : E) (md : Bool) (S : SC) (e : Expr), ck T I e' md S e = true → ∀ (X : Cx) (Wx : WX), XOk T N I lvl S Wx X → Snd T N lvl Wx X md e' e
  | .lit w, md, S, e, q, X, Wx, h => by
    unfold ck at q
    cases e1 : vConst e with
    | none => rw [e1] at q; cases q
    | some c =>
      rw [e1] at q
      obtain ⟨j, p, rfl⟩ := vConst_inv e1
      exact .plain (sim_lit' q) rfl
  | .var i, md, S, e, q, X, Wx, h => by
    unfold ck at q
    cases e1 : vName e with
    | none => rw [e1] at q; cases q
    | some x =>
      rw [e1] at q
      obtain ⟨p, rfl⟩ := vName_inv e1
      simp only [Bool.and_eq_true, decide_eq_true_eq] at q
      exact .plain (sim_var (by rw [h.hN]; exact q.1.1) (h.vis q.1.2) (undbg_ok q.2).1 (undbg_ok q.2).2) rfl
  | .glob g, md, S, e, q, X, Wx, h => by
    unfold ck at q
    cases e1 : vName e with
    | none => rw [e1] at q; cases q
    | some x =>
      rw [e1] at q
      obtain ⟨p, rfl⟩ := vName_inv e1
      simp only [Bool.and_eq_true, decide_eq_true_eq] at q
      obtain ⟨⟨q1, q2⟩, q3⟩ := q
      subst q1
      exact .plain (sim_glob (h.gl q2) (fun w hw => h.gls g w hw) (undbg_ok q3).1) rfl
  | .tup es, md, S, e, q, X, Wx, h => by
    unfold ck at q
    cases e1 : vTuple e with
    | none => rw [e1] at q; cases q
    | some xs =>
      rw [e1] at q
      obtain ⟨j, p, rfl⟩ := vTuple_inv e1
      simp only [Bool.and_eq_true, decide_eq_true_eq] at q
      exact .plain (sim_tup (cks_ok es S xs q.1 X Wx h).1 q.2) rfl
  | .lst es, md, S, e, q, X, Wx, h => by
    unfold ck at q
    cases e1 : vList e with
    | none => rw [e1] at q; cases q
    | some xs =>
      rw [e1] at q
      obtain ⟨p, rfl⟩ := vList_inv e1
      simp only [Bool.and_eq_true, decide_eq_true_eq] at q
      exact .plain (sim_lst (cks_ok es S xs q.1 X Wx h).1 q.2) rfl
  | .newl es, md, S, e, q, X, Wx, h => by
    unfold ck at q
    cases e1 : vList e with
    | none => rw [e1] at q; cases q
    | some xs =>
      rw [e1] at q
      obtain ⟨p, rfl⟩ := vList_inv e1
      simp only [Bool.and_eq_true, decide_eq_true_eq] at q
      exact .plain (sim_newl (cks_ok es S xs q.1 X Wx h).1 q.2) rfl
  | .bin o a b, md, S, e, q, X, Wx, h => by
    unfold ck at q
    cases e1 : vBin e with
    | none => rw [e1] at q; cases q
    | some r =>
      obtain ⟨x, op, y⟩ := r
      rw [e1] at q
      obtain ⟨p, rfl⟩ := vBin_inv e1
      simp only [Bool.and_eq_true, decide_eq_true_eq] at q
      obtain ⟨⟨q1, q2⟩, q3⟩ := q
      subst q1
      exact .plain (sim_bin (ok_bop h.hK o) ((ck_ok a false S x q2 X Wx h).1 rfl) ((ck_ok b false S y q3 X Wx h).1 rfl)) rfl
  | .sset a, md, S, e, q, X, Wx, h => by
    unfold ck at q
    cases e1 : vCall e with
    | none => rw [e1] at q; cases q
    | some r =>
      obtain ⟨fn, args, kw⟩ := r
      rw [e1] at q
      obtain ⟨p, rfl⟩ := vCall_inv e1
      match args, kw, q with
      | [x0], [], q0 =>
        clear q
        have q := q0
        clear q0
        dsimp only at q
        cases e2 : vName fn with
        | none => rw [e2] at q; cases q
        | some nm =>
          cases e3 : vCall x0 with
          | none => rw [e2, e3] at q; cases q
          | some r2 =>
            obtain ⟨fn2, args2, kw2⟩ := r2
            rw [e2, e3] at q
            obtain ⟨p2, rfl⟩ := vName_inv e2
            obtain ⟨p3, rfl⟩ := vCall_inv e3
            match args2, kw2, q with
            | [x], [], q5 =>
              dsimp only at q5
              cases e4 : vName fn2 with
              | none => rw [e4] at q5; cases q5
              | some nm2 =>
                rw [e4] at q5
                obtain ⟨p4, rfl⟩ := vName_inv e4
                simp only [Bool.and_eq_true, decide_eq_true_eq] at q5
                obtain ⟨⟨⟨⟨⟨q1, q2⟩, q3⟩, q4⟩, q6⟩, q7⟩ := q5
                subst q1 q2
                exact .plain (sim_sset h.hK h.calm (h.gl q3) (bn h) (h.gl q4) (bn h) ((ck_ok a false S x q6 X Wx h).1 rfl) q7) rfl
  | .trng a, md, S, e, q, X, Wx, h => by
    unfold ck at q
    cases e1 : vCall e with
    | none => rw [e1] at q; cases q
    | some r =>
      obtain ⟨fn, args, kw⟩ := r
      rw [e1] at q
      obtain ⟨p, rfl⟩ := vCall_inv e1
      match args, kw, q with
      | [x0], [], q0 =>
        clear q
        have q := q0
        clear q0
        dsimp only at q
        cases e2 : vName fn with
        | none => rw [e2] at q; cases q
        | some nm =>
          cases e3 : vCall x0 with
          | none => rw [e2, e3] at q; cases q
          | some r2 =>
            obtain ⟨fn2, args2, kw2⟩ := r2
            rw [e2, e3] at q
            obtain ⟨p2, rfl⟩ := vName_inv e2
            obtain ⟨p3, rfl⟩ := vCall_inv e3
            match args2, kw2, q with
            | [x], [], q5 =>
              dsimp only at q5
              cases e4 : vName fn2 with
              | none => rw [e4] at q5; cases q5
              | some nm2 =>
                rw [e4] at q5
                obtain ⟨p4, rfl⟩ := vName_inv e4
                simp only [Bool.and_eq_true, decide_eq_true_eq] at q5
                obtain ⟨⟨⟨⟨⟨q1, q2⟩, q3⟩, q4⟩, q6⟩, q7⟩ := q5
                subst q1 q2
                exact .plain (sim_trng h.calm (h.gl q3) (bn h) (h.gl q4) (bn h) ((ck_ok a false S x q6 X Wx h).1 rfl) q7) rfl
  | .lrng a, md, S, e, q, X, Wx, h => by
    unfold ck at q
    cases e1 : vCall e with
    | none => rw [e1] at q; cases q
    | some r =>
      obtain ⟨fn, args, kw⟩ := r
      rw [e1] at q
      obtain ⟨p, rfl⟩ := vCall_inv e1
      match args, kw, q with
      | [x0], [], q0 =>
        clear q
        have q := q0
        clear q0
        dsimp only at q
        cases e2 : vName fn with
        | none => rw [e2] at q; cases q
        | some nm =>
          cases e3 : vCall x0 with
          | none => rw [e2, e3] at q; cases q
          | some r2 =>
            obtain ⟨fn2, args2, kw2⟩ := r2
            rw [e2, e3] at q
            obtain ⟨p2, rfl⟩ := vName_inv e2
            obtain ⟨p3, rfl⟩ := vCall_inv e3
            match args2, kw2, q with
            | [x], [], q5 =>
              dsimp only at q5
              cases e4 : vName fn2 with
              | none => rw [e4] at q5; cases q5
              | some nm2 =>
                rw [e4] at q5
                obtain ⟨p4, rfl⟩ := vName_inv e4
                simp only [Bool.and_eq_true, decide_eq_true_eq] at q5
                obtain ⟨⟨⟨⟨⟨q1, q2⟩, q3⟩, q4⟩, q6⟩, q7⟩ := q5
                subst q1 q2
                exact .plain (sim_lrng h.calm (h.gl q3) (bn h) (h.gl q4) (bn h) ((ck_ok a false S x q6 X Wx h).1 rfl) q7) rfl
  | .cat a b, md, S, e, q, X, Wx, h => by
    unfold ck at q
    cases e1 : vBin e with
    | none => rw [e1] at q; cases q
    | some r =>
      obtain ⟨x, op, y⟩ := r
      rw [e1] at q
      obtain ⟨p, rfl⟩ := vBin_inv e1
      cases op with
      | Add =>
        simp only [Bool.and_eq_true] at q
        exact .plain (sim_cat ((ck_ok a false S x q.1 X Wx h).1 rfl) ((ck_ok b false S y q.2 X Wx h).1 rfl)) rfl
      | _ => cases q
  | .neg a, md, S, e, q, X, Wx, h => by
    unfold ck at q
    cases e1 : vUn e with
    | none => rw [e1] at q; cases q
    | some r =>
      obtain ⟨op, x⟩ := r
      rw [e1] at q
      obtain ⟨p, rfl⟩ := vUn_inv e1
      cases op with
      | USub => exact .plain (sim_neg ((ck_ok a false S x q X Wx h).1 rfl)) rfl
      | _ => cases q
  | .not a, md, S, e, q, X, Wx, h => by
    unfold ck at q
    cases e1 : vUn e with
    | none => rw [e1] at q; cases q
    | some r =>
      obtain ⟨op, x⟩ := r
      rw [e1] at q
      obtain ⟨p, rfl⟩ := vUn_inv e1
      cases op with
      | Not =>
        have ih := ck_ok a md S x q X Wx h
        exact ⟨fun z => sim_not (ih.1 z), fun z => ⟨sim_notT (ih.2 z).1, fun op vs p e => by cases e⟩⟩
      | _ => cases q
  | .and a b, md, S, e, q, X, Wx, h => by
    unfold ck at q
    cases e1 : vBO e with
    | none => rw [e1] at q; cases q
    | some r =>
      obtain ⟨op, xs, p⟩ := r
      rw [e1] at q
      have ee := vBO_inv e1
      subst ee
      cases op with
      | Or => cases q
      | And =>
        cases xs with
        | nil => cases q
        | cons x xs =>
          cases xs with
          | nil => cases q
          | cons y xs =>
            cases xs with
            | nil =>
              simp only [Bool.and_eq_true] at q
              have i1 := ck_ok a md S x q.1 X Wx h
              have i2 := ck_ok b md S y q.2 X Wx h
              refine ⟨fun z => sim_and (i1.1 z) (pe_one (i2.1 z)), fun z => ?_⟩
              have pw := sim_andT (pos := p) (i1.2 z).1 (pw_and1 (i2.2 z).1)
              exact ⟨pw.pt, fun _ _ _ _ => pw⟩
            | cons w xs =>
              simp only [Bool.and_eq_true] at q
              have i1 := ck_ok a md S x q.1 X Wx h
              have i2 := ck_ok b md S _ q.2 X Wx h
              refine ⟨fun z => sim_and (i1.1 z) (i2.1 z), fun z => ?_⟩
              have pw := sim_andT (pos := p) (i1.2 z).1 ((i2.2 z).2 _ _ _ rfl)
              exact ⟨pw.pt, fun _ _ _ _ => pw⟩
  | .or a b, md, S, e, q, X, Wx, h => by
    unfold ck at q
    cases e1 : vBO e with
    | none => rw [e1] at q; cases q
    | some r =>
      obtain ⟨op, xs, p⟩ := r
      rw [e1] at q
      have ee := vBO_inv e1
      subst ee
      cases op with
      | And => cases q
      | Or =>
        cases xs with
        | nil => cases q
        | cons x xs =>
          cases xs with
          | nil => cases q
          | cons y xs =>
            cases xs with
            | nil =>
              simp only [Bool.and_eq_true] at q
              have i1 := ck_ok a md S x q.1 X Wx h
              have i2 := ck_ok b md S y q.2 X Wx h
              refine ⟨fun z => sim_or (i1.1 z) (pe_one (i2.1 z)), fun z => ?_⟩
              have pw := sim_orT (pos := p) (i1.2 z).1 (pw_or1 (i2.2 z).1)
              exact ⟨pw.pt, fun _ _ _ _ => pw⟩
            | cons w xs =>
              simp only [Bool.and_eq_true] at q
              have i1 := ck_ok a md S x q.1 X Wx h
              have i2 := ck_ok b md S _ q.2 X Wx h
              refine ⟨fun z => sim_or (i1.1 z) (i2.1 z), fun z => ?_⟩
              have pw := sim_orT (pos := p) (i1.2 z).1 ((i2.2 z).2 _ _ _ rfl)
              exact ⟨pw.pt, fun _ _ _ _ => pw⟩
  | .cmp o a b, md, S, e, q, X, Wx, h => by
    unfold ck at q
    cases e1 : vCmp e with
    | none => rw [e1] at q; cases q
    | some r =>
      obtain ⟨x, ops, ys⟩ := r
      rw [e1] at q
      obtain ⟨p, rfl⟩ := vCmp_inv e1
      match ops, ys, q with
      | [op], [y], q =>
        simp only [Bool.and_eq_true, decide_eq_true_eq] at q
        obtain ⟨⟨⟨q1, q2⟩, q3⟩, q4⟩ := q
        subst q1
        have i1 := (ck_ok a false S x q3 X Wx h).1 rfl
        have i2 := (ck_ok b false S y q4 X Wx h).1 rfl
        have ho := ok_cop (N := N) h.hK h.room.units o q2
        exact ⟨fun _ => sim_cmp ho (cop_mark q2 y) i1 i2, fun _ => ⟨sim_cmpT ho (fun _ _ _ => cmp_bl) (cop_mark q2 y) i1 i2, fun op vs p e => by cases e⟩⟩
  | .cmp2 o o2 a b c, md, S, e, q, X, Wx, h => by
    unfold ck at q
    cases e1 : vCmp e with
    | none => rw [e1] at q; cases q
    | some r =>
      obtain ⟨x, ops, ys⟩ := r
      rw [e1] at q
      obtain ⟨p, rfl⟩ := vCmp_inv e1
      match ops, ys, q with
      | [op, op2], [y, z], q =>
        simp only [Bool.and_eq_true, decide_eq_true_eq] at q
        obtain ⟨⟨⟨⟨⟨⟨q1, q2⟩, q3⟩, q4⟩, q5⟩, q6⟩, q7⟩ := q
        subst q1 q3
        have i1 := (ck_ok a false S x q5 X Wx h).1 rfl
        have i2 := (ck_ok b false S y q6 X Wx h).1 rfl
        have i3 := (ck_ok c false S z q7 X Wx h).1 rfl
        have ho := ok_cop (N := N) h.hK h.room.units o q2
        have ho2 := ok_cop (N := N) h.hK h.room.units o2 q4
        exact ⟨fun _ => sim_cmp2 ho ho2 (cop_marks q4) (fun _ _ _ => cmp_bl) i1 i2 i3, fun _ => ⟨sim_cmp2T ho ho2 (cop_marks q4) (fun _ _ _ => cmp_bl) (fun _ _ _ => cmp_bl) i1 i2 i3, fun op vs p e => by cases e⟩⟩
  | .ife c a b, md, S, e, q, X, Wx, h => by
    unfold ck at q
    cases e1 : vIf e with
    | none => rw [e1] at q; cases q
    | some r =>
      obtain ⟨x, y, z⟩ := r
      rw [e1] at q
      obtain ⟨p, rfl⟩ := vIf_inv e1
      simp only [Bool.and_eq_true, Bool.not_eq_true'] at q
      obtain ⟨⟨⟨q1, q2⟩, q3⟩, q4⟩ := q
      exact ⟨fun _ => sim_ife ((ck_ok c true S x q2 X Wx h).2 rfl).1 ((ck_ok a false S y q3 X Wx h).1 rfl) ((ck_ok b false S z q4 X Wx h).1 rfl), fun z => by rw [z] at q1; cases q1⟩
  | .idx a b, md, S, e, q, X, Wx, h => by
    unfold ck at q
    cases e1 : vSub e with
    | none => rw [e1] at q; cases q
    | some r =>
      obtain ⟨x, y⟩ := r
      rw [e1] at q
      obtain ⟨p, rfl⟩ := vSub_inv e1
      simp only [Bool.and_eq_true] at q
      exact .plain (sim_idx h.hK ((ck_ok a false S x q.1.1 X Wx h).1 rfl) ((ck_ok b false S y q.1.2 X Wx h).1 rfl) (plainIx q.2)) rfl
  | .slc a lo hi, md, S, e, q, X, Wx, h => by
    unfold ck at q
    cases e1 : vSub e with
    | none => rw [e1] at q; cases q
    | some r =>
      obtain ⟨x, y⟩ := r
      rw [e1] at q
      obtain ⟨p, rfl⟩ := vSub_inv e1
      dsimp only at q
      cases e2 : vSlice y with
      | none => rw [e2] at q; cases q
      | some r =>
        obtain ⟨l, u, st⟩ := r
        rw [e2] at q
        obtain ⟨p2, rfl⟩ := vSlice_inv e2
        cases st with
        | some _ => cases q
        | none =>
          simp only [Bool.and_eq_true] at q
          obtain ⟨⟨q1, q2⟩, q3⟩ := q
          have part : ∀ (e' : E) (o : Option Expr), (∀ x, ck T I e' false S x = true → Snd T N lvl Wx X false e' x) → (match o with | none => isNop e' | some l => !isNop e' && ck T I e' false S l) = true → PO X o (tP T N (evC T lvl) e' Wx) := by
            intro e' o ih hq
            cases o with
            | none =>
              cases e' <;> first | exact sim_pnone | cases hq
            | some l =>
              simp only [Bool.and_eq_true, Bool.not_eq_true'] at hq
              exact sim_psome ((ih l hq.2).1 rfl) (by cases e' <;> first | rfl | cases hq.1)
          exact .plain (sim_slc h.hK ((ck_ok a false S x q1 X Wx h).1 rfl) (part lo l (fun x hx => ck_ok lo false S x hx X Wx h) q2) (part hi u (fun x hx => ck_ok hi false S x hx X Wx h) q3)) rfl
  | .call f es, md, S, e, q, X, Wx, h => by
    unfold ck at q
    cases e1 : vCall e with
    | none => rw [e1] at q; cases q
    | some r =>
      obtain ⟨fn, args, kw⟩ := r
      rw [e1] at q
      obtain ⟨p, rfl⟩ := vCall_inv e1
      match args, kw, q with
      | x :: xs, [], q0 =>
        clear q
        have q := q0
        clear q0
        dsimp only at q
        cases e2 : vName fn with
        | none => rw [e2] at q; cases q
        | some n =>
          rw [e2] at q
          obtain ⟨p2, rfl⟩ := vName_inv e2
          simp only [Bool.and_eq_true, decide_eq_true_eq] at q
          obtain ⟨⟨⟨⟨⟨q1, q0⟩, q2⟩, q3⟩, q4⟩, q5⟩ := q
          subst q1
          cases e3 : T.fn f with
          | none => rw [e3] at q5; cases q5
          | some F =>
            rw [e3] at q5
            have hl : F.np = es.length := of_decide_eq_true q5
            obtain ⟨a, fd, ps, h0, h1, h2, h3, h4⟩ := h.fns f F e3 q0
            obtain ⟨k1, k2⟩ := cks_ok es S (x :: xs) q4 X Wx h
            exact .plain (sim_callA h1 h2 h3 h4 (h0.trans hl) (h.room.mono (Nat.le_succ _)) (h.gl q2) h.tk k1 k2 (undbg_ok q3).1) rfl
  | .bi b es, md, S, e, q, X, Wx, h => by
    unfold ck at q
    cases e1 : vCall e with
    | none => rw [e1] at q; cases q
    | some r =>
      obtain ⟨fn, args, kw⟩ := r
      rw [e1] at q
      obtain ⟨p, rfl⟩ := vCall_inv e1
      match args, kw, q with
      | x :: xs, [], q0 =>
        clear q
        have q := q0
        clear q0
        dsimp only at q
        cases e2 : vName fn with
        | none => rw [e2] at q; cases q
        | some n =>
          rw [e2] at q
          obtain ⟨p2, rfl⟩ := vName_inv e2
          dsimp only at q
          cases e3 : biN b with
          | none => rw [e3] at q; cases q
          | some r =>
            obtain ⟨nm, ty⟩ := r
            rw [e3] at q
            simp only [Bool.and_eq_true, decide_eq_true_eq] at q
            obtain ⟨⟨q1, q2⟩, q3⟩ := q
            subst q1
            obtain ⟨k1, k2⟩ := cks_ok es S (x :: xs) q3 X Wx h
            exact .plain (sim_bi h e3 q2 k1 k2) rfl
  | .isi a t, md, S, e, q, X, Wx, h => by
    unfold ck at q
    cases e1 : vCall e with
    | none => rw [e1] at q; cases q
    | some r =>
      obtain ⟨fn, args, kw⟩ := r
      rw [e1] at q
      obtain ⟨p, rfl⟩ := vCall_inv e1
      match args, kw, q with
      | [x, y], [], q0 =>
        clear q
        have q := q0
        clear q0
        dsimp only at q
        cases e2 : vName fn with
        | none => rw [e2] at q; cases q
        | some n =>
          cases e3 : vName y with
          | none => rw [e2, e3] at q; cases q
          | some ty =>
            rw [e2, e3] at q
            obtain ⟨p2, rfl⟩ := vName_inv e2
            obtain ⟨p3, rfl⟩ := vName_inv e3
            simp only [Bool.and_eq_true, decide_eq_true_eq] at q
            obtain ⟨⟨⟨⟨⟨⟨q1, q2⟩, q3⟩, q4⟩, q5⟩, q6⟩, q7⟩ := q
            subst q1 q2
            exact .plain (sim_isi' h q3 q4 q5 ((ck_ok a false S x q6 X Wx h).1 rfl) q7) rfl
  | .sdc elt tg src cond own, md, S, e, q, X, Wx, h => by
    unfold ck at q
    cases e1 : vCall e with
    | none => rw [e1] at q; cases q
    | some r =>
      obtain ⟨fn, args, kw⟩ := r
      rw [e1] at q
      obtain ⟨p, rfl⟩ := vCall_inv e1
      match args, kw, q with
      | [x0], [], q0 =>
        clear q
        have q := q0
        clear q0
        dsimp only at q
        cases e2 : vName fn with
        | none => rw [e2] at q; cases q
        | some nm =>
          cases e3 : vDComp x0 with
          | none => rw [e2, e3] at q; cases q
          | some r =>
            obtain ⟨x, vx, gens, scope⟩ := r
            rw [e2, e3] at q
            obtain ⟨p2, rfl⟩ := vName_inv e2
            obtain ⟨p3, rfl⟩ := vDComp_inv e3
            match gens, q with
            | [⟨tgE, it, ifs, asy⟩], q9 =>
              dsimp only at q9
              rw [Bool.and_eq_true] at q9
              obtain ⟨r1, q8⟩ := q9
              rw [Bool.and_eq_true, Bool.and_eq_true, Bool.and_eq_true, decide_eq_true_eq] at r1
              obtain ⟨⟨⟨r1, r2⟩, r3⟩, r4⟩ := r1
              subst r1
              simp only [Bool.and_eq_true, decide_eq_true_eq] at q8
              obtain ⟨⟨⟨⟨⟨⟨⟨q1, q2⟩, q3⟩, q4⟩, q5⟩, q6⟩, q7⟩, q8⟩ := q8
              subst q1
              have hif : ∀ X' Wx', XOk T N I lvl ⟨S.N, relS scope S.sc, true⟩ Wx' X' → PTs X' ifs (tT T N (evC T lvl) cond Wx') := by
                intro X' Wx' h'
                match ifs, q6 with
                | [], q6 =>
                  cases cond with
                  | lit w =>
                    cases w with
                    | bl b => cases b with
                      | true => exact sim_noif'
                      | false => cases q6
                    | _ => cases q6
                  | _ => cases q6
                | [c], q6 => exact pts_one ((ck_ok cond true _ c q6 X' Wx' h').2 rfl).1
              have hv : ∀ X' : Cx, PE X' vx (tE T N (evC T lvl) (.lit (.bl true)) fun _ _ _ _ => False) := by
                intro X'
                cases e4 : vConst vx with
                | none => rw [e4] at r4; cases r4
                | some c =>
                  rw [e4] at r4
                  obtain ⟨j, p4, rfl⟩ := vConst_inv e4
                  exact sim_lit' r4
              have hpe := pe_dc (pos := p3) h.calm (by rw [h.hN]; exact h.nd) (ckI_ok src S tgE it q2 X Wx h) (blkOk_by (by rw [h.hN, h.sc]; exact q4))
                (fun s H Ca cl fp => ckT_ok (h.blk s H scope cl Ca fp) tg tgE q5) (fun s H Ca cl fp => hif _ _ (h.blk s H scope cl Ca fp))
                (fun s H Ca cl fp => (ck_ok elt false _ x q7 _ _ (h.blk s H scope cl Ca fp)).1 rfl) (fun s H Ca cl fp => hv _) (noset q3)
              rw [own_fst] at hpe
              exact .plain (sim_sdc h.calm (fun j hj => by
                have := List.all_eq_true.mp q8 j hj
                exact List.contains_iff_mem.mp this) (h.gl r2) (bn h) r3 hpe) rfl
  | .compL elt tg src cond own, md, S, e, q, X, Wx, h => by
    unfold ck at q
    cases e1 : vComp e with
    | none => rw [e1] at q; cases q
    | some r =>
      obtain ⟨x, gens, scope⟩ := r
      rw [e1] at q
      obtain ⟨p, rfl⟩ := vComp_inv e1
      match gens, q with
      | [⟨tgE, it, ifs, asy⟩], q =>
        dsimp only at q
        simp only [Bool.and_eq_true, decide_eq_true_eq] at q
        obtain ⟨⟨⟨⟨⟨⟨⟨q1, q2⟩, q3⟩, q4⟩, q5⟩, q6⟩, q7⟩, q8⟩ := q
        subst q1
        have hif : ∀ X' Wx', XOk T N I lvl ⟨S.N, relS scope S.sc, true⟩ Wx' X' → PTs X' ifs (tT T N (evC T lvl) cond Wx') := by
          intro X' Wx' h'
          match ifs, q6 with
          | [], q6 =>
            cases cond with
            | lit w =>
              cases w with
              | bl b => cases b with
                | true => exact sim_noif'
                | false => cases q6
              | _ => cases q6
            | _ => cases q6
          | [c], q6 => exact pts_one ((ck_ok cond true _ c q6 X' Wx' h').2 rfl).1
        have hpe := pe_lc (pos := p) h.calm (by rw [h.hN]; exact h.nd) (by have z := pi_either (tg := tgE) ((ck_ok src false S it q2 X Wx h).1 rfl); rw [h.hK] at z; exact z) (blkOk_by (by rw [h.hN, h.sc]; exact q4))
          (fun s H Ca cl fp => ckT_ok (h.blk s H scope cl Ca fp) tg tgE q5) (fun s H Ca cl fp => hif _ _ (h.blk s H scope cl Ca fp))
          (fun s H Ca cl fp => (ck_ok elt false _ x q7 _ _ (h.blk s H scope cl Ca fp)).1 rfl) (noset q3)
        refine .plain (hpe.imp fun σ H Q z => ?_) rfl
        rw [own_fst]
        exact comp_readsL (fun j hj => by
          have := List.all_eq_true.mp q8 j hj
          exact List.contains_iff_mem.mp this) σ H Q z
  | .comp elt tg src cond own, md, S, e, q, X, Wx, h => by
    unfold ck at q
    cases e1 : vComp e with
    | none => rw [e1] at q; cases q
    | some r =>
      obtain ⟨x, gens, scope⟩ := r
      rw [e1] at q
      obtain ⟨p, rfl⟩ := vComp_inv e1
      match gens, q with
      | [⟨tgE, it, ifs, asy⟩], q =>
        dsimp only at q
        simp only [Bool.and_eq_true, decide_eq_true_eq] at q
        obtain ⟨⟨⟨⟨⟨⟨⟨q1, q2⟩, q3⟩, q4⟩, q5⟩, q6⟩, q7⟩, q8⟩ := q
        subst q1
        have hif : ∀ X' Wx', XOk T N I lvl ⟨S.N, relS scope S.sc, true⟩ Wx' X' → PTs X' ifs (tT T N (evC T lvl) cond Wx') := by
          intro X' Wx' h'
          match ifs, q6 with
          | [], q6 =>
            cases cond with
            | lit w =>
              cases w with
              | bl b => cases b with
                | true => exact sim_noif'
                | false => cases q6
              | _ => cases q6
            | _ => cases q6
          | [c], q6 => exact pts_one ((ck_ok cond true _ c q6 X' Wx' h').2 rfl).1
        have hpe := pe_lc (pos := p) h.calm (by rw [h.hN]; exact h.nd) (ckI_ok src S tgE it q2 X Wx h) (blkOk_by (by rw [h.hN, h.sc]; exact q4))
          (fun s H Ca cl fp => ckT_ok (h.blk s H scope cl Ca fp) tg tgE q5) (fun s H Ca cl fp => hif _ _ (h.blk s H scope cl Ca fp))
          (fun s H Ca cl fp => (ck_ok elt false _ x q7 _ _ (h.blk s H scope cl Ca fp)).1 rfl) (noset q3)
        refine .plain (hpe.imp fun σ H Q z => ?_) rfl
        rw [own_fst]
        exact comp_reads (fun j hj => by
          have := List.all_eq_true.mp q8 j hj
          exact List.contains_iff_mem.mp this) σ H Q z
  | .newc (.comp elt tg src cond own), md, S, e, q, X, Wx, h => by
    unfold ck at q
    cases e1 : vComp e with
    | none => rw [e1] at q; cases q
    | some r =>
      obtain ⟨x, gens, scope⟩ := r
      rw [e1] at q
      obtain ⟨p, rfl⟩ := vComp_inv e1
      match gens, q with
      | [⟨tgE, it, ifs, asy⟩], q =>
        dsimp only at q
        simp only [Bool.and_eq_true, decide_eq_true_eq] at q
        obtain ⟨⟨⟨⟨⟨⟨⟨q1, q2⟩, q3⟩, q4⟩, q5⟩, q6⟩, q7⟩, q8⟩ := q
        subst q1
        have hif : ∀ X' Wx', XOk T N I lvl ⟨S.N, relS scope S.sc, true⟩ Wx' X' → PTs X' ifs (tT T N (evC T lvl) cond Wx') := by
          intro X' Wx' h'
          match ifs, q6 with
          | [], q6 =>
            cases cond with
            | lit w =>
              cases w with
              | bl b => cases b with
                | true => exact sim_noif'
                | false => cases q6
              | _ => cases q6
            | _ => cases q6
          | [c], q6 => exact pts_one ((ck_ok cond true _ c q6 X' Wx' h').2 rfl).1
        have hpe := pe_lc (pos := p) h.calm (by rw [h.hN]; exact h.nd) (ckI_ok src S tgE it q2 X Wx h) (blkOk_by (by rw [h.hN, h.sc]; exact q4))
          (fun s H Ca cl fp => ckT_ok (h.blk s H scope cl Ca fp) tg tgE q5) (fun s H Ca cl fp => hif _ _ (h.blk s H scope cl Ca fp))
          (fun s H Ca cl fp => (ck_ok elt false _ x q7 _ _ (h.blk s H scope cl Ca fp)).1 rfl) (noset q3)
        refine .plain (hpe.imp fun σ H Q z => ?_) rfl
        rw [own_fst]
        exact comp_newc (fun j hj => by
          have := List.all_eq_true.mp q8 j hj
          exact List.contains_iff_mem.mp this) σ H Q z
  | .rev a, md, S, e, q, X, Wx, h => by
    unfold ck at q
    cases e1 : vSub e with
    | none => rw [e1] at q; cases q
    | some r =>
      obtain ⟨x, y⟩ := r
      rw [e1] at q
      obtain ⟨p, rfl⟩ := vSub_inv e1
      simp only [Bool.and_eq_true] at q
      obtain ⟨k, p1, p2, p3, rfl⟩ := vRevS_inv q.1
      exact .plain (sim_rev h.hK ((ck_ok a false S x q.2 X Wx h).1 rfl)) rfl
  | .isin ng a b, md, S, e, q, X, Wx, h => by
    unfold ck at q
    cases e1 : vCmp e with
    | none => rw [e1] at q; cases q
    | some r =>
      obtain ⟨x, ops, ys⟩ := r
      rw [e1] at q
      obtain ⟨p, rfl⟩ := vCmp_inv e1
      match ops, ys, q with
      | [op], [y], q =>
        simp only [Bool.and_eq_true, decide_eq_true_eq, Bool.not_eq_true'] at q
        obtain ⟨⟨⟨q1, q2⟩, q3⟩, q4⟩ := q
        subst q1
        have i1 := (ck_ok a false S x q3 X Wx h).1 rfl
        have i2 := (ck_ok b false S y q4 X Wx h).1 rfl
        have hu : X.A.units + 65 < cLine := by have := h.room.un; omega
        exact ⟨fun _ => sim_isin h.hK hu q2 i1 i2, fun _ => ⟨sim_isinT h.hK hu q2 i1 i2, fun op vs p e => by cases e⟩⟩
  | .dsel ks es i, md, S, e, q, X, Wx, h => by
    unfold ck at q
    cases e1 : vSub e with
    | none => rw [e1] at q; cases q
    | some r =>
      obtain ⟨x, y⟩ := r
      rw [e1] at q
      obtain ⟨p, rfl⟩ := vSub_inv e1
      dsimp only at q
      cases e2 : vDict x with
      | none => rw [e2] at q; cases q
      | some r2 =>
        obtain ⟨keys, values⟩ := r2
        rw [e2] at q
        obtain ⟨p2, rfl⟩ := vDict_inv e2
        simp only [Bool.and_eq_true, decide_eq_true_eq] at q
        obtain ⟨⟨⟨⟨⟨⟨⟨q1, q2⟩, q3⟩, q4⟩, q5⟩, q6⟩, q7⟩, q8⟩ := q
        have hv := cksE_ok es S values q2 X _ h.calmW
        obtain ⟨g1, g2, g3⟩ := keys_pps (pos := p2) (lvl := lvl) (T := T) (N := N) q1 hv.1 hv.2 q6
        have hu : X.A.units + 1 < cLine := by have := h.room.un; omega
        refine .plain (sim_dsel hu q6 q5 g1 g2 (by rw [g3, q6, hv.2]) (fun z => ?_) (by rw [g3]; exact q8) q8 ((ck_ok i false S y q3 X _ h.calmW).1 rfl) (noSl_ok q4)) rfl
        rw [z] at g3
        exact q7 (List.length_eq_zero_iff.mp g3.symm)
  | .cmp3 o o2 o3 a b c d, md, S, e, q, X, Wx, h => by
    unfold ck at q
    cases e1 : vCmp e with
    | none => rw [e1] at q; cases q
    | some r =>
      obtain ⟨x, ops, ys⟩ := r
      rw [e1] at q
      obtain ⟨p, rfl⟩ := vCmp_inv e1
      match ops, ys, q with
      | [op, op2, op3], [y, z, w], q =>
        simp only [Bool.and_eq_true, decide_eq_true_eq, Bool.not_eq_true'] at q
        obtain ⟨⟨⟨⟨⟨⟨⟨⟨⟨⟨q0, q1⟩, q2⟩, q3⟩, q4⟩, q5⟩, q6⟩, q7⟩, q8⟩, q9⟩, q10⟩ := q
        subst q0 q1 q3 q5
        have ho := ok_cop (N := N) h.hK h.room.units o q2
        have ho2 := ok_cop (N := N) h.hK h.room.units o2 q4
        have ho3 := ok_cop (N := N) h.hK h.room.units o3 q6
        exact ⟨fun _ => sim_cmp3 ho ho2 ho3 (show behindInMarks (opC o3) w = false from cop_mark q6 w) (fun _ _ _ => cmp_bl) (fun _ _ _ => cmp_bl) ((ck_ok a false S x q7 X Wx h).1 rfl) ((ck_ok b false S y q8 X Wx h).1 rfl) ((ck_ok c false S z q9 X Wx h).1 rfl) ((ck_ok d false S w q10 X Wx h).1 rfl), fun z => by cases z⟩
  | .cut a lo hi, md, S, e, q, X, Wx, h => by
    unfold ck at q
    cases e1 : vSub e with
    | none => rw [e1] at q; cases q
    | some r =>
      obtain ⟨x, y⟩ := r
      rw [e1] at q
      obtain ⟨p, rfl⟩ := vSub_inv e1
      dsimp only at q
      cases e2 : vSlice y with
      | none => rw [e2] at q; cases q
      | some r =>
        obtain ⟨l, u, st⟩ := r
        rw [e2] at q
        obtain ⟨p2, rfl⟩ := vSlice_inv e2
        cases st with
        | some _ => cases q
        | none =>
          simp only [Bool.and_eq_true] at q
          exact .plain (sim_cut h.hK ((ck_ok a false S x q.1.1 X Wx h).1 rfl) (part_ok (fun x hx => ck_ok lo false S x hx X Wx h) q.1.2) (part_ok (fun x hx => ck_ok hi false S x hx X Wx h) q.2)) rfl
  | .attr c f a, md, S, e, q, X, Wx, h => by
    unfold ck at q
    split at q
    · rename_i x nm pos
      simp only [Bool.and_eq_true, decide_eq_true_eq] at q
      obtain ⟨⟨⟨q1, q2⟩, q3⟩, q4⟩ := q
      obtain ⟨c1, c2, _⟩ := h.cls c q1
      exact .plain (sim_attr h.hK c1 (by rw [c2]; exact q2) ((ck_ok a false S x q3 X Wx h).1 rfl) q4) rfl
    · cases q
  | .meth c f o es, md, S, e, q, X, Wx, h => by
    unfold ck at q
    split at q
    · rename_i oe nm apos args cpos
      simp only [Bool.and_eq_true, decide_eq_true_eq] at q
      obtain ⟨⟨⟨⟨⟨⟨⟨⟨⟨⟨q1, q2⟩, q3⟩, q4⟩, q5⟩, q6⟩, q7⟩, q8⟩, q9⟩, q10⟩, q11⟩ := q
      obtain ⟨c1, c2, _⟩ := h.cls c q1
      cases e3 : T.fn f with
      | none => rw [e3] at q8; cases q8
      | some F =>
        rw [e3] at q8
        have hl : F.np = es.length + 1 := of_decide_eq_true q8
        obtain ⟨a, fd, ps, h0, h1, _, h3, h4⟩ := h.mts f F c e3 q2
        rw [q3] at h1
        obtain ⟨k1, k2⟩ := cks_ok es S args q7 X Wx h
        obtain ⟨pl, hf⟩ := meth_form (env := X.env) (x := nm) q9 k2 q11 q10
        match args, es, q7, k1, k2, hf, hl with
        | [], [], _, _, _, hf, hl => exact .plain (sim_meth0 (pl := pl) h.hK c1 (h1 q4) (by rw [c2]; exact q5) h3 h4 (h0.trans hl) (h.room.mono (Nat.le_succ _)) ((ck_ok o false S oe q6 X Wx h).1 rfl) hf) rfl
        | [], _ :: _, q7, _, _, _, _ => simp [cks] at q7
        | x :: xs, es, _, k1, k2, hf, hl => exact .plain (sim_meth (pl := pl) h.hK c1 (h1 q4) (by rw [c2]; exact q5) h3 h4 (h0.trans hl) (h.room.mono (Nat.le_succ _)) ((ck_ok o false S oe q6 X Wx h).1 rfl) k1 k2 hf) rfl
    · cases q
  | .make c f es, md, S, e, q, X, Wx, h => by
    unfold ck at q
    cases e1 : vCall e with
    | none => rw [e1] at q; cases q
    | some r =>
      obtain ⟨fn, args, kw⟩ := r
      rw [e1] at q
      obtain ⟨p, rfl⟩ := vCall_inv e1
      match args, kw, q with
      | x :: xs, [], q0 =>
        clear q
        have q := q0
        clear q0
        dsimp only at q
        cases e2 : vName fn with
        | none => rw [e2] at q; cases q
        | some n =>
          rw [e2] at q
          obtain ⟨p2, rfl⟩ := vName_inv e2
          simp only [Bool.and_eq_true, decide_eq_true_eq] at q
          obtain ⟨⟨⟨⟨⟨⟨⟨q1, q2⟩, q3⟩, q4⟩, q5⟩, q6⟩, q7⟩, q8⟩ := q
          subst q4
          obtain ⟨_, _, c3⟩ := h.cls c q1
          cases e3 : T.fn f with
          | none => rw [e3] at q8; cases q8
          | some F =>
            rw [e3] at q8
            have hl : F.np = es.length + 1 := of_decide_eq_true q8
            obtain ⟨a, fd, ps, h0, _, h2, h3, h4⟩ := h.mts f F c e3 q2
            obtain ⟨k1, k2⟩ := cks_ok es S (x :: xs) q7 X Wx h
            exact .plain (sim_make (h2 q3) (h.gl q5) c3 h3 h4 (h0.trans hl) h.room k1 k2 (undbg_ok q6).1) rfl
  | .pop a, md, S, e, q, X, Wx, h => by
    unfold ck at q
    split at q
    · rename_i z nm apos cpos
      rw [Bool.and_eq_true, Bool.and_eq_true, Bool.and_eq_true] at q
      obtain ⟨⟨⟨q1, q3⟩, q4⟩, q5⟩ := q
      have q1 := of_decide_eq_true q1
      subst q1
      exact .plain (sim_pop h.hK ((ck_ok a false S z q3 X Wx h).1 rfl) q4 q5) rfl
    · cases q
  | .dnew t, md, S, e, q, X, Wx, h => by
    unfold ck at q
    cases e1 : vDict e with
    | none => rw [e1] at q; cases q
    | some r =>
      obtain ⟨ks, vs⟩ := r
      rw [e1] at q
      obtain ⟨p, rfl⟩ := vDict_inv e1
      match ks, vs, q with
      | [], [], _ => exact .plain sim_dnew rfl
  | .din t ng k d, md, S, e, q, X, Wx, h => by
    unfold ck at q
    cases e1 : vCmp e with
    | none => rw [e1] at q; cases q
    | some r =>
      obtain ⟨x, ops, ys⟩ := r
      rw [e1] at q
      obtain ⟨p, rfl⟩ := vCmp_inv e1
      match ops, ys, q with
      | [op], [z], q =>
        rw [Bool.and_eq_true, Bool.and_eq_true, Bool.and_eq_true] at q
        obtain ⟨⟨⟨q1, q2⟩, q3⟩, q4⟩ := q
        have q1 := of_decide_eq_true q1
        subst q1
        have q2 := Bool.not_eq_true' _ |>.mp q2
        have hu : X.A.units + 1 < cLine := by have := h.room.un; omega
        have hkey : PE X x (tEk T N (evC T lvl) t k Wx) := by
          cases t with
          | false => exact sim_kI ((ck_ok k false S x q3 X Wx h).1 rfl)
          | true =>
            match k, q3 with
            | .tup es, qk =>
              cases e9 : vTuple x with
              | none => rw [e9] at qk; cases qk
              | some xs =>
                rw [e9] at qk
                obtain ⟨j9, p9, rfl⟩ := vTuple_inv e9
                obtain ⟨g1, g2⟩ := Bool.and_eq_true_iff.mp (show (cks T I es S xs && decide (es.length ≤ 1000)) = true from qk)
                exact sim_kT (cks_ok es S xs g1 X Wx h).1 (of_decide_eq_true g2)
            | .cut a lo hi, qk =>
              cases e9 : vSub x with
              | none => rw [e9] at qk; cases qk
              | some r9 =>
                obtain ⟨u9, y9⟩ := r9
                rw [e9] at qk
                obtain ⟨p9, rfl⟩ := vSub_inv e9
                change (match vSlice y9 with | some (l, h, none) => ck T I a false S u9 && (match l with | none => isNop lo | some l => !isNop lo && ck T I lo false S l) && (match h with | none => isNop hi | some h => !isNop hi && ck T I hi false S h) | _ => false) = true at qk
                cases e8 : vSlice y9 with
                | none => rw [e8] at qk; cases qk
                | some r8 =>
                  obtain ⟨l8, h8, st8⟩ := r8
                  rw [e8] at qk
                  obtain ⟨p8, rfl⟩ := vSlice_inv e8
                  cases st8 with
                  | some _ => cases qk
                  | none =>
                    simp only [Bool.and_eq_true] at qk
                    exact sim_kC h.hK ((ck_ok a false S u9 qk.1.1 X Wx h).1 rfl) (part_ok (fun z hz => ck_ok lo false S z hz X Wx h) qk.1.2) (part_ok (fun z hz => ck_ok hi false S z hz X Wx h) qk.2)
        have i4 := (ck_ok d false S z q4 X Wx h).1 rfl
        exact ⟨fun _ => sim_din hu q2 i4 hkey, fun _ => ⟨sim_dinT hu q2 i4 hkey, fun op vs p e => by cases e⟩⟩
  | .dget t d k, md, S, e, q, X, Wx, h => by
    unfold ck at q
    cases e1 : vSub e with
    | none => rw [e1] at q; cases q
    | some r =>
      obtain ⟨z, x⟩ := r
      rw [e1] at q
      obtain ⟨p, rfl⟩ := vSub_inv e1
      rw [Bool.and_eq_true, Bool.and_eq_true] at q
      obtain ⟨⟨q3, q4⟩, q5⟩ := q
      have hu : X.A.units + 1 < cLine := by have := h.room.un; omega
      have hkey : PE X x (tEk T N (evC T lvl) t k Wx) := by
        cases t with
        | false => exact sim_kI ((ck_ok k false S x q3 X Wx h).1 rfl)
        | true =>
          match k, q3 with
          | .tup es, qk =>
            cases e9 : vTuple x with
            | none => rw [e9] at qk; cases qk
            | some xs =>
              rw [e9] at qk
              obtain ⟨j9, p9, rfl⟩ := vTuple_inv e9
              obtain ⟨g1, g2⟩ := Bool.and_eq_true_iff.mp (show (cks T I es S xs && decide (es.length ≤ 1000)) = true from qk)
              exact sim_kT (cks_ok es S xs g1 X Wx h).1 (of_decide_eq_true g2)
          | .cut a lo hi, qk =>
            cases e9 : vSub x with
            | none => rw [e9] at qk; cases qk
            | some r9 =>
              obtain ⟨u9, y9⟩ := r9
              rw [e9] at qk
              obtain ⟨p9, rfl⟩ := vSub_inv e9
              change (match vSlice y9 with | some (l, h, none) => ck T I a false S u9 && (match l with | none => isNop lo | some l => !isNop lo && ck T I lo false S l) && (match h with | none => isNop hi | some h => !isNop hi && ck T I hi false S h) | _ => false) = true at qk
              cases e8 : vSlice y9 with
              | none => rw [e8] at qk; cases qk
              | some r8 =>
                obtain ⟨l8, h8, st8⟩ := r8
                rw [e8] at qk
                obtain ⟨p8, rfl⟩ := vSlice_inv e8
                cases st8 with
                | some _ => cases qk
                | none =>
                  simp only [Bool.and_eq_true] at qk
                  exact sim_kC h.hK ((ck_ok a false S u9 qk.1.1 X Wx h).1 rfl) (part_ok (fun z hz => ck_ok lo false S z hz X Wx h) qk.1.2) (part_ok (fun z hz => ck_ok hi false S z hz X Wx h) qk.2)
      exact .plain (sim_dget hu ((ck_ok d false S z q4 X Wx h).1 rfl) hkey (noSl_ok q5)) rfl
  | .dget2 t d k w, md, S, e, q, X, Wx, h => by
    unfold ck at q
    split at q
    · rename_i z nm apos x v cpos
      rw [Bool.and_eq_true, Bool.and_eq_true, Bool.and_eq_true, Bool.and_eq_true, Bool.and_eq_true, Bool.and_eq_true, Bool.and_eq_true] at q
      obtain ⟨⟨⟨⟨⟨⟨⟨q1, q3⟩, q4⟩, q5⟩, q6⟩, q7⟩, q8⟩, q9⟩ := q
      have q1 := of_decide_eq_true q1
      subst q1
      have hu : X.A.units + 1 < cLine := by have := h.room.un; omega
      have hkey : PE X x (tEk T N (evC T lvl) t k Wx) := by
        cases t with
        | false => exact sim_kI ((ck_ok k false S x q3 X Wx h).1 rfl)
        | true =>
          match k, q3 with
          | .tup es, qk =>
            cases e9 : vTuple x with
            | none => rw [e9] at qk; cases qk
            | some xs =>
              rw [e9] at qk
              obtain ⟨j9, p9, rfl⟩ := vTuple_inv e9
              obtain ⟨g1, g2⟩ := Bool.and_eq_true_iff.mp (show (cks T I es S xs && decide (es.length ≤ 1000)) = true from qk)
              exact sim_kT (cks_ok es S xs g1 X Wx h).1 (of_decide_eq_true g2)
          | .cut a lo hi, qk =>
            cases e9 : vSub x with
            | none => rw [e9] at qk; cases qk
            | some r9 =>
              obtain ⟨u9, y9⟩ := r9
              rw [e9] at qk
              obtain ⟨p9, rfl⟩ := vSub_inv e9
              change (match vSlice y9 with | some (l, h, none) => ck T I a false S u9 && (match l with | none => isNop lo | some l => !isNop lo && ck T I lo false S l) && (match h with | none => isNop hi | some h => !isNop hi && ck T I hi false S h) | _ => false) = true at qk
              cases e8 : vSlice y9 with
              | none => rw [e8] at qk; cases qk
              | some r8 =>
                obtain ⟨l8, h8, st8⟩ := r8
                rw [e8] at qk
                obtain ⟨p8, rfl⟩ := vSlice_inv e8
                cases st8 with
                | some _ => cases qk
                | none =>
                  simp only [Bool.and_eq_true] at qk
                  exact sim_kC h.hK ((ck_ok a false S u9 qk.1.1 X Wx h).1 rfl) (part_ok (fun z hz => ck_ok lo false S z hz X Wx h) qk.1.2) (part_ok (fun z hz => ck_ok hi false S z hz X Wx h) qk.2)
      exact .plain (sim_dget2 hu ((ck_ok d false S z q4 X Wx h).1 rfl) hkey ((ck_ok w false S v q5 X Wx h).1 rfl) q6 q7 q8 q9) rfl
    · cases q
  | .nop, _, _, _, q, _, _, _ => by unfold ck at q; cases q
  | .newc (.lit _), _, _, _, q, _, _, _ => by unfold ck at q; cases q
  | .newc (.var _), _, _, _, q, _, _, _ => by unfold ck at q; cases q
  | .newc (.glob _), _, _, _, q, _, _, _ => by unfold ck at q; cases q
  | .newc (.tup _), _, _, _, q, _, _, _ => by unfold ck at q; cases q
  | .newc (.lst _), _, _, _, q, _, _, _ => by unfold ck at q; cases q
  | .newc (.bin _ _ _), _, _, _, q, _, _, _ => by unfold ck at q; cases q
  | .newc (.neg _), _, _, _, q, _, _, _ => by unfold ck at q; cases q
  | .newc (.cmp _ _ _), _, _, _, q, _, _, _ => by unfold ck at q; cases q
  | .newc (.cmp2 _ _ _ _ _), _, _, _, q, _, _, _ => by unfold ck at q; cases q
  | .newc (.and _ _), _, _, _, q, _, _, _ => by unfold ck at q; cases q
  | .newc (.or _ _), _, _, _, q, _, _, _ => by unfold ck at q; cases q
  | .newc (.not _), _, _, _, q, _, _, _ => by unfold ck at q; cases q
  | .newc (.ife _ _ _), _, _, _, q, _, _, _ => by unfold ck at q; cases q
  | .newc (.idx _ _), _, _, _, q, _, _, _ => by unfold ck at q; cases q
  | .newc (.nop), _, _, _, q, _, _, _ => by unfold ck at q; cases q
  | .newc (.slc _ _ _), _, _, _, q, _, _, _ => by unfold ck at q; cases q
  | .newc (.rev _), _, _, _, q, _, _, _ => by unfold ck at q; cases q
  | .newc (.call _ _), _, _, _, q, _, _, _ => by unfold ck at q; cases q
  | .newc (.bi _ _), _, _, _, q, _, _, _ => by unfold ck at q; cases q
  | .newc (.isi _ _), _, _, _, q, _, _, _ => by unfold ck at q; cases q
  | .newc (.newl _), _, _, _, q, _, _, _ => by unfold ck at q; cases q
  | .newc (.newc _), _, _, _, q, _, _, _ => by unfold ck at q; cases q
  | .newc (.isin _ _ _), _, _, _, q, _, _, _ => by unfold ck at q; cases q
  | .newc (.dsel _ _ _), _, _, _, q, _, _, _ => by unfold ck at q; cases q
  | .newc (.cmp3 _ _ _ _ _ _ _), _, _, _, q, _, _, _ => by unfold ck at q; cases q
  | .newc (.cut _ _ _), _, _, _, q, _, _, _ => by unfold ck at q; cases q
  | .newc (.attr _ _ _), _, _, _, q, _, _, _ => by unfold ck at q; cases q
  | .newc (.meth _ _ _ _), _, _, _, q, _, _, _ => by unfold ck at q; cases q
  | .newc (.make _ _ _), _, _, _, q, _, _, _ => by unfold ck at q; cases q
  | .newc (.compL _ _ _ _ _), _, _, _, q, _, _, _ => by unfold ck at q; cases q
  | .newc (.sdc _ _ _ _ _), _, _, _, q, _, _, _ => by unfold ck at q; cases q
  | .newc (.cat _ _), _, _, _, q, _, _, _ => by unfold ck at q; cases q
  | .newc (.sset _), _, _, _, q, _, _, _ => by unfold ck at q; cases q
  | .newc (.trng _), _, _, _, q, _, _, _ => by unfold ck at q; cases q
  | .newc (.lrng _), _, _, _, q, _, _, _ => by unfold ck at q; cases q
  | .newc (.pop _), _, _, _, q, _, _, _ => by unfold ck at q; cases q
  | .newc (.dnew _), _, _, _, q, _, _, _ => by unfold ck at q; cases q
  | .newc (.din _ _ _ _), _, _, _, q, _, _, _ => by unfold ck at q; cases q
  | .newc (.dget _ _ _), _, _, _, q, _, _, _ => by unfold ck at q; cases q
  | .newc (.dget2 _ _ _ _), _, _, _, q, _, _, _ => by unfold ck at q; cases q
  | .newc (.srng1 _), _, _, _, q, _, _, _ => by unfold ck at q; cases q
  | .newc (.srng2 _ _), _, _, _, q, _, _, _ => by unfold ck at q; cases q
  | .newc (.sseq _), _, _, _, q, _, _, _ => by unfold ck at q; cases q
  | .newc (.senum _), _, _, _, q, _, _, _ => by unfold ck at q; cases q
  | .newc (.szip _ _), _, _, _, q, _, _, _ => by unfold ck at q; cases q
  | .newc (.srev _), _, _, _, q, _, _, _ => by unfold ck at q; cases q
  | .srng1 _, _, _, _, q, _, _, _ => by unfold ck at q; cases q
  | .srng2 _ _, _, _, _, q, _, _, _ => by unfold ck at q; cases q
  | .sseq _, _, _, _, q, _, _, _ => by unfold ck at q; cases q
  | .senum _, _, _, _, q, _, _, _ => by unfold ck at q; cases q
  | .szip _ _, _, _, _, q, _, _, _ => by unfold ck at q; cases q
  | .srev _, _, _, _, q, _, _, _ => by unfold ck at q; cases q
theorem cksE_ok : ∀ (es' : List E) (S : SC) (es : List Expr), cks T I es' S es = true → ∀ (X : Cx) (Wx : WX), XOk T N I lvl S Wx X → (∀ p ∈ es'.zip es, PE X p.2 (tE T N (evC T lvl) p.1 Wx)) ∧ es'.length = es.length
  | [], S, [], _, X, Wx, h => ⟨fun p hp => (by cases hp), rfl⟩
  | [], _, _ :: _, q, _, _, _ => by simp [cks] at q
  | _ :: _, _, [], q, _, _, _ => by simp [cks] at q
  | e' :: es', S, e :: es, q, X, Wx, h => by
    rw [cks, Bool.and_eq_true, Bool.and_eq_true] at q
    obtain ⟨h1, h2⟩ := cksE_ok es' S es q.2 X Wx h
    have h0 := (ck_ok e' false S e q.1.1 X Wx h).1 rfl
    refine ⟨fun p hp => ?_, by rw [List.length_cons, List.length_cons, h2]⟩
    rw [List.zip_cons_cons] at hp
    rcases List.mem_cons.mp hp with rfl | hp
    · exact h0
    · exact h1 p hp
theorem cks_ok : ∀ (es' : List E) (S : SC) (es : List Expr), cks T I es' S es = true → ∀ (X : Cx) (Wx : WX), XOk T N I lvl S Wx X → PA X es (tEs T N (evC T lvl) es' Wx) ∧ es.all notStar = true
  | [], S, [], _, X, Wx, h => ⟨sim_nil, rfl⟩
  | [], _, _ :: _, q, _, _, _ => by simp [cks] at q
  | _ :: _, _, [], q, _, _, _ => by simp [cks] at q
  | e' :: es', S, e :: es, q, X, Wx, h => by
    rw [cks, Bool.and_eq_true, Bool.and_eq_true] at q
    obtain ⟨h1, h2⟩ := cks_ok es' S es q.2 X Wx h
    exact ⟨sim_cons ((ck_ok e' false S e q.1.1 X Wx h).1 rfl) h1 q.1.2, by rw [List.all_cons, q.1.2, h2]; rfl⟩
theorem ckI_ok : ∀ (src : E) (S : SC) (tg e : Expr), ckI T I src S tg e = true → ∀ (X : Cx) (Wx : WX), XOk T N I lvl S Wx X → PI X tg e (tI T N (evC T lvl) src Wx)
  | .srng1 a, S, tg, e, q, X, Wx, h => by
    unfold ckI at q
    cases e1 : vCall e with
    | none => rw [e1] at q; cases q
    | some r =>
      obtain ⟨fn, args, kw⟩ := r
      rw [e1] at q
      obtain ⟨p, rfl⟩ := vCall_inv e1
      match args, kw, q with
      | [x], [], q0 =>
        clear q
        have q := q0
        clear q0
        dsimp only at q
        cases e2 : vName fn with
        | none => rw [e2] at q; cases q
        | some n =>
          rw [e2] at q
          obtain ⟨p2, rfl⟩ := vName_inv e2
          simp only [Bool.and_eq_true, decide_eq_true_eq] at q
          obtain ⟨⟨⟨q1, q2⟩, q3⟩, q4⟩ := q
          subst q1
          exact sim_srng1 (h.gl q2) (bn h) ((ck_ok a false S x q3 X Wx h).1 rfl) q4
  | .srng2 a b, S, tg, e, q, X, Wx, h => by
    unfold ckI at q
    cases e1 : vCall e with
    | none => rw [e1] at q; cases q
    | some r =>
      obtain ⟨fn, args, kw⟩ := r
      rw [e1] at q
      obtain ⟨p, rfl⟩ := vCall_inv e1
      match args, kw, q with
      | [x, y], [], q0 =>
        clear q
        have q := q0
        clear q0
        dsimp only at q
        cases e2 : vName fn with
        | none => rw [e2] at q; cases q
        | some n =>
          rw [e2] at q
          obtain ⟨p2, rfl⟩ := vName_inv e2
          simp only [Bool.and_eq_true, decide_eq_true_eq] at q
          obtain ⟨⟨⟨⟨⟨q1, q2⟩, q3⟩, q4⟩, q5⟩, q6⟩ := q
          subst q1
          exact sim_srng2 (h.gl q2) (bn h) ((ck_ok a false S x q3 X Wx h).1 rfl) q4 ((ck_ok b false S y q5 X Wx h).1 rfl) q6
  | .sseq a, S, tg, e, q, X, Wx, h => by
    unfold ckI at q
    exact sim_sseq h.hK ((ck_ok a false S e q X Wx h).1 rfl)
  | .senum a, S, tg, e, q, X, Wx, h => by
    unfold ckI at q
    cases e1 : vCall e with
    | none => rw [e1] at q; cases q
    | some r =>
      obtain ⟨fn, args, kw⟩ := r
      rw [e1] at q
      obtain ⟨p, rfl⟩ := vCall_inv e1
      match args, kw, q with
      | [x], [], q0 =>
        clear q
        have q := q0
        clear q0
        dsimp only at q
        cases e2 : vName fn with
        | none => rw [e2] at q; cases q
        | some n =>
          rw [e2] at q
          obtain ⟨p2, rfl⟩ := vName_inv e2
          simp only [Bool.and_eq_true, decide_eq_true_eq] at q
          obtain ⟨⟨⟨⟨q1, q2⟩, q3⟩, q4⟩, q5⟩ := q
          subst q1
          obtain ⟨te, tk, tp, rfl⟩ : ∃ te tk tp, tg = .Tuple te tk tp := by
            cases tg <;> first | exact ⟨_, _, _, rfl⟩ | cases q5
          exact sim_senum h.hK (h.gl q2) (bn h) ((ck_ok a false S x q3 X Wx h).1 rfl) q4
  | .srev a, S, tg, e, q, X, Wx, h => by
    unfold ckI at q
    cases e1 : vCall e with
    | none => rw [e1] at q; cases q
    | some r =>
      obtain ⟨fn, args, kw⟩ := r
      rw [e1] at q
      obtain ⟨p, rfl⟩ := vCall_inv e1
      match args, kw, q with
      | [x], [], q0 =>
        clear q
        have q := q0
        clear q0
        dsimp only at q
        cases e2 : vName fn with
        | none => rw [e2] at q; cases q
        | some n =>
          rw [e2] at q
          obtain ⟨p2, rfl⟩ := vName_inv e2
          simp only [Bool.and_eq_true, decide_eq_true_eq] at q
          obtain ⟨⟨⟨q1, q2⟩, q3⟩, q4⟩ := q
          subst q1
          exact sim_srev h.hK (h.gl q2) (bn h) ((ck_ok a false S x q3 X Wx h).1 rfl) q4
  | .szip a b, S, tg, e, q, X, Wx, h => by
    unfold ckI at q
    cases e1 : vCall e with
    | none => rw [e1] at q; cases q
    | some r =>
      obtain ⟨fn, args, kw⟩ := r
      rw [e1] at q
      obtain ⟨p, rfl⟩ := vCall_inv e1
      match args, kw, q with
      | [x, y], [], q0 =>
        clear q
        have q := q0
        clear q0
        dsimp only at q
        cases e2 : vName fn with
        | none => rw [e2] at q; cases q
        | some n =>
          rw [e2] at q
          obtain ⟨p2, rfl⟩ := vName_inv e2
          simp only [Bool.and_eq_true, decide_eq_true_eq] at q
          obtain ⟨⟨⟨⟨⟨⟨q1, q2⟩, q3⟩, q4⟩, q5⟩, q6⟩, q7⟩ := q
          subst q1
          obtain ⟨te, tk, tp, rfl⟩ : ∃ te tk tp, tg = .Tuple te tk tp := by
            cases tg <;> first | exact ⟨_, _, _, rfl⟩ | cases q7
          exact sim_szip h.hK (h.gl q2) (bn h) ((ck_ok a false S x q3 X Wx h).1 rfl) q4 ((ck_ok b false S y q5 X Wx h).1 rfl) q6
  | .lit _, _, _, _, q, _, _, _ => by unfold ckI at q; cases q
  | .var _, _, _, _, q, _, _, _ => by unfold ckI at q; cases q
  | .glob _, _, _, _, q, _, _, _ => by unfold ckI at q; cases q
  | .tup _, _, _, _, q, _, _, _ => by unfold ckI at q; cases q
  | .lst _, _, _, _, q, _, _, _ => by unfold ckI at q; cases q
  | .newl _, _, _, _, q, _, _, _ => by unfold ckI at q; cases q
  | .newc _, _, _, _, q, _, _, _ => by unfold ckI at q; cases q
  | .bin _ _ _, _, _, _, q, _, _, _ => by unfold ckI at q; cases q
  | .neg _, _, _, _, q, _, _, _ => by unfold ckI at q; cases q
  | .not _, _, _, _, q, _, _, _ => by unfold ckI at q; cases q
  | .and _ _, _, _, _, q, _, _, _ => by unfold ckI at q; cases q
  | .or _ _, _, _, _, q, _, _, _ => by unfold ckI at q; cases q
  | .cmp _ _ _, _, _, _, q, _, _, _ => by unfold ckI at q; cases q
  | .cmp2 _ _ _ _ _, _, _, _, q, _, _, _ => by unfold ckI at q; cases q
  | .ife _ _ _, _, _, _, q, _, _, _ => by unfold ckI at q; cases q
  | .idx _ _, _, _, _, q, _, _, _ => by unfold ckI at q; cases q
  | .nop, _, _, _, q, _, _, _ => by unfold ckI at q; cases q
  | .slc _ _ _, _, _, _, q, _, _, _ => by unfold ckI at q; cases q
  | .rev _, _, _, _, q, _, _, _ => by unfold ckI at q; cases q
  | .call _ _, _, _, _, q, _, _, _ => by unfold ckI at q; cases q
  | .bi _ _, _, _, _, q, _, _, _ => by unfold ckI at q; cases q
  | .isi _ _, _, _, _, q, _, _, _ => by unfold ckI at q; cases q
  | .comp _ _ _ _ _, _, _, _, q, _, _, _ => by unfold ckI at q; cases q
  | .compL _ _ _ _ _, _, _, _, q, _, _, _ => by unfold ckI at q; cases q
  | .sdc _ _ _ _ _, _, _, _, q, _, _, _ => by unfold ckI at q; cases q
  | .cat _ _, _, _, _, q, _, _, _ => by unfold ckI at q; cases q
  | .sset _, _, _, _, q, _, _, _ => by unfold ckI at q; cases q
  | .trng _, _, _, _, q, _, _, _ => by unfold ckI at q; cases q
  | .lrng _, _, _, _, q, _, _, _ => by unfold ckI at q; cases q
  | .isin _ _ _, _, _, _, q, _, _, _ => by unfold ckI at q; cases q
  | .cut _ _ _, _, _, _, q, _, _, _ => by unfold ckI at q; cases q
  | .cmp3 _ _ _ _ _ _ _, _, _, _, q, _, _, _ => by unfold ckI at q; cases q
  | .attr _ _ _, _, _, _, q, _, _, _ => by unfold ckI at q; cases q
  | .meth _ _ _ _, _, _, _, q, _, _, _ => by unfold ckI at q; cases q
  | .make _ _ _, _, _, _, q, _, _, _ => by unfold ckI at q; cases q
  | .pop _, _, _, _, q, _, _, _ => by unfold ckI at q; cases q
  | .dnew _, _, _, _, q, _, _, _ => by unfold ckI at q; cases q
  | .din _ _ _ _, _, _, _, q, _, _, _ => by unfold ckI at q; cases q
  | .dget _ _ _, _, _, _, q, _, _, _ => by unfold ckI at q; cases q
  | .dget2 _ _ _ _, _, _, _, q, _, _, _ => by unfold ckI at q; cases q
  | .dsel _ _ _, _, _, _, q, _, _, _ => by unfold ckI at q; cases q
end
def ckKey (T : Tab) (I : TI) (t : Bool) (k : E) (S : SC) (x : Expr) : Bool := match t, k with
  | false, k => ck T I k false S x
  | true, .tup es => (match vTuple x with
    | some xs => cks T I es S xs && decide (es.length ≤ 1000)
    | none => false)
  | true, .cut a lo hi => (match vSub x with
    | some (u, y) => (match vSlice y with
      | some (l, h, none) => ck T I a false S u && (match l with
          | none => isNop lo
          | some l => !isNop lo && ck T I lo false S l) && (match h with
          | none => isNop hi
          | some h => !isNop hi && ck T I hi false S h)
      | _ => false)
    | none => false)
  | true, _ => false
theorem ckKey_ok {t : Bool} {k : E} {S : SC} {x : Expr} (q3 : ckKey T I t k S x = true) {X : Cx} {Wx : WX} (h : XOk T N I lvl S Wx X) : PE X x (tEk T N (evC T lvl) t k Wx) := by
  unfold ckKey at q3
  have hkey : PE X x (tEk T N (evC T lvl) t k Wx) := by
    cases t with
    | false => exact sim_kI ((ck_ok k false S x q3 X Wx h).1 rfl)
    | true =>
      match k, q3 with
      | .tup es, qk =>
        cases e9 : vTuple x with
        | none => rw [e9] at qk; cases qk
        | some xs =>
          rw [e9] at qk
          obtain ⟨j9, p9, rfl⟩ := vTuple_inv e9
          obtain ⟨g1, g2⟩ := Bool.and_eq_true_iff.mp (show (cks T I es S xs && decide (es.length ≤ 1000)) = true from qk)
          exact sim_kT (cks_ok es S xs g1 X Wx h).1 (of_decide_eq_true g2)
      | .cut a lo hi, qk =>
        cases e9 : vSub x with
        | none => rw [e9] at qk; cases qk
        | some r9 =>
          obtain ⟨u9, y9⟩ := r9
          rw [e9] at qk
          obtain ⟨p9, rfl⟩ := vSub_inv e9
          change (match vSlice y9 with | some (l, h, none) => ck T I a false S u9 && (match l with | none => isNop lo | some l => !isNop lo && ck T I lo false S l) && (match h with | none => isNop hi | some h => !isNop hi && ck T I hi false S h) | _ => false) = true at qk
          cases e8 : vSlice y9 with
          | none => rw [e8] at qk; cases qk
          | some r8 =>
            obtain ⟨l8, h8, st8⟩ := r8
            rw [e8] at qk
            obtain ⟨p8, rfl⟩ := vSlice_inv e8
            cases st8 with
            | some _ => cases qk
            | none =>
              simp only [Bool.and_eq_true] at qk
              exact sim_kC h.hK ((ck_ok a false S u9 qk.1.1 X Wx h).1 rfl) (part_ok (fun z hz => ck_ok lo false S z hz X Wx h) qk.1.2) (part_ok (fun z hz => ck_ok hi false S z hz X Wx h) qk.2)
  exact hkey
end
end WM
namespace WM
open PySem PySem.Spec PyProof.Rows L2

/-! ### which names are stored swapped -/
def isStarE : Expr → Bool
  | .Starred .. => true
  | _ => false
def nameE (sc : Scope) (line : Nat) : Expr → Option Str
  | .Name id pos => if sc.names.lookup id == some .local && pos.line == line then some id else none
  | _ => none
def lineE (ts : List Expr) : Nat := (ts.head?.map (·.pos.line)).getD 0
/-- some r: what swappedStores tells; none: it does not tell -/
def swapR (S : SC) (ts vs : List Expr) : Option (Option (List Str)) :=
  if (!(ts.length == 2 || ts.length == 3) || vs.length != ts.length || (if S.sc.kind.isAnnotationScope then ScopeKind.function else S.sc.kind) != .function) = true then some none
  else if vs.any isStarE = true then some none
  else if ((ts.filterMap (nameE S.sc (lineE ts))).length != ts.length || (ts.filterMap (nameE S.sc (lineE ts))).eraseDups.length != (ts.filterMap (nameE S.sc (lineE ts))).length) = true then some none
  else if vs.all (foldedForSure 8) = true then some none
  else if vs.all (constantsAlone 8) = true then none
  else some (some (ts.filterMap (nameE S.sc (lineE ts))))
theorem swap_ok {S : SC} {ts vs : List Expr} {k p k2 p2} {env : Env} (hs : env.scope = S.sc) {r : Option (List Str)} (h : swapR S ts vs = some r) : swappedStores [.Tuple ts k p] (.Tuple vs k2 p2) env = pure r := by
  have e : swappedStores [.Tuple ts k p] (.Tuple vs k2 p2) env =
      if (!(ts.length == 2 || ts.length == 3) || vs.length != ts.length || (if S.sc.kind.isAnnotationScope then ScopeKind.function else S.sc.kind) != .function) = true then pure none
      else if vs.any isStarE = true then pure none
      else if ((ts.filterMap (nameE S.sc (lineE ts))).length != ts.length || (ts.filterMap (nameE S.sc (lineE ts))).eraseDups.length != (ts.filterMap (nameE S.sc (lineE ts))).length) = true then pure none
      else if vs.all (foldedForSure 8) = true then pure none
      else if vs.all (constantsAlone 8) = true then (do unsupported "assign.tuple-of-constant-expressions:order-of-the-stores"; pure (some (ts.filterMap (nameE S.sc (lineE ts)))))
      else pure (some (ts.filterMap (nameE S.sc (lineE ts)))) := by
    unfold swappedStores Env.blockKind Env.kindOf
    rw [hs]
    rfl
  rw [e]
  unfold swapR at h
  generalize (!(ts.length == 2 || ts.length == 3) || vs.length != ts.length || (if S.sc.kind.isAnnotationScope then ScopeKind.function else S.sc.kind) != .function) = c1 at h ⊢
  generalize vs.any isStarE = c2 at h ⊢
  generalize ((ts.filterMap (nameE S.sc (lineE ts))).length != ts.length || (ts.filterMap (nameE S.sc (lineE ts))).eraseDups.length != (ts.filterMap (nameE S.sc (lineE ts))).length) = c3 at h ⊢
  generalize vs.all (foldedForSure 8) = c4 at h ⊢
  generalize vs.all (constantsAlone 8) = c5 at h ⊢
  cases c1
  · cases c2
    · cases c3
      · cases c4
        · cases c5
          · cases h; rfl
          · cases h
        · cases h; rfl
      · cases h; rfl
    · cases h; rfl
  · cases h; rfl
def swapNone (S : SC) (tg e : Expr) : Bool := match vTuple tg, vTuple e with
  | some ts, some vs => decide (swapR S ts vs = some none)
  | _, _ => true
theorem swapNone_ok {S : SC} {tg e : Expr} {env : Env} (hs : env.scope = S.sc) (h : swapNone S tg e = true) (hl : vList tg = none) : swappedStores [tg] e env = pure none := by
  unfold swapNone at h
  cases e1 : vTuple tg with
  | none =>
    cases tg <;> first | rfl | (cases e1; done) | (cases hl; done)
  | some ts =>
    obtain ⟨j, p, rfl⟩ := vTuple_inv e1
    cases e2 : vTuple e with
    | none => cases e <;> first | rfl | cases e2
    | some vs =>
      obtain ⟨j2, p2, rfl⟩ := vTuple_inv e2
      rw [e1, e2] at h
      exact swap_ok hs (of_decide_eq_true h)

/-! ### looking at statements -/
def vNames : List Expr → Option (List Str)
  | [] => some []
  | .Name x _ :: r => (vNames r).map (x :: ·)
  | _ :: _ => none
mutual
def ckS (T : Tab) (I : TI) : S → SC → Stmt → Bool
  | .pass, _, st => match st with
    | .Pass _ => true
    | .Expr (.Constant (.str _) _ _) _ => true
    | _ => false
  | .brk, _, st => match st with
    | .Break _ => true
    | _ => false
  | .cnt, _, st => match st with
    | .Continue _ => true
    | _ => false
  | .expr e', S, st => match st with
    | .Expr e _ => ck T I e' false S e && notComp e
    | _ => false
  | .ret e', S, st => match st with
    | .Return (some e) _ => ck T I e' false S e
    | _ => false
  | .dead, _, _ => true
  | .raise c, S, st => match st with
    | .Raise (some (.Call (.Name x _) [.Constant (.str _) _ _] [] _)) none _ => I.isX c && decide (x = I.cname c) && glB S x && !(x == ("__debug__" : Str))
    | _ => false
  | .tryB c body i, S, st => match st with
    | .Try b [.ExceptHandler (some (.Name x _)) (some n) [.If (.UnaryOp .Not (.Call (.Name x1 _) [.Name n2 _, .Name x3 _] [] _) _) [.Return (some (.Constant (.bool false) _ _)) _] [] _] _] [] [] _ =>
      I.isX c && decide (x = I.cname c) && glB S x && !(x == ("__debug__" : Str)) && decide (S.N[i]? = some n) && decide (S.sc.names.lookup n = some .local) && decide (n2 = n) && decide (x1 = Str.ofString "isinstance") &&
        decide (x3 = Str.ofString "ValueError") && glB S x1 && glB S x3 && !(n == ("__debug__" : Str)) && !(n == ("__classdict__" : Str)) && !S.blk && ckSs T I body S b
    | _ => false
  | .rem o e', S, st => match st with
    | .Expr (.Call (.Attribute oe nm apos) [e] [] cpos) _ => decide (nm = Str.ofString "remove") && ck T I o false S oe && ck T I e' false S e && plainBase oe && notStar e && (apos.endLine == cpos.line)
    | _ => false
  | .setA c f o e', S, st => match st with
    | .Assign [.Attribute oe nm _] e _ => I.isC c && decide ((I.flds c)[f]? = some nm) && ck T I o false S oe && ck T I e' false S e && notComp e
    | _ => false
  | .dput t d k e', S, st => match st with
    | .Assign [.Subscript de ke _] e _ => ck T I d false S de && ckKey T I t k S ke && ck T I e' false S e && notComp e
    | _ => false
  | .retN, _, st => match st with
    | .Return none _ => true
    | _ => false
  | .set t e', S, st => match st with
    | .Assign [tg] e _ => ckT t S tg && ck T I e' false S e && notComp e && swapNone S tg e && (vList tg).isNone && notStar tg
    | _ => false
  | .setc i e', S, st => match st with
    | .Assign [.Name y py] (.ListComp elt gens scope pos) spos => !S.blk && decide (S.N[i]? = some y) && ck T I e' false S (.ListComp elt gens scope pos) &&
        (match S.sc.names.lookup y with
          | some .local => decide (py.line = pos.line) && !(scope.names.any fun (n, k) => n == y && (k == .local || k == .cell)) && (match S.sc.kind with
            | .function => true
            | _ => false)
          | some .cell => true
          | _ => false)
    | _ => false
  | .par is es', S, st => match st with
    | .Assign [.Tuple ts _ _] (.Tuple es _ _) _ => (match vNames ts with
        | some xs => decide (swapR S ts es = some (some xs)) && (match is, xs with
          | [i, j], [x, y] => decide (S.N[i]? = some x) && decide (S.N[j]? = some y) && decide (i ≠ j) && decide (S.sc.names.lookup x = some .local) && decide (S.sc.names.lookup y = some .local)
          | [i, j, l], [x, y, z] => decide (S.N[i]? = some x) && decide (S.N[j]? = some y) && decide (S.N[l]? = some z) && decide (i ≠ j) && decide (i ≠ l) && decide (j ≠ l) &&
              decide (S.sc.names.lookup x = some .local) && decide (S.sc.names.lookup y = some .local) && decide (S.sc.names.lookup z = some .local)
          | _, _ => false)
        | none => false) && cks T I es' S es && decide (es.length = is.length)
    | _ => false
  | .aug i o e', S, st => match st with
    | .AugAssign (.Name x _) op e _ => decide (S.N[i]? = some x) && locB S x && decide (augP o = some op) && ck T I e' false S e
    | _ => false
  | .setI o i e', S, st => match st with
    | .Assign [.Subscript oe ie _] e _ => ck T I o false S oe && ck T I i false S ie && ck T I e' false S e && notComp e && notSlice ie
    | _ => false
  | .app o e', S, st => match st with
    | .Expr (.Call (.Attribute oe nm apos) [e] [] cpos) _ => decide (nm = Str.ofString "append") && ck T I o false S oe && ck T I e' false S e && plainBase oe && notStar e && (apos.endLine == cpos.line)
    | _ => false
  | .ife c a b, S, st => match st with
    | .If ce as bs _ => ck T I c true S ce && ckSs T I a S as && ckSs T I b S bs
    | _ => false
  | .loop t src body, S, st => match st with
    | .For tg it bd [] _ => ckT t S tg && ckI T I src S tg it && ckSs T I body S bd && notSet it && !S.blk
    | _ => false
  | .loopL t src body, S, st => match st with
    | .For tg it bd [] _ => ckT t S tg && ck T I src false S it && ckSs T I body S bd && notSet it && !S.blk
    | _ => false
  | .while c body, S, st => match st with
    | .While ce bd [] _ => ck T I c true S ce && ckSs T I body S bd && !S.blk
    | _ => false
def ckSs (T : Tab) (I : TI) : List S → SC → List Stmt → Bool
  | [], _, [] => true
  | s :: ss, S, st :: r => ckS T I s S st && ckSs T I ss S r
  | _, _, _ => false
end
theorem cks_len {T : Tab} {I : TI} : ∀ {es' : List E} {S : SC} {es : List Expr}, cks T I es' S es = true → es'.length = es.length
  | [], _, [], _ => rfl
  | [], _, _ :: _, q => by simp [cks] at q
  | _ :: _, _, [], q => by simp [cks] at q
  | e' :: es', S, e :: es, q => by
    rw [cks, Bool.and_eq_true, Bool.and_eq_true] at q
    rw [List.length_cons, List.length_cons, cks_len q.2]
theorem vNames_inv : ∀ {ts : List Expr} {xs : List Str}, vNames ts = some xs → ∃ ps : List Pos, ts.length = xs.length ∧ ps.length = xs.length ∧ ts = (xs.zip ps).map fun p => Expr.Name p.1 p.2
  | [], xs, h => by cases h; exact ⟨[], rfl, rfl, rfl⟩
  | t :: r, xs, h => by
    cases t with
    | Name x p =>
      have h' : (vNames r).map (x :: ·) = some xs := h
      cases e : vNames r with
      | none => rw [e] at h'; cases h'
      | some ys =>
        rw [e] at h'
        cases h'
        obtain ⟨ps, h1, h2, h3⟩ := vNames_inv e
        exact ⟨p :: ps, by simp [h1], by simp [h2], by rw [h3]; rfl⟩
    | _ => cases h
section
variable {T : Tab} {N : En} {I : TI} {lvl : Nat} {S : SC} {Wx : WX} {X : Cx}
theorem comp_parts (h : XOk T N I lvl S Wx X) {elt' src cond : E} {tg : Tg} {own : List Nat} {md : Bool} {elt : Expr} {gens : List Comprehension} {scope : Scope} {p : Pos} (q : ck T I (.comp elt' tg src cond own) md S (.ListComp elt gens scope p) = true) :
    ∃ tgE it ifs, gens = [⟨tgE, it, ifs, 0⟩] ∧ PI X tgE it (tI T N (evC T lvl) src Wx) ∧ BlkOk X.N X.env.scope scope (ownB S.N own) ∧
      (∀ (s : Shared) (H : Hp) (Ca : Addr) (cl : List (Str × Addr)) (fp : List Addr), PG (X.blk s H scope (compEnvC scope cl Ca X.env) fp) tgE (gT N tg)) ∧
      (∀ (s : Shared) (H : Hp) (Ca : Addr) (cl : List (Str × Addr)) (fp : List Addr), PTs (X.blk s H scope (compEnvC scope cl Ca X.env) fp) ifs (tT T N (evC T lvl) cond fun _ _ _ _ => False)) ∧
      (∀ (s : Shared) (H : Hp) (Ca : Addr) (cl : List (Str × Addr)) (fp : List Addr), PE (X.blk s H scope (compEnvC scope cl Ca X.env) fp) elt (tE T N (evC T lvl) elt' fun _ _ _ _ => False)) ∧
      (∀ x, foldedSetIterable it X.env x = pure x) ∧ ∀ j ∈ tg.ix, j ∈ own := by
  unfold ck at q
  have e1 : vComp (.ListComp elt gens scope p) = some (elt, gens, scope) := rfl
  rw [e1] at q
  match gens, q with
  | [⟨tgE, it, ifs, asy⟩], q0 =>
    clear q
    have q := q0
    clear q0
    dsimp only at q
    simp only [Bool.and_eq_true, decide_eq_true_eq] at q
    obtain ⟨⟨⟨⟨⟨⟨⟨q1, q2⟩, q3⟩, q4⟩, q5⟩, q6⟩, q7⟩, q8⟩ := q
    subst q1
    refine ⟨tgE, it, ifs, rfl, ckI_ok src S tgE it q2 X Wx h, blkOk_by (by rw [h.hN, h.sc]; exact q4), fun s H Ca cl fp => ckT_ok (h.blk s H scope cl Ca fp) tg tgE q5, fun s H Ca cl fp => ?_,
      fun s H Ca cl fp => (ck_ok elt' false _ elt q7 _ _ (h.blk s H scope cl Ca fp)).1 rfl, noset q3, fun j hj => List.contains_iff_mem.mp (List.all_eq_true.mp q8 j hj)⟩
    match ifs, q6 with
    | [], q6 =>
      cases cond with
      | lit w =>
        cases w with
        | bl b => cases b with
          | true => exact sim_noif'
          | false => cases q6
        | _ => cases q6
      | _ => cases q6
    | [c], q6 => exact pts_one ((ck_ok cond true _ c q6 _ _ (h.blk s H scope cl Ca fp)).2 rfl).1
theorem comp_partsL (h : XOk T N I lvl S Wx X) {elt' src cond : E} {tg : Tg} {own : List Nat} {md : Bool} {elt : Expr} {gens : List Comprehension} {scope : Scope} {p : Pos} (q : ck T I (.compL elt' tg src cond own) md S (.ListComp elt gens scope p) = true) :
    ∃ tgE it ifs, gens = [⟨tgE, it, ifs, 0⟩] ∧ PI X tgE it (fun σ H R => tE T N (evC T lvl) src Wx σ H fun x H1 => ∃ a, x = .ref a ∧ (((∃ xs, SqL N.K H1 a xs) ∧ R (Itl N.K a) H1) ∨ ((∃ xs, SqT N.K H1 a xs) ∧ R (Itt N.K a) H1))) ∧ BlkOk X.N X.env.scope scope (ownB S.N own) ∧
      (∀ (s : Shared) (H : Hp) (Ca : Addr) (cl : List (Str × Addr)) (fp : List Addr), PG (X.blk s H scope (compEnvC scope cl Ca X.env) fp) tgE (gT N tg)) ∧
      (∀ (s : Shared) (H : Hp) (Ca : Addr) (cl : List (Str × Addr)) (fp : List Addr), PTs (X.blk s H scope (compEnvC scope cl Ca X.env) fp) ifs (tT T N (evC T lvl) cond fun _ _ _ _ => False)) ∧
      (∀ (s : Shared) (H : Hp) (Ca : Addr) (cl : List (Str × Addr)) (fp : List Addr), PE (X.blk s H scope (compEnvC scope cl Ca X.env) fp) elt (tE T N (evC T lvl) elt' fun _ _ _ _ => False)) ∧
      (∀ x, foldedSetIterable it X.env x = pure x) ∧ ∀ j ∈ tg.ix, j ∈ own := by
  unfold ck at q
  have e1 : vComp (.ListComp elt gens scope p) = some (elt, gens, scope) := rfl
  rw [e1] at q
  match gens, q with
  | [⟨tgE, it, ifs, asy⟩], q0 =>
    clear q
    have q := q0
    clear q0
    dsimp only at q
    simp only [Bool.and_eq_true, decide_eq_true_eq] at q
    obtain ⟨⟨⟨⟨⟨⟨⟨q1, q2⟩, q3⟩, q4⟩, q5⟩, q6⟩, q7⟩, q8⟩ := q
    subst q1
    refine ⟨tgE, it, ifs, rfl, (by have z := pi_either (tg := tgE) ((ck_ok src false S it q2 X Wx h).1 rfl); rw [h.hK] at z; exact z), blkOk_by (by rw [h.hN, h.sc]; exact q4), fun s H Ca cl fp => ckT_ok (h.blk s H scope cl Ca fp) tg tgE q5, fun s H Ca cl fp => ?_,
      fun s H Ca cl fp => (ck_ok elt' false _ elt q7 _ _ (h.blk s H scope cl Ca fp)).1 rfl, noset q3, fun j hj => List.contains_iff_mem.mp (List.all_eq_true.mp q8 j hj)⟩
    match ifs, q6 with
    | [], q6 =>
      cases cond with
      | lit w =>
        cases w with
        | bl b => cases b with
          | true => exact sim_noif'
          | false => cases q6
        | _ => cases q6
      | _ => cases q6
    | [c], q6 => exact pts_one ((ck_ok cond true _ c q6 _ _ (h.blk s H scope cl Ca fp)).2 rfl).1
theorem sim_setc (h : XOk T N I lvl S Wx X) {i : Nat} {e' : E} {y : Str} {py : Pos} {elt : Expr} {gens : List Comprehension} {scope : Scope} {pos spos : Pos}
    (q : ckS T I (.setc i e') S (.Assign [.Name y py] (.ListComp elt gens scope pos) spos) = true) : PS X (.Assign [.Name y py] (.ListComp elt gens scope pos) spos) (tS T N (evC T lvl) (.setc i e') Wx) := by
  have q' : (!S.blk && decide (S.N[i]? = some y) && ck T I e' false S (.ListComp elt gens scope pos) &&
        (match S.sc.names.lookup y with
          | some .local => decide (py.line = pos.line) && !(scope.names.any fun (n, k) => n == y && (k == .local || k == .cell)) && (match S.sc.kind with
            | .function => true
            | _ => false)
          | some .cell => true
          | _ => false)) = true := by unfold ckS at q; exact q
  clear q
  rw [Bool.and_eq_true, Bool.and_eq_true, Bool.and_eq_true] at q'
  obtain ⟨⟨⟨q1, q2⟩, q3⟩, q4⟩ := q'
  have hi : X.N[i]? = some y := by rw [h.hN]; exact of_decide_eq_true q2
  have hb : S.blk = false := by cases e : S.blk with
    | true => rw [e] at q1; cases q1
    | false => rfl
  have hn : X.N.Nodup := by rw [h.hN]; exact h.nd
  cases hk : S.sc.names.lookup y with
  | none => rw [hk] at q4; cases q4
  | some k =>
    rw [hk] at q4
    cases k with
    | «local» =>
      dsimp only at q4
      rw [Bool.and_eq_true, Bool.and_eq_true] at q4
      obtain ⟨⟨l1, l2⟩, l3⟩ := q4
      cases e' with
      | comp elt' tg src cond own =>
        obtain ⟨tgE, it, ifs, eg, p1, p2, p3, p4, p5, p6, p7⟩ := comp_parts h q3
        subst eg
        have hkind : X.env.scope.kind = .function := by
          rw [h.sc]
          split at l3
          · assumption
          · cases l3
        have hloc : X.env.scope.names.lookup y = some .local := by rw [h.sc]; exact hk
        refine (ps_setLc h.calm hn hi hloc (sw_true hkind hloc (by rw [of_decide_eq_true l1]; exact beq_self_eq_true _) (by simpa using l2)) p1 p2 p3 p4 p5 p6).imp fun D σ H ⟨F, ρ, m, sg, R, S', hh⟩ => ?_
        rw [own_fst]
        rw [evS] at hh
        exact comp_reads p7 σ H _ (tE.mk R S' (hh.lft S') fun w ρ1 m1 H1 v e1 R1 D1 rv => DenS.nx D1 R1 ((S'.mono e1).set i rv))
      | compL elt' tg src cond own =>
        obtain ⟨tgE, it, ifs, eg, p1, p2, p3, p4, p5, p6, p7⟩ := comp_partsL h q3
        subst eg
        have hkind : X.env.scope.kind = .function := by
          rw [h.sc]
          split at l3
          · assumption
          · cases l3
        have hloc : X.env.scope.names.lookup y = some .local := by rw [h.sc]; exact hk
        refine (ps_setLc h.calm hn hi hloc (sw_true hkind hloc (by rw [of_decide_eq_true l1]; exact beq_self_eq_true _) (by simpa using l2)) p1 p2 p3 p4 p5 p6).imp fun D σ H ⟨F, ρ, m, sg, R, S', hh⟩ => ?_
        rw [own_fst]
        rw [evS] at hh
        exact comp_readsL p7 σ H _ (tE.mk R S' (hh.lft S') fun w ρ1 m1 H1 v e1 R1 D1 rv => DenS.nx D1 R1 ((S'.mono e1).set i rv))
      | newc e2 =>
        cases e2 with
        | comp elt' tg src cond own =>
        obtain ⟨tgE, it, ifs, eg, p1, p2, p3, p4, p5, p6, p7⟩ := comp_parts h (elt' := elt') (src := src) (cond := cond) (tg := tg) (own := own) (md := false) (elt := elt) (gens := gens) (scope := scope) (p := pos) (by unfold ck at q3 ⊢; exact q3)
        subst eg
        have hkind : X.env.scope.kind = .function := by
          rw [h.sc]
          split at l3
          · assumption
          · cases l3
        have hloc : X.env.scope.names.lookup y = some .local := by rw [h.sc]; exact hk
        refine (ps_setLc h.calm hn hi hloc (sw_true hkind hloc (by rw [of_decide_eq_true l1]; exact beq_self_eq_true _) (by simpa using l2)) p1 p2 p3 p4 p5 p6).imp fun D σ H ⟨F, ρ, m, sg, R, S', hh⟩ => ?_
        rw [own_fst]
        rw [evS] at hh
        exact comp_newc p7 σ H _ (tE.mk R S' (hh.lft S') fun w ρ1 m1 H1 v e1 R1 D1 rv => DenS.nx D1 R1 ((S'.mono e1).set i rv))
        | _ => unfold ck at q3; cases q3
      | _ => unfold ck at q3; cases q3
    | cell =>
      have hc : X.env.scope.names.lookup y = some .cell := by rw [h.sc]; exact hk
      have hg : PG X (.Name y py) (gName i) := pg_name hn hi (.inr hc) (.inl (h.fnl hb y))
      have he := (ck_ok e' false S _ q3 X Wx h).1 rfl
      have hs : swapsWithSole [.Name y py] (.ListComp elt gens scope pos) spos.line X.env = pure false := by
        have ky : X.env.kindOf y = some .cell := hc
        unfold swapsWithSole swapsWith
        simp only [ky]
        rw [show (some NameKind.cell == some NameKind.local) = false from rfl, Bool.and_false, Bool.false_and, Bool.false_and]
      refine (ps_asg he hg hs rfl rfl).imp fun D σ H ⟨F, ρ, m, sg, R, S', hh⟩ => ?_
      rw [evS] at hh
      exact tE.mk R S' (hh.lft S') fun w ρ1 m1 H1 v e1 R1 D1 rv => DenS.nx D1 R1 ((S'.mono e1).set i rv)
    | _ => cases q4
theorem lkp_of {x : Str} {k : Option NameKind} (h : XOk T N I lvl S Wx X) (e : S.sc.names.lookup x = k) : X.env.scope.names.lookup x = k := by rw [h.sc]; exact e
mutual
theorem ckS_ok : ∀ (s : WM.S) (st : Stmt), ckS T I s S st = true → ∀ (Wx : WX) (X : Cx), XOk T N I lvl S Wx X → PS X st (tS T N (evC T lvl) s Wx)
  | .pass, st, q, Wx, X, h => by
    unfold ckS at q
    split at q
    · exact sim_pass
    · exact sim_doc
    · cases q
  | .brk, st, q, Wx, X, h => by
    unfold ckS at q
    split at q
    · exact sim_brk
    · cases q
  | .cnt, st, q, Wx, X, h => by
    unfold ckS at q
    split at q
    · exact sim_cnt
    · cases q
  | .expr e', st, q, Wx, X, h => by
    unfold ckS at q
    split at q
    · rw [Bool.and_eq_true] at q
      exact sim_expr ((ck_ok e' false S _ q.1 X Wx h).1 rfl) q.2
    · cases q
  | .ret e', st, q, Wx, X, h => by
    unfold ckS at q
    split at q
    · exact sim_ret ((ck_ok e' false S _ q X Wx h).1 rfl)
    · cases q
  | .setA c f o e', st, q, Wx, X, h => by
    unfold ckS at q
    split at q
    · simp only [Bool.and_eq_true, decide_eq_true_eq] at q
      obtain ⟨⟨⟨⟨q1, q2⟩, q3⟩, q4⟩, q5⟩ := q
      obtain ⟨c1, c2, _⟩ := h.cls c q1
      exact sim_setA c1 (by rw [c2]; exact q2) ((ck_ok o false S _ q3 X Wx h).1 rfl) ((ck_ok e' false S _ q4 X Wx h).1 rfl) q5
    · cases q
  | .dput t d k e', st, q, Wx, X, h => by
    unfold ckS at q
    split at q
    · simp only [Bool.and_eq_true] at q
      obtain ⟨⟨⟨q1, q2⟩, q3⟩, q4⟩ := q
      have hu : X.A.units + 1 < cLine := by have := h.room.un; omega
      exact sim_dput hu ((ck_ok d false S _ q1 X Wx h).1 rfl) (ckKey_ok q2 h) ((ck_ok e' false S _ q3 X Wx h).1 rfl) q4
    · cases q
  | .dead, st, q, Wx, X, h => ps_never.imp fun D σ H ⟨F, ρ, m, sg, R, S, z⟩ => by
    rw [evS] at z; exact z.elim
  | .retN, st, q, Wx, X, h => by
    unfold ckS at q
    split at q
    · exact sim_retN
    · cases q
  | .raise c, st, q, Wx, X, h => by
    unfold ckS at q
    split at q
    · simp only [Bool.and_eq_true, decide_eq_true_eq, Bool.not_eq_true'] at q
      obtain ⟨⟨⟨q1, q2⟩, q3⟩, q4⟩ := q
      obtain ⟨F, g⟩ := h.xcs c q1
      exact sim_raise h.hK h.calm h.tk F (by rw [q2]; exact g) (h.gl q3) q4
    · cases q
  | .tryB c body i, st, q, Wx, X, h => by
    unfold ckS at q
    split at q
    · simp only [Bool.and_eq_true, decide_eq_true_eq, Bool.not_eq_true'] at q
      obtain ⟨⟨⟨⟨⟨⟨⟨⟨⟨⟨⟨⟨⟨⟨q1, q2⟩, q3⟩, q4⟩, q5⟩, q6⟩, q7⟩, q8⟩, q9⟩, q10⟩, q11⟩, q12⟩, q13⟩, q14⟩, q15⟩ := q
      subst q7 q8 q9
      obtain ⟨F, g⟩ := h.xcs c q1
      exact sim_tryB h.hK (h.hs q14) (h.hf q14) (by rw [h.hN]; exact h.nd) (by rw [h.hN]; exact q5) (lkp_of h q6) ⟨h.gl q3, q4, .inl (by rw [q2]; exact g)⟩ h.tk F
        (fun W pn xe tk po => ckSs_ok body _ q15 W (X.tr pn xe) (h.tr tk po)) (h.gl q10) (bn h) (h.gl q11) (bn h) q12 q13
    · cases q
  | .rem o e', st, q, Wx, X, h => by
    unfold ckS at q
    split at q
    · simp only [Bool.and_eq_true, decide_eq_true_eq] at q
      obtain ⟨⟨⟨⟨⟨q1, q2⟩, q3⟩, q4⟩, q5⟩, q6⟩ := q
      subst q1
      exact sim_rem h.hK (by have := h.room.un; omega) ((ck_ok o false S _ q2 X Wx h).1 rfl) ((ck_ok e' false S _ q3 X Wx h).1 rfl) q4 q5 q6
    · cases q
  | .set t e', st, q, Wx, X, h => by
    unfold ckS at q
    split at q
    · simp only [Bool.and_eq_true, Option.isNone_iff_eq_none] at q
      obtain ⟨⟨⟨⟨⟨q1, q2⟩, q3⟩, q4⟩, q5⟩, q6⟩ := q
      exact sim_set ((ck_ok e' false S _ q2 X Wx h).1 rfl) (ckT_ok h t _ q1) (sole_false q3) (swapNone_ok h.sc q4 q5) q6
    · cases q
  | .setc i e', st, q, Wx, X, h => by
    have q2 := q
    unfold ckS at q
    split at q
    · exact sim_setc h q2
    · cases q
  | .par is es', st, q, Wx, X, h => by
    unfold ckS at q
    split at q
    · rename_i ts k1 p1 es k2 p2 pos
      rw [Bool.and_eq_true, Bool.and_eq_true] at q
      obtain ⟨⟨q1, q2⟩, q3⟩ := q
      cases e1 : vNames ts with
      | none => rw [e1] at q1; cases q1
      | some xs =>
        rw [e1] at q1
        dsimp only at q1
        rw [Bool.and_eq_true] at q1
        obtain ⟨q4, q5⟩ := q1
        have hw := swap_ok (k := k1) (p := p1) (k2 := k2) (p2 := p2) h.sc (of_decide_eq_true q4)
        obtain ⟨ps, hl1, hl2, hts⟩ := vNames_inv e1
        obtain ⟨ha, _⟩ := cks_ok es' S es q2 X Wx h
        have hn : X.N.Nodup := by rw [h.hN]; exact h.nd
        match is, xs, q5 with
        | [i, j], [x, y], q5 =>
          simp only [Bool.and_eq_true, decide_eq_true_eq] at q5
          obtain ⟨⟨⟨⟨a1, a2⟩, a3⟩, a4⟩, a5⟩ := q5
          match ps, hl2 with
          | [pa, pb], _ =>
            have hts' : ts = [.Name x pa, .Name y pb] := hts
            subst hts'
            have hel : es.length = 2 := of_decide_eq_true q3
            match es, hel, ha, hw with
            | [ea, eb], _, ha, hw =>
              match es', cks_len q2, ha with
              | [ea', eb'], _, ha =>
                exact (ps_par h.calm hn (by rw [h.hN]; exact a1) (by rw [h.hN]; exact a2) a3 (lkp_of h a4) (lkp_of h a5) ha hw).imp par_reads2
        | [i, j, l], [x, y, z], q5 =>
          simp only [Bool.and_eq_true, decide_eq_true_eq] at q5
          obtain ⟨⟨⟨⟨⟨⟨⟨⟨a1, a2⟩, a3⟩, a4⟩, a5⟩, a6⟩, a7⟩, a8⟩, a9⟩ := q5
          match ps, hl2 with
          | [pa, pb, pc], _ =>
            have hts' : ts = [.Name x pa, .Name y pb, .Name z pc] := hts
            subst hts'
            have hel : es.length = 3 := of_decide_eq_true q3
            match es, hel, ha, hw with
            | [ea, eb, ec], _, ha, hw =>
              match es', cks_len q2, ha with
              | [ea', eb', ec'], _, ha =>
                exact (ps_par3 h.calm hn (by rw [h.hN]; exact a1) (by rw [h.hN]; exact a2) (by rw [h.hN]; exact a3) a4 a5 a6 (lkp_of h a7) (lkp_of h a8) (lkp_of h a9) ha hw).imp par_reads3
    · cases q
  | .aug i o e', st, q, Wx, X, h => by
    unfold ckS at q
    split at q
    · simp only [Bool.and_eq_true, decide_eq_true_eq] at q
      obtain ⟨⟨⟨q1, q2⟩, q3⟩, q4⟩ := q
      obtain ⟨l1, l2⟩ := h.loc q2
      exact sim_aug (by rw [h.hN]; exact h.nd) (by rw [h.hN]; exact q1) l1 l2 ((ck_ok e' false S _ q4 X Wx h).1 rfl) q3
    · cases q
  | .setI o i e', st, q, Wx, X, h => by
    unfold ckS at q
    split at q
    · simp only [Bool.and_eq_true] at q
      obtain ⟨⟨⟨⟨q1, q2⟩, q3⟩, q4⟩, q5⟩ := q
      exact sim_setI ((ck_ok o false S _ q1 X Wx h).1 rfl) ((ck_ok i false S _ q2 X Wx h).1 rfl) ((ck_ok e' false S _ q3 X Wx h).1 rfl) q4 q5
    · cases q
  | .app o e', st, q, Wx, X, h => by
    unfold ckS at q
    split at q
    · simp only [Bool.and_eq_true, decide_eq_true_eq] at q
      obtain ⟨⟨⟨⟨⟨q1, q2⟩, q3⟩, q4⟩, q5⟩, q6⟩ := q
      subst q1
      exact sim_app h.hK ((ck_ok o false S _ q2 X Wx h).1 rfl) ((ck_ok e' false S _ q3 X Wx h).1 rfl) q4 q5 q6
    · cases q
  | .ife c a b, st, q, Wx, X, h => by
    unfold ckS at q
    split at q
    · simp only [Bool.and_eq_true] at q
      exact sim_ifs ((ck_ok c true S _ q.1.1 X Wx h).2 rfl).1 (ckSs_ok a _ q.1.2 Wx X h) (ckSs_ok b _ q.2 Wx X h)
    · cases q
  | .loop t src body, st, q, Wx, X, h => by
    unfold ckS at q
    split at q
    · simp only [Bool.and_eq_true, Bool.not_eq_true'] at q
      obtain ⟨⟨⟨⟨q1, q2⟩, q3⟩, q4⟩, q5⟩ := q
      exact sim_loop (h.po q5) h.calm (ckI_ok src S _ _ q2 X Wx h) (ckT_ok h t _ q1) (ckSs_ok body _ q3 Wx X h) (noset q4)
    · cases q
  | .loopL t src body, st, q, Wx, X, h => by
    unfold ckS at q
    split at q
    · simp only [Bool.and_eq_true, Bool.not_eq_true'] at q
      obtain ⟨⟨⟨⟨q1, q2⟩, q3⟩, q4⟩, q5⟩ := q
      exact sim_loopL h.hK (h.po q5) h.calm ((ck_ok src false S _ q2 X Wx h).1 rfl) (ckT_ok h t _ q1) (ckSs_ok body _ q3 Wx X h) (noset q4)
    · cases q
  | .while c body, st, q, Wx, X, h => by
    unfold ckS at q
    split at q
    · simp only [Bool.and_eq_true, Bool.not_eq_true'] at q
      exact sim_while (h.po q.2) ((ck_ok c true S _ q.1.1 X Wx h).2 rfl).1 (ckSs_ok body _ q.1.2 Wx X h)
    · cases q
theorem ckSs_ok : ∀ (ss : List WM.S) (st : List Stmt), ckSs T I ss S st = true → ∀ (Wx : WX) (X : Cx), XOk T N I lvl S Wx X → PSs X st (tSs T N (evC T lvl) ss Wx)
  | [], [], _, _, _, _ => sim_snil
  | [], _ :: _, q, _, _, _ => by simp [ckSs] at q
  | _ :: _, [], q, _, _, _ => by simp [ckSs] at q
  | s :: ss, st :: r, q, Wx, X, h => by
    rw [ckSs, Bool.and_eq_true] at q
    exact sim_scons (ckS_ok s st q.1 Wx X h) (ckSs_ok ss r q.2 Wx X h)
end
end
end WM
namespace WM
open PySem PySem.Spec PyProof.Rows L2

/-! ### the text's defs as a table -/
structure DR where
  fn : Nat
  F : Fn
  d : He.DefD
  N : List Str
  ps : List Str
def scopeB (N ps : List Str) (sc : Scope) : Bool :=
  (match sc.kind with
    | .function => true
    | _ => false) && !sc.isCoroutine && !sc.isGenerator && decide N.Nodup && decide (N.take ps.length = ps) && (ps.all fun x => match sc.names.lookup x with
      | some .local => true
      | some .cell => true
      | _ => false) && (sc.names.all fun y => match y.2 with
      | .free => false
      | _ => true)
theorem scopeB_ok {N ps : List Str} {sc : Scope} (h : scopeB N ps sc = true) : FnScope N ps sc := by
  unfold scopeB at h
  simp only [Bool.and_eq_true, decide_eq_true_eq, Bool.not_eq_true'] at h
  obtain ⟨⟨⟨⟨⟨⟨h1, h2⟩, h3⟩, h4⟩, h5⟩, h6⟩, h7⟩ := h
  refine ⟨?_, h2, h3, h4, h5, fun x hx => ?_, fun y hy e => ?_⟩
  · split at h1
    · assumption
    · cases h1
  · have q := List.all_eq_true.mp h6 x hx
    split at q
    · exact .inl (by assumption)
    · exact .inr (by assumption)
    · cases q
  · have q := List.all_eq_true.mp h7 y hy
    rw [e] at q
    cases q
/-- where the def number f stands -/
def atOf (I : TI) (f : Nat) : Str × Option Str := match I.mth f with
  | none => (I.fname f, none)
  | some c => (I.cname c, some (I.fname f))
def DR.ok (T : Tab) (I : TI) (r : DR) : Bool :=
  decide (r.d.at_ = atOf I r.fn) && r.d.dfl.isEmpty && r.d.kwd.isEmpty && scopeB r.N r.ps r.d.scope && decide (r.ps.length = r.F.np) && decide (r.N.length = r.F.ns) && ckSs T I r.F.body ⟨r.N, r.d.scope, false⟩ r.d.body
/-- how its arguments bind -/
def DR.Bi (r : DR) : Prop := ∀ (kV doc pm : Value) (an : Option Addr) (cdv ct : Value) (us : List Value), us.length = r.ps.length → bindArgs (PySem.W.fnOf r.d.name r.d.qual r.d.params r.d.body r.d.scope .none kV doc pm an cdv ct) ⟨us, []⟩ = pure (r.ps.zip us)
/-- the table that the evaluator takes -/
def tabOf (glob : Nat → Option W) (tab : List DR) : Tab := ⟨glob, fun f => (tab.find? fun r => r.fn == f).map (·.F)⟩
theorem tabOf_fn {glob : Nat → Option W} {tab : List DR} {f : Nat} {F : Fn} (h : (tabOf glob tab).fn f = some F) : ∃ r ∈ tab, r.fn = f ∧ r.F = F := by
  have h' : (tab.find? fun r => r.fn == f).map (·.F) = some F := h
  cases e : tab.find? fun r => r.fn == f with
  | none => rw [e] at h'; cases h'
  | some r =>
    rw [e] at h'
    cases h'
    exact ⟨r, List.mem_of_find?_eq_some e, eq_of_beq (show (r.fn == f) = true from List.find?_some (p := fun r : DR => r.fn == f) e), rfl⟩

theorem FnOk.cx {P : Program} {w : World} {K : PySem.W.Frag} {mg : Str → Option Value} {base : Heap} {CX CX' : CXT} {k : Nat} {f : Addr} {fd : FuncData} {ps : List Str} {sp : Sp} (F : FnOk P w K mg base CX k f fd ps sp)
    (h : ∀ outer H s E u s', CX outer H s E u s' → CX' outer H s E u s') : FnOk P w K mg base CX' k f fd ps sp := by
  refine ⟨F.len, fun A outer s H args us vs Q E hr he hb hv hs => codeAny_mono (F.run A outer s H args us vs Q E hr he hb hv hs) fun r s' hq => ?_⟩
  cases r with
  | error e => exact h _ _ _ _ _ _ hq
  | ok fl => cases fl <;> exact hq

section
variable {glob : Nat → Option W} {tab : List DR} {N : En} {I : TI} {P : Program} {w : World} {mg : Str → Option Value} {base : Heap}
/-- THE RULE: every def of the text does what the evaluator says -/
theorem fns_ok (hok : tab.all (DR.ok (tabOf glob tab) I) = true) (hB : ∀ r ∈ tab, r.Bi)
    (hdef : ∀ r ∈ tab, ∃ fd, FunD N.K r.d.name r.d.qual r.d.params r.d.body r.d.scope [] [] (He.fAd N.K r.d.at_) fd) (hmg : ∀ r ∈ tab, I.mth r.fn = none → mg (I.fname r.fn) = some (.ref (He.fAd N.K r.d.at_)))
    (hmt : ∀ r ∈ tab, ∀ c, I.mth r.fn = some c → (I.fname r.fn ≠ Str.ofString "__init__" → Meth N.K (N.ca c) (I.fname r.fn) (He.fAd N.K r.d.at_)) ∧ (I.fname r.fn = Str.ofString "__init__" → Mk N.K (N.ca c) (He.fAd N.K r.d.at_)))
    (hcls : ∀ c, I.isC c = true → Cls N.K (N.ca c) ∧ (N.cf c).Nodup ∧ (∀ x ∈ N.cf c, NoAttr N.K (N.ca c) x) ∧ N.cf c = I.flds c ∧ mg (I.cname c) = some (.ref (N.ca c)))
    (hxc : ∀ c, I.isX c = true → XcK N.K (N.ca c) ∧ mg (I.cname c) = some (.ref (N.ca c)))
    (free : ∀ x ∈ bNames, mg (Str.ofString x) = none) (gls : ∀ g w, glob g = some w → ∃ v u, mg (I.gname g) = some u ∧ RelV v u ∧ ∀ F ρ k H, RV (N.wF F) ρ k H w v) :
    ∀ lvl, ∀ r ∈ tab, (tabOf glob tab).fn r.fn = some r.F → ∃ fd, FunD N.K r.d.name r.d.qual r.d.params r.d.body r.d.scope [] [] (He.fAd N.K r.d.at_) fd ∧ FnOk P w N.K mg base (L2.CX P w) (2 * lvl) (He.fAd N.K r.d.at_) fd r.ps (spF (tabOf glob tab) N lvl r.ps.length r.fn) := by
  intro lvl
  induction lvl with
  | zero =>
    intro r hr hf
    obtain ⟨fd, F⟩ := hdef r hr
    exact ⟨fd, F, fn_zero⟩
  | succ l ih =>
    intro r hr hf
    obtain ⟨fd, F⟩ := hdef r hr
    have q := List.all_eq_true.mp hok r hr
    unfold DR.ok at q
    simp only [Bool.and_eq_true, decide_eq_true_eq] at q
    obtain ⟨⟨⟨⟨⟨⟨q1, q2⟩, q3⟩, q4⟩, q5⟩, q6⟩, q7⟩ := q
    refine ⟨fd, F, fn_body F (scopeB_ok q4) hf q5 q6 fun cdv A outer s H E hr => ckSs_ok r.F.body r.d.body q7 _ _ ?_⟩
    exact {
      hK := rfl
      hN := rfl
      nd := (scopeB_ok q4).nd
      sc := rfl
      calm := rfl
      room := hr
      free := free
      fns := fun f F' hf' hmn => by
        obtain ⟨r', hr', e1, e2⟩ := tabOf_fn hf'
        subst e1
        subst e2
        obtain ⟨fd', FD, ok⟩ := ih r' hr' hf'
        have q' := List.all_eq_true.mp hok r' hr'
        unfold DR.ok at q'
        simp only [Bool.and_eq_true, decide_eq_true_eq] at q'
        exact ⟨_, fd', r'.ps, q'.1.1.2, hmg r' hr' hmn, FD.kp, FD.bindsN (hB r' hr'), ok⟩
      mts := fun f F' c hf' hmn => by
        obtain ⟨r', hr', e1, e2⟩ := tabOf_fn hf'
        subst e1
        subst e2
        obtain ⟨fd', FD, ok⟩ := ih r' hr' hf'
        have q' := List.all_eq_true.mp hok r' hr'
        unfold DR.ok at q'
        simp only [Bool.and_eq_true, decide_eq_true_eq] at q'
        obtain ⟨m1, m2⟩ := hmt r' hr' c hmn
        exact ⟨_, fd', r'.ps, q'.1.1.2, m1, m2, FD.bindsN (hB r' hr'), ok⟩
      cls := fun c hc => let ⟨a1, a2, a3, a4, a5⟩ := hcls c hc; ⟨⟨a1, a2, a3⟩, a4, a5⟩
      gls := gls
      tk := takes_of rfl rfl rfl rfl
      hs := fun _ => rfl
      hf := fun _ => rfl
      xcs := hxc
      fnl := fun _ _ => rfl
      po := fun _ => passes_of rfl }
end

/-! ### constants of the text's own top -/
def relW (K : PySem.W.Frag) : Nat → W → Value → Bool
  | 0, _, _ => false
  | n + 1, w, u => match w, u with
    | .non, .none => true
    | .bl b, .bool c => b == c
    | .int i, .int j _ => decide (i = j)
    | .str x, .str y _ => decide (x = y)
    | .tup ws, .ref a => (match K.lookup a with
      | some ⟨.type c, _, .seq its _, _⟩ => decide (c = "tuple") && decide (its.size ≤ sizeLine) && decide (ws.length = its.toList.length) && (ws.zip its.toList).all fun p => relW K n p.1 p.2
      | _ => false)
    | .klst ws, .ref a => (match K.lookup a with
      | some ⟨.type c, none, .seq its _, _⟩ => decide (c = "list") && decide (its.size ≤ sizeLine) && decide (ws.length = its.toList.length) && (ws.zip its.toList).all fun p => relW K n p.1 p.2
      | _ => false)
    | _, _ => false
def KRel (N : En) (w : W) (u : Value) : Prop := ∃ v, RelV v u ∧ ∀ F ρ k H, RV (N.wF F) ρ k H w v
theorem krels {N : En} : ∀ {ws : List W} {us : List Value}, ws.length = us.length → (∀ p ∈ ws.zip us, KRel N p.1 p.2) → ∃ vs, Vals vs us ∧ ∀ F ρ k H, RVs (N.wF F) ρ k H ws vs
  | [], [], _, _ => ⟨[], .nil, fun _ _ _ _ => rfl⟩
  | [], _ :: _, e, _ => by cases e
  | _ :: _, [], e, _ => by cases e
  | w :: ws, u :: us, e, h => by
    obtain ⟨v, h1, h2⟩ := h (w, u) List.mem_cons_self
    obtain ⟨vs, h3, h4⟩ := krels (ws := ws) (us := us) (Nat.succ.inj e) fun p hp => h p (List.mem_cons_of_mem _ hp)
    exact ⟨v :: vs, .cons h1 h3, fun F ρ k H => ⟨v, vs, rfl, h2 F ρ k H, h4 F ρ k H⟩⟩
theorem relW_ok {N : En} : ∀ (n : Nat) (w : W) (u : Value), relW N.K n w u = true → KRel N w u
  | 0, _, _, h => by cases h
  | n + 1, w, u, h => by
    cases w with
    | non => cases u <;> first | exact ⟨.non, rfl, fun _ _ _ _ => rfl⟩ | cases h
    | bl b => cases u <;> first | (cases eq_of_beq h; exact ⟨.bl b, rfl, fun _ _ _ _ => rfl⟩) | cases h
    | int i => cases u <;> first | (cases of_decide_eq_true h; exact ⟨.int i, ⟨_, rfl⟩, fun _ _ _ _ => rfl⟩) | cases h
    | str x => cases u <;> first | (cases of_decide_eq_true h; exact ⟨.str x, ⟨_, rfl⟩, fun _ _ _ _ => rfl⟩) | cases h
    | tup ws =>
      cases u with
      | ref a =>
        have h' : (match N.K.lookup a with
          | some ⟨.type c, _, .seq its _, _⟩ => decide (c = "tuple") && decide (its.size ≤ sizeLine) && decide (ws.length = its.toList.length) && (ws.zip its.toList).all fun p => relW N.K n p.1 p.2
          | _ => false) = true := h
        split at h'
        · rename_i c od its nn sl e
          simp only [Bool.and_eq_true, decide_eq_true_eq] at h'
          obtain ⟨⟨⟨h1, h2⟩, h3⟩, h4⟩ := h'
          obtain ⟨vs, h5, h6⟩ := krels (N := N) h3 fun p hp => relW_ok n p.1 p.2 (List.all_eq_true.mp h4 p hp)
          have hl := h5.length
          refine ⟨.ref a, rfl, fun F ρ k H => ⟨a, vs, rfl, ⟨?_, .inr ⟨_, its, nn, e, congrArg Value.type h1, rfl, h2, h5⟩⟩, h6 F ρ k H⟩⟩
          rw [hl, Array.length_toList]; exact h2
        · cases h'
      | _ => cases h
    | klst ws =>
      cases u with
      | ref a =>
        have h' : (match N.K.lookup a with
          | some ⟨.type c, none, .seq its _, _⟩ => decide (c = "list") && decide (its.size ≤ sizeLine) && decide (ws.length = its.toList.length) && (ws.zip its.toList).all fun p => relW N.K n p.1 p.2
          | _ => false) = true := h
        split at h'
        · rename_i c its nn sl e
          simp only [Bool.and_eq_true, decide_eq_true_eq] at h'
          obtain ⟨⟨⟨h1, h2⟩, h3⟩, h4⟩ := h'
          obtain ⟨vs, h5, h6⟩ := krels (N := N) h3 fun p hp => relW_ok n p.1 p.2 (List.all_eq_true.mp h4 p hp)
          have hl := h5.length
          refine ⟨.ref a, rfl, fun F ρ k H => ⟨a, vs, rfl, ⟨?_, .inr ⟨_, its, nn, e, congrArg Value.type h1, rfl, rfl, h2, h5⟩⟩, h6 F ρ k H⟩⟩
          rw [hl, Array.length_toList]; exact h2
        · cases h'
      | _ => cases h
    | _ => cases u <;> cases h
def globB (K : PySem.W.Frag) (I : TI) (p : Nat × W) : Bool := match PySem.W.nsIn K mainGlobals (I.gname p.1) with
  | some (some u) => relW K 8 p.2 u
  | _ => false

/-! ### the head's facts -/
def enOf (K : PySem.W.Frag) (I : TI) : En := ⟨K, fun c => He.ga K (I.cname c), I.flds, fun _ => False⟩
def faOf (I : TI) (r : DR) : He.Fa := match I.mth r.fn with
  | none => .glo (I.fname r.fn)
  | some c => if I.fname r.fn = Str.ofString "__init__" then .mkr (I.cname c) else .meth (I.cname c) (I.fname r.fn)
def clFa (I : TI) (c : Nat) : List He.Fa := He.Fa.glo (I.cname c) :: He.Fa.cls (I.cname c) :: (I.flds c).map fun x => He.Fa.noat (I.cname c) x
def hkFa (I : TI) (tab : List DR) : List He.Fa := (tab.map (faOf I)) ++ ((bNames.map fun x => He.Fa.free (Str.ofString x)) ++ (I.cl.map (clFa I)).flatten)
/-- an own error's class: where it stands, what it is -/
def xcFa (K : PySem.W.Frag) (I : TI) (c : Nat) : Bool := (He.Fa.glo (I.cname c)).ok K && xcB K (He.ga K (I.cname c))
abbrev AlW : Type := Bool × List He.FnW
def obsW (I : TI) (gl : List (Nat × W)) (tab : List DR) (K : PySem.W.Frag) : AlW :=
  (((hkFa I tab).all fun f => f.ok K) && (gl.all (globB K I)) && (I.xcl.all (xcFa K I)) && tab.all fun r => r.d.ok K, tab.map fun r => He.fnW K r.d.at_)
def valW (tab : List DR) : AlW := (true, tab.map fun r => r.d.val)
def obsWG (n : Nat) (I : TI) (gl : List (Nat × W)) (tab : List DR) (g : Addr → Option Obj) : AlW := obsW I gl tab (He.frG g (He.asD g n))
def hookW (n : Nat) (I : TI) (gl : List (Nat × W)) (tab : List DR) : PySem.W.Hook where
  α := AlW
  obs := fun s => obsWG n I gl tab s.heap.get?
  val := fun _ => valW tab
  says := fun _ h => ∃ K : PySem.W.Frag, K.In h ∧ obsW I gl tab K = valW tab
  of := fun _ _ e => ⟨_, He.frG_in, e⟩
  keeps := fun _ _ _ ⟨K, hK, c⟩ k => ⟨K, PySem.W.Frag.In.keeps hK k, c⟩
theorem obsWG_eq {n : Nat} {I : TI} {gl : List (Nat × W)} {tab : List DR} {g : Addr → Option Obj} {s : Shared} (h : ∀ a, g a = s.heap.get? a) : obsWG n I gl tab g = (hookW n I gl tab).obs s := by
  have e : g = s.heap.get? := funext h
  rw [e] <;> rfl
def globOf (gl : List (Nat × W)) : Nat → Option W := fun g => gl.lookup g
theorem mem_of_lk {α β : Type} [BEq α] [LawfulBEq α] : ∀ {l : List (α × β)} {a : α} {b : β}, l.lookup a = some b → (a, b) ∈ l
  | [], _, _, h => by cases h
  | (x, y) :: r, a, b, h => by
    rw [List.lookup_cons] at h
    split at h
    · rename_i e
      cases h
      rw [eq_of_beq e]
      exact List.mem_cons_self
    · exact List.mem_cons_of_mem _ (mem_of_lk h)

/-- THE END: the law's equation gives the walk -/
theorem law_walk {l : PySem.W.OpenLaw} {q : Program} {loose : List Str} {XP : (Str → Option Value) → Heap → Prop} {d : DefRec} {n : Nat} {I : TI} {gl : List (Nat × W)} {tab : List DR} {rl : DR} {lvl : Nat}
    (hn : l.most = some 63) (hdf : d.params.defaults = []) (hr : Room (2 * lvl) callerA)
    (hok : tab.all (DR.ok (tabOf (globOf gl) tab) I) = true) (hB : ∀ r ∈ tab, r.Bi) (hrl : rl ∈ tab) (hfl : (tabOf (globOf gl) tab).fn rl.fn = some rl.F) (hname : d.name = I.fname rl.fn) (hps : rl.ps = [("script" : Str)]) (hlm : I.mth rl.fn = none) (hcl : (I.cl.all fun c => decide (I.flds c).Nodup) = true)
    (law : ∀ ns : List Int, ns.length ≤ 63 → ∃ m', evC (tabOf (globOf gl) tab) lvl rl.fn [.klst (ns.map .int)] [] = some (.ok (.bl true), m')) :
    PySem.W.WalkO q loose XP (hookW n I gl tab).says l.row.toRowW d [] (fun f vs => PySem.call f vs) := by
  refine L2.walk_ofE (l := l) (n := 63) (k := 2 * lvl) (x := "script") (CX := fun outer H s E u s' => ∃ w, L2.CX l.prog w outer H s E u s') hn (by rw [sizeLine_eq]; decide) hdf hr ?F ?X
  case X =>
    intro H s e s' ⟨w, z⟩
    obtain ⟨_, _, _, _, _, _, _, _, _, _, _, _, z⟩ := z
    exact z
  case F =>
    intro w mg fa h Y G hmg0
    obtain ⟨K, KX, c⟩ := Y
    have c1 : (((hkFa I tab).all fun f => f.ok K) && (gl.all (globB K I)) && (I.xcl.all (xcFa K I)) && tab.all fun r => r.d.ok K) = true := congrArg (fun z : AlW => z.1) c
    have c2 : (tab.map fun r => He.fnW K r.d.at_) = tab.map fun r => r.d.val := congrArg (fun z : AlW => z.2) c
    simp only [Bool.and_eq_true] at c1
    obtain ⟨⟨⟨f1, f2⟩, f4⟩, f3⟩ := c1
    have okr : ∀ r ∈ tab, r.d.at_ = atOf I r.fn ∧ r.d.dfl = [] ∧ r.d.kwd = [] := fun r hr => by
      have q := List.all_eq_true.mp hok r hr
      unfold DR.ok at q
      simp only [Bool.and_eq_true, decide_eq_true_eq, List.isEmpty_iff] at q
      exact ⟨q.1.1.1.1.1.1, q.1.1.1.1.1.2, q.1.1.1.1.2⟩
    have fr : ∀ r ∈ tab, (faOf I r).ok K = true := fun r hr => List.all_eq_true.mp f1 _ (List.mem_append_left _ (List.mem_map.mpr ⟨r, hr, rfl⟩))
    have hmg : ∀ r ∈ tab, I.mth r.fn = none → mg (I.fname r.fn) = some (.ref (He.fAd K r.d.at_)) := fun r hr hn => by
      have q := fr r hr
      unfold faOf at q
      rw [hn] at q
      rw [(okr r hr).1]
      unfold atOf
      rw [hn]
      exact He.glo_ok KX G q
    have hmt : ∀ r ∈ tab, ∀ c, I.mth r.fn = some c → (I.fname r.fn ≠ Str.ofString "__init__" → Meth K (He.ga K (I.cname c)) (I.fname r.fn) (He.fAd K r.d.at_)) ∧ (I.fname r.fn = Str.ofString "__init__" → Mk K (He.ga K (I.cname c)) (He.fAd K r.d.at_)) := fun r hr c hn => by
      have q := fr r hr
      unfold faOf at q
      rw [hn] at q
      dsimp only at q
      rw [(okr r hr).1]
      unfold atOf
      rw [hn]
      refine ⟨fun hne => ?_, fun he => ?_⟩
      · rw [if_neg hne] at q
        exact He.meth_ok q
      · rw [if_pos he] at q
        rw [he]
        exact He.mkr_ok q
    have hcf : ∀ c, I.isC c = true → ∀ f ∈ clFa I c, f.ok K = true := fun c hc f hf =>
      List.all_eq_true.mp f1 _ (List.mem_append_right _ (List.mem_append_right _ (List.mem_flatten.mpr ⟨_, List.mem_map.mpr ⟨c, List.contains_iff_mem.mp hc, rfl⟩, hf⟩)))
    have hcls : ∀ c, I.isC c = true → Cls K (He.ga K (I.cname c)) ∧ (I.flds c).Nodup ∧ (∀ x ∈ I.flds c, NoAttr K (He.ga K (I.cname c)) x) ∧ I.flds c = I.flds c ∧ mg (I.cname c) = some (.ref (He.ga K (I.cname c))) := fun c hc =>
      ⟨He.cls_ok (hcf c hc _ (List.mem_cons_of_mem _ List.mem_cons_self)), of_decide_eq_true (List.all_eq_true.mp hcl c (List.contains_iff_mem.mp hc)),
        fun x hx => He.noat_ok (hcf c hc _ (List.mem_cons_of_mem _ (List.mem_cons_of_mem _ (List.mem_map.mpr ⟨x, hx, rfl⟩)))), rfl, He.glo_ok KX G (hcf c hc _ List.mem_cons_self)⟩
    have hxc : ∀ c, I.isX c = true → XcK K (He.ga K (I.cname c)) ∧ mg (I.cname c) = some (.ref (He.ga K (I.cname c))) := fun c hc => by
      have q := List.all_eq_true.mp f4 c (List.contains_iff_mem.mp hc)
      unfold xcFa at q
      rw [Bool.and_eq_true] at q
      exact ⟨xcB_ok q.2, He.glo_ok KX G q.1⟩
    have hfree : ∀ x ∈ bNames, mg (Str.ofString x) = none := fun x hx =>
      He.free_ok KX G (List.all_eq_true.mp f1 _ (List.mem_append_right _ (List.mem_append_left _ (List.mem_map.mpr ⟨x, hx, rfl⟩))))
    have hdef : ∀ r ∈ tab, ∃ fd, FunD K r.d.name r.d.qual r.d.params r.d.body r.d.scope [] [] (He.fAd K r.d.at_) fd := fun r hr => by
      have e : He.fnW K r.d.at_ = r.d.val := by
        obtain ⟨i, hi⟩ := List.getElem?_of_mem hr
        have e2 : (tab.map fun r => He.fnW K r.d.at_)[i]? = (tab.map fun r => r.d.val)[i]? := by rw [c2]
        rw [List.getElem?_map, List.getElem?_map, hi] at e2
        exact Option.some.inj e2
      obtain ⟨fd, FD⟩ := He.DefD.funD e (List.all_eq_true.mp f3 r hr)
      refine ⟨fd, ?_⟩
      have e1 : r.d.dvs K = [] := by unfold He.DefD.dvs; rw [(okr r hr).2.1]; rfl
      have e2 : r.d.kws K = [] := by unfold He.DefD.kws; rw [(okr r hr).2.2]; rfl
      rw [e1, e2] at FD
      exact FD
    have hgls : ∀ g w, globOf gl g = some w → ∃ v u, mg (I.gname g) = some u ∧ RelV v u ∧ ∀ F ρ k H, RV ((enOf K I).wF F) ρ k H w v := fun g w hg => by
      have q := List.all_eq_true.mp f2 (g, w) (mem_of_lk hg)
      unfold globB at q
      dsimp only at q
      split at q
      · rename_i u e
        obtain ⟨v, h1, h2⟩ := relW_ok (N := enOf K I) 8 w u q
        exact ⟨v, u, PySem.W.mg_of KX G e, h1, h2⟩
      · cases q
    have efa : fa = He.fAd K rl.d.at_ := by
      rw [hname, hmg rl hrl hlm] at hmg0
      cases hmg0; rfl
    obtain ⟨fd, FD⟩ := hdef rl hrl
    refine ⟨K, fd, spF (tabOf (globOf gl) tab) (enOf K I) lvl rl.ps.length rl.fn, KX, fun s u => ?_, fun H a ns hl _ hS => ?_, fun base hb hg => ?_⟩
    · have b := FunD.bindsA (ps := rl.ps) FD (hB rl hrl) s [u] (by rw [hps]; rfl)
      rw [hps] at b
      exact b
    · obtain ⟨m', hm⟩ := law ns hl
      have hz : (ns.map V.int).length ≤ sizeLine := by rw [List.length_map, sizeLine_eq]; omega
      refine ⟨by rw [hps]; rfl, fun _ => False, fun _ => 0, [], [.klst (ns.map .int)], ⟨fun _ z => z.elim, fun n hn => absurd hn (by simp), fun i j hi => absurd hi (by simp), fun i hi => absurd hi (by simp), fun n o hn => by simp [hget] at hn⟩, ?_, ?_⟩
      · refine ⟨.ref a, [], rfl, ⟨a, ns.map V.int, rfl, ⟨hz, ?_⟩, ?_⟩, rfl⟩
        · rcases hS with hS | hS
          · exact .inl ⟨hS, ⟨fun n hn => absurd hn (by simp), id⟩⟩
          · exact .inr hS
        · have : ∀ ns : List Int, RVs ((enOf K I).wF fun _ => False) (fun _ => 0) ([] : Hm).length H (ns.map .int) (ns.map V.int) := by
            intro ns
            induction ns with
            | nil => rfl
            | cons x r ih => exact ⟨.int x, _, rfl, rfl, ih⟩
          exact this ns
      · rw [hm]
        intro ρ' H' _ _ v rv
        exact rv
    · have hall := fns_ok (P := l.prog) (w := w) (mg := mg) (base := base) (N := enOf K I) hok hB hdef hmg hmt hcls hxc hfree hgls lvl rl hrl hfl
      obtain ⟨fd', FD', ok⟩ := hall
      have efd : fd' = fd := by
        obtain ⟨_, _, _, _, _, _, _, _, _, _, _, l1, _⟩ := FD.ex
        obtain ⟨_, _, _, _, _, _, _, _, _, _, _, l2, _⟩ := FD'.ex
        have l3 := l1.symm.trans l2
        cases l3; rfl
      subst efd
      rw [efa]
      rw [hps] at ok ⊢
      exact FnOk.cx ok fun outer H s E u s' z => ⟨w, z⟩
end WM
namespace WM
open PySem PySem.Spec PyProof.Rows L2
theorem room_le {n : Nat} (h : n ≤ 200) : Room n callerA := (show Room 200 callerA from ⟨rfl, by decide, by decide⟩).mono h
end WM
/-! simp equations of the little language -/
namespace WM
open PySem PySem.Spec PyProof.Rows L2
section
variable (T : Tab) (C : Calls) (sg : Sg)
@[simp] theorem evE_lit (w : W) : evE T C (.lit w) sg = ret w := by simp [evE]
@[simp] theorem evE_var (i : Nat) : evE T C (.var i) sg = match sg[i]? with | some (some w) => ret w | _ => stuck := by simp only [evE] <;> rfl
@[simp] theorem evE_glob (g : Nat) : evE T C (.glob g) sg = opt (T.glob g) := by simp [evE]
@[simp] theorem evE_tup (es : List E) : evE T C (.tup es) sg = bnd (evEs T C es sg) fun ws => ret (.tup ws) := by simp [evE]
@[simp] theorem evE_lst (es : List E) : evE T C (.lst es) sg = bnd (evEs T C es sg) fun ws => ret (.lst ws) := by simp [evE]
@[simp] theorem evE_bin (o : Bop) (a b : E) : evE T C (.bin o a b) sg = bnd (evE T C a sg) fun x => bnd (evE T C b sg) fun y => opt (binW o x y) := by simp only [evE]
def negM : W → M W
  | .int i => ret (.int (-i))
  | _ => stuck
@[simp] theorem negM_int (i : Int) : negM (.int i) = ret (.int (-i)) := Eq.trans rfl rfl
@[simp] theorem evE_neg (a : E) : evE T C (.neg a) sg = bnd (evE T C a sg) negM := by simp only [evE]; rfl
@[simp] theorem evE_cmp (o : Cop) (a b : E) : evE T C (.cmp o a b) sg = bnd (evE T C a sg) fun x => bnd (evE T C b sg) fun y => opt (cmpW o x y) := by simp only [evE]
def ifM {α : Type} (x : W) (a b : M α) : M α := match x with
  | .bl true => a
  | .bl false => b
  | _ => stuck
@[simp] theorem ifM_true {α : Type} (a b : M α) : ifM (.bl true) a b = a := Eq.trans rfl rfl
@[simp] theorem ifM_false {α : Type} (a b : M α) : ifM (.bl false) a b = b := Eq.trans rfl rfl
theorem ifM_dec {α : Type} (p : Prop) [Decidable p] (a b : M α) : ifM (.bl (decide p)) a b = if p then a else b := by
  by_cases h : p <;> simp [h]
@[simp] theorem evE_cmp2 (o p : Cop) (a b c : E) : evE T C (.cmp2 o p a b c) sg = bnd (evE T C a sg) fun x => bnd (evE T C b sg) fun y => bnd (opt (cmpW o x y)) fun z => ifM z (bnd (evE T C c sg) fun u => opt (cmpW p y u)) (ret (.bl false)) := by
  simp only [evE]; rfl
@[simp] theorem evE_and (a b : E) : evE T C (.and a b) sg = bnd (evE T C a sg) fun x => ifM x (evE T C b sg) (ret (.bl false)) := by simp only [evE]; rfl
@[simp] theorem evE_or (a b : E) : evE T C (.or a b) sg = bnd (evE T C a sg) fun x => ifM x (ret (.bl true)) (evE T C b sg) := by simp only [evE]; rfl
def notM : W → M W
  | .bl b => ret (.bl (!b))
  | _ => stuck
@[simp] theorem notM_bl (b : Bool) : notM (.bl b) = ret (.bl (!b)) := Eq.trans rfl rfl
@[simp] theorem evE_not (a : E) : evE T C (.not a) sg = bnd (evE T C a sg) notM := by simp only [evE]; rfl
@[simp] theorem evE_ife (c a b : E) : evE T C (.ife c a b) sg = bnd (evE T C c sg) fun x => ifM x (evE T C a sg) (evE T C b sg) := by simp only [evE]; rfl
@[simp] theorem evE_idx (a b : E) : evE T C (.idx a b) sg = bnd (evE T C a sg) fun x => bnd (evE T C b sg) fun y => idxM x y := by simp only [evE]
@[simp] theorem evE_call (f : Nat) (es : List E) : evE T C (.call f es) sg = bnd (evEs T C es sg) fun ws => C f ws := by simp only [evE]
@[simp] theorem evE_bi (b : Bi) (es : List E) : evE T C (.bi b es) sg = bnd (evEs T C es sg) fun ws => biM b ws := by simp only [evE]
@[simp] theorem evE_isi (a : E) (t : String) : evE T C (.isi a t) sg = bnd (evE T C a sg) fun x => bnd (opt (isiW t x)) fun b => ret (.bl b) := by simp only [evE]
@[simp] theorem evE_sset (a : E) : evE T C (.sset a) sg = bnd (evE T C a sg) fun x => opt (ssetW x) := by simp only [evE]
@[simp] theorem evE_trng (a : E) : evE T C (.trng a) sg = bnd (evE T C a sg) fun x => bnd (rng0M x) fun xs => ret (.tup xs) := by simp only [evE]
@[simp] theorem evE_lrng (a : E) : evE T C (.lrng a) sg = bnd (evE T C a sg) fun x => bnd (rng0M x) fun xs => ret (.lst xs) := by simp only [evE]
@[simp] theorem rng0M_int (i : Int) : rng0M (.int i) = opt (rngW 0 i) := Eq.trans rfl rfl
@[simp] theorem evS_rem (o e : E) : evS T C (.rem o e) sg = lft (bnd (evE T C o sg) fun x => bnd (lstM x) fun _ => bnd (evE T C e sg) fun y => remM x y) sg fun _ m => some (.nx, sg, m) := by simp only [evS]
@[simp] theorem evS_raise (c : Nat) (m : Hm) : evS T C (.raise c) sg m = some (.ex ⟨c, []⟩, sg, m) := by simp only [evS]
@[simp] theorem evS_tryB (c : Nat) (body : List S) (i : Nat) (m : Hm) : evS T C (.tryB c body i) sg m = catchS c i (evSs T C body sg m) := by simp only [evS]
@[simp] theorem evE_cat (a b : E) : evE T C (.cat a b) sg = bnd (evE T C a sg) fun x => bnd (evE T C b sg) fun y => catM x y := by simp only [evE]
def eltI (f : Sg → M W) : Sg → M W := fun s => bnd (f s) intG
@[simp] theorem evE_sdc (elt : E) (tg : Tg) (src cond : E) (own : List Nat) : evE T C (.sdc elt tg src cond own) sg = bnd (evI T C src sg) fun xs => bnd (noExc (compGo tg (wipeW sg own) (evE T C cond) (eltI (evE T C elt)) xs)) fun ys => opt (sdcW ys) := by simp only [evE]; rfl
@[simp] theorem evE_compL (elt : E) (tg : Tg) (src cond : E) (own : List Nat) : evE T C (.compL elt tg src cond own) sg = bnd (evE T C src sg) fun w => compW tg (wipeW sg own) (evE T C cond) (evE T C elt) w := by simp only [evE]
@[simp] theorem compW_tup (tg : Tg) (sg : Sg) (tst elt : Sg → M W) (xs : List W) : compW tg sg tst elt (.tup xs) = bnd (noExc (compGo tg sg tst elt xs)) fun ys => ret (.lst ys) := Eq.trans rfl rfl
@[simp] theorem compW_lst (tg : Tg) (sg : Sg) (tst elt : Sg → M W) (xs : List W) : compW tg sg tst elt (.lst xs) = bnd (noExc (compGo tg sg tst elt xs)) fun ys => ret (.lst ys) := Eq.trans rfl rfl
@[simp] theorem compW_ref (tg : Tg) (sg : Sg) (tst elt : Sg → M W) (n : Nat) : compW tg sg tst elt (.ref n) = compD tg sg tst elt n := Eq.trans rfl rfl
@[simp] theorem evE_comp (elt : E) (tg : Tg) (src cond : E) (own : List Nat) : evE T C (.comp elt tg src cond own) sg = bnd (evI T C src sg) fun xs =>
      bnd (noExc (compGo tg (wipeW sg own) (evE T C cond) (evE T C elt) xs)) fun ys => ret (.lst ys) := by simp only [evE]
@[simp] theorem evE_newl (es : List E) : evE T C (.newl es) sg = bnd (evEs T C es sg) fun ws => alloc (.lst ws) := by simp only [evE]
@[simp] theorem evEs_nil : evEs T C [] sg = ret [] := by simp only [evEs]
@[simp] theorem evEs_cons (e : E) (es : List E) : evEs T C (e :: es) sg = bnd (evE T C e sg) fun w => bnd (evEs T C es sg) fun ws => ret (w :: ws) := by simp only [evEs]
def rngM (x y : W) : M (List W) := match x, y with
  | .int i, .int j => opt (rngW i j)
  | _, _ => stuck
@[simp] theorem rngM_int (i j : Int) : rngM (.int i) (.int j) = opt (rngW i j) := by simp only [rngM]
@[simp] theorem evI_r1 (a : E) : evI T C (.srng1 a) sg = bnd (evE T C a sg) fun w => rngM (.int 0) w := by simp only [evI]; congr 1; funext x; cases x <;> rfl
@[simp] theorem evI_r2 (a b : E) : evI T C (.srng2 a b) sg = bnd (evE T C a sg) fun x => bnd (evE T C b sg) fun y => rngM x y := by simp only [evI]; rfl
def seqI (x : W) : M (List W) := match x with
  | .tup xs => ret xs
  | .lst xs => ret xs
  | .klst xs => ret xs
  | _ => stuck
@[simp] theorem seqI_tup (xs : List W) : seqI (.tup xs) = ret xs := Eq.trans rfl rfl
@[simp] theorem seqI_lst (xs : List W) : seqI (.lst xs) = ret xs := Eq.trans rfl rfl
@[simp] theorem seqI_klst (xs : List W) : seqI (.klst xs) = ret xs := Eq.trans rfl rfl
@[simp] theorem evI_sq (a : E) : evI T C (.sseq a) sg = bnd (evE T C a sg) seqI := by simp only [evI]; rfl
def asgS (o : Option Sg) : MS := fun m => match o with
  | some sg' => some (.nx, sg', m)
  | none => none
@[simp] theorem asgS_some (s : Sg) (m : Hm) : asgS (some s) m = some (.nx, s, m) := Eq.trans rfl rfl
@[simp] theorem evS_pass (m : Hm) : evS T C .pass sg m = some (.nx, sg, m) := by simp [evS]
@[simp] theorem evS_brk (m : Hm) : evS T C .brk sg m = some (.brk, sg, m) := by simp [evS]
@[simp] theorem evS_cnt (m : Hm) : evS T C .cnt sg m = some (.cnt, sg, m) := by simp [evS]
@[simp] theorem evS_expr (e : E) : evS T C (.expr e) sg = lft (evE T C e sg) sg fun _ m => some (.nx, sg, m) := by simp [evS]
@[simp] theorem evS_ret (e : E) : evS T C (.ret e) sg = lft (evE T C e sg) sg fun w m => some (.rt w, sg, m) := by simp only [evS]
@[simp] theorem evS_retN (m : Hm) : evS T C .retN sg m = some (.rt .non, sg, m) := by simp [evS]
@[simp] theorem evS_set (tg : Tg) (e : E) : evS T C (.set tg e) sg = lft (evE T C e sg) sg fun w => asgS (asgT tg w sg) := by
  simp only [evS]; congr 1; funext w; cases asgT tg w sg <;> rfl
@[simp] theorem evS_setc (i : Nat) (e : E) : evS T C (.setc i e) sg = lft (evE T C e sg) sg fun w m => some (.nx, sg.set i (some w), m) := by simp [evS]
@[simp] theorem evS_par (is : List Nat) (es : List E) : evS T C (.par is es) sg = lft (evEs T C es sg) sg fun ws => asgS (setMany is ws sg) := by
  simp only [evS]; congr 1; funext w; cases setMany is w sg <;> rfl
@[simp] theorem evS_aug (i : Nat) (o : Bop) (e : E) : evS T C (.aug i o e) sg = match sg[i]? with
    | some (some x) => lft (bnd (evE T C e sg) fun y => opt (augW o x y)) sg fun w m => some (.nx, sg.set i (some w), m)
    | _ => fun _ => none := by simp only [evS] <;> rfl
@[simp] theorem evS_setI (o i e : E) : evS T C (.setI o i e) sg = lft (bnd (evE T C e sg) fun y => bnd (evE T C o sg) fun x => bnd (evE T C i sg) fun k => setIM x k y) sg fun _ m => some (.nx, sg, m) := by simp only [evS]
@[simp] theorem evS_app (o e : E) : evS T C (.app o e) sg = lft (bnd (evE T C o sg) fun x => bnd (lstM x) fun _ => bnd (evE T C e sg) fun y => appM x y) sg fun _ m => some (.nx, sg, m) := by simp only [evS]
def ifS (w : W) (a b : MS) : MS := match w with
  | .bl true => a
  | .bl false => b
  | _ => fun _ => none
@[simp] theorem ifS_true (a b : MS) : ifS (.bl true) a b = a := Eq.trans rfl rfl
@[simp] theorem ifS_false (a b : MS) : ifS (.bl false) a b = b := Eq.trans rfl rfl
theorem ifS_dec (p : Prop) [Decidable p] (a b : MS) : ifS (.bl (decide p)) a b = if p then a else b := by
  by_cases h : p <;> simp [h]
@[simp] theorem evS_ife (c : E) (a b : List S) : evS T C (.ife c a b) sg = lft (evE T C c sg) sg fun w => ifS w (evSs T C a sg) (evSs T C b sg) := by
  simp only [evS]; rfl
@[simp] theorem evS_loopL (tg : Tg) (src : E) (body : List S) : evS T C (.loopL tg src body) sg = lft (evE T C src sg) sg fun w => loopW tg (evSs T C body) w sg := by simp only [evS]
@[simp] theorem loopW_tup (tg : Tg) (b : Sg → MS) (xs : List W) (sg : Sg) : loopW tg b (.tup xs) sg = loopGo tg b xs sg := Eq.trans rfl rfl
@[simp] theorem loopW_lst (tg : Tg) (b : Sg → MS) (xs : List W) (sg : Sg) : loopW tg b (.lst xs) sg = loopGo tg b xs sg := Eq.trans rfl rfl
@[simp] theorem loopW_ref (tg : Tg) (b : Sg → MS) (n : Nat) (sg : Sg) : loopW tg b (.ref n) sg = loopD tg b n sg := Eq.trans rfl rfl
@[simp] theorem evS_loop (tg : Tg) (src : E) (body : List S) : evS T C (.loop tg src body) sg = lft (evI T C src sg) sg fun xs => loopGo tg (evSs T C body) xs sg := by simp only [evS]
@[simp] theorem evSs_nil (m : Hm) : evSs T C [] sg m = some (.nx, sg, m) := by simp [evSs]
@[simp] theorem evSs_cons (s : S) (ss : List S) (m : Hm) : evSs T C (s :: ss) sg m = thenS (evS T C s sg m) (evSs T C ss) := by simp [evSs]
end
@[simp] theorem lft_opt_some {α : Type} (a : α) (sg : Sg) (k : α → MS) : lft (opt (some a)) sg k = k a := Eq.trans rfl rfl
@[simp] theorem loop_nil (tg : Tg) (b : Sg → MS) (sg : Sg) (m : Hm) : loopGo tg b [] sg m = some (.nx, sg, m) := Eq.trans rfl rfl
theorem loop_cons {tg : Tg} {b : Sg → MS} {x : W} {xs : List W} {sg sg' : Sg} {m : Hm} (h : asgT tg x sg = some sg') : loopGo tg b (x :: xs) sg m = turnS (b sg' m) (loopGo tg b xs) := by
  simp only [loopGo, h]
theorem loop_inv {tg : Tg} {b : Sg → MS} (P : Sg → Hm → Prop) {xs : List W} (h : ∀ x ∈ xs, ∀ sg m, P sg m → ∃ sg1 sg2 m', asgT tg x sg = some sg1 ∧ b sg1 m = some (.nx, sg2, m') ∧ P sg2 m') :
    ∀ sg m, P sg m → ∃ sg' m', loopGo tg b xs sg m = some (.nx, sg', m') ∧ P sg' m' := by
  induction xs with
  | nil => intro sg m hp; exact ⟨sg, m, rfl, hp⟩
  | cons x xs ih =>
    intro sg m hp
    obtain ⟨sg1, sg2, m', h1, h2, h3⟩ := h x (by simp) sg m hp
    obtain ⟨sg', m'', h4, h5⟩ := ih (fun y hy => h y (by simp [hy])) sg2 m' h3
    exact ⟨sg', m'', by rw [loop_cons h1, h2, turnS_nx, h4], h5⟩
theorem compGo_none {tg : Tg} {sg : Sg} {tst elt : Sg → M W} {xs : List W} (h : ∀ x ∈ xs, ∃ sg', asgT tg x sg = some sg' ∧ tst sg' = ret (.bl false)) : compGo tg sg tst elt xs = ret [] := by
  induction xs with
  | nil => rfl
  | cons x xs ih =>
    obtain ⟨sg', h1, h2⟩ := h x (by simp)
    rw [compGo, h1, opt_some, bnd_ret, h2, bnd_ret]
    exact ih fun y hy => h y (by simp [hy])
theorem compGo_all {tg : Tg} {sg : Sg} {tst elt : Sg → M W} (f : W → W) {xs : List W} (h : ∀ x ∈ xs, ∃ sg', asgT tg x sg = some sg' ∧ tst sg' = ret (.bl true) ∧ elt sg' = ret (f x)) : compGo tg sg tst elt xs = ret (xs.map f) := by
  induction xs with
  | nil => rfl
  | cons x xs ih =>
    obtain ⟨sg', h1, h2, h3⟩ := h x (by simp)
    rw [compGo, h1, opt_some, bnd_ret, h2, bnd_ret]
    simp only []
    rw [h3, bnd_ret, ih fun y hy => h y (by simp [hy]), bnd_ret]
    rfl
/-- a call's end, of what its block gave -/
noncomputable def endR (k : Bool) (m : Hm) (x : Option (SO × Sg × Hm)) : Option (Res W × Hm) := match x with
  | some (.rt w, _, m') => fin k m m' w
  | some (.nx, _, m') => fin k m m' .non
  | some (.ex x, _, m') => finx m m' x
  | _ => none
theorem run_eq {T : Tab} {C : Calls} {F : Fn} {ws : List W} {m : Hm} (hn : ws.length = F.np) : runF T C F ws m = endR F.keep m (evSs T C F.body (ws.map some ++ List.replicate (F.ns - F.np) none) m) := by
  unfold runF
  rw [if_pos hn]; rfl
theorem call_eq {T : Tab} {l f : Nat} {ws : List W} {F : Fn} (h : T.fn f = some F) (hn : ws.length = F.np) (m : Hm) : evC T (l+1) f ws m = endR F.keep m (evSs T (evC T l) F.body (ws.map some ++ List.replicate (F.ns - F.np) none) m) := by
  rw [← run_eq hn]
  show (match T.fn f with | some F => runF T (evC T l) F ws | none => stuck) m = _
  rw [h]
@[simp] theorem endR_same (k : Bool) (m : Hm) (w : W) (sg : Sg) : endR k m (some (.rt w, sg, m)) = some (.ok w, m) := by simp [endR, fin]
@[simp] theorem endR_nx (k : Bool) (m : Hm) (sg : Sg) : endR k m (some (.nx, sg, m)) = some (.ok .non, m) := by simp [endR, fin]
@[simp] theorem endR_keep (m m' : Hm) (w : W) (sg : Sg) : endR true m (some (.rt w, sg, m')) = some (.ok w, m') := by simp [endR, fin]
theorem endR_len {k : Bool} {m m' : Hm} {w : W} {sg : Sg} (h : m'.length = m.length) : endR k m (some (.rt w, sg, m')) = some (.ok w, m') := by simp [endR, fin, h]
theorem pure_of {T : Tab} {l f : Nat} {ws : List W} {F : Fn} {w : W} (h : T.fn f = some F) (hn : ws.length = F.np) (hb : ∀ m, endR F.keep m (evSs T (evC T l) F.body (ws.map some ++ List.replicate (F.ns - F.np) none) m) = some (.ok w, m)) : evC T (l+1) f ws = ret w := by
  funext m; rw [call_eq h hn, hb]; rfl
@[simp] theorem iW0 (a : W) (xs : List W) : idxW (a :: xs) (.int 0) = some a := by
  simp [idxW, atI, ixN]
@[simp] theorem iW1 (a b : W) (xs : List W) : idxW (a :: b :: xs) (.int 1) = some b := by
  simp [idxW, atI, ixN]
  rw [if_pos (by omega)]; rfl
@[simp] theorem iW2 (a b c : W) (xs : List W) : idxW (a :: b :: c :: xs) (.int 2) = some c := by
  simp [idxW, atI, ixN]
  rw [if_pos (by omega)]; rfl
@[simp] theorem iW3 (a b c d : W) (xs : List W) : idxW (a :: b :: c :: d :: xs) (.int 3) = some d := by
  simp [idxW, atI, ixN]
  rw [if_pos (by omega)]; rfl
theorem iWn {xs : List W} {i : Int} (h0 : 0 ≤ i) (h : i.toNat < xs.length) : idxW xs (.int i) = some (xs[i.toNat]) := by
  simp only [idxW, atI, ixN, if_pos h0]
  rw [if_pos (by omega)]
  simp [h]
theorem iWk {xs : List W} {k : Nat} (h : k < xs.length) : idxW xs (.int (k : Int)) = some (xs[k]) := by simpa using iWn (xs := xs) (i := (k : Int)) (by omega) (by simpa using h)
theorem ixN_pos {n : Nat} {i : Int} (h0 : 0 ≤ i) (h : i < n) : ixN n i = some i.toNat := by
  simp [ixN, h0, h]
theorem hget_bot (pre : Hm) (o : HOb) : hget (pre ++ [o]) 0 = some o := by
  induction pre with
  | nil => rfl
  | cons x xs ih => simp [hget, ih]
theorem hset_bot (pre : Hm) (o u : HOb) : hset (pre ++ [o]) 0 u = pre ++ [u] := by
  induction pre with
  | nil => rfl
  | cons x xs ih => simp [hset, ih]

/-! ## sizes of products -/
def bd (n : Nat) (i : Int) : Prop := i.natAbs < 2 ^ n
theorem bd_mul {n k : Nat} {i j : Int} (h : bd n i) (g : bd k j) : bd (n + k) (i * j) := by
  unfold bd at *
  rw [Int.natAbs_mul, Nat.pow_add]
  exact Nat.mul_lt_mul'' h g
theorem bd_mono {n k : Nat} {i : Int} (h : bd n i) (g : n ≤ k) : bd k i := by
  unfold bd at *
  exact Nat.lt_of_lt_of_le h (Nat.pow_le_pow_right (by omega) g)
theorem bd_add {n : Nat} {i j : Int} (h : bd n i) (g : bd n j) : bd (n + 1) (i + j) := by
  unfold bd at *
  rw [Nat.pow_succ]; omega
theorem bd_sub {n : Nat} {i j : Int} (h : bd n i) (g : bd n j) : bd (n + 1) (i - j) := by
  unfold bd at *
  rw [Nat.pow_succ]; omega
theorem bd_neg {n : Nat} {i : Int} (h : bd n i) : bd n (-i) := by
  unfold bd at *; omega
theorem bd_log {n : Nat} {i : Int} (h : bd n i) : i.natAbs.log2 ≤ n := by
  unfold bd at h
  by_cases h0 : i.natAbs = 0
  · rw [h0]; simp
  · have := (Nat.log2_lt h0).2 h
    omega
theorem mulOk_bd {n k : Nat} {i j : Int} (h : bd n i) (g : bd k j) (hn : n + k < 1000000) : mulOk i j = true := by
  have := bd_log h; have := bd_log g
  unfold mulOk
  have : i.natAbs.log2 + j.natAbs.log2 < 1000000 := by omega
  simp [this]
theorem mulOk_l {i j : Int} (h : -(2 ^ 64) < i ∧ i < 2 ^ 64) : mulOk i j = true := by
  unfold mulOk; simp only [decide_eq_true h.1, decide_eq_true h.2, Bool.and_self, Bool.true_or]
theorem mulOk_r {i j : Int} (h : -(2 ^ 64) < j ∧ j < 2 ^ 64) : mulOk i j = true := by
  unfold mulOk; simp only [decide_eq_true h.1, decide_eq_true h.2, Bool.and_self, Bool.true_or, Bool.or_true]
end WM
namespace WM
open PySem hiding alloc ret
open PySem.Spec PyProof.Rows L2
/-! ## at a heap -/
def bndR {α β : Type} (r : Option (Res α × Hm)) (f : α → M β) : Option (Res β × Hm) := match r with
  | some (.ok a, m') => f a m'
  | some (.exc e, m') => some (.exc e, m')
  | none => none
def lftR {α : Type} (r : Option (Res α × Hm)) (sg : Sg) (k : α → MS) : Option (SO × Sg × Hm) := match r with
  | some (.ok a, m') => k a m'
  | some (.exc e, m') => some (.ex e, sg, m')
  | none => none
def nxR {α : Type} (r : Option (Res α × Hm)) : Option (Res α × Hm) := match r with
  | some (.ok a, m') => some (.ok a, m')
  | _ => none
@[simp] theorem bndR_ok {α β : Type} (a : α) (m : Hm) (f : α → M β) : bndR (some (.ok a, m)) f = f a m := Eq.trans rfl rfl
@[simp] theorem bndR_exc {α β : Type} (e : Xc) (m : Hm) (f : α → M β) : bndR (some (.exc e, m)) f = some (.exc e, m) := Eq.trans rfl rfl
@[simp] theorem bndR_none {α β : Type} (f : α → M β) : bndR (none : Option (Res α × Hm)) f = none := Eq.trans rfl rfl
@[simp] theorem lftR_ok {α : Type} (a : α) (m : Hm) (sg : Sg) (k : α → MS) : lftR (some (.ok a, m)) sg k = k a m := Eq.trans rfl rfl
@[simp] theorem lftR_exc {α : Type} (e : Xc) (m : Hm) (sg : Sg) (k : α → MS) : lftR (some (.exc e, m)) sg k = some (.ex e, sg, m) := Eq.trans rfl rfl
@[simp] theorem lftR_none {α : Type} (sg : Sg) (k : α → MS) : lftR (none : Option (Res α × Hm)) sg k = none := Eq.trans rfl rfl
@[simp] theorem nxR_ok {α : Type} (a : α) (m : Hm) : nxR (some (.ok a, m)) = some (.ok a, m) := Eq.trans rfl rfl
@[simp] theorem nxR_exc {α : Type} (e : Xc) (m : Hm) : nxR (some (.exc e, m) : Option (Res α × Hm)) = none := Eq.trans rfl rfl
@[simp] theorem nxR_none {α : Type} : nxR (none : Option (Res α × Hm)) = none := Eq.trans rfl rfl
@[simp] theorem ret_ap {α : Type} (a : α) (m : Hm) : WM.ret a m = some (.ok a, m) := Eq.trans rfl rfl
@[simp] theorem stuck_ap {α : Type} (m : Hm) : (stuck : M α) m = none := Eq.trans rfl rfl
@[simp] theorem bnd_ap {α β : Type} (x : M α) (f : α → M β) (m : Hm) : bnd x f m = bndR (x m) f := by
  unfold bnd bndR; cases x m with
  | none => rfl
  | some p => obtain ⟨r, m'⟩ := p; cases r <;> rfl
@[simp] theorem lft_ap {α : Type} (x : M α) (sg : Sg) (k : α → MS) (m : Hm) : lft x sg k m = lftR (x m) sg k := by
  unfold lft lftR; cases x m with
  | none => rfl
  | some p => obtain ⟨r, m'⟩ := p; cases r <;> rfl
@[simp] theorem noExc_ap {α : Type} (x : M α) (m : Hm) : noExc x m = nxR (x m) := by
  unfold noExc nxR; cases x m with
  | none => rfl
  | some p => obtain ⟨r, m'⟩ := p; cases r <;> rfl
@[simp] theorem alloc_ap (o : HOb) (m : Hm) : WM.alloc o m = some (.ok (.ref m.length), o :: m) := Eq.trans rfl rfl
/-! ### objects -/
def seqR (o : Option HOb) (m : Hm) : Option (Res (List W) × Hm) := match o with
  | some (.lst xs) => some (.ok xs, m)
  | _ => none
@[simp] theorem seqR_lst (xs : List W) (m : Hm) : seqR (some (.lst xs)) m = some (.ok xs, m) := Eq.trans rfl rfl
@[simp] theorem seqM_ref (n : Nat) (m : Hm) : seqM (.ref n) m = seqR (hget m n) m := by
  unfold seqM seqR seqW
  cases h : hget m n with
  | none => simp only [h]
  | some o => cases o <;> simp only [h] <;> rfl
@[simp] theorem idxM_ref (n : Nat) (j : W) (m : Hm) : idxM (.ref n) j m = bndR (seqR (hget m n) m) fun xs => opt (idxW xs j) := by
  rw [idxM, bnd_ap, seqM_ref]
def attrR (c i : Nat) (o : Option HOb) (m : Hm) : Option (Res W × Hm) := match o with
  | some (.ins c' fs) => if c' = c then (match fs[i]? with
      | some x => some (.ok x, m)
      | none => none) else none
  | _ => none
theorem attrR_ins {c i : Nat} {fs : List W} {w : W} (m : Hm) (h : fs[i]? = some w) : attrR c i (some (.ins c fs)) m = some (.ok w, m) := by
  simp [attrR, h]
@[simp] theorem attrR_0 (c : Nat) (a : W) (fs : List W) (m : Hm) : attrR c 0 (some (.ins c (a :: fs))) m = some (.ok a, m) := by simp [attrR]
@[simp] theorem attrR_1 (c : Nat) (a b : W) (fs : List W) (m : Hm) : attrR c 1 (some (.ins c (a :: b :: fs))) m = some (.ok b, m) := by simp [attrR]
@[simp] theorem attrR_2 (c : Nat) (a b d : W) (fs : List W) (m : Hm) : attrR c 2 (some (.ins c (a :: b :: d :: fs))) m = some (.ok d, m) := by simp [attrR]
@[simp] theorem attrR_3 (c : Nat) (a b d e : W) (fs : List W) (m : Hm) : attrR c 3 (some (.ins c (a :: b :: d :: e :: fs))) m = some (.ok e, m) := by simp [attrR]
@[simp] theorem attrM_ref (c i n : Nat) (m : Hm) : attrM c i (.ref n) m = attrR c i (hget m n) m := by
  unfold attrM attrR
  cases h : hget m n with
  | none => simp only [h]
  | some o => cases o <;> simp only [h] <;> rfl
def insR (c : Nat) (o : Option HOb) (m : Hm) : Option (Res Unit × Hm) := match o with
  | some (.ins c' _) => if c' = c then some (.ok (), m) else none
  | _ => none
@[simp] theorem insR_ins (c : Nat) (fs : List W) (m : Hm) : insR c (some (.ins c fs)) m = some (.ok (), m) := by simp [insR]
@[simp] theorem insM_ref (c n : Nat) (m : Hm) : insM c (.ref n) m = insR c (hget m n) m := by
  unfold insM insR
  cases h : hget m n with
  | none => simp only [h]
  | some o => cases o <;> simp only [h] <;> rfl
def lstR (o : Option HOb) (m : Hm) : Option (Res Unit × Hm) := match o with
  | some (.lst _) => some (.ok (), m)
  | _ => none
@[simp] theorem lstR_lst (xs : List W) (m : Hm) : lstR (some (.lst xs)) m = some (.ok (), m) := Eq.trans rfl rfl
@[simp] theorem lstM_ref (n : Nat) (m : Hm) : lstM (.ref n) m = lstR (hget m n) m := by
  unfold lstM lstR
  cases h : hget m n with
  | none => simp only [h]
  | some o => cases o <;> simp only [h] <;> rfl
def appR (n : Nat) (y : W) (o : Option HOb) (m : Hm) : Option (Res W × Hm) := match o with
  | some (.lst xs) => if szOk (xs.length + 1) then some (.ok .non, hset m n (.lst (xs ++ [y]))) else none
  | _ => none
@[simp] theorem appM_ref (n : Nat) (y : W) (m : Hm) : appM (.ref n) y m = appR n y (hget m n) m := by
  unfold appM appR
  cases h : hget m n with
  | none => simp only [h]
  | some o => cases o <;> simp only [h] <;> rfl
theorem appR_lst {n : Nat} {y : W} {xs : List W} {m : Hm} (h : szOk (xs.length + 1) = true) : appR n y (some (.lst xs)) m = some (.ok .non, hset m n (.lst (xs ++ [y]))) := by
  simp [appR, h]
def setIR (n : Nat) (k : Int) (y : W) (o : Option HOb) (m : Hm) : Option (Res W × Hm) := match o with
  | some (.lst xs) => match ixN xs.length k with
    | some j => some (.ok .non, hset m n (.lst (xs.set j y)))
    | none => none
  | _ => none
@[simp] theorem setIM_ref (n : Nat) (k : Int) (y : W) (m : Hm) : setIM (.ref n) (.int k) y m = setIR n k y (hget m n) m := by
  unfold setIM setIR
  cases h : hget m n with
  | none => simp only [h]
  | some o => cases o <;> simp only [h] <;> rfl
theorem setIR_lst {n : Nat} {k : Int} {y : W} {xs : List W} {m : Hm} (h0 : 0 ≤ k) (h : k < xs.length) : setIR n k y (some (.lst xs)) m = some (.ok .non, hset m n (.lst (xs.set k.toNat y))) := by
  simp [setIR, ixN_pos h0 h]
def dgetR (t : Bool) (k : W) (o : Option HOb) (m : Hm) : Option (Res (Option W) × Hm) := match o with
  | some (.dK kvs) => if t then none else match keyW k with
      | some q => some (.ok (gvW kvs q), m)
      | none => none
  | some (.dT kvs) => if t then (match tupKey k with
      | some q => some (.ok (gvW kvs q), m)
      | none => none) else none
  | _ => none
@[simp] theorem dgetM_ref (t : Bool) (n : Nat) (k : W) (m : Hm) : dgetM t (.ref n) k m = dgetR t k (hget m n) m := by
  unfold dgetM dgetR
  cases h : hget m n with
  | none => simp only [h]
  | some o => cases o <;> simp only [h] <;> rfl
theorem dgetR_T {kvs : List (List Key × W)} {k : W} {q : List Key} {m : Hm} (h : tupKey k = some q) : dgetR true k (some (.dT kvs)) m = some (.ok (gvW kvs q), m) := by
  simp [dgetR, h]
theorem dgetR_K {kvs : List (Key × W)} {k : W} {q : Key} {m : Hm} (h : keyW k = some q) : dgetR false k (some (.dK kvs)) m = some (.ok (gvW kvs q), m) := by
  simp [dgetR, h]
def isDR (o : Option HOb) (m : Hm) : Option (Res Unit × Hm) := match o with
  | some (.dK _) => some (.ok (), m)
  | some (.dT _) => some (.ok (), m)
  | _ => none
@[simp] theorem isDM_ref (n : Nat) (m : Hm) : isDM (.ref n) m = isDR (hget m n) m := by
  unfold isDM isDR
  cases h : hget m n with
  | none => simp only [h]
  | some o => cases o <;> simp only [h] <;> rfl
@[simp] theorem isDR_T (kvs : List (List Key × W)) (m : Hm) : isDR (some (.dT kvs)) m = some (.ok (), m) := Eq.trans rfl rfl
@[simp] theorem isDR_K (kvs : List (Key × W)) (m : Hm) : isDR (some (.dK kvs)) m = some (.ok (), m) := Eq.trans rfl rfl
theorem hget_up {m : Hm} {n : Nat} {x : HOb} (o : HOb) (h : hget m n = some x) : hget (o :: m) n = some x := by
  have := hget_lt h
  unfold hget
  rw [if_neg (by omega)]; exact h
@[simp] theorem hget_new (o : HOb) (m : Hm) : hget (o :: m) m.length = some o := by simp [hget]
@[simp] theorem hset_new (o u : HOb) (m : Hm) : hset (o :: m) m.length u = u :: m := by simp [hset]
@[simp] theorem hget_new1 (o p : HOb) (m : Hm) : hget (p :: o :: m) m.length = some o := by
  have : m.length ≠ m.length + 1 := by omega
  simp [hget, this]
@[simp] theorem hset_new1 (o p u : HOb) (m : Hm) : hset (p :: o :: m) m.length u = p :: u :: m := by
  have : m.length ≠ m.length + 1 := by omega
  simp [hset, this]
@[simp] theorem hget_new1' (o p : HOb) (m : Hm) : hget (p :: o :: m) (m.length + 1) = some p := by simp [hget]
@[simp] theorem hset_new1' (o p u : HOb) (m : Hm) : hset (p :: o :: m) (m.length + 1) u = u :: o :: m := by simp [hset]
/-! ### comprehensions and loops -/
theorem comp_nil (tg : Tg) (sg : Sg) (tst elt : Sg → M W) (m : Hm) : compGo tg sg tst elt [] m = some (.ok [], m) := rfl
theorem comp_map {α : Type} (f : α → W) (xs : List α) (p : α → Bool) (g : α → W) {tg : Tg} {sg : Sg} {tst elt : Sg → M W} {m : Hm}
    (h : ∀ x ∈ xs, ∃ sg', asgT tg (f x) sg = some sg' ∧ tst sg' m = some (.ok (.bl (p x)), m) ∧ (p x = true → elt sg' m = some (.ok (g x), m))) :
    compGo tg sg tst elt (xs.map f) m = some (.ok ((xs.filter p).map g), m) := by
  induction xs with
  | nil => rfl
  | cons x xs ih =>
    obtain ⟨sg', h1, h2, h3⟩ := h x List.mem_cons_self
    have ih := ih fun y hy => h y (List.mem_cons_of_mem _ hy)
    rw [List.map_cons, compGo, h1, opt_some, bnd_ret, bnd_ap, h2, bndR_ok]
    cases hp : p x with
    | false =>
      show compGo _ _ _ _ _ _ = _
      rw [ih, List.filter_cons, hp]; rfl
    | true =>
      show bnd (elt sg') _ m = _
      rw [bnd_ap, h3 hp, bndR_ok, bnd_ap, ih, bndR_ok, List.filter_cons, hp]
      rfl
theorem comp_all {α : Type} (f : α → W) (xs : List α) (g : α → W) {tg : Tg} {sg : Sg} {tst elt : Sg → M W} {m : Hm}
    (h : ∀ x ∈ xs, ∃ sg', asgT tg (f x) sg = some sg' ∧ tst sg' m = some (.ok (.bl true), m) ∧ elt sg' m = some (.ok (g x), m)) :
    compGo tg sg tst elt (xs.map f) m = some (.ok (xs.map g), m) := by
  have := comp_map f xs (fun _ => true) g (tg := tg) (sg := sg) (tst := tst) (elt := elt) (m := m) fun x hx => by
    obtain ⟨sg', h1, h2, h3⟩ := h x hx
    exact ⟨sg', h1, h2, fun _ => h3⟩
  rwa [List.filter_eq_self.2 (fun _ _ => rfl)] at this
/-- a loop whose turns all go on -/
theorem loop_fold {α β : Type} (f : α → W) (step : β → α → β) (R : β → Sg → Hm → Prop) {tg : Tg} {b : Sg → MS} : ∀ (xs : List α) (s : β) {sg : Sg} {m : Hm}, R s sg m →
    (∀ s x sg m, x ∈ xs → R s sg m → ∃ sg1 sg2 m', asgT tg (f x) sg = some sg1 ∧ (b sg1 m = some (.nx, sg2, m') ∨ b sg1 m = some (.cnt, sg2, m')) ∧ R (step s x) sg2 m') →
    ∃ sg' m', loopGo tg b (xs.map f) sg m = some (.nx, sg', m') ∧ R (xs.foldl step s) sg' m'
  | [], s, sg, m, h, _ => ⟨sg, m, rfl, h⟩
  | x :: xs, s, sg, m, h, hs => by
    obtain ⟨sg1, sg2, m', h1, h2, h3⟩ := hs s x sg m List.mem_cons_self h
    obtain ⟨sg', m'', h4, h5⟩ := loop_fold f step R xs (step s x) h3 fun s y sg m hy => hs s y sg m (List.mem_cons_of_mem _ hy)
    refine ⟨sg', m'', ?_, h5⟩
    rw [List.map_cons, loop_cons h1]
    rcases h2 with h2 | h2 <;> rw [h2]
    · rw [turnS_nx, h4]
    · rw [turnS_cnt, h4]
/-- a loop whose turns go on or give a value -/
theorem loop_foldR {α β γ : Type} (f : α → W) (step : β → α → β ⊕ γ) (out : γ → W) (R : β → Sg → Hm → Prop) (Q : γ → Hm → Prop) {tg : Tg} {b : Sg → MS} : ∀ (xs : List α) (s : β) {sg : Sg} {m : Hm}, R s sg m →
    (∀ s x sg m, x ∈ xs → R s sg m → ∃ sg1 sg2 m', asgT tg (f x) sg = some sg1 ∧ match step s x with
      | .inl s' => (b sg1 m = some (.nx, sg2, m') ∨ b sg1 m = some (.cnt, sg2, m')) ∧ R s' sg2 m'
      | .inr c => b sg1 m = some (.rt (out c), sg2, m') ∧ Q c m') →
    ∃ sg' m', match xs.foldl (fun (s : β ⊕ γ) x => match s with | .inl s => step s x | .inr c => .inr c) (.inl s) with
      | .inl s' => loopGo tg b (xs.map f) sg m = some (.nx, sg', m') ∧ R s' sg' m'
      | .inr c => loopGo tg b (xs.map f) sg m = some (.rt (out c), sg', m') ∧ Q c m'
  | [], s, sg, m, h, _ => ⟨sg, m, rfl, h⟩
  | x :: xs, s, sg, m, h, hs => by
    obtain ⟨sg1, sg2, m', h1, h2⟩ := hs s x sg m List.mem_cons_self h
    rw [List.foldl_cons]
    show ∃ sg' m', match xs.foldl _ (step s x) with | .inl s' => _ | .inr c => _
    cases he : step s x with
    | inl s' =>
      rw [he] at h2
      obtain ⟨h2, h3⟩ := h2
      obtain ⟨sg', m'', h4⟩ := loop_foldR f step out R Q xs s' h3 fun s y sg m hy => hs s y sg m (List.mem_cons_of_mem _ hy)
      have h5 : loopGo tg b ((x :: xs).map f) sg m = loopGo tg b (xs.map f) sg2 m' := by
        rw [List.map_cons, loop_cons h1]
        rcases h2 with h2 | h2 <;> rw [h2]
        · rw [turnS_nx]
        · rw [turnS_cnt]
      refine ⟨sg', m'', ?_⟩
      rw [h5]
      exact h4
    | inr c =>
      rw [he] at h2
      have hk : xs.foldl (fun (s : β ⊕ γ) x => match s with | .inl s => step s x | .inr c => .inr c) (.inr c) = .inr c := by
        clear h2 hs
        induction xs with
        | nil => rfl
        | cons y ys ih => exact ih
      rw [hk]
      refine ⟨sg2, m', ?_, h2.2⟩
      rw [List.map_cons, loop_cons h1, h2.1, turnS_rt]
end WM
namespace WM
open PySem PySem.Spec PyProof.Rows L2
@[simp] theorem idxM_lst (xs : List W) (j : W) : idxM (.lst xs) j = opt (idxW xs j) := Eq.trans rfl rfl
@[simp] theorem idxM_tup (xs : List W) (j : W) : idxM (.tup xs) j = opt (idxW xs j) := Eq.trans rfl rfl
@[simp] theorem idxM_klst (xs : List W) (j : W) : idxM (.klst xs) j = opt (idxW xs j) := Eq.trans rfl rfl
end WM
namespace WM
open PySem hiding alloc ret
open PySem.Spec PyProof.Rows L2
@[simp] theorem biM_len_tup (xs : List W) : biM .len [.tup xs] = ret (.int xs.length) := by simp only [biM, seqM_tup, bnd_ret]
@[simp] theorem biM_len_lst (xs : List W) : biM .len [.lst xs] = ret (.int xs.length) := by simp only [biM, seqM_lst, bnd_ret]
@[simp] theorem biM_len_klst (xs : List W) : biM .len [.klst xs] = ret (.int xs.length) := by simp only [biM, seqM_klst, bnd_ret]
@[simp] theorem biM_int (i : Int) : biM .int [.int i] = ret (.int i) := Eq.trans rfl rfl
@[simp] theorem biM_int_bl (b : Bool) : biM .int [.bl b] = ret (.int (if b then 1 else 0)) := Eq.trans rfl rfl
@[simp] theorem biM_list_lst (xs : List W) : biM .list [.lst xs] = ret (.lst xs) := Eq.trans rfl rfl
@[simp] theorem biM_list_tup (xs : List W) : biM .list [.tup xs] = ret (.lst xs) := Eq.trans rfl rfl
@[simp] theorem biM_list_klst (xs : List W) : biM .list [.klst xs] = ret (.lst xs) := Eq.trans rfl rfl
@[simp] theorem biM_tuple_lst (xs : List W) : biM .tuple [.lst xs] = ret (.tup xs) := Eq.trans rfl rfl
@[simp] theorem biM_tuple_tup (xs : List W) : biM .tuple [.tup xs] = ret (.tup xs) := Eq.trans rfl rfl
end WM
namespace WM
open PySem hiding alloc ret
open PySem.Spec PyProof.Rows L2
theorem frzW_rb {k n : Nat} {m : Hm} {w : W} (h : W.rb k w = true) : frzW k m (n + 1) w = some w := by
  unfold frzW; rw [if_pos h]
theorem endR_let {k : Bool} {m m' : Hm} {w : W} {sg : Sg} (h1 : m.length ≤ m'.length) (h2 : m'.drop (m'.length - m.length) = m ∨ (m'.drop (m'.length - m.length)).all (HOb.rb m.length) = true) (hw : W.rb m.length w = true) :
    ∃ m2, endR k m (some (.rt w, sg, m')) = some (.ok w, m2) ∧ (k = false → m2 = m'.drop (m'.length - m.length)) := by
  simp only [endR, fin]
  by_cases hk : k = true ∨ m'.length = m.length
  · rw [if_pos hk]
    refine ⟨m', rfl, fun h0 => ?_⟩
    rcases hk with hk | hk
    · rw [h0] at hk; cases hk
    · rw [hk, Nat.sub_self]; rfl
  · rw [if_neg hk, if_pos ⟨h1, h2⟩, frzW_rb hw]
    exact ⟨_, rfl, fun _ => rfl⟩
theorem endR_nil {k : Bool} {m' : Hm} {w : W} {sg : Sg} (hw : W.rb 0 w = true) : ∃ m2, endR k [] (some (.rt w, sg, m')) = some (.ok w, m2) := by
  obtain ⟨m2, h, _⟩ := endR_let (k := k) (m := []) (m' := m') (w := w) (sg := sg) (by simp) (Or.inl (by simp)) hw
  exact ⟨m2, h⟩
end WM
namespace WM
open PySem hiding alloc ret
open PySem.Spec PyProof.Rows L2
section
variable (T : Tab) (C : Calls) (sg : Sg)
@[simp] theorem evE_isin (ng : Bool) (a b : E) : evE T C (.isin ng a b) sg = bnd (evE T C a sg) fun x => bnd (evE T C b sg) fun y => bnd (seqM y) fun ys => bnd (opt (inW (isTupW y) x ys)) fun r => ret (.bl (if ng then !r else r)) := by simp only [evE]
def revM (x : W) : M W := match x with
  | .tup xs => ret (.tup xs.reverse)
  | .lst xs => ret (.lst xs.reverse)
  | .ref _ => bnd (seqM x) fun xs => ret (.lst xs.reverse)
  | _ => stuck
@[simp] theorem revM_tup (xs : List W) : revM (.tup xs) = ret (.tup xs.reverse) := by simp only [revM]
@[simp] theorem revM_lst (xs : List W) : revM (.lst xs) = ret (.lst xs.reverse) := by simp only [revM]
@[simp] theorem evE_rev (a : E) : evE T C (.rev a) sg = bnd (evE T C a sg) revM := by simp only [evE]; rfl
@[simp] theorem evE_attr (c f : Nat) (a : E) : evE T C (.attr c f a) sg = bnd (evE T C a sg) fun x => attrM c f x := by simp only [evE]
@[simp] theorem evE_meth (c f : Nat) (o : E) (es : List E) : evE T C (.meth c f o es) sg = bnd (evE T C o sg) fun x => bnd (insM c x) fun _ => bnd (evEs T C es sg) fun ws => noExc (C f (x :: ws)) := by simp only [evE]
def nonM (x r : W) : M W := match r with
  | .non => ret x
  | _ => stuck
@[simp] theorem nonM_non (x : W) : nonM x .non = ret x := by simp only [nonM]
@[simp] theorem evE_make (c f : Nat) (es : List E) : evE T C (.make c f es) sg = bnd (evEs T C es sg) fun ws => bnd (alloc (.ins c [])) fun x => bnd (noExc (C f (x :: ws))) (nonM x) := by simp only [evE]; rfl
@[simp] theorem evE_pop (a : E) : evE T C (.pop a) sg = bnd (evE T C a sg) popM := by simp only [evE]
@[simp] theorem evE_dnew (t : Bool) : evE T C (.dnew t) sg = alloc (if t then .dT [] else .dK []) := by simp only [evE]
@[simp] theorem evE_din (t ng : Bool) (k d : E) : evE T C (.din t ng k d) sg = bnd (evE T C k sg) fun y => bnd (evE T C d sg) fun x => bnd (dgetM t x y) fun o => ret (.bl (if ng then !o.isSome else o.isSome)) := by simp only [evE]
@[simp] theorem evE_dget (t : Bool) (d k : E) : evE T C (.dget t d k) sg = bnd (evE T C d sg) fun x => bnd (evE T C k sg) fun y => bnd (dgetM t x y) fun o => opt o := by simp only [evE]
@[simp] theorem evE_dget2 (t : Bool) (d k z : E) : evE T C (.dget2 t d k z) sg = bnd (evE T C d sg) fun x => bnd (isDM x) fun _ => bnd (evE T C k sg) fun y => bnd (evE T C z sg) fun u => bnd (dgetM t x y) fun o => ret (o.getD u) := by simp only [evE]
@[simp] theorem evE_dsel (ks : List Int) (es : List E) (i : E) : evE T C (.dsel ks es i) sg = bnd (noExc (evEs T C es sg)) fun ws => bnd (noExc (evE T C i sg)) fun k => opt (dselW ks ws k) := by simp only [evE]
def slcM (x : W) (l h : Option Int) : M W := match x with
  | .tup xs => ret (.tup (cutW xs l h))
  | .lst xs => ret (.lst (cutW xs l h))
  | .ref _ => bnd (seqM x) fun xs => ret (.lst (cutW xs l h))
  | _ => stuck
@[simp] theorem slcM_tup (xs : List W) (l h : Option Int) : slcM (.tup xs) l h = ret (.tup (cutW xs l h)) := by simp only [slcM]
@[simp] theorem slcM_lst (xs : List W) (l h : Option Int) : slcM (.lst xs) l h = ret (.lst (cutW xs l h)) := by simp only [slcM]
@[simp] theorem evE_slc (a lo hi : E) : evE T C (.slc a lo hi) sg = bnd (evE T C a sg) fun x => bnd (partM lo (evE T C lo sg)) fun l => bnd (partM hi (evE T C hi sg)) fun h => slcM x l h := by simp only [evE]; rfl
def cutM (x : W) (l h : Option Int) : M W := match x with
  | .tup xs => if decide ((cutW xs l h).length < xs.length) then ret (.tup (cutW xs l h)) else stuck
  | _ => stuck
@[simp] theorem evE_cut (a lo hi : E) : evE T C (.cut a lo hi) sg = bnd (evE T C a sg) fun x => bnd (partM lo (evE T C lo sg)) fun l => bnd (partM hi (evE T C hi sg)) fun h => cutM x l h := by simp only [evE]; rfl
@[simp] theorem evE_cmp3 (o p q : Cop) (a b c d : E) : evE T C (.cmp3 o p q a b c d) sg = bnd (evE T C a sg) fun x => bnd (evE T C b sg) fun y => bnd (opt (cmpW o x y)) fun z => ifM z (bnd (evE T C c sg) fun u => bnd (opt (cmpW p y u)) fun z2 => ifM z2 (bnd (evE T C d sg) fun v => opt (cmpW q u v)) (ret (.bl false))) (ret (.bl false)) := by
  simp only [evE]; rfl
def itsM (f : List W → List W) (x : W) : M (List W) := match x with
  | .tup xs => ret (f xs)
  | .lst xs => ret (f xs)
  | .klst xs => ret (f xs)
  | _ => stuck
@[simp] theorem itsM_tup (f : List W → List W) (xs : List W) : itsM f (.tup xs) = ret (f xs) := by simp only [itsM]
@[simp] theorem itsM_lst (f : List W → List W) (xs : List W) : itsM f (.lst xs) = ret (f xs) := by simp only [itsM]
@[simp] theorem itsM_klst (f : List W → List W) (xs : List W) : itsM f (.klst xs) = ret (f xs) := by simp only [itsM]
@[simp] theorem evI_senum (a : E) : evI T C (.senum a) sg = bnd (evE T C a sg) (itsM enW) := by simp only [evI]; rfl
@[simp] theorem evI_srev (a : E) : evI T C (.srev a) sg = bnd (evE T C a sg) (itsM List.reverse) := by simp only [evI]; rfl
@[simp] theorem evS_setA (c f : Nat) (o e : E) : evS T C (.setA c f o e) sg = lft (bnd (evE T C e sg) fun y => bnd (evE T C o sg) fun x => setAM c f x y) sg fun _ m => some (.nx, sg, m) := by simp only [evS]
@[simp] theorem evS_dput (t : Bool) (d k e : E) : evS T C (.dput t d k e) sg = lft (bnd (evE T C e sg) fun y => bnd (evE T C d sg) fun x => bnd (evE T C k sg) fun q => dputM t x q y) sg fun _ m => some (.nx, sg, m) := by simp only [evS]
@[simp] theorem partM_nop (x : M W) : partM .nop x = ret none := by simp only [partM]
end
theorem noExc_at {α : Type} {x : M α} {m m' : Hm} {a : α} (h : x m = some (.ok a, m')) : noExc x m = some (.ok a, m') := by
  unfold noExc; rw [h]
theorem attr_at {c i n : Nat} {m : Hm} {fs : List W} {w : W} (h : hget m n = some (.ins c fs)) (hi : fs[i]? = some w) : attrM c i (.ref n) m = some (.ok w, m) := by
  simp [attrM, h, hi]
theorem ins_at {c n : Nat} {m : Hm} {fs : List W} (h : hget m n = some (.ins c fs)) : insM c (.ref n) m = some (.ok (), m) := by
  simp [insM, h]
theorem isD_at {n : Nat} {m : Hm} {kvs : List (List Key × W)} (h : hget m n = some (.dT kvs)) : isDM (.ref n) m = some (.ok (), m) := by
  simp [isDM, h]
theorem dgetT_at {n : Nat} {m : Hm} {kvs : List (List Key × W)} {ws : List W} {q : List Key} (h : hget m n = some (.dT kvs)) (hk : keysW ws = some q) : dgetM true (.ref n) (.tup ws) m = some (.ok (gvW kvs q), m) := by
  simp [dgetM, h, tupKey, hk]
end WM
/-! golden numbers as a ring with an order -/
namespace Mx
def Gd : Type := Int × Int
instance : DecidableEq Gd := inferInstanceAs (DecidableEq (Int × Int))
instance : Add Gd := ⟨fun a b => (a.1 + b.1, a.2 + b.2)⟩
instance : Sub Gd := ⟨fun a b => (a.1 - b.1, a.2 - b.2)⟩
instance : Neg Gd := ⟨fun a => (-a.1, -a.2)⟩
instance : Mul Gd := ⟨fun a b => (a.1 * b.1 + a.2 * b.2, a.1 * b.2 + a.2 * b.1 + a.2 * b.2)⟩
instance : NatCast Gd := ⟨fun n => ((n : Int), 0)⟩
instance : IntCast Gd := ⟨fun n => (n, 0)⟩
instance (n : Nat) : OfNat Gd n := ⟨((n : Int), 0)⟩
instance : SMul Nat Gd := ⟨fun n a => (n * a.1, n * a.2)⟩
instance : SMul Int Gd := ⟨fun n a => (n * a.1, n * a.2)⟩
def Gd.npow (a : Gd) : Nat → Gd
  | 0 => 1
  | n + 1 => Gd.npow a n * a
instance : HPow Gd Nat Gd := ⟨Gd.npow⟩
theorem Gd.ext {a b : Gd} (h : a.1 = b.1) (g : a.2 = b.2) : a = b := Prod.ext h g
theorem add_1 (a b : Gd) : (a + b).1 = a.1 + b.1 := rfl
theorem add_2 (a b : Gd) : (a + b).2 = a.2 + b.2 := rfl
theorem sub_1 (a b : Gd) : (a - b).1 = a.1 - b.1 := rfl
theorem sub_2 (a b : Gd) : (a - b).2 = a.2 - b.2 := rfl
theorem neg_1 (a : Gd) : (-a).1 = -a.1 := rfl
theorem neg_2 (a : Gd) : (-a).2 = -a.2 := rfl
theorem mul_1 (a b : Gd) : (a * b).1 = a.1 * b.1 + a.2 * b.2 := rfl
theorem mul_2 (a b : Gd) : (a * b).2 = a.1 * b.2 + a.2 * b.1 + a.2 * b.2 := rfl
theorem nat_1 (n : Nat) : (OfNat.ofNat n : Gd).1 = (n : Int) := rfl
theorem nat_2 (n : Nat) : (OfNat.ofNat n : Gd).2 = 0 := rfl
instance : Lean.Grind.CommRing Gd where
  nsmul := inferInstance
  npow := inferInstance
  zsmul := inferInstance
  add_zero a := Gd.ext (Int.add_zero _) (Int.add_zero _)
  add_comm a b := Gd.ext (Int.add_comm _ _) (Int.add_comm _ _)
  add_assoc a b c := Gd.ext (Int.add_assoc _ _ _) (Int.add_assoc _ _ _)
  mul_assoc a b c := Gd.ext (by simp only [mul_1, mul_2]; grind) (by simp only [mul_1, mul_2]; grind)
  mul_one a := Gd.ext (by show a.1 * 1 + a.2 * 0 = _; omega) (by show a.1 * 0 + a.2 * 1 + a.2 * 0 = _; omega)
  one_mul a := Gd.ext (by show 1 * a.1 + 0 * a.2 = _; omega) (by show 1 * a.2 + 0 * a.1 + 0 * a.2 = _; omega)
  left_distrib a b c := Gd.ext (by simp only [mul_1, mul_2, add_1, add_2]; grind) (by simp only [mul_1, mul_2, add_1, add_2]; grind)
  right_distrib a b c := Gd.ext (by simp only [mul_1, mul_2, add_1, add_2]; grind) (by simp only [mul_1, mul_2, add_1, add_2]; grind)
  zero_mul a := Gd.ext (by show 0 * a.1 + 0 * a.2 = 0; omega) (by show 0 * a.2 + 0 * a.1 + 0 * a.2 = 0; omega)
  mul_zero a := Gd.ext (by show a.1 * 0 + a.2 * 0 = 0; omega) (by show a.1 * 0 + a.2 * 0 + a.2 * 0 = 0; omega)
  pow_zero a := rfl
  pow_succ a n := rfl
  ofNat_succ n := Gd.ext (by show ((n + 1 : Nat) : Int) = (n : Int) + 1; omega) rfl
  ofNat_eq_natCast n := rfl
  nsmul_eq_natCast_mul n a := Gd.ext (by show (n : Int) * a.1 = n * a.1 + 0 * a.2; omega) (by show (n : Int) * a.2 = n * a.2 + 0 * a.1 + 0 * a.2; omega)
  neg_add_cancel a := Gd.ext (Int.add_left_neg _) (Int.add_left_neg _)
  sub_eq_add_neg a b := Gd.ext Int.sub_eq_add_neg Int.sub_eq_add_neg
  neg_zsmul i a := Gd.ext (Int.neg_mul _ _) (Int.neg_mul _ _)
  zsmul_natCast_eq_nsmul n a := rfl
  intCast_ofNat n := rfl
  intCast_neg i := rfl
  mul_comm a b := Gd.ext (by simp only [mul_1, mul_2]; grind) (by simp only [mul_1, mul_2]; grind)
example (a b c : Gd) : a * (b + c) - c * a = b * a := by grind
end Mx
namespace Mx
/-- the program's sign of a + b g -/
def sgn (a b : Int) : Int :=
  if 0 ≤ 2*a+b ∧ 0 ≤ b then (if 0 < 2*a+b ∨ 0 < b then 1 else 0)
  else if 2*a+b ≤ 0 ∧ b ≤ 0 then -1
  else if (0 < 2*a+b ↔ 5*b*b < (2*a+b)*(2*a+b)) then 1 else -1
/-! ## the signs of a + b g -/
theorem five_dvd {u : Int} (h : 5 ∣ u * u) : 5 ∣ u := by
  have h1 : u % 5 = 0 ∨ u % 5 = 1 ∨ u % 5 = 2 ∨ u % 5 = 3 ∨ u % 5 = 4 := by omega
  have h2 : (u * u) % 5 = 0 := Int.emod_eq_zero_of_dvd h
  rw [Int.mul_emod] at h2
  rcases h1 with h1 | h1 | h1 | h1 | h1 <;> rw [h1] at h2 <;> first | omega | (exfalso; revert h2; decide)
theorem irr_aux (n : Nat) : ∀ u b : Int, b.natAbs ≤ n → u * u = 5 * b * b → b = 0 := by
  induction n with
  | zero => intro u b h _; omega
  | succ n ih =>
    intro u b hb h
    have h5 : 5 ∣ u := five_dvd ⟨b * b, by rw [h, Int.mul_assoc]⟩
    obtain ⟨v, rfl⟩ := h5
    have hbb : b * b = 5 * (v * v) := by
      have : 5 * (b * b) = 5 * (5 * (v * v)) := by
        rw [← Int.mul_assoc, ← h]
        simp only [Int.mul_assoc, Int.mul_left_comm]
      omega
    obtain ⟨c, rfl⟩ := five_dvd ⟨v * v, hbb⟩
    have hv : v * v = 5 * c * c := by
      have : 5 * (v * v) = 5 * (5 * c * c) := by
        rw [← hbb]; simp only [Int.mul_assoc, Int.mul_left_comm]
      omega
    by_cases hc : c = 0
    · rw [hc]; rfl
    have := ih v c (by omega) hv
    contradiction
theorem irr {u b : Int} (h : u * u = 5 * b * b) : b = 0 := irr_aux _ u b (Nat.le_refl _) h
theorem sq_nonneg (a : Int) : 0 ≤ a * a := by
  rcases Int.le_total 0 a with h | h
  · exact Int.mul_nonneg h h
  · exact Int.mul_nonneg_of_nonpos_of_nonpos h h
theorem sq_pos {a : Int} (h : a ≠ 0) : 0 < a * a := by
  have := sq_nonneg a
  have : a * a ≠ 0 := fun h1 => by rcases Int.mul_eq_zero.1 h1 with h2 | h2 <;> exact h h2
  omega
/-- the sign by the norm -/
def sg (u b : Int) : Int := if 5 * b * b < u * u then u.sign else if u * u < 5 * b * b then b.sign else 0
theorem sg_zero : sg 0 0 = 0 := by decide
theorem five_bb (b : Int) : 5 * b * b = 5 * (b * b) := Int.mul_assoc ..
theorem sgn_sg (a b : Int) : sgn a b = sg (2 * a + b) b := by
  unfold sgn sg
  generalize 2 * a + b = u
  have hir : u * u = 5 * b * b → b = 0 := irr
  have hu := sq_nonneg u; have hb := sq_nonneg b
  have hu' : u ≠ 0 → 0 < u * u := sq_pos
  have hb' : b ≠ 0 → 0 < b * b := sq_pos
  have hu0 : u = 0 → u * u = 0 := by rintro rfl; rfl
  have hb0 : b = 0 → b * b = 0 := by rintro rfl; rfl
  rw [five_bb] at *
  have su : 0 < u → u.sign = 1 := Int.sign_eq_one_of_pos
  have su' : u < 0 → u.sign = -1 := Int.sign_eq_neg_one_of_neg
  have sb : 0 < b → b.sign = 1 := Int.sign_eq_one_of_pos
  have sb' : b < 0 → b.sign = -1 := Int.sign_eq_neg_one_of_neg
  have su0 : u = 0 → u.sign = 0 := by rintro rfl; rfl
  have sb0 : b = 0 → b.sign = 0 := by rintro rfl; rfl
  generalize u * u = uu at *
  generalize b * b = bb at *
  generalize u.sign = x at *
  generalize b.sign = y at *
  split <;> split <;> (try split) <;> (try split) <;> omega
theorem sg_neg (u b : Int) : sg (-u) (-b) = - sg u b := by
  unfold sg
  have e1 : -u * -u = u * u := Int.neg_mul_neg ..
  have e2 : 5 * -b * -b = 5 * b * b := by rw [five_bb, five_bb, Int.neg_mul_neg]
  rw [e1, e2, Int.sign_neg, Int.sign_neg]
  split
  · rfl
  · split <;> rfl
theorem sgn_neg (a b : Int) : sgn (-a) (-b) = - sgn a b := by
  rw [sgn_sg, sgn_sg, ← sg_neg]; congr 1; omega
theorem sg_two (u b : Int) : sg (2 * u) (2 * b) = sg u b := by
  unfold sg
  have e1 : 2 * u * (2 * u) = 4 * (u * u) := by rw [Int.mul_assoc, Int.mul_left_comm u]; omega
  have e2 : 5 * (2 * b) * (2 * b) = 4 * (5 * b * b) := by
    rw [five_bb, five_bb, Int.mul_assoc 2 b, Int.mul_left_comm b]; omega
  have s2 : ∀ x : Int, (2 * x).sign = x.sign := fun x => by rw [Int.sign_mul]; exact Int.one_mul _
  rw [e1, e2, s2, s2]
  generalize u * u = uu
  generalize 5 * b * b = bb
  by_cases h : bb < uu
  · rw [if_pos h, if_pos (by omega)]
  · rw [if_neg h, if_neg (by omega)]
    by_cases g : uu < bb
    · rw [if_pos g, if_pos (by omega)]
    · rw [if_neg g, if_neg (by omega)]
/-- the greater part gives a sum's sign -/
theorem sign_add {p q : Int} (h : q * q < p * p) : (p + q).sign = p.sign := by
  have key : ∀ x y : Int, 0 ≤ x → 0 ≤ y → y * y < x * x → y < x := by
    intro x y hx hy hh
    rcases Int.lt_or_le y x with g | g
    · exact g
    · have := Int.mul_le_mul g g hx hy
      omega
  rcases Int.lt_trichotomy p 0 with hp | hp | hp
  · have : (p + q) < 0 := by
      rcases Int.le_total 0 q with hq | hq
      · have := key (-p) q (by omega) hq (by rw [Int.neg_mul_neg]; exact h)
        omega
      · omega
    rw [Int.sign_eq_neg_one_of_neg this, Int.sign_eq_neg_one_of_neg hp]
  · subst hp
    have := sq_nonneg q
    omega
  · have : 0 < (p + q) := by
      rcases Int.le_total 0 q with hq | hq
      · omega
      · have := key p (-q) (by omega) (by omega) (by rw [Int.neg_mul_neg]; exact h)
        omega
    rw [Int.sign_eq_one_of_pos this, Int.sign_eq_one_of_pos hp]
theorem mul_lt {a b c d : Int} (h : a < b) (g : c < d) (ha : 0 ≤ a) (hc : 0 ≤ c) : a * c < b * d := by
  have h1 : a * c ≤ a * d := Int.mul_le_mul_of_nonneg_left (by omega) ha
  have h2 : a * d < b * d := Int.mul_lt_mul_of_pos_right h (by omega)
  omega
theorem sg_mul (u b v c : Int) : sg (u * v + 5 * b * c) (u * c + b * v) = sg u b * sg v c := by
  have hb := sq_nonneg b; have hc := sq_nonneg c; have hu := sq_nonneg u; have hv := sq_nonneg v
  have n1 : (u * v + 5 * b * c) * (u * v + 5 * b * c) - 5 * (u * c + b * v) * (u * c + b * v) = (u * u - 5 * b * b) * (v * v - 5 * c * c) := by
    grind
  have x1 : 5 * b * c * (5 * b * c) = (5 * b * b) * (5 * c * c) := by grind
  have x2 : u * v * (u * v) = (u * u) * (v * v) := by grind
  have y1 : u * c * (u * c) = (u * u) * (c * c) := by grind
  have y2 : b * v * (b * v) = (b * b) * (v * v) := by grind
  have z0 : u * u = 5 * b * b → b = 0 := irr
  have z1 : v * v = 5 * c * c → c = 0 := irr
  rcases Int.lt_trichotomy (u * u) (5 * b * b) with hx | hx | hx
  · rcases Int.lt_trichotomy (v * v) (5 * c * c) with hy | hy | hy
    · -- both by the second part: the product by the first
      have hp : 0 < (u * u - 5 * b * b) * (v * v - 5 * c * c) := Int.mul_pos_of_neg_of_neg (by omega) (by omega)
      have hl : u * v * (u * v) < 5 * b * c * (5 * b * c) := by
        rw [x1, x2]; exact mul_lt hx hy hu hv
      have e : sg (u * v + 5 * b * c) (u * c + b * v) = (u * v + 5 * b * c).sign := by
        unfold sg; rw [if_pos (by omega)]
      have e1 : sg u b = b.sign := by unfold sg; rw [if_neg (by omega), if_pos hx]
      have e2 : sg v c = c.sign := by unfold sg; rw [if_neg (by omega), if_pos hy]
      rw [e, e1, e2, Int.add_comm, sign_add hl, Int.mul_assoc, Int.sign_mul, Int.sign_mul]
      exact Int.one_mul _
    · have hc0 := z1 hy
      subst hc0
      have hv0 : v = 0 := by
        rcases Int.mul_eq_zero.1 (show v * v = 0 by omega) with h | h <;> exact h
      subst hv0
      simp [sg_zero]
    · have hp : (u * u - 5 * b * b) * (v * v - 5 * c * c) < 0 := Int.mul_neg_of_neg_of_pos (by omega) (by omega)
      have hl : u * c * (u * c) < b * v * (b * v) := by
        have := mul_lt hx hy hu (by rw [five_bb]; omega)
        rw [y1, y2]
        have e3 : u * u * (5 * c * c) = 5 * (u * u * (c * c)) := by grind
        have e4 : 5 * b * b * (v * v) = 5 * (b * b * (v * v)) := by grind
        omega
      have e : sg (u * v + 5 * b * c) (u * c + b * v) = (u * c + b * v).sign := by
        unfold sg; rw [if_neg (by omega), if_pos (by omega)]
      have e1 : sg u b = b.sign := by unfold sg; rw [if_neg (by omega), if_pos hx]
      have e2 : sg v c = v.sign := by unfold sg; rw [if_pos hy]
      rw [e, e1, e2, Int.add_comm, sign_add hl, Int.sign_mul]
  · have hb0 := z0 hx
    subst hb0
    have hu0 : u = 0 := by
      rcases Int.mul_eq_zero.1 (show u * u = 0 by omega) with h | h <;> exact h
    subst hu0
    simp [sg_zero]
  · rcases Int.lt_trichotomy (v * v) (5 * c * c) with hy | hy | hy
    · have hp : (u * u - 5 * b * b) * (v * v - 5 * c * c) < 0 := Int.mul_neg_of_pos_of_neg (by omega) (by omega)
      have hl : b * v * (b * v) < u * c * (u * c) := by
        have := mul_lt hx hy (by rw [five_bb]; omega) hv
        rw [y1, y2]
        have e3 : u * u * (5 * c * c) = 5 * (u * u * (c * c)) := by grind
        have e4 : 5 * b * b * (v * v) = 5 * (b * b * (v * v)) := by grind
        omega
      have e : sg (u * v + 5 * b * c) (u * c + b * v) = (u * c + b * v).sign := by
        unfold sg; rw [if_neg (by omega), if_pos (by omega)]
      have e1 : sg u b = u.sign := by unfold sg; rw [if_pos hx]
      have e2 : sg v c = c.sign := by unfold sg; rw [if_neg (by omega), if_pos hy]
      rw [e, e1, e2, sign_add hl, Int.sign_mul]
    · have hc0 := z1 hy
      subst hc0
      have hv0 : v = 0 := by
        rcases Int.mul_eq_zero.1 (show v * v = 0 by omega) with h | h <;> exact h
      subst hv0
      simp [sg_zero]
    · have hp : 0 < (u * u - 5 * b * b) * (v * v - 5 * c * c) := Int.mul_pos (by omega) (by omega)
      have hl : 5 * b * c * (5 * b * c) < u * v * (u * v) := by
        rw [x1, x2]; exact mul_lt hx hy (by rw [five_bb]; omega) (by rw [five_bb]; omega)
      have e : sg (u * v + 5 * b * c) (u * c + b * v) = (u * v + 5 * b * c).sign := by
        unfold sg; rw [if_pos (by omega)]
      have e1 : sg u b = u.sign := by unfold sg; rw [if_pos hx]
      have e2 : sg v c = v.sign := by unfold sg; rw [if_pos hy]
      rw [e, e1, e2, sign_add hl, Int.sign_mul]
theorem sgn_mul (a b c d : Int) : sgn (a * c + b * d) (a * d + b * c + b * d) = sgn a b * sgn c d := by
  rw [sgn_sg, sgn_sg, sgn_sg, ← sg_mul, ← sg_two]
  congr 1 <;> grind

theorem sg_cases (u b : Int) : sg u b = 1 ∨ sg u b = 0 ∨ sg u b = -1 := by
  unfold sg
  have s : ∀ x : Int, x.sign = 1 ∨ x.sign = 0 ∨ x.sign = -1 := fun x => by
    rcases Int.lt_trichotomy x 0 with h | h | h
    · right; right; exact Int.sign_eq_neg_one_of_neg h
    · right; left; rw [h]; rfl
    · left; exact Int.sign_eq_one_of_pos h
  split
  · exact s u
  · split
    · exact s b
    · right; left; rfl
theorem sg_zero_of {u b : Int} (h : sg u b = 0) : u = 0 ∧ b = 0 := by
  unfold sg at h
  have hu := sq_nonneg u; have hb := sq_nonneg b
  rw [five_bb] at h
  split at h
  · have := Int.sign_eq_zero_iff_zero.1 h
    subst this
    omega
  · split at h
    · have := Int.sign_eq_zero_iff_zero.1 h
      subst this
      omega
    · have e : u * u = 5 * b * b := by rw [five_bb]; omega
      have hb0 := irr e
      subst hb0
      rcases Int.mul_eq_zero.1 (show u * u = 0 by omega) with h | h <;> exact ⟨h, rfl⟩
theorem sg_mono {u b k : Int} (h : sg u b = 1) (hk : 0 ≤ k) : sg (u + k) b = 1 := by
  unfold sg at *
  have hu := sq_nonneg u; have hb := sq_nonneg b
  have sp : ∀ x : Int, x.sign = 1 → 0 < x := fun x hx => Int.sign_eq_one_iff_pos.1 hx
  have ps : ∀ x : Int, 0 < x → x.sign = 1 := fun x hx => Int.sign_eq_one_of_pos hx
  split at h
  · have hu0 := sp _ h
    have : u * u ≤ (u + k) * (u + k) := Int.mul_le_mul (by omega) (by omega) (by omega) (by omega)
    rw [if_pos (by omega)]
    exact ps _ (by omega)
  · split at h
    · have hb0 := sp _ h
      by_cases g : 5 * b * b < (u + k) * (u + k)
      · rw [if_pos g]
        refine ps _ ?_
        rcases Int.lt_trichotomy 0 (u + k) with g1 | g1 | g1
        · exact g1
        · rw [← g1] at g
          rw [five_bb] at *
          omega
        · have : (u + k) * (u + k) ≤ u * u := by
            have := Int.mul_le_mul (a := -(u+k)) (b := -(u+k)) (c := -u) (d := -u) (by omega) (by omega) (by omega) (by omega)
            rwa [Int.neg_mul_neg, Int.neg_mul_neg] at this
          omega
      · rw [if_neg g]
        by_cases g2 : (u + k) * (u + k) < 5 * b * b
        · rw [if_pos g2]; exact h
        · have e : (u + k) * (u + k) = 5 * b * b := by omega
          have := irr e
          omega
    · exact absurd h (by decide)
theorem sg_real (k : Int) : sg k 0 = k.sign := by
  unfold sg
  have := sq_nonneg k
  by_cases h : 5 * 0 * 0 < k * k
  · rw [if_pos h]
  · rw [if_neg h, if_neg (by omega)]
    rcases Int.mul_eq_zero.1 (show k * k = 0 by omega) with h | h <;> rw [h] <;> rfl
theorem sg_add {u b v c : Int} (h : sg u b = 1) (g : sg v c = 1) : sg (u + v) (b + c) = 1 := by
  have conj : sg (v * v + 5 * c * -c) (v * -c + c * v) = sg v c * sg v (-c) := sg_mul v c v (-c)
  have e0 : v * -c + c * v = 0 := by grind
  rw [e0, g, Int.one_mul, sg_real] at conj
  generalize hn : v * v + 5 * c * -c = n at conj
  have key : ∀ z1 z2 N : Int, 0 ≤ N → sg z1 z2 = 1 → z1 * v + 5 * z2 * c = N → z1 * c + z2 * v = 0 → sg (u + v) (b + c) = 1 := by
    intro z1 z2 N hN hz e1 e2
    have m1 := sg_mul z1 z2 u b
    rw [hz, h] at m1
    have m2 := sg_mul z1 z2 (u + v) (b + c)
    rw [hz, Int.one_mul] at m2
    rw [← m2]
    have f1 : z1 * (u + v) + 5 * z2 * (b + c) = (z1 * u + 5 * z2 * b) + N := by rw [← e1]; grind
    have f2 : z1 * (b + c) + z2 * (u + v) = z1 * b + z2 * u := by
      have : z1 * (b + c) + z2 * (u + v) = z1 * b + z2 * u + (z1 * c + z2 * v) := by grind
      rw [this, e2]; omega
    rw [f1, f2]
    exact sg_mono m1 hN
  rcases Int.lt_trichotomy n 0 with hx | hx | hx
  · rw [Int.sign_eq_neg_one_of_neg hx] at conj
    refine key (-v) (c) (-n) (by omega) ?_ (by rw [← hn]; grind) (by grind)
    have := sg_neg v (-c)
    rw [Int.neg_neg] at this
    rw [this, ← conj]; rfl
  · subst hx
    have := sg_zero_of (u := v) (b := -c) (by rw [← conj]; rfl)
    have hc : c = 0 := by omega
    rw [this.1, hc] at g
    exact absurd g (by decide)
  · rw [Int.sign_eq_one_of_pos hx] at conj
    exact key v (-c) n (by omega) conj.symm (by rw [← hn]; grind) (by grind)
/-! ## nonnegative numbers -/
def sn (a : Gd) : Int := sgn a.1 a.2
def NN (a : Gd) : Prop := 0 ≤ sn a
instance (a : Gd) : Decidable (NN a) := inferInstanceAs (Decidable (_ ≤ _))
theorem sn_sg (a : Gd) : sn a = sg (2 * a.1 + a.2) a.2 := sgn_sg a.1 a.2
theorem sn_cases (a : Gd) : sn a = 1 ∨ sn a = 0 ∨ sn a = -1 := by rw [sn_sg]; exact sg_cases _ _
theorem sn_mul (a b : Gd) : sn (a * b) = sn a * sn b := sgn_mul a.1 a.2 b.1 b.2
theorem sn_neg (a : Gd) : sn (-a) = - sn a := sgn_neg a.1 a.2
theorem sn_zero : sn 0 = 0 := by decide
theorem sn_one : sn 1 = 1 := by decide
theorem sn_eq_zero {a : Gd} (h : sn a = 0) : a = 0 := by
  rw [sn_sg] at h
  have := sg_zero_of h
  exact Gd.ext (show a.1 = 0 by omega) this.2
theorem sn_add {a b : Gd} (h : sn a = 1) (g : sn b = 1) : sn (a + b) = 1 := by
  rw [sn_sg] at *
  rw [add_1, add_2, ← sg_add h g]
  congr 1; omega
theorem NN_zero : NN 0 := by decide
theorem NN_one : NN 1 := by decide
theorem NN_add {a b : Gd} (h : NN a) (g : NN b) : NN (a + b) := by
  unfold NN at *
  rcases sn_cases a with e | e | e
  · rcases sn_cases b with f | f | f
    · rw [sn_add e f]; decide
    · rw [sn_eq_zero f, show a + 0 = a by grind]; exact h
    · omega
  · rw [sn_eq_zero e, show 0 + b = b by grind]; exact g
  · omega
theorem NN_mul {a b : Gd} (h : NN a) (g : NN b) : NN (a * b) := by
  unfold NN at *
  rw [sn_mul]; exact Int.mul_nonneg h g
theorem NN_anti {a : Gd} (h : NN a) (g : NN (-a)) : a = 0 := by
  unfold NN at *
  rw [sn_neg] at g
  exact sn_eq_zero (by omega)
theorem NN_tot (a : Gd) : NN a ∨ NN (-a) := by
  unfold NN
  rw [sn_neg]; omega
theorem Gd_one_ne : (1 : Gd) ≠ 0 := by decide
theorem mul_eq_zero {a b : Gd} (h : a * b = 0) : a = 0 ∨ b = 0 := by
  have : sn a * sn b = 0 := by rw [← sn_mul, h]; decide
  rcases Int.mul_eq_zero.1 this with h | h
  · exact Or.inl (sn_eq_zero h)
  · exact Or.inr (sn_eq_zero h)
end Mx
/-! words in mirrors, what they do, their lengths -/
namespace Mx
/-! ## sums -/
def sm : Nat → (Nat → Gd) → Gd
  | 0, _ => 0
  | n + 1, f => sm n f + f n
theorem sm_congr {n : Nat} {f g : Nat → Gd} (h : ∀ k, k < n → f k = g k) : sm n f = sm n g := by
  induction n with
  | zero => rfl
  | succ n ih => rw [sm, sm, ih fun k hk => h k (by omega), h n (by omega)]
theorem sm_zero {n : Nat} {f : Nat → Gd} (h : ∀ k, k < n → f k = 0) : sm n f = 0 := by
  induction n with
  | zero => rfl
  | succ n ih => rw [sm, ih fun k hk => h k (by omega), h n (by omega)]; rfl
theorem sm_lin (n : Nat) (p q : Gd) (f g : Nat → Gd) : sm n (fun k => p * f k + q * g k) = p * sm n f + q * sm n g := by
  induction n with
  | zero => show (0 : Gd) = p * 0 + q * 0; grind
  | succ n ih => rw [sm, sm, sm, ih]; grind
theorem sm_one {n i : Nat} (f : Nat → Gd) (hi : i < n) : sm n f = f i + sm n (fun k => if k = i then 0 else f k) := by
  induction n with
  | zero => omega
  | succ n ih =>
    rw [sm, sm]
    by_cases h : i = n
    · subst h
      rw [if_pos rfl, sm_congr (f := f) (g := fun k => if k = i then 0 else f k) fun k hk => by rw [if_neg (by omega)]]
      grind
    · rw [ih (by omega), if_neg (by omega)]; grind
theorem sm_two {n i j : Nat} (f : Nat → Gd) (hi : i < n) (hj : j < n) (h : i ≠ j) : sm n f = f i + f j + sm n (fun k => if k = i ∨ k = j then 0 else f k) := by
  rw [sm_one f hi, sm_one (fun k => if k = i then 0 else f k) hj]
  show _ + ((if j = i then 0 else f j) + _) = _
  rw [if_neg (fun e => h e.symm)]
  have : sm n (fun k => if k = j then 0 else if k = i then 0 else f k) = sm n (fun k => if k = i ∨ k = j then 0 else f k) := sm_congr fun k _ => by
    by_cases h1 : k = j
    · rw [if_pos h1, if_pos (Or.inr h1)]
    · by_cases h2 : k = i
      · rw [if_neg h1, if_pos h2, if_pos (Or.inl h2)]
      · rw [if_neg h1, if_neg h2, if_neg (by simp [h1, h2])]
  rw [this]; grind
/-! ## mirrors -/
structure Wo where
  n : Nat
  lab : Nat → Nat → Nat
  a : Nat → Nat → Gd
/-- the number for the label 5 -/
def gm : Gd := ((0 : Int), (-1 : Int))
def CarP (m : Nat) (p q : Gd) : Prop :=
  (m = 2 ∧ p = 0 ∧ q = 0) ∨ (m = 3 ∧ p = -1 ∧ q = -1) ∨ (m = 4 ∧ p = -1 ∧ q = -2) ∨ (m = 4 ∧ p = -2 ∧ q = -1)
  ∨ (m = 5 ∧ p = gm ∧ q = gm) ∨ (m = 6 ∧ p = -1 ∧ q = -3) ∨ (m = 6 ∧ p = -3 ∧ q = -1) ∨ (m = 0 ∧ p = -2 ∧ q = -2)
structure Wo.Ok (W : Wo) : Prop where
  diag : ∀ i, W.a i i = 2
  sym : ∀ i j, W.lab i j = W.lab j i
  off : ∀ i j, i ≠ j → CarP (W.lab i j) (W.a i j) (W.a j i)
abbrev Vc := Nat → Gd
def tak (W : Wo) (i : Nat) (v : Vc) : Gd := sm W.n fun j => W.a i j * v j
def mir (W : Wo) (i : Nat) (v : Vc) : Vc := fun k => if k = i then v i - tak W i v else v k
def act (W : Wo) : List Nat → Vc → Vc
  | [], v => v
  | x :: xs, v => mir W x (act W xs v)
def es (i : Nat) : Vc := fun k => if k = i then 1 else 0
theorem act_append (W : Wo) (u w : List Nat) (v : Vc) : act W (u ++ w) v = act W u (act W w v) := by
  induction u with
  | nil => rfl
  | cons x u ih => rw [List.cons_append, act, ih, act]
def lin (p : Gd) (u : Vc) (q : Gd) (v : Vc) : Vc := fun k => p * u k + q * v k
theorem tak_lin (W : Wo) (i : Nat) (p q : Gd) (u v : Vc) : tak W i (lin p u q v) = p * tak W i u + q * tak W i v := by
  unfold tak lin
  rw [← sm_lin]
  exact sm_congr fun k _ => by grind
theorem mir_lin (W : Wo) (i : Nat) (p q : Gd) (u v : Vc) : mir W i (lin p u q v) = lin p (mir W i u) q (mir W i v) := by
  funext k
  unfold mir
  rw [tak_lin]
  unfold lin
  by_cases h : k = i
  · simp only [if_pos h]; grind
  · simp only [if_neg h]
theorem act_lin (W : Wo) (w : List Nat) (p q : Gd) (u v : Vc) : act W w (lin p u q v) = lin p (act W w u) q (act W w v) := by
  induction w with
  | nil => rfl
  | cons x w ih => rw [act, ih, mir_lin]; rfl
theorem mir_ne (W : Wo) {i k : Nat} (v : Vc) (h : k ≠ i) : mir W i v k = v k := by unfold mir; rw [if_neg h]
theorem mir_eq (W : Wo) (i : Nat) (v : Vc) : mir W i v i = v i - tak W i v := by unfold mir; rw [if_pos rfl]
theorem tak_mir {W : Wo} (ok : W.Ok) {i : Nat} (hi : i < W.n) (v : Vc) : tak W i (mir W i v) = - tak W i v := by
  have h1 : tak W i (mir W i v) = _ := sm_one (fun j => W.a i j * mir W i v j) hi
  have h2 : tak W i v = _ := sm_one (fun j => W.a i j * v j) hi
  have h3 : sm W.n (fun k => if k = i then 0 else W.a i k * mir W i v k) = sm W.n (fun k => if k = i then 0 else W.a i k * v k) := sm_congr fun k _ => by
    by_cases h : k = i
    · rw [if_pos h, if_pos h]
    · rw [if_neg h, if_neg h, mir_ne W v h]
  rw [h3, mir_eq, ok.diag] at h1
  rw [ok.diag] at h2
  grind
theorem mir_mir {W : Wo} (ok : W.Ok) {i : Nat} (hi : i < W.n) (v : Vc) : mir W i (mir W i v) = v := by
  funext k
  by_cases h : k = i
  · subst h
    rw [mir_eq, tak_mir ok hi, mir_eq]; grind
  · rw [mir_ne W _ h, mir_ne W _ h]
def Rs (W : Wo) (i j : Nat) (v : Vc) : Gd := sm W.n fun k => if k = i ∨ k = j then 0 else W.a i k * v k
theorem Rs_congr {W : Wo} {i j : Nat} {u v : Vc} (h : ∀ k, k ≠ i → k ≠ j → u k = v k) : Rs W i j u = Rs W i j v := sm_congr fun k _ => by
  by_cases h1 : k = i ∨ k = j
  · rw [if_pos h1, if_pos h1]
  · rw [if_neg h1, if_neg h1, h k (fun e => h1 (Or.inl e)) (fun e => h1 (Or.inr e))]
theorem Rs_l (W : Wo) (i j : Nat) (v : Vc) : Rs W i j (mir W i v) = Rs W i j v := Rs_congr fun k h _ => mir_ne W v h
theorem Rs_r (W : Wo) (i j : Nat) (v : Vc) : Rs W i j (mir W j v) = Rs W i j v := Rs_congr fun k _ h => mir_ne W v h
theorem mir_two {W : Wo} (ok : W.Ok) {i j : Nat} (hi : i < W.n) (hj : j < W.n) (h : i ≠ j) (v : Vc) : mir W i v i = - v i - W.a i j * v j - Rs W i j v := by
  have h2 : tak W i v = _ := sm_two (fun j => W.a i j * v j) hi hj h
  rw [mir_eq, h2, ok.diag]
  unfold Rs
  grind
/-- by turns -/
def alt (i j : Nat) : Nat → List Nat
  | 0 => []
  | m + 1 => i :: alt j i m
theorem gm_gm : gm * gm = 1 - gm := by decide
theorem mir_braid {W : Wo} (ok : W.Ok) {i j : Nat} (hi : i < W.n) (hj : j < W.n) (h : i ≠ j) (hl : W.lab i j ≠ 0) (v : Vc) : act W (alt i j (W.lab i j)) v = act W (alt j i (W.lab i j)) v := by
  have h' : j ≠ i := fun e => h e.symm
  have e1 : ∀ v, mir W i v i = - v i - W.a i j * v j - Rs W i j v := mir_two ok hi hj h
  have e2 : ∀ v, mir W j v j = - v j - W.a j i * v i - Rs W j i v := mir_two ok hj hi h'
  have e3 : ∀ v, mir W i v j = v j := fun v => mir_ne W v h'
  have e4 : ∀ v, mir W j v i = v i := fun v => mir_ne W v h
  have hg := gm_gm
  funext k
  by_cases k1 : k = i
  · subst k1
    rcases ok.off k j h with ⟨hm, ha, hb⟩ | ⟨hm, ha, hb⟩ | ⟨hm, ha, hb⟩ | ⟨hm, ha, hb⟩ | ⟨hm, ha, hb⟩ | ⟨hm, ha, hb⟩ | ⟨hm, ha, hb⟩ | ⟨hm, ha, hb⟩ <;> rw [hm] <;> first | (exact absurd hm hl) | skip
    all_goals
      simp only [alt, act, e1, e2, e3, e4, Rs_l, Rs_r, ha, hb]
      generalize v k = x
      generalize v j = y
      generalize Rs W k j v = c
      generalize Rs W j k v = d
      clear e1 e2 e3 e4 ha hb hm
      first
      | (clear hg; grind)
      | (generalize gm = g at hg ⊢; grind)
  · by_cases k2 : k = j
    · subst k2
      rcases ok.off i k h with ⟨hm, ha, hb⟩ | ⟨hm, ha, hb⟩ | ⟨hm, ha, hb⟩ | ⟨hm, ha, hb⟩ | ⟨hm, ha, hb⟩ | ⟨hm, ha, hb⟩ | ⟨hm, ha, hb⟩ | ⟨hm, ha, hb⟩ <;> rw [hm] <;> first | (exact absurd hm hl) | skip
      all_goals
        simp only [alt, act, e1, e2, e3, e4, Rs_l, Rs_r, ha, hb]
        generalize v k = x
        generalize v i = y
        generalize Rs W k i v = c
        generalize Rs W i k v = d
        clear e1 e2 e3 e4 ha hb hm
        first
        | (clear hg; grind)
        | (generalize gm = g at hg ⊢; grind)
    · have key : ∀ (m : Nat) (i j : Nat) (v : Vc), k ≠ i → k ≠ j → act W (alt i j m) v k = v k := by
        intro m
        induction m with
        | zero => intros; rfl
        | succ m ih =>
          intro i j v a b
          rw [alt, act, mir_ne W _ a, ih _ _ _ b a]
      rw [key _ _ _ _ k1 k2, key _ _ _ _ k2 k1]
end Mx
/-! words that do the same by the mirrors' rules, lengths -/
namespace Mx
inductive Eqv (W : Wo) : List Nat → List Nat → Prop
  | rf (u : List Nat) : Eqv W u u
  | sy {u v : List Nat} : Eqv W u v → Eqv W v u
  | tr {u v w : List Nat} : Eqv W u v → Eqv W v w → Eqv W u w
  | sq (u v : List Nat) {i : Nat} (hi : i < W.n) : Eqv W (u ++ ([i, i] ++ v)) (u ++ v)
  | br (u v : List Nat) {i j : Nat} (hi : i < W.n) (hj : j < W.n) (h : i ≠ j) (hl : W.lab i j ≠ 0) : Eqv W (u ++ (alt i j (W.lab i j) ++ v)) (u ++ (alt j i (W.lab i j) ++ v))
def Wd (W : Wo) (u : List Nat) : Prop := ∀ x ∈ u, x < W.n
theorem alt_len (m : Nat) : ∀ i j, (alt i j m).length = m := by
  induction m with
  | zero => intros; rfl
  | succ m ih => intro i j; rw [alt, List.length_cons, ih]
theorem alt_mem {m : Nat} : ∀ {i j x : Nat}, x ∈ alt i j m → x = i ∨ x = j := by
  induction m with
  | zero => intro i j x h; cases h
  | succ m ih =>
    intro i j x h
    rw [alt, List.mem_cons] at h
    rcases h with h | h
    · exact Or.inl h
    · exact (ih h).symm
namespace Eqv
variable {W : Wo}
theorem cat {u v : List Nat} (h : Eqv W u v) (x y : List Nat) : Eqv W (x ++ (u ++ y)) (x ++ (v ++ y)) := by
  induction h with
  | rf u => exact .rf _
  | sy _ ih => exact .sy ih
  | tr _ _ ih1 ih2 => exact .tr ih1 ih2
  | sq u v hi =>
    have := Eqv.sq (W := W) (x ++ u) (v ++ y) hi
    simpa only [List.append_assoc] using this
  | br u v hi hj h hl =>
    have := Eqv.br (W := W) (x ++ u) (v ++ y) hi hj h hl
    simpa only [List.append_assoc] using this
theorem left {u v : List Nat} (h : Eqv W u v) (x : List Nat) : Eqv W (x ++ u) (x ++ v) := by
  have := h.cat x []; rwa [List.append_nil, List.append_nil] at this
theorem right {u v : List Nat} (h : Eqv W u v) (x : List Nat) : Eqv W (u ++ x) (v ++ x) := h.cat [] x
theorem app {u v u' v' : List Nat} (h : Eqv W u u') (g : Eqv W v v') : Eqv W (u ++ v) (u' ++ v') := .tr (h.right v) (g.left u')
theorem par {u v : List Nat} (h : Eqv W u v) : u.length % 2 = v.length % 2 := by
  induction h with
  | rf u => rfl
  | sy _ ih => exact ih.symm
  | tr _ _ ih1 ih2 => exact ih1.trans ih2
  | sq u v hi => simp only [List.length_append, List.length_cons, List.length_nil]; omega
  | br u v hi hj h hl => simp only [List.length_append, alt_len]
theorem act {u v : List Nat} (ok : W.Ok) (h : Eqv W u v) : Mx.act W u = Mx.act W v := by
  induction h with
  | rf u => rfl
  | sy _ ih => exact ih.symm
  | tr _ _ ih1 ih2 => exact ih1.trans ih2
  | sq u v hi =>
    funext x
    rw [act_append, act_append, act_append]
    show Mx.act W u (mir W _ (mir W _ _)) = _
    rw [mir_mir ok hi]
    rfl
  | br u v hi hj h hl =>
    funext x
    rw [act_append, act_append, act_append, act_append, mir_braid ok hi hj h hl]
theorem wd {u v : List Nat} (h : Eqv W u v) : Wd W u ↔ Wd W v := by
  induction h with
  | rf u => exact Iff.rfl
  | sy _ ih => exact ih.symm
  | tr _ _ ih1 ih2 => exact ih1.trans ih2
  | @sq u v i hi =>
    unfold Wd
    simp only [List.mem_append, List.mem_cons, List.not_mem_nil, or_false, or_self]
    constructor
    · intro h x hx; exact h x (by rcases hx with hx | hx <;> simp [hx])
    · intro h x hx
      rcases hx with hx | hx | hx
      · exact h x (Or.inl hx)
      · rw [hx]; exact hi
      · exact h x (Or.inr hx)
  | @br u v i j hi hj h hl =>
    have key : ∀ (i j : Nat) (m : Nat), i < W.n → j < W.n → ∀ x ∈ alt i j m, x < W.n := by
      intro i j m hi hj x hx
      rcases alt_mem hx with e | e <;> rw [e] <;> assumption
    unfold Wd
    simp only [List.mem_append]
    constructor
    · intro g x hx
      rcases hx with hx | hx | hx
      · exact g x (Or.inl hx)
      · exact key _ _ _ hj hi x hx
      · exact g x (Or.inr (Or.inr hx))
    · intro g x hx
      rcases hx with hx | hx | hx
      · exact g x (Or.inl hx)
      · exact key _ _ _ hi hj x hx
      · exact g x (Or.inr (Or.inr hx))
theorem rev_rev {x : List Nat} (hx : Wd W x) : Eqv W (x.reverse ++ x) [] := by
  induction x with
  | nil => exact .rf _
  | cons a x ih =>
    have h1 := Eqv.sq (W := W) x.reverse x (hx a (by simp))
    have h2 := ih fun y hy => hx y (by simp [hy])
    have : (a :: x).reverse ++ (a :: x) = x.reverse ++ ([a, a] ++ x) := by simp
    rw [this]
    exact .tr h1 h2
theorem rev_rev' {x : List Nat} (hx : Wd W x) : Eqv W (x ++ x.reverse) [] := by
  have := rev_rev (W := W) (x := x.reverse) fun y hy => hx y (by simpa using hy)
  rwa [List.reverse_reverse] at this
theorem alt_rev (m : Nat) : ∀ i j, (alt i j m).reverse = if m % 2 = 0 then alt j i m else alt i j m := by
  have snoc : ∀ (m i j : Nat), alt i j (m + 1) = alt i j m ++ [if m % 2 = 0 then i else j] := by
    intro m
    induction m with
    | zero => intros; rfl
    | succ m ih =>
      intro i j
      rw [alt, ih, alt, List.cons_append]
      congr 3
      split <;> split <;> first | rfl | omega
  induction m with
  | zero => intros; rfl
  | succ m ih =>
    intro i j
    rw [show alt i j (m + 1) = i :: alt j i m from rfl, List.reverse_cons, ih j i]
    by_cases h : m % 2 = 0
    · rw [if_pos h, if_neg (by omega)]
      show _ = alt i j (m + 1)
      rw [snoc, if_pos h]
    · rw [if_neg h, if_pos (by omega), snoc, if_neg h]
theorem rev {u v : List Nat} (h : Eqv W u v) : Eqv W u.reverse v.reverse := by
  induction h with
  | rf u => exact .rf _
  | sy _ ih => exact .sy ih
  | tr _ _ ih1 ih2 => exact .tr ih1 ih2
  | @sq u v i hi =>
    have := Eqv.sq (W := W) v.reverse u.reverse hi
    simpa only [List.reverse_append, List.reverse_cons, List.reverse_nil, List.nil_append, List.append_assoc, List.cons_append] using this
  | @br u v i j hi hj h hl =>
    have := Eqv.br (W := W) v.reverse u.reverse hi hj h hl
    simp only [List.reverse_append, alt_rev, List.append_assoc]
    by_cases hm : W.lab i j % 2 = 0
    · rw [if_pos hm, if_pos hm]; exact this.sy
    · rw [if_neg hm, if_neg hm]; exact this
/-- what is the same on both ends can go -/
theorem lcancel {x u v : List Nat} (hx : Wd W x) (h : Eqv W (x ++ u) (x ++ v)) : Eqv W u v := by
  have h1 := h.left x.reverse
  rw [← List.append_assoc, ← List.append_assoc] at h1
  have a := (rev_rev hx).right u
  have b := (rev_rev hx).right v
  exact .tr (.sy a) (.tr h1 b)
theorem rcancel {x u v : List Nat} (hx : Wd W x) (h : Eqv W (u ++ x) (v ++ x)) : Eqv W u v := by
  have h1 := h.right x.reverse
  rw [List.append_assoc, List.append_assoc] at h1
  have a := (rev_rev' hx).left u
  have b := (rev_rev' hx).left v
  rw [List.append_nil] at a b
  exact .tr (.sy a) (.tr h1 b)
end Eqv
/-! ## lengths -/
theorem least_of {P : Nat → Prop} (h : ∃ n, P n) : ∃ n, P n ∧ ∀ m, P m → n ≤ m := by
  obtain ⟨n, hn⟩ := h
  induction n using Nat.strongRecOn with
  | ind n ih =>
    by_cases g : ∃ m, m < n ∧ P m
    · obtain ⟨m, h1, h2⟩ := g
      exact ih m h1 h2
    · exact ⟨n, hn, fun m hm => by
        rcases Nat.lt_or_ge m n with h | h
        · exact absurd ⟨m, h, hm⟩ g
        · exact h⟩
theorem ell_ex (W : Wo) (u : List Nat) : ∃ n, (∃ v, Eqv W u v ∧ v.length = n) ∧ ∀ m, (∃ v, Eqv W u v ∧ v.length = m) → n ≤ m := least_of ⟨_, u, .rf u, rfl⟩
noncomputable def ell (W : Wo) (u : List Nat) : Nat := Classical.choose (ell_ex W u)
theorem ell_red (W : Wo) (u : List Nat) : ∃ v, Eqv W u v ∧ v.length = ell W u := (Classical.choose_spec (ell_ex W u)).1
theorem ell_le {W : Wo} {u v : List Nat} (h : Eqv W u v) : ell W u ≤ v.length := (Classical.choose_spec (ell_ex W u)).2 _ ⟨v, h, rfl⟩
theorem ell_len (W : Wo) (u : List Nat) : ell W u ≤ u.length := ell_le (.rf u)
theorem ell_eq {W : Wo} {u v : List Nat} (h : Eqv W u v) : ell W u = ell W v := by
  obtain ⟨x, hx, hxl⟩ := ell_red W u
  obtain ⟨y, hy, hyl⟩ := ell_red W v
  have := ell_le (h.tr hy)
  have := ell_le (h.sy.tr hx)
  omega
theorem ell_par (W : Wo) (u : List Nat) : ell W u % 2 = u.length % 2 := by
  obtain ⟨x, hx, hxl⟩ := ell_red W u
  rw [← hxl]; exact hx.par.symm
theorem ell_app (W : Wo) (u v : List Nat) : ell W (u ++ v) ≤ ell W u + ell W v := by
  obtain ⟨x, hx, hxl⟩ := ell_red W u
  obtain ⟨y, hy, hyl⟩ := ell_red W v
  have := ell_le (hx.app hy)
  rw [List.length_append] at this
  omega
theorem ell_snoc {W : Wo} (u : List Nat) {s : Nat} (hs : s < W.n) : ell W (u ++ [s]) = ell W u + 1 ∨ ell W (u ++ [s]) + 1 = ell W u := by
  have h1 := ell_app W u [s]
  have h2 := ell_app W (u ++ [s]) [s]
  have h3 : ell W (u ++ [s] ++ [s]) = ell W u := by
    have := Eqv.sq (W := W) u [] hs
    rw [List.append_nil, List.append_nil] at this
    rw [List.append_assoc]
    exact ell_eq this
  have h4 : ell W [s] ≤ 1 := ell_len W [s]
  have h5 := ell_par W u
  have h6 := ell_par W (u ++ [s])
  rw [List.length_append, List.length_cons, List.length_nil] at h6
  omega
theorem ell_rev {W : Wo} (u : List Nat) : ell W u.reverse = ell W u := by
  have key : ∀ u, ell W u.reverse ≤ ell W u := by
    intro u
    obtain ⟨x, hx, hxl⟩ := ell_red W u
    have := ell_le hx.rev
    rw [List.length_reverse] at this; omega
  have h1 := key u
  have h2 := key u.reverse
  rw [List.reverse_reverse] at h2
  omega
theorem ell_cons {W : Wo} (u : List Nat) {s : Nat} (hs : s < W.n) : ell W (s :: u) = ell W u + 1 ∨ ell W (s :: u) + 1 = ell W u := by
  have := ell_snoc (W := W) u.reverse hs
  have e : u.reverse ++ [s] = (s :: u).reverse := by simp
  rw [e, ell_rev, ell_rev] at this
  exact this
theorem ell_nil (W : Wo) : ell W [] = 0 := by
  have := ell_len W []
  rw [List.length_nil] at this; omega
theorem ell_zero {W : Wo} {u : List Nat} (h : ell W u = 0) : Eqv W u [] := by
  obtain ⟨x, hx, hxl⟩ := ell_red W u
  rw [h] at hxl
  rw [List.length_eq_zero_iff.1 hxl] at hx; exact hx
end Mx
/-! each root is above or below 0 -/
namespace Mx
theorem tak_es (W : Wo) (t : Nat) {s : Nat} (hs : s < W.n) : tak W t (es s) = W.a t s := by
  have h := sm_one (fun j => W.a t j * es s j) hs
  have h2 : sm W.n (fun k => if k = s then 0 else W.a t k * es s k) = 0 := sm_zero fun k _ => by
    by_cases h : k = s
    · rw [if_pos h]
    · rw [if_neg h]
      unfold es
      rw [if_neg h]; grind
  unfold tak
  rw [h, h2]
  unfold es
  rw [if_pos rfl]; grind
theorem mir_self {W : Wo} (ok : W.Ok) {s : Nat} (hs : s < W.n) : mir W s (es s) = fun k => - es s k := by
  funext k
  unfold mir
  rw [tak_es W s hs, ok.diag]
  unfold es
  by_cases h : k = s
  · simp only [if_pos h, if_true]; grind
  · simp only [if_neg h]; grind
theorem mir_lin_es {W : Wo} (ok : W.Ok) {s t : Nat} (hs : s < W.n) (ht : t < W.n) (h : s ≠ t) (p q : Gd) : mir W t (lin p (es s) q (es t)) = lin (- W.a t s * p - q) (es t) p (es s) := by
  funext k
  unfold mir
  rw [tak_lin, tak_es W t hs, tak_es W t ht, ok.diag]
  unfold lin es
  by_cases hk : k = t
  · subst hk
    simp only [if_true, if_neg (fun e => h e.symm : ¬ k = s)]; grind
  · simp only [if_neg hk]; grind
def dz : Nat → Gd → Gd → Gd → Gd → Gd × Gd
  | 0, _, _, p, q => (p, q)
  | k + 1, b, c, p, q => ((dz k c b (b * p - q) p).2, (dz k c b (b * p - q) p).1)
theorem lin_comm (p : Gd) (u : Vc) (q : Gd) (v : Vc) : lin p u q v = lin q v p u := by funext k; unfold lin; grind
theorem dz_act {W : Wo} (ok : W.Ok) : ∀ (k : Nat) {s t : Nat} (hs : s < W.n) (ht : t < W.n) (h : s ≠ t) (p q : Gd), act W (alt t s k).reverse (lin p (es s) q (es t)) = lin (dz k (- W.a t s) (- W.a s t) p q).1 (es s) (dz k (- W.a t s) (- W.a s t) p q).2 (es t)
  | 0, _, _, _, _, _, _, _ => rfl
  | k + 1, s, t, hs, ht, h, p, q => by
    rw [alt, List.reverse_cons, act_append]
    show act W _ (mir W t (lin _ _ _ _)) = _
    rw [mir_lin_es ok hs ht h, dz_act ok k ht hs (fun e => h e.symm), lin_comm]
    rfl
def Gz (x : Gd × Gd) : Prop := NN x.1 ∧ NN x.2 ∧ (x.1 = 0 → x.2 = 1) ∧ (x.2 = 0 → x.1 = 1)
instance (x : Gd × Gd) : Decidable (Gz x) := inferInstanceAs (Decidable (_ ∧ _ ∧ _ ∧ _))
def gi (i : Int) : Gd := (i, 0)
theorem dz_inf (k : Nat) : ∀ N : Int, dz k 2 2 (gi (N + 1)) (gi N) = (gi (N + k + 1), gi (N + k)) ∨ dz k 2 2 (gi (N + 1)) (gi N) = (gi (N + k), gi (N + k + 1)) := by
  induction k with
  | zero => intro N; left; show (gi (N + 1), gi N) = _; simp
  | succ k ih =>
    intro N
    have e : (2 : Gd) * gi (N + 1) - gi N = gi (N + 1 + 1) := Gd.ext (by show (2 : Int) * (N + 1) + 0 * 0 - N = N + 1 + 1; omega) (by show (2 : Int) * 0 + 0 * (N + 1) + 0 * 0 - 0 = 0; omega)
    have z1 : N + 1 + (k : Int) = N + ((k + 1 : Nat) : Int) := by omega
    show ((dz k 2 2 ((2 : Gd) * gi (N + 1) - gi N) (gi (N + 1))).2, (dz k 2 2 ((2 : Gd) * gi (N + 1) - gi N) (gi (N + 1))).1) = _ ∨ ((dz k 2 2 ((2 : Gd) * gi (N + 1) - gi N) (gi (N + 1))).2, (dz k 2 2 ((2 : Gd) * gi (N + 1) - gi N) (gi (N + 1))).1) = _
    rw [e]
    rcases ih (N + 1) with h | h <;> rw [h, z1]
    · right; rfl
    · left; rfl
theorem NN_gi {N : Int} (h : 0 ≤ N) : NN (gi N) := by
  unfold NN sn sgn gi
  rw [if_pos ⟨by show 0 ≤ 2 * N + 0; omega, Int.le_refl _⟩]
  split <;> decide
theorem dz_good {m k : Nat} {p q : Gd} (h : CarP m p q) (hk : k < m ∨ m = 0) : Gz (dz k (-q) (-p) 1 0) := by
  rcases h with ⟨hm, ha, hb⟩ | ⟨hm, ha, hb⟩ | ⟨hm, ha, hb⟩ | ⟨hm, ha, hb⟩ | ⟨hm, ha, hb⟩ | ⟨hm, ha, hb⟩ | ⟨hm, ha, hb⟩ | ⟨hm, ha, hb⟩ <;> subst hm ha hb
  · have : k = 0 ∨ k = 1 := by omega
    rcases this with h | h <;> subst h <;> decide
  · have : k = 0 ∨ k = 1 ∨ k = 2 := by omega
    rcases this with h | h | h <;> subst h <;> decide
  · have : k = 0 ∨ k = 1 ∨ k = 2 ∨ k = 3 := by omega
    rcases this with h | h | h | h <;> subst h <;> decide
  · have : k = 0 ∨ k = 1 ∨ k = 2 ∨ k = 3 := by omega
    rcases this with h | h | h | h <;> subst h <;> decide
  · have : k = 0 ∨ k = 1 ∨ k = 2 ∨ k = 3 ∨ k = 4 := by omega
    rcases this with h | h | h | h | h <;> subst h <;> decide
  · have : k = 0 ∨ k = 1 ∨ k = 2 ∨ k = 3 ∨ k = 4 ∨ k = 5 := by omega
    rcases this with h | h | h | h | h | h <;> subst h <;> decide
  · have : k = 0 ∨ k = 1 ∨ k = 2 ∨ k = 3 ∨ k = 4 ∨ k = 5 := by omega
    rcases this with h | h | h | h | h | h <;> subst h <;> decide
  · have key := dz_inf k 0
    have e1 : gi (0 + 1) = 1 := rfl
    have e2 : gi 0 = 0 := rfl
    have e3 : (- -2 : Gd) = 2 := rfl
    rw [e1, e2] at key
    rw [e3]
    have n1 : NN (gi k) := NN_gi (by omega)
    have n2 : NN (gi (k + 1)) := NN_gi (by omega)
    have z1 : gi (k + 1) ≠ 0 := fun e => by
      have : ((k : Int) + 1) = 0 := congrArg Prod.fst e
      omega
    have z2 : gi k = 0 → gi (k + 1) = 1 := fun e => by
      have : (k : Int) = 0 := congrArg Prod.fst e
      rw [this]; rfl
    have s1 : 0 + (k : Int) = k := by omega
    rw [s1] at key
    rcases key with h | h <;> rw [h]
    · exact ⟨n2, n1, fun e => absurd e z1, z2⟩
    · exact ⟨n1, n2, z2, fun e => absurd e z1⟩
theorem alt_of : ∀ (u : List Nat) {s t : Nat}, (∀ x ∈ u, x = s ∨ x = t) → (∀ x y c, u ≠ x ++ ([c, c] ++ y)) → (∀ u', u ≠ s :: u') → u = alt t s u.length
  | [], _, _, _, _, _ => rfl
  | a :: u, s, t, h, hn, hs => by
    have ha : a = t := by
      rcases h a List.mem_cons_self with e | e
      · exact absurd (by rw [e]) (hs u)
      · exact e
    subst ha
    have := alt_of u (s := a) (t := s) (fun x hx => (h x (List.mem_cons_of_mem _ hx)).symm) (fun x y c e => hn (a :: x) y c (by rw [e]; rfl)) (fun u' e => hn [] u' a (by rw [e]; rfl))
    rw [List.length_cons, alt, ← this]
end Mx
/-! the main theorem on roots; what does nothing; letters fall out -/
namespace Mx
variable {W : Wo}
theorem Wd.app {u v : List Nat} (h : Wd W u) (g : Wd W v) : Wd W (u ++ v) := fun x hx => by
  rcases List.mem_append.1 hx with e | e
  · exact h x e
  · exact g x e
theorem Wd.l {u v : List Nat} (h : Wd W (u ++ v)) : Wd W u := fun x hx => h x (List.mem_append_left _ hx)
theorem Wd.r {u v : List Nat} (h : Wd W (u ++ v)) : Wd W v := fun x hx => h x (List.mem_append_right _ hx)
theorem Wd.rev {u : List Nat} (h : Wd W u) : Wd W u.reverse := fun x hx => h x (by simpa using hx)
theorem Wd.one {s : Nat} (h : s < W.n) : Wd W [s] := fun x hx => by
  rw [List.mem_singleton.1 hx]; exact h
theorem Wd.cons {s : Nat} {u : List Nat} (h : s < W.n) (g : Wd W u) : Wd W (s :: u) := fun x hx => by
  rcases List.mem_cons.1 hx with e | e
  · rw [e]; exact h
  · exact g x e
theorem Wd.nil : Wd W [] := fun _ hx => by cases hx
/-- the step down to a shorter word -/
theorem dec (ok : W.Ok) {u : List Nat} {s : Nat} (hu : Wd W u) (hs : s < W.n) (h0 : 0 < ell W u) (hl : ell W (u ++ [s]) = ell W u + 1) :
    ∃ (t : Nat) (v : List Nat) (r : Gd × Gd), t < W.n ∧ t ≠ s ∧ Wd W v ∧ ell W v < ell W u ∧ ell W (v ++ [s]) = ell W v + 1 ∧ ell W (v ++ [t]) = ell W v + 1 ∧
      act W u (es s) = lin r.1 (act W v (es s)) r.2 (act W v (es t)) ∧ Gz r := by
  obtain ⟨w, hw, hwl⟩ := ell_red W u
  have hwd := hw.wd.1 hu
  obtain ⟨w1, t, rfl⟩ : ∃ w1 t, w = w1 ++ [t] := by
    rcases List.eq_nil_or_concat w with e | ⟨w1, t, e⟩
    · rw [e] at hwl; simp at hwl; omega
    · exact ⟨w1, t, by rw [e, List.concat_eq_append]⟩
  have ht : t < W.n := hwd t (by simp)
  rw [List.length_append, List.length_cons, List.length_nil] at hwl
  have hts : t ≠ s := by
    intro e; subst e
    have h1 : Eqv W (u ++ [t]) (w1 ++ [t] ++ [t]) := hw.right [t]
    have h2 := Eqv.sq (W := W) w1 [] ht
    rw [List.append_nil, List.append_nil] at h2
    rw [List.append_assoc] at h1
    have := ell_le (h1.tr h2)
    omega
  have hst : s ≠ t := fun e => hts e.symm
  -- the shortest v
  obtain ⟨k, ⟨v, x, hvx, hlen, hx, hk⟩, hmin⟩ := least_of (P := fun k => ∃ v x, Eqv W u (v ++ x) ∧ v.length + x.length = ell W u ∧ (∀ y ∈ x, y = s ∨ y = t) ∧ v.length = k)
    ⟨_, w1, [t], hw, by rw [List.length_cons, List.length_nil]; omega, fun y hy => Or.inr (List.mem_singleton.1 hy), rfl⟩
  have hk1 : k ≤ w1.length := hmin _ ⟨w1, [t], hw, by rw [List.length_cons, List.length_nil]; omega, fun y hy => Or.inr (List.mem_singleton.1 hy), rfl⟩
  have hvxd : Wd W (v ++ x) := hvx.wd.1 hu
  have hlv : ell W v = v.length := by
    have h1 := ell_len W v
    have h2 := ell_app W v x
    have h3 := ell_len W x
    have h4 := ell_eq hvx
    omega
  have step : ∀ r, r < W.n → (r = s ∨ r = t) → ell W (v ++ [r]) = ell W v + 1 := by
    intro r hr hrr
    rcases ell_snoc v hr with h | h
    · exact h
    · exfalso
      obtain ⟨v', hv', hl'⟩ := ell_red W (v ++ [r])
      have h1 : Eqv W v (v' ++ [r]) := by
        have h2 := hv'.right [r]
        have h3 := Eqv.sq (W := W) v [] hr
        rw [List.append_nil, List.append_nil] at h3
        rw [List.append_assoc] at h2
        exact h3.sy.tr h2
      have h4 : Eqv W u (v' ++ (r :: x)) := by
        have := hvx.tr (h1.right x)
        rwa [List.append_assoc] at this
      have := hmin v'.length ⟨v', r :: x, h4, by rw [List.length_cons]; omega, fun y hy => by
        rcases List.mem_cons.1 hy with e | e
        · rw [e]; exact hrr
        · exact hx y e, rfl⟩
      omega
  -- x is by turns and ends with t
  have hred : ∀ x', Eqv W x x' → x.length ≤ x'.length := by
    intro x' h
    have h1 := ell_le (hvx.tr (h.left v))
    rw [List.length_append] at h1
    omega
  have hxd : Wd W x := hvxd.r
  have hno : ∀ a b c, x.reverse ≠ a ++ ([c, c] ++ b) := by
    intro a b c e
    have e2 : x = b.reverse ++ ([c, c] ++ a.reverse) := by
      have := congrArg List.reverse e
      simpa using this
    have hc : c < W.n := hxd c (by rw [e2]; simp)
    have := hred _ (by rw [e2]; exact Eqv.sq b.reverse a.reverse hc)
    rw [e2] at this
    simp only [List.length_append, List.length_cons, List.length_nil] at this
    omega
  have hend : ∀ x', Eqv W x (x' ++ [s]) → x'.length + 1 = x.length → False := by
    intro x' h hl2
    have h1 : Eqv W (u ++ [s]) (v ++ x') := by
      have h2 := ((hvx.tr (h.left v)).right [s])
      have h3 := Eqv.sq (W := W) (v ++ x') [] hs
      rw [List.append_nil, List.append_nil] at h3
      simp only [List.append_assoc] at h2 h3
      exact h2.tr h3
    have := ell_le h1
    rw [List.length_append] at this
    omega
  have halt : x.reverse = alt t s x.reverse.length := alt_of _ (fun y hy => hx y (by simpa using hy)) hno (fun u' e => by
    have e2 : x = u'.reverse ++ [s] := by
      have := congrArg List.reverse e
      simpa using this
    refine hend u'.reverse (by rw [← e2]; exact .rf _) ?_
    have := congrArg List.length e2
    rw [List.length_append] at this
    exact this.symm)
  rw [List.length_reverse] at halt
  have hxr : x = (alt t s x.length).reverse := by rw [← halt, List.reverse_reverse]
  have hm : x.length < W.lab s t ∨ W.lab s t = 0 := by
    rcases Nat.lt_or_ge x.length (W.lab s t) with h | h
    · exact Or.inl h
    · rcases Nat.eq_zero_or_pos (W.lab s t) with h0 | h0
      · exact Or.inr h0
      · exfalso
        have split : ∀ (m : Nat) (d i j : Nat), ∃ r, alt i j (m + d) = alt i j m ++ r ∧ r.length = d := by
          intro m
          induction m with
          | zero => intro d i j; exact ⟨alt i j d, by rw [Nat.zero_add]; rfl, alt_len _ _ _⟩
          | succ m ih =>
            intro d i j
            obtain ⟨r, hr, hrl⟩ := ih d j i
            exact ⟨r, by rw [show m + 1 + d = (m + d) + 1 by omega, alt, hr]; rfl, hrl⟩
        obtain ⟨r, hr, hrl⟩ := split (W.lab s t) (x.length - W.lab s t) t s
        rw [Nat.add_sub_cancel' h] at hr
        have e1 : x = r.reverse ++ (alt t s (W.lab s t)).reverse := by
          rw [hxr, hr, List.reverse_append]
        have hlt : W.lab t s = W.lab s t := ok.sym t s
        have hb := Eqv.br (W := W) [] [] ht hs hts (by rw [hlt]; omega)
        rw [hlt] at hb
        simp only [List.nil_append, List.append_nil] at hb
        have hb2 := hb.rev.left r.reverse
        rw [← e1] at hb2
        obtain ⟨mm, hmm⟩ : ∃ mm, W.lab s t = mm + 1 := ⟨W.lab s t - 1, by omega⟩
        have e3 : (alt s t (W.lab s t)).reverse = (alt t s mm).reverse ++ [s] := by
          rw [hmm, alt, List.reverse_cons]
        rw [e3, ← List.append_assoc] at hb2
        refine hend _ hb2 ?_
        rw [List.length_append, List.length_reverse, List.length_reverse, alt_len, hrl]
        omega
  have hact : act W x (es s) = lin (dz x.length (- W.a t s) (- W.a s t) 1 0).1 (es s) (dz x.length (- W.a t s) (- W.a s t) 1 0).2 (es t) := by
    have h1 := dz_act ok x.length hs ht hst 1 0
    have h2 : lin 1 (es s) 0 (es t) = es s := by
      funext k; unfold lin; grind
    rw [h2, ← hxr] at h1
    exact h1
  refine ⟨t, v, dz x.length (- W.a t s) (- W.a s t) 1 0, ht, hts, hvxd.l, by omega, step s hs (Or.inl rfl), step t ht (Or.inr rfl), ?_, dz_good (ok.off s t hst) hm⟩
  rw [hvx.act ok, act_append, hact, act_lin]
theorem pos (ok : W.Ok) : ∀ (N : Nat) {u : List Nat} {s : Nat}, ell W u ≤ N → Wd W u → s < W.n → ell W (u ++ [s]) = ell W u + 1 → ∀ k, NN (act W u (es s) k) := by
  intro N
  induction N with
  | zero =>
    intro u s h hu hs hl k
    rw [(ell_zero (by omega)).act ok]
    show NN (es s k)
    unfold es
    split
    · exact NN_one
    · exact NN_zero
  | succ N ih =>
    intro u s h hu hs hl k
    rcases Nat.eq_zero_or_pos (ell W u) with h0 | h0
    · exact ih (by omega) hu hs hl k
    · obtain ⟨t, v, r, ht, _, hv, hlt, h1, h2, he, hg⟩ := dec ok hu hs h0 hl
      rw [he]
      exact NN_add (NN_mul hg.1 (ih (by omega) hv hs h1 k)) (NN_mul hg.2.1 (ih (by omega) hv ht h2 k))
theorem up_pos (ok : W.Ok) {u : List Nat} {s : Nat} (hu : Wd W u) (hs : s < W.n) (h : ell W (u ++ [s]) = ell W u + 1) (k : Nat) : NN (act W u (es s) k) := pos ok _ (Nat.le_refl _) hu hs h k
theorem act_sq (ok : W.Ok) (u : List Nat) {s : Nat} (hs : s < W.n) : act W (u ++ [s]) (es s) = fun k => - act W u (es s) k := by
  rw [act_append]
  show act W u (mir W s (es s)) = _
  rw [mir_self ok hs]
  have : (fun k => - es s k) = lin (-1) (es s) 0 (es s) := by funext k; unfold lin; grind
  rw [this, act_lin]
  funext k; unfold lin; grind
theorem down_neg (ok : W.Ok) {u : List Nat} {s : Nat} (hu : Wd W u) (hs : s < W.n) (h : ell W (u ++ [s]) + 1 = ell W u) (k : Nat) : NN (- act W u (es s) k) := by
  have h1 : ell W (u ++ [s] ++ [s]) = ell W (u ++ [s]) + 1 := by
    have := Eqv.sq (W := W) u [] hs
    rw [List.append_nil, List.append_nil] at this
    rw [List.append_assoc]
    have e := ell_eq this
    have e2 : u ++ ([s] ++ [s]) = u ++ [s, s] := rfl
    rw [e2, e]; omega
  have := up_pos ok (hu.app (Wd.one hs)) hs h1 k
  rwa [act_sq ok u hs] at this
theorem act_rev (ok : W.Ok) {u : List Nat} (hu : Wd W u) (v : Vc) : act W u.reverse (act W u v) = v := by
  rw [← act_append, (Eqv.rev_rev hu).act ok]; rfl
theorem act_rev' (ok : W.Ok) {u : List Nat} (hu : Wd W u) (v : Vc) : act W u (act W u.reverse v) = v := by
  rw [← act_append, (Eqv.rev_rev' hu).act ok]; rfl
theorem act_smul (u : List Nat) (p : Gd) (v : Vc) : act W u (fun k => p * v k) = fun k => p * act W u v k := by
  have h : ∀ v : Vc, (fun k => p * v k) = lin p v 0 v := fun v => by funext k; unfold lin; grind
  rw [h, act_lin, ← h]
theorem es_ne (s : Nat) : es s ≠ fun _ => 0 := fun h => by
  have := congrFun h s
  unfold es at this
  rw [if_pos rfl] at this
  exact absurd this Gd_one_ne
theorem root_ne (ok : W.Ok) {u : List Nat} (hu : Wd W u) (s : Nat) : act W u (es s) ≠ fun _ => 0 := fun h => by
  have h1 := act_rev ok hu (es s)
  rw [h] at h1
  have h2 := act_smul (W := W) u.reverse 0 (fun _ => 0)
  have e : (fun k : Nat => (0 : Gd) * (fun _ : Nat => (0 : Gd)) k) = fun _ => 0 := by funext k; show (0 : Gd) * 0 = 0; grind
  rw [e] at h2
  rw [h2] at h1
  refine es_ne s ?_
  rw [← h1]
  funext k
  grind
theorem faithful1 (ok : W.Ok) {u : List Nat} (hu : Wd W u) (h : ∀ s, s < W.n → act W u (es s) = es s) : Eqv W u [] := by
  rcases Nat.eq_zero_or_pos (ell W u) with h0 | h0
  · exact ell_zero h0
  · exfalso
    obtain ⟨w, hw, hwl⟩ := ell_red W u
    have hwd := hw.wd.1 hu
    obtain ⟨w1, t, rfl⟩ : ∃ w1 t, w = w1 ++ [t] := by
      rcases List.eq_nil_or_concat w with e | ⟨w1, t, e⟩
      · rw [e] at hwl; simp at hwl; omega
      · exact ⟨w1, t, by rw [e, List.concat_eq_append]⟩
    have ht : t < W.n := hwd t (by simp)
    rw [List.length_append, List.length_cons, List.length_nil] at hwl
    have h1 : Eqv W (u ++ [t]) w1 := by
      have h2 := hw.right [t]
      have h3 := Eqv.sq (W := W) w1 [] ht
      rw [List.append_nil, List.append_nil] at h3
      rw [List.append_assoc] at h2
      exact h2.tr h3
    have h4 : ell W (u ++ [t]) + 1 = ell W u := by
      rcases ell_snoc u ht with h | h
      · have := ell_le h1; omega
      · exact h
    have h5 := down_neg ok hu ht h4 t
    rw [h t ht] at h5
    unfold es at h5
    rw [if_pos rfl] at h5
    revert h5; decide
theorem faithful (ok : W.Ok) {u v : List Nat} (hu : Wd W u) (hv : Wd W v) (h : ∀ s, s < W.n → act W u (es s) = act W v (es s)) : Eqv W u v := by
  have h1 : Eqv W (v.reverse ++ u) [] := faithful1 ok (hv.rev.app hu) fun s hs => by
    rw [act_append, h s hs, act_rev ok hv]
  have h2 := h1.left v
  rw [List.append_nil, ← List.append_assoc] at h2
  have h3 := (Eqv.rev_rev' hv).right u
  exact h3.sy.tr h2
/-- a mirror behind a word makes it shorter just if its root is moved below -/
theorem down_iff (ok : W.Ok) {u : List Nat} {s : Nat} (hu : Wd W u) (hs : s < W.n) : (ell W (u ++ [s]) + 1 = ell W u) ↔ ∃ k, ¬ NN (act W u (es s) k) := by
  constructor
  · intro h
    have h1 := down_neg ok hu hs h
    rcases Classical.em (∃ k, ¬ NN (act W u (es s) k)) with g | g
    · exact g
    · exfalso
      refine root_ne ok hu s ?_
      funext k
      rcases Classical.em (NN (act W u (es s) k)) with g2 | g2
      · exact NN_anti g2 (h1 k)
      · exact absurd ⟨k, g2⟩ g
  · rintro ⟨k, hk⟩
    rcases ell_snoc u hs with h | h
    · exact absurd (up_pos ok hu hs h k) hk
    · exact h
end Mx
/-! least words -/
namespace Mx
variable {W : Wo}
open Classical in
noncomputable def ld (W : Wo) (u : List Nat) (i : Nat) : Bool := decide (ell W (i :: u) + 1 = ell W u)
theorem ld_iff {u : List Nat} {i : Nat} : ld W u i = true ↔ ell W (i :: u) + 1 = ell W u := by unfold ld; exact decide_eq_true_iff
theorem ld_not {u : List Nat} {i : Nat} (hi : i < W.n) : ld W u i = false ↔ ell W (i :: u) = ell W u + 1 := by
  have := ell_cons u hi
  have h2 := ld_iff (W := W) (u := u) (i := i)
  cases h : ld W u i with
  | true =>
    rw [h] at h2
    have := h2.1 rfl
    constructor
    · intro h; cases h
    · intro h; omega
  | false =>
    rw [h] at h2
    constructor
    · intro _
      rcases this with g | g
      · exact g
      · exact absurd (h2.2 g) (by decide)
    · intro _; rfl
theorem ld_eqv {u v : List Nat} (h : Eqv W u v) (i : Nat) : ld W u i = ld W v i := by
  have h1 := ell_eq h
  have h2 := ell_eq (h.left [i])
  have e : ∀ u : List Nat, [i] ++ u = i :: u := fun _ => rfl
  rw [e, e] at h2
  unfold ld
  rw [h1, h2]
theorem ld_dn (ok : W.Ok) {u : List Nat} (hu : Wd W u) {i : Nat} (hi : i < W.n) : ld W u i = true ↔ ∃ k, ¬ NN (act W u.reverse (es i) k) := by
  rw [ld_iff, ← down_iff ok hu.rev hi]
  have e : u.reverse ++ [i] = (i :: u).reverse := by simp
  rw [e, ell_rev, ell_rev]
/-- the mirrors with which a shortest word can begin -/
noncomputable def lds (W : Wo) (u : List Nat) : List Nat := (List.range W.n).filter (ld W u)
theorem mem_lds {u : List Nat} {i : Nat} : i ∈ lds W u ↔ i < W.n ∧ ld W u i = true := by
  unfold lds; rw [List.mem_filter, List.mem_range]
theorem lds_eqv {u v : List Nat} (h : Eqv W u v) : lds W u = lds W v := by
  unfold lds
  exact List.filter_congr fun i _ => ld_eqv h i
theorem lds_nil {u : List Nat} (hu : Wd W u) : lds W u = [] ↔ ell W u = 0 := by
  constructor
  · intro h
    obtain ⟨w, hw, hl⟩ := ell_red W u
    cases w with
    | nil => rw [← hl]; rfl
    | cons i w =>
      exfalso
      have hi : i < W.n := hw.wd.1 hu i List.mem_cons_self
      have h1 : Eqv W (i :: u) w := by
        have h2 := hw.left [i]
        have h3 := Eqv.sq (W := W) [] w hi
        exact h2.tr h3
      have h4 := ell_le h1
      rw [List.length_cons] at hl
      have h5 : ld W u i = true := by
        rw [ld_iff]
        rcases ell_cons u hi with g | g <;> omega
      have := mem_lds.2 ⟨hi, h5⟩
      rw [h] at this; cases this
  · intro h
    unfold lds
    rw [List.filter_eq_nil_iff]
    intro i hi
    rw [ld_iff]; omega
noncomputable def nfF (W : Wo) : Nat → List Nat → List Nat
  | 0, _ => []
  | k + 1, u => match lds W u with
    | [] => []
    | i :: _ => i :: nfF W k (i :: u)
noncomputable def nf (W : Wo) (u : List Nat) : List Nat := nfF W (ell W u) u
theorem lds_head {u : List Nat} {i : Nat} {r : List Nat} (h : lds W u = i :: r) : i < W.n ∧ ell W (i :: u) + 1 = ell W u := by
  have := mem_lds (W := W) (u := u) (i := i)
  rw [h] at this
  have := this.1 List.mem_cons_self
  exact ⟨this.1, ld_iff.1 this.2⟩
theorem nf_nil {u : List Nat} (h : lds W u = []) : nf W u = [] := by
  unfold nf
  cases ell W u with
  | zero => rfl
  | succ k => rw [nfF, h]
theorem nf_cons {u : List Nat} {i : Nat} {r : List Nat} (h : lds W u = i :: r) : nf W u = i :: nf W (i :: u) := by
  have := (lds_head h).2
  unfold nf
  rw [← this, nfF, h]
theorem nf_ind {P : List Nat → Prop} (h0 : ∀ u, Wd W u → lds W u = [] → P u) (h1 : ∀ u i r, Wd W u → lds W u = i :: r → P (i :: u) → P u) : ∀ u, Wd W u → P u := by
  have key : ∀ (n : Nat) (u : List Nat), ell W u = n → Wd W u → P u := by
    intro n
    induction n with
    | zero => intro u h hu; exact h0 u hu ((lds_nil hu).2 h)
    | succ n ih =>
      intro u h hu
      cases hl : lds W u with
      | nil => have := (lds_nil hu).1 hl; omega
      | cons i r =>
        have := lds_head hl
        exact h1 u i r hu hl (ih _ (by omega) (hu.cons this.1))
  exact fun u hu => key _ u rfl hu
theorem nf_eqv {u : List Nat} (hu : Wd W u) : Eqv W u (nf W u) := by
  refine nf_ind (W := W) (P := fun u => Eqv W u (nf W u)) ?_ ?_ u hu
  · intro u hu h
    rw [nf_nil h]
    exact ell_zero ((lds_nil hu).1 h)
  · intro u i r hu h ih
    rw [nf_cons h]
    have hi := (lds_head h).1
    have h2 := Eqv.sq (W := W) [] u hi
    exact h2.sy.tr (ih.left [i])
theorem nf_len {u : List Nat} (hu : Wd W u) : (nf W u).length = ell W u := by
  refine nf_ind (W := W) (P := fun u => (nf W u).length = ell W u) ?_ ?_ u hu
  · intro u hu h
    rw [nf_nil h, (lds_nil hu).1 h]; rfl
  · intro u i r hu h ih
    rw [nf_cons h, List.length_cons, ih, (lds_head h).2]
theorem nf_wd {u : List Nat} (hu : Wd W u) : Wd W (nf W u) := (nf_eqv hu).wd.1 hu
theorem nf_congr {u v : List Nat} (hu : Wd W u) (h : Eqv W u v) : nf W u = nf W v := by
  have key : ∀ (n : Nat) (u v : List Nat), ell W u = n → Eqv W u v → nf W u = nf W v := by
    intro n
    induction n with
    | zero =>
      intro u v hn h
      have := ell_eq h
      unfold nf
      rw [← this, hn]; rfl
    | succ n ih =>
      intro u v hn h
      have hl := lds_eqv h
      cases hl2 : lds W u with
      | nil => rw [nf_nil hl2, nf_nil (by rw [← hl]; exact hl2)]
      | cons i r =>
        have hl3 : lds W v = i :: r := by rw [← hl]; exact hl2
        rw [nf_cons hl2, nf_cons hl3]
        have := lds_head hl2
        rw [ih (i :: u) (i :: v) (by omega) (h.left [i])]
  exact key _ u v rfl h
theorem nf_iff {u v : List Nat} (hu : Wd W u) (hv : Wd W v) : nf W u = nf W v ↔ Eqv W u v := by
  constructor
  · intro h
    have h1 := nf_eqv hu
    rw [h] at h1
    exact h1.tr (nf_eqv hv).sy
  · exact nf_congr hu
theorem nf_nf {u : List Nat} (hu : Wd W u) : nf W (nf W u) = nf W u := (nf_congr hu (nf_eqv hu)).symm
theorem ell_nf {u : List Nat} (hu : Wd W u) : ell W (nf W u) = ell W u := (ell_eq (nf_eqv hu)).symm
theorem nf_red {u : List Nat} (hu : Wd W u) : ell W (nf W u) = (nf W u).length := by rw [ell_nf hu, nf_len hu]
theorem nf_empty {u : List Nat} (hu : Wd W u) : nf W u = [] ↔ Eqv W u [] := by
  have : nf W ([] : List Nat) = [] := by
    have := nf_len (W := W) (u := []) Wd.nil
    rw [ell_nil] at this
    exact List.length_eq_zero_iff.1 this
  constructor
  · intro h
    have := nf_eqv hu
    rwa [h] at this
  · intro h
    rw [nf_congr hu h, this]
/-! ## letters fall out -/
/-- if a mirror ahead makes a reduced word shorter, one letter falls out -/
theorem act_supp {W : Wo} (u : List Nat) (v : Vc) {k : Nat} (hu : Wd W u) (hk : W.n ≤ k) : act W u v k = v k := by
  induction u with
  | nil => rfl
  | cons x u ih =>
    have hx : x < W.n := hu x List.mem_cons_self
    rw [act, mir_ne W _ (by omega), ih fun y hy => hu y (List.mem_cons_of_mem _ hy)]
end Mx
/-! exchange, two mirrors with which a word can begin, turns -/
namespace Mx
variable {W : Wo}
theorem up_pos' (ok : W.Ok) {u : List Nat} {i : Nat} (hu : Wd W u) (hi : i < W.n) (h : ell W (i :: u) = ell W u + 1) (k : Nat) : NN (act W u.reverse (es i) k) := by
  refine up_pos ok hu.rev hi ?_ k
  have e : u.reverse ++ [i] = (i :: u).reverse := by simp
  rw [e, ell_rev, ell_rev, h]
theorem down_neg' (ok : W.Ok) {u : List Nat} {i : Nat} (hu : Wd W u) (hi : i < W.n) (h : ell W (i :: u) + 1 = ell W u) (k : Nat) : NN (- act W u.reverse (es i) k) := by
  refine down_neg ok hu.rev hi ?_ k
  have e : u.reverse ++ [i] = (i :: u).reverse := by simp
  rw [e, ell_rev, ell_rev, h]
theorem root_pm (ok : W.Ok) {u : List Nat} (hu : Wd W u) {i : Nat} (hi : i < W.n) : (∀ k, NN (act W u (es i) k)) ∨ (∀ k, NN (- act W u (es i) k)) := by
  rcases ell_snoc u hi with h | h
  · exact Or.inl (up_pos ok hu hi h)
  · exact Or.inr (down_neg ok hu hi h)
theorem trivial_of (ok : W.Ok) {g : List Nat} (hg : Wd W g) (h : ∀ s, s < W.n → act W g (es s) s = 1) : Eqv W g [] := by
  rcases Nat.eq_zero_or_pos (ell W g) with h0 | h0
  · exact ell_zero h0
  · exfalso
    obtain ⟨w, hw, hwl⟩ := ell_red W g.reverse
    cases w with
    | nil => rw [ell_rev] at hwl; simp at hwl; omega
    | cons t w =>
      have hwd := hw.wd.1 hg.rev
      have ht : t < W.n := hwd t List.mem_cons_self
      have h1 : Eqv W (t :: g.reverse) w := (hw.left [t]).tr (Eqv.sq (W := W) [] w ht)
      have h2 := ell_le h1
      rw [ell_rev, List.length_cons] at hwl
      have h3 : ell W (t :: g.reverse) + 1 = ell W g.reverse := by
        rcases ell_cons g.reverse ht with h | h
        · rw [ell_rev] at h; omega
        · exact h
      have h4 := down_neg' ok hg.rev ht h3 t
      rw [List.reverse_reverse, h t ht] at h4
      revert h4; decide
theorem smul_root (ok : W.Ok) {p : List Nat} (hp : Wd W p) {i x : Nat} {c : Gd} (h : ∀ k, act W p.reverse (es i) k = c * es x k) : c ≠ 0 ∧ ∀ k, es i k = c * act W p (es x) k := by
  have h' : act W p.reverse (es i) = fun k => c * es x k := funext h
  constructor
  · intro e
    refine root_ne ok hp.rev i ?_
    rw [h']
    funext k
    show c * es x k = 0
    rw [e]; grind
  · intro k
    have h2 := act_rev' ok hp (es i)
    rw [h', act_smul] at h2
    rw [← h2]
/-- a word that moves a mirror's root on a multiple of another mirror's: both mirrors are turned into each other -/
theorem conj (ok : W.Ok) {p : List Nat} (hp : Wd W p) {i x : Nat} (hi : i < W.n) (hx : x < W.n) {c : Gd} (h : ∀ k, act W p.reverse (es i) k = c * es x k) : Eqv W (i :: p) (p ++ [x]) := by
  obtain ⟨c0, h2⟩ := smul_root ok hp h
  have h' : act W p.reverse (es i) = fun k => c * es x k := funext h
  -- what goes round
  have key : ∀ v : Vc, ∃ f : Gd, act W (p.reverse ++ (i :: p)) v = lin 1 v f (es x) := by
    intro v
    refine ⟨- tak W i (act W p v) * c, ?_⟩
    rw [act_append]
    show act W p.reverse (mir W i (act W p v)) = _
    have e : mir W i (act W p v) = lin 1 (act W p v) (- tak W i (act W p v)) (es i) := by
      funext k
      unfold mir lin es
      by_cases hk : k = i
      · simp only [if_pos hk]; subst hk; grind
      · simp only [if_neg hk]; grind
    rw [e, act_lin, act_rev ok hp, h']
    funext k
    unfold lin
    grind
  have hg : Wd W (x :: (p.reverse ++ (i :: p))) := (hp.rev.app (hp.cons hi)).cons hx
  have hz : ∀ v : Vc, ∃ f : Gd, act W (x :: (p.reverse ++ (i :: p))) v = lin 1 v f (es x) := by
    intro v
    obtain ⟨f, hf⟩ := key v
    refine ⟨- tak W x v - f, ?_⟩
    rw [act, hf, mir_lin, mir_self ok hx]
    funext k
    unfold lin mir es
    by_cases hk : k = x
    · simp only [if_pos hk]; subst hk; grind
    · simp only [if_neg hk]; grind
  have hxx : act W (x :: (p.reverse ++ (i :: p))) (es x) = es x := by
    -- c * (p x) = i
    have h3 : (fun k => c * act W p (es x) k) = es i := funext fun k => (h2 k).symm
    have h4 : ∀ k, c * mir W i (act W p (es x)) k = c * (- act W p (es x) k) := by
      intro k
      have e1 : mir W i (fun k => c * act W p (es x) k) = fun k => c * mir W i (act W p (es x)) k := by
        have := act_smul (W := W) [i] c (act W p (es x))
        exact this
      have e2 : c * mir W i (act W p (es x)) k = mir W i (es i) k := by rw [← h3, e1]
      rw [e2, mir_self ok hi]
      have := h2 k
      grind
    have h5 : mir W i (act W p (es x)) = fun k => - act W p (es x) k := by
      funext k
      have := h4 k
      have h6 : c * (mir W i (act W p (es x)) k + act W p (es x) k) = 0 := by grind
      rcases mul_eq_zero h6 with h | h
      · exact absurd h c0
      · grind
    rw [act, act_append]
    show mir W x (act W p.reverse (mir W i (act W p (es x)))) = _
    rw [h5]
    have e : (fun k => - act W p (es x) k) = fun k => (-1) * act W p (es x) k := by funext k; grind
    rw [e, act_smul, act_rev ok hp]
    have := act_smul (W := W) [x] (-1) (es x)
    show act W [x] _ = _
    rw [this]
    show (fun k => (-1) * mir W x (es x) k) = es x
    rw [mir_self ok hx]
    funext k; grind
  have ht := trivial_of ok hg fun s hs => by
    by_cases hsx : s = x
    · subst hsx
      rw [hxx]; unfold es; rw [if_pos rfl]
    · obtain ⟨f, hf⟩ := hz (es s)
      rw [hf]
      unfold lin es
      rw [if_pos rfl, if_neg hsx]; grind
  have h7 : Eqv W (p ++ ([x] ++ (x :: (p.reverse ++ (i :: p))))) (p ++ [x]) := by
    have := ht.left (p ++ [x])
    rwa [List.append_nil, List.append_assoc] at this
  have h8 : Eqv W (p ++ ([x] ++ (x :: (p.reverse ++ (i :: p))))) (p ++ (p.reverse ++ (i :: p))) := Eqv.sq (W := W) p _ hx
  have h9 : Eqv W (p ++ (p.reverse ++ (i :: p))) (i :: p) := by
    have := (Eqv.rev_rev' hp).right (i :: p)
    rwa [List.append_assoc] at this
  exact h9.sy.tr (h8.sy.tr h7)
theorem first_neg {P : Nat → Prop} {n : Nat} (h0 : P 0) (hn : ¬ P n) : ∃ j, j < n ∧ P j ∧ ¬ P (j + 1) := by
  induction n with
  | zero => exact absurd h0 hn
  | succ n ih =>
    rcases Classical.em (P n) with h | h
    · exact ⟨n, by omega, h, hn⟩
    · obtain ⟨j, h1, h2, h3⟩ := ih h
      exact ⟨j, by omega, h2, h3⟩
/-- if a mirror ahead makes a word shorter, a letter can fall out instead -/
theorem exch (ok : W.Ok) {u : List Nat} (hu : Wd W u) {i : Nat} (hi : i < W.n) (h : ell W (i :: u) + 1 = ell W u) : ∃ p x q, u = p ++ x :: q ∧ Eqv W (i :: u) (p ++ q) ∧ Eqv W (i :: p) (p ++ [x]) := by
  obtain ⟨j, hj, h1, h2⟩ := first_neg (P := fun j => ∀ k, NN (act W (u.take j).reverse (es i) k)) (n := u.length)
    (by intro k; show NN (es i k); unfold es; split; exact NN_one; exact NN_zero) (by
      intro h3
      rw [List.take_length] at h3
      refine root_ne ok hu.rev i ?_
      funext k
      exact NN_anti (h3 k) (down_neg' ok hu hi h k))
  have hx : u[j] < W.n := hu _ (List.getElem_mem hj)
  have hp : Wd W (u.take j) := fun y hy => hu y (List.mem_of_mem_take hy)
  have ht : (u.take (j + 1)).reverse = u[j] :: (u.take j).reverse := by
    rw [List.take_succ_eq_append_getElem hj, List.reverse_append]; rfl
  have h3 : ∃ k, ¬ NN (act W (u.take (j+1)).reverse (es i) k) := by
    rcases Classical.em (∃ k, ¬ NN (act W (u.take (j+1)).reverse (es i) k)) with g | g
    · exact g
    · exact absurd (fun k => by
        rcases Classical.em (NN (act W (u.take (j+1)).reverse (es i) k)) with g2 | g2
        · exact g2
        · exact absurd ⟨k, g2⟩ g) h2
  have h4 : ∀ k, NN (- act W (u.take (j+1)).reverse (es i) k) := by
    have hp1 : Wd W (u.take (j+1)) := fun y hy => hu y (List.mem_of_mem_take hy)
    rcases root_pm ok hp1.rev hi with g | g
    · obtain ⟨k, hk⟩ := h3; exact absurd (g k) hk
    · exact g
  have h5 : ∀ k, act W (u.take j).reverse (es i) k = act W (u.take j).reverse (es i) u[j] * es u[j] k := by
    intro k
    by_cases hk : k = u[j]
    · rw [hk]; unfold es; rw [if_pos rfl]; grind
    · have h6 := h4 k
      rw [ht, act, mir_ne W _ hk] at h6
      rw [NN_anti (h1 k) h6]
      unfold es; rw [if_neg hk]; grind
  have hc := conj ok hp hi hx h5
  refine ⟨u.take j, u[j], u.drop (j + 1), ?_, ?_, hc⟩
  · rw [← List.drop_eq_getElem_cons hj, List.take_append_drop]
  · have e : u = u.take j ++ (u[j] :: u.drop (j + 1)) := by rw [← List.drop_eq_getElem_cons hj, List.take_append_drop]
    have h6 : Eqv W (i :: u) ((u.take j ++ [u[j]]) ++ (u[j] :: u.drop (j+1))) := by
      have := hc.right (u[j] :: u.drop (j + 1))
      rw [List.cons_append, ← e] at this
      exact this
    have h7 := Eqv.sq (W := W) (u.take j) (u.drop (j+1)) hx
    rw [List.append_assoc] at h6
    exact h6.tr h7
/-- two mirrors with which a shortest word can begin: it can begin with both by turns -/
theorem dec2 (ok : W.Ok) {u : List Nat} {s t : Nat} (hu : Wd W u) (hs : s < W.n) (ht : t < W.n) (hst : s ≠ t) (h1 : ell W (s :: u) + 1 = ell W u) (h2 : ell W (t :: u) + 1 = ell W u) :
    W.lab s t ≠ 0 ∧ ∃ c, Eqv W u (alt s t (W.lab s t) ++ c) ∧ W.lab s t + c.length = ell W u := by
  obtain ⟨w, hw, hwl⟩ := ell_red W (s :: u)
  have e0 : Eqv W u (s :: w) := by
    have := hw.left [s]
    exact (Eqv.sq (W := W) [] u hs).sy.tr this
  obtain ⟨k, ⟨v, x, hvx, hlen, hx, hk⟩, hmin⟩ := least_of (P := fun k => ∃ v x, Eqv W u (x ++ v) ∧ v.length + x.length = ell W u ∧ (∀ y ∈ x, y = s ∨ y = t) ∧ v.length = k)
    ⟨_, w, [s], e0, by rw [List.length_cons, List.length_nil]; omega, fun y hy => Or.inl (List.mem_singleton.1 hy), rfl⟩
  have hk1 : k ≤ w.length := hmin _ ⟨w, [s], e0, by rw [List.length_cons, List.length_nil]; omega, fun y hy => Or.inl (List.mem_singleton.1 hy), rfl⟩
  have hvxd : Wd W (x ++ v) := hvx.wd.1 hu
  have hlv : ell W v = v.length := by
    have h1 := ell_len W v
    have h2 := ell_app W x v
    have h3 := ell_len W x
    have h4 := ell_eq hvx
    omega
  have step : ∀ r, r < W.n → (r = s ∨ r = t) → ell W (r :: v) = ell W v + 1 := by
    intro r hr hrr
    rcases ell_cons v hr with h | h
    · exact h
    · exfalso
      obtain ⟨v', hv', hl'⟩ := ell_red W (r :: v)
      have h1 : Eqv W v (r :: v') := (Eqv.sq (W := W) [] v hr).sy.tr (hv'.left [r])
      have h4 : Eqv W u ((x ++ [r]) ++ v') := by
        have := hvx.tr (h1.left x)
        rwa [List.append_assoc]
      have := hmin v'.length ⟨v', x ++ [r], h4, by rw [List.length_append, List.length_cons, List.length_nil]; omega, fun y hy => by
        rcases List.mem_append.1 hy with e | e
        · exact hx y e
        · rw [List.mem_singleton.1 e]; exact hrr, rfl⟩
      omega
  have hxd : Wd W x := hvxd.l
  have hred : ∀ x', Eqv W x x' → x.length ≤ x'.length := by
    intro x' h
    have h1 := ell_le (hvx.tr (h.right v))
    rw [List.length_append] at h1
    omega
  have hno : ∀ a b c, x ≠ a ++ ([c, c] ++ b) := by
    intro a b c e
    have hc : c < W.n := hxd c (by rw [e]; simp)
    have := hred _ (by rw [e]; exact Eqv.sq a b hc)
    rw [e] at this
    simp only [List.length_append, List.length_cons, List.length_nil] at this
    omega
  have split : ∀ (m : Nat) (d i j : Nat), ∃ r, alt i j (m + d) = alt i j m ++ r ∧ r.length = d := by
    intro m
    induction m with
    | zero => intro d i j; exact ⟨alt i j d, by rw [Nat.zero_add]; rfl, alt_len _ _ _⟩
    | succ m ih =>
      intro d i j
      obtain ⟨r, hr, hrl⟩ := ih d j i
      exact ⟨r, by rw [show m + 1 + d = (m + d) + 1 by omega, alt, hr]; rfl, hrl⟩
  -- x is a by turns with b: then b is no beginning unless it is long
  have core : ∀ a b, a < W.n → b < W.n → a ≠ b → (a = s ∨ a = t) → (b = s ∨ b = t) → ell W (b :: u) + 1 = ell W u → x = alt a b x.length → W.lab a b ≠ 0 ∧ ∃ c, Eqv W u (alt a b (W.lab a b) ++ c) ∧ W.lab a b + c.length = ell W u := by
    intro a b ha hb hab has hbs hdb hxa
    have hm : ¬ (x.length < W.lab b a ∨ W.lab b a = 0) := by
      intro hm
      refine root_ne ok hu.rev b ?_
      funext k
      refine NN_anti ?_ (down_neg' ok hu hb hdb k)
      have h3 := dz_act ok x.length hb ha (fun e => hab e.symm) 1 0
      have h4 : lin 1 (es b) 0 (es a) = es b := by funext k; unfold lin; grind
      rw [h4, ← hxa] at h3
      have hg := dz_good (ok.off b a (fun e => hab e.symm)) hm
      have h5 : act W u.reverse = act W (x ++ v).reverse := hvx.rev.act ok
      rw [h5, List.reverse_append, act_append, h3, act_lin]
      exact NN_add (NN_mul hg.1 (up_pos' ok hvxd.r hb (step b hb hbs) k)) (NN_mul hg.2.1 (up_pos' ok hvxd.r ha (step a ha has) k))
    have hsy := ok.sym b a
    rw [not_or, hsy] at hm
    obtain ⟨r, hr, hrl⟩ := split (W.lab a b) (x.length - W.lab a b) a b
    rw [Nat.add_sub_cancel' (by omega), ← hxa] at hr
    refine ⟨hm.2, r ++ v, ?_, ?_⟩
    · rw [← List.append_assoc, ← hr]; exact hvx
    · rw [List.length_append, hrl]; omega
  cases hxc : x with
  | nil => rw [hxc] at hlen; simp at hlen; omega
  | cons y x' =>
    rcases hx y (by rw [hxc]; exact List.mem_cons_self) with e | e
    · have halt : x = alt s t x.length := alt_of x (s := t) (t := s) (fun z hz => (hx z hz).symm) hno (fun u' e2 => by
        rw [hxc] at e2
        injection e2 with e3 e4
        exact hst (e.symm.trans e3))
      exact core s t hs ht hst (Or.inl rfl) (Or.inr rfl) h2 halt
    · have halt : x = alt t s x.length := alt_of x hx hno (fun u' e2 => by
        rw [hxc] at e2
        injection e2 with e3 e4
        exact hst (e3.symm.trans e))
      obtain ⟨hm, c, hc, hcl⟩ := core t s ht hs (fun e => hst e.symm) (Or.inr rfl) (Or.inl rfl) h1 halt
      have hsy := ok.sym s t
      have hb := Eqv.br (W := W) [] c ht hs (fun e => hst e.symm) hm
      simp only [List.nil_append] at hb
      rw [hsy]
      exact ⟨hm, c, hc.tr hb, hcl⟩
end Mx
/-! letters that fall out, turns between reduced words, words within words -/
namespace Mx
variable {W : Wo}
def Red (W : Wo) (u : List Nat) : Prop := ell W u = u.length
theorem Red.tail {x : Nat} {u : List Nat} (h : Red W (x :: u)) : Red W u := by
  unfold Red at *
  have h1 := ell_app W [x] u
  have h2 := ell_len W [x]
  have h3 := ell_len W u
  rw [List.length_cons] at h
  rw [show [x] ++ u = x :: u from rfl] at h1
  simp only [List.length_cons, List.length_nil] at h2
  omega
theorem Red.r {u v : List Nat} (h : Red W (u ++ v)) : Red W v := by
  induction u with
  | nil => exact h
  | cons x u ih => exact ih (Red.tail h)
theorem Red.rev {u : List Nat} (h : Red W u) : Red W u.reverse := by
  unfold Red at *
  rw [ell_rev, h, List.length_reverse]
theorem Red.l {u v : List Nat} (h : Red W (u ++ v)) : Red W u := by
  have := h.rev
  rw [List.reverse_append] at this
  have := this.r.rev
  rwa [List.reverse_reverse] at this
theorem Red.nf {u : List Nat} (hu : Wd W u) : Red W (nf W u) := nf_red hu
theorem Red.cons {x : Nat} {u : List Nat} (h : Red W u) (g : ell W (x :: u) = ell W u + 1) : Red W (x :: u) := by
  unfold Red at *
  rw [g, h, List.length_cons]
/-- two letters fall out of a word that is not reduced -/
theorem deletion (ok : W.Ok) : ∀ {u : List Nat}, Wd W u → ¬ Red W u → ∃ a x b y c, u = a ++ x :: (b ++ y :: c) ∧ Eqv W u (a ++ (b ++ c))
  | [], _, h => absurd (ell_nil W) h
  | x :: u, hu, h => by
    have hx : x < W.n := hu x List.mem_cons_self
    have hu' : Wd W u := fun y hy => hu y (List.mem_cons_of_mem _ hy)
    rcases Classical.em (Red W u) with hr | hr
    · have h1 : ell W (x :: u) + 1 = ell W u := by
        rcases ell_cons u hx with g | g
        · exact absurd (hr.cons g) h
        · exact g
      obtain ⟨p, y, q, e, h2, _⟩ := exch ok hu' hx h1
      exact ⟨[], x, p, y, q, by rw [e]; rfl, h2⟩
    · obtain ⟨a, z, b, y, c, e, h2⟩ := deletion ok hu' hr
      exact ⟨x :: a, z, b, y, c, by rw [e]; rfl, h2.left [x]⟩
/-- a reduced word within a word that does the same -/
theorem sub_red (ok : W.Ok) : ∀ (n : Nat) {u : List Nat}, u.length ≤ n → Wd W u → ∃ v, List.Sublist v u ∧ Eqv W u v ∧ Red W v
  | n, u, hn, hu => by
    rcases Classical.em (Red W u) with hr | hr
    · exact ⟨u, List.Sublist.refl u, .rf u, hr⟩
    · obtain ⟨a, x, b, y, c, e, h2⟩ := deletion ok hu hr
      have hs : List.Sublist (a ++ (b ++ c)) u := by
        rw [e]
        exact (List.Sublist.refl a).append (((List.Sublist.refl b).append (List.sublist_cons_self y c)).trans (List.sublist_cons_self x _))
      cases n with
      | zero =>
        exfalso
        have := congrArg List.length e
        simp at this; omega
      | succ n =>
        have hl := congrArg List.length e
        simp only [List.length_append, List.length_cons] at hl
        obtain ⟨v, h3, h4, h5⟩ := sub_red ok n (u := a ++ (b ++ c)) (by simp only [List.length_append]; omega) (h2.wd.1 hu)
        exact ⟨v, h3.trans hs, h2.tr h4, h5⟩
/-! ## turns alone -/
inductive Trn (W : Wo) : List Nat → List Nat → Prop
  | rf (u : List Nat) : Trn W u u
  | tr {u v w : List Nat} : Trn W u v → Trn W v w → Trn W u w
  | br (u v : List Nat) {i j : Nat} (hi : i < W.n) (hj : j < W.n) (h : i ≠ j) (hl : W.lab i j ≠ 0) : Trn W (u ++ (alt i j (W.lab i j) ++ v)) (u ++ (alt j i (W.lab i j) ++ v))
namespace Trn
theorem sy (ok : W.Ok) {u v : List Nat} (h : Trn W u v) : Trn W v u := by
  induction h with
  | rf u => exact .rf u
  | tr _ _ ih1 ih2 => exact .tr ih2 ih1
  | @br u v i j hi hj h hl =>
    have e := ok.sym i j
    have := Trn.br (W := W) u v hj hi (fun e => h e.symm) (by rw [← e]; exact hl)
    rwa [← e] at this
theorem eqv {u v : List Nat} (h : Trn W u v) : Eqv W u v := by
  induction h with
  | rf u => exact .rf u
  | tr _ _ ih1 ih2 => exact .tr ih1 ih2
  | br u v hi hj h hl => exact .br u v hi hj h hl
theorem len {u v : List Nat} (h : Trn W u v) : u.length = v.length := by
  induction h with
  | rf u => rfl
  | tr _ _ ih1 ih2 => exact ih1.trans ih2
  | br u v hi hj h hl => simp only [List.length_append, alt_len]
theorem cons (x : Nat) {u v : List Nat} (h : Trn W u v) : Trn W (x :: u) (x :: v) := by
  induction h with
  | rf u => exact .rf _
  | tr _ _ ih1 ih2 => exact .tr ih1 ih2
  | br u v hi hj h hl => exact .br (x :: u) v hi hj h hl
end Trn
/-- all reduced words of an element hang together by turns -/
theorem matsumoto (ok : W.Ok) : ∀ (n : Nat) {u v : List Nat}, u.length = n → Wd W u → Red W u → Red W v → Eqv W u v → Trn W u v := by
  intro n
  induction n with
  | zero =>
    intro u v hn hu hr hr2 h
    have e1 := List.length_eq_zero_iff.1 hn
    have e2 : v.length = 0 := by
      unfold Red at *
      rw [← hr2, ← ell_eq h, hr, hn]
    rw [e1, List.length_eq_zero_iff.1 e2]
    exact .rf _
  | succ n ih =>
    intro u v hn hu hr hr2 h
    have hlv : v.length = n + 1 := by unfold Red at *; rw [← hr2, ← ell_eq h, hr, hn]
    cases u with
    | nil => cases hn
    | cons s a =>
      cases v with
      | nil => cases hlv
      | cons t b =>
        have hv : Wd W (t :: b) := h.wd.1 hu
        have hs : s < W.n := hu s List.mem_cons_self
        have ht : t < W.n := hv t List.mem_cons_self
        have ha : Wd W a := fun y hy => hu y (List.mem_cons_of_mem _ hy)
        have hb : Wd W b := fun y hy => hv y (List.mem_cons_of_mem _ hy)
        rw [List.length_cons] at hn hlv
        by_cases hst : s = t
        · subst hst
          have : Eqv W a b := Eqv.lcancel (x := [s]) (Wd.one hs) h
          exact (ih (by omega) ha hr.tail hr2.tail this).cons s
        · have la := hr.tail; have lb := hr2.tail
          have e1 : Eqv W (s :: (s :: a)) a := Eqv.sq (W := W) [] a hs
          have e2 : Eqv W (t :: (s :: a)) b := (h.left [t]).tr (Eqv.sq (W := W) [] b ht)
          have d1 : ell W (s :: (s :: a)) + 1 = ell W (s :: a) := by
            rw [ell_eq e1, la, hr, List.length_cons]
          have d2 : ell W (t :: (s :: a)) + 1 = ell W (s :: a) := by
            rw [ell_eq e2, lb, hr, List.length_cons]; omega
          obtain ⟨hm, c, hc, hcl⟩ := dec2 ok hu hs ht hst d1 d2
          obtain ⟨mm, hmm⟩ : ∃ mm, W.lab s t = mm + 1 := ⟨W.lab s t - 1, by omega⟩
          have hr3 : Red W (alt s t (W.lab s t) ++ c) := by
            unfold Red
            rw [← ell_eq hc, ← hcl, List.length_append, alt_len]
          have hbr := Trn.br (W := W) [] c hs ht hst hm
          simp only [List.nil_append] at hbr
          have hr4 : Red W (alt t s (W.lab s t) ++ c) := by
            unfold Red
            rw [← ell_eq hbr.eqv, hr3, List.length_append, List.length_append, alt_len, alt_len]
          rw [hmm] at hc hr3 hr4 hbr
          have f1 : alt s t (mm + 1) ++ c = s :: (alt t s mm ++ c) := rfl
          have f2 : alt t s (mm + 1) ++ c = t :: (alt s t mm ++ c) := rfl
          have t1 : Trn W a (alt t s mm ++ c) := ih (by omega) ha la (by rw [f1] at hr3; exact hr3.tail) (Eqv.lcancel (x := [s]) (Wd.one hs) hc)
          have hc2 : Eqv W (t :: b) (t :: (alt s t mm ++ c)) := h.sy.tr (hc.tr hbr.eqv)
          have t2 : Trn W b (alt s t mm ++ c) := ih (by omega) hb lb (by rw [f2] at hr4; exact hr4.tail) (Eqv.lcancel (x := [t]) (Wd.one ht) hc2)
          exact ((t1.cons s).tr hbr).tr (t2.cons t |>.sy ok)
/-! ## words within words -/
/-- what letters of a word, in their order, can do -/
def Sub (W : Wo) (r u : List Nat) : Prop := ∃ x, List.Sublist x r ∧ Eqv W x u
/-- letters of two by turns: what is by turns and shorter, from either side -/
theorem alt_sub_next (i j : Nat) : ∀ m k, k ≤ m → List.Sublist (alt i j k) (alt i j m)
  | m, 0, _ => List.nil_sublist _
  | 0, k + 1, h => by omega
  | m + 1, k + 1, h => (alt_sub_next j i m k (by omega)).cons₂ i
theorem alt_sub_other (i j : Nat) (m k : Nat) (h : k < m) : List.Sublist (alt j i k) (alt i j m) := by
  cases m with
  | zero => omega
  | succ m => exact (alt_sub_next j i m k (by omega)).cons i
/-- any letters of two are by turns, after those that fall out, with no more letters -/
theorem two_alt {i j : Nat} (hi : i < W.n) (hj : j < W.n) : ∀ x : List Nat, (∀ y ∈ x, y = i ∨ y = j) → ∃ k, k ≤ x.length ∧ (Eqv W x (alt i j k) ∨ Eqv W x (alt j i k))
  | [], _ => ⟨0, Nat.le_refl _, Or.inl (.rf _)⟩
  | y :: x, h => by
    obtain ⟨k, hk, hx⟩ := two_alt hi hj x fun z hz => h z (List.mem_cons_of_mem _ hz)
    have main : ∀ a b, a < W.n → Eqv W x (alt a b k) ∨ Eqv W x (alt b a k) → ∃ k', k' ≤ k + 1 ∧ (Eqv W (a :: x) (alt a b k') ∨ Eqv W (a :: x) (alt b a k')) := by
      intro a b ha hx
      rcases hx with h1 | h1
      · cases k with
        | zero => exact ⟨1, by omega, Or.inl (h1.left [a])⟩
        | succ k => exact ⟨k, by omega, Or.inr ((h1.left [a]).tr (Eqv.sq (W := W) [] _ ha))⟩
      · exact ⟨k + 1, by omega, Or.inl (h1.left [a])⟩
    rcases h y List.mem_cons_self with e | e
    · rw [e]
      obtain ⟨k', h1, h2⟩ := main i j hi hx
      exact ⟨k', by rw [List.length_cons]; omega, h2⟩
    · rw [e]
      obtain ⟨k', h1, h2⟩ := main j i hj hx.symm
      exact ⟨k', by rw [List.length_cons]; omega, h2.symm⟩
theorem sublist_app {x u v : List Nat} (h : List.Sublist x (u ++ v)) : ∃ a b, x = a ++ b ∧ List.Sublist a u ∧ List.Sublist b v := by
  obtain ⟨a, b, e, h1, h2⟩ := List.sublist_append_iff.1 h
  exact ⟨a, b, e, h1, h2⟩
theorem sub_trn (ok : W.Ok) {r r' : List Nat} (h : Trn W r r') {u : List Nat} (g : Sub W r u) : Sub W r' u := by
  induction h with
  | rf r => exact g
  | tr _ _ ih1 ih2 => exact ih2 (ih1 g)
  | @br a c i j hi hj hij hl =>
    obtain ⟨x, hx, he⟩ := g
    obtain ⟨x1, y, rfl, h1, h2⟩ := sublist_app hx
    obtain ⟨x2, x3, rfl, h3, h4⟩ := sublist_app h2
    have hl2 : x2.length ≤ W.lab i j := by have := h3.length_le; rwa [alt_len] at this
    obtain ⟨k, hk, hx2⟩ := two_alt hi hj x2 fun z hz => alt_mem (h3.subset hz)
    have : ∃ z, List.Sublist z (alt j i (W.lab i j)) ∧ Eqv W x2 z := by
      rcases Nat.lt_or_ge k (W.lab i j) with g | g
      · rcases hx2 with h | h
        · exact ⟨_, alt_sub_other j i _ k g, h⟩
        · exact ⟨_, alt_sub_next j i _ k (by omega), h⟩
      · have e : k = W.lab i j := by omega
        subst e
        rcases hx2 with h | h
        · have hb := Eqv.br (W := W) [] [] hi hj hij hl
          simp only [List.nil_append, List.append_nil] at hb
          exact ⟨_, List.Sublist.refl _, h.tr hb⟩
        · exact ⟨_, List.Sublist.refl _, h⟩
    obtain ⟨z, hz1, hz2⟩ := this
    exact ⟨x1 ++ (z ++ x3), h1.append (hz1.append h4), (hz2.cat x1 x3).sy.tr he⟩
/-- an element lies within another one -/
def Br (W : Wo) (u w : List Nat) : Prop := Sub W (nf W w) u
theorem Br_red (ok : W.Ok) {u w r : List Nat} (hw : Wd W w) (hr : Red W r) (h : Eqv W w r) : Br W u w ↔ Sub W r u := by
  have h1 : Trn W (nf W w) r := matsumoto ok _ rfl (nf_wd hw) (Red.nf hw) hr ((nf_eqv hw).sy.tr h)
  exact ⟨sub_trn ok h1, sub_trn ok (h1.sy ok)⟩
theorem Sub.wd {r u : List Nat} (hr : Wd W r) (h : Sub W r u) : Wd W u := by
  obtain ⟨x, h1, h2⟩ := h
  exact h2.wd.1 fun y hy => hr y (h1.subset hy)
theorem Sub.len {r u : List Nat} (h : Sub W r u) : ell W u ≤ r.length := by
  obtain ⟨x, h1, h2⟩ := h
  have := ell_le h2.sy
  have := h1.length_le
  omega
theorem Br.congr {u u' w w' : List Nat} (hw : Wd W w) (h : Eqv W u u') (g : Eqv W w w') (b : Br W u w) : Br W u' w' := by
  obtain ⟨x, h1, h2⟩ := b
  unfold Br
  rw [← nf_congr hw g]
  exact ⟨x, h1, h2.tr h⟩
/-- the shorter of an element and the one with a mirror ahead -/
theorem Sub.short (ok : W.Ok) {r u : List Nat} (hr : Wd W r) {s : Nat} (hs : s < W.n) (h : Sub W r u) (hl : ell W (s :: u) + 1 = ell W u) : Sub W r (s :: u) := by
  obtain ⟨x, h1, h2⟩ := h
  have hx : Wd W x := fun y hy => hr y (h1.subset hy)
  have h3 : ell W (s :: x) + 1 = ell W x := by
    have e1 : ell W (s :: x) = ell W (s :: u) := ell_eq (h2.left [s])
    rw [e1, ell_eq h2]; exact hl
  obtain ⟨p, y, q, e, h4, _⟩ := exch ok hx hs h3
  refine ⟨p ++ q, ?_, h4.sy.tr (h2.left [s])⟩
  refine List.Sublist.trans ?_ h1
  rw [e]
  exact (List.Sublist.refl p).append (List.sublist_cons_self y q)
/-- lifting: a mirror with which the greater one begins -/
theorem lift (ok : W.Ok) {u w : List Nat} (hw : Wd W w) {s : Nat} (hs : s < W.n) (hl : ell W (s :: w) + 1 = ell W w) :
    Br W u w ↔ (Br W u (s :: w) ∨ Br W (s :: u) (s :: w)) := by
  have hsw : Wd W (s :: w) := hw.cons hs
  have hr : Red W (s :: nf W (s :: w)) := by
    refine (Red.nf hsw).cons ?_
    have e : Eqv W (s :: nf W (s :: w)) w := ((nf_eqv hsw).sy.left [s]).tr (Eqv.sq (W := W) [] w hs)
    rw [ell_eq e, ell_nf hsw]; omega
  have he : Eqv W w (s :: nf W (s :: w)) := (Eqv.sq (W := W) [] w hs).sy.tr ((nf_eqv hsw).left [s])
  rw [Br_red ok hw hr he]
  constructor
  · rintro ⟨x, h1, h2⟩
    cases h1 with
    | cons _ h => exact Or.inl ⟨x, h, h2⟩
    | cons_cons _ h =>
      rename_i y
      exact Or.inr ⟨y, h, (Eqv.sq (W := W) [] y hs).sy.tr (h2.left [s])⟩
  · rintro (⟨x, h1, h2⟩ | ⟨x, h1, h2⟩)
    · exact ⟨x, h1.cons s, h2⟩
    · exact ⟨s :: x, h1.cons₂ s, (h2.left [s]).tr (Eqv.sq (W := W) [] u hs)⟩
open Classical in
/-- the shorter one of an element and the one with a mirror ahead -/
noncomputable def sh (W : Wo) (s : Nat) (u : List Nat) : List Nat := if ell W (s :: u) + 1 = ell W u then s :: u else u
theorem lift_sh (ok : W.Ok) {u w : List Nat} (hw : Wd W w) {s : Nat} (hs : s < W.n) (hl : ell W (s :: w) + 1 = ell W w) : Br W u w ↔ Br W (sh W s u) (s :: w) := by
  rw [lift ok hw hs hl]
  have hsw : Wd W (nf W (s :: w)) := nf_wd (hw.cons hs)
  unfold sh
  split
  · rename_i h
    exact ⟨fun g => g.elim (fun g => Sub.short ok hsw hs g h) id, Or.inr⟩
  · rename_i h
    constructor
    · rintro (g | g)
      · exact g
      · have h1 : ell W (s :: (s :: u)) + 1 = ell W (s :: u) := by
          have e1 : ell W (s :: (s :: u)) = ell W u := ell_eq (Eqv.sq (W := W) [] u hs)
          rw [e1]
          rcases ell_cons u hs with k | k
          · omega
          · exact absurd k h
        have := Sub.short ok hsw hs g h1
        obtain ⟨x, h2, h3⟩ := this
        exact ⟨x, h2, h3.tr (Eqv.sq (W := W) [] u hs)⟩
    · exact Or.inl
theorem Br_len {u w : List Nat} (hw : Wd W w) (h : Br W u w) : ell W u ≤ ell W w := by
  have := Sub.len h
  rwa [nf_len hw] at this
theorem Br_nil {u w : List Nat} (hw : Wd W w) (h0 : ell W w = 0) : Br W u w ↔ Eqv W u [] := by
  have hn : nf W w = [] := List.length_eq_zero_iff.1 (by rw [nf_len hw, h0])
  unfold Br Sub
  rw [hn]
  constructor
  · rintro ⟨x, h1, h2⟩
    rw [List.sublist_nil.1 h1] at h2
    exact h2.sy
  · intro h
    exact ⟨[], List.Sublist.refl _, h.sy⟩
end Mx
/-! beginnings of words, meets -/
namespace Mx
variable {W : Wo}
/-- an element begins with another one: lengths add up -/
def Bg (W : Wo) (u w : List Nat) : Prop := ell W u + ell W (u.reverse ++ w) = ell W w
theorem ell_split (W : Wo) {u w : List Nat} (hu : Wd W u) : ell W w ≤ ell W u + ell W (u.reverse ++ w) := by
  have h1 := ell_app W u (u.reverse ++ w)
  have h2 : Eqv W (u ++ (u.reverse ++ w)) w := by
    have := (Eqv.rev_rev' hu).right w
    rwa [List.append_assoc] at this
  rw [ell_eq h2] at h1; exact h1
theorem Bg.congr {u u' w w' : List Nat} (h : Eqv W u u') (g : Eqv W w w') (b : Bg W u w) : Bg W u' w' := by
  unfold Bg at *
  rw [← ell_eq h, ← ell_eq g, ← ell_eq (h.rev.app g)]; exact b
theorem Bg.rf {u : List Nat} (hu : Wd W u) : Bg W u u := by
  unfold Bg
  rw [ell_eq (Eqv.rev_rev hu), ell_nil]; omega
theorem Bg.nil (W : Wo) (w : List Nat) : Bg W [] w := by
  unfold Bg
  rw [ell_nil]
  show 0 + ell W w = ell W w
  omega
theorem Bg.len {u w : List Nat} (h : Bg W u w) : ell W u ≤ ell W w := by unfold Bg at h; omega
theorem Bg.anti {u w : List Nat} (hu : Wd W u) (h : Bg W u w) (g : ell W w ≤ ell W u) : Eqv W u w := by
  unfold Bg at h
  have h0 : ell W (u.reverse ++ w) = 0 := by omega
  have h1 := (ell_zero h0).left u
  rw [List.append_nil, ← List.append_assoc] at h1
  have h2 := (Eqv.rev_rev' hu).right w
  exact h1.sy.tr h2
/-- a beginning of a beginning -/
theorem Bg.tr {u v w : List Nat} (hu : Wd W u) (hv : Wd W v) (h : Bg W u v) (g : Bg W v w) : Bg W u w := by
  unfold Bg at *
  have h1 := ell_split W (w := w) hu
  have h2 := ell_app W (u.reverse ++ v) (v.reverse ++ w)
  have h3 : Eqv W (u.reverse ++ v ++ (v.reverse ++ w)) (u.reverse ++ w) := by
    have := ((Eqv.rev_rev' hv).right w).left u.reverse
    simpa only [List.append_assoc, List.nil_append] using this
  rw [ell_eq h3] at h2
  omega
/-- one mirror -/
theorem Bg.one {s : Nat} (hs : s < W.n) {w : List Nat} : Bg W [s] w ↔ ell W (s :: w) + 1 = ell W w := by
  unfold Bg
  show ell W [s] + ell W (s :: w) = ell W w ↔ _
  have : ell W [s] = 1 := by
    have := ell_cons (W := W) [] hs
    rw [ell_nil] at this
    omega
  omega
/-- a mirror ahead of both -/
theorem Bg.step {s : Nat} (hs : s < W.n) {u w : List Nat} (hu : ell W (s :: u) = ell W u + 1) (hw : ell W (s :: w) + 1 = ell W w) : Bg W (s :: u) w ↔ Bg W u (s :: w) := by
  unfold Bg
  have e : (s :: u).reverse ++ w = u.reverse ++ (s :: w) := by simp
  rw [e]; omega
theorem Bg.down {s : Nat} (hs : s < W.n) {u w : List Nat} (hu : Wd W u) (h : Bg W u w) (hl : ell W (s :: u) + 1 = ell W u) : ell W (s :: w) + 1 = ell W w :=
  (Bg.one hs).1 (Bg.tr (Wd.one hs) hu ((Bg.one hs).2 hl) h)
/-- both by turns, where both mirrors are beginnings -/
theorem Bg.two (ok : W.Ok) {s t : Nat} (hs : s < W.n) (ht : t < W.n) (hst : s ≠ t) {w : List Nat} (hw : Wd W w) (h1 : ell W (s :: w) + 1 = ell W w) (h2 : ell W (t :: w) + 1 = ell W w) :
    W.lab s t ≠ 0 ∧ Bg W (alt s t (W.lab s t)) w ∧ ell W (alt s t (W.lab s t)) = W.lab s t := by
  obtain ⟨hm, c, hc, hl⟩ := dec2 ok hw hs ht hst h1 h2
  refine ⟨hm, ?_⟩
  have a1 := ell_len W (alt s t (W.lab s t))
  have a2 := ell_app W (alt s t (W.lab s t)) c
  have a3 := ell_len W c
  have a4 := ell_eq hc
  rw [alt_len] at a1
  have hd : Wd W (alt s t (W.lab s t)) := fun x hx => by rcases alt_mem hx with e | e <;> rw [e] <;> assumption
  have a5 : Eqv W ((alt s t (W.lab s t)).reverse ++ w) c := by
    have h3 := hc.left (alt s t (W.lab s t)).reverse
    have h4 := (Eqv.rev_rev hd).right c
    rw [← List.append_assoc] at h3
    exact h3.tr h4
  have a6 := ell_eq a5
  have a7 := ell_split W (w := w) hd
  unfold Bg
  omega
/-- the greatest common beginning, found by taking mirrors that both begin with -/
noncomputable def meetF (W : Wo) : Nat → List Nat → List Nat → List Nat
  | 0, _, _ => []
  | k + 1, u, w => match (lds W u).filter (ld W w) with
    | [] => []
    | i :: _ => i :: meetF W k (i :: u) (i :: w)
noncomputable def meetW (W : Wo) (u w : List Nat) : List Nat := meetF W (ell W u) u w
theorem both_mem {u w : List Nat} {i : Nat} : i ∈ (lds W u).filter (ld W w) ↔ i < W.n ∧ ell W (i :: u) + 1 = ell W u ∧ ell W (i :: w) + 1 = ell W w := by
  rw [List.mem_filter, mem_lds, ld_iff, ld_iff, and_assoc]
theorem meet_nil {u w : List Nat} (h : (lds W u).filter (ld W w) = []) : meetW W u w = [] := by
  unfold meetW
  cases ell W u with
  | zero => rfl
  | succ k => rw [meetF, h]
theorem meet_cons {u w : List Nat} {i : Nat} {r : List Nat} (h : (lds W u).filter (ld W w) = i :: r) : meetW W u w = i :: meetW W (i :: u) (i :: w) := by
  have hb := (both_mem (W := W) (u := u) (w := w) (i := i)).1 (by rw [h]; exact List.mem_cons_self)
  unfold meetW
  rw [← hb.2.1, meetF, h]
theorem meet_wd : ∀ (n : Nat) {u w : List Nat}, ell W u = n → Wd W (meetW W u w)
  | n, u, w, hn => by
    cases hb : (lds W u).filter (ld W w) with
    | nil => rw [meet_nil hb]; exact Wd.nil
    | cons i r =>
      have := (both_mem (W := W) (u := u) (w := w) (i := i)).1 (by rw [hb]; exact List.mem_cons_self)
      rw [meet_cons hb]
      cases n with
      | zero => omega
      | succ n => exact (meet_wd n (u := i :: u) (w := i :: w) (by omega)).cons this.1
/-- it begins both, and whatever begins both begins it -/
theorem meet_spec (ok : W.Ok) : ∀ (n : Nat) {u w : List Nat}, ell W u = n → Wd W u → Wd W w →
    Bg W (meetW W u w) u ∧ Bg W (meetW W u w) w ∧ Red W (meetW W u w) ∧ ∀ x, Wd W x → Bg W x u → Bg W x w → Bg W x (meetW W u w) := by
  intro n
  induction n with
  | zero =>
    intro u w hn hu hw
    have hb : (lds W u).filter (ld W w) = [] := by rw [(lds_nil hu).2 hn]; rfl
    rw [meet_nil hb]
    refine ⟨Bg.nil W u, Bg.nil W w, ell_nil W, fun x hx h1 _ => ?_⟩
    have h2 := h1.len
    exact (Bg.nil W []).congr (ell_zero (by omega)).sy (.rf _)
  | succ n ih =>
    intro u w hn hu hw
    cases hb : (lds W u).filter (ld W w) with
    | nil =>
      rw [meet_nil hb]
      refine ⟨Bg.nil W u, Bg.nil W w, ell_nil W, fun x hx h1 h2 => ?_⟩
      rcases Nat.eq_zero_or_pos (ell W x) with h0 | h0
      · exact (Bg.nil W []).congr (ell_zero h0).sy (.rf _)
      · exfalso
        obtain ⟨y, hy, hyl⟩ := ell_red W x
        cases y with
        | nil => simp at hyl; omega
        | cons s y =>
          have hs : s < W.n := hy.wd.1 hx s List.mem_cons_self
          have h3 : Eqv W (s :: x) y := (hy.left [s]).tr (Eqv.sq (W := W) [] y hs)
          have h4 := ell_le h3
          rw [List.length_cons] at hyl
          have h5 : ell W (s :: x) + 1 = ell W x := by
            rcases ell_cons x hs with g | g <;> omega
          have := (both_mem (W := W) (u := u) (w := w) (i := s)).2 ⟨hs, h1.down hs hx h5, h2.down hs hx h5⟩
          rw [hb] at this; cases this
    | cons i r =>
      obtain ⟨hi, hiu, hiw⟩ := (both_mem (W := W) (u := u) (w := w) (i := i)).1 (by rw [hb]; exact List.mem_cons_self)
      rw [meet_cons hb]
      -- each mirror with which both begin gives a greatest one
      have sub : ∀ j, j < W.n → ell W (j :: u) + 1 = ell W u → ell W (j :: w) + 1 = ell W w →
          Wd W (meetW W (j :: u) (j :: w)) ∧ ell W (j :: meetW W (j :: u) (j :: w)) = ell W (meetW W (j :: u) (j :: w)) + 1 ∧ Red W (meetW W (j :: u) (j :: w)) ∧ Bg W (j :: meetW W (j :: u) (j :: w)) u ∧ Bg W (j :: meetW W (j :: u) (j :: w)) w ∧
            ∀ x, Wd W x → Bg W x u → Bg W x w → ell W (j :: x) + 1 = ell W x → Bg W x (j :: meetW W (j :: u) (j :: w)) := by
        intro j hj hju hjw
        obtain ⟨m1, m2, m3, m4⟩ := ih (u := j :: u) (w := j :: w) (by omega) (hu.cons hj) (hw.cons hj)
        have hmd : Wd W (meetW W (j :: u) (j :: w)) := meet_wd _ rfl
        have hup : ell W (j :: meetW W (j :: u) (j :: w)) = ell W (meetW W (j :: u) (j :: w)) + 1 := by
          rcases ell_cons (meetW W (j :: u) (j :: w)) hj with g | g
          · exact g
          · have := m1.down hj hmd g
            have e : ell W (j :: (j :: u)) = ell W u := ell_eq (Eqv.sq (W := W) [] u hj)
            omega
        refine ⟨hmd, hup, m3, (Bg.step hj hup hju).2 m1, (Bg.step hj hup hjw).2 m2, fun x hx h1 h2 h3 => ?_⟩
        have hx' : Wd W (j :: x) := hx.cons hj
        have e : Eqv W (j :: (j :: x)) x := Eqv.sq (W := W) [] x hj
        have hup' : ell W (j :: (j :: x)) = ell W (j :: x) + 1 := by rw [ell_eq e]; omega
        have g1 := (Bg.step hj hup' hju).1 (h1.congr e.sy (.rf _))
        have g2 := (Bg.step hj hup' hjw).1 (h2.congr e.sy (.rf _))
        have g3 := m4 (j :: x) hx' g1 g2
        have e2 : Eqv W (j :: (j :: meetW W (j :: u) (j :: w))) (meetW W (j :: u) (j :: w)) := Eqv.sq (W := W) [] _ hj
        have hdn : ell W (j :: (j :: meetW W (j :: u) (j :: w))) + 1 = ell W (j :: meetW W (j :: u) (j :: w)) := by rw [ell_eq e2]; omega
        have g4 := (Bg.step hj hup' hdn).2 (g3.congr (.rf _) e2.sy)
        exact g4.congr e (.rf _)
      obtain ⟨hmd, hup, hmr, b1, b2, b3⟩ := sub i hi hiu hiw
      refine ⟨b1, b2, hmr.cons hup, fun x hx h1 h2 => ?_⟩
      rcases Nat.eq_zero_or_pos (ell W x) with h0 | h0
      · exact (Bg.nil W _).congr (ell_zero h0).sy (.rf _)
      · obtain ⟨y, hy, hyl⟩ := ell_red W x
        cases y with
        | nil => simp at hyl; omega
        | cons j y =>
          have hj : j < W.n := hy.wd.1 hx j List.mem_cons_self
          have h3 : Eqv W (j :: x) y := (hy.left [j]).tr (Eqv.sq (W := W) [] y hj)
          have h4 := ell_le h3
          rw [List.length_cons] at hyl
          have h5 : ell W (j :: x) + 1 = ell W x := by
            rcases ell_cons x hj with g | g <;> omega
          have hju := h1.down hj hx h5
          have hjw := h2.down hj hx h5
          by_cases hij : i = j
          · subst hij
            exact b3 x hx h1 h2 h5
          · obtain ⟨hmd', hup', hmr', c1, c2, c3⟩ := sub j hj hju hjw
            -- both by turns begins both greatest ones
            obtain ⟨hm, t1, t3⟩ := Bg.two ok hi hj hij hu hiu hju
            obtain ⟨_, t2, _⟩ := Bg.two ok hi hj hij hw hiw hjw
            have hd : Wd W (alt i j (W.lab i j)) := fun x hx => by rcases alt_mem hx with e | e <;> rw [e] <;> assumption
            obtain ⟨mm, hmm⟩ : ∃ mm, W.lab i j = mm + 1 := ⟨W.lab i j - 1, by omega⟩
            have hb1 := Eqv.br (W := W) [] [] hi hj hij hm
            simp only [List.nil_append, List.append_nil] at hb1
            have l1 : ell W (i :: alt i j (W.lab i j)) + 1 = ell W (alt i j (W.lab i j)) := by
              have e : Eqv W (i :: alt i j (W.lab i j)) (alt j i mm) := by rw [hmm]; exact Eqv.sq (W := W) [] (alt j i mm) hi
              have := ell_le e
              rw [alt_len] at this
              rcases ell_cons (alt i j (W.lab i j)) hi with g | g <;> omega
            have l2 : ell W (j :: alt i j (W.lab i j)) + 1 = ell W (alt i j (W.lab i j)) := by
              have e : Eqv W (j :: alt i j (W.lab i j)) (alt i j mm) := by
                refine (hb1.left [j]).tr ?_
                rw [hmm]; exact Eqv.sq (W := W) [] (alt i j mm) hj
              have := ell_le e
              rw [alt_len] at this
              rcases ell_cons (alt i j (W.lab i j)) hj with g | g <;> omega
            have u1 := b3 _ hd t1 t2 l1
            have u2 := c3 _ hd t1 t2 l2
            have v1 := u1.down hj hd l2
            have v2 := u2.down hi hd l1
            -- so the one of i begins that of j, and the other way
            have w1 := b3 _ (hmd'.cons hj) c1 c2 v2
            have w2 := c3 _ (hmd.cons hi) b1 b2 v1
            have w3 := w1.anti (hmd'.cons hj) w2.len
            exact (c3 x hx h1 h2 h5).congr (.rf _) w3
end Mx
/-! # The numbers game: positions are forms on the roots -/
namespace Mx
variable {W : Wo}
def pv (n : Nat) (p v : Vc) : Gd := sm n fun k => p k * v k
def tn (W : Wo) (i : Nat) (p : Vc) : Vc := fun j => p j - W.a i j * p i
/-- a position behind mirrors, the first letter first -/
def tns (W : Wo) : List Nat → Vc → Vc
  | [], p => p
  | i :: u, p => tns W u (tn W i p)
theorem sm_pt {n i : Nat} {f : Nat → Gd} (hi : i < n) (h : ∀ k, k ≠ i → f k = 0) : sm n f = f i := by
  rw [sm_one f hi, sm_zero (f := fun k => if k = i then 0 else f k) (fun k _ => by
    by_cases e : k = i
    · rw [if_pos e]
    · rw [if_neg e, h k e])]
  grind
theorem pv_es {n i : Nat} (p : Vc) (hi : i < n) : pv n p (es i) = p i := by
  unfold pv
  rw [sm_pt hi (fun k hk => by unfold es; rw [if_neg hk]; grind)]
  unfold es; rw [if_pos rfl]; grind
theorem pv_lin (n : Nat) (p : Vc) (a b : Gd) (u v : Vc) : pv n p (lin a u b v) = a * pv n p u + b * pv n p v := by
  unfold pv lin
  rw [← sm_lin]
  exact sm_congr fun k _ => by grind
theorem mir_as (i : Nat) (v : Vc) : mir W i v = lin 1 v (- tak W i v) (es i) := by
  funext k
  unfold mir lin es
  by_cases e : k = i
  · rw [if_pos e, if_pos e, e]; grind
  · rw [if_neg e, if_neg e]; grind
theorem pv_tn {i : Nat} (hi : i < W.n) (p v : Vc) : pv W.n (tn W i p) v = pv W.n p (mir W i v) := by
  rw [mir_as, pv_lin, pv_es p hi]
  have e : pv W.n (tn W i p) v = 1 * pv W.n p v + (- p i) * tak W i v := by
    unfold pv tak tn
    rw [← sm_lin]
    exact sm_congr fun k _ => by grind
  rw [e]; grind
theorem tns_pv : ∀ {u : List Nat}, Wd W u → ∀ p v : Vc, pv W.n (tns W u p) v = pv W.n p (act W u v)
  | [], _, _, _ => rfl
  | i :: u, h, p, v => by
    have hi : i < W.n := h i List.mem_cons_self
    show pv W.n (tns W u (tn W i p)) v = pv W.n p (mir W i (act W u v))
    rw [tns_pv (fun x hx => h x (List.mem_cons_of_mem _ hx)), pv_tn hi]
theorem tns_at {u : List Nat} (h : Wd W u) (p : Vc) {k : Nat} (hk : k < W.n) : tns W u p k = pv W.n p (act W u (es k)) := by
  rw [← tns_pv h, pv_es _ hk]
theorem tns_app (W : Wo) : ∀ (u v : List Nat) (p : Vc), tns W (u ++ v) p = tns W v (tns W u p)
  | [], _, _ => rfl
  | i :: u, v, p => tns_app W u v (tn W i p)
theorem tn_tn (ok : W.Ok) (i : Nat) (p : Vc) : tn W i (tn W i p) = p := by
  funext j
  unfold tn
  rw [ok.diag]; grind
/-- games -/
inductive Play (W : Wo) : Vc → List Nat → Vc → Prop
  | nil (p : Vc) : Play W p [] p
  | cons {p : Vc} {i : Nat} {u : List Nat} {q : Vc} (hi : i < W.n) (h : sn (p i) = -1) (g : Play W (tn W i p) u q) : Play W p (i :: u) q
theorem Play.tns {p q : Vc} {u : List Nat} (h : Play W p u q) : q = Mx.tns W u p := by
  induction h with
  | nil p => rfl
  | cons hi h g ih => exact ih
theorem Play.wd {p q : Vc} {u : List Nat} (h : Play W p u q) : Wd W u := by
  induction h with
  | nil p => exact Wd.nil
  | cons hi h g ih => exact ih.cons hi
theorem Play.app {p q r : Vc} {u v : List Nat} (h : Play W p u q) (g : Play W q v r) : Play W p (u ++ v) r := by
  induction h with
  | nil p => exact g
  | cons hi h _ ih => exact .cons hi h (ih g)
theorem Play.snoc {p q : Vc} {u : List Nat} {i : Nat} (h : Play W p u q) (hi : i < W.n) (g : sn (q i) = -1) : Play W p (u ++ [i]) (tn W i q) := h.app (.cons hi g (.nil _))
theorem Play.split : ∀ {u v : List Nat} {p r : Vc}, Play W p (u ++ v) r → ∃ q, Play W p u q ∧ Play W q v r
  | [], v, p, r, h => ⟨p, .nil p, h⟩
  | i :: u, v, p, r, h => by
    cases h with
    | cons hi h g =>
      obtain ⟨q, h1, h2⟩ := Play.split (u := u) g
      exact ⟨q, .cons hi h h1, h2⟩
/-- where a root falls below 0 -/
theorem fall (ok : W.Ok) {u : List Nat} (hu : Wd W u) {i : Nat} (hi : i < W.n) (h : ell W (u ++ [i]) + 1 = ell W u) : ∃ a x b c, u = a ++ x :: b ∧ sn c = 1 ∧ ∀ k, act W u (es i) k = - (c * act W a (es x) k) := by
  have hv : Wd W u.reverse := hu.rev
  have h' : ell W (i :: u.reverse) + 1 = ell W u.reverse := by
    have e1 : (u ++ [i]).reverse = i :: u.reverse := by simp
    rw [← e1, ell_rev, ell_rev]; exact h
  generalize hU : u.reverse = v at *
  have hu2 : u = v.reverse := by rw [← hU, List.reverse_reverse]
  obtain ⟨j, hj, h1, h2⟩ := first_neg (P := fun j => ∀ k, NN (act W (v.take j).reverse (es i) k)) (n := v.length)
    (by intro k; show NN (es i k); unfold es; split; exact NN_one; exact NN_zero) (by
      intro h3
      rw [List.take_length] at h3
      refine root_ne ok hv.rev i ?_
      funext k
      exact NN_anti (h3 k) (down_neg' ok hv hi h' k))
  have hx : v[j] < W.n := hv _ (List.getElem_mem hj)
  have ht : (v.take (j + 1)).reverse = v[j] :: (v.take j).reverse := by
    rw [List.take_succ_eq_append_getElem hj, List.reverse_append]; rfl
  have hpj : Wd W (v.take j).reverse := fun y hy => hv y (List.mem_of_mem_take (List.mem_reverse.1 hy))
  have h3 : ∃ k, ¬ NN (act W (v.take (j+1)).reverse (es i) k) := by
    rcases Classical.em (∃ k, ¬ NN (act W (v.take (j+1)).reverse (es i) k)) with g | g
    · exact g
    · exact absurd (fun k => by
        rcases Classical.em (NN (act W (v.take (j+1)).reverse (es i) k)) with g2 | g2
        · exact g2
        · exact absurd ⟨k, g2⟩ g) h2
  have h4 : ∀ k, NN (- act W (v.take (j+1)).reverse (es i) k) := by
    have hp1 : Wd W (v.take (j+1)) := fun y hy => hv y (List.mem_of_mem_take hy)
    rcases root_pm ok hp1.rev hi with g | g
    · obtain ⟨k, hk⟩ := h3; exact absurd (g k) hk
    · exact g
  have h5 : ∀ k, act W (v.take j).reverse (es i) k = act W (v.take j).reverse (es i) v[j] * es v[j] k := by
    intro k
    by_cases hk : k = v[j]
    · rw [hk]; unfold es; rw [if_pos rfl]; grind
    · have h6 := h4 k
      rw [ht, act, mir_ne W _ hk] at h6
      rw [NN_anti (h1 k) h6]
      unfold es; rw [if_neg hk]; grind
  have hsplit : u = (v.drop (j + 1)).reverse ++ v[j] :: (v.take j).reverse := by
    rw [← ht, ← List.reverse_append, List.take_append_drop, hu2]
  refine ⟨(v.drop (j + 1)).reverse, v[j], (v.take j).reverse, act W (v.take j).reverse (es i) v[j], hsplit, ?_, ?_⟩
  · have h6 := h1 v[j]
    unfold NN at h6
    rcases sn_cases (act W (v.take j).reverse (es i) v[j]) with e | e | e
    · exact e
    · exfalso
      have e0 := sn_eq_zero e
      refine root_ne ok hpj i (funext fun k => ?_)
      rw [h5 k, e0]; grind
    · omega
  · intro k
    generalize hc : act W (v.take j).reverse (es i) v[j] = c at *
    have e1 : act W (v.take j).reverse (es i) = fun k => c * es v[j] k := funext h5
    have e2 : act W u (es i) = act W (v.drop (j + 1)).reverse (mir W v[j] (fun k => c * es v[j] k)) := by
      conv => lhs; rw [hsplit]
      rw [act_append]
      show act W _ (mir W v[j] (act W _ (es i))) = _
      rw [e1]
    have e3 : mir W v[j] (fun k => c * es v[j] k) = fun k => (- c) * es v[j] k := by
      have := act_smul (W := W) [v[j]] c (es v[j])
      show act W [v[j]] (fun k => c * es v[j] k) = _
      rw [this]
      show (fun k => c * mir W v[j] (es v[j]) k) = _
      rw [mir_self ok hx]
      funext k; grind
    rw [e2, e3, act_smul]
    grind
theorem pv_smul (n : Nat) (p v : Vc) (c : Gd) : pv n p (fun k => c * v k) = c * pv n p v := by
  have := pv_lin n p c 0 v v
  have e : lin c v 0 v = fun k => c * v k := by funext k; unfold lin; grind
  rw [e] at this
  rw [this]; grind
/-- what is fired is a reduced word -/
theorem Play.red (ok : W.Ok) : ∀ (n : Nat) {u : List Nat} {p q : Vc}, u.length = n → Play W p u q → Red W u
  | 0, u, p, q, hn, h => by
    rw [List.length_eq_zero_iff.1 hn]; unfold Red; rw [ell_nil]; rfl
  | n + 1, u, p, q, hn, h => by
    have hne : u ≠ [] := fun e => by rw [e] at hn; cases hn
    obtain ⟨v, i, rfl⟩ : ∃ v i, u = v ++ [i] := ⟨_, _, (List.dropLast_concat_getLast hne).symm⟩
    rw [List.length_append] at hn
    obtain ⟨q1, h1, h2⟩ := h.split
    have hv := h1.wd
    have rv := Play.red ok n (by simpa using hn) h1
    cases h2 with
    | cons hi hs g =>
      rcases ell_snoc v (s := i) (W := W) hi with e | e
      · unfold Red; rw [e, rv]; simp
      · exfalso
        obtain ⟨a, x, b, c, rfl, hc, hk⟩ := fall ok hv hi e
        obtain ⟨q2, g1, g2⟩ := h1.split
        have ha := g1.wd
        cases g2 with
        | cons hx hsx gx =>
          have e1 := tns_at hv p hi
          have e2 := tns_at ha p hx
          rw [← h1.tns] at e1
          rw [← g1.tns] at e2
          have e3 : act W (a ++ x :: b) (es i) = fun k => (- c) * act W a (es x) k := funext fun k => by rw [hk k]; grind
          rw [e3, pv_smul, ← e2] at e1
          rw [e1, sn_mul, sn_neg, hc, hsx] at hs
          exact absurd hs (by decide)
def Dom (W : Wo) (p : Vc) : Prop := ∀ i, i < W.n → NN (p i)
def Same (W : Wo) (p q : Vc) : Prop := ∀ k, k < W.n → p k = q k
theorem pv_same {p q v : Vc} (h : Same W p q) : pv W.n p v = pv W.n q v := by
  unfold pv
  exact sm_congr fun k hk => by rw [h k hk]
theorem sm_NN {n : Nat} {f : Nat → Gd} (h : ∀ k, k < n → NN (f k)) : NN (sm n f) := by
  induction n with
  | zero => exact NN_zero
  | succ n ih => exact NN_add (ih fun k hk => h k (by omega)) (h n (by omega))
theorem pv_NN {p v : Vc} (h : Dom W p) (g : ∀ k, NN (v k)) : NN (pv W.n p v) := sm_NN fun k hk => NN_mul (h k hk) (g k)
theorem back_at (ok : W.Ok) {v : List Nat} (hv : Wd W v) {p q : Vc} (h : Same W (tns W v p) q) {i : Nat} (hi : i < W.n) : p i = pv W.n q (act W v.reverse (es i)) := by
  rw [← pv_same h, tns_pv hv, act_rev' ok hv, pv_es p hi]
theorem fire_down (ok : W.Ok) {v : List Nat} (hv : Wd W v) {p q : Vc} (h : Same W (tns W v p) q) (hq : Dom W q) {i : Nat} (hi : i < W.n) (hs : sn (p i) = -1) : ell W (i :: v) + 1 = ell W v := by
  rcases ell_cons v hi with e | e
  · exfalso
    have := pv_NN hq (up_pos' ok hv hi e)
    rw [← back_at ok hv h hi] at this
    unfold NN at this
    omega
  · exact e
theorem tns_back (ok : W.Ok) (i : Nat) (v : List Nat) (p : Vc) : tns W (i :: v) (tn W i p) = tns W v p := by
  show tns W v (tn W i (tn W i p)) = _
  rw [tn_tn ok]
/-- from p so many firings, not fewer, lead to q -/
structure Mn (W : Wo) (q p : Vc) (k : Nat) : Prop where
  ex : ∃ v, Wd W v ∧ Same W (tns W v p) q ∧ ell W v = k
  mn : ∀ v, Wd W v → Same W (tns W v p) q → k ≤ ell W v
theorem Mn.step (ok : W.Ok) {q p : Vc} (hq : Dom W q) {k i : Nat} (h : Mn W q p k) (hi : i < W.n) (hs : sn (p i) = -1) : ∃ k', k = k' + 1 ∧ Mn W q (tn W i p) k' := by
  obtain ⟨v, hv, h1, h2⟩ := h.ex
  have hd := fire_down ok hv h1 hq hi hs
  refine ⟨ell W (i :: v), by omega, ⟨i :: v, hv.cons hi, by rw [tns_back ok]; exact h1, rfl⟩, fun v' hv' h' => ?_⟩
  have := h.mn (i :: v') (hv'.cons hi) h'
  have h3 := ell_cons v' hi
  omega
theorem Mn.zero (ok : W.Ok) {q p : Vc} (h : Mn W q p 0) : Same W p q := by
  obtain ⟨v, hv, h1, h2⟩ := h.ex
  have e := ell_zero h2
  intro k hk
  rw [← h1 k hk, tns_at hv p hk, e.act ok]
  exact (pv_es p hk).symm
theorem Mn.pos (ok : W.Ok) {q p : Vc} (hq : Dom W q) {k : Nat} (h : Mn W q p (k + 1)) : ∃ i, i < W.n ∧ sn (p i) = -1 := by
  obtain ⟨v, hv, h1, h2⟩ := h.ex
  cases hl : lds W v with
  | nil =>
    have := (lds_nil hv).1 hl
    omega
  | cons j r =>
    obtain ⟨hj, hd⟩ := lds_head hl
    refine ⟨j, hj, ?_⟩
    have hb := back_at ok hv h1 hj
    have hn : NN (- p j) := by
      have h3 := pv_NN hq (down_neg' ok hv hj hd)
      have e : pv W.n q (fun k => - act W v.reverse (es j) k) = - p j := by
        rw [hb]
        have := pv_smul W.n q (act W v.reverse (es j)) (-1)
        have e2 : (fun k => (-1 : Gd) * act W v.reverse (es j) k) = fun k => - act W v.reverse (es j) k := by funext k; grind
        rw [e2] at this
        rw [this]; grind
      rw [← e]; exact h3
    rcases sn_cases (p j) with e | e | e
    · exfalso
      unfold NN at hn
      rw [sn_neg] at hn
      omega
    · exfalso
      have e0 := sn_eq_zero e
      have e1 : tn W j p = p := by funext k; unfold tn; rw [e0]; grind
      have := h.mn (j :: v) (hv.cons hj) (by show Same W (tns W v (tn W j p)) q; rw [e1]; exact h1)
      omega
    · exact e
theorem Play.min (ok : W.Ok) {u : List Nat} {p q : Vc} (h : Play W p u q) (hq : Dom W q) : ∀ v, Wd W v → Same W (Mx.tns W v p) q → u.length ≤ ell W v := by
  induction h with
  | nil p => exact fun v _ _ => Nat.zero_le _
  | @cons p i u q hi hs g ih =>
    intro v hv h1
    have hd := fire_down ok hv h1 hq hi hs
    have := ih hq (i :: v) (hv.cons hi) (by rw [tns_back ok]; exact h1)
    rw [List.length_cons]; omega
theorem Play.uniq (ok : W.Ok) {u : List Nat} {p q : Vc} (h : Play W p u q) (hq : Dom W q) : ∀ v, Wd W v → Same W (Mx.tns W v p) q → ell W v ≤ u.length → Eqv W u v := by
  induction h with
  | nil p =>
    intro v hv _ hl
    exact (ell_zero (by simpa using hl)).sy
  | @cons p i u q hi hs g ih =>
    intro v hv h1 hl
    have hd := fire_down ok hv h1 hq hi hs
    rw [List.length_cons] at hl
    have := ih hq (i :: v) (hv.cons hi) (by rw [tns_back ok]; exact h1) (by omega)
    exact (this.left [i]).tr (Eqv.sq (W := W) [] v hi)
theorem Play.mn (ok : W.Ok) {u : List Nat} {p q : Vc} (h : Play W p u q) (hq : Dom W q) : Mn W q p u.length := by
  refine ⟨⟨u, h.wd, fun k _ => by rw [← h.tns], Play.red ok _ rfl h⟩, h.min ok hq⟩
theorem Mn.play (ok : W.Ok) {q p r : Vc} (hq : Dom W q) {w : List Nat} (g : Play W p w r) : ∀ {k : Nat}, Mn W q p k → ∃ k', k = k' + w.length ∧ Mn W q r k' := by
  induction g with
  | nil p => exact fun h => ⟨_, rfl, h⟩
  | @cons p i w r hi hs g ih =>
    intro k h
    obtain ⟨k1, rfl, h1⟩ := h.step ok hq hi hs
    obtain ⟨k2, rfl, h2⟩ := ih h1
    exact ⟨k2, by rw [List.length_cons]; omega, h2⟩
/-- a game that ends: no game is longer, and all that end, or are as long, end there and do the same -/
theorem games (ok : W.Ok) {p q r : Vc} {u w : List Nat} (h : Play W p u q) (hq : Dom W q) (g : Play W p w r) : w.length ≤ u.length ∧ (Dom W r ∨ u.length ≤ w.length → w.length = u.length ∧ Same W r q ∧ Eqv W w u) := by
  obtain ⟨k, hk, hr⟩ := Mn.play ok hq g (h.mn ok hq)
  refine ⟨by omega, fun hd => ?_⟩
  have k0 : k = 0 := by
    rcases hd with hd | hd
    · cases k with
      | zero => rfl
      | succ k =>
        obtain ⟨i, hi, hs⟩ := hr.pos ok hq
        have := hd i hi
        unfold NN at this
        omega
    · omega
  subst k0
  have hs := hr.zero ok
  refine ⟨by omega, hs, ?_⟩
  have hE := h.uniq ok hq w g.wd (by rw [← g.tns]; exact hs) (by rw [Play.red ok _ rfl g]; omega)
  exact hE.sy
end Mx
/-! # Sets of mirrors: shortest elements beside them, on both sides -/
namespace Mx
variable {W : Wo}
theorem Eqv.cn {u v : List Nat} (h : Eqv W u v) (s : Nat) : Eqv W (s :: u) (s :: v) := h.left [s]
/-- a word of these mirrors alone -/
def Of (J : List Nat) (u : List Nat) : Prop := ∀ x ∈ u, x ∈ J
theorem Of.app {J u v : List Nat} (h : Of J u) (g : Of J v) : Of J (u ++ v) := fun x hx => by
  rcases List.mem_append.1 hx with e | e
  · exact h x e
  · exact g x e
theorem Of.l {J u v : List Nat} (h : Of J (u ++ v)) : Of J u := fun x hx => h x (List.mem_append_left _ hx)
theorem Of.r {J u v : List Nat} (h : Of J (u ++ v)) : Of J v := fun x hx => h x (List.mem_append_right _ hx)
theorem Of.rev {J u : List Nat} (h : Of J u) : Of J u.reverse := fun x hx => h x (List.mem_reverse.1 hx)
theorem Of.wd {J u : List Nat} (hJ : Wd W J) (h : Of J u) : Wd W u := fun x hx => hJ x (h x hx)
theorem lab_ge (ok : W.Ok) {i j : Nat} (h : i ≠ j) (h0 : W.lab i j ≠ 0) : 2 ≤ W.lab i j := by
  rcases ok.off i j h with a | a | a | a | a | a | a | a <;> omega
theorem alt_both {i j : Nat} : ∀ {m : Nat}, 2 ≤ m → ∀ x, x ∈ alt i j m ↔ x = i ∨ x = j := by
  intro m hm x
  constructor
  · exact alt_mem
  · intro h
    obtain ⟨k, rfl⟩ : ∃ k, m = k + 2 := ⟨m - 2, by omega⟩
    rw [alt, alt]
    rcases h with e | e
    · rw [e]; exact List.mem_cons_self
    · rw [e]; exact List.mem_cons_of_mem _ List.mem_cons_self
theorem Trn.letters (ok : W.Ok) {u v : List Nat} (h : Trn W u v) : ∀ x, x ∈ u ↔ x ∈ v := by
  induction h with
  | rf u => exact fun x => Iff.rfl
  | tr _ _ ih1 ih2 => exact fun x => (ih1 x).trans (ih2 x)
  | @br u v i j hi hj h hl =>
    intro x
    have h2 := lab_ge ok h hl
    simp only [List.mem_append, alt_both h2]
    constructor <;> intro g <;> rcases g with g | (g | g) | g <;> simp [g]
/-- reduced words of what letters of a set make have letters of the set -/
theorem Of.red (ok : W.Ok) {J u v : List Nat} (hu : Wd W u) (h : Of J u) (e : Eqv W u v) (rv : Red W v) : Of J v := by
  obtain ⟨u', hs, h1, h2⟩ := sub_red ok _ (Nat.le_refl _) hu
  have hu' : Wd W u' := h1.wd.1 hu
  have ht := matsumoto ok _ rfl hu' h2 rv (h1.sy.tr e)
  intro x hx
  exact h x (hs.subset ((ht.letters ok x).2 hx))
theorem Of.nf (ok : W.Ok) {J u : List Nat} (hu : Wd W u) (h : Of J u) : Of J (Mx.nf W u) := h.red ok hu (nf_eqv hu) (nf_red hu)
/-- no mirror of the set ahead makes it shorter -/
def MinL (W : Wo) (J m : List Nat) : Prop := ∀ j ∈ J, ell W (j :: m) = ell W m + 1
def MinR (W : Wo) (J m : List Nat) : Prop := ∀ j ∈ J, ell W (m ++ [j]) = ell W m + 1
theorem MinL.congr {J m m' : List Nat} (h : MinL W J m) (e : Eqv W m m') : MinL W J m' := fun j hj => by
  rw [← ell_eq e, ← ell_eq (e.cn j)]; exact h j hj
theorem MinR.congr {J m m' : List Nat} (h : MinR W J m) (e : Eqv W m m') : MinR W J m' := fun j hj => by
  rw [← ell_eq e, ← ell_eq (e.right [j])]; exact h j hj
theorem MinR.rev {J m : List Nat} (h : MinR W J m) : MinL W J m.reverse := fun j hj => by
  have := h j hj
  rw [← ell_rev (W := W) (m ++ [j]), List.reverse_append] at this
  rw [ell_rev]; exact this
theorem MinL.rev {J m : List Nat} (h : MinL W J m) : MinR W J m.reverse := fun j hj => by
  have := h j hj
  rw [← ell_rev (W := W) (j :: m), List.reverse_cons] at this
  rw [ell_rev]; exact this
/-- shortest of all that mirrors of the set ahead make of it -/
def CosMin (W : Wo) (J m : List Nat) : Prop := ∀ a, Of J a → ell W m ≤ ell W (a ++ m)
theorem CosMin.add (ok : W.Ok) {J m : List Nat} (hJ : Wd W J) (hm : Wd W m) (h : CosMin W J m) : ∀ (a : List Nat), Of J a → Red W a → ell W (a ++ m) = a.length + ell W m
  | [], _, _ => by simp
  | s :: a, ha, ra => by
    have ha2 : Of J a := fun x hx => ha x (List.mem_cons_of_mem _ hx)
    have hs : s < W.n := hJ s (ha s List.mem_cons_self)
    have had := ha2.wd hJ
    have ih := CosMin.add ok hJ hm h a ha2 ra.tail
    rcases ell_cons (a ++ m) hs with e | e
    · rw [List.cons_append, e, ih, List.length_cons]; omega
    · exfalso
      have hmn := nf_eqv hm
      have e1 : Eqv W (a ++ m) (a ++ nf W m) := hmn.left a
      have e' : ell W (s :: (a ++ nf W m)) + 1 = ell W (a ++ nf W m) := by
        rw [← ell_eq e1, ← ell_eq (e1.cn s)]; exact e
      obtain ⟨p, x, q, h1, h2, h3⟩ := exch ok (had.app (nf_wd hm)) hs e'
      rcases List.append_eq_append_iff.1 h1 with ⟨c, hc1, hc2⟩ | ⟨c, hc1, hc2⟩
      · -- the letter stands in the second part
        -- p = a ++ c, nf m = c ++ x :: q
        subst hc1
        have h4 : Eqv W (s :: (a ++ m)) (a ++ (c ++ q)) := by
          rw [List.append_assoc] at h2
          exact (e1.cn s).tr h2
        have h5 : Eqv W (a.reverse ++ (s :: (a ++ m))) (c ++ q) := (h4.left a.reverse).tr (by
          have := (Eqv.rev_rev had).right (c ++ q)
          simpa [List.append_assoc] using this)
        have hof : Of J (a.reverse ++ (s :: a)) := fun y hy => by
          rcases List.mem_append.1 hy with g | g
          · exact ha2 y (List.mem_reverse.1 g)
          · exact ha y g
        have h6 := h _ hof
        have e2 : a.reverse ++ (s :: a) ++ m = a.reverse ++ (s :: (a ++ m)) := by simp
        rw [e2, ell_eq h5] at h6
        have h7 := ell_len W (c ++ q)
        have h8 := congrArg List.length hc2
        rw [nf_len hm, List.length_append, List.length_cons] at h8
        rw [List.length_append] at h7
        omega
      · -- it stands in the first part, or the parts meet
        cases c with
        | nil =>
          rw [List.append_nil] at hc1
          subst hc1
          rw [List.nil_append] at hc2
          have h4 : Eqv W (s :: (a ++ m)) (a ++ q) := (e1.left [s]).tr h2
          have h5 : Eqv W (a.reverse ++ (s :: (a ++ m))) q := (h4.left a.reverse).tr (by
            have := (Eqv.rev_rev had).right q
            simpa [List.append_assoc] using this)
          have hof : Of J (a.reverse ++ (s :: a)) := fun y hy => by
            rcases List.mem_append.1 hy with g | g
            · exact ha2 y (List.mem_reverse.1 g)
            · exact ha y g
          have h6 := h _ hof
          have e2 : a.reverse ++ (s :: a) ++ m = a.reverse ++ (s :: (a ++ m)) := by simp
          rw [e2, ell_eq h5] at h6
          have h7 := ell_len W q
          have h8 := congrArg List.length hc2
          rw [nf_len hm, List.length_cons] at h8
          omega
        | cons y c =>
          injection hc2 with hy hc2
          subst hy
          subst hc2
          -- a = p ++ x :: c, q = c ++ nf m
          have h4 : Eqv W ((s :: a) ++ nf W m) ((p ++ c) ++ nf W m) := by
            rw [List.append_assoc]; exact h2
          have h5 := h4.rcancel (nf_wd hm)
          have h6 := ell_le h5
          rw [ra, hc1] at h6
          simp only [List.length_cons, List.length_append] at h6
          omega
theorem MinL.cos (ok : W.Ok) {J m : List Nat} (hJ : Wd W J) (hm : Wd W m) (h : MinL W J m) : CosMin W J m := by
  obtain ⟨k, ⟨a, ha, hk⟩, hmin⟩ := least_of (P := fun k => ∃ a, Of J a ∧ ell W (a ++ m) = k) ⟨_, [], fun x hx => (by cases hx), rfl⟩
  have had := ha.wd hJ
  have hc : CosMin W J (a ++ m) := fun b hb => by
    rw [hk]
    exact hmin _ ⟨b ++ a, hb.app ha, by rw [List.append_assoc]⟩
  -- m is b and then the shortest one
  have hb : Of J (nf W a.reverse) := ha.rev.nf ok had.rev
  have hadd := hc.add ok hJ (had.app hm) _ hb (nf_red had.rev)
  have hE : Eqv W m (nf W a.reverse ++ (a ++ m)) := by
    have h1 := (nf_eqv (W := W) had.rev).right (a ++ m)
    have h2 := (Eqv.rev_rev had).right m
    rw [List.append_assoc] at h2
    exact (h2.sy.tr h1)
  cases hn : nf W a.reverse with
  | nil =>
    rw [hn] at hE
    intro b hb
    have := hc b hb
    rw [List.nil_append] at hE
    rw [← ell_eq hE] at this
    rw [ell_eq (hE.left b)]; exact this
  | cons s b =>
    exfalso
    rw [hn] at hb hadd hE
    have hs := hb s List.mem_cons_self
    have hsn : s < W.n := hJ s hs
    have h1 := h s hs
    have h2 : Eqv W (s :: m) (b ++ (a ++ m)) := (hE.left [s]).tr (Eqv.sq (W := W) [] _ hsn)
    have rb : Red W b := by
      have : Red W (s :: b) := hn ▸ nf_red had.rev
      exact this.tail
    have h3 := hc.add ok hJ (had.app hm) b (fun x hx => hb x (List.mem_cons_of_mem _ hx)) rb
    rw [ell_eq h2, ell_eq hE, hadd, h3, List.length_cons] at h1
    omega
theorem MinL.add (ok : W.Ok) {J m a : List Nat} (hJ : Wd W J) (hm : Wd W m) (h : MinL W J m) (ha : Of J a) : ell W (a ++ m) = ell W a + ell W m := by
  have had := ha.wd hJ
  have := (h.cos ok hJ hm).add ok hJ hm _ (ha.nf ok had) (nf_red had)
  rw [nf_len had] at this
  rw [ell_eq ((nf_eqv had).right m), this]
theorem MinR.add (ok : W.Ok) {J m b : List Nat} (hJ : Wd W J) (hm : Wd W m) (h : MinR W J m) (hb : Of J b) : ell W (m ++ b) = ell W m + ell W b := by
  have := h.rev.add ok hJ hm.rev hb.rev
  rw [← List.reverse_append, ell_rev, ell_rev, ell_rev] at this
  omega
/-- the shortest one beside a set is one alone -/
theorem cos_one (ok : W.Ok) {J a a' r r' : List Nat} (hJ : Wd W J) (ha : Of J a) (ha' : Of J a') (hr : Wd W r) (hr' : Wd W r') (h : MinL W J r) (h' : MinL W J r') (e : Eqv W (a ++ r) (a' ++ r')) : Eqv W r r' ∧ Eqv W a a' := by
  have had := ha.wd hJ
  have had' := ha'.wd hJ
  have e1 : Eqv W r ((a.reverse ++ a') ++ r') := by
    have h1 := e.left a.reverse
    have h2 := (Eqv.rev_rev had).right r
    rw [List.append_assoc] at h2 ⊢
    exact h2.sy.tr h1
  have e2 : Eqv W r' ((a'.reverse ++ a) ++ r) := by
    have h1 := e.sy.left a'.reverse
    have h2 := (Eqv.rev_rev had').right r'
    rw [List.append_assoc] at h2 ⊢
    exact h2.sy.tr h1
  have l1 := h'.add ok hJ hr' (ha.rev.app ha')
  have l2 := h.add ok hJ hr (ha'.rev.app ha)
  rw [← ell_eq e1] at l1
  rw [← ell_eq e2] at l2
  have z : ell W (a.reverse ++ a') = 0 := by omega
  have z1 := ell_zero z
  have k1 : Eqv W r r' := e1.tr (z1.right r')
  refine ⟨k1, ?_⟩
  have := z1.left a
  rw [← List.append_assoc, List.append_nil] at this
  have h3 := (Eqv.rev_rev' had).right a'
  exact (h3.sy.tr this).sy
theorem cos_oneR (ok : W.Ok) {J b b' r r' : List Nat} (hJ : Wd W J) (hb : Of J b) (hb' : Of J b') (hr : Wd W r) (hr' : Wd W r') (h : MinR W J r) (h' : MinR W J r') (e : Eqv W (r ++ b) (r' ++ b')) : Eqv W r r' ∧ Eqv W b b' := by
  have e1 : Eqv W (b.reverse ++ r.reverse) (b'.reverse ++ r'.reverse) := by
    have := e.rev
    rwa [List.reverse_append, List.reverse_append] at this
  obtain ⟨k1, k2⟩ := cos_one ok hJ hb.rev hb'.rev hr.rev hr'.rev h.rev h'.rev e1
  have k1 := k1.rev
  have k2 := k2.rev
  rw [List.reverse_reverse, List.reverse_reverse] at k1 k2
  exact ⟨k1, k2⟩
/-- a mirror ahead of a shortest one: a shortest one, or a mirror of the set behind it -/
theorem deodhar (ok : W.Ok) {J z : List Nat} {s : Nat} (hJ : Wd W J) (hz : Wd W z) (h : MinR W J z) (hs : s < W.n) : MinR W J (s :: z) ∨ ∃ t ∈ J, Eqv W (s :: z) (z ++ [t]) := by
  rcases Classical.em (MinR W J (s :: z)) with g | g
  · exact .inl g
  · right
    simp only [MinR, Classical.not_forall] at g
    obtain ⟨t, ht, hne⟩ := g
    refine ⟨t, ht, ?_⟩
    have htn : t < W.n := hJ t ht
    have h1 := h t ht
    have h2 := ell_snoc (W := W) (s :: z) htn
    have h3 := ell_cons (W := W) z hs
    have h4 := ell_cons (W := W) (z ++ [t]) hs
    have e0 : (s :: z) ++ [t] = s :: (z ++ [t]) := rfl
    rw [e0] at h2 hne
    have h5 : ell W (s :: z) = ell W z + 1 := by omega
    have h6 : ell W (s :: (z ++ [t])) + 1 = ell W (z ++ [t]) := by omega
    have hnz := nf_eqv hz
    have e1 : Eqv W (z ++ [t]) (nf W z ++ [t]) := hnz.right [t]
    have h7 : ell W (s :: (nf W z ++ [t])) + 1 = ell W (nf W z ++ [t]) := by
      rw [← ell_eq e1, ← ell_eq (e1.cn s)]; exact h6
    obtain ⟨p, x, q, k1, k2, k3⟩ := exch ok ((nf_wd hz).app (Wd.one htn)) hs h7
    rcases List.append_eq_append_iff.1 k1 with ⟨c, hc1, hc2⟩ | ⟨c, hc1, hc2⟩
    · -- p = nf z ++ c, [t] = c ++ x :: q
      cases c with
      | nil =>
        rw [List.append_nil] at hc1
        subst hc1
        injection hc2 with hx hq
        subst hx
        exact (hnz.left [s]).tr (k3.tr (hnz.sy.right [t]))
      | cons y c =>
        injection hc2 with _ hc2
        have := congrArg List.length hc2
        simp at this
    · cases c with
      | nil =>
        rw [List.append_nil] at hc1
        rw [List.nil_append] at hc2
        injection hc2 with hx hq
        subst hx
        rw [← hc1] at k3
        exact (hnz.left [s]).tr (k3.tr (hnz.sy.right [x]))
      | cons y c =>
        exfalso
        injection hc2 with hy hc2
        subst hy
        subst hc2
        have k4 : Eqv W ((s :: nf W z) ++ [t]) ((p ++ c) ++ [t]) := by
          rw [List.append_assoc]; exact k2
        have k5 := k4.rcancel (Wd.one htn)
        have k6 := ell_le k5
        rw [← ell_eq (hnz.cn s)] at k6
        have k7 := congrArg List.length hc1
        rw [nf_len hz] at k7
        simp only [List.length_append, List.length_cons] at k6 k7
        omega
/-- of the first set, a shortest one of both sides, of the last set: so that the first two are a shortest one -/
theorem both_sides (ok : W.Ok) {I J m : List Nat} (hI : Wd W I) (hJ : Wd W J) (hm : Wd W m) (h : MinR W J m) : ∀ (x : List Nat), Of I x → ∃ a b, Of I a ∧ Of J b ∧ Eqv W (x ++ m) (a ++ m ++ b) ∧ MinR W J (a ++ m)
  | [], _ => ⟨[], [], fun x hx => (by cases hx), fun x hx => (by cases hx), by simpa using Eqv.rf (W := W) m, h⟩
  | s :: x, hx => by
    obtain ⟨a, b, ha, hb, e, hmin⟩ := both_sides ok hI hJ hm h x (fun y hy => hx y (List.mem_cons_of_mem _ hy))
    have hs := hx s List.mem_cons_self
    have hsn : s < W.n := hI s hs
    have haw := (ha.wd hI).app hm
    rcases deodhar ok hJ haw hmin hsn with g | ⟨t, ht, g⟩
    · refine ⟨s :: a, b, fun y hy => ?_, hb, e.left [s], g⟩
      rcases List.mem_cons.1 hy with q | q
      · rw [q]; exact hs
      · exact ha y q
    · refine ⟨a, t :: b, ha, fun y hy => ?_, ?_, hmin⟩
      · rcases List.mem_cons.1 hy with q | q
        · rw [q]; exact ht
        · exact hb y q
      · have h1 := (e.left [s]).tr (g.right b)
        simpa [List.append_assoc] using h1
/-- what the middle carries over -/
def Ov (W : Wo) (I J m : List Nat) (i : Nat) : Prop := i ∈ I ∧ ∃ j ∈ J, Eqv W (m ++ [j] ++ m.reverse) [i]
theorem carried (ok : W.Ok) {I J m : List Nat} (hI : Wd W I) (hJ : Wd W J) (hm : Wd W m) (hL : MinL W I m) (hR : MinR W J m) : ∀ (x y : List Nat), Of I x → Red W x → Of J y → Red W y → Eqv W (x ++ m) (m ++ y) → ∀ i ∈ x, Ov W I J m i
  | [], _, _, _, _, _, _ => by intro i hi; cases hi
  | s :: x, y, hx, rx, hy, ry, e => by
    have hs := hx s List.mem_cons_self
    have hsn : s < W.n := hI s hs
    have hx2 : Of I x := fun z hz => hx z (List.mem_cons_of_mem _ hz)
    have hxd := hx2.wd hI
    have hyd := hy.wd hJ
    have hmn := nf_eqv hm
    have l1 := hL.add ok hI hm hx
    have l2 := hL.add ok hI hm hx2
    have l3 := hR.add ok hJ hm hy
    have e1 : Eqv W (m ++ y) (nf W m ++ y) := hmn.right y
    have e2 : Eqv W (s :: (m ++ y)) (x ++ m) := (e.sy.left [s]).tr (Eqv.sq (W := W) [] (x ++ m) hsn)
    have hd : ell W (s :: (nf W m ++ y)) + 1 = ell W (nf W m ++ y) := by
      rw [← ell_eq e1, ← ell_eq (e1.cn s)]
      show ell W (s :: (m ++ y)) + 1 = _
      rw [ell_eq e2, ← ell_eq e, l1, l2, rx, rx.tail, List.length_cons]; omega
    obtain ⟨p, z, q, k1, k2, k3⟩ := exch ok ((nf_wd hm).app hyd) hsn hd
    have hin : (∃ c, p = nf W m ++ c ∧ y = c ++ z :: q) ∨ ∃ c, nf W m = p ++ z :: c ∧ q = c ++ y := by
      rcases List.append_eq_append_iff.1 k1 with ⟨c, hc1, hc2⟩ | ⟨c, hc1, hc2⟩
      · exact .inl ⟨c, hc1, hc2⟩
      · cases c with
        | nil => exact .inl ⟨[], by rw [List.append_nil] at hc1 ⊢; exact hc1.symm, hc2.symm⟩
        | cons w c =>
          injection hc2 with hw hc2
          subst hw
          exact .inr ⟨c, hc1, hc2⟩
    rcases hin with ⟨c, rfl, rfl⟩ | ⟨c, hc1, rfl⟩
    · have hcz : Of J (c ++ [z] ++ c.reverse) := fun w hw => by
        simp only [List.mem_append, List.mem_reverse, List.mem_singleton] at hw
        rcases hw with (g | g) | g
        · exact hy w (by simp [g])
        · exact hy w (by simp [g])
        · exact hy w (by simp [g])
      have hcd : Wd W c := fun w hw => hyd w (by simp [hw])
      have hzn : z < W.n := hyd z (by simp)
      -- s m = m t
      have e3 : Eqv W (s :: m) (m ++ (c ++ [z] ++ c.reverse)) := by
        have h1 := k3.right c.reverse
        have h2 : Eqv W (s :: (nf W m ++ c) ++ c.reverse) (s :: nf W m) := by
          have := ((Eqv.rev_rev' hcd).left (s :: nf W m))
          simpa [List.append_assoc] using this
        have h3 := h2.sy.tr h1
        have h4 := (hmn.left [s]).tr h3
        have h5 := hmn.sy.right (c ++ [z] ++ c.reverse)
        refine h4.tr ?_
        simpa [List.append_assoc] using h5
      have htd := hcz.wd hJ
      have l4 := hR.add ok hJ hm hcz
      have l5 := hL s hs
      have l6 := ell_eq e3
      have l7 : ell W (c ++ [z] ++ c.reverse) = 1 := by omega
      have hof := hcz.nf ok htd
      have hl := nf_len htd
      have hne := nf_eqv htd
      obtain ⟨j, hj⟩ : ∃ j, nf W (c ++ [z] ++ c.reverse) = [j] := by
        rw [l7] at hl
        exact List.length_eq_one_iff.1 hl
      rw [hj] at hof hne
      have hjJ := hof j (by simp)
      have hjn : j < W.n := hJ j hjJ
      have e4 : Eqv W (s :: m) (m ++ [j]) := e3.tr (hne.left m)
      have hov : Ov W I J m s := by
        refine ⟨hs, j, hjJ, ?_⟩
        have h1 := e4.sy.right m.reverse
        have h2 : Eqv W (s :: m ++ m.reverse) [s] := (Eqv.rev_rev' hm).left [s]
        exact h1.tr h2
      -- the rest
      have hjy : Of J (j :: (c ++ z :: q)) := fun w hw => by
        rcases List.mem_cons.1 hw with g | g
        · rw [g]; exact hjJ
        · exact hy w g
      have hjyd := hjy.wd hJ
      have e5 : Eqv W (x ++ m) (m ++ nf W (j :: (c ++ z :: q))) := by
        have h1 : Eqv W (s :: (m ++ (c ++ z :: q))) (m ++ (j :: (c ++ z :: q))) := by
          have := e4.right (c ++ z :: q)
          simpa [List.append_assoc] using this
        exact (e2.sy.tr h1).tr ((nf_eqv hjyd).left m)
      intro i hi
      rcases List.mem_cons.1 hi with g | g
      · rw [g]; exact hov
      · exact carried ok hI hJ hm hL hR x _ hx2 rx.tail (hjy.nf ok hjyd) (nf_red hjyd) e5 i g
    · exfalso
      have k4 : Eqv W ((s :: nf W m) ++ y) ((p ++ c) ++ y) := by
        rw [List.append_assoc]; exact k2
      have k5 := k4.rcancel hyd
      have k6 := ell_le k5
      have k7 := congrArg List.length hc1
      rw [nf_len hm] at k7
      have k8 := hL s hs
      rw [ell_eq (hmn.cn s)] at k8
      simp only [List.length_append, List.length_cons] at k6 k7
      omega
end Mx
/-! # The diagram of some mirrors -/
namespace Mx
/-- sums over some places alone -/
theorem sm_sub : ∀ (n : Nat) (K : List Nat) (g : Nat → Gd), K.Pairwise (· < ·) → (∀ x ∈ K, x < n) → (∀ j, j < n → j ∉ K → g j = 0) → sm n g = sm K.length fun b => g (K.getD b 0)
  | 0, K, g, _, hn, _ => by
    have : K = [] := List.eq_nil_iff_forall_not_mem.2 fun x hx => absurd (hn x hx) (Nat.not_lt_zero x)
    subst this; rfl
  | n + 1, K, g, hK, hn, h0 => by
    by_cases hm : n ∈ K
    · -- it is the last one
      have hne : K ≠ [] := fun e => by rw [e] at hm; cases hm
      obtain ⟨L, z, rfl⟩ : ∃ L z, K = L ++ [z] := ⟨_, _, (List.dropLast_concat_getLast hne).symm⟩
      have hp := List.pairwise_append.1 hK
      have hz : z = n := by
        rcases List.mem_append.1 hm with h | h
        · have h1 := hp.2.2 n h z (by simp)
          have h2 := hn z (by simp)
          omega
        · exact (List.mem_singleton.1 h).symm
      subst hz
      have hL : ∀ x ∈ L, x < z := fun x hx => hp.2.2 x hx z (by simp)
      have ih := sm_sub z L g hp.1 hL fun j hj hjL => h0 j (by omega) fun h => by
        rcases List.mem_append.1 h with e | e
        · exact hjL e
        · have := List.mem_singleton.1 e; omega
      rw [sm, ih, List.length_append]
      show _ = sm (L.length + 1) _
      rw [sm]
      have e1 : (L ++ [z]).getD L.length 0 = z := by
        rw [List.getD_eq_getElem?_getD, List.getElem?_append_right (Nat.le_refl _), Nat.sub_self]; rfl
      rw [e1]
      congr 1
      refine sm_congr fun b hb => ?_
      rw [List.getD_eq_getElem?_getD, List.getD_eq_getElem?_getD, List.getElem?_append_left hb]
    · have hn' : ∀ x ∈ K, x < n := fun x hx => by
        have := hn x hx
        have : x ≠ n := fun e => hm (e ▸ hx)
        omega
      rw [sm, sm_sub n K g hK hn' (fun j hj => h0 j (by omega)), h0 n (by omega) hm]
      grind
/-- W' is the diagram of the mirrors K of W -/
structure SubD (W' W : Wo) (K : List Nat) : Prop where
  n : W'.n = K.length
  asc : K.Pairwise (· < ·)
  lt : ∀ x ∈ K, x < W.n
  a : ∀ i j, i < K.length → j < K.length → W'.a i j = W.a (K.getD i 0) (K.getD j 0)
variable {W' W : Wo} {K : List Nat}
def fK (K : List Nat) (i : Nat) : Nat := K.getD i 0
theorem fK_mem {i : Nat} (h : i < K.length) : fK K i ∈ K := by
  unfold fK
  rw [List.getD_eq_getElem?_getD, List.getElem?_eq_getElem h]
  exact List.getElem_mem h
theorem mem_fK {x : Nat} (h : x ∈ K) : ∃ i, i < K.length ∧ fK K i = x := by
  obtain ⟨i, hi, e⟩ := List.getElem_of_mem h
  refine ⟨i, hi, ?_⟩
  unfold fK
  rw [List.getD_eq_getElem?_getD, List.getElem?_eq_getElem hi]
  exact e
theorem fK_lt (hK : K.Pairwise (· < ·)) {i j : Nat} (hj : j < K.length) (h : i < j) : fK K i < fK K j := by
  unfold fK
  rw [List.getD_eq_getElem?_getD, List.getD_eq_getElem?_getD, List.getElem?_eq_getElem (by omega), List.getElem?_eq_getElem hj]
  exact List.pairwise_iff_getElem.1 hK i j (by omega) hj h
theorem fK_inj (hK : K.Pairwise (· < ·)) {i j : Nat} (hi : i < K.length) (hj : j < K.length) (h : fK K i = fK K j) : i = j := by
  rcases Nat.lt_trichotomy i j with g | g | g
  · have := fK_lt hK hj g; omega
  · exact g
  · have := fK_lt hK hi g; omega
/-- a vector of the lesser diagram, among those of the greater one -/
structure Lft (K : List Nat) (n : Nat) (v' v : Vc) : Prop where
  at_ : ∀ b, b < K.length → v (fK K b) = v' b
  off : ∀ j, j ∉ K → v j = 0
theorem Lft.mir (h : SubD W' W K) {v' v : Vc} (g : Lft K W.n v' v) {i : Nat} (hi : i < K.length) : Lft K W.n (mir W' i v') (mir W (fK K i) v) := by
  have ht : tak W (fK K i) v = tak W' i v' := by
    unfold tak
    rw [sm_sub W.n K _ h.asc h.lt (fun j _ hj => by rw [g.off j hj]; grind), h.n]
    refine sm_congr fun b hb => ?_
    have := g.at_ b hb
    unfold fK at this
    rw [this, h.a i b hi hb]; rfl
  constructor
  · intro b hb
    unfold Mx.mir
    by_cases e : b = i
    · rw [e, if_pos rfl, if_pos rfl, ht, g.at_ i hi]
    · rw [if_neg (fun z => e (fK_inj h.asc hb hi z)), if_neg e, g.at_ b hb]
  · intro j hj
    rw [mir_ne W _ (fun e => hj (by rw [e]; exact fK_mem hi)), g.off j hj]
theorem Lft.act (h : SubD W' W K) : ∀ {u : List Nat} {v' v : Vc}, (∀ x ∈ u, x < K.length) → Lft K W.n v' v → Lft K W.n (act W' u v') (act W (u.map (fK K)) v)
  | [], _, _, _, g => g
  | x :: u, _, _, hu, g => (Lft.act h (fun y hy => hu y (List.mem_cons_of_mem _ hy)) g).mir h (hu x List.mem_cons_self)
theorem Lft.es (hK : K.Pairwise (· < ·)) {n c : Nat} (hc : c < K.length) : Lft K n (Mx.es c) (Mx.es (fK K c)) := by
  constructor
  · intro b hb
    unfold Mx.es
    by_cases e : b = c
    · rw [e, if_pos rfl, if_pos rfl]
    · rw [if_neg (fun z => e (fK_inj hK hb hc z)), if_neg e]
  · intro j hj
    unfold Mx.es
    rw [if_neg (fun e => hj (by rw [e]; exact fK_mem hc))]
theorem map_wd (h : SubD W' W K) {u : List Nat} (hu : Wd W' u) : Wd W (u.map (fK K)) := fun x hx => by
  obtain ⟨y, hy, rfl⟩ := List.mem_map.1 hx
  exact h.lt _ (fK_mem (by have := hu y hy; rwa [h.n] at this))
theorem ld_sub (ok' : W'.Ok) (ok : W.Ok) (h : SubD W' W K) {u : List Nat} (hu : Wd W' u) {i : Nat} (hi : i < K.length) : ld W (u.map (fK K)) (fK K i) = ld W' u i := by
  have hu2 : ∀ x ∈ u.reverse, x < K.length := fun x hx => by
    have := hu x (List.mem_reverse.1 hx)
    rwa [h.n] at this
  have hl := Lft.act h hu2 (Lft.es (n := W.n) h.asc hi)
  have hd := map_wd h hu
  rw [Bool.eq_iff_iff, ld_dn ok hd (h.lt _ (fK_mem hi)), ld_dn ok' hu (by rw [h.n]; exact hi)]
  rw [List.map_reverse] at hl
  constructor
  · rintro ⟨k, hk⟩
    by_cases hkK : k ∈ K
    · obtain ⟨b, hb, rfl⟩ := mem_fK hkK
      rw [hl.at_ b hb] at hk
      exact ⟨b, hk⟩
    · rw [hl.off k hkK] at hk
      exact absurd NN_zero hk
  · rintro ⟨k, hk⟩
    by_cases hkK : k < K.length
    · exact ⟨fK K k, by rw [hl.at_ k hkK]; exact hk⟩
    · exfalso
      have : act W' u.reverse (es i) k = es i k := act_supp u.reverse _ hu.rev (by rw [h.n]; omega)
      rw [this] at hk
      unfold es at hk
      rw [if_neg (by omega)] at hk
      exact hk NN_zero
theorem act_keep (u : List Nat) {j : Nat} (hj : j ∉ u) (v : Vc) : act W u v j = v j := by
  induction u with
  | nil => rfl
  | cons x u ih =>
    show mir W x (act W u v) j = v j
    rw [mir_ne W _ (fun e => hj (by rw [e]; exact List.mem_cons_self))]
    exact ih fun h => hj (List.mem_cons_of_mem _ h)
theorem ld_off (ok : W.Ok) {u : List Nat} (hu : Wd W u) {j : Nat} (hj : j < W.n) (hju : j ∉ u) : ld W u j = false := by
  refine Bool.eq_false_iff.2 fun hl => ?_
  have h1 := down_neg' ok hu hj (ld_iff.1 hl) j
  rw [act_keep u.reverse (fun h => hju (List.mem_reverse.1 h))] at h1
  have : es j j = 1 := by unfold es; rw [if_pos rfl]
  rw [this] at h1
  exact absurd h1 (by unfold NN; rw [sn_neg, sn_one]; decide)
theorem asc_one {a b : List Nat} (ha : a.Pairwise (· < ·)) (hb : b.Pairwise (· < ·)) (h : ∀ x, x ∈ a ↔ x ∈ b) : a = b := by
  have hn : a.Nodup := ha.imp fun {x y} hab => by omega
  have hm : b.Nodup := hb.imp fun {x y} hab => by omega
  have hp := (List.perm_ext_iff_of_nodup hn hm).2 h
  exact List.Perm.eq_of_pairwise (le := (· < ·)) (fun x y _ _ h1 h2 => by omega) ha hb hp
theorem lds_sub (ok' : W'.Ok) (ok : W.Ok) (h : SubD W' W K) {u : List Nat} (hu : Wd W' u) : lds W (u.map (fK K)) = (lds W' u).map (fK K) := by
  have hd := map_wd h hu
  refine asc_one ?_ ?_ fun x => ?_
  · unfold lds
    exact List.pairwise_lt_range.sublist List.filter_sublist
  · rw [List.pairwise_map]
    have hp : (lds W' u).Pairwise (· < ·) := by
      unfold lds
      exact List.pairwise_lt_range.sublist List.filter_sublist
    refine List.Pairwise.imp_of_mem (fun {a b} ha hb hab => ?_) hp
    have := (mem_lds.1 hb).1
    rw [h.n] at this
    exact fK_lt h.asc this hab
  · rw [mem_lds, List.mem_map]
    constructor
    · rintro ⟨h1, h2⟩
      by_cases hx : x ∈ K
      · obtain ⟨i, hi, rfl⟩ := mem_fK hx
        rw [ld_sub ok' ok h hu hi] at h2
        exact ⟨i, mem_lds.2 ⟨by rw [h.n]; exact hi, h2⟩, rfl⟩
      · rw [ld_off ok hd h1 (fun hm => by
          obtain ⟨y, hy, e⟩ := List.mem_map.1 hm
          exact hx (e ▸ fK_mem (by have := hu y hy; rwa [h.n] at this)))] at h2
        cases h2
    · rintro ⟨i, hi, rfl⟩
      obtain ⟨h1, h2⟩ := mem_lds.1 hi
      rw [h.n] at h1
      exact ⟨h.lt _ (fK_mem h1), by rw [ld_sub ok' ok h hu h1]; exact h2⟩
theorem nf_sub (ok' : W'.Ok) (ok : W.Ok) (h : SubD W' W K) : ∀ u, Wd W' u → nf W (u.map (fK K)) = (nf W' u).map (fK K) := by
  refine nf_ind ?_ ?_
  · intro u hu hl
    rw [nf_nil hl, nf_nil (by rw [lds_sub ok' ok h hu, hl]; rfl)]; rfl
  · intro u i r hu hl ih
    have h1 : lds W (u.map (fK K)) = fK K i :: r.map (fK K) := by rw [lds_sub ok' ok h hu, hl]; rfl
    rw [nf_cons hl, nf_cons h1, List.map_cons]
    congr 1
theorem ell_sub (ok' : W'.Ok) (ok : W.Ok) (h : SubD W' W K) {u : List Nat} (hu : Wd W' u) : ell W (u.map (fK K)) = ell W' u := by
  rw [← nf_len (map_wd h hu), nf_sub ok' ok h u hu, List.length_map, nf_len hu]
theorem eqv_sub (ok' : W'.Ok) (ok : W.Ok) (h : SubD W' W K) {u v : List Nat} (hu : Wd W' u) (hv : Wd W' v) : Eqv W (u.map (fK K)) (v.map (fK K)) ↔ Eqv W' u v := by
  rw [← nf_iff (map_wd h hu) (map_wd h hv), ← nf_iff hu hv, nf_sub ok' ok h u hu, nf_sub ok' ok h v hv]
  constructor
  · intro e
    have hu' := nf_wd hu
    have hv' := nf_wd hv
    refine List.ext_getElem (by have := congrArg List.length e; simpa using this) fun k h1 h2 => ?_
    have e1 := congrArg (fun l => l[k]?) e
    simp only [List.getElem?_map, List.getElem?_eq_getElem h1, List.getElem?_eq_getElem h2, Option.map_some] at e1
    have q1 := hu' _ (List.getElem_mem h1)
    have q2 := hv' _ (List.getElem_mem h2)
    rw [h.n] at q1 q2
    exact fK_inj h.asc q1 q2 (Option.some.inj e1)
  · intro e; rw [e]
end Mx
/-! typed values, diagrams -/
namespace WM
open PySem hiding alloc ret
open PySem.Spec PyProof.Rows L2
abbrev Gd := Mx.Gd
def nW (i : Nat) : W := .int (i : Int)
def gW (p : Gd) : W := .tup [.int p.1, .int p.2]
def wdW (u : List Nat) : W := .tup (u.map nW)
/-- a vector's first n numbers -/
def rtW (n : Nat) (v : Mx.Vc) : W := .tup ((List.range n).map fun k => gW (v k))
theorem szOk_le {n : Nat} (h : n ≤ 16777216) : szOk n = true := decide_eq_true h
theorem szOk_small {n : Nat} (h : n ≤ 100000) : szOk n = true := szOk_le (by omega)
theorem rng0 {n : Nat} (h : n ≤ 16777216) : rngW 0 (n : Int) = some ((List.range n).map nW) := by
  unfold rngW szOk
  have e1 : decide (-(2 ^ 62) ≤ (0 : Int)) = true := by decide
  have e2 : decide ((0 : Int) < 2 ^ 62) = true := by decide
  have e3 : decide (-(2 ^ 62) ≤ (n : Int)) = true := decide_eq_true (by omega)
  have e4 : decide ((n : Int) < 2 ^ 62) = true := decide_eq_true (by omega)
  have e5 : decide (((n : Int) - 0).toNat ≤ 16777216) = true := decide_eq_true (by omega)
  rw [e1, e2, e3, e4, e5]
  simp [nW]
/-- range(a, b) -/
def rgN (a b : Nat) : List Nat := (List.range (b - a)).map (a + ·)
theorem rng2 {a b : Nat} (h : b ≤ 16777216) (g : a ≤ 16777216) : rngW (a : Int) (b : Int) = some ((rgN a b).map nW) := by
  unfold rngW szOk
  have e1 : decide (-(2 ^ 62) ≤ (a : Int)) = true := decide_eq_true (by omega)
  have e2 : decide ((a : Int) < 2 ^ 62) = true := decide_eq_true (by omega)
  have e3 : decide (-(2 ^ 62) ≤ (b : Int)) = true := decide_eq_true (by omega)
  have e4 : decide ((b : Int) < 2 ^ 62) = true := decide_eq_true (by omega)
  have e5 : decide (((b : Int) - a).toNat ≤ 16777216) = true := decide_eq_true (by omega)
  have e6 : ((b : Int) - a).toNat = b - a := by omega
  rw [e1, e2, e3, e4, e5, e6]
  simp [nW, rgN]
theorem mem_rgN {a b x : Nat} : x ∈ rgN a b ↔ a ≤ x ∧ x < b := by
  unfold rgN
  rw [List.mem_map]
  constructor
  · rintro ⟨k, hk, rfl⟩
    have := List.mem_range.1 hk
    omega
  · intro h
    exact ⟨x - a, List.mem_range.2 (by omega), by omega⟩
@[simp] theorem isD_nW (n : Nat) (i : Nat) : W.isD n (nW i) = true := by cases n <;> rfl
@[simp] theorem eqv_nW (i j : Nat) : W.eqv (nW i) (nW j) = decide (i = j) := by
  have h : ((i : Int) = (j : Int)) ↔ i = j := by omega
  simp only [nW, W.eqv, h]
@[simp] theorem eqv_gW (a b : Gd) : W.eqv (gW a) (gW b) = decide (a = b) := by
  have h : (a = b) ↔ (a.1 = b.1 ∧ a.2 = b.2) := ⟨fun h => by rw [h]; exact ⟨rfl, rfl⟩, fun h => Mx.Gd.ext h.1 h.2⟩
  simp only [gW, W.eqv, W.eqvs, Bool.and_true]
  by_cases h1 : a.1 = b.1 <;> by_cases h2 : a.2 = b.2 <;> simp [h, h1, h2]
@[simp] theorem isD_gW (n : Nat) (a : Gd) : W.isD (n + 1) (gW a) = true := by
  simp [gW, W.isD, W.isDs]
theorem isDs_map {α : Type} {n : Nat} {f : α → W} {xs : List α} (h : ∀ x ∈ xs, W.isD n (f x) = true) : W.isDs n (xs.map f) = true := by
  induction xs with
  | nil => rfl
  | cons x xs ih =>
    rw [List.map_cons, W.isDs, h x List.mem_cons_self, ih fun y hy => h y (List.mem_cons_of_mem _ hy)]; rfl
theorem eqvs_map {α : Type} [DecidableEq α] {f : α → W} (h : ∀ x y, W.eqv (f x) (f y) = decide (x = y)) : ∀ xs ys : List α, W.eqvs (xs.map f) (ys.map f) = decide (xs = ys)
  | [], [] => rfl
  | [], _ :: _ => by simp [W.eqvs]
  | _ :: _, [] => by simp [W.eqvs]
  | x :: xs, y :: ys => by
    rw [List.map_cons, List.map_cons, W.eqvs, h, eqvs_map h xs ys]
    by_cases h1 : x = y <;> by_cases h2 : xs = ys <;> simp [h1, h2]
@[simp] theorem isD_wdW (n : Nat) (u : List Nat) : W.isD (n + 1) (wdW u) = true := isDs_map fun x _ => isD_nW n x
@[simp] theorem eqv_wdW (u v : List Nat) : W.eqv (wdW u) (wdW v) = decide (u = v) := eqvs_map eqv_nW u v
@[simp] theorem isD_rtW (n k : Nat) (v : Mx.Vc) : W.isD (n + 2) (rtW k v) = true := isDs_map fun x _ => isD_gW n _
theorem eqv_rtW (n : Nat) (u v : Mx.Vc) : W.eqv (rtW n u) (rtW n v) = decide (∀ k, k < n → u k = v k) := by
  have e : ∀ v : Mx.Vc, rtW n v = .tup (((List.range n).map v).map gW) := fun v => by unfold rtW; rw [List.map_map]; rfl
  rw [e, e]
  show W.eqvs _ _ = _
  rw [eqvs_map eqv_gW]
  congr 1
  rw [List.map_inj_left]
  simp
theorem rtW_congr {n : Nat} {u v : Mx.Vc} (h : ∀ k, k < n → u k = v k) : rtW n u = rtW n v := by
  unfold rtW
  congr 1
  exact List.map_congr_left fun k hk => by rw [h k (List.mem_range.1 hk)]
/-! ## diagrams -/
abbrev Ed := Nat × Nat × Nat
def edW (e : Ed) : W := .tup [nW e.1, nW e.2.1, nW e.2.2]
def kvE (e : Ed) : List Key × W := ([.inl e.1, .inl e.2.1], nW e.2.2)
def prE (e : Ed) : Nat × Nat := (e.1, e.2.1)
def lkE : List Ed → Nat → Nat → Option Nat
  | [], _, _ => none
  | e :: es, a, b => if e.1 = a ∧ e.2.1 = b then some e.2.2 else lkE es a b
def labE (es : List Ed) (a b : Nat) : Nat := if a = b then 1 else (lkE es (min a b) (max a b)).getD 2
def slL (l : Nat) (lt : Bool) : Gd := if l = 2 then 0 else if l = 5 then Mx.gm else if l = 0 then -2 else if lt || decide (l = 3) then -1 else if l = 4 then -2 else -3
def slE (es : List Ed) (a b : Nat) : Gd := if a = b then 2 else slL (labE es a b) (decide (a < b))
def wo (n : Nat) (es : List Ed) : Mx.Wo := ⟨n, labE es, slE es⟩
def lbOk (l : Nat) : Prop := l = 0 ∨ l = 3 ∨ l = 4 ∨ l = 5 ∨ l = 6
def edOk (n : Nat) (e : Ed) : Prop := e.1 < e.2.1 ∧ e.2.1 < n ∧ lbOk e.2.2
structure EsOk (n : Nat) (es : List Ed) : Prop where
  ok : ∀ e ∈ es, edOk n e
  nd : (es.map prE).Nodup
  sz : n ≤ 9
theorem lk_ok {n : Nat} : ∀ {es : List Ed}, (∀ e ∈ es, edOk n e) → ∀ {a b l : Nat}, lkE es a b = some l → lbOk l
  | [], _, _, _, _, h => by cases h
  | e :: es, hs, a, b, l, h => by
    unfold lkE at h
    by_cases g : e.1 = a ∧ e.2.1 = b
    · rw [if_pos g] at h
      injection h with h
      rw [← h]; exact (hs e List.mem_cons_self).2.2
    · rw [if_neg g] at h
      exact lk_ok (fun d hd => hs d (List.mem_cons_of_mem _ hd)) h
theorem labE_sym (es : List Ed) (a b : Nat) : labE es a b = labE es b a := by
  unfold labE
  by_cases h : a = b
  · rw [if_pos h, if_pos h.symm]
  · rw [if_neg h, if_neg (fun e => h e.symm), Nat.min_comm, Nat.max_comm]
theorem labE_ok {n : Nat} {es : List Ed} (hs : ∀ e ∈ es, edOk n e) {a b : Nat} (h : a ≠ b) : labE es a b = 2 ∨ lbOk (labE es a b) := by
  unfold labE
  rw [if_neg h]
  cases hl : lkE es (min a b) (max a b) with
  | none => exact Or.inl rfl
  | some l => exact Or.inr (lk_ok hs hl)
theorem wo_ok {n : Nat} {es : List Ed} (h : EsOk n es) : (wo n es).Ok := by
  refine ⟨fun i => ?_, labE_sym es, fun i j hij => ?_⟩
  · show slE es i i = 2
    unfold slE; rw [if_pos rfl]
  · show Mx.CarP (labE es i j) (slE es i j) (slE es j i)
    unfold slE
    rw [if_neg hij, if_neg (fun e => hij e.symm), labE_sym es j i]
    have hl := labE_ok h.ok hij
    unfold lbOk at hl
    generalize labE es i j = l at hl ⊢
    rcases Nat.lt_or_gt_of_ne hij with g | g
    · rw [decide_eq_true g, decide_eq_false (by omega : ¬ j < i)]
      rcases hl with h | h | h | h | h | h <;> subst h <;> unfold Mx.CarP <;> decide
    · rw [decide_eq_true g, decide_eq_false (by omega : ¬ i < j)]
      rcases hl with h | h | h | h | h | h <;> subst h <;> unfold Mx.CarP <;> decide
/-- a diagram lives in the heap -/
structure IsDg (m : Hm) (d n : Nat) (es : List Ed) : Prop where
  at_ : ∃ k, hget m d = some (.ins 17 [.ref k, nW n]) ∧ hget m k = some (.dT (es.map kvE))
  ok : EsOk n es
theorem IsDg.up {m : Hm} {d n : Nat} {es : List Ed} (h : IsDg m d n es) (o : HOb) : IsDg (o :: m) d n es := by
  obtain ⟨⟨k, h1, h2⟩, h3⟩ := h
  exact ⟨⟨k, hget_up o h1, hget_up o h2⟩, h3⟩
theorem IsDg.wok {m : Hm} {d n : Nat} {es : List Ed} (h : IsDg m d n es) : (wo n es).Ok := wo_ok h.ok
/-- small numbers -/
def Sm (a : Gd) : Prop := (-(2 ^ 64) < a.1 ∧ a.1 < 2 ^ 64) ∧ (-(2 ^ 64) < a.2 ∧ a.2 < 2 ^ 64)
instance (a : Gd) : Decidable (Sm a) := inferInstanceAs (Decidable (_ ∧ _))
theorem slL_sm (l : Nat) (b : Bool) : Sm (slL l b) := by
  unfold slL
  (repeat' split) <;> decide
theorem sl_sm (es : List Ed) (a b : Nat) : Sm (slE es a b) := by
  unfold slE
  split
  · decide
  · exact slL_sm _ _
end WM
namespace WM
open PySem hiding alloc ret
open PySem.Spec PyProof.Rows L2
/-! ## natural numbers in the little language -/
@[simp] theorem int_cast (n : Nat) : W.int (n : Int) = nW n := Eq.trans rfl rfl
theorem nW_lit (n : Nat) : W.int (OfNat.ofNat n : Int) = nW n := rfl
@[simp] theorem cmp_eq_nn (a b : Nat) : cmpW .eq (nW a) (nW b) = some (.bl (decide (a = b))) := by
  simp only [cmpW, isD_nW, eqv_nW]; rfl
@[simp] theorem cmp_ne_nn (a b : Nat) : cmpW .ne (nW a) (nW b) = some (.bl (!decide (a = b))) := by
  simp only [cmpW, isD_nW, eqv_nW]; rfl
@[simp] theorem cmp_lt_nn (a b : Nat) : cmpW .lt (nW a) (nW b) = some (.bl (decide (a < b))) := by
  have h : ((a : Int) < b) ↔ a < b := by omega
  simp only [cmpW, nW, h]
@[simp] theorem cmp_le_nn (a b : Nat) : cmpW .le (nW a) (nW b) = some (.bl (decide (a ≤ b))) := by
  have h : ((a : Int) ≤ b) ↔ a ≤ b := by omega
  simp only [cmpW, nW, h]
@[simp] theorem cmp_gt_nn (a b : Nat) : cmpW .gt (nW a) (nW b) = some (.bl (decide (b < a))) := by
  have h : ((b : Int) < a) ↔ b < a := by omega
  simp only [cmpW, nW, h]
@[simp] theorem cmp_ge_nn (a b : Nat) : cmpW .ge (nW a) (nW b) = some (.bl (decide (b ≤ a))) := by
  have h : ((b : Int) ≤ a) ↔ b ≤ a := by omega
  simp only [cmpW, nW, h]
@[simp] theorem cmp_eq_nl (a k : Nat) : cmpW .eq (nW a) (.int (no_index (OfNat.ofNat k : Int))) = some (.bl (decide (a = OfNat.ofNat k))) := cmp_eq_nn a k
@[simp] theorem cmp_ne_nl (a k : Nat) : cmpW .ne (nW a) (.int (no_index (OfNat.ofNat k : Int))) = some (.bl (!decide (a = OfNat.ofNat k))) := cmp_ne_nn a k
@[simp] theorem cmp_lt_nl (a k : Nat) : cmpW .lt (nW a) (.int (no_index (OfNat.ofNat k : Int))) = some (.bl (decide (a < OfNat.ofNat k))) := cmp_lt_nn a k
@[simp] theorem cmp_le_nl (a k : Nat) : cmpW .le (nW a) (.int (no_index (OfNat.ofNat k : Int))) = some (.bl (decide (a ≤ OfNat.ofNat k))) := cmp_le_nn a k
@[simp] theorem cmp_gt_nl (a k : Nat) : cmpW .gt (nW a) (.int (no_index (OfNat.ofNat k : Int))) = some (.bl (decide (OfNat.ofNat k < a))) := cmp_gt_nn a k
@[simp] theorem cmp_ge_nl (a k : Nat) : cmpW .ge (nW a) (.int (no_index (OfNat.ofNat k : Int))) = some (.bl (decide (OfNat.ofNat k ≤ a))) := cmp_ge_nn a k
@[simp] theorem cmp_le_ln (a k : Nat) : cmpW .le (.int (no_index (OfNat.ofNat k : Int))) (nW a) = some (.bl (decide (OfNat.ofNat k ≤ a))) := cmp_le_nn k a
@[simp] theorem cmp_lt_ln (a k : Nat) : cmpW .lt (.int (no_index (OfNat.ofNat k : Int))) (nW a) = some (.bl (decide (OfNat.ofNat k < a))) := cmp_lt_nn k a
@[simp] theorem bin_add_nn (a b : Nat) : binW .add (nW a) (nW b) = some (nW (a + b)) := by simp only [binW, nW, Int.natCast_add]
@[simp] theorem bin_add_nl (a k : Nat) : binW .add (nW a) (.int (no_index (OfNat.ofNat k : Int))) = some (nW (a + OfNat.ofNat k)) := bin_add_nn a k
@[simp] theorem bin_add_ln (a k : Nat) : binW .add (.int (no_index (OfNat.ofNat k : Int))) (nW a) = some (nW (OfNat.ofNat k + a)) := bin_add_nn k a
@[simp] theorem bin_mod_nl (a k : Nat) : binW .mod (nW a) (.int (no_index (OfNat.ofNat (k + 1) : Int))) = some (nW (a % (OfNat.ofNat (k + 1)))) := by
  have h : decide ((0 : Int) < (OfNat.ofNat (k + 1) : Int)) = true := decide_eq_true (by show (0 : Int) < ((k + 1 : Nat) : Int); omega)
  simp only [binW, nW, h]; rfl
@[simp] theorem bin_mod_n2 (a : Nat) : binW .mod (nW a) (.int 2) = some (nW (a % 2)) := bin_mod_nl a 1
@[simp] theorem isi_nW (a : Nat) : isiW "int" (nW a) = some true := by unfold nW; simp [isiW, -int_cast]
@[simp] theorem isi_nW_b (a : Nat) : isiW "bool" (nW a) = some false := by unfold nW; simp [isiW, -int_cast]
@[simp] theorem rngM_n {n : Nat} (h : n ≤ 16777216) : rngM (.int 0) (nW n) = WM.ret ((List.range n).map nW) := by
  have := rng0 h
  simp only [nW, rngM_int, this, opt_some]
@[simp] theorem rngM_nn {a b : Nat} (h : b ≤ 16777216) (g : a ≤ 16777216) : rngM (nW a) (nW b) = WM.ret ((rgN a b).map nW) := by
  have := rng2 h g
  simp only [nW, rngM_int, this, opt_some]
@[simp] theorem rngM_ln {k b : Nat} (h : b ≤ 16777216) (g : k ≤ 16777216) : rngM (.int (no_index (OfNat.ofNat k : Int))) (nW b) = WM.ret ((rgN k b).map nW) := rngM_nn (a := k) h g
@[simp] theorem scal_nW (a : Nat) : isScal (nW a) = true := Eq.trans rfl rfl
/-! ## slices -/
def ci (i : Nat) : Int := i
def intO : W → M (Option Int)
  | .int i => WM.ret (some i)
  | _ => stuck
@[simp] theorem intO_int (i : Int) : intO (.int i) = WM.ret (some i) := by simp only [intO]
@[simp] theorem intO_nW (i : Nat) : intO (nW i) = WM.ret (some (ci i)) := by simp only [intO, nW, ci]
@[simp] theorem partM_var (i : Nat) (x : M W) : partM (.var i) x = bnd x intO := by simp only [partM]; rfl
@[simp] theorem partM_lit (w : W) (x : M W) : partM (.lit w) x = bnd x intO := by simp only [partM]; rfl
@[simp] theorem partM_bin (o : Bop) (a b : E) (x : M W) : partM (.bin o a b) x = bnd x intO := by simp only [partM]; rfl
@[simp] theorem partM_call (f : Nat) (es : List E) (x : M W) : partM (.call f es) x = bnd x intO := by simp only [partM]; rfl
@[simp] theorem partM_bi (f : Bi) (es : List E) (x : M W) : partM (.bi f es) x = bnd x intO := by simp only [partM]; rfl
@[simp] theorem partM_idx (a b : E) (x : M W) : partM (.idx a b) x = bnd x intO := by simp only [partM]; rfl
@[simp] theorem cut_take (xs : List W) (i : Nat) : cutW xs none (some (ci i)) = xs.take i := by
  unfold cutW ci
  rw [HT.sIx_none, HT.sIx_nat, List.drop_zero, Nat.sub_zero]
  by_cases h : i ≤ xs.length
  · rw [Nat.min_eq_left h]
  · rw [Nat.min_eq_right (by omega), List.take_of_length_le (Nat.le_refl _), List.take_of_length_le (by omega)]
@[simp] theorem cut_drop (xs : List W) (i : Nat) : cutW xs (some (ci i)) none = xs.drop i := by
  unfold cutW ci
  rw [HT.sIx_none, HT.sIx_nat]
  by_cases h : i ≤ xs.length
  · rw [Nat.min_eq_left h, List.take_of_length_le (by rw [List.length_drop]; omega)]
  · rw [Nat.min_eq_right (by omega), Nat.sub_self, List.take_zero, List.drop_eq_nil_of_le (by omega)]
@[simp] theorem cut_mid (xs : List W) (i j : Nat) : cutW xs (some (ci i)) (some (ci j)) = (xs.drop i).take (j - i) := by
  unfold cutW ci
  rw [HT.sIx_nat, HT.sIx_nat]
  by_cases h : i ≤ xs.length
  · rw [Nat.min_eq_left h]
    by_cases g : j ≤ xs.length
    · rw [Nat.min_eq_left g]
    · rw [Nat.min_eq_right (by omega), List.take_of_length_le (by rw [List.length_drop]; omega), List.take_of_length_le (by rw [List.length_drop]; omega)]
  · rw [List.drop_eq_nil_of_le (by omega : xs.length ≤ min i xs.length), List.drop_eq_nil_of_le (by omega : xs.length ≤ i), List.take_nil, List.take_nil]
@[simp] theorem cut_takeL (xs : List W) (k : Nat) : cutW xs none (some (no_index (OfNat.ofNat k : Int))) = xs.take (OfNat.ofNat k) := cut_take xs k
@[simp] theorem cut_dropL (xs : List W) (k : Nat) : cutW xs (some (no_index (OfNat.ofNat k : Int))) none = xs.drop (OfNat.ofNat k) := cut_drop xs k
@[simp] theorem cut_nn (xs : List W) : cutW xs none none = xs := by
  unfold cutW
  rw [HT.sIx_none, HT.sIx_none, List.drop_zero, Nat.sub_zero, List.take_length]
/-! ## words -/
theorem wd0 : W.tup [] = wdW [] := rfl
theorem wd1 (a : Nat) : W.tup [nW a] = wdW [a] := rfl
theorem wd2 (a b : Nat) : W.tup [nW a, nW b] = wdW [a, b] := rfl
@[simp] theorem wd_map (u : List Nat) : W.tup (u.map nW) = wdW u := Eq.trans rfl rfl
@[simp] theorem seqM_wd (u : List Nat) : seqM (wdW u) = WM.ret (u.map nW) := by unfold wdW; rw [seqM_tup]
@[simp] theorem seqI_wd (u : List Nat) : seqI (wdW u) = WM.ret (u.map nW) := by unfold wdW; rw [seqI_tup]
@[simp] theorem itsM_wd (f : List W → List W) (u : List Nat) : itsM f (wdW u) = WM.ret (f (u.map nW)) := by unfold wdW; rw [itsM_tup]
@[simp] theorem len_wd (u : List Nat) : biM .len [wdW u] = WM.ret (nW u.length) := by
  unfold wdW; rw [biM_len_tup, List.length_map]; rfl
@[simp] theorem list_wd (u : List Nat) : biM .list [wdW u] = WM.ret (.lst (u.map nW)) := by unfold wdW; rw [biM_list_tup]
@[simp] theorem slc_wd_take (u : List Nat) (i : Nat) : slcM (wdW u) none (some (ci i)) = WM.ret (wdW (u.take i)) := by
  unfold wdW; rw [slcM_tup, cut_take, List.map_take]
@[simp] theorem slc_wd_drop (u : List Nat) (i : Nat) : slcM (wdW u) (some (ci i)) none = WM.ret (wdW (u.drop i)) := by
  unfold wdW; rw [slcM_tup, cut_drop, List.map_drop]
@[simp] theorem slc_wd_mid (u : List Nat) (i j : Nat) : slcM (wdW u) (some (ci i)) (some (ci j)) = WM.ret (wdW ((u.drop i).take (j - i))) := by
  unfold wdW; rw [slcM_tup, cut_mid, List.map_take, List.map_drop]
@[simp] theorem slc_wd_takeL (u : List Nat) (k : Nat) : slcM (wdW u) none (some (no_index (OfNat.ofNat k : Int))) = WM.ret (wdW (u.take (OfNat.ofNat k))) := slc_wd_take u k
@[simp] theorem slc_wd_dropL (u : List Nat) (k : Nat) : slcM (wdW u) (some (no_index (OfNat.ofNat k : Int))) none = WM.ret (wdW (u.drop (OfNat.ofNat k))) := slc_wd_drop u k
@[simp] theorem rev_wd (u : List Nat) : revM (wdW u) = WM.ret (wdW u.reverse) := by
  unfold wdW; rw [revM_tup, List.map_reverse]
@[simp] theorem cmp_eq_wd (u v : List Nat) : cmpW .eq (wdW u) (wdW v) = some (.bl (decide (u = v))) := by
  simp only [cmpW, isD_wdW, eqv_wdW]; rfl
@[simp] theorem cmp_ne_wd (u v : List Nat) : cmpW .ne (wdW u) (wdW v) = some (.bl (!decide (u = v))) := by
  simp only [cmpW, isD_wdW, eqv_wdW]; rfl
@[simp] theorem bin_wd {u v : List Nat} (h : u.length + v.length ≤ 16777216) : binW .add (wdW u) (wdW v) = some (wdW (u ++ v)) := by
  have : szOk ((u.map nW).length + (v.map nW).length) = true := szOk_le (by rw [List.length_map, List.length_map]; exact h)
  simp only [binW, wdW, this, if_true, List.map_append]
@[simp] theorem isi_wd (u : List Nat) : isiW "tuple" (wdW u) = some true := by unfold wdW; simp [isiW, -wd_map]
@[simp] theorem isi_wd_i (u : List Nat) : isiW "int" (wdW u) = some false := by unfold wdW; simp [isiW, -wd_map]
@[simp] theorem isi_wd_l (u : List Nat) : isiW "list" (wdW u) = some false := by unfold wdW; simp [isiW, -wd_map]
@[simp] theorem isTup_wd (u : List Nat) : isTupW (wdW u) = true := Eq.trans rfl rfl
@[simp] theorem cmp_is_wd (u : List Nat) : cmpW .is (wdW u) .non = some (.bl false) := by unfold wdW; simp [cmpW, isNon, -wd_map]
@[simp] theorem cmp_isnot_wd (u : List Nat) : cmpW .isnot (wdW u) .non = some (.bl true) := by unfold wdW; simp [cmpW, isNon, -wd_map]
theorem get_map {α : Type} (f : α → W) (xs : List α) {k : Nat} (h : k < xs.length) : idxW (xs.map f) (nW k) = some (f xs[k]) := by
  show idxW (xs.map f) (.int (k : Int)) = _
  rw [iWk (by rw [List.length_map]; exact h), List.getElem_map]
theorem idx_wd (u : List Nat) {k : Nat} (h : k < u.length) : idxM (wdW u) (nW k) = WM.ret (nW (u.getD k 0)) := by
  unfold wdW
  rw [idxM_tup, get_map nW u h, opt_some, List.getD_eq_getElem?_getD, List.getElem?_eq_getElem h]; rfl
theorem get_rg (f : Nat → W) {n k : Nat} (h : k < n) : idxW ((List.range n).map f) (nW k) = some (f k) := by
  have := get_map f (List.range n) (k := k) (by rw [List.length_range]; exact h)
  rw [List.getElem_range] at this; exact this
theorem idx_rt (n : Nat) (v : Mx.Vc) {k : Nat} (h : k < n) : idxM (rtW n v) (nW k) = WM.ret (gW (v k)) := by
  unfold rtW
  rw [idxM_tup, get_rg _ h, opt_some]
@[simp] theorem setIR_1 (n : Nat) (a b c d y : W) (m : Hm) : setIR n 1 y (some (.lst [a, b, c, d])) m = some (.ok .non, hset m n (.lst [a, y, c, d])) := setIR_lst (xs := [a, b, c, d]) (k := 1) (by decide) (by simp)
@[simp] theorem setIR_2 (n : Nat) (a b c d y : W) (m : Hm) : setIR n 2 y (some (.lst [a, b, c, d])) m = some (.ok .non, hset m n (.lst [a, b, y, d])) := setIR_lst (xs := [a, b, c, d]) (k := 2) (by decide) (by simp)
@[simp] theorem setIR_3 (n : Nat) (a b c d y : W) (m : Hm) : setIR n 3 y (some (.lst [a, b, c, d])) m = some (.ok .non, hset m n (.lst [a, b, c, y])) := setIR_lst (xs := [a, b, c, d]) (k := 3) (by decide) (by simp)
/-! ## edges, golden numbers, vectors -/
@[simp] theorem cmp_eq_gW (a b : Gd) : cmpW .eq (gW a) (gW b) = some (.bl (decide (a = b))) := by
  simp only [cmpW, eqv_gW]
  rw [isD_gW, isD_gW]; rfl
@[simp] theorem cmp_ne_gW (a b : Gd) : cmpW .ne (gW a) (gW b) = some (.bl (!decide (a = b))) := by
  simp only [cmpW, eqv_gW]
  rw [isD_gW, isD_gW]; rfl
@[simp] theorem idx_gW0 (a : Gd) : idxM (gW a) (.int 0) = WM.ret (.int a.1) := by simp [gW]
@[simp] theorem idx_gW1 (a : Gd) : idxM (gW a) (.int 1) = WM.ret (.int a.2) := by simp [gW]
@[simp] theorem idx_ed0 (e : Ed) : idxM (edW e) (.int 0) = WM.ret (nW e.1) := by simp [edW]
@[simp] theorem idx_ed1 (e : Ed) : idxM (edW e) (.int 1) = WM.ret (nW e.2.1) := by simp [edW]
@[simp] theorem idx_ed2 (e : Ed) : idxM (edW e) (.int 2) = WM.ret (nW e.2.2) := by simp [edW]
@[simp] theorem slc_ed2 (e : Ed) : slcM (edW e) none (some 2) = WM.ret (wdW [e.1, e.2.1]) := by
  simp only [edW, slcM_tup]
  rw [show cutW [nW e.1, nW e.2.1, nW e.2.2] none (some 2) = [nW e.1, nW e.2.1, nW e.2.2].take 2 from cut_take _ 2]; rfl
@[simp] theorem cut_ed2 (e : Ed) : cutM (edW e) none (some 2) = WM.ret (wdW [e.1, e.2.1]) := by
  simp only [edW, cutM]
  rw [show cutW [nW e.1, nW e.2.1, nW e.2.2] none (some 2) = [nW e.1, nW e.2.1, nW e.2.2].take 2 from cut_take _ 2]; rfl
theorem key_wd2 (a b : Nat) : tupKey (wdW [a, b]) = some [.inl (a : Int), .inl (b : Int)] := rfl
theorem tup_gs (vs : List Gd) : W.tup (vs.map gW) = rtW vs.length (fun k => vs.getD k 0) := by
  unfold rtW
  congr 1
  refine List.ext_getElem (by simp) fun i h1 h2 => ?_
  rw [List.getElem_map, List.getElem_map, List.getElem_range]
  show _ = gW (vs.getD i 0)
  rw [List.getD_eq_getElem?_getD, List.getElem?_eq_getElem (by simpa using h1)]; rfl
/-! ## comparisons of whole numbers and others -/
@[simp] theorem cmp_eq_ii (i j : Int) : cmpW .eq (.int i) (.int j) = some (.bl (decide (i = j))) := by simp only [cmpW, W.isD, W.eqv]; rfl
@[simp] theorem cmp_ne_ii (i j : Int) : cmpW .ne (.int i) (.int j) = some (.bl (!decide (i = j))) := by simp only [cmpW, W.isD, W.eqv]; rfl
@[simp] theorem cmp_lt_ii (i j : Int) : cmpW .lt (.int i) (.int j) = some (.bl (decide (i < j))) := by simp only [cmpW]
@[simp] theorem cmp_le_ii (i j : Int) : cmpW .le (.int i) (.int j) = some (.bl (decide (i ≤ j))) := by simp only [cmpW]
@[simp] theorem cmp_gt_ii (i j : Int) : cmpW .gt (.int i) (.int j) = some (.bl (decide (j < i))) := by simp only [cmpW]
@[simp] theorem cmp_ge_ii (i j : Int) : cmpW .ge (.int i) (.int j) = some (.bl (decide (j ≤ i))) := by simp only [cmpW]
@[simp] theorem cmp_is_bb (a b : Bool) : cmpW .is (.bl a) (.bl b) = some (.bl (decide (a = b))) := by simp only [cmpW]
@[simp] theorem cmp_isnot_bb (a b : Bool) : cmpW .isnot (.bl a) (.bl b) = some (.bl (!decide (a = b))) := by simp only [cmpW]
@[simp] theorem cmp_is_n (a : W) : cmpW .is a .non = some (.bl (isNon a)) := by simp only [cmpW]
@[simp] theorem cmp_isnot_n (a : W) : cmpW .isnot a .non = some (.bl (!isNon a)) := by simp only [cmpW]
@[simp] theorem isNon_n : isNon .non = true := Eq.trans rfl rfl
@[simp] theorem isNon_nW (a : Nat) : isNon (nW a) = false := Eq.trans rfl rfl
@[simp] theorem isNon_wd (a : List Nat) : isNon (wdW a) = false := Eq.trans rfl rfl
@[simp] theorem isNon_tup (a : List W) : isNon (.tup a) = false := Eq.trans rfl rfl
@[simp] theorem isNon_lst (a : List W) : isNon (.lst a) = false := Eq.trans rfl rfl
@[simp] theorem isNon_int (a : Int) : isNon (.int a) = false := Eq.trans rfl rfl
@[simp] theorem isNon_bl (a : Bool) : isNon (.bl a) = false := Eq.trans rfl rfl
@[simp] theorem isNon_str (a : Str) : isNon (.str a) = false := Eq.trans rfl rfl
theorem cmp_ss {x y : Str} (h : PyData.strOk x = true) (g : PyData.strOk y = true) : cmpW .eq (.str x) (.str y) = some (.bl (decide (x = y))) := by
  simp only [cmpW, W.isD, W.eqv, h, g]; rfl
@[simp] theorem cmp_eq_tt (xs ys : List W) : cmpW .eq (.tup xs) (.tup ys) = if W.isDs 59 xs && W.isDs 59 ys then some (.bl (W.eqvs xs ys)) else none := by
  simp only [cmpW, W.isD, W.eqv]; rfl
@[simp] theorem cmp_ne_tt (xs ys : List W) : cmpW .ne (.tup xs) (.tup ys) = if W.isDs 59 xs && W.isDs 59 ys then some (.bl (!W.eqvs xs ys)) else none := by
  simp only [cmpW, W.isD, W.eqv]; rfl
/-! ## heaps that grew -/
theorem hget_upP {m : Hm} {n : Nat} {x : HOb} (pre : Hm) (h : hget m n = some x) : hget (pre ++ m) n = some x := by
  induction pre with
  | nil => exact h
  | cons o pre ih => exact hget_up o ih
theorem IsDg.upP {m : Hm} {d n : Nat} {es : List Ed} (h : IsDg m d n es) (pre : Hm) : IsDg (pre ++ m) d n es := by
  induction pre with
  | nil => exact h
  | cons o pre ih => exact ih.up o
theorem endR_pre {m pre : Hm} {w : W} {sg : Sg} (hw : W.rb m.length w = true) : endR false m (some (.rt w, sg, pre ++ m)) = some (.ok w, m) := by
  obtain ⟨m2, h1, h2⟩ := endR_let (k := false) (m := m) (m' := pre ++ m) (w := w) (sg := sg) (by simp) (Or.inl (by simp)) hw
  rw [h1, h2 rfl]
  simp
theorem endR_pre1 {m : Hm} {o : HOb} {w : W} {sg : Sg} (hw : W.rb m.length w = true) : endR false m (some (.rt w, sg, o :: m)) = some (.ok w, m) := endR_pre (pre := [o]) hw
@[simp] theorem rb_nW (k n : Nat) : W.rb k (nW n) = true := Eq.trans rfl rfl
theorem rbs_map {α : Type} {k : Nat} {f : α → W} (h : ∀ x, W.rb k (f x) = true) : ∀ xs : List α, W.rbs k (xs.map f) = true
  | [] => rfl
  | x :: xs => by rw [List.map_cons, W.rbs, h x, rbs_map h xs]; rfl
@[simp] theorem rb_wd (k : Nat) (u : List Nat) : W.rb k (wdW u) = true := rbs_map (rb_nW k) u
@[simp] theorem rb_gW (k : Nat) (a : Gd) : W.rb k (gW a) = true := Eq.trans rfl rfl
@[simp] theorem rb_rt (k n : Nat) (v : Mx.Vc) : W.rb k (rtW n v) = true := rbs_map (f := fun j => gW (v j)) (fun _ => rb_gW k _) _
theorem cmp_str (x y : String) (b : Bool) (h : (PyData.strOk (PySem.Str.ofString x) && PyData.strOk (PySem.Str.ofString y) && (decide (PySem.Str.ofString x = PySem.Str.ofString y) == b)) = true) : cmpW .eq (.str (PySem.Str.ofString x)) (.str (PySem.Str.ofString y)) = some (.bl b) := by
  simp only [Bool.and_eq_true, beq_iff_eq] at h
  rw [cmp_ss h.1.1 h.1.2, h.2]
@[simp] theorem asg_wd (ts : List Tg) (u : List Nat) (sg : Sg) : asgT (.t ts) (wdW u) sg = asgTs ts (u.map nW) sg := by unfold wdW; simp only [asgT]
theorem bin_mod_nn (a : Nat) {b : Nat} (h : 0 < b) : binW .mod (nW a) (nW b) = some (nW (a % b)) := by
  have h' : decide ((0 : Int) < (b : Int)) = true := decide_eq_true (by omega)
  simp only [binW, nW, h']; rfl
theorem idx_two (q x y : Nat) : idxM (wdW [x, y]) (nW (q % 2)) = WM.ret (nW (if q % 2 = 1 then y else x)) := by
  rcases Nat.mod_two_eq_zero_or_one q with hq | hq <;> rw [hq]
  · show idxM (.tup [nW x, nW y]) (.int 0) = _
    simp
  · show idxM (.tup [nW x, nW y]) (.int 1) = _
    simp
@[simp] theorem asg_v (i : Nat) (w : W) (sg : Sg) : asgT (.v i) w sg = some (sg.set i (some w)) := by simp only [asgT]
@[simp] theorem asg_t (ts : List Tg) (ws : List W) (sg : Sg) : asgT (.t ts) (.tup ws) sg = asgTs ts ws sg := by simp only [asgT]
@[simp] theorem asgTs_n (sg : Sg) : asgTs [] [] sg = some sg := by simp only [asgTs]
@[simp] theorem asgTs_v (i : Nat) (ts : List Tg) (w : W) (ws : List W) (sg : Sg) : asgTs (.v i :: ts) (w :: ws) sg = asgTs ts ws (sg.set i (some w)) := by simp only [asgTs, asgT]
@[simp] theorem setMany_n (sg : Sg) : setMany [] [] sg = some sg := by simp only [setMany]
@[simp] theorem setMany_c (i : Nat) (is : List Nat) (w : W) (ws : List W) (sg : Sg) : setMany (i :: is) (w :: ws) sg = setMany is ws (sg.set i (some w)) := by simp only [setMany]
/-- a loop over numbers -/
theorem loop_rg (P : Nat → Sg → Hm → Prop) {tg : Tg} {bd : Sg → MS} (b : Nat) : ∀ (k a : Nat) {sg : Sg} {m : Hm}, b - a = k → a ≤ b → P a sg m →
    (∀ i sg m, a ≤ i → i < b → P i sg m → ∃ sg1 sg2 m', asgT tg (nW i) sg = some sg1 ∧ (bd sg1 m = some (.nx, sg2, m') ∨ bd sg1 m = some (.cnt, sg2, m')) ∧ P (i + 1) sg2 m') →
    ∃ sg' m', loopGo tg bd ((rgN a b).map nW) sg m = some (.nx, sg', m') ∧ P b sg' m'
  | 0, a, sg, m, hk, hab, h, _ => by
    have : a = b := by omega
    subst this
    exact ⟨sg, m, by unfold rgN; rw [Nat.sub_self]; rfl, h⟩
  | k + 1, a, sg, m, hk, hab, h, hs => by
    obtain ⟨sg1, sg2, m', h1, h2, h3⟩ := hs a sg m (Nat.le_refl _) (by omega) h
    obtain ⟨sg', m'', h4, h5⟩ := loop_rg P b k (a + 1) (by omega) (by omega) h3 fun i sg m hi => hs i sg m (by omega)
    have e : rgN a b = a :: rgN (a + 1) b := by
      unfold rgN
      rw [show b - a = (b - (a + 1)) + 1 by omega, List.range_succ_eq_map, List.map_cons, List.map_map]
      congr 1
      refine List.map_congr_left fun k _ => ?_
      show a + (k + 1) = a + 1 + k
      omega
    refine ⟨sg', m'', ?_, h5⟩
    rw [e, List.map_cons, loop_cons h1]
    rcases h2 with h2 | h2 <;> rw [h2]
    · rw [turnS_nx, h4]
    · rw [turnS_cnt, h4]
theorem rg0 (n : Nat) : rgN 0 n = List.range n := by
  unfold rgN
  rw [Nat.sub_zero]
  have : (fun x => 0 + x) = (id : Nat → Nat) := by funext x; exact Nat.zero_add x
  rw [this, List.map_id]
mutual
theorem rb_le {k k' : Nat} (hk : k ≤ k') : ∀ w : W, W.rb k w = true → W.rb k' w = true
  | .ref n, h => by
    unfold W.rb at *
    exact decide_eq_true (Nat.lt_of_lt_of_le (of_decide_eq_true h) hk)
  | .tup xs, h => by unfold W.rb at *; exact rbs_le hk xs h
  | .lst xs, h => by unfold W.rb at *; exact rbs_le hk xs h
  | .klst xs, h => by unfold W.rb at *; exact rbs_le hk xs h
  | .dct ks vs, h => by
    unfold W.rb at *
    rw [Bool.and_eq_true] at *
    exact ⟨rbs_le hk ks h.1, rbs_le hk vs h.2⟩
  | .ins _ fs, h => by unfold W.rb at *; exact rbs_le hk fs h
  | .non, _ => rfl
  | .bl _, _ => rfl
  | .int _, _ => rfl
  | .str _, _ => rfl
theorem rbs_le {k k' : Nat} (hk : k ≤ k') : ∀ ws : List W, W.rbs k ws = true → W.rbs k' ws = true
  | [], _ => rfl
  | w :: ws, h => by
    unfold W.rbs at *
    rw [Bool.and_eq_true] at *
    exact ⟨rb_le hk w h.1, rbs_le hk ws h.2⟩
end
theorem allrb_le {k k' : Nat} (hk : k ≤ k') {m : Hm} (h : m.all (HOb.rb k) = true) : m.all (HOb.rb k') = true := by
  rw [List.all_eq_true] at *
  exact fun o ho => rbs_le hk _ (h o ho)
theorem endR_top {m m' pre : Hm} {w : W} {sg : Sg} (hl : m'.length = m.length) (hm : m'.all (HOb.rb m.length) = true) (hw : W.rb m.length w = true) : endR false m (some (.rt w, sg, pre ++ m')) = some (.ok w, m') := by
  have e : (pre ++ m').drop ((pre ++ m').length - m.length) = m' := by
    rw [List.length_append, hl, Nat.add_sub_cancel]; simp
  obtain ⟨m2, h1, h2⟩ := endR_let (k := false) (m := m) (m' := pre ++ m') (w := w) (sg := sg) (by simp; omega) (Or.inr (by rw [e]; exact hm)) hw
  rw [h1, h2 rfl, e]
theorem comp_lst (xs : List W) (g : W → W) {tg : Tg} {sg : Sg} {tst elt : Sg → M W} {m : Hm}
    (h : ∀ x ∈ xs, ∃ sg', asgT tg x sg = some sg' ∧ tst sg' m = some (.ok (.bl true), m) ∧ elt sg' m = some (.ok (g x), m)) :
    compGo tg sg tst elt xs m = some (.ok (xs.map g), m) := by
  have := comp_all id xs g h
  rwa [List.map_id] at this
theorem comp_lstp (xs : List W) (p : W → Bool) (g : W → W) {tg : Tg} {sg : Sg} {tst elt : Sg → M W} {m : Hm}
    (h : ∀ x ∈ xs, ∃ sg', asgT tg x sg = some sg' ∧ tst sg' m = some (.ok (.bl (p x)), m) ∧ (p x = true → elt sg' m = some (.ok (g x), m))) :
    compGo tg sg tst elt xs m = some (.ok ((xs.filter p).map g), m) := by
  have := comp_map id xs p g h
  rwa [List.map_id] at this
@[simp] theorem cmp_eq_bb (a b : Bool) : cmpW .eq (.bl a) (.bl b) = some (.bl (a == b)) := by simp only [cmpW, W.isD, W.eqv]; rfl
theorem idx_k {xs : List W} {k : Nat} (h : k < xs.length) : idxW xs (nW k) = some (xs[k]) := iWk h
@[simp] theorem cmp_ne_bb (a b : Bool) : cmpW .ne (.bl a) (.bl b) = some (.bl (!(a == b))) := by simp only [cmpW, W.isD, W.eqv]; rfl
/-! ## while, enumerate, zip, sequences of numbers -/
@[simp] theorem evS_while (T : Tab) (C : Calls) (c : E) (b : List WM.S) (sg : Sg) : evS T C (.while c b) sg = whileL (evE T C c) (evSs T C b) sg := by simp only [evS]
theorem while_run (P : Nat → Sg → Hm → Prop) {c : Sg → M W} {b : Sg → MS} (h0 : ∀ sg m, P 0 sg m → c sg m = some (.ok (.bl false), m))
    (hs : ∀ k sg m, P (k + 1) sg m → c sg m = some (.ok (.bl true), m) ∧ ∃ sg2 m', (b sg m = some (.nx, sg2, m') ∨ b sg m = some (.cnt, sg2, m')) ∧ P k sg2 m') :
    ∀ (k : Nat) {sg : Sg} {m : Hm}, P k sg m → ∃ sg' m', whileL c b sg m = some (.nx, sg', m') ∧ P 0 sg' m' := by
  have key : ∀ (k : Nat) (sg : Sg) (m : Hm), P k sg m → ∃ sg' m', whileF c b (k + 1) sg m = some (.nx, sg', m') ∧ P 0 sg' m' := by
    intro k
    induction k with
    | zero =>
      intro sg m h
      refine ⟨sg, m, ?_, h⟩
      rw [whileF, lft_ap, h0 sg m h, lftR_ok]
    | succ k ih =>
      intro sg m h
      obtain ⟨h1, sg2, m', h2, h3⟩ := hs k sg m h
      obtain ⟨sg', m'', h4, h5⟩ := ih sg2 m' h3
      refine ⟨sg', m'', ?_, h5⟩
      rw [whileF, lft_ap, h1, lftR_ok]
      show turnS (b sg m) _ = _
      rcases h2 with h2 | h2 <;> rw [h2]
      · rw [turnS_nx, h4]
      · rw [turnS_cnt, h4]
  intro k sg m h
  obtain ⟨sg', m', h1, h2⟩ := key k sg m h
  exact ⟨sg', m', whileL_some h1, h2⟩
theorem hget_mid (pre : Hm) (o : HOb) (m : Hm) : hget (pre ++ o :: m) m.length = some o := by
  induction pre with
  | nil => exact hget_new o m
  | cons x pre ih =>
    rw [List.cons_append]
    exact hget_up x ih
theorem hset_mid (pre : Hm) (o u : HOb) (m : Hm) : hset (pre ++ o :: m) m.length u = pre ++ u :: m := by
  induction pre with
  | nil => exact hset_new o u m
  | cons x pre ih =>
    rw [List.cons_append]
    unfold hset
    rw [if_neg (by rw [List.length_append, List.length_cons]; omega), ih]; rfl
theorem enW_rg (n : Nat) (g : Nat → W) : enW ((List.range n).map g) = (List.range n).map fun k => W.tup [nW k, g k] := by
  unfold enW
  refine List.ext_getElem (by simp) fun i h1 h2 => ?_
  simp [nW, -int_cast]
theorem ziW_rg (n : Nat) (f g : Nat → W) : ziW ((List.range n).map f) ((List.range n).map g) = (List.range n).map fun k => W.tup [f k, g k] := by
  unfold ziW
  refine List.ext_getElem (by simp) fun i h1 h2 => ?_
  simp
def zipM (x y : W) : M (List W) := match x, y with
  | .tup xs, .tup ys => WM.ret (ziW xs ys)
  | .lst xs, .lst ys => WM.ret (ziW xs ys)
  | _, _ => stuck
@[simp] theorem zipM_tt (xs ys : List W) : zipM (.tup xs) (.tup ys) = WM.ret (ziW xs ys) := by simp only [zipM]
@[simp] theorem zipM_ll (xs ys : List W) : zipM (.lst xs) (.lst ys) = WM.ret (ziW xs ys) := by simp only [zipM]
@[simp] theorem evI_szip (T : Tab) (C : Calls) (a b : E) (sg : Sg) : evI T C (.szip a b) sg = bnd (evE T C a sg) fun x => bnd (evE T C b sg) fun y => zipM x y := by simp only [evI]; rfl
@[simp] theorem zipM_rt (n : Nat) (u v : Mx.Vc) : zipM (rtW n u) (rtW n v) = WM.ret ((List.range n).map fun k => W.tup [gW (u k), gW (v k)]) := by
  unfold rtW; rw [zipM_tt, ziW_rg]
@[simp] theorem seqI_rt (n : Nat) (v : Mx.Vc) : seqI (rtW n v) = WM.ret ((List.range n).map fun k => gW (v k)) := by unfold rtW; rw [seqI_tup]
@[simp] theorem tup_rt (n : Nat) (v : Mx.Vc) : W.tup ((List.range n).map fun k => gW (v k)) = rtW n v := Eq.trans rfl rfl
theorem in_ints (n : Nat) (a : Int) (f : Nat → Int) : inW false (.int a) ((List.range n).map fun k => W.int (f k)) = some ((List.range n).any fun k => decide (f k = a)) := by
  have h : W.isDs 57 ((List.range n).map fun k => W.int (f k)) = true := isDs_map fun _ _ => rfl
  have h2 : ((List.range n).map fun k => W.int (f k)).any (fun y => W.eqv y (.int a)) = (List.range n).any fun k => decide (f k = a) := by
    rw [List.any_map]; rfl
  unfold inW
  rw [h, h2]
  rfl
theorem in_wd (a : Nat) (u : List Nat) : inW true (nW a) (u.map nW) = some (u.any fun b => decide (b = a)) := by
  have h : (u.map nW).all isScal = true := by rw [List.all_map, List.all_eq_true]; intro x _; rfl
  have h2 : (u.map nW).any (fun y => W.eqv y (nW a)) = u.any fun b => decide (b = a) := by
    rw [List.any_map]
    congr 1
    funext b
    exact eqv_nW b a
  unfold inW
  rw [if_pos rfl, scal_nW, h, h2]
  rfl
/-! ## how great the numbers are -/
def Bv (B : Nat) (v : Mx.Vc) : Prop := ∀ k, bd B (v k).1 ∧ bd B (v k).2
theorem slE_cases (es : List Ed) (a b : Nat) : slE es a b = ((2 : Int), (0 : Int)) ∨ slE es a b = ((0 : Int), (0 : Int)) ∨ slE es a b = ((0 : Int), (-1 : Int)) ∨ slE es a b = ((-2 : Int), (0 : Int)) ∨ slE es a b = ((-1 : Int), (0 : Int)) ∨ slE es a b = ((-3 : Int), (0 : Int)) := by
  unfold slE slL
  (repeat' split) <;> first
    | exact Or.inl rfl
    | exact Or.inr (Or.inl rfl)
    | exact Or.inr (Or.inr (Or.inl rfl))
    | exact Or.inr (Or.inr (Or.inr (Or.inl rfl)))
    | exact Or.inr (Or.inr (Or.inr (Or.inr (Or.inl rfl))))
    | exact Or.inr (Or.inr (Or.inr (Or.inr (Or.inr rfl))))
theorem bd_sl {es : List Ed} {a b B : Nat} {x : Gd} (h1 : bd B x.1) (h2 : bd B x.2) : (slE es a b * x).1.natAbs ≤ 3 * 2 ^ B ∧ (slE es a b * x).2.natAbs ≤ 3 * 2 ^ B := by
  unfold bd at h1 h2
  rw [Mx.mul_1, Mx.mul_2]
  generalize 2 ^ B = P at *
  rcases slE_cases es a b with h | h | h | h | h | h <;> rw [h] <;> simp only [] <;> omega
theorem bd_sm {B : Nat} {f : Nat → Gd} : ∀ n, (∀ j, (f j).1.natAbs ≤ 3 * 2 ^ B ∧ (f j).2.natAbs ≤ 3 * 2 ^ B) → (Mx.sm n f).1.natAbs ≤ n * (3 * 2 ^ B) ∧ (Mx.sm n f).2.natAbs ≤ n * (3 * 2 ^ B)
  | 0, _ => ⟨by show (0 : Int).natAbs ≤ _; simp, by show (0 : Int).natAbs ≤ _; simp⟩
  | n + 1, h => by
    have := bd_sm n h
    have := h n
    rw [Mx.sm, Mx.add_1, Mx.add_2, Nat.succ_mul]
    omega
theorem Bv_mir {n B : Nat} {es : List Ed} {i : Nat} {v : Mx.Vc} (hn : n ≤ 9) (h : Bv B v) : Bv (B + 6) (Mx.mir (wo n es) i v) := by
  intro k
  have ht := bd_sm (B := B) (f := fun j => slE es i j * v j) n fun j => bd_sl (h j).1 (h j).2
  have h1 := h k
  have h2 := h i
  have h3 : n * (3 * 2 ^ B) ≤ 27 * 2 ^ B := by
    have := Nat.mul_le_mul_right (3 * 2 ^ B) hn
    omega
  unfold Mx.mir
  split
  · rw [Mx.sub_1, Mx.sub_2]
    unfold bd at *
    rw [Nat.pow_add]
    have e : Mx.tak (wo n es) i v = Mx.sm n fun j => slE es i j * v j := rfl
    rw [e]
    generalize Mx.sm n (fun j => slE es i j * v j) = s at *
    generalize n * (3 * 2 ^ B) = N at *
    generalize 2 ^ B = P at *
    omega
  · exact ⟨bd_mono h1.1 (by omega), bd_mono h1.2 (by omega)⟩
theorem Bv_act {n B : Nat} {es : List Ed} {v : Mx.Vc} (hn : n ≤ 9) (h : Bv B v) : ∀ u : List Nat, Bv (B + 6 * u.length) (Mx.act (wo n es) u v)
  | [] => h
  | x :: u => by
    have := Bv_mir (i := x) (es := es) hn (Bv_act (es := es) hn h u)
    rw [List.length_cons, show B + 6 * (u.length + 1) = B + 6 * u.length + 6 by omega]
    exact this
theorem Bv_es (i : Nat) : Bv 1 (Mx.es i) := by
  intro k
  unfold Mx.es
  split <;> exact ⟨by unfold bd; decide, by unfold bd; decide⟩
theorem Bv_le {B B' : Nat} {v : Mx.Vc} (h : Bv B v) (g : B ≤ B') : Bv B' v := fun k => ⟨bd_mono (h k).1 g, bd_mono (h k).2 g⟩
theorem Bv_root {n : Nat} {es : List Ed} (hn : n ≤ 9) {u : List Nat} (hu : u.length ≤ 60000) (i : Nat) : Bv 400000 (Mx.act (wo n es) u (Mx.es i)) := Bv_le (Bv_act hn (Bv_es i) u) (by omega)
theorem hget_mid_ne {x o o' : HOb} {m : Hm} {n : Nat} (hne : n ≠ m.length) : ∀ pre : Hm, hget (pre ++ o :: m) n = some x → hget (pre ++ o' :: m) n = some x
  | [], hw => by
    rw [List.nil_append] at hw ⊢
    unfold hget at hw ⊢
    rw [if_neg hne] at hw ⊢
    exact hw
  | p :: pre, hw => by
    rw [List.cons_append] at hw ⊢
    unfold hget at hw ⊢
    have hl : (pre ++ o' :: m).length = (pre ++ o :: m).length := by simp
    rw [hl]
    by_cases hh : n = (pre ++ o :: m).length
    · rw [if_pos hh] at hw ⊢; exact hw
    · rw [if_neg hh] at hw ⊢; exact hget_mid_ne hne pre hw
@[simp] theorem setIM_refn (n k : Nat) (y : W) (m : Hm) : setIM (.ref n) (nW k) y m = setIR n (k : Int) y (hget m n) m := setIM_ref n k y m
theorem setIR_n {n k : Nat} {y : W} {xs : List W} {m : Hm} (h : k < xs.length) : setIR n (k : Int) y (some (.lst xs)) m = some (.ok .non, hset m n (.lst (xs.set k y))) := by
  have := setIR_lst (n := n) (k := (k : Int)) (y := y) (xs := xs) (m := m) (by omega) (by omega)
  simpa using this
def newM (w : W) : M W := match w with
  | .lst xs => WM.alloc (.lst xs)
  | _ => stuck
@[simp] theorem newM_lst (xs : List W) : newM (.lst xs) = WM.alloc (.lst xs) := by simp only [newM]
@[simp] theorem evE_newc (T : Tab) (C : Calls) (e : E) (sg : Sg) : evE T C (.newc e) sg = bnd (evE T C e sg) newM := by simp only [evE]; rfl
def mkG (x y : Int) : Gd := (x, y)
@[simp] theorem isTup_t (xs : List W) : isTupW (.tup xs) = true := Eq.trans rfl rfl
@[simp] theorem isTup_l (xs : List W) : isTupW (.lst xs) = false := Eq.trans rfl rfl
@[simp] theorem isTup_kl (xs : List W) : isTupW (.klst xs) = false := Eq.trans rfl rfl
/-! ## walks over what may live -/
theorem loopGo_run {α : Type} (f : α → W) (P : Nat → Sg → Hm → Prop) {tg : Tg} {b : Sg → MS} : ∀ (ys : List α) (i : Nat) {sg : Sg} {m : Hm},
    (∀ j sg m x, ys[j]? = some x → P (i + j) sg m → ∃ sg1 sg2 m', asgT tg (f x) sg = some sg1 ∧ (b sg1 m = some (.nx, sg2, m') ∨ b sg1 m = some (.cnt, sg2, m')) ∧ P (i + j + 1) sg2 m') →
    P i sg m → ∃ sg' m', loopGo tg b (ys.map f) sg m = some (.nx, sg', m') ∧ P (i + ys.length) sg' m'
  | [], i, sg, m, _, h => ⟨sg, m, rfl, h⟩
  | y :: ys, i, sg, m, hs, h => by
    obtain ⟨sg1, sg2, m', h1, h2, h3⟩ := hs 0 sg m y rfl h
    obtain ⟨sg', m'', h4, h5⟩ := loopGo_run f P ys (i + 1) (sg := sg2) (m := m') (fun j sg m x hx hp => by
      have := hs (j + 1) sg m x (by simpa using hx) (by rwa [show i + (j + 1) = i + 1 + j by omega])
      rwa [show i + (j + 1) + 1 = i + 1 + j + 1 by omega] at this) h3
    refine ⟨sg', m'', ?_, by rw [List.length_cons, show i + (ys.length + 1) = i + 1 + ys.length by omega]; exact h5⟩
    rw [List.map_cons, loop_cons h1]
    rcases h2 with h2 | h2 <;> rw [h2]
    · rw [turnS_nx, h4]
    · rw [turnS_cnt, h4]
theorem loopF_run {α : Type} (f : α → W) (xs : List α) (P : Nat → Sg → Hm → Prop) {tg : Tg} {b : Sg → MS} {n : Nat} (hn : ∀ i sg m, P i sg m → hget m n = some (.lst (xs.map f)))
    (hs : ∀ i sg m x, xs[i]? = some x → P i sg m → ∃ sg1 sg2 m', asgT tg (f x) sg = some sg1 ∧ (b sg1 m = some (.nx, sg2, m') ∨ b sg1 m = some (.cnt, sg2, m')) ∧ P (i + 1) sg2 m') :
    ∀ (k i : Nat) {sg : Sg} {m : Hm}, i + k = xs.length → P i sg m → ∃ sg' m', loopF tg b n (k + 1) i sg m = some (.nx, sg', m') ∧ P xs.length sg' m'
  | 0, i, sg, m, hk, h => by
    have e : i = xs.length := by omega
    refine ⟨sg, m, ?_, e ▸ h⟩
    have hx : (xs.map f)[i]? = none := List.getElem?_eq_none (by rw [List.length_map]; omega)
    unfold loopF
    rw [hn _ _ _ h]
    dsimp only
    rw [hx]
  | k + 1, i, sg, m, hk, h => by
    have hi : i < xs.length := by omega
    obtain ⟨sg1, sg2, m', h1, h2, h3⟩ := hs i sg m _ (List.getElem?_eq_getElem hi) h
    obtain ⟨sg', m'', h4, h5⟩ := loopF_run f xs P hn hs k (i + 1) (by omega) h3
    refine ⟨sg', m'', ?_, h5⟩
    have hx : (xs.map f)[i]? = some (f xs[i]) := by rw [List.getElem?_map, List.getElem?_eq_getElem hi]; rfl
    unfold loopF
    rw [hn _ _ _ h]
    dsimp only
    rw [hx]
    dsimp only
    rw [h1]
    show turnS (b sg1 m) _ = _
    rcases h2 with h2 | h2 <;> rw [h2]
    · rw [turnS_nx, h4]
    · rw [turnS_cnt, h4]
theorem loopW_run {α : Type} (f : α → W) (xs : List α) (P : Nat → Sg → Hm → Prop) {tg : Tg} {b : Sg → MS} {w : W} {sg : Sg} {m : Hm}
    (hw : w = .tup (xs.map f) ∨ w = .lst (xs.map f) ∨ ∃ r, w = .ref r ∧ ∀ i sg m, P i sg m → hget m r = some (.lst (xs.map f)))
    (hs : ∀ i sg m x, xs[i]? = some x → P i sg m → ∃ sg1 sg2 m', asgT tg (f x) sg = some sg1 ∧ (b sg1 m = some (.nx, sg2, m') ∨ b sg1 m = some (.cnt, sg2, m')) ∧ P (i + 1) sg2 m')
    (h0 : P 0 sg m) : ∃ sg' m', loopW tg b w sg m = some (.nx, sg', m') ∧ P xs.length sg' m' := by
  have go := loopGo_run f P (tg := tg) (b := b) xs 0 (sg := sg) (m := m) (fun j sg m x hx hp => by
    rw [Nat.zero_add] at *
    exact hs j sg m x hx hp) h0
  rw [Nat.zero_add] at go
  rcases hw with rfl | rfl | ⟨r, rfl, hr⟩
  · exact go
  · exact go
  · obtain ⟨sg', m', h1, h2⟩ := loopF_run f xs P hr hs xs.length 0 (by omega) h0
    exact ⟨sg', m', loopD_some h1, h2⟩
/-- a while, told by what holds behind it -/
theorem while_run2 (P : Nat → Sg → Hm → Prop) (Q : Sg → Hm → Prop) {c : Sg → M W} {b : Sg → MS}
    (hs : ∀ k sg m, P k sg m → (c sg m = some (.ok (.bl false), m) ∧ Q sg m) ∨ (c sg m = some (.ok (.bl true), m) ∧ ∃ k' sg2 m', k' < k ∧ (b sg m = some (.nx, sg2, m') ∨ b sg m = some (.cnt, sg2, m')) ∧ P k' sg2 m')) :
    ∀ (k : Nat) {sg : Sg} {m : Hm}, P k sg m → ∃ sg' m', whileL c b sg m = some (.nx, sg', m') ∧ Q sg' m' := by
  have key : ∀ (k : Nat) (sg : Sg) (m : Hm), P k sg m → ∃ N sg' m', whileF c b N sg m = some (.nx, sg', m') ∧ Q sg' m' := by
    intro k
    induction k using Nat.strongRecOn with
    | _ k ih =>
      intro sg m h
      rcases hs k sg m h with ⟨h1, h2⟩ | ⟨h1, k', sg2, m', hk, h2, h3⟩
      · refine ⟨1, sg, m, ?_, h2⟩
        rw [whileF, lft_ap, h1, lftR_ok]
      · obtain ⟨N, sg', m'', h4, h5⟩ := ih k' hk sg2 m' h3
        refine ⟨N + 1, sg', m'', ?_, h5⟩
        rw [whileF, lft_ap, h1, lftR_ok]
        show turnS (b sg m) _ = _
        rcases h2 with h2 | h2 <;> rw [h2]
        · rw [turnS_nx, h4]
        · rw [turnS_cnt, h4]
  intro k sg m h
  obtain ⟨N, sg', m', h1, h2⟩ := key k sg m h
  exact ⟨sg', m', whileL_some h1, h2⟩
theorem isTup_ref (k : Nat) : isTupW (W.ref k) = false := Eq.trans rfl rfl
theorem compW_map {α : Type} (f : α → W) (xs : List α) (p : α → Bool) (g : α → W) {tg : Tg} {sg : Sg} {tst elt : Sg → M W} {w : W} {m : Hm}
    (hw : w = .tup (xs.map f) ∨ w = .lst (xs.map f) ∨ ∃ r, w = .ref r ∧ hget m r = some (.lst (xs.map f)))
    (h : ∀ x ∈ xs, ∃ sg', asgT tg (f x) sg = some sg' ∧ tst sg' m = some (.ok (.bl (p x)), m) ∧ (p x = true → elt sg' m = some (.ok (g x), m))) :
    compW tg sg tst elt w m = some (.ok (.lst ((xs.filter p).map g)), m) := by
  rcases hw with rfl | rfl | ⟨r, rfl, hr⟩
  · rw [compW_tup, bnd_ap]
    unfold noExc
    rw [comp_map f xs p g h]; rfl
  · rw [compW_lst, bnd_ap]
    unfold noExc
    rw [comp_map f xs p g h]; rfl
  · rw [compW_ref]
    unfold compD
    rw [hr]
    dsimp only
    rw [comp_map f xs p g (tst := guardL r (xs.map f) tst) fun x hx => by
      obtain ⟨sg', h1, h2, h3⟩ := h x hx
      refine ⟨sg', h1, ?_, h3⟩
      unfold guardL
      rw [if_pos hr]; exact h2]
    dsimp only
    rw [if_pos hr]
end WM
namespace Lk
open PySem PySem.Spec PyProof.Rows L2 WM
def topS (i : Nat) : Stmt := PySem.Challenge.pw_mirrorwalk_k33_elements_beside_sets.main.body.getD i (.Pass ⟨0, 0, 0, 0⟩)
abbrev f_is_integer : Nat := 3
abbrev f_plus : Nat := 5
abbrev f_negated : Nat := 6
abbrev f_minus : Nat := 7
abbrev f_times : Nat := 8
abbrev f_sign : Nat := 9
abbrev f_total : Nat := 10
abbrev f_slope : Nat := 21
abbrev f_simple : Nat := 65
abbrev f_mirrored : Nat := 66
abbrev f_root_sign : Nat := 80
abbrev f_is_word : Nat := 22
abbrev f_look_at_word : Nat := 23
abbrev f_nothing : Nat := 67
abbrev f_element : Nat := 68
abbrev f_least_word : Nat := 101
abbrev f_normal : Nat := 102
abbrev f_inverse : Nat := 114
abbrev f_times_word : Nat := 103
abbrev f_element_of : Nat := 104
abbrev f_look_at_set : Nat := 134
abbrev f_split_left : Nat := 135
abbrev f_split_right : Nat := 136
abbrev f_letters_of : Nat := 141
abbrev f_is_edge : Nat := 31
abbrev f__law_draws : Nat := 11
abbrev f__law_draw : Nat := 12
abbrev f__law_same : Nat := 13
abbrev f__law_plus : Nat := 32
abbrev f__law_times : Nat := 33
abbrev f__law_sign : Nat := 34
abbrev f__law_slope : Nat := 35
abbrev f__law_taken : Nat := 36
abbrev f__law_mirrored : Nat := 37
abbrev f__law_simple : Nat := 38
abbrev f__law_moved : Nat := 39
abbrev f__law_side : Nat := 40
abbrev f__law_normal : Nat := 41
abbrev f__law_finite_world : Nat := 42
abbrev f__law_world : Nat := 43
abbrev f__law_word : Nat := 44
abbrev f__law_set : Nat := 139
abbrev f__law_split : Nat := 144
abbrev f__law_split_behind : Nat := 145
abbrev f_law : Nat := 16
abbrev f_Element___init__ : Nat := 76
abbrev f_Element_left : Nat := 109
abbrev f_Element_after_left : Nat := 110
abbrev f_Element_after_right : Nat := 78
abbrev f_Diagram___init__ : Nat := 46
abbrev f_Diagram_label : Nat := 47
def b_is_integer : List WM.S := [(.ret (.and (.isi (.var 0) "int") (.not (.isi (.var 0) "bool"))))]
def F_is_integer : Fn := ⟨1, 1, b_is_integer, false⟩
def b_plus : List WM.S := [(.ret (.tup [(.bin .add (.idx (.var 0) (.lit (.int 0))) (.idx (.var 1) (.lit (.int 0)))), (.bin .add (.idx (.var 0) (.lit (.int 1))) (.idx (.var 1) (.lit (.int 1))))]))]
def F_plus : Fn := ⟨2, 2, b_plus, false⟩
def b_negated : List WM.S := [(.ret (.tup [(.neg (.idx (.var 0) (.lit (.int 0)))), (.neg (.idx (.var 0) (.lit (.int 1))))]))]
def F_negated : Fn := ⟨1, 1, b_negated, false⟩
def b_minus : List WM.S := [(.ret (.tup [(.bin .sub (.idx (.var 0) (.lit (.int 0))) (.idx (.var 1) (.lit (.int 0)))), (.bin .sub (.idx (.var 0) (.lit (.int 1))) (.idx (.var 1) (.lit (.int 1))))]))]
def F_minus : Fn := ⟨2, 2, b_minus, false⟩
def b_times : List WM.S := [(.set (.v 2) (.bin .mul (.idx (.var 0) (.lit (.int 1))) (.idx (.var 1) (.lit (.int 1))))), (.ret (.tup [(.bin .add (.bin .mul (.idx (.var 0) (.lit (.int 0))) (.idx (.var 1) (.lit (.int 0)))) (.var 2)), (.bin .add (.bin .add (.bin .mul (.idx (.var 0) (.lit (.int 0))) (.idx (.var 1) (.lit (.int 1)))) (.bin .mul (.idx (.var 0) (.lit (.int 1))) (.idx (.var 1) (.lit (.int 0))))) (.var 2))]))]
def F_times : Fn := ⟨2, 3, b_times, false⟩
def b_sign : List WM.S := [(.par [1, 2] [(.bin .add (.bin .mul (.lit (.int 2)) (.idx (.var 0) (.lit (.int 0)))) (.idx (.var 0) (.lit (.int 1)))), (.idx (.var 0) (.lit (.int 1)))]), (.ife (.and (.cmp .ge (.var 1) (.lit (.int 0))) (.cmp .ge (.var 2) (.lit (.int 0)))) [(.ret (.bi .int [(.or (.cmp .gt (.var 1) (.lit (.int 0))) (.cmp .gt (.var 2) (.lit (.int 0))))]))] []), (.ife (.and (.cmp .le (.var 1) (.lit (.int 0))) (.cmp .le (.var 2) (.lit (.int 0)))) [(.ret (.neg (.lit (.int 1))))] []), (.set (.v 3) (.cmp .gt (.bin .mul (.var 1) (.var 1)) (.bin .mul (.bin .mul (.lit (.int 5)) (.var 2)) (.var 2)))), (.ret (.ife (.cmp .eq (.cmp .gt (.var 1) (.lit (.int 0))) (.var 3)) (.lit (.int 1)) (.neg (.lit (.int 1)))))]
def F_sign : Fn := ⟨1, 4, b_sign, false⟩
def b_total : List WM.S := [(.set (.v 1) (.glob 0)), (.loop (.v 2) (.sseq (.var 0)) [(.set (.v 1) (.call f_plus [(.var 1), (.var 2)]))]), (.ret (.var 1))]
def F_total : Fn := ⟨1, 3, b_total, false⟩
def b_slope : List WM.S := [(.ife (.cmp .eq (.var 1) (.var 2)) [(.ret (.tup [(.lit (.int 2)), (.lit (.int 0))]))] []), (.set (.v 3) (.meth 17 f_Diagram_label (.var 0) [(.var 1), (.var 2)])), (.ife (.cmp .eq (.var 3) (.lit (.int 2))) [(.ret (.glob 0))] []), (.ife (.cmp .eq (.var 3) (.lit (.int 5))) [(.ret (.call f_negated [(.glob 2)]))] []), (.ife (.cmp .eq (.var 3) (.lit (.int 0))) [(.ret (.tup [(.neg (.lit (.int 2))), (.lit (.int 0))]))] []), (.ife (.or (.cmp .lt (.var 1) (.var 2)) (.cmp .eq (.var 3) (.lit (.int 3)))) [(.ret (.tup [(.neg (.lit (.int 1))), (.lit (.int 0))]))] []), (.ret (.ife (.cmp .eq (.var 3) (.lit (.int 4))) (.tup [(.neg (.lit (.int 2))), (.lit (.int 0))]) (.tup [(.neg (.lit (.int 3))), (.lit (.int 0))])))]
def F_slope : Fn := ⟨3, 4, b_slope, false⟩
def b_simple : List WM.S := [(.ret (.bi .tuple [(.comp (.ife (.cmp .eq (.var 2) (.var 1)) (.glob 1) (.glob 0)) (.v 2) (.srng1 (.attr 17 1 (.var 0))) (.lit (.bl true)) [2])]))]
def F_simple : Fn := ⟨2, 3, b_simple, false⟩
def b_mirrored : List WM.S := [(.set (.v 3) (.call f_total [(.comp (.call f_times [(.call f_slope [(.var 0), (.var 1), (.var 4)]), (.idx (.var 2) (.var 4))]) (.v 4) (.srng1 (.attr 17 1 (.var 0))) (.lit (.bl true)) [4])])), (.ret (.bin .add (.bin .add (.slc (.var 2) .nop (.var 1)) (.tup [(.call f_minus [(.idx (.var 2) (.var 1)), (.var 3)])])) (.slc (.var 2) (.bin .add (.var 1) (.lit (.int 1))) .nop)))]
def F_mirrored : Fn := ⟨3, 5, b_mirrored, false⟩
def b_root_sign : List WM.S := [(.setc 1 (.comp (.call f_sign [(.var 2)]) (.v 2) (.sseq (.var 0)) (.lit (.bl true)) [2])), (.ife (.isin true (.neg (.lit (.int 1))) (.var 1)) [(.ret (.ife (.isin false (.lit (.int 1)) (.var 1)) (.lit (.int 1)) (.lit (.int 0))))] []), (.ret (.ife (.isin false (.lit (.int 1)) (.var 1)) (.lit (.int 0)) (.neg (.lit (.int 1)))))]
def F_root_sign : Fn := ⟨1, 3, b_root_sign, false⟩
def b_is_word : List WM.S := [(.ife (.or (.not (.isi (.var 1) "tuple")) (.cmp .gt (.bi .len [(.var 1)]) (.glob 18))) [(.ret (.lit (.bl false)))] []), (.ret (.bi .all [(.comp (.and (.call f_is_integer [(.var 2)]) (.cmp2 .le .lt (.lit (.int 0)) (.var 2) (.attr 17 1 (.var 0)))) (.v 2) (.sseq (.var 1)) (.lit (.bl true)) [2])]))]
def F_is_word : Fn := ⟨2, 3, b_is_word, false⟩
def b_look_at_word : List WM.S := [(.ife (.not (.call f_is_word [(.var 0), (.var 1)])) [(.raise 143)] [])]
def F_look_at_word : Fn := ⟨2, 2, b_look_at_word, false⟩
def b_nothing : List WM.S := [(.ret (.make 64 f_Element___init__ [(.var 0), (.bi .tuple [(.comp (.call f_simple [(.var 0), (.var 1)]) (.v 1) (.srng1 (.attr 17 1 (.var 0))) (.lit (.bl true)) [1])])]))]
def F_nothing : Fn := ⟨1, 2, b_nothing, true⟩
def b_element : List WM.S := [(.expr (.call f_look_at_word [(.var 0), (.var 1)])), (.set (.v 2) (.call f_nothing [(.var 0)])), (.loop (.v 3) (.sseq (.var 1)) [(.set (.v 2) (.meth 64 f_Element_after_right (.var 2) [(.var 3)]))]), (.ret (.var 2))]
def F_element : Fn := ⟨2, 4, b_element, true⟩
def b_least_word : List WM.S := [(.set (.v 1) (.newl [])), (.set (.v 2) (.meth 64 f_Element_left (.var 0) [])), (.while (.cmp .gt (.bi .len [(.var 2)]) (.lit (.int 0))) [(.app (.var 1) (.idx (.var 2) (.lit (.int 0)))), (.set (.v 0) (.meth 64 f_Element_after_left (.var 0) [(.idx (.var 2) (.lit (.int 0)))])), (.set (.v 2) (.meth 64 f_Element_left (.var 0) []))]), (.ret (.bi .tuple [(.var 1)]))]
def F_least_word : Fn := ⟨1, 3, b_least_word, false⟩
def b_normal : List WM.S := [(.ret (.call f_least_word [(.call f_element [(.var 0), (.var 1)])]))]
def F_normal : Fn := ⟨2, 2, b_normal, false⟩
def b_inverse : List WM.S := [(.ret (.rev (.var 0)))]
def F_inverse : Fn := ⟨1, 1, b_inverse, false⟩
def b_times_word : List WM.S := [(.expr (.call f_look_at_word [(.var 0), (.var 1)])), (.expr (.call f_look_at_word [(.var 0), (.var 2)])), (.ret (.call f_least_word [(.call f_element_of [(.var 0), (.bin .add (.var 1) (.var 2))])]))]
def F_times_word : Fn := ⟨3, 3, b_times_word, false⟩
def b_element_of : List WM.S := [(.set (.v 2) (.call f_nothing [(.var 0)])), (.loop (.v 3) (.sseq (.var 1)) [(.set (.v 2) (.meth 64 f_Element_after_right (.var 2) [(.var 3)]))]), (.ret (.var 2))]
def F_element_of : Fn := ⟨2, 4, b_element_of, true⟩
def b_look_at_set : List WM.S := [(.ife (.or (.not (.isi (.var 1) "tuple")) (.not (.bi .all [(.comp (.and (.call f_is_integer [(.var 2)]) (.cmp2 .le .lt (.lit (.int 0)) (.var 2) (.attr 17 1 (.var 0)))) (.v 2) (.sseq (.var 1)) (.lit (.bl true)) [2])]))) [(.raise 143)] []), (.ife (.cmp .ne (.var 1) (.bi .tuple [(.sdc (.var 2) (.v 2) (.sseq (.var 1)) (.lit (.bl true)) [2])])) [(.raise 143)] [])]
def F_look_at_set : Fn := ⟨2, 3, b_look_at_set, false⟩
def b_split_left : List WM.S := [(.expr (.call f_look_at_set [(.var 0), (.var 1)])), (.set (.v 3) (.call f_element [(.var 0), (.var 2)])), (.set (.v 4) (.newl [])), (.setc 5 (.comp (.var 6) (.v 6) (.sseq (.meth 64 f_Element_left (.var 3) [])) (.isin false (.var 6) (.var 1)) [6])), (.while (.cmp .gt (.bi .len [(.var 5)]) (.lit (.int 0))) [(.app (.var 4) (.idx (.var 5) (.lit (.int 0)))), (.set (.v 3) (.meth 64 f_Element_after_left (.var 3) [(.idx (.var 5) (.lit (.int 0)))])), (.setc 5 (.comp (.var 6) (.v 6) (.sseq (.meth 64 f_Element_left (.var 3) [])) (.isin false (.var 6) (.var 1)) [6]))]), (.ret (.tup [(.call f_normal [(.var 0), (.bi .tuple [(.var 4)])]), (.call f_least_word [(.var 3)])]))]
def F_split_left : Fn := ⟨3, 7, b_split_left, false⟩
def b_split_right : List WM.S := [(.set (.t [(.v 3), (.v 4)]) (.call f_split_left [(.var 0), (.var 2), (.call f_inverse [(.call f_normal [(.var 0), (.var 1)])])])), (.ret (.tup [(.call f_normal [(.var 0), (.call f_inverse [(.var 4)])]), (.call f_normal [(.var 0), (.call f_inverse [(.var 3)])])]))]
def F_split_right : Fn := ⟨3, 5, b_split_right, false⟩
def b_letters_of : List WM.S := [(.ret (.bi .tuple [(.sdc (.var 2) (.v 2) (.sseq (.call f_normal [(.var 0), (.var 1)])) (.lit (.bl true)) [2])]))]
def F_letters_of : Fn := ⟨2, 3, b_letters_of, false⟩
def b_is_edge : List WM.S := [(.ife (.or (.not (.isi (.var 0) "tuple")) (.or (.cmp .ne (.bi .len [(.var 0)]) (.lit (.int 3))) (.not (.bi .all [(.comp (.call f_is_integer [(.var 2)]) (.v 2) (.sseq (.var 0)) (.lit (.bl true)) [2])])))) [(.ret (.lit (.bl false)))] []), (.ret (.and (.cmp3 .le .lt .lt (.lit (.int 0)) (.idx (.var 0) (.lit (.int 0))) (.idx (.var 0) (.lit (.int 1))) (.var 1)) (.isin false (.idx (.var 0) (.lit (.int 2))) (.glob 20))))]
def F_is_edge : Fn := ⟨2, 3, b_is_edge, false⟩
def b__law_draws : List WM.S := [(.ret (.newl [(.bi .list [(.var 0)]), (.lit (.int 0)), (.lit (.int 0)), (.lit (.int 1))]))]
def F__law_draws : Fn := ⟨1, 1, b__law_draws, true⟩
def b__law_draw : List WM.S := [(.ife (.and (.cmp .eq (.idx (.var 0) (.lit (.int 2))) (.lit (.int 0))) (.cmp .lt (.idx (.var 0) (.lit (.int 1))) (.bi .len [(.idx (.var 0) (.lit (.int 0)))]))) [(.set (.v 2) (.idx (.idx (.var 0) (.lit (.int 0))) (.idx (.var 0) (.lit (.int 1))))), (.setI (.var 0) (.lit (.int 1)) (.bin .add (.idx (.var 0) (.lit (.int 1))) (.lit (.int 1)))), (.ife (.cmp .ge (.var 2) (.bin .pow (.lit (.int 10)) (.lit (.int 18)))) [(.setI (.var 0) (.lit (.int 2)) (.var 2))] []), (.setI (.var 0) (.lit (.int 3)) (.bin .mod (.bi .int [(.bin .add (.bin .add (.bin .mul (.idx (.var 0) (.lit (.int 3))) (.lit (.int 48271))) (.var 2)) (.lit (.int 13)))]) (.lit (.int 2147483647))))] []), (.ife (.cmp .gt (.idx (.var 0) (.lit (.int 2))) (.lit (.int 0))) [(.set (.v 3) (.bin .mod (.bi .int [(.idx (.var 0) (.lit (.int 2)))]) (.var 1))), (.setI (.var 0) (.lit (.int 2)) (.bin .fdiv (.idx (.var 0) (.lit (.int 2))) (.var 1))), (.ret (.var 3))] []), (.setI (.var 0) (.lit (.int 3)) (.bin .mod (.bi .int [(.bin .add (.bin .mul (.idx (.var 0) (.lit (.int 3))) (.lit (.int 69621))) (.lit (.int 7)))]) (.lit (.int 2147483629)))), (.ret (.bin .mod (.bi .int [(.bin .fdiv (.idx (.var 0) (.lit (.int 3))) (.lit (.int 11)))]) (.var 1)))]
def F__law_draw : Fn := ⟨2, 4, b__law_draw, false⟩
def b__law_same : List WM.S := [(.ife (.or (.isi (.var 1) "tuple") (.isi (.var 1) "list")) [(.ife (.or (.cmp .ne (.isi (.var 1) "tuple") (.isi (.var 0) "tuple")) (.cmp .ne (.isi (.var 1) "list") (.isi (.var 0) "list"))) [(.ret (.lit (.bl false)))] []), (.ife (.cmp .ne (.bi .len [(.var 0)]) (.bi .len [(.var 1)])) [(.ret (.lit (.bl false)))] []), (.ret (.cmp .eq (.bi .len [(.comp (.var 2) (.v 2) (.srng1 (.bi .len [(.var 1)])) (.not (.call f__law_same [(.idx (.var 0) (.var 2)), (.idx (.var 1) (.var 2))])) [2])]) (.lit (.int 0))))] []), (.ife (.isi (.var 1) "str") [(.ret (.and (.isi (.var 0) "str") (.cmp .eq (.var 0) (.var 1))))] []), (.ife (.cmp .is (.var 1) (.lit .non)) [(.ret (.cmp .is (.var 0) (.lit .non)))] []), (.ife (.or (.isi (.var 1) "bool") (.isi (.var 0) "bool")) [(.ret (.and (.isi (.var 1) "bool") (.and (.isi (.var 0) "bool") (.cmp .eq (.var 0) (.var 1)))))] []), (.ret (.and (.isi (.var 0) "int") (.and (.isi (.var 1) "int") (.cmp .eq (.var 0) (.var 1)))))]
def F__law_same : Fn := ⟨2, 3, b__law_same, false⟩
def b__law_plus : List WM.S := [(.ret (.tup [(.bin .add (.idx (.var 0) (.lit (.int 0))) (.idx (.var 1) (.lit (.int 0)))), (.bin .add (.idx (.var 0) (.lit (.int 1))) (.idx (.var 1) (.lit (.int 1))))]))]
def F__law_plus : Fn := ⟨2, 2, b__law_plus, false⟩
def b__law_times : List WM.S := [(.ret (.tup [(.bin .add (.bin .mul (.idx (.var 0) (.lit (.int 0))) (.idx (.var 1) (.lit (.int 0)))) (.bin .mul (.idx (.var 0) (.lit (.int 1))) (.idx (.var 1) (.lit (.int 1))))), (.bin .add (.bin .add (.bin .mul (.idx (.var 0) (.lit (.int 0))) (.idx (.var 1) (.lit (.int 1)))) (.bin .mul (.idx (.var 0) (.lit (.int 1))) (.idx (.var 1) (.lit (.int 0))))) (.bin .mul (.idx (.var 0) (.lit (.int 1))) (.idx (.var 1) (.lit (.int 1)))))]))]
def F__law_times : Fn := ⟨2, 2, b__law_times, false⟩
def b__law_sign : List WM.S := [(.par [1, 2] [(.bin .add (.bin .mul (.lit (.int 2)) (.idx (.var 0) (.lit (.int 0)))) (.idx (.var 0) (.lit (.int 1)))), (.idx (.var 0) (.lit (.int 1)))]), (.ife (.and (.cmp .eq (.var 1) (.lit (.int 0))) (.cmp .eq (.var 2) (.lit (.int 0)))) [(.ret (.lit (.int 0)))] []), (.ife (.or (.and (.cmp .ge (.var 1) (.lit (.int 0))) (.cmp .ge (.var 2) (.lit (.int 0)))) (.and (.cmp .le (.var 1) (.lit (.int 0))) (.cmp .le (.var 2) (.lit (.int 0))))) [(.ret (.ife (.cmp .gt (.bin .add (.var 1) (.var 2)) (.lit (.int 0))) (.lit (.int 1)) (.neg (.lit (.int 1)))))] []), (.set (.v 3) (.bin .sub (.bin .mul (.var 1) (.var 1)) (.bin .mul (.bin .mul (.lit (.int 5)) (.var 2)) (.var 2)))), (.ret (.bin .mul (.ife (.cmp .gt (.var 3) (.lit (.int 0))) (.lit (.int 1)) (.neg (.lit (.int 1)))) (.ife (.cmp .gt (.var 1) (.lit (.int 0))) (.lit (.int 1)) (.neg (.lit (.int 1))))))]
def F__law_sign : Fn := ⟨1, 4, b__law_sign, false⟩
def b__law_slope : List WM.S := [(.set (.t [(.v 3), (.v 4)]) (.var 0)), (.ife (.cmp .eq (.var 1) (.var 2)) [(.ret (.tup [(.lit (.int 2)), (.lit (.int 0))]))] []), (.setc 5 (.comp (.idx (.var 7) (.lit (.int 2))) (.v 7) (.sseq (.var 4)) (.cmp .eq (.slc (.var 7) .nop (.lit (.int 2))) (.tup [(.bi .min2 [(.var 1), (.var 2)]), (.bi .max2 [(.var 1), (.var 2)])])) [7])), (.ife (.cmp .eq (.bi .len [(.var 5)]) (.lit (.int 0))) [(.ret (.tup [(.lit (.int 0)), (.lit (.int 0))]))] []), (.set (.v 6) (.dsel [3, 4, 5, 6, 0] [(.tup [(.neg (.lit (.int 1))), (.lit (.int 0))]), (.tup [(.neg (.lit (.int 2))), (.lit (.int 0))]), (.tup [(.lit (.int 0)), (.neg (.lit (.int 1)))]), (.tup [(.neg (.lit (.int 3))), (.lit (.int 0))]), (.tup [(.neg (.lit (.int 2))), (.lit (.int 0))])] (.idx (.var 5) (.lit (.int 0))))), (.ret (.ife (.and (.isin false (.idx (.var 5) (.lit (.int 0))) (.tup [(.lit (.int 4)), (.lit (.int 6))])) (.cmp .lt (.var 1) (.var 2))) (.tup [(.neg (.lit (.int 1))), (.lit (.int 0))]) (.var 6)))]
def F__law_slope : Fn := ⟨3, 8, b__law_slope, false⟩
def b__law_taken : List WM.S := [(.set (.v 3) (.tup [(.lit (.int 0)), (.lit (.int 0))])), (.loop (.v 4) (.srng1 (.idx (.var 0) (.lit (.int 0)))) [(.set (.v 3) (.call f__law_plus [(.var 3), (.call f__law_times [(.call f__law_slope [(.var 0), (.var 1), (.var 4)]), (.idx (.var 2) (.var 4))])]))]), (.ret (.var 3))]
def F__law_taken : Fn := ⟨3, 5, b__law_taken, false⟩
def b__law_mirrored : List WM.S := [(.set (.v 3) (.call f__law_taken [(.var 0), (.var 1), (.var 2)])), (.ret (.bin .add (.bin .add (.slc (.var 2) .nop (.var 1)) (.tup [(.tup [(.bin .sub (.idx (.idx (.var 2) (.var 1)) (.lit (.int 0))) (.idx (.var 3) (.lit (.int 0)))), (.bin .sub (.idx (.idx (.var 2) (.var 1)) (.lit (.int 1))) (.idx (.var 3) (.lit (.int 1))))])])) (.slc (.var 2) (.bin .add (.var 1) (.lit (.int 1))) .nop)))]
def F__law_mirrored : Fn := ⟨3, 4, b__law_mirrored, false⟩
def b__law_simple : List WM.S := [(.ret (.bi .tuple [(.comp (.ife (.cmp .eq (.var 2) (.var 1)) (.tup [(.lit (.int 1)), (.lit (.int 0))]) (.tup [(.lit (.int 0)), (.lit (.int 0))])) (.v 2) (.srng1 (.idx (.var 0) (.lit (.int 0)))) (.lit (.bl true)) [2])]))]
def F__law_simple : Fn := ⟨2, 3, b__law_simple, false⟩
def b__law_moved : List WM.S := [(.loop (.v 3) (.sseq (.rev (.var 1))) [(.set (.v 2) (.call f__law_mirrored [(.var 0), (.var 3), (.var 2)]))]), (.ret (.var 2))]
def F__law_moved : Fn := ⟨3, 4, b__law_moved, false⟩
def b__law_side : List WM.S := [(.setc 1 (.comp (.call f__law_sign [(.var 2)]) (.v 2) (.sseq (.var 0)) (.lit (.bl true)) [2])), (.ife (.isin false (.neg (.lit (.int 1))) (.var 1)) [(.ret (.ife (.isin false (.lit (.int 1)) (.var 1)) (.lit (.int 0)) (.neg (.lit (.int 1)))))] []), (.ret (.bi .int [(.isin false (.lit (.int 1)) (.var 1))]))]
def F__law_side : Fn := ⟨1, 3, b__law_side, false⟩
def b__law_normal : List WM.S := [(.setc 2 (.newc (.comp (.call f__law_moved [(.var 0), (.rev (.var 1)), (.call f__law_simple [(.var 0), (.var 8)])]) (.v 8) (.srng1 (.idx (.var 0) (.lit (.int 0)))) (.lit (.bl true)) [8]))), (.set (.v 3) (.tup [])), (.setc 4 (.comp (.var 8) (.v 8) (.srng1 (.idx (.var 0) (.lit (.int 0)))) (.cmp .lt (.call f__law_side [(.idx (.var 2) (.var 8))]) (.lit (.int 0))) [8])), (.while (.cmp .gt (.bi .len [(.var 4)]) (.lit (.int 0))) [(.set (.v 5) (.idx (.var 4) (.lit (.int 0)))), (.set (.v 3) (.bin .add (.var 3) (.tup [(.var 5)]))), (.set (.v 6) (.idx (.var 2) (.var 5))), (.loop (.v 7) (.srng1 (.idx (.var 0) (.lit (.int 0)))) [(.set (.v 9) (.call f__law_slope [(.var 0), (.var 5), (.var 7)])), (.setI (.var 2) (.var 7) (.bi .tuple [(.comp (.call f__law_plus [(.idx (.idx (.var 2) (.var 7)) (.var 10)), (.call f__law_times [(.tup [(.neg (.idx (.var 9) (.lit (.int 0)))), (.neg (.idx (.var 9) (.lit (.int 1))))]), (.idx (.var 6) (.var 10))])]) (.v 10) (.srng1 (.idx (.var 0) (.lit (.int 0)))) (.lit (.bl true)) [10])]))]), (.setc 4 (.comp (.var 8) (.v 8) (.srng1 (.idx (.var 0) (.lit (.int 0)))) (.cmp .lt (.call f__law_side [(.idx (.var 2) (.var 8))]) (.lit (.int 0))) [8]))]), (.ret (.var 3))]
def F__law_normal : Fn := ⟨2, 11, b__law_normal, false⟩
def b__law_finite_world : List WM.S := [(.set (.v 2) (.lst [(.tup [(.lit (.int 1)), (.tup [])]), (.tup [(.lit (.int 2)), (.tup [(.tup [(.lit (.int 0)), (.lit (.int 1)), (.lit (.int 3))])])]), (.tup [(.lit (.int 2)), (.tup [(.tup [(.lit (.int 0)), (.lit (.int 1)), (.lit (.int 4))])])]), (.tup [(.lit (.int 2)), (.tup [(.tup [(.lit (.int 0)), (.lit (.int 1)), (.lit (.int 5))])])]), (.tup [(.lit (.int 2)), (.tup [(.tup [(.lit (.int 0)), (.lit (.int 1)), (.lit (.int 6))])])]), (.tup [(.lit (.int 2)), (.tup [])]), (.tup [(.lit (.int 3)), (.tup [(.tup [(.lit (.int 0)), (.lit (.int 1)), (.lit (.int 3))]), (.tup [(.lit (.int 1)), (.lit (.int 2)), (.lit (.int 3))])])]), (.tup [(.lit (.int 3)), (.tup [(.tup [(.lit (.int 0)), (.lit (.int 1)), (.lit (.int 3))]), (.tup [(.lit (.int 1)), (.lit (.int 2)), (.lit (.int 4))])])]), (.tup [(.lit (.int 3)), (.tup [(.tup [(.lit (.int 0)), (.lit (.int 1)), (.lit (.int 4))]), (.tup [(.lit (.int 1)), (.lit (.int 2)), (.lit (.int 3))])])]), (.tup [(.lit (.int 3)), (.tup [(.tup [(.lit (.int 0)), (.lit (.int 2)), (.lit (.int 3))]), (.tup [(.lit (.int 1)), (.lit (.int 2)), (.lit (.int 3))])])]), (.tup [(.lit (.int 3)), (.tup [(.tup [(.lit (.int 0)), (.lit (.int 2)), (.lit (.int 5))])])]), (.tup [(.lit (.int 3)), (.tup [(.tup [(.lit (.int 0)), (.lit (.int 1)), (.lit (.int 5))]), (.tup [(.lit (.int 1)), (.lit (.int 2)), (.lit (.int 3))])])]), (.tup [(.lit (.int 4)), (.tup [(.tup [(.lit (.int 0)), (.lit (.int 1)), (.lit (.int 3))]), (.tup [(.lit (.int 1)), (.lit (.int 2)), (.lit (.int 3))]), (.tup [(.lit (.int 2)), (.lit (.int 3)), (.lit (.int 3))])])]), (.tup [(.lit (.int 4)), (.tup [(.tup [(.lit (.int 0)), (.lit (.int 1)), (.lit (.int 3))]), (.tup [(.lit (.int 0)), (.lit (.int 2)), (.lit (.int 3))]), (.tup [(.lit (.int 0)), (.lit (.int 3)), (.lit (.int 3))])])]), (.tup [(.lit (.int 4)), (.tup [(.tup [(.lit (.int 0)), (.lit (.int 1)), (.lit (.int 3))]), (.tup [(.lit (.int 2)), (.lit (.int 3)), (.lit (.int 4))])])])])), (.ret (.idx (.var 2) (.call f__law_draw [(.var 0), (.var 1)])))]
def F__law_finite_world : Fn := ⟨2, 3, b__law_finite_world, false⟩
def b__law_world : List WM.S := [(.set (.v 1) (.call f__law_draw [(.var 0), (.lit (.int 3))])), (.ife (.cmp .eq (.var 1) (.lit (.int 0))) [(.ret (.call f__law_finite_world [(.var 0), (.lit (.int 15))]))] []), (.ife (.cmp .eq (.var 1) (.lit (.int 1))) [(.set (.v 5) (.lst [(.tup [(.lit (.int 2)), (.tup [(.tup [(.lit (.int 0)), (.lit (.int 1)), (.lit (.int 0))])])]), (.tup [(.lit (.int 3)), (.tup [(.tup [(.lit (.int 0)), (.lit (.int 1)), (.lit (.int 3))]), (.tup [(.lit (.int 0)), (.lit (.int 2)), (.lit (.int 3))]), (.tup [(.lit (.int 1)), (.lit (.int 2)), (.lit (.int 3))])])]), (.tup [(.lit (.int 3)), (.tup [(.tup [(.lit (.int 0)), (.lit (.int 1)), (.lit (.int 4))]), (.tup [(.lit (.int 1)), (.lit (.int 2)), (.lit (.int 4))])])]), (.tup [(.lit (.int 3)), (.tup [(.tup [(.lit (.int 0)), (.lit (.int 1)), (.lit (.int 3))]), (.tup [(.lit (.int 1)), (.lit (.int 2)), (.lit (.int 6))])])]), (.tup [(.lit (.int 3)), (.tup [(.tup [(.lit (.int 0)), (.lit (.int 1)), (.lit (.int 5))]), (.tup [(.lit (.int 1)), (.lit (.int 2)), (.lit (.int 5))])])]), (.tup [(.lit (.int 3)), (.tup [(.tup [(.lit (.int 0)), (.lit (.int 1)), (.lit (.int 0))]), (.tup [(.lit (.int 1)), (.lit (.int 2)), (.lit (.int 3))])])]), (.tup [(.lit (.int 3)), (.tup [(.tup [(.lit (.int 0)), (.lit (.int 1)), (.lit (.int 4))]), (.tup [(.lit (.int 0)), (.lit (.int 2)), (.lit (.int 5))]), (.tup [(.lit (.int 1)), (.lit (.int 2)), (.lit (.int 6))])])]), (.tup [(.lit (.int 4)), (.tup [(.tup [(.lit (.int 0)), (.lit (.int 1)), (.lit (.int 3))]), (.tup [(.lit (.int 0)), (.lit (.int 3)), (.lit (.int 3))]), (.tup [(.lit (.int 1)), (.lit (.int 2)), (.lit (.int 3))]), (.tup [(.lit (.int 2)), (.lit (.int 3)), (.lit (.int 3))])])])])), (.ret (.idx (.var 5) (.call f__law_draw [(.var 0), (.lit (.int 8))])))] []), (.set (.v 2) (.bin .add (.lit (.int 1)) (.call f__law_draw [(.var 0), (.lit (.int 4))]))), (.set (.v 3) (.newl [])), (.loop (.v 4) (.srng1 (.var 2)) [(.loop (.v 6) (.srng2 (.bin .add (.var 4) (.lit (.int 1))) (.var 2)) [(.set (.v 7) (.idx (.lst [(.lit (.int 2)), (.lit (.int 2)), (.lit (.int 3)), (.lit (.int 3)), (.lit (.int 4)), (.lit (.int 5)), (.lit (.int 6)), (.lit (.int 0))]) (.call f__law_draw [(.var 0), (.lit (.int 8))]))), (.ife (.cmp .ne (.var 7) (.lit (.int 2))) [(.app (.var 3) (.tup [(.var 4), (.var 6), (.var 7)]))] [])])]), (.ret (.tup [(.var 2), (.bi .tuple [(.var 3)])]))]
def F__law_world : Fn := ⟨1, 8, b__law_world, false⟩
def b__law_word : List WM.S := [(.ret (.bi .tuple [(.comp (.call f__law_draw [(.var 0), (.var 1)]) (.v 3) (.srng1 (.call f__law_draw [(.var 0), (.bin .add (.var 2) (.lit (.int 1)))])) (.lit (.bl true)) [3])]))]
def F__law_word : Fn := ⟨3, 4, b__law_word, false⟩
def b__law_set : List WM.S := [(.ret (.bi .tuple [(.comp (.var 2) (.v 2) (.srng1 (.var 1)) (.cmp .eq (.call f__law_draw [(.var 0), (.lit (.int 2))]) (.lit (.int 0))) [2])]))]
def F__law_set : Fn := ⟨2, 3, b__law_set, false⟩
def b__law_split : List WM.S := [(.par [3, 4] [(.call f__law_normal [(.var 0), (.var 2)]), (.tup [])]), (.set (.v 5) (.lit (.bl true))), (.while (.var 5) [(.set (.v 5) (.lit (.bl false))), (.loop (.v 6) (.sseq (.var 1)) [(.set (.v 7) (.call f__law_normal [(.var 0), (.bin .add (.tup [(.var 6)]) (.var 3))])), (.ife (.and (.not (.var 5)) (.cmp .lt (.bi .len [(.var 7)]) (.bi .len [(.var 3)]))) [(.par [3, 4, 5] [(.var 7), (.bin .add (.var 4) (.tup [(.var 6)])), (.lit (.bl true))])] [])])]), (.ret (.tup [(.call f__law_normal [(.var 0), (.var 4)]), (.var 3)]))]
def F__law_split : Fn := ⟨3, 8, b__law_split, false⟩
def b__law_split_behind : List WM.S := [(.set (.t [(.v 3), (.v 4)]) (.call f__law_split [(.var 0), (.var 2), (.rev (.var 1))])), (.ret (.tup [(.call f__law_normal [(.var 0), (.rev (.var 4))]), (.call f__law_normal [(.var 0), (.rev (.var 3))])]))]
def F__law_split_behind : Fn := ⟨3, 5, b__law_split_behind, false⟩
def b_law : List WM.S := [(.set (.v 1) (.call f__law_draws [(.var 0)])), (.loop (.v 2) (.srng1 (.lit (.int 5))) [(.set (.v 3) (.call f__law_world [(.var 1)])), (.set (.v 4) (.idx (.var 3) (.lit (.int 0)))), (.set (.v 5) (.make 17 f_Diagram___init__ [(.var 4), (.idx (.var 3) (.lit (.int 1)))])), (.set (.t [(.v 6), (.v 7)]) (.tup [(.call f__law_word [(.var 1), (.var 4), (.lit (.int 9))]), (.call f__law_set [(.var 1), (.var 4)])])), (.set (.v 8) (.call f__law_normal [(.var 3), (.var 6)])), (.set (.t [(.v 9), (.v 10)]) (.call f__law_split [(.var 3), (.var 7), (.var 6)])), (.ife (.or (.not (.call f__law_same [(.call f_split_left [(.var 5), (.var 7), (.var 6)]), (.tup [(.var 9), (.var 10)])])) (.cmp .ne (.bin .add (.bi .len [(.var 9)]) (.bi .len [(.var 10)])) (.bi .len [(.var 8)]))) [(.ret (.lit (.bl false)))] []), (.ife (.or (.cmp .gt (.bi .len [(.comp (.var 18) (.v 18) (.sseq (.var 9)) (.isin true (.var 18) (.var 7)) [18])]) (.lit (.int 0))) (.not (.call f__law_same [(.call f_times_word [(.var 5), (.var 9), (.var 10)]), (.var 8)]))) [(.ret (.lit (.bl false)))] []), (.set (.t [(.v 11), (.v 12)]) (.call f__law_split_behind [(.var 3), (.var 6), (.var 7)])), (.ife (.or (.not (.call f__law_same [(.call f_split_right [(.var 5), (.var 6), (.var 7)]), (.tup [(.var 11), (.var 12)])])) (.cmp .ne (.bin .add (.bi .len [(.var 11)]) (.bi .len [(.var 12)])) (.bi .len [(.var 8)]))) [(.ret (.lit (.bl false)))] []), (.set (.v 13) (.ife (.cmp .gt (.bi .len [(.var 7)]) (.lit (.int 0))) (.bi .tuple [(.comp (.idx (.var 7) (.call f__law_draw [(.var 1), (.bi .len [(.var 7)])])) (.v 17) (.srng1 (.lit (.int 3))) (.lit (.bl true)) [17])]) (.tup []))), (.ife (.or (.not (.call f__law_same [(.idx (.call f_split_left [(.var 5), (.var 7), (.bin .add (.var 13) (.var 6))]) (.lit (.int 1))), (.var 10)])) (.not (.call f__law_same [(.idx (.call f_split_right [(.var 5), (.bin .add (.var 6) (.var 13)), (.var 7)]) (.lit (.int 0))), (.var 11)]))) [(.ret (.lit (.bl false)))] []), (.ife (.not (.call f__law_same [(.call f_letters_of [(.var 5), (.var 6)]), (.bi .tuple [(.sset (.var 8))])])) [(.ret (.lit (.bl false)))] []), (.loop (.v 14) (.sseq (.lst [(.lit .non), (.lst [(.lit (.int 0))]), (.tup [(.var 4)]), (.tup [(.lit (.int 0)), (.lit (.int 0))]), (.tup [(.neg (.lit (.int 1)))]), (.tup [(.lit (.bl true))]), (.tup [(.lit (.str (PySem.Str.ofString "0")))]), (.tup [(.lit (.int 0)), (.lit .non)]), (.bin .add (.rev (.trng (.var 4))) (.tup [(.lit (.int 0))]))])) [(.loop (.v 15) (.srng1 (.lit (.int 2))) [(.tryB 143 [(.ife (.cmp .eq (.var 15) (.lit (.int 0))) [(.expr (.call f_split_left [(.var 5), (.var 14), (.var 6)]))] [(.expr (.call f_split_right [(.var 5), (.var 6), (.var 14)]))]), (.ret (.lit (.bl false)))] 16)])])]), (.ret (.lit (.bl true)))]
def F_law : Fn := ⟨1, 19, b_law, false⟩
def b_Element___init__ : List WM.S := [(.setA 64 0 (.var 0) (.var 1)), (.setA 64 1 (.var 0) (.var 2))]
def F_Element___init__ : Fn := ⟨3, 3, b_Element___init__, true⟩
def b_Element_left : List WM.S := [(.ret (.bi .tuple [(.comp (.var 1) (.t [(.v 1), (.v 2)]) (.senum (.attr 64 1 (.var 0))) (.cmp .lt (.call f_root_sign [(.var 2)]) (.lit (.int 0))) [1, 2])]))]
def F_Element_left : Fn := ⟨1, 3, b_Element_left, false⟩
def b_Element_after_left : List WM.S := [(.set (.v 2) (.idx (.attr 64 1 (.var 0)) (.var 1))), (.set (.v 3) (.newl [])), (.loop (.t [(.v 4), (.v 5)]) (.senum (.attr 64 1 (.var 0))) [(.set (.v 6) (.call f_slope [(.attr 64 0 (.var 0)), (.var 1), (.var 4)])), (.app (.var 3) (.bi .tuple [(.comp (.call f_minus [(.var 7), (.call f_times [(.var 6), (.var 8)])]) (.t [(.v 7), (.v 8)]) (.szip (.var 5) (.var 2)) (.lit (.bl true)) [7, 8])]))]), (.ret (.make 64 f_Element___init__ [(.attr 64 0 (.var 0)), (.bi .tuple [(.var 3)])]))]
def F_Element_after_left : Fn := ⟨2, 9, b_Element_after_left, true⟩
def b_Element_after_right : List WM.S := [(.ret (.make 64 f_Element___init__ [(.attr 64 0 (.var 0)), (.bi .tuple [(.comp (.call f_mirrored [(.attr 64 0 (.var 0)), (.var 1), (.var 2)]) (.v 2) (.sseq (.attr 64 1 (.var 0))) (.lit (.bl true)) [2])])]))]
def F_Element_after_right : Fn := ⟨2, 3, b_Element_after_right, true⟩
def b_Diagram___init__ : List WM.S := [(.ife (.or (.not (.call f_is_integer [(.var 1)])) (.or (.not (.cmp2 .le .le (.lit (.int 0)) (.var 1) (.glob 19))) (.not (.isi (.var 2) "tuple")))) [.dead] []), (.setA 17 0 (.var 0) (.dnew true)), (.loop (.v 3) (.sseq (.var 2)) [(.ife (.or (.not (.call f_is_edge [(.var 3), (.var 1)])) (.din true false (.cut (.var 3) .nop (.lit (.int 2))) (.attr 17 0 (.var 0)))) [.dead] []), (.dput true (.attr 17 0 (.var 0)) (.cut (.var 3) .nop (.lit (.int 2))) (.idx (.var 3) (.lit (.int 2))))]), (.setA 17 1 (.var 0) (.var 1))]
def F_Diagram___init__ : Fn := ⟨3, 4, b_Diagram___init__, true⟩
def b_Diagram_label : List WM.S := [(.ife (.cmp .eq (.var 1) (.var 2)) [(.ret (.lit (.int 1)))] []), (.ret (.dget2 true (.attr 17 0 (.var 0)) (.tup [(.bi .min2 [(.var 1), (.var 2)]), (.bi .max2 [(.var 1), (.var 2)])]) (.lit (.int 2))))]
def F_Diagram_label : Fn := ⟨3, 3, b_Diagram_label, false⟩
def subS (i j : Nat) : Stmt := match topS i with | .ClassDef _ _ _ b _ _ _ _ _ _ _ => b.getD j (.Pass ⟨0, 0, 0, 0⟩) | s => s
def r_is_integer : DR := ⟨f_is_integer, F_is_integer, ⟨("is_integer", none), "is_integer", "is_integer", defArgs (topS 9), defBody (topS 9), defScope (topS 9), [], []⟩, ["value"], ["value"]⟩
def r_plus : DR := ⟨f_plus, F_plus, ⟨("plus", none), "plus", "plus", defArgs (topS 10), defBody (topS 10), defScope (topS 10), [], []⟩, ["first", "other"], ["first", "other"]⟩
def r_negated : DR := ⟨f_negated, F_negated, ⟨("negated", none), "negated", "negated", defArgs (topS 11), defBody (topS 11), defScope (topS 11), [], []⟩, ["number"], ["number"]⟩
def r_minus : DR := ⟨f_minus, F_minus, ⟨("minus", none), "minus", "minus", defArgs (topS 12), defBody (topS 12), defScope (topS 12), [], []⟩, ["first", "other"], ["first", "other"]⟩
def r_times : DR := ⟨f_times, F_times, ⟨("times", none), "times", "times", defArgs (topS 13), defBody (topS 13), defScope (topS 13), [], []⟩, ["first", "other", "both"], ["first", "other"]⟩
def r_sign : DR := ⟨f_sign, F_sign, ⟨("sign", none), "sign", "sign", defArgs (topS 14), defBody (topS 14), defScope (topS 14), [], []⟩, ["number", "whole", "rooted", "greater"], ["number"]⟩
def r_total : DR := ⟨f_total, F_total, ⟨("total", none), "total", "total", defArgs (topS 15), defBody (topS 15), defScope (topS 15), [], []⟩, ["numbers", "found", "number"], ["numbers"]⟩
def r_slope : DR := ⟨f_slope, F_slope, ⟨("slope", none), "slope", "slope", defArgs (topS 18), defBody (topS 18), defScope (topS 18), [], []⟩, ["diagram", "first", "other", "label"], ["diagram", "first", "other"]⟩
def r_simple : DR := ⟨f_simple, F_simple, ⟨("simple", none), "simple", "simple", defArgs (topS 19), defBody (topS 19), defScope (topS 19), [], []⟩, ["diagram", "mirror", "other"], ["diagram", "mirror"]⟩
def r_mirrored : DR := ⟨f_mirrored, F_mirrored, ⟨("mirrored", none), "mirrored", "mirrored", defArgs (topS 20), defBody (topS 20), defScope (topS 20), [], []⟩, ["diagram", "mirror", "root", "taken", "other"], ["diagram", "mirror", "root"]⟩
def r_root_sign : DR := ⟨f_root_sign, F_root_sign, ⟨("root_sign", none), "root_sign", "root_sign", defArgs (topS 21), defBody (topS 21), defScope (topS 21), [], []⟩, ["root", "signs", "number"], ["root"]⟩
def r_is_word : DR := ⟨f_is_word, F_is_word, ⟨("is_word", none), "is_word", "is_word", defArgs (topS 22), defBody (topS 22), defScope (topS 22), [], []⟩, ["diagram", "value", "one"], ["diagram", "value"]⟩
def r_look_at_word : DR := ⟨f_look_at_word, F_look_at_word, ⟨("look_at_word", none), "look_at_word", "look_at_word", defArgs (topS 23), defBody (topS 23), defScope (topS 23), [], []⟩, ["diagram", "value"], ["diagram", "value"]⟩
def r_nothing : DR := ⟨f_nothing, F_nothing, ⟨("nothing", none), "nothing", "nothing", defArgs (topS 26), defBody (topS 26), defScope (topS 26), [], []⟩, ["diagram", "k"], ["diagram"]⟩
def r_element : DR := ⟨f_element, F_element, ⟨("element", none), "element", "element", defArgs (topS 27), defBody (topS 27), defScope (topS 27), [], []⟩, ["diagram", "word", "found", "mirror"], ["diagram", "word"]⟩
def r_least_word : DR := ⟨f_least_word, F_least_word, ⟨("least_word", none), "least_word", "least_word", defArgs (topS 28), defBody (topS 28), defScope (topS 28), [], []⟩, ["found", "letters", "going"], ["found"]⟩
def r_normal : DR := ⟨f_normal, F_normal, ⟨("normal", none), "normal", "normal", defArgs (topS 29), defBody (topS 29), defScope (topS 29), [], []⟩, ["diagram", "word"], ["diagram", "word"]⟩
def r_inverse : DR := ⟨f_inverse, F_inverse, ⟨("inverse", none), "inverse", "inverse", defArgs (topS 30), defBody (topS 30), defScope (topS 30), [], []⟩, ["word"], ["word"]⟩
def r_times_word : DR := ⟨f_times_word, F_times_word, ⟨("times_word", none), "times_word", "times_word", defArgs (topS 31), defBody (topS 31), defScope (topS 31), [], []⟩, ["diagram", "word", "other"], ["diagram", "word", "other"]⟩
def r_element_of : DR := ⟨f_element_of, F_element_of, ⟨("element_of", none), "element_of", "element_of", defArgs (topS 32), defBody (topS 32), defScope (topS 32), [], []⟩, ["diagram", "letters", "found", "mirror"], ["diagram", "letters"]⟩
def r_look_at_set : DR := ⟨f_look_at_set, F_look_at_set, ⟨("look_at_set", none), "look_at_set", "look_at_set", defArgs (topS 34), defBody (topS 34), defScope (topS 34), [], []⟩, ["diagram", "mirrors", "one"], ["diagram", "mirrors"]⟩
def r_split_left : DR := ⟨f_split_left, F_split_left, ⟨("split_left", none), "split_left", "split_left", defArgs (topS 35), defBody (topS 35), defScope (topS 35), [], []⟩, ["diagram", "mirrors", "word", "found", "letters", "going", "mirror"], ["diagram", "mirrors", "word"]⟩
def r_split_right : DR := ⟨f_split_right, F_split_right, ⟨("split_right", none), "split_right", "split_right", defArgs (topS 36), defBody (topS 36), defScope (topS 36), [], []⟩, ["diagram", "word", "mirrors", "last", "rest"], ["diagram", "word", "mirrors"]⟩
def r_letters_of : DR := ⟨f_letters_of, F_letters_of, ⟨("letters_of", none), "letters_of", "letters_of", defArgs (topS 37), defBody (topS 37), defScope (topS 37), [], []⟩, ["diagram", "word", "mirror"], ["diagram", "word"]⟩
def r_is_edge : DR := ⟨f_is_edge, F_is_edge, ⟨("is_edge", none), "is_edge", "is_edge", defArgs (topS 42), defBody (topS 42), defScope (topS 42), [], []⟩, ["value", "size", "one"], ["value", "size"]⟩
def r__law_draws : DR := ⟨f__law_draws, F__law_draws, ⟨("_law_draws", none), "_law_draws", "_law_draws", defArgs (topS 44), defBody (topS 44), defScope (topS 44), [], []⟩, ["script"], ["script"]⟩
def r__law_draw : DR := ⟨f__law_draw, F__law_draw, ⟨("_law_draw", none), "_law_draw", "_law_draw", defArgs (topS 45), defBody (topS 45), defScope (topS 45), [], []⟩, ["draws", "limit", "cell", "value"], ["draws", "limit"]⟩
def r__law_same : DR := ⟨f__law_same, F__law_same, ⟨("_law_same", none), "_law_same", "_law_same", defArgs (topS 46), defBody (topS 46), defScope (topS 46), [], []⟩, ["actual", "expected", "k"], ["actual", "expected"]⟩
def r__law_plus : DR := ⟨f__law_plus, F__law_plus, ⟨("_law_plus", none), "_law_plus", "_law_plus", defArgs (topS 47), defBody (topS 47), defScope (topS 47), [], []⟩, ["one", "two"], ["one", "two"]⟩
def r__law_times : DR := ⟨f__law_times, F__law_times, ⟨("_law_times", none), "_law_times", "_law_times", defArgs (topS 48), defBody (topS 48), defScope (topS 48), [], []⟩, ["one", "two"], ["one", "two"]⟩
def r__law_sign : DR := ⟨f__law_sign, F__law_sign, ⟨("_law_sign", none), "_law_sign", "_law_sign", defArgs (topS 49), defBody (topS 49), defScope (topS 49), [], []⟩, ["number", "whole", "rooted", "far"], ["number"]⟩
def r__law_slope : DR := ⟨f__law_slope, F__law_slope, ⟨("_law_slope", none), "_law_slope", "_law_slope", defArgs (topS 50), defBody (topS 50), defScope (topS 50), [], []⟩, ["world", "first", "other", "size", "edges", "told", "far", "edge"], ["world", "first", "other"]⟩
def r__law_taken : DR := ⟨f__law_taken, F__law_taken, ⟨("_law_taken", none), "_law_taken", "_law_taken", defArgs (topS 51), defBody (topS 51), defScope (topS 51), [], []⟩, ["world", "mirror", "root", "told", "other"], ["world", "mirror", "root"]⟩
def r__law_mirrored : DR := ⟨f__law_mirrored, F__law_mirrored, ⟨("_law_mirrored", none), "_law_mirrored", "_law_mirrored", defArgs (topS 52), defBody (topS 52), defScope (topS 52), [], []⟩, ["world", "mirror", "root", "far"], ["world", "mirror", "root"]⟩
def r__law_simple : DR := ⟨f__law_simple, F__law_simple, ⟨("_law_simple", none), "_law_simple", "_law_simple", defArgs (topS 53), defBody (topS 53), defScope (topS 53), [], []⟩, ["world", "mirror", "other"], ["world", "mirror"]⟩
def r__law_moved : DR := ⟨f__law_moved, F__law_moved, ⟨("_law_moved", none), "_law_moved", "_law_moved", defArgs (topS 54), defBody (topS 54), defScope (topS 54), [], []⟩, ["world", "word", "root", "mirror"], ["world", "word", "root"]⟩
def r__law_side : DR := ⟨f__law_side, F__law_side, ⟨("_law_side", none), "_law_side", "_law_side", defArgs (topS 55), defBody (topS 55), defScope (topS 55), [], []⟩, ["root", "signs", "number"], ["root"]⟩
def r__law_normal : DR := ⟨f__law_normal, F__law_normal, ⟨("_law_normal", none), "_law_normal", "_law_normal", defArgs (topS 57), defBody (topS 57), defScope (topS 57), [], []⟩, ["world", "word", "images", "told", "low", "first", "base", "other", "mirror", "by", "k"], ["world", "word"]⟩
def r__law_finite_world : DR := ⟨f__law_finite_world, F__law_finite_world, ⟨("_law_finite_world", none), "_law_finite_world", "_law_finite_world", defArgs (topS 58), defBody (topS 58), defScope (topS 58), [], []⟩, ["draws", "most", "pool"], ["draws", "most"]⟩
def r__law_world : DR := ⟨f__law_world, F__law_world, ⟨("_law_world", none), "_law_world", "_law_world", defArgs (topS 59), defBody (topS 59), defScope (topS 59), [], []⟩, ["draws", "kind", "size", "edges", "one", "pool", "two", "label"], ["draws"]⟩
def r__law_word : DR := ⟨f__law_word, F__law_word, ⟨("_law_word", none), "_law_word", "_law_word", defArgs (topS 60), defBody (topS 60), defScope (topS 60), [], []⟩, ["draws", "size", "most", "k"], ["draws", "size", "most"]⟩
def r__law_set : DR := ⟨f__law_set, F__law_set, ⟨("_law_set", none), "_law_set", "_law_set", defArgs (topS 61), defBody (topS 61), defScope (topS 61), [], []⟩, ["draws", "size", "mirror"], ["draws", "size"]⟩
def r__law_split : DR := ⟨f__law_split, F__law_split, ⟨("_law_split", none), "_law_split", "_law_split", defArgs (topS 62), defBody (topS 62), defScope (topS 62), [], []⟩, ["world", "mirrors", "word", "rest", "letters", "going", "mirror", "less"], ["world", "mirrors", "word"]⟩
def r__law_split_behind : DR := ⟨f__law_split_behind, F__law_split_behind, ⟨("_law_split_behind", none), "_law_split_behind", "_law_split_behind", defArgs (topS 63), defBody (topS 63), defScope (topS 63), [], []⟩, ["world", "word", "mirrors", "last", "rest"], ["world", "word", "mirrors"]⟩
def r_law : DR := ⟨f_law, F_law, ⟨("law", none), "law", "law", defArgs (topS 64), defBody (topS 64), defScope (topS 64), [], []⟩, ["script", "draws", "turn", "world", "size", "diagram", "word", "mirrors", "least", "first", "rest", "ahead", "last", "some", "bad", "which", "e", "k", "mirror"], ["script"]⟩
def r_Element___init__ : DR := ⟨f_Element___init__, F_Element___init__, ⟨("Element", some "__init__"), "__init__", "Element.__init__", defArgs (subS 25 0), defBody (subS 25 0), defScope (subS 25 0), [], []⟩, ["self", "diagram", "images"], ["self", "diagram", "images"]⟩
def r_Element_left : DR := ⟨f_Element_left, F_Element_left, ⟨("Element", some "left"), "left", "Element.left", defArgs (subS 25 2), defBody (subS 25 2), defScope (subS 25 2), [], []⟩, ["self", "k", "root"], ["self"]⟩
def r_Element_after_left : DR := ⟨f_Element_after_left, F_Element_after_left, ⟨("Element", some "after_left"), "after_left", "Element.after_left", defArgs (subS 25 3), defBody (subS 25 3), defScope (subS 25 3), [], []⟩, ["self", "mirror", "row", "found", "other", "image", "by", "one", "two"], ["self", "mirror"]⟩
def r_Element_after_right : DR := ⟨f_Element_after_right, F_Element_after_right, ⟨("Element", some "after_right"), "after_right", "Element.after_right", defArgs (subS 25 4), defBody (subS 25 4), defScope (subS 25 4), [], []⟩, ["self", "mirror", "root"], ["self", "mirror"]⟩
def r_Diagram___init__ : DR := ⟨f_Diagram___init__, F_Diagram___init__, ⟨("Diagram", some "__init__"), "__init__", "Diagram.__init__", defArgs (subS 41 0), defBody (subS 41 0), defScope (subS 41 0), [], []⟩, ["self", "size", "edges", "edge"], ["self", "size", "edges"]⟩
def r_Diagram_label : DR := ⟨f_Diagram_label, F_Diagram_label, ⟨("Diagram", some "label"), "label", "Diagram.label", defArgs (subS 41 1), defBody (subS 41 1), defScope (subS 41 1), [], []⟩, ["self", "first", "other"], ["self", "first", "other"]⟩
def tab : List DR := [r_is_integer, r_plus, r_negated, r_minus, r_times, r_sign, r_total, r_slope, r_simple, r_mirrored, r_root_sign, r_is_word, r_look_at_word, r_nothing, r_element, r_least_word, r_normal, r_inverse, r_times_word, r_element_of, r_look_at_set, r_split_left, r_split_right, r_letters_of, r_is_edge, r__law_draws, r__law_draw, r__law_same, r__law_plus, r__law_times, r__law_sign, r__law_slope, r__law_taken, r__law_mirrored, r__law_simple, r__law_moved, r__law_side, r__law_normal, r__law_finite_world, r__law_world, r__law_word, r__law_set, r__law_split, r__law_split_behind, r_law, r_Element___init__, r_Element_left, r_Element_after_left, r_Element_after_right, r_Diagram___init__, r_Diagram_label]
def I : WM.TI where
  fname := fun n => match n with | 3 => "is_integer" | 5 => "plus" | 6 => "negated" | 7 => "minus" | 8 => "times" | 9 => "sign" | 10 => "total" | 21 => "slope" | 65 => "simple" | 66 => "mirrored" | 80 => "root_sign" | 22 => "is_word" | 23 => "look_at_word" | 67 => "nothing" | 68 => "element" | 101 => "least_word" | 102 => "normal" | 114 => "inverse" | 103 => "times_word" | 104 => "element_of" | 134 => "look_at_set" | 135 => "split_left" | 136 => "split_right" | 141 => "letters_of" | 31 => "is_edge" | 11 => "_law_draws" | 12 => "_law_draw" | 13 => "_law_same" | 32 => "_law_plus" | 33 => "_law_times" | 34 => "_law_sign" | 35 => "_law_slope" | 36 => "_law_taken" | 37 => "_law_mirrored" | 38 => "_law_simple" | 39 => "_law_moved" | 40 => "_law_side" | 41 => "_law_normal" | 42 => "_law_finite_world" | 43 => "_law_world" | 44 => "_law_word" | 139 => "_law_set" | 144 => "_law_split" | 145 => "_law_split_behind" | 16 => "law" | 76 => "__init__" | 109 => "left" | 110 => "after_left" | 78 => "after_right" | 46 => "__init__" | 47 => "label" | _ => ""
  gname := fun n => match n with | 0 => "ZERO" | 1 => "ONE" | 2 => "GOLD" | 18 => "MOST_LETTERS" | 19 => "MOST_MIRRORS" | 20 => "LABELS" | _ => ""
  cl := [64, 17]
  cname := fun n => match n with | 64 => "Element" | 17 => "Diagram" | 143 => "BadWord" | _ => ""
  xcl := [143]
  flds := fun n => match n with | 64 => ["diagram", "images"] | 17 => ["labels", "size"] | _ => []
  mth := fun n => match n with | 76 => some 64 | 109 => some 64 | 110 => some 64 | 78 => some 64 | 46 => some 17 | 47 => some 17 | _ => none
def gl : List (Nat × W) := [(0, (.tup [(.int 0), (.int 0)])), (1, (.tup [(.int 1), (.int 0)])), (2, (.tup [(.int 0), (.int 1)])), (18, (.int 400)), (19, (.int 9)), (20, (.tup [(.int 0), (.int 3), (.int 4), (.int 5), (.int 6)]))]
abbrev T : Tab := tabOf (globOf gl) tab
theorem t_is_integer : T.fn f_is_integer = some F_is_integer := rfl
theorem t_plus : T.fn f_plus = some F_plus := rfl
theorem t_negated : T.fn f_negated = some F_negated := rfl
theorem t_minus : T.fn f_minus = some F_minus := rfl
theorem t_times : T.fn f_times = some F_times := rfl
theorem t_sign : T.fn f_sign = some F_sign := rfl
theorem t_total : T.fn f_total = some F_total := rfl
theorem t_slope : T.fn f_slope = some F_slope := rfl
theorem t_simple : T.fn f_simple = some F_simple := rfl
theorem t_mirrored : T.fn f_mirrored = some F_mirrored := rfl
theorem t_root_sign : T.fn f_root_sign = some F_root_sign := rfl
theorem t_is_word : T.fn f_is_word = some F_is_word := rfl
theorem t_look_at_word : T.fn f_look_at_word = some F_look_at_word := rfl
theorem t_nothing : T.fn f_nothing = some F_nothing := rfl
theorem t_element : T.fn f_element = some F_element := rfl
theorem t_least_word : T.fn f_least_word = some F_least_word := rfl
theorem t_normal : T.fn f_normal = some F_normal := rfl
theorem t_inverse : T.fn f_inverse = some F_inverse := rfl
theorem t_times_word : T.fn f_times_word = some F_times_word := rfl
theorem t_element_of : T.fn f_element_of = some F_element_of := rfl
theorem t_look_at_set : T.fn f_look_at_set = some F_look_at_set := rfl
theorem t_split_left : T.fn f_split_left = some F_split_left := rfl
theorem t_split_right : T.fn f_split_right = some F_split_right := rfl
theorem t_letters_of : T.fn f_letters_of = some F_letters_of := rfl
theorem t_is_edge : T.fn f_is_edge = some F_is_edge := rfl
theorem t__law_draws : T.fn f__law_draws = some F__law_draws := rfl
theorem t__law_draw : T.fn f__law_draw = some F__law_draw := rfl
theorem t__law_same : T.fn f__law_same = some F__law_same := rfl
theorem t__law_plus : T.fn f__law_plus = some F__law_plus := rfl
theorem t__law_times : T.fn f__law_times = some F__law_times := rfl
theorem t__law_sign : T.fn f__law_sign = some F__law_sign := rfl
theorem t__law_slope : T.fn f__law_slope = some F__law_slope := rfl
theorem t__law_taken : T.fn f__law_taken = some F__law_taken := rfl
theorem t__law_mirrored : T.fn f__law_mirrored = some F__law_mirrored := rfl
theorem t__law_simple : T.fn f__law_simple = some F__law_simple := rfl
theorem t__law_moved : T.fn f__law_moved = some F__law_moved := rfl
theorem t__law_side : T.fn f__law_side = some F__law_side := rfl
theorem t__law_normal : T.fn f__law_normal = some F__law_normal := rfl
theorem t__law_finite_world : T.fn f__law_finite_world = some F__law_finite_world := rfl
theorem t__law_world : T.fn f__law_world = some F__law_world := rfl
theorem t__law_word : T.fn f__law_word = some F__law_word := rfl
theorem t__law_set : T.fn f__law_set = some F__law_set := rfl
theorem t__law_split : T.fn f__law_split = some F__law_split := rfl
theorem t__law_split_behind : T.fn f__law_split_behind = some F__law_split_behind := rfl
theorem t_law : T.fn f_law = some F_law := rfl
theorem t_Element___init__ : T.fn f_Element___init__ = some F_Element___init__ := rfl
theorem t_Element_left : T.fn f_Element_left = some F_Element_left := rfl
theorem t_Element_after_left : T.fn f_Element_after_left = some F_Element_after_left := rfl
theorem t_Element_after_right : T.fn f_Element_after_right = some F_Element_after_right := rfl
theorem t_Diagram___init__ : T.fn f_Diagram___init__ = some F_Diagram___init__ := rfl
theorem t_Diagram_label : T.fn f_Diagram_label = some F_Diagram_label := rfl
theorem g_ZERO : T.glob 0 = some (.tup [(.int 0), (.int 0)]) := rfl
theorem g_ONE : T.glob 1 = some (.tup [(.int 1), (.int 0)]) := rfl
theorem g_GOLD : T.glob 2 = some (.tup [(.int 0), (.int 1)]) := rfl
theorem g_MOST_LETTERS : T.glob 18 = some (.int 400) := rfl
theorem g_MOST_MIRRORS : T.glob 19 = some (.int 9) := rfl
theorem g_LABELS : T.glob 20 = some (.tup [(.int 0), (.int 3), (.int 4), (.int 5), (.int 6)]) := rfl
theorem k_is_integer : DR.ok T I r_is_integer = true := by decide +kernel
theorem k_plus : DR.ok T I r_plus = true := by decide +kernel
theorem k_negated : DR.ok T I r_negated = true := by decide +kernel
theorem k_minus : DR.ok T I r_minus = true := by decide +kernel
theorem k_times : DR.ok T I r_times = true := by decide +kernel
theorem k_sign : DR.ok T I r_sign = true := by decide +kernel
theorem k_total : DR.ok T I r_total = true := by decide +kernel
theorem k_slope : DR.ok T I r_slope = true := by decide +kernel
theorem k_simple : DR.ok T I r_simple = true := by decide +kernel
theorem k_mirrored : DR.ok T I r_mirrored = true := by decide +kernel
theorem k_root_sign : DR.ok T I r_root_sign = true := by decide +kernel
theorem k_is_word : DR.ok T I r_is_word = true := by decide +kernel
theorem k_look_at_word : DR.ok T I r_look_at_word = true := by decide +kernel
theorem k_nothing : DR.ok T I r_nothing = true := by decide +kernel
theorem k_element : DR.ok T I r_element = true := by decide +kernel
theorem k_least_word : DR.ok T I r_least_word = true := by decide +kernel
theorem k_normal : DR.ok T I r_normal = true := by decide +kernel
theorem k_inverse : DR.ok T I r_inverse = true := by decide +kernel
theorem k_times_word : DR.ok T I r_times_word = true := by decide +kernel
theorem k_element_of : DR.ok T I r_element_of = true := by decide +kernel
theorem k_look_at_set : DR.ok T I r_look_at_set = true := by decide +kernel
theorem k_split_left : DR.ok T I r_split_left = true := by decide +kernel
theorem k_split_right : DR.ok T I r_split_right = true := by decide +kernel
theorem k_letters_of : DR.ok T I r_letters_of = true := by decide +kernel
theorem k_is_edge : DR.ok T I r_is_edge = true := by decide +kernel
theorem k__law_draws : DR.ok T I r__law_draws = true := by decide +kernel
theorem k__law_draw : DR.ok T I r__law_draw = true := by decide +kernel
theorem k__law_same : DR.ok T I r__law_same = true := by decide +kernel
theorem k__law_plus : DR.ok T I r__law_plus = true := by decide +kernel
theorem k__law_times : DR.ok T I r__law_times = true := by decide +kernel
theorem k__law_sign : DR.ok T I r__law_sign = true := by decide +kernel
theorem k__law_slope : DR.ok T I r__law_slope = true := by decide +kernel
theorem k__law_taken : DR.ok T I r__law_taken = true := by decide +kernel
theorem k__law_mirrored : DR.ok T I r__law_mirrored = true := by decide +kernel
theorem k__law_simple : DR.ok T I r__law_simple = true := by decide +kernel
theorem k__law_moved : DR.ok T I r__law_moved = true := by decide +kernel
theorem k__law_side : DR.ok T I r__law_side = true := by decide +kernel
theorem k__law_normal : DR.ok T I r__law_normal = true := by decide +kernel
theorem k__law_finite_world : DR.ok T I r__law_finite_world = true := by decide +kernel
theorem k__law_world : DR.ok T I r__law_world = true := by decide +kernel
theorem k__law_word : DR.ok T I r__law_word = true := by decide +kernel
theorem k__law_set : DR.ok T I r__law_set = true := by decide +kernel
theorem k__law_split : DR.ok T I r__law_split = true := by decide +kernel
theorem k__law_split_behind : DR.ok T I r__law_split_behind = true := by decide +kernel
theorem k_law : DR.ok T I r_law = true := by decide +kernel
theorem k_Element___init__ : DR.ok T I r_Element___init__ = true := by decide +kernel
theorem k_Element_left : DR.ok T I r_Element_left = true := by decide +kernel
theorem k_Element_after_left : DR.ok T I r_Element_after_left = true := by decide +kernel
theorem k_Element_after_right : DR.ok T I r_Element_after_right = true := by decide +kernel
theorem k_Diagram___init__ : DR.ok T I r_Diagram___init__ = true := by decide +kernel
theorem k_Diagram_label : DR.ok T I r_Diagram_label = true := by decide +kernel
theorem tab_ok : tab.all (DR.ok T I) = true := by
  unfold tab
  simp only [List.all_cons, List.all_nil, k_is_integer, k_plus, k_negated, k_minus, k_times, k_sign, k_total, k_slope, k_simple, k_mirrored, k_root_sign, k_is_word, k_look_at_word, k_nothing, k_element, k_least_word, k_normal, k_inverse, k_times_word, k_element_of, k_look_at_set, k_split_left, k_split_right, k_letters_of, k_is_edge, k__law_draws, k__law_draw, k__law_same, k__law_plus, k__law_times, k__law_sign, k__law_slope, k__law_taken, k__law_mirrored, k__law_simple, k__law_moved, k__law_side, k__law_normal, k__law_finite_world, k__law_world, k__law_word, k__law_set, k__law_split, k__law_split_behind, k_law, k_Element___init__, k_Element_left, k_Element_after_left, k_Element_after_right, k_Diagram___init__, k_Diagram_label, Bool.and_self]
theorem bi_is_integer : r_is_integer.Bi := fun _ _ _ _ _ _ us hl => match us, hl with | [_], _ => rfl
theorem bi_plus : r_plus.Bi := fun _ _ _ _ _ _ us hl => match us, hl with | [_, _], _ => rfl
theorem bi_negated : r_negated.Bi := fun _ _ _ _ _ _ us hl => match us, hl with | [_], _ => rfl
theorem bi_minus : r_minus.Bi := fun _ _ _ _ _ _ us hl => match us, hl with | [_, _], _ => rfl
theorem bi_times : r_times.Bi := fun _ _ _ _ _ _ us hl => match us, hl with | [_, _], _ => rfl
theorem bi_sign : r_sign.Bi := fun _ _ _ _ _ _ us hl => match us, hl with | [_], _ => rfl
theorem bi_total : r_total.Bi := fun _ _ _ _ _ _ us hl => match us, hl with | [_], _ => rfl
theorem bi_slope : r_slope.Bi := fun _ _ _ _ _ _ us hl => match us, hl with | [_, _, _], _ => rfl
theorem bi_simple : r_simple.Bi := fun _ _ _ _ _ _ us hl => match us, hl with | [_, _], _ => rfl
theorem bi_mirrored : r_mirrored.Bi := fun _ _ _ _ _ _ us hl => match us, hl with | [_, _, _], _ => rfl
theorem bi_root_sign : r_root_sign.Bi := fun _ _ _ _ _ _ us hl => match us, hl with | [_], _ => rfl
theorem bi_is_word : r_is_word.Bi := fun _ _ _ _ _ _ us hl => match us, hl with | [_, _], _ => rfl
theorem bi_look_at_word : r_look_at_word.Bi := fun _ _ _ _ _ _ us hl => match us, hl with | [_, _], _ => rfl
theorem bi_nothing : r_nothing.Bi := fun _ _ _ _ _ _ us hl => match us, hl with | [_], _ => rfl
theorem bi_element : r_element.Bi := fun _ _ _ _ _ _ us hl => match us, hl with | [_, _], _ => rfl
theorem bi_least_word : r_least_word.Bi := fun _ _ _ _ _ _ us hl => match us, hl with | [_], _ => rfl
theorem bi_normal : r_normal.Bi := fun _ _ _ _ _ _ us hl => match us, hl with | [_, _], _ => rfl
theorem bi_inverse : r_inverse.Bi := fun _ _ _ _ _ _ us hl => match us, hl with | [_], _ => rfl
theorem bi_times_word : r_times_word.Bi := fun _ _ _ _ _ _ us hl => match us, hl with | [_, _, _], _ => rfl
theorem bi_element_of : r_element_of.Bi := fun _ _ _ _ _ _ us hl => match us, hl with | [_, _], _ => rfl
theorem bi_look_at_set : r_look_at_set.Bi := fun _ _ _ _ _ _ us hl => match us, hl with | [_, _], _ => rfl
theorem bi_split_left : r_split_left.Bi := fun _ _ _ _ _ _ us hl => match us, hl with | [_, _, _], _ => rfl
theorem bi_split_right : r_split_right.Bi := fun _ _ _ _ _ _ us hl => match us, hl with | [_, _, _], _ => rfl
theorem bi_letters_of : r_letters_of.Bi := fun _ _ _ _ _ _ us hl => match us, hl with | [_, _], _ => rfl
theorem bi_is_edge : r_is_edge.Bi := fun _ _ _ _ _ _ us hl => match us, hl with | [_, _], _ => rfl
theorem bi__law_draws : r__law_draws.Bi := fun _ _ _ _ _ _ us hl => match us, hl with | [_], _ => rfl
theorem bi__law_draw : r__law_draw.Bi := fun _ _ _ _ _ _ us hl => match us, hl with | [_, _], _ => rfl
theorem bi__law_same : r__law_same.Bi := fun _ _ _ _ _ _ us hl => match us, hl with | [_, _], _ => rfl
theorem bi__law_plus : r__law_plus.Bi := fun _ _ _ _ _ _ us hl => match us, hl with | [_, _], _ => rfl
theorem bi__law_times : r__law_times.Bi := fun _ _ _ _ _ _ us hl => match us, hl with | [_, _], _ => rfl
theorem bi__law_sign : r__law_sign.Bi := fun _ _ _ _ _ _ us hl => match us, hl with | [_], _ => rfl
theorem bi__law_slope : r__law_slope.Bi := fun _ _ _ _ _ _ us hl => match us, hl with | [_, _, _], _ => rfl
theorem bi__law_taken : r__law_taken.Bi := fun _ _ _ _ _ _ us hl => match us, hl with | [_, _, _], _ => rfl
theorem bi__law_mirrored : r__law_mirrored.Bi := fun _ _ _ _ _ _ us hl => match us, hl with | [_, _, _], _ => rfl
theorem bi__law_simple : r__law_simple.Bi := fun _ _ _ _ _ _ us hl => match us, hl with | [_, _], _ => rfl
theorem bi__law_moved : r__law_moved.Bi := fun _ _ _ _ _ _ us hl => match us, hl with | [_, _, _], _ => rfl
theorem bi__law_side : r__law_side.Bi := fun _ _ _ _ _ _ us hl => match us, hl with | [_], _ => rfl
theorem bi__law_normal : r__law_normal.Bi := fun _ _ _ _ _ _ us hl => match us, hl with | [_, _], _ => rfl
theorem bi__law_finite_world : r__law_finite_world.Bi := fun _ _ _ _ _ _ us hl => match us, hl with | [_, _], _ => rfl
theorem bi__law_world : r__law_world.Bi := fun _ _ _ _ _ _ us hl => match us, hl with | [_], _ => rfl
theorem bi__law_word : r__law_word.Bi := fun _ _ _ _ _ _ us hl => match us, hl with | [_, _, _], _ => rfl
theorem bi__law_set : r__law_set.Bi := fun _ _ _ _ _ _ us hl => match us, hl with | [_, _], _ => rfl
theorem bi__law_split : r__law_split.Bi := fun _ _ _ _ _ _ us hl => match us, hl with | [_, _, _], _ => rfl
theorem bi__law_split_behind : r__law_split_behind.Bi := fun _ _ _ _ _ _ us hl => match us, hl with | [_, _, _], _ => rfl
theorem bi_law : r_law.Bi := fun _ _ _ _ _ _ us hl => match us, hl with | [_], _ => rfl
theorem bi_Element___init__ : r_Element___init__.Bi := fun _ _ _ _ _ _ us hl => match us, hl with | [_, _, _], _ => rfl
theorem bi_Element_left : r_Element_left.Bi := fun _ _ _ _ _ _ us hl => match us, hl with | [_], _ => rfl
theorem bi_Element_after_left : r_Element_after_left.Bi := fun _ _ _ _ _ _ us hl => match us, hl with | [_, _], _ => rfl
theorem bi_Element_after_right : r_Element_after_right.Bi := fun _ _ _ _ _ _ us hl => match us, hl with | [_, _], _ => rfl
theorem bi_Diagram___init__ : r_Diagram___init__.Bi := fun _ _ _ _ _ _ us hl => match us, hl with | [_, _, _], _ => rfl
theorem bi_Diagram_label : r_Diagram_label.Bi := fun _ _ _ _ _ _ us hl => match us, hl with | [_, _, _], _ => rfl
theorem tab_bi : ∀ r ∈ tab, r.Bi := by
  unfold tab
  simp only [List.forall_mem_cons, bi_is_integer, bi_plus, bi_negated, bi_minus, bi_times, bi_sign, bi_total, bi_slope, bi_simple, bi_mirrored, bi_root_sign, bi_is_word, bi_look_at_word, bi_nothing, bi_element, bi_least_word, bi_normal, bi_inverse, bi_times_word, bi_element_of, bi_look_at_set, bi_split_left, bi_split_right, bi_letters_of, bi_is_edge, bi__law_draws, bi__law_draw, bi__law_same, bi__law_plus, bi__law_times, bi__law_sign, bi__law_slope, bi__law_taken, bi__law_mirrored, bi__law_simple, bi__law_moved, bi__law_side, bi__law_normal, bi__law_finite_world, bi__law_world, bi__law_word, bi__law_set, bi__law_split, bi__law_split_behind, bi_law, bi_Element___init__, bi_Element_left, bi_Element_after_left, bi_Element_after_right, bi_Diagram___init__, bi_Diagram_label, List.not_mem_nil, true_and, false_imp_iff, implies_true]
abbrev R : PySem.W.OpenRow := PySem.W.OpenLaw.row PySem.Challenge.rw_mirrorwalk_k33_elements_beside_sets
abbrev hk : PySem.W.Hook := hookW 5 I gl tab
def ob (s : PySem.W.SharedT) : AlW := obsWG 5 I gl tab (HandSHeadRun.getT s)
theorem ob_eq (s : PySem.W.SharedT) : ob s = hk.obs s.abs := obsWG_eq (HandSHeadRun.getT_eq s)
def loose0 : List PySem.Str := ["_wall", "MirrorError", "BadDiagram", "BadWord", "ZERO", "ONE", "GOLD", "is_integer", "plus", "negated", "minus", "times", "sign", "total", "MOST_LETTERS", "slope", "simple", "mirrored", "root_sign", "is_word", "look_at_word", "Element", "nothing", "element", "least_word", "normal", "inverse", "times_word", "element_of", "look_at_set"]
def loose1 : List PySem.Str := ["split_left", "split_right", "letters_of", "MOST_MIRRORS", "LABELS", "Diagram", "is_edge", "_law_draws", "_law_draw", "_law_same", "_law_plus", "_law_times", "_law_sign", "_law_slope", "_law_taken", "_law_mirrored", "_law_simple", "_law_moved", "_law_side", "_law_key", "_law_normal", "_law_finite_world", "_law_world", "_law_word", "_law_set", "_law_split", "_law_split_behind"]
def loose : List PySem.Str := loose0 ++ loose1
theorem run (w : World) : HandSHeadRun.RunEq R (PySem.W.view R.prog [64]) hk ob 4000 loose w := by
  intro os
  kernel_rfl
end Lk
open PySem PySem.W PySem.Calls PyProof.Rows
/-- the law's equation gives the statement -/
theorem Lk.holds (lvl : Nat) (hr : lvl ≤ 100) (law : ∀ ns : List Int, ns.length ≤ 63 → ∃ m', WM.evC Lk.T lvl Lk.f_law [.klst (ns.map .int)] [] = some (.ok (.bl true), m')) : PySem.Challenge.rw_mirrorwalk_k33_elements_beside_sets.Holds := by
  w_on; o_law
  refine HandSHeadRun.head_any (r := OpenLaw.row PySem.Challenge.rw_mirrorwalk_k33_elements_beside_sets) (q := view (OpenLaw.row PySem.Challenge.rw_mirrorwalk_k33_elements_beside_sets).prog [64]) (H := Lk.hk) (ob := Lk.ob) (M := 4000) (loose := Lk.loose) (d := HandSHeadRun.topDef (OpenLaw.row PySem.Challenge.rw_mirrorwalk_k33_elements_beside_sets).prog 64) (kwd := []) Lk.ob_eq
    (by kernel_rfl) (fun s => by kernel_rfl) Lk.run (by kernel_rfl) (by kernel_rfl) (by kernel_rfl) (by rfl) (by first | assumption | decide +kernel) (by decide +kernel) ⟨rfl, rfl, rfl, rfl, rfl, by decide +kernel⟩ ?hw ?hc
  case hw => w_witness2
  case hc => exact WM.law_walk (l := PySem.Challenge.rw_mirrorwalk_k33_elements_beside_sets) (rl := Lk.r_law) (lvl := lvl) rfl (by kernel_rfl) (WM.room_le (by omega)) Lk.tab_ok Lk.tab_bi (by unfold Lk.tab; simp) Lk.t_law (by kernel_rfl) rfl rfl (by decide +kernel) law
namespace Lk
open PySem hiding alloc ret
open PySem.Spec PyProof.Rows L2 WM
/-- a set of mirrors: ascending, each once -/
structure SetOk (n : Nat) (J : List Nat) : Prop where
  lt : ∀ x ∈ J, x < n
  asc : J.Pairwise (· < ·)
theorem SetOk.wd {n : Nat} {es : List Ed} {J : List Nat} (h : SetOk n J) : Mx.Wd (wo n es) J := h.lt
theorem SetOk.len {n : Nat} {J : List Nat} (h : SetOk n J) : J.length ≤ n := by
  have hn : J.Nodup := h.asc.imp (fun {a b} hab => by omega)
  have := hn.length_le_of_subset (l₂ := List.range n) fun x hx => List.mem_range.2 (h.lt x hx)
  rwa [List.length_range] at this
theorem dedI_nodup : ∀ (is acc : List Int), (acc ++ is).Nodup → is.foldl (fun acc i => if i ∈ acc then acc else acc ++ [i]) acc = acc ++ is
  | [], acc, _ => by simp
  | i :: is, acc, h => by
    rw [List.foldl_cons]
    have hi : i ∉ acc := fun hm => by
      rw [List.nodup_append] at h
      exact h.2.2 i hm i List.mem_cons_self rfl
    rw [if_neg hi, dedI_nodup is (acc ++ [i]) (by rw [List.append_assoc]; exact h), List.append_assoc]; rfl
theorem intsW_nat : ∀ J : List Nat, intsW (J.map nW) = some (J.map fun x : Nat => (x : Int))
  | [] => rfl
  | x :: J => by rw [List.map_cons, nW, intsW, intsW_nat J]; rfl
theorem sdc_set {n : Nat} {J : List Nat} (h : SetOk n J) (h9 : n ≤ 9) : sdcW (J.map nW) = some (.lst (J.map nW)) := by
  have hp : (J.map fun x : Nat => (x : Int)).Pairwise (· < ·) := List.pairwise_map.2 (h.asc.imp fun {a b} hab => by omega)
  have hd : dedI (J.map fun x : Nat => (x : Int)) = J.map fun x : Nat => (x : Int) := by
    have := dedI_nodup (J.map fun x : Nat => (x : Int)) [] (by rw [List.nil_append]; exact hp.imp fun {a b} hab => by omega)
    unfold dedI
    rw [this, List.nil_append]
  have hs : WM.sortI (J.map fun x : Nat => (x : Int)) = J.map fun x : Nat => (x : Int) := srt_one (sortI_perm _) (sortI_srt _) (hp.imp fun {a b} hab => by omega)
  unfold sdcW
  rw [intsW_nat]
  dsimp only
  rw [hd, hs, if_pos (by rw [List.length_map]; have := h.len; omega), List.map_map]
  rfl
theorem compS_all {α : Type} (f : α → W) (xs : List α) (g : α → Int) {tg : Tg} {sg : Sg} {tst : Sg → M W} {elt : Sg → M W} {m : Hm}
    (h : ∀ x ∈ xs, ∃ sg', asgT tg (f x) sg = some sg' ∧ tst sg' m = some (.ok (.bl true), m) ∧ elt sg' m = some (.ok (.int (g x)), m)) :
    compGo tg sg tst (eltI elt) (xs.map f) m = some (.ok (xs.map fun x => W.int (g x)), m) :=
  comp_all f xs (fun x => W.int (g x)) fun x hx => by
    obtain ⟨sg', h1, h2, h3⟩ := h x hx
    refine ⟨sg', h1, h2, ?_⟩
    simp [eltI, h3, intG]
end Lk
namespace Lk
open PySem hiding alloc ret
open PySem.Spec PyProof.Rows L2 WM
theorem s_sign (l : Nat) (a : Gd) (g1 : bd 400000 a.1) (g2 : bd 400000 a.2) : evC T (l+1) f_sign [gW a] = ret (.int (Mx.sn a)) := by
  refine pure_of t_sign rfl fun m => ?_
  have h4 : mulOk 2 a.1 = true := mulOk_l (by decide)
  have h2 : mulOk 5 a.2 = true := mulOk_l (by decide)
  have hu : bd 400002 (2 * a.1 + a.2) := by
    unfold bd at *
    rw [show 400002 = 400000 + 2 by rfl, Nat.pow_add]
    generalize 2 ^ 400000 = P at *
    omega
  have h1 : mulOk (2 * a.1 + a.2) (2 * a.1 + a.2) = true := mulOk_bd hu hu (by omega)
  have h3 : mulOk (5 * a.2) a.2 = true := by
    refine mulOk_bd (n := 400003) ?_ g2 (by omega)
    unfold bd at *
    rw [show 400003 = 400000 + 3 by rfl, Nat.pow_add]
    generalize 2 ^ 400000 = P at *
    omega
  unfold Mx.sn Mx.sgn
  have e0 : idxM (gW a) (.int 0) = ret (.int a.1) := idx_gW0 a
  have e1 : idxM (gW a) (.int 1) = ret (.int a.2) := idx_gW1 a
  clear g1 g2 hu
  generalize gW a = wa at *
  generalize a.2 = b at *
  generalize hw : 2 * a.1 + b = u at *
  by_cases c1 : 0 ≤ u <;> by_cases c2 : 0 ≤ b
  · by_cases c5 : 0 < u <;> by_cases c6 : 0 < b <;>
    simp [F_sign, b_sign, e0, e1, binW, h1, h2, h3, h4, c1, c2, c5, c6, hw]
  · have c3 : b ≤ 0 := by omega
    by_cases c4 : u ≤ 0
    · simp [F_sign, b_sign, e0, e1, binW, h1, h2, h3, h4, c1, c2, c3, c4, hw]
    · have c5 : 0 < u := by omega
      by_cases c7 : 5*b*b < u*u <;>
      simp [F_sign, b_sign, e0, e1, binW, h1, h2, h3, h4, c1, c2, c3, c4, c5, c7, hw]
  · have c3 : u ≤ 0 := by omega
    have c5 : ¬ 0 < u := by omega
    by_cases c4 : b ≤ 0
    · simp [F_sign, b_sign, e0, e1, binW, h1, h2, h3, h4, c1, c2, c3, c4, hw]
    · by_cases c7 : 5*b*b < u*u <;>
      simp [F_sign, b_sign, e0, e1, binW, h1, h2, h3, h4, c1, c2, c3, c4, c5, c7, hw]
  · have c3 : b ≤ 0 := by omega
    have c4 : u ≤ 0 := by omega
    simp [F_sign, b_sign, e0, e1, binW, h1, h2, h3, h4, c1, c2, c3, c4, hw]
end Lk
namespace Lk
open PySem hiding alloc ret
open PySem.Spec PyProof.Rows L2 WM
/-- the side of a vector's first n numbers -/
def rsg (n : Nat) (v : Mx.Vc) : Int := if (List.range n).any (fun k => decide (Mx.sn (v k) = -1)) then (if (List.range n).any (fun k => decide (Mx.sn (v k) = 1)) then 0 else -1) else (if (List.range n).any (fun k => decide (Mx.sn (v k) = 1)) then 1 else 0)
theorem s_root_sign (l : Nat) {n : Nat} {v : Mx.Vc} (h : Bv 400000 v) : evC T (l+2) f_root_sign [rtW n v] = ret (.int (rsg n v)) := by
  refine pure_of t_root_sign rfl fun m => ?_
  simp [F_root_sign, b_root_sign, wipeW]
  rw [comp_all (fun k => gW (v k)) (List.range n) (fun k => .int (Mx.sn (v k))) (fun k hk => ⟨_, rfl, rfl, by simp [s_sign l (v k) (h k).1 (h k).2]⟩)]
  have i1 := in_ints n (-1) (fun k => Mx.sn (v k))
  have i2 := in_ints n 1 (fun k => Mx.sn (v k))
  unfold rsg
  cases c1 : (List.range n).any (fun k => decide (Mx.sn (v k) = -1)) <;> cases c2 : (List.range n).any (fun k => decide (Mx.sn (v k) = 1)) <;>
  rw [c1] at i1 <;> rw [c2] at i2 <;> simp [i1, i2]
theorem rsg_wim {n : Nat} {es : List Ed} (hd : EsOk n es) {u : List Nat} (hu : Mx.Wd (wo n es) u) {i : Nat} (hi : i < n) : rsg n (Mx.act (wo n es) u.reverse (Mx.es i)) = if Mx.ld (wo n es) u i then -1 else 1 := by
  have ok := wo_ok hd
  have sup : ∀ k, n ≤ k → Mx.act (wo n es) u.reverse (Mx.es i) k = 0 := fun k hk => by
    rw [Mx.act_supp u.reverse _ hu.rev hk]
    unfold Mx.es
    rw [if_neg (by omega)]
  have nz : ∃ k, k < n ∧ Mx.act (wo n es) u.reverse (Mx.es i) k ≠ 0 := by
    rcases Classical.em (∃ k, k < n ∧ Mx.act (wo n es) u.reverse (Mx.es i) k ≠ 0) with h | h
    · exact h
    · exfalso
      refine Mx.root_ne ok hu.rev i (funext fun k => ?_)
      rcases Nat.lt_or_ge k n with g | g
      · exact Decidable.byContradiction fun e => h ⟨k, g, e⟩
      · exact sup k g
  cases hl : Mx.ld (wo n es) u i with
  | true =>
    have h := Mx.down_neg' ok hu hi (Mx.ld_iff.1 hl)
    have c1 : (List.range n).any (fun k => decide (Mx.sn (Mx.act (wo n es) u.reverse (Mx.es i) k) = -1)) = true := by
      obtain ⟨k, hk, hz⟩ := nz
      rw [List.any_eq_true]
      refine ⟨k, List.mem_range.2 hk, decide_eq_true ?_⟩
      have h2 := h k
      unfold Mx.NN at h2
      rw [Mx.sn_neg] at h2
      rcases Mx.sn_cases (Mx.act (wo n es) u.reverse (Mx.es i) k) with e | e | e
      · omega
      · exact absurd (Mx.sn_eq_zero e) hz
      · exact e
    have c2 : (List.range n).any (fun k => decide (Mx.sn (Mx.act (wo n es) u.reverse (Mx.es i) k) = 1)) = false := by
      rw [List.any_eq_false]
      intro k _ e
      have e := of_decide_eq_true e
      have h2 := h k
      unfold Mx.NN at h2
      rw [Mx.sn_neg] at h2
      omega
    unfold rsg
    rw [c1, c2]; rfl
  | false =>
    have h := Mx.up_pos' ok hu hi ((Mx.ld_not hi).1 hl)
    have c1 : (List.range n).any (fun k => decide (Mx.sn (Mx.act (wo n es) u.reverse (Mx.es i) k) = 1)) = true := by
      obtain ⟨k, hk, hz⟩ := nz
      rw [List.any_eq_true]
      refine ⟨k, List.mem_range.2 hk, decide_eq_true ?_⟩
      have h2 := h k
      unfold Mx.NN at h2
      rcases Mx.sn_cases (Mx.act (wo n es) u.reverse (Mx.es i) k) with e | e | e
      · exact e
      · exact absurd (Mx.sn_eq_zero e) hz
      · omega
    have c2 : (List.range n).any (fun k => decide (Mx.sn (Mx.act (wo n es) u.reverse (Mx.es i) k) = -1)) = false := by
      rw [List.any_eq_false]
      intro k _ e
      have e := of_decide_eq_true e
      have h2 := h k
      unfold Mx.NN at h2
      omega
    unfold rsg
    rw [c1, c2]; rfl
end Lk
namespace Lk
open PySem hiding alloc ret
open PySem.Spec PyProof.Rows L2 WM
theorem s_simple (l : Nat) {m : Hm} {d n : Nat} {es : List Ed} (h : IsDg m d n es) (i : Nat) : evC T (l+1) f_simple [.ref d, nW i] m = some (.ok (rtW n (Mx.es i)), m) := by
  rw [call_eq t_simple rfl]
  have h9 := h.ok.sz
  obtain ⟨⟨k, h1, h2⟩, _⟩ := h
  have hr := rngM_n (n := n) (by omega)
  simp [F_simple, b_simple, h1, hr, wipeW]
  rw [comp_all nW (List.range n) (fun k => gW (Mx.es i k)) (fun k hk => by
    refine ⟨_, rfl, rfl, ?_⟩
    by_cases hki : k = i
    · simp [hki, g_ONE, Mx.es]; rfl
    · simp [hki, g_ZERO, Mx.es]; rfl)]
  simp
end Lk
namespace Lk
open PySem hiding alloc ret
open PySem.Spec PyProof.Rows L2 WM
theorem s_plus (l : Nat) (a b : Gd) : evC T (l+1) f_plus [gW a, gW b] = ret (gW (a + b)) := by
  refine pure_of t_plus rfl fun m => ?_
  simp [F_plus, b_plus, binW, gW, Mx.add_1, Mx.add_2]
theorem s_minus (l : Nat) (a b : Gd) : evC T (l+1) f_minus [gW a, gW b] = ret (gW (a - b)) := by
  refine pure_of t_minus rfl fun m => ?_
  simp [F_minus, b_minus, binW, gW, Mx.sub_1, Mx.sub_2]
theorem s_negated (l : Nat) (a : Gd) : evC T (l+1) f_negated [gW a] = ret (gW (-a)) := by
  refine pure_of t_negated rfl fun m => ?_
  simp [F_negated, b_negated, binW, gW, Mx.neg_1, Mx.neg_2]
theorem s_times (l : Nat) (a b : Gd) (h : Sm a) : evC T (l+1) f_times [gW a, gW b] = ret (gW (a * b)) := by
  refine pure_of t_times rfl fun m => ?_
  have k1 : ∀ j, mulOk a.1 j = true := fun j => mulOk_l h.1
  have k2 : ∀ j, mulOk a.2 j = true := fun j => mulOk_l h.2
  simp [F_times, b_times, binW, gW, k1, k2, Mx.mul_1, Mx.mul_2]
def sumG (xs : List Gd) : Gd := xs.foldl (· + ·) 0
theorem s_total (l : Nat) (xs : List Gd) : evC T (l+2) f_total [.lst (xs.map gW)] = ret (gW (sumG xs)) := by
  refine pure_of t_total rfl fun m => ?_
  simp [F_total, b_total, g_ZERO]
  obtain ⟨sg', m', h1, h2⟩ := loop_fold (tg := .v 2) (b := evSs T (evC T (l+1)) [.set (.v 1) (.call f_plus [.var 1, .var 2])]) (m := m) gW (fun (a x : Gd) => a + x) (fun a sg m' => m' = m ∧ ∃ o0 o2, sg = [o0, some (gW a), o2]) xs 0 (sg := [some (.lst (xs.map gW)), some (.tup [.int 0, .int 0]), none])
    ⟨rfl, _, _, rfl⟩ (by
      rintro s x sg m' hx ⟨rfl, o0, o2, rfl⟩
      refine ⟨_, _, m', rfl, Or.inl ?_, rfl, o0, some (gW x), rfl⟩
      simp [s_plus])
  obtain ⟨rfl, o0, o2, rfl⟩ := h2
  rw [h1]
  simp [sumG]
end Lk
namespace Lk
open PySem hiding alloc ret
open PySem.Spec PyProof.Rows L2 WM
theorem gv_lk (a b : Nat) : ∀ es : List Ed, (gvW (es.map kvE) [.inl (a : Int), .inl (b : Int)]) = (lkE es a b).map nW
  | [] => rfl
  | e :: es => by
    rw [List.map_cons]
    show (if _ = _ then _ else _ : Option W) = _
    unfold lkE
    by_cases h : e.1 = a ∧ e.2.1 = b
    · rw [if_pos h, if_pos (by simp [kvE, h.1, h.2])]; rfl
    · rw [if_neg h, if_neg (by
        intro z
        refine h ?_
        have : (e.1 : Int) = a ∧ (e.2.1 : Int) = b := by simpa [kvE] using z
        omega)]
      exact gv_lk a b es
theorem s_label (l : Nat) {m : Hm} {d n a b : Nat} {es : List Ed} (h : IsDg m d n es) : evC T (l+1) f_Diagram_label [.ref d, nW a, nW b] m = some (.ok (nW (labE es a b)), m) := by
  rw [call_eq t_Diagram_label rfl]
  obtain ⟨⟨k, h1, h2⟩, _⟩ := h
  unfold labE
  by_cases hab : a = b
  · simp [F_Diagram_label, b_Diagram_label, hab]
    rfl
  · have e1 : biM .min2 [nW a, nW b] = ret (nW (min a b)) := by
      simp only [biM, nW]
      congr 2; omega
    have e2 : biM .max2 [nW a, nW b] = ret (nW (max a b)) := by
      simp only [biM, nW]
      congr 2; omega
    have hg := gv_lk (min a b) (max a b) es
    have hk : tupKey (.tup [nW (min a b), nW (max a b)]) = some [.inl ((min a b : Nat) : Int), .inl ((max a b : Nat) : Int)] := rfl
    simp [F_Diagram_label, b_Diagram_label, hab, h1, h2, e1, e2, dgetR_T hk, hg]
    cases lkE es (min a b) (max a b) <;> rfl
end Lk
namespace Lk
open PySem hiding alloc ret
open PySem.Spec PyProof.Rows L2 WM
theorem s_slope (l : Nat) {m : Hm} {d n a b : Nat} {es : List Ed} (h : IsDg m d n es) : evC T (l+2) f_slope [.ref d, nW a, nW b] m = some (.ok (gW (slE es a b)), m) := by
  rw [call_eq t_slope rfl]
  have hl := s_label l h (a := a) (b := b)
  obtain ⟨⟨k, h1, h2⟩, _⟩ := h
  have ng : evC T (l+1) f_negated [.tup [.int 0, .int 1]] = ret (gW Mx.gm) := s_negated l ((0, 1) : Gd)
  unfold slE slL
  by_cases q1 : a = b
  · simp [F_slope, b_slope, q1]; rfl
  · by_cases q2 : labE es a b = 2
    · simp [F_slope, b_slope, q1, h1, hl, q2, g_ZERO]; rfl
    · by_cases q5 : labE es a b = 5
      · simp [F_slope, b_slope, q1, h1, hl, q5, g_GOLD, ng]
      · by_cases q0 : labE es a b = 0
        · simp [F_slope, b_slope, q1, h1, hl, q0]; rfl
        · by_cases qlt : a < b <;> by_cases q3 : labE es a b = 3 <;> by_cases q4 : labE es a b = 4 <;>
          simp [F_slope, b_slope, q1, h1, hl, q2, q5, q0, q3, q4, qlt] <;> first | rfl | omega
end Lk
namespace Lk
open PySem hiding alloc ret
open PySem.Spec PyProof.Rows L2 WM
theorem sumG_range (n : Nat) (f : Nat → Gd) : sumG ((List.range n).map f) = Mx.sm n f := by
  unfold sumG
  induction n with
  | zero => rfl
  | succ n ih => rw [List.range_succ, List.map_append, List.foldl_append, ih]; rfl
theorem s_taken (l : Nat) {m : Hm} {d n : Nat} {es : List Ed} (h : IsDg m d n es) (i : Nat) (v : Mx.Vc) {sg : Sg} (g0 : sg[0]? = some (some (.ref d))) (g1 : sg[1]? = some (some (nW i))) (g2 : sg[2]? = some (some (rtW n v))) (g4 : 4 < sg.length) :
    compGo (.v 4) sg (evE T (evC T (l+2)) (.lit (.bl true))) (evE T (evC T (l+2)) (.call f_times [.call f_slope [.var 0, .var 1, .var 4], .idx (.var 2) (.var 4)])) ((List.range n).map nW) m = some (.ok ((List.range n).map fun j => gW (slE es i j * v j)), m) := by
  refine comp_all nW (List.range n) _ fun j hj => ?_
  have hj' := List.mem_range.1 hj
  refine ⟨sg.set 4 (some (nW j)), rfl, rfl, ?_⟩
  have hs := s_slope l h (a := i) (b := j)
  have ht : evC T (l+2) f_times [gW (slE es i j), gW (v j)] = ret (gW (slE es i j * v j)) := s_times (l+1) _ _ (sl_sm es i j)
  have hi := idx_rt n v hj'
  have e0 : (sg.set 4 (some (nW j)))[0]? = some (some (.ref d)) := by rw [List.getElem?_set_ne (by decide), g0]
  have e1 : (sg.set 4 (some (nW j)))[1]? = some (some (nW i)) := by rw [List.getElem?_set_ne (by decide), g1]
  have e2 : (sg.set 4 (some (nW j)))[2]? = some (some (rtW n v)) := by rw [List.getElem?_set_ne (by decide), g2]
  have e4 : (sg.set 4 (some (nW j)))[4]? = some (some (nW j)) := List.getElem?_set_self g4
  simp [e0, e1, e2, e4, hs, hi, ht]
theorem mir_list (n : Nat) (es : List Ed) (i : Nat) (hi : i < n) (v : Mx.Vc) : ((List.range n).map fun k => gW (v k)).take i ++ [gW (v i - Mx.tak (wo n es) i v)] ++ ((List.range n).map fun k => gW (v k)).drop (i + 1) = (List.range n).map fun k => gW (Mx.mir (wo n es) i v k) := by
  refine List.ext_getElem (by simp; omega) fun k h1 h2 => ?_
  have hk : k < n := by simpa using h2
  rw [List.getElem_map, List.getElem_range]
  unfold Mx.mir
  rcases Nat.lt_trichotomy k i with g | g | g
  · rw [if_neg (by omega), List.getElem_append_left (by simp; omega), List.getElem_append_left (by simp; omega)]
    simp
  · rw [if_pos g, List.getElem_append_left (by simp; omega), List.getElem_append_right (by simp; omega)]
    simp
  · rw [if_neg (by omega), List.getElem_append_right (by simp; omega)]
    simp
    congr 1
    congr 1
    omega
theorem s_mirrored (l : Nat) {m : Hm} {d n : Nat} {es : List Ed} (h : IsDg m d n es) {i : Nat} (hi : i < n) (v : Mx.Vc) :
    evC T (l+3) f_mirrored [.ref d, nW i, rtW n v] m = some (.ok (rtW n (Mx.mir (wo n es) i v)), m) := by
  rw [call_eq t_mirrored rfl]
  have h9 := h.ok.sz
  have hc := fun sg => s_taken l h i v (sg := sg)
  obtain ⟨⟨k, h1, h2⟩, _⟩ := h
  have hr := rngM_n (n := n) (by omega)
  have ht := s_total (l) ((List.range n).map fun j => slE es i j * v j)
  rw [List.map_map, sumG_range] at ht
  have ht' : evC T (l+2) f_total [.lst ((List.range n).map fun j => gW (slE es i j * v j))] = ret (gW (Mx.tak (wo n es) i v)) := ht
  have hx := idx_rt n v hi
  have z1 : szOk ((((List.range n).map fun k => gW (v k)).take i).length + 1) = true := szOk_small (by simp; omega)
  have z2 : szOk ((((List.range n).map fun k => gW (v k)).take i ++ [gW (v i - Mx.tak (wo n es) i v)]).length + (((List.range n).map fun k => gW (v k)).drop (i + 1)).length) = true := szOk_small (by simp; omega)
  have hm := s_minus (l+1) (v i) (Mx.tak (wo n es) i v)
  have sl1 : slcM (rtW n v) none (some (ci i)) = ret (.tup (((List.range n).map fun k => gW (v k)).take i)) := by unfold rtW; rw [slcM_tup, cut_take]
  have sl2 : slcM (rtW n v) (some (ci (i+1))) none = ret (.tup (((List.range n).map fun k => gW (v k)).drop (i+1))) := by unfold rtW; rw [slcM_tup, cut_drop]
  have b1 : binW .add (.tup (((List.range n).map fun k => gW (v k)).take i)) (.tup [gW (v i - Mx.tak (wo n es) i v)]) = some (.tup (((List.range n).map fun k => gW (v k)).take i ++ [gW (v i - Mx.tak (wo n es) i v)])) := by
    show (if szOk _ = true then _ else _) = _
    rw [show [gW (v i - Mx.tak (wo n es) i v)].length = 1 from rfl, z1]; rfl
  have b2 : binW .add (.tup (((List.range n).map fun k => gW (v k)).take i ++ [gW (v i - Mx.tak (wo n es) i v)])) (.tup (((List.range n).map fun k => gW (v k)).drop (i+1))) = some (rtW n (Mx.mir (wo n es) i v)) := by
    show (if szOk _ = true then _ else _) = _
    rw [z2, mir_list n es i hi v]; rfl
  simp [F_mirrored, b_mirrored, h1, hr, wipeW, hc, ht', hx, hm, sl1, sl2, b1, b2, -List.map_take, -List.map_drop]
end Lk
namespace Lk
open PySem hiding alloc ret
open PySem.Spec PyProof.Rows L2 WM
/-- an element in the heap: images k, a vector each -/
def imW (n : Nat) (f : Nat → Mx.Vc) : W := .tup ((List.range n).map fun k => rtW n (f k))
/-- where a word's undoing moves the mirrors' roots -/
def wim (n : Nat) (es : List Ed) (u : List Nat) (k : Nat) : Mx.Vc := Mx.act (wo n es) u.reverse (Mx.es k)
def elO (d n : Nat) (es : List Ed) (u : List Nat) : HOb := .ins 64 [.ref d, imW n (wim n es u)]
theorem s_elt_init (l : Nat) (m0 : Hm) (d : Nat) (im : W) : evC T (l+1) f_Element___init__ [.ref m0.length, .ref d, im] (.ins 64 [] :: m0) = some (.ok .non, .ins 64 [.ref d, im] :: m0) := by
  rw [call_eq t_Element___init__ rfl]
  have h0 : setAM 64 0 (.ref m0.length) (.ref d) (.ins 64 [] :: m0) = some (.ok .non, .ins 64 [.ref d] :: m0) := by
    simp [setAM, putA]
  have h1 : setAM 64 1 (.ref m0.length) im (.ins 64 [.ref d] :: m0) = some (.ok .non, .ins 64 [.ref d, im] :: m0) := by
    simp [setAM, putA]
  simp [F_Element___init__, b_Element___init__, h0, h1, endR, fin]
theorem s_nothing (l : Nat) {m : Hm} {d n : Nat} {es : List Ed} (h : IsDg m d n es) :
    evC T (l+2) f_nothing [.ref d] m = some (.ok (.ref m.length), elO d n es [] :: m) := by
  rw [call_eq t_nothing rfl]
  have h9 := h.ok.sz
  have hs := fun i => s_simple l h i
  obtain ⟨⟨k, h1, h2⟩, _⟩ := h
  have hr := rngM_n (n := n) (by omega)
  simp [F_nothing, b_nothing, h1, hr, wipeW]
  rw [comp_all nW (List.range n) (fun k => rtW n (Mx.es k)) (fun k hk => by
    refine ⟨_, rfl, rfl, ?_⟩
    simp [hs])]
  simp [s_elt_init, endR, fin]
  rfl
theorem s_after (l : Nat) {m : Hm} {d n e : Nat} {es : List Ed} {u : List Nat} (h : IsDg m d n es) (he : hget m e = some (elO d n es u)) {i : Nat} (hi : i < n) :
    evC T (l+4) f_Element_after_right [.ref e, nW i] m = some (.ok (.ref m.length), elO d n es (u ++ [i]) :: m) := by
  rw [call_eq t_Element_after_right rfl]
  unfold elO at he
  simp [F_Element_after_right, b_Element_after_right, he, wipeW, imW]
  rw [comp_all (fun k => rtW n (wim n es u k)) (List.range n) (fun k => rtW n (wim n es (u ++ [i]) k)) (fun k hk => by
    refine ⟨_, rfl, rfl, ?_⟩
    have hm := s_mirrored l h hi (wim n es u k)
    simp [he, hm]
    simp [wim, Mx.act])]
  simp [s_elt_init, endR, fin]
  rfl
end Lk
namespace Lk
open PySem hiding alloc ret
open PySem.Spec PyProof.Rows L2 WM
theorem itsM_im (f : List W → List W) (n : Nat) (g : Nat → Mx.Vc) : itsM f (imW n g) = ret (f ((List.range n).map fun k => rtW n (g k))) := by unfold imW; rw [itsM_tup]
theorem idx_im (n : Nat) (g : Nat → Mx.Vc) {k : Nat} (h : k < n) : idxM (imW n g) (nW k) = ret (rtW n (g k)) := by
  unfold imW
  rw [idxM_tup, get_rg _ h, opt_some]
theorem s_left (l : Nat) {m : Hm} {d n e : Nat} {es : List Ed} {u : List Nat} (hd : EsOk n es) (hu : Mx.Wd (wo n es) u) (hz : u.length ≤ 60000) (he : hget m e = some (elO d n es u)) :
    evC T (l+3) f_Element_left [.ref e] m = some (.ok (wdW (Mx.lds (wo n es) u)), m) := by
  rw [call_eq t_Element_left rfl]
  unfold elO at he
  simp [F_Element_left, b_Element_left, he, wipeW, itsM_im, enW_rg]
  rw [comp_map (fun k => .tup [nW k, rtW n (wim n es u k)]) (List.range n) (fun k => Mx.ld (wo n es) u k) (fun k => nW k) (fun k hk => by
    refine ⟨_, rfl, ?_, fun _ => by simp⟩
    have hk' := List.mem_range.1 hk
    have hb : Bv 400000 (wim n es u k) := Bv_root hd.sz (by rw [List.length_reverse]; exact hz) k
    have hs := s_root_sign l (n := n) hb
    have hr : rsg n (wim n es u k) = _ := rsg_wim hd hu hk'
    rw [hr] at hs
    cases hl : Mx.ld (wo n es) u k <;> rw [hl] at hs <;> simp [hs])]
  simp [Mx.lds]
  rfl
theorem wim_cons (n : Nat) (es : List Ed) (i k : Nat) (u : List Nat) (hi : i < n) (hk : k < n) (ok : (wo n es).Ok) (j : Nat) : wim n es u k j - slE es i k * wim n es u i j = wim n es (i :: u) k j := by
  unfold wim
  rw [List.reverse_cons, Mx.act_append]
  show _ = Mx.act (wo n es) u.reverse (Mx.mir (wo n es) i (Mx.es k)) j
  have e : Mx.mir (wo n es) i (Mx.es k) = Mx.lin 1 (Mx.es k) (- slE es i k) (Mx.es i) := by
    funext x
    unfold Mx.mir Mx.lin
    have ht : Mx.tak (wo n es) i (Mx.es k) = slE es i k := Mx.tak_es (wo n es) i hk
    rw [ht]
    by_cases hx : x = i
    · rw [if_pos hx, hx]
      have : Mx.es i i = 1 := by unfold Mx.es; rw [if_pos rfl]
      rw [this]; grind
    · rw [if_neg hx]
      have : Mx.es i x = 0 := by unfold Mx.es; rw [if_neg hx]
      rw [this]; grind
  rw [e, Mx.act_lin]
  unfold Mx.lin
  grind
def alB : List WM.S := match b_Element_after_left.getD 2 .pass with
  | .loop _ _ b => b
  | _ => []
theorem s_after_left (l : Nat) {m : Hm} {d n e : Nat} {es : List Ed} {u : List Nat} (h : IsDg m d n es) (he : hget m e = some (elO d n es u)) {i : Nat} (hi : i < n) :
    ∃ o, evC T (l+4) f_Element_after_left [.ref e, nW i] m = some (.ok (.ref (m.length + 1)), elO d n es (i :: u) :: o :: m) := by
  rw [call_eq t_Element_after_left rfl]
  have he0 := he
  unfold elO at he
  have h9 := h.ok.sz
  have ok := h.wok
  refine ⟨.lst ((List.range n).map fun k => rtW n (wim n es (i :: u) k)), ?_⟩
  have key : ∀ (k : Nat), k ≤ n → ∀ (o4 o5 o6 o7 o8 : Option W), ∃ p4 p5 p6, loopGo (.t [.v 4, .v 5]) (evSs T (evC T (l+3)) alB) ((rgN k n).map fun k => W.tup [nW k, rtW n (wim n es u k)]) [some (.ref e), some (nW i), some (rtW n (wim n es u i)), some (.ref m.length), o4, o5, o6, o7, o8] (.lst ((List.range k).map fun k => rtW n (wim n es (i :: u) k)) :: m)
      = some (.nx, [some (.ref e), some (nW i), some (rtW n (wim n es u i)), some (.ref m.length), p4, p5, p6, o7, o8], .lst ((List.range n).map fun k => rtW n (wim n es (i :: u) k)) :: m) := by
    intro k
    generalize hq : n - k = q
    induction q generalizing k with
    | zero =>
      intro hk o4 o5 o6 o7 o8
      have : k = n := by omega
      subst this
      exact ⟨o4, o5, o6, by unfold rgN; rw [Nat.sub_self]; rfl⟩
    | succ q ih =>
      intro hk o4 o5 o6 o7 o8
      have hs := s_slope (l+1) (h.up (.lst ((List.range k).map fun k => rtW n (wim n es (i :: u) k)))) (a := i) (b := k)
      obtain ⟨p4, p5, p6, hr⟩ := ih (k + 1) (by omega) (by omega) (some (nW k)) (some (rtW n (wim n es u k))) (some (gW (slE es i k))) o7 o8
      refine ⟨p4, p5, p6, ?_⟩
      have e1 : rgN k n = k :: rgN (k + 1) n := by
        unfold rgN
        rw [show n - k = (n - (k + 1)) + 1 by omega, List.range_succ_eq_map, List.map_cons, List.map_map]
        congr 1
        refine List.map_congr_left fun j _ => ?_
        show k + (j + 1) = k + 1 + j
        omega
      rw [e1, List.map_cons, loop_cons (sg' := [some (.ref e), some (nW i), some (rtW n (wim n es u i)), some (.ref m.length), some (nW k), some (rtW n (wim n es u k)), o6, o7, o8]) (by simp)]
      have hb : evSs T (evC T (l+3)) alB [some (.ref e), some (nW i), some (rtW n (wim n es u i)), some (.ref m.length), some (nW k), some (rtW n (wim n es u k)), o6, o7, o8] (.lst ((List.range k).map fun k => rtW n (wim n es (i :: u) k)) :: m)
          = some (.nx, [some (.ref e), some (nW i), some (rtW n (wim n es u i)), some (.ref m.length), some (nW k), some (rtW n (wim n es u k)), some (gW (slE es i k)), o7, o8], .lst ((List.range (k+1)).map fun k => rtW n (wim n es (i :: u) k)) :: m) := by
        simp [alB, b_Element_after_left, hget_up _ he, hs, wipeW]
        rw [comp_all (fun j => W.tup [gW (wim n es u k j), gW (wim n es u i j)]) (List.range n) (fun j => gW (wim n es (i :: u) k j)) (fun j hj => by
          refine ⟨_, by simp; rfl, rfl, ?_⟩
          have ht : evC T (l+3) f_times [gW (slE es i k), gW (wim n es u i j)] = ret (gW (slE es i k * wim n es u i j)) := s_times (l+2) _ _ (sl_sm es i k)
          have hm : evC T (l+3) f_minus [gW (wim n es u k j), gW (slE es i k * wim n es u i j)] = ret (gW (wim n es u k j - slE es i k * wim n es u i j)) := s_minus (l+2) _ _
          rw [wim_cons n es i k u hi (by omega) ok j] at hm
          simp [ht, hm])]
        have hz : szOk (((List.range k).map fun k => rtW n (wim n es (i :: u) k)).length + 1) = true := szOk_small (by simp; omega)
        simp [appR_lst hz, List.range_succ, -List.map_map]
      rw [hb, turnS_nx]
      exact hr
  obtain ⟨p4, p5, p6, hl⟩ := key 0 (by omega) none none none none none
  rw [rg0] at hl
  simp only [alB, b_Element_after_left, List.getD_cons_succ, List.getD_cons_zero] at hl
  simp [F_Element_after_left, b_Element_after_left, he, itsM_im, enW_rg, idx_im n _ hi, hget_up _ he, -List.map_map]
  simp only [List.range_zero, List.map_nil] at hl
  rw [hl]
  have hi2 := s_elt_init (l+2) (.lst ((List.range n).map fun k => rtW n (wim n es (i :: u) k)) :: m) d (imW n (wim n es (i :: u)))
  simp only [List.length_cons] at hi2
  have hi3 : evC T (l+3) f_Element___init__ [.ref (m.length + 1), .ref d, .tup ((List.range n).map fun k => rtW n (wim n es (i :: u) k))] (.ins 64 [] :: .lst ((List.range n).map fun k => rtW n (wim n es (i :: u) k)) :: m) = some (.ok .non, elO d n es (i :: u) :: .lst ((List.range n).map fun k => rtW n (wim n es (i :: u) k)) :: m) := hi2
  simp [hget_up _ he, biM, hi3, endR, fin]
end Lk
namespace Lk
open PySem hiding alloc ret
open PySem.Spec PyProof.Rows L2 WM
theorem s_least (l : Nat) {m : Hm} {d n e : Nat} {es : List Ed} {u : List Nat} (h : IsDg m d n es) (he : hget m e = some (elO d n es u)) (hu : Mx.Wd (wo n es) u) (hz : u.length ≤ 20000) :
    evC T (l+5) f_least_word [.ref e] m = some (.ok (wdW (Mx.nf (wo n es) u)), m) := by
  have ok := h.wok
  have hnl := Mx.nf_len hu
  have hel := Mx.ell_len (wo n es) u
  rw [call_eq t_least_word rfl]
  have he0 := he
  unfold elO at he0
  have hl0 := s_left (l+1) h.ok hu (by omega) (hget_up (.lst []) he)
  simp [F_least_word, b_least_word, hget_up _ he0, hl0]
  obtain ⟨sg', m', hw, hp⟩ := while_run (fun k sg m' => ∃ pre w e' ls, m' = pre ++ .lst (ls.map nW) :: m ∧ hget m' e' = some (elO d n es w) ∧ Mx.Wd (wo n es) w ∧ Mx.ell (wo n es) w = k ∧ ls ++ Mx.nf (wo n es) w = Mx.nf (wo n es) u ∧ w.length = u.length + ls.length ∧
      sg = [some (.ref e'), some (.ref m.length), some (wdW (Mx.lds (wo n es) w))])
    (c := evE T (evC T (l+4)) (.cmp .gt (.bi .len [.var 2]) (.lit (.int 0)))) (b := evSs T (evC T (l+4)) [.app (.var 1) (.idx (.var 2) (.lit (.int 0))), .set (.v 0) (.meth 64 f_Element_after_left (.var 0) [.idx (.var 2) (.lit (.int 0))]), .set (.v 2) (.meth 64 f_Element_left (.var 0) [])])
    (by
      rintro sg m' ⟨pre, w, e', ls, rfl, hw, hwd, hk, hls, hlen, rfl⟩
      rw [(Mx.lds_nil hwd).2 hk]
      simp)
    (by
      rintro k sg m' ⟨pre, w, e', ls, rfl, hw, hwd, hk, hls, hlen, rfl⟩
      cases hl : Mx.lds (wo n es) w with
      | nil => have := (Mx.lds_nil hwd).1 hl; omega
      | cons i r =>
        obtain ⟨hi, hil⟩ := Mx.lds_head hl
        have hin : i < n := hi
        rw [Mx.nf_cons hl] at hls
        have hll := congrArg List.length hls
        rw [List.length_append, List.length_cons, hnl] at hll
        have hdg : IsDg (pre ++ .lst ((ls ++ [i]).map nW) :: m) d n es := (h.up _).upP pre
        refine ⟨by simp, ?_⟩
        have hx : idxM (wdW (i :: r)) (.int 0) = ret (nW i) := idx_wd (i :: r) (k := 0) (by simp)
        have hg := hget_mid pre (.lst (ls.map nW)) m
        have hs := fun u => hset_mid pre (.lst (ls.map nW)) u m
        have hsz : szOk ((ls.map nW).length + 1) = true := szOk_small (by simp; omega)
        -- the element is still there
        have hw' : hget (pre ++ .lst ((ls ++ [i]).map nW) :: m) e' = some (elO d n es w) := by
          have hne : e' ≠ m.length := fun z => by rw [z, hg] at hw; cases hw
          exact hget_mid_ne hne pre hw
        obtain ⟨o, ha⟩ := s_after_left l hdg hw' hin
        have hlf := s_left (l+1) h.ok (u := i :: w) (hwd.cons hi) (by rw [List.length_cons]; omega) (m := elO d n es (i :: w) :: o :: (pre ++ .lst ((ls ++ [i]).map nW) :: m)) (e := (pre ++ HOb.lst ((ls ++ [i]).map nW) :: m).length + 1) (d := d) (hget_new _ _)
        refine ⟨_, _, Or.inl ?_, elO d n es (i :: w) :: o :: pre, i :: w, (pre ++ HOb.lst ((ls ++ [i]).map nW) :: m).length + 1, ls ++ [i], rfl, hget_new _ _, hwd.cons hi, by omega, ?_, by simp; omega, rfl⟩
        · have hw2 := hw'
          unfold elO at hw2
          have hw3 : hget (elO d n es (i :: w) :: o :: (pre ++ .lst ((ls ++ [i]).map nW) :: m)) ((pre ++ HOb.lst ((ls ++ [i]).map nW) :: m).length + 1) = some (.ins 64 [.ref d, imW n (wim n es (i :: w))]) := hget_new _ _
          have ha0 : appR m.length (nW i) (some (.lst (ls.map nW))) (pre ++ .lst (ls.map nW) :: m) = some (.ok .non, pre ++ .lst ((ls ++ [i]).map nW) :: m) := by
            rw [appR_lst hsz, hs, List.map_append]; rfl
          simp only [List.cons_append] at hw3 hlf ⊢
          generalize hM : pre ++ HOb.lst ((ls ++ [i]).map nW) :: m = M at *
          simp [hx, hg, ha0, hw2, ha, hw3, hlf]
        · rw [List.append_assoc]; exact hls)
    (Mx.ell (wo n es) u) (sg := [some (.ref e), some (.ref m.length), some (wdW (Mx.lds (wo n es) u))]) (m := .lst [] :: m) ⟨[], u, e, [], rfl, hget_up _ he, hu, rfl, rfl, by simp, rfl⟩
  obtain ⟨pre, w, e', ls, rfl, hw2, hwd, hk, hls, hlen, rfl⟩ := hp
  have h0 : Mx.nf (wo n es) w = [] := Mx.nf_nil ((Mx.lds_nil hwd).2 hk)
  rw [h0, List.append_nil] at hls
  subst hls
  rw [hw]
  have hg := hget_mid pre (.lst ((Mx.nf (wo n es) u).map nW)) m
  simp [biM, hg]
  have := endR_pre (m := m) (pre := pre ++ [.lst ((Mx.nf (wo n es) u).map nW)]) (w := wdW (Mx.nf (wo n es) u)) (sg := [some (.ref e'), some (.ref m.length), some (wdW (Mx.lds (wo n es) w))]) (rb_wd _ _)
  rw [List.append_assoc] at this
  exact this
end Lk
namespace Lk
open PySem hiding alloc ret
open PySem.Spec PyProof.Rows L2 WM
def isintW : W → Bool
  | .int _ => true
  | _ => false
theorem ii_int (l : Nat) (i : Int) : evC T (l+1) f_is_integer [.int i] = ret (.bl true) := by
  refine pure_of t_is_integer rfl fun m => ?_
  simp [F_is_integer, b_is_integer, isiW]
theorem ii_nW (l : Nat) (i : Nat) : evC T (l+1) f_is_integer [nW i] = ret (.bl true) := ii_int l i
theorem ii_bl (l : Nat) (b : Bool) : evC T (l+1) f_is_integer [.bl b] = ret (.bl false) := by
  refine pure_of t_is_integer rfl fun m => ?_
  simp [F_is_integer, b_is_integer, isiW]
theorem ii_non (l : Nat) : evC T (l+1) f_is_integer [.non] = ret (.bl false) := by
  refine pure_of t_is_integer rfl fun m => ?_
  simp [F_is_integer, b_is_integer, isiW]
theorem ii_str (l : Nat) (x : Str) : evC T (l+1) f_is_integer [.str x] = ret (.bl false) := by
  refine pure_of t_is_integer rfl fun m => ?_
  simp [F_is_integer, b_is_integer, isiW]
theorem ii_tup (l : Nat) (x : List W) : evC T (l+1) f_is_integer [.tup x] = ret (.bl false) := by
  refine pure_of t_is_integer rfl fun m => ?_
  simp [F_is_integer, b_is_integer, isiW]
theorem ii_lst (l : Nat) (x : List W) : evC T (l+1) f_is_integer [.lst x] = ret (.bl false) := by
  refine pure_of t_is_integer rfl fun m => ?_
  simp [F_is_integer, b_is_integer, isiW]
end Lk
namespace Lk
open PySem hiding alloc ret
open PySem.Spec PyProof.Rows L2 WM
theorem s_is_word (l : Nat) {m : Hm} {d n : Nat} {es : List Ed} (h : IsDg m d n es) {u : List Nat} (hu : Mx.Wd (wo n es) u) (hz : u.length ≤ 400) : evC T (l+2) f_is_word [.ref d, wdW u] m = some (.ok (.bl true), m) := by
  rw [call_eq t_is_word rfl]
  obtain ⟨⟨k, h1, h2⟩, _⟩ := h
  have hz' : ¬ 400 < u.length := by omega
  simp [F_is_word, b_is_word, g_MOST_LETTERS, hz', wipeW]
  rw [comp_all nW u (fun _ => .bl true) (fun k hk => by
    refine ⟨_, rfl, rfl, ?_⟩
    have := hu k hk
    simp [ii_nW, h1, show k < n from this])]
  have : ∀ u : List Nat, blsW (u.map fun _ => W.bl true) = some (u.map fun _ => true) := by
    intro u
    induction u with
    | nil => rfl
    | cons a u ih => rw [List.map_cons, blsW, ih]; rfl
  simp [biM, this]
theorem s_look (l : Nat) {m : Hm} {d n : Nat} {es : List Ed} (h : IsDg m d n es) {u : List Nat} (hu : Mx.Wd (wo n es) u) (hz : u.length ≤ 400) : evC T (l+3) f_look_at_word [.ref d, wdW u] m = some (.ok .non, m) := by
  rw [call_eq t_look_at_word rfl]
  simp [F_look_at_word, b_look_at_word, s_is_word l h hu hz]
end Lk
namespace Lk
open PySem hiding alloc ret
open PySem.Spec PyProof.Rows L2 WM
theorem s_element (l : Nat) {m : Hm} {d n : Nat} {es : List Ed} (h : IsDg m d n es) {u : List Nat} (hu : Mx.Wd (wo n es) u) (hz : u.length ≤ 400) :
    ∃ pre e, evC T (l+5) f_element [.ref d, wdW u] m = some (.ok (.ref e), pre ++ m) ∧ hget (pre ++ m) e = some (elO d n es u) := by
  rw [call_eq t_element rfl]
  simp [F_element, b_element, s_look (l+1) h hu hz, s_nothing (l+2) h]
  obtain ⟨sg', m', h1, h2⟩ := loop_fold (tg := .v 3) (b := evSs T (evC T (l+4)) [.set (.v 2) (.meth 64 f_Element_after_right (.var 2) [.var 3])]) nW (fun (s : List Nat) x => s ++ [x])
    (fun s sg m' => ∃ pre e o3, m' = pre ++ m ∧ hget m' e = some (elO d n es s) ∧ sg = [some (.ref d), some (wdW u), some (.ref e), o3]) u [] (sg := [some (.ref d), some (wdW u), some (.ref m.length), none]) (m := elO d n es [] :: m)
    ⟨[elO d n es []], m.length, none, rfl, by simp, rfl⟩ (by
      rintro s x sg m' hx ⟨pre, e, o3, rfl, he, rfl⟩
      have hi : x < n := hu x hx
      have ha := s_after l (h.upP pre) he hi
      have he' := he
      unfold elO at he'
      refine ⟨_, [some (.ref d), some (wdW u), some (.ref (pre ++ m).length), some (nW x)], elO d n es (s ++ [x]) :: (pre ++ m), rfl, Or.inl ?_, elO d n es (s ++ [x]) :: pre, _, _, rfl, hget_new _ _, rfl⟩
      simp [he', ha])
  obtain ⟨pre, e, o3, rfl, he, rfl⟩ := h2
  have hf : u.foldl (fun (s : List Nat) x => s ++ [x]) [] = u := by
    have : ∀ (v s : List Nat), v.foldl (fun (s : List Nat) x => s ++ [x]) s = s ++ v := by
      intro v
      induction v with
      | nil => intro s; simp
      | cons a v ih => intro s; rw [List.foldl_cons, ih]; simp
    rw [this]; rfl
  rw [hf] at he
  rw [h1]
  simp [endR, fin]
  exact ⟨pre, e, ⟨rfl, rfl⟩, he⟩
theorem cmp_im (n : Nat) (f g : Nat → Mx.Vc) : cmpW .eq (imW n f) (imW n g) = some (.bl (decide (∀ k, k < n → ∀ j, j < n → f k j = g k j))) := by
  have hd : ∀ f : Nat → Mx.Vc, W.isDs 59 ((List.range n).map fun k => rtW n (f k)) = true := fun f => isDs_map fun _ _ => isD_rtW _ _ _
  unfold imW
  rw [cmp_eq_tt, hd, hd]
  have : ∀ xs : List Nat, W.eqvs (xs.map fun k => rtW n (f k)) (xs.map fun k => rtW n (g k)) = decide (∀ k, k ∈ xs → ∀ j, j < n → f k j = g k j) := by
    intro xs
    induction xs with
    | nil => simp [W.eqvs]
    | cons x xs ih =>
      rw [List.map_cons, List.map_cons, W.eqvs, ih, eqv_rtW]
      simp
  rw [this]
  simp
end Lk
namespace Lk
open PySem hiding alloc ret
open PySem.Spec PyProof.Rows L2 WM
theorem s_normal (l : Nat) {m : Hm} {d n : Nat} {es : List Ed} (h : IsDg m d n es) {u : List Nat} (hu : Mx.Wd (wo n es) u) (hz : u.length ≤ 400) :
    evC T (l+6) f_normal [.ref d, wdW u] m = some (.ok (wdW (Mx.nf (wo n es) u)), m) := by
  rw [call_eq t_normal rfl]
  obtain ⟨pre, e, h1, h2⟩ := s_element l h hu hz
  have h3 := s_least l (h.upP pre) h2 hu (by omega)
  simp [F_normal, b_normal, h1, h3]
  exact endR_pre (rb_wd _ _)
end Lk
namespace Lk
open PySem hiding alloc ret
open PySem.Spec PyProof.Rows L2 WM
theorem in_nat (i : Nat) (xs : List Nat) : inW true (nW i) (xs.map nW) = some (decide (i ∈ xs)) := by
  have h1 : (xs.map nW).all isScal = true := by rw [List.all_map]; exact List.all_eq_true.2 fun _ _ => rfl
  have h2 : isScal (nW i) = true := rfl
  simp only [inW, h1, h2, Bool.and_self, if_true]
  rw [List.any_map]
  congr 1
  rw [Bool.eq_iff_iff]
  simp
end Lk
namespace Lk
open PySem hiding alloc ret
open PySem.Spec PyProof.Rows L2 WM
theorem s_element_of (l : Nat) {m : Hm} {d n : Nat} {es : List Ed} (h : IsDg m d n es) {u : List Nat} (hu : Mx.Wd (wo n es) u) :
    ∃ pre e, evC T (l+5) f_element_of [.ref d, wdW u] m = some (.ok (.ref e), pre ++ m) ∧ hget (pre ++ m) e = some (elO d n es u) := by
  rw [call_eq t_element_of rfl]
  simp [F_element_of, b_element_of, s_nothing (l+2) h]
  obtain ⟨sg', m', h1, h2⟩ := loop_fold (tg := .v 3) (b := evSs T (evC T (l+4)) [.set (.v 2) (.meth 64 f_Element_after_right (.var 2) [.var 3])]) nW (fun (s : List Nat) x => s ++ [x])
    (fun s sg m' => ∃ pre e o3, m' = pre ++ m ∧ hget m' e = some (elO d n es s) ∧ sg = [some (.ref d), some (wdW u), some (.ref e), o3]) u [] (sg := [some (.ref d), some (wdW u), some (.ref m.length), none]) (m := elO d n es [] :: m)
    ⟨[elO d n es []], m.length, none, rfl, by simp, rfl⟩ (by
      rintro s x sg m' hx ⟨pre, e, o3, rfl, he, rfl⟩
      have hi : x < n := hu x hx
      have ha := s_after l (h.upP pre) he hi
      have he' := he
      unfold elO at he'
      refine ⟨_, [some (.ref d), some (wdW u), some (.ref (pre ++ m).length), some (nW x)], elO d n es (s ++ [x]) :: (pre ++ m), rfl, Or.inl ?_, elO d n es (s ++ [x]) :: pre, _, _, rfl, hget_new _ _, rfl⟩
      simp [he', ha])
  obtain ⟨pre, e, o3, rfl, he, rfl⟩ := h2
  have hf : u.foldl (fun (s : List Nat) x => s ++ [x]) [] = u := by
    have : ∀ (v s : List Nat), v.foldl (fun (s : List Nat) x => s ++ [x]) s = s ++ v := by
      intro v
      induction v with
      | nil => intro s; simp
      | cons a v ih => intro s; rw [List.foldl_cons, ih]; simp
    rw [this]; rfl
  rw [hf] at he
  rw [h1]
  simp [endR, fin]
  exact ⟨pre, e, ⟨rfl, rfl⟩, he⟩
end Lk
namespace Lk
open PySem hiding alloc ret
open PySem.Spec PyProof.Rows L2 WM
theorem s_times_word (l : Nat) {m : Hm} {d n : Nat} {es : List Ed} (h : IsDg m d n es) {u v : List Nat} (hu : Mx.Wd (wo n es) u) (hv : Mx.Wd (wo n es) v) (hz : u.length ≤ 400) (hy : v.length ≤ 400) :
    evC T (l+6) f_times_word [.ref d, wdW u, wdW v] m = some (.ok (wdW (Mx.nf (wo n es) (u ++ v))), m) := by
  rw [call_eq t_times_word rfl]
  have huv := hu.app hv
  obtain ⟨pre, e, h1, h2⟩ := s_element_of l h huv
  have h3 := s_least l (h.upP pre) h2 huv (by rw [List.length_append]; omega)
  have hb : binW .add (wdW u) (wdW v) = some (wdW (u ++ v)) := bin_wd (by omega)
  simp [F_times_word, b_times_word, s_look (l+2) h hu hz, s_look (l+2) h hv hy, hb, h1, h3]
  exact endR_pre (rb_wd _ _)
end Lk
namespace Lk
open PySem hiding alloc ret
open PySem.Spec PyProof.Rows L2 WM
theorem s_look_set (l : Nat) {m : Hm} {d n : Nat} {es : List Ed} (h : IsDg m d n es) {J : List Nat} (hJ : SetOk n J) : evC T (l+2) f_look_at_set [.ref d, wdW J] m = some (.ok .non, m) := by
  rw [call_eq t_look_at_set rfl]
  have h9 := h.ok.sz
  have hjl := hJ.len
  obtain ⟨⟨k, h1, h2⟩, _⟩ := h
  simp [F_look_at_set, b_look_at_set, wipeW]
  rw [comp_all nW J (fun _ => .bl true) (fun k hk => by
    refine ⟨_, rfl, rfl, ?_⟩
    have := hJ.lt k hk
    simp [ii_nW, h1, show k < n from this])]
  have hb : ∀ u : List Nat, blsW (u.map fun _ => W.bl true) = some (u.map fun _ => true) := by
    intro u
    induction u with
    | nil => rfl
    | cons a u ih => rw [List.map_cons, blsW, ih]; rfl
  have hall : (J.all fun _ => true) = true := List.all_eq_true.2 fun _ _ => rfl
  simp [biM, hb, hall, wipeW]
  have hc := compS_all nW J (fun x : Nat => (x : Int)) (tg := .v 2) (sg := [some (.ref d), some (wdW J), none]) (tst := evE T (evC T (l+1)) (.lit (.bl true))) (elt := evE T (evC T (l+1)) (.var 2)) (m := m) (fun x hx => ⟨[some (.ref d), some (wdW J), some (nW x)], rfl, rfl, by simp⟩)
  have hc2 : compGo (.v 2) [some (.ref d), some (wdW J), none] (evE T (evC T (l+1)) (.lit (.bl true))) (eltI (evE T (evC T (l+1)) (.var 2))) (J.map nW) m = some (.ok (J.map nW), m) := hc
  rw [hc2]
  simp [sdc_set hJ h9]
/-- a word as one of a set ahead of a shortest one -/
def SpL (W : Mx.Wo) (J u a r : List Nat) : Prop := Mx.Of J a ∧ Mx.Wd W r ∧ Mx.Eqv W u (a ++ r) ∧ Mx.ell W u = a.length + Mx.ell W r ∧ Mx.MinL W J r ∧ Mx.Red W a
def slW : List WM.S := match b_split_left.getD 4 .pass with
  | .while _ b => b
  | _ => []
theorem sl_going (l : Nat) {n : Nat} {es : List Ed} {w J : List Nat} {m : Hm} {e : Nat} (hd : EsOk n es) (hw : Mx.Wd (wo n es) w) (hz : w.length ≤ 60000) {d : Nat} (he : hget m e = some (elO d n es w)) (o0 o2 o4 o5 : Option W) :
    compGo (.v 6) [o0, some (wdW J), o2, some (.ref e), o4, o5, none] (evE T (evC T l) (.isin false (.var 6) (.var 1))) (evE T (evC T l) (.var 6)) ((Mx.lds (wo n es) w).map nW) m = some (.ok (((Mx.lds (wo n es) w).filter fun k => decide (k ∈ J)).map nW), m) := by
  refine comp_map nW (Mx.lds (wo n es) w) (fun k => decide (k ∈ J)) nW fun k hk => ?_
  refine ⟨_, asg_v 6 _ _, ?_, fun _ => by simp⟩
  have hin := in_nat k J
  simp [hin]
theorem fil_nil {W : Mx.Wo} {J w : List Nat} (hJ : Mx.Wd W J) (h : (Mx.lds W w).filter (fun k => decide (k ∈ J)) = []) : Mx.MinL W J w := fun j hj => by
  rcases Mx.ell_cons w (hJ j hj) with e | e
  · exact e
  · exfalso
    have : j ∈ (Mx.lds W w).filter (fun k => decide (k ∈ J)) := List.mem_filter.2 ⟨Mx.mem_lds.2 ⟨hJ j hj, Mx.ld_iff.2 e⟩, decide_eq_true hj⟩
    rw [h] at this; cases this
theorem fil_cons {W : Mx.Wo} {J w : List Nat} {i : Nat} {r : List Nat} (h : (Mx.lds W w).filter (fun k => decide (k ∈ J)) = i :: r) : i ∈ J ∧ i < W.n ∧ Mx.ell W (i :: w) + 1 = Mx.ell W w := by
  have : i ∈ (Mx.lds W w).filter (fun k => decide (k ∈ J)) := by rw [h]; exact List.mem_cons_self
  obtain ⟨h1, h2⟩ := List.mem_filter.1 this
  obtain ⟨h3, h4⟩ := Mx.mem_lds.1 h1
  exact ⟨of_decide_eq_true h2, h3, Mx.ld_iff.1 h4⟩
theorem s_split_left (l : Nat) {m : Hm} {d n : Nat} {es : List Ed} (h : IsDg m d n es) {J : List Nat} (hJ : SetOk n J) {u : List Nat} (hu : Mx.Wd (wo n es) u) (hz : u.length ≤ 200) :
    ∃ a r, SpL (wo n es) J u a r ∧ evC T (l+7) f_split_left [.ref d, wdW J, wdW u] m = some (.ok (.tup [wdW (Mx.nf (wo n es) a), wdW (Mx.nf (wo n es) r)]), m) := by
  have ok := h.wok
  have hJd : Mx.Wd (wo n es) J := hJ.lt
  have hlk := s_look_set (l+4) h hJ
  obtain ⟨p1, e0, h1, g1⟩ := s_element (l+1) h hu (by omega)
  have g0 := g1
  unfold elO at g0
  have hl0 := s_left (l+3) h.ok hu (by omega) (hget_up (.lst []) g1)
  have hel0 := Mx.ell_len (wo n es) u
  have hgo0 := sl_going (l+6) (J := J) h.ok hu (by omega) (hget_up (.lst []) g1) (some (.ref d)) (some (wdW u)) (some (.ref (p1 ++ m).length)) none
  obtain ⟨sg', m', hw', a, hp⟩ := while_run2 (fun k sg m' => ∃ pre w e ls o6, m' = pre ++ .lst (ls.map nW) :: (p1 ++ m) ∧ hget m' e = some (elO d n es w) ∧ Mx.Wd (wo n es) w ∧ Mx.ell (wo n es) w = k ∧ Mx.Of J ls ∧ Mx.Eqv (wo n es) u (ls ++ w) ∧ Mx.ell (wo n es) u = ls.length + k ∧ w.length = u.length + ls.length ∧
      sg = [some (.ref d), some (wdW J), some (wdW u), some (.ref e), some (.ref (p1 ++ m).length), some (.lst (((Mx.lds (wo n es) w).filter fun k => decide (k ∈ J)).map nW)), o6])
    (fun sg m' => ∃ ls pre w e o6, m' = pre ++ .lst (ls.map nW) :: (p1 ++ m) ∧ hget m' e = some (elO d n es w) ∧ Mx.Wd (wo n es) w ∧ Mx.MinL (wo n es) J w ∧ Mx.Of J ls ∧ Mx.Eqv (wo n es) u (ls ++ w) ∧ Mx.ell (wo n es) u = ls.length + Mx.ell (wo n es) w ∧ w.length ≤ 1000 ∧
      sg = [some (.ref d), some (wdW J), some (wdW u), some (.ref e), some (.ref (p1 ++ m).length), some (.lst []), o6])
    (c := evE T (evC T (l+6)) (.cmp .gt (.bi .len [.var 5]) (.lit (.int 0)))) (b := evSs T (evC T (l+6)) slW)
    (by
      rintro k sg m' ⟨pre, w, e, ls, o6, rfl, he, hw, hk, hof, hE, hlen, hwl, rfl⟩
      have hel := Mx.ell_len (wo n es) u
      cases hf : (Mx.lds (wo n es) w).filter (fun k => decide (k ∈ J)) with
      | nil => exact .inl ⟨by simp, ls, pre, w, e, o6, rfl, he, hw, fil_nil hJd hf, hof, hE, by omega, by omega, rfl⟩
      | cons i r =>
        right
        obtain ⟨hiJ, hi, hd⟩ := fil_cons hf
        have hin : i < n := hi
        have c0 : (0 : Int) < (r.length : Int) + 1 := by omega
        refine ⟨by simp [c0], Mx.ell (wo n es) (i :: w), ?_⟩
        have hdg : IsDg (pre ++ .lst ((ls ++ [i]).map nW) :: (p1 ++ m)) d n es := ((h.upP p1).up _).upP pre
        have hg := hget_mid pre (.lst (ls.map nW)) (p1 ++ m)
        have hs := fun v => hset_mid pre (.lst (ls.map nW)) v (p1 ++ m)
        have hsz : szOk ((ls.map nW).length + 1) = true := szOk_small (by simp; omega)
        have hw' : hget (pre ++ .lst ((ls ++ [i]).map nW) :: (p1 ++ m)) e = some (elO d n es w) := by
          have hne : e ≠ (p1 ++ m).length := fun z => by rw [z, hg] at he; cases he
          exact hget_mid_ne hne pre he
        obtain ⟨o, ha⟩ := s_after_left (l+2) hdg hw' hin
        have hnew : hget (elO d n es (i :: w) :: o :: (pre ++ .lst ((ls ++ [i]).map nW) :: (p1 ++ m))) ((pre ++ HOb.lst ((ls ++ [i]).map nW) :: (p1 ++ m)).length + 1) = some (elO d n es (i :: w)) := hget_new _ _
        have hlf := s_left (l+3) h.ok (u := i :: w) (hw.cons hi) (by rw [List.length_cons]; omega) hnew
        have hgo := sl_going (l+6) (J := J) h.ok (w := i :: w) (hw.cons hi) (by rw [List.length_cons]; omega) hnew (some (.ref d)) (some (wdW u)) (some (.ref (p1 ++ m).length)) (some (.lst ((i :: r).map nW)))
        refine ⟨[some (.ref d), some (wdW J), some (wdW u), some (.ref ((pre ++ HOb.lst ((ls ++ [i]).map nW) :: (p1 ++ m)).length + 1)), some (.ref (p1 ++ m).length), some (.lst (((Mx.lds (wo n es) (i :: w)).filter fun k => decide (k ∈ J)).map nW)), o6], elO d n es (i :: w) :: o :: (pre ++ .lst ((ls ++ [i]).map nW) :: (p1 ++ m)), by omega, Or.inl ?_, elO d n es (i :: w) :: o :: pre, i :: w, _, ls ++ [i], o6, rfl, hnew, hw.cons hi, rfl, ?_, ?_, ?_, by simp; omega, rfl⟩
        · have hw2 := hw'
          unfold elO at hw2
          have hnew2 := hnew
          unfold elO at hnew2
          have ha0 : appR (p1 ++ m).length (nW i) (some (.lst (ls.map nW))) (pre ++ .lst (ls.map nW) :: (p1 ++ m)) = some (.ok .non, pre ++ .lst ((ls ++ [i]).map nW) :: (p1 ++ m)) := by
            rw [appR_lst hsz, hs, List.map_append]; rfl
          have hix : idxW ((i :: r).map nW) (.int 0) = some (nW i) := get_map nW (i :: r) (k := 0) (by simp)
          have hnew3 : hget (HOb.ins 64 [.ref d, imW n (wim n es (i :: w))] :: o :: (pre ++ .lst ((ls ++ [i]).map nW) :: (p1 ++ m))) ((pre ++ HOb.lst ((ls ++ [i]).map nW) :: (p1 ++ m)).length + 1) = some (.ins 64 [.ref d, imW n (wim n es (i :: w))]) := hnew
          have hel : elO d n es (i :: w) = HOb.ins 64 [.ref d, imW n (wim n es (i :: w))] := rfl
          rw [hel] at ha hlf hgo ⊢
          simp only [List.length_append, List.length_cons] at *
          generalize hM2 : pre ++ HOb.lst ((ls ++ [i]).map nW) :: (p1 ++ m) = M2 at *
          generalize hM1 : pre ++ HOb.lst (ls.map nW) :: (p1 ++ m) = M1 at *
          generalize hX : (i :: r).map nW = X at *
          simp [slW, b_split_left, hg, hix, ha0, hw2, ha, hnew3, hlf, wipeW, -List.map_map]
          rw [hgo]
          simp
        · intro y hy
          rcases List.mem_append.1 hy with q | q
          · exact hof y q
          · rw [List.mem_singleton.1 q]; exact hiJ
        · have := (Mx.Eqv.sq (W := wo n es) [] w hi).sy.left ls
          have h2 := hE.tr this
          simpa [List.append_assoc] using h2
        · rw [List.length_append]; simp; omega) (Mx.ell (wo n es) u) (sg := [some (.ref d), some (wdW J), some (wdW u), some (.ref e0), some (.ref (p1 ++ m).length), some (.lst (((Mx.lds (wo n es) u).filter fun k => decide (k ∈ J)).map nW)), none]) (m := .lst [] :: (p1 ++ m))
    ⟨[], u, e0, [], none, rfl, hget_up _ g1, hu, rfl, fun x hx => (by cases hx), .rf _, by simp, by simp, rfl⟩
  obtain ⟨pre, w, e, o6, rfl, he, hwd, hmin, hof, hE, hlen, hwz, rfl⟩ := hp
  have had : Mx.Wd (wo n es) a := fun x hx => hJ.lt x (hof x hx)
  have hra : Mx.Red (wo n es) a := by
    have h2 := Mx.ell_app (wo n es) a w
    have h3 := Mx.ell_len (wo n es) a
    rw [← Mx.ell_eq hE] at h2
    unfold Mx.Red; omega
  have hdg2 : IsDg (pre ++ .lst (a.map nW) :: (p1 ++ m)) d n es := ((h.upP p1).up _).upP pre
  have hn := s_normal l hdg2 had (by omega)
  have hls := s_least (l+1) hdg2 he hwd (by omega)
  have hg := hget_mid pre (.lst (a.map nW)) (p1 ++ m)
  refine ⟨a, w, ⟨hof, hwd, hE, hlen, hmin, hra⟩, ?_⟩
  rw [call_eq t_split_left rfl]
  simp only [slW, b_split_left, List.getD_cons_succ, List.getD_cons_zero] at hw'
  simp only [List.length_append] at *
  simp [F_split_left, b_split_left, hlk, h1, hget_up _ g0, hl0, wipeW, -List.map_map]
  rw [hgo0]
  simp [-List.map_map]
  rw [hw']
  simp [biM, hg, hn, hls]
  have := endR_pre (m := m) (pre := pre ++ (.lst (a.map nW) :: p1)) (w := .tup [wdW (Mx.nf (wo n es) a), wdW (Mx.nf (wo n es) w)]) (sg := [some (.ref d), some (wdW J), some (wdW u), some (.ref e), some (.ref (p1.length + m.length)), some (.lst []), o6]) (by simp [W.rb, W.rbs])
  rw [List.append_assoc] at this
  exact this
end Lk
namespace Lk
open PySem hiding alloc ret
open PySem.Spec PyProof.Rows L2 WM
theorem s_inverse (l : Nat) (u : List Nat) : evC T (l+1) f_inverse [wdW u] = ret (wdW u.reverse) := by
  refine pure_of t_inverse rfl fun m => ?_
  simp [F_inverse, b_inverse, -List.map_reverse]
/-- a word as a shortest one and then one of a set -/
def SpR (W : Mx.Wo) (J u f t : List Nat) : Prop := Mx.Of J t ∧ Mx.Wd W f ∧ Mx.Eqv W u (f ++ t) ∧ Mx.ell W u = Mx.ell W f + Mx.ell W t ∧ Mx.MinR W J f
theorem s_split_right (l : Nat) {m : Hm} {d n : Nat} {es : List Ed} (h : IsDg m d n es) {J : List Nat} (hJ : SetOk n J) {u : List Nat} (hu : Mx.Wd (wo n es) u) (hz : u.length ≤ 200) :
    ∃ f t, SpR (wo n es) J u f t ∧ evC T (l+8) f_split_right [.ref d, wdW u, wdW J] m = some (.ok (.tup [wdW (Mx.nf (wo n es) f), wdW (Mx.nf (wo n es) t)]), m) := by
  have ok := h.wok
  have hnw := Mx.nf_wd hu
  have hnl := Mx.nf_len hu
  have hel := Mx.ell_len (wo n es) u
  obtain ⟨a, r, ⟨h1, h2, h3, h4, h5, h6⟩, h7⟩ := s_split_left l h hJ (u := (Mx.nf (wo n es) u).reverse) hnw.rev (by rw [List.length_reverse]; omega)
  have had : Mx.Wd (wo n es) a := fun x hx => hJ.lt x (h1 x hx)
  have hE : Mx.Eqv (wo n es) u (r.reverse ++ a.reverse) := by
    have := h3.rev
    rw [List.reverse_reverse, List.reverse_append] at this
    exact (Mx.nf_eqv hu).tr this
  have e1 : Mx.nf (wo n es) (Mx.nf (wo n es) r).reverse = Mx.nf (wo n es) r.reverse := (Mx.nf_congr h2.rev (Mx.nf_eqv h2).rev).symm
  have e2 : Mx.nf (wo n es) (Mx.nf (wo n es) a).reverse = Mx.nf (wo n es) a.reverse := (Mx.nf_congr had.rev (Mx.nf_eqv had).rev).symm
  have hlr := Mx.nf_len h2
  have hla := Mx.nf_len had
  have her := Mx.ell_rev (W := wo n es) (Mx.nf (wo n es) u)
  have hen := Mx.ell_nf hu
  have hra : Mx.ell (wo n es) a = a.length := h6
  refine ⟨r.reverse, a.reverse, ⟨h1.rev, h2.rev, hE, ?_, ?_⟩, ?_⟩
  · rw [Mx.ell_rev, Mx.ell_rev, hra]; omega
  · exact h5.rev
  · have n1 := s_normal (l+1) h hu (by omega)
    have n2 := s_normal (l+1) h (Mx.nf_wd h2).rev (by rw [List.length_reverse]; omega)
    have n3 := s_normal (l+1) h (Mx.nf_wd had).rev (by rw [List.length_reverse]; omega)
    rw [e1] at n2
    rw [e2] at n3
    have i1 := s_inverse (l+6) (Mx.nf (wo n es) u)
    have i2 := s_inverse (l+6) (Mx.nf (wo n es) r)
    have i3 := s_inverse (l+6) (Mx.nf (wo n es) a)
    rw [call_eq t_split_right rfl]
    simp [F_split_right, b_split_right, n1, i1, h7, i2, i3, n2, n3]
end Lk
namespace Lk
open PySem hiding alloc ret
open PySem.Spec PyProof.Rows L2 WM
theorem lk_filter (es : List Ed) (a b : Nat) : ((es.filter fun e => decide (e.1 = a ∧ e.2.1 = b)).map fun e => nW e.2.2)[0]? = (lkE es a b).map nW := by
  induction es with
  | nil => rfl
  | cons e es ih =>
    rw [List.filter_cons]
    unfold lkE
    by_cases h : e.1 = a ∧ e.2.1 = b
    · rw [if_pos (decide_eq_true h), if_pos h]; rfl
    · rw [if_neg (by simpa using h), if_neg h, ih]
theorem lk_none {es : List Ed} {a b : Nat} (h : lkE es a b = none) : ((es.filter fun e => decide (e.1 = a ∧ e.2.1 = b)).map fun e => nW e.2.2) = [] := by
  have hf := lk_filter es a b
  rw [h] at hf
  have := List.getElem?_eq_none_iff.1 hf
  exact List.length_eq_zero_iff.1 (by omega)
theorem lk_some {es : List Ed} {a b q : Nat} (h : lkE es a b = some q) : ∃ ws, ((es.filter fun e => decide (e.1 = a ∧ e.2.1 = b)).map fun e => nW e.2.2) = nW q :: ws := by
  have hf := lk_filter es a b
  rw [h] at hf
  cases hl : (es.filter fun e => decide (e.1 = a ∧ e.2.1 = b)).map (fun e => nW e.2.2) with
  | nil => rw [hl] at hf; cases hf
  | cons w ws =>
    rw [hl] at hf
    injection hf with hf
    exact ⟨ws, by rw [hf]⟩
theorem min_nn (a b : Nat) : biM .min2 [nW a, nW b] = ret (nW (min a b)) := by
  simp only [biM, nW]
  congr 2; omega
theorem max_nn (a b : Nat) : biM .max2 [nW a, nW b] = ret (nW (max a b)) := by
  simp only [biM, nW]
  congr 2; omega
end Lk
namespace Lk
open PySem hiding alloc ret
open PySem.Spec PyProof.Rows L2 WM
/-! ## draws: they lie at the heap's bottom -/
def dmo (ns : List Int) (p s q : Int) : HOb := .lst [.lst (ns.map .int), .int p, .int s, .int q]
structure Dm (ns : List Int) (pre m : Hm) : Prop where
  at_ : ∃ p s q : Int, 0 ≤ p ∧ m = pre ++ [dmo ns p s q]
  rb : pre.all (HOb.rb (pre.length + 1)) = true
theorem Dm.len {ns : List Int} {pre m : Hm} (h : Dm ns pre m) : m.length = pre.length + 1 := by
  obtain ⟨⟨p, s, q, _, rfl⟩, _⟩ := h; simp
theorem rb_ints (k : Nat) : ∀ ns : List Int, W.rbs k (ns.map .int) = true
  | [] => rfl
  | n :: ns => by rw [List.map_cons, W.rbs, rb_ints k ns]; rfl
theorem Dm.all {ns : List Int} {pre m : Hm} (h : Dm ns pre m) : m.all (HOb.rb m.length) = true := by
  have hl := h.len
  obtain ⟨⟨p, s, q, _, rfl⟩, hr⟩ := h
  rw [hl, List.all_append, hr]
  simp [dmo, HOb.rb, HOb.its, W.rbs, W.rb, rb_ints]
theorem Dm.up {ns : List Int} {pre m : Hm} (h : Dm ns pre m) {o : HOb} (ho : HOb.rb (m.length + 1) o = true) : Dm ns (o :: pre) (o :: m) := by
  have hl := h.len
  obtain ⟨⟨p, s, q, h0, rfl⟩, hr⟩ := h
  refine ⟨⟨p, s, q, h0, rfl⟩, ?_⟩
  rw [List.all_cons, Bool.and_eq_true]
  rw [hl] at ho
  refine ⟨ho, ?_⟩
  rw [List.length_cons]
  exact allrb_le (by omega) hr
theorem Dm.up2 {ns : List Int} {pre m : Hm} (h : Dm ns pre m) {o p : HOb} (ho : HOb.rb (m.length + 2) o = true) (hp : HOb.rb (m.length + 2) p = true) : Dm ns (p :: o :: pre) (p :: o :: m) := by
  have hl := h.len
  obtain ⟨⟨a, s, q, h0, rfl⟩, hr⟩ := h
  refine ⟨⟨a, s, q, h0, rfl⟩, ?_⟩
  rw [hl] at ho hp
  rw [List.all_cons, List.all_cons, Bool.and_eq_true, Bool.and_eq_true]
  refine ⟨hp, ho, ?_⟩
  rw [List.length_cons, List.length_cons]
  exact allrb_le (by omega) hr
theorem get_bot {x y : HOb} {n : Nat} {o : HOb} (hn : n ≠ 0) : ∀ pre : Hm, hget (pre ++ [x]) n = some o → hget (pre ++ [y]) n = some o
  | [], ho => by
    rw [List.nil_append] at ho
    unfold hget at ho
    by_cases hh : n = ([] : Hm).length
    · exact absurd hh hn
    · rw [if_neg hh] at ho; cases ho
  | z :: xs, ho => by
    rw [List.cons_append] at ho ⊢
    unfold hget at ho ⊢
    have hl : (xs ++ [y]).length = (xs ++ [x]).length := by simp
    rw [hl]
    by_cases hh : n = (xs ++ [x]).length
    · rw [if_pos hh] at ho ⊢; exact ho
    · rw [if_neg hh] at ho ⊢
      exact get_bot hn xs ho
/-- two heaps that differ in the draws alone -/
theorem Dm.get {ns : List Int} {pre m m' : Hm} (h : Dm ns pre m) (g : Dm ns pre m') {n : Nat} {o : HOb} (hn : n ≠ 0) (ho : hget m n = some o) : hget m' n = some o := by
  obtain ⟨⟨p, s, q, _, rfl⟩, _⟩ := h
  obtain ⟨⟨p', s', q', _, rfl⟩, _⟩ := g
  exact get_bot hn pre ho
theorem Dm.dg {ns : List Int} {pre m m' : Hm} (h : Dm ns pre m) (g : Dm ns pre m') {d n : Nat} {es : List Ed} (hd : IsDg m d n es) : IsDg m' d n es := by
  have h0 : hget m 0 = some (dmo ns (Classical.choose h.at_) (Classical.choose (Classical.choose_spec h.at_)) (Classical.choose (Classical.choose_spec (Classical.choose_spec h.at_)))) := by
    have := (Classical.choose_spec (Classical.choose_spec (Classical.choose_spec h.at_))).2
    rw [congrArg (fun m => hget m 0) this, hget_bot]
  obtain ⟨⟨k, h1, h2⟩, h3⟩ := hd
  have d0 : d ≠ 0 := fun e => by rw [e, h0] at h1; cases h1
  have k0 : k ≠ 0 := fun e => by rw [e, h0] at h2; cases h2
  exact ⟨⟨k, h.get g d0 h1, h.get g k0 h2⟩, h3⟩
theorem s_draws (l : Nat) (ns : List Int) : ∃ m', evC T (l+1) f__law_draws [.klst (ns.map .int)] [] = some (.ok (.ref 0), m') ∧ Dm ns [] m' := by
  refine ⟨[dmo ns 0 0 1], ?_, ⟨0, 0, 1, by omega, rfl⟩, rfl⟩
  rw [call_eq t__law_draws rfl]
  simp [F__law_draws, b__law_draws, biM, dmo]
theorem s_drawI (l : Nat) (ns : List Int) (pre m : Hm) (lim : Int) (hn : ns.length ≤ 63) (h : Dm ns pre m) (h0 : 0 < lim) (h1 : lim < 2 ^ 64) :
    ∃ (v : Int) (m' : Hm), evC T (l+1) f__law_draw [.ref 0, .int lim] m = some (.ok (.int v), m') ∧ Dm ns pre m' ∧ 0 ≤ v ∧ v < lim := by
  obtain ⟨⟨p, s, q, hp, rfl⟩, hrb⟩ := h
  have hl : lim.natAbs.log2 < 9000 := by
    have : bd 64 lim := by unfold bd; omega
    have := bd_log this; omega
  have mr1 : ∀ q : Int, mulOk q 48271 = true := fun q => mulOk_r (by decide)
  have mr2 : ∀ q : Int, mulOk q 69621 = true := fun q => mulOk_r (by decide)
  have hx : ∀ x : Int, 0 ≤ x % lim ∧ x % lim < lim := fun x => ⟨Int.emod_nonneg _ (by omega), Int.emod_lt_of_pos _ h0⟩
  rw [call_eq t__law_draw rfl]
  unfold dmo
  have fl : ∀ {sg : Sg} {p q s p' q' s' : Int} {v : Int}, 0 ≤ p' → (0 ≤ v ∧ v < lim) → ∃ (v' : Int) (m' : Hm), endR false (pre ++ [HOb.lst [W.lst (ns.map .int), .int p, .int s, .int q]]) (some (.rt (.int v), sg, pre ++ [HOb.lst [W.lst (ns.map .int), .int p', .int s', .int q']])) = some (.ok (.int v'), m') ∧ Dm ns pre m' ∧ 0 ≤ v' ∧ v' < lim := by
    intro sg p q s p' q' s' v hp' hv
    exact ⟨v, _, endR_len (by simp), ⟨⟨p', s', q', hp', rfl⟩, hrb⟩, hv⟩
  by_cases c1 : s = 0 <;> by_cases c2 : p < ns.length
  · have c2' : p.toNat < ns.length := by omega
    have hc : idxW (ns.map .int) (.int p) = some (.int (ns[p.toNat])) := by
      rw [iWn hp (by simpa using c2')]; simp
    generalize ns[p.toNat] = cell at hc
    by_cases c3 : 1000000000000000000 ≤ cell
    · have c4 : 0 < cell := by omega
      simp [F__law_draw, b__law_draw, -int_cast, c1, c2, hc, binW, biM, c3, c4, mr1, mr2, h0, hl, hp, hget_bot, hset_bot]
      exact fl (by omega) (hx _)
    · simp [F__law_draw, b__law_draw, -int_cast, c1, c2, hc, binW, biM, c3, mr1, mr2, h0, hl, hp, hget_bot, hset_bot]
      exact fl (by omega) (hx _)
  · simp [F__law_draw, b__law_draw, -int_cast, c1, c2, binW, biM, mr1, mr2, h0, hl, hp, hget_bot, hset_bot]
    exact fl hp (hx _)
  · by_cases c4 : 0 < s <;> simp [F__law_draw, b__law_draw, -int_cast, c1, c2, c4, binW, biM, mr1, mr2, h0, hl, hp, hget_bot, hset_bot] <;>
    exact fl hp (hx _)
  · by_cases c4 : 0 < s <;> simp [F__law_draw, b__law_draw, -int_cast, c1, c2, c4, binW, biM, mr1, mr2, h0, hl, hp, hget_bot, hset_bot] <;>
    exact fl hp (hx _)
/-- a draw of a number below k -/
theorem s_draw (l : Nat) {ns : List Int} {pre m : Hm} (k : Nat) (hn : ns.length ≤ 63) (h : Dm ns pre m) (h0 : 0 < k) (h1 : k < 2 ^ 60) :
    ∃ (v : Nat) (m' : Hm), evC T (l+1) f__law_draw [.ref 0, .int (k : Int)] m = some (.ok (nW v), m') ∧ Dm ns pre m' ∧ v < k := by
  obtain ⟨v, m', h2, h3, h4, h5⟩ := s_drawI l ns pre m k hn h (by omega) (by omega)
  refine ⟨v.toNat, m', ?_, h3, by omega⟩
  rw [h2]
  have : (v.toNat : Int) = v := by omega
  unfold nW; rw [this]
end Lk
namespace Lk
open PySem hiding alloc ret
open PySem.Spec PyProof.Rows L2 WM
theorem edOk_dec (n : Nat) (es : List Ed) (h : es.all (fun e => decide (e.1 < e.2.1) && decide (e.2.1 < n) && (decide (e.2.2 = 0) || decide (e.2.2 = 3) || decide (e.2.2 = 4) || decide (e.2.2 = 5) || decide (e.2.2 = 6))) = true) (hn : decide ((es.map prE).Nodup) = true) (h9 : n ≤ 9) : EsOk n es := by
  refine ⟨fun e he => ?_, of_decide_eq_true hn, h9⟩
  have := List.all_eq_true.1 h e he
  simp at this
  unfold edOk lbOk
  omega
def worldW (n : Nat) (es : List Ed) : W := .tup [nW n, .tup (es.map edW)]
/-- a world that is drawn -/
def IsWo (w : W) (most : Nat) : Prop := ∃ n es, w = worldW n es ∧ EsOk n es ∧ 1 ≤ n ∧ n ≤ most ∧ es.length ≤ 100
def finPool : List (Nat × List Ed) := [(1, []), (2, [(0, 1, 3)]), (2, [(0, 1, 4)]), (2, [(0, 1, 5)]), (2, [(0, 1, 6)]), (2, []), (3, [(0, 1, 3), (1, 2, 3)]), (3, [(0, 1, 3), (1, 2, 4)]), (3, [(0, 1, 4), (1, 2, 3)]), (3, [(0, 2, 3), (1, 2, 3)]), (3, [(0, 2, 5)]), (3, [(0, 1, 5), (1, 2, 3)]),
  (4, [(0, 1, 3), (1, 2, 3), (2, 3, 3)]), (4, [(0, 1, 3), (0, 2, 3), (0, 3, 3)]), (4, [(0, 1, 3), (2, 3, 4)])]
def anyPool : List (Nat × List Ed) := [(2, [(0, 1, 0)]), (3, [(0, 1, 3), (0, 2, 3), (1, 2, 3)]), (3, [(0, 1, 4), (1, 2, 4)]), (3, [(0, 1, 3), (1, 2, 6)]), (3, [(0, 1, 5), (1, 2, 5)]), (3, [(0, 1, 0), (1, 2, 3)]), (3, [(0, 1, 4), (0, 2, 5), (1, 2, 6)]), (4, [(0, 1, 3), (0, 3, 3), (1, 2, 3), (2, 3, 3)])]
def poolOk (p : List (Nat × List Ed)) : Bool := p.all fun w => (w.2.all (fun e => decide (e.1 < e.2.1) && decide (e.2.1 < w.1) && (decide (e.2.2 = 0) || decide (e.2.2 = 3) || decide (e.2.2 = 4) || decide (e.2.2 = 5) || decide (e.2.2 = 6))) && decide ((w.2.map prE).Nodup)) && decide (1 ≤ w.1) && decide (w.1 ≤ 4) && decide (w.2.length ≤ 100)
theorem pool_wo {p : List (Nat × List Ed)} (h : poolOk p = true) {v : Nat} (hv : v < p.length) : IsWo (worldW p[v].1 p[v].2) 4 := by
  have := List.all_eq_true.1 h p[v] (List.getElem_mem hv)
  simp only [Bool.and_eq_true, decide_eq_true_eq] at this
  obtain ⟨⟨⟨⟨h1, h2⟩, h3⟩, h4⟩, h5⟩ := this
  exact ⟨_, _, rfl, edOk_dec _ _ h1 (decide_eq_true h2) (by omega), h3, h4, h5⟩
theorem pool_idx (p : List (Nat × List Ed)) (v : Nat) (hv : v < p.length) : idxW (p.map fun w => worldW w.1 w.2) (nW v) = some (worldW p[v].1 p[v].2) := get_map _ p hv
theorem fin_eq : finPool.map (fun w => worldW w.1 w.2) = [worldW 1 [], worldW 2 [(0, 1, 3)], worldW 2 [(0, 1, 4)], worldW 2 [(0, 1, 5)], worldW 2 [(0, 1, 6)], worldW 2 [], worldW 3 [(0, 1, 3), (1, 2, 3)], worldW 3 [(0, 1, 3), (1, 2, 4)], worldW 3 [(0, 1, 4), (1, 2, 3)], worldW 3 [(0, 2, 3), (1, 2, 3)], worldW 3 [(0, 2, 5)], worldW 3 [(0, 1, 5), (1, 2, 3)],
  worldW 4 [(0, 1, 3), (1, 2, 3), (2, 3, 3)], worldW 4 [(0, 1, 3), (0, 2, 3), (0, 3, 3)], worldW 4 [(0, 1, 3), (2, 3, 4)]] := rfl
theorem s_fin (l : Nat) {ns : List Int} {pre m : Hm} (k : Nat) (hn : ns.length ≤ 63) (h : Dm ns pre m) (h0 : 0 < k) (h1 : k ≤ 15) :
    ∃ w m', evC T (l+2) f__law_finite_world [.ref 0, nW k] m = some (.ok w, m') ∧ Dm ns pre m' ∧ IsWo w 4 := by
  obtain ⟨v, m', hd, hm, hv⟩ := s_draw l k hn h h0 (by omega)
  have hv' : v < finPool.length := Nat.lt_of_lt_of_le hv h1
  refine ⟨_, m', ?_, hm, pool_wo (p := finPool) (by decide) hv'⟩
  rw [call_eq t__law_finite_world rfl]
  have hi := pool_idx finPool v hv'
  have hd' : evC T (l+1) f__law_draw [.ref 0, nW k] m = some (.ok (nW v), m') := hd
  simp only [F__law_finite_world, b__law_finite_world]
  simp [hd']
  change endR false m (thenS (lftR (opt (idxW (finPool.map fun w => worldW w.1 w.2) (nW v)) m') _ _) _) = _
  rw [hi]
  simp
  exact endR_len (by rw [hm.len, h.len])
/-- the edges that are drawn -/
theorem rgN_succ {a b : Nat} (h : a < b) : rgN a b = a :: rgN (a + 1) b := by
  unfold rgN
  rw [show b - a = (b - (a + 1)) + 1 by omega, List.range_succ_eq_map, List.map_cons, List.map_map]
  congr 1
  refine List.map_congr_left fun k _ => ?_
  show a + (k + 1) = a + 1 + k
  omega
end Lk
namespace Lk
open PySem hiding alloc ret
open PySem.Spec PyProof.Rows L2 WM
theorem idx_world0 (n : Nat) (es : List Ed) : idxM (worldW n es) (.int 0) = ret (nW n) := by simp [worldW]
theorem idx_world1 (n : Nat) (es : List Ed) : idxM (worldW n es) (.int 1) = ret (.tup (es.map edW)) := by simp [worldW]
theorem s_law_slope (l : Nat) {n : Nat} {es : List Ed} (h : EsOk n es) (a b : Nat) : evC T (l+1) f__law_slope [worldW n es, nW a, nW b] = ret (gW (slE es a b)) := by
  refine pure_of t__law_slope rfl fun m => ?_
  unfold slE slL
  by_cases hab : a = b
  · subst hab
    simp [F__law_slope, b__law_slope, worldW]
    rfl
  · simp [F__law_slope, b__law_slope, worldW, hab, wipeW]
    rw [comp_map edW es (fun e => decide (e.1 = min a b ∧ e.2.1 = max a b)) (fun e => nW e.2.2) (fun e he => by
      refine ⟨_, rfl, ?_, fun _ => ?_⟩
      · simp [min_nn, max_nn, wd2]
      · simp)]
    cases hk : lkE es (min a b) (max a b) with
    | none =>
      have hl : labE es a b = 2 := by unfold labE; rw [if_neg hab, hk]; rfl
      rw [lk_none hk, hl]
      simp; rfl
    | some q =>
      have hl : labE es a b = q := by unfold labE; rw [if_neg hab, hk]; rfl
      obtain ⟨ws, hw⟩ := lk_some hk
      have hq := lk_ok h.ok hk
      rw [hw, hl]
      have n0 : ¬ ((ws.length : Int) + 1 = 0) := by omega
      unfold lbOk at hq
      have d0 : ∀ a b c d e, dselW [3, 4, 5, 6, 0] [a, b, c, d, e] (nW 0) = some e := fun _ _ _ _ _ => rfl
      have d3 : ∀ a b c d e, dselW [3, 4, 5, 6, 0] [a, b, c, d, e] (nW 3) = some a := fun _ _ _ _ _ => rfl
      have d4 : ∀ a b c d e, dselW [3, 4, 5, 6, 0] [a, b, c, d, e] (nW 4) = some b := fun _ _ _ _ _ => rfl
      have d5 : ∀ a b c d e, dselW [3, 4, 5, 6, 0] [a, b, c, d, e] (nW 5) = some c := fun _ _ _ _ _ => rfl
      have d6 : ∀ a b c d e, dselW [3, 4, 5, 6, 0] [a, b, c, d, e] (nW 6) = some d := fun _ _ _ _ _ => rfl
      have i0 : inW true (nW 0) [.int 4, .int 6] = some false := rfl
      have i3 : inW true (nW 3) [.int 4, .int 6] = some false := rfl
      have i4 : inW true (nW 4) [.int 4, .int 6] = some true := rfl
      have i5 : inW true (nW 5) [.int 4, .int 6] = some false := rfl
      have i6 : inW true (nW 6) [.int 4, .int 6] = some true := rfl
      rcases hq with e | e | e | e | e <;> subst e <;> by_cases hlt : a < b <;>
      simp [d0, d3, d4, d5, d6, i0, i3, i4, i5, i6, hlt, n0] <;> rfl
end Lk
namespace Lk
open PySem hiding alloc ret
open PySem.Spec PyProof.Rows L2 WM
theorem s_law_plus (l : Nat) (a b : Gd) : evC T (l+1) f__law_plus [gW a, gW b] = ret (gW (a + b)) := by
  refine pure_of t__law_plus rfl fun m => ?_
  simp [F__law_plus, b__law_plus, binW, gW, Mx.add_1, Mx.add_2]
theorem s_law_times (l : Nat) (a b : Gd) (h : Sm a) : evC T (l+1) f__law_times [gW a, gW b] = ret (gW (a * b)) := by
  refine pure_of t__law_times rfl fun m => ?_
  have k1 : ∀ j, mulOk a.1 j = true := fun j => mulOk_l h.1
  have k2 : ∀ j, mulOk a.2 j = true := fun j => mulOk_l h.2
  simp [F__law_times, b__law_times, binW, gW, k1, k2, Mx.mul_1, Mx.mul_2]
end Lk
namespace Lk
open PySem hiding alloc ret
open PySem.Spec PyProof.Rows L2 WM
theorem s_law_taken (l : Nat) {n : Nat} {es : List Ed} (h : EsOk n es) (i : Nat) (v : Mx.Vc) : evC T (l+2) f__law_taken [worldW n es, nW i, rtW n v] = ret (gW (Mx.tak (wo n es) i v)) := by
  refine pure_of t__law_taken rfl fun m => ?_
  have h9 := h.sz
  simp [F__law_taken, b__law_taken, idx_world0, rngM_n (n := n) (by omega)]
  rw [← rg0]
  obtain ⟨sg', m', hl, hp⟩ := loop_rg (fun k sg m' => m' = m ∧ ∃ o4, sg = [some (worldW n es), some (nW i), some (rtW n v), some (gW (Mx.sm k fun j => slE es i j * v j)), o4])
    (tg := .v 4) (bd := evSs T (evC T (l+1)) [.set (.v 3) (.call f__law_plus [.var 3, .call f__law_times [.call f__law_slope [.var 0, .var 1, .var 4], .idx (.var 2) (.var 4)]])]) n _ 0 rfl (by omega)
    (sg := [some (worldW n es), some (nW i), some (rtW n v), some (.tup [.int 0, .int 0]), none]) (m := m) ⟨rfl, none, rfl⟩ (by
      rintro k sg m' _ hk ⟨rfl, o4, rfl⟩
      refine ⟨_, _, m', rfl, Or.inl ?_, rfl, some (nW k), rfl⟩
      have h1 := s_law_slope l h i k
      have h2 := s_law_times l (slE es i k) (v k) (sl_sm es i k)
      have h3 := s_law_plus l (Mx.sm k fun j => slE es i j * v j) (slE es i k * v k)
      simp [h1, idx_rt n v hk, h2, h3]
      rfl)
  obtain ⟨rfl, o4, rfl⟩ := hp
  rw [hl]
  simp
  rfl
end Lk
namespace Lk
open PySem hiding alloc ret
open PySem.Spec PyProof.Rows L2 WM
theorem lmir_list (n : Nat) (es : List Ed) (i : Nat) (hi : i < n) (v : Mx.Vc) (x : Gd) (hx : x = v i - Mx.tak (wo n es) i v) : ((List.range n).map fun k => gW (v k)).take i ++ gW x :: ((List.range n).map fun k => gW (v k)).drop (i + 1) = (List.range n).map fun k => gW (Mx.mir (wo n es) i v k) := by
  subst hx
  refine List.ext_getElem (by simp; omega) fun k h1 h2 => ?_
  have hk : k < n := by simpa using h2
  rw [List.getElem_map, List.getElem_range]
  unfold Mx.mir
  rcases Nat.lt_trichotomy k i with g | g | g
  · rw [if_neg (by omega), List.getElem_append_left (by simp; omega)]
    simp
  · rw [if_pos g, List.getElem_append_right (by simp; omega)]
    have e : k - (((List.range n).map fun k => gW (v k)).take i).length = 0 := by simp; omega
    simp only [e, List.getElem_cons_zero]
  · rw [if_neg (by omega), List.getElem_append_right (by simp; omega)]
    have e : k - (((List.range n).map fun k => gW (v k)).take i).length = (k - i - 1) + 1 := by simp; omega
    simp only [e, List.getElem_cons_succ, List.getElem_drop, List.getElem_map, List.getElem_range]
    congr 2
    omega
theorem s_law_mirrored (l : Nat) {n : Nat} {es : List Ed} (h : EsOk n es) {i : Nat} (hi : i < n) (v : Mx.Vc) : evC T (l+3) f__law_mirrored [worldW n es, nW i, rtW n v] = ret (rtW n (Mx.mir (wo n es) i v)) := by
  refine pure_of t__law_mirrored rfl fun m => ?_
  have h9 := h.sz
  have ht := s_law_taken l h i v
  have hx := idx_rt n v hi
  have sl1 : slcM (rtW n v) none (some (ci i)) = ret (.tup (((List.range n).map fun k => gW (v k)).take i)) := by unfold rtW; rw [slcM_tup, cut_take]
  have sl2 : slcM (rtW n v) (some (ci (i+1))) none = ret (.tup (((List.range n).map fun k => gW (v k)).drop (i+1))) := by unfold rtW; rw [slcM_tup, cut_drop]
  have hg : ∀ x y : Int, W.tup [.int x, .int y] = gW ((x, y) : Gd) := fun _ _ => rfl
  have b1 : ∀ y, binW .add (.tup (((List.range n).map fun k => gW (v k)).take i)) (.tup [y]) = some (.tup (((List.range n).map fun k => gW (v k)).take i ++ [y])) := fun y => by
    have z1 : szOk ((((List.range n).map fun k => gW (v k)).take i).length + [y].length) = true := szOk_small (by simp; omega)
    show (if szOk _ = true then _ else _) = _
    rw [z1]; rfl
  have b2 : ∀ x : Gd, x = v i - Mx.tak (wo n es) i v → binW .add (.tup (((List.range n).map fun k => gW (v k)).take i ++ [gW x])) (.tup (((List.range n).map fun k => gW (v k)).drop (i+1))) = some (rtW n (Mx.mir (wo n es) i v)) := fun x hx => by
    have z2 : szOk ((((List.range n).map fun k => gW (v k)).take i ++ [gW x]).length + (((List.range n).map fun k => gW (v k)).drop (i + 1)).length) = true := szOk_small (by simp; omega)
    show (if szOk _ = true then _ else _) = _
    rw [z2, List.append_assoc]
    have := lmir_list n es i hi v x hx
    rw [show [gW x] ++ ((List.range n).map fun k => gW (v k)).drop (i + 1) = gW x :: ((List.range n).map fun k => gW (v k)).drop (i + 1) from rfl, this]; rfl
  have bs : ∀ x y : Int, binW .sub (.int x) (.int y) = some (.int (x - y)) := fun _ _ => rfl
  have hb := b2 (((v i).1 - (Mx.tak (wo n es) i v).1, (v i).2 - (Mx.tak (wo n es) i v).2) : Gd) rfl
  simp [F__law_mirrored, b__law_mirrored, ht, hx, sl1, sl2, bs, hg, b1, hb, -List.map_take, -List.map_drop]
end Lk
namespace Lk
open PySem hiding alloc ret
open PySem.Spec PyProof.Rows L2 WM
theorem s_law_simple (l : Nat) {n : Nat} (es : List Ed) (i : Nat) (h9 : n ≤ 9) : evC T (l+1) f__law_simple [worldW n es, nW i] = ret (rtW n (Mx.es i)) := by
  refine pure_of t__law_simple rfl fun m => ?_
  simp [F__law_simple, b__law_simple, idx_world0, rngM_n (n := n) (by omega), wipeW]
  rw [comp_all nW (List.range n) (fun k => gW (Mx.es i k)) (fun k hk => by
    refine ⟨_, rfl, rfl, ?_⟩
    by_cases hki : k = i
    · simp [hki, Mx.es]; rfl
    · simp [hki, Mx.es]; rfl)]
  simp
end Lk
namespace Lk
open PySem hiding alloc ret
open PySem.Spec PyProof.Rows L2 WM
theorem foldl_mir (W : Mx.Wo) : ∀ (u : List Nat) (v : Mx.Vc), u.reverse.foldl (fun v x => Mx.mir W x v) v = Mx.act W u v
  | [], _ => rfl
  | x :: u, v => by rw [List.reverse_cons, List.foldl_append, foldl_mir W u v]; rfl
theorem s_law_moved (l : Nat) {n : Nat} {es : List Ed} (h : EsOk n es) {u : List Nat} (hu : Mx.Wd (wo n es) u) (v : Mx.Vc) : evC T (l+4) f__law_moved [worldW n es, wdW u, rtW n v] = ret (rtW n (Mx.act (wo n es) u v)) := by
  refine pure_of t__law_moved rfl fun m => ?_
  simp [F__law_moved, b__law_moved, -List.map_reverse]
  obtain ⟨sg', m', hl, hp⟩ := loop_fold (tg := .v 3) (b := evSs T (evC T (l+3)) [.set (.v 2) (.call f__law_mirrored [.var 0, .var 3, .var 2])]) nW (fun (v : Mx.Vc) x => Mx.mir (wo n es) x v)
    (fun v sg m' => m' = m ∧ ∃ o3, sg = [some (worldW n es), some (wdW u), some (rtW n v), o3]) u.reverse v (sg := [some (worldW n es), some (wdW u), some (rtW n v), none]) (m := m) ⟨rfl, none, rfl⟩ (by
      rintro v x sg m' hx ⟨rfl, o3, rfl⟩
      have hi : x < n := hu x (List.mem_reverse.1 hx)
      refine ⟨_, _, m', rfl, Or.inl ?_, rfl, some (nW x), rfl⟩
      simp [s_law_mirrored l h hi v])
  obtain ⟨rfl, o3, rfl⟩ := hp
  rw [hl, foldl_mir]
  simp
end Lk
namespace Lk
open PySem hiding alloc ret
open PySem.Spec PyProof.Rows L2 WM
theorem s_law_sign (l : Nat) (a : Gd) (g1 : bd 400000 a.1) (g2 : bd 400000 a.2) : evC T (l+1) f__law_sign [gW a] = ret (.int (Mx.sn a)) := by
  refine pure_of t__law_sign rfl fun m => ?_
  have h4 : mulOk 2 a.1 = true := mulOk_l (by decide)
  have h2 : mulOk 5 a.2 = true := mulOk_l (by decide)
  have hu : bd 400002 (2 * a.1 + a.2) := by
    unfold bd at *
    rw [show 400002 = 400000 + 2 by rfl, Nat.pow_add]
    generalize 2 ^ 400000 = P at *
    omega
  have h1 : mulOk (2 * a.1 + a.2) (2 * a.1 + a.2) = true := mulOk_bd hu hu (by omega)
  have h3 : mulOk (5 * a.2) a.2 = true := by
    refine mulOk_bd (n := 400003) ?_ g2 (by omega)
    unfold bd at *
    rw [show 400003 = 400000 + 3 by rfl, Nat.pow_add]
    generalize 2 ^ 400000 = P at *
    omega
  unfold Mx.sn Mx.sgn
  have e0 : idxM (gW a) (.int 0) = ret (.int a.1) := idx_gW0 a
  have e1 : idxM (gW a) (.int 1) = ret (.int a.2) := idx_gW1 a
  have k1 : mulOk 1 1 = true := by decide
  have k2 : mulOk (-1) 1 = true := by decide
  have k3 : mulOk 1 (-1) = true := by decide
  have k4 : mulOk (-1) (-1) = true := by decide
  clear g1 g2 hu
  generalize gW a = wa at *
  generalize a.2 = b at *
  generalize hw : 2 * a.1 + b = u at *
  rcases Int.lt_trichotomy u 0 with c1 | c1 | c1 <;> rcases Int.lt_trichotomy b 0 with c2 | c2 | c2
  · have d1 : ¬ 0 ≤ u := by omega
    have d2 : ¬ 0 ≤ b := by omega
    have d3 : u ≤ 0 := by omega
    have d4 : b ≤ 0 := by omega
    have d5 : ¬ u = 0 := by omega
    have d6 : ¬ 0 < u + b := by omega
    simp [F__law_sign, b__law_sign, e0, e1, binW, h1, h2, h3, h4, d1, d2, d3, d4, d5, d6, hw]
  · subst c2
    have d1 : ¬ 0 ≤ u := by omega
    have d3 : u ≤ 0 := by omega
    have d5 : ¬ u = 0 := by omega
    have d6 : ¬ 0 < u := by omega
    simp [F__law_sign, b__law_sign, e0, e1, binW, h1, h2, h3, h4, d1, d3, d5, d6, hw]
  · have d1 : ¬ 0 ≤ u := by omega
    have d3 : u ≤ 0 := by omega
    have d4 : ¬ b ≤ 0 := by omega
    have d2 : 0 ≤ b := by omega
    have d5 : ¬ u = 0 := by omega
    have d7 : ¬ 0 < u := by omega
    by_cases c7 : 5*b*b < u*u
    · have d8 : 0 < u*u - 5*b*b := by omega
      simp [F__law_sign, b__law_sign, e0, e1, binW, h1, h2, h3, h4, d1, d2, d3, d4, d5, d7, c7, d8, k1, k2, k3, k4, hw]
    · have d8 : ¬ 0 < u*u - 5*b*b := by omega
      simp [F__law_sign, b__law_sign, e0, e1, binW, h1, h2, h3, h4, d1, d2, d3, d4, d5, d7, c7, d8, k1, k2, k3, k4, hw]
  · subst c1
    have d2 : ¬ 0 ≤ b := by omega
    have d4 : b ≤ 0 := by omega
    have d5 : ¬ b = 0 := by omega
    have d6 : ¬ 0 < b := by omega
    simp [F__law_sign, b__law_sign, e0, e1, binW, h1, h2, h3, h4, d2, d4, d5, d6, hw]
  · subst c1; subst c2
    simp [F__law_sign, b__law_sign, e0, e1, binW, h1, h2, h3, h4, hw]
  · subst c1
    have d2 : 0 ≤ b := by omega
    have d4 : ¬ b ≤ 0 := by omega
    have d5 : ¬ b = 0 := by omega
    simp [F__law_sign, b__law_sign, e0, e1, binW, h1, h2, h3, h4, d2, d4, d5, c2, hw]
  · have d1 : 0 ≤ u := by omega
    have d3 : ¬ u ≤ 0 := by omega
    have d4 : b ≤ 0 := by omega
    have d2 : ¬ 0 ≤ b := by omega
    have d5 : ¬ u = 0 := by omega
    by_cases c7 : 5*b*b < u*u
    · have d8 : 0 < u*u - 5*b*b := by omega
      simp [F__law_sign, b__law_sign, e0, e1, binW, h1, h2, h3, h4, d1, d2, d3, d4, d5, c1, c7, d8, k1, k2, k3, k4, hw]
    · have d8 : ¬ 0 < u*u - 5*b*b := by omega
      simp [F__law_sign, b__law_sign, e0, e1, binW, h1, h2, h3, h4, d1, d2, d3, d4, d5, c1, c7, d8, k1, k2, k3, k4, hw]
  · subst c2
    have d1 : 0 ≤ u := by omega
    have d5 : ¬ u = 0 := by omega
    simp [F__law_sign, b__law_sign, e0, e1, binW, h1, h2, h3, h4, d1, d5, c1, hw]
  · have d1 : 0 ≤ u := by omega
    have d2 : 0 ≤ b := by omega
    have d5 : ¬ u = 0 := by omega
    have d6 : 0 < u + b := by omega
    simp [F__law_sign, b__law_sign, e0, e1, binW, h1, h2, h3, h4, d1, d2, d5, d6, c1, c2, hw]
end Lk
namespace Lk
open PySem hiding alloc ret
open PySem.Spec PyProof.Rows L2 WM
theorem s_law_side (l : Nat) {n : Nat} {v : Mx.Vc} (h : Bv 400000 v) : evC T (l+2) f__law_side [rtW n v] = ret (.int (rsg n v)) := by
  refine pure_of t__law_side rfl fun m => ?_
  simp [F__law_side, b__law_side, wipeW]
  rw [comp_all (fun k => gW (v k)) (List.range n) (fun k => .int (Mx.sn (v k))) (fun k hk => ⟨_, rfl, rfl, by simp [s_law_sign l (v k) (h k).1 (h k).2]⟩)]
  have i1 := in_ints n (-1) (fun k => Mx.sn (v k))
  have i2 := in_ints n 1 (fun k => Mx.sn (v k))
  unfold rsg
  cases c1 : (List.range n).any (fun k => decide (Mx.sn (v k) = -1)) <;> cases c2 : (List.range n).any (fun k => decide (Mx.sn (v k) = 1)) <;>
  rw [c1] at i1 <;> rw [c2] at i2 <;> simp [i1, i2]
end Lk
namespace Lk
open PySem hiding alloc ret
open PySem.Spec PyProof.Rows L2 WM
def lnB : List WM.S := match b__law_normal.getD 3 .pass with
  | .while _ b => b
  | _ => []
def lnI : List WM.S := match lnB.getD 3 .pass with
  | .loop _ _ b => b
  | _ => []
theorem nl_low (l : Nat) {n : Nat} {es : List Ed} (hd : EsOk n es) {u : List Nat} (hu : Mx.Wd (wo n es) u) (hz : u.length ≤ 60000) {im : Nat} {m : Hm} (hg : hget m im = some (.lst ((List.range n).map fun k => rtW n (wim n es u k)))) {sg : Sg} (s2 : sg[2]? = some (some (.ref im))) (s8 : 8 < sg.length) :
    compGo (.v 8) sg (evE T (evC T (l+3)) (.cmp .lt (.call f__law_side [.idx (.var 2) (.var 8)]) (.lit (.int 0)))) (evE T (evC T (l+3)) (.var 8)) ((List.range n).map nW) m = some (.ok ((Mx.lds (wo n es) u).map nW), m) := by
  refine comp_map nW (List.range n) (fun k => Mx.ld (wo n es) u k) nW fun k hk => ?_
  have hk' := List.mem_range.1 hk
  have e2 : (sg.set 8 (some (nW k)))[2]? = some (some (.ref im)) := by rw [List.getElem?_set_ne (by decide), s2]
  have e8 : (sg.set 8 (some (nW k)))[8]? = some (some (nW k)) := List.getElem?_set_self s8
  refine ⟨sg.set 8 (some (nW k)), asg_v 8 _ _, ?_, fun _ => by simp [e8]⟩
  have hb : Bv 400000 (wim n es u k) := Bv_root hd.sz (by rw [List.length_reverse]; exact hz) k
  have hs := s_law_side (l+1) (n := n) hb
  have hr : rsg n (wim n es u k) = _ := rsg_wim hd hu hk'
  rw [hr] at hs
  have hi := get_rg (fun k => rtW n (wim n es u k)) hk'
  cases hl : Mx.ld (wo n es) u k <;> rw [hl] at hs <;> simp [e2, e8, hg, hi, hs]
theorem s_law_normal (l : Nat) {n : Nat} {es : List Ed} (hd : EsOk n es) {u : List Nat} (hu : Mx.Wd (wo n es) u) (hz : u.length ≤ 20000) : evC T (l+5) f__law_normal [worldW n es, wdW u] = ret (wdW (Mx.nf (wo n es) u)) := by
  refine pure_of t__law_normal rfl fun m => ?_
  have h9 := hd.sz
  have ok := wo_ok hd
  have hnl := Mx.nf_len hu
  have hel := Mx.ell_len (wo n es) u
  simp [F__law_normal, b__law_normal, idx_world0, rngM_n (n := n) (by omega), wipeW]
  rw [comp_all nW (List.range n) (fun k => rtW n (wim n es u k)) (fun k hk => by
    refine ⟨_, rfl, rfl, ?_⟩
    simp [s_law_simple (l+3) es k h9, s_law_moved l hd hu.rev, wim])]
  simp [idx_world0, rngM_n (n := n) (by omega : n ≤ 16777216), wipeW, -List.map_map]
  rw [nl_low (l+1) hd hu (by omega) (hget_new _ _) (by rfl) (by simp)]
  simp [-List.map_map]
  obtain ⟨sg', m', hw, hp⟩ := while_run (fun k sg m' => ∃ w ls o5 o6 o7 o8 o9 o10, m' = .lst ((List.range n).map fun k => rtW n (wim n es w k)) :: m ∧ Mx.Wd (wo n es) w ∧ Mx.ell (wo n es) w = k ∧ ls ++ Mx.nf (wo n es) w = Mx.nf (wo n es) u ∧ w.length = u.length + ls.length ∧
      sg = [some (worldW n es), some (wdW u), some (.ref m.length), some (wdW ls), some (.lst ((Mx.lds (wo n es) w).map nW)), o5, o6, o7, o8, o9, o10])
    (c := evE T (evC T (l+4)) (.cmp .gt (.bi .len [.var 4]) (.lit (.int 0)))) (b := evSs T (evC T (l+4)) lnB)
    (by
      rintro sg m' ⟨w, ls, o5, o6, o7, o8, o9, o10, rfl, hwd, hk, hls, hlen, rfl⟩
      rw [(Mx.lds_nil hwd).2 hk]
      simp)
    (by
      rintro k sg m' ⟨w, ls, o5, o6, o7, o8, o9, o10, rfl, hwd, hk, hls, hlen, rfl⟩
      cases hl : Mx.lds (wo n es) w with
      | nil => have := (Mx.lds_nil hwd).1 hl; omega
      | cons i r =>
        obtain ⟨hi, hil⟩ := Mx.lds_head hl
        have hin : i < n := hi
        rw [Mx.nf_cons hl] at hls
        have hll := congrArg List.length hls
        rw [List.length_append, List.length_cons, hnl] at hll
        have c0 : (0 : Int) < (r.length : Int) + 1 := by omega
        refine ⟨by simp [c0], ?_⟩
        -- the inner loop
        have inner : ∀ (q k : Nat) (o7 o9 : Option W), n - k = q → k ≤ n → ∃ p7 p9, loopGo (.v 7) (evSs T (evC T (l+4)) lnI) ((rgN k n).map nW) [some (worldW n es), some (wdW u), some (.ref m.length), some (wdW (ls ++ [i])), some (.lst (nW i :: r.map nW)), some (nW i), some (rtW n (wim n es w i)), o7, o8, o9, o10]
              (.lst ((List.range n).map fun j => rtW n (if j < k then wim n es (i :: w) j else wim n es w j)) :: m)
            = some (.nx, [some (worldW n es), some (wdW u), some (.ref m.length), some (wdW (ls ++ [i])), some (.lst (nW i :: r.map nW)), some (nW i), some (rtW n (wim n es w i)), p7, o8, p9, o10],
              .lst ((List.range n).map fun j => rtW n (wim n es (i :: w) j)) :: m) := by
          intro q
          induction q with
          | zero =>
            intro k o7 o9 hq hk
            have : k = n := by omega
            subst this
            refine ⟨o7, o9, ?_⟩
            have e : ((List.range k).map fun j => rtW k (if j < k then wim k es (i :: w) j else wim k es w j)) = (List.range k).map fun j => rtW k (wim k es (i :: w) j) := List.map_congr_left fun j hj => by rw [if_pos (List.mem_range.1 hj)]
            rw [e]
            unfold rgN
            rw [Nat.sub_self]; rfl
          | succ q ih =>
            intro k o7 o9 hq hk
            obtain ⟨p7, p9, hr⟩ := ih (k + 1) (some (nW k)) (some (gW (slE es i k))) (by omega) (by omega)
            refine ⟨p7, p9, ?_⟩
            have hkn : k < n := by omega
            have e1 : rgN k n = k :: rgN (k + 1) n := by
              unfold rgN
              rw [show n - k = (n - (k + 1)) + 1 by omega, List.range_succ_eq_map, List.map_cons, List.map_map]
              congr 1
              refine List.map_congr_left fun j _ => ?_
              show k + (j + 1) = k + 1 + j
              omega
            rw [e1, List.map_cons, loop_cons (sg' := [some (worldW n es), some (wdW u), some (.ref m.length), some (wdW (ls ++ [i])), some (.lst (nW i :: r.map nW)), some (nW i), some (rtW n (wim n es w i)), some (nW k), o8, o9, o10]) rfl]
            have hix := get_rg (fun j => rtW n (if j < k then wim n es (i :: w) j else wim n es w j)) hkn
            rw [if_neg (Nat.lt_irrefl k)] at hix
            have hslope := s_law_slope (l+3) hd i k
            have hset : ((List.range n).map fun j => rtW n (if j < k then wim n es (i :: w) j else wim n es w j)).set k (rtW n (wim n es (i :: w) k)) = (List.range n).map fun j => rtW n (if j < k + 1 then wim n es (i :: w) j else wim n es w j) := by
              refine List.ext_getElem (by simp) fun j h1 h2 => ?_
              rw [List.getElem_set]
              simp only [List.getElem_map, List.getElem_range]
              by_cases hjk : k = j
              · subst hjk
                rw [if_pos rfl, if_pos (Nat.lt_succ_self k)]
              · rw [if_neg hjk]
                by_cases hlt : j < k
                · rw [if_pos hlt, if_pos (by omega)]
                · rw [if_neg hlt, if_neg (by omega)]
            have hsi : ∀ y, setIR m.length (k : Int) y (some (.lst ((List.range n).map fun j => rtW n (if j < k then wim n es (i :: w) j else wim n es w j)))) (.lst ((List.range n).map fun j => rtW n (if j < k then wim n es (i :: w) j else wim n es w j)) :: m)
                = some (.ok .non, .lst (((List.range n).map fun j => rtW n (if j < k then wim n es (i :: w) j else wim n es w j)).set k y) :: m) := fun y => by
              rw [setIR_n (by simp; exact hkn), hset_new]
            have hb : evSs T (evC T (l+4)) lnI [some (worldW n es), some (wdW u), some (.ref m.length), some (wdW (ls ++ [i])), some (.lst (nW i :: r.map nW)), some (nW i), some (rtW n (wim n es w i)), some (nW k), o8, o9, o10]
                  (.lst ((List.range n).map fun j => rtW n (if j < k then wim n es (i :: w) j else wim n es w j)) :: m)
                = some (.nx, [some (worldW n es), some (wdW u), some (.ref m.length), some (wdW (ls ++ [i])), some (.lst (nW i :: r.map nW)), some (nW i), some (rtW n (wim n es w i)), some (nW k), o8, some (gW (slE es i k)), o10],
                  .lst ((List.range n).map fun j => rtW n (if j < k + 1 then wim n es (i :: w) j else wim n es w j)) :: m) := by
              simp [lnI, lnB, b__law_normal, hslope, idx_world0, rngM_n (n := n) (by omega : n ≤ 16777216), wipeW, -List.map_map]
              rw [comp_all nW (List.range n) (fun j => gW (wim n es (i :: w) k j)) (fun j hj => by
                have hj' := List.mem_range.1 hj
                refine ⟨_, asg_v 10 _ _, rfl, ?_⟩
                have hng : ∀ x y : Int, W.tup [.int (-x), .int (-y)] = gW (- mkG x y) := fun _ _ => rfl
                have hng2 : gW (- mkG (slE es i k).1 (slE es i k).2) = gW (-(slE es i k)) := rfl
                have hsm : Sm (-(slE es i k)) := by
                  have := sl_sm es i k
                  unfold Sm at *
                  rw [Mx.neg_1, Mx.neg_2]
                  omega
                have ht : evC T (l+4) f__law_times [gW (-(slE es i k)), gW (wim n es w i j)] = ret (gW (-(slE es i k) * wim n es w i j)) := s_law_times (l+3) _ _ hsm
                have hp : evC T (l+4) f__law_plus [gW (wim n es w k j), gW (-(slE es i k) * wim n es w i j)] = ret (gW (wim n es w k j + -(slE es i k) * wim n es w i j)) := s_law_plus (l+3) _ _
                have he : wim n es w k j + -(slE es i k) * wim n es w i j = wim n es (i :: w) k j := by
                  rw [← wim_cons n es i k w hin hkn ok j]; grind
                rw [he] at hp
                simp [hix, idx_rt n _ hj', hng, hng2, ht, hp, -List.map_map])]
              simp [hsi, hset, -List.map_map]
            rw [hb, turnS_nx]
            exact hr
        obtain ⟨p7, p9, hin2⟩ := inner n 0 o7 o9 rfl (Nat.zero_le n)
        have e0 : ((List.range n).map fun j => rtW n (if j < 0 then wim n es (i :: w) j else wim n es w j)) = (List.range n).map fun j => rtW n (wim n es w j) := List.map_congr_left fun j hj => by rw [if_neg (Nat.not_lt_zero j)]
        rw [e0, rg0] at hin2
        simp only [lnI, lnB, b__law_normal, List.getD_cons_succ, List.getD_cons_zero] at hin2
        have hix := get_rg (fun j => rtW n (wim n es w j)) hin
        have hba : binW .add (wdW ls) (wdW [i]) = some (wdW (ls ++ [i])) := bin_wd (by simp; omega)
        refine ⟨_, _, Or.inl ?_, i :: w, ls ++ [i], some (nW i), some (rtW n (wim n es w i)), p7, o8, p9, o10, rfl, hwd.cons hi, by omega, ?_, by simp; omega, rfl⟩
        · simp [lnB, b__law_normal, wd1, hba, hix, idx_world0, rngM_n (n := n) (by omega : n ≤ 16777216), wipeW, -List.map_map]
          rw [hin2]
          simp [idx_world0, rngM_n (n := n) (by omega : n ≤ 16777216), wipeW, -List.map_map]
          rw [nl_low (l+1) hd (hwd.cons hi) (by rw [List.length_cons]; omega) (hget_new _ _) (by rfl) (by simp)]
          simp
        · rw [List.append_assoc]; exact hls)
    (Mx.ell (wo n es) u) (sg := [some (worldW n es), some (wdW u), some (.ref m.length), some (.tup []), some (.lst ((Mx.lds (wo n es) u).map nW)), none, none, none, none, none, none]) (m := .lst ((List.range n).map fun k => rtW n (wim n es u k)) :: m)
    ⟨u, [], none, none, none, none, none, none, rfl, hu, rfl, rfl, by simp, rfl⟩
  obtain ⟨w, ls, o5, o6, o7, o8, o9, o10, rfl, hwd, hk, hls, hlen, rfl⟩ := hp
  have h0 : Mx.nf (wo n es) w = [] := Mx.nf_nil ((Mx.lds_nil hwd).2 hk)
  rw [h0, List.append_nil] at hls
  subst hls
  simp only [lnB, b__law_normal, List.getD_cons_succ, List.getD_cons_zero] at hw
  rw [hw]
  simp
  exact endR_pre1 (rb_wd _ _)
end Lk
namespace Lk
open PySem hiding alloc ret
open PySem.Spec PyProof.Rows L2 WM
def lsB : List WM.S := match b__law_split.getD 2 .pass with
  | .while _ b => b
  | _ => []
def lsI : List WM.S := match lsB.getD 1 .pass with
  | .loop _ _ b => b
  | _ => []
noncomputable def lsStep (W : Mx.Wo) (s : List Nat × List Nat × Bool) (x : Nat) : List Nat × List Nat × Bool :=
  if s.2.2 = false ∧ (Mx.nf W (x :: s.1)).length < s.1.length then (Mx.nf W (x :: s.1), s.2.1 ++ [x], true) else s
theorem lsStep_true (W : Mx.Wo) (r a : List Nat) : ∀ J : List Nat, J.foldl (lsStep W) (r, a, true) = (r, a, true)
  | [] => rfl
  | x :: J => by
    rw [List.foldl_cons]
    have : lsStep W (r, a, true) x = (r, a, true) := if_neg fun z => by cases z.1
    rw [this, lsStep_true W r a J]
theorem lsStep_cases (W : Mx.Wo) (r a : List Nat) : ∀ J : List Nat, (J.foldl (lsStep W) (r, a, false) = (r, a, false) ∧ ∀ j ∈ J, ¬ (Mx.nf W (j :: r)).length < r.length) ∨
    ∃ j ∈ J, (Mx.nf W (j :: r)).length < r.length ∧ J.foldl (lsStep W) (r, a, false) = (Mx.nf W (j :: r), a ++ [j], true)
  | [] => .inl ⟨rfl, fun _ h => by cases h⟩
  | x :: J => by
    rw [List.foldl_cons]
    by_cases c : (Mx.nf W (x :: r)).length < r.length
    · have e : lsStep W (r, a, false) x = (Mx.nf W (x :: r), a ++ [x], true) := if_pos ⟨rfl, c⟩
      rw [e, lsStep_true]
      exact .inr ⟨x, List.mem_cons_self, c, rfl⟩
    · have e : lsStep W (r, a, false) x = (r, a, false) := if_neg fun z => c z.2
      rw [e]
      rcases lsStep_cases W r a J with ⟨h1, h2⟩ | ⟨j, h1, h2, h3⟩
      · refine .inl ⟨h1, fun j hj => ?_⟩
        rcases List.mem_cons.1 hj with rfl | q
        · exact c
        · exact h2 j q
      · exact .inr ⟨j, List.mem_cons_of_mem _ h1, h2, h3⟩
theorem ls_inner (l : Nat) {n : Nat} {es : List Ed} (hd : EsOk n es) {J u r a : List Nat} {g : Bool} (hJ : ∀ x ∈ J, x < n) (hr : Mx.Wd (wo n es) r) (hz : r.length + a.length ≤ 2000) (o6 o7 : Option W) (m : Hm) (w : W) (JJ : W) :
    ∃ p6 p7, loopGo (.v 6) (evSs T (evC T (l+5)) lsI) (J.map nW) [some (worldW n es), some JJ, some w, some (wdW r), some (wdW a), some (.bl g), o6, o7] m
      = some (.nx, [some (worldW n es), some JJ, some w, some (wdW (J.foldl (lsStep (wo n es)) (r, a, g)).1), some (wdW (J.foldl (lsStep (wo n es)) (r, a, g)).2.1), some (.bl (J.foldl (lsStep (wo n es)) (r, a, g)).2.2), p6, p7], m) := by
  obtain ⟨sg', m', h1, ⟨rfl, q6, q7, rfl, _, _⟩⟩ := loop_fold nW (lsStep (wo n es)) (fun s sg m' => m' = m ∧ ∃ p6 p7, sg = [some (worldW n es), some JJ, some w, some (wdW s.1), some (wdW s.2.1), some (.bl s.2.2), p6, p7] ∧ Mx.Wd (wo n es) s.1 ∧ s.1.length + s.2.1.length ≤ 2000)
    (tg := .v 6) (b := evSs T (evC T (l+5)) lsI) J (r, a, g) (sg := [some (worldW n es), some JJ, some w, some (wdW r), some (wdW a), some (.bl g), o6, o7]) (m := m) ⟨rfl, o6, o7, rfl, hr, hz⟩ (by
      rintro ⟨r, a, g⟩ x sg m' hx ⟨rfl, p6, p7, rfl, hr, hz⟩
      dsimp only at hr hz ⊢
      have hxn : x < n := hJ x hx
      have hxr : Mx.Wd (wo n es) (x :: r) := hr.cons hxn
      have ht := s_law_normal l hd hxr (by rw [List.length_cons]; omega)
      have b1 : binW .add (wdW [x]) (wdW r) = some (wdW ([x] ++ r)) := bin_wd (by simp; omega)
      have b2 : binW .add (wdW a) (wdW [x]) = some (wdW (a ++ [x])) := bin_wd (by simp; omega)
      have hnl := Mx.nf_len hxr
      have hel := Mx.ell_len (wo n es) (x :: r)
      have hnd := Mx.nf_wd hxr
      simp only [lsStep]
      rw [List.singleton_append] at b1
      generalize Mx.nf (wo n es) (x :: r) = t at *
      by_cases c : g = false ∧ t.length < r.length
      · obtain ⟨c1, c2⟩ := c
        subst c1
        refine ⟨_, [some (worldW n es), some JJ, some w, some (wdW t), some (wdW (a ++ [x])), some (.bl true), some (nW x), some (wdW t)], m', rfl, Or.inl ?_, rfl, some (nW x), some (wdW t), ?_, ?_, ?_⟩
        · generalize x :: r = xr at *
          simp [lsI, lsB, b__law_split, wd1, b1, b2, ht, c2]
        · rw [if_pos ⟨rfl, c2⟩]
        · rw [if_pos ⟨rfl, c2⟩]; exact hnd
        · rw [if_pos ⟨rfl, c2⟩]; simp; omega
      · refine ⟨_, [some (worldW n es), some JJ, some w, some (wdW r), some (wdW a), some (.bl g), some (nW x), some (wdW t)], m', rfl, Or.inl ?_, rfl, some (nW x), some (wdW t), ?_, ?_, ?_⟩
        · generalize x :: r = xr at *
          cases g with
          | true => simp [lsI, lsB, b__law_split, wd1, b1, b2, ht]
          | false =>
            have c2 : ¬ t.length < r.length := fun z => c ⟨rfl, z⟩
            simp [lsI, lsB, b__law_split, wd1, b1, b2, ht, c2]
        · rw [if_neg c]
        · rw [if_neg c]; exact hr
        · rw [if_neg c]; exact hz)
  exact ⟨q6, q7, h1⟩
theorem s_law_split (l : Nat) {n : Nat} {es : List Ed} (hd : EsOk n es) {J : List Nat} (hJ : SetOk n J) {u : List Nat} (hu : Mx.Wd (wo n es) u) (hz : u.length ≤ 200) (m : Hm) :
    ∃ a r, SpL (wo n es) J u a r ∧ Mx.nf (wo n es) r = r ∧ evC T (l+6) f__law_split [worldW n es, wdW J, wdW u] m = some (.ok (.tup [wdW (Mx.nf (wo n es) a), wdW r]), m) := by
  have ok := wo_ok hd
  have hel := Mx.ell_len (wo n es) u
  have hnl := Mx.nf_len hu
  have hJd : Mx.Wd (wo n es) J := hJ.lt
  obtain ⟨sg', m', hw, a, r, o6, o7, rfl, hrd, hrr, hrn, hof, hE, hlen, hmin, hsg⟩ := while_run2 (fun k sg m' => m' = m ∧ ∃ r a g o6 o7, sg = [some (worldW n es), some (wdW J), some (wdW u), some (wdW r), some (wdW a), some (.bl g), o6, o7] ∧ Mx.Wd (wo n es) r ∧ Mx.Red (wo n es) r ∧ Mx.nf (wo n es) r = r ∧ Mx.Of J a ∧
        Mx.Eqv (wo n es) u (a ++ r) ∧ Mx.ell (wo n es) u = a.length + r.length ∧ (g = false → Mx.MinL (wo n es) J r) ∧ k = r.length + (if g then 1 else 0))
    (fun sg m' => ∃ a r o6 o7, m' = m ∧ Mx.Wd (wo n es) r ∧ Mx.Red (wo n es) r ∧ Mx.nf (wo n es) r = r ∧ Mx.Of J a ∧ Mx.Eqv (wo n es) u (a ++ r) ∧ Mx.ell (wo n es) u = a.length + r.length ∧ Mx.MinL (wo n es) J r ∧
        sg = [some (worldW n es), some (wdW J), some (wdW u), some (wdW r), some (wdW a), some (.bl false), o6, o7])
    (c := evE T (evC T (l+5)) (.var 5)) (b := evSs T (evC T (l+5)) lsB) (by
      rintro k sg m' ⟨rfl, r, a, g, o6, o7, rfl, hr, hrr, hrn, hof, hE, hlen, hmin, hk⟩
      cases g with
      | false => exact .inl ⟨by simp, a, r, o6, o7, rfl, hr, hrr, hrn, hof, hE, hlen, hmin rfl, rfl⟩
      | true =>
        right
        refine ⟨by simp, ?_⟩
        obtain ⟨p6, p7, hin⟩ := ls_inner l hd (J := J) (u := u) (r := r) (a := a) (g := false) hJ.lt hr (by omega) o6 o7 m' (wdW u) (wdW J)
        have hrl : Mx.ell (wo n es) r = r.length := hrr
        rcases lsStep_cases (wo n es) r a J with ⟨h1, h2⟩ | ⟨j, h1, h2, h3⟩
        · rw [h1] at hin
          refine ⟨r.length, [some (worldW n es), some (wdW J), some (wdW u), some (wdW r), some (wdW a), some (.bl false), p6, p7], m', by rw [hk]; simp, Or.inl ?_, rfl, r, a, false, p6, p7, rfl, hr, hrr, hrn, hof, hE, hlen, fun _ j hj => ?_, by simp⟩
          · simp only [lsI, lsB, b__law_split, List.getD_cons_succ, List.getD_cons_zero] at hin
            simp [lsB, b__law_split]
            rw [hin]
            simp
          · have hjr : Mx.Wd (wo n es) (j :: r) := hr.cons (hJ.lt j hj)
            have g1 := h2 j hj
            have g2 := Mx.nf_len hjr
            rcases Mx.ell_cons r (hJd j hj) with e | e
            · exact e
            · omega
        · rw [h3] at hin
          have hjn : j < n := hJ.lt j h1
          have hjr : Mx.Wd (wo n es) (j :: r) := hr.cons hjn
          have g2 := Mx.nf_len hjr
          have hl2 : (Mx.nf (wo n es) (j :: r)).length + 1 = r.length := by
            rcases Mx.ell_cons r (hJd j h1) with e | e <;> omega
          refine ⟨(Mx.nf (wo n es) (j :: r)).length + 1, [some (worldW n es), some (wdW J), some (wdW u), some (wdW (Mx.nf (wo n es) (j :: r))), some (wdW (a ++ [j])), some (.bl true), p6, p7], m', by rw [hk]; simp; omega, Or.inl ?_, rfl, Mx.nf (wo n es) (j :: r), a ++ [j], true, p6, p7, rfl,
            Mx.nf_wd hjr, Mx.nf_red hjr, Mx.nf_nf hjr, ?_, ?_, ?_, fun z => (by cases z), by simp⟩
          · simp only [lsI, lsB, b__law_split, List.getD_cons_succ, List.getD_cons_zero] at hin
            generalize Mx.nf (wo n es) (j :: r) = t at *
            simp [lsB, b__law_split]
            rw [hin]
            simp
          · intro y hy
            rcases List.mem_append.1 hy with q | q
            · exact hof y q
            · rw [List.mem_singleton.1 q]; exact h1
          · have q1 := (Mx.Eqv.sq (W := wo n es) [] r hjn).sy.left a
            have q2 := hE.tr q1
            have q3 := (Mx.nf_eqv hjr).left (a ++ [j])
            refine Mx.Eqv.tr ?_ q3
            simpa [List.append_assoc] using q2
          · rw [List.length_append]; simp; omega) ((Mx.nf (wo n es) u).length + 1) (sg := [some (worldW n es), some (wdW J), some (wdW u), some (wdW (Mx.nf (wo n es) u)), some (wdW []), some (.bl true), none, none]) (m := m)
    ⟨rfl, Mx.nf (wo n es) u, [], true, none, none, rfl, Mx.nf_wd hu, Mx.nf_red hu, Mx.nf_nf hu, fun x hx => (by cases hx), by simpa using Mx.nf_eqv hu, by simp [hnl], fun z => (by cases z), by simp⟩
  subst hsg
  have had : Mx.Wd (wo n es) a := hof.wd hJd
  have hrl : Mx.ell (wo n es) r = r.length := hrr
  have hra : Mx.Red (wo n es) a := by
    have h2 := Mx.ell_app (wo n es) a r
    have h3 := Mx.ell_len (wo n es) a
    rw [← Mx.ell_eq hE] at h2
    unfold Mx.Red; omega
  refine ⟨a, r, ⟨hof, hrd, hE, by omega, hmin, hra⟩, hrn, ?_⟩
  have t1 := s_law_normal l hd hu (by omega)
  have t2 := s_law_normal l hd had (by omega)
  have hw0 : wdW [] = .tup [] := rfl
  rw [call_eq t__law_split rfl]
  simp only [lsB, b__law_split, List.getD_cons_succ, List.getD_cons_zero] at hw
  rw [hw0] at hw
  generalize Mx.nf (wo n es) u = nu at *
  generalize Mx.nf (wo n es) a = na at *
  simp [F__law_split, b__law_split, t1]
  rw [hw]
  simp [t2]
/-- both parts are one alone -/
theorem spl_one {W : Mx.Wo} (ok : W.Ok) {J u u' s a r a' r' : List Nat} (hJ : Mx.Wd W J) (hs : Mx.Of J s) (e : Mx.Eqv W u' (s ++ u)) (h : SpL W J u a r) (h' : SpL W J u' a' r') : Mx.nf W r' = Mx.nf W r ∧ (s = [] → Mx.nf W a' = Mx.nf W a) := by
  obtain ⟨x1, x2, x3, x4, x5, x6⟩ := h
  obtain ⟨y1, y2, y3, y4, y5, y6⟩ := h'
  have e1 : Mx.Eqv W (a' ++ r') ((s ++ a) ++ r) := by
    have g := (y3.sy.tr e).tr (x3.left s)
    simpa [List.append_assoc] using g
  obtain ⟨k1, k2⟩ := Mx.cos_one ok hJ y1 (hs.app x1) y2 x2 y5 x5 e1
  refine ⟨Mx.nf_congr y2 k1, fun hn => ?_⟩
  subst hn
  exact Mx.nf_congr (y1.wd hJ) k2
theorem spr_one {W : Mx.Wo} (ok : W.Ok) {J u u' s f t f' t' : List Nat} (hJ : Mx.Wd W J) (hs : Mx.Of J s) (e : Mx.Eqv W u' (u ++ s)) (h : SpR W J u f t) (h' : SpR W J u' f' t') : Mx.nf W f' = Mx.nf W f ∧ (s = [] → Mx.nf W t' = Mx.nf W t) := by
  obtain ⟨x1, x2, x3, x4, x5⟩ := h
  obtain ⟨y1, y2, y3, y4, y5⟩ := h'
  have e1 : Mx.Eqv W (f' ++ t') (f ++ (t ++ s)) := by
    have g := (y3.sy.tr e).tr (x3.right s)
    simpa [List.append_assoc] using g
  obtain ⟨k1, k2⟩ := Mx.cos_oneR ok hJ y1 (x1.app hs) y2 x2 y5 x5 e1
  refine ⟨Mx.nf_congr y2 k1, fun hn => ?_⟩
  subst hn
  rw [List.append_nil] at k2
  exact Mx.nf_congr (y1.wd hJ) k2
theorem s_law_split_behind (l : Nat) {n : Nat} {es : List Ed} (hd : EsOk n es) {J : List Nat} (hJ : SetOk n J) {u : List Nat} (hu : Mx.Wd (wo n es) u) (hz : u.length ≤ 200) (m : Hm) :
    ∃ f t, SpR (wo n es) J u f t ∧ evC T (l+7) f__law_split_behind [worldW n es, wdW u, wdW J] m = some (.ok (.tup [wdW (Mx.nf (wo n es) f), wdW (Mx.nf (wo n es) t)]), m) := by
  have hJd : Mx.Wd (wo n es) J := hJ.lt
  obtain ⟨a, r, ⟨h1, h2, h3, h4, h5, h6⟩, hr, hev⟩ := s_law_split l hd hJ hu.rev (by rw [List.length_reverse]; exact hz) m
  have had := h1.wd hJd
  have hel := Mx.ell_len (wo n es) u
  have her := Mx.ell_rev (W := wo n es) u
  have hnr := Mx.nf_len h2
  have hna := Mx.nf_len had
  have hra : Mx.ell (wo n es) a = a.length := h6
  have hE : Mx.Eqv (wo n es) u (r.reverse ++ a.reverse) := by
    have := h3.rev
    rw [List.reverse_reverse, List.reverse_append] at this
    exact this
  have e2 : Mx.nf (wo n es) (Mx.nf (wo n es) a).reverse = Mx.nf (wo n es) a.reverse := (Mx.nf_congr had.rev (Mx.nf_eqv had).rev).symm
  have n2 := s_law_normal (l+1) hd h2.rev (by rw [List.length_reverse]; have := congrArg List.length hr; omega)
  have n3 := s_law_normal (l+1) hd (Mx.nf_wd had).rev (by rw [List.length_reverse]; omega)
  rw [e2] at n3
  refine ⟨r.reverse, a.reverse, ⟨h1.rev, h2.rev, hE, by rw [Mx.ell_rev, Mx.ell_rev]; omega, h5.rev⟩, ?_⟩
  rw [call_eq t__law_split_behind rfl]
  generalize Mx.nf (wo n es) a = na at *
  simp [F__law_split_behind, b__law_split_behind, hev, n2, n3, -List.map_reverse]
end Lk
namespace Lk
open PySem hiding alloc ret
open PySem.Spec PyProof.Rows L2 WM
/-! own errors: raised, let out, caught -/
@[simp] theorem thenS_ex (x : Xc) (sg : Sg) (m : Hm) (k : Sg → MS) : thenS (some (.ex x, sg, m)) k = some (.ex x, sg, m) := Eq.trans rfl rfl
@[simp] theorem endR_ex (k : Bool) (m : Hm) (c : Nat) (sg : Sg) : endR k m (some (.ex ⟨c, []⟩, sg, m)) = some (.exc ⟨c, []⟩, m) := by
  simp only [endR, finx]
  rw [if_pos ⟨Nat.le_refl _, rfl, .inl (by simp)⟩]
  simp
theorem catchS_ex {c i : Nat} {sg : Sg} {m : Hm} (h : i < sg.length) : catchS c i (some (.ex ⟨c, []⟩, sg, m)) = some (.nx, sg.set i none, m) := by
  simp [catchS, h]
end Lk
namespace Lk
open PySem hiding alloc ret
open PySem.Spec PyProof.Rows L2 WM
/-- a whole number from 0 on, below n -/
def okB (n : Nat) : W → Bool
  | .int k => decide (0 ≤ k ∧ k < (n : Int))
  | _ => false
def plnW : W → Bool
  | .int _ => true | .bl _ => true | .non => true | .str _ => true | .tup _ => true | .lst _ => true
  | _ => false
theorem bls_map {α : Type} (f : α → Bool) : ∀ ws : List α, blsW (ws.map fun w => W.bl (f w)) = some (ws.map f)
  | [] => rfl
  | w :: ws => by rw [List.map_cons, blsW, bls_map f ws]; rfl
theorem chk_comp (l : Nat) {m : Hm} {d n : Nat} {es : List Ed} (h : IsDg m d n es) (X : W) (ws : List W) (hp : ws.all plnW = true) :
    compGo (.v 2) [some (.ref d), some X, none] (evE T (evC T (l+1)) (.lit (.bl true))) (evE T (evC T (l+1)) (.and (.call f_is_integer [.var 2]) (.cmp2 .le .lt (.lit (.int 0)) (.var 2) (.attr 17 1 (.var 0))))) ws m = some (.ok (ws.map fun w => W.bl (okB n w)), m) := by
  obtain ⟨⟨k, h1, h2⟩, _⟩ := h
  have := comp_all (fun w : W => w) ws (fun w => W.bl (okB n w)) (tg := .v 2) (sg := [some (.ref d), some X, none]) (tst := evE T (evC T (l+1)) (.lit (.bl true))) (elt := evE T (evC T (l+1)) (.and (.call f_is_integer [.var 2]) (.cmp2 .le .lt (.lit (.int 0)) (.var 2) (.attr 17 1 (.var 0))))) (m := m) (fun w hw => by
    refine ⟨_, asg_v 2 _ _, rfl, ?_⟩
    have hpw := List.all_eq_true.1 hp w hw
    cases w with
    | int k =>
      by_cases c1 : 0 ≤ k
      · by_cases c2 : k < (n : Int)
        · have hcmp : cmpW .lt (.int k) (nW n) = some (.bl true) := congrArg (fun b => some (W.bl b)) (decide_eq_true c2)
          simp [ii_int, h1, okB, c1, c2, hcmp]
        · have hcmp : cmpW .lt (.int k) (nW n) = some (.bl false) := congrArg (fun b => some (W.bl b)) (decide_eq_false c2)
          simp [ii_int, h1, okB, c1, c2, hcmp]
      · simp [ii_int, h1, okB, c1]
    | bl b => simp [ii_bl, okB]
    | non => simp [ii_non, okB]
    | str x => simp [ii_str, okB]
    | tup x => simp [ii_tup, okB]
    | lst x => simp [ii_lst, okB]
    | _ => cases hpw)
  rwa [List.map_id'] at this
/-- what is no set of mirrors -/
inductive BadSet (n : Nat) : W → Prop where
  | non : BadSet n .non
  | lst (ws : List W) : BadSet n (.lst ws)
  | tup (ws : List W) (hp : ws.all plnW = true) (h : ws.all (okB n) = false) : BadSet n (.tup ws)
  | uns (J K : List Nat) (hJ : ∀ x ∈ J, x < n) (h : sdcW (J.map nW) = some (.lst (K.map nW))) (hne : J ≠ K) : BadSet n (wdW J)
theorem s_look_bad (l : Nat) {m : Hm} {d n : Nat} {es : List Ed} (h : IsDg m d n es) {w : W} (hw : BadSet n w) : evC T (l+2) f_look_at_set [.ref d, w] m = some (.exc ⟨143, []⟩, m) := by
  rw [call_eq t_look_at_set rfl]
  cases hw with
  | non => simp [F_look_at_set, b_look_at_set, isiW]
  | lst ws => simp [F_look_at_set, b_look_at_set, isiW]
  | tup ws hp hf =>
    have hc := chk_comp l h (.tup ws) ws hp
    have hb := bls_map (okB n) ws
    have ha : ((ws.map (okB n)).all id) = false := by rw [List.all_map]; exact hf
    generalize ws.map (okB n) = bs at *
    generalize (ws.map fun w => W.bl (okB n w)) = cs at *
    simp [F_look_at_set, b_look_at_set, isiW, wipeW]
    rw [hc]
    simp [biM, hb, ha]
  | uns J K hJ hs hne =>
    have hp : (J.map nW).all plnW = true := List.all_eq_true.2 fun x hx => by
      obtain ⟨y, _, rfl⟩ := List.mem_map.1 hx
      rfl
    have hc := chk_comp l h (wdW J) (J.map nW) hp
    have hb := bls_map (okB n) (J.map nW)
    have ha : (((J.map nW).map (okB n)).all id) = true := by
      rw [List.all_map, List.all_map]
      exact List.all_eq_true.2 fun x hx => by
        have := hJ x hx
        exact decide_eq_true (show (0:Int) ≤ (x:Int) ∧ (x:Int) < (n:Int) from ⟨by omega, by omega⟩)
    have h2 : compGo (.v 2) [some (.ref d), some (wdW J), none] (evE T (evC T (l+1)) (.lit (.bl true))) (eltI (evE T (evC T (l+1)) (.var 2))) (J.map nW) m = some (.ok (J.map nW), m) :=
      compS_all nW J (fun x : Nat => (x : Int)) (tg := .v 2) (sg := [some (.ref d), some (wdW J), none]) (tst := evE T (evC T (l+1)) (.lit (.bl true))) (elt := evE T (evC T (l+1)) (.var 2)) (m := m) (fun x hx => ⟨[some (.ref d), some (wdW J), some (nW x)], rfl, rfl, by simp⟩)
    have hsq : seqM (wdW J) = ret (J.map nW) := rfl
    have hn : cmpW .ne (.tup (J.map nW)) (.tup (K.map nW)) = some (.bl true) := by
      have := cmp_ne_wd J K
      rw [decide_eq_false hne] at this
      exact this
    have hw : wdW J = .tup (J.map nW) := rfl
    rw [hw] at hc h2 ⊢
    generalize (J.map nW).map (okB n) = bs at *
    generalize ((J.map nW).map fun w => W.bl (okB n w)) = cs at *
    generalize J.map nW = JJ at *
    generalize K.map nW = KK at *
    simp [F_look_at_set, b_look_at_set, isiW, wipeW]
    rw [hc]
    simp [biM, hb, ha, wipeW]
    rw [h2]
    simp [hs, hn]
theorem s_split_left_bad (l : Nat) {m : Hm} {d n : Nat} {es : List Ed} (h : IsDg m d n es) {w : W} (hw : BadSet n w) (u : W) : evC T (l+3) f_split_left [.ref d, w, u] m = some (.exc ⟨143, []⟩, m) := by
  have hl := s_look_bad l h hw
  rw [call_eq t_split_left rfl]
  simp [F_split_left, b_split_left, hl]
theorem s_split_right_bad (l : Nat) {m : Hm} {d n : Nat} {es : List Ed} (h : IsDg m d n es) {w : W} (hw : BadSet n w) {u : List Nat} (hu : Mx.Wd (wo n es) u) (hz : u.length ≤ 400) : evC T (l+8) f_split_right [.ref d, wdW u, w] m = some (.exc ⟨143, []⟩, m) := by
  have hl := s_split_left_bad (l+4) h hw (wdW (Mx.nf (wo n es) u).reverse)
  have n1 := s_normal (l+1) h hu hz
  have i1 := s_inverse (l+6) (Mx.nf (wo n es) u)
  rw [call_eq t_split_right rfl]
  simp [F_split_right, b_split_right, n1, i1, hl]
end Lk
namespace Lk
open PySem hiding alloc ret
open PySem.Spec PyProof.Rows L2 WM
/-- letters, ascending, each once -/
def sD (xs : List Nat) : List Nat := (WM.sortI (dedI (xs.map fun x : Nat => (x : Int)))).map Int.toNat
theorem dedI_memb (is : List Int) (x : Int) : x ∈ dedI is ↔ x ∈ is := by
  have := dedI_mem is [] x
  unfold dedI
  rw [this]; simp
theorem sD_nW (xs : List Nat) : (sD xs).map nW = (WM.sortI (dedI (xs.map fun x : Nat => (x : Int)))).map W.int := by
  unfold sD
  rw [List.map_map]
  refine List.map_congr_left fun i hi => ?_
  have h1 := (WM.sortI_perm _).mem_iff.1 hi
  rw [dedI_memb] at h1
  obtain ⟨y, hy, rfl⟩ := List.mem_map.1 h1
  rfl
theorem sD_mem {xs : List Nat} {x : Nat} : x ∈ sD xs ↔ x ∈ xs := by
  unfold sD
  rw [List.mem_map]
  constructor
  · rintro ⟨i, hi, rfl⟩
    have h1 := (WM.sortI_perm _).mem_iff.1 hi
    rw [dedI_memb] at h1
    obtain ⟨y, hy, rfl⟩ := List.mem_map.1 h1
    exact hy
  · intro h
    exact ⟨(x : Int), (WM.sortI_perm _).mem_iff.2 ((dedI_memb _ _).2 (List.mem_map.2 ⟨x, h, rfl⟩)), by simp⟩
theorem sD_len (xs : List Nat) : (sD xs).length ≤ xs.length := by
  unfold sD
  have := dedI_len (xs.map fun x : Nat => (x : Int))
  rw [List.length_map, (WM.sortI_perm _).length_eq]
  rwa [List.length_map] at this
theorem sdc_nat {xs : List Nat} (h : xs.length < 64) : sdcW (xs.map nW) = some (.lst ((sD xs).map nW)) := by
  have := dedI_len (xs.map fun x : Nat => (x : Int))
  rw [List.length_map] at this
  unfold sdcW
  rw [intsW_nat]
  dsimp only
  rw [if_pos (by omega), sD_nW]
theorem sset_nat {xs : List Nat} (h : xs.length < 64) : ssetW (wdW xs) = some (.lst ((sD xs).map nW)) := by
  unfold ssetW wdW
  dsimp only
  rw [intsW_nat]
  dsimp only
  rw [if_pos (by rw [List.length_map]; exact h), sD_nW]
theorem s_letters_of (l : Nat) {m : Hm} {d n : Nat} {es : List Ed} (h : IsDg m d n es) {u : List Nat} (hu : Mx.Wd (wo n es) u) (hz : u.length ≤ 60) :
    evC T (l+7) f_letters_of [.ref d, wdW u] m = some (.ok (wdW (sD (Mx.nf (wo n es) u))), m) := by
  rw [call_eq t_letters_of rfl]
  have hn := s_normal l h hu (by omega)
  have hnl := Mx.nf_len hu
  have hel := Mx.ell_len (wo n es) u
  simp [F_letters_of, b_letters_of, hn, wipeW]
  generalize Mx.nf (wo n es) u = r at *
  have hc := compS_all nW r (fun x : Nat => (x : Int)) (tg := .v 2) (sg := [some (.ref d), some (wdW u), none]) (tst := evE T (evC T (l+6)) (.lit (.bl true))) (elt := evE T (evC T (l+6)) (.var 2)) (m := m) (fun x hx => ⟨[some (.ref d), some (wdW u), some (nW x)], rfl, rfl, by simp⟩)
  have hc2 : compGo (.v 2) [some (.ref d), some (wdW u), none] (evE T (evC T (l+6)) (.lit (.bl true))) (eltI (evE T (evC T (l+6)) (.var 2))) (r.map nW) m = some (.ok (r.map nW), m) := hc
  rw [hc2]
  simp [sdc_nat (show r.length < 64 by omega), biM]
end Lk
namespace Lk
open PySem hiding alloc ret
open PySem.Spec PyProof.Rows L2 WM
/-- a drawn set -/
theorem set_comp {ns : List Int} (hn : ns.length ≤ 63) {pre : Hm} (l : Nat) {n : Nat} : ∀ (js : List Nat) (m : Hm), Dm ns pre m →
    ∃ (K : List Nat) (m' : Hm), compGo (.v 2) [some (.ref 0), some (nW n), none] (evE T (evC T (l+1)) (.cmp .eq (.call f__law_draw [.var 0, .lit (.int 2)]) (.lit (.int 0)))) (evE T (evC T (l+1)) (.var 2)) (js.map nW) m = some (.ok (K.map nW), m') ∧ Dm ns pre m' ∧ List.Sublist K js
  | [], m, h => ⟨[], m, rfl, h, List.Sublist.refl _⟩
  | j :: js, m, h => by
    obtain ⟨q, m1, h1, h2, _⟩ := s_draw l 2 hn h (by omega) (by omega)
    have h1' : evC T (l+1) f__law_draw [.ref 0, .int 2] m = some (.ok (nW q), m1) := h1
    obtain ⟨K, m2, h3, h4, h5⟩ := set_comp hn l (n := n) js m1 h2
    by_cases c : q = 0
    · refine ⟨j :: K, m2, ?_, h4, h5.cons_cons j⟩
      rw [List.map_cons, compGo]
      simp [h1', c, h3]
    · refine ⟨K, m2, ?_, h4, h5.cons j⟩
      rw [List.map_cons, compGo]
      simp [h1', c, h3]
theorem s_law_set (l : Nat) {ns : List Int} {pre m : Hm} (hn : ns.length ≤ 63) (h : Dm ns pre m) {n : Nat} (h9 : n ≤ 9) :
    ∃ K m', evC T (l+2) f__law_set [.ref 0, nW n] m = some (.ok (wdW K), m') ∧ Dm ns pre m' ∧ SetOk n K := by
  obtain ⟨K, m', h1, h2, h3⟩ := set_comp hn l (n := n) (List.range n) m h
  refine ⟨K, m', ?_, h2, ⟨fun x hx => List.mem_range.1 (h3.subset hx), List.pairwise_lt_range.sublist h3⟩⟩
  rw [call_eq t__law_set rfl]
  simp [F__law_set, b__law_set, rngM_n (n := n) (by omega : n ≤ 16777216), wipeW]
  rw [h1]
  simp
  exact endR_len (by rw [h2.len, h.len])
end Lk
namespace Lk
open PySem hiding alloc ret
open PySem.Spec PyProof.Rows L2 WM
/-- draws in a comprehension -/
theorem comp_dm {α : Type} (f : α → W) (P : α → Prop) {ns : List Int} {pre : Hm} {tg : Tg} {sg : Sg} {elt : E} {C : Calls} (hel : ∀ (k : Nat) (m : Hm), Dm ns pre m → ∃ sg' a m', asgT tg (nW k) sg = some sg' ∧ evE T C elt sg' m = some (.ok (f a), m') ∧ Dm ns pre m' ∧ P a) : ∀ (js : List Nat) (m : Hm), Dm ns pre m →
    ∃ (as : List α) (m' : Hm), compGo tg sg (evE T C (.lit (.bl true))) (evE T C elt) (js.map nW) m = some (.ok (as.map f), m') ∧ Dm ns pre m' ∧ as.length = js.length ∧ ∀ a ∈ as, P a
  | [], m, h => ⟨[], m, rfl, h, rfl, by simp⟩
  | j :: js, m, h => by
    obtain ⟨sg', a, m1, h1, h2, h3, h4⟩ := hel j m h
    obtain ⟨as, m2, h5, h6, h7, h8⟩ := comp_dm f P hel js m1 h3
    refine ⟨a :: as, m2, ?_, h6, by rw [List.length_cons, h7, List.length_cons], ?_⟩
    · rw [List.map_cons, compGo]
      simp [h1, h2, h5]
    · intro b hb
      rcases List.mem_cons.1 hb with e | e
      · rw [e]; exact h4
      · exact h8 b e
end Lk
namespace Lk
open PySem hiding alloc ret
open PySem.Spec PyProof.Rows L2 WM
def edsO (n a b : Nat) (es : List Ed) : Prop := (∀ e ∈ es, edOk n e ∧ (e.1 < a ∨ (e.1 = a ∧ e.2.1 < b))) ∧ (es.map prE).Nodup ∧ es.length ≤ 10 * a + b
theorem eds_more {n a b c : Nat} {es : List Ed} (h : edsO n a b es) (hab : a < b) (hb : b < n) (hc : lbOk c) : edsO n a (b + 1) (es ++ [(a, b, c)]) := by
  obtain ⟨h1, h2, h3⟩ := h
  refine ⟨fun e he => ?_, ?_, by simp; omega⟩
  · rcases List.mem_append.1 he with h | h
    · have := h1 e h
      exact ⟨this.1, by omega⟩
    · rw [List.mem_singleton.1 h]
      exact ⟨⟨hab, hb, hc⟩, Or.inr ⟨rfl, Nat.lt_succ_self b⟩⟩
  · rw [List.map_append, List.nodup_append]
    refine ⟨h2, by simp, ?_⟩
    intro x hx y hy hxy
    obtain ⟨e, he, rfl⟩ := List.mem_map.1 hx
    simp only [List.map_cons, List.map_nil, List.mem_singleton] at hy
    subst hy
    have := h1 e he
    have e1 : e.1 = a := congrArg Prod.fst hxy
    have e2 : e.2.1 = b := congrArg Prod.snd hxy
    omega
theorem eds_mono {n a b a' b' : Nat} {es : List Ed} (h : edsO n a b es) (hh : (a = a' ∧ b ≤ b') ∨ (a < a' ∧ b ≤ 10)) : edsO n a' b' es := by
  obtain ⟨h1, h2, h3⟩ := h
  exact ⟨fun e he => ⟨(h1 e he).1, by have := (h1 e he).2; omega⟩, h2, by omega⟩
def lbPool : List Nat := [2, 2, 3, 3, 4, 5, 6, 0]
/-- the heap while edges are drawn: a list on top -/
theorem s_world (l : Nat) {ns : List Int} {pre m : Hm} (hn : ns.length ≤ 63) (h : Dm ns pre m) :
    ∃ w m', evC T (l+3) f__law_world [.ref 0] m = some (.ok w, m') ∧ Dm ns pre m' ∧ IsWo w 4 := by
  obtain ⟨v, m1, hd1, hm1, hv⟩ := s_draw (l+1) 3 hn h (by omega) (by omega)
  have hd1' : evC T (l+2) f__law_draw [.ref 0, .int 3] m = some (.ok (nW v), m1) := hd1
  rcases (show v = 0 ∨ v = 1 ∨ v = 2 by omega) with rfl | rfl | rfl
  · obtain ⟨w, m2, hf, hm2, hw⟩ := s_fin l 15 hn hm1 (by omega) (by omega)
    have hf' : evC T (l+2) f__law_finite_world [.ref 0, .int 15] m1 = some (.ok w, m2) := hf
    refine ⟨w, m2, ?_, hm2, hw⟩
    rw [call_eq t__law_world rfl]
    simp [F__law_world, b__law_world, hd1', hf']
    exact endR_len (by rw [hm2.len, h.len])
  · obtain ⟨v, m2, hd2, hm2, hv2⟩ := s_draw (l+1) 8 hn hm1 (by omega) (by omega)
    have hd2' : evC T (l+2) f__law_draw [.ref 0, .int 8] m1 = some (.ok (nW v), m2) := hd2
    have hv' : v < anyPool.length := hv2
    refine ⟨_, m2, ?_, hm2, pool_wo (p := anyPool) (by decide) hv'⟩
    have hi := pool_idx anyPool v hv'
    rw [call_eq t__law_world rfl]
    simp [F__law_world, b__law_world, hd1', hd2']
    change endR false m (thenS (thenS (lftR (opt (idxW (anyPool.map fun w => worldW w.1 w.2) (nW v)) m2) _ _) _) _) = _
    rw [hi]
    simp
    exact endR_len (by rw [hm2.len, h.len])
  · obtain ⟨v, m2, hd2, hm2, hv2⟩ := s_draw (l+1) 4 hn hm1 (by omega) (by omega)
    have hd2' : evC T (l+2) f__law_draw [.ref 0, .int 4] m1 = some (.ok (nW v), m2) := hd2
    rw [call_eq t__law_world rfl]
    simp [F__law_world, b__law_world, hd1', hd2']
    rw [rngM_n (by omega), ret_ap, lftR_ok, ← rg0]
    obtain ⟨sg', m', hl, hp⟩ := loop_rg (fun i sg m' => ∃ es m'' o4 o6 o7, m' = .lst (es.map edW) :: m'' ∧ Dm ns pre m'' ∧ edsO (1 + v) i 0 es ∧ sg = [some (.ref 0), some (nW 2), some (nW (1 + v)), some (.ref m2.length), o4, none, o6, o7])
      (tg := .v 4) (bd := evSs T (evC T (l+2)) [.loop (.v 6) (.srng2 (.bin .add (.var 4) (.lit (.int 1))) (.var 2)) [.set (.v 7) (.idx (.lst [.lit (.int 2), .lit (.int 2), .lit (.int 3), .lit (.int 3), .lit (.int 4), .lit (.int 5), .lit (.int 6), .lit (.int 0)]) (.call f__law_draw [.var 0, .lit (.int 8)])), .ife (.cmp .ne (.var 7) (.lit (.int 2))) [.app (.var 3) (.tup [.var 4, .var 6, .var 7])] []]])
      (1 + v) _ 0 rfl (by omega) ⟨[], m2, none, none, none, rfl, hm2, ⟨by simp, by simp, by simp⟩, rfl⟩ (by
        rintro i sg m' _ hi ⟨es, m'', o4, o6, o7, rfl, hm, he, rfl⟩
        obtain ⟨sg2, m3, hl2, hp2⟩ := loop_rg (fun j sg m' => ∃ es m'' o6 o7, m' = .lst (es.map edW) :: m'' ∧ Dm ns pre m'' ∧ edsO (1 + v) i j es ∧ sg = [some (.ref 0), some (nW 2), some (nW (1 + v)), some (.ref m2.length), some (nW i), none, o6, o7])
          (tg := .v 6) (bd := evSs T (evC T (l+2)) [.set (.v 7) (.idx (.lst [.lit (.int 2), .lit (.int 2), .lit (.int 3), .lit (.int 3), .lit (.int 4), .lit (.int 5), .lit (.int 6), .lit (.int 0)]) (.call f__law_draw [.var 0, .lit (.int 8)])), .ife (.cmp .ne (.var 7) (.lit (.int 2))) [.app (.var 3) (.tup [.var 4, .var 6, .var 7])] []])
          (1 + v) _ (i + 1) rfl (by omega) (sg := [some (.ref 0), some (nW 2), some (nW (1 + v)), some (.ref m2.length), some (nW i), none, o6, o7]) (m := .lst (es.map edW) :: m'') ⟨es, m'', o6, o7, rfl, hm, eds_mono he (Or.inl ⟨rfl, by omega⟩), rfl⟩ (by
            rintro j sg m' hij hj ⟨es, m'', o6, o7, rfl, hm, he, rfl⟩
            have hmu : Dm ns (.lst (es.map edW) :: pre) (.lst (es.map edW) :: m'') := hm.up (rbs_map (f := edW) (fun e => rfl) es)
            obtain ⟨q, m4, hd, hm4, hq⟩ := s_draw (l+1) 8 hn hmu (by omega) (by omega)
            obtain ⟨m5, rfl, hm5⟩ : ∃ m5, m4 = .lst (es.map edW) :: m5 ∧ Dm ns pre m5 := by
              obtain ⟨⟨p, s, q, h0, rfl⟩, _⟩ := hm4
              exact ⟨_, rfl, ⟨p, s, q, h0, rfl⟩, hm.rb⟩
            have hd' : evC T (l+2) f__law_draw [.ref 0, .int 8] (.lst (es.map edW) :: m'') = some (.ok (nW q), .lst (es.map edW) :: m5) := hd
            have hq' : q < lbPool.length := hq
            have hix : idxW [.int 2, .int 2, .int 3, .int 3, .int 4, .int 5, .int 6, .int 0] (nW q) = some (nW lbPool[q]) := get_map nW lbPool hq'
            have hlen : m5.length = m2.length := by rw [hm5.len, hm2.len]
            have hg : hget (.lst (es.map edW) :: m5) m2.length = some (.lst (es.map edW)) := by rw [← hlen]; simp
            have hs : ∀ o, hset (.lst (es.map edW) :: m5) m2.length o = o :: m5 := fun o => by rw [← hlen]; simp
            have hlb : lbPool[q] = 2 ∨ lbOk lbPool[q] := by
              have : ∀ x ∈ lbPool, x = 2 ∨ lbOk x := by unfold lbPool lbOk; decide
              exact this _ (List.getElem_mem hq')
            generalize lbPool[q] = lb at hix hlb
            by_cases h2 : lb = 2
            · refine ⟨_, [some (.ref 0), some (nW 2), some (nW (1 + v)), some (.ref m2.length), some (nW i), none, some (nW j), some (nW lb)], .lst (es.map edW) :: m5, rfl, Or.inl ?_, es, m5, _, _, rfl, hm5, eds_mono he (Or.inl ⟨rfl, by omega⟩), rfl⟩
              simp [hd', hix, h2]
            · have hlb' : lbOk lb := by rcases hlb with h | h; exact absurd h h2; exact h
              have ha : ∀ y, appR m2.length y (some (.lst (es.map edW))) (.lst (es.map edW) :: m5) = some (.ok .non, .lst (es.map edW ++ [y]) :: m5) := fun y => by
                rw [appR_lst (szOk_small (by have := he.2.2; simp; omega)), hs]
              refine ⟨_, [some (.ref 0), some (nW 2), some (nW (1 + v)), some (.ref m2.length), some (nW i), none, some (nW j), some (nW lb)], .lst ((es ++ [(i, j, lb)]).map edW) :: m5, rfl, Or.inl ?_, es ++ [(i, j, lb)], m5, _, _, rfl, hm5, eds_more he (by omega) hj hlb', rfl⟩
              simp [hd', hix, h2, hg, ha]
              rfl)
        obtain ⟨es2, m6, o6', o7', rfl, hm6, he2, rfl⟩ := hp2
        refine ⟨_, _, _, rfl, Or.inl ?_, es2, m6, some (nW i), o6', o7', rfl, hm6, eds_mono he2 (Or.inr ⟨by omega, by omega⟩), rfl⟩
        simp [rngM_nn (a := i + 1) (b := 1 + v) (by omega) (by omega)]
        rw [hl2]
        simp)
    obtain ⟨es, m3, o4, o6, o7, rfl, hm3, he, rfl⟩ := hp
    refine ⟨worldW (1 + v) es, m3, ?_, hm3, 1 + v, es, rfl, ⟨fun e h => (he.1 e h).1, he.2.1, by omega⟩, by omega, by omega, by have := he.2.2; omega⟩
    rw [List.map_nil] at hl
    rw [hl]
    have hlen : m3.length = m2.length := by rw [hm3.len, hm2.len]
    have hg : hget (.lst (es.map edW) :: m3) m2.length = some (.lst (es.map edW)) := by rw [← hlen]; simp
    have hw : W.rb m.length (worldW (1 + v) es) = true := by
      have := rbs_map (k := m.length) (f := edW) (fun e => rfl) es
      simp [worldW, W.rb, W.rbs, this]
    have hlm : m3.length = m.length := by rw [hm3.len, h.len]
    have hall : m3.all (HOb.rb m.length) = true := by rw [← hlm]; exact hm3.all
    simp [biM, hg]
    exact endR_top (pre := [.lst (es.map edW)]) hlm hall hw
end Lk
namespace Lk
open PySem hiding alloc ret
open PySem.Spec PyProof.Rows L2 WM
theorem s_is_edge (l : Nat) (n : Nat) (e : Ed) (h : edOk n e) : evC T (l+2) f_is_edge [edW e, nW n] = ret (.bl true) := by
  obtain ⟨h1, h2, h4⟩ := h
  refine pure_of t_is_edge rfl fun m => ?_
  have hin : inW true (nW e.2.2) [.int 0, .int 3, .int 4, .int 5, .int 6] = some true := by
    rcases h4 with h | h | h | h | h <;> rw [h] <;> decide
  have e1 : biM .all [.lst [.bl true, .bl true, .bl true]] = ret (.bl true) := by simp [biM, blsW]
  have i1 : isiW "tuple" (edW e) = some true := by simp [isiW, edW]
  have i2 : biM .len [edW e] = ret (.int 3) := by simp [edW]
  have i3 : seqI (edW e) = ret [nW e.1, nW e.2.1, nW e.2.2] := by simp [edW]
  simp [F_is_edge, b_is_edge, i1, i2, i3, wipeW, compGo, ii_nW, e1, g_LABELS, hin, h1, h2]
theorem gv_none : ∀ {es : List Ed} {e : Ed}, prE e ∉ es.map prE → gvW (es.map kvE) [.inl (e.1 : Int), .inl (e.2.1 : Int)] = none
  | [], _, _ => rfl
  | d :: es, e, h => by
    rw [List.map_cons, List.mem_cons, not_or] at h
    rw [List.map_cons]
    show (if _ = _ then _ else _) = _
    rw [if_neg, gv_none h.2]
    intro z
    refine h.1 ?_
    have : (d.1 : Int) = e.1 ∧ (d.2.1 : Int) = e.2.1 := by simpa [kvE] using z
    unfold prE
    rw [show d.1 = e.1 by omega, show d.2.1 = e.2.1 by omega]
theorem put_new {es : List Ed} {e : Ed} (h : prE e ∉ es.map prE) : putW (es.map kvE) [.inl (e.1 : Int), .inl (e.2.1 : Int)] (nW e.2.2) = (es ++ [e]).map kvE := by
  unfold putW
  rw [if_neg, List.map_append]
  · rfl
  · rw [List.any_map]
    intro z
    rw [List.any_eq_true] at z
    obtain ⟨d, hd, hz⟩ := z
    have : (d.1 : Int) = e.1 ∧ (d.2.1 : Int) = e.2.1 := by simpa [kvE] using hz
    refine h (List.mem_map.mpr ⟨d, hd, ?_⟩)
    unfold prE
    rw [show d.1 = e.1 by omega, show d.2.1 = e.2.1 by omega]
def hpD (m0 : Hm) (es : List Ed) : Hm := .dT (es.map kvE) :: .ins 17 [.ref (m0.length + 1)] :: m0
/-- the heap behind Diagram(size, edges) -/
def hpE (m0 : Hm) (n : Nat) (es : List Ed) : Hm := .dT (es.map kvE) :: .ins 17 [.ref (m0.length + 1), nW n] :: m0
theorem hpE_dg (m0 : Hm) {n : Nat} {es : List Ed} (h : EsOk n es) : IsDg (hpE m0 n es) m0.length n es :=
  ⟨⟨m0.length + 1, by simp [hpE], by simp [hpE]⟩, h⟩
theorem ini_turn (l : Nat) (m0 : Hm) (n : Nat) (o2 : Option W) (es : List Ed) (e : Ed) (he : edOk n e) (hn : prE e ∉ es.map prE) (hz : es.length < 1000) {b : List WM.S}
    (hb : b = [.ife (.or (.not (.call f_is_edge [.var 3, .var 1])) (.din true false (.cut (.var 3) .nop (.lit (.int 2))) (.attr 17 0 (.var 0)))) [.dead] [], .dput true (.attr 17 0 (.var 0)) (.cut (.var 3) .nop (.lit (.int 2))) (.idx (.var 3) (.lit (.int 2)))]) :
    evSs T (evC T (l+2)) b [some (.ref m0.length), some (nW n), o2, some (edW e)] (hpD m0 es) = some (.nx, [some (.ref m0.length), some (nW n), o2, some (edW e)], hpD m0 (es ++ [e])) := by
  subst hb
  have hg := gv_none hn
  have hi : hget (hpD m0 es) m0.length = some (.ins 17 [.ref (m0.length + 1)]) := by simp [hpD]
  have hd : hget (hpD m0 es) (m0.length + 1) = some (.dT (es.map kvE)) := by simp [hpD]
  have hk := key_wd2 e.1 e.2.1
  have hp : dputM true (.ref (m0.length + 1)) (wdW [e.1, e.2.1]) (nW e.2.2) (hpD m0 es) = some (.ok .non, hpD m0 (es ++ [e])) := by
    have hs : szOk ((es.map kvE).length + 1) = true := szOk_small (by rw [List.length_map]; omega)
    simp only [dputM, hd, if_true, hk, hs, put_new hn]
    simp [hpD]
  simp [s_is_edge l n e he, hi, hd, dgetR_T hk, hg, hp]
theorem s_init (l : Nat) (m0 : Hm) (n : Nat) (es : List Ed) (h : EsOk n es) (hz : es.length ≤ 1000) :
    evC T (l+3) f_Diagram___init__ [.ref m0.length, nW n, .tup (es.map edW)] (.ins 17 [] :: m0) = some (.ok .non, hpE m0 n es) := by
  rw [call_eq t_Diagram___init__ rfl]
  have h9 := h.sz
  have hii : evC T (l+2) f_is_integer [nW n] = ret (.bl true) := ii_nW (l+1) n
  have hs0 : setAM 17 0 (.ref m0.length) (.ref (m0.length + 1)) (.dT [] :: .ins 17 [] :: m0) = some (.ok .non, hpD m0 []) := by
    simp [setAM, putA, hpD]
  have hs1 : setAM 17 1 (.ref m0.length) (nW n) (hpD m0 es) = some (.ok .non, hpE m0 n es) := by
    simp [setAM, hpD, putA, hpE]
  simp [F_Diagram___init__, b_Diagram___init__, hii, g_MOST_MIRRORS, isiW, hs0, h9]
  have key : ∀ (rest s : List Ed) (o3 : Option W), s ++ rest = es → ∃ o3', loopGo (.v 3) (evSs T (evC T (l+2)) [.ife (.or (.not (.call f_is_edge [.var 3, .var 1])) (.din true false (.cut (.var 3) .nop (.lit (.int 2))) (.attr 17 0 (.var 0)))) [.dead] [], .dput true (.attr 17 0 (.var 0)) (.cut (.var 3) .nop (.lit (.int 2))) (.idx (.var 3) (.lit (.int 2)))]) (rest.map edW) [some (.ref m0.length), some (nW n), some (.tup (es.map edW)), o3] (hpD m0 s) = some (.nx, [some (.ref m0.length), some (nW n), some (.tup (es.map edW)), o3'], hpD m0 es) := by
    intro rest
    induction rest with
    | nil => intro s o3 hs; rw [List.append_nil] at hs; exact ⟨o3, by rw [hs]; rfl⟩
    | cons e rest ih =>
      intro s o3 hs
      have hmem : e ∈ es := by rw [← hs]; simp
      have hnd := h.nd
      rw [← hs, List.map_append, List.nodup_append] at hnd
      have hne : prE e ∉ s.map prE := fun z => hnd.2.2 _ z _ (List.mem_map_of_mem List.mem_cons_self) rfl
      have hlen := congrArg List.length hs
      rw [List.length_append, List.length_cons] at hlen
      have ht := ini_turn l m0 n (some (.tup (es.map edW))) s e (h.ok e hmem) hne (by omega) rfl
      obtain ⟨o3', hr⟩ := ih (s ++ [e]) (some (edW e)) (by rw [List.append_assoc]; exact hs)
      refine ⟨o3', ?_⟩
      rw [List.map_cons, loop_cons (sg' := [some (.ref m0.length), some (nW n), some (.tup (es.map edW)), some (edW e)]) rfl, ht, turnS_nx, hr]
  obtain ⟨o3', hl⟩ := key es [] none rfl
  rw [hl]
  simp [hs1, endR, fin]
end Lk
namespace Lk
open PySem hiding alloc ret
open PySem.Spec PyProof.Rows L2 WM
/-! ## alike: a value is alike itself -/
def sdv : Nat → W → Prop
  | _, .non => True
  | _, .bl _ => True
  | _, .int _ => True
  | _, .str x => PyData.strOk x = true
  | n + 1, .tup xs => szOk xs.length = true ∧ ∀ x ∈ xs, sdv n x
  | n + 1, .lst xs => szOk xs.length = true ∧ ∀ x ∈ xs, sdv n x
  | _, _ => False
theorem s_same : ∀ (n l : Nat) (w : W), sdv n w → n < l → evC T l f__law_same [w, w] = ret (.bl true) := by
  intro n
  induction n with
  | zero =>
    intro l w h hl
    obtain ⟨l, rfl⟩ : ∃ k, l = k + 1 := ⟨l - 1, by omega⟩
    refine pure_of t__law_same rfl fun m => ?_
    cases w with
    | non => simp [F__law_same, b__law_same, isiW]
    | bl b => simp [F__law_same, b__law_same, isiW, cmp_eq_bb]
    | int i => simp [F__law_same, b__law_same, isiW, cmp_eq_bb]
    | str x => simp [sdv] at h; simp [F__law_same, b__law_same, isiW, cmp_ss h h]
    | _ => simp [sdv] at h
  | succ n ih =>
    intro l w h hl
    obtain ⟨l, rfl⟩ : ∃ k, l = k + 1 := ⟨l - 1, by omega⟩
    refine pure_of t__law_same rfl fun m => ?_
    cases w with
    | non => simp [F__law_same, b__law_same, isiW]
    | bl b => simp [F__law_same, b__law_same, isiW, cmp_eq_bb]
    | int i => simp [F__law_same, b__law_same, isiW, cmp_eq_bb]
    | str x => simp [sdv] at h; simp [F__law_same, b__law_same, isiW, cmp_ss h h]
    | tup xs =>
      simp only [sdv] at h
      simp [F__law_same, b__law_same, isiW, rngM_n (of_decide_eq_true h.1 : xs.length ≤ 16777216), wipeW]
      rw [comp_map nW (List.range xs.length) (fun _ => false) nW (fun k hk => by
        have hk' : k < xs.length := List.mem_range.1 hk
        refine ⟨_, rfl, ?_, fun h => nomatch h⟩
        simp [idx_k hk', ih l (xs[k]) (h.2 _ (List.getElem_mem hk')) (by omega)])]
      simp
    | lst xs =>
      simp only [sdv] at h
      simp [F__law_same, b__law_same, isiW, rngM_n (of_decide_eq_true h.1 : xs.length ≤ 16777216), wipeW]
      rw [comp_map nW (List.range xs.length) (fun _ => false) nW (fun k hk => by
        have hk' : k < xs.length := List.mem_range.1 hk
        refine ⟨_, rfl, ?_, fun h => nomatch h⟩
        simp [idx_k hk', ih l (xs[k]) (h.2 _ (List.getElem_mem hk')) (by omega)])]
      simp
    | _ => simp [sdv] at h
end Lk
namespace Lk
open PySem hiding alloc ret
open PySem.Spec PyProof.Rows L2 WM
/-- a world is drawn, and its diagram is made -/
theorem s_start (l : Nat) {ns : List Int} {pre m : Hm} (hn : ns.length ≤ 63) (dm : Dm ns pre m) : ∃ n es m1 pre', evC T (l+3) f__law_world [.ref 0] m = some (.ok (worldW n es), m1) ∧
    evC T (l+3) f_Diagram___init__ [.ref m1.length, nW n, .tup (es.map edW)] (.ins 17 [] :: m1) = some (.ok .non, hpE m1 n es) ∧ Dm ns pre' (hpE m1 n es) ∧ IsDg (hpE m1 n es) m1.length n es ∧ 1 ≤ n ∧ n ≤ 4 := by
  obtain ⟨w, m1, hw, hm1, n, es, rfl, hok, hn1, hn4, hez⟩ := s_world l hn dm
  refine ⟨n, es, m1, .dT (es.map kvE) :: .ins 17 [.ref (m1.length + 1), nW n] :: pre, hw, s_init l m1 n es hok (by omega), ?_, hpE_dg m1 hok, hn1, hn4⟩
  refine hm1.up2 (o := .ins 17 [.ref (m1.length + 1), nW n]) (p := .dT (es.map kvE)) ?_ ?_
  · simp [HOb.rb, HOb.its, W.rbs, W.rb]
  · show W.rbs _ ((es.map kvE).map (·.2)) = true
    rw [List.map_map]
    exact rbs_map (f := fun e : Ed => nW e.2.2) (fun _ => rb_nW _ _) es
end Lk
namespace Lk
open PySem hiding alloc ret
open PySem.Spec PyProof.Rows L2 WM
theorem s_law_word (l : Nat) {ns : List Int} {pre m : Hm} (hn : ns.length ≤ 63) (h : Dm ns pre m) {n most : Nat} (h0 : 0 < n) (h9 : n ≤ 9) (hm : most ≤ 1000) :
    ∃ u m', evC T (l+2) f__law_word [.ref 0, nW n, nW most] m = some (.ok (wdW u), m') ∧ Dm ns pre m' ∧ (∀ x ∈ u, x < n) ∧ u.length ≤ most := by
  obtain ⟨q, m1, hq, hm1, hql⟩ := s_draw l (most + 1) hn h (by omega) (by omega)
  have hq' : evC T (l+1) f__law_draw [.ref 0, nW (most + 1)] m = some (.ok (nW q), m1) := hq
  rw [call_eq t__law_word rfl]
  have key : ∀ (k : Nat) (js : List Nat) (m : Hm), js.length = k → Dm ns pre m → ∃ (u : List Nat) (m' : Hm), compGo (.v 3) [some (.ref 0), some (nW n), some (nW most), none] (evE T (evC T (l+1)) (.lit (.bl true))) (evE T (evC T (l+1)) (.call f__law_draw [.var 0, .var 1])) (js.map nW) m = some (.ok (u.map nW), m') ∧ Dm ns pre m' ∧ (∀ x ∈ u, x < n) ∧ u.length = k := by
    intro k
    induction k with
    | zero =>
      intro js m hj hm
      rw [List.length_eq_zero_iff.1 hj]
      exact ⟨[], m, rfl, hm, by simp, rfl⟩
    | succ k ih =>
      intro js m hj hm
      cases js with
      | nil => cases hj
      | cons j js =>
        obtain ⟨x, m2, hx, hm2, hxn⟩ := s_draw l n hn hm h0 (by omega)
        have hx' : evC T (l+1) f__law_draw [.ref 0, nW n] m = some (.ok (nW x), m2) := hx
        obtain ⟨u, m3, hu, hm3, hul, hk⟩ := ih js m2 (by simpa using hj) hm2
        refine ⟨x :: u, m3, ?_, hm3, ?_, by rw [List.length_cons, hk]⟩
        · rw [List.map_cons, compGo]
          simp [hx', hu]
        · intro y hy
          rcases List.mem_cons.1 hy with e | e
          · rw [e]; exact hxn
          · exact hul y e
  obtain ⟨u, m2, hu, hm2, hun, hul⟩ := key q (List.range q) m1 List.length_range hm1
  refine ⟨u, m2, ?_, hm2, hun, by omega⟩
  simp [F__law_word, b__law_word, hq', rngM_n (n := q) (by omega), wipeW]
  rw [hu]
  simp
  exact endR_len (by rw [hm2.len, h.len])
end Lk
namespace Lk
open PySem hiding alloc ret
open PySem.Spec PyProof.Rows L2 WM
theorem run_cons {C : Calls} {s : WM.S} {r : List WM.S} {sg sg1 : Sg} {m m1 : Hm} {x : Option (SO × Sg × Hm)} (h : evS T C s sg m = some (.nx, sg1, m1)) (h2 : evSs T C r sg1 m1 = x) : evSs T C (s :: r) sg m = x := by
  rw [evSs_cons, h, thenS_nx, h2]
theorem run_nil {C : Calls} {sg : Sg} {m : Hm} : evSs T C [] sg m = some (.nx, sg, m) := rfl
theorem cmp_ne_ss {x : PySem.Str} (h : PyData.strOk x = true) : cmpW .ne (.str x) (.str x) = some (.bl false) := by
  simp only [cmpW, W.isD, W.eqv, h, decide_true, Bool.and_self, if_true, Bool.not_true]
theorem cmp_ne_rt (n : Nat) (u v : Mx.Vc) : cmpW .ne (rtW n u) (rtW n v) = some (.bl (!decide (∀ j, j < n → u j = v j))) := by
  have h0 : W.eqvs ((List.range n).map fun j => gW (u j)) ((List.range n).map fun j => gW (v j)) = decide (∀ j, j < n → u j = v j) := eqv_rtW n u v
  have h1 : ∀ v : Mx.Vc, W.isDs 59 ((List.range n).map fun k => gW (v k)) = true := fun v => isDs_map fun x _ => isD_gW _ _
  unfold rtW
  rw [cmp_ne_tt, h1, h1, h0]
  rfl
end Lk
namespace Lk
open PySem hiding alloc ret
open PySem.Spec PyProof.Rows L2 WM
theorem sdv_wd {u : List Nat} (h : u.length ≤ 10000) : sdv 1 (wdW u) := by
  show szOk _ = true ∧ ∀ x ∈ _, _
  refine ⟨szOk_small (by rw [List.length_map]; omega), fun x hx => ?_⟩
  obtain ⟨i, _, rfl⟩ := List.mem_map.1 hx
  trivial
theorem sdv_two {u v : List Nat} (h : u.length ≤ 10000) (h2 : v.length ≤ 10000) : sdv 2 (.tup [wdW u, wdW v]) := by
  refine ⟨szOk_small (by simp), fun x hx => ?_⟩
  rcases List.mem_cons.1 hx with rfl | hx
  · exact sdv_wd h
  · rw [List.mem_singleton.1 hx]; exact sdv_wd h2
def lawB : List WM.S := match b_law.getD 1 .pass with
  | .loop _ _ b => b
  | _ => []
theorem lawB_eq : lawB = lawB.getD 0 .pass :: lawB.getD 1 .pass :: lawB.getD 2 .pass :: lawB.getD 3 .pass :: lawB.getD 4 .pass :: lawB.getD 5 .pass :: lawB.getD 6 .pass :: lawB.getD 7 .pass :: lawB.getD 8 .pass :: lawB.getD 9 .pass :: lawB.getD 10 .pass :: lawB.getD 11 .pass :: lawB.getD 12 .pass :: lawB.getD 13 .pass :: [] := rfl
def bdB : List WM.S := match lawB.getD 13 .pass with
  | .loop _ _ b => b
  | _ => []
def bdI : List WM.S := match bdB.getD 0 .pass with
  | .loop _ _ b => b
  | _ => []
/-- what the law takes for no set -/
def badL (n : Nat) : List W := [.non, .lst [.int 0], .tup [nW n], .tup [.int 0, .int 0], .tup [.int (-1)], .tup [.bl true], .tup [.str (PySem.Str.ofString "0")], .tup [.int 0, .non], wdW ((List.range n).reverse ++ [0])]
theorem badL_ok {n : Nat} (h1 : 1 ≤ n) (h4 : n ≤ 4) : ∀ w ∈ badL n, BadSet n w := by
  intro w hw
  unfold badL at hw
  simp only [List.mem_cons, List.not_mem_nil, or_false] at hw
  rcases hw with rfl | rfl | rfl | rfl | rfl | rfl | rfl | rfl | rfl
  · exact .non
  · exact .lst _
  · refine .tup _ rfl ?_
    have : okB n (nW n) = false := decide_eq_false fun z => absurd z.2 (by omega)
    simp [this]
  · exact .uns [0, 0] [0] (fun x hx => by simp at hx; omega) rfl (by decide)
  · exact .tup _ rfl (by simp [okB])
  · exact .tup _ rfl (by simp [okB])
  · exact .tup _ rfl (by simp [okB])
  · exact .tup _ rfl (by simp [okB])
  · refine .uns _ (List.range n) (fun x hx => ?_) ?_ ?_
    · rcases List.mem_append.1 hx with q | q
      · exact List.mem_range.1 (List.mem_reverse.1 q)
      · rw [List.mem_singleton.1 q]; omega
    · have : n = 1 ∨ n = 2 ∨ n = 3 ∨ n = 4 := by omega
      rcases this with rfl | rfl | rfl | rfl <;> rfl
    · intro e
      have := congrArg List.length e
      simp at this
theorem bad_inner (l : Nat) {m : Hm} {d n : Nat} {es : List Ed} (h : IsDg m d n es) {w : W} (hw : BadSet n w) {u : List Nat} (hu : Mx.Wd (wo n es) u) (hz : u.length ≤ 400) (a0 a1 a2 a3 a4 a7 a8 a9 a10 a11 a12 a13 a15 a16 a17 a18 : Option W) :
    ∃ b15 b16, loopGo (.v 15) (evSs T (evC T (l+10)) bdI) [nW 0, nW 1] [a0, a1, a2, a3, a4, some (.ref d), some (wdW u), a7, a8, a9, a10, a11, a12, a13, some w, a15, a16, a17, a18] m = some (.nx, [a0, a1, a2, a3, a4, some (.ref d), some (wdW u), a7, a8, a9, a10, a11, a12, a13, some w, b15, b16, a17, a18], m) := by
  have b1 := s_split_left_bad (l+7) h hw (wdW u)
  have b2 := s_split_right_bad (l+2) h hw hu hz
  refine ⟨some (nW 1), none, ?_⟩
  rw [loop_cons (sg' := [a0, a1, a2, a3, a4, some (.ref d), some (wdW u), a7, a8, a9, a10, a11, a12, a13, some w, some (nW 0), a16, a17, a18]) rfl]
  have e0 : evSs T (evC T (l+10)) bdI [a0, a1, a2, a3, a4, some (.ref d), some (wdW u), a7, a8, a9, a10, a11, a12, a13, some w, some (nW 0), a16, a17, a18] m = some (.nx, [a0, a1, a2, a3, a4, some (.ref d), some (wdW u), a7, a8, a9, a10, a11, a12, a13, some w, some (nW 0), none, a17, a18], m) := by
    simp [bdI, bdB, lawB, b_law, b1, catchS_ex]
  rw [e0, turnS_nx, loop_cons (sg' := [a0, a1, a2, a3, a4, some (.ref d), some (wdW u), a7, a8, a9, a10, a11, a12, a13, some w, some (nW 1), none, a17, a18]) rfl]
  have e1 : evSs T (evC T (l+10)) bdI [a0, a1, a2, a3, a4, some (.ref d), some (wdW u), a7, a8, a9, a10, a11, a12, a13, some w, some (nW 1), none, a17, a18] m = some (.nx, [a0, a1, a2, a3, a4, some (.ref d), some (wdW u), a7, a8, a9, a10, a11, a12, a13, some w, some (nW 1), none, a17, a18], m) := by
    simp [bdI, bdB, lawB, b_law, b2, catchS_ex]
  rw [e1, turnS_nx]
  rfl
theorem bad_all (l : Nat) {m : Hm} {d n : Nat} {es : List Ed} (h : IsDg m d n es) {u : List Nat} (hu : Mx.Wd (wo n es) u) (hz : u.length ≤ 400) (a0 a1 a2 a3 a4 a7 a8 a9 a10 a11 a12 a13 a17 a18 : Option W) : ∀ (ws : List W) (a14 a15 a16 : Option W), (∀ w ∈ ws, BadSet n w) →
    ∃ b14 b15 b16, loopGo (.v 14) (evSs T (evC T (l+10)) bdB) ws [a0, a1, a2, a3, a4, some (.ref d), some (wdW u), a7, a8, a9, a10, a11, a12, a13, a14, a15, a16, a17, a18] m = some (.nx, [a0, a1, a2, a3, a4, some (.ref d), some (wdW u), a7, a8, a9, a10, a11, a12, a13, b14, b15, b16, a17, a18], m)
  | [], a14, a15, a16, _ => ⟨a14, a15, a16, rfl⟩
  | w :: ws, a14, a15, a16, hw => by
    obtain ⟨c15, c16, hi⟩ := bad_inner l h (hw w List.mem_cons_self) hu hz a0 a1 a2 a3 a4 a7 a8 a9 a10 a11 a12 a13 a15 a16 a17 a18
    obtain ⟨b14, b15, b16, hr⟩ := bad_all l h hu hz a0 a1 a2 a3 a4 a7 a8 a9 a10 a11 a12 a13 a17 a18 ws (some w) c15 c16 fun x hx => hw x (List.mem_cons_of_mem _ hx)
    refine ⟨b14, b15, b16, ?_⟩
    rw [loop_cons (sg' := [a0, a1, a2, a3, a4, some (.ref d), some (wdW u), a7, a8, a9, a10, a11, a12, a13, some w, a15, a16, a17, a18]) rfl]
    have h2 : rngM (.int 0) (.int 2) = ret ((List.range 2).map nW) := rngM_n (n := 2) (by omega)
    have e : evSs T (evC T (l+10)) bdB [a0, a1, a2, a3, a4, some (.ref d), some (wdW u), a7, a8, a9, a10, a11, a12, a13, some w, a15, a16, a17, a18] m = some (.nx, [a0, a1, a2, a3, a4, some (.ref d), some (wdW u), a7, a8, a9, a10, a11, a12, a13, some w, c15, c16, a17, a18], m) := by
      simp only [bdI, bdB, lawB, b_law, List.getD_cons_succ, List.getD_cons_zero] at hi
      have hr2 : (List.range 2).map nW = [nW 0, nW 1] := rfl
      simp [bdB, lawB, b_law, h2]
      rw [hr2, hi]
      simp
    rw [e, turnS_nx, hr]
def OutI (ns : List Int) (i : Nat) (sg : Sg) (m : Hm) : Prop := ∃ pre a0 a2 a3 a4 a5 a6 a7 a8 a9 a10 a11 a12 a13 a14 a15 a16 a17 a18, Dm ns pre m ∧ sg = [a0, some (.ref 0), a2, a3, a4, a5, a6, a7, a8, a9, a10, a11, a12, a13, a14, a15, a16, a17, a18]
/-- three drawn letters of a set, or none -/
theorem some_of (l : Nat) {ns : List Int} (hn : ns.length ≤ 63) {pre : Hm} {J : List Nat} (h0 : 0 < J.length) (hJz : J.length ≤ 9) (a0 a2 a3 a4 a5 a6 a8 a9 a10 a11 a12 a13 a14 a15 a16 a18 : Option W) : ∀ (js : List Nat) (m : Hm), Dm ns pre m →
    ∃ (s : List Nat) (m' : Hm), compGo (.v 17) [a0, some (.ref 0), a2, a3, a4, a5, a6, some (wdW J), a8, a9, a10, a11, a12, a13, a14, a15, a16, none, a18] (evE T (evC T (l+2)) (.lit (.bl true))) (evE T (evC T (l+2)) (.idx (.var 7) (.call f__law_draw [.var 1, .bi .len [.var 7]]))) (js.map nW) m = some (.ok (s.map nW), m') ∧ Dm ns pre m' ∧ Mx.Of J s ∧ s.length = js.length
  | [], m, h => ⟨[], m, rfl, h, (fun _ h => by cases h), rfl⟩
  | j :: js, m, h => by
    obtain ⟨q, m1, h1, h2, h3⟩ := s_draw (l+1) J.length hn h h0 (by omega)
    have h1' : evC T (l+2) f__law_draw [.ref 0, nW J.length] m = some (.ok (nW q), m1) := h1
    obtain ⟨s, m2, h4, h5, h6, h7⟩ := some_of l hn h0 hJz a0 a2 a3 a4 a5 a6 a8 a9 a10 a11 a12 a13 a14 a15 a16 a18 js m1 h2
    have hix : idxM (wdW J) (nW q) = ret (nW (J.getD q 0)) := idx_wd J h3
    refine ⟨J.getD q 0 :: s, m2, ?_, h5, fun x hx => ?_, by rw [List.length_cons, List.length_cons, h7]⟩
    · rw [List.map_cons, compGo]
      simp [h1', hix, h4]
    · rcases List.mem_cons.1 hx with rfl | q
      · rw [List.getD_eq_getElem?_getD, List.getElem?_eq_getElem h3]; exact List.getElem_mem h3
      · exact h6 x q
theorem outer (l : Nat) {ns : List Int} (hn : ns.length ≤ 63) {i : Nat} {sg : Sg} {m : Hm} (h : OutI ns i sg m) :
    ∃ sg2 m', evSs T (evC T (l+10)) lawB (sg.set 2 (some (nW i))) m = some (.nx, sg2, m') ∧ OutI ns (i + 1) sg2 m' := by
  obtain ⟨pre, a0, a2, a3, a4, a5, a6, a7, a8, a9, a10, a11, a12, a13, a14, a15, a16, a17, a18, dm, rfl⟩ := h
  obtain ⟨w, m1, hw, hm1, n, es, rfl, hok, hn1, hn4, hez⟩ := s_world (l+7) hn dm
  have hi := s_init (l+7) m1 n es hok (by omega)
  have hdg : IsDg (hpE m1 n es) m1.length n es := hpE_dg m1 hok
  have ok := hdg.wok
  have hm2 : Dm ns (.dT (es.map kvE) :: .ins 17 [.ref (m1.length + 1), nW n] :: pre) (hpE m1 n es) := by
    refine hm1.up2 (o := .ins 17 [.ref (m1.length + 1), nW n]) (p := .dT (es.map kvE)) ?_ ?_
    · simp [HOb.rb, HOb.its, W.rbs, W.rb]
    · show W.rbs _ ((es.map kvE).map (·.2)) = true
      rw [List.map_map]
      exact rbs_map (f := fun e : Ed => nW e.2.2) (fun _ => rb_nW _ _) es
  obtain ⟨u, m3, hu1, hm3, hud, huz⟩ := s_law_word (l+8) hn hm2 hn1 (by omega : n ≤ 9) (most := 9) (by omega)
  have hu1' : evC T (l+10) f__law_word [.ref 0, nW n, .int 9] (hpE m1 n es) = some (.ok (wdW u), m3) := hu1
  have hu : Mx.Wd (wo n es) u := hud
  obtain ⟨J, m4, hJ1, hm4, hJ⟩ := s_law_set (l+8) hn hm3 (n := n) (by omega)
  have hdg3 := hm2.dg hm3 hdg
  have hdg4 := hm3.dg hm4 hdg3
  have hJd : Mx.Wd (wo n es) J := hJ.lt
  have hjl := hJ.len
  have n1 := s_law_normal (l+5) hok hu (by omega)
  have hnl := Mx.nf_len hu
  have hel := Mx.ell_len (wo n es) u
  -- the law's parts
  obtain ⟨a, r, hS, hrn, e5⟩ := s_law_split (l+4) hok hJ hu (by omega) m4
  obtain ⟨f, t, hR, e8⟩ := s_law_split_behind (l+3) hok hJ hu (by omega) m4
  obtain ⟨x1, x2, x3, x4, x5, x6⟩ := id hS
  obtain ⟨y1, y2, y3, y4, y5⟩ := id hR
  have had := x1.wd hJd
  have htd := y1.wd hJd
  have hna := Mx.nf_len had
  have hnf := Mx.nf_len y2
  have hnt := Mx.nf_len htd
  have hnr := Mx.nf_len x2
  rw [hrn] at hnr
  have hra : Mx.ell (wo n es) a = a.length := x6
  -- the program's parts
  obtain ⟨xa2, xr2, hS2, p6⟩ := s_split_left (l+3) hdg4 hJ hu (by omega)
  obtain ⟨q1, q2⟩ := spl_one ok hJd (s := []) (fun _ h => by cases h) (.rf u) hS hS2
  rw [q1, q2 rfl, hrn] at p6
  obtain ⟨f2, t2, hR2, p9⟩ := s_split_right (l+2) hdg4 hJ hu (by omega)
  obtain ⟨q3, q4⟩ := spr_one ok hJd (s := []) (fun _ h => by cases h) (by rw [List.append_nil]; exact .rf u) hR hR2
  rw [q3, q4 rfl] at p9
  have p7 := s_times_word (l+4) hdg4 (Mx.nf_wd had) x2 (by omega) (by omega)
  have e7 : Mx.nf (wo n es) (Mx.nf (wo n es) a ++ r) = Mx.nf (wo n es) u := by
    refine Mx.nf_congr ((Mx.nf_wd had).app x2) ?_
    exact ((Mx.nf_eqv had).sy.right r).tr x3.sy
  rw [e7] at p7
  have hofa : Mx.Of J (Mx.nf (wo n es) a) := x1.nf ok had
  have hfl := Mx.ell_len (wo n es) f
  -- some letters more
  obtain ⟨s, m5, h10, hm5, hsof, hsz⟩ : ∃ s m5, evS T (evC T (l+10)) (lawB.getD 10 .pass) [a0, some (.ref 0), some (nW i), some (worldW n es), some (nW n), some (.ref m1.length), some (wdW u), some (wdW J), some (wdW (Mx.nf (wo n es) u)), some (wdW (Mx.nf (wo n es) a)), some (wdW r), some (wdW (Mx.nf (wo n es) f)), some (wdW (Mx.nf (wo n es) t)), a13, a14, a15, a16, a17, a18] m4 = some (.nx, [a0, some (.ref 0), some (nW i), some (worldW n es), some (nW n), some (.ref m1.length), some (wdW u), some (wdW J), some (wdW (Mx.nf (wo n es) u)), some (wdW (Mx.nf (wo n es) a)), some (wdW r), some (wdW (Mx.nf (wo n es) f)), some (wdW (Mx.nf (wo n es) t)), some (wdW s), a14, a15, a16, a17, a18], m5) ∧ Dm ns (.dT (es.map kvE) :: .ins 17 [.ref (m1.length + 1), nW n] :: pre) m5 ∧ Mx.Of J s ∧ s.length ≤ 3 := by
    by_cases c : 0 < J.length
    · obtain ⟨s, m5, g1, g2, g3, g4⟩ := some_of (l+8) hn c (by omega) (a0) (some (nW i)) (some (worldW n es)) (some (nW n)) (some (.ref m1.length)) (some (wdW u)) (some (wdW (Mx.nf (wo n es) u))) (some (wdW (Mx.nf (wo n es) a))) (some (wdW r)) (some (wdW (Mx.nf (wo n es) f))) (some (wdW (Mx.nf (wo n es) t))) (a13) (a14) (a15) (a16) (a18) (List.range 3) m4 hm4
      rw [List.length_range] at g4
      refine ⟨s, m5, ?_, g2, g3, by omega⟩
      have h3 : rngM (.int 0) (.int 3) = ret ((List.range 3).map nW) := rngM_n (n := 3) (by omega)
      have hbt : biM .tuple [.lst (s.map nW)] = ret (wdW s) := by simp only [biM, seqM]; rfl
      generalize hX : s.map nW = X at *
      generalize hR3 : (List.range 3).map nW = R3 at *
      simp [lawB, b_law, c, h3, wipeW]
      rw [g1]
      simp [hbt]
    · refine ⟨[], m4, ?_, hm4, (fun _ h => by cases h), by simp⟩
      have c0 : J = [] := List.length_eq_zero_iff.1 (by omega)
      subst c0
      simp [lawB, b_law]
      rfl
  have hdg5 := hm4.dg hm5 hdg4
  have hsd := hsof.wd hJd
  obtain ⟨xa3, xr3, hS3, p10⟩ := s_split_left (l+3) hdg5 hJ (hsd.app hu) (by rw [List.length_append]; omega)
  obtain ⟨q5, _⟩ := spl_one ok hJd hsof (.rf _) hS hS3
  rw [q5, hrn] at p10
  obtain ⟨f3, t3, hR3, p11⟩ := s_split_right (l+2) hdg5 hJ (hu.app hsd) (by rw [List.length_append]; omega)
  obtain ⟨q6, _⟩ := spr_one ok hJd hsof (.rf _) hR hR3
  rw [q6] at p11
  have b1 : binW .add (wdW s) (wdW u) = some (wdW (s ++ u)) := bin_wd (by omega)
  have b2 : binW .add (wdW u) (wdW s) = some (wdW (u ++ s)) := bin_wd (by omega)
  have lt := s_letters_of (l+3) hdg5 hu (by omega)
  have hss := sset_nat (xs := Mx.nf (wo n es) u) (by omega)
  have hsl := sD_len (Mx.nf (wo n es) u)
  have hsmL := s_same 1 (l+10) (wdW (sD (Mx.nf (wo n es) u))) (sdv_wd (by omega)) (by omega)
  have hz3 : ((Mx.nf (wo n es) a).filter fun x => !decide (x ∈ J)) = [] := by
    rw [List.filter_eq_nil_iff]
    intro x hx
    simp [hofa x hx]
  have hl1 : (Mx.nf (wo n es) a).length + r.length = (Mx.nf (wo n es) u).length := by omega
  have hl2 : (Mx.nf (wo n es) f).length + (Mx.nf (wo n es) t).length = (Mx.nf (wo n es) u).length := by omega
  have hs6 := s_same 2 (l+10) (.tup [wdW (Mx.nf (wo n es) a), wdW r]) (sdv_two (by omega) (by omega)) (by omega)
  have hs7 := s_same 1 (l+10) (wdW (Mx.nf (wo n es) u)) (sdv_wd (by omega)) (by omega)
  have hs9 := s_same 2 (l+10) (.tup [wdW (Mx.nf (wo n es) f), wdW (Mx.nf (wo n es) t)]) (sdv_two (by omega) (by omega)) (by omega)
  have hs10 := s_same 1 (l+10) (wdW r) (sdv_wd (by omega)) (by omega)
  have hs11 := s_same 1 (l+10) (wdW (Mx.nf (wo n es) f)) (sdv_wd (by omega)) (by omega)
  have hc7 : compGo (.v 18) [a0, some (.ref 0), some (nW i), some (worldW n es), some (nW n), some (.ref m1.length), some (wdW u), some (wdW J), some (wdW (Mx.nf (wo n es) u)), some (wdW (Mx.nf (wo n es) a)), some (wdW r), a11, a12, a13, a14, a15, a16, a17, none] (evE T (evC T (l+10)) (.isin true (.var 18) (.var 7))) (evE T (evC T (l+10)) (.var 18)) ((Mx.nf (wo n es) a).map nW) m4 = some (.ok [], m4) := by
    have := comp_map nW (Mx.nf (wo n es) a) (fun x => !decide (x ∈ J)) nW (tg := .v 18) (sg := [a0, some (.ref 0), some (nW i), some (worldW n es), some (nW n), some (.ref m1.length), some (wdW u), some (wdW J), some (wdW (Mx.nf (wo n es) u)), some (wdW (Mx.nf (wo n es) a)), some (wdW r), a11, a12, a13, a14, a15, a16, a17, none]) (tst := evE T (evC T (l+10)) (.isin true (.var 18) (.var 7))) (elt := evE T (evC T (l+10)) (.var 18)) (m := m4) fun x hx => ⟨_, asg_v 18 _ _, by have hin := in_nat x J; simp [hin], fun _ => by simp⟩
    rw [hz3] at this
    exact this
  generalize Mx.nf (wo n es) a = na at *
  generalize Mx.nf (wo n es) f = nf at *
  generalize Mx.nf (wo n es) t = nt at *
  generalize hUU : Mx.nf (wo n es) u = nu at *
  generalize s ++ u = su at *
  generalize u ++ s = us at *
  have h0 : evS T (evC T (l+10)) (lawB.getD 0 .pass) [a0, some (.ref 0), some (nW i), a3, a4, a5, a6, a7, a8, a9, a10, a11, a12, a13, a14, a15, a16, a17, a18] (m) = some (.nx, [a0, some (.ref 0), some (nW i), some (worldW n es), a4, a5, a6, a7, a8, a9, a10, a11, a12, a13, a14, a15, a16, a17, a18], m1) := by
    simp [lawB, b_law, hw]
  have h1 : evS T (evC T (l+10)) (lawB.getD 1 .pass) [a0, some (.ref 0), some (nW i), some (worldW n es), a4, a5, a6, a7, a8, a9, a10, a11, a12, a13, a14, a15, a16, a17, a18] (m1) = some (.nx, [a0, some (.ref 0), some (nW i), some (worldW n es), some (nW n), a5, a6, a7, a8, a9, a10, a11, a12, a13, a14, a15, a16, a17, a18], m1) := by
    simp [lawB, b_law, idx_world0]
  have h2 : evS T (evC T (l+10)) (lawB.getD 2 .pass) [a0, some (.ref 0), some (nW i), some (worldW n es), some (nW n), a5, a6, a7, a8, a9, a10, a11, a12, a13, a14, a15, a16, a17, a18] (m1) = some (.nx, [a0, some (.ref 0), some (nW i), some (worldW n es), some (nW n), some (.ref m1.length), a6, a7, a8, a9, a10, a11, a12, a13, a14, a15, a16, a17, a18], hpE m1 n es) := by
    simp [lawB, b_law, idx_world1, hi]
  have h3 : evS T (evC T (l+10)) (lawB.getD 3 .pass) [a0, some (.ref 0), some (nW i), some (worldW n es), some (nW n), some (.ref m1.length), a6, a7, a8, a9, a10, a11, a12, a13, a14, a15, a16, a17, a18] (hpE m1 n es) = some (.nx, [a0, some (.ref 0), some (nW i), some (worldW n es), some (nW n), some (.ref m1.length), some (wdW u), some (wdW J), a8, a9, a10, a11, a12, a13, a14, a15, a16, a17, a18], m4) := by
    simp [lawB, b_law, hu1', hJ1]
  have h4 : evS T (evC T (l+10)) (lawB.getD 4 .pass) [a0, some (.ref 0), some (nW i), some (worldW n es), some (nW n), some (.ref m1.length), some (wdW u), some (wdW J), a8, a9, a10, a11, a12, a13, a14, a15, a16, a17, a18] (m4) = some (.nx, [a0, some (.ref 0), some (nW i), some (worldW n es), some (nW n), some (.ref m1.length), some (wdW u), some (wdW J), some (wdW nu), a9, a10, a11, a12, a13, a14, a15, a16, a17, a18], m4) := by
    simp [lawB, b_law, n1]
  have h5 : evS T (evC T (l+10)) (lawB.getD 5 .pass) [a0, some (.ref 0), some (nW i), some (worldW n es), some (nW n), some (.ref m1.length), some (wdW u), some (wdW J), some (wdW nu), a9, a10, a11, a12, a13, a14, a15, a16, a17, a18] (m4) = some (.nx, [a0, some (.ref 0), some (nW i), some (worldW n es), some (nW n), some (.ref m1.length), some (wdW u), some (wdW J), some (wdW nu), some (wdW na), some (wdW r), a11, a12, a13, a14, a15, a16, a17, a18], m4) := by
    simp [lawB, b_law, e5]
  have h6 : evS T (evC T (l+10)) (lawB.getD 6 .pass) [a0, some (.ref 0), some (nW i), some (worldW n es), some (nW n), some (.ref m1.length), some (wdW u), some (wdW J), some (wdW nu), some (wdW na), some (wdW r), a11, a12, a13, a14, a15, a16, a17, a18] (m4) = some (.nx, [a0, some (.ref 0), some (nW i), some (worldW n es), some (nW n), some (.ref m1.length), some (wdW u), some (wdW J), some (wdW nu), some (wdW na), some (wdW r), a11, a12, a13, a14, a15, a16, a17, a18], m4) := by
    have c : ((na.length : Int) + (r.length : Int)) = (nu.length : Int) := by omega
    simp [lawB, b_law, p6, hs6, hl1]
  have h7 : evS T (evC T (l+10)) (lawB.getD 7 .pass) [a0, some (.ref 0), some (nW i), some (worldW n es), some (nW n), some (.ref m1.length), some (wdW u), some (wdW J), some (wdW nu), some (wdW na), some (wdW r), a11, a12, a13, a14, a15, a16, a17, a18] (m4) = some (.nx, [a0, some (.ref 0), some (nW i), some (worldW n es), some (nW n), some (.ref m1.length), some (wdW u), some (wdW J), some (wdW nu), some (wdW na), some (wdW r), a11, a12, a13, a14, a15, a16, a17, a18], m4) := by
    simp [lawB, b_law, wipeW]
    rw [hc7]
    simp [biM, p7, hs7]
  have h8 : evS T (evC T (l+10)) (lawB.getD 8 .pass) [a0, some (.ref 0), some (nW i), some (worldW n es), some (nW n), some (.ref m1.length), some (wdW u), some (wdW J), some (wdW nu), some (wdW na), some (wdW r), a11, a12, a13, a14, a15, a16, a17, a18] (m4) = some (.nx, [a0, some (.ref 0), some (nW i), some (worldW n es), some (nW n), some (.ref m1.length), some (wdW u), some (wdW J), some (wdW nu), some (wdW na), some (wdW r), some (wdW nf), some (wdW nt), a13, a14, a15, a16, a17, a18], m4) := by
    simp [lawB, b_law, e8]
  have h9 : evS T (evC T (l+10)) (lawB.getD 9 .pass) [a0, some (.ref 0), some (nW i), some (worldW n es), some (nW n), some (.ref m1.length), some (wdW u), some (wdW J), some (wdW nu), some (wdW na), some (wdW r), some (wdW nf), some (wdW nt), a13, a14, a15, a16, a17, a18] (m4) = some (.nx, [a0, some (.ref 0), some (nW i), some (worldW n es), some (nW n), some (.ref m1.length), some (wdW u), some (wdW J), some (wdW nu), some (wdW na), some (wdW r), some (wdW nf), some (wdW nt), a13, a14, a15, a16, a17, a18], m4) := by
    simp [lawB, b_law, p9, hs9, hl2]
  have h11 : evS T (evC T (l+10)) (lawB.getD 11 .pass) [a0, some (.ref 0), some (nW i), some (worldW n es), some (nW n), some (.ref m1.length), some (wdW u), some (wdW J), some (wdW nu), some (wdW na), some (wdW r), some (wdW nf), some (wdW nt), some (wdW s), a14, a15, a16, a17, a18] (m5) = some (.nx, [a0, some (.ref 0), some (nW i), some (worldW n es), some (nW n), some (.ref m1.length), some (wdW u), some (wdW J), some (wdW nu), some (wdW na), some (wdW r), some (wdW nf), some (wdW nt), some (wdW s), a14, a15, a16, a17, a18], m5) := by
    simp [lawB, b_law, b1, b2, p10, p11, hs10, hs11]
  have h12 : evS T (evC T (l+10)) (lawB.getD 12 .pass) [a0, some (.ref 0), some (nW i), some (worldW n es), some (nW n), some (.ref m1.length), some (wdW u), some (wdW J), some (wdW nu), some (wdW na), some (wdW r), some (wdW nf), some (wdW nt), some (wdW s), a14, a15, a16, a17, a18] (m5) = some (.nx, [a0, some (.ref 0), some (nW i), some (worldW n es), some (nW n), some (.ref m1.length), some (wdW u), some (wdW J), some (wdW nu), some (wdW na), some (wdW r), some (wdW nf), some (wdW nt), some (wdW s), a14, a15, a16, a17, a18], m5) := by
    have hbt : biM .tuple [.lst ((sD nu).map nW)] = ret (wdW (sD nu)) := by simp only [biM, seqM]; rfl
    generalize hX : (sD nu).map nW = X at *
    simp [lawB, b_law, lt, hss, hbt, hsmL]
  obtain ⟨b14, b15, b16, hbad⟩ := bad_all l hdg5 hu (by omega) (a0) (some (.ref 0)) (some (nW i)) (some (worldW n es)) (some (nW n)) (some (wdW J)) (some (wdW nu)) (some (wdW na)) (some (wdW r)) (some (wdW nf)) (some (wdW nt)) (some (wdW s)) (a17) (a18) (badL n) a14 a15 a16 (badL_ok hn1 hn4)
  have h13 : evS T (evC T (l+10)) (lawB.getD 13 .pass) [a0, some (.ref 0), some (nW i), some (worldW n es), some (nW n), some (.ref m1.length), some (wdW u), some (wdW J), some (wdW nu), some (wdW na), some (wdW r), some (wdW nf), some (wdW nt), some (wdW s), a14, a15, a16, a17, a18] (m5) = some (.nx, [a0, some (.ref 0), some (nW i), some (worldW n es), some (nW n), some (.ref m1.length), some (wdW u), some (wdW J), some (wdW nu), some (wdW na), some (wdW r), some (wdW nf), some (wdW nt), some (wdW s), b14, b15, b16, a17, a18], m5) := by
    have h13n : rng0M (nW n) = ret ((List.range n).map nW) := by
      have h := rngM_n (n := n) (by omega)
      show rng0M (.int (n : Int)) = _
      rw [rng0M_int, ← rngM_int]
      exact h
    have ht : W.tup ((List.range n).map nW).reverse = wdW (List.range n).reverse := by rw [← List.map_reverse]; rfl
    have b3 : binW .add (wdW (List.range n).reverse) (.tup [.int 0]) = some (wdW ((List.range n).reverse ++ [0])) := bin_wd (u := (List.range n).reverse) (v := [0]) (by simp; omega)
    simp only [bdB, lawB, b_law, List.getD_cons_succ, List.getD_cons_zero] at hbad
    unfold badL at hbad
    generalize wdW ((List.range n).reverse ++ [0]) = Z at *
    simp only [lawB, b_law, List.getD_cons_succ, List.getD_cons_zero]
    simp [h13n, -List.map_reverse]
    rw [b3]
    simp
    rw [hbad]
  refine ⟨[a0, some (.ref 0), some (nW i), some (worldW n es), some (nW n), some (.ref m1.length), some (wdW u), some (wdW J), some (wdW nu), some (wdW na), some (wdW r), some (wdW nf), some (wdW nt), some (wdW s), b14, b15, b16, a17, a18], m5, ?_, ⟨_, _, _, _, _, _, _, _, _, _, _, _, _, _, _, _, _, _, _, hm5, rfl⟩⟩
  rw [lawB_eq]
  exact run_cons h0 (run_cons h1 (run_cons h2 (run_cons h3 (run_cons h4 (run_cons h5 (run_cons h6 (run_cons h7 (run_cons h8 (run_cons h9 (run_cons h10 (run_cons h11 (run_cons h12 (run_cons h13 (run_nil))))))))))))))
theorem law_eq : ∀ ns : List Int, ns.length ≤ 63 → ∃ m', WM.evC Lk.T 20 Lk.f_law [.klst (ns.map .int)] [] = some (.ok (.bl true), m') := by
  intro ns hn
  obtain ⟨m1, hd, hm1⟩ := s_draws 18 ns
  rw [call_eq t_law rfl]
  have hrg : rngM (.int 0) (.int 5) = ret ((List.range 5).map nW) := rngM_n (n := 5) (by omega)
  obtain ⟨sg', m', hl, hp⟩ := loop_rg (OutI ns) (tg := .v 2) (bd := evSs T (evC T 19) lawB) 5 _ 0 rfl (by omega) (sg := [some (.klst (ns.map .int)), some (.ref 0), none, none, none, none, none, none, none, none, none, none, none, none, none, none, none, none, none]) (m := m1)
    ⟨[], _, _, _, _, _, _, _, _, _, _, _, _, _, _, _, _, _, _, hm1, rfl⟩ (by
      intro i sg m _ hi h
      obtain ⟨sg2, m', h1, h2⟩ := outer 9 hn h
      exact ⟨_, sg2, m', asg_v 2 _ _, Or.inl h1, h2⟩)
  obtain ⟨pre, a0, a2, a3, a4, a5, a6, a7, a8, a9, a10, a11, a12, a13, a14, a15, a16, a17, a18, hm, rfl⟩ := hp
  simp only [lawB, b_law, List.getD_cons_succ, List.getD_cons_zero] at hl
  rw [rg0] at hl
  simp [F_law, b_law, hd, hrg]
  rw [hl]
  simp
  exact endR_nil rfl
end Lk
theorem PySem.Challenge.cw_mirrorwalk_k33_elements_beside_sets_holds : PySem.Challenge.rw_mirrorwalk_k33_elements_beside_sets.Holds := by
  exact Lk.holds 20 (by omega) Lk.law_eq
