import PyProof.Rows.All
import PySem.Challenge.RW_morehands_k02_whole_levels_and_chains
import KE.SortData
import KE.DataMinMax
import KE.DataCmp
import KE.DataFind
import Wide.All
import OpenK.AllK
import Wide.FinOn
import HandS.ForMost
import HandS.ForExc
import HandS.Lambda
import HandS.Flow
import HandS.Style
import HandS.IsInst
import HandS.Wide
import HandS.Conv
import HandS.Zip
import HandS.TupMul
import HandS.TupAny
import HandS.TupSets
import HandS.Strs
import HandS.Deep
import HandS.CallSlots
import PyProof.TupleOfSeq
import PyProof.Transfer
import HandS.Small
import KE.GoesNew
import HandS.Sort
import HandS.SetFor
import HandS.HeadHook1
import HandS.Head2
import HandS.HeadHook4
import HandS.HeadWalk
-- MM
set_option autoImplicit false
set_option linter.all false
/-! M: a small functional interpreter of the Python subset at hand. Values are PyData; what is no datum (a mutable list or dict by its number, a def, a lambda) is written as a PyData.dict of a form of its own. -/
namespace MM
open PySem PySem.W

abbrev MV := PyData
/-- a mutable object, by its number in the heap -/
def rf (n : Nat) : MV := .dict [(.none, .int n)]
/-- a def of the program, by its number -/
def fv (f : Nat) : MV := .dict [(.bool true, .int f)]
/-- lambda number i, made by the frame number j -/
def cl (i j : Nat) : MV := .dict [(.bool false, .int i), (.none, .int j)]
/-- the script -/
def sc (is : List Int) : MV := .dict [(.int 1, .list (is.map .int))]
def scOf : MV → Option (List MV)
  | .dict [(.int _, .list xs)] => some xs
  | _ => none
def rfOf : MV → Option Nat
  | .dict [(.none, .int i)] => some i.toNat
  | _ => none
def fvOf : MV → Option Nat
  | .dict [(.bool true, .int i)] => some i.toNat
  | _ => none
def clOf : MV → Option (Nat × Nat)
  | .dict [(.bool false, .int i), (.none, .int j)] => some (i.toNat, j.toNat)
  | _ => none
@[simp] theorem rfOf_rf (n : Nat) : rfOf (rf n) = some n := by simp [rfOf, rf]
@[simp] theorem fvOf_fv (n : Nat) : fvOf (fv n) = some n := by simp [fvOf, fv]
@[simp] theorem clOf_cl (i j : Nat) : clOf (cl i j) = some (i, j) := by simp [clOf, cl]
@[simp] theorem scOf_sc (is : List Int) : scOf (sc is) = some (is.map .int) := by simp [scOf, sc]
@[simp] theorem rfOf_sc (is : List Int) : rfOf (sc is) = none := by simp [rfOf, sc]
@[simp] theorem rfOf_cl (i j : Nat) : rfOf (cl i j) = none := by simp [rfOf, cl]
@[simp] theorem rfOf_fv (n : Nat) : rfOf (fv n) = none := by simp [rfOf, fv]
@[simp] theorem fvOf_cl (i j : Nat) : fvOf (cl i j) = none := by simp [fvOf, cl]

/-- a mutable object -/
inductive MO where
  | lst (xs : List MV)
  | dct (kvs : List (MV × MV))
abbrev MH := List MO
inductive Res (α : Type) where
  | ok (a : α) (h : MH)
  | exc (c : Nat) (n : Int) (h : MH)
  | bad
abbrev M (α : Type) := MH → Res α
def M.pure {α : Type} (a : α) : M α := fun h => .ok a h
def M.bind {α β : Type} (m : M α) (f : α → M β) : M β := fun h => match m h with
  | .ok a h' => f a h'
  | .exc c n h' => .exc c n h'
  | .bad => .bad
instance : Monad M where
  pure := M.pure
  bind := M.bind
def bad {α : Type} : M α := fun _ => .bad
/-- no error may leave -/
def noexc {α : Type} (m : M α) : M α := fun h => match m h with
  | .ok a h' => .ok a h'
  | _ => .bad
def opt {α : Type} : Option α → M α
  | some a => M.pure a
  | none => bad
abbrev MSt := List (Option MV)

inductive MT where
  | nm (i : Nat)
  | tup (is : List Nat)
inductive BOp where
  | add | sub | mul | fdiv | mod | pow
  deriving DecidableEq
inductive COp where
  | eq | ne | lt | le | gt | ge | isin | notin | is | isnot
  deriving DecidableEq
inductive Ty where
  | int | bool | tuple | list | str
  deriving DecidableEq
/-- built-ins of one argument -/
inductive B1 where
  | len | abs | int | str | bool | sum | max | min | all | any | sorted | tuple | list (mu : Bool) | sortSet | lenSet
  deriving DecidableEq

/-- expressions; argument lists (nil, cons); iterables (seq, rng1, rng2, enm, zp, zp3); tests (tv, tand, tor, tnot) -/
inductive ME where
  | non | tt | ff | int (i : Int) | str (s : Str)
  | var (i : Nat) | glb (x : Nat) | fnv (f : Nat)
  | nil | cons (a r : ME)
  | tup (as : ME) | lst (mu : Bool) (as : ME)
  | bin (op : BOp) (a b : ME) | lmul (mu : Bool) (a b : ME)
  | neg (a : ME) | not (a : ME)
  | cmp (op : COp) (a b : ME) | cmp2 (op op' : COp) (a b c : ME)
  | and (a b : ME) | or (a b : ME) | ite (c a b : ME)
  | call (f : Nat) (as : ME) | callV (f : ME) (as : ME)
  | b1 (b : B1) (a : ME) | max2 (a b : ME) | min2 (a b : ME)
  | isi (ts : List Ty) (a : ME)
  | idx (a b : ME) | sl (a lo hi : ME) | rev (a : ME)
  | lc (mu : Bool) (own : List Nat) (tg : MT) (it c elt : ME)
  | lc2 (own own1 : List Nat) (tg : MT) (it : ME) (tg1 : MT) (it1 c elt : ME)
  | seq (e : ME) | rng1 (a : ME) | rng2 (a b : ME) | enm (a : ME) | zp (a b : ME) | zp3 (a b c : ME)
  | tv (a : ME) | tand (a b : ME) | tor (a b : ME) | tnot (a : ME)
  | app (o a : ME) | popAt (o a : ME) | index (o a : ME) | count (o a : ME)
  | dnew | lam (i : Nat)
  | inrg (neg : Bool) (a hi : ME)

inductive MS where
  | skip | seq (a b : MS)
  | asg (t : MT) (e : ME) | par (is : List Nat) (as : ME)
  | sub (o i e : ME)
  | ifs (c : ME) (a b : MS) | whl (c : ME) (b : MS) | fors (t : MT) (it : ME) (b : MS)
  | ret (e : ME) | retN | raise (c : Nat) (as : ME) | expr (e : ME) | pass

/-! ### operations on values -/
def cap : Nat := 16777216
def items : MV → Option (List MV)
  | .list xs => some xs
  | .tuple xs => some xs
  | _ => none
/-- a sequence: frozen, a tuple, or a mutable list's items -/
def seqM (v : MV) : M (List MV) := fun h => match v with
  | .list xs => .ok xs h
  | .tuple xs => .ok xs h
  | .dict kvs => match rfOf (.dict kvs) with
    | some n => (match h[n]? with
      | some (.lst xs) => .ok xs h
      | _ => .bad)
    | none => .bad
  | _ => .bad
def mkList (mu : Bool) (xs : List MV) : M MV := fun h => if mu then (if PyData.plainAll xs then .ok (rf h.length) (h ++ [.lst xs]) else .bad) else .ok (.list xs) h
def truthM (v : MV) : M Bool := fun h => match v with
  | .none => .ok false h
  | .bool b => .ok b h
  | .int i => .ok (i != 0) h
  | .str x => if x.length ≤ cap then .ok ((x.length : Int) != 0) h else .bad
  | .list xs => .ok (!xs.isEmpty) h
  | .tuple xs => .ok (!xs.isEmpty) h
  | .dict kvs => match rfOf (.dict kvs) with
    | some n => (match h[n]? with
      | some (.lst xs) => .ok (!xs.isEmpty) h
      | _ => .bad)
    | none => .bad
def isNon : MV → Bool
  | .none => true
  | _ => false
def deepOk (a b : MV) : Bool := decide (min a.depth b.depth ≤ 100)
def eqM (a b : MV) : M Bool := if a.plain && b.plain && deepOk a b then M.pure (PyData.eqv a b) else bad
def ltM (a b : MV) : M Bool := if alike a b && !isNon a && deepOk a b && a.plain && b.plain then M.pure (dataLt a b) else bad
def inSeq (a b : MV) : M Bool := do
  let xs ← seqM b
  if a.plain && PyData.plainAll xs && decide (min (PyData.depthAll xs) a.depth ≤ 100) then M.pure (xs.any fun y => PyData.eqv y a) else bad
def keyEq : MV → MV → Bool
  | .int i, .int j => decide (i = j)
  | .str x, .str y => decide (x = y)
  | _, _ => false
def isKey : MV → Bool
  | .int _ => true
  | .str _ => true
  | _ => false
def dget (k : MV) : List (MV × MV) → Option MV
  | [] => none
  | (a, b) :: r => if keyEq a k then some b else dget k r
def inM (a b : MV) : M Bool := fun h => match rfOf b with
  | some n => (match h[n]? with
    | some (.dct es) => if isKey a then .ok (dget a es).isSome h else .bad
    | _ => inSeq a b h)
  | none => inSeq a b h
/-- is: with None, True, False alone -/
def isM (a b : MV) : M Bool := match b with
  | .none => M.pure (isNon a)
  | .bool k => (match a with | .bool c => M.pure (decide (c = k)) | _ => bad)
  | _ => bad
def cmpM : COp → MV → MV → M Bool
  | .eq, a, b => eqM a b
  | .ne, a, b => M.bind (eqM a b) fun r => M.pure (!r)
  | .lt, a, b => ltM a b
  | .gt, a, b => ltM b a
  | .le, a, b => M.bind (ltM b a) fun r => M.pure (!r)
  | .ge, a, b => M.bind (ltM a b) fun r => M.pure (!r)
  | .isin, a, b => inM a b
  | .notin, a, b => M.bind (inM a b) fun r => M.pure (!r)
  | .is, a, b => isM a b
  | .isnot, a, b => M.bind (isM a b) fun r => M.pure (!r)
/-- an int's bits, at most -/
def small (i : Int) : Bool := decide (-(2 ^ 64) < i) && decide (i < 2 ^ 64)
def rep (xs : List MV) (k : Int) : List MV := (List.replicate k.toNat xs).flatten
def repOk (n : Nat) (k : Int) : Bool := decide (-(2 ^ 63) ≤ k) && decide (k < 2 ^ 63) && decide (n * k.toNat ≤ cap)
def trepOk (n : Nat) (k : Int) : Bool := decide (-(2 ^ 63) ≤ k) && decide (k ≤ 1000) && decide (n ≤ 1000)
def divOk (i j : Int) : Bool := decide (0 < j) && (decide (j < 1073741824) || decide (j.natAbs < 2 ^ 9000))
def mulOk (i j : Int) : Bool := small i || small j || decide (i.natAbs < 2 ^ 9000) && decide (j.natAbs < 2 ^ 9000)
def binM : BOp → MV → MV → M MV
  | .add, .int i, .int j => M.pure (.int (i + j))
  | .add, .str x, .str y => if x.length + y.length ≤ cap then M.pure (.str (x ++ y)) else bad
  | .add, .list xs, .list ys => if xs.length + ys.length ≤ cap then M.pure (.list (xs ++ ys)) else bad
  | .add, .tuple xs, .tuple ys => if xs.length + ys.length ≤ cap then M.pure (.tuple (xs ++ ys)) else bad
  | .sub, .int i, .int j => M.pure (.int (i - j))
  | .mul, .int i, .int j => if mulOk i j then M.pure (.int (i * j)) else bad
  | .mul, .tuple xs, .int k => if trepOk xs.length k then M.pure (.tuple (rep xs k)) else bad
  | .fdiv, .int i, .int j => if divOk i j then M.pure (.int (i / j)) else bad
  | .mod, .int i, .int j => if 0 < j then M.pure (.int (i % j)) else bad
  | .pow, .int i, .int j => if decide (0 ≤ j) && decide (j ≤ 1000000) && decide (i.natAbs < 2 ^ 64) then M.pure (.int (i ^ j.toNat)) else bad
  | _, _, _ => bad
def lmulM (mu : Bool) : MV → MV → M MV
  | .list xs, .int k => if repOk xs.length k then mkList mu (rep xs k) else bad
  | _, _ => bad
def intsOf : List MV → Option (List Int)
  | [] => some []
  | .int i :: r => (intsOf r).map (i :: ·)
  | _ => none
def boolsOf : List MV → Option (List Bool)
  | [] => some []
  | .bool i :: r => (boolsOf r).map (i :: ·)
  | _ => none
def allAlike (xs : List MV) : Bool := xs.all fun x => xs.all fun y => alike x y
/-- sorting: insertion, stable -/
def ins (x : MV) : List MV → List MV
  | [] => [x]
  | y :: r => if dataLt y x then y :: ins x r else x :: y :: r
def isort : List MV → List MV
  | [] => []
  | x :: r => ins x (isort r)
/-- what sorted may take: alike, no None, no empty tuple -/
def sortable (xs : List MV) : Bool := allAlike xs && (xs.all (fun x => match x with | .tuple (_ :: _) => true | _ => false) || xs.all (fun x => match x with | .none => false | .tuple _ => false | _ => true)) && decide (PyData.depthAll xs ≤ 100) && PyData.plainAll xs
def dedup (xs : List MV) : List MV := xs.foldl (fun acc x => if acc.any (fun y => PyData.eqv y x) then acc else acc ++ [x]) []
/-- sorted(set(..)) of ints -/
def insU (x : Int) : List Int → List Int
  | [] => [x]
  | y :: r => if x < y then x :: y :: r else if x = y then y :: r else y :: insU x r
def sortU : List Int → List Int
  | [] => []
  | x :: r => insU x (sortU r)
/-- sets: of ints, or of pairs of ints -/
def setOk (xs : List MV) : Bool := xs.all (fun x => match x with | .int _ => true | _ => false) || xs.all (fun x => match x with | .tuple [.int _, .int _] => true | _ => false)
def bestM (gt : Bool) (xs : List MV) : M MV := match xs with
  | x :: r => if allAlike (x :: r) && (x :: r).all (fun y => !isNon y) && PyData.plainAll (x :: r) && decide (PyData.depthAll (x :: r) ≤ 100) then
      M.pure (r.foldl (fun a y => if (if gt then dataLt a y else dataLt y a) then y else a) x) else bad
  | [] => bad
def b1M : B1 → MV → M MV
  | .len, .str x => if x.length ≤ cap then M.pure (.int x.length) else bad
  | .len, .dict kvs => fun h => match rfOf (.dict kvs) with
    | some n => (match h[n]? with
      | some (.lst xs) => .ok (.int xs.length) h
      | some (.dct xs) => .ok (.int xs.length) h
      | _ => .bad)
    | none => (match scOf (.dict kvs) with
      | some xs => .ok (.int xs.length) h
      | none => .bad)
  | .len, v => do let xs ← seqM v; M.pure (.int xs.length)
  | .abs, .int i => M.pure (.int (if i < 0 then -i else i))
  | .int, .int i => M.pure (.int i)
  | .int, .bool b => M.pure (.int (if b then 1 else 0))
  | .bool, .bool b => M.pure (.bool b)
  | .str, .int i => if i.natAbs.log2 < 1920 then M.pure (.str (toString i)) else bad
  | .sum, v => do let xs ← seqM v; let is ← opt (intsOf xs); M.pure (.int is.sum)
  | .max, v => do let xs ← seqM v; bestM true xs
  | .min, v => do let xs ← seqM v; bestM false xs
  | .all, v => do let xs ← seqM v; let bs ← opt (boolsOf xs); (match v with | .tuple _ => bad | _ => M.pure (.bool (bs.all id)))
  | .any, v => do let xs ← seqM v; let bs ← opt (boolsOf xs); (match v with | .tuple _ => bad | _ => M.pure (.bool (bs.any id)))
  | .sorted, v => do let xs ← seqM v; if sortable xs then M.pure (.list (isort xs)) else bad
  | .tuple, v => do let xs ← seqM v; M.pure (.tuple xs)
  | .list mu, v => do let xs ← seqM v; mkList mu xs
  | .sortSet, v => do let xs ← seqM v; let is ← opt (intsOf xs); (match v with | .tuple _ => bad | _ => if is.length < 63 then M.pure (.list ((sortU is).map .int)) else bad)
  | .lenSet, v => do let xs ← seqM v; if setOk xs && decide (xs.length < 64) then M.pure (.int (dedup xs).length) else bad
  | _, _ => bad
def tyIs : Ty → MV → Bool
  | .int, .int _ => true
  | .int, .bool _ => true
  | .bool, .bool _ => true
  | .tuple, .tuple _ => true
  | .list, .list _ => true
  | .str, .str _ => true
  | _, _ => false
def isiM (ts : List Ty) (v : MV) : M MV := match v with
  | .dict _ => bad
  | _ => M.pure (.bool (ts.any fun t => tyIs t v))
/-- the place of an index -/
def ixOf (n : Nat) (i : Int) : Option Nat := if 0 ≤ i then (if i < n then some i.toNat else none) else if -(n : Int) ≤ i then some (i + n).toNat else none
def atM (xs : List MV) (i : Int) : M MV := opt ((ixOf xs.length i).bind fun j => xs[j]?)
def dput (k v : MV) (es : List (MV × MV)) : List (MV × MV) :=
  if (es.any fun e => keyEq e.1 k) = true then es.map (fun e => if keyEq e.1 k = true then (e.1, v) else e) else es ++ [(k, v)]
def idxM (a b : MV) : M MV := fun h => match a, b with
  | .list xs, .int i => atM xs i h
  | .tuple xs, .int i => atM xs i h
  | .dict kvs, k => (match rfOf (.dict kvs) with
    | some n => (match h[n]? with
      | some (.lst xs) => (match k with | .int i => atM xs i h | _ => .bad)
      | some (.dct es) => if isKey k then opt (dget k es) h else .bad
      | none => .bad)
    | none => (match scOf (.dict kvs), k with
      | some xs, .int i => atM xs i h
      | _, _ => .bad))
  | _, _ => .bad
/-- a bound of a slice -/
def sIx (n d : Nat) : Option Int → Nat
  | none => d
  | some v => if v < 0 then (v + n).toNat else min v.toNat n
def cut (xs : List MV) (lo hi : Option Int) : List MV := (xs.drop (sIx xs.length 0 lo)).take (sIx xs.length xs.length hi - sIx xs.length 0 lo)
def slM (a : MV) (l u : Option Int) : M MV := match a with
    | .list xs => M.pure (.list (cut xs l u))
    | .tuple xs => M.pure (.tuple (cut xs l u))
    | _ => bad
def revM : MV → M MV
  | .list xs => M.pure (.list xs.reverse)
  | _ => bad
def rangeL (lo : Int) (n : Nat) : List MV := (List.range n).map fun k => .int (lo + (k : Nat))
def rngOk (i j : Int) : Bool := decide (-(2 ^ 62) ≤ i) && decide (i < 2 ^ 62) && decide (-(2 ^ 62) ≤ j) && decide (j < 2 ^ 62)
def rngM (a b : MV) : M (List MV) := match a, b with
  | .int i, .int j => if rngOk i j && decide ((j - i).toNat ≤ cap) then M.pure (rangeL i (j - i).toNat) else bad
  | _, _ => bad
/-- in range(n) -/
def inrM (neg : Bool) (a b : MV) : M MV := match a, b with
  | .int i, .int n => M.pure (.bool (if neg = true then !decide (0 ≤ i ∧ i < n) else decide (0 ≤ i ∧ i < n)))
  | _, _ => bad
def enumL : Nat → List MV → List MV
  | _, [] => []
  | k, x :: r => .tuple [.int k, x] :: enumL (k + 1) r
def zipL : List MV → List MV → List MV
  | x :: xs, y :: ys => .tuple [x, y] :: zipL xs ys
  | _, _ => []
def zip3L : List MV → List MV → List MV → List MV
  | x :: xs, y :: ys, z :: zs => .tuple [x, y, z] :: zip3L xs ys zs
  | _, _, _ => []
/-- what may be walked: frozen lists, tuples -/
def walkM (v : MV) : M (List MV) := opt (items v)
def setAll (σ : MSt) : List Nat → List MV → MSt
  | i :: is, v :: vs => setAll (σ.set i (some v)) is vs
  | _, _ => σ
def bindM : MT → MV → MSt → M MSt
  | .nm i, v, σ => M.pure (σ.set i (some v))
  | .tup is, .tuple vs, σ => if vs.length = is.length then M.pure (setAll σ is vs) else bad
  | _, _, _ => bad
def wipeM (σ : MSt) : List Nat → MSt
  | [] => σ
  | v :: vs => (wipeM σ vs).set v none
def onRef (v : MV) (f : MO → Option (MV × MO)) : M MV := fun h => match rfOf v with
  | some n => (match h[n]? with
    | some o => (match f o with
      | some (r, o') => .ok r (h.set n o')
      | none => .bad)
    | none => .bad)
  | none => .bad
/-- a list stands there -/
def lstChk (v : MV) : M Unit := fun h => match v with
  | .list _ => .ok () h
  | .dict kvs => (match rfOf (.dict kvs) with
    | some n => (match h[n]? with
      | some (.lst _) => .ok () h
      | _ => .bad)
    | none => .bad)
  | _ => .bad
def appM (o a : MV) : M MV := if a.plain then onRef o fun
    | .lst xs => if xs.length < cap then some (.none, .lst (xs ++ [a])) else none
    | _ => none
  else bad
def popM (o a : MV) : M MV := match a with
  | .int i => onRef o fun
    | .lst xs => (ixOf xs.length i).bind fun k => (xs[k]?).map fun y => (y, .lst (xs.eraseIdx k))
    | _ => none
  | _ => bad
def putM (o i v : MV) : M MV := if v.plain then onRef o fun
    | .lst xs => (match i with
      | .int k => (ixOf xs.length k).map fun j => (.none, .lst (xs.set j v))
      | _ => none)
    | .dct es => if isKey i && decide (es.length < 65536) then some (.none, .dct (dput i v es)) else none
  else bad
def indexM (o a : MV) : M MV := do
  let xs ← seqM o
  if a.plain && PyData.plainAll xs && decide (min (PyData.depthAll xs) a.depth ≤ 100) then
    (match o with | .tuple _ => bad | _ => opt ((PySem.SeqAt.dataPlace xs a).map fun (j : Nat) => .int j))
  else bad
def countM (o a : MV) : M MV := do
  let xs ← seqM o
  if a.plain && PyData.plainAll xs && decide (min (PyData.depthAll xs) a.depth ≤ 100) then
    (match o with | .tuple _ => bad | _ => M.pure (.int (xs.countP fun y => PyData.eqv y a)))
  else bad

/-! ### the interpreter -/
inductive Fl where
  | nx (σ : MSt)
  | rt (v : MV)
  | bk (σ : MSt)
  | ct (σ : MSt)
/-- what is called: defs and lambdas by their numbers; the suspended frames' stores stand beside -/
structure Cfg where
  fn : Nat → List (Option MSt) → List MV → M MV
  lam : Nat → MSt → List (Option MSt) → M MV
  gl : Nat → Option Int
def lcF (bind : MV → MSt → M MSt) (test : MSt → M Bool) (elt : MSt → M MV) (σ : MSt) : List MV → M (List MV)
  | [] => M.pure []
  | v :: vs => M.bind (bind v σ) fun σ' => M.bind (test σ') fun b =>
    if b = true then M.bind (elt σ') fun y => M.bind (lcF bind test elt σ vs) fun r => M.pure (y :: r) else lcF bind test elt σ vs
def loopF (body : MV → MSt → M Fl) : List MV → MSt → M Fl
  | [], σ => M.pure (.nx σ)
  | v :: vs, σ => M.bind (body v σ) fun
    | .nx σ' => loopF body vs σ'
    | .ct σ' => loopF body vs σ'
    | .bk σ' => M.pure (.nx σ')
    | .rt r => M.pure (.rt r)
def whileN (test : MSt → M Bool) (body : MSt → M Fl) : Nat → MSt → M Fl
  | 0, _ => bad
  | n + 1, σ => M.bind (test σ) fun b => if b = true then M.bind (body σ) fun
      | .nx σ' => whileN test body n σ'
      | .ct σ' => whileN test body n σ'
      | .bk σ' => M.pure (.nx σ')
      | .rt r => M.pure (.rt r)
    else M.pure (.nx σ)
/-- the suspended frame that a lambda was made in -/
def frameOf (K : List (Option MSt)) (j : Nat) : M MSt := opt (match K[j]? with | some (some σ) => some σ | _ => none)

section
variable (c : Cfg) (K : List (Option MSt))
mutual
def evE (top : Bool) : ME → MSt → M MV
  | .non, _ => M.pure .none
  | .tt, _ => M.pure (.bool true)
  | .ff, _ => M.pure (.bool false)
  | .int i, _ => M.pure (.int i)
  | .str s, _ => M.pure (.str s)
  | .var i, σ => opt (σ[i]?.join)
  | .glb x, _ => opt ((c.gl x).map .int)
  | .fnv f, _ => M.pure (fv f)
  | .tup as, σ => M.bind (evA top as σ) fun vs => if vs.length ≤ cap then M.pure (.tuple vs) else bad
  | .lst mu as, σ => M.bind (evA top as σ) fun vs => if vs.length ≤ cap then mkList mu vs else bad
  | .bin op a b, σ => M.bind (evE top a σ) fun x => M.bind (evE top b σ) fun y => binM op x y
  | .lmul mu a b, σ => M.bind (evE top a σ) fun x => M.bind (evE top b σ) fun y => lmulM mu x y
  | .neg a, σ => M.bind (evE top a σ) fun | .int i => M.pure (.int (-i)) | _ => bad
  | .not a, σ => M.bind (evE top a σ) fun v => M.bind (truthM v) fun b => M.pure (.bool (!b))
  | .cmp op a b, σ => M.bind (evE top a σ) fun x => M.bind (evE top b σ) fun y => M.bind (cmpM op x y) fun r => M.pure (.bool r)
  | .cmp2 op op' a b d, σ => M.bind (evE top a σ) fun x => M.bind (evE top b σ) fun y => M.bind (cmpM op x y) fun r =>
      if r = true then M.bind (evE top d σ) fun z => M.bind (cmpM op' y z) fun r' => M.pure (.bool r') else M.pure (.bool false)
  | .and a b, σ => M.bind (evE top a σ) fun | .bool true => evE top b σ | .bool false => M.pure (.bool false) | _ => bad
  | .or a b, σ => M.bind (evE top a σ) fun | .bool false => evE top b σ | .bool true => M.pure (.bool true) | _ => bad
  | .ite t a b, σ => M.bind (evT top t σ) fun r => if r = true then evE top a σ else evE top b σ
  | .call f as, σ => M.bind (evA top as σ) fun vs => c.fn f (K ++ [if top then some σ else none]) vs
  | .callV f as, σ => M.bind (evE top f σ) fun v => M.bind (evA top as σ) fun vs =>
      match fvOf v with
      | some g => c.fn g (K ++ [if top then some σ else none]) vs
      | none => (match clOf v with
        | some (i, j) => if vs.isEmpty then M.bind (frameOf K j) fun τ => c.lam i τ (K ++ [if top then some σ else none]) else bad
        | none => bad)
  | .b1 b a, σ => M.bind (evI top a σ) fun v => b1M b v
  | .max2 a b, σ => M.bind (evE top a σ) fun x => M.bind (evE top b σ) fun y => (match x, y with | .int i, .int j => M.pure (.int (if j > i then j else i)) | _, _ => bad)
  | .min2 a b, σ => M.bind (evE top a σ) fun x => M.bind (evE top b σ) fun y => (match x, y with | .int i, .int j => M.pure (.int (if j < i then j else i)) | _, _ => bad)
  | .isi ts a, σ => M.bind (evE top a σ) fun x => isiM ts x
  | .idx a b, σ => M.bind (evE top a σ) fun x => M.bind (evE top b σ) fun y => idxM x y
  | .sl a lo hi, σ => M.bind (evE top a σ) fun x => M.bind (evP top lo σ) fun l => M.bind (evP top hi σ) fun u => slM x l u
  | .rev a, σ => M.bind (evE top a σ) fun x => revM x
  | .lc mu own tg it t elt, σ => M.bind (evI top it σ) fun v => M.bind (opt (items v)) fun xs =>
      M.bind (noexc (lcF (bindM tg) (fun τ => evT false t τ) (fun τ => evE false elt τ) (wipeM σ own) xs)) fun ys => if ys.length ≤ cap then mkList mu ys else bad
  | .lc2 own own1 tg it tg1 it1 t elt, σ => M.bind (evI top it σ) fun v => M.bind (opt (items v)) fun xs =>
      M.bind (noexc (lcF (bindM tg) (fun _ => M.pure true) (fun τ => M.bind (evI false it1 τ) fun v1 => M.bind (opt (items v1)) fun xs1 =>
        M.bind (lcF (bindM tg1) (fun ω => evT false t ω) (fun ω => evE false elt ω) (wipeM τ own1) xs1) fun ys => M.pure (.list ys)) (wipeM σ own) xs)) fun yss =>
      let ys := yss.flatMap fun | .list l => l | _ => []
      if ys.length ≤ cap then M.pure (.list ys) else bad
  | .app o a, σ => M.bind (evE top o σ) fun x => M.bind (lstChk x) fun _ => M.bind (evE top a σ) fun y => appM x y
  | .popAt o a, σ => M.bind (evE top o σ) fun x => M.bind (lstChk x) fun _ => M.bind (evE top a σ) fun y => popM x y
  | .index o a, σ => M.bind (evE top o σ) fun x => M.bind (lstChk x) fun _ => M.bind (evE top a σ) fun y => indexM x y
  | .count o a, σ => M.bind (evE top o σ) fun x => M.bind (lstChk x) fun _ => M.bind (evE top a σ) fun y => countM x y
  | .dnew, _ => fun h => .ok (rf h.length) (h ++ [.dct []])
  | .lam i, _ => if top then M.pure (cl i K.length) else bad
  | .inrg neg a hi, σ => M.bind (evE top a σ) fun x => M.bind (evE top hi σ) fun y => inrM neg x y
  | _, _ => bad
def evA (top : Bool) : ME → MSt → M (List MV)
  | .nil, _ => M.pure []
  | .cons a r, σ => M.bind (evE top a σ) fun v => M.bind (evA top r σ) fun vs => M.pure (v :: vs)
  | _, _ => bad
/-- an iterable: the frozen list of what is walked; or the thing itself -/
def evI (top : Bool) : ME → MSt → M MV
  | .seq e, σ => evE top e σ
  | .rng1 a, σ => M.bind (evE top a σ) fun x => M.bind (rngM (.int 0) x) fun xs => M.pure (.list xs)
  | .rng2 a b, σ => M.bind (evE top a σ) fun x => M.bind (evE top b σ) fun y => M.bind (rngM x y) fun xs => M.pure (.list xs)
  | .enm a, σ => M.bind (evE top a σ) fun x => M.bind (walkM x) fun xs => M.pure (.list (enumL 0 xs))
  | .zp a b, σ => M.bind (evE top a σ) fun x => M.bind (evE top b σ) fun y => M.bind (walkM x) fun xs => M.bind (walkM y) fun ys => M.pure (.list (zipL xs ys))
  | .zp3 a b d, σ => M.bind (evE top a σ) fun x => M.bind (evE top b σ) fun y => M.bind (evE top d σ) fun z =>
      M.bind (walkM x) fun xs => M.bind (walkM y) fun ys => M.bind (walkM z) fun zs => M.pure (.list (zip3L xs ys zs))
  | _, _ => bad
/-- a bound of a slice: nil, or an int -/
def evP (top : Bool) : ME → MSt → M (Option Int)
  | .nil, _ => M.pure none
  | .seq e, σ => M.bind (evE top e σ) fun | .int i => M.pure (some i) | _ => bad
  | _, _ => bad
def evT (top : Bool) : ME → MSt → M Bool
  | .tv a, σ => M.bind (evE top a σ) fun v => truthM v
  | .tand a b, σ => M.bind (evT top a σ) fun r => if r = true then evT top b σ else M.pure false
  | .tor a b, σ => M.bind (evT top a σ) fun r => if r = true then M.pure true else evT top b σ
  | .tnot a, σ => M.bind (evT top a σ) fun r => M.pure (!r)
  | _, _ => bad
end
/-- turns of a while, at most -/
def fuel : Nat := 10 ^ 40
def evS : MS → MSt → M Fl
  | .skip, σ => M.pure (.nx σ)
  | .pass, σ => M.pure (.nx σ)
  | .seq a b, σ => M.bind (evS a σ) fun | .nx σ' => evS b σ' | f => M.pure f
  | .asg t e, σ => M.bind (evE c K true e σ) fun v => M.bind (bindM t v σ) fun σ' => M.pure (.nx σ')
  | .par is as, σ => M.bind (evA c K true as σ) fun vs => if vs.length = is.length then M.pure (.nx (setAll σ is vs)) else bad
  | .sub o i e, σ => M.bind (evE c K true e σ) fun v => M.bind (evE c K true o σ) fun x => M.bind (evE c K true i σ) fun k => M.bind (putM x k v) fun _ => M.pure (.nx σ)
  | .ifs t a b, σ => M.bind (evT c K true t σ) fun r => if r = true then evS a σ else evS b σ
  | .whl t b, σ => whileN (fun τ => evT c K true t τ) (fun τ => evS b τ) fuel σ
  | .fors t it b, σ => M.bind (evI c K true it σ) fun v => M.bind (opt (items v)) fun xs => loopF (fun v τ => M.bind (bindM t v τ) fun τ' => evS b τ') xs σ
  | .ret e, σ => M.bind (evE c K true e σ) fun v => M.pure (.rt v)
  | .retN, _ => M.pure (.rt .none)
  | .raise k as, σ => M.bind (evA c K true as σ) fun vs => fun h => (match vs with
      | [] => .exc k 0 h
      | [.int n] => .exc k n h
      | _ => .bad)
  | .expr e, σ => M.bind (evE c K true e σ) fun _ => M.pure (.nx σ)
end

/-- a def: parameters, slots, body -/
structure MD where
  np : Nat
  ns : Nat
  fz : Bool
  body : MS
def startM (vs : List MV) (n : Nat) : MSt := vs.map some ++ List.replicate (n - vs.length) none
/-! what may be handed back from a frame numbered j: no lambda of its own -/
mutual
def okRet (j : Nat) : MV → Bool
  | .none => true
  | .bool _ => true
  | .int _ => true
  | .str _ => true
  | .list xs => okRets j xs
  | .tuple xs => okRets j xs
  | .dict kvs => match clOf (.dict kvs) with
    | some (_, k) => decide (k < j)
    | none => true
def okRets (j : Nat) : List MV → Bool
  | [] => true
  | x :: xs => okRet j x && okRets j xs
end
/-- a list that the frame made, frozen on its way out -/
def frzOf (n0 : Nat) (h' : MH) (v : MV) : Option (List MV) := match rfOf v with
  | some n => if n0 ≤ n then (match h'[n]? with
    | some (.lst xs) => some xs
    | _ => none) else none
  | none => none
def gc (fz : Bool) (j : Nat) (h : MH) : Res Fl → Res MV
  | .ok (.rt v) h' => if v.plain then .ok v (h'.take h.length) else (match (if fz = true then frzOf h.length h' v else none) with
    | some xs => .ok (.list xs) (h'.take h.length)
    | none => if okRet j v then .ok v h' else .bad)
  | .ok (.nx _) h' => .ok .none (h'.take h.length)
  | .ok _ _ => .bad
  | .exc c n h' => .exc c n (h'.take h.length)
  | .bad => .bad
def callM (P : Nat → Option MD) (L : Nat → Option ME) (G : Nat → Option Int) : Nat → Cfg
  | 0 => ⟨fun _ _ _ => bad, fun _ _ _ => bad, G⟩
  | d + 1 => {
      fn := fun f K vs h => match P f with
        | some md => if vs.length = md.np then gc md.fz K.length h (evS (callM P L G d) K md.body (startM vs md.ns) h) else .bad
        | none => .bad
      lam := fun i τ K h => match L i with
        | some e => gc true K.length h (M.bind (evE (callM P L G d) K false e τ) (fun v => M.pure (.rt v)) h)
        | none => .bad
      gl := G }
end MM

-- Snd1
set_option autoImplicit false
set_option linter.all false
set_option Elab.async false
set_option maxRecDepth 100000
set_option maxHeartbeats 4000000
/-! soundness of M over the hand layer, part 1: what stands for what -/
namespace Snd
open PySem PySem.Spec PyProof.Rows L2 MM
abbrev St := L2.St

/-- the frames: a def's number and env each; what the suspended ones hold -/
structure Fs where
  ev : List (Nat × Env)
  fr : List (Option (MSt × St))
/-- the fixed world of a law's proof -/
structure GW where
  P : Program
  w : World
  K : PySem.W.Frag
  mg : Str → Option Value
  T : List (Addr × Str)
  nm : Nat → Str
  gn : Nat → Str
  en : Nat → Str
  lam : Nat → Option (Nat × Arguments × Expr × Scope)
  N : Nat → List Str
  gs : List Addr

/-- the object at f is a lambda's function object -/
def FnO (f : Addr) (o : Obj) : HO := .ext fun h => h.get? f = some o

/-- not a mutable thing's address -/
def NoM (g : GW) (ρ : List Addr) (a : Addr) : Prop := a ∉ ρ ∧ a ∉ g.gs
section
variable (g : GW) (envs : Fs) (ρ : List Addr) (H : Hp)
def RepX (kvs : List (PyData × PyData)) (v : V) : Prop := match kvs with
  | [(.none, .int i)] => ∃ a, v = .ref a ∧ ρ[i.toNat]? = some a
  | [(.int _, .list xs)] => ∃ (a : Addr) (is : List Int), v = .ref a ∧ (SqL g.K (fun _ => none) a (is.map V.int) ∨ Rd H a (.lst (is.map V.int)) ∧ NoM g ρ a) ∧ xs = is.map PyData.int
  | [(.bool true, .int i)] => ∃ a, v = .ref a ∧ g.mg (g.nm i.toNat) = some (.ref a)
  | [(.bool false, .int i), (.none, .int j)] => ∃ f c' pm ctv dn env params body scope, v = .ref f ∧ envs.ev[j.toNat]? = some (dn, env) ∧ g.lam i.toNat = some (dn, params, body, scope) ∧
      H f = some (FnO f (PySem.W.kla_obj "<lambda>" (env.qual ++ "<lambda>") params body scope (cloFrom env.cells scope.names []) pm c' ctv)) ∧ H c' = some (LamX.CodeO c' (env.qual ++ "<lambda>"))
  | _ => False
mutual
/-- the value v stands for the datum d -/
def Rep : MV → V → Prop
  | .none, v => v = .non
  | .bool b, v => v = .bl b
  | .int i, v => v = .int i
  | .str x, v => v = .str x
  | .list xs, v => ∃ a vs, v = .ref a ∧ H a = some (.lst vs) ∧ NoM g ρ a ∧ Reps xs vs
  | .tuple xs, v => ∃ a vs, v = .ref a ∧ SqT g.K H a vs ∧ Reps xs vs
  | .dict kvs, v => RepX g envs ρ H kvs v
def Reps : List MV → List V → Prop
  | [], vs => vs = []
  | x :: xs, vs => ∃ y ys, vs = y :: ys ∧ Rep x y ∧ Reps xs ys
end
def keyRel (a : MV) (k : Key) : Prop := match a with
  | .int i => k = .inl i
  | .str s => k = .inr s
  | _ => False
/-- a dict's pairs -/
def RepK : List (MV × MV) → List (Key × V) → Prop
  | [], vs => vs = []
  | (k, x) :: r, vs => ∃ q y ys, vs = (q, y) :: ys ∧ keyRel k q ∧ Rep g envs ρ H x y ∧ x.plain = true ∧ RepK r ys
def RepO (a : Addr) : MO → Prop
  | .lst xs => PyData.plainAll xs = true ∧ ∃ vs, H a = some (.lst vs) ∧ Reps g envs ρ H xs vs
  | .dct kvs => ∃ ys, H a = some (.dK ys) ∧ RepK g envs ρ H kvs ys
def RepS (τ : MSt) (σ : St) : Prop := τ.length = σ.length ∧ ∀ (i : Nat) (d : MV), τ[i]? = some (some d) → ∃ v, σ[i]? = some (some v) ∧ Rep g envs ρ H d v
/-- the abstract heap stands for M's heap -/
structure RepH (h : MH) : Prop where
  len : ρ.length = h.length
  nd : ρ.Nodup
  at_ : ∀ (n : Nat) (o : MO) (a : Addr), h[n]? = some o → ρ[n]? = some a → RepO g envs ρ H a o
  tabs : LamX.Tabs g.T H
  frs : ∀ (j : Nat) (τ : MSt) (σ : St), envs.fr[j]? = some (some (τ, σ)) → RepS g envs ρ H τ σ
  gsok : ∀ a ∈ g.gs, (∃ vs, H a = some (.lst vs)) ∧ a ∉ ρ
end

/-- what a step may do -/
structure Grow (g : GW) (ρ : List Addr) (H : Hp) (ρ' : List Addr) (H' : Hp) : Prop where
  pre : ∃ ext, ρ' = ρ ++ ext
  fresh : ∀ a, a ∈ ρ' → a ∈ ρ ∨ H a = none
  stay : ∀ a o, H a = some o → a ∉ ρ → (∀ ps, o ≠ .tbl ps) → H' a = some o
  tb : ∀ a ps, H a = some (.tbl ps) → ∃ ps', H' a = some (.tbl ps')

section
variable {g : GW} {envs : Fs} {ρ ρ' ρ'' : List Addr} {H H' H'' : Hp}
theorem Grow.refl : Grow g ρ H ρ H := ⟨⟨[], by simp⟩, fun _ h => .inl h, fun _ _ h _ _ => h, fun _ ps h => ⟨ps, h⟩⟩
theorem Grow.notIn (gr : Grow g ρ H ρ' H') {a : Addr} {o : HO} (h : H a = some o) (n : a ∉ ρ) : a ∉ ρ' := fun hm => by
  rcases gr.fresh a hm with z | z
  · exact n z
  · rw [h] at z; cases z
theorem Grow.trans (a : Grow g ρ H ρ' H') (b : Grow g ρ' H' ρ'' H'') : Grow g ρ H ρ'' H'' where
  pre := by
    obtain ⟨e1, rfl⟩ := a.pre
    obtain ⟨e2, rfl⟩ := b.pre
    exact ⟨e1 ++ e2, by rw [List.append_assoc]⟩
  fresh := fun x hx => by
    rcases b.fresh x hx with z | z
    · exact a.fresh x z
    · by_cases hr : x ∈ ρ
      · exact .inl hr
      · refine .inr ?_
        cases q : H x with
        | none => rfl
        | some o =>
          by_cases ht : ∃ ps, o = .tbl ps
          · obtain ⟨ps, rfl⟩ := ht
            obtain ⟨o', e⟩ := a.tb x ps q
            rw [z] at e; cases e
          · have := a.stay x o q hr (fun ps e => ht ⟨ps, e⟩)
            rw [z] at this; cases this
  stay := fun x o hx hn ht => b.stay x o (a.stay x o hx hn ht) (a.notIn hx hn) ht
  tb := fun x ps hx => let ⟨ps', e⟩ := a.tb x ps hx; b.tb x ps' e
theorem Rd.grow {a : Addr} {vs : List V} (gr : Grow g ρ H ρ' H') (n : a ∉ ρ) (h : Rd H a (.lst vs)) : Rd H' a (.lst vs) := by
  rcases h with h | ⟨o, h⟩
  · exact .inl (gr.stay a _ h n (fun ps z => by cases z))
  · exact .inr ⟨o, gr.stay a _ h n (fun ps z => by cases z)⟩
theorem Rd.growT {a : Addr} {vs : List V} (rh : ∀ a ∈ ρ, ∀ vs o, H a ≠ some (.tup vs) ∧ H a ≠ some (.frz o (.tup vs))) (gr : Grow g ρ H ρ' H') (h : Rd H a (.tup vs)) : Rd H' a (.tup vs) := by
  rcases h with h | ⟨o, h⟩
  · exact .inl (gr.stay a _ h (fun hm => (rh a hm vs default).1 h) (fun ps z => by cases z))
  · exact .inr ⟨o, gr.stay a _ h (fun hm => (rh a hm vs o).2 h) (fun ps z => by cases z)⟩
/-- the mutable addresses hold mutable things -/
def MutOk (ρ : List Addr) (H : Hp) : Prop := ∀ a ∈ ρ, (∃ vs, H a = some (.lst vs)) ∨ ∃ ys, H a = some (.dK ys)
theorem RepH.mut {h : MH} (r : RepH g envs ρ H h) : MutOk ρ H := fun a ha => by
  obtain ⟨n, hn, e⟩ := List.mem_iff_getElem.mp ha
  have hl : n < h.length := by rw [← r.len]; exact hn
  have q := r.at_ n h[n] a (List.getElem?_eq_getElem hl) (by rw [List.getElem?_eq_getElem hn, e])
  cases hm : h[n] with
  | lst xs => rw [hm] at q; obtain ⟨_, vs, e, _⟩ := q; exact .inl ⟨vs, e⟩
  | dct kvs => rw [hm] at q; obtain ⟨ys, e, _⟩ := q; exact .inr ⟨ys, e⟩
theorem MutOk.no (m : MutOk ρ H) {a : Addr} {o : HO} (h : H a = some o) (n1 : ∀ vs, o ≠ .lst vs) (n2 : ∀ ys, o ≠ .dK ys) : a ∉ ρ := fun hm => by
  rcases m a hm with ⟨vs, e⟩ | ⟨ys, e⟩
  · rw [h] at e; exact n1 vs (Option.some.inj e)
  · rw [h] at e; exact n2 ys (Option.some.inj e)
theorem SqT.grow {a : Addr} {vs : List V} (m : MutOk ρ H) (gr : Grow g ρ H ρ' H') (h : SqT g.K H a vs) : SqT g.K H' a vs := by
  rcases h with (h | ⟨o, h⟩) | h
  · exact .inl (.inl (gr.stay a _ h (m.no h (fun _ z => by cases z) (fun _ z => by cases z)) (fun ps z => by cases z)))
  · exact .inl (.inr ⟨o, gr.stay a _ h (m.no h (fun _ z => by cases z) (fun _ z => by cases z)) (fun ps z => by cases z)⟩)
  · exact .inr h
theorem lst.grow {a : Addr} {vs : List V} (n : NoM g ρ a) (gr : Grow g ρ H ρ' H') (h : H a = some (.lst vs)) : H' a = some (.lst vs) ∧ NoM g ρ' a :=
  ⟨gr.stay a _ h n.1 (fun ps z => by cases z), gr.notIn h n.1, n.2⟩
/-- what is frozen stays -/
theorem Rd.growM {a : Addr} {vs : List V} (n : NoM g ρ a) (gr : Grow g ρ H ρ' H') (h : Rd H a (.lst vs)) : Rd H' a (.lst vs) ∧ NoM g ρ' a := by
  rcases h with h | ⟨o, h⟩
  · exact ⟨.inl (gr.stay a _ h n.1 (fun ps z => by cases z)), gr.notIn h n.1, n.2⟩
  · exact ⟨.inr ⟨o, gr.stay a _ h n.1 (fun ps z => by cases z)⟩, gr.notIn h n.1, n.2⟩
theorem RepX.grow {envs' : Fs} {kvs : List (PyData × PyData)} {v : V} (m : MutOk ρ H) (gr : Grow g ρ H ρ' H') (he : ∀ (j : Nat) (e : Nat × Env), envs.ev[j]? = some e → envs'.ev[j]? = some e) (h : RepX g envs ρ H kvs v) : RepX g envs' ρ' H' kvs v := by
  unfold RepX at h ⊢
  split at h
  · obtain ⟨a, rfl, e⟩ := h
    obtain ⟨ext, rfl⟩ := gr.pre
    have hl : _ < ρ.length := (List.getElem?_eq_some_iff.mp e).1
    exact ⟨a, rfl, by rw [List.getElem?_append_left hl]; exact e⟩
  · obtain ⟨a, is, rfl, h1, h3⟩ := h
    exact ⟨a, is, rfl, h1.imp id fun z => Rd.growM z.2 gr z.1, h3⟩
  · exact h
  · obtain ⟨f, c', pm, ctv, dn, env, params, body, scope, rfl, e1, e2, e3, e4⟩ := h
    refine ⟨f, c', pm, ctv, dn, env, params, body, scope, rfl, he _ _ e1, e2, ?_, ?_⟩
    · exact gr.stay f _ e3 (m.no e3 (fun _ z => by cases z) (fun _ z => by cases z)) (fun ps z => by cases z)
    · exact gr.stay c' _ e4 (m.no e4 (fun _ z => by cases z) (fun _ z => by cases z)) (fun ps z => by cases z)
  · exact h.elim
mutual
theorem Rep.grow {envs' : Fs} (m : MutOk ρ H) (gr : Grow g ρ H ρ' H') (he : ∀ (j : Nat) (e : Nat × Env), envs.ev[j]? = some e → envs'.ev[j]? = some e) : ∀ (d : MV) (v : V), Rep g envs ρ H d v → Rep g envs' ρ' H' d v
  | .none, _, h => by simpa [Rep] using h
  | .bool _, _, h => by simpa [Rep] using h
  | .int _, _, h => by simpa [Rep] using h
  | .str _, _, h => by simpa [Rep] using h
  | .list xs, v, h => by
    simp only [Rep] at h
    obtain ⟨a, vs, rfl, h1, h2, h3⟩ := h
    obtain ⟨q1, q2⟩ := lst.grow h2 gr h1
    simp only [Rep]
    exact ⟨a, vs, rfl, q1, q2, Reps.grow m gr he xs vs h3⟩
  | .tuple xs, v, h => by
    simp only [Rep] at h
    obtain ⟨a, vs, rfl, h1, h3⟩ := h
    simp only [Rep]
    exact ⟨a, vs, rfl, SqT.grow m gr h1, Reps.grow m gr he xs vs h3⟩
  | .dict kvs, v, h => by
    simp only [Rep] at h ⊢
    exact RepX.grow m gr he h
theorem Reps.grow {envs' : Fs} (m : MutOk ρ H) (gr : Grow g ρ H ρ' H') (he : ∀ (j : Nat) (e : Nat × Env), envs.ev[j]? = some e → envs'.ev[j]? = some e) : ∀ (d : List MV) (v : List V), Reps g envs ρ H d v → Reps g envs' ρ' H' d v
  | [], _, h => by simpa [Reps] using h
  | x :: xs, vs, h => by
    obtain ⟨y, ys, rfl, h1, h2⟩ := by simpa [Reps] using h
    simp only [Reps]
    exact ⟨y, ys, rfl, Rep.grow m gr he x y h1, Reps.grow m gr he xs ys h2⟩
end
theorem RepS.grow {envs' : Fs} {τ : MSt} {σ : St} (m : MutOk ρ H) (gr : Grow g ρ H ρ' H') (he : ∀ (j : Nat) (e : Nat × Env), envs.ev[j]? = some e → envs'.ev[j]? = some e) (r : RepS g envs ρ H τ σ) : RepS g envs' ρ' H' τ σ :=
  ⟨r.1, fun i d e => let ⟨v, h1, h2⟩ := r.2 i d e; ⟨v, h1, h2.grow m gr he⟩⟩
theorem Reps.length {envs : Fs} : ∀ {xs : List MV} {vs : List V}, Reps g envs ρ H xs vs → xs.length = vs.length
  | [], _, h => by simp only [Reps] at h; subst h; rfl
  | x :: xs, _, h => by
    obtain ⟨y, ys, rfl, _, h2⟩ := by simpa [Reps] using h
    simp [h2.length]
theorem Reps.get {envs : Fs} : ∀ {xs : List MV} {vs : List V} {i : Nat} {d : MV}, Reps g envs ρ H xs vs → xs[i]? = some d → ∃ v, vs[i]? = some v ∧ Rep g envs ρ H d v
  | [], _, _, _, _, e => by simp at e
  | x :: xs, _, 0, d, h, e => by
    obtain ⟨y, ys, rfl, h1, _⟩ := by simpa [Reps] using h
    simp at e; subst e
    exact ⟨y, rfl, h1⟩
  | x :: xs, _, i + 1, d, h, e => by
    obtain ⟨y, ys, rfl, _, h2⟩ := by simpa [Reps] using h
    simpa using Reps.get (i := i) h2 (by simpa using e)
theorem Reps.get' {envs : Fs} : ∀ {xs : List MV} {vs : List V} {i : Nat} {v : V}, Reps g envs ρ H xs vs → vs[i]? = some v → ∃ d, xs[i]? = some d ∧ Rep g envs ρ H d v
  | [], _, _, _, h, e => by simp only [Reps] at h; subst h; simp at e
  | x :: xs, _, 0, d, h, e => by
    obtain ⟨y, ys, rfl, h1, _⟩ := by simpa [Reps] using h
    simp at e; subst e
    exact ⟨x, rfl, h1⟩
  | x :: xs, _, i + 1, d, h, e => by
    obtain ⟨y, ys, rfl, _, h2⟩ := by simpa [Reps] using h
    simpa using Reps.get' (i := i) h2 (by simpa using e)
theorem Reps.append {envs : Fs} : ∀ {xs ys : List MV} {vs ws : List V}, Reps g envs ρ H xs vs → Reps g envs ρ H ys ws → Reps g envs ρ H (xs ++ ys) (vs ++ ws)
  | [], _, _, _, h, k => by simp only [Reps] at h; subst h; simpa using k
  | x :: xs, _, _, _, h, k => by
    obtain ⟨y, ys, rfl, h1, h2⟩ := by simpa [Reps] using h
    simp only [List.cons_append, Reps]
    exact ⟨y, _, rfl, h1, h2.append k⟩
theorem Reps.take {envs : Fs} : ∀ {xs : List MV} {vs : List V} (n : Nat), Reps g envs ρ H xs vs → Reps g envs ρ H (xs.take n) (vs.take n)
  | _, _, 0, _ => by simp [Reps]
  | [], _, n + 1, h => by simp only [Reps] at h; subst h; simp [Reps]
  | x :: xs, _, n + 1, h => by
    obtain ⟨y, ys, rfl, h1, h2⟩ := by simpa [Reps] using h
    simp only [List.take_succ_cons, Reps]
    exact ⟨y, _, rfl, h1, h2.take n⟩
theorem Reps.drop {envs : Fs} : ∀ {xs : List MV} {vs : List V} (n : Nat), Reps g envs ρ H xs vs → Reps g envs ρ H (xs.drop n) (vs.drop n)
  | _, _, 0, h => by simpa using h
  | [], _, n + 1, h => by simp only [Reps] at h; subst h; simp [Reps]
  | x :: xs, _, n + 1, h => by
    obtain ⟨y, ys, rfl, h1, h2⟩ := by simpa [Reps] using h
    simpa using h2.drop n
theorem Reps.set {envs : Fs} {d : MV} {v : V} (r : Rep g envs ρ H d v) : ∀ {xs : List MV} {vs : List V} (n : Nat), Reps g envs ρ H xs vs → Reps g envs ρ H (xs.set n d) (vs.set n v)
  | [], _, _, h => by simp only [Reps] at h; subst h; simp [Reps]
  | x :: xs, _, 0, h => by
    obtain ⟨y, ys, rfl, h1, h2⟩ := by simpa [Reps] using h
    simp only [List.set_cons_zero, Reps]
    exact ⟨v, _, rfl, r, h2⟩
  | x :: xs, _, n + 1, h => by
    obtain ⟨y, ys, rfl, h1, h2⟩ := by simpa [Reps] using h
    simp only [List.set_cons_succ, Reps]
    exact ⟨y, _, rfl, h1, Reps.set r n h2⟩
theorem Reps.eraseIdx {envs : Fs} : ∀ {xs : List MV} {vs : List V} (n : Nat), Reps g envs ρ H xs vs → Reps g envs ρ H (xs.eraseIdx n) (vs.eraseIdx n)
  | [], _, _, h => by simp only [Reps] at h; subst h; simp [Reps]
  | x :: xs, _, 0, h => by
    obtain ⟨y, ys, rfl, h1, h2⟩ := by simpa [Reps] using h
    simpa using h2
  | x :: xs, _, n + 1, h => by
    obtain ⟨y, ys, rfl, h1, h2⟩ := by simpa [Reps] using h
    simp only [List.eraseIdx_cons_succ, Reps]
    exact ⟨y, _, rfl, h1, h2.eraseIdx n⟩
theorem Reps.reverse {envs : Fs} : ∀ {xs : List MV} {vs : List V}, Reps g envs ρ H xs vs → Reps g envs ρ H xs.reverse vs.reverse
  | [], _, h => by simp only [Reps] at h; subst h; simp [Reps]
  | x :: xs, _, h => by
    obtain ⟨y, ys, rfl, h1, h2⟩ := by simpa [Reps] using h
    simp only [List.reverse_cons]
    exact h2.reverse.append (by simp only [Reps]; exact ⟨y, [], rfl, h1, rfl⟩)
theorem Reps.rep {envs : Fs} {xs : List MV} {vs : List V} (h : Reps g envs ρ H xs vs) : ∀ k : Nat, Reps g envs ρ H (List.replicate k xs).flatten (List.replicate k vs).flatten
  | 0 => by simp [Reps]
  | k + 1 => by
    simp only [List.replicate_succ, List.flatten_cons]
    exact h.append (Reps.rep h k)
/-- the names of ints -/
theorem Reps.intsOf {envs : Fs} : ∀ {xs : List MV} {vs : List V} {is : List Int}, Reps g envs ρ H xs vs → MM.intsOf xs = some is → vs = is.map V.int
  | [], _, _, h, e => by simp only [Reps] at h; subst h; simp [MM.intsOf] at e; subst e; rfl
  | x :: xs, _, is, h, e => by
    obtain ⟨y, ys, rfl, h1, h2⟩ := by simpa [Reps] using h
    cases x with
    | int i =>
      simp only [MM.intsOf, Option.map_eq_some_iff] at e
      obtain ⟨js, e1, rfl⟩ := e
      simp only [Rep] at h1
      rw [h1, h2.intsOf e1]; rfl
    | _ => simp [MM.intsOf] at e
theorem Reps.boolsOf {envs : Fs} : ∀ {xs : List MV} {vs : List V} {is : List Bool}, Reps g envs ρ H xs vs → MM.boolsOf xs = some is → vs = is.map V.bl
  | [], _, _, h, e => by simp only [Reps] at h; subst h; simp [MM.boolsOf] at e; subst e; rfl
  | x :: xs, _, is, h, e => by
    obtain ⟨y, ys, rfl, h1, h2⟩ := by simpa [Reps] using h
    cases x with
    | bool i =>
      simp only [MM.boolsOf, Option.map_eq_some_iff] at e
      obtain ⟨js, e1, rfl⟩ := e
      simp only [Rep] at h1
      rw [h1, h2.boolsOf e1]; rfl
    | _ => simp [MM.boolsOf] at e
mutual
/-- plain data, as the layer says it -/
theorem Rep.dp {envs : Fs} : ∀ (d : MV) (v : V), Rep g envs ρ H d v → d.plain = true → Dp g.K H v d
  | .none, _, h, _ => by simp only [Rep] at h; subst h; exact .non
  | .bool _, _, h, _ => by simp only [Rep] at h; subst h; exact .bl _
  | .int _, _, h, _ => by simp only [Rep] at h; subst h; exact .int _
  | .str _, _, h, _ => by simp only [Rep] at h; subst h; exact .str _
  | .list xs, v, h, p => by
    simp only [Rep] at h
    obtain ⟨a, vs, rfl, h1, h2, h3⟩ := h
    exact .lst (SqL.of h1) (Reps.dp xs vs h3 (by simpa [PyData.plain] using p))
  | .tuple xs, v, h, p => by
    simp only [Rep] at h
    obtain ⟨a, vs, rfl, h1, h3⟩ := h
    exact .tup h1 (Reps.dp xs vs h3 (by simpa [PyData.plain] using p))
  | .dict _, _, _, p => by simp [PyData.plain] at p
theorem Reps.dp {envs : Fs} : ∀ (d : List MV) (v : List V), Reps g envs ρ H d v → PyData.plainAll d = true → DpAll g.K H v d
  | [], _, h, _ => by simp only [Reps] at h; subst h; exact .nil
  | x :: xs, vs, h, p => by
    obtain ⟨y, ys, rfl, h1, h2⟩ := by simpa [Reps] using h
    obtain ⟨p1, p2⟩ : x.plain = true ∧ PyData.plainAll xs = true := by simpa [PyData.plainAll] using p
    exact .cons (Rep.dp x y h1 p1) (Reps.dp xs ys h2 p2)
end
end
end Snd

-- Snd2
set_option autoImplicit false
set_option linter.all false
set_option Elab.async false
set_option maxRecDepth 100000
set_option maxHeartbeats 4000000
/-! soundness of M, part 2: readings -/
namespace Snd
open PySem PySem.Spec PyProof.Rows L2 MM

/-- the address of an exception class -/
def exA (g : GW) (c : Nat) (C : Addr) : Prop := g.mg (g.en c) = some (.ref C)
/-- what an exception bears: nothing, or (class 0) its limit -/
def RepE (g : GW) (c : Nat) (n : Int) (cls : Value) (d : Option Addr) (H : Hp) : Prop :=
  ∃ C, cls = .ref C ∧ exA g c C ∧ (c = 0 → ∃ a, d = some a ∧ H a = some (.xd [((Str.ofString "limit"), .int n)]))

section
variable (g : GW) (envs : Fs) (E : XK)
/-- what is wanted of M's outcome -/
def RPost {α : Type} (ρ : List Addr) (H : Hp) (r : Res α) (Q : α → MH → List Addr → Hp → Prop) : Prop := match r with
  | .ok a h' => ∀ ρ' H', Grow g ρ H ρ' H' → RepH g envs ρ' H' h' → Q a h' ρ' H'
  | .exc c n h' => ∀ ρ' H' cls d, Grow g ρ H ρ' H' → RepH g envs ρ' H' h' → RepE g c n cls d H' → E cls d H'
  | .bad => False
/-- a value -/
def VQ (Q : VK) : MV → MH → List Addr → Hp → Prop := fun d _ ρ H => ∀ v, Rep g envs ρ H d v → Q v H
def VsQ (Q : List V → Hp → Prop) : List MV → MH → List Addr → Hp → Prop := fun d _ ρ H => ∀ v, Reps g envs ρ H d v → Q v H
/-- M's reading of an expression, an argument list, a test -/
def tM (m : MSt → M MV) : TE := fun σ H Q => ∃ ρ τ h, RepS g envs ρ H τ σ ∧ RepH g envs ρ H h ∧ RPost g envs E ρ H (m τ h) (VQ g envs Q)
def tMA (m : MSt → M (List MV)) : TA := fun σ H Q => ∃ ρ τ h, RepS g envs ρ H τ σ ∧ RepH g envs ρ H h ∧ RPost g envs E ρ H (m τ h) (VsQ g envs Q)
def tMT (m : MSt → M Bool) : TT := fun σ H Q => ∃ ρ τ h, RepS g envs ρ H τ σ ∧ RepH g envs ρ H h ∧ RPost g envs E ρ H (m τ h) (fun b _ _ H' => Q b H')
/-- an operation on two values, on one -/
def rM2 (f : MV → MV → M MV) : R2 := fun x y H Q => ∃ ρ h a b, RepH g envs ρ H h ∧ Rep g envs ρ H a x ∧ Rep g envs ρ H b y ∧ RPost g envs E ρ H (f a b h) (VQ g envs Q)
def rM1 (f : MV → M MV) : V → Hp → VK → Prop := fun x H Q => ∃ ρ h a, RepH g envs ρ H h ∧ Rep g envs ρ H a x ∧ RPost g envs E ρ H (f a h) (VQ g envs Q)
def rMs (f : List MV → M MV) : List V → Hp → VK → Prop := fun x H Q => ∃ ρ h a, RepH g envs ρ H h ∧ Reps g envs ρ H a x ∧ RPost g envs E ρ H (f a h) (VQ g envs Q)
end

section
variable {g : GW} {envs : Fs} {E : XK} {ρ ρ' : List Addr} {H H' : Hp}
theorem RPost.imp {α : Type} {r : Res α} {Q Q' : α → MH → List Addr → Hp → Prop} (p : RPost g envs E ρ H r Q) (h : ∀ a h' ρ' H', Grow g ρ H ρ' H' → RepH g envs ρ' H' h' → Q a h' ρ' H' → Q' a h' ρ' H') : RPost g envs E ρ H r Q' := by
  cases r with
  | ok a h1 => exact fun ρ' H' gr rh => h _ _ _ _ gr rh (p ρ' H' gr rh)
  | exc c n h1 => exact p
  | bad => exact p
theorem RPost.bind {α β : Type} {m : M α} {f : α → M β} {h : MH} {Q : β → MH → List Addr → Hp → Prop} (p : RPost g envs E ρ H (M.bind m f h) Q) :
    RPost g envs E ρ H (m h) (fun a h1 ρ1 H1 => RPost g envs E ρ1 H1 (f a h1) Q) := by
  unfold M.bind at p
  cases e : m h with
  | ok a h1 =>
    rw [e] at p
    intro ρ1 H1 gr rh
    have p : RPost g envs E ρ H (f a h1) Q := p
    cases e2 : f a h1 with
    | ok b h2 => rw [e2] at p; exact fun ρ2 H2 gr2 rh2 => p ρ2 H2 (gr.trans gr2) rh2
    | exc c n h2 => rw [e2] at p; exact fun ρ2 H2 cls d gr2 rh2 re => p ρ2 H2 cls d (gr.trans gr2) rh2 re
    | bad => rw [e2] at p; exact p
  | exc c n h1 => rw [e] at p; exact p
  | bad => rw [e] at p; exact p
theorem RPost.grow {α : Type} {r : Res α} {Q : α → MH → List Addr → Hp → Prop} (gr : Grow g ρ H ρ' H') (p : RPost g envs E ρ H r Q) : RPost g envs E ρ' H' r Q := by
  cases r with
  | ok b h2 => exact fun ρ2 H2 gr2 rh2 => p ρ2 H2 (gr.trans gr2) rh2
  | exc c n h2 => exact fun ρ2 H2 cls d gr2 rh2 re => p ρ2 H2 cls d (gr.trans gr2) rh2 re
  | bad => exact p
theorem RPost.pure {α : Type} {a : α} {h : MH} {Q : α → MH → List Addr → Hp → Prop} (rh : RepH g envs ρ H h) (p : RPost g envs E ρ H (M.pure a h) Q) : Q a h ρ H := p ρ H Grow.refl rh
theorem same_env {envs : Fs} : ∀ (j : Nat) (e : Nat × Env), envs.ev[j]? = some e → envs.ev[j]? = some e := fun _ _ h => h
theorem Rep.up {d : MV} {v : V} {h : MH} (rh : RepH g envs ρ H h) (gr : Grow g ρ H ρ' H') (r : Rep g envs ρ H d v) : Rep g envs ρ' H' d v := r.grow rh.mut gr same_env
theorem Reps.up {d : List MV} {v : List V} {h : MH} (rh : RepH g envs ρ H h) (gr : Grow g ρ H ρ' H') (r : Reps g envs ρ H d v) : Reps g envs ρ' H' d v := r.grow rh.mut gr same_env
theorem RepS.up {τ : MSt} {σ : St} {h : MH} (rh : RepH g envs ρ H h) (gr : Grow g ρ H ρ' H') (r : RepS g envs ρ H τ σ) : RepS g envs ρ' H' τ σ := r.grow rh.mut gr same_env

/-! ### the heap's changes -/
def KFree (g : GW) (H : Hp) : Prop := ∀ a o, g.K.lookup a = some o → H a = none
theorem Grow.ext (e : ∀ b o, H b = some o → H' b = some o) : Grow g ρ H ρ H' := ⟨⟨[], by simp⟩, fun _ h => .inl h, fun _ _ h _ _ => e _ _ h, fun _ ps h => ⟨ps, e _ _ h⟩⟩
theorem RepK.grow {envs' : Fs} (m : MutOk ρ H) (gr : Grow g ρ H ρ' H') (he : ∀ (j : Nat) (e : Nat × Env), envs.ev[j]? = some e → envs'.ev[j]? = some e) : ∀ {kvs : List (MV × MV)} {ys : List (Key × V)}, RepK g envs ρ H kvs ys → RepK g envs' ρ' H' kvs ys
  | [], _, h => by simpa [RepK] using h
  | (k, x) :: r, _, h => by
    simp only [RepK] at h ⊢
    obtain ⟨q, y, ys, rfl, h1, h2, h3, h4⟩ := h
    exact ⟨q, y, ys, rfl, h1, h2.grow m gr he, h3, h4.grow m gr he⟩
theorem RepO.grow {envs' : Fs} {a : Addr} {o : MO} (m : MutOk ρ H) (gr : Grow g ρ H ρ' H') (he : ∀ (j : Nat) (e : Nat × Env), envs.ev[j]? = some e → envs'.ev[j]? = some e) (ha : H' a = H a) (h : RepO g envs ρ H a o) : RepO g envs' ρ' H' a o := by
  cases o with
  | lst xs =>
    obtain ⟨p, vs, e, r⟩ := h
    exact ⟨p, vs, by rw [ha]; exact e, r.grow m gr he⟩
  | dct kvs =>
    obtain ⟨ys, e, r⟩ := h
    exact ⟨ys, by rw [ha]; exact e, r.grow m gr he⟩
theorem RepO.some {a : Addr} {o : MO} (h : RepO g envs ρ H a o) : ∃ u, H a = some u := by
  cases o with
  | lst xs => obtain ⟨p, vs, e, r⟩ := h; exact ⟨_, e⟩
  | dct kvs => obtain ⟨ys, e, r⟩ := h; exact ⟨_, e⟩
theorem RepH.gsg {h : MH} (rh : RepH g envs ρ H h) (gr : Grow g ρ H ρ' H') : ∀ a ∈ g.gs, (∃ vs, H' a = some (.lst vs)) ∧ a ∉ ρ' := fun a ha => by
  obtain ⟨⟨vs, e⟩, n⟩ := rh.gsok a ha
  exact ⟨⟨vs, gr.stay a _ e n (fun ps z => by cases z)⟩, gr.notIn e n⟩
/-- more is tracked -/
theorem RepH.ext {h : MH} (rh : RepH g envs ρ H h) (e : ∀ b o, H b = some o → H' b = some o) (kf : KFree g H') : RepH g envs ρ H' h :=
  ⟨rh.len, rh.nd, fun n o a h1 h2 => by
    have q := rh.at_ n o a h1 h2
    obtain ⟨u, hu⟩ := q.some
    exact q.grow rh.mut (Grow.ext e) same_env (by rw [hu]; exact e _ _ hu), rh.tabs.ext e, fun j τ σ hj => (rh.frs j τ σ hj).grow rh.mut (Grow.ext e) same_env, rh.gsg (Grow.ext e)⟩
theorem ext_upd {p : Addr} {o : HO} (hp : H p = none) : ∀ b u, H b = some u → upd H p o b = some u := fun b u q => by
  rw [upd_ne (ne_of_none q hp)]; exact q
/-- a new mutable list or dict -/
theorem RepH.new {h : MH} {p : Addr} {o : HO} {mo : MO} (rh : RepH g envs ρ H h) (hp : H p = none) (kf : KFree g (upd H p o)) (r : RepO g envs (ρ ++ [p]) (upd H p o) p mo) :
    RepH g envs (ρ ++ [p]) (upd H p o) (h ++ [mo]) ∧ Grow g ρ H (ρ ++ [p]) (upd H p o) := by
  have gr : Grow g ρ H (ρ ++ [p]) (upd H p o) := ⟨⟨[p], rfl⟩, fun a ha => by
    rcases List.mem_append.mp ha with z | z
    · exact .inl z
    · have e : a = p := by simpa using z
      subst e; exact .inr hp, fun a u hu _ _ => ext_upd hp a u hu, fun a ps hu => ⟨ps, ext_upd hp a _ hu⟩⟩
  have np : p ∉ ρ := fun hm => by
    rcases rh.mut p hm with ⟨vs, e⟩ | ⟨ys, e⟩ <;> (rw [hp] at e; cases e)
  refine ⟨⟨by simp [rh.len], ?_, fun n ob a h1 h2 => ?_, rh.tabs.ext (ext_upd hp), fun j τ σ hj => (rh.frs j τ σ hj).grow rh.mut gr same_env, rh.gsg gr⟩, gr⟩
  · rw [List.nodup_append]
    exact ⟨rh.nd, by simp, fun a ha b hb => by
      have e : b = p := by simpa using hb
      subst e; exact fun z => np (z ▸ ha)⟩
  · by_cases hn : n < h.length
    · rw [List.getElem?_append_left hn] at h1
      rw [List.getElem?_append_left (by rw [rh.len]; exact hn)] at h2
      have q := rh.at_ n ob a h1 h2
      obtain ⟨u, hu⟩ := q.some
      exact q.grow rh.mut gr same_env (by rw [hu]; exact ext_upd hp _ _ hu)
    · have hn' : n = h.length := by
        have : n < (h ++ [mo]).length := (List.getElem?_eq_some_iff.mp h1).1
        simp at this; omega
      subst hn'
      rw [List.getElem?_append_right (Nat.le_refl _)] at h1
      rw [List.getElem?_append_right (by rw [rh.len]; exact Nat.le_refl _), rh.len] at h2
      simp at h1 h2
      subst h1 h2
      exact r
/-- a mutable object changed -/
theorem RepH.chg {h : MH} {n : Nat} {a : Addr} {o : HO} {mo mo' : MO} (rh : RepH g envs ρ H h) (hn : h[n]? = some mo) (ha : ρ[n]? = some a) (kf : KFree g (upd H a o)) (hm : (∃ vs, o = .lst vs) ∨ ∃ ys, o = .dK ys) (r : RepO g envs ρ (upd H a o) a mo') :
    RepH g envs ρ (upd H a o) (h.set n mo') ∧ Grow g ρ H ρ (upd H a o) := by
  have q := rh.at_ n mo a hn ha
  obtain ⟨u, hu⟩ := q.some
  have am : a ∈ ρ := List.mem_of_getElem? ha
  have nt : ∀ b ps, H b = some (.tbl ps) → b ≠ a := fun b ps e z => by
    subst z
    rcases rh.mut b am with ⟨vs, e'⟩ | ⟨ys, e'⟩ <;> (rw [e] at e'; cases e')
  have gr : Grow g ρ H ρ (upd H a o) := ⟨⟨[], by simp⟩, fun _ h => .inl h, fun b v hb nb _ => by
    rw [upd_ne (fun (z : b = a) => nb (by rw [z]; exact am))]; exact hb, fun b ps hb => ⟨ps, by rw [upd_ne (nt b ps hb)]; exact hb⟩⟩
  refine ⟨⟨by simp [rh.len], rh.nd, fun k ob b h1 h2 => ?_, fun p hp => ?_, fun j τ σ hj => (rh.frs j τ σ hj).grow rh.mut gr same_env, rh.gsg gr⟩, gr⟩
  · by_cases hk : n = k
    · subst hk
      have hl : n < h.length := (List.getElem?_eq_some_iff.mp hn).1
      rw [List.getElem?_set_self hl] at h1
      rw [ha] at h2
      cases h1; cases h2
      exact r
    · rw [List.getElem?_set_ne hk] at h1
      have q2 := rh.at_ k ob b h1 h2
      have hb : b ≠ a := fun z => by
        subst z
        obtain ⟨l1, e1⟩ := List.getElem?_eq_some_iff.mp ha
        obtain ⟨l2, e2⟩ := List.getElem?_eq_some_iff.mp h2
        exact hk ((List.getElem_inj rh.nd).mp (e1.trans e2.symm))
      exact q2.grow rh.mut gr same_env (upd_ne hb)
  · obtain ⟨ps, a1, a2, a3⟩ := rh.tabs p hp
    refine ⟨ps, by rw [upd_ne (nt _ _ a1)]; exact a1, a2, fun pos cv hc => ?_⟩
    obtain ⟨c, e1, e2⟩ := a3 pos cv hc
    exact ⟨c, e1, by rw [upd_ne (fun (z : c = a) => rh.mut.no e2 (fun _ z => by cases z) (fun _ z => by cases z) (by rw [z]; exact am))]; exact e2⟩
mutual
theorem Rep.sub {envs' : Fs} (hs : ∀ a, a ∈ ρ' → a ∈ ρ) : ∀ (d : MV) (v : V), d.plain = true → Rep g envs ρ H d v → Rep g envs' ρ' H d v
  | .none, _, _, h => by simpa [Rep] using h
  | .bool _, _, _, h => by simpa [Rep] using h
  | .int _, _, _, h => by simpa [Rep] using h
  | .str _, _, _, h => by simpa [Rep] using h
  | .list xs, v, p, h => by
    simp only [Rep] at h ⊢
    obtain ⟨a, vs, rfl, h1, h2, h3⟩ := h
    exact ⟨a, vs, rfl, h1, ⟨fun z => h2.1 (hs a z), h2.2⟩, Reps.sub hs xs vs (by simpa [PyData.plain] using p) h3⟩
  | .tuple xs, v, p, h => by
    simp only [Rep] at h ⊢
    obtain ⟨a, vs, rfl, h1, h3⟩ := h
    exact ⟨a, vs, rfl, h1, Reps.sub hs xs vs (by simpa [PyData.plain] using p) h3⟩
  | .dict _, _, p, _ => by simp [PyData.plain] at p
theorem Reps.sub {envs' : Fs} (hs : ∀ a, a ∈ ρ' → a ∈ ρ) : ∀ (d : List MV) (v : List V), PyData.plainAll d = true → Reps g envs ρ H d v → Reps g envs' ρ' H d v
  | [], _, _, h => by simpa [Reps] using h
  | x :: xs, vs, p, h => by
    simp only [Reps] at h ⊢
    obtain ⟨y, ys, rfl, h1, h2⟩ := h
    obtain ⟨p1, p2⟩ : x.plain = true ∧ PyData.plainAll xs = true := by simpa [PyData.plainAll] using p
    exact ⟨y, ys, rfl, Rep.sub hs x y p1 h1, Reps.sub hs xs ys p2 h2⟩
end
theorem RepK.sub {envs' : Fs} (hs : ∀ a, a ∈ ρ' → a ∈ ρ) : ∀ {kvs : List (MV × MV)} {ys : List (Key × V)}, RepK g envs ρ H kvs ys → RepK g envs' ρ' H kvs ys
  | [], _, h => by simpa [RepK] using h
  | (k, x) :: r, _, h => by
    simp only [RepK] at h ⊢
    obtain ⟨q, y, ys, rfl, h1, h2, h3, h4⟩ := h
    exact ⟨q, y, ys, rfl, h1, Rep.sub hs _ _ h3 h2, h3, RepK.sub hs h4⟩
/-- the heap behind a call whose value is a datum: what the call made is forgotten -/
theorem RepH.cut {envs' : Fs} {h h1 : MH} {ρ1 : List Addr} {H1 : Hp} (rh : RepH g envs ρ H h) (rh1 : RepH g envs' ρ1 H1 h1) (gr : Grow g ρ H ρ1 H1) : RepH g envs ρ H1 (h1.take h.length) ∧ Grow g ρ H ρ H1 := by
  obtain ⟨ext, e⟩ := gr.pre
  have et : ρ1.take h.length = ρ := by rw [e, ← rh.len]; simp
  have gr' : Grow g ρ H ρ H1 := ⟨⟨[], by simp⟩, fun _ h => .inl h, gr.stay, gr.tb⟩
  refine ⟨⟨?_, rh.nd, fun k o a h1' h2 => ?_, rh1.tabs, fun j τ σ hj => (rh.frs j τ σ hj).grow rh.mut gr' same_env, rh.gsg gr'⟩, gr'⟩
  · rw [List.length_take, ← rh1.len, e, List.length_append, rh.len]; omega
  have h1'' : h1[k]? = some o := by
    rw [List.getElem?_take] at h1'
    split at h1' <;> first | exact h1' | cases h1'
  have h2' : ρ1[k]? = some a := by
    obtain ⟨hk, _⟩ := List.getElem?_eq_some_iff.mp h2
    rw [e, List.getElem?_append_left hk]; exact h2
  have q := rh1.at_ k o a h1'' h2'
  have hs : ∀ b, b ∈ ρ → b ∈ ρ1 := fun b hb => by rw [e]; exact List.mem_append_left _ hb
  cases o with
  | lst xs => obtain ⟨p, vs, e, r⟩ := q; exact ⟨p, vs, e, Reps.sub hs _ _ p r⟩
  | dct kvs => obtain ⟨ys, e, r⟩ := q; exact ⟨ys, e, RepK.sub hs r⟩
end

/-! ### contexts -/
/-- a frame's captured names, as they stand in the base -/
structure EnvB (base : Heap) (env : Env) (N : List Str) (σ : St) : Prop where
  inj : ∀ y z c, env.cells.lookup y = some c → env.cells.lookup z = some c → y = z
  cell : ∀ y c, env.cells.lookup y = some c → ∃ v, base.IsCell c v
  has : ∀ y, (env.scope.names.lookup y = some .cell ∨ env.scope.names.lookup y = some .free) → ∃ c, env.cells.lookup y = some c
  val : ∀ (i : Nat) (x : Str) (v : V), N[i]? = some x → σ[i]? = some (some v) → (env.scope.names.lookup x = some .cell ∨ env.scope.names.lookup x = some .free) → ∃ u c, RelV v u ∧ env.cells.lookup x = some c ∧ base.IsCell c (some u)
  len : σ.length = N.length
def FrOk (g : GW) (c : Fs) (base : Heap) : Prop := c.fr.length ≤ c.ev.length ∧ ∀ (j : Nat) (τ : MSt) (σ : St), c.fr[j]? = some (some (τ, σ)) → ∃ n env, c.ev[j]? = some (n, env) ∧ EnvB base env (g.N n) σ
/-- the context of a proof: a def's body, a comprehension's block -/
structure Cn (g : GW) (ev : Fs) (X : Cx) (E : XK) : Prop where
  hP : X.prog = g.P
  hw : X.w = g.w
  hK : X.K = g.K
  hm : X.mg = g.mg
  calm : X.calm = true
  nd : X.N.Nodup
  takes : Takes X (fun cls d _ H => E cls d H)
  room : Room 0 X.A
  fok : FrOk g ev X.base
  lenE : ev.ev.length = ev.fr.length + 1
  free : ∀ x ∈ (["len", "range", "sorted", "isinstance", "int", "bool", "tuple", "list", "str", "max", "min", "all", "any", "zip", "enumerate", "sum", "abs", "set"] : List Str), g.mg x = none
section
variable {g : GW} {ev : Fs} {X : Cx} {E : XK}
theorem Inv.kfree {pins : List (Addr × Obj)} {σ : St} {H : Hp} {s : Shared} (c : Cn g ev X E) (I : Inv X pins σ H s) : KFree g H := fun a o e => by
  have kin := I.ok.mod.kin
  rw [c.hK] at kin
  exact (I.bs a o (kin a o e)).2
theorem PE.via {e : Expr} {t t' : TE} (c : Cn g ev X E) (h : PE X e t) (i : ∀ σ H Q, t' σ H Q → t σ H (fun v H' => KFree g H' → Q v H')) : PE X e t' :=
  ⟨fun pins s σ H Q I hw => thn (h.run pins s σ H _ I (i σ H Q hw)) fun u s' ⟨v, H', I', r, q⟩ => ⟨v, H', I', r, q (Inv.kfree c I')⟩⟩
theorem PA.via {e : List Expr} {t t' : TA} (c : Cn g ev X E) (h : PA X e t) (i : ∀ σ H Q, t' σ H Q → t σ H (fun v H' => KFree g H' → Q v H')) : PA X e t' :=
  ⟨fun pos pins s σ H Q I hw => thn (h.run pos pins s σ H _ I (i σ H Q hw)) fun u s' ⟨v, H', I', r, q⟩ => ⟨v, H', I', r, q (Inv.kfree c I')⟩⟩
theorem PT.via {e : Expr} {t t' : TT} (c : Cn g ev X E) (h : PT X e t) (i : ∀ σ H Q, t' σ H Q → t σ H (fun v H' => KFree g H' → Q v H')) : PT X e t' :=
  ⟨fun pins s σ H Q I hw => thn (h.run pins s σ H _ I (i σ H Q hw)) fun u s' ⟨H', I', q⟩ => ⟨H', I', q (Inv.kfree c I')⟩⟩
theorem PW.via {e : Expr} {t t' : TT} (c : Cn g ev X E) (h : PW X e t) (i : ∀ σ H Q, t' σ H Q → t σ H (fun v H' => KFree g H' → Q v H')) : PW X e t' :=
  ⟨fun wh pins s σ H Q I hw => thn (h.run wh pins s σ H _ I (i σ H Q hw)) fun u s' ⟨H', I', q⟩ => ⟨H', I', q (Inv.kfree c I')⟩⟩
theorem OpR.via {f : Value → Value → Sem Value} {r r' : R2} (c : Cn g ev X E) (h : OpR X f r) (i : ∀ x y H Q, r' x y H Q → r x y H (fun v H' => KFree g H' → Q v H')) : OpR X f r' :=
  fun pins s σ H x y v u Q I rx ry q => thn (h pins s σ H x y v u _ I rx ry (i x y H Q q)) fun u s' ⟨v, H', I', r, q⟩ => ⟨v, H', I', r, q (Inv.kfree c I')⟩
theorem UnR.via {f : Value → Sem Value} {r r' : V → Hp → VK → Prop} (c : Cn g ev X E) (h : UnR X f r) (i : ∀ x H Q, r' x H Q → r x H (fun v H' => KFree g H' → Q v H')) : UnR X f r' :=
  fun pins s σ H x v Q I rx q => thn (h pins s σ H x v _ I rx (i x H Q q)) fun u s' ⟨v, H', I', r, q⟩ => ⟨v, H', I', r, q (Inv.kfree c I')⟩
theorem CallR.via {f : Value} {r r' : List V → Hp → VK → Prop} (c : Cn g ev X E) (h : CallR X f r) (i : ∀ x H Q, r' x H Q → r x H (fun v H' => KFree g H' → Q v H')) : CallR X f r' :=
  fun pins s σ H x v Q I rx q => thn (h pins s σ H x v _ I rx (i x H Q q)) fun u s' ⟨v, H', I', r, q⟩ => ⟨v, H', I', r, q (Inv.kfree c I')⟩

/-! ### the shapes -/
/-- m, then f -/
theorem tM_bind {m : MSt → M MV} {f : MSt → MV → M MV} {envs : Fs} {σ : St} {H : Hp} {Q : VK} (p : tM g envs E (fun τ => M.bind (m τ) (f τ)) σ H Q) :
    tM g envs E m σ H (fun v H1 => ∃ ρ1 τ h1 d, RepS g envs ρ1 H1 τ σ ∧ RepH g envs ρ1 H1 h1 ∧ Rep g envs ρ1 H1 d v ∧ RPost g envs E ρ1 H1 (f τ d h1) (VQ g envs Q)) := by
  obtain ⟨ρ, τ, h, rs, rh, p⟩ := p
  exact ⟨ρ, τ, h, rs, rh, p.bind.imp fun a h1 ρ1 H1 gr rh1 p1 v rv => ⟨ρ1, τ, h1, a, rs.up rh gr, rh1, rv, p1⟩⟩
theorem pe_bin {a b : Expr} {op : Operator} {pos : Pos} {ma mb : MSt → M MV} {f : MV → MV → M MV} (ho : OpR X (binaryOp op) (rM2 g ev E f)) (ha : PE X a (tM g ev E ma)) (hb : PE X b (tM g ev E mb)) (c : Cn g ev X E) :
    PE X (.BinOp a op b pos) (tM g ev E fun τ => M.bind (ma τ) fun x => M.bind (mb τ) fun y => f x y) := by
  refine PE.via c (pe_op ho ha hb) fun σ H Q p => ?_
  obtain ⟨ρ, τ, h, rs, rh, p⟩ := p
  refine ⟨ρ, τ, h, rs, rh, p.bind.imp fun x h1 ρ1 H1 gr rh1 p1 v rv => ?_⟩
  refine ⟨ρ1, τ, h1, rs.up rh gr, rh1, p1.bind.imp fun y h2 ρ2 H2 gr2 rh2 p2 u ru => ?_⟩
  exact ⟨ρ2, h2, x, y, rh2, rv.up rh1 gr2, ru, p2.imp fun d h3 ρ3 H3 _ _ q w rw _ => q w rw⟩
end
end Snd

-- Snd3
set_option autoImplicit false
set_option linter.all false
set_option Elab.async false
set_option maxRecDepth 100000
set_option maxHeartbeats 4000000
/-! soundness of M, part 3: operators -/
namespace Snd
open PySem PySem.Spec PyProof.Rows L2 MM
section
variable {g : GW} {ev : Fs} {X : Cx} {E : XK} {pins : List (Addr × Obj)} {σ : St} {H : Hp} {s : Shared} {ρ : List Addr} {h : MH}
theorem OpR.go {f : Value → Value → Sem Value} {r : R2} {x y : V} {v u : Value} {Q : VK} (c : Cn g ev X E) (o : OpR X f r) (I : Inv X pins σ H s) (rx : RelV x v) (ry : RelV y u) (q : r x y H (fun v H' => KFree g H' → Q v H')) :
    wpAny (model X.prog X.w) X.A (f v u) (EP X pins σ Q) X.xe s := OpR.via c o (r' := fun x y H Q => r x y H (fun v H' => KFree g H' → Q v H')) (fun _ _ _ _ q => q) pins s σ H x y v u Q I rx ry q
theorem CallR.go {f : Value} {r : List V → Hp → VK → Prop} {xs : List V} {us : List Value} {Q : VK} (c : Cn g ev X E) (o : CallR X f r) (I : Inv X pins σ H s) (rx : Vals xs us) (q : r xs H (fun v H' => KFree g H' → Q v H')) :
    wpAny (model X.prog X.w) X.A (call f us) (EP X pins σ Q) X.xe s := CallR.via c o (r' := fun x H Q => r x H (fun v H' => KFree g H' → Q v H')) (fun _ _ _ q => q) pins s σ H xs us Q I rx q

/-! ### the ends -/
theorem fin_same {d : MV} {v : V} {Q : VK} (rh : RepH g ev ρ H h) (r : Rep g ev ρ H d v) (p : RPost g ev E ρ H (.ok d h) (VQ g ev Q)) : Q v H := p ρ H Grow.refl rh v r
theorem not_mut {p : Addr} (rh : RepH g ev ρ H h) (hp : H p = none) : NoM g ρ p := by
  refine ⟨fun hm => ?_, fun hm => ?_⟩
  · rcases rh.mut p hm with ⟨vs, e⟩ | ⟨ys, e⟩ <;> (rw [hp] at e; cases e)
  · obtain ⟨⟨vs, e⟩, _⟩ := rh.gsok p hm
    rw [hp] at e; cases e
theorem fin_lst {xs : List MV} {vs : List V} {p : Addr} {Q : VK} (rh : RepH g ev ρ H h) (hp : H p = none) (kf : KFree g (upd H p (.lst vs))) (r : Reps g ev ρ H xs vs)
    (q : RPost g ev E ρ H (.ok (.list xs) h) (VQ g ev Q)) : Q (.ref p) (upd H p (.lst vs)) := by
  refine q ρ _ (Grow.ext (ext_upd hp)) (rh.ext (ext_upd hp) kf) _ ?_
  simp only [Rep]
  exact ⟨p, vs, rfl, upd_same, not_mut rh hp, r.up rh (Grow.ext (ext_upd hp))⟩
theorem fin_tup {xs : List MV} {vs : List V} {p : Addr} {Q : VK} (rh : RepH g ev ρ H h) (hp : H p = none) (kf : KFree g (upd H p (.tup vs))) (r : Reps g ev ρ H xs vs)
    (q : RPost g ev E ρ H (.ok (.tuple xs) h) (VQ g ev Q)) : Q (.ref p) (upd H p (.tup vs)) := by
  refine q ρ _ (Grow.ext (ext_upd hp)) (rh.ext (ext_upd hp) kf) _ ?_
  simp only [Rep]
  exact ⟨p, vs, rfl, SqT.of upd_same, r.up rh (Grow.ext (ext_upd hp))⟩
theorem rep_rf {envs : Fs} {n : Nat} {a : Addr} (e : ρ[n]? = some a) : Rep g envs ρ H (rf n) (.ref a) := by
  simp only [rf, Rep, RepX]
  exact ⟨a, rfl, by simpa using e⟩
/-- a list just made, frozen or mutable -/
theorem fin_new {xs : List MV} {vs : List V} {p : Addr} {Q : VK} {mu : Bool} (rh : RepH g ev ρ H h) (hp : H p = none) (kf : KFree g (upd H p (.lst vs))) (r : Reps g ev ρ H xs vs)
    (q : RPost g ev E ρ H (mkList mu xs h) (VQ g ev Q)) : Q (.ref p) (upd H p (.lst vs)) := by
  cases mu with
  | false => exact fin_lst rh hp kf r q
  | true =>
    by_cases hpl : PyData.plainAll xs = true
    · have q : RPost g ev E ρ H (.ok (rf h.length) (h ++ [.lst xs])) (VQ g ev Q) := by
        have := q
        simp only [mkList, hpl, if_true] at this
        exact this
      have gr0 : Grow g ρ H ρ (upd H p (.lst vs)) := Grow.ext (ext_upd hp)
      have rx : Reps g ev ρ (upd H p (.lst vs)) xs vs := r.up rh gr0
      obtain ⟨rh', gr⟩ := rh.new (mo := .lst xs) hp kf ⟨hpl, vs, upd_same, by
        refine r.grow rh.mut ⟨⟨[p], rfl⟩, fun a ha => ?_, fun a u hu _ _ => ext_upd hp a u hu, fun a ps hu => ⟨ps, ext_upd hp a _ hu⟩⟩ same_env
        rcases List.mem_append.mp ha with z | z
        · exact .inl z
        · have e : a = p := by simpa using z
          subst e
          exact .inr hp⟩
      refine q _ _ gr rh' _ (rep_rf ?_)
      rw [← rh.len, List.getElem?_append_right (Nat.le_refl _)]
      simp
    · exfalso
      simp only [mkList, if_true, hpl] at q
      exact q
theorem cap_eq : cap = sizeLine := by rw [sizeLine_eq]; rfl

/-! ### arithmetic -/
theorem lst_of {xs : List MV} {v : V} (r : Rep g ev ρ H (.list xs) v) : ∃ a vs, v = .ref a ∧ H a = some (.lst vs) ∧ NoM g ρ a ∧ Reps g ev ρ H xs vs := by simpa only [Rep] using r
theorem tup_of {xs : List MV} {v : V} (r : Rep g ev ρ H (.tuple xs) v) : ∃ a vs, v = .ref a ∧ SqT g.K H a vs ∧ Reps g ev ρ H xs vs := by simpa only [Rep] using r
theorem int_of {i : Int} {v : V} (r : Rep g ev ρ H (.int i) v) : v = .int i := by simpa only [Rep] using r
theorem bool_of {i : Bool} {v : V} (r : Rep g ev ρ H (.bool i) v) : v = .bl i := by simpa only [Rep] using r
theorem str_of {i : Str} {v : V} (r : Rep g ev ρ H (.str i) v) : v = .str i := by simpa only [Rep] using r
theorem non_of {v : V} (r : Rep g ev ρ H .none v) : v = .non := by simpa only [Rep] using r
theorem rep_int {i : Int} : Rep g ev ρ H (.int i) (.int i) := by simp only [Rep]
theorem rep_bool {i : Bool} : Rep g ev ρ H (.bool i) (.bl i) := by simp only [Rep]
theorem rep_str {i : Str} : Rep g ev ρ H (.str i) (.str i) := by simp only [Rep]
theorem rep_non : Rep g ev ρ H .none .non := by simp only [Rep]
theorem rpost_ite {α : Type} {p : Prop} [Decidable p] {m : M α} {Q : α → MH → List Addr → Hp → Prop} (q : RPost g ev E ρ H ((if p then m else bad) h) Q) : p ∧ RPost g ev E ρ H (m h) Q := by
  by_cases hp : p
  · rw [if_pos hp] at q; exact ⟨hp, q⟩
  · rw [if_neg hp] at q; exact q.elim
theorem rpost_opt {α : Type} {o : Option α} {Q : α → MH → List Addr → Hp → Prop} (q : RPost g ev E ρ H (opt o h) Q) : ∃ a, o = some a ∧ RPost g ev E ρ H (.ok a h) Q := by
  cases o with
  | none => exact q.elim
  | some a => exact ⟨a, rfl, q⟩

theorem ok_add (c : Cn g ev X E) : OpR X (binaryOp .Add) (rM2 g ev E (binM .add)) := by
  intro pins s σ H x y v u Q I rx ry q
  obtain ⟨ρ, h, a, b, rh, ra, rb, p⟩ := q
  cases a <;> cases b <;> try exact (show False from p).elim
  · have e1 := int_of ra; have e2 := int_of rb
    subst e1 e2
    exact OpR.go c op_add I rx ry ⟨_, _, rfl, rfl, fun _ => fin_same rh rep_int p⟩
  · have e1 := str_of ra; have e2 := str_of rb
    subst e1 e2
    obtain ⟨hz, p⟩ := rpost_ite p
    exact OpR.go c op_add_str I rx ry ⟨_, _, rfl, rfl, by rw [← cap_eq]; exact hz, fun _ => fin_same rh rep_str p⟩
  · obtain ⟨a1, vs, rfl, h1, _, r1⟩ := lst_of ra
    obtain ⟨a2, ws, rfl, h2, _, r2⟩ := lst_of rb
    obtain ⟨hz, p⟩ := rpost_ite p
    exact OpR.go c op_cat I rx ry ⟨_, _, _, _, rfl, rfl, h1, h2, by rw [← cap_eq, ← r1.length, ← r2.length]; exact hz, fun p' hp kf => fin_lst rh hp kf (r1.append r2) p⟩
  · obtain ⟨a1, vs, rfl, h1, r1⟩ := tup_of ra
    obtain ⟨a2, ws, rfl, h2, r2⟩ := tup_of rb
    obtain ⟨hz, p⟩ := rpost_ite p
    rw [← c.hK] at h1 h2
    refine OpR.go c op_catA I rx ry ⟨_, _, _, _, rfl, rfl, h1, h2, by rw [← cap_eq, ← r1.length, ← r2.length]; exact hz, fun e _ => ?_, fun _ e _ => ?_, fun _ _ p' hp kf => fin_tup rh hp kf (r1.append r2) p⟩
    · refine fin_same rh ?_ p
      have z := (r1.append r2)
      rw [e] at z
      rw [c.hK] at h2
      simp only [Rep]
      exact ⟨_, _, rfl, h2, by simpa using z⟩
    · refine fin_same rh ?_ p
      have z := (r1.append r2)
      rw [e] at z
      rw [c.hK] at h1
      simp only [Rep]
      exact ⟨_, _, rfl, h1, by simpa using z⟩
theorem ok_sub (c : Cn g ev X E) : OpR X (binaryOp .Sub) (rM2 g ev E (binM .sub)) := by
  intro pins s σ H x y v u Q I rx ry q
  obtain ⟨ρ, h, a, b, rh, ra, rb, p⟩ := q
  cases a <;> cases b <;> try exact (show False from p).elim
  have e1 := int_of ra; have e2 := int_of rb
  subst e1 e2
  exact OpR.go c op_sub I rx ry ⟨_, _, rfl, rfl, fun _ => fin_same rh rep_int p⟩
theorem ok_mod (c : Cn g ev X E) : OpR X (binaryOp .Mod) (rM2 g ev E (binM .mod)) := by
  intro pins s σ H x y v u Q I rx ry q
  obtain ⟨ρ, h, a, b, rh, ra, rb, p⟩ := q
  cases a <;> cases b <;> try exact (show False from p).elim
  have e1 := int_of ra; have e2 := int_of rb
  subst e1 e2
  obtain ⟨hz, p⟩ := rpost_ite p
  exact OpR.go c op_mod I rx ry ⟨_, _, rfl, rfl, hz, fun _ => fin_same rh rep_int p⟩
theorem ok_pow (c : Cn g ev X E) : OpR X (binaryOp .Pow) (rM2 g ev E (binM .pow)) := by
  intro pins s σ H x y v u Q I rx ry q
  obtain ⟨ρ, h, a, b, rh, ra, rb, p⟩ := q
  cases a <;> cases b <;> try exact (show False from p).elim
  have e1 := int_of ra; have e2 := int_of rb
  subst e1 e2
  obtain ⟨hz, p⟩ := rpost_ite p
  simp only [Bool.and_eq_true, decide_eq_true_eq] at hz
  exact OpR.go c op_pow I rx ry ⟨_, _, rfl, rfl, ⟨hz.1.1, hz.1.2, hz.2⟩, fun _ => fin_same rh rep_int p⟩
theorem ok_fdiv (c : Cn g ev X E) : OpR X (binaryOp .FloorDiv) (rM2 g ev E (binM .fdiv)) := by
  intro pins s σ H x y v u Q I rx ry q
  obtain ⟨ρ, h, a, b, rh, ra, rb, p⟩ := q
  cases a <;> cases b <;> try exact (show False from p).elim
  have e1 := int_of ra; have e2 := int_of rb
  subst e1 e2
  obtain ⟨hz, p⟩ := rpost_ite p
  simp only [divOk, Bool.and_eq_true, Bool.or_eq_true, decide_eq_true_eq] at hz
  obtain ⟨h0, h1⟩ := hz
  rcases h1 with h1 | h1
  · exact OpR.go c op_fdiv I rx ry ⟨_, _, rfl, rfl, ⟨h0, h1⟩, fun _ => fin_same rh rep_int p⟩
  · exact OpR.go c op_fdivW I rx ry ⟨_, _, rfl, rfl, wide_div h0 h1 (by decide) (Nat.le_refl _), fun _ => fin_same rh rep_int p⟩
theorem small_of {i : Int} (h : small i = true) : -(2 ^ 64) < i ∧ i < 2 ^ 64 := by
  simpa only [small, Bool.and_eq_true, decide_eq_true_eq] using h
theorem mul_int_ok (c : Cn g ev X E) {i j : Int} {v u : Value} {Q : VK} (I : Inv X pins σ H s) (rx : RelV (.int i) v) (ry : RelV (.int j) u) (rh : RepH g ev ρ H h) (hz : mulOk i j = true) (p : RPost g ev E ρ H (.ok (.int (i * j)) h) (VQ g ev Q)) :
    wpAny (model X.prog X.w) X.A (binaryOp .Mult v u) (EP X pins σ Q) X.xe s := by
  simp only [mulOk, Bool.or_eq_true, Bool.and_eq_true, decide_eq_true_eq] at hz
  rcases hz with (h1 | h1) | ⟨h1, h2⟩
  · exact OpR.go c op_mul I rx ry ⟨_, _, rfl, rfl, .inl (small_of h1), fun _ => fin_same rh rep_int p⟩
  · exact OpR.go c op_mul I rx ry ⟨_, _, rfl, rfl, .inr (small_of h1), fun _ => fin_same rh rep_int p⟩
  · exact OpR.go c op_mulW I rx ry ⟨_, _, rfl, rfl, wide_mul h1 h2 (by decide) (by decide) (by decide), fun _ => fin_same rh rep_int p⟩
end
theorem tuple_mul_same (l : Addr) (items : Array Value) (n : Nat) (dd : Option Addr) (sl : Array (Option Value)) (x : Int) (u : Tok) (c0 : (decide (x < -(2 ^ 63)) || decide (x ≥ 2 ^ 63)) = false) (c1 : (items.isEmpty || x == 1) = true) :
    Meets (Builtin.«tuple.__mul__» ⟨[.ref l, .int x u], []⟩) (fun _ R s => s.heap.get? l = some { cls := .type "tuple", dict := dd, data := .seq items n, slots := sl } ∧ R (.ok (.ret (.ref l))) s) :=
  .of_wp fun prog w A R s h => by
    obtain ⟨hp, g, d, tk, os⟩ := s
    obtain ⟨hl, h⟩ := h
    have f1 := AutoSeq1.idx_int
    wp_walk using wpAny_loadPart' hl
    refine wpAny_ite_false (decide_eq_false (by rw [c0]; exact Bool.false_ne_true)) ?_; wp_walk using wpAny_loadPart' hl
    exact ⟨_, rfl, h⟩
theorem tuple_mul_none (l : Addr) (items : Array Value) (n : Nat) (dd : Option Addr) (sl : Array (Option Value)) (x : Int) (u : Tok) (c0 : (decide (x < -(2 ^ 63)) || decide (x ≥ 2 ^ 63)) = false) (c1 : (items.isEmpty || x == 1) = false) (c2 : (decide (x ≤ 0) || items.isEmpty) = true) :
    Meets (Builtin.«tuple.__mul__» ⟨[.ref l, .int x u], []⟩) (fun _ R s => s.heap.get? l = some { cls := .type "tuple", dict := dd, data := .seq items n, slots := sl } ∧ R (.ok (.ret (Value.ref s.heap.objs.size))) { s with heap := s.heap.push { cls := Value.type "tuple", data := Data.seq #[] } }) :=
  .of_wp fun prog w A R s h => by
    obtain ⟨hp, g, d, tk, os⟩ := s
    obtain ⟨hl, h⟩ := h
    have f1 := AutoSeq1.idx_int
    wp_walk using wpAny_loadPart' hl
    refine wpAny_ite_false (decide_eq_false (by rw [c0]; exact Bool.false_ne_true)) ?_; wp_walk using wpAny_loadPart' hl
    exact ⟨_, rfl, h⟩

section
variable {g : GW} {ev : Fs} {X : Cx} {E : XK} {pins : List (Addr × Obj)} {σ : St} {H : Hp} {s : Shared} {ρ : List Addr} {h : MH}
def rRepA (K : PySem.W.Frag) : R2 := fun x y H Q => ∃ l k xs, x = .ref l ∧ y = .int k ∧ SqT K H l xs ∧ -(2 ^ 63) ≤ k ∧ k ≤ 1000 ∧ xs.length ≤ 1000 ∧
  (xs = [] ∨ k = 1 → Q (.ref l) H) ∧ (xs ≠ [] → k ≠ 1 → ∀ p, H p = none → Q (.ref p) (upd H p (.tup (List.replicate k.toNat xs).flatten)))
theorem op_repA : OpR X (binaryOp .Mult) (rRepA X.K) := by
  intro pins s σ H x y v u Q I rx ry h
  obtain ⟨l, k, xs, rfl, rfl, hT, h1, h2, hz, q1, q2⟩ := h
  by_cases hne : xs = [] ∨ k = 1
  · cases rx
    obtain ⟨t, rfl⟩ := ry
    obtain ⟨its, r, ⟨⟨cls, dd, data, sl⟩, ho, hc, n, hd⟩, hs⟩ := I.tuple hT
    simp only at hc hd
    subst hc hd
    have c0 : (decide (k < -(2 ^ 63)) || decide (k ≥ 2 ^ 63)) = false := by
      rw [decide_eq_false (by omega), decide_eq_false (by omega)] <;> rfl
    have c1 : (its.toArray.isEmpty || k == 1) = true := by
      rcases hne with e | e
      · subst e; cases r; rfl
      · subst e; simp
    exact wpAny_binaryOp_repeat_ref (T := "tuple") (U := "int") (by decide) ⟨_, ho, rfl⟩ (fun s' => typeIs_int s' k t) noFill_tuple_mul F.fills_int_mul F.slot_int_rmul repeat_tuple F.slot_int_index.lookup
      (call_meets F.slot_int_rmul (typeIs_int s k t) F.entry_int_rmul (F.args_int_rmul_2 _ _) (int_rmul_tuple k t l its.toArray n dd sl)
        ⟨ho, rfl, ⟨_, ho, rfl⟩, call_meets F.slot_tuple_mul ⟨_, ho, rfl⟩ F.entry_tuple_mul (F.args_tuple_mul_2 _ _) (tuple_mul_same l its.toArray n dd sl k t c0 c1) ⟨ho, ⟨.ref l, H, I, rfl, q1 hne⟩⟩⟩)
  · have hx : xs ≠ [] := fun e => hne (.inl e)
    have hk : k ≠ 1 := fun e => hne (.inr e)
    by_cases h2k : 2 ≤ k
    · exact op_repT pins s σ H _ _ v u Q I rx ry ⟨l, k, xs, rfl, rfl, hT, hx, h2k, h2, hz, q2 hx hk⟩
    · cases rx
      obtain ⟨t, rfl⟩ := ry
      obtain ⟨its, r, ⟨⟨cls, dd, data, sl⟩, ho, hc, n, hd⟩, hs⟩ := I.tuple hT
      simp only at hc hd
      subst hc hd
      have hn : its ≠ [] := fun e => hx (by subst e; cases r; rfl)
      have hi : its.toArray.isEmpty = false := by
        cases its with
        | nil => exact absurd rfl hn
        | cons a b => rfl
      have c0 : (decide (k < -(2 ^ 63)) || decide (k ≥ 2 ^ 63)) = false := by
        rw [decide_eq_false (by omega), decide_eq_false (by omega)] <;> rfl
      have c1 : (its.toArray.isEmpty || k == 1) = false := by
        rw [hi, Bool.false_or]
        exact beq_eq_false_iff_ne.mpr hk
      have c2 : (decide (k ≤ 0) || its.toArray.isEmpty) = true := by
        rw [decide_eq_true (by omega)]; rfl
      refine wpAny_binaryOp_repeat_ref (T := "tuple") (U := "int") (by decide) ⟨_, ho, rfl⟩ (fun s' => typeIs_int s' k t) noFill_tuple_mul F.fills_int_mul F.slot_int_rmul repeat_tuple F.slot_int_index.lookup
        (call_meets F.slot_int_rmul (typeIs_int s k t) F.entry_int_rmul (F.args_int_rmul_2 _ _) (int_rmul_tuple k t l its.toArray n dd sl)
          ⟨ho, rfl, ⟨_, ho, rfl⟩, call_meets F.slot_tuple_mul ⟨_, ho, rfl⟩ F.entry_tuple_mul (F.args_tuple_mul_2 _ _) (tuple_mul_none l its.toArray n dd sl k t c0 c1 c2) ⟨ho, ?_⟩⟩)
      have e0 : (List.replicate k.toNat xs).flatten = [] := by
        have : k.toNat = 0 := by omega
        rw [this]; rfl
      have q := q2 hx hk s.heap.objs.size (I.hok.fresh (Nat.le_refl _))
      rw [e0] at q
      refine ⟨.ref s.heap.objs.size, _, I.laid (t' := s.toks) (o := .tup []) (fun b ob q => Heap.get?_push_of_some _ q) (Nat.le_refl _) ?_, rfl, q⟩
      exact ⟨Nat.zero_le _, [], .nil, IsTup.new _ _⟩
theorem ok_mul (c : Cn g ev X E) : OpR X (binaryOp .Mult) (rM2 g ev E (binM .mul)) := by
  intro pins s σ H x y v u Q I rx ry q
  obtain ⟨ρ, h, a, b, rh, ra, rb, p⟩ := q
  cases a <;> cases b <;> try exact (show False from p).elim
  · have e1 := int_of ra; have e2 := int_of rb
    subst e1 e2
    obtain ⟨hz, p⟩ := rpost_ite p
    exact mul_int_ok c I rx ry rh hz p
  · rename_i xs k
    obtain ⟨a1, vs, rfl, h1, r1⟩ := tup_of ra
    have e2 := int_of rb
    subst e2
    obtain ⟨hz, p⟩ := rpost_ite p
    simp only [trepOk, Bool.and_eq_true, decide_eq_true_eq] at hz
    have h1' := h1
    rw [← c.hK] at h1
    refine OpR.go c op_repA I rx ry ⟨_, _, _, rfl, rfl, h1, hz.1.1, hz.1.2, by rw [← r1.length]; exact hz.2, fun e _ => ?_, fun _ _ p' hp kf => fin_tup rh hp kf (r1.rep _) p⟩
    refine fin_same rh ?_ p
    have z := r1.rep k.toNat
    simp only [Rep]
    refine ⟨_, _, rfl, h1', ?_⟩
    rcases e with e | e
    · subst e
      have e3 : xs = [] := List.eq_nil_of_length_eq_zero (by simpa using r1.length)
      subst e3
      simpa [MM.rep] using r1
    · subst e
      simpa [MM.rep] using r1
theorem ok_lmul (c : Cn g ev X E) (mu : Bool) : OpR X (binaryOp .Mult) (rM2 g ev E (lmulM mu)) := by
  intro pins s σ H x y v u Q I rx ry q
  obtain ⟨ρ, h, a, b, rh, ra, rb, p⟩ := q
  cases a <;> cases b <;> try exact (show False from p).elim
  obtain ⟨a1, vs, rfl, h1, _, r1⟩ := lst_of ra
  have e2 := int_of rb
  subst e2
  obtain ⟨hz, p⟩ := rpost_ite p
  simp only [repOk, Bool.and_eq_true, decide_eq_true_eq] at hz
  exact OpR.go c op_rep I rx ry ⟨_, _, _, rfl, rfl, h1, hz.1.1, hz.1.2, by rw [← cap_eq, ← r1.length]; exact hz.2, fun p' hp kf => fin_new rh hp kf (r1.rep _) p⟩

/-! ### comparisons -/
theorem reads_of {d : MV} {v : V} {u : Value} (c : Cn g ev X E) (I : Inv X pins σ H s) (r : Rep g ev ρ H d v) (p : d.plain = true) (rv : RelV v u) : ∃ as, Reads s.heap u d as :=
  Dp.reads I d v u (by rw [c.hK]; exact Rep.dp d v r p) rv
theorem readsAll_of {d : List MV} {v : List V} {u : List Value} (c : Cn g ev X E) (I : Inv X pins σ H s) (r : Reps g ev ρ H d v) (p : PyData.plainAll d = true) (rv : Vals v u) : ∃ as, ReadsAll s.heap u d as :=
  Dp.readsAll I d v u (by rw [c.hK]; exact Reps.dp d v r p) rv
theorem fin_b {b : Bool} {Q : VK} (I : Inv X pins σ H s) (rh : RepH g ev ρ H h) (p : RPost g ev E ρ H (.ok (.bool b) h) (VQ g ev Q)) : EP X pins σ Q (.bool b) s :=
  ⟨.bl b, H, I, rfl, fin_same rh rep_bool p⟩
abbrev cm (op : COp) : MV → MV → M MV := fun x y => M.bind (cmpM op x y) fun r => M.pure (.bool r)
theorem ok_eq (c : Cn g ev X E) : OpR X (compareOp .Eq) (rM2 g ev E (cm .eq)) := by
  intro pins s σ H x y v u Q I rx ry q
  obtain ⟨ρ, h, a, b, rh, ra, rb, p⟩ := q
  have p := p.bind
  obtain ⟨hz, p⟩ := rpost_ite p
  simp only [deepOk, Bool.and_eq_true, decide_eq_true_eq] at hz
  obtain ⟨as, ra'⟩ := reads_of c I ra hz.1.1 rx
  obtain ⟨bs, rb'⟩ := reads_of c I rb hz.1.2 ry
  have hu := c.room.un
  exact SeqAt.eq_plain ra' rb' hz.1.1 hz.1.2 (by omega) (fin_b I rh (p ρ H Grow.refl rh))
theorem ok_ne (c : Cn g ev X E) : OpR X (compareOp .NotEq) (rM2 g ev E (cm .ne)) := by
  intro pins s σ H x y v u Q I rx ry q
  obtain ⟨ρ, h, a, b, rh, ra, rb, p⟩ := q
  have p := p.bind.bind
  obtain ⟨hz, p⟩ := rpost_ite p
  simp only [deepOk, Bool.and_eq_true, decide_eq_true_eq] at hz
  obtain ⟨as, ra'⟩ := reads_of c I ra hz.1.1 rx
  obtain ⟨bs, rb'⟩ := reads_of c I rb hz.1.2 ry
  have hu := c.room.un
  exact SeqAt.ne_plain ra' rb' hz.1.1 hz.1.2 (by omega) (fin_b I rh (p ρ H Grow.refl rh ρ H Grow.refl rh))
theorem ltM_of {a b : MV} {Q : Bool → MH → List Addr → Hp → Prop} (p : RPost g ev E ρ H (ltM a b h) Q) :
    PySem.W.alike a b = true ∧ a ≠ .none ∧ min a.depth b.depth ≤ 100 ∧ a.plain = true ∧ b.plain = true ∧ RPost g ev E ρ H (.ok (PySem.W.dataLt a b) h) Q := by
  obtain ⟨hz, p⟩ := rpost_ite p
  simp only [deepOk, Bool.and_eq_true, decide_eq_true_eq, Bool.not_eq_true'] at hz
  refine ⟨hz.1.1.1.1, fun e => ?_, hz.1.1.2, hz.1.2, hz.2, p⟩
  have := hz.1.1.1.2
  rw [e] at this
  cases this
theorem ok_lt (c : Cn g ev X E) : OpR X (compareOp .Lt) (rM2 g ev E (cm .lt)) := by
  intro pins s σ H x y v u Q I rx ry q
  obtain ⟨ρ, h, a, b, rh, ra, rb, p⟩ := q
  obtain ⟨h1, h2, h3, h4, h5, p⟩ := ltM_of p.bind
  obtain ⟨as, ra'⟩ := reads_of c I ra h4 rx
  obtain ⟨bs, rb'⟩ := reads_of c I rb h5 ry
  have hu := c.room.un
  exact PySem.W.lt_data ra' rb' h1 h2 (by omega) (fin_b I rh (p ρ H Grow.refl rh))
theorem alike_sym {a b : MV} (h : PySem.W.alike a b = true) : PySem.W.alike b a = true := by rw [PySem.W.alike_comm]; exact h
theorem ok_gt (c : Cn g ev X E) : OpR X (compareOp .Gt) (rM2 g ev E (cm .gt)) := by
  intro pins s σ H x y v u Q I rx ry q
  obtain ⟨ρ, h, a, b, rh, ra, rb, p⟩ := q
  obtain ⟨h1, h2, h3, h4, h5, p⟩ := ltM_of p.bind
  obtain ⟨as, ra'⟩ := reads_of c I ra h5 rx
  obtain ⟨bs, rb'⟩ := reads_of c I rb h4 ry
  have hu := c.room.un
  exact PySem.W.gt_data ra' rb' (alike_sym h1) (PySem.W.ne_none_both h1 h2) (by omega) (fin_b I rh (p ρ H Grow.refl rh))
theorem ok_le (c : Cn g ev X E) : OpR X (compareOp .LtE) (rM2 g ev E (cm .le)) := by
  intro pins s σ H x y v u Q I rx ry q
  obtain ⟨ρ, h, a, b, rh, ra, rb, p⟩ := q
  obtain ⟨h1, h2, h3, h4, h5, p⟩ := ltM_of p.bind.bind
  obtain ⟨as, ra'⟩ := reads_of c I ra h5 rx
  obtain ⟨bs, rb'⟩ := reads_of c I rb h4 ry
  have hu := c.room.un
  exact PySem.W.le_data ra' rb' (alike_sym h1) (PySem.W.ne_none_both h1 h2) (by omega) (fin_b I rh (p ρ H Grow.refl rh ρ H Grow.refl rh))
theorem ok_ge (c : Cn g ev X E) : OpR X (compareOp .GtE) (rM2 g ev E (cm .ge)) := by
  intro pins s σ H x y v u Q I rx ry q
  obtain ⟨ρ, h, a, b, rh, ra, rb, p⟩ := q
  obtain ⟨h1, h2, h3, h4, h5, p⟩ := ltM_of p.bind.bind
  obtain ⟨as, ra'⟩ := reads_of c I ra h4 rx
  obtain ⟨bs, rb'⟩ := reads_of c I rb h5 ry
  have hu := c.room.un
  exact PySem.W.ge_data ra' rb' h1 h2 (by omega) (fin_b I rh (p ρ H Grow.refl rh ρ H Grow.refl rh))
/-- what seqM reads off a value -/
inductive Seq (g : GW) (envs : Fs) (ρ : List Addr) (H : Hp) (a : MV) (xs : List MV) (v : V) : Prop where
  | lst (p : Addr) (vs : List V) (ev : v = .ref p) (e : H p = some (.lst vs)) (r : Reps g envs ρ H xs vs) (n : ∀ ys, a ≠ .tuple ys)
  | tup (p : Addr) (vs : List V) (ev : v = .ref p) (e : SqT g.K H p vs) (r : Reps g envs ρ H xs vs) (n : a = .tuple xs)
theorem seqM_of {a : MV} {v : V} {Q : List MV → MH → List Addr → Hp → Prop} (rh : RepH g ev ρ H h) (r : Rep g ev ρ H a v) (p : RPost g ev E ρ H (seqM a h) Q) :
    ∃ xs, Seq g ev ρ H a xs v ∧ RPost g ev E ρ H (.ok xs h) Q := by
  unfold seqM at p
  split at p
  · obtain ⟨q, vs, rfl, h1, _, r1⟩ := lst_of r
    exact ⟨_, .lst q vs rfl h1 r1 (fun _ z => by cases z), p⟩
  · obtain ⟨q, vs, rfl, h1, r1⟩ := tup_of r
    exact ⟨_, .tup q vs rfl h1 r1 rfl, p⟩
  · rename_i kvs
    cases e : rfOf (.dict kvs) with
    | none => rw [e] at p; exact p.elim
    | some n =>
      simp only [e] at p
      split at p
      · rename_i xs hn
        simp only [Rep] at r
        unfold rfOf at e
        split at e
        · rename_i i hk
          cases e
          injection hk with hk
          subst hk
          simp only [RepX] at r
          obtain ⟨q, rfl, hq⟩ := r
          obtain ⟨_, vs, e1, r1⟩ := rh.at_ _ _ _ hn hq
          exact ⟨_, .lst q vs rfl e1 r1 (fun _ z => by cases z), p⟩
        · cases e
      · exact p.elim
  · exact p.elim
/-- what inM asks: a dict's key, or an item -/
theorem keyR_of {a : MV} {x : V} (hk : isKey a = true) (ra : Rep g ev ρ H a x) : ∃ k, x = kV k ∧ keyRel a k := by
  cases a with
  | int i => exact ⟨.inl i, int_of ra, rfl⟩
  | str i => exact ⟨.inr i, str_of ra, rfl⟩
  | _ => cases hk
theorem dget_val {a : MV} {k : Key} (hk : keyRel a k) : ∀ {es : List (MV × MV)} {ys : List (Key × V)}, RepK g ev ρ H es ys →
    (match dget a es, valV ys k with | some d, some v => Rep g ev ρ H d v | none, none => True | _, _ => False)
  | [], ys, r => by simp only [RepK] at r; subst r; simp [dget, valV]
  | (b, d) :: es, _, r => by
    simp only [RepK] at r
    obtain ⟨q, y, ys, rfl, h1, h2, h3, h4⟩ := r
    have ih := dget_val hk h4
    have he : keyEq b a = decide (q = k) := by
      cases a <;> cases b <;> simp_all [keyEq, keyRel]
    rw [dget, he]
    by_cases e : q = k
    · rw [valV_pos (p := (q, y)) e]
      simp only [e, decide_true, if_true]
      exact h2
    · rw [valV_neg (p := (q, y)) e]
      simp only [e, decide_false, Bool.false_eq_true, if_false]
      exact ih
theorem inM_of {a b : MV} {x y : V} {Q : Bool → MH → List Addr → Hp → Prop} (rh : RepH g ev ρ H h) (ra : Rep g ev ρ H a x) (rb : Rep g ev ρ H b y) (p : RPost g ev E ρ H (inM a b h) Q) :
    RPost g ev E ρ H (inSeq a b h) Q ∨ ∃ q o, y = .ref q ∧ DGet H q x o ∧ RPost g ev E ρ H (.ok o.isSome h) Q := by
  unfold inM at p
  cases e : rfOf b with
  | none => rw [e] at p; exact .inl p
  | some n =>
    rw [e] at p
    cases e2 : h[n]? with
    | none => simp only [e2] at p; exact .inl p
    | some o =>
      cases o with
      | lst xs => simp only [e2] at p; exact .inl p
      | dct es =>
        simp only [e2] at p
        by_cases hk : isKey a = true
        · rw [if_pos hk] at p
          obtain ⟨k, rfl, hk2⟩ := keyR_of hk ra
          have hb : ∃ q, y = .ref q ∧ ρ[n]? = some q := by
            cases b with
            | dict kvs =>
              simp only [Rep] at rb
              unfold rfOf at e
              split at e
              · rename_i i hq
                cases e
                injection hq with hq
                subst hq
                simpa only [RepX] using rb
              · cases e
            | _ => cases e
          obtain ⟨q, rfl, hq⟩ := hb
          obtain ⟨ys, e1, r1⟩ := rh.at_ _ _ _ e2 hq
          refine .inr ⟨q, _, rfl, DGet.k e1, ?_⟩
          have z := dget_val hk2 r1
          have : (dget a es).isSome = (valV ys k).isSome := by
            cases w1 : dget a es <;> cases w2 : valV ys k <;> simp_all
          rw [← this]
          exact p
        · rw [if_neg hk] at p; exact p.elim
theorem ok_in (c : Cn g ev X E) : OpR X (compareOp .In) (rM2 g ev E (cm .isin)) := by
  intro pins s σ H x y v u Q I rx ry q
  obtain ⟨ρ, h, a, b, rh, ra, rb, p⟩ := q
  rcases inM_of rh ra rb p.bind with p | ⟨q, o, rfl, dg, p⟩
  case inr =>
    cases ry
    have hu := c.room.un
    exact d_in (by omega) I dg rx fun s' I' => fin_b I' rh (p ρ H Grow.refl rh)
  obtain ⟨xs, sq, p⟩ := seqM_of rh rb p.bind
  obtain ⟨hz, p⟩ := rpost_ite (p ρ H Grow.refl rh)
  simp only [Bool.and_eq_true, decide_eq_true_eq] at hz
  have p := p ρ H Grow.refl rh
  obtain ⟨as, ra'⟩ := reads_of c I ra hz.1.1 rx
  have hu := c.room.un
  cases sq with
  | lst q vs e1 e2 r1 =>
    subst e1
    obtain ⟨its, rv, pl, _⟩ := I.list (SqL.of e2)
    obtain ⟨bs, rs⟩ := readsAll_of c I r1 hz.1.2 rv
    cases ry
    obtain ⟨o, n, h1, h2, h3, h4⟩ := pl
    exact SeqAt.in_list_data (.list h1 h2 h4 rs) ra' hz.1.2 hz.1.1 (by omega) (fin_b I rh p)
  | tup q vs e1 e2 r1 =>
    subst e1
    rw [← c.hK] at e2
    obtain ⟨its, rv, ⟨o, h1, h2, n, h3⟩, _⟩ := I.tuple e2
    obtain ⟨bs, rs⟩ := readsAll_of c I r1 hz.1.2 rv
    cases ry
    exact SeqAt.in_tuple_data (.tuple h1 h2 h3 rs) ra' hz.1.2 hz.1.1 (by omega) (fin_b I rh p)
theorem ok_notin (c : Cn g ev X E) : OpR X (compareOp .NotIn) (rM2 g ev E (cm .notin)) := by
  intro pins s σ H x y v u Q I rx ry q
  obtain ⟨ρ, h, a, b, rh, ra, rb, p⟩ := q
  rcases inM_of rh ra rb p.bind.bind with p | ⟨q, o, rfl, dg, p⟩
  case inr =>
    cases ry
    have hu := c.room.un
    exact d_notIn (by omega) I dg rx fun s' I' => fin_b I' rh (p ρ H Grow.refl rh ρ H Grow.refl rh)
  obtain ⟨xs, sq, p⟩ := seqM_of rh rb p.bind
  obtain ⟨hz, p⟩ := rpost_ite (p ρ H Grow.refl rh)
  simp only [Bool.and_eq_true, decide_eq_true_eq] at hz
  have p := p ρ H Grow.refl rh ρ H Grow.refl rh
  obtain ⟨as, ra'⟩ := reads_of c I ra hz.1.1 rx
  have hu := c.room.un
  cases sq with
  | lst q vs e1 e2 r1 =>
    subst e1
    obtain ⟨its, rv, pl, _⟩ := I.list (SqL.of e2)
    obtain ⟨bs, rs⟩ := readsAll_of c I r1 hz.1.2 rv
    cases ry
    obtain ⟨o, n, h1, h2, h3, h4⟩ := pl
    exact SeqAt.notIn_list_data (.list h1 h2 h4 rs) ra' hz.1.2 hz.1.1 (by omega) (fin_b I rh p)
  | tup q vs e1 e2 r1 =>
    subst e1
    rw [← c.hK] at e2
    obtain ⟨its, rv, ⟨o, h1, h2, n, h3⟩, _⟩ := I.tuple e2
    obtain ⟨bs, rs⟩ := readsAll_of c I r1 hz.1.2 rv
    cases ry
    exact SeqAt.notIn_tuple_data (.tuple h1 h2 h3 rs) ra' hz.1.2 hz.1.1 (by omega) (fin_b I rh p)
end
end Snd

-- Snd4
set_option autoImplicit false
set_option linter.all false
set_option Elab.async false
set_option maxRecDepth 100000
set_option maxHeartbeats 4000000
/-! soundness of M, part 4: tests, built-ins -/
namespace Snd
open PySem PySem.Spec PyProof.Rows L2 MM
section
variable {g : GW} {ev : Fs} {X : Cx} {E : XK} {pins : List (Addr × Obj)} {σ : St} {H : Hp} {s : Shared} {ρ : List Addr} {h : MH}
theorem non_iff {a : MV} {x : V} (ra : Rep g ev ρ H a x) : decide (x = V.non) = isNon a := by
  cases a with
  | none => rw [non_of ra]; rfl
  | bool i => rw [bool_of ra]; rfl
  | int i => rw [int_of ra]; rfl
  | str i => rw [str_of ra]; rfl
  | list i => obtain ⟨a1, vs, e, _⟩ := lst_of ra; rw [e]; rfl
  | tuple i => obtain ⟨a1, vs, e, _⟩ := tup_of ra; rw [e]; rfl
  | dict kvs =>
    simp only [Rep] at ra
    unfold RepX at ra
    split at ra
    · obtain ⟨a1, e, _⟩ := ra; rw [e]; rfl
    · obtain ⟨a1, _, e, _⟩ := ra; rw [e]; rfl
    · obtain ⟨a1, e, _⟩ := ra; rw [e]; rfl
    · obtain ⟨f, _, _, _, _, _, _, _, _, e, _⟩ := ra; rw [e]; rfl
    · exact ra.elim
theorem ok_is (c : Cn g ev X E) : OpR X (compareOp .Is) (rM2 g ev E (cm .is)) := by
  intro pins s σ H x y v u Q I rx ry q
  obtain ⟨ρ, h, a, b, rh, ra, rb, p⟩ := q
  have p := p.bind
  simp only [cmpM] at p
  cases b with
  | none =>
    have e2 := non_of rb
    subst e2
    refine OpR.go c op_isN I rx ry ⟨rfl, fun _ => ?_⟩
    have p := p ρ H Grow.refl rh
    have e := non_iff ra
    rw [e]
    exact fin_same rh rep_bool p
  | bool k =>
    cases a with
    | bool i =>
      have e1 := bool_of ra; have e2 := bool_of rb
      subst e1 e2
      exact OpR.go c op_isBl I rx ry ⟨_, _, rfl, rfl, fun _ => fin_same rh rep_bool (p ρ H Grow.refl rh)⟩
    | _ => exact p.elim
  | _ => exact p.elim
theorem ok_isnot (c : Cn g ev X E) : OpR X (compareOp .IsNot) (rM2 g ev E (cm .isnot)) := by
  intro pins s σ H x y v u Q I rx ry q
  obtain ⟨ρ, h, a, b, rh, ra, rb, p⟩ := q
  have p := p.bind.bind
  cases b with
  | none =>
    have e2 := non_of rb
    subst e2
    refine OpR.go c op_notN I rx ry ⟨rfl, fun _ => ?_⟩
    have p := p ρ H Grow.refl rh ρ H Grow.refl rh
    have e := non_iff ra
    rw [e]
    exact fin_same rh rep_bool p
  | bool k =>
    cases a with
    | bool i =>
      have e1 := bool_of ra; have e2 := bool_of rb
      subst e1 e2
      exact OpR.go c op_notBl I rx ry ⟨_, _, rfl, rfl, fun _ => fin_same rh rep_bool (p ρ H Grow.refl rh ρ H Grow.refl rh)⟩
    | _ => exact p.elim
  | _ => exact p.elim
def opOf : COp → CmpOp
  | .eq => .Eq | .ne => .NotEq | .lt => .Lt | .le => .LtE | .gt => .Gt | .ge => .GtE | .isin => .In | .notin => .NotIn | .is => .Is | .isnot => .IsNot
theorem ok_cmp (c : Cn g ev X E) (op : COp) : OpR X (compareOp (opOf op)) (rM2 g ev E (cm op)) := by
  cases op
  · exact ok_eq c
  · exact ok_ne c
  · exact ok_lt c
  · exact ok_le c
  · exact ok_gt c
  · exact ok_ge c
  · exact ok_in c
  · exact ok_notin c
  · exact ok_is c
  · exact ok_isnot c
def bopOf : BOp → Operator
  | .add => .Add | .sub => .Sub | .mul => .Mult | .fdiv => .FloorDiv | .mod => .Mod | .pow => .Pow
theorem ok_bin (c : Cn g ev X E) (op : BOp) : OpR X (binaryOp (bopOf op)) (rM2 g ev E (binM op)) := by
  cases op
  · exact ok_add c
  · exact ok_sub c
  · exact ok_mul c
  · exact ok_fdiv c
  · exact ok_mod c
  · exact ok_pow c
/-- two values, then an operation -/
theorem two {ma mb : MSt → M MV} {f : MV → MV → M MV} {Q : VK} (p : tM g ev E (fun τ => M.bind (ma τ) fun x => M.bind (mb τ) fun y => f x y) σ H Q) :
    tOp (rM2 g ev E f) (tM g ev E ma) (tM g ev E mb) σ H Q := by
  obtain ⟨ρ, τ, h, rs, rh, p⟩ := p
  refine ⟨ρ, τ, h, rs, rh, p.bind.imp fun x h1 ρ1 H1 gr rh1 p1 v rv => ?_⟩
  refine ⟨ρ1, τ, h1, rs.up rh gr, rh1, p1.bind.imp fun y h2 ρ2 H2 gr2 rh2 p2 u ru => ?_⟩
  exact ⟨ρ2, h2, x, y, rh2, rv.up rh1 gr2, ru, p2⟩
theorem two_kf {ma mb : MSt → M MV} {f : MV → MV → M MV} {Q : VK} (p : tOp (rM2 g ev E f) (tM g ev E ma) (tM g ev E mb) σ H Q) :
    tOp (rM2 g ev E f) (tM g ev E ma) (tM g ev E mb) σ H (fun v H' => KFree g H' → Q v H') := by
  obtain ⟨ρ, τ, h, rs, rh, p⟩ := p
  refine ⟨ρ, τ, h, rs, rh, p.imp fun x h1 ρ1 H1 gr rh1 p1 v rv => ?_⟩
  obtain ⟨ρ1', τ', h1', rs', rh1', p⟩ := p1 v rv
  refine ⟨ρ1', τ', h1', rs', rh1', p.imp fun y h2 ρ2 H2 gr2 rh2 p2 u ru => ?_⟩
  obtain ⟨ρ3, h3, a, b, r1, r2, r3, p⟩ := p2 u ru
  exact ⟨ρ3, h3, a, b, r1, r2, r3, p.imp fun d h4 ρ4 H4 _ _ q w rw _ => q w rw⟩
theorem pe_cmpM {a b : Expr} {op : COp} {pos : Pos} {ma mb : MSt → M MV} (c : Cn g ev X E) (ha : PE X a (tM g ev E ma)) (hb : PE X b (tM g ev E mb)) (hm : behindInMarks (opOf op) b = false) :
    PE X (.Compare a [opOf op] [b] pos) (tM g ev E fun τ => M.bind (ma τ) fun x => M.bind (mb τ) fun y => cm op x y) :=
  PE.via c (pe_cmpR (ok_cmp c op) ha hb hm) fun σ H Q p => two_kf (two p)
theorem tv_bool {m : M Bool} : M.bind (M.bind m fun r => (M.pure (PyData.bool r) : M MV)) truthM = m := by
  funext h
  unfold M.bind
  cases m h <;> rfl
end
end Snd

-- Snd5
set_option autoImplicit false
set_option linter.all false
set_option Elab.async false
set_option maxRecDepth 100000
set_option maxHeartbeats 4000000
/-! soundness of M, part 5: sorting, least and greatest -/
namespace Snd
open PySem PySem.Spec PyProof.Rows L2 MM PySem.W
theorem le_lt (a b : PyData) : dataLe false (fun x : PyData => x) a b = !dataLt b a := by
  rw [dataLe_eq]; rfl
theorem ins_split (x : MV) : ∀ (l₁ l₂ : List MV), (∀ b ∈ l₁, dataLt b x = true) → (∀ b ∈ l₂, dataLt b x = false) → MM.ins x (l₁ ++ l₂) = l₁ ++ x :: l₂
  | [], [], _, _ => rfl
  | [], y :: r, _, h => by
    show (if dataLt y x then y :: MM.ins x r else x :: y :: r) = _
    rw [if_neg (by rw [h y List.mem_cons_self]; decide)]
    rfl
  | y :: l₁, l₂, h1, h2 => by
    show (if dataLt y x then y :: MM.ins x (l₁ ++ l₂) else _) = _
    rw [if_pos (h1 y List.mem_cons_self), ins_split x l₁ l₂ (fun b hb => h1 b (List.mem_cons_of_mem _ hb)) h2]
    rfl
theorem tot : TotalLe (dataLe false (fun x : PyData => x)) := sortLe_total _ _ _
theorem isort_eq : ∀ xs : List MV, isort xs = xs.mergeSort (dataLe false (fun x : PyData => x))
  | [] => by simp [isort]
  | x :: r => by
    obtain ⟨l₁, l₂, e1, e2, hl⟩ := List.mergeSort_cons (le := dataLe false (fun x : PyData => x)) (fun a b c => tot.trans a b c) (fun a b => by simpa using tot.total a b) x r
    rw [isort, isort_eq r, e2, e1]
    refine ins_split x l₁ l₂ (fun b hb => ?_) fun b hb => ?_
    · have := hl b hb
      rw [le_lt] at this
      simpa using this
    · have hs : (l₁ ++ x :: l₂).Pairwise (fun a b => dataLe false (fun x : PyData => x) a b = true) := by
        rw [← e1]; exact sort_pairwise tot _
      rw [List.pairwise_append] at hs
      have h3 := (List.pairwise_cons.mp hs.2.1).1 b hb
      rw [le_lt] at h3
      simpa using h3

section
variable {prog : Program} {w : World} {A : Around} {E : Value → Shared → Prop} {s : Shared}
/-- what a sequence holds, gathered; the heap is not smaller behind it -/
theorem collect_big {Q : List Value → Shared → Prop} (it : Addr) {T : String} {o : Obj} {its : Array Value} {n : Nat} (hT : T = "list" ∨ T = "tuple") (ho : s.heap.get? it = some o) (hc : o.cls = .type T) (hd : o.data = .seq its n)
    (hsz : its.size ≤ sizeLine) (hQ : ∀ h', (∀ b o', s.heap.get? b = some o' → h'.get? b = some o') → s.heap.objs.size ≤ h'.objs.size → Q its.toList { s with heap := h' }) : wpAny (model prog w) A (collect (.ref it)) Q E s := by
  unfold collect
  refine wpAny_bind (wpAny_runValue (codeAny_builtin F.entry_proto_collect ?_))
  rw [Around.under_plainId F.plain_proto_collect _]
  show wpAny _ A.in1 (PySem.newList [] >>= fun l => again (.builtin "list.__iadd__" ⟨[l, .ref it], []⟩)) _ _ s
  refine wpAny_bind (wpAny_newObj_type ?_)
  refine wpAny_pure ⟨plainId_quiet F.plain_list_iadd _, codeAny_builtin F.entry_list_iadd ?_⟩
  rw [Around.under_plainId F.plain_list_iadd _]
  generalize hh : s.heap.push { cls := .type "list", data := .seq ([] : List Value).toArray } = hp
  have hS : hp.get? s.heap.objs.size = some { cls := .type "list", data := .seq #[] 0 } := by rw [← hh]; exact Heap.get?_push_size _ rfl
  have hold : ∀ b o', s.heap.get? b = some o' → hp.get? b = some o' := fun b o' q => by rw [← hh]; exact Heap.get?_push_of_some _ q
  have hS2 := Heap.get?_update_self (Obj.mapSeq (· ++ its)) hS rfl
  have hbig : s.heap.objs.size ≤ (hp.update s.heap.objs.size (Obj.mapSeq (· ++ its))).objs.size := by
    rw [Heap.size_update, ← hh, Heap.size_push]; exact Nat.le_succ _
  have last : wpAny (model prog w) A (match Value.ref s.heap.objs.size with
      | Value.ref a => do
        match (← load a).data with
          | Data.seq xs _ => pure xs.toList
          | _ => unsupported "internal:collect"
      | _ => unsupported "internal:collect") Q E { s with heap := hp.update s.heap.objs.size (Obj.mapSeq (· ++ its)) } := by
    show wpAny _ A (load s.heap.objs.size >>= _) _ _ _
    refine wpAny_bind (wpAny_load hS2 (wpAny_pure ?_))
    have e : ((#[] : Array Value) ++ its).toList = its.toList := by simp
    show Q ((#[] : Array Value) ++ its).toList _
    rw [e]
    exact hQ _ (fun b o' hb => (Heap.get?_update_other _ _ (Nat.ne_of_gt (Heap.lt_size hb))).trans (hold b o' hb)) hbig
  refine wpAny_mono (wpAny_extend_seq (hsz := hsz) (A := A) (R := fun r s' => r = .ok (.ret (.ref s.heap.objs.size)) ∧ s' = { s with heap := hp.update s.heap.objs.size (Obj.mapSeq (· ++ its)) }) (s := { s with heap := hp }) _ it _ 0 hT hS (hold _ _ ho) hc hd ⟨rfl, rfl⟩)
    (fun fin s' h => ?_) (fun e s' h => absurd h.1 (by simp))
  cases fin with
  | done f =>
    obtain ⟨e, rfl⟩ := h
    cases e
    exact last
  | again c' => exact ⟨h.1, codeAny_mono h.2 fun r s'' hr => by obtain ⟨rfl, rfl⟩ := hr; exact last⟩
/-- sorted of a list or of a tuple that reads as alike data -/
theorem sorted_seqD {R : Value → PyData → Prop} {it : Addr} {T : String} {o : Obj} {vs : List Value} {bs : List PyData} {n : Nat} {Q : Value → Shared → Prop} (hT : T = "list" ∨ T = "tuple") (ho : s.heap.get? it = some o) (hc : o.cls = .type T) (hd : o.data = .seq vs.toArray n)
    (e : EachIs R vs bs) (er : EachIs (fun v b => ∃ as, Reads s.heap v b as) vs bs) (hal : AllAlike bs) (hk : Sortable bs) (hL : bs.length ≤ sizeLine) (hu : ∀ b, b ∈ bs → A.units + 5 + b.depth < cLine)
    (h : ∀ (out : List Value) (h' : Heap) (p n : Nat), out.length = bs.length → EachIs R out (isort bs) → (∀ b o, s.heap.get? b = some o → h'.get? b = some o) → s.heap.objs.size ≤ p → h'.get? p = some (seqObj "list" out.toArray n) → Q (.ref p) { s with heap := h' }) :
    wpAny (model prog w) A (call (.builtin "sorted") [.ref it]) Q E s := by
  have hl : vs.length = bs.length := e.length
  refine Calls.call_function_entry kind_sorted plain_sorted entry_sorted (args_sorted1 _) ?_
  unfold Builtin.«sorted»
  refine wpAny_bind (m := checkCount "sorted" 1 1 _) (wpAny_pure ?_)
  refine wpAny_bind (collect_big it hT ho hc hd (by simp only [List.size_toArray]; omega) (fun h1 k1 z1 => ?_))
  refine wpAny_bind (wpAny_newList ?_ (by simpa [hl] using hL))
  have ha : (h1.push (seqObj "list" vs.toArray 0)).get? h1.objs.size = some (seqObj "list" vs.toArray 0) := Heap.get?_push_size _ rfl
  have k2 : ∀ b o, s.heap.get? b = some o → (h1.push (seqObj "list" vs.toArray 0)).get? b = some o := fun b o q => Heap.get?_push_of_some _ (k1 b o q)
  refine wpAny_bind (wpAny_holding ?_)
  have hem : bs.map (fun x : PyData => x) = bs := List.map_id' bs
  have er2 : EachIs (fun v b => ∃ as, Reads (h1.push (seqObj "list" vs.toArray 0)) v b as ∧ h1.objs.size ∉ as) vs bs := er.mono fun v b ⟨as, r⟩ => by
    refine ⟨as, PyProof.Rows.Reads.keeps k2 r, fun hm => ?_⟩
    obtain ⟨ob, q⟩ := PyProof.On.reads_mem_get (PyProof.Rows.Reads.keeps k1 r) _ hm
    exact absurd (Heap.lt_size q) (Nat.lt_irrefl _)
  show wpAny (model prog w) _ (call (.builtin "list.sort") [.ref h1.objs.size]) _ _ { s with heap := h1.push (seqObj "list" vs.toArray 0) }
  refine list_sort_data (enc := fun x : PyData => x) (R := R) (bs := bs) (n := 0) ha e er2 (by rw [hem]; exact hal) (by rw [hem]; exact hk) hL (fun b hb => ?_) fun out hlen he => ?_
  · have := hu b hb
    show A.units + 1 + 1 + b.depth < cLine
    omega
  · obtain ⟨ep, hp⟩ := sortedHeap_at (vs := vs) (out := out.toArray) ha
    rw [← isort_eq] at he
    refine wpAny_pure ⟨_, rfl, h out _ h1.objs.size ep hlen he (fun b ob q => ?_) ?_ hp⟩
    · have hlt : b < h1.objs.size := Heap.lt_size (k1 b ob q)
      show (sortedHeap _ _ _ _).get? b = _
      rw [sortedHeap_old (Nat.ne_of_lt hlt) (by rw [Heap.size_push]; exact Nat.lt_succ_of_lt hlt)]
      exact k2 b ob q
    · exact z1
end

section
variable {g : GW} {ev : Fs} {X : Cx} {E : XK} {pins : List (Addr × Obj)} {σ : St} {H : Hp} {s : Shared} {ρ : List Addr} {h : MH}
/-- a built-in of one value -/
def r1M (g : GW) (envs : Fs) (E : XK) (f : MV → M MV) : List V → Hp → VK → Prop := fun xs H Q => ∃ ρ h a v, xs = [v] ∧ RepH g envs ρ H h ∧ Rep g envs ρ H a v ∧ RPost g envs E ρ H (f a h) (VQ g envs Q)
/-- the object that a sequence stands at -/
theorem Seq.obj {a : MV} {xs : List MV} {v : V} (c : Cn g ev X E) (I : Inv X pins σ H s) (sq : Seq g ev ρ H a xs v) : ∃ (p : Addr) (vs : List V) (T : String) (o : Obj) (its : List Value) (n : Nat),
    v = .ref p ∧ Reps g ev ρ H xs vs ∧ (T = "list" ∨ T = "tuple") ∧ s.heap.get? p = some o ∧ o.cls = .type T ∧ o.data = .seq its.toArray n ∧ Vals vs its ∧ vs.length ≤ sizeLine ∧ ((∀ ys, a ≠ .tuple ys) → T = "list") := by
  cases sq with
  | lst p vs e1 e2 r n0 =>
    obtain ⟨its, rv, ⟨o, n, h1, h2, h3, h4⟩, hz⟩ := I.list (SqL.of e2)
    exact ⟨p, vs, "list", o, its, n, e1, r, .inl rfl, h1, h2, h4, rv, hz, fun _ => rfl⟩
  | tup p vs e1 e2 r n0 =>
    rw [← c.hK] at e2
    obtain ⟨its, rv, ⟨o, h1, h2, n, h3⟩, hz⟩ := I.tuple e2
    exact ⟨p, vs, "tuple", o, its, n, e1, r, .inr rfl, h1, h2, h3, rv, hz, fun q => absurd n0 (q _)⟩
theorem each_both {P : V → PyData → Prop} : ∀ {vs : List V} {us : List Value} {ds : List PyData}, Vals vs us → (∀ (i : Nat) (v : V) (d : PyData), vs[i]? = some v → ds[i]? = some d → P v d) → vs.length = ds.length → EachIs (fun u d => ∃ v, RelV v u ∧ P v d) us ds
  | _, _, [], .nil, _, _ => .nil
  | _, _, d :: ds, .cons r t, h, hl => .cons ⟨_, r, h 0 _ d rfl rfl⟩ (each_both t (fun i v d' h1 h2 => h (i + 1) v d' (by simpa using h1) (by simpa using h2)) (by simpa using hl))
  | _, _, d :: ds, .nil, _, hl => by simp at hl
  | _, _, [], .cons _ _, _, hl => by simp at hl
theorem Reps.each {xs : List MV} {vs : List V} {us : List Value} (r : Reps g ev ρ H xs vs) (rv : Vals vs us) : EachIs (fun u d => ∃ v, RelV v u ∧ Rep g ev ρ H d v) us xs :=
  each_both rv (fun i v d h1 h2 => by
    obtain ⟨v', e, q⟩ := r.get h2
    rw [h1] at e; cases e
    exact q) r.length.symm
theorem plain_mem : ∀ {xs : List MV} {d : MV}, PyData.plainAll xs = true → d ∈ xs → d.plain = true
  | [], _, _, h => by cases h
  | x :: xs, d, p, h => by
    obtain ⟨p1, p2⟩ : x.plain = true ∧ PyData.plainAll xs = true := by simpa [PyData.plainAll] using p
    rcases List.mem_cons.mp h with e | h
    · rw [e]; exact p1
    · exact plain_mem p2 h
theorem depth_mem : ∀ {xs : List MV} {d : MV}, d ∈ xs → d.depth ≤ PyData.depthAll xs
  | [], _, h => by cases h
  | x :: xs, d, h => by
    have e : PyData.depthAll (x :: xs) = max x.depth (PyData.depthAll xs) := by rw [PyData.depthAll]
    rw [e]
    rcases List.mem_cons.mp h with z | z
    · rw [z]; exact Nat.le_max_left _ _
    · exact Nat.le_trans (depth_mem z) (Nat.le_max_right _ _)
theorem allAlike_of {xs : List MV} (h : allAlike xs = true) : AllAlike xs := fun d hd d' hd' => by
  unfold allAlike at h
  exact List.all_eq_true.mp (List.all_eq_true.mp h d hd) d' hd'
theorem Reps.of_each {xs : List MV} : ∀ {us : List Value}, EachIs (fun u d => ∃ v, RelV v u ∧ Rep g ev ρ H d v) us xs → ∃ vs, Vals vs us ∧ Reps g ev ρ H xs vs := by
  induction xs with
  | nil => intro us e; cases e; exact ⟨[], .nil, by simp [Reps]⟩
  | cons x xs ih =>
    intro us e
    cases e with
    | cons h1 h2 =>
      obtain ⟨v, rv, r⟩ := h1
      obtain ⟨vs, rvs, rs⟩ := ih h2
      exact ⟨v :: vs, .cons rv rvs, by simp only [Reps]; exact ⟨v, vs, rfl, r, rs⟩⟩
theorem ok_sorted (c : Cn g ev X E) : CallR X (.builtin "sorted") (r1M g ev E (b1M .sorted)) := by
  intro pins s σ H xs us Q I r q
  obtain ⟨ρ, h, a, v, rfl, rh, ra, p⟩ := q
  obtain ⟨ys, sq, p⟩ := seqM_of rh ra p.bind
  obtain ⟨hz, p⟩ := rpost_ite (p ρ H Grow.refl rh)
  obtain ⟨pa, vs, T, o, its, n, rfl, rr, hT, ho, hc, hd, rv, hl, _⟩ := sq.obj c I
  rw [Vals.ref1 r]
  simp only [MM.sortable, Bool.and_eq_true, Bool.or_eq_true, decide_eq_true_eq] at hz
  obtain ⟨⟨⟨z1, z2⟩, z3⟩, z4⟩ := hz
  have hu := c.room.un
  have hlen := rr.length
  refine sorted_seqD (R := fun u d => ∃ v, RelV v u ∧ Rep g ev ρ H d v) (bs := ys) hT ho hc hd (rr.each rv) ?_ (allAlike_of z1) ?_ (by rw [hlen]; exact hl) (fun b hb => ?_) fun out h' p' n' e1 e2 k hp hg => ?_
  · obtain ⟨as, rs⟩ := readsAll_of c I rr z4 rv
    have hem : ys.map (fun x : PyData => x) = ys := List.map_id' ys
    exact PySem.W.readsAll_each (fun x : PyData => x) (by rw [hem]; exact rs)
  · rcases z2 with z | z
    · refine .inl fun d hd => ?_
      have := List.all_eq_true.mp z d hd
      split at this
      · exact ⟨_, _, rfl⟩
      · cases this
    · refine .inr fun d hd => ?_
      have := List.all_eq_true.mp z d hd
      refine ⟨fun e => ?_, fun ts e => ?_⟩ <;> (subst e; cases this)
  · have := depth_mem hb
    omega
  · obtain ⟨ws, rw', rs⟩ := Reps.of_each e2
    have hlw : ws.length ≤ sizeLine := by rw [rw'.length, e1, hlen]; exact hl
    have I' : Inv X pins σ (upd H p' (.lst ws)) { s with heap := h' } := I.laid (t' := s.toks) k hp ⟨hlw, out, n', rw', hg⟩
    refine ⟨.ref p', _, I', rfl, fin_lst rh (I.hok.fresh hp) (Inv.kfree c I') rs p⟩
theorem idx_find {xs : List MV} {vs : List V} {us : List Value} {i : Nat} {u : Value} (r : Reps g ev ρ H xs vs) (rv : Vals vs us) (h : us[i]? = some u) : ∃ v d, xs[i]? = some d ∧ RelV v u ∧ Rep g ev ρ H d v := by
  have hi : i < us.length := (List.getElem?_eq_some_iff.mp h).1
  have hv : i < vs.length := by rw [rv.length]; exact hi
  obtain ⟨d, e1, q⟩ := r.get' (List.getElem?_eq_getElem hv)
  obtain ⟨u', e2, q2⟩ := rv.get (List.getElem?_eq_getElem hv)
  rw [h] at e2; cases e2
  exact ⟨_, d, e1, q2, q⟩
theorem ok_best (c : Cn g ev X E) (gt : Bool) : CallR X (.builtin (if gt then "max" else "min")) (r1M g ev E (b1M (if gt then .max else .min))) := by
  intro pins s σ H xs us Q I r q
  obtain ⟨ρ, h, a, v, rfl, rh, ra, p⟩ := q
  have p : RPost g ev E ρ H (M.bind (seqM a) (fun xs => bestM gt xs) h) (VQ g ev Q) := by
    cases gt <;> exact p
  obtain ⟨ys, sq, p⟩ := seqM_of rh ra p.bind
  have p := p ρ H Grow.refl rh
  obtain ⟨pa, vs, T, o, its, n, rfl, rr, hT, ho, hc, hd, rv, hl, _⟩ := sq.obj c I
  rw [Vals.ref1 r]
  cases ys with
  | nil => exact p.elim
  | cons y ys =>
    obtain ⟨hz, p⟩ := rpost_ite p
    simp only [Bool.and_eq_true, decide_eq_true_eq] at hz
    obtain ⟨⟨⟨z1, z0⟩, z2⟩, z3⟩ := hz
    have hu := c.room.un
    obtain ⟨as, rs⟩ := readsAll_of c I rr z2 rv
    have hal : PySem.W.AlikeAll (y :: ys) := ⟨allAlike_of z1, fun d hd e => by
      have := List.all_eq_true.mp z0 d hd
      rw [e] at this; cases this⟩
    have fin : ∀ (m : MV), RPost g ev E ρ H (.ok m h) (VQ g ev Q) → m.plain = true → ∀ (i : Nat) (u : Value) (h' : Heap) (tk : Nat) (bs : List Addr), its.toArray[i]? = some u → Reads h' u m bs → (∀ b o, s.heap.get? b = some o → h'.get? b = some o) →
        EP X pins σ Q u { s with heap := h', toks := tk } := fun m pm hm i u h' tk bs e rd k => by
      obtain ⟨x, d, e1, rx, rd'⟩ := idx_find rr rv (by simpa using e)
      have hdm : d ∈ y :: ys := List.mem_of_getElem? e1
      obtain ⟨cs, rc⟩ := reads_of c I rd' (plain_mem z2 hdm) rx
      have eq : d = m := SeqAt.plain_unique d m u _ _ (plain_mem z2 hdm) (PyProof.Rows.Reads.keeps k rc) rd
      subst eq
      exact ⟨x, H, I.kept k, rx, fin_same rh rd' pm⟩
    have hem : its.toArray.toList = its := by simp
    have rs' : ReadsAll s.heap its.toArray.toList (y :: ys) as := by rw [hem]; exact rs
    have hh : X.A.handled = none := I.ok.hd c.calm
    have hr : X.A.units + 1 + PyData.depthAll (y :: ys) < cLine := by omega
    have pl : ∀ (f : PyData → PyData → PyData), (∀ p q, f p q = p ∨ f p q = q) → ∀ (l : List PyData) (z : PyData), z.plain = true → PyData.plainAll l = true → (l.foldl f z).plain = true := by
      intro f hf l
      induction l with
      | nil => intro z pz _; exact pz
      | cons q l ih =>
        intro z pz pl
        obtain ⟨p1, p2⟩ : q.plain = true ∧ PyData.plainAll l = true := by simpa [PyData.plainAll] using pl
        refine ih _ ?_ p2
        rcases hf z q with e | e <;> (rw [e]; assumption)
    obtain ⟨py, pys⟩ : y.plain = true ∧ PyData.plainAll ys = true := by simpa [PyData.plainAll] using z2
    cases gt with
    | true =>
      have pm : (PySem.W.maxD y ys).plain = true := pl _ (fun p q => by by_cases w : PySem.W.dataLt p q = true <;> simp [w]) ys y py pys
      rcases hT with rfl | rfl
      · exact PySem.W.max_list_data hh ⟨o, ho, hc, n, hd⟩ rs' hal hr fun i u h' tk bs e rd k => fin _ p pm i u h' tk bs e rd k
      · exact PySem.W.max_tuple_data hh ⟨o, ho, hc, n, hd⟩ rs' hal hr fun i u h' tk bs e rd k => fin _ p pm i u h' tk bs e rd k
    | false =>
      have pm : (PySem.W.minD y ys).plain = true := pl _ (fun p q => by by_cases w : PySem.W.dataLt q p = true <;> simp [w]) ys y py pys
      rcases hT with rfl | rfl
      · exact PySem.W.min_list_data hh ⟨o, ho, hc, n, hd⟩ rs' hal hr fun i u h' tk bs e rd k => fin _ p pm i u h' tk bs e rd k
      · exact PySem.W.min_tuple_data hh ⟨o, ho, hc, n, hd⟩ rs' hal hr fun i u h' tk bs e rd k => fin _ p pm i u h' tk bs e rd k
end
end Snd

-- Snd6
set_option autoImplicit false
set_option linter.all false
set_option Elab.async false
set_option maxRecDepth 100000
set_option maxHeartbeats 4000000
namespace PySem
section
variable {prog : Program} {w : World} {A : Around} {E : Value → Shared → Prop} {s : Shared} {l : Addr} {xs : Array (Int × Tok)}
theorem sum_intTup {Q : Value → Shared → Prop} (hh : A.handled = none) (hl : s.heap.IsTuple l (intItems xs))
    (h : ∀ h' tk t', (∀ b o, s.heap.get? b = some o → h'.get? b = some o) → Q (.int (preSum (numAt xs) xs.size) t') { s with heap := h', toks := tk }) :
    wpAny (model prog w) A (call (.builtin "sum") [.ref l]) Q E s := by
  have hlt : l < s.heap.objs.size := by obtain ⟨_, e, _⟩ := hl; exact Heap.lt_size e
  refine call_sum_walkG (wpAny_pyIter_tuple hl ?_)
  refine ⟨_, _, _, _, _, _, numAt xs, rfl, Walks.tuple (A := A.in1) hh _ l (Nat.ne_of_lt hlt) (intItems xs), ⟨⟨_, Heap.get?_push_size _ rfl, rfl, rfl⟩, hl.push _⟩, (fun b hb => ?_), (fun _ _ => intItems_at), fun h' tk t' hk => ?_⟩
  · show b < (s.heap.push _).objs.size
    rw [Heap.size_push]
    rcases List.mem_cons.mp hb with rfl | hb
    · exact Nat.lt_succ_self _
    · rcases List.mem_cons.mp hb with rfl | hb
      · exact Nat.lt_succ_of_lt hlt
      · cases hb
  · have := h h' tk t' (fun b o e => hk b o (fun hm => by
      rcases List.mem_cons.mp hm with e1 | hm
      · exact absurd (e1 ▸ Heap.lt_size e) (Nat.lt_irrefl _)
      · cases hm) (Heap.get?_push_of_some _ e))
    simpa [intItems] using this
end
end PySem

/-! soundness of M, part 6: truth, the other built-ins, subscripts, methods -/
namespace Snd
open PySem PySem.Spec PyProof.Rows L2 MM
section
variable {g : GW} {ev : Fs} {X : Cx} {E : XK} {pins : List (Addr × Obj)} {σ : St} {H : Hp} {s : Shared} {ρ : List Addr} {h : MH}
theorem isEmpty_len {α β : Type} {xs : List α} {ys : List β} (h : xs.length = ys.length) : xs.isEmpty = ys.isEmpty := by
  cases xs <;> cases ys <;> simp_all
theorem ref_of {kvs : List (PyData × PyData)} {n : Nat} {v : V} (r : Rep g ev ρ H (.dict kvs) v) (e : rfOf (.dict kvs) = some n) : ∃ a, v = .ref a ∧ ρ[n]? = some a := by
  simp only [Rep] at r
  unfold rfOf at e
  split at e
  · rename_i i hk
    cases e
    injection hk with hk
    subst hk
    simpa only [RepX] using r
  · cases e
theorem sc_of {kvs : List (PyData × PyData)} {xs : List MV} {v : V} (r : Rep g ev ρ H (.dict kvs) v) (e : scOf (.dict kvs) = some xs) : ∃ (a : Addr) (is : List Int), v = .ref a ∧ SqL g.K H a (is.map V.int) ∧ xs = is.map PyData.int := by
  simp only [Rep] at r
  unfold scOf at e
  split at e
  · rename_i i hk
    cases e
    injection hk with hk
    subst hk
    simp only [RepX] at r
    obtain ⟨a, is, h1, h2, h3⟩ := r
    refine ⟨a, is, h1, ?_, h3⟩
    rcases h2 with h2 | ⟨h2, _⟩
    · rcases h2 with (h2 | ⟨o, h2⟩) | h2
      · cases h2
      · cases h2
      · exact .inr h2
    · exact .inl h2
  · cases e
theorem reps_ints : ∀ is : List Int, Reps g ev ρ H (is.map PyData.int) (is.map V.int)
  | [] => by simp [Reps]
  | i :: is => by
    simp only [List.map_cons, Reps]
    exact ⟨_, _, rfl, rep_int, reps_ints is⟩
theorem tru_of {a : MV} {v : V} {Q : Bool → MH → List Addr → Hp → Prop} (rh : RepH g ev ρ H h) (r : Rep g ev ρ H a v) (p : RPost g ev E ρ H (truthM a h) Q) :
    ∃ k, TruV g.K v H k ∧ RPost g ev E ρ H (.ok k h) Q := by
  unfold truthM at p
  split at p
  · rw [non_of r]; exact ⟨false, rfl, p⟩
  · rw [bool_of r]; exact ⟨_, rfl, p⟩
  · rw [int_of r]; exact ⟨_, rfl, p⟩
  · rename_i x
    rw [str_of r]
    by_cases hz : x.length ≤ cap
    · rw [if_pos hz] at p
      exact ⟨_, ⟨by rw [← cap_eq]; exact hz, rfl⟩, p⟩
    · rw [if_neg hz] at p; exact p.elim
  · obtain ⟨q, vs, rfl, h1, _, r1⟩ := lst_of r
    exact ⟨_, .inl ⟨vs, SqL.of h1, by rw [isEmpty_len r1.length]⟩, p⟩
  · obtain ⟨q, vs, rfl, h1, r1⟩ := tup_of r
    exact ⟨_, .inr (.inl ⟨vs, h1, by rw [isEmpty_len r1.length]⟩), p⟩
  · rename_i kvs
    cases e : rfOf (.dict kvs) with
    | none => rw [e] at p; exact p.elim
    | some n =>
      simp only [e] at p
      split at p
      · rename_i xs hn
        obtain ⟨q, rfl, hq⟩ := ref_of r e
        obtain ⟨_, vs, e1, r1⟩ := rh.at_ _ _ _ hn hq
        exact ⟨_, .inl ⟨vs, SqL.of e1, by rw [isEmpty_len r1.length]⟩, p⟩
      · exact p.elim
theorem len_of {a : MV} {v : V} {Q : VK} (rh : RepH g ev ρ H h) (r : Rep g ev ρ H a v) (p : RPost g ev E ρ H (b1M .len a h) (VQ g ev Q)) :
    (∃ n : Nat, LenV g.K v H n ∧ RPost g ev E ρ H (.ok (.int n) h) (VQ g ev Q)) ∨ ∃ q ys, v = .ref q ∧ H q = some (.dK ys) ∧ RPost g ev E ρ H (.ok (.int ys.length) h) (VQ g ev Q) := by
  cases a with
  | str x =>
    rw [str_of r]
    by_cases hz : x.length ≤ cap
    · simp only [b1M, hz, if_true] at p
      exact .inl ⟨_, ⟨by rw [← cap_eq]; exact hz, rfl⟩, p⟩
    · simp only [b1M, hz, if_false] at p; exact p.elim
  | list xs =>
    obtain ⟨q, vs, rfl, h1, _, r1⟩ := lst_of r
    exact .inl ⟨_, .inl ⟨vs, SqL.of h1, r1.length⟩, p⟩
  | tuple xs =>
    obtain ⟨q, vs, rfl, h1, r1⟩ := tup_of r
    exact .inl ⟨_, .inr ⟨vs, h1, r1.length⟩, p⟩
  | dict kvs =>
    simp only [b1M] at p
    cases e : rfOf (.dict kvs) with
    | none =>
      simp only [e] at p
      cases e2 : scOf (.dict kvs) with
      | none => simp only [e2] at p; exact p.elim
      | some xs =>
        simp only [e2] at p
        obtain ⟨q, is, rfl, h1, rfl⟩ := sc_of r e2
        exact .inl ⟨_, .inl ⟨_, h1, by simp⟩, p⟩
    | some n =>
      simp only [e] at p
      obtain ⟨q, rfl, hq⟩ := ref_of r e
      split at p
      · rename_i xs hn
        obtain ⟨_, vs, e1, r1⟩ := rh.at_ _ _ _ hn hq
        exact .inl ⟨_, .inl ⟨vs, SqL.of e1, r1.length⟩, p⟩
      · rename_i xs hn
        obtain ⟨ys, e1, r1⟩ := rh.at_ _ _ _ hn hq
        refine .inr ⟨q, ys, rfl, e1, ?_⟩
        have : ∀ {xs : List (MV × MV)} {ys : List (Key × V)}, RepK g ev ρ H xs ys → xs.length = ys.length := by
          intro xs
          induction xs with
          | nil => intro ys r; simp only [RepK] at r; subst r; rfl
          | cons x xs ih =>
            intro ys r
            simp only [RepK] at r
            obtain ⟨_, _, _, rfl, _, _, _, r⟩ := r
            simp [ih r]
        rw [← this r1]; exact p
      · exact p.elim
  | _ => exact p.elim
theorem ok_len (c : Cn g ev X E) : CallR X (.builtin "len") (r1M g ev E (b1M .len)) := by
  intro pins s σ H xs us Q I r q
  obtain ⟨ρ, h, a, v, rfl, rh, ra, p⟩ := q
  rcases len_of rh ra p with ⟨n, l, p⟩ | ⟨q, ys, rfl, e, p⟩
  · rw [← c.hK] at l
    exact CallR.go c call_len I r ⟨_, _, rfl, l, fun _ => fin_same rh rep_int p⟩
  · exact CallR.go c call_lenD I r ⟨_, _, rfl, e, fun _ => fin_same rh rep_int p⟩
theorem ok_abs (c : Cn g ev X E) : CallR X (.builtin "abs") (r1M g ev E (b1M .abs)) := by
  intro pins s σ H xs us Q I r q
  obtain ⟨ρ, h, a, v, rfl, rh, ra, p⟩ := q
  cases a with
  | int i => rw [int_of ra] at r; exact CallR.go c call_abs I r ⟨_, rfl, fun _ => fin_same rh rep_int p⟩
  | _ => exact p.elim
theorem ok_int (c : Cn g ev X E) : CallR X (.type "int") (r1M g ev E (b1M .int)) := by
  intro pins s σ H xs us Q I r q
  obtain ⟨ρ, h, a, v, rfl, rh, ra, p⟩ := q
  cases a with
  | int i => rw [int_of ra] at r; exact CallR.go c call_int1 I r (.inl ⟨_, rfl, fun _ => fin_same rh rep_int p⟩)
  | bool i => rw [bool_of ra] at r; exact CallR.go c call_int1 I r (.inr ⟨_, rfl, fun _ => fin_same rh rep_int p⟩)
  | _ => exact p.elim
theorem ok_boolC (c : Cn g ev X E) : CallR X (.type "bool") (r1M g ev E (b1M .bool)) := by
  intro pins s σ H xs us Q I r q
  obtain ⟨ρ, h, a, v, rfl, rh, ra, p⟩ := q
  cases a with
  | bool i => rw [bool_of ra] at r; exact CallR.go c call_bool1 I r (.inr ⟨_, rfl, fun _ => fin_same rh rep_bool p⟩)
  | _ => exact p.elim
theorem ok_strC (c : Cn g ev X E) : CallR X (.type "str") (r1M g ev E (b1M .str)) := by
  intro pins s σ H xs us Q I r q
  obtain ⟨ρ, h, a, v, rfl, rh, ra, p⟩ := q
  cases a with
  | int i =>
    rw [int_of ra] at r
    obtain ⟨hz, p⟩ := rpost_ite p
    exact CallR.go c call_str_int I r ⟨_, rfl, hz, fun _ => fin_same rh rep_str p⟩
  | _ => exact p.elim
theorem Seq.sql {a : MV} {xs : List MV} {v : V} (sq : Seq g ev ρ H a xs v) (n : ∀ ys, a ≠ .tuple ys) : ∃ p vs, v = .ref p ∧ SqL g.K H p vs ∧ Reps g ev ρ H xs vs := by
  cases sq with
  | lst p vs e1 e2 r _ => exact ⟨p, vs, e1, SqL.of e2, r⟩
  | tup p vs e1 e2 r n0 => exact absurd n0 (n _)
theorem no_tup {a : MV} {m : M MV} {Q : MV → MH → List Addr → Hp → Prop} (p : RPost g ev E ρ H ((match a with | .tuple _ => bad | _ => m) h) Q) : (∀ ys, a ≠ .tuple ys) ∧ RPost g ev E ρ H (m h) Q := by
  cases a with
  | tuple xs => exact p.elim
  | _ => exact ⟨(fun _ z => by cases z), p⟩
theorem cr_sumT (hc : X.calm = true) : CallR X (.builtin "sum") (fun vs H Q => ∃ (a : Addr) (ns : List Int), vs = [V.ref a] ∧ SqT X.K H a (ns.map V.int) ∧ Q (.int ns.sum) H) := by
  intro pins s σ H vs us Q I r h
  obtain ⟨a, ns, rfl, hs, q⟩ := h
  obtain ⟨its, rv, hl, _⟩ := I.tuple hs
  rw [Vals.ref1 r]
  have hi := rv.ints
  obtain ⟨xs, e⟩ := hi.allInts.items
  have hn : numsOf (PySem.intItems xs).toList = ns := by rw [← e]; exact hi.numsOf
  rw [nums_intItems] at hn
  rw [e] at hl
  refine PySem.sum_intTup (I.ok.hd hc) hl fun h' tk t' hk => ?_
  rw [preSum_eq, List.take_of_length_le (by simp), hn]
  exact ⟨.int _, H, I.kept hk, ⟨_, rfl⟩, q⟩
theorem ok_sum (c : Cn g ev X E) : CallR X (.builtin "sum") (r1M g ev E (b1M .sum)) := by
  intro pins s σ H xs us Q I r q
  obtain ⟨ρ, h, a, v, rfl, rh, ra, p⟩ := q
  obtain ⟨ys, sq, p⟩ := seqM_of rh ra p.bind
  obtain ⟨is, ei, p⟩ := rpost_opt (p ρ H Grow.refl rh).bind
  have p := p ρ H Grow.refl rh
  cases sq with
  | lst q vs e1 e2 rr n0 =>
    subst e1
    have e3 := rr.intsOf ei
    subst e3
    exact CallR.go c (cr_sum c.calm) I r ⟨_, _, rfl, SqL.of e2, fun _ => fin_same rh rep_int p⟩
  | tup q vs e1 e2 rr n0 =>
    subst e1
    have e3 := rr.intsOf ei
    subst e3
    rw [← c.hK] at e2
    exact CallR.go c (cr_sumT c.calm) I r ⟨_, _, rfl, e2, fun _ => fin_same rh rep_int p⟩
theorem ok_all (c : Cn g ev X E) : CallR X (.builtin "all") (r1M g ev E (b1M .all)) := by
  intro pins s σ H xs us Q I r q
  obtain ⟨ρ, h, a, v, rfl, rh, ra, p⟩ := q
  obtain ⟨ys, sq, p⟩ := seqM_of rh ra p.bind
  obtain ⟨is, ei, p⟩ := rpost_opt (p ρ H Grow.refl rh).bind
  obtain ⟨nt, p⟩ := no_tup (p ρ H Grow.refl rh)
  obtain ⟨pa, vs, rfl, e1, rr⟩ := sq.sql nt
  have e2 := rr.boolsOf ei
  subst e2
  rw [← c.hK] at e1
  exact CallR.go c (cr_all c.calm) I r ⟨_, _, rfl, e1, fun _ => fin_same rh rep_bool p⟩
theorem ok_any (c : Cn g ev X E) : CallR X (.builtin "any") (r1M g ev E (b1M .any)) := by
  intro pins s σ H xs us Q I r q
  obtain ⟨ρ, h, a, v, rfl, rh, ra, p⟩ := q
  obtain ⟨ys, sq, p⟩ := seqM_of rh ra p.bind
  obtain ⟨is, ei, p⟩ := rpost_opt (p ρ H Grow.refl rh).bind
  obtain ⟨nt, p⟩ := no_tup (p ρ H Grow.refl rh)
  obtain ⟨pa, vs, rfl, e1, rr⟩ := sq.sql nt
  have e2 := rr.boolsOf ei
  subst e2
  rw [← c.hK] at e1
  exact CallR.go c (cr_any c.calm) I r ⟨_, _, rfl, e1, fun _ => fin_same rh rep_bool p⟩
theorem ok_tupleC (c : Cn g ev X E) : CallR X (.type "tuple") (r1M g ev E (b1M .tuple)) := by
  intro pins s σ H xs us Q I r q
  obtain ⟨ρ, h, a, v, rfl, rh, ra, p⟩ := q
  obtain ⟨ys, sq, p⟩ := seqM_of rh ra p.bind
  have p := p ρ H Grow.refl rh
  cases sq with
  | lst q vs e1 e2 rr n0 =>
    subst e1
    exact CallR.go c call_tuple_of I r ⟨_, vs, rfl, .inl ⟨SqL.of e2, fun l hl kf => fin_tup rh hl kf rr p⟩⟩
  | tup q vs e1 e2 rr n0 =>
    subst e1 n0
    have e3 := e2
    rw [← c.hK] at e2
    exact CallR.go c call_tuple_of I r ⟨_, vs, rfl, .inr ⟨e2, fun _ => fin_same rh ra p⟩⟩
theorem ok_listC (c : Cn g ev X E) (mu : Bool) : CallR X (.type "list") (r1M g ev E (b1M (.list mu))) := by
  intro pins s σ H xs us Q I r q
  obtain ⟨ρ, h, a, v, rfl, rh, ra, p⟩ := q
  obtain ⟨ys, sq, p⟩ := seqM_of rh ra p.bind
  have p := p ρ H Grow.refl rh
  cases sq with
  | lst q vs e1 e2 rr n0 =>
    subst e1
    exact CallR.go c call_list_of I r ⟨_, vs, rfl, .inl (SqL.of e2), fun l hl kf => fin_new rh hl kf rr p⟩
  | tup q vs e1 e2 rr n0 =>
    subst e1
    rw [← c.hK] at e2
    exact CallR.go c call_list_of I r ⟨_, vs, rfl, .inr e2, fun l hl kf => fin_new rh hl kf rr p⟩
/-- a built-in of two values -/
def r2M (g : GW) (envs : Fs) (E : XK) (f : MV → MV → M MV) : List V → Hp → VK → Prop := fun xs H Q => ∃ ρ h a b v u, xs = [v, u] ∧ RepH g envs ρ H h ∧ Rep g envs ρ H a v ∧ Rep g envs ρ H b u ∧ RPost g envs E ρ H (f a b h) (VQ g envs Q)
def max2M : MV → MV → M MV := fun x y => (match x, y with | .int i, .int j => M.pure (.int (if j > i then j else i)) | _, _ => bad)
def min2M : MV → MV → M MV := fun x y => (match x, y with | .int i, .int j => M.pure (.int (if j < i then j else i)) | _, _ => bad)
theorem ok_max2 (c : Cn g ev X E) : CallR X (.builtin "max") (r2M g ev E max2M) := by
  intro pins s σ H xs us Q I r q
  obtain ⟨ρ, h, a, b, v, u, rfl, rh, ra, rb, p⟩ := q
  cases a <;> cases b <;> try exact (show False from p).elim
  rw [int_of ra, int_of rb] at r
  exact CallR.go c (call_max2 c.calm) I r ⟨_, _, rfl, fun _ => fin_same rh rep_int p⟩
theorem ok_min2 (c : Cn g ev X E) : CallR X (.builtin "min") (r2M g ev E min2M) := by
  intro pins s σ H xs us Q I r q
  obtain ⟨ρ, h, a, b, v, u, rfl, rh, ra, rb, p⟩ := q
  cases a <;> cases b <;> try exact (show False from p).elim
  rw [int_of ra, int_of rb] at r
  exact CallR.go c (call_min2 c.calm) I r ⟨_, _, rfl, fun _ => fin_same rh rep_int p⟩

/-! ### subscripts -/
theorem ix_same (n : Nat) (i : Int) : ixOf n i = ixN n i := rfl
theorem at_of {xs : List MV} {vs : List V} {i : Int} {Q : VK} (rr : Reps g ev ρ H xs vs) (rh : RepH g ev ρ H h) (p : RPost g ev E ρ H (atM xs i h) (VQ g ev Q)) : ∃ v, atI vs i = some v ∧ (KFree g H → Q v H) := by
  obtain ⟨d, e, p⟩ := rpost_opt p
  simp only [Option.bind_eq_some_iff] at e
  obtain ⟨j, e1, e2⟩ := e
  obtain ⟨v, e3, r⟩ := rr.get e2
  refine ⟨v, ?_, fun _ => fin_same rh r p⟩
  unfold atI
  rw [← rr.length, ← ix_same, e1]
  exact e3
theorem IxR.go {x y : V} {v u : Value} {r : R2} {Q : VK} {value slice : Expr} (c : Cn g ev X E) (o : IxR X r) (I : Inv X pins σ H s) (rx : RelV x v) (ry : RelV y u) (q : r x y H (fun v H' => KFree g H' → Q v H')) (hs : subscripted slice false v u = operate [v, u] (getItem v u)) :
    wpAny (model X.prog X.w) X.A (subscriptTail value slice v u) (EP X pins σ Q) X.xe s :=
  thn (o value slice pins s σ H x y v u _ I rx ry q hs) fun u s' ⟨v, H', I', r, q⟩ => ⟨v, H', I', r, q (Inv.kfree c I')⟩
theorem ix_dict (hu : X.A.units + 1 < cLine) : IxR X (fun x y H Q => ∃ a v, x = .ref a ∧ DGet H a y (some v) ∧ Q v H) := by
  intro value slice pins s σ H x y v u Q I rx ry q hs
  obtain ⟨a, w, rfl, dg, q⟩ := q
  cases rx
  exact tail_any (dict_typeIs I dg) PySem.F.slot_dict_getitem.lookup (d_getItem hu I dg ry fun w' s' I' rw' => ⟨w, H, I', rw', q⟩) hs
theorem ok_idx (c : Cn g ev X E) : IxR X (rM2 g ev E idxM) := by
  intro value slice pins s σ H x y v u Q I rx ry q hs
  obtain ⟨ρ, h, a, b, rh, ra, rb, p⟩ := q
  unfold idxM at p
  cases a with
  | list xs =>
    cases b with
    | int i =>
      obtain ⟨q, vs, rfl, h1, _, r1⟩ := lst_of ra
      obtain ⟨w, e, fin⟩ := at_of r1 rh p
      exact IxR.go c ix_list I rx ry ⟨_, _, _, _, rfl, int_of rb, SqL.of h1, e, fin⟩ hs
    | _ => exact p.elim
  | tuple xs =>
    cases b with
    | int i =>
      obtain ⟨q, vs, rfl, h1, r1⟩ := tup_of ra
      obtain ⟨w, e, fin⟩ := at_of r1 rh p
      rw [← c.hK] at h1
      exact IxR.go c ix_tup I rx ry ⟨_, _, _, _, rfl, int_of rb, h1, e, fin⟩ hs
    | _ => exact p.elim
  | dict kvs =>
    dsimp only at p
    cases e : rfOf (.dict kvs) with
    | none =>
      simp only [e] at p
      cases e2 : scOf (.dict kvs) with
      | none => simp only [e2] at p; exact p.elim
      | some xs =>
        simp only [e2] at p
        obtain ⟨q, is, rfl, h1, rfl⟩ := sc_of ra e2
        cases b with
        | int i =>
          obtain ⟨w, e, fin⟩ := at_of (reps_ints is) rh p
          rw [← c.hK] at h1
          exact IxR.go c ix_list I rx ry ⟨_, _, _, _, rfl, int_of rb, h1, e, fin⟩ hs
        | _ => exact p.elim
    | some n =>
      simp only [e] at p
      obtain ⟨q, rfl, hq⟩ := ref_of ra e
      split at p
      · rename_i xs hn
        obtain ⟨_, vs, e1, r1⟩ := rh.at_ _ _ _ hn hq
        cases b with
        | int i =>
          obtain ⟨w, e, fin⟩ := at_of r1 rh p
          exact IxR.go c ix_list I rx ry ⟨_, _, _, _, rfl, int_of rb, SqL.of e1, e, fin⟩ hs
        | _ => exact p.elim
      · rename_i es hn
        obtain ⟨ys, e1, r1⟩ := rh.at_ _ _ _ hn hq
        by_cases hk : isKey b = true
        · rw [if_pos hk] at p
          obtain ⟨k, rfl, hk2⟩ := keyR_of hk rb
          obtain ⟨d, ed, p⟩ := rpost_opt p
          have z := dget_val hk2 r1
          rw [ed] at z
          cases w : valV ys k with
          | none => rw [w] at z; exact z.elim
          | some v' =>
            rw [w] at z
            have hu := c.room.un
            exact IxR.go c (ix_dict (by omega)) I rx ry ⟨_, v', rfl, by rw [← w]; exact DGet.k e1, fun _ => fin_same rh z p⟩ hs
        · rw [if_neg hk] at p; exact p.elim
      · exact p.elim
  | _ => exact p.elim
end
end Snd

-- Snd7
set_option autoImplicit false
set_option linter.all false
set_option Elab.async false
set_option maxRecDepth 100000
set_option maxHeartbeats 4000000
/-! soundness of M, part 7: the shapes of expressions -/
namespace Snd
open PySem PySem.Spec PyProof.Rows L2 MM
def notStar : Expr → Bool
  | .Starred _ _ => false
  | _ => true
theorem starE {e : Expr} (h : notStar e = true) (es : List Expr) (env : Env) : starEach (e :: es) env = (false, eval e env) :: starEach es env := by
  cases e <;> first | rfl | cases h
def allPlain : List Expr → Bool
  | [] => true
  | e :: es => notStar e && allPlain es
theorem noAny {es : List Expr} (h : allPlain es = true) (pos : Pos) (env : Env) : (backTo pos (starEach es env)).any (·.1) = false := by
  induction es with
  | nil => rfl
  | cons e es ih =>
    simp only [allPlain, Bool.and_eq_true] at h
    rw [starE h.1]
    show (backTo pos ((false, eval e env) :: starEach es env)).any (·.1) = false
    unfold backTo at ih ⊢
    rw [List.map_cons, List.any_cons, ih h.2]
    rfl
section
variable {g : GW} {ev : Fs} {X : Cx} {E : XK} {pins : List (Addr × Obj)} {σ : St} {H : Hp} {s : Shared} {ρ : List Addr} {h : MH} {pos : Pos}
abbrev T1 (g : GW) (ev : Fs) (E : XK) (m : MSt → M MV) : TE := tM g ev E m
theorem tM_kf {m : MSt → M MV} {Q : VK} (p : T1 g ev E m σ H Q) : T1 g ev E m σ H (fun v H' => KFree g H' → Q v H') := by
  obtain ⟨ρ, τ, h, rs, rh, p⟩ := p
  exact ⟨ρ, τ, h, rs, rh, p.imp fun d h1 ρ1 H1 _ _ q v r _ => q v r⟩
/-- a value without a step -/
theorem pe_pure {e : Expr} {d : MV} {v : V} (he : PE X e (tC v)) (c : Cn g ev X E) (r : ∀ ρ H, Rep g ev ρ H d v) : PE X e (T1 g ev E fun _ => M.pure d) :=
  PE.via c he fun σ H Q ⟨ρ, τ, h, rs, rh, p⟩ _ => p ρ H Grow.refl rh v (r ρ H)
theorem pe_varM {i : Nat} {x : Str} (c : Cn g ev X E) (hN : X.N[i]? = some x) (hv : Vis X.env.scope x) (hd : (x == ("__debug__" : Str)) = false) (hcd : (x == ("__classdict__" : Str)) = false) :
    PE X (.Name x pos) (T1 g ev E fun τ => opt (τ[i]?.join)) := by
  refine PE.via c (pe_var hN hv hd hcd) fun σ H Q ⟨ρ, τ, h, rs, rh, p⟩ => ?_
  obtain ⟨d, e, p⟩ := rpost_opt p
  have e' : τ[i]? = some (some d) := by
    cases q : τ[i]? with
    | none => rw [q] at e; cases e
    | some o => rw [q] at e; simp only [Option.join_some] at e; rw [e]
  obtain ⟨v, e1, r⟩ := rs.2 i d e'
  exact ⟨v, e1, fun _ => fin_same rh r p⟩
/-! argument lists -/
theorem pa_nilM (c : Cn g ev X E) : PA X [] (tMA g ev E fun _ => M.pure []) :=
  PA.via c pa_nil fun σ H Q ⟨ρ, τ, h, rs, rh, p⟩ _ => p ρ H Grow.refl rh [] (by simp [Reps])
theorem pa_consM {e : Expr} {es : List Expr} {m : MSt → M MV} {ms : MSt → M (List MV)} (c : Cn g ev X E) (he : PE X e (T1 g ev E m)) (hes : PA X es (tMA g ev E ms)) (hn : notStar e = true) :
    PA X (e :: es) (tMA g ev E fun τ => M.bind (m τ) fun v => M.bind (ms τ) fun vs => M.pure (v :: vs)) := by
  refine PA.via c (pa_cons he hes (starE hn _ _)) fun σ H Q ⟨ρ, τ, h, rs, rh, p⟩ => ?_
  refine ⟨ρ, τ, h, rs, rh, p.bind.imp fun d h1 ρ1 H1 gr rh1 p1 v rv => ?_⟩
  refine ⟨ρ1, τ, h1, rs.up rh gr, rh1, p1.bind.imp fun ds h2 ρ2 H2 gr2 rh2 p2 vs rvs _ => ?_⟩
  refine p2 ρ2 H2 Grow.refl rh2 (v :: vs) ?_
  simp only [Reps]
  exact ⟨v, vs, rfl, rv.up rh1 gr2, rvs⟩
theorem pa_one {e : Expr} {m : MSt → M MV} (c : Cn g ev X E) (he : PE X e (T1 g ev E m)) (hn : notStar e = true) : PA X [e] (tCons (T1 g ev E m) tNil) := pa_cons he pa_nil (starE hn _ _)
theorem pa_two {e e2 : Expr} {m m2 : MSt → M MV} (c : Cn g ev X E) (he : PE X e (T1 g ev E m)) (he2 : PE X e2 (T1 g ev E m2)) (hn : notStar e = true) (hn2 : notStar e2 = true) : PA X [e, e2] (tCons (T1 g ev E m) (tCons (T1 g ev E m2) tNil)) :=
  pa_cons he (pa_cons he2 pa_nil (starE hn2 _ _)) (starE hn _ _)
theorem pe_tupM {es : List Expr} {x1 : Nat} {ms : MSt → M (List MV)} (c : Cn g ev X E) (hes : PA X es (tMA g ev E ms)) : PE X (.Tuple es x1 pos) (T1 g ev E fun τ => M.bind (ms τ) fun vs => if vs.length ≤ cap then M.pure (.tuple vs) else bad) := by
  refine PE.via c (pe_tup hes) fun σ H Q ⟨ρ, τ, h, rs, rh, p⟩ => ?_
  refine ⟨ρ, τ, h, rs, rh, p.bind.imp fun d h1 ρ1 H1 gr rh1 p1 vs rv => ?_⟩
  obtain ⟨hz, p1⟩ := rpost_ite p1
  exact ⟨by rw [← rv.length, ← cap_eq]; exact hz, fun q hq kf => fin_tup rh1 hq kf rv p1⟩
theorem pe_lstM {es : List Expr} {mu : Bool} {ms : MSt → M (List MV)} (c : Cn g ev X E) (hes : PA X es (tMA g ev E ms)) : PE X (.List es pos) (T1 g ev E fun τ => M.bind (ms τ) fun vs => if vs.length ≤ cap then mkList mu vs else bad) := by
  refine PE.via c (pe_lst hes) fun σ H Q ⟨ρ, τ, h, rs, rh, p⟩ => ?_
  refine ⟨ρ, τ, h, rs, rh, p.bind.imp fun d h1 ρ1 H1 gr rh1 p1 vs rv => ?_⟩
  obtain ⟨hz, p1⟩ := rpost_ite p1
  exact ⟨by rw [← rv.length, ← cap_eq]; exact hz, fun q hq kf => fin_new rh1 hq kf rv p1⟩
theorem pe_binM {a b : Expr} {op : BOp} {ma mb : MSt → M MV} (c : Cn g ev X E) (ha : PE X a (T1 g ev E ma)) (hb : PE X b (T1 g ev E mb)) : PE X (.BinOp a (bopOf op) b pos) (T1 g ev E fun τ => M.bind (ma τ) fun x => M.bind (mb τ) fun y => binM op x y) :=
  PE.via c (pe_op (ok_bin c op) ha hb) fun σ H Q p => two_kf (two p)
theorem pe_lmulM {a b : Expr} {mu : Bool} {ma mb : MSt → M MV} (c : Cn g ev X E) (ha : PE X a (T1 g ev E ma)) (hb : PE X b (T1 g ev E mb)) : PE X (.BinOp a .Mult b pos) (T1 g ev E fun τ => M.bind (ma τ) fun x => M.bind (mb τ) fun y => lmulM mu x y) :=
  PE.via c (pe_op (ok_lmul c mu) ha hb) fun σ H Q p => two_kf (two p)
theorem pe_negM {a : Expr} {ma : MSt → M MV} (c : Cn g ev X E) (ha : PE X a (T1 g ev E ma)) : PE X (.UnaryOp .USub a pos) (T1 g ev E fun τ => M.bind (ma τ) fun | .int i => M.pure (.int (-i)) | _ => bad) := by
  refine PE.via c (pe_un un_neg ha) fun σ H Q ⟨ρ, τ, h, rs, rh, p⟩ => ?_
  refine ⟨ρ, τ, h, rs, rh, p.bind.imp fun d h1 ρ1 H1 gr rh1 p1 v rv => ?_⟩
  cases d with
  | int i => exact ⟨i, int_of rv, fun _ => fin_same rh1 rep_int p1⟩
  | _ => exact p1.elim
theorem pe_notM {a : Expr} {ma : MSt → M MV} (c : Cn g ev X E) (ha : PE X a (T1 g ev E ma)) : PE X (.UnaryOp .Not a pos) (T1 g ev E fun τ => M.bind (ma τ) fun v => M.bind (truthM v) fun b => M.pure (.bool (!b))) := by
  refine PE.via c (pe_notT ha) fun σ H Q ⟨ρ, τ, h, rs, rh, p⟩ => ?_
  refine ⟨ρ, τ, h, rs, rh, p.bind.imp fun d h1 ρ1 H1 gr rh1 p1 v rv => ?_⟩
  obtain ⟨k, tv, p2⟩ := tru_of rh1 rv p1.bind
  rw [← c.hK] at tv
  exact ⟨k, tv, fun _ => fin_same rh1 rep_bool (p2 ρ1 H1 Grow.refl rh1)⟩
theorem chain_of {op op' : COp} {ma mb md : MSt → M MV} {Q : VK} (p : T1 g ev E (fun τ => M.bind (ma τ) fun x => M.bind (mb τ) fun y => M.bind (cmpM op x y) fun r =>
      if r = true then M.bind (md τ) fun z => M.bind (cmpM op' y z) fun r' => M.pure (.bool r') else M.pure (.bool false)) σ H Q) :
    tChain (rM2 g ev E (cm op)) (rM2 g ev E (cm op')) (T1 g ev E ma) (T1 g ev E mb) (T1 g ev E md) σ H Q := by
  obtain ⟨ρ, τ, h, rs, rh, p⟩ := p
  refine ⟨ρ, τ, h, rs, rh, p.bind.imp fun x h1 ρ1 H1 gr rh1 p1 v rv => ?_⟩
  refine ⟨ρ1, τ, h1, rs.up rh gr, rh1, p1.bind.imp fun y h2 ρ2 H2 gr2 rh2 p2 u ru => ?_⟩
  refine ⟨ρ2, h2, x, y, rh2, rv.up rh1 gr2, ru, ?_⟩
  have hg := gr.trans gr2
  have key : RPost g ev E ρ2 H2 (M.bind (cmpM op x y) (fun r => M.pure (PyData.bool r)) h2) (VQ g ev fun z H3 => ∃ k, z = .bl k ∧ if k = true then T1 g ev E md σ H3 fun w' H4 => rM2 g ev E (cm op') u w' H4 Q else Q (.bl false) H3) := by
    cases e : cmpM op x y h2 with
    | ok r h3 =>
      have p3 : RPost g ev E ρ2 H2 ((if r = true then M.bind (md τ) fun z => M.bind (cmpM op' y z) fun r' => M.pure (.bool r') else M.pure (.bool false)) h3) (VQ g ev Q) := by
        have := p2
        unfold M.bind at this
        rw [e] at this
        exact this
      have e3 : M.bind (cmpM op x y) (fun r => M.pure (PyData.bool r)) h2 = .ok (.bool r) h3 := by unfold M.bind; rw [e]; rfl
      rw [e3]
      intro ρ3 H3 gr3 rh3 z rz
      refine ⟨r, bool_of rz, ?_⟩
      cases r with
      | false => exact (p3.grow gr3) ρ3 H3 Grow.refl rh3 _ rep_bool
      | true =>
        have p4 := (RPost.grow gr3 p3).bind
        refine ⟨ρ3, τ, h3, (rs.up rh hg).up rh2 gr3, rh3, p4.imp fun z' h4 ρ4 H4 gr4 rh4 p5 w' rw' => ?_⟩
        exact ⟨ρ4, h4, y, z', rh4, (ru.up rh2 gr3).up rh3 gr4, rw', p5.imp fun d h5 ρ5 H5 _ _ q v r => q v r⟩
    | exc k n h3 =>
      have p3 := p2
      unfold M.bind at p3
      rw [e] at p3
      unfold M.bind
      rw [e]
      exact p3
    | bad =>
      have p3 := p2
      unfold M.bind at p3
      rw [e] at p3
      exact p3.elim
  exact key
theorem pe_cmp2M {a b d : Expr} {op op' : COp} {ma mb md : MSt → M MV} (c : Cn g ev X E) (ha : PE X a (T1 g ev E ma)) (hb : PE X b (T1 g ev E mb)) (hd : PE X d (T1 g ev E md)) (hm : lastMarks [opOf op, opOf op'] [b, d] = false) :
    PE X (.Compare a [opOf op, opOf op'] [b, d] pos) (T1 g ev E fun τ => M.bind (ma τ) fun x => M.bind (mb τ) fun y => M.bind (cmpM op x y) fun r =>
      if r = true then M.bind (md τ) fun z => M.bind (cmpM op' y z) fun r' => M.pure (.bool r') else M.pure (.bool false)) :=
  PE.via c (pe_chain (ok_cmp c op) (ok_cmp c op') ha hb hd hm) fun σ H Q p => chain_of (tM_kf p)
theorem pe_andM {a b : Expr} {rest : List Expr} {ma mb : MSt → M MV} (c : Cn g ev X E) (ha : PE X a (T1 g ev E ma)) (hb : PE X (.BoolOp .And (b :: rest) pos) (T1 g ev E mb)) :
    PE X (.BoolOp .And (a :: b :: rest) pos) (T1 g ev E fun τ => M.bind (ma τ) fun | .bool true => mb τ | .bool false => M.pure (.bool false) | _ => bad) := by
  refine PE.via c (pe_and ha hb) fun σ H Q ⟨ρ, τ, h, rs, rh, p⟩ => ?_
  refine ⟨ρ, τ, h, rs, rh, p.bind.imp fun d h1 ρ1 H1 gr rh1 p1 v rv => ?_⟩
  cases d with
  | bool k =>
    cases k with
    | true => exact ⟨true, bool_of rv, tM_kf ⟨ρ1, τ, h1, rs.up rh gr, rh1, p1⟩⟩
    | false => exact ⟨false, bool_of rv, fun _ => fin_same rh1 rep_bool p1⟩
  | _ => exact p1.elim
theorem pe_orM {a b : Expr} {rest : List Expr} {ma mb : MSt → M MV} (c : Cn g ev X E) (ha : PE X a (T1 g ev E ma)) (hb : PE X (.BoolOp .Or (b :: rest) pos) (T1 g ev E mb)) :
    PE X (.BoolOp .Or (a :: b :: rest) pos) (T1 g ev E fun τ => M.bind (ma τ) fun | .bool false => mb τ | .bool true => M.pure (.bool true) | _ => bad) := by
  refine PE.via c (pe_or ha hb) fun σ H Q ⟨ρ, τ, h, rs, rh, p⟩ => ?_
  refine ⟨ρ, τ, h, rs, rh, p.bind.imp fun d h1 ρ1 H1 gr rh1 p1 v rv => ?_⟩
  cases d with
  | bool k =>
    cases k with
    | false => exact ⟨false, bool_of rv, tM_kf ⟨ρ1, τ, h1, rs.up rh gr, rh1, p1⟩⟩
    | true => exact ⟨true, bool_of rv, fun _ => fin_same rh1 rep_bool p1⟩
  | _ => exact p1.elim
/-! tests -/
abbrev TT1 (g : GW) (ev : Fs) (E : XK) (m : MSt → M Bool) : TT := tMT g ev E m
theorem tMT_kf {m : MSt → M Bool} {Q : Bool → Hp → Prop} (p : TT1 g ev E m σ H Q) : TT1 g ev E m σ H (fun v H' => KFree g H' → Q v H') := by
  obtain ⟨ρ, τ, h, rs, rh, p⟩ := p
  exact ⟨ρ, τ, h, rs, rh, p.imp fun d h1 ρ1 H1 _ _ q _ => q⟩
theorem pt_tvM {a : Expr} {ma : MSt → M MV} (c : Cn g ev X E) (ha : PE X a (T1 g ev E ma)) (he : ∀ whole, isTrue a X.env whole = (do let v ← whole; standAt a.pos; holding [v] (truthy v))) :
    PT X a (TT1 g ev E fun τ => M.bind (ma τ) fun v => truthM v) := by
  refine PT.via c (pt_truth ha he) fun σ H Q ⟨ρ, τ, h, rs, rh, p⟩ => ?_
  refine ⟨ρ, τ, h, rs, rh, p.bind.imp fun d h1 ρ1 H1 gr rh1 p1 v rv => ?_⟩
  obtain ⟨k, tv, p2⟩ := tru_of rh1 rv p1
  rw [← c.hK] at tv
  exact ⟨k, tv, fun _ => p2 ρ1 H1 Grow.refl rh1⟩
theorem bind_assoc {α β γ : Type} {m : M α} {f : α → M β} {k : β → M γ} : M.bind (M.bind m f) k = M.bind m fun a => M.bind (f a) k := by
  funext h
  unfold M.bind
  cases m h <;> rfl
theorem truth_bool {m : M Bool} {h : MH} {Q : Bool → Hp → Prop} {ρ : List Addr} {H : Hp} (p : RPost g ev E ρ H (M.bind (M.bind m fun r => M.pure (.bool r)) truthM h) (fun b _ _ H' => Q b H')) :
    RPost g ev E ρ H (M.bind m (fun r => M.pure (PyData.bool r)) h) (VQ g ev fun x H' => ∃ k, x = .bl k ∧ (KFree g H' → Q k H')) := by
  unfold M.bind at p ⊢
  cases e : m h with
  | ok r h1 =>
    rw [e] at p
    intro ρ1 H1 gr rh v rv
    exact ⟨r, bool_of rv, fun _ => p ρ1 H1 gr rh⟩
  | exc c n h1 => rw [e] at p; exact p
  | bad => rw [e] at p; exact p
theorem pt_cmpM {a b : Expr} {op : COp} {ma mb : MSt → M MV} (c : Cn g ev X E) (ha : PE X a (T1 g ev E ma)) (hb : PE X b (T1 g ev E mb)) (hm : behindInMarks (opOf op) b = false) :
    PT X (.Compare a [opOf op] [b] pos) (TT1 g ev E fun τ => M.bind (M.bind (ma τ) fun x => M.bind (mb τ) fun y => M.bind (cmpM op x y) fun r => M.pure (.bool r)) fun v => truthM v) := by
  refine PT.via c (pt_cmpR (ok_cmp c op) ha hb hm) fun σ H Q p => ?_
  have p2 : T1 g ev E (fun τ => M.bind (ma τ) fun x => M.bind (mb τ) fun y => cm op x y) σ H (fun x H' => ∃ k, x = .bl k ∧ (KFree g H' → Q k H')) := by
    obtain ⟨ρ, τ, h, rs, rh, p⟩ := p
    refine ⟨ρ, τ, h, rs, rh, ?_⟩
    have := truth_bool (m := M.bind (ma τ) fun x => M.bind (mb τ) fun y => cmpM op x y) (Q := Q) (ρ := ρ) (H := H) (g := g) (ev := ev) (E := E) (h := h) (by simp only [bind_assoc] at p ⊢; exact p)
    simp only [bind_assoc] at this
    exact this
  exact two p2
end
end Snd

-- Snd8
set_option autoImplicit false
set_option linter.all false
set_option Elab.async false
set_option maxRecDepth 100000
set_option maxHeartbeats 4000000
/-! soundness of M, part 8: tests, calls of built-ins, subscripts -/
namespace Snd
open PySem PySem.Spec PyProof.Rows L2 MM
section
variable {g : GW} {ev : Fs} {X : Cx} {E : XK} {pins : List (Addr × Obj)} {σ : St} {H : Hp} {s : Shared} {ρ : List Addr} {h : MH} {pos : Pos}
theorem pt_cmp2M {a b d : Expr} {op op' : COp} {ma mb md : MSt → M MV} (c : Cn g ev X E) (ha : PE X a (T1 g ev E ma)) (hb : PE X b (T1 g ev E mb)) (hd : PE X d (T1 g ev E md)) (hm : lastMarks [opOf op, opOf op'] [b, d] = false) :
    PT X (.Compare a [opOf op, opOf op'] [b, d] pos) (TT1 g ev E fun τ => M.bind (M.bind (ma τ) fun x => M.bind (mb τ) fun y => M.bind (cmpM op x y) fun r =>
      if r = true then M.bind (md τ) fun z => M.bind (cmpM op' y z) fun r' => M.pure (.bool r') else M.pure (.bool false)) fun v => truthM v) := by
  refine PT.via c (pt_chain (ok_cmp c op) (ok_cmp c op') ha hb hd hm) fun σ H Q p => ?_
  have key : T1 g ev E (fun τ => M.bind (ma τ) fun x => M.bind (mb τ) fun y => M.bind (cmpM op x y) fun r =>
      if r = true then M.bind (md τ) fun z => M.bind (cmpM op' y z) fun r' => M.pure (.bool r') else M.pure (.bool false)) σ H (fun x H' => ∃ k, x = .bl k ∧ (KFree g H' → Q k H')) := by
    obtain ⟨ρ, τ, h, rs, rh, p⟩ := p
    refine ⟨ρ, τ, h, rs, rh, ?_⟩
    have hh : (M.bind (M.bind (ma τ) fun x => M.bind (mb τ) fun y => M.bind (cmpM op x y) fun r => if r = true then M.bind (md τ) fun z => cmpM op' y z else M.pure false) fun r => (M.pure (PyData.bool r) : M MV))
      = (M.bind (ma τ) fun x => M.bind (mb τ) fun y => M.bind (cmpM op x y) fun r => if r = true then M.bind (md τ) fun z => M.bind (cmpM op' y z) fun r' => M.pure (.bool r') else M.pure (.bool false)) := by
      rw [bind_assoc]; congr 1; funext x
      rw [bind_assoc]; congr 1; funext y
      rw [bind_assoc]; congr 1; funext r
      cases r with
      | true => simp only [if_true, bind_assoc]
      | false => rfl
    have := truth_bool (Q := Q) (ρ := ρ) (H := H) (g := g) (ev := ev) (E := E) (h := h) (m := M.bind (ma τ) fun x => M.bind (mb τ) fun y => M.bind (cmpM op x y) fun r => if r = true then M.bind (md τ) fun z => cmpM op' y z else M.pure false) (by rw [hh]; exact p)
    rw [hh] at this
    exact this
  have k2 := chain_of key
  obtain ⟨ρ, τ, h, rs, rh, p⟩ := k2
  refine ⟨ρ, τ, h, rs, rh, p.imp fun x h1 ρ1 H1 _ _ q v r => ?_⟩
  obtain ⟨ρ1', τ', h1', rs', rh1', p⟩ := q v r
  refine ⟨ρ1', τ', h1', rs', rh1', p.imp fun y h2 ρ2 H2 gr2 rh2 p2 u ru => ?_⟩
  obtain ⟨ρ3, h3, a, b, r1, r2, r3, p⟩ := p2 u ru
  refine ⟨ρ3, h3, a, b, r1, r2, r3, p.imp fun d h4 ρ4 H4 _ rh4 q w rw => ?_⟩
  obtain ⟨k, e, q⟩ := q w rw
  exact ⟨k, e, q⟩
theorem pw_andM {a b : Expr} {rest : List Expr} {ma mb : MSt → M Bool} (c : Cn g ev X E) (ha : PT X a (TT1 g ev E ma)) (hb : PW X (.BoolOp .And (b :: rest) pos) (TT1 g ev E mb)) :
    PW X (.BoolOp .And (a :: b :: rest) pos) (TT1 g ev E fun τ => M.bind (ma τ) fun r => if r = true then mb τ else M.pure false) := by
  refine PW.via c (pw_and ha hb) fun σ H Q ⟨ρ, τ, h, rs, rh, p⟩ => ?_
  refine ⟨ρ, τ, h, rs, rh, p.bind.imp fun d h1 ρ1 H1 gr rh1 p1 => ?_⟩
  cases d with
  | true => exact tMT_kf ⟨ρ1, τ, h1, rs.up rh gr, rh1, p1⟩
  | false => exact fun _ => p1 ρ1 H1 Grow.refl rh1
theorem pw_orM {a b : Expr} {rest : List Expr} {ma mb : MSt → M Bool} (c : Cn g ev X E) (ha : PT X a (TT1 g ev E ma)) (hb : PW X (.BoolOp .Or (b :: rest) pos) (TT1 g ev E mb)) :
    PW X (.BoolOp .Or (a :: b :: rest) pos) (TT1 g ev E fun τ => M.bind (ma τ) fun r => if r = true then M.pure true else mb τ) := by
  refine PW.via c (pw_or ha hb) fun σ H Q ⟨ρ, τ, h, rs, rh, p⟩ => ?_
  refine ⟨ρ, τ, h, rs, rh, p.bind.imp fun d h1 ρ1 H1 gr rh1 p1 => ?_⟩
  cases d with
  | true => exact fun _ => p1 ρ1 H1 Grow.refl rh1
  | false => exact tMT_kf ⟨ρ1, τ, h1, rs.up rh gr, rh1, p1⟩
theorem pt_notM {a : Expr} {ma : MSt → M Bool} (c : Cn g ev X E) (ha : PT X a (TT1 g ev E ma)) : PT X (.UnaryOp .Not a pos) (TT1 g ev E fun τ => M.bind (ma τ) fun r => M.pure (!r)) := by
  refine PT.via c (pt_not ha) fun σ H Q ⟨ρ, τ, h, rs, rh, p⟩ => ?_
  exact ⟨ρ, τ, h, rs, rh, p.bind.imp fun d h1 ρ1 H1 gr rh1 p1 _ => p1 ρ1 H1 Grow.refl rh1⟩
theorem pe_iteM {t a b : Expr} {mt : MSt → M Bool} {ma mb : MSt → M MV} (c : Cn g ev X E) (ht : PT X t (TT1 g ev E mt)) (ha : PE X a (T1 g ev E ma)) (hb : PE X b (T1 g ev E mb)) :
    PE X (.IfExp t a b pos) (T1 g ev E fun τ => M.bind (mt τ) fun r => if r = true then ma τ else mb τ) := by
  refine PE.via c (pe_ifExp ht ha hb) fun σ H Q ⟨ρ, τ, h, rs, rh, p⟩ => ?_
  refine ⟨ρ, τ, h, rs, rh, p.bind.imp fun d h1 ρ1 H1 gr rh1 p1 => ?_⟩
  cases d with
  | true => exact tM_kf ⟨ρ1, τ, h1, rs.up rh gr, rh1, p1⟩
  | false => exact tM_kf ⟨ρ1, τ, h1, rs.up rh gr, rh1, p1⟩

/-! ### built-ins -/
theorem c1 {m : MSt → M MV} {f : MV → M MV} {Q : VK} (p : T1 g ev E (fun τ => M.bind (m τ) f) σ H Q) : tCB (r1M g ev E f) (tCons (T1 g ev E m) tNil) σ H (fun v H' => KFree g H' → Q v H') := by
  obtain ⟨ρ, τ, h, rs, rh, p⟩ := p
  refine ⟨ρ, τ, h, rs, rh, p.bind.imp fun x h1 ρ1 H1 gr rh1 p1 v rv => ?_⟩
  exact ⟨ρ1, h1, x, v, rfl, rh1, rv, p1.imp fun d h2 ρ2 H2 _ _ q w rw _ => q w rw⟩
theorem pe_f1 {x : Str} {id : String} {f : MV → M MV} {e : Expr} {m : MSt → M MV} {p : Pos} (c : Cn g ev X E) (ok : CallR X (.builtin id) (r1M g ev E f)) (hg : Gl X x) (hf : g.mg x = none) (hv : bootBuiltins x = some (.builtin id))
    (he : PE X e (T1 g ev E m)) (hn : notStar e = true) (hx : x ≠ "__name__") (hd : (x == ("__debug__" : Str)) = false) : PE X (.Call (.Name x p) [e] [] pos) (T1 g ev E fun τ => M.bind (m τ) f) :=
  PE.via c (pe_callB ok hg (by rw [c.hm]; exact hf) hv (pa_one c he hn) hx hd (starE hn _ _) rfl) fun σ H Q p => c1 p
theorem pe_t1 {x : Str} {id : String} {f : MV → M MV} {e : Expr} {m : MSt → M MV} {p : Pos} (c : Cn g ev X E) (ok : CallR X (.type id) (r1M g ev E f)) (hg : Gl X x) (hf : g.mg x = none) (hv : bootBuiltins x = some (.type id))
    (he : PE X e (T1 g ev E m)) (hn : notStar e = true) (hx : x ≠ "__name__") (hd : (x == ("__debug__" : Str)) = false) : PE X (.Call (.Name x p) [e] [] pos) (T1 g ev E fun τ => M.bind (m τ) f) :=
  PE.via c (pe_callTy ok hg (by rw [c.hm]; exact hf) hv (pa_one c he hn) hx hd (starE hn _ _) rfl) fun σ H Q p => c1 p
theorem pe_f2 {x : Str} {id : String} {f : MV → MV → M MV} {e e2 : Expr} {m m2 : MSt → M MV} {p : Pos} (c : Cn g ev X E) (ok : CallR X (.builtin id) (r2M g ev E f)) (hg : Gl X x) (hf : g.mg x = none) (hv : bootBuiltins x = some (.builtin id))
    (he : PE X e (T1 g ev E m)) (he2 : PE X e2 (T1 g ev E m2)) (hn : notStar e = true) (hn2 : notStar e2 = true) (hx : x ≠ "__name__") (hd : (x == ("__debug__" : Str)) = false) : PE X (.Call (.Name x p) [e, e2] [] pos) (T1 g ev E fun τ => M.bind (m τ) fun a => M.bind (m2 τ) fun b => f a b) := by
  refine PE.via c (pe_callB ok hg (by rw [c.hm]; exact hf) hv (pa_two c he he2 hn hn2) hx hd (starE hn _ _) (noAny (es := [e2]) (by simp [allPlain, hn2]) _ _)) fun σ H Q ⟨ρ, τ, h, rs, rh, p⟩ => ?_
  refine ⟨ρ, τ, h, rs, rh, p.bind.imp fun x h1 ρ1 H1 gr rh1 p1 v rv => ?_⟩
  refine ⟨ρ1, τ, h1, rs.up rh gr, rh1, p1.bind.imp fun y h2 ρ2 H2 gr2 rh2 p2 u ru => ?_⟩
  exact ⟨ρ2, h2, x, y, v, u, rfl, rh2, rv.up rh1 gr2, ru, p2.imp fun d h2 ρ2 H2 _ _ q w rw _ => q w rw⟩
/-! isinstance -/
def tyN : MV → Option String
  | .none => some "NoneType" | .bool _ => some "bool" | .int _ => some "int" | .str _ => some "str" | .list _ => some "list" | .tuple _ => some "tuple" | .dict _ => none
def tyS : Ty → String
  | .int => "int" | .bool => "bool" | .tuple => "tuple" | .list => "list" | .str => "str"
def tyX : Ty → Str
  | .int => "int" | .bool => "bool" | .tuple => "tuple" | .list => "list" | .str => "str"
theorem tyx_of {d : MV} {v : V} {n : String} (c : Cn g ev X E) (r : Rep g ev ρ H d v) (e : tyN d = some n) : TyX X.K H v (.type n) := by
  cases d with
  | none => cases e; rw [non_of r]; exact .base .non
  | bool b => cases e; rw [bool_of r]; exact .base (.bl _)
  | int b => cases e; rw [int_of r]; exact .base (.int _)
  | str b => cases e; rw [str_of r]; exact .base (.str _)
  | list xs => cases e; obtain ⟨a, vs, rfl, h1, _, _⟩ := lst_of r; exact .base (.lst h1)
  | tuple xs =>
    cases e; obtain ⟨a, vs, rfl, h1, _⟩ := tup_of r
    rw [← c.hK] at h1
    rcases h1 with (h1 | ⟨o, h1⟩) | ⟨o, its, n, e, c1, _⟩
    · exact .base (.tup h1)
    · exact .fTuple h1
    · exact .kTuple e c1
  | dict _ => cases e
theorem kb_all (n : String) (t : Ty) (b : Bool) (d : MV) (e : tyN d = some n) (hb : tyIs t d = b) : kitB n (tyS t) = some b := by
  cases d <;> cases t <;> cases e <;> cases hb <;> simp only [tyIs, tyS] <;> decide +kernel
theorem isi_of {ts : List Ty} {d : MV} {Q : MV → MH → List Addr → Hp → Prop} (p : RPost g ev E ρ H (isiM ts d h) Q) : ∃ n, tyN d = some n ∧ RPost g ev E ρ H (.ok (.bool (ts.any fun t => tyIs t d)) h) Q := by
  cases d with
  | dict _ => exact p.elim
  | _ => exact ⟨_, rfl, p⟩
theorem pe_tyN (c : Cn g ev X E) (t : Ty) (hg : Gl X (tyX t)) (hf : g.mg (tyX t) = none) : PE X (.Name (tyX t) pos) (tC (.ty (tyS t))) := by
  cases t <;> exact pe_bltn hg (by rw [c.hm]; exact hf) (by rfl) rfl
theorem pe_isi1 {a : Expr} {ma : MSt → M MV} {t : Ty} {p p2 : Pos} (c : Cn g ev X E) (ha : PE X a (T1 g ev E ma)) (hn : notStar a = true) (hg : Gl X "isinstance") (hf : g.mg "isinstance" = none) (hgt : Gl X (tyX t)) (hft : g.mg (tyX t) = none) :
    PE X (.Call (.Name "isinstance" p) [a, .Name (tyX t) p2] [] pos) (T1 g ev E fun τ => M.bind (ma τ) fun x => isiM [t] x) := by
  refine PE.via c (pe_callB call_isi hg (by rw [c.hm]; exact hf) (by rfl) (pa_cons ha (pa_cons (pe_tyN c t hgt hft) pa_nil (starE rfl _ _)) (starE hn _ _)) (he := starE hn _ _) (hpl := noAny (es := [.Name (tyX t) p2]) rfl _ _)) fun σ H Q ⟨ρ, τ, h, rs, rh, p⟩ => ?_
  refine ⟨ρ, τ, h, rs, rh, p.bind.imp fun x h1 ρ1 H1 gr rh1 p1 v rv => ?_⟩
  obtain ⟨n, e, p1⟩ := isi_of p1
  refine ⟨v, .ty (tyS t), _, _, tyIs t x, rfl, .ty _, tyx_of c rv e, kit_ty (kb_all n t _ x e rfl), fun _ => ?_⟩
  have p1 := p1 ρ1 H1 Grow.refl rh1 _ rep_bool
  simpa using p1
theorem kit_any {K : PySem.W.Frag} {n : String} {d : MV} (e : tyN d = some n) : ∀ ts : List Ty, PySem.W.kitAny K (.type n) (ts.map fun t => .type (tyS t)) = some (ts.any fun t => tyIs t d)
  | [] => rfl
  | t :: ts => by
    rw [List.map_cons, List.any_cons]
    refine kitAny_cons (kit_ty (kb_all n t _ d e rfl)) (fun hb => ?_) (fun hb => by rw [hb]; rfl)
    rw [hb, Bool.false_or]
    exact kit_any e ts
theorem pe_isi2 {a : Expr} {ma : MSt → M MV} {t t2 : Ty} {n : Nat} {p p2 p3 p4 : Pos} (c : Cn g ev X E) (ha : PE X a (T1 g ev E ma)) (hn : notStar a = true) (hg : Gl X "isinstance") (hf : g.mg "isinstance" = none)
    (hgt : Gl X (tyX t)) (hft : g.mg (tyX t) = none) (hgt2 : Gl X (tyX t2)) (hft2 : g.mg (tyX t2) = none) :
    PE X (.Call (.Name "isinstance" p) [a, .Tuple [.Name (tyX t) p2, .Name (tyX t2) p3] n p4] [] pos) (T1 g ev E fun τ => M.bind (ma τ) fun x => isiM [t, t2] x) := by
  have ht : PE X (.Tuple [.Name (tyX t) p2, .Name (tyX t2) p3] n p4) (tTup (tCons (tC (.ty (tyS t))) (tCons (tC (.ty (tyS t2))) tNil))) := pe_tup (pa_cons (pe_tyN c t hgt hft) (pa_cons (pe_tyN c t2 hgt2 hft2) pa_nil (starE rfl _ _)) (starE rfl _ _))
  refine PE.via c (pe_callB call_isiT hg (by rw [c.hm]; exact hf) (by rfl) (pa_cons ha (pa_cons ht pa_nil (starE rfl _ _)) (starE hn _ _)) (he := starE hn _ _) (hpl := noAny (es := [.Tuple [.Name (tyX t) p2, .Name (tyX t2) p3] n p4]) rfl _ _)) fun σ H Q ⟨ρ, τ, h, rs, rh, p⟩ => ?_
  refine ⟨ρ, τ, h, rs, rh, p.bind.imp fun x h1 ρ1 H1 gr rh1 p1 v rv => ?_⟩
  obtain ⟨n, e, p1⟩ := isi_of p1
  refine ⟨by rw [sizeLine_eq]; show 2 ≤ _; omega, fun q hq => ?_⟩
  refine ⟨v, q, [.ty (tyS t), .ty (tyS t2)], _, _, [t, t2].any fun t => tyIs t x, rfl, upd_same, .cons (.ty _) (.cons (.ty _) .nil), tyx_of c (rv.up rh1 (Grow.ext (ext_upd hq))) e, kit_any e [t, t2], fun kf => ?_⟩
  exact p1 ρ1 _ (Grow.ext (ext_upd hq)) (rh1.ext (ext_upd hq) kf) _ rep_bool
end
end Snd

-- Snd9
set_option autoImplicit false
set_option linter.all false
set_option Elab.async false
set_option maxRecDepth 100000
set_option maxHeartbeats 4000000
/-! soundness of M, part 9: subscripts, slices, methods -/
namespace Snd
open PySem PySem.Spec PyProof.Rows L2 MM
def plainIx : Expr → Bool
  | .Slice _ _ _ _ => false
  | _ => true
theorem plain_ix {e : Expr} (h : plainIx e = true) : PlainIx e := by
  intro o i
  cases e <;> first | rfl | cases h
section
variable {g : GW} {ev : Fs} {X : Cx} {E : XK} {pins : List (Addr × Obj)} {σ : St} {H : Hp} {s : Shared} {ρ : List Addr} {h : MH} {pos : Pos}
theorem pe_idxM {a b : Expr} {ma mb : MSt → M MV} (c : Cn g ev X E) (ha : PE X a (T1 g ev E ma)) (hb : PE X b (T1 g ev E mb)) (hs : plainIx b = true) : PE X (.Subscript a b pos) (T1 g ev E fun τ => M.bind (ma τ) fun x => M.bind (mb τ) fun y => idxM x y) :=
  PE.via c (pe_ix (ok_idx c) ha hb (plain_ix hs)) fun σ H Q p => two_kf (two p)
/-! slices -/
def tMP (g : GW) (ev : Fs) (E : XK) (m : MSt → M (Option Int)) : TO := fun σ H Q => ∃ ρ τ h, RepS g ev ρ H τ σ ∧ RepH g ev ρ H h ∧ RPost g ev E ρ H (m τ h) (fun o _ _ H' => Q o H')
theorem po_noneM (c : Cn g ev X E) : PO X none (tMP g ev E fun _ => M.pure none) := by
  refine ⟨fun pins s σ H Q I ⟨ρ, τ, h, rs, rh, p⟩ => ?_⟩
  exact po_none.run pins s σ H Q I (p ρ H Grow.refl rh)
theorem po_someM {e : Expr} {m : MSt → M MV} (c : Cn g ev X E) (he : PE X e (T1 g ev E m)) : PO X (some e) (tMP g ev E fun τ => M.bind (m τ) fun | .int i => M.pure (some i) | _ => bad) := by
  refine ⟨fun pins s σ H Q I ⟨ρ, τ, h, rs, rh, p⟩ => ?_⟩
  refine (po_some he).run pins s σ H Q I ⟨ρ, τ, h, rs, rh, p.bind.imp fun x h1 ρ1 H1 gr rh1 p1 v rv => ?_⟩
  cases x with
  | int i => exact ⟨i, int_of rv, p1 ρ1 H1 Grow.refl rh1⟩
  | _ => exact p1.elim
theorem reps_cut {xs : List MV} {vs : List V} (r : Reps g ev ρ H xs vs) (lo hi : Option Int) : Reps g ev ρ H (cut xs lo hi) (cutV vs lo hi) := by
  unfold cut cutV
  rw [r.length]
  exact (r.drop _).take _
theorem cut_all {xs : List MV} {lo hi : Option Int} (h : HT.sIx xs.length 0 lo = 0 ∧ HT.sIx xs.length xs.length hi = xs.length) : cut xs lo hi = xs := by
  unfold cut
  rw [show sIx xs.length 0 lo = 0 from h.1, show sIx xs.length xs.length hi = xs.length from h.2]
  simp
def rSlM (g : GW) (envs : Fs) (E : XK) : V → Option Int → Option Int → Hp → VK → Prop := fun x lo hi H Q => ∃ ρ h a, RepH g envs ρ H h ∧ Rep g envs ρ H a x ∧ RPost g envs E ρ H (slM a lo hi h) (VQ g envs Q)
theorem ok_sl (c : Cn g ev X E) : SlR X (rSlM g ev E) := by
  intro pins s σ H x v vl vu lo hi sl Q I rx hs pl pu ⟨ρ, h, a, rh, ra, p⟩
  refine (SlR.or sl_list sl_tupA) pins s σ H x v vl vu lo hi sl (fun v H' => KFree g H' → Q v H') I rx hs pl pu ?_ |>.imp fun T q => q.imp fun id q => ⟨q.1, q.2.1, thn q.2.2 fun u s' ⟨v, H', I', r, q⟩ => ⟨v, H', I', r, q (Inv.kfree c I')⟩⟩
  cases a with
  | list xs =>
    obtain ⟨p1, vs, rfl, h1, h2, h3⟩ := lst_of ra
    exact .inl ⟨p1, vs, rfl, SqL.of h1, fun q hq kf => fin_lst rh hq kf (reps_cut h3 lo hi) p⟩
  | tuple xs =>
    obtain ⟨p1, vs, rfl, h1, h3⟩ := tup_of ra
    refine .inr ⟨p1, vs, rfl, by rw [c.hK]; exact h1, fun e kf => ?_, fun _ q hq kf => fin_tup rh hq kf (reps_cut h3 lo hi) p⟩
    rw [← h3.length] at e
    have p : RPost g ev E ρ H (.ok (.tuple (cut xs lo hi)) h) (VQ g ev Q) := p
    rw [cut_all e] at p
    exact fin_same rh ra p
  | _ => exact p.elim
theorem pe_slM {a : Expr} {lo hi : Option Expr} {p2 : Pos} {ma : MSt → M MV} {ml mh : MSt → M (Option Int)} (c : Cn g ev X E) (ha : PE X a (T1 g ev E ma)) (hl : PO X lo (tMP g ev E ml)) (hh : PO X hi (tMP g ev E mh)) :
    PE X (.Subscript a (.Slice lo hi none p2) pos) (T1 g ev E fun τ => M.bind (ma τ) fun x => M.bind (ml τ) fun l => M.bind (mh τ) fun u => slM x l u) := by
  refine PE.via c (pe_slice (ok_sl c) ha hl hh) fun σ H Q ⟨ρ, τ, h, rs, rh, p⟩ => ?_
  refine ⟨ρ, τ, h, rs, rh, p.bind.imp fun x h1 ρ1 H1 gr rh1 p1 v rv => ?_⟩
  refine ⟨ρ1, τ, h1, rs.up rh gr, rh1, p1.bind.imp fun l h2 ρ2 H2 gr2 rh2 p2 => ?_⟩
  refine ⟨ρ2, τ, h2, (rs.up rh gr).up rh1 gr2, rh2, p2.bind.imp fun u h3 ρ3 H3 gr3 rh3 p3 => ?_⟩
  exact ⟨ρ3, h3, x, rh3, (rv.up rh1 gr2).up rh2 gr3, p3.imp fun d h4 ρ4 H4 _ _ q w rw _ => q w rw⟩
theorem pe_revM {e : Expr} {m : MSt → M MV} {k : Nat} {p1 p2 p3 : Pos} (c : Cn g ev X E) (he : PE X e (T1 g ev E m)) : PE X (.Subscript e (.Slice none none (some (.UnaryOp .USub (.Constant (.int 1) k p1) p2)) p3) pos) (T1 g ev E fun τ => M.bind (m τ) fun x => revM x) := by
  refine PE.via c (pe_revL he) fun σ H Q ⟨ρ, τ, h, rs, rh, p⟩ => ?_
  refine ⟨ρ, τ, h, rs, rh, p.bind.imp fun x h1 ρ1 H1 gr rh1 p1 v rv => ?_⟩
  cases x with
  | list xs =>
    obtain ⟨q1, vs, rfl, h1, h2, h3⟩ := lst_of rv
    exact ⟨q1, vs, rfl, SqL.of h1, fun q hq kf => fin_lst rh1 hq kf h3.reverse p1⟩
  | _ => exact p1.elim
/-! new dicts -/
theorem fin_dct {p : Addr} {Q : VK} (rh : RepH g ev ρ H h) (hp : H p = none) (kf : KFree g (upd H p (.dK []))) (q : RPost g ev E ρ H (.ok (rf h.length) (h ++ [.dct []])) (VQ g ev Q)) : Q (.ref p) (upd H p (.dK [])) := by
  obtain ⟨rh2, gr⟩ := rh.new (mo := .dct []) hp kf ⟨[], upd_same, by simp [RepK]⟩
  exact q _ _ gr rh2 _ (rep_rf (by rw [← rh.len]; simp))
theorem pe_dnewM (c : Cn g ev X E) : PE X (.Dict [] [] pos) (T1 g ev E fun _ => fun h => .ok (rf h.length) (h ++ [.dct []])) :=
  PE.via c pe_dnewK fun σ H Q ⟨ρ, τ, h, rs, rh, p⟩ q hq kf => fin_dct rh hq kf p
/-! lists of ranges -/
theorem reps_range (a : Int) (n : Nat) : Reps g ev ρ H (rangeL a n) ((List.range n).map fun i => V.int (a + (i : Nat))) := by
  unfold rangeL
  induction (List.range n) with
  | nil => simp [Reps]
  | cons x xs ih => simp only [List.map_cons, Reps]; exact ⟨_, _, rfl, rep_int, ih⟩
theorem rng_of {x y : MV} {Q : List MV → MH → List Addr → Hp → Prop} (p : RPost g ev E ρ H (rngM x y h) Q) : ∃ i j, x = .int i ∧ y = .int j ∧ RgOk i j ∧ RPost g ev E ρ H (.ok (rangeL i (j - i).toNat) h) Q := by
  unfold rngM at p
  split at p
  · obtain ⟨hz, p⟩ := rpost_ite p
    simp only [Bool.and_eq_true, rngOk, decide_eq_true_eq] at hz
    exact ⟨_, _, rfl, rfl, ⟨hz.1.1.1.1, hz.1.1.1.2, hz.1.1.2, hz.1.2, hz.2⟩, p⟩
  · exact p.elim
end
end Snd
namespace Snd
open PySem PySem.Spec PyProof.Rows L2 MM
section
variable {g : GW} {ev : Fs} {X : Cx} {E : XK} {pins : List (Addr × Obj)} {σ : St} {H : Hp} {s : Shared} {ρ : List Addr} {h : MH} {pos : Pos}
/-! list(range(..)), tuple(range(..)) -/
theorem rng1_of {m : MSt → M MV} {f : MV → M MV} {Q : VK} (p : T1 g ev E (fun τ => M.bind (M.bind (m τ) fun x => M.bind (rngM (.int 0) x) fun xs => M.pure (.list xs)) f) σ H Q) :
    tRg1 (T1 g ev E m) σ H (fun i j H1 => RgOk i j ∧ ∃ ρ h, RepH g ev ρ H1 h ∧ RPost g ev E ρ H1 (f (.list (rangeL i (j - i).toNat)) h) (VQ g ev Q)) := by
  obtain ⟨ρ, τ, h, rs, rh, p⟩ := p
  dsimp only at p
  rw [bind_assoc] at p
  refine ⟨ρ, τ, h, rs, rh, p.bind.imp fun x h1 ρ1 H1 gr rh1 p1 v rv => ?_⟩
  rw [bind_assoc] at p1
  have p2 := p1.bind
  obtain ⟨i, j, e1, e2, ok, p4⟩ := rng_of p2
  injection e1 with e1
  subst e1; subst e2
  exact ⟨j, int_of rv, ok, ρ1, h1, rh1, p4 ρ1 H1 Grow.refl rh1⟩
theorem rng2_of {m m2 : MSt → M MV} {f : MV → M MV} {Q : VK} (p : T1 g ev E (fun τ => M.bind (M.bind (m τ) fun x => M.bind (m2 τ) fun y => M.bind (rngM x y) fun xs => M.pure (.list xs)) f) σ H Q) :
    tRg2 (T1 g ev E m) (T1 g ev E m2) σ H (fun i j H1 => RgOk i j ∧ ∃ ρ h, RepH g ev ρ H1 h ∧ RPost g ev E ρ H1 (f (.list (rangeL i (j - i).toNat)) h) (VQ g ev Q)) := by
  obtain ⟨ρ, τ, h, rs, rh, p⟩ := p
  dsimp only at p
  rw [bind_assoc] at p
  refine ⟨ρ, τ, h, rs, rh, p.bind.imp fun x h1 ρ1 H1 gr rh1 p1 v rv => ?_⟩
  rw [bind_assoc] at p1
  refine ⟨ρ1, τ, h1, rs.up rh gr, rh1, p1.bind.imp fun y h2 ρ2 H2 gr2 rh2 p2 u ru => ?_⟩
  rw [bind_assoc] at p2
  have p3 := p2.bind
  obtain ⟨i, j, e1, e2, ok, p4⟩ := rng_of p3
  subst e1 e2
  exact ⟨i, j, int_of rv, int_of ru, ok, ρ2, h2, rh2, p4 ρ2 H2 Grow.refl rh2⟩
theorem lstRg_of {mu : Bool} {te : St → Hp → (Int → Int → Hp → Prop) → Prop} {Q : VK} (mono : ∀ σ H Q Q', (∀ i j H, Q i j H → Q' i j H) → te σ H Q → te σ H Q')
    (p : te σ H (fun i j H1 => RgOk i j ∧ ∃ ρ h, RepH g ev ρ H1 h ∧ RPost g ev E ρ H1 (b1M (.list mu) (.list (rangeL i (j - i).toNat)) h) (VQ g ev Q))) :
    tLstRg te σ H (fun v H' => KFree g H' → Q v H') :=
  mono σ H _ _ (fun i j H1 ⟨ok, ρ, h, rh, p⟩ => ⟨ok, fun q hq kf => fin_new (mu := mu) rh hq kf (reps_range i (j - i).toNat) p⟩) p
theorem tupRg_of {te : St → Hp → (Int → Int → Hp → Prop) → Prop} {Q : VK} (mono : ∀ σ H Q Q', (∀ i j H, Q i j H → Q' i j H) → te σ H Q → te σ H Q')
    (p : te σ H (fun i j H1 => RgOk i j ∧ ∃ ρ h, RepH g ev ρ H1 h ∧ RPost g ev E ρ H1 (b1M .tuple (.list (rangeL i (j - i).toNat)) h) (VQ g ev Q))) :
    tTupRg te σ H (fun v H' => KFree g H' → Q v H') :=
  mono σ H _ _ (fun i j H1 ⟨ok, ρ, h, rh, p⟩ => ⟨ok, fun q hq kf => fin_tup rh hq kf (reps_range i (j - i).toNat) p⟩) p
theorem tM_mono {m : MSt → M MV} {Q Q' : VK} (i : ∀ v H, Q v H → Q' v H) (p : T1 g ev E m σ H Q) : T1 g ev E m σ H Q' := by
  obtain ⟨ρ, τ, h, rs, rh, p⟩ := p
  exact ⟨ρ, τ, h, rs, rh, p.imp fun d h1 ρ1 H1 _ _ q v r => i _ _ (q v r)⟩
theorem rg1_mono {m : MSt → M MV} (σ : St) (H : Hp) (Q Q' : Int → Int → Hp → Prop) (i : ∀ a b H, Q a b H → Q' a b H) (p : tRg1 (T1 g ev E m) σ H Q) : tRg1 (T1 g ev E m) σ H Q' :=
  tM_mono (fun v H ⟨n, e, q⟩ => ⟨n, e, i _ _ _ q⟩) p
theorem rg2_mono {m m2 : MSt → M MV} (σ : St) (H : Hp) (Q Q' : Int → Int → Hp → Prop) (i : ∀ a b H, Q a b H → Q' a b H) (p : tRg2 (T1 g ev E m) (T1 g ev E m2) σ H Q) : tRg2 (T1 g ev E m) (T1 g ev E m2) σ H Q' :=
  tM_mono (fun v H q => tM_mono (fun u H ⟨a, b, e1, e2, q⟩ => ⟨a, b, e1, e2, i _ _ _ q⟩) q) p
theorem prg1M {a : Expr} {ma : MSt → M MV} {p : Pos} (c : Cn g ev X E) (hg : Gl X "range") (hf : g.mg "range" = none) (ha : PE X a (T1 g ev E ma)) (hn : notStar a = true) : PRg X (.Call (.Name "range" p) [a] [] pos) (tRg1 (T1 g ev E ma)) :=
  prg_1 hg (by rw [c.hm]; exact hf) ha (starE hn _ _)
theorem prg2M {a b : Expr} {ma mb : MSt → M MV} {p : Pos} (c : Cn g ev X E) (hg : Gl X "range") (hf : g.mg "range" = none) (ha : PE X a (T1 g ev E ma)) (hb : PE X b (T1 g ev E mb)) (hn : notStar a = true) (hn2 : notStar b = true) :
    PRg X (.Call (.Name "range" p) [a, b] [] pos) (tRg2 (T1 g ev E ma) (T1 g ev E mb)) :=
  prg_2 hg (by rw [c.hm]; exact hf) ha hb (starE hn _ _) (starE hn2 _ _) (noAny (es := [b]) (by simp [allPlain, hn2]) _ _)
theorem pe_listRg1 {a : Expr} {ma : MSt → M MV} {mu : Bool} {p p2 p3 : Pos} (c : Cn g ev X E) (hg : Gl X "range") (hf : g.mg "range" = none) (hgl : Gl X "list") (hfl : g.mg "list" = none) (ha : PE X a (T1 g ev E ma)) (hn : notStar a = true) :
    PE X (.Call (.Name "list" p) [.Call (.Name "range" p2) [a] [] p3] [] pos) (T1 g ev E fun τ => M.bind (M.bind (ma τ) fun x => M.bind (rngM (.int 0) x) fun xs => M.pure (.list xs)) fun v => b1M (.list mu) v) :=
  PE.via c (pe_listRg c.calm hgl (by rw [c.hm]; exact hfl) (prg1M c hg hf ha hn) (starE rfl _ _)) fun σ H Q p => lstRg_of rg1_mono (rng1_of p)
theorem pe_listRg2 {a b : Expr} {ma mb : MSt → M MV} {mu : Bool} {p p2 p3 : Pos} (c : Cn g ev X E) (hg : Gl X "range") (hf : g.mg "range" = none) (hgl : Gl X "list") (hfl : g.mg "list" = none) (ha : PE X a (T1 g ev E ma)) (hb : PE X b (T1 g ev E mb)) (hn : notStar a = true) (hn2 : notStar b = true) :
    PE X (.Call (.Name "list" p) [.Call (.Name "range" p2) [a, b] [] p3] [] pos) (T1 g ev E fun τ => M.bind (M.bind (ma τ) fun x => M.bind (mb τ) fun y => M.bind (rngM x y) fun xs => M.pure (.list xs)) fun v => b1M (.list mu) v) :=
  PE.via c (pe_listRg c.calm hgl (by rw [c.hm]; exact hfl) (prg2M c hg hf ha hb hn hn2) (starE rfl _ _)) fun σ H Q p => lstRg_of rg2_mono (rng2_of p)
theorem pe_tupRg1 {a : Expr} {ma : MSt → M MV} {p p2 p3 : Pos} (c : Cn g ev X E) (hg : Gl X "range") (hf : g.mg "range" = none) (hgl : Gl X "tuple") (hfl : g.mg "tuple" = none) (ha : PE X a (T1 g ev E ma)) (hn : notStar a = true) :
    PE X (.Call (.Name "tuple" p) [.Call (.Name "range" p2) [a] [] p3] [] pos) (T1 g ev E fun τ => M.bind (M.bind (ma τ) fun x => M.bind (rngM (.int 0) x) fun xs => M.pure (.list xs)) fun v => b1M .tuple v) :=
  PE.via c (pe_tupRg c.calm hgl (by rw [c.hm]; exact hfl) (prg1M c hg hf ha hn) (starE rfl _ _)) fun σ H Q p => tupRg_of rg1_mono (rng1_of p)
theorem pe_tupRg2 {a b : Expr} {ma mb : MSt → M MV} {p p2 p3 : Pos} (c : Cn g ev X E) (hg : Gl X "range") (hf : g.mg "range" = none) (hgl : Gl X "tuple") (hfl : g.mg "tuple" = none) (ha : PE X a (T1 g ev E ma)) (hb : PE X b (T1 g ev E mb)) (hn : notStar a = true) (hn2 : notStar b = true) :
    PE X (.Call (.Name "tuple" p) [.Call (.Name "range" p2) [a, b] [] p3] [] pos) (T1 g ev E fun τ => M.bind (M.bind (ma τ) fun x => M.bind (mb τ) fun y => M.bind (rngM x y) fun xs => M.pure (.list xs)) fun v => b1M .tuple v) :=
  PE.via c (pe_tupRg c.calm hgl (by rw [c.hm]; exact hfl) (prg2M c hg hf ha hb hn hn2) (starE rfl _ _)) fun σ H Q p => tupRg_of rg2_mono (rng2_of p)

/-! ### methods of lists -/
def rMtM (g : GW) (envs : Fs) (E : XK) (f : MV → MV → M MV) : V → List V → Hp → VK → Prop := fun x xs H Q => ∃ ρ h a b y, xs = [y] ∧ RepH g envs ρ H h ∧ Rep g envs ρ H a x ∧ Rep g envs ρ H b y ∧ RPost g envs E ρ H (f a b h) (VQ g envs Q)
theorem mut_of {a : MV} {n : Nat} {v : V} (r : Rep g ev ρ H a v) (e : rfOf a = some n) : ∃ p, v = .ref p ∧ ρ[n]? = some p := by
  cases a with
  | dict kvs => exact ref_of r e
  | _ => cases e
theorem onRef_of {v : MV} {f : MO → Option (MV × MO)} {Q : MV → MH → List Addr → Hp → Prop} (p : RPost g ev E ρ H (onRef v f h) Q) :
    ∃ n o r o', rfOf v = some n ∧ h[n]? = some o ∧ f o = some (r, o') ∧ RPost g ev E ρ H (.ok r (h.set n o')) Q := by
  unfold onRef at p
  split at p
  · rename_i n e
    split at p
    · rename_i o e2
      split at p
      · rename_i r o' e3
        exact ⟨n, o, r, o', e, e2, e3, p⟩
      · exact p.elim
    · exact p.elim
  · exact p.elim
theorem CallM.go {id : String} {x : V} {xs : List V} {v : Value} {us : List Value} {r : V → List V → Hp → VK → Prop} {Q : VK} (c : Cn g ev X E) (o : MtR X id r) (I : Inv X pins σ H s) (rx : RelV x v) (ry : Vals xs us) (q : r x xs H (fun v H' => KFree g H' → Q v H')) :
    wpAny (model X.prog X.w) X.A (call (.builtin id) (v :: us)) (EP X pins σ Q) X.xe s := thn (o pins s σ H x xs v us _ I rx ry q) fun u s' ⟨v, H', I', r, q⟩ => ⟨v, H', I', r, q (Inv.kfree c I')⟩
theorem grow_chg {n : Nat} {a : Addr} {o : HO} (rh : RepH g ev ρ H h) (ha : ρ[n]? = some a) : Grow g ρ H ρ (upd H a o) := by
  have am : a ∈ ρ := List.mem_of_getElem? ha
  have nt : ∀ b ps, H b = some (.tbl ps) → b ≠ a := fun b ps e z => by
    subst z
    rcases rh.mut b am with ⟨vs, e'⟩ | ⟨ys, e'⟩ <;> (rw [e] at e'; cases e')
  exact ⟨⟨[], by simp⟩, fun _ h => .inl h, fun b v hb nb _ => by
    rw [upd_ne (fun (z : b = a) => nb (by rw [z]; exact am))]; exact hb, fun b ps hb => ⟨ps, by rw [upd_ne (nt b ps hb)]; exact hb⟩⟩
theorem plainAll_app : ∀ (xs ys : List MV), PyData.plainAll (xs ++ ys) = (PyData.plainAll xs && PyData.plainAll ys)
  | [], ys => by simp [PyData.plainAll]
  | x :: xs, ys => by simp [PyData.plainAll, plainAll_app xs ys, Bool.and_assoc]
theorem plainAll_erase : ∀ (xs : List MV) (k : Nat), PyData.plainAll xs = true → PyData.plainAll (xs.eraseIdx k) = true
  | [], _, _ => by simp [PyData.plainAll]
  | x :: xs, 0, h => by simp [PyData.plainAll] at h; simpa using h.2
  | x :: xs, k + 1, h => by simp [PyData.plainAll] at h ⊢; exact ⟨h.1, plainAll_erase xs k h.2⟩
theorem plainAll_set {d : MV} (hd : d.plain = true) : ∀ (xs : List MV) (k : Nat), PyData.plainAll xs = true → PyData.plainAll (xs.set k d) = true
  | [], _, _ => by simp [PyData.plainAll]
  | x :: xs, 0, h => by simp [PyData.plainAll] at h; simp [PyData.plainAll, hd, h.2]
  | x :: xs, k + 1, h => by simp [PyData.plainAll] at h ⊢; exact ⟨h.1, plainAll_set hd xs k h.2⟩
/-- a mutable list changed -/
theorem chg_lst {n : Nat} {q : Addr} {ys ys' : List MV} {vs' : List V} (rh : RepH g ev ρ H h) (e2 : h[n]? = some (.lst ys)) (hq : ρ[n]? = some q) (kf : KFree g (upd H q (.lst vs'))) (pl : PyData.plainAll ys' = true) (r : Reps g ev ρ H ys' vs') :
    RepH g ev ρ (upd H q (.lst vs')) (h.set n (.lst ys')) ∧ Grow g ρ H ρ (upd H q (.lst vs')) :=
  rh.chg e2 hq kf (.inl ⟨_, rfl⟩) ⟨pl, vs', upd_same, r.up rh (grow_chg rh hq)⟩
theorem mt_appM (c : Cn g ev X E) : MtR X "list.append" (rMtM g ev E appM) := by
  intro pins s σ H x xs v us Q I rx rv ⟨ρ, h, a, b, y, e, rh, ra, rb, p⟩
  subst e
  obtain ⟨pl, p⟩ := rpost_ite p
  obtain ⟨n, o, r, o', e1, e2, e3, p⟩ := onRef_of p
  obtain ⟨q, rfl, hq⟩ := mut_of ra e1
  have ro := rh.at_ n o q e2 hq
  cases o with
  | dct _ => cases e3
  | lst ys =>
    simp only at e3
    split at e3
    · rename_i hl
      cases e3
      obtain ⟨pls, vs, hv, rvs⟩ := ro
      refine CallM.go c mt_append I rx rv ⟨q, vs, y, rfl, rfl, hv, by rw [← rvs.length, ← cap_eq]; exact hl, fun kf => ?_⟩
      obtain ⟨rh2, gr⟩ := chg_lst rh e2 hq kf (ys' := ys ++ [b]) (by rw [plainAll_app, pls]; simp [PyData.plainAll, pl]) (rvs.append (by simp only [Reps]; exact ⟨_, _, rfl, rb, rfl⟩))
      exact p ρ _ gr rh2 _ rep_non
    · cases e3
theorem mt_popM (c : Cn g ev X E) : MtR X "list.pop" (rMtM g ev E popM) := by
  intro pins s σ H x xs v us Q I rx rv ⟨ρ, h, a, b, y, e, rh, ra, rb, p⟩
  subst e
  cases b with
  | int i =>
    obtain ⟨n, o, r, o', e1, e2, e3, p⟩ := onRef_of p
    obtain ⟨q, rfl, hq⟩ := mut_of ra e1
    have ro := rh.at_ n o q e2 hq
    cases o with
    | dct _ => cases e3
    | lst ys =>
      obtain ⟨k, ek, e3⟩ := Option.bind_eq_some_iff.mp e3
      obtain ⟨d, ed, e3⟩ := Option.map_eq_some_iff.mp e3
      cases e3
      obtain ⟨pls, vs, hv, rvs⟩ := ro
      obtain ⟨z, hz, rz⟩ := rvs.get ed
      have hl : vs.length ≤ sizeLine := (I.lstM hv).1
      have h63 := line63
      obtain ⟨h1, h2, h3, h4⟩ := ixN_seq (show ixN vs.length i = some k by rw [← rvs.length]; exact ek)
      have ei := int_of rb
      subst ei
      refine CallM.go c mt_popAt I rx rv ⟨q, vs, i, k, z, rfl, rfl, hv, by omega, by omega, h1, hz, fun kf => ?_⟩
      obtain ⟨rh2, gr⟩ := chg_lst rh e2 hq kf (ys' := ys.eraseIdx k) (plainAll_erase _ _ pls) (rvs.eraseIdx k)
      exact p ρ _ gr rh2 _ (rz.up rh gr)
  | _ => exact p.elim
/-! index, count: data -/
theorem Seq.list {a : MV} {xs : List MV} {v : V} (c : Cn g ev X E) (I : Inv X pins σ H s) (sq : Seq g ev ρ H a xs v) (n : ∀ ys, a ≠ .tuple ys) : ∃ (p : Addr) (vs : List V) (its : List Value), v = .ref p ∧ Reps g ev ρ H xs vs ∧ Vals vs its ∧ s.heap.IsList p its.toArray ∧ vs.length ≤ sizeLine := by
  obtain ⟨p, vs, e, hs, r⟩ := sq.sql n
  rw [← c.hK] at hs
  obtain ⟨its, rv, ⟨o, n, ho, hc, hdn, hd⟩, hlen⟩ := I.list hs
  exact ⟨p, vs, its, e, r, rv, ⟨o, ho, hc, n, hd⟩, hlen⟩
def findM (nt : MV → MV → M MV) : MV → MV → M MV := nt
theorem no_tupM {a : MV} {m : M MV} {Q : MV → MH → List Addr → Hp → Prop} (p : RPost g ev E ρ H ((match a with | .tuple _ => bad | _ => m) h) Q) : (∀ ys, a ≠ .tuple ys) ∧ RPost g ev E ρ H (m h) Q := no_tup p
theorem mt_countM (c : Cn g ev X E) : MtR X "list.count" (rMtM g ev E countM) := by
  intro pins s σ H x xs v us Q I rx rv ⟨ρ, h, a, b, y, e, rh, ra, rb, p⟩
  subst e
  obtain ⟨zs, sq, p⟩ := seqM_of rh ra (RPost.bind (m := seqM a) p)
  have p := p ρ H Grow.refl rh
  obtain ⟨hz, p⟩ := rpost_ite p
  simp only [Bool.and_eq_true, decide_eq_true_eq] at hz
  obtain ⟨nt, p⟩ := no_tup p
  obtain ⟨q, vs, its, rfl, r, rvs, hl, hlen⟩ := sq.list c I nt
  obtain ⟨u, rfl, ru⟩ := rv.one
  cases rx
  obtain ⟨as, h4⟩ := readsAll_of c I r hz.1.2 rvs
  obtain ⟨bs, h5⟩ := reads_of c I rb hz.1.1 ru
  have hu := c.room.un
  refine SeqAt.count_list_data hl h4 h5 hz.1.2 hz.1.1 (by omega) ?_
  exact ⟨.int _, H, I.tok _, ⟨_, rfl⟩, p ρ H Grow.refl rh _ rep_int⟩
theorem mt_indexM (c : Cn g ev X E) : MtR X "list.index" (rMtM g ev E indexM) := by
  intro pins s σ H x xs v us Q I rx rv ⟨ρ, h, a, b, y, e, rh, ra, rb, p⟩
  subst e
  obtain ⟨zs, sq, p⟩ := seqM_of rh ra (RPost.bind (m := seqM a) p)
  have p := p ρ H Grow.refl rh
  obtain ⟨hz, p⟩ := rpost_ite p
  simp only [Bool.and_eq_true, decide_eq_true_eq] at hz
  obtain ⟨nt, p⟩ := no_tup p
  obtain ⟨d, ed, p⟩ := rpost_opt p
  obtain ⟨j, ej, ed⟩ := Option.map_eq_some_iff.mp ed
  subst ed
  obtain ⟨q, vs, its, rfl, r, rvs, hl, hlen⟩ := sq.list c I nt
  obtain ⟨u, rfl, ru⟩ := rv.one
  cases rx
  obtain ⟨as, h4⟩ := readsAll_of c I r hz.1.2 rvs
  obtain ⟨bs, h5⟩ := reads_of c I rb hz.1.1 ru
  have hu := c.room.un
  have h63 := line63
  obtain ⟨⟨cls, dd, data, sls⟩, ho, hc, n, hdt⟩ := id hl
  simp only at hc hdt
  subst hc hdt
  obtain ⟨hj, w1, w2⟩ := SeqAt.hit_at (vs := its.toArray) h4 hz.1.2 ej
  refine call_meets PySem.F.slot_list_index ⟨_, ho, rfl⟩ PySem.F.entry_list_index (PySem.F.args_list_index_2 _ _)
    (SeqAt.list_indexAt q its.toArray n dd sls u (fun u => PyData.eqv (SeqAt.readOf s.heap u) b) j hj (by rw [List.size_toArray, ← rvs.length] at hj; omega) w1 w2) ⟨ho, SeqAt.items_plain (vs := its.toArray) h4 h5 hz.1.2 hz.1.1 (by show _ + _ + min _ _ < _; omega), ?_⟩
  exact ⟨.int _, H, I.tok _, ⟨_, rfl⟩, p ρ H Grow.refl rh _ rep_int⟩
end
end Snd

-- Snd10
set_option autoImplicit false
set_option linter.all false
set_option Elab.async false
set_option maxRecDepth 100000
set_option maxHeartbeats 4000000
/-! soundness of M, part 10: method calls, item assignment, names of globals -/
namespace Snd
open PySem PySem.Spec PyProof.Rows L2 MM
section
variable {g : GW} {ev : Fs} {X : Cx} {E : XK} {pins : List (Addr × Obj)} {σ : St} {H : Hp} {s : Shared} {ρ : List Addr} {h : MH} {pos : Pos}
def isName : Expr → Bool
  | .Name _ _ => true
  | _ => false
theorem base_name {o : Expr} (h : isName o = true) (name : Str) (env : Env) : attributeBase o name env (eval o env) = eval o env := by
  cases o <;> first | rfl | cases h
theorem lstChk_of {a : MV} {v : V} {Q : Unit → MH → List Addr → Hp → Prop} (c : Cn g ev X E) (rh : RepH g ev ρ H h) (r : Rep g ev ρ H a v) (p : RPost g ev E ρ H (lstChk a h) Q) : tyV X.K "list" v H ∧ Q () h ρ H := by
  unfold lstChk at p
  split at p
  · obtain ⟨q, vs, rfl, h1, _, r1⟩ := lst_of r
    exact ⟨.inl ⟨rfl, vs, SqL.of h1⟩, p ρ H Grow.refl rh⟩
  · rename_i kvs
    split at p
    · rename_i n e
      split at p
      · rename_i xs hn
        obtain ⟨q, rfl, hq⟩ := ref_of r e
        obtain ⟨_, vs, e1, r1⟩ := rh.at_ _ _ _ hn hq
        exact ⟨.inl ⟨rfl, vs, SqL.of e1⟩, p ρ H Grow.refl rh⟩
      · exact p.elim
    · exact p.elim
  · exact p.elim
theorem pe_mtM {name : Str} {id : String} {f : MV → MV → M MV} {o e : Expr} {mo me : MSt → M MV} {apos : Pos} (c : Cn g ev X E) (slot : Slot "list" name id) (hty : typeOf (.builtin id) = pure (.type "method_descriptor")) (hm : MtR X id (rMtM g ev E f))
    (ho : PE X o (T1 g ev E mo)) (he : PE X e (T1 g ev E me)) (hn : notStar e = true) (ho2 : isName o = true) (hline : (apos.endLine == pos.line) = true) :
    PE X (.Call (.Attribute o name apos) [e] [] pos) (T1 g ev E fun τ => M.bind (mo τ) fun x => M.bind (lstChk x) fun _ => M.bind (me τ) fun y => f x y) := by
  refine PE.via c (pe_bm F.plainAttrs_list slot hty hm ho (pa_one c he hn) (base_name ho2 _ _) (by rw [starE hn]; rfl) hline (starE hn _ _) rfl) fun σ H Q ⟨ρ, τ, h, rs, rh, p⟩ => ?_
  refine ⟨ρ, τ, h, rs, rh, p.bind.imp fun x h1 ρ1 H1 gr rh1 p1 v rv => ?_⟩
  obtain ⟨ty, p1⟩ := lstChk_of c rh1 rv p1.bind
  refine ⟨ty, ρ1, τ, h1, rs.up rh gr, rh1, p1.bind.imp fun y h2 ρ2 H2 gr2 rh2 p2 u ru => ?_⟩
  exact ⟨ρ2, h2, x, y, u, rfl, rh2, rv.up rh1 gr2, ru, p2.imp fun d h2 ρ2 H2 _ _ q w rw _ => q w rw⟩
theorem md_append : typeOf (.builtin "list.append") = pure (.type "method_descriptor") := by rfl
theorem md_pop : typeOf (.builtin "list.pop") = pure (.type "method_descriptor") := by rfl
theorem md_index : typeOf (.builtin "list.index") = pure (.type "method_descriptor") := by rfl
theorem md_count : typeOf (.builtin "list.count") = pure (.type "method_descriptor") := by rfl
theorem pe_appM {o e : Expr} {mo me : MSt → M MV} {apos : Pos} (c : Cn g ev X E) (ho : PE X o (T1 g ev E mo)) (he : PE X e (T1 g ev E me)) (hn : notStar e = true) (ho2 : isName o = true) (hline : (apos.endLine == pos.line) = true) :
    PE X (.Call (.Attribute o "append" apos) [e] [] pos) (T1 g ev E fun τ => M.bind (mo τ) fun x => M.bind (lstChk x) fun _ => M.bind (me τ) fun y => appM x y) :=
  pe_mtM c PySem.F.slot_list_append md_append (mt_appM c) ho he hn ho2 hline
theorem pe_popM {o e : Expr} {mo me : MSt → M MV} {apos : Pos} (c : Cn g ev X E) (ho : PE X o (T1 g ev E mo)) (he : PE X e (T1 g ev E me)) (hn : notStar e = true) (ho2 : isName o = true) (hline : (apos.endLine == pos.line) = true) :
    PE X (.Call (.Attribute o "pop" apos) [e] [] pos) (T1 g ev E fun τ => M.bind (mo τ) fun x => M.bind (lstChk x) fun _ => M.bind (me τ) fun y => popM x y) :=
  pe_mtM c PySem.F.slot_list_pop md_pop (mt_popM c) ho he hn ho2 hline
theorem pe_indexM {o e : Expr} {mo me : MSt → M MV} {apos : Pos} (c : Cn g ev X E) (ho : PE X o (T1 g ev E mo)) (he : PE X e (T1 g ev E me)) (hn : notStar e = true) (ho2 : isName o = true) (hline : (apos.endLine == pos.line) = true) :
    PE X (.Call (.Attribute o "index" apos) [e] [] pos) (T1 g ev E fun τ => M.bind (mo τ) fun x => M.bind (lstChk x) fun _ => M.bind (me τ) fun y => indexM x y) :=
  pe_mtM c PySem.F.slot_list_index md_index (mt_indexM c) ho he hn ho2 hline
theorem pe_countM {o e : Expr} {mo me : MSt → M MV} {apos : Pos} (c : Cn g ev X E) (ho : PE X o (T1 g ev E mo)) (he : PE X e (T1 g ev E me)) (hn : notStar e = true) (ho2 : isName o = true) (hline : (apos.endLine == pos.line) = true) :
    PE X (.Call (.Attribute o "count" apos) [e] [] pos) (T1 g ev E fun τ => M.bind (mo τ) fun x => M.bind (lstChk x) fun _ => M.bind (me τ) fun y => countM x y) :=
  pe_mtM c PySem.F.slot_list_count md_count (mt_countM c) ho he hn ho2 hline
/-! ### o[i] = v -/
def rSetM (g : GW) (envs : Fs) (E : XK) : TSet := fun o i v H Q => ∃ ρ h a b d, RepH g envs ρ H h ∧ Rep g envs ρ H a o ∧ Rep g envs ρ H b i ∧ Rep g envs ρ H d v ∧ RPost g envs E ρ H (putM a b d h) (fun _ _ _ H' => Q H')
theorem key_eq {a b : MV} {k q : Key} (h1 : keyRel b q) (hk : keyRel a k) : keyEq b a = decide (q = k) := by
  cases b with
  | int i =>
    cases a with
    | int j => simp only [keyRel] at h1 hk; subst h1 hk; simp [keyEq]
    | str j => simp only [keyRel] at h1 hk; subst h1 hk; simp [keyEq]
    | _ => exact hk.elim
  | str i =>
    cases a with
    | int j => simp only [keyRel] at h1 hk; subst h1 hk; simp [keyEq]
    | str j => simp only [keyRel] at h1 hk; subst h1 hk; simp [keyEq]
    | _ => exact hk.elim
  | _ => exact h1.elim
theorem RepK.length : ∀ {es : List (MV × MV)} {ys : List (Key × V)}, RepK g ev ρ H es ys → es.length = ys.length
  | [], _, h => by simp only [RepK] at h; subst h; rfl
  | (b, x) :: es, _, h => by
    simp only [RepK] at h
    obtain ⟨q, y, zs, rfl, h1, h2, h3, h4⟩ := h
    simp [RepK.length h4]
theorem RepK.any {a : MV} {k : Key} (hk : keyRel a k) : ∀ {es : List (MV × MV)} {ys : List (Key × V)}, RepK g ev ρ H es ys → (es.any fun e => keyEq e.1 a) = ys.any fun kv => decide (kv.1 = k)
  | [], _, h => by simp only [RepK] at h; subst h; rfl
  | (b, x) :: es, _, h => by
    simp only [RepK] at h
    obtain ⟨q, y, zs, rfl, h1, h2, h3, h4⟩ := h
    simp only [List.any_cons, RepK.any hk h4, key_eq h1 hk]
theorem RepK.map {a d : MV} {k : Key} {v : V} (hk : keyRel a k) (r : Rep g ev ρ H d v) (pd : d.plain = true) : ∀ {es : List (MV × MV)} {ys : List (Key × V)}, RepK g ev ρ H es ys →
    RepK g ev ρ H (es.map (fun e => if keyEq e.1 a = true then (e.1, d) else e)) (ys.map (fun kv => if kv.1 = k then (kv.1, v) else kv))
  | [], _, h => by simp only [RepK] at h; subst h; simp [RepK]
  | (b, x) :: es, _, h => by
    simp only [RepK] at h
    obtain ⟨q, y, zs, rfl, h1, h2, h3, h4⟩ := h
    have ih := RepK.map hk r pd h4
    simp only [List.map_cons, key_eq h1 hk, decide_eq_true_eq]
    by_cases e : q = k
    · rw [if_pos e, if_pos e]
      simp only [RepK]
      exact ⟨q, v, _, rfl, h1, r, pd, ih⟩
    · rw [if_neg e, if_neg e]
      simp only [RepK]
      exact ⟨q, y, _, rfl, h1, h2, h3, ih⟩
theorem RepK.app {a d : MV} {k : Key} {v : V} (hk : keyRel a k) (r : Rep g ev ρ H d v) (pd : d.plain = true) : ∀ {es : List (MV × MV)} {ys : List (Key × V)}, RepK g ev ρ H es ys →
    RepK g ev ρ H (es ++ [(a, d)]) (ys ++ [(k, v)])
  | [], _, h => by simp only [RepK] at h; subst h; simp only [List.nil_append, RepK]; exact ⟨k, v, [], rfl, hk, r, pd, rfl⟩
  | (b, x) :: es, _, h => by
    simp only [RepK] at h
    obtain ⟨q, y, zs, rfl, h1, h2, h3, h4⟩ := h
    simp only [List.cons_append, RepK]
    exact ⟨q, y, _, rfl, h1, h2, h3, RepK.app hk r pd h4⟩
theorem put_k {a : MV} {k : Key} {d : MV} {v : V} (hk : keyRel a k) (r : Rep g ev ρ H d v) (pd : d.plain = true) {es : List (MV × MV)} {ys : List (Key × V)} (h : RepK g ev ρ H es ys) :
    RepK g ev ρ H (dput a d es) (putK ys k v) := by
  unfold dput putK
  rw [h.any hk]
  split
  · exact h.map hk r pd
  · exact h.app hk r pd
theorem set_M (c : Cn g ev X E) : PSet X (rSetM g ev E) := by
  intro pins s σ H o i v ov iv u Q I ro ri rv ⟨ρ, h, a, b, d, rh, ra, rb, rd, p⟩
  obtain ⟨pl, p⟩ := rpost_ite p
  obtain ⟨n, ob, r, o', e1, e2, e3, p⟩ := onRef_of p
  obtain ⟨q, rfl, hq⟩ := mut_of ra e1
  have rob := rh.at_ n ob q e2 hq
  cases ob with
  | lst ys =>
    cases b with
    | int k =>
      obtain ⟨j, ek, e3⟩ := Option.map_eq_some_iff.mp e3
      cases e3
      obtain ⟨pls, vs, hv, rvs⟩ := rob
      have ei := int_of rb
      subst ei
      refine thn (set_list pins s σ H _ _ v ov iv u (fun H' => KFree g H' → Q H') I ro ri rv ⟨q, vs, k, j, rfl, rfl, hv, show ixN vs.length k = some j by rw [← rvs.length]; exact ek, fun kf => ?_⟩) fun _ s' ⟨H', I', q⟩ => ⟨H', I', q (Inv.kfree c I')⟩
      obtain ⟨rh2, gr⟩ := chg_lst rh e2 hq kf (ys' := ys.set j d) (plainAll_set pl _ _ pls) (rvs.set rd j)
      exact p ρ _ gr rh2
    | _ => cases e3
  | dct es =>
    simp only at e3
    split at e3
    · rename_i hz
      cases e3
      simp only [Bool.and_eq_true, decide_eq_true_eq] at hz
      obtain ⟨ys, hv, rk⟩ := rob
      obtain ⟨k, ek, hk⟩ := keyR_of hz.1 rb
      subst ek
      have hu := c.room.un
      have hl : es.length = ys.length := rk.length
      refine thn (set_dict (by omega) pins s σ H _ _ v ov iv u (fun H' => KFree g H' → Q H') I ro ri rv ⟨q, _, rfl, DPut.k hv (by rw [sizeLine_eq, ← hl]; omega), fun kf => ?_⟩) fun _ s' ⟨H', I', q⟩ => ⟨H', I', q (Inv.kfree c I')⟩
      have rk2 := put_k hk rd pl rk
      obtain ⟨rh2, gr⟩ := rh.chg (mo' := .dct (dput b d es)) e2 hq kf (.inr ⟨_, rfl⟩) ⟨_, upd_same, rk2.grow rh.mut (grow_chg rh hq) same_env⟩
      exact p ρ _ gr rh2
    · cases e3
end
end Snd

-- Snd11
set_option autoImplicit false
set_option linter.all false
set_option Elab.async false
set_option maxRecDepth 100000
set_option maxHeartbeats 4000000
/-! soundness of M, part 11: what is walked -/
namespace Snd
open PySem PySem.Spec PyProof.Rows L2 MM
def IsC (t : Bool) (h : Heap) (a : Addr) (items : Array Value) : Prop := if t = true then h.IsTuple a items else h.IsList a items
def IsIt (t : Bool) (h : Heap) (it a : Addr) (i : Nat) : Prop := if t = true then h.IsTupleIter it a i else h.IsListIter it a i
def SqX (t : Bool) (K : PySem.W.Frag) (H : Hp) (a : Addr) (vs : List V) : Prop := if t = true then SqT K H a vs else SqL K H a vs
theorem drawsX {prog : Program} {w : World} {A : Around} (t : Bool) (hh : A.handled = none) (it a : Addr) (hne : a ≠ it) (items : Array Value) :
    Draws prog w A it [it, a] items.size (fun i v => items[i]? = some v) (fun i h => IsIt t h it a i ∧ IsC t h a items) := by
  cases t
  · exact Draws.list hh it a hne items
  · exact Draws.tuple hh it a hne items
def itObj (t : Bool) (a : Addr) : Obj := if t = true then { cls := .type "tuple_iterator", data := .fields #[.ref a, .int 0 0] } else { cls := .type "list_iterator", data := .fields #[.ref a, .int 0 0] }
theorem beginsX (t : Bool) (a : Addr) (items : Array Value) : Begins (.ref a) (itObj t a) fun h => IsC t h a items := by
  cases t
  · exact begins_list a items
  · exact begins_tuple a items
theorem IsIt.start {t : Bool} {h : Heap} {it a : Addr} (e : h.get? it = some (itObj t a)) : IsIt t h it a 0 := by
  cases t
  · exact ⟨_, e, rfl, rfl⟩
  · exact ⟨_, e, rfl, rfl⟩
theorem IsIt.get {t : Bool} {h : Heap} {it a : Addr} {i : Nat} (x : IsIt t h it a i) : ∃ o, h.get? it = some o ∧ ∀ v, o.data ≠ .cell v := by
  cases t
  · obtain ⟨o, e, c, d⟩ := (show h.IsListIter it a i from x); exact ⟨o, e, fun v z => by rw [d] at z; cases z⟩
  · obtain ⟨o, e, c, d⟩ := (show h.IsTupleIter it a i from x); exact ⟨o, e, fun v z => by rw [d] at z; cases z⟩
theorem IsIt.at {t : Bool} {h h' : Heap} {it a : Addr} {i : Nat} (x : IsIt t h it a i) (k : ∀ o, h.get? it = some o → h'.get? it = some o) : IsIt t h' it a i := by
  cases t
  · exact Heap.IsListIter.at (show h.IsListIter it a i from x) k
  · exact Heap.IsTupleIter.at (show h.IsTupleIter it a i from x) k
theorem IsC.get {t : Bool} {h : Heap} {a : Addr} {items : Array Value} (x : IsC t h a items) : ∃ o, h.get? a = some o := by
  cases t
  · obtain ⟨o, e, _⟩ := (show h.IsList a items from x); exact ⟨o, e⟩
  · obtain ⟨o, e, _⟩ := (show h.IsTuple a items from x); exact ⟨o, e⟩
section
variable {X : Cx} {pins : List (Addr × Obj)} {σ : St} {H : Hp} {s : Shared}
theorem Inv.colX {t : Bool} {a : Addr} {vs : List V} (I : Inv X pins σ H s) (h : SqX t X.K H a vs) : ∃ its : List Value, Vals vs its ∧ IsC t s.heap a its.toArray ∧ vs.length ≤ sizeLine := by
  cases t
  · obtain ⟨its, rv, p, hz⟩ := I.list (show SqL X.K H a vs from h)
    exact ⟨its, rv, p.isList, hz⟩
  · obtain ⟨its, rv, p, hz⟩ := I.tuple (show SqT X.K H a vs from h)
    exact ⟨its, rv, p, hz⟩
end
theorem vals_get {vs : List V} {us : List Value} {i : Nat} {u : Value} (rv : Vals vs us) (h : us[i]? = some u) : ∃ x, vs[i]? = some x ∧ RelV x u := by
  have hl := rv.length
  obtain ⟨hi, _⟩ := List.getElem?_eq_some_iff.mp h
  have hv : vs[i]? = some vs[i] := List.getElem?_eq_getElem (by omega)
  obtain ⟨w, hw, r⟩ := rv.get hv
  rw [h] at hw
  cases hw
  exact ⟨_, hv, r⟩
/-- enumerate: the items in new pairs -/
def ItE (t : Bool) (K : PySem.W.Frag) (a : Addr) (vs : List V) : It :=
  ⟨fun i H => i < vs.length ∧ SqX t K H a vs, fun i H v H' => ∃ T x, v = .ref T ∧ H T = none ∧ H' = upd H T (.tup [.int (i : Nat), x]) ∧ vs[i]? = some x, fun i H => i = vs.length ∧ SqX t K H a vs⟩
theorem turn_enumX {P : Program} {w : World} {K : PySem.W.Frag} {elts : List Expr} {kk : Nat} {tpos : Pos} (t : Bool) (a e it : Addr) (vs : List V) (hei : e ≠ it) (hea : e ≠ a) (hai : a ≠ it) :
    Turn P w K (.Tuple elts kk tpos) (ItE t K a vs) [e, it] e (fun i h => (∃ old, IsEnum h e it (0 + (i : Int)) old) ∧ IsIt t h it a i) where
  mem := by simp
  obj := fun i h st b hb => by
    obtain ⟨⟨old, he⟩, hi⟩ := st
    have e' : b = e ∨ b = it := by simpa using hb
    rcases e' with z | z
    · rw [z]; exact ⟨_, he, fun v q => nomatch q⟩
    · rw [z]; exact hi.get
  keep := fun i h h' st k => let ⟨⟨old, he⟩, hi⟩ := st; ⟨⟨old, k e (by simp) _ he⟩, hi.at fun o q => k it (by simp) o q⟩
  item := by
    intro X hP hw hK hc i pins s σ H E I hf st hg
    subst hP hw hK
    obtain ⟨hlt, hq⟩ := hg
    obtain ⟨its, rv, p, hz⟩ := Inv.colX I hq
    have hl := rv.length
    refine (GoesN.enumFrom 0 (drawsX t (show X.A.in1.handled = none from I.ok.hd hc) it a hai its.toArray) e hei (by simp [hei, hea]) (by simp)).goes i s _ E (by simp; omega) ⟨st.1, st.2, p⟩ fun v h' tk hY st' hk htk => ?_
    obtain ⟨T, tk2, u, ev, hT, hu, hT2⟩ := hY
    obtain ⟨x, hx, ru⟩ := vals_get rv (show its[i]? = some u by simpa using hu)
    subst ev
    have new : ObjOk X.prog X.w (upd H T (.tup [.int (i : Nat), x])) h' T (.tup [.int (i : Nat), x]) :=
      ⟨by show 2 ≤ sizeLine; decide, [.int (0 + (i : Int)) tk2, u], .cons ⟨_, by rw [Int.zero_add]⟩ (.cons ru .nil), hT2⟩
    have I1 : Inv X pins σ (upd H T (.tup [.int (i : Nat), x])) { s with heap := h', toks := tk } := I.turnedNew (ch := [e, it]) hk hf hT new
    refine ⟨.ref T, _, I1, rfl, ⟨T, x, rfl, I.hok.fresh hT, rfl, hx⟩, ⟨st'.1, st'.2.1⟩, fun b hb => ?_⟩
    have hb' : b < s.heap.objs.size := by
      have e' : b = e ∨ b = it := by simpa using hb
      rcases e' with z | z
      · obtain ⟨⟨old, he⟩, _⟩ := st; rw [z]; exact Heap.lt_size he
      · obtain ⟨_, hi⟩ := st; obtain ⟨o, ho, _⟩ := hi.get; rw [z]; exact Heap.lt_size ho
    rw [upd_ne (Nat.ne_of_lt (Nat.lt_of_lt_of_le hb' hT))]
    exact (hf b hb).1
  done := by
    intro X hP hw hK hc i pins s σ H E I hf st hg
    subst hP hw hK
    obtain ⟨hlt, hq⟩ := hg
    obtain ⟨its, rv, p, hz⟩ := Inv.colX I hq
    have hl := rv.length
    have hi : i = its.toArray.size := by simp; omega
    subst hi
    exact (GoesN.enumFrom (elts := elts) (x1 := kk) (pos := tpos) 0 (drawsX t (show X.A.in1.handled = none from I.ok.hd hc) it a hai its.toArray) e hei (by simp [hei, hea]) (by simp)).stops s _ E ⟨st.1, st.2, p⟩ fun h' tk hk htk => I.turnedL (ch := [e, it]) hk hf
  self := fun A i s Q E st h => let ⟨⟨_, he⟩, _⟩ := st; wpAny_pyIter_enum he h
/-- zip of two -/
def ItZ2 (t1 t2 : Bool) (K : PySem.W.Frag) (a b : Addr) (vs ws : List V) : It :=
  ⟨fun i H => i < min vs.length ws.length ∧ SqX t1 K H a vs ∧ SqX t2 K H b ws, fun i H v H' => ∃ T x y, v = .ref T ∧ H T = none ∧ H' = upd H T (.tup [x, y]) ∧ vs[i]? = some x ∧ ws[i]? = some y, fun i H => i = min vs.length ws.length ∧ SqX t1 K H a vs ∧ SqX t2 K H b ws⟩
theorem turn_zip2X {P : Program} {w : World} {K : PySem.W.Frag} {elts : List Expr} {kk : Nat} {tpos : Pos} (t1 t2 : Bool) (a b z TI TO i1 i2 : Addr) (vs ws : List V) (S : ZipSep2 z TI TO i1 i2 [i1, a] [i2, b]) (h1 : a ≠ i1) (h2 : b ≠ i2) :
    Turn P w K (.Tuple elts kk tpos) (ItZ2 t1 t2 K a b vs ws) [z, TI, TO, i1, i2] z (fun i h => IsZip h z TI TO .none ∧ IsTupOf2 h TI (.ref i1) (.ref i2) ∧ (∃ a1 a2, IsTupOf2 h TO a1 a2) ∧ IsIt t1 h i1 a i ∧ IsIt t2 h i2 b i) where
  mem := by simp
  obj := fun i h st c hc => by
    obtain ⟨hz, hTI, ⟨x, y, hTO⟩, hi1, hi2⟩ := st
    have e' : c = z ∨ c = TI ∨ c = TO ∨ c = i1 ∨ c = i2 := by simpa using hc
    rcases e' with q | q | q | q | q
    · rw [q]; exact ⟨_, hz, fun v q => nomatch q⟩
    · rw [q]; exact ⟨_, hTI, fun v q => nomatch q⟩
    · rw [q]; exact ⟨_, hTO, fun v q => nomatch q⟩
    · rw [q]; exact hi1.get
    · rw [q]; exact hi2.get
  keep := fun i h h' st k => by
    obtain ⟨hz, hTI, ⟨x, y, hTO⟩, hi1, hi2⟩ := st
    exact ⟨k z (by simp) _ hz, k TI (by simp) _ hTI, ⟨x, y, k TO (by simp) _ hTO⟩, hi1.at fun o q => k i1 (by simp) o q, hi2.at fun o q => k i2 (by simp) o q⟩
  item := by
    intro X hP hw hK hc i pins s σ H E I hf st hg
    subst hP hw hK
    obtain ⟨hlt, hq, hq2⟩ := hg
    obtain ⟨its, rv, p, hz⟩ := Inv.colX I hq
    obtain ⟨its2, rv2, p2, hz2⟩ := Inv.colX I hq2
    have hl := rv.length
    have hl2 := rv2.length
    obtain ⟨st1, st2, st3, st4, st5⟩ := st
    refine (GoesN.zip2 S (drawsX t1 (show X.A.in1.handled = none from I.ok.hd hc) i1 a h1 its.toArray) (drawsX t2 (show X.A.in1.handled = none from I.ok.hd hc) i2 b h2 its2.toArray)).goes i s _ E (by simp; omega) ⟨st1, st2, st3, ⟨st4, p⟩, st5, p2⟩ fun v h' tk hY st' hk htk => ?_
    obtain ⟨T, u, u2, ev, hT, hu, hu2, hT2⟩ := hY
    obtain ⟨x, hx, ru⟩ := vals_get rv (show its[i]? = some u by simpa using hu)
    obtain ⟨y, hy, ru2⟩ := vals_get rv2 (show its2[i]? = some u2 by simpa using hu2)
    subst ev
    have new : ObjOk X.prog X.w (upd H T (.tup [x, y])) h' T (.tup [x, y]) :=
      ⟨by show 2 ≤ sizeLine; decide, [u, u2], .cons ru (.cons ru2 .nil), hT2⟩
    have I1 : Inv X pins σ (upd H T (.tup [x, y])) { s with heap := h', toks := tk } := I.turnedNew (ch := [z, TI, TO, i1, i2]) (fun c o hc q => hk c o (fun hm => hc (by
      have : c = z ∨ c = TO ∨ c = i1 ∨ c = i2 := by simpa using hm
      rcases this with q | q | q | q <;> (rw [q]; simp))) q) hf hT new
    obtain ⟨s1, s2, s3, s4, s5⟩ := st'
    refine ⟨.ref T, _, I1, rfl, ⟨T, x, y, rfl, I.hok.fresh hT, rfl, hx, hy⟩, ⟨s1, s2, s3, s4.1, s5.1⟩, fun c hb => ?_⟩
    have hb' : c < s.heap.objs.size := by
      have e' : c = z ∨ c = TI ∨ c = TO ∨ c = i1 ∨ c = i2 := by simpa using hb
      obtain ⟨_, _, st3⟩ := st3
      rcases e' with q | q | q | q | q
      · rw [q]; exact Heap.lt_size st1
      · rw [q]; exact Heap.lt_size st2
      · rw [q]; exact Heap.lt_size st3
      · obtain ⟨o, ho, _⟩ := st4.get; rw [q]; exact Heap.lt_size ho
      · obtain ⟨o, ho, _⟩ := st5.get; rw [q]; exact Heap.lt_size ho
    rw [upd_ne (Nat.ne_of_lt (Nat.lt_of_lt_of_le hb' hT))]
    exact (hf c hb).1
  done := by
    intro X hP hw hK hc i pins s σ H E I hf st hg
    subst hP hw hK
    obtain ⟨hlt, hq, hq2⟩ := hg
    obtain ⟨its, rv, p, hz⟩ := Inv.colX I hq
    obtain ⟨its2, rv2, p2, hz2⟩ := Inv.colX I hq2
    have hl := rv.length
    have hl2 := rv2.length
    have hi : i = min its.toArray.size its2.toArray.size := by simp; omega
    subst hi
    obtain ⟨st1, st2, st3, st4, st5⟩ := st
    exact (GoesN.zip2 (elts := elts) (x1 := kk) (pos := tpos) S (drawsX t1 (show X.A.in1.handled = none from I.ok.hd hc) i1 a h1 its.toArray) (drawsX t2 (show X.A.in1.handled = none from I.ok.hd hc) i2 b h2 its2.toArray)).stops s _ E ⟨st1, st2, st3, ⟨st4, p⟩, st5, p2⟩
      fun h' tk hk htk => I.turnedL (ch := [z, TI, TO, i1, i2]) (fun c o hc q => hk c o (fun hm => hc (by
      have : c = z ∨ c = TO ∨ c = i1 ∨ c = i2 := by simpa using hm
      rcases this with q | q | q | q <;> (rw [q]; simp))) q) hf
  self := fun A i s Q E st h => wpAny_pyIter_zip st.1 h
theorem meets_enum1 {v : Value} {o : Obj} {H : Heap → Prop} (B : Begins v o H) :
    Meets (Builtin.«enumerate.__new__» ⟨[.type "enumerate", v], []⟩) (fun _ R s => H s.heap ∧
      R (.ok (.ret (.ref (s.heap.push o).objs.size))) { s with heap := (s.heap.push o).push { cls := .type "enumerate", data := .fields #[.none, .bool false, .ref s.heap.objs.size, rawInt 0, .none, .none] } }) :=
  .of_wp fun prog w A R s h => by
    obtain ⟨hp, g, d, tk, os⟩ := s; obtain ⟨h1, h⟩ := h
    have hsub := sub_enumerate
    have q1 : ∀ {A' : Around} {E : Value → Shared → Prop} {Q : Value → Shared → Prop}, Q (.ref hp.objs.size) ⟨hp.push o, g, d, tk, os⟩ → wpAny (model prog w) A' (pyIter v) Q E ⟨hp, g, d, tk, os⟩ :=
      fun q => B.iter prog w _ _ ⟨hp, g, d, tk, os⟩ _ h1 q
    wp_walk using q1
    refine wpAny_stack_any fun st => wpAny_pure ?_
    split
    · rename_i c _ _ _ _ _
      cases (c == Value.type "enumerate")
      · wp_walk using q1
        exact ⟨_, rfl, h⟩
      · wp_walk using q1
        exact ⟨_, rfl, h⟩
    · wp_walk using q1
      exact ⟨_, rfl, h⟩
theorem enum_begins1 {prog : Program} {w : World} {A : Around} {E : Value → Shared → Prop} {s : Shared} {v : Value} {o : Obj} {H : Heap → Prop} {Q : Value → Shared → Prop} (B : Begins v o H) (h1 : H s.heap)
    (h : ∀ h', IsEnum h' (s.heap.objs.size + 1) s.heap.objs.size 0 .none → h'.get? s.heap.objs.size = some o → (∀ b o, s.heap.get? b = some o → h'.get? b = some o) → Q (.ref (s.heap.objs.size + 1)) { s with heap := h' }) :
    wpAny (model prog w) A (call (.type "enumerate") [v]) Q E s := by
  refine callType_new F.called_enumerate (by decide) (F.typeCall_enumerate_1 _) (F.newCall_enumerate_1 _) (fun obj => F.args_object_init_2 obj _) F.entry_enumerate_new
    (meets_enum1 B) ⟨h1, ?_⟩
  have hz : (s.heap.push o).objs.size = s.heap.objs.size + 1 := Heap.size_push ..
  show _ ∧ _
  rw [hz]
  have he : IsEnum ((s.heap.push o).push { cls := .type "enumerate", data := .fields #[.none, .bool false, .ref s.heap.objs.size, rawInt 0, .none, .none] }) (s.heap.objs.size + 1) s.heap.objs.size 0 .none := by
    have := Heap.get?_push_size (s.heap.push o) (o := { cls := .type "enumerate", data := .fields #[.none, .bool false, .ref s.heap.objs.size, rawInt 0, .none, .none] }) rfl
    rw [hz] at this; exact this
  exact ⟨⟨_, he, rfl⟩, h _ he (Heap.get?_push_of_some _ (Heap.get?_push_size _ B.free)) fun b o x => Heap.get?_push_of_some _ (Heap.get?_push_of_some _ x)⟩
/-! ### as expressions -/
section
variable {X : Cx} {tg : Expr} {pos : Pos}
def iEnX (K : PySem.W.Frag) (ta : TA) : TI := fun σ H R => ta σ H fun vs H1 => ∃ t a xs, vs = [.ref a] ∧ SqX t K H1 a xs ∧ R (ItE t K a xs) H1
theorem pi_enX {e : Expr} {ta : TA} {p tpos : Pos} {elts : List Expr} {kk : Nat} (hg : Gl X "enumerate") (hm : X.mg "enumerate" = none) (ha : PA X [e] ta) (hs : starEach [e] X.env = [(false, eval e X.env)]) :
    PI X (.Tuple elts kk tpos) (.Call (.Name "enumerate" p) [e] [] pos) (iEnX X.K ta) := by
  refine ⟨fun pins s σ H R I h => ?_⟩
  refine Call_ (ld_blt I hg hm boot_enumerate (PyProof.Rows.callWith_type1 (thn (ha.run pos pins s σ H _ I h) fun us s1 ⟨vs, H1, I1, r1, q1⟩ => ?_) hs rfl))
  obtain ⟨t, a, xs, ex, hq, q⟩ := q1
  subst ex
  cases r1 with
  | cons r rr =>
    cases rr
    cases r
    obtain ⟨its, rv, p', hz⟩ := Inv.colX I1 hq
    obtain ⟨oa, hoa⟩ := p'.get
    have la : a < s1.heap.objs.size := Heap.lt_size hoa
    refine enum_begins1 (beginsX t a its.toArray) p' fun h' he hit hk => wpAny_pyIter_enum he ?_
    have I2 : Inv X pins σ H1 { s1 with heap := h' } := I1.kept (t' := s1.toks) hk
    refine ⟨s1.heap.objs.size + 1, [s1.heap.objs.size + 1, s1.heap.objs.size], _, _, H1, rfl, I2, turn_enumX t a (s1.heap.objs.size + 1) s1.heap.objs.size xs (Nat.succ_ne_self _) (Nat.ne_of_gt (Nat.lt_succ_of_lt la)) (Nat.ne_of_lt la), ⟨⟨.none, he⟩, IsIt.start hit⟩, fun b hb => ?_, q⟩
    have e' : b = s1.heap.objs.size + 1 ∨ b = s1.heap.objs.size := by simpa using hb
    have hle : s1.heap.objs.size ≤ b := by
      rcases e' with z | z
      · rw [z]; exact Nat.le_add_right _ _
      · rw [z]; exact Nat.le_refl _
    exact I1.fpOk hle (I1.hok.fresh hle)
def iZ2X (K : PySem.W.Frag) (ta : TA) : TI := fun σ H R => ta σ H fun vs H1 => ∃ t1 t2 a b xs ys, vs = [.ref a, .ref b] ∧ SqX t1 K H1 a xs ∧ SqX t2 K H1 b ys ∧ R (ItZ2 t1 t2 K a b xs ys) H1
theorem pi_z2X {e e2 : Expr} {ta : TA} {p tpos : Pos} {elts : List Expr} {kk : Nat} (hg : Gl X "zip") (hm : X.mg "zip" = none) (ha : PA X [e, e2] ta)
    (hs : starEach [e, e2] X.env = (false, eval e X.env) :: starEach [e2] X.env) (hpl : (backTo pos (starEach [e2] X.env)).any (·.1) = false) :
    PI X (.Tuple elts kk tpos) (.Call (.Name "zip" p) [e, e2] [] pos) (iZ2X X.K ta) := by
  refine ⟨fun pins s σ H R I h => ?_⟩
  refine Call_ (ld_blt I hg hm PyProof.Rows.boot_zip (PyProof.Rows.callWith_type1 (thn (ha.run pos pins s σ H _ I h) fun us s1 ⟨vs, H1, I1, r1, q1⟩ => ?_) hs hpl))
  obtain ⟨t1, t2, a, b, xs, ys, ex, hqx, hqy, q⟩ := q1
  subst ex
  cases r1 with
  | cons r rr =>
    cases rr with
    | cons r' rr =>
      cases rr
      cases r
      cases r'
      obtain ⟨its, rv, p1, _⟩ := Inv.colX I1 hqx
      obtain ⟨its2, rv2, p2, _⟩ := Inv.colX I1 hqy
      obtain ⟨oa, hoa⟩ := p1.get
      obtain ⟨ob, hob⟩ := p2.get
      have la : a < s1.heap.objs.size := Heap.lt_size hoa
      have lb : b < s1.heap.objs.size := Heap.lt_size hob
      refine zip_begins2 (beginsX t1 a its.toArray) (beginsX t2 b its2.toArray) p1 p2 fun h' hz hTI hTO h1 h2 hsz hk => wpAny_pyIter_zip hz ?_
      have I2 : Inv X pins σ H1 { s1 with heap := h' } := I1.kept (t' := s1.toks) hk
      refine ⟨s1.heap.objs.size + 4, [s1.heap.objs.size + 4, s1.heap.objs.size + 2, s1.heap.objs.size + 3, s1.heap.objs.size, s1.heap.objs.size + 1], _, _, H1, rfl, I2,
        turn_zip2X t1 t2 a b _ _ _ _ _ xs ys (zip_sep2 (fp1 := [a]) (fp2 := [b]) (by simpa using la) (by simpa using lb)) (Nat.ne_of_lt la) (Nat.ne_of_lt (Nat.lt_succ_of_lt lb)), ⟨hz, hTI, ⟨_, _, hTO⟩, IsIt.start h1, IsIt.start h2⟩, fun c hcm => ?_, q⟩
      have e' : c = s1.heap.objs.size + 4 ∨ c = s1.heap.objs.size + 2 ∨ c = s1.heap.objs.size + 3 ∨ c = s1.heap.objs.size ∨ c = s1.heap.objs.size + 1 := by simpa using hcm
      have hle : s1.heap.objs.size ≤ c := by
        rcases e' with z | z | z | z | z
        · rw [z]; exact Nat.le_add_right _ _
        · rw [z]; exact Nat.le_add_right _ _
        · rw [z]; exact Nat.le_add_right _ _
        · rw [z]; exact Nat.le_refl _
        · rw [z]; exact Nat.le_add_right _ _
      exact I1.fpOk hle (I1.hok.fresh hle)
end
end Snd

-- Snd12
set_option autoImplicit false
set_option linter.all false
set_option Elab.async false
set_option maxRecDepth 100000
set_option maxHeartbeats 4000000
/-! soundness of M, part 12: iterables and targets -/
namespace Snd
open PySem PySem.Spec PyProof.Rows L2 MM
/-- J serves the data ds -/
structure Srv (g : GW) (envs : Fs) (J : It) (ρ0 : List Addr) (H0 : Hp) (ds : List MV) : Prop where
  go : ∀ (g' : GW) (ρ : List Addr) (H : Hp) (h : MH) (i : Nat) (d : MV), Grow g ρ0 H0 ρ H → (∀ d v, Rep g envs ρ0 H0 d v → Rep g' envs ρ H d v) → RepH g' envs ρ H h → ds[i]? = some d → J.go i H ∧ ∀ x H', J.yld i H x H' → (∀ b o, H b = some o → H' b = some o) ∧ Rep g' envs ρ H' d x
  stop : ∀ (ρ : List Addr) (H : Hp), Grow g ρ0 H0 ρ H → J.stop ds.length H
def tI (g : GW) (envs : Fs) (E : XK) (m : MSt → M (List MV)) : TI := fun σ H R => ∃ ρ τ h, RepS g envs ρ H τ σ ∧ RepH g envs ρ H h ∧ RPost g envs E ρ H (m τ h) (fun ds _ ρ' H' => ∀ J, Srv g envs J ρ' H' ds → R J H')
section
variable {g : GW} {ev : Fs} {X : Cx} {E : XK} {pins : List (Addr × Obj)} {σ : St} {H H0 : Hp} {s : Shared} {ρ ρ0 : List Addr} {h h0 : MH} {pos : Pos} {tg : Expr}
theorem PI.via {e : Expr} {t t' : TI} (c : Cn g ev X E) (hh : PI X tg e t) (i : ∀ σ H R, t' σ H R → t σ H (fun J H' => KFree g H' → R J H')) : PI X tg e t' :=
  ⟨fun pins s σ H R I hw => thn (hh.run pins s σ H _ I (i σ H R hw)) fun v s1 h1 => thn h1 fun u s2 ⟨it, fp, tn, J, H', e, I', T, st, f, q⟩ => ⟨it, fp, tn, J, H', e, I', T, st, f, q (Inv.kfree c I')⟩⟩
theorem Reps.tr {g' : GW} (tr : ∀ d v, Rep g ev ρ0 H0 d v → Rep g' ev ρ H d v) : ∀ (ds : List MV) (vs : List V), Reps g ev ρ0 H0 ds vs → Reps g' ev ρ H ds vs
  | [], _, h => by simpa [Reps] using h
  | x :: xs, vs, h => by
    simp only [Reps] at h ⊢
    obtain ⟨y, ys, rfl, h1, h2⟩ := h
    exact ⟨y, ys, rfl, tr _ _ h1, Reps.tr tr xs ys h2⟩
/-- a list or a tuple -/
def iSeqX (K : PySem.W.Frag) (te : TE) : TI := fun σ H R => te σ H fun v H1 => ∃ t a xs, v = .ref a ∧ SqX t K H1 a xs ∧ R (if t = true then Itt K a else Itl K a) H1
theorem pi_seqX {e : Expr} {te : TE} (he : PE X e te) : PI X tg e (iSeqX X.K te) := by
  refine ⟨fun pins s σ H R I h => ?_⟩
  refine thn (he.run pins s σ H _ I h) fun v s1 ⟨x, H1, I1, r1, t, a, xs, e, hq, q⟩ => ?_
  subst e
  cases r1
  have fin : ∀ (b : Addr), b ∈ [s1.heap.objs.size] → FpOk X pins H1 b := fun b hb => by
    have e : b = s1.heap.objs.size := by simpa using hb
    subst e
    exact I1.fpOk (Nat.le_refl _) (I1.hok.fresh (Nat.le_refl _))
  cases t with
  | false =>
    obtain ⟨its, rv, p, hz⟩ := I1.list (show SqL X.K H1 a xs from hq)
    refine wpAny_pyIter_list p.isList ?_
    exact ⟨s1.heap.objs.size, [s1.heap.objs.size], _, _, H1, rfl, I1.kept (t' := s1.toks) fun b o e => Heap.get?_push_of_some _ e, turn_list a _, ⟨_, Heap.get?_push_size _ rfl, rfl, rfl⟩, fin, q⟩
  | true =>
    obtain ⟨its, rv, p, hz⟩ := I1.tuple (show SqT X.K H1 a xs from hq)
    refine wpAny_pyIter_tuple (show s1.heap.IsTuple a its.toArray from p) ?_
    exact ⟨s1.heap.objs.size, [s1.heap.objs.size], _, _, H1, rfl, I1.kept (t' := s1.toks) fun b o e => Heap.get?_push_of_some _ e, turn_tuple a _, ⟨_, Heap.get?_push_size _ rfl, rfl, rfl⟩, fin, q⟩
/-- a frozen sequence's object -/
theorem items_of {d : MV} {ds : List MV} {v : V} (r : Rep g ev ρ H d v) (e : items d = some ds) : ∃ t a vs, v = .ref a ∧ SqX t g.K H a vs ∧ Reps g ev ρ H ds vs ∧ (t = false → H a = some (.lst vs) ∧ NoM g ρ a) := by
  cases d with
  | list xs =>
    cases e
    obtain ⟨a, vs, rfl, h1, h2, h3⟩ := lst_of r
    exact ⟨false, a, vs, rfl, SqL.of h1, h3, fun _ => ⟨h1, h2⟩⟩
  | tuple xs =>
    cases e
    obtain ⟨a, vs, rfl, h1, h3⟩ := tup_of r
    exact ⟨true, a, vs, rfl, h1, h3, fun z => by cases z⟩
  | _ => cases e
theorem SqX.grow {t : Bool} {a : Addr} {vs : List V} (m : MutOk ρ0 H0) (gr : Grow g ρ0 H0 ρ H) (hq : SqX t g.K H0 a vs) (hl : t = false → H0 a = some (.lst vs) ∧ NoM g ρ0 a) : SqX t g.K H a vs := by
  cases t with
  | false => exact SqL.of (lst.grow (hl rfl).2 gr (hl rfl).1).1
  | true => exact SqT.grow m gr hq
theorem SqX.inj (c : Cn g ev X E) : True := trivial
theorem srv_seq {t : Bool} {a : Addr} {vs : List V} {ds : List MV} (rh0 : RepH g ev ρ0 H0 h0) (hq : SqX t g.K H0 a vs) (r : Reps g ev ρ0 H0 ds vs) (hl : t = false → H0 a = some (.lst vs) ∧ NoM g ρ0 a) : Srv g ev (if t = true then Itt g.K a else Itl g.K a) ρ0 H0 ds where
  go := fun g' ρ H h i d gr tr rh e => by
    obtain ⟨v, hv, rv⟩ := (Reps.tr tr _ _ r).get e
    have q := SqX.grow rh0.mut gr hq hl
    cases t with
    | false => exact ⟨⟨vs, v, q, hv⟩, fun x H' ⟨e1, e2⟩ => by
        subst e1
        have := e2 vs q
        rw [hv] at this; cases this
        exact ⟨fun _ _ h => h, rv⟩⟩
    | true => exact ⟨⟨vs, v, q, hv⟩, fun x H' ⟨e1, e2⟩ => by
        subst e1
        have := e2 vs q
        rw [hv] at this; cases this
        exact ⟨fun _ _ h => h, rv⟩⟩
  stop := fun ρ H gr => by
    have q := SqX.grow rh0.mut gr hq hl
    have hlen := r.length
    cases t with
    | false => exact ⟨vs, q, by omega⟩
    | true => exact ⟨vs, q, by omega⟩
theorem enumL_get : ∀ (k : Nat) (xs : List MV) (i : Nat), (enumL k xs)[i]? = (xs[i]?).map fun x => .tuple [.int ((k + i : Nat) : Int), x]
  | k, [], i => by simp [enumL]
  | k, x :: r, 0 => by simp [enumL]
  | k, x :: r, i + 1 => by
    simp only [enumL, List.getElem?_cons_succ, enumL_get (k + 1) r i]
    have : k + 1 + i = k + (i + 1) := by omega
    rw [this]
theorem enumL_length : ∀ (k : Nat) (xs : List MV), (enumL k xs).length = xs.length
  | _, [] => rfl
  | k, x :: r => by simp [enumL, enumL_length (k + 1) r]
theorem rep_two {T : Addr} {x y : MV} {v w : V} (hT : H T = some (.tup [v, w])) (rx : Rep g ev ρ H x v) (ry : Rep g ev ρ H y w) : Rep g ev ρ H (.tuple [x, y]) (.ref T) := by
  simp only [Rep, Reps]
  exact ⟨T, [v, w], rfl, .inl (.inl hT), v, [w], rfl, rx, w, [], rfl, ry, rfl⟩
theorem srv_enum {t : Bool} {a : Addr} {vs : List V} {ds : List MV} (rh0 : RepH g ev ρ0 H0 h0) (hq : SqX t g.K H0 a vs) (r : Reps g ev ρ0 H0 ds vs) (hl : t = false → H0 a = some (.lst vs) ∧ NoM g ρ0 a) : Srv g ev (ItE t g.K a vs) ρ0 H0 (enumL 0 ds) where
  go := fun g' ρ H h i d gr tr rh e => by
    rw [enumL_get] at e
    obtain ⟨x, ex, ed⟩ := Option.map_eq_some_iff.mp e
    obtain ⟨v, hv, rv⟩ := (Reps.tr tr _ _ r).get ex
    have q := SqX.grow rh0.mut gr hq hl
    refine ⟨⟨(List.getElem?_eq_some_iff.mp hv).1, q⟩, fun u H' ⟨T, y, e1, e2, e3, e4⟩ => ?_⟩
    rw [hv] at e4; cases e4
    subst ed e1 e3
    refine ⟨ext_upd e2, rep_two upd_same (by rw [Nat.zero_add]; exact rep_int) (rv.up rh (Grow.ext (ext_upd e2)))⟩
  stop := fun ρ H gr => ⟨by rw [enumL_length]; exact r.length, SqX.grow rh0.mut gr hq hl⟩
theorem zipL_get : ∀ (xs ys : List MV) (i : Nat) (d : MV), (zipL xs ys)[i]? = some d → ∃ x y, xs[i]? = some x ∧ ys[i]? = some y ∧ d = .tuple [x, y]
  | [], _, i, d, h => by simp [zipL] at h
  | x :: xs, [], i, d, h => by simp [zipL] at h
  | x :: xs, y :: ys, 0, d, h => by simp [zipL] at h; exact ⟨x, y, rfl, rfl, h.symm⟩
  | x :: xs, y :: ys, i + 1, d, h => by simp [zipL] at h; simpa using zipL_get xs ys i d h
theorem zipL_length : ∀ (xs ys : List MV), (zipL xs ys).length = min xs.length ys.length
  | [], _ => by simp [zipL]
  | x :: xs, [] => by simp [zipL]
  | x :: xs, y :: ys => by simp [zipL, zipL_length xs ys]
theorem srv_zip {t1 t2 : Bool} {a b : Addr} {vs ws : List V} {ds es : List MV} (rh0 : RepH g ev ρ0 H0 h0) (hq : SqX t1 g.K H0 a vs) (r : Reps g ev ρ0 H0 ds vs) (hl : t1 = false → H0 a = some (.lst vs) ∧ NoM g ρ0 a)
    (hq2 : SqX t2 g.K H0 b ws) (r2 : Reps g ev ρ0 H0 es ws) (hl2 : t2 = false → H0 b = some (.lst ws) ∧ NoM g ρ0 b) : Srv g ev (ItZ2 t1 t2 g.K a b vs ws) ρ0 H0 (zipL ds es) where
  go := fun g' ρ H h i d gr tr rh e => by
    obtain ⟨x, y, ex, ey, ed⟩ := zipL_get _ _ _ _ e
    obtain ⟨v, hv, rv⟩ := (Reps.tr tr _ _ r).get ex
    obtain ⟨w, hw, rw'⟩ := (Reps.tr tr _ _ r2).get ey
    have l1 := (List.getElem?_eq_some_iff.mp hv).1
    have l2 := (List.getElem?_eq_some_iff.mp hw).1
    refine ⟨⟨by omega, SqX.grow rh0.mut gr hq hl, SqX.grow rh0.mut gr hq2 hl2⟩, fun u H' ⟨T, y1, y2, e1, e2, e3, e4, e5⟩ => ?_⟩
    rw [hv] at e4; cases e4
    rw [hw] at e5; cases e5
    subst ed e1 e3
    have gr' := Grow.ext (g := g') (ρ := ρ) (ext_upd (o := .tup [v, w]) e2)
    exact ⟨ext_upd e2, rep_two upd_same (rv.up rh gr') (rw'.up rh gr')⟩
  stop := fun ρ H gr => ⟨by rw [zipL_length, r.length, r2.length], SqX.grow rh0.mut gr hq hl, SqX.grow rh0.mut gr hq2 hl2⟩
theorem srv_range {lo : Int} {n : Nat} : Srv g ev (Itr lo n) ρ0 H0 (rangeL lo n) where
  go := fun g' ρ H h i d gr tr rh e => by
    have hi : i < n := by have := (List.getElem?_eq_some_iff.mp e).1; simpa [rangeL] using this
    refine ⟨hi, fun x H' ⟨e1, e2⟩ => ?_⟩
    subst e1 e2
    have : d = .int (lo + i) := by simp [rangeL, hi] at e; exact e.symm
    subst this
    exact ⟨fun _ _ h => h, rep_int⟩
  stop := fun ρ H gr => by show n ≤ _; simp [rangeL]
/-! the rules -/
theorem pi_seqM {e : Expr} {m : MSt → M MV} (c : Cn g ev X E) (he : PE X e (T1 g ev E m)) : PI X tg e (tI g ev E fun τ => M.bind (m τ) fun v => opt (items v)) := by
  refine PI.via c (pi_seqX he) fun σ H R ⟨ρ, τ, h, rs, rh, p⟩ => ?_
  rw [c.hK]
  refine ⟨ρ, τ, h, rs, rh, p.bind.imp fun d h1 ρ1 H1 gr rh1 q v rv => ?_⟩
  obtain ⟨ds, e, q⟩ := rpost_opt q
  obtain ⟨t, a, vs, rfl, hq, r, hl⟩ := items_of rv e
  exact ⟨t, a, vs, rfl, hq, fun _ => q ρ1 H1 Grow.refl rh1 _ (srv_seq rh1 hq r hl)⟩
theorem rng_go {lo hi : MV} {R : It → Hp → Prop} (rh : RepH g ev ρ H h) (p : RPost g ev E ρ H (M.bind (M.bind (rngM lo hi) fun xs => M.pure (PyData.list xs)) (fun v => opt (items v)) h) (fun ds _ ρ' H' => ∀ J, Srv g ev J ρ' H' ds → R J H')) :
    ∃ i j, lo = .int i ∧ hi = .int j ∧ RgOk i j ∧ R (Itr i (j - i).toNat) H := by
  rw [bind_assoc] at p
  obtain ⟨i, j, e1, e2, ok, p⟩ := rng_of p.bind
  exact ⟨i, j, e1, e2, ok, p ρ H Grow.refl rh ρ H Grow.refl rh _ srv_range⟩
theorem pi_rng1M {a : Expr} {ma : MSt → M MV} {p : Pos} (c : Cn g ev X E) (hg : Gl X "range") (hf : g.mg "range" = none) (ha : PE X a (T1 g ev E ma)) (hn : notStar a = true) :
    PI X tg (.Call (.Name "range" p) [a] [] pos) (tI g ev E fun τ => M.bind (M.bind (ma τ) fun x => M.bind (rngM (.int 0) x) fun xs => M.pure (.list xs)) fun v => opt (items v)) := by
  refine PI.via c (pi_range1 hg (by rw [c.hm]; exact hf) (pa_one c ha hn) (starE hn _ _)) fun σ H R ⟨ρ, τ, h, rs, rh, p⟩ => ?_
  dsimp only at p
  rw [bind_assoc] at p
  refine ⟨ρ, τ, h, rs, rh, p.bind.imp fun d h1 ρ1 H1 gr rh1 q v rv => ?_⟩
  obtain ⟨i, j, e1, e2, ok, q'⟩ := rng_go rh1 q
  injection e1 with e1
  subst e1 e2
  rw [int_of rv]
  exact ⟨j, rfl, ok.2.2.1, ok.2.2.2.1, fun _ => by simpa using q'⟩
theorem pi_rng2M {a b : Expr} {ma mb : MSt → M MV} {p : Pos} (c : Cn g ev X E) (hg : Gl X "range") (hf : g.mg "range" = none) (ha : PE X a (T1 g ev E ma)) (hb : PE X b (T1 g ev E mb)) (hn : notStar a = true) (hn2 : notStar b = true) :
    PI X tg (.Call (.Name "range" p) [a, b] [] pos) (tI g ev E fun τ => M.bind (M.bind (ma τ) fun x => M.bind (mb τ) fun y => M.bind (rngM x y) fun xs => M.pure (.list xs)) fun v => opt (items v)) := by
  refine PI.via c (pi_range2 hg (by rw [c.hm]; exact hf) (pa_two c ha hb hn hn2) (by rw [starE hn, starE hn2]; rfl) (starE hn2 _ _)) fun σ H R ⟨ρ, τ, h, rs, rh, p⟩ => ?_
  dsimp only at p
  rw [bind_assoc] at p
  refine ⟨ρ, τ, h, rs, rh, p.bind.imp fun d h1 ρ1 H1 gr rh1 q v rv => ?_⟩
  rw [bind_assoc] at q
  refine ⟨ρ1, τ, h1, rs.up rh gr, rh1, q.bind.imp fun d2 h2 ρ2 H2 gr2 rh2 q2 v2 rv2 => ?_⟩
  obtain ⟨i, j, e1, e2, ok, q'⟩ := rng_go rh2 q2
  subst e1 e2
  exact ⟨i, j, by rw [int_of rv, int_of rv2], ⟨ok.1, ok.2.1, ok.2.2.1, ok.2.2.2.1⟩, fun _ => q'⟩
theorem walkM_items {v : MV} {α : Type} {f : List MV → M α} : M.bind (walkM v) f = M.bind (opt (items v)) f := rfl
theorem pi_enmM {a : Expr} {ma : MSt → M MV} {p tpos : Pos} {elts : List Expr} {kk : Nat} (c : Cn g ev X E) (hg : Gl X "enumerate") (hf : g.mg "enumerate" = none) (ha : PE X a (T1 g ev E ma)) (hn : notStar a = true) :
    PI X (.Tuple elts kk tpos) (.Call (.Name "enumerate" p) [a] [] pos) (tI g ev E fun τ => M.bind (M.bind (ma τ) fun x => M.bind (walkM x) fun xs => M.pure (.list (enumL 0 xs))) fun v => opt (items v)) := by
  refine PI.via c (pi_enX hg (by rw [c.hm]; exact hf) (pa_one c ha hn) (starE hn _ _)) fun σ H R ⟨ρ, τ, h, rs, rh, p⟩ => ?_
  dsimp only at p
  rw [bind_assoc] at p
  rw [c.hK]
  refine ⟨ρ, τ, h, rs, rh, p.bind.imp fun d h1 ρ1 H1 gr rh1 q v rv => ?_⟩
  rw [bind_assoc] at q
  obtain ⟨ds, e, q⟩ := rpost_opt q.bind
  obtain ⟨t, a, vs, rfl, hq, r, hl⟩ := items_of rv e
  exact ⟨t, a, vs, rfl, hq, fun _ => q ρ1 H1 Grow.refl rh1 ρ1 H1 Grow.refl rh1 _ (srv_enum rh1 hq r hl)⟩
theorem pi_zpM {a b : Expr} {ma mb : MSt → M MV} {p tpos : Pos} {elts : List Expr} {kk : Nat} (c : Cn g ev X E) (hg : Gl X "zip") (hf : g.mg "zip" = none) (ha : PE X a (T1 g ev E ma)) (hb : PE X b (T1 g ev E mb)) (hn : notStar a = true) (hn2 : notStar b = true) :
    PI X (.Tuple elts kk tpos) (.Call (.Name "zip" p) [a, b] [] pos) (tI g ev E fun τ => M.bind (M.bind (ma τ) fun x => M.bind (mb τ) fun y => M.bind (walkM x) fun xs => M.bind (walkM y) fun ys => M.pure (.list (zipL xs ys))) fun v => opt (items v)) := by
  refine PI.via c (pi_z2X hg (by rw [c.hm]; exact hf) (pa_two c ha hb hn hn2) (starE hn _ _) (noAny (es := [b]) (by simp [allPlain, hn2]) _ _)) fun σ H R ⟨ρ, τ, h, rs, rh, p⟩ => ?_
  dsimp only at p
  rw [bind_assoc] at p
  rw [c.hK]
  refine ⟨ρ, τ, h, rs, rh, p.bind.imp fun d h1 ρ1 H1 gr rh1 q v rv => ?_⟩
  rw [bind_assoc] at q
  refine ⟨ρ1, τ, h1, rs.up rh gr, rh1, q.bind.imp fun d2 h2 ρ2 H2 gr2 rh2 q2 v2 rv2 => ?_⟩
  rw [bind_assoc] at q2
  obtain ⟨ds, e, q3⟩ := rpost_opt q2.bind
  have q3 := q3 ρ2 H2 Grow.refl rh2
  dsimp only at q3
  rw [bind_assoc] at q3
  obtain ⟨es, e2, q4⟩ := rpost_opt q3.bind
  have q4 := q4 ρ2 H2 Grow.refl rh2 ρ2 H2 Grow.refl rh2
  obtain ⟨t, a, vs, rfl, hq, r, hl⟩ := items_of (rv.up rh1 gr2) e
  obtain ⟨t2, a2, vs2, rfl, hq2, r2, hl2⟩ := items_of rv2 e2
  exact ⟨t, t2, a, a2, vs, vs2, rfl, hq, hq2, fun _ => q4 _ (srv_zip rh2 hq r hl hq2 r2 hl2)⟩
/-! ### targets -/
def setAllV (σ : St) : List Nat → List V → St
  | i :: is, v :: vs => setAllV (σ.set i (some v)) is vs
  | _, _ => σ
theorem setAllV_nil (σ : St) (vs : List V) : setAllV σ [] vs = σ := by cases vs <;> rfl
/-- the names of targets -/
def tgN (N : List Str) (sc : Scope) (fn : Str → Bool) : List Nat → List Expr → Bool
  | [], [] => true
  | i :: is, .Name x _ :: es => decide (N[i]? = some x) && (decide (sc.names.lookup x = some .local) || decide (sc.names.lookup x = some .cell) && fn x) && tgN N sc fn is es
  | _, _ => false
def gX (K : PySem.W.Frag) : MT → TG
  | .nm i => gName i
  | .tup is => fun v σ H Q => ∃ a vs, v = .ref a ∧ SqT K H a vs ∧ vs.length = is.length ∧ Q (setAllV σ is vs) H
theorem tgN_len {N : List Str} {sc : Scope} {fn : Str → Bool} : ∀ {is : List Nat} {es : List Expr}, tgN N sc fn is es = true → es.length = is.length
  | [], [], _ => rfl
  | [], e :: es, h => by simp [tgN] at h
  | i :: is, [], h => by simp [tgN] at h
  | i :: is, .Name x p :: es, h => by
    simp only [tgN, Bool.and_eq_true] at h
    simp [tgN_len h.2]
theorem pgs_names (c : Cn g ev X E) {N : List Str} {sc : Scope} {fn : Str → Bool} (hN : X.N = N) (hs : X.env.scope = sc) (hf : ∀ x, fn x = true → X.fn x = true) : ∀ (is : List Nat) (es : List Expr), tgN N sc fn is es = true →
    PGs X es (fun vs σ H Q => vs.length = is.length ∧ Q (setAllV σ is vs) H) ∧ (assignEach es X.env).length = is.length ∧ (assignEach es X.env).findIdx? (·.1) = none
  | [], [], _ => ⟨⟨fun pins s σ H vs us Q I r ⟨h, q⟩ => pgs_nil.run pins s σ H vs us Q I r ⟨List.length_eq_zero_iff.mp (by simpa using h), by rw [setAllV_nil] at q; exact q⟩⟩, rfl, rfl⟩
  | [], e :: es, h => by simp [tgN] at h
  | i :: is, [], h => by simp [tgN] at h
  | i :: is, .Name x p :: es, h => by
    simp only [tgN, Bool.and_eq_true, Bool.or_eq_true, decide_eq_true_eq] at h
    obtain ⟨⟨h1, h2⟩, h3⟩ := h
    obtain ⟨ih, l, f⟩ := pgs_names c hN hs hf is es h3
    have hl : Loc X.env.scope x := by rw [hs]; exact h2.imp id (·.1)
    have hfn : X.fn x = true ∨ X.env.scope.names.lookup x = some .local := by
      rw [hs]
      exact h2.elim .inr (fun z => .inl (hf x z.2))
    refine ⟨⟨fun pins s σ H vs us Q I r ⟨h, q⟩ => ?_⟩, ?_, ?_⟩
    · cases vs with
      | nil => simp at h
      | cons v vs =>
        exact (pgs_cons (pg_name (pos := p) c.nd (by rw [hN]; exact h1) hl hfn) ih rfl).run pins s σ H (v :: vs) us Q I r ⟨v, vs, rfl, by simpa using h, q⟩
    · show (assignEach es X.env).length + 1 = _
      rw [l]; rfl
    · show List.findIdx? _ ((false, assign (.Name x p) X.env) :: assignEach es X.env) = none
      rw [List.findIdx?_cons, f]; rfl
/-- a target -/
def tgB (N : List Str) (sc : Scope) (fn : Str → Bool) : MT → Expr → Bool
  | .nm i, e => tgN N sc fn [i] [e]
  | .tup is, .Tuple es _ _ => tgN N sc fn is es
  | _, _ => false
theorem pg_X (c : Cn g ev X E) {N : List Str} {sc : Scope} {fn : Str → Bool} (hN : X.N = N) (hs : X.env.scope = sc) (hf : ∀ x, fn x = true → X.fn x = true) {t : MT} {e : Expr} (h : tgB N sc fn t e = true) : PG X e (gX g.K t) := by
  cases t with
  | nm i =>
    cases e with
    | Name x p =>
      simp only [tgB, tgN, Bool.and_eq_true, Bool.or_eq_true, decide_eq_true_eq] at h
      obtain ⟨⟨h1, h2⟩, _⟩ := h
      exact pg_name c.nd (by rw [hN]; exact h1) (by rw [hs]; exact h2.imp id (·.1)) (by rw [hs]; exact h2.elim .inr (fun z => .inl (hf x z.2)))
    | _ => simp [tgB, tgN] at h
  | tup is =>
    cases e with
    | Tuple es k p =>
      obtain ⟨h1, h2, h3⟩ := pgs_names c hN hs hf is es h
      have := pg_tup (k := k) (pos := p) (n := is.length) c.calm h1 h2 h3
      rw [c.hK] at this
      exact ⟨fun pins s σ H v u Q I r ⟨a, vs, e1, e2, e3, q⟩ => this.run pins s σ H v u Q I r ⟨a, vs, e1, e2, e3, e3, q⟩⟩
    | _ => simp [tgB] at h
end
end Snd

-- Snd13
set_option autoImplicit false
set_option linter.all false
set_option Elab.async false
set_option maxRecDepth 100000
set_option maxHeartbeats 4000000
/-! soundness of M, part 13: a list under way (it is no value yet) -/
namespace Snd
open PySem PySem.Spec PyProof.Rows L2 MM
abbrev gh (g : GW) (D : Addr) : GW := { g with gs := D :: g.gs }
section
variable {g : GW} {ev : Fs} {ρ : List Addr} {H : Hp} {D : Addr} {h : MH}
theorem sqT_upd {K : PySem.W.Frag} {a : Addr} {vs : List V} {o : HO} (hD : H D = none ∨ ∃ ws, H D = some (.lst ws)) (q : SqT K H a vs) : SqT K (upd H D o) a vs := by
  have ne : ∀ u, H a = some u → (∀ ws, u ≠ .lst ws) → a ≠ D := fun u e n z => by
    subst z
    rcases hD with z | ⟨ws, z⟩
    · rw [e] at z; cases z
    · rw [e] at z; exact n ws (Option.some.inj z)
  rcases q with (q | ⟨ob, q⟩) | q
  · exact .inl (.inl (by rw [upd_ne (ne _ q (fun _ z => by cases z))]; exact q))
  · exact .inl (.inr ⟨ob, by rw [upd_ne (ne _ q (fun _ z => by cases z))]; exact q⟩)
  · exact .inr q
theorem any_upd {a : Addr} {u o : HO} (hD : H D = none ∨ ∃ ws, H D = some (.lst ws)) (n : ∀ ws, u ≠ .lst ws) (q : H a = some u) : upd H D o a = some u := by
  have ne : a ≠ D := fun z => by
    subst z
    rcases hD with z | ⟨ws, z⟩
    · rw [q] at z; cases z
    · rw [q] at z; exact n ws (Option.some.inj z)
  rw [upd_ne ne]; exact q
/-- D written: from a world g that does not know D (it is fresh), or knows it as no value's -/
theorem RepX.gho {g g' : GW} (hg : g' = gh g D ∨ g' = g) {kvs : List (PyData × PyData)} {v : V} {o : HO} (hD : (g' = gh g D ∧ H D = none) ∨ (g' = g ∧ D ∈ g.gs ∧ ∃ ws, H D = some (.lst ws))) (h : RepX g ev ρ H kvs v) : RepX g' ev ρ (upd H D o) kvs v := by
  have e1 : g'.K = g.K ∧ g'.mg = g.mg ∧ g'.nm = g.nm ∧ g'.lam = g.lam := by rcases hg with z | z <;> (subst z; exact ⟨rfl, rfl, rfl, rfl⟩)
  have hD' : H D = none ∨ ∃ ws, H D = some (.lst ws) := hD.imp (·.2) (·.2.2)
  unfold RepX at h ⊢
  split at h
  · exact h
  · obtain ⟨a, is, rfl, h1, h3⟩ := h
    refine ⟨a, is, rfl, ?_, h3⟩
    rw [e1.1]
    refine h1.imp id fun ⟨z, n⟩ => ?_
    have ne : a ≠ D := fun q => by
      subst q
      rcases hD with ⟨_, q⟩ | ⟨_, q, _⟩
      · rcases z with z | ⟨_, z⟩ <;> (rw [q] at z; cases z)
      · exact n.2 q
    refine ⟨?_, n.1, ?_⟩
    · rcases z with z | ⟨ob, z⟩
      · exact .inl (by rw [upd_ne ne]; exact z)
      · exact .inr ⟨ob, by rw [upd_ne ne]; exact z⟩
    · rcases hg with z | z
      · subst z; exact fun hm => by
          rcases List.mem_cons.mp hm with q | q
          · exact ne q
          · exact n.2 q
      · subst z; exact n.2
  · obtain ⟨a, h1, h2⟩ := h; exact ⟨a, h1, by rw [e1.2.1, e1.2.2.1]; exact h2⟩
  · obtain ⟨f, c', pm, ctv, dn, env, params, body, scope, rfl, a1, a2, a3, a4⟩ := h
    refine ⟨f, c', pm, ctv, dn, env, params, body, scope, rfl, a1, by rw [e1.2.2.2]; exact a2, ?_, ?_⟩
    · exact any_upd hD' (fun _ z => by cases z) a3
    · exact any_upd hD' (fun _ z => by cases z) a4
  · exact h.elim
mutual
theorem Rep.gho {g g' : GW} (hg : g' = gh g D ∨ g' = g) {o : HO} (hD : (g' = gh g D ∧ H D = none) ∨ (g' = g ∧ D ∈ g.gs ∧ ∃ ws, H D = some (.lst ws))) : ∀ (d : MV) (v : V), Rep g ev ρ H d v → Rep g' ev ρ (upd H D o) d v
  | .none, _, h => by simpa [Rep] using h
  | .bool _, _, h => by simpa [Rep] using h
  | .int _, _, h => by simpa [Rep] using h
  | .str _, _, h => by simpa [Rep] using h
  | .list xs, v, h => by
    simp only [Rep] at h ⊢
    obtain ⟨a, vs, rfl, h1, h2, h3⟩ := h
    have ne : a ≠ D := fun q => by
      subst q
      rcases hD with ⟨_, q⟩ | ⟨_, q, _⟩
      · rw [q] at h1; cases h1
      · exact h2.2 q
    refine ⟨a, vs, rfl, by rw [upd_ne ne]; exact h1, ⟨h2.1, ?_⟩, Reps.gho hg hD xs vs h3⟩
    rcases hg with z | z
    · subst z; exact fun hm => by
        rcases List.mem_cons.mp hm with q | q
        · exact ne q
        · exact h2.2 q
    · subst z; exact h2.2
  | .tuple xs, v, h => by
    simp only [Rep] at h ⊢
    obtain ⟨a, vs, rfl, h1, h3⟩ := h
    have e1 : g'.K = g.K := by rcases hg with z | z <;> (subst z; rfl)
    refine ⟨a, vs, rfl, ?_, Reps.gho hg hD xs vs h3⟩
    rw [e1]
    exact sqT_upd (hD.imp (·.2) (·.2.2)) h1
  | .dict kvs, v, h => by
    simp only [Rep] at h ⊢
    exact RepX.gho hg hD h
theorem Reps.gho {g g' : GW} (hg : g' = gh g D ∨ g' = g) {o : HO} (hD : (g' = gh g D ∧ H D = none) ∨ (g' = g ∧ D ∈ g.gs ∧ ∃ ws, H D = some (.lst ws))) : ∀ (d : List MV) (v : List V), Reps g ev ρ H d v → Reps g' ev ρ (upd H D o) d v
  | [], _, h => by simpa [Reps] using h
  | x :: xs, vs, h => by
    simp only [Reps] at h ⊢
    obtain ⟨y, ys, rfl, h1, h2⟩ := h
    exact ⟨y, ys, rfl, Rep.gho hg hD x y h1, Reps.gho hg hD xs ys h2⟩
end
theorem RepK.gho {g g' : GW} (hg : g' = gh g D ∨ g' = g) {o : HO} (hD : (g' = gh g D ∧ H D = none) ∨ (g' = g ∧ D ∈ g.gs ∧ ∃ ws, H D = some (.lst ws))) : ∀ {kvs : List (MV × MV)} {ys : List (Key × V)}, RepK g ev ρ H kvs ys → RepK g' ev ρ (upd H D o) kvs ys
  | [], _, h => by simpa [RepK] using h
  | (k, x) :: r, _, h => by
    simp only [RepK] at h ⊢
    obtain ⟨q, y, ys, rfl, h1, h2, h3, h4⟩ := h
    exact ⟨q, y, ys, rfl, h1, Rep.gho hg hD _ _ h2, h3, RepK.gho hg hD h4⟩
theorem RepH.gho {g g' : GW} (hg : g' = gh g D ∨ g' = g) {ws : List V} (hD : (g' = gh g D ∧ H D = none) ∨ (g' = g ∧ D ∈ g.gs ∧ ∃ ws, H D = some (.lst ws))) (rh : RepH g ev ρ H h) : RepH g' ev ρ (upd H D (.lst ws)) h := by
  have hD' : H D = none ∨ ∃ ws, H D = some (.lst ws) := hD.imp (·.2) (·.2.2)
  have nD : D ∉ ρ := fun hm => by
    rcases hD with ⟨_, q⟩ | ⟨_, q, _⟩
    · rcases rh.mut D hm with ⟨vs, e⟩ | ⟨ys, e⟩ <;> (rw [q] at e; cases e)
    · exact (rh.gsok D q).2 hm
  refine ⟨rh.len, rh.nd, fun n ob a h1 h2 => ?_, ?_, fun j τ σ hj => ?_, fun a ha => ?_⟩
  · have ne : a ≠ D := fun q => nD (by rw [← q]; exact List.mem_of_getElem? h2)
    have q := rh.at_ n ob a h1 h2
    cases ob with
    | lst xs => obtain ⟨p, vs, e, r⟩ := q; exact ⟨p, vs, by rw [upd_ne ne]; exact e, Reps.gho hg hD _ _ r⟩
    | dct kvs => obtain ⟨ys, e, r⟩ := q; exact ⟨ys, by rw [upd_ne ne]; exact e, RepK.gho hg hD r⟩
  · have eT : g'.T = g.T := by rcases hg with z | z <;> (subst z; rfl)
    rw [eT]
    intro p hp
    obtain ⟨ps, a1, a2, a3⟩ := rh.tabs p hp
    refine ⟨ps, any_upd hD' (fun _ z => by cases z) a1, a2, fun pos cv hc => ?_⟩
    obtain ⟨c, e1, e2⟩ := a3 pos cv hc
    exact ⟨c, e1, any_upd hD' (fun _ z => by cases z) e2⟩
  · obtain ⟨l, r⟩ := rh.frs j τ σ hj
    exact ⟨l, fun i d e => let ⟨v, e1, e2⟩ := r i d e; ⟨v, e1, Rep.gho hg hD _ _ e2⟩⟩
  · by_cases e : a = D
    · subst e; exact ⟨⟨ws, upd_same⟩, nD⟩
    · have ha' : a ∈ g.gs := by
        rcases hg with z | z
        · subst z; exact (List.mem_cons.mp ha).resolve_left e
        · subst z; exact ha
      obtain ⟨⟨vs, q⟩, n⟩ := rh.gsok a ha'
      exact ⟨⟨vs, by rw [upd_ne e]; exact q⟩, n⟩
/-! D is a value at last -/
theorem RepX.out {kvs : List (PyData × PyData)} {v : V} (h : RepX (gh g D) ev ρ H kvs v) : RepX g ev ρ H kvs v := by
  unfold RepX at h ⊢
  split at h
  · exact h
  · obtain ⟨a, is, rfl, h1, h3⟩ := h
    exact ⟨a, is, rfl, h1.imp id fun ⟨z, n⟩ => ⟨z, n.1, fun q => n.2 (List.mem_cons_of_mem _ q)⟩, h3⟩
  · exact h
  · exact h
  · exact h.elim
mutual
theorem Rep.out : ∀ (d : MV) (v : V), Rep (gh g D) ev ρ H d v → Rep g ev ρ H d v
  | .none, _, h => by simpa [Rep] using h
  | .bool _, _, h => by simpa [Rep] using h
  | .int _, _, h => by simpa [Rep] using h
  | .str _, _, h => by simpa [Rep] using h
  | .list xs, v, h => by
    simp only [Rep] at h ⊢
    obtain ⟨a, vs, rfl, h1, h2, h3⟩ := h
    exact ⟨a, vs, rfl, h1, ⟨h2.1, fun q => h2.2 (List.mem_cons_of_mem _ q)⟩, Reps.out xs vs h3⟩
  | .tuple xs, v, h => by
    simp only [Rep] at h ⊢
    obtain ⟨a, vs, rfl, h1, h3⟩ := h
    exact ⟨a, vs, rfl, h1, Reps.out xs vs h3⟩
  | .dict kvs, v, h => by
    simp only [Rep] at h ⊢
    exact RepX.out h
theorem Reps.out : ∀ (d : List MV) (v : List V), Reps (gh g D) ev ρ H d v → Reps g ev ρ H d v
  | [], _, h => by simpa [Reps] using h
  | x :: xs, vs, h => by
    simp only [Reps] at h ⊢
    obtain ⟨y, ys, rfl, h1, h2⟩ := h
    exact ⟨y, ys, rfl, Rep.out x y h1, Reps.out xs ys h2⟩
end
theorem RepK.out : ∀ {kvs : List (MV × MV)} {ys : List (Key × V)}, RepK (gh g D) ev ρ H kvs ys → RepK g ev ρ H kvs ys
  | [], _, h => by simpa [RepK] using h
  | (k, x) :: r, _, h => by
    simp only [RepK] at h ⊢
    obtain ⟨q, y, ys, rfl, h1, h2, h3, h4⟩ := h
    exact ⟨q, y, ys, rfl, h1, Rep.out _ _ h2, h3, RepK.out h4⟩
theorem RepH.out (rh : RepH (gh g D) ev ρ H h) : RepH g ev ρ H h :=
  ⟨rh.len, rh.nd, fun n ob a h1 h2 => by
    have q := rh.at_ n ob a h1 h2
    cases ob with
    | lst xs => obtain ⟨p, vs, e, r⟩ := q; exact ⟨p, vs, e, Reps.out _ _ r⟩
    | dct kvs => obtain ⟨ys, e, r⟩ := q; exact ⟨ys, e, RepK.out r⟩, rh.tabs,
   fun j τ σ hj => let ⟨l, r⟩ := rh.frs j τ σ hj; ⟨l, fun i d e => let ⟨v, e1, e2⟩ := r i d e; ⟨v, e1, Rep.out _ _ e2⟩⟩, fun a ha => rh.gsok a (List.mem_cons_of_mem _ ha)⟩
theorem RepS.out {τ : MSt} {σ : St} (r : RepS (gh g D) ev ρ H τ σ) : RepS g ev ρ H τ σ := ⟨r.1, fun i d e => let ⟨v, e1, e2⟩ := r.2 i d e; ⟨v, e1, Rep.out _ _ e2⟩⟩
theorem RepS.gho {g g' : GW} (hg : g' = gh g D ∨ g' = g) {o : HO} (hD : (g' = gh g D ∧ H D = none) ∨ (g' = g ∧ D ∈ g.gs ∧ ∃ ws, H D = some (.lst ws))) {τ : MSt} {σ : St} (r : RepS g ev ρ H τ σ) : RepS g' ev ρ (upd H D o) τ σ :=
  ⟨r.1, fun i d e => let ⟨v, e1, e2⟩ := r.2 i d e; ⟨v, e1, Rep.gho hg hD _ _ e2⟩⟩
/-- the whole world of g behind a fresh D -/
theorem Grow.gho {ρ' : List Addr} {H' : Hp} {o : HO} (gr : Grow g ρ H ρ' H') (hD : H D = none) : Grow g ρ H ρ' (upd H' D o) :=
  ⟨gr.pre, gr.fresh, fun a u hu hn ht => by rw [upd_ne (fun z => by rw [z, hD] at hu; cases hu)]; exact gr.stay a u hu hn ht,
   fun a ps hu => by rw [upd_ne (fun z => by rw [z, hD] at hu; cases hu)]; exact gr.tb a ps hu⟩
end
end Snd

-- Snd14
set_option autoImplicit false
set_option linter.all false
set_option Elab.async false
set_option maxRecDepth 100000
set_option maxHeartbeats 4000000
/-! soundness of M, part 14: list comprehensions of one clause -/
namespace Snd
open PySem PySem.Spec PyProof.Rows L2 MM
abbrev noX : XK := fun _ _ _ => False
theorem Grow.re {g g' : GW} {ρ ρ' : List Addr} {H H' : Hp} (gr : Grow g ρ H ρ' H') : Grow g' ρ H ρ' H' := ⟨gr.pre, gr.fresh, gr.stay, gr.tb⟩
def tgIx : MT → List Nat
  | .nm i => [i]
  | .tup is => is
section
variable {g : GW} {ev : Fs} {X : Cx} {E : XK} {pins : List (Addr × Obj)} {σ : St} {H H0 : Hp} {s : Shared} {ρ ρ0 : List Addr} {h h0 : MH} {pos : Pos} {tg : Expr}
theorem RepH.ext0 {H' : Hp} (rh : RepH g ev ρ H h) (e : ∀ b o, H b = some o → H' b = some o) : RepH g ev ρ H' h :=
  ⟨rh.len, rh.nd, fun n o a h1 h2 => by
    have q := rh.at_ n o a h1 h2
    obtain ⟨u, hu⟩ := q.some
    exact q.grow rh.mut (Grow.ext e) same_env (by rw [hu]; exact e _ _ hu), rh.tabs.ext e, fun j τ σ hj => (rh.frs j τ σ hj).grow rh.mut (Grow.ext e) same_env, rh.gsg (Grow.ext e)⟩
/-! the slots -/
theorem wipe_get (σ : St) (i : Nat) : ∀ vs : List Nat, (wipe σ vs)[i]? = if i ∈ vs then (σ[i]?).map (fun _ => none) else σ[i]?
  | [] => by simp [wipe]
  | v :: vs => by
    unfold wipe
    rw [List.getElem?_set, wipe_length]
    by_cases e : v = i
    · subst e
      simp only [if_true, List.mem_cons, true_or]
      by_cases hl : v < σ.length
      · rw [if_pos hl]; simp [hl]
      · rw [if_neg hl]; simp [List.getElem?_eq_none (Nat.le_of_not_lt hl)]
    · rw [if_neg e, wipe_get σ i vs]
      have : (i ∈ v :: vs) ↔ i ∈ vs := by simp [Ne.symm e]
      simp only [this]
theorem wipeM_length (σ : MSt) : ∀ vs : List Nat, (wipeM σ vs).length = σ.length
  | [] => rfl
  | v :: vs => by simp [wipeM, wipeM_length σ vs]
theorem wipeM_get (σ : MSt) (i : Nat) : ∀ vs : List Nat, (wipeM σ vs)[i]? = if i ∈ vs then (σ[i]?).map (fun _ => none) else σ[i]?
  | [] => by simp [wipeM]
  | v :: vs => by
    unfold wipeM
    rw [List.getElem?_set, wipeM_length]
    by_cases e : v = i
    · subst e
      simp only [if_true, List.mem_cons, true_or]
      by_cases hl : v < σ.length
      · rw [if_pos hl]; simp [hl]
      · rw [if_neg hl]; simp [List.getElem?_eq_none (Nat.le_of_not_lt hl)]
    · rw [if_neg e, wipeM_get σ i vs]
      have : (i ∈ v :: vs) ↔ i ∈ vs := by simp [Ne.symm e]
      simp only [this]
theorem RepS.wipe {τ : MSt} (r : RepS g ev ρ H τ σ) (vs : List Nat) : RepS g ev ρ H (wipeM τ vs) (wipe σ vs) :=
  ⟨by rw [wipeM_length, wipe_length]; exact r.1, fun i d e => by
    rw [wipeM_get] at e
    split at e
    · cases q : τ[i]? with
      | none => rw [q] at e; cases e
      | some o => rw [q] at e; cases e
    · rename_i hn
      obtain ⟨v, h1, h2⟩ := r.2 i d e
      exact ⟨v, by rw [wipe_get, if_neg hn]; exact h1, h2⟩⟩
theorem RepS.set {τ : MSt} {d : MV} {v : V} (r : RepS g ev ρ H τ σ) (i : Nat) (rd : Rep g ev ρ H d v) : RepS g ev ρ H (τ.set i (some d)) (σ.set i (some v)) :=
  ⟨by simp [r.1], fun j e he => by
    rw [List.getElem?_set] at he ⊢
    split at he
    · rename_i hij
      subst hij
      rw [if_pos rfl]
      split at he
      · rename_i hl
        rw [if_pos (by rw [← r.1]; exact hl)]
        cases he
        exact ⟨v, rfl, rd⟩
      · cases he
    · rename_i hij
      rw [if_neg hij]
      exact r.2 j e he⟩
theorem RepS.setAll {g : GW} {ev : Fs} {ρ : List Addr} {H : Hp} : ∀ {is : List Nat} {ds : List MV} {vs : List V} {τ : MSt} {σ : St}, RepS g ev ρ H τ σ → Reps g ev ρ H ds vs → RepS g ev ρ H (setAll τ is ds) (setAllV σ is vs)
  | [], ds, vs, τ, σ, r, _ => by cases ds <;> cases vs <;> exact r
  | i :: is, [], vs, τ, σ, r, h => by simp only [Reps] at h; subst h; exact r
  | i :: is, d :: ds, vs, τ, σ, r, h => by
    simp only [Reps] at h
    obtain ⟨y, ys, rfl, h1, h2⟩ := h
    exact RepS.setAll (is := is) (RepS.set r i h1) h2
theorem wipe_set {σ : St} {i : Nat} {o : Option V} {own : List Nat} (hi : i ∈ own) : wipe (σ.set i o) own = wipe σ own := by
  apply List.ext_getElem?
  intro j
  rw [wipe_get, wipe_get]
  by_cases hj : j ∈ own
  · rw [if_pos hj, if_pos hj, List.getElem?_set]
    by_cases e : i = j
    · subst e
      rw [if_pos rfl]
      by_cases hl : i < σ.length
      · simp [hl]
      · simp [hl]
    · rw [if_neg e]
  · rw [if_neg hj, if_neg hj, List.getElem?_set_ne (fun e => hj (by rw [← e]; exact hi))]
theorem wipe_setAll {own : List Nat} : ∀ {is : List Nat} {vs : List V} {σ : St}, (∀ i ∈ is, i ∈ own) → wipe (setAllV σ is vs) own = wipe σ own
  | [], vs, σ, _ => by cases vs <;> rfl
  | i :: is, [], σ, _ => rfl
  | i :: is, v :: vs, σ, h => by
    unfold setAllV
    rw [wipe_setAll fun j hj => h j (List.mem_cons_of_mem _ hj), wipe_set (h i List.mem_cons_self)]
theorem wipe_twice {own : List Nat} : wipe (wipe σ own) own = wipe σ own := by
  apply List.ext_getElem?
  intro j
  rw [wipe_get, wipe_get]
  by_cases hj : j ∈ own
  · rw [if_pos hj, if_pos hj]
    cases σ[j]? <;> rfl
  · rw [if_neg hj, if_neg hj]
/-- a target bound -/
theorem bind_of {t : MT} {d : MV} {x : V} {τ τ' : MSt} {h' : MH} (e : MM.bindM t d τ h = .ok τ' h') (rd : Rep g ev ρ H d x) (rs : RepS g ev ρ H τ σ) :
    h' = h ∧ ∃ σ', RepS g ev ρ H τ' σ' ∧ (∀ own : List Nat, (∀ i ∈ tgIx t, i ∈ own) → wipe σ' own = wipe σ own) ∧ ∀ Q : St → Hp → Prop, Q σ' H → gX g.K t x σ H Q := by
  cases t with
  | nm i =>
    cases e
    exact ⟨rfl, σ.set i (some x), rs.set i rd, fun own ho => wipe_set (ho i (by simp [tgIx])), fun Q q => q⟩
  | tup is =>
    cases d with
    | tuple ds =>
      simp only [MM.bindM] at e
      split at e
      · rename_i hl
        cases e
        obtain ⟨a, vs, rfl, h1, h3⟩ := tup_of rd
        exact ⟨rfl, setAllV σ is vs, rs.setAll h3, fun own ho => wipe_setAll ho, fun Q q => ⟨a, vs, rfl, h1, by rw [← h3.length]; exact hl, q⟩⟩
      · cases e
    | _ => cases e
theorem noexc_ok {α β : Type} {m : M α} {f : α → M β} {Q : β → MH → List Addr → Hp → Prop} (p : RPost g ev E ρ H (M.bind (noexc m) f h) Q) : ∃ a h', m h = .ok a h' ∧ RPost g ev E ρ H (f a h') Q := by
  unfold M.bind noexc at p
  cases e : m h with
  | ok a h' => rw [e] at p; exact ⟨a, h', rfl, p⟩
  | exc c n h' => rw [e] at p; exact p.elim
  | bad => rw [e] at p; exact p.elim
theorem bind_ok {α β : Type} {m : M α} {f : α → M β} {b : β} {h' : MH} (e : M.bind m f h = .ok b h') : ∃ a h1, m h = .ok a h1 ∧ f a h1 = .ok b h' := by
  unfold M.bind at e
  cases q : m h with
  | ok a h1 => rw [q] at e; exact ⟨a, h1, rfl, e⟩
  | exc c n h1 => rw [q] at e; cases e
  | bad => rw [q] at e; cases e
theorem exD {e : Expr} {t : Addr → TE} (h : ∀ D, PE X e (t D)) : PE X e (fun σ H Q => ∃ D, t D σ H Q) := ⟨fun pins s σ H Q I ⟨D, q⟩ => (h D).run pins s σ H Q I q⟩
theorem exDT {e : List Expr} {t : Addr → TT} (h : ∀ D, PTs X e (t D)) : PTs X e (fun σ H Q => ∃ D, t D σ H Q) := ⟨fun pins s σ H Q I ⟨D, q⟩ => (h D).run pins s σ H Q I q⟩
theorem NoM.prom {D a : Addr} (n : NoM (gh g D) ρ a) : NoM g (ρ ++ [D]) a :=
  ⟨fun hm => by
    rcases List.mem_append.mp hm with z | z
    · exact n.1 z
    · exact n.2 (by have : a = D := by simpa using z
                    rw [this]; exact List.mem_cons_self), fun hm => n.2 (List.mem_cons_of_mem _ hm)⟩
theorem RepX.prom {D : Addr} {kvs : List (PyData × PyData)} {v : V} (h : RepX (gh g D) ev ρ H kvs v) : RepX g ev (ρ ++ [D]) H kvs v := by
  unfold RepX at h ⊢
  split at h
  · obtain ⟨a, rfl, e⟩ := h
    exact ⟨a, rfl, by rw [List.getElem?_append_left (List.getElem?_eq_some_iff.mp e).1]; exact e⟩
  · obtain ⟨a, is, rfl, h1, h3⟩ := h
    exact ⟨a, is, rfl, h1.imp id fun ⟨z, n⟩ => ⟨z, n.prom⟩, h3⟩
  · exact h
  · exact h
  · exact h.elim
mutual
theorem Rep.prom {D : Addr} : ∀ (d : MV) (v : V), Rep (gh g D) ev ρ H d v → Rep g ev (ρ ++ [D]) H d v
  | .none, _, h => by simpa [Rep] using h
  | .bool _, _, h => by simpa [Rep] using h
  | .int _, _, h => by simpa [Rep] using h
  | .str _, _, h => by simpa [Rep] using h
  | .list xs, v, h => by
    simp only [Rep] at h ⊢
    obtain ⟨a, vs, rfl, h1, h2, h3⟩ := h
    exact ⟨a, vs, rfl, h1, h2.prom, Reps.prom xs vs h3⟩
  | .tuple xs, v, h => by
    simp only [Rep] at h ⊢
    obtain ⟨a, vs, rfl, h1, h3⟩ := h
    exact ⟨a, vs, rfl, h1, Reps.prom xs vs h3⟩
  | .dict kvs, v, h => by
    simp only [Rep] at h ⊢
    exact RepX.prom h
theorem Reps.prom {D : Addr} : ∀ (d : List MV) (v : List V), Reps (gh g D) ev ρ H d v → Reps g ev (ρ ++ [D]) H d v
  | [], _, h => by simpa [Reps] using h
  | x :: xs, vs, h => by
    simp only [Reps] at h ⊢
    obtain ⟨y, ys, rfl, h1, h2⟩ := h
    exact ⟨y, ys, rfl, Rep.prom x y h1, Reps.prom xs ys h2⟩
end
theorem RepK.prom {D : Addr} : ∀ {kvs : List (MV × MV)} {ys : List (Key × V)}, RepK (gh g D) ev ρ H kvs ys → RepK g ev (ρ ++ [D]) H kvs ys
  | [], _, h => by simpa [RepK] using h
  | (k, x) :: r, _, h => by
    simp only [RepK] at h ⊢
    obtain ⟨q, y, ys, rfl, h1, h2, h3, h4⟩ := h
    exact ⟨q, y, ys, rfl, h1, Rep.prom _ _ h2, h3, RepK.prom h4⟩
theorem RepH.prom {D : Addr} {xs : List MV} {vs : List V} (rh : RepH (gh g D) ev ρ H h) (hg : D ∉ g.gs) (hpl : PyData.plainAll xs = true) (hv : H D = some (.lst vs)) (r : Reps (gh g D) ev ρ H xs vs) : RepH g ev (ρ ++ [D]) H (h ++ [.lst xs]) := by
  have nD : D ∉ ρ := (rh.gsok D List.mem_cons_self).2
  refine ⟨by simp [rh.len], ?_, fun n ob a h1 h2 => ?_, rh.tabs, fun j τ σ hj => ?_, fun a ha => ?_⟩
  · rw [List.nodup_append]
    exact ⟨rh.nd, by simp, fun a ha b hb => by
      have e : b = D := by simpa using hb
      subst e; exact fun z => nD (z ▸ ha)⟩
  · by_cases hn : n < h.length
    · rw [List.getElem?_append_left hn] at h1
      rw [List.getElem?_append_left (by rw [rh.len]; exact hn)] at h2
      have q := rh.at_ n ob a h1 h2
      cases ob with
      | lst xs => obtain ⟨p, vs, e, r⟩ := q; exact ⟨p, vs, e, Reps.prom _ _ r⟩
      | dct kvs => obtain ⟨ys, e, r⟩ := q; exact ⟨ys, e, RepK.prom r⟩
    · have hn' : n = h.length := by
        have : n < (h ++ [MO.lst xs]).length := (List.getElem?_eq_some_iff.mp h1).1
        simp at this; omega
      subst hn'
      rw [List.getElem?_append_right (Nat.le_refl _)] at h1
      rw [List.getElem?_append_right (by rw [rh.len]; exact Nat.le_refl _), rh.len] at h2
      simp at h1 h2
      subst h1 h2
      exact ⟨hpl, vs, hv, Reps.prom _ _ r⟩
  · obtain ⟨l, r⟩ := rh.frs j τ σ hj
    exact ⟨l, fun i d e => let ⟨v, e1, e2⟩ := r i d e; ⟨v, e1, Rep.prom _ _ e2⟩⟩
  · obtain ⟨q, n⟩ := rh.gsok a (List.mem_cons_of_mem _ ha)
    refine ⟨q, fun hm => ?_⟩
    rcases List.mem_append.mp hm with z | z
    · exact n z
    · have : a = D := by simpa using z
      subst this
      exact hg ha
/-- D's list is done -/
theorem fin_D {xs : List MV} {vs : List V} {D : Addr} {Q : VK} {mu : Bool} {ρ1 : List Addr} {H1 : Hp} (gr : Grow g ρ1 H1 ρ H) (hD : H1 D = none) (hg : D ∉ g.gs) (rh : RepH (gh g D) ev ρ H h) (hv : H D = some (.lst vs)) (r : Reps (gh g D) ev ρ H xs vs)
    (q : RPost g ev E ρ1 H1 (mkList mu xs h) (VQ g ev Q)) : Q (.ref D) H := by
  have nD : D ∉ ρ := (rh.gsok D List.mem_cons_self).2
  cases mu with
  | false =>
    refine q ρ H gr rh.out _ ?_
    simp only [Rep]
    exact ⟨D, vs, rfl, hv, ⟨nD, hg⟩, Reps.out _ _ r⟩
  | true =>
    by_cases hpl : PyData.plainAll xs = true
    · have q : RPost g ev E ρ1 H1 (.ok (rf h.length) (h ++ [.lst xs])) (VQ g ev Q) := by
        have := q
        simp only [mkList, hpl, if_true] at this
        exact this
      obtain ⟨ext, ep⟩ := gr.pre
      refine q (ρ ++ [D]) H ⟨⟨ext ++ [D], by rw [ep, List.append_assoc]⟩, fun a ha => ?_, gr.stay, gr.tb⟩ (rh.prom hg hpl hv r) _ (rep_rf (by rw [← rh.len]; simp))
      rcases List.mem_append.mp ha with z | z
      · exact gr.fresh a z
      · have : a = D := by simpa using z
        subst this
        exact .inr hD
    · exfalso
      simp only [mkList, if_true, hpl] at q
      exact q
/-- [elt for tg in it if ..]: the reading -/
theorem lc_read {iter : Expr} {own : List Nat} {mu : Bool} {t : MT} {mi : MSt → M (List MV)} {mt : MSt → M Bool} {me : MSt → M MV} {Q : VK} (hin : ∀ i ∈ tgIx t, i ∈ own)
    (p : T1 g ev E (fun τ => M.bind (mi τ) fun xs => M.bind (noexc (lcF (MM.bindM t) mt me (wipeM τ own) xs)) fun ys => if ys.length ≤ cap then mkList mu ys else bad) σ H Q) :
    tLc (tI g ev E mi) (gX g.K t) (fun σ H Q => ∃ D, tMT (gh g D) ev noX mt σ H Q) (fun σ H Q => ∃ D, tM (gh g D) ev noX me σ H Q) own σ H Q := by
  obtain ⟨ρ, τ, h, rs, rh, p⟩ := p
  refine ⟨ρ, τ, h, rs, rh, p.bind.imp fun ds h1 ρ1 H1 gr rh1 p1 J srv D hD => ?_⟩
  have rs1 := rs.up rh gr
  obtain ⟨ysA, hA, eA, p2⟩ := noexc_ok p1
  obtain ⟨hcap, p2⟩ := rpost_ite p2
  have hgs : D ∉ g.gs := fun hm => by
    obtain ⟨⟨vs, e⟩, _⟩ := rh1.gsok D hm
    rw [hD] at e; cases e
  refine ⟨fun i m H => m = ds.length - i ∧ i ≤ ds.length ∧ ∃ ρi hi acc ys rest, Grow g ρ1 H1 ρi H ∧ (∀ d v, Rep g ev ρ1 H1 d v → Rep (gh g D) ev ρi H d v) ∧ RepH (gh g D) ev ρi H hi ∧ H D = some (.lst acc) ∧ Reps (gh g D) ev ρi H ys acc ∧
    lcF (MM.bindM t) mt me (wipeM τ own) (ds.drop i) hi = .ok rest hA ∧ ysA = ys ++ rest, ⟨ds.length, rfl, Nat.zero_le _, ?_⟩, ?_⟩
  · refine ⟨ρ1, h1, [], [], ysA, Grow.refl.gho hD, fun d v r => Rep.gho (.inl rfl) (.inl ⟨rfl, hD⟩) d v r, RepH.gho (.inl rfl) (.inl ⟨rfl, hD⟩) rh1, upd_same, by simp [Reps], by simpa using eA, by simp⟩
  · rintro i m Hi ⟨rfl, hil, ρi, hi, acc, ys, rest, gri, tri, rhi, hDi, rys, ei, eys⟩
    by_cases hlt : i < ds.length
    · have hd : ds[i]? = some ds[i] := List.getElem?_eq_getElem hlt
      obtain ⟨go, yl⟩ := srv.go (gh g D) ρi Hi hi i ds[i] gri tri rhi hd
      rw [List.drop_eq_getElem_cons hlt] at ei
      obtain ⟨τ2, h2, eb, ei⟩ := bind_ok ei
      obtain ⟨b, h3, et, ei⟩ := bind_ok ei
      refine .inr ⟨go, fun H' => ∃ ρi hi acc ys rest, Grow g ρ1 H1 ρi H' ∧ (∀ d v, Rep g ev ρ1 H1 d v → Rep (gh g D) ev ρi H' d v) ∧ RepH (gh g D) ev ρi H' hi ∧ H' D = some (.lst acc) ∧ Reps (gh g D) ev ρi H' ys acc ∧
        lcF (MM.bindM t) mt me (wipeM τ own) (ds.drop (i + 1)) hi = .ok rest hA ∧ ysA = ys ++ rest, fun H' w => ⟨ds.length - (i + 1), by omega, rfl, hlt, w⟩, fun x H' y => ?_⟩
      obtain ⟨ext, rx⟩ := yl x H' y
      have rh' := rhi.ext0 ext
      have gr' : Grow (gh g D) ρi Hi ρi H' := Grow.ext ext
      have rs' : RepS (gh g D) ev ρi H' τ σ := by
        refine ⟨rs1.1, fun j d e => ?_⟩
        obtain ⟨v, e1, e2⟩ := rs1.2 j d e
        exact ⟨v, e1, (tri d v e2).up rhi gr'⟩
      obtain ⟨e2, σ2, rs2, hw, hq⟩ := bind_of eb rx (rs'.wipe own)
      subst e2
      refine hq _ ⟨by rw [hw _ hin, wipe_twice], D, ρi, τ2, h2, rs2, rh', ?_⟩
      rw [et]
      intro ρ3 H3 gr3 rh3
      have grT : Grow (gh g D) ρi Hi ρ3 H3 := gr'.trans gr3
      have hD3 : H3 D = some (.lst acc) := grT.stay D _ hDi (rhi.gsok D List.mem_cons_self).2 (fun _ z => by cases z)
      cases b with
      | false =>
        exact ⟨ρ3, h3, acc, ys, rest, gri.trans grT.re, fun d v r => (tri d v r).up rhi grT, rh3, hD3, rys.up rhi grT, ei, eys⟩
      | true =>
        obtain ⟨y2, h4, ey, ei⟩ := bind_ok ei
        obtain ⟨rest2, h5, er, ei⟩ := bind_ok ei
        cases ei
        refine ⟨D, ρ3, τ2, h3, rs2.up rh' gr3, rh3, ?_⟩
        rw [ey]
        intro ρ4 H4 gr4 rh4 v4 rv4
        have grU : Grow (gh g D) ρi Hi ρ4 H4 := grT.trans gr4
        have nD4 : D ∉ ρ4 := (rh4.gsok D List.mem_cons_self).2
        have hD4 : H4 D = some (.lst acc) := grU.stay D _ hDi (rhi.gsok D List.mem_cons_self).2 (fun _ z => by cases z)
        have rys4 := rys.up rhi grU
        have hyl : acc.length < sizeLine := by
          rw [← rys4.length, ← cap_eq]
          rw [eys] at hcap
          simp at hcap
          omega
        have hD5 : ((gh g D) = gh (gh g D) D ∧ H4 D = none) ∨ ((gh g D) = (gh g D) ∧ D ∈ (gh g D).gs ∧ ∃ ws, H4 D = some (.lst ws)) := .inr ⟨rfl, List.mem_cons_self, acc, hD4⟩
        refine ⟨acc, hD4, hyl, ρ4, h4, acc ++ [v4], ys ++ [y2], rest2, (gri.trans grU.re).gho hD, fun d v r => Rep.gho (.inr rfl) hD5 d v ((tri d v r).up rhi grU), RepH.gho (.inr rfl) hD5 rh4, upd_same, ?_, er, by rw [eys]; simp⟩
        exact (Reps.gho (.inr rfl) hD5 _ _ rys4).append (by simp only [Reps]; exact ⟨v4, [], rfl, Rep.gho (.inr rfl) hD5 _ _ rv4, rfl⟩)
    · have hie : i = ds.length := by omega
      subst hie
      refine .inl ⟨srv.stop ρi Hi gri, ?_⟩
      rw [List.drop_length] at ei
      cases ei
      have : ysA = ys := by rw [eys]; simp
      subst this
      exact fin_D gri hD hgs rhi hDi rys (p2.grow Grow.refl)
/-- [elt for tg in it if ..] -/
theorem pe_lcM {elt iter : Expr} {ifs : List Expr} {scope : Scope} {own : List (Str × Nat)} {mu : Bool} {t : MT} {mi : MSt → M (List MV)} {mt : MSt → M Bool} {me : MSt → M MV} (c : Cn g ev X E) (hpi : PI X tg iter (tI g ev E mi)) (ok : BlkOk X.N X.env.scope scope own)
    (hg : ∀ (s : Shared) (H : Hp) (C : Addr) (cl : List (Str × Addr)) (fp : List Addr), PG (X.blk s H scope (compEnvC scope cl C X.env) fp) tg (gX g.K t))
    (ht : ∀ (D : Addr) (s : Shared) (H : Hp) (C : Addr) (cl : List (Str × Addr)) (fp : List Addr), PTs (X.blk s H scope (compEnvC scope cl C X.env) fp) ifs (tMT (gh g D) ev noX mt))
    (he : ∀ (D : Addr) (s : Shared) (H : Hp) (C : Addr) (cl : List (Str × Addr)) (fp : List Addr), PE (X.blk s H scope (compEnvC scope cl C X.env) fp) elt (tM (gh g D) ev noX me)) (hs : ∀ x, foldedSetIterable iter X.env x = pure x)
    (hin : ∀ i ∈ tgIx t, i ∈ own.map (·.2)) :
    PE X (.ListComp elt [⟨tg, iter, ifs, 0⟩] scope pos) (T1 g ev E fun τ => M.bind (mi τ) fun xs => M.bind (noexc (lcF (MM.bindM t) mt me (wipeM τ (own.map (·.2))) xs)) fun ys => if ys.length ≤ cap then mkList mu ys else bad) :=
  PE.via c (pe_lc c.calm c.nd hpi ok hg (fun s H C cl fp => exDT fun D => ht D s H C cl fp) (fun s H C cl fp => exD fun D => he D s H C cl fp) hs) fun σ H Q p => lc_read (iter := iter) hin (tM_kf p)
end
end Snd

-- Snd15
set_option autoImplicit false
set_option linter.all false
set_option Elab.async false
set_option maxRecDepth 100000
set_option maxHeartbeats 4000000
/-! soundness of M, part 15: statements -/
namespace Snd
open PySem PySem.Spec PyProof.Rows L2 MM
/-- what is wanted of a statement's flow -/
def FlQ (g : GW) (envs : Fs) (D : Ends) : Fl → MH → List Addr → Hp → Prop := fun f _ ρ H => match f with
  | .nx τ => ∀ σ, RepS g envs ρ H τ σ → D.nx σ H
  | .bk τ => ∀ σ, RepS g envs ρ H τ σ → D.bk σ H
  | .ct τ => ∀ σ, RepS g envs ρ H τ σ → D.ct σ H
  | .rt v => ∀ u, Rep g envs ρ H v u → D.rt u H
def tS (g : GW) (envs : Fs) (E : XK) (m : MSt → M Fl) : TS := fun D σ H => ∃ ρ τ h, RepS g envs ρ H τ σ ∧ RepH g envs ρ H h ∧ RPost g envs E ρ H (m τ h) (FlQ g envs D)
def isStarred : Expr → Bool
  | .Starred _ _ => true
  | _ => false
section
variable {g : GW} {ev : Fs} {X : Cx} {E : XK} {pins : List (Addr × Obj)} {σ : St} {H H0 : Hp} {s : Shared} {ρ ρ0 : List Addr} {h h0 : MH} {pos : Pos} {tg : Expr}
theorem pss_nilM : PSs X [] (tS g ev E fun τ => M.pure (.nx τ)) :=
  ⟨fun pins s σ H D I ⟨ρ, τ, h, rs, rh, p⟩ => pss_nil.run pins s σ H D I (p ρ H Grow.refl rh σ rs)⟩
theorem pss_consM {a : Stmt} {b : List Stmt} {ma mb : MSt → M Fl} (ha : PS X a (tS g ev E ma)) (hb : PSs X b (tS g ev E mb)) :
    PSs X (a :: b) (tS g ev E fun τ => M.bind (ma τ) fun | .nx τ' => mb τ' | f => M.pure f) := by
  refine ⟨fun pins s σ H D I ⟨ρ, τ, h, rs, rh, p⟩ => (pss_cons ha hb).run pins s σ H D I ⟨ρ, τ, h, rs, rh, p.bind.imp fun f h1 ρ1 H1 gr rh1 q => ?_⟩⟩
  cases f with
  | nx τ' => exact fun σ' rs' => ⟨ρ1, τ', h1, rs', rh1, q⟩
  | bk τ' => exact q ρ1 H1 Grow.refl rh1
  | ct τ' => exact q ρ1 H1 Grow.refl rh1
  | rt v => exact q ρ1 H1 Grow.refl rh1
theorem ps_passM : PS X (.Pass pos) (tS g ev E fun τ => M.pure (.nx τ)) :=
  ⟨fun pins s σ H D I ⟨ρ, τ, h, rs, rh, p⟩ => ps_pass.run pins s σ H D I (p ρ H Grow.refl rh σ rs)⟩
theorem ps_exprM {e : Expr} {m : MSt → M MV} (he : PE X e (T1 g ev E m)) (hs : swapsWith e none pos.line X.env = pure false) : PS X (.Expr e pos) (tS g ev E fun τ => M.bind (m τ) fun _ => M.pure (.nx τ)) := by
  refine ⟨fun pins s σ H D I ⟨ρ, τ, h, rs, rh, p⟩ => (ps_expr he hs).run pins s σ H D I ⟨ρ, τ, h, rs, rh, p.bind.imp fun d h1 ρ1 H1 gr rh1 q v rv => ?_⟩⟩
  exact q ρ1 H1 Grow.refl rh1 σ (rs.up rh gr)
theorem ps_retM {e : Expr} {m : MSt → M MV} (he : PE X e (T1 g ev E m)) : PS X (.Return (some e) pos) (tS g ev E fun τ => M.bind (m τ) fun v => M.pure (.rt v)) := by
  refine ⟨fun pins s σ H D I ⟨ρ, τ, h, rs, rh, p⟩ => (ps_ret he).run pins s σ H D I ⟨ρ, τ, h, rs, rh, p.bind.imp fun d h1 ρ1 H1 gr rh1 q v rv => ?_⟩⟩
  exact q ρ1 H1 Grow.refl rh1 v rv
theorem ps_retNM : PS X (.Return none pos) (tS g ev E fun _ => M.pure (.rt .none)) :=
  ⟨fun pins s σ H D I ⟨ρ, τ, h, rs, rh, p⟩ => ps_retN.run pins s σ H D I (p ρ H Grow.refl rh _ rep_non)⟩
theorem ps_ifM {t : Expr} {a b : List Stmt} {mt : MSt → M Bool} {ma mb : MSt → M Fl} (ht : PT X t (TT1 g ev E mt)) (ha : PSs X a (tS g ev E ma)) (hb : PSs X b (tS g ev E mb)) :
    PS X (.If t a b pos) (tS g ev E fun τ => M.bind (mt τ) fun r => if r = true then ma τ else mb τ) := by
  refine ⟨fun pins s σ H D I ⟨ρ, τ, h, rs, rh, p⟩ => (ps_if ht ha hb).run pins s σ H D I ⟨ρ, τ, h, rs, rh, p.bind.imp fun d h1 ρ1 H1 gr rh1 q => ?_⟩⟩
  cases d with
  | true => exact ⟨ρ1, τ, h1, rs.up rh gr, rh1, q⟩
  | false => exact ⟨ρ1, τ, h1, rs.up rh gr, rh1, q⟩
/-- a flow's wish, at the loop's turn -/
theorem ps_whlM {t : Expr} {b : List Stmt} {mt : MSt → M Bool} {mb : MSt → M Fl} {n : Nat} (hp : PassesOwn (model X.prog X.w) X.A X.env X.xe) (ht : PT X t (TT1 g ev E mt)) (hb : PSs X b (tS g ev E mb)) :
    PS X (.While t b [] pos) (tS g ev E fun τ => whileN mt mb n τ) := by
  refine ⟨fun pins s σ H D I p => (ps_while hp ht hb).run pins s σ H D I ⟨fun m σ H => tS g ev E (fun τ => whileN mt mb m τ) D σ H, ⟨n, p⟩, ?_⟩⟩
  rintro m σ H ⟨ρ, τ, h, rs, rh, p⟩
  cases m with
  | zero => exact p.elim
  | succ m =>
    refine ⟨ρ, τ, h, rs, rh, (RPost.bind (m := mt τ) p).imp fun r h1 ρ1 H1 gr rh1 q => ?_⟩
    cases r with
    | false => exact q ρ1 H1 Grow.refl rh1 σ (rs.up rh gr)
    | true =>
      refine ⟨fun σ H => tS g ev E (fun τ => whileN mt mb m τ) D σ H, fun σ' H' w => ⟨m, Nat.lt_succ_self _, w⟩, ρ1, τ, h1, rs.up rh gr, rh1, (RPost.bind (m := mb τ) q).imp fun f h2 ρ2 H2 gr2 rh2 q2 => ?_⟩
      cases f with
      | nx τ' => exact fun σ' rs' => ⟨ρ2, τ', h2, rs', rh2, q2⟩
      | ct τ' => exact fun σ' rs' => ⟨ρ2, τ', h2, rs', rh2, q2⟩
      | bk τ' => exact q2 ρ2 H2 Grow.refl rh2
      | rt v => exact q2 ρ2 H2 Grow.refl rh2
/-- a target bound, as a reading -/
theorem gX_of {t : MT} {d : MV} {x : V} {τ : MSt} {α : Type} {f : MSt → M α} {P : α → MH → List Addr → Hp → Prop} {Q : St → Hp → Prop} (rd : Rep g ev ρ H d x) (rs : RepS g ev ρ H τ σ) (rh : RepH g ev ρ H h)
    (p : RPost g ev E ρ H (M.bind (MM.bindM t d τ) f h) P) (hq : ∀ τ' σ', RepS g ev ρ H τ' σ' → RPost g ev E ρ H (f τ' h) P → Q σ' H) : gX g.K t x σ H Q := by
  unfold M.bind at p
  cases e : MM.bindM t d τ h with
  | ok τ' h' =>
    rw [e] at p
    obtain ⟨e2, σ', rs', _, q⟩ := bind_of e rd rs
    subst e2
    exact q Q (hq τ' σ' rs' p)
  | exc k n h' =>
    exfalso
    cases t with
    | nm i => cases e
    | tup is =>
      cases d with
      | tuple ds =>
        simp only [MM.bindM] at e
        split at e <;> cases e
      | _ => cases e
  | bad => rw [e] at p; exact p.elim
theorem ps_asgM {e : Expr} {t : MT} {m : MSt → M MV} (he : PE X e (T1 g ev E m)) (hg : PG X tg (gX g.K t)) (hs : swapsWithSole [tg] e pos.line X.env = pure false) (hw : swappedStores [tg] e X.env = pure none)
    (h1 : (assignEach [tg] X.env).map (·.2) = [assign tg X.env]) : PS X (.Assign [tg] e pos) (tS g ev E fun τ => M.bind (m τ) fun v => M.bind (MM.bindM t v τ) fun τ' => M.pure (.nx τ')) := by
  refine ⟨fun pins s σ H D I ⟨ρ, τ, h, rs, rh, p⟩ => (ps_asg he hg hs hw h1).run pins s σ H D I ⟨ρ, τ, h, rs, rh, p.bind.imp fun d h1 ρ1 H1 gr rh1 q v rv => ?_⟩⟩
  exact gX_of rv (rs.up rh gr) rh1 q fun τ' σ' rs' q' => q' ρ1 H1 Grow.refl rh1 σ' rs'
theorem ps_setLcM {i : Nat} {y : Str} {py : Pos} {elt iter : Expr} {ifs : List Expr} {scope : Scope} {own : List (Str × Nat)} {cpos : Pos} {mu : Bool} {t : MT} {mi : MSt → M (List MV)} {mt : MSt → M Bool} {me : MSt → M MV} (c : Cn g ev X E)
    (hy : X.N[i]? = some y) (hyl : X.env.scope.names.lookup y = some .local) (hsw : swapsWith (.ListComp elt [⟨tg, iter, ifs, 0⟩] scope cpos) (some (.Name y py)) pos.line X.env = pure true)
    (hpi : PI X tg iter (tI g ev E mi)) (ok : BlkOk X.N X.env.scope scope own)
    (hg : ∀ (s : Shared) (H : Hp) (C : Addr) (cl : List (Str × Addr)) (fp : List Addr), PG (X.blk s H scope (compEnvC scope cl C X.env) fp) tg (gX g.K t))
    (ht : ∀ (D : Addr) (s : Shared) (H : Hp) (C : Addr) (cl : List (Str × Addr)) (fp : List Addr), PTs (X.blk s H scope (compEnvC scope cl C X.env) fp) ifs (tMT (gh g D) ev noX mt))
    (he : ∀ (D : Addr) (s : Shared) (H : Hp) (C : Addr) (cl : List (Str × Addr)) (fp : List Addr), PE (X.blk s H scope (compEnvC scope cl C X.env) fp) elt (tM (gh g D) ev noX me)) (hs : ∀ x, foldedSetIterable iter X.env x = pure x)
    (hin : ∀ i ∈ tgIx t, i ∈ own.map (·.2)) :
    PS X (.Assign [.Name y py] (.ListComp elt [⟨tg, iter, ifs, 0⟩] scope cpos) pos) (tS g ev E fun τ => M.bind (M.bind (mi τ) fun xs => M.bind (noexc (lcF (MM.bindM t) mt me (wipeM τ (own.map (·.2))) xs)) fun ys => if ys.length ≤ cap then mkList mu ys else bad) fun v => M.bind (MM.bindM (.nm i) v τ) fun τ' => M.pure (.nx τ')) := by
  refine ⟨fun pins s σ H D I ⟨ρ, τ, h, rs, rh, p⟩ => (ps_setLc c.calm c.nd hy hyl hsw hpi ok hg (fun s H C cl fp => exDT fun D => ht D s H C cl fp) (fun s H C cl fp => exD fun D => he D s H C cl fp) hs).run pins s σ H D I
    (lc_read (iter := iter) hin ⟨ρ, τ, h, rs, rh, p.bind.imp fun d h1 ρ1 H1 gr rh1 q v rv => ?_⟩)⟩
  exact q ρ1 H1 Grow.refl rh1 _ ((rs.up rh gr).set i rv)
theorem ps_par2M {i j : Nat} {x y : Str} {a b : Expr} {ms : MSt → M (List MV)} {px py pt : Pos} {kt k2 pt2} (c : Cn g ev X E) (hi : X.N[i]? = some x) (hj : X.N[j]? = some y) (hij : i ≠ j)
    (hx : X.env.scope.names.lookup x = some .local) (hy : X.env.scope.names.lookup y = some .local) (ha : PA X [a, b] (tMA g ev E ms))
    (hw : swappedStores [.Tuple [.Name x px, .Name y py] kt pt] (.Tuple [a, b] k2 pt2) X.env = pure (some [x, y])) :
    PS X (.Assign [.Tuple [.Name x px, .Name y py] kt pt] (.Tuple [a, b] k2 pt2) pos) (tS g ev E fun τ => M.bind (ms τ) fun vs => if vs.length = [i, j].length then M.pure (.nx (setAll τ [i, j] vs)) else bad) := by
  refine ⟨fun pins s σ H D I ⟨ρ, τ, h, rs, rh, p⟩ => (ps_par c.calm c.nd hi hj hij hx hy ha hw rfl).run pins s σ H D I ⟨ρ, τ, h, rs, rh, p.bind.imp fun ds h1 ρ1 H1 gr rh1 q vs rv => ?_⟩⟩
  obtain ⟨hl, q⟩ := rpost_ite q
  have hl2 := rv.length
  match ds, vs, hl, rv, q with
  | [d, e], [v, w], _, rv, q => exact ⟨v, w, rfl, q ρ1 H1 Grow.refl rh1 _ ((rs.up rh gr).setAll (is := [i, j]) rv)⟩
  | [d, e], [], _, rv, _ => simp at hl2
  | [d, e], [_], _, rv, _ => simp at hl2
  | [d, e], _ :: _ :: _ :: _, _, rv, _ => simp at hl2
theorem ps_par3M {i j l : Nat} {x y z : Str} {a b d : Expr} {ms : MSt → M (List MV)} {px py pz pt : Pos} {kt k2 pt2} (c : Cn g ev X E) (hi : X.N[i]? = some x) (hj : X.N[j]? = some y) (hl : X.N[l]? = some z) (hij : i ≠ j) (hil : i ≠ l) (hjl : j ≠ l)
    (hx : X.env.scope.names.lookup x = some .local) (hy : X.env.scope.names.lookup y = some .local) (hz : X.env.scope.names.lookup z = some .local) (ha : PA X [a, b, d] (tMA g ev E ms))
    (hw : swappedStores [.Tuple [.Name x px, .Name y py, .Name z pz] kt pt] (.Tuple [a, b, d] k2 pt2) X.env = pure (some [x, y, z])) :
    PS X (.Assign [.Tuple [.Name x px, .Name y py, .Name z pz] kt pt] (.Tuple [a, b, d] k2 pt2) pos) (tS g ev E fun τ => M.bind (ms τ) fun vs => if vs.length = [i, j, l].length then M.pure (.nx (setAll τ [i, j, l] vs)) else bad) := by
  refine ⟨fun pins s σ H D I ⟨ρ, τ, h, rs, rh, p⟩ => (ps_par3 c.calm c.nd hi hj hl hij hil hjl hx hy hz ha hw rfl).run pins s σ H D I ⟨ρ, τ, h, rs, rh, p.bind.imp fun ds h1 ρ1 H1 gr rh1 q vs rv => ?_⟩⟩
  obtain ⟨hl, q⟩ := rpost_ite q
  have hl2 := rv.length
  match ds, vs, hl, rv, q with
  | [d, e, f], [v, w, u], _, rv, q => exact ⟨v, w, u, rfl, q ρ1 H1 Grow.refl rh1 _ ((rs.up rh gr).setAll (is := [i, j, l]) rv)⟩
  | [d, e, f], [], _, rv, _ => simp at hl2
  | [d, e, f], [_], _, rv, _ => simp at hl2
  | [d, e, f], [_, _], _, rv, _ => simp at hl2
  | [d, e, f], _ :: _ :: _ :: _ :: _, _, rv, _ => simp at hl2
theorem ps_subM {o i e : Expr} {mo mi m : MSt → M MV} {p2 : Pos} (c : Cn g ev X E) (he : PE X e (T1 g ev E m)) (ho : PE X o (T1 g ev E mo)) (hi : PE X i (T1 g ev E mi)) (hix : plainIx i = true) (hs : swapsWithSole [.Subscript o i p2] e pos.line X.env = pure false) :
    PS X (.Assign [.Subscript o i p2] e pos) (tS g ev E fun τ => M.bind (m τ) fun v => M.bind (mo τ) fun x => M.bind (mi τ) fun k => M.bind (putM x k v) fun _ => M.pure (.nx τ)) := by
  have ha : ∀ v, assign (.Subscript o i p2) X.env v = (do
      let ov ← holding [v] (eval o X.env)
      let iv ← holding [v, ov] (eval i X.env)
      standAt p2
      holding [v, ov, iv] (setItem ov iv v)
      release [v, ov, iv] []) := by intro v; cases i <;> first | rfl | cases hix
  refine ⟨fun pins s σ H D I ⟨ρ, τ, h, rs, rh, p⟩ => (ps_asg he (pg_sub ho hi (set_M (E := E) c) ha) hs (by rfl) (by rfl)).run pins s σ H D I ⟨ρ, τ, h, rs, rh, p.bind.imp fun d h1 ρ1 H1 gr rh1 q v rv => ?_⟩⟩
  refine ⟨ρ1, τ, h1, rs.up rh gr, rh1, q.bind.imp fun x h2 ρ2 H2 gr2 rh2 q2 vx rx => ?_⟩
  refine ⟨ρ2, τ, h2, (rs.up rh gr).up rh1 gr2, rh2, q2.bind.imp fun k h3 ρ3 H3 gr3 rh3 q3 vk rk => ?_⟩
  refine ⟨ρ3, h3, x, k, d, rh3, rx.up rh2 gr3, rk, (rv.up rh1 gr2).up rh2 gr3, q3.bind.imp fun _ h4 ρ4 H4 gr4 rh4 q4 => ?_⟩
  exact q4 ρ4 H4 Grow.refl rh4 σ ((((rs.up rh gr).up rh1 gr2).up rh2 gr3).up rh3 gr4)
theorem ps_forM {iter : Expr} {b : List Stmt} {t : MT} {mi : MSt → M (List MV)} {mb : MSt → M Fl} (c : Cn g ev X E) (hp : PassesOwn (model X.prog X.w) X.A X.env X.xe) (hpi : PI X tg iter (tI g ev E mi)) (hg : PG X tg (gX g.K t)) (hb : PSs X b (tS g ev E mb))
    (hs : ∀ x, foldedSetIterable iter X.env x = pure x) :
    PS X (.For tg iter b [] pos) (tS g ev E fun τ => M.bind (mi τ) fun xs => loopF (fun v τ => M.bind (MM.bindM t v τ) fun τ' => mb τ') xs τ) := by
  refine ⟨fun pins s σ H D I ⟨ρ, τ, h, rs, rh, p⟩ => (ps_for hp c.calm hpi hg hb hs).run pins s σ H D I ⟨ρ, τ, h, rs, rh, p.bind.imp fun ds h1 ρ1 H1 gr rh1 p1 J srv => ?_⟩⟩
  refine ⟨fun i m σ H => m = ds.length - i ∧ i ≤ ds.length ∧ ∃ ρi τi hi, Grow g ρ1 H1 ρi H ∧ RepS g ev ρi H τi σ ∧ RepH g ev ρi H hi ∧ RPost g ev E ρi H (loopF (fun v τ => M.bind (MM.bindM t v τ) fun τ' => mb τ') (ds.drop i) τi hi) (FlQ g ev D),
    ⟨ds.length, rfl, Nat.zero_le _, ρ1, τ, h1, Grow.refl, rs.up rh gr, rh1, by simpa using p1⟩, ?_⟩
  rintro i m σ Hi ⟨rfl, hil, ρi, τi, hi, gri, rsi, rhi, pi⟩
  by_cases hlt : i < ds.length
  · have hd : ds[i]? = some ds[i] := List.getElem?_eq_getElem hlt
    obtain ⟨go, yl⟩ := srv.go g ρi Hi hi i ds[i] gri (fun d v r => r.up rh1 gri) rhi hd
    rw [List.drop_eq_getElem_cons hlt] at pi
    refine .inr ⟨go, fun σ' H' => ∃ ρi τi hi, Grow g ρ1 H1 ρi H' ∧ RepS g ev ρi H' τi σ' ∧ RepH g ev ρi H' hi ∧ RPost g ev E ρi H' (loopF (fun v τ => M.bind (MM.bindM t v τ) fun τ' => mb τ') (ds.drop (i + 1)) τi hi) (FlQ g ev D),
      fun σ' H' w => ⟨ds.length - (i + 1), by omega, rfl, hlt, w⟩, fun x H' y => ?_⟩
    obtain ⟨ext, rx⟩ := yl x H' y
    have gr' : Grow g ρi Hi ρi H' := Grow.ext ext
    have rh' := rhi.ext0 ext
    have pi := RPost.grow gr' pi
    unfold loopF at pi
    rw [bind_assoc] at pi
    refine gX_of rx (rsi.up rhi gr') rh' pi fun τ' σ' rs' q' => ⟨ρi, τ', hi, rs', rh', (RPost.bind (m := mb τ') q').imp fun f h2 ρ2 H2 gr2 rh2 q2 => ?_⟩
    cases f with
    | nx τ2 => exact fun σ2 rs2 => ⟨ρ2, τ2, h2, gri.trans (gr'.trans gr2), rs2, rh2, q2⟩
    | ct τ2 => exact fun σ2 rs2 => ⟨ρ2, τ2, h2, gri.trans (gr'.trans gr2), rs2, rh2, q2⟩
    | bk τ2 => exact q2 ρ2 H2 Grow.refl rh2
    | rt v => exact q2 ρ2 H2 Grow.refl rh2
  · have hie : i = ds.length := by omega
    subst hie
    refine .inl ⟨srv.stop ρi Hi gri, ?_⟩
    rw [List.drop_length] at pi
    exact pi ρi Hi Grow.refl rhi σ rsi
end
end Snd

-- Snd16
set_option autoImplicit false
set_option linter.all false
set_option Elab.async false
set_option maxRecDepth 100000
set_option maxHeartbeats 4000000
/-! soundness of M, part 16: calls -/
namespace Snd
open PySem PySem.Spec PyProof.Rows L2 MM
/-- a def, as it is written -/
structure DF where
  name : Str
  params : Arguments
  body : List Stmt
  scope : Scope
  ps : List Str
  N : List Str
/-- M's suspended frames -/
def Kof (c : Fs) : List (Option MSt) := c.fr.map fun o => o.map (·.1)
def fnObj (df : DF) (dV kV doc pm : Value) (an : Option Addr) (cdv ct : Value) : FuncData := PySem.W.fnOf df.name df.name df.params df.body df.scope dV kV doc pm an cdv ct
/-- a def stands in the world -/
structure DefAt (g : GW) (f : Nat) (df : DF) (fa : Addr) : Prop where
  nm : g.nm f = df.name
  N : g.N f = df.N
  mg : g.mg df.name = some (.ref fa)
  keep : PySem.W.keepIn g.K (.ref fa) = true
  nd : (df.name == ("__debug__" : Str)) = false
  obj : ∃ (oc : Value) (od : Option Addr) (dV kV doc pm : Value) (an : Option Addr) (cdv ct : Value) (osl : Array (Option Value)), g.K.lookup fa = some ⟨oc, od, .func (fnObj df dV kV doc pm an cdv ct), osl⟩ ∧ PySem.W.codeIn g.K cdv df.name = true ∧
    (∀ us : List Value, us.length = df.ps.length → bindArgs (fnObj df dV kV doc pm an cdv ct) ⟨us, []⟩ = pure (df.ps.zip us))
  sc : FnScope df.N df.ps df.scope
/-- a def's call, as M has it -/
def FnM (g : GW) (cfg : Cfg) (k : Nat) (f : Nat) (df : DF) (fa : Addr) : Prop :=
  ∀ (base : Heap) (A : Around) (outer : List Env) (s : Shared) (H : Hp) (c : Fs) (ρ : List Addr) (h : MH) (ds : List MV) (vs : List V) (us : List Value) (Q : VK) (E : XK), Room k A → Env0 g.P g.w g.K g.mg base A outer s H → FrOk g c base → c.ev.length = c.fr.length → Vals vs us →
    RepH g c ρ H h → Reps g c ρ H ds vs → RPost g c E ρ H (cfg.fn f (Kof c) ds h) (VQ g c Q) → codeAny (model g.P g.w) A (.call (.ref fa) ⟨us, []⟩) (CR (L2.CX g.P g.w) outer g.P g.w H s Q E) s
/-- the def's own context -/
structure Tp (g : GW) (ev : Fs) (X : Cx) : Prop where
  own : ∃ n, ev.ev[ev.fr.length]? = some (n, X.env) ∧ g.N n = X.N
  fnT : ∀ x, X.fn x = true
/-- the frames of a call out of the context -/
def Fs.sus (c : Fs) (o : Option (MSt × St)) : Fs := ⟨c.ev, c.fr ++ [o]⟩
section
variable {g : GW} {ev : Fs} {X : Cx} {E : XK} {pins : List (Addr × Obj)} {σ : St} {H H0 : Hp} {s : Shared} {ρ ρ0 : List Addr} {h h0 : MH} {pos : Pos} {tg : Expr}
theorem evx {envs envs' : Fs} (e : envs.ev = envs'.ev) : ∀ (j : Nat) (x : Nat × Env), envs.ev[j]? = some x → envs'.ev[j]? = some x := fun j x q => by rw [← e]; exact q
theorem susx {o : Option (MSt × St)} : ∀ (j : Nat) (x : Nat × Env), ev.ev[j]? = some x → (Fs.sus ev o).ev[j]? = some x := fun _ _ h => h
theorem susy {o : Option (MSt × St)} : ∀ (j : Nat) (x : Nat × Env), (Fs.sus ev o).ev[j]? = some x → ev.ev[j]? = some x := fun _ _ h => h
theorem RepH.toSus (rh : RepH g ev ρ H h) {o : Option (MSt × St)} (ho : ∀ τ σ, o = some (τ, σ) → RepS g ev ρ H τ σ) : RepH g (Fs.sus ev o) ρ H h :=
  ⟨rh.len, rh.nd, fun n ob a h1 h2 => by
    have q := rh.at_ n ob a h1 h2
    exact q.grow rh.mut Grow.refl susx rfl, rh.tabs, fun j τ σ hj => by
      show RepS g _ ρ H τ σ
      by_cases hl : j < ev.fr.length
      · exact (rh.frs j τ σ (by rw [← hj]; show _ = (ev.fr ++ [o])[j]?; rw [List.getElem?_append_left hl])).grow rh.mut Grow.refl susx
      · have hj : (ev.fr ++ [o])[j]? = some (some (τ, σ)) := hj
        rw [List.getElem?_append_right (by omega)] at hj
        have e : j - ev.fr.length = 0 := by
          have := (List.getElem?_eq_some_iff.mp hj).1
          simp at this; omega
        rw [e] at hj
        have ho' : o = some (τ, σ) := by simpa using hj
        exact (ho τ σ ho').grow rh.mut Grow.refl susx, rh.gsok⟩
theorem RepH.ofSus {o : Option (MSt × St)} (rh : RepH g (Fs.sus ev o) ρ H h) : RepH g ev ρ H h :=
  ⟨rh.len, rh.nd, fun n ob a h1 h2 => by
    have q := rh.at_ n ob a h1 h2
    exact q.grow rh.mut Grow.refl susy rfl, rh.tabs, fun j τ σ hj => by
      have hl := (List.getElem?_eq_some_iff.mp hj).1
      refine (rh.frs j τ σ ?_).grow rh.mut Grow.refl susy
      show (ev.fr ++ [o])[j]? = _
      rw [List.getElem?_append_left hl]; exact hj, rh.gsok⟩
theorem RPost.toSus {α : Type} {o : Option (MSt × St)} {r : Res α} {Q Q' : α → MH → List Addr → Hp → Prop} (p : RPost g ev E ρ H r Q) (hq : ∀ a h' ρ' H', Grow g ρ H ρ' H' → RepH g ev ρ' H' h' → Q a h' ρ' H' → Q' a h' ρ' H') : RPost g (Fs.sus ev o) E ρ H r Q' := by
  cases r with
  | ok a h1 => exact fun ρ' H' gr rh => hq _ _ _ _ gr rh.ofSus (p ρ' H' gr rh.ofSus)
  | exc c n h1 => exact fun ρ' H' cls d gr rh re => p ρ' H' cls d gr rh.ofSus re
  | bad => exact p
theorem VQ.toSus {o : Option (MSt × St)} {r : Res MV} {Q : VK} (p : RPost g ev E ρ H r (VQ g ev Q)) : RPost g (Fs.sus ev o) E ρ H r (VQ g (Fs.sus ev o) Q) :=
  p.toSus fun a h' ρ' H' _ rh q v rv => q v (rv.grow rh.mut Grow.refl susy)
/-! a larger base -/
theorem restrict2 (h : Heap) (p : Addr → Bool) : ∃ G : Heap, G.objs.size = h.objs.size ∧ (∀ b, p b = true → G.get? b = h.get? b) ∧ (∀ b, p b = false → G.get? b = none) := by
  have mem : ∀ b, b ∈ ((List.range h.objs.size).filter fun b => !p b) ↔ b < h.objs.size ∧ p b = false := fun b => by simp [List.mem_filter]
  refine ⟨PySem.W.hideAll h ((List.range h.objs.size).filter fun b => !p b), PySem.W.hideAll_size _ _, fun b hb => ?_, fun b hb => ?_⟩
  · cases e : h.get? b with
    | some o => exact PySem.W.hideAll_get _ e fun m => by rw [((mem b).mp m).2] at hb; cases hb
    | none =>
      cases q : (PySem.W.hideAll h ((List.range h.objs.size).filter fun b => !p b)).get? b with
      | none => rfl
      | some o => rw [PySem.W.of_hideAll _ q] at e; cases e
  · by_cases hl : b < h.objs.size
    · exact PySem.W.hideAll_none _ ((mem b).mpr ⟨hl, hb⟩)
    · cases q : (PySem.W.hideAll h ((List.range h.objs.size).filter fun b => !p b)).get? b with
      | none => rfl
      | some o => exact absurd (Heap.lt_size (PySem.W.of_hideAll _ q)) hl
theorem funs_more {hp base base' : Heap} : ∀ {l : List Env}, hp.FunFrames base l → (∀ L ∈ frs l, base.get? L = none → base'.get? L = none) → hp.FunFrames base' l
  | [], _, _ => trivial
  | env :: l, ⟨h1, ⟨L, o, e1, e2, e3, e4⟩, h2⟩, hn => ⟨h1, ⟨L, o, e1, hn L (by unfold frs; rw [List.filterMap_cons, e1]; exact List.mem_cons_self) e2, e3, e4⟩,
      funs_more h2 fun L' hL' => hn L' (by unfold frs at hL' ⊢; rw [List.filterMap_cons, e1]; exact List.mem_cons_of_mem _ hL')⟩
theorem EnvB.more {base base' : Heap} {env : Env} {N : List Str} {σ : St} (e : EnvB base env N σ) (k : ∀ b o, base.get? b = some o → base'.get? b = some o) : EnvB base' env N σ :=
  ⟨e.inj, fun y c hc => let ⟨v, o, h1, h2⟩ := e.cell y c hc; ⟨v, o, k _ _ h1, h2⟩, e.has, fun i x v h1 h2 h3 => let ⟨u, c, r, e1, o, e2, e3⟩ := e.val i x v h1 h2 h3; ⟨u, c, r, e1, o, k _ _ e2, e3⟩, e.len⟩
/-- the base with the frame's cells -/
theorem rebase (tp : Tp g ev X) (c : Cn g ev X E) (I : Inv X pins σ H s) (τ : MSt) : ∃ base', (∀ b o, X.base.get? b = some o → base'.get? b = some o) ∧ Env0 X.prog X.w X.K X.mg base' X.A X.stack s H ∧ FrOk g (Fs.sus ev (some (τ, σ))) base' := by
  obtain ⟨G, g0, g1, g2⟩ := restrict2 s.heap fun b => (X.base.get? b).isSome || X.env.cells.any (fun q => decide (X.env.cells.lookup q.1 = some b))
  have e0 := I.env0
  have cellM : ∀ {y c}, X.env.cells.lookup y = some c → X.env.cells.any (fun q => decide (X.env.cells.lookup q.1 = some c)) = true := fun {y c} e => List.any_eq_true.mpr ⟨(y, c), PySem.mem_of_lookup e, by simpa using e⟩
  have old : ∀ b o, X.base.get? b = some o → G.get? b = some o := fun b o e => by rw [g1 b (by simp [e])]; exact (e0.bs b o e).1
  have memC : ∀ b, X.env.cells.any (fun q => decide (X.env.cells.lookup q.1 = some b)) = true → ∃ y, X.env.cells.lookup y = some b := fun b hb => by
    obtain ⟨q, _, h⟩ := List.any_eq_true.mp hb
    exact ⟨q.1, by simpa using h⟩
  have cellG : ∀ {y c} {v : Option Value}, X.env.cells.lookup y = some c → s.heap.IsCell c v → G.IsCell c v := fun {y c v} e ⟨o, h1, h2⟩ => ⟨o, by rw [g1 c (by simp [cellM e])]; exact h1, h2⟩
  have new : ∀ b o, G.get? b = some o → s.heap.get? b = some o ∧ H b = none := fun b o e => by
    cases q : ((X.base.get? b).isSome || X.env.cells.any (fun q => decide (X.env.cells.lookup q.1 = some b))) with
    | false => rw [g2 b q] at e; cases e
    | true =>
      rw [g1 b q] at e
      refine ⟨e, ?_⟩
      rcases Bool.or_eq_true _ _ ▸ q with z | z
      · obtain ⟨o', z⟩ := Option.isSome_iff_exists.mp z
        exact (e0.bs b o' z).2
      · obtain ⟨y, hy⟩ := memC b z
        exact I.freeC y b hy
  refine ⟨G, old, ⟨e0.frames, ⟨e0.mod.kin.keeps old, e0.mod.glob.keeps old, ?_, e0.mod.nolimit.keeps old⟩, new, by rw [g0]; exact Nat.le_refl _, funs_more e0.funs fun L hL hn => ?_, e0.frf, e0.hok, e0.bare⟩, ?_, fun j τ' σ' hj => ?_⟩
  · obtain ⟨mb, h1, h2⟩ := e0.mod.blt
    exact ⟨mb, h1.keeps old, h2⟩
  · refine g2 L ?_
    rw [hn]
    cases hm : X.env.cells.any (fun q => decide (X.env.cells.lookup q.1 = some L)) with
    | false => rfl
    | true =>
    exfalso
    obtain ⟨y, hy⟩ := memC L hm
    rcases List.mem_cons.mp (I.stkSub L hL) with z | z
    · exact I.cne y L hy z
    · have h1 := I.ok.cab y L (tp.fnT y) hy
      obtain ⟨_, o, h2, _⟩ := I.ok.funs.mem z
      exact absurd (Heap.lt_size h2) (Nat.not_lt_of_le h1)
  · show (ev.fr ++ [some (τ, σ)]).length ≤ ev.ev.length
    rw [c.lenE]; simp
  · have hj : (ev.fr ++ [some (τ, σ)])[j]? = some (some (τ', σ')) := hj
    by_cases hl : j < ev.fr.length
    · rw [List.getElem?_append_left hl] at hj
      obtain ⟨n, env, e1, e2⟩ := c.fok.2 j τ' σ' hj
      exact ⟨n, env, e1, e2.more old⟩
    · rw [List.getElem?_append_right (by omega)] at hj
      have e : j - ev.fr.length = 0 := by
        have := (List.getElem?_eq_some_iff.mp hj).1
        simp at this; omega
      have ej : j = ev.fr.length := by omega
      rw [e] at hj
      have hj : τ = τ' ∧ σ = σ' := by simpa using hj
      obtain ⟨e1, e2⟩ := hj
      subst e1 e2 ej
      obtain ⟨n, own, hN⟩ := tp.own
      refine ⟨n, X.env, own, I.ok.inj, fun y c hc => let ⟨v, q⟩ := I.cell y c hc; ⟨v, cellG hc q⟩, I.ok.has, fun i x v h1 h2 h3 => ?_, by rw [hN]; exact I.len⟩
      obtain ⟨m, hn, hl⟩ := I.loc
      rw [hN] at h1
      obtain ⟨u, r, q⟩ := hl i x v h1 h2 (.inr h3)
      rcases q with ⟨k, _⟩ | ⟨_, c', e', z⟩
      · have k : X.env.scope.names.lookup x = some .local := k
        rcases h3 with h3 | h3 <;> (rw [h3] at k; cases k)
      · exact ⟨u, c', r, e', cellG e' z⟩
end
end Snd

-- Snd17
set_option autoImplicit false
set_option linter.all false
set_option Elab.async false
set_option maxRecDepth 100000
set_option maxHeartbeats 4000000
/-! soundness of M, part 17: a call; a def's run -/
namespace Snd
open PySem PySem.Spec PyProof.Rows L2 MM
section
variable {g : GW} {ev : Fs} {X : Cx} {E : XK} {pins : List (Addr × Obj)} {σ : St} {H H0 : Hp} {s : Shared} {ρ ρ0 : List Addr} {h h0 : MH} {pos : Pos} {tg : Expr} {cfg : Cfg} {k : Nat} {f : Nat} {df : DF} {fa : Addr}
theorem kof_sus (o : Option (MSt × St)) : Kof (Fs.sus ev o) = Kof ev ++ [o.map (·.1)] := by simp [Kof, Fs.sus]
/-- what a call leaves -/
theorem after_call {base : Heap} {us : List Value} {Q : VK} (c : Cn g ev X E) (I : Inv X pins σ H s) (h : codeAny (model g.P g.w) X.A (.call (.ref fa) ⟨us, []⟩) (CR (L2.CX g.P g.w) X.stack g.P g.w H s Q E) s) :
    wpAny (model X.prog X.w) X.A (call (.ref fa) us) (EP X pins σ Q) X.xe s := by
  rw [← c.hP, ← c.hw] at h
  have hx : Passes (L2.CX X.prog X.w) X E := passes_call c.takes fun _ _ _ _ h => h
  refine wpAny_call (codeAny_mono h fun r s' hq => ?_)
  cases r with
  | error e => exact hx pins σ H s e s' I hq
  | ok fl =>
    cases fl with
    | ret u => exact I.after hq
    | next => exact False.elim hq
    | brk => exact False.elim hq
    | cont => exact False.elim hq
/-- the call, the arguments there: out of the def itself -/
theorem run_top {us : List Value} {vs : List V} {ds : List MV} {τ : MSt} {Q : VK} (c : Cn g ev X E) (tp : Tp g ev X) (hr : Room k X.A) (F : FnM g cfg k f df fa) (I : Inv X pins σ H s) (rs : RepS g ev ρ H τ σ) (rh : RepH g ev ρ H h) (r : Vals vs us) (rd : Reps g ev ρ H ds vs)
    (p : RPost g ev E ρ H (cfg.fn f (Kof ev ++ [some τ]) ds h) (VQ g ev Q)) : wpAny (model X.prog X.w) X.A (call (.ref fa) us) (EP X pins σ Q) X.xe s := by
  obtain ⟨base', old, e0, fo⟩ := rebase tp c I τ
  rw [c.hP, c.hw, c.hK, c.hm] at e0
  refine after_call (base := base') c I (F base' X.A X.stack s H (Fs.sus ev (some (τ, σ))) ρ h ds vs us Q E hr e0 fo ?_ r (rh.toSus fun τ' σ' e => ?_) (rd.grow rh.mut Grow.refl susx) ?_)
  · show ev.ev.length = (ev.fr ++ [some (τ, σ)]).length
    rw [c.lenE]; simp
  · cases e; exact rs
  · rw [kof_sus]
    exact VQ.toSus p
/-- .. out of a block -/
theorem run_blk {us : List Value} {vs : List V} {ds : List MV} {Q : VK} (c : Cn g ev X E) (hr : Room k X.A) (F : FnM g cfg k f df fa) (I : Inv X pins σ H s) (rh : RepH g ev ρ H h) (r : Vals vs us) (rd : Reps g ev ρ H ds vs)
    (p : RPost g ev E ρ H (cfg.fn f (Kof ev ++ [none]) ds h) (VQ g ev Q)) : wpAny (model X.prog X.w) X.A (call (.ref fa) us) (EP X pins σ Q) X.xe s := by
  have e0 := I.env0
  rw [c.hP, c.hw, c.hK, c.hm] at e0
  refine after_call (base := X.base) c I (F X.base X.A X.stack s H (Fs.sus ev none) ρ h ds vs us Q E hr e0 ⟨?_, fun j τ σ hj => ?_⟩ ?_ r (rh.toSus fun τ' σ' e => by cases e) (rd.grow rh.mut Grow.refl susx) ?_)
  · show (ev.fr ++ [none]).length ≤ ev.ev.length
    rw [c.lenE]; simp
  · have hj : (ev.fr ++ [none])[j]? = some (some (τ, σ)) := hj
    by_cases hl : j < ev.fr.length
    · rw [List.getElem?_append_left hl] at hj
      exact c.fok.2 j τ σ hj
    · rw [List.getElem?_append_right (by omega)] at hj
      have e : j - ev.fr.length = 0 := by
        have := (List.getElem?_eq_some_iff.mp hj).1
        simp at this; omega
      rw [e] at hj
      simp at hj
  · show ev.ev.length = (ev.fr ++ [none]).length
    rw [c.lenE]; simp
  · rw [kof_sus]
    exact VQ.toSus p
/-- top: out of the def itself -/
def TpB (g : GW) (ev : Fs) (X : Cx) (top : Bool) : Prop := top = true → Tp g ev X
theorem pe_callM {es : List Expr} {ms : MSt → M (List MV)} {top : Bool} {p : Pos} (c : Cn g ev X E) (tp : TpB g ev X top) (hr : Room k X.A) (W : DefAt g f df fa) (F : FnM g cfg k f df fa) (hg : Gl X df.name) (ha : PA X es (tMA g ev E ms)) (hp : allPlain es = true) (hne : es ≠ []) :
    PE X (.Call (.Name df.name p) es [] pos) (T1 g ev E fun τ => M.bind (ms τ) fun vs => cfg.fn f (Kof ev ++ [if top then some τ else none]) vs) := by
  refine ⟨fun pins s σ H Q I ⟨ρ, τ, h, rs, rh, q⟩ => ?_⟩
  refine wpAny_Call_Name_kw (ld_glob I hg (by rw [c.hm]; exact W.mg) ?_ W.nd)
  have hk : PySem.W.keepIn X.K (.ref fa) = true := by rw [c.hK]; exact W.keep
  have fin : ∀ (s1 : Shared) (H1 : Hp) (vs : List V) (us : List Value), Inv X pins σ H1 s1 → Vals vs us → (∃ ρ1 h1 ds, RepS g ev ρ1 H1 τ σ ∧ RepH g ev ρ1 H1 h1 ∧ Reps g ev ρ1 H1 ds vs ∧ RPost g ev E ρ1 H1 (cfg.fn f (Kof ev ++ [if top then some τ else none]) ds h1) (VQ g ev Q)) →
      wpAny (model X.prog X.w) X.A (call (.ref fa) us) (EP X pins σ Q) X.xe s1 := by
    rintro s1 H1 vs us I1 r ⟨ρ1, h1, ds, rs1, rh1, rd, q1⟩
    cases top with
    | true => exact run_top c (tp rfl) hr F I1 rs1 rh1 r rd q1
    | false => exact run_blk c hr F I1 rh1 r rd q1
  have hA := ha.run pos pins s σ H (fun vs H1 => ∃ ρ1 h1 ds, RepS g ev ρ1 H1 τ σ ∧ RepH g ev ρ1 H1 h1 ∧ Reps g ev ρ1 H1 ds vs ∧ RPost g ev E ρ1 H1 (cfg.fn f (Kof ev ++ [if top then some τ else none]) ds h1) (VQ g ev Q)) I
    ⟨ρ, τ, h, rs, rh, q.bind.imp fun ds h1 ρ1 H1 gr rh1 q1 vs rv => ⟨ρ1, h1, ds, rs.up rh gr, rh1, rv, q1⟩⟩
  cases es with
  | nil => exact absurd rfl hne
  | cons e es =>
    simp only [allPlain, Bool.and_eq_true] at hp
    exact PySem.W.callWith_K (h₀ := X.base) I.ok.mod.kin hk (thn hA fun us s1 ⟨vs, H1, I1, r, q1⟩ => ⟨I1.kIn, fin s1 H1 vs us I1 r q1⟩) (starE hp.1 _ _) (noAny hp.2 _ _)
theorem pe_callM0 {top : Bool} {p : Pos} (c : Cn g ev X E) (tp : TpB g ev X top) (hr : Room k X.A) (W : DefAt g f df fa) (F : FnM g cfg k f df fa) (hg : Gl X df.name) :
    PE X (.Call (.Name df.name p) [] [] pos) (T1 g ev E fun τ => cfg.fn f (Kof ev ++ [if top then some τ else none]) []) := by
  refine ⟨fun pins s σ H Q I ⟨ρ, τ, h, rs, rh, q⟩ => ?_⟩
  refine wpAny_Call_Name_kw (ld_glob I hg (by rw [c.hm]; exact W.mg) ?_ W.nd)
  have hk : PySem.W.keepIn X.K (.ref fa) = true := by rw [c.hK]; exact W.keep
  refine PySem.W.callWith_K0 I.kIn hk ?_
  cases top with
  | true => exact run_top (vs := []) c (tp rfl) hr F I rs rh .nil (by simp [Reps]) q
  | false => exact run_blk (vs := []) c hr F I rh .nil (by simp [Reps]) q
/-! ### a def's run -/
theorem startM_len {ds : List MV} {n : Nat} (h : ds.length ≤ n) : (startM ds n).length = n := by simp [startM]; omega
theorem startM_get {ds : List MV} {n i : Nat} {d : MV} (e : (startM ds n)[i]? = some (some d)) : ds[i]? = some d := by
  unfold startM at e
  by_cases hi : i < ds.length
  · rw [List.getElem?_append_left (by simpa using hi), List.getElem?_map] at e
    cases q : ds[i]? with
    | none => rw [q] at e; cases e
    | some a => rw [q] at e; cases e; rfl
  · rw [List.getElem?_append_right (by simpa using hi), List.getElem?_replicate] at e
    split at e <;> cases e
theorem start_get {N : List Str} {vs : List V} {i : Nat} {v : V} (hl : vs.length ≤ N.length) (e : vs[i]? = some v) : (L2.start N vs)[i]? = some (some v) := by
  unfold L2.start
  have hi := (List.getElem?_eq_some_iff.mp e).1
  rw [List.getElem?_append_left (by simpa using hi), List.getElem?_map, e]
  rfl
mutual
theorem okRet_out {envs : Fs} {j : Nat} (hj : envs.ev.length = j + 1) : ∀ (d : MV) (v : V), okRet j d = true → Rep g envs ρ H d v → Rep g ⟨envs.ev.take j, envs.fr⟩ ρ H d v
  | .none, _, _, h => by simpa [Rep] using h
  | .bool _, _, _, h => by simpa [Rep] using h
  | .int _, _, _, h => by simpa [Rep] using h
  | .str _, _, _, h => by simpa [Rep] using h
  | .list xs, v, o, h => by
    simp only [Rep] at h ⊢
    obtain ⟨a, vs, rfl, h1, h2, h3⟩ := h
    exact ⟨a, vs, rfl, h1, h2, okRets_out hj xs vs (by simpa [okRet] using o) h3⟩
  | .tuple xs, v, o, h => by
    simp only [Rep] at h ⊢
    obtain ⟨a, vs, rfl, h1, h3⟩ := h
    exact ⟨a, vs, rfl, h1, okRets_out hj xs vs (by simpa [okRet] using o) h3⟩
  | .dict kvs, v, o, h => by
    simp only [Rep] at h ⊢
    unfold RepX at h ⊢
    split at h
    · exact h
    · exact h
    · exact h
    · rename_i i jj
      obtain ⟨f, c', pm, ctv, dn, env, params, body, scope, rfl, a1, a2⟩ := h
      refine ⟨f, c', pm, ctv, dn, env, params, body, scope, rfl, ?_, a2⟩
      have o : decide (jj.toNat < j) = true := by simpa [okRet, clOf] using o
      have o : jj.toNat < j := by simpa using o
      show (envs.ev.take j)[jj.toNat]? = _
      rw [List.getElem?_take, if_pos o]; exact a1
    · exact h.elim
theorem okRets_out {envs : Fs} {j : Nat} (hj : envs.ev.length = j + 1) : ∀ (d : List MV) (v : List V), okRets j d = true → Reps g envs ρ H d v → Reps g ⟨envs.ev.take j, envs.fr⟩ ρ H d v
  | [], _, _, h => by simpa [Reps] using h
  | x :: xs, vs, o, h => by
    simp only [Reps] at h ⊢
    obtain ⟨y, ys, rfl, h1, h2⟩ := h
    have o : okRet j x = true ∧ okRets j xs = true := by simpa [okRets] using o
    exact ⟨y, ys, rfl, okRet_out hj x y o.1 h1, okRets_out hj xs ys o.2 h2⟩
end
end
end Snd

-- Snd18
set_option autoImplicit false
set_option linter.all false
set_option Elab.async false
set_option maxRecDepth 100000
set_option maxHeartbeats 4000000
/-! soundness of M, part 18: a def's run -/
namespace Snd
open PySem PySem.Spec PyProof.Rows L2 MM
/-- the names that the programs do not bind -/
def freeNames : List Str := ["len", "range", "sorted", "isinstance", "int", "bool", "tuple", "list", "str", "max", "min", "all", "any", "zip", "enumerate", "sum", "abs", "set"]
/-- a def's body is as M says -/
def BodyOk (g : GW) (cfg : Cfg) (k : Nat) (df : DF) (body : MS) : Prop :=
  ∀ (gs : List Addr) (ev : Fs) (X : Cx) (E : XK), Cn { g with gs := gs } ev X E → Tp { g with gs := gs } ev X → PassesOwn (model X.prog X.w) X.A X.env X.xe → Room k X.A → X.N = df.N → X.env.scope = df.scope →
    PSs X df.body (tS { g with gs := gs } ev E (evS cfg (Kof ev) body))
section
variable {g : GW} {ev : Fs} {X : Cx} {E : XK} {pins : List (Addr × Obj)} {σ : St} {H H0 : Hp} {s : Shared} {ρ ρ0 : List Addr} {h h0 : MH} {pos : Pos} {tg : Expr} {cfg : Cfg} {k : Nat} {f : Nat} {df : DF} {fa : Addr}
theorem RepH.back {c cb : Fs} {ρ1 : List Addr} {H1 : Hp} {h1 : MH} (rh : RepH g c ρ H h) (gr : Grow g ρ H ρ1 H1) (rh1 : RepH g cb ρ1 H1 h1) : RepH g c ρ1 H1 h1 :=
  ⟨rh1.len, rh1.nd, fun n ob a e1 e2 => by
    have q := rh1.at_ n ob a e1 e2
    cases ob with
    | lst xs => obtain ⟨p, vs, e, r⟩ := q; exact ⟨p, vs, e, Reps.sub (fun _ h => h) _ _ p r⟩
    | dct kvs => obtain ⟨ys, e, r⟩ := q; exact ⟨ys, e, RepK.sub (fun _ h => h) r⟩, rh1.tabs, fun j τ σ hj => (rh.frs j τ σ hj).grow rh.mut gr same_env, rh1.gsok⟩
theorem RepH.forth {c : Fs} {x : Nat × Env} (rh : RepH g c ρ H h) : RepH g ⟨c.ev ++ [x], c.fr⟩ ρ H h := by
  have he : ∀ (j : Nat) (e : Nat × Env), c.ev[j]? = some e → (c.ev ++ [x])[j]? = some e := fun j e q => by rw [List.getElem?_append_left (List.getElem?_eq_some_iff.mp q).1]; exact q
  exact ⟨rh.len, rh.nd, fun n ob a e1 e2 => (rh.at_ n ob a e1 e2).grow rh.mut Grow.refl he rfl, rh.tabs, fun j τ σ hj => (rh.frs j τ σ hj).grow rh.mut Grow.refl he, rh.gsok⟩
/-- what a run's end says of the def's flow -/
theorem gc_of {c cb : Fs} {Q : VK} {r : Res Fl} {fz : Bool} (rh : RepH g c ρ H h) (hcb : cb.fr = c.fr) (hev : cb.ev.take c.fr.length = c.ev) (hln : cb.ev.length = c.fr.length + 1) (p : RPost g c E ρ H (gc fz c.fr.length h r) (VQ g c Q)) :
    RPost g cb E ρ H r (FlQ g cb { nx := fun _ H' => Q .non H', rt := Q }) := by
  have hc : (⟨cb.ev.take c.fr.length, cb.fr⟩ : Fs) = c := by rw [hev, hcb]
  cases r with
  | ok fl h1 =>
    intro ρ1 H1 gr rh1
    cases fl with
    | rt v =>
      intro u ru
      by_cases hp : v.plain = true
      · have p : RPost g c E ρ H (.ok v (h1.take h.length)) (VQ g c Q) := by simpa only [gc, hp, if_true] using p
        obtain ⟨rh2, gr2⟩ := RepH.cut rh rh1 gr
        obtain ⟨ext, ee⟩ := gr.pre
        exact p ρ H1 gr2 rh2 u (Rep.sub (fun a ha => by rw [ee]; exact List.mem_append_left _ ha) v u hp ru)
      · cases hz : (if fz = true then frzOf h.length h1 v else none) with
        | some xs =>
          have p : RPost g c E ρ H (.ok (.list xs) (h1.take h.length)) (VQ g c Q) := by simpa [gc, hp, hz] using p
          have hz : frzOf h.length h1 v = some xs := by
            cases fz with
            | true => simpa using hz
            | false => simp at hz
          unfold frzOf at hz
          split at hz
          · rename_i n hn
            split at hz
            · rename_i hle
              split at hz
              · rename_i ys hy
                cases hz
                obtain ⟨a, rfl, ha⟩ := mut_of ru hn
                obtain ⟨pl, vs, hv, rvs⟩ := rh1.at_ n _ a hy ha
                obtain ⟨rh2, gr2⟩ := RepH.cut rh rh1 gr
                obtain ⟨ext, ee⟩ := gr.pre
                have na : a ∉ ρ := fun hm => by
                  obtain ⟨i, hi, e⟩ := List.mem_iff_getElem.mp hm
                  have e2 : ρ1[i]? = some a := by rw [ee, List.getElem?_append_left hi, List.getElem?_eq_getElem hi, e]
                  obtain ⟨l1, q1⟩ := List.getElem?_eq_some_iff.mp e2
                  obtain ⟨l2, q2⟩ := List.getElem?_eq_some_iff.mp ha
                  have := (List.getElem_inj rh1.nd).mp (q1.trans q2.symm)
                  rw [rh.len] at hi
                  omega
                refine p ρ H1 gr2 rh2 _ ?_
                simp only [Rep]
                refine ⟨a, vs, rfl, hv, ⟨na, fun hm => (rh1.gsok a hm).2 (List.mem_of_getElem? ha)⟩, ?_⟩
                exact Reps.sub (fun b hb => by rw [ee]; exact List.mem_append_left _ hb) _ _ pl rvs
              · cases hz
            · cases hz
          · cases hz
        | none =>
          by_cases ho : okRet c.fr.length v = true
          · have p : RPost g c E ρ H (.ok v h1) (VQ g c Q) := by simpa [gc, hp, hz, ho] using p
            refine p ρ1 H1 gr (rh.back gr rh1) u ?_
            have := okRet_out (envs := cb) hln v u ho ru
            rw [hc] at this
            exact this
          · have p : RPost g c E ρ H .bad (VQ g c Q) := by simpa [gc, hp, hz, ho] using p
            exact p.elim
    | nx τ' =>
      intro σ' _
      have p : RPost g c E ρ H (.ok .none (h1.take h.length)) (VQ g c Q) := p
      obtain ⟨rh2, gr2⟩ := RepH.cut rh rh1 gr
      exact p ρ H1 gr2 rh2 _ rep_non
    | bk τ' => exact p.elim
    | ct τ' => exact p.elim
  | exc n i h1 =>
    intro ρ1 H1 cls d gr rh1 re
    obtain ⟨rh2, gr2⟩ := RepH.cut rh rh1 gr
    exact p ρ H1 cls d gr2 rh2 re
  | bad => exact p
theorem fnM_zero {P : Nat → Option MD} {L : Nat → Option ME} {G : Nat → Option Int} : FnM g (callM P L G 0) k f df fa := fun base A outer s H c ρ h ds vs us Q E _ _ _ _ _ _ _ p => p.elim
/-- a def's body, run -/
theorem body_run {md : MD} {A : Around} {outer : List Env} {base : Heap} {c : Fs} {ds : List MV} {vs : List V} {cdv : Value} {Q : VK} (W : DefAt g f df fa) (fr : ∀ x ∈ freeNames, g.mg x = none) (hns : md.ns = df.N.length)
    (hb : BodyOk g cfg k df md.body) (hr' : Room k (A.deeper (envOfC df.name df.scope s.heap.objs.size fa cdv))) (fo : FrOk g c base) (hl : c.ev.length = c.fr.length) (rh : RepH g c ρ H h) (rd : Reps g c ρ H ds vs) (hvl : vs.length = df.ps.length)
    (p : RPost g c E ρ H (gc md.fz c.fr.length h (evS cfg (Kof c) md.body (startM ds md.ns) h)) (VQ g c Q)) :
    ∃ t, PSs (cxOf (L2.CX g.P g.w) g.P g.w g.K g.mg base df.N df.name df.scope fa cdv A outer s H E) df.body t ∧ t { nx := fun _ H' => Q .non H', rt := Q } (L2.start df.N vs) H := by
  generalize hX : cxOf (L2.CX g.P g.w) g.P g.w g.K g.mg base df.N df.name df.scope fa cdv A outer s H E = X
  have he : ∀ (j : Nat) (e : Nat × Env), c.ev[j]? = some e → (c.ev ++ [(f, X.env)])[j]? = some e := fun j e q => by rw [List.getElem?_append_left (List.getElem?_eq_some_iff.mp q).1]; exact q
  have cn : Cn g ⟨c.ev ++ [(f, X.env)], c.fr⟩ X E := by
    refine ⟨by rw [← hX]; rfl, by rw [← hX]; rfl, by rw [← hX]; rfl, by rw [← hX]; rfl, by rw [← hX]; rfl, by rw [← hX]; exact W.sc.nd, by rw [← hX]; exact takes_of rfl rfl rfl rfl, ?_, ⟨?_, fun j τ σ hj => ?_⟩, ?_, fr⟩
    · have : Room k X.A := by rw [← hX]; exact hr'
      exact this.mono (Nat.zero_le _)
    · show c.fr.length ≤ (c.ev ++ [(f, X.env)]).length
      simp; omega
    · obtain ⟨n, env, e1, e2⟩ := fo.2 j τ σ hj
      refine ⟨n, env, he _ _ e1, ?_⟩
      rw [← hX]; exact e2
    · show (c.ev ++ [(f, X.env)]).length = c.fr.length + 1
      simp; omega
  have tp : Tp g ⟨c.ev ++ [(f, X.env)], c.fr⟩ X := by
    refine ⟨⟨f, ?_, ?_⟩, by rw [← hX]; exact fun _ => rfl⟩
    · show (c.ev ++ [(f, X.env)])[c.fr.length]? = _
      rw [← hl, List.getElem?_append_right (Nat.le_refl _)]; simp
    · rw [W.N, ← hX]; rfl
  have po : PassesOwn (model X.prog X.w) X.A X.env X.xe := by rw [← hX]; exact passes_of rfl
  have bo := hb g.gs ⟨c.ev ++ [(f, X.env)], c.fr⟩ X E cn tp po (by rw [← hX]; exact hr') (by rw [← hX]; rfl) (by rw [← hX]; rfl)
  have hpl : df.ps.length ≤ df.N.length := by have := congrArg List.length W.sc.pre; rw [List.length_take] at this; omega
  have hdl := rd.length
  refine ⟨_, bo, ρ, startM ds md.ns, h, ⟨?_, fun i dd e => ?_⟩, rh.forth, gc_of rh rfl ?_ ?_ p⟩
  · rw [startM_len (by omega)]
    unfold L2.start
    rw [List.length_append, List.length_map, List.length_replicate]
    omega
  · obtain ⟨v, hv, r⟩ := rd.get (startM_get e)
    exact ⟨v, start_get (by omega) hv, r.grow rh.mut Grow.refl he⟩
  · show (c.ev ++ [(f, X.env)]).take c.fr.length = c.ev
    rw [← hl]; simp
  · show (c.ev ++ [(f, X.env)]).length = c.fr.length + 1
    simp; omega
theorem fnM_succ {P : Nat → Option MD} {L : Nat → Option ME} {G : Nat → Option Int} {d : Nat} {md : MD} (hP : P f = some md) (W : DefAt g f df fa) (fr : ∀ x ∈ freeNames, g.mg x = none) (hnp : md.np = df.ps.length) (hns : md.ns = df.N.length)
    (hb : BodyOk g (callM P L G d) k df md.body) : FnM g (callM P L G (d + 1)) (k + 1) f df fa := by
  intro base A outer s H c ρ h ds vs us Q E hr e0 fo hl rv rh rd p
  obtain ⟨oc, od, dV, kV, doc, pm, an, cdv, ct, osl, lk, hcd, hbd⟩ := W.obj
  have p : RPost g c E ρ H ((match P f with
    | some md => if ds.length = md.np then gc md.fz (Kof c).length h (evS (callM P L G d) (Kof c) md.body (startM ds md.ns) h) else .bad
    | none => .bad)) (VQ g c Q) := p
  rw [hP] at p
  have hk : (Kof c).length = c.fr.length := by simp [Kof]
  by_cases hlen : ds.length = md.np
  · have p : RPost g c E ρ H (gc md.fz (Kof c).length h (evS (callM P L G d) (Kof c) md.body (startM ds md.ns) h)) (VQ g c Q) := by simpa only [hlen, if_true] using p
    rw [hk] at p
    have hvl : vs.length = df.ps.length := by rw [← rd.length, hlen, hnp]
    have hul : us.length = df.ps.length := by rw [← rv.length]; exact hvl
    exact LamX.run_ofS (N := df.N) (ps := df.ps) lk hcd W.sc hr e0 (.of_eq (hbd us hul)) rv hvl fun hr' => body_run W fr hns hb hr' fo hl rh rd hvl p
  · simp only [hlen, if_false] at p
    exact p.elim
end
end Snd

-- Snd19
set_option autoImplicit false
set_option linter.all false
set_option Elab.async false
set_option maxRecDepth 100000
set_option maxHeartbeats 4000000
/-! soundness of M, part 19: the checker -/
namespace Snd
open PySem PySem.Spec PyProof.Rows L2 MM
/-- in range(n) -/
theorem op_rng (neg : Bool) {X : Cx} : OpR X (compareOp (if neg = true then .NotIn else .In)) (fun x y H Q => ∃ i a lo hi, x = V.int i ∧ y = V.ref a ∧ H a = some (.rng lo hi) ∧ Q (.bl (if neg = true then !decide (lo ≤ i ∧ i < hi) else decide (lo ≤ i ∧ i < hi))) H) := by
  intro pins s σ H x y v u Q I rx ry h
  obtain ⟨i, a, lo, hi, rfl, rfl, ha, q⟩ := h
  obtain ⟨k, rfl⟩ := rx
  obtain rfl : u = Value.ref a := ry
  obtain ⟨t1, t2, t3, ho⟩ := I.hok a _ ha
  have key : ∀ Q' : Bool → Shared → Prop, Q' (decide (lo ≤ i ∧ i < hi)) s → wpAny (model X.prog X.w) X.A (contains (Value.ref a) (Value.int i k)) Q' X.xe s := fun Q' q' =>
    wpAny_contains_slot (T := "range") ⟨_, ho, rfl⟩ F.slot_range_contains (call_meets F.slot_range_contains ⟨_, ho, rfl⟩ F.entry_range_contains (F.args_range_contains_2 _ _) (q_contains a lo hi i t1 t2 t3 k)
      ⟨ho, wpAny_truthy_bool (by rw [place1]; exact q')⟩)
  cases neg with
  | false =>
    show wpAny _ _ (do return Value.bool (← contains (Value.ref a) (Value.int i k))) _ _ s
    exact wpAny_bind (key _ (wpAny_pure ⟨.bl _, H, I, rfl, q⟩))
  | true =>
    show wpAny _ _ (do return Value.bool (!(← contains (Value.ref a) (Value.int i k)))) _ _ s
    exact wpAny_bind (key _ (wpAny_pure ⟨.bl _, H, I, rfl, q⟩))
theorem cr_rng1 {X : Cx} : CallR X (.type "range") (fun vs H Q => ∃ j, vs = [V.int j] ∧ ∀ p, H p = none → Q (.ref p) (upd H p (.rng 0 j))) := by
  intro pins s σ H vs us Q I r h
  obtain ⟨j, rfl, q⟩ := h
  obtain ⟨u, rfl, rj⟩ := r.one
  obtain ⟨t, rfl⟩ := rj
  refine call_range_1 ⟨.ref s.heap.objs.size, upd H s.heap.objs.size (.rng 0 j), I.laid (t' := s.toks + 1 + 1) (fun b o e => Heap.get?_push_of_some _ e) (Nat.le_refl _) ?_, rfl, q _ (I.hok.fresh (Nat.le_refl _))⟩
  exact ⟨_, _, _, Heap.get?_push_size _ rfl⟩
section
variable {g : GW} {ev : Fs} {X : Cx} {E : XK} {pins : List (Addr × Obj)} {σ : St} {H H0 : Hp} {s : Shared} {ρ ρ0 : List Addr} {h h0 : MH} {pos : Pos}
theorem pe_inrM {a b : Expr} {ma mb : MSt → M MV} {neg : Bool} {p p2 : Pos} (c : Cn g ev X E) (ha : PE X a (T1 g ev E ma)) (hb : PE X b (T1 g ev E mb)) (hn : notStar b = true) (hg : Gl X "range") (hf : g.mg "range" = none) :
    PE X (.Compare a [if neg = true then .NotIn else .In] [.Call (.Name "range" p) [b] [] p2] pos) (T1 g ev E fun τ => M.bind (ma τ) fun x => M.bind (mb τ) fun y => inrM neg x y) := by
  refine PE.via c (pe_cmpR (op_rng neg) ha (pe_callTy cr_rng1 hg (by rw [c.hm]; exact hf) (by rfl) (pa_one c hb hn) (by decide) (by decide) (starE hn _ _) rfl) (by cases neg <;> rfl)) fun σ H Q ⟨ρ, τ, h, rs, rh, p⟩ => ?_
  refine ⟨ρ, τ, h, rs, rh, p.bind.imp fun x h1 ρ1 H1 gr rh1 p1 v rv => ?_⟩
  refine ⟨ρ1, τ, h1, rs.up rh gr, rh1, p1.bind.imp fun y h2 ρ2 H2 gr2 rh2 p2 u ru => ?_⟩
  cases x with
  | int i =>
    cases y with
    | int n =>
      refine ⟨n, by rw [int_of ru], fun q hq => ⟨i, q, 0, n, int_of rv, rfl, upd_same, fun kf => ?_⟩⟩
      exact p2 ρ2 _ (Grow.ext (ext_upd hq)) (rh2.ext0 (ext_upd hq)) _ rep_bool
    | _ => exact p2.elim
  | _ => exact p2.elim
theorem pt_inrM {a b : Expr} {ma mb : MSt → M MV} {neg : Bool} {p p2 : Pos} (c : Cn g ev X E) (ha : PE X a (T1 g ev E ma)) (hb : PE X b (T1 g ev E mb)) (hn : notStar b = true) (hg : Gl X "range") (hf : g.mg "range" = none) :
    PT X (.Compare a [if neg = true then .NotIn else .In] [.Call (.Name "range" p) [b] [] p2] pos) (TT1 g ev E fun τ => M.bind (M.bind (ma τ) fun x => M.bind (mb τ) fun y => inrM neg x y) fun v => truthM v) := by
  refine PT.via c (pt_cmpR (op_rng neg) ha (pe_callTy cr_rng1 hg (by rw [c.hm]; exact hf) (by rfl) (pa_one c hb hn) (by decide) (by decide) (starE hn _ _) rfl) (by cases neg <;> rfl)) fun σ H Q ⟨ρ, τ, h, rs, rh, p⟩ => ?_
  simp only [bind_assoc] at p
  refine ⟨ρ, τ, h, rs, rh, p.bind.imp fun x h1 ρ1 H1 gr rh1 p1 v rv => ?_⟩
  refine ⟨ρ1, τ, h1, rs.up rh gr, rh1, p1.bind.imp fun y h2 ρ2 H2 gr2 rh2 p2 u ru => ?_⟩
  cases x with
  | int i =>
    cases y with
    | int n =>
      refine ⟨n, by rw [int_of ru], fun q hq => ⟨i, q, 0, n, int_of rv, rfl, upd_same, _, rfl, fun kf => ?_⟩⟩
      exact p2 ρ2 _ (Grow.ext (ext_upd hq)) (rh2.ext0 (ext_upd hq))
    | _ => exact p2.elim
  | _ => exact p2.elim
end
end Snd

-- Snd19b
set_option autoImplicit false
set_option linter.all false
set_option Elab.async false
set_option maxRecDepth 100000
set_option maxHeartbeats 8000000
/-! soundness of M, part 19b: sorted(set(..)) of ints -/
namespace Snd
open PySem PySem.Spec PyProof.Rows L2 MM
open AutoSeq1 (wpAny_loadPart')
section
variable {P : Program} {w : World} {A : Around} {E : Value → Shared → Prop} {s : Shared}
/-- a built-in class whose __init__ looks at its receiver -/
theorem typeRun {T nI iI : String} {Bi : Builtin} {as : List Value} {Q Q₁ : Value → Shared → Prop} (ft : TypeCalled T nI iI) (ct : checkTypeCall T ⟨as, []⟩ = pure ()) (eI : entryFor table iI = some Bi)
    (mk : codeAny (model P w) A.in1 (.call (.builtin nI) ⟨.type T :: as, []⟩) (wants Q₁ E) s)
    (go : ∀ o s₁, Q₁ o s₁ → s₁.TypeIs o T ∧ codeAny (model P w) A.in1 (.call (.builtin iI) ⟨o :: as, []⟩) (wants (fun r s₂ => r = .none ∧ Q o s₂) E) s₁) : wpAny (model P w) A (call (.type T) as) Q E s := by
  obtain ⟨cl, tl, hmro⟩ := ft.mro
  have a1 := ft.made; have a2 := ft.sub
  refine wpAny_call ?_
  refine codeAny_of_tree ?_
  show wpAny _ _ (callAny (.type T) _) _ _ s
  refine wpAny_pure ⟨Code.quiet_builtin _ (by decide +kernel), ?_⟩
  refine codeAny_builtin F.entry_type_call ?_
  rw [Around.under_plain (weight_type_call_type T as []) rfl]
  have a3 := ft.notType; have a4 := ft.canCreate
  repeat any_goals first | assumption | wp_step
  refine codeAny_mono mk fun r s₁ hr => ?_
  rcases r with e | fl
  · exact hr
  cases fl with
  | ret o =>
    obtain ⟨hT, run⟩ := go _ _ hr
    have b1 := ft.init.lookup; have b2 := ft.init.bind o
    repeat any_goals first | assumption | wp_step
    refine codeAny_mono run fun r₂ s₂ hr₂ => ?_
    rcases r₂ with e | f2
    · exact hr₂
    cases f2 with
    | ret r =>
      obtain ⟨rfl, hq⟩ := hr₂
      repeat any_goals first | assumption | wp_step
    | _ => exact hr₂.elim
  | _ => exact hr.elim
abbrev newSet (w : World) : Obj := { cls := .type "set", dict := none, data := .set #[] 0 (.fresh 0 0 (!w.params.followText "set-order")) }
theorem set_listI {l : Addr} {its : Array Value} (ns : List Int) {Q : Value → Shared → Prop} (hh : A.handled = none) (hL : s.heap.IsList l its) (hI : IntsAre its.toList ns) (hb : ns.length + 1 < scanBound)
    (fin : ∀ (h' : Heap) (tk c : Nat), SetR w h' s.heap.objs.size (fun j => decide (j ∈ ns)) c → c ≤ ns.length → (∀ b o, s.heap.get? b = some o → h'.get? b = some o) → Q (.ref s.heap.objs.size) { s with heap := h', toks := tk }) :
    wpAny (model P w) A (call (.type "set") [.ref l]) Q E s := by
  have hsz : its.size = ns.length := by have q := IntsAre.length hI; rwa [Array.length_toList] at q
  refine typeRun (Q₁ := fun obj s₁ => obj = .ref s.heap.objs.size ∧ s₁ = { s with heap := s.heap.push (newSet w) }) F.called_set (F.typeCall_set_1 _) F.entry_set_init (code_set_led1 (w := w) (.ref l) ⟨rfl, rfl⟩) fun obj s₁ hr => ?_
  obtain ⟨e1, e2⟩ := hr
  subst e1 e2
  have g0 : (s.heap.push (newSet w)).get? s.heap.objs.size = some (newSet w) := Heap.get?_push_size _ rfl
  refine ⟨⟨_, g0, rfl⟩, codeAny_call_builtin F.called_set.init.plain F.entry_set_init (check_set_init_1 ⟨_, g0, rfl⟩ ?_)⟩
  obtain ⟨⟨ocl, od, odt, osl⟩, ho, hc, nl, hd⟩ := hL
  simp only at hc hd
  subst hc hd
  have ho1 : (s.heap.push (newSet w)).get? l = some { cls := .type "list", dict := od, data := .seq its nl, slots := osl } := Heap.get?_push_of_some _ ho
  have u1 := F.sub_list_set
  have u2 := F.sub_list_frozenset
  have u3 : (Value.type "list" == Value.type "dict") = false := by decide
  have hL1 : (s.heap.push (newSet w)).IsList l its := ⟨_, ho1, rfl, nl, rfl⟩
  unfold Builtin.«set.__init__» noKeywords Builtin.Frozenset.updateFrom
  generalize hPI : pyIter = PI
  wp_walk
  subst hPI
  refine wpAny_pyIter_list hL1 ?_
  have lS : l < s.heap.objs.size := Heap.lt_size ho
  have z1 : (s.heap.push (newSet w)).objs.size = s.heap.objs.size + 1 := Heap.size_push ..
  refine wpAny_bind (wpAny_runValue ?_)
  have hval : ∀ (i : Nat) (v : Value), its[i]? = some v → ∃ k t, ns[i]? = some k ∧ v = .int k t := fun i v hv => by
    have hi : i < ns.length := by rw [← hsz]; exact (Array.getElem?_eq_some_iff.mp hv).1
    obtain ⟨t, e⟩ := IntsAre.int_at hI i v (by rw [Array.getElem?_toList]; exact hv)
    exact ⟨ns[i], t, List.getElem?_eq_getElem hi, by rw [e, List.getD_eq_getElem?_getD, List.getElem?_eq_getElem hi]; rfl⟩
  have W := Walks.list (prog := P) (w := w) (A := A.in1.in1.in1) (by simp [hh]) (s.heap.push (newSet w)).objs.size l (by rw [z1]; exact Nat.ne_of_lt (Nat.lt_succ_of_lt lS)) its
  refine set_update_ints W.toS s.heap.objs.size (by rw [z1]; simp; exact Nat.ne_of_gt lS) ns hsz hb hval (its.size - 0) 0 _ (by omega) (Nat.zero_le _)
    ⟨⟨_, Heap.get?_push_size _ rfl, rfl, rfl⟩, hL1.push _⟩ ⟨0, Nat.le_refl 0, setR_new_at (Heap.get?_push_of_some _ g0)⟩ fun s' c' hm hc' hS' => ?_
  obtain ⟨h', g2, d', tk', os'⟩ := s'
  have q1 : g2 = s.gens := hm.gens
  have q2 : d' = s.drawn := hm.drawn
  have q3 : os' = s.os := hm.os
  subst q1 q2 q3
  show wpAny _ _ _ _ _ _
  refine wpAny_pure ?_
  show wpAny _ _ (ret Value.none) _ _ _
  refine wpAny_pure ⟨rfl, fin h' tk' c' hS' (by rw [← hsz]; exact hc') fun b o e => ?_⟩
  have b0 : b < s.heap.objs.size := Heap.lt_size e
  refine hm.heap b o ?_ (Heap.get?_push_of_some _ (Heap.get?_push_of_some _ e))
  rw [z1]
  simp
  exact ⟨Nat.ne_of_lt b0, Nat.ne_of_lt (Nat.lt_succ_of_lt b0)⟩
end
/-- set(xs), a list of ints -/
def rSetLI (K : PySem.W.Frag) (w : World) : List V → Hp → VK → Prop := fun xs H Q => ∃ (l : Addr) (ns : List Int), xs = [V.ref l] ∧ SqL K H l (ns.map V.int) ∧ ns.length + 1 < scanBound ∧ ∀ p c, H p = none → c ≤ ns.length → Q (.ref p) (upd H p (SetO w p (fun j => decide (j ∈ ns)) c))
theorem cr_setLI {X : Cx} (hc : X.calm = true) : CallR X (.type "set") (rSetLI X.K X.w) := by
  intro pins s σ H xs us Q I r h
  obtain ⟨l, ns, rfl, hl, hb, q⟩ := h
  rw [Vals.ref1 r]
  obtain ⟨its, rv, pl, hz⟩ := I.list hl
  refine set_listI (P := X.prog) (w := X.w) ns (I.ok.hd hc) pl.isList (by simpa using rv.ints) hb fun h' tk c hS hcl k => ?_
  exact ⟨.ref s.heap.objs.size, upd H s.heap.objs.size (SetO X.w s.heap.objs.size (fun j => decide (j ∈ ns)) c), I.laid (t' := tk) k (Nat.le_refl _) (setO_new hS), rfl, q _ c (I.hok.fresh (Nat.le_refl _)) hcl⟩
theorem insU_mem (x y : Int) : ∀ l : List Int, y ∈ insU x l ↔ y = x ∨ y ∈ l
  | [] => by simp [insU]
  | z :: r => by
    unfold insU
    split
    · simp
    · split
      · rename_i h; subst h; simp
      · simp only [List.mem_cons, insU_mem x y r]
        constructor
        · rintro (h | h | h) <;> simp [h]
        · rintro (h | h | h) <;> simp [h]
theorem sortU_mem (y : Int) : ∀ l : List Int, y ∈ sortU l ↔ y ∈ l
  | [] => by simp [sortU]
  | x :: r => by simp [sortU, insU_mem, sortU_mem y r]
theorem insU_lt (x : Int) : ∀ l : List Int, l.Pairwise (· < ·) → (insU x l).Pairwise (· < ·)
  | [], _ => by simp [insU]
  | z :: r, h => by
    obtain ⟨h1, h2⟩ := List.pairwise_cons.mp h
    unfold insU
    split
    · rename_i hx
      refine List.pairwise_cons.mpr ⟨fun y hy => ?_, h⟩
      rcases List.mem_cons.mp hy with e | e
      · rw [e]; exact hx
      · exact Int.lt_trans hx (h1 y e)
    · split
      · exact h
      · rename_i a b
        refine List.pairwise_cons.mpr ⟨fun y hy => ?_, insU_lt x r h2⟩
        rcases (insU_mem x y r).mp hy with e | e
        · subst e; omega
        · exact h1 y e
theorem sortU_lt : ∀ l : List Int, (sortU l).Pairwise (· < ·)
  | [] => by simp [sortU]
  | x :: r => insU_lt x _ (sortU_lt r)
theorem lt_uniq : ∀ (a b : List Int), a.Pairwise (· < ·) → b.Pairwise (· < ·) → (∀ k, k ∈ a ↔ k ∈ b) → a = b
  | [], [], _, _, _ => rfl
  | [], y :: b, _, _, h => by have := (h y).mpr List.mem_cons_self; cases this
  | x :: a, [], _, _, h => by have := (h x).mp List.mem_cons_self; cases this
  | x :: a, y :: b, ha, hb, h => by
    obtain ⟨a1, a2⟩ := List.pairwise_cons.mp ha
    obtain ⟨b1, b2⟩ := List.pairwise_cons.mp hb
    have e : x = y := by
      rcases List.mem_cons.mp ((h x).mp List.mem_cons_self) with e | e
      · exact e
      · rcases List.mem_cons.mp ((h y).mpr List.mem_cons_self) with e' | e'
        · exact e'.symm
        · have := b1 x e; have := a1 y e'; omega
    subst e
    rw [lt_uniq a b a2 b2 fun k => ⟨fun hk => ?_, fun hk => ?_⟩]
    · rcases List.mem_cons.mp ((h k).mp (List.mem_cons_of_mem _ hk)) with e | e
      · have := a1 k hk; omega
      · exact e
    · rcases List.mem_cons.mp ((h k).mpr (List.mem_cons_of_mem _ hk)) with e | e
      · have := b1 k hk; omega
      · exact e
section
variable {g : GW} {ev : Fs} {X : Cx} {E : XK} {pos : Pos}
theorem pe_sortSet {a : Expr} {ma : MSt → M MV} {p p2 p3 : Pos} (c : Cn g ev X E) (hg : Gl X "sorted") (hf : g.mg "sorted" = none) (hg2 : Gl X "set") (hf2 : g.mg "set" = none) (ha : PE X a (T1 g ev E ma)) (hn : notStar a = true) :
    PE X (.Call (.Name "sorted" p) [.Call (.Name "set" p2) [a] [] p3] [] pos) (T1 g ev E fun τ => M.bind (ma τ) fun v => b1M .sortSet v) := by
  have hs : PE X (.Call (.Name "set" p2) [a] [] p3) _ := pe_callTy (cr_setLI c.calm) hg2 (by rw [c.hm]; exact hf2) (by rfl) (pa_one c ha hn) (by decide) (by decide) (starE hn _ _) rfl
  refine PE.via c (pe_callB (cr_sortedSet c.calm) hg (by rw [c.hm]; exact hf) (by rfl) (pa_cons hs pa_nil (starE rfl _ _)) (by decide) (by decide) (starE rfl _ _) rfl) fun σ H Q ⟨ρ, τ, h, rs, rh, p⟩ => ?_
  refine ⟨ρ, τ, h, rs, rh, p.bind.imp fun d h1 ρ1 H1 gr rh1 p1 v rv => ?_⟩
  obtain ⟨xs, sq, p1⟩ := seqM_of rh1 rv (RPost.bind (m := seqM d) p1)
  have p1 := p1 ρ1 H1 Grow.refl rh1
  obtain ⟨is, ei, p2⟩ := rpost_opt (RPost.bind (m := opt (MM.intsOf xs)) p1)
  have p2 := p2 ρ1 H1 Grow.refl rh1
  obtain ⟨nt, p2⟩ := no_tup p2
  obtain ⟨hl, p2⟩ := rpost_ite p2
  obtain ⟨q, vs, e, hq, r⟩ := sq.sql nt
  have hev := r.intsOf ei
  subst e hev
  rw [← c.hK] at hq
  refine ⟨q, is, rfl, hq, by unfold scanBound; omega, fun b n hb hn => ⟨b, _, n, rfl, upd_same, by omega, fun ns z hp hm hz hz2 kf => ?_⟩⟩
  have e2 : ns = sortU is := lt_uniq _ _ hp (sortU_lt is) fun k => by rw [hm k, sortU_mem]; simp
  subst e2
  have gr2 : Grow g ρ1 H1 ρ1 (upd H1 b (SetO X.w b (fun j => decide (j ∈ is)) n)) := Grow.ext (ext_upd hb)
  have rh2 := rh1.ext0 (ext_upd (o := SetO X.w b (fun j => decide (j ∈ is)) n) hb)
  refine fin_lst rh2 hz2 kf ?_ (p2.grow gr2)
  have : Reps g ev ρ1 (upd H1 b (SetO X.w b (fun j => decide (j ∈ is)) n)) ((sortU is).map PyData.int) ((sortU is).map V.int) := reps_ints _
  exact this
end
end Snd

-- Snd20
set_option autoImplicit false
set_option linter.all false
set_option Elab.async false
set_option maxRecDepth 100000
set_option maxHeartbeats 4000000
/-! soundness of M, part 20: the checker of expressions -/
namespace Snd
open PySem PySem.Spec PyProof.Rows L2 MM
structure CK where
  D : Nat → Option DF
  G : Nat → Option Int
  gn : Nat → Str
  ex : Nat → Option Str
structure SC where
  N : List Str
  sc : Scope
  fnB : Str → Bool
  top : Bool
def okName (x : Str) : Bool := !(x == ("__debug__" : Str)) && !(x == ("__classdict__" : Str)) && !decide (x = "__name__")
def visB (S : SC) (x : Str) : Bool := decide (S.sc.names.lookup x = some .local) || decide (S.sc.names.lookup x = some .cell) || decide (S.sc.names.lookup x = some .free)
def glB (S : SC) (x : Str) : Bool := decide (S.sc.names.lookup x = some .globalImplicit) && okName x
def b1Name : B1 → Str
  | .len => "len" | .abs => "abs" | .int => "int" | .str => "str" | .bool => "bool" | .sum => "sum" | .max => "max" | .min => "min" | .all => "all" | .any => "any" | .sorted => "sorted" | .tuple => "tuple" | .list _ => "list"
  | .sortSet => "sorted" | .lenSet => "len"
def b1Simple : B1 → Bool
  | .sortSet => false
  | .lenSet => false
  | _ => true
def isTT : ME → Bool
  | .tv .tt => true
  | _ => false
theorem isTT_of {t : ME} (h : isTT t = true) : t = .tv .tt := by
  unfold isTT at h
  split at h
  · rfl
  · cases h
def isSetE : Expr → Bool
  | .Set _ _ _ => true
  | _ => false
def blkS (S : SC) (scope : Scope) : SC := ⟨S.N, relS scope S.sc, fun x => scope.names.lookup x == some .cell, false⟩
def ownP (S : SC) (own : List Nat) : List (Str × Nat) := own.map fun i => (S.N.getD i "", i)
mutual
def chkE (C : CK) (S : SC) : ME → Expr → Bool
  | .non, x => (match x with | .Constant .none _ _ => true | _ => false)
  | .tt, x => (match x with | .Constant (.bool true) _ _ => true | _ => false)
  | .ff, x => (match x with | .Constant (.bool false) _ _ => true | _ => false)
  | .int i, x => (match x with | .Constant (.int j) _ _ => decide (i = j) | _ => false)
  | .str s, x => (match x with | .Constant (.str t) _ _ => decide (s = t) | _ => false)
  | .var i, x => (match x with | .Name y _ => decide (S.N[i]? = some y) && visB S y && okName y | _ => false)
  | .glb n, x => (match x with | .Name y _ => decide (C.gn n = y) && (C.G n).isSome && glB S y | _ => false)
  | .fnv f, x => (match x with | .Name y _ => (match C.D f with | some df => decide (df.name = y) && glB S y | none => false) | _ => false)
  | .tup as, x => (match x with | .Tuple es _ _ => chkA C S as es && allPlain es | _ => false)
  | .lst _ as, x => (match x with | .List es _ => chkA C S as es && allPlain es | _ => false)
  | .bin op a b, x => (match x with | .BinOp p o q _ => decide (o = bopOf op) && chkE C S a p && chkE C S b q | _ => false)
  | .lmul _ a b, x => (match x with | .BinOp p o q _ => decide (o = .Mult) && chkE C S a p && chkE C S b q | _ => false)
  | .neg a, x => (match x with | .UnaryOp .USub p _ => chkE C S a p | _ => false)
  | .not a, x => (match x with | .UnaryOp .Not p _ => chkE C S a p | _ => false)
  | .cmp op a b, x => (match x with | .Compare p [o] [q] _ => decide (o = opOf op) && !behindInMarks (opOf op) q && chkE C S a p && chkE C S b q | _ => false)
  | .cmp2 op op' a b d, x => (match x with | .Compare p [o, o'] [q, r] _ => decide (o = opOf op) && decide (o' = opOf op') && !lastMarks [opOf op, opOf op'] [q, r] && chkE C S a p && chkE C S b q && chkE C S d r | _ => false)
  | .and a b, x => (match x with | .BoolOp .And (p :: q :: rest) pos => chkE C S a p && (match rest with | [] => chkE C S b q | _ => chkE C S b (.BoolOp .And (q :: rest) pos)) | _ => false)
  | .or a b, x => (match x with | .BoolOp .Or (p :: q :: rest) pos => chkE C S a p && (match rest with | [] => chkE C S b q | _ => chkE C S b (.BoolOp .Or (q :: rest) pos)) | _ => false)
  | .ite t a b, x => (match x with | .IfExp c p q _ => chkT C S t c && chkE C S a p && chkE C S b q | _ => false)
  | .call f as, x => (match x with | .Call (.Name y _) es [] _ => (match C.D f with | some df => decide (df.name = y) && glB S y | none => false) && chkA C S as es && allPlain es | _ => false)
  | .b1 b a, x => (match x with | .Call (.Name y _) [e] [] _ => decide (b1Name b = y) && glB S y && notStar e && (b1Simple b && chkQ C S a e || decide (b = .sortSet) && (match e with | .Call (.Name z _) [e'] [] _ => decide ("set" = z) && glB S z && notStar e' && chkQ C S a e' | _ => false) || (decide (b = .tuple) || decide (b = .list true) || decide (b = .list false)) && chkG C S a e) | _ => false)
  | .max2 a b, x => (match x with | .Call (.Name y _) [p, q] [] _ => decide ("max" = y) && glB S y && notStar p && notStar q && chkE C S a p && chkE C S b q | _ => false)
  | .min2 a b, x => (match x with | .Call (.Name y _) [p, q] [] _ => decide ("min" = y) && glB S y && notStar p && notStar q && chkE C S a p && chkE C S b q | _ => false)
  | .isi [t] a, x => (match x with | .Call (.Name y _) [p, .Name z _] [] _ => decide ("isinstance" = y) && glB S y && notStar p && decide (tyX t = z) && glB S z && chkE C S a p | _ => false)
  | .isi [t, t2] a, x => (match x with | .Call (.Name y _) [p, .Tuple [.Name z _, .Name z2 _] _ _] [] _ => decide ("isinstance" = y) && glB S y && notStar p && decide (tyX t = z) && glB S z && decide (tyX t2 = z2) && glB S z2 && chkE C S a p | _ => false)
  | .idx a b, x => (match x with | .Subscript p q _ => plainIx q && chkE C S a p && chkE C S b q | _ => false)
  | .sl a lo hi, x => (match x with | .Subscript p (.Slice l u none _) _ => chkE C S a p && chkP C S lo l && chkP C S hi u | _ => false)
  | .rev a, x => (match x with | .Subscript p (.Slice none none (some (.UnaryOp .USub (.Constant (.int 1) _ _) _)) _) _ => chkE C S a p | _ => false)
  | .lc _ own tg it t elt, x => (match x with | .ListComp e [⟨tgE, iter, ifs, 0⟩] scope _ => blkC S.N S.sc scope (ownP S own) && tgB (blkS S scope).N (blkS S scope).sc (blkS S scope).fnB tg tgE && (tgIx tg).all (fun i => own.contains i) && !isSetE iter && chkI C S it tgE iter &&
      (match ifs with | [] => isTT t | [c] => chkT C (blkS S scope) t c | _ => false) && chkE C (blkS S scope) elt e | _ => false)
  | .app o a, x => (match x with | .Call (.Attribute p "append" ap) [q] [] pos => chkE C S o p && chkE C S a q && notStar q && isName p && (ap.endLine == pos.line) | _ => false)
  | .popAt o a, x => (match x with | .Call (.Attribute p "pop" ap) [q] [] pos => chkE C S o p && chkE C S a q && notStar q && isName p && (ap.endLine == pos.line) | _ => false)
  | .index o a, x => (match x with | .Call (.Attribute p "index" ap) [q] [] pos => chkE C S o p && chkE C S a q && notStar q && isName p && (ap.endLine == pos.line) | _ => false)
  | .count o a, x => (match x with | .Call (.Attribute p "count" ap) [q] [] pos => chkE C S o p && chkE C S a q && notStar q && isName p && (ap.endLine == pos.line) | _ => false)
  | .dnew, x => (match x with | .Dict [] [] _ => true | _ => false)
  | .inrg neg a hi, x => (match x with | .Compare p [o] [.Call (.Name y _) [q] [] _] _ => decide (o = if neg = true then .NotIn else .In) && decide ("range" = y) && glB S y && notStar q && chkE C S a p && chkE C S hi q | _ => false)
  | _, _ => false
def chkA (C : CK) (S : SC) : ME → List Expr → Bool
  | .nil, xs => (match xs with | [] => true | _ => false)
  | .cons a r, xs => (match xs with | x :: xs => chkE C S a x && chkA C S r xs | _ => false)
  | _, _ => false
def chkQ (C : CK) (S : SC) : ME → Expr → Bool
  | .seq a, x => chkE C S a x
  | _, _ => false
def chkV (C : CK) (S : SC) : ME → Expr → Bool
  | .cmp op a b, x => (match x with | .Compare p [o] [q] _ => decide (o = opOf op) && !behindInMarks (opOf op) q && chkE C S a p && chkE C S b q | _ => false)
  | .cmp2 op op' a b d, x => (match x with | .Compare p [o, o'] [q, r] _ => decide (o = opOf op) && decide (o' = opOf op') && !lastMarks [opOf op, opOf op'] [q, r] && chkE C S a p && chkE C S b q && chkE C S d r | _ => false)
  | .inrg neg a hi, x => (match x with | .Compare p [o] [.Call (.Name y _) [q] [] _] _ => decide (o = if neg = true then .NotIn else .In) && decide ("range" = y) && glB S y && notStar q && chkE C S a p && chkE C S hi q | _ => false)
  | _, _ => false
def chkG (C : CK) (S : SC) : ME → Expr → Bool
  | .rng1 a, x => (match x with | .Call (.Name y _) [p] [] _ => decide ("range" = y) && glB S y && notStar p && chkE C S a p | _ => false)
  | .rng2 a b, x => (match x with | .Call (.Name y _) [p, q] [] _ => decide ("range" = y) && glB S y && notStar p && notStar q && chkE C S a p && chkE C S b q | _ => false)
  | _, _ => false
def chkI (C : CK) (S : SC) : ME → Expr → Expr → Bool
  | .seq a, _, x => chkE C S a x
  | .rng1 a, _, x => (match x with | .Call (.Name y _) [p] [] _ => decide ("range" = y) && glB S y && notStar p && chkE C S a p | _ => false)
  | .rng2 a b, _, x => (match x with | .Call (.Name y _) [p, q] [] _ => decide ("range" = y) && glB S y && notStar p && notStar q && chkE C S a p && chkE C S b q | _ => false)
  | .enm a, t, x => (match t, x with | .Tuple _ _ _, .Call (.Name y _) [p] [] _ => decide ("enumerate" = y) && glB S y && notStar p && chkE C S a p | _, _ => false)
  | .zp a b, t, x => (match t, x with | .Tuple _ _ _, .Call (.Name y _) [p, q] [] _ => decide ("zip" = y) && glB S y && notStar p && notStar q && chkE C S a p && chkE C S b q | _, _ => false)
  | _, _, _ => false
def chkP (C : CK) (S : SC) : ME → Option Expr → Bool
  | .nil, x => (match x with | none => true | _ => false)
  | .seq a, x => (match x with | some e => chkE C S a e | none => false)
  | _, _ => false
def chkT (C : CK) (S : SC) : ME → Expr → Bool
  | .tv a, x => (match x with | .BoolOp _ _ _ => false | .UnaryOp _ _ _ => false | .IfExp _ _ _ _ => false | .Compare _ _ _ _ => chkV C S a x | _ => chkE C S a x)
  | .tand a b, x => (match x with | .BoolOp .And (p :: q :: rest) pos => chkT C S a p && (match rest with | [] => chkT C S b q | _ => chkT C S b (.BoolOp .And (q :: rest) pos)) | _ => false)
  | .tor a b, x => (match x with | .BoolOp .Or (p :: q :: rest) pos => chkT C S a p && (match rest with | [] => chkT C S b q | _ => chkT C S b (.BoolOp .Or (q :: rest) pos)) | _ => false)
  | .tnot a, x => (match x with | .UnaryOp .Not p _ => chkT C S a p | _ => false)
  | _, _ => false
end
end Snd

-- Snd21
set_option autoImplicit false
set_option linter.all false
set_option Elab.async false
set_option maxRecDepth 100000
set_option maxHeartbeats 4000000
/-! soundness of M, part 21: the checker is right (expressions) -/
namespace Snd
open PySem PySem.Spec PyProof.Rows L2 MM
structure ExAt (g : GW) (c : Nat) (x : Str) (a : Addr) : Prop where
  en : g.en c = x
  mg : g.mg x = some (.ref a)
  exc : PySem.W.excIn g.K a He.veBase "ValueError.__new__" = true
  keep : PySem.W.keepIn g.K (.ref a) = true
  sub : PySem.W.subIn g.K (.ref a) (.type "BaseException") = some true
  typ : PySem.W.typeIn g.K (.ref a) = some (.type "type")
/-- the world holds what the tables say -/
structure Wd (C : CK) (g : GW) (fa : Nat → Addr) : Prop where
  defs : ∀ f df, C.D f = some df → DefAt g f df (fa f)
  ig : ∀ x i, C.G x = some i → ∃ t, g.mg (C.gn x) = some (.int i t)
  ex : ∀ c x, C.ex c = some x → ∃ a, ExAt g c x a
structure Lk (S : SC) (X : Cx) : Prop where
  N : X.N = S.N
  sc : X.env.scope = S.sc
  fn : ∀ x, S.fnB x = true → X.fn x = true
abbrev gw (g : GW) (gs : List Addr) : GW := { g with gs := gs }
section
variable (C : CK) (g : GW) (fa : Nat → Addr) (cfg : Cfg) (k : Nat)
/-- a context of the checker's -/
structure Ok (gs : List Addr) (ev : Fs) (X : Cx) (E : XK) (S : SC) : Prop where
  cn : Cn (gw g gs) ev X E
  tp : TpB (gw g gs) ev X S.top
  hr : Room k X.A
  lk : Lk S X
def isBoolOp : Expr → Bool
  | .BoolOp _ _ _ => true
  | _ => false
/-- what the checker's yes means -/
structure SOK (e : ME) : Prop where
  E : ∀ gs ev X E S, Ok g k gs ev X E S → ∀ x, chkE C S e x = true → PE X x (T1 (gw g gs) ev E (evE cfg (Kof ev) S.top e))
  A : ∀ gs ev X E S, Ok g k gs ev X E S → ∀ x, chkA C S e x = true → allPlain x = true → PA X x (tMA (gw g gs) ev E (evA cfg (Kof ev) S.top e))
  Q : ∀ gs ev X E S, Ok g k gs ev X E S → ∀ x, chkQ C S e x = true → PE X x (T1 (gw g gs) ev E (evI cfg (Kof ev) S.top e))
  V : ∀ gs ev X E S, Ok g k gs ev X E S → ∀ x, chkV C S e x = true → PT X x (TT1 (gw g gs) ev E fun τ => M.bind (evE cfg (Kof ev) S.top e τ) fun v => truthM v)
  I : ∀ gs ev X E S, Ok g k gs ev X E S → ∀ tg x, chkI C S e tg x = true → PI X tg x (tI (gw g gs) ev E fun τ => M.bind (evI cfg (Kof ev) S.top e τ) fun v => opt (items v))
  P : ∀ gs ev X E S, Ok g k gs ev X E S → ∀ x, chkP C S e x = true → PO X x (tMP (gw g gs) ev E (evP cfg (Kof ev) S.top e))
  T : ∀ gs ev X E S, Ok g k gs ev X E S → ∀ x, chkT C S e x = true → PT X x (TT1 (gw g gs) ev E (evT cfg (Kof ev) S.top e)) ∧ (isBoolOp x = true → PW X x (TT1 (gw g gs) ev E (evT cfg (Kof ev) S.top e)))
  GL : ∀ gs ev X E S, Ok g k gs ev X E S → ∀ x mu p pos, chkG C S e x = true → Gl X "list" → PE X (.Call (.Name "list" p) [x] [] pos) (T1 (gw g gs) ev E fun τ => M.bind (evI cfg (Kof ev) S.top e τ) fun v => b1M (.list mu) v)
  GT : ∀ gs ev X E S, Ok g k gs ev X E S → ∀ x p pos, chkG C S e x = true → Gl X "tuple" → PE X (.Call (.Name "tuple" p) [x] [] pos) (T1 (gw g gs) ev E fun τ => M.bind (evI cfg (Kof ev) S.top e τ) fun v => b1M .tuple v)
end
section
variable {C : CK} {g : GW} {fa : Nat → Addr} {cfg : Cfg} {k : Nat}
theorem gl_of {S : SC} {X : Cx} {x : Str} (l : Lk S X) (h : glB S x = true) : Gl X x ∧ (x == ("__debug__" : Str)) = false ∧ (x == ("__classdict__" : Str)) = false ∧ x ≠ "__name__" := by
  simp only [glB, okName, Bool.and_eq_true, decide_eq_true_eq, Bool.not_eq_true', decide_eq_false_iff_not] at h
  refine ⟨?_, h.2.1.1, h.2.1.2, h.2.2⟩
  show X.env.scope.names.lookup x = _
  rw [l.sc]; exact h.1
theorem vis_of {S : SC} {X : Cx} {x : Str} (l : Lk S X) (h : visB S x = true) : Vis X.env.scope x := by
  simp only [visB, Bool.or_eq_true, decide_eq_true_eq] at h
  rw [l.sc]
  rcases h with (h | h) | h
  · exact .inl h
  · exact .inr (.inl h)
  · exact .inr (.inr h)
theorem free_of {gs : List Addr} {ev : Fs} {X : Cx} {E : XK} (c : Cn (gw g gs) ev X E) {x : Str} (h : x ∈ freeNames) : g.mg x = none := c.free x h
theorem b1_sound {gs : List Addr} {ev : Fs} {X : Cx} {E : XK} {S : SC} {b : B1} {e : Expr} {m : MSt → M MV} {p pos : Pos} (o : Ok g k gs ev X E S) (hb : b1Simple b = true) (hg : Gl X (b1Name b)) (he : PE X e (T1 (gw g gs) ev E m)) (hn : notStar e = true) :
    PE X (.Call (.Name (b1Name b) p) [e] [] pos) (T1 (gw g gs) ev E fun τ => M.bind (m τ) fun v => b1M b v) := by
  have c := o.cn
  cases b with
  | len => exact pe_f1 c (ok_len c) hg (c.free _ (by decide)) (by rfl) he hn (by decide) (by decide)
  | abs => exact pe_f1 c (ok_abs c) hg (c.free _ (by decide)) (by rfl) he hn (by decide) (by decide)
  | int => exact pe_t1 c (ok_int c) hg (c.free _ (by decide)) (by rfl) he hn (by decide) (by decide)
  | str => exact pe_t1 c (ok_strC c) hg (c.free _ (by decide)) (by rfl) he hn (by decide) (by decide)
  | bool => exact pe_t1 c (ok_boolC c) hg (c.free _ (by decide)) (by rfl) he hn (by decide) (by decide)
  | sum => exact pe_f1 c (ok_sum c) hg (c.free _ (by decide)) (by rfl) he hn (by decide) (by decide)
  | max => exact pe_f1 c (ok_best c true) hg (c.free _ (by decide)) (by rfl) he hn (by decide) (by decide)
  | min => exact pe_f1 c (ok_best c false) hg (c.free _ (by decide)) (by rfl) he hn (by decide) (by decide)
  | all => exact pe_f1 c (ok_all c) hg (c.free _ (by decide)) (by rfl) he hn (by decide) (by decide)
  | any => exact pe_f1 c (ok_any c) hg (c.free _ (by decide)) (by rfl) he hn (by decide) (by decide)
  | sorted => exact pe_f1 c (ok_sorted c) hg (c.free _ (by decide)) (by rfl) he hn (by decide) (by decide)
  | tuple => exact pe_t1 c (ok_tupleC c) hg (c.free _ (by decide)) (by rfl) he hn (by decide) (by decide)
  | list mu => cases mu <;> exact pe_t1 c (ok_listC c _) hg (c.free _ (by decide)) (by rfl) he hn (by decide) (by decide)
  | sortSet => cases hb
  | lenSet => cases hb
theorem ok_blk {gs : List Addr} {ev : Fs} {X : Cx} {E : XK} {S : SC} {scope : Scope} (o : Ok g k gs ev X E S) (hE : ∀ x, (scope.names.lookup x == some .cell) = true → True) (D : Addr) (s : Shared) (H : Hp) (C' : Addr) (cl : List (Str × Addr)) (fp : List Addr) :
    Ok g k (D :: gs) ev (X.blk s H scope (compEnvC scope cl C' X.env) fp) noX (blkS S scope) := by
  have c := o.cn
  refine ⟨⟨c.hP, c.hw, c.hK, c.hm, c.calm, c.nd, LamX.takes0, c.room, c.fok, c.lenE, c.free⟩, (fun h => by cases h), o.hr, ⟨o.lk.N, ?_, fun x h => h⟩⟩
  show relS scope X.env.scope = relS scope S.sc
  rw [o.lk.sc]
theorem ok_blk0 {gs : List Addr} {ev : Fs} {X : Cx} {E : XK} {S : SC} {scope : Scope} (o : Ok g k gs ev X E S) (s : Shared) (H : Hp) (C' : Addr) (cl : List (Str × Addr)) (fp : List Addr) :
    Ok g k gs ev (X.blk s H scope (compEnvC scope cl C' X.env) fp) noX (blkS S scope) := by
  have c := o.cn
  refine ⟨⟨c.hP, c.hw, c.hK, c.hm, c.calm, c.nd, LamX.takes0, c.room, c.fok, c.lenE, c.free⟩, (fun h => by cases h), o.hr, ⟨o.lk.N, ?_, fun x h => h⟩⟩
  show relS scope X.env.scope = relS scope S.sc
  rw [o.lk.sc]
theorem fold_ok {e : Expr} (h : isSetE e = false) (env : Env) : ∀ x, foldedSetIterable e env x = pure x := by
  intro x
  cases e <;> first | rfl | cases h
theorem plainT {e : Expr} {X : Cx} (h : (match e with | .BoolOp _ _ _ => false | .UnaryOp _ _ _ => false | .IfExp _ _ _ _ => false | .Compare _ _ _ _ => false | _ => true) = true) : ∀ whole, isTrue e X.env whole = (do let v ← whole; standAt e.pos; holding [v] (truthy v)) := by
  intro whole
  cases e <;> first | rfl | cases h
theorem ownP_ix {S : SC} {own : List Nat} : (ownP S own).map (·.2) = own := by
  unfold ownP
  rw [List.map_map]
  exact List.map_id own
end
end Snd

-- Snd22
set_option autoImplicit false
set_option linter.all false
set_option Elab.async false
set_option maxRecDepth 100000
set_option maxHeartbeats 8000000
/-! soundness of M, part 22: by induction -/
namespace Snd
open PySem PySem.Spec PyProof.Rows L2 MM
/-- an expression that is no test's, no list's, .. form -/
def isEk : ME → Bool
  | .nil => false | .cons _ _ => false | .seq _ => false | .rng1 _ => false | .rng2 _ _ => false | .enm _ => false | .zp _ _ => false | .zp3 _ _ _ => false
  | .tv _ => false | .tand _ _ => false | .tor _ _ => false | .tnot _ => false | .cmp _ _ _ => false | .cmp2 _ _ _ _ _ => false | .inrg _ _ _ => false
  | _ => true
section
variable {C : CK} {g : GW} {fa : Nat → Addr} {cfg : Cfg} {k : Nat}
theorem noA {e : ME} (n : isEk e = true) {S : SC} {x : List Expr} : chkA C S e x = false := by cases e <;> first | rfl | cases n
theorem noQ {e : ME} (n : isEk e = true) {S : SC} {x : Expr} : chkQ C S e x = false := by cases e <;> first | rfl | cases n
theorem noV {e : ME} (n : isEk e = true) {S : SC} {x : Expr} : chkV C S e x = false := by cases e <;> first | rfl | cases n
theorem noI {e : ME} (n : isEk e = true) {S : SC} {t x : Expr} : chkI C S e t x = false := by cases e <;> first | rfl | cases n
theorem noP {e : ME} (n : isEk e = true) {S : SC} {x : Option Expr} : chkP C S e x = false := by cases e <;> first | rfl | cases n
theorem noT {e : ME} (n : isEk e = true) {S : SC} {x : Expr} : chkT C S e x = false := by cases e <;> first | rfl | cases n
theorem noG {e : ME} (n : isEk e = true) {S : SC} {x : Expr} : chkG C S e x = false := by cases e <;> first | rfl | cases n
theorem ff {a : Bool} {P : Prop} (e : a = false) (h : a = true) : P := by rw [e] at h; cases h
theorem sokE {e : ME} (n : isEk e = true) (hE : ∀ gs ev X E S, Ok g k gs ev X E S → ∀ x, chkE C S e x = true → PE X x (T1 (gw g gs) ev E (evE cfg (Kof ev) S.top e))) : SOK C g cfg k e :=
  ⟨hE, fun _ _ _ _ _ _ _ h => ff (noA n) h, fun _ _ _ _ _ _ _ h => ff (noQ n) h, fun _ _ _ _ _ _ _ h => ff (noV n) h, fun _ _ _ _ _ _ _ _ h => ff (noI n) h, fun _ _ _ _ _ _ _ h => ff (noP n) h, fun _ _ _ _ _ _ _ h => ff (noT n) h,
    fun _ _ _ _ _ _ _ _ _ _ h => ff (noG n) h, fun _ _ _ _ _ _ _ _ _ h => ff (noG n) h⟩
theorem and2 {a b : Bool} (h : (a && b) = true) : a = true ∧ b = true := by simpa using h
theorem dec {p : Prop} [Decidable p] (h : decide p = true) : p := by simpa using h
theorem nt {a : Bool} (h : (!a) = true) : a = false := by simpa using h
theorem snd_all (wd : Wd C g fa) (hG : cfg.gl = C.G) (HF : ∀ gs f df, C.D f = some df → FnM (gw g gs) cfg k f df (fa f)) (e : ME) : SOK C g cfg k e := by
  induction e with
  | non =>
    refine sokE rfl fun gs ev X E S o x h => ?_
    unfold chkE at h
    split at h
    · exact pe_pure pe_non o.cn fun ρ H => rep_non
    · cases h
  | tt =>
    refine sokE rfl fun gs ev X E S o x h => ?_
    unfold chkE at h
    split at h
    · exact pe_pure pe_bl o.cn fun ρ H => rep_bool
    · cases h
  | ff =>
    refine sokE rfl fun gs ev X E S o x h => ?_
    unfold chkE at h
    split at h
    · exact pe_pure pe_bl o.cn fun ρ H => rep_bool
    · cases h
  | int i =>
    refine sokE rfl fun gs ev X E S o x h => ?_
    unfold chkE at h
    split at h
    · have e := dec h
      subst e
      exact pe_pure pe_int o.cn fun ρ H => rep_int
    · cases h
  | str t =>
    refine sokE rfl fun gs ev X E S o x h => ?_
    unfold chkE at h
    split at h
    · have e := dec h
      subst e
      exact pe_pure pe_str o.cn fun ρ H => rep_str
    · cases h
  | var i =>
    refine sokE rfl fun gs ev X E S o x h => ?_
    unfold chkE at h
    split at h
    · obtain ⟨h1, h2⟩ := and2 h
      obtain ⟨h1, h3⟩ := and2 h1
      simp only [okName, Bool.and_eq_true, Bool.not_eq_true'] at h2
      exact pe_varM o.cn (by rw [o.lk.N]; exact dec h1) (vis_of o.lk h3) h2.1.1 h2.1.2
    · cases h
  | glb n =>
    refine sokE rfl fun gs ev X E S o x h => ?_
    unfold chkE at h
    split at h
    · obtain ⟨h1, h2⟩ := and2 h
      obtain ⟨h1, h3⟩ := and2 h1
      obtain ⟨i, hi⟩ := Option.isSome_iff_exists.mp h3
      obtain ⟨t, ht⟩ := wd.ig n i hi
      have e1 := dec h1
      subst e1
      obtain ⟨q1, q2, q3, q4⟩ := gl_of o.lk h2
      have : evE cfg (Kof ev) S.top (.glb n) = fun _ => M.pure (.int i) := by
        funext τ
        show opt ((cfg.gl n).map PyData.int) = _
        rw [hG, hi]; rfl
      rw [this]
      exact pe_pure (pe_glob (v := V.int i) q1 (by rw [o.cn.hm]; exact ht) ⟨t, rfl⟩ q2) o.cn fun ρ H => rep_int
    · cases h
  | fnv f =>
    refine sokE rfl fun gs ev X E S o x h => ?_
    unfold chkE at h
    split at h
    · split at h
      · rename_i df hdf
        obtain ⟨h1, h2⟩ := and2 h
        have W := wd.defs f df hdf
        have e1 := dec h1
        obtain ⟨q1, q2, q3, q4⟩ := gl_of o.lk h2
        subst e1
        refine pe_pure (v := .ref (fa f)) (pe_glob q1 (by rw [o.cn.hm]; exact W.mg) rfl q2) o.cn fun ρ H => ?_
        simp only [fv, Rep, RepX]
        exact ⟨fa f, rfl, by show g.mg (g.nm _) = _; rw [show (Int.toNat (f : Int)) = f from rfl, W.nm]; exact W.mg⟩
      · cases h
    · cases h
  | nil =>
    refine ⟨fun _ _ _ _ _ _ _ h => ff rfl h, fun gs ev X E S o x h hp => ?_, fun _ _ _ _ _ _ _ h => ff rfl h, fun _ _ _ _ _ _ _ h => ff rfl h, fun _ _ _ _ _ _ _ _ h => ff rfl h, fun gs ev X E S o x h => ?_, fun _ _ _ _ _ _ _ h => ff rfl h, fun _ _ _ _ _ _ _ _ _ _ h => ff rfl h, fun _ _ _ _ _ _ _ _ _ h => ff rfl h⟩
    · unfold chkA at h
      split at h
      · exact pa_nilM o.cn
      · cases h
    · unfold chkP at h
      split at h
      · exact po_noneM o.cn
      · cases h
  | cons a r iha ihr =>
    refine ⟨fun _ _ _ _ _ _ _ h => ff rfl h, fun gs ev X E S o x h hp => ?_, fun _ _ _ _ _ _ _ h => ff rfl h, fun _ _ _ _ _ _ _ h => ff rfl h, fun _ _ _ _ _ _ _ _ h => ff rfl h, fun _ _ _ _ _ _ _ h => ff rfl h, fun _ _ _ _ _ _ _ h => ff rfl h, fun _ _ _ _ _ _ _ _ _ _ h => ff rfl h, fun _ _ _ _ _ _ _ _ _ h => ff rfl h⟩
    unfold chkA at h
    split at h
    · obtain ⟨h1, h2⟩ := and2 h
      obtain ⟨p1, p2⟩ := and2 hp
      exact pa_consM o.cn (iha.E gs ev X E S o _ h1) (ihr.A gs ev X E S o _ h2 p2) p1
    · cases h
  | tup as ih =>
    refine sokE rfl fun gs ev X E S o x h => ?_
    unfold chkE at h
    split at h
    · obtain ⟨h1, h2⟩ := and2 h
      exact pe_tupM o.cn (ih.A gs ev X E S o _ h1 h2)
    · cases h
  | lst mu as ih =>
    refine sokE rfl fun gs ev X E S o x h => ?_
    unfold chkE at h
    split at h
    · obtain ⟨h1, h2⟩ := and2 h
      exact pe_lstM o.cn (ih.A gs ev X E S o _ h1 h2)
    · cases h
  | bin op a b iha ihb =>
    refine sokE rfl fun gs ev X E S o x h => ?_
    unfold chkE at h
    split at h
    · obtain ⟨h1, h3⟩ := and2 h
      obtain ⟨h1, h2⟩ := and2 h1
      have e := dec h1
      subst e
      exact pe_binM o.cn (iha.E gs ev X E S o _ h2) (ihb.E gs ev X E S o _ h3)
    · cases h
  | lmul mu a b iha ihb =>
    refine sokE rfl fun gs ev X E S o x h => ?_
    unfold chkE at h
    split at h
    · obtain ⟨h1, h3⟩ := and2 h
      obtain ⟨h1, h2⟩ := and2 h1
      have e := dec h1
      subst e
      exact pe_lmulM o.cn (iha.E gs ev X E S o _ h2) (ihb.E gs ev X E S o _ h3)
    · cases h
  | neg a iha =>
    refine sokE rfl fun gs ev X E S o x h => ?_
    unfold chkE at h
    split at h
    · exact pe_negM o.cn (iha.E gs ev X E S o _ h)
    · cases h
  | not a iha =>
    refine sokE rfl fun gs ev X E S o x h => ?_
    unfold chkE at h
    split at h
    · exact pe_notM o.cn (iha.E gs ev X E S o _ h)
    · cases h
  | cmp op a b iha ihb =>
    refine ⟨fun gs ev X E S o x h => ?_, fun _ _ _ _ _ _ _ h => ff rfl h, fun _ _ _ _ _ _ _ h => ff rfl h, fun gs ev X E S o x h => ?_, fun _ _ _ _ _ _ _ _ h => ff rfl h, fun _ _ _ _ _ _ _ h => ff rfl h, fun _ _ _ _ _ _ _ h => ff rfl h, fun _ _ _ _ _ _ _ _ _ _ h => ff rfl h, fun _ _ _ _ _ _ _ _ _ h => ff rfl h⟩
    · unfold chkE at h
      split at h
      · obtain ⟨h, h4⟩ := and2 h
        obtain ⟨h, h3⟩ := and2 h
        obtain ⟨h1, h2⟩ := and2 h
        have e := dec h1
        subst e
        exact pe_cmpM o.cn (iha.E gs ev X E S o _ h3) (ihb.E gs ev X E S o _ h4) (nt h2)
      · cases h
    · unfold chkV at h
      split at h
      · obtain ⟨h, h4⟩ := and2 h
        obtain ⟨h, h3⟩ := and2 h
        obtain ⟨h1, h2⟩ := and2 h
        have e := dec h1
        subst e
        exact pt_cmpM o.cn (iha.E gs ev X E S o _ h3) (ihb.E gs ev X E S o _ h4) (nt h2)
      · cases h
  | cmp2 op op' a b d iha ihb ihd =>
    refine ⟨fun gs ev X E S o x h => ?_, fun _ _ _ _ _ _ _ h => ff rfl h, fun _ _ _ _ _ _ _ h => ff rfl h, fun gs ev X E S o x h => ?_, fun _ _ _ _ _ _ _ _ h => ff rfl h, fun _ _ _ _ _ _ _ h => ff rfl h, fun _ _ _ _ _ _ _ h => ff rfl h, fun _ _ _ _ _ _ _ _ _ _ h => ff rfl h, fun _ _ _ _ _ _ _ _ _ h => ff rfl h⟩
    · unfold chkE at h
      split at h
      · obtain ⟨h, h6⟩ := and2 h
        obtain ⟨h, h5⟩ := and2 h
        obtain ⟨h, h4⟩ := and2 h
        obtain ⟨h, h3⟩ := and2 h
        obtain ⟨h1, h2⟩ := and2 h
        have e := dec h1
        have e2 := dec h2
        subst e e2
        exact pe_cmp2M o.cn (iha.E gs ev X E S o _ h4) (ihb.E gs ev X E S o _ h5) (ihd.E gs ev X E S o _ h6) (nt h3)
      · cases h
    · unfold chkV at h
      split at h
      · obtain ⟨h, h6⟩ := and2 h
        obtain ⟨h, h5⟩ := and2 h
        obtain ⟨h, h4⟩ := and2 h
        obtain ⟨h, h3⟩ := and2 h
        obtain ⟨h1, h2⟩ := and2 h
        have e := dec h1
        have e2 := dec h2
        subst e e2
        exact pt_cmp2M o.cn (iha.E gs ev X E S o _ h4) (ihb.E gs ev X E S o _ h5) (ihd.E gs ev X E S o _ h6) (nt h3)
      · cases h
  | and a b iha ihb =>
    refine sokE rfl fun gs ev X E S o x h => ?_
    unfold chkE at h
    split at h
    · rename_i p q rest pos
      obtain ⟨h1, h2⟩ := and2 h
      cases rest with
      | nil => exact pe_andM o.cn (iha.E gs ev X E S o _ h1) (pe_one (ihb.E gs ev X E S o _ h2))
      | cons r rest => exact pe_andM o.cn (iha.E gs ev X E S o _ h1) (ihb.E gs ev X E S o _ h2)
    · cases h
  | or a b iha ihb =>
    refine sokE rfl fun gs ev X E S o x h => ?_
    unfold chkE at h
    split at h
    · rename_i p q rest pos
      obtain ⟨h1, h2⟩ := and2 h
      cases rest with
      | nil => exact pe_orM o.cn (iha.E gs ev X E S o _ h1) (pe_one (ihb.E gs ev X E S o _ h2))
      | cons r rest => exact pe_orM o.cn (iha.E gs ev X E S o _ h1) (ihb.E gs ev X E S o _ h2)
    · cases h
  | ite t a b iht iha ihb =>
    refine sokE rfl fun gs ev X E S o x h => ?_
    unfold chkE at h
    split at h
    · obtain ⟨h1, h3⟩ := and2 h
      obtain ⟨h1, h2⟩ := and2 h1
      exact pe_iteM o.cn (iht.T gs ev X E S o _ h1).1 (iha.E gs ev X E S o _ h2) (ihb.E gs ev X E S o _ h3)
    · cases h
  | call f as ih =>
    refine sokE rfl fun gs ev X E S o x h => ?_
    unfold chkE at h
    split at h
    · rename_i y p es pos
      obtain ⟨h, h3⟩ := and2 h
      obtain ⟨h1, h2⟩ := and2 h
      split at h1
      · rename_i df hdf
        obtain ⟨h1, h4⟩ := and2 h1
        have e1 := dec h1
        subst e1
        obtain ⟨q1, q2, q3, q4⟩ := gl_of o.lk h4
        have W := wd.defs f df hdf
        have W' : DefAt (gw g gs) f df (fa f) := ⟨W.nm, W.N, W.mg, W.keep, W.nd, W.obj, W.sc⟩
        cases es with
        | nil =>
          have e : as = .nil := by
            cases as <;> first | rfl | cases h2
          subst e
          exact pe_callM0 o.cn o.tp o.hr W' (HF gs f df hdf) q1
        | cons e es => exact pe_callM o.cn o.tp o.hr W' (HF gs f df hdf) q1 (ih.A gs ev X E S o _ h2 h3) h3 (by simp)
      · cases h1
    · cases h
  | callV f as ihf iha => exact sokE rfl fun gs ev X E S o x h => ff rfl h
  | b1 b a ih =>
    refine sokE rfl fun gs ev X E S o x h => ?_
    unfold chkE at h
    split at h
    · obtain ⟨h, h4⟩ := and2 h
      obtain ⟨h, h3⟩ := and2 h
      obtain ⟨h1, h2⟩ := and2 h
      have e1 := dec h1
      subst e1
      obtain ⟨q1, q2, q3, q4⟩ := gl_of o.lk h2
      rcases Bool.or_eq_true _ _ ▸ h4 with h4 | h4
      · rcases Bool.or_eq_true _ _ ▸ h4 with h4 | h4
        · obtain ⟨h5, h6⟩ := and2 h4
          exact b1_sound o h5 q1 (ih.Q gs ev X E S o _ h6) h3
        · obtain ⟨h5, h6⟩ := and2 h4
          have e2 := dec h5
          subst e2
          split at h6
          · obtain ⟨h6, h9⟩ := and2 h6
            obtain ⟨h6, h8⟩ := and2 h6
            obtain ⟨h6, h7⟩ := and2 h6
            have e3 := dec h6
            subst e3
            exact pe_sortSet o.cn q1 (o.cn.free _ (by decide)) (gl_of o.lk h7).1 (o.cn.free _ (by decide)) (ih.Q gs ev X E S o _ h9) h8
          · cases h6
      · obtain ⟨h5, h6⟩ := and2 h4
        simp only [Bool.or_eq_true, decide_eq_true_eq] at h5
        rcases h5 with (h5 | h5) | h5
        · subst h5; exact ih.GT gs ev X E S o _ _ _ h6 q1
        · subst h5; exact ih.GL gs ev X E S o _ _ _ _ h6 q1
        · subst h5; exact ih.GL gs ev X E S o _ _ _ _ h6 q1
    · cases h
  | max2 a b iha ihb =>
    refine sokE rfl fun gs ev X E S o x h => ?_
    unfold chkE at h
    split at h
    · obtain ⟨h, h6⟩ := and2 h
      obtain ⟨h, h5⟩ := and2 h
      obtain ⟨h, h4⟩ := and2 h
      obtain ⟨h, h3⟩ := and2 h
      obtain ⟨h1, h2⟩ := and2 h
      have e1 := dec h1
      subst e1
      obtain ⟨q1, q2, q3, q4⟩ := gl_of o.lk h2
      exact pe_f2 o.cn (ok_max2 o.cn) q1 (o.cn.free _ (by decide)) (by rfl) (iha.E gs ev X E S o _ h5) (ihb.E gs ev X E S o _ h6) h3 h4 (by decide) (by decide)
    · cases h
  | min2 a b iha ihb =>
    refine sokE rfl fun gs ev X E S o x h => ?_
    unfold chkE at h
    split at h
    · obtain ⟨h, h6⟩ := and2 h
      obtain ⟨h, h5⟩ := and2 h
      obtain ⟨h, h4⟩ := and2 h
      obtain ⟨h, h3⟩ := and2 h
      obtain ⟨h1, h2⟩ := and2 h
      have e1 := dec h1
      subst e1
      obtain ⟨q1, q2, q3, q4⟩ := gl_of o.lk h2
      exact pe_f2 o.cn (ok_min2 o.cn) q1 (o.cn.free _ (by decide)) (by rfl) (iha.E gs ev X E S o _ h5) (ihb.E gs ev X E S o _ h6) h3 h4 (by decide) (by decide)
    · cases h
  | isi ts a ih =>
    refine sokE rfl fun gs ev X E S o x h => ?_
    have fr : ∀ t : MM.Ty, (gw g gs).mg (tyX t) = none := fun t => o.cn.free _ (by cases t <;> decide)
    match ts, h with
    | [], h => exact ff rfl h
    | [t], h =>
      unfold chkE at h
      split at h
      · obtain ⟨h, h6⟩ := and2 h
        obtain ⟨h, h5⟩ := and2 h
        obtain ⟨h, h4⟩ := and2 h
        obtain ⟨h, h3⟩ := and2 h
        obtain ⟨h1, h2⟩ := and2 h
        have e1 := dec h1
        have e2 := dec h4
        subst e1 e2
        exact pe_isi1 o.cn (ih.E gs ev X E S o _ h6) h3 (gl_of o.lk h2).1 (o.cn.free _ (by decide)) (gl_of o.lk h5).1 (fr t)
      · cases h
    | [t, t2], h =>
      unfold chkE at h
      split at h
      · obtain ⟨h, h8⟩ := and2 h
        obtain ⟨h, h7⟩ := and2 h
        obtain ⟨h, h6⟩ := and2 h
        obtain ⟨h, h5⟩ := and2 h
        obtain ⟨h, h4⟩ := and2 h
        obtain ⟨h, h3⟩ := and2 h
        obtain ⟨h1, h2⟩ := and2 h
        have e1 := dec h1
        have e2 := dec h4
        have e3 := dec h6
        subst e1 e2 e3
        exact pe_isi2 o.cn (ih.E gs ev X E S o _ h8) h3 (gl_of o.lk h2).1 (o.cn.free _ (by decide)) (gl_of o.lk h5).1 (fr t) (gl_of o.lk h7).1 (fr t2)
      · cases h
    | _ :: _ :: _ :: _, h => exact ff rfl h
  | idx a b iha ihb =>
    refine sokE rfl fun gs ev X E S o x h => ?_
    unfold chkE at h
    split at h
    · obtain ⟨h, h3⟩ := and2 h
      obtain ⟨h1, h2⟩ := and2 h
      exact pe_idxM o.cn (iha.E gs ev X E S o _ h2) (ihb.E gs ev X E S o _ h3) h1
    · cases h
  | sl a lo hi iha ihl ihh =>
    refine sokE rfl fun gs ev X E S o x h => ?_
    unfold chkE at h
    split at h
    · obtain ⟨h, h3⟩ := and2 h
      obtain ⟨h1, h2⟩ := and2 h
      exact pe_slM o.cn (iha.E gs ev X E S o _ h1) (ihl.P gs ev X E S o _ h2) (ihh.P gs ev X E S o _ h3)
    · cases h
  | rev a ih =>
    refine sokE rfl fun gs ev X E S o x h => ?_
    unfold chkE at h
    split at h
    · exact pe_revM o.cn (ih.E gs ev X E S o _ h)
    · cases h
  | lc mu own tg it t elt ihi iht ihe =>
    refine sokE rfl fun gs ev X E S o x h => ?_
    unfold chkE at h
    split at h
    · rename_i e tgE iter ifs scope pos
      obtain ⟨h, h7⟩ := and2 h
      obtain ⟨h, h6⟩ := and2 h
      obtain ⟨h, h5⟩ := and2 h
      obtain ⟨h, h4⟩ := and2 h
      obtain ⟨h, h3⟩ := and2 h
      obtain ⟨h1, h2⟩ := and2 h
      have hin : ∀ i ∈ tgIx tg, i ∈ (ownP S own).map (·.2) := fun i hi => by
        rw [ownP_ix]
        have := List.all_eq_true.mp h3 i hi
        simpa using this
      have hblk : BlkOk X.N X.env.scope scope (ownP S own) := by rw [o.lk.N, o.lk.sc]; exact blkOk_by h1
      have key := pe_lcM (ifs := ifs) (mu := mu) (pos := pos) (t := tg) (mt := fun τ => evT cfg (Kof ev) false t τ) (me := fun τ => evE cfg (Kof ev) false elt τ) o.cn (ihi.I gs ev X E S o tgE iter h5) hblk
        (fun s H C' cl fp => pg_X (ok_blk0 (scope := scope) o s H C' cl fp).cn (ok_blk0 (scope := scope) o s H C' cl fp).lk.N (ok_blk0 (scope := scope) o s H C' cl fp).lk.sc (ok_blk0 (scope := scope) o s H C' cl fp).lk.fn h2)
        (fun D s H C' cl fp => by
          have ob := ok_blk (scope := scope) o (fun _ _ => trivial) D s H C' cl fp
          cases ifs with
          | nil =>
            have et := isTT_of h6
            subst et
            exact ⟨fun pins s σ H Q I ⟨ρ, τ, h, rs, rh, p⟩ => pts_nil.run pins s σ H Q I (RPost.pure (a := true) rh p)⟩
          | cons c r =>
            cases r with
            | nil => exact pts_one (iht.T (D :: gs) ev _ noX _ ob c h6).1
            | cons c2 r => cases h6)
        (fun D s H C' cl fp => ihe.E (D :: gs) ev _ noX _ (ok_blk (scope := scope) o (fun _ _ => trivial) D s H C' cl fp) e h7) (fold_ok (nt h4) _) hin
      rw [ownP_ix] at key
      have ee : (fun τ => M.bind (M.bind (evI cfg (Kof ev) S.top it τ) fun v => opt (items v)) fun xs => M.bind (noexc (lcF (MM.bindM tg) (fun τ => evT cfg (Kof ev) false t τ) (fun τ => evE cfg (Kof ev) false elt τ) (wipeM τ own) xs)) fun ys => if ys.length ≤ cap then mkList mu ys else bad) = evE cfg (Kof ev) S.top (.lc mu own tg it t elt) := by
        funext τ
        rw [bind_assoc]
        rfl
      rw [ee] at key
      exact key
    · cases h
  | lc2 own own1 tg it tg1 it1 t elt ihi ihi1 iht ihe => exact sokE rfl fun gs ev X E S o x h => ff rfl h
  | seq a ih =>
    refine ⟨fun _ _ _ _ _ _ _ h => ff rfl h, fun _ _ _ _ _ _ _ h => ff rfl h, fun gs ev X E S o x h => ih.E gs ev X E S o x h, fun _ _ _ _ _ _ _ h => ff rfl h, fun gs ev X E S o tg x h => pi_seqM o.cn (ih.E gs ev X E S o x h), fun gs ev X E S o x h => ?_, fun _ _ _ _ _ _ _ h => ff rfl h, fun _ _ _ _ _ _ _ _ _ _ h => ff rfl h, fun _ _ _ _ _ _ _ _ _ h => ff rfl h⟩
    unfold chkP at h
    split at h
    · exact po_someM o.cn (ih.E gs ev X E S o _ h)
    · cases h
  | rng1 a ih =>
    refine ⟨fun _ _ _ _ _ _ _ h => ff rfl h, fun _ _ _ _ _ _ _ h => ff rfl h, fun _ _ _ _ _ _ _ h => ff rfl h, fun _ _ _ _ _ _ _ h => ff rfl h, fun gs ev X E S o tg x h => ?_, fun _ _ _ _ _ _ _ h => ff rfl h, fun _ _ _ _ _ _ _ h => ff rfl h, fun gs ev X E S o x mu p pos h hg => ?_, fun gs ev X E S o x p pos h hg => ?_⟩
    · unfold chkI at h
      split at h
      · obtain ⟨h, h4⟩ := and2 h
        obtain ⟨h, h3⟩ := and2 h
        obtain ⟨h1, h2⟩ := and2 h
        have e1 := dec h1
        subst e1
        exact pi_rng1M o.cn (gl_of o.lk h2).1 (o.cn.free _ (by decide)) (ih.E gs ev X E S o _ h4) h3
      · cases h
    · unfold chkG at h
      split at h
      · obtain ⟨h, h4⟩ := and2 h
        obtain ⟨h, h3⟩ := and2 h
        obtain ⟨h1, h2⟩ := and2 h
        have e1 := dec h1
        subst e1
        exact pe_listRg1 o.cn (gl_of o.lk h2).1 (o.cn.free _ (by decide)) hg (o.cn.free _ (by decide)) (ih.E gs ev X E S o _ h4) h3
      · cases h
    · unfold chkG at h
      split at h
      · obtain ⟨h, h4⟩ := and2 h
        obtain ⟨h, h3⟩ := and2 h
        obtain ⟨h1, h2⟩ := and2 h
        have e1 := dec h1
        subst e1
        exact pe_tupRg1 o.cn (gl_of o.lk h2).1 (o.cn.free _ (by decide)) hg (o.cn.free _ (by decide)) (ih.E gs ev X E S o _ h4) h3
      · cases h
  | rng2 a b iha ihb =>
    refine ⟨fun _ _ _ _ _ _ _ h => ff rfl h, fun _ _ _ _ _ _ _ h => ff rfl h, fun _ _ _ _ _ _ _ h => ff rfl h, fun _ _ _ _ _ _ _ h => ff rfl h, fun gs ev X E S o tg x h => ?_, fun _ _ _ _ _ _ _ h => ff rfl h, fun _ _ _ _ _ _ _ h => ff rfl h, fun gs ev X E S o x mu p pos h hg => ?_, fun gs ev X E S o x p pos h hg => ?_⟩
    · unfold chkI at h
      split at h
      · obtain ⟨h, h6⟩ := and2 h
        obtain ⟨h, h5⟩ := and2 h
        obtain ⟨h, h4⟩ := and2 h
        obtain ⟨h, h3⟩ := and2 h
        obtain ⟨h1, h2⟩ := and2 h
        have e1 := dec h1
        subst e1
        exact pi_rng2M o.cn (gl_of o.lk h2).1 (o.cn.free _ (by decide)) (iha.E gs ev X E S o _ h5) (ihb.E gs ev X E S o _ h6) h3 h4
      · cases h
    · unfold chkG at h
      split at h
      · obtain ⟨h, h6⟩ := and2 h
        obtain ⟨h, h5⟩ := and2 h
        obtain ⟨h, h4⟩ := and2 h
        obtain ⟨h, h3⟩ := and2 h
        obtain ⟨h1, h2⟩ := and2 h
        have e1 := dec h1
        subst e1
        exact pe_listRg2 o.cn (gl_of o.lk h2).1 (o.cn.free _ (by decide)) hg (o.cn.free _ (by decide)) (iha.E gs ev X E S o _ h5) (ihb.E gs ev X E S o _ h6) h3 h4
      · cases h
    · unfold chkG at h
      split at h
      · obtain ⟨h, h6⟩ := and2 h
        obtain ⟨h, h5⟩ := and2 h
        obtain ⟨h, h4⟩ := and2 h
        obtain ⟨h, h3⟩ := and2 h
        obtain ⟨h1, h2⟩ := and2 h
        have e1 := dec h1
        subst e1
        exact pe_tupRg2 o.cn (gl_of o.lk h2).1 (o.cn.free _ (by decide)) hg (o.cn.free _ (by decide)) (iha.E gs ev X E S o _ h5) (ihb.E gs ev X E S o _ h6) h3 h4
      · cases h
  | enm a ih =>
    refine ⟨fun _ _ _ _ _ _ _ h => ff rfl h, fun _ _ _ _ _ _ _ h => ff rfl h, fun _ _ _ _ _ _ _ h => ff rfl h, fun _ _ _ _ _ _ _ h => ff rfl h, fun gs ev X E S o tg x h => ?_, fun _ _ _ _ _ _ _ h => ff rfl h, fun _ _ _ _ _ _ _ h => ff rfl h, fun _ _ _ _ _ _ _ _ _ _ h => ff rfl h, fun _ _ _ _ _ _ _ _ _ h => ff rfl h⟩
    unfold chkI at h
    split at h
    · obtain ⟨h, h4⟩ := and2 h
      obtain ⟨h, h3⟩ := and2 h
      obtain ⟨h1, h2⟩ := and2 h
      have e1 := dec h1
      subst e1
      exact pi_enmM o.cn (gl_of o.lk h2).1 (o.cn.free _ (by decide)) (ih.E gs ev X E S o _ h4) h3
    · cases h
  | zp a b iha ihb =>
    refine ⟨fun _ _ _ _ _ _ _ h => ff rfl h, fun _ _ _ _ _ _ _ h => ff rfl h, fun _ _ _ _ _ _ _ h => ff rfl h, fun _ _ _ _ _ _ _ h => ff rfl h, fun gs ev X E S o tg x h => ?_, fun _ _ _ _ _ _ _ h => ff rfl h, fun _ _ _ _ _ _ _ h => ff rfl h, fun _ _ _ _ _ _ _ _ _ _ h => ff rfl h, fun _ _ _ _ _ _ _ _ _ h => ff rfl h⟩
    unfold chkI at h
    split at h
    · obtain ⟨h, h6⟩ := and2 h
      obtain ⟨h, h5⟩ := and2 h
      obtain ⟨h, h4⟩ := and2 h
      obtain ⟨h, h3⟩ := and2 h
      obtain ⟨h1, h2⟩ := and2 h
      have e1 := dec h1
      subst e1
      exact pi_zpM o.cn (gl_of o.lk h2).1 (o.cn.free _ (by decide)) (iha.E gs ev X E S o _ h5) (ihb.E gs ev X E S o _ h6) h3 h4
    · cases h
  | zp3 a b d iha ihb ihd => exact ⟨fun _ _ _ _ _ _ _ h => ff rfl h, fun _ _ _ _ _ _ _ h => ff rfl h, fun _ _ _ _ _ _ _ h => ff rfl h, fun _ _ _ _ _ _ _ h => ff rfl h, fun _ _ _ _ _ _ _ _ h => ff rfl h, fun _ _ _ _ _ _ _ h => ff rfl h, fun _ _ _ _ _ _ _ h => ff rfl h, fun _ _ _ _ _ _ _ _ _ _ h => ff rfl h, fun _ _ _ _ _ _ _ _ _ h => ff rfl h⟩
  | tv a ih =>
    refine ⟨fun _ _ _ _ _ _ _ h => ff rfl h, fun _ _ _ _ _ _ _ h => ff rfl h, fun _ _ _ _ _ _ _ h => ff rfl h, fun _ _ _ _ _ _ _ h => ff rfl h, fun _ _ _ _ _ _ _ _ h => ff rfl h, fun _ _ _ _ _ _ _ h => ff rfl h, fun gs ev X E S o x h => ?_, fun _ _ _ _ _ _ _ _ _ _ h => ff rfl h, fun _ _ _ _ _ _ _ _ _ h => ff rfl h⟩
    unfold chkT at h
    split at h
    · cases h
    · cases h
    · cases h
    · exact ⟨ih.V gs ev X E S o _ h, fun z => by cases z⟩
    · rename_i n1 n2 n3 n4
      refine ⟨pt_tvM o.cn (ih.E gs ev X E S o _ h) (plainT ?_), fun z => ?_⟩
      · cases x <;> first | rfl | exact (n1 _ _ _ rfl).elim | exact (n2 _ _ _ rfl).elim | exact (n3 _ _ _ _ rfl).elim | exact (n4 _ _ _ _ rfl).elim
      · cases x <;> first | exact (n1 _ _ _ rfl).elim | cases z
  | tand a b iha ihb =>
    refine ⟨fun _ _ _ _ _ _ _ h => ff rfl h, fun _ _ _ _ _ _ _ h => ff rfl h, fun _ _ _ _ _ _ _ h => ff rfl h, fun _ _ _ _ _ _ _ h => ff rfl h, fun _ _ _ _ _ _ _ _ h => ff rfl h, fun _ _ _ _ _ _ _ h => ff rfl h, fun gs ev X E S o x h => ?_, fun _ _ _ _ _ _ _ _ _ _ h => ff rfl h, fun _ _ _ _ _ _ _ _ _ h => ff rfl h⟩
    unfold chkT at h
    split at h
    · rename_i p q rest pos
      obtain ⟨h1, h2⟩ := and2 h
      have w : PW X (.BoolOp .And (p :: q :: rest) pos) (TT1 (gw g gs) ev E (evT cfg (Kof ev) S.top (.tand a b))) := by
        cases rest with
        | nil => exact pw_andM o.cn (iha.T gs ev X E S o _ h1).1 (pw_and1 (ihb.T gs ev X E S o _ h2).1)
        | cons r rest => exact pw_andM o.cn (iha.T gs ev X E S o _ h1).1 ((ihb.T gs ev X E S o _ h2).2 rfl)
      exact ⟨w.pt, fun _ => w⟩
    · cases h
  | tor a b iha ihb =>
    refine ⟨fun _ _ _ _ _ _ _ h => ff rfl h, fun _ _ _ _ _ _ _ h => ff rfl h, fun _ _ _ _ _ _ _ h => ff rfl h, fun _ _ _ _ _ _ _ h => ff rfl h, fun _ _ _ _ _ _ _ _ h => ff rfl h, fun _ _ _ _ _ _ _ h => ff rfl h, fun gs ev X E S o x h => ?_, fun _ _ _ _ _ _ _ _ _ _ h => ff rfl h, fun _ _ _ _ _ _ _ _ _ h => ff rfl h⟩
    unfold chkT at h
    split at h
    · rename_i p q rest pos
      obtain ⟨h1, h2⟩ := and2 h
      have w : PW X (.BoolOp .Or (p :: q :: rest) pos) (TT1 (gw g gs) ev E (evT cfg (Kof ev) S.top (.tor a b))) := by
        cases rest with
        | nil => exact pw_orM o.cn (iha.T gs ev X E S o _ h1).1 (pw_or1 (ihb.T gs ev X E S o _ h2).1)
        | cons r rest => exact pw_orM o.cn (iha.T gs ev X E S o _ h1).1 ((ihb.T gs ev X E S o _ h2).2 rfl)
      exact ⟨w.pt, fun _ => w⟩
    · cases h
  | tnot a ih =>
    refine ⟨fun _ _ _ _ _ _ _ h => ff rfl h, fun _ _ _ _ _ _ _ h => ff rfl h, fun _ _ _ _ _ _ _ h => ff rfl h, fun _ _ _ _ _ _ _ h => ff rfl h, fun _ _ _ _ _ _ _ _ h => ff rfl h, fun _ _ _ _ _ _ _ h => ff rfl h, fun gs ev X E S o x h => ?_, fun _ _ _ _ _ _ _ _ _ _ h => ff rfl h, fun _ _ _ _ _ _ _ _ _ h => ff rfl h⟩
    unfold chkT at h
    split at h
    · exact ⟨pt_notM o.cn (ih.T gs ev X E S o _ h).1, fun z => by cases z⟩
    · cases h
  | app p a ihp iha =>
    refine sokE rfl fun gs ev X E S o x h => ?_
    unfold chkE at h
    split at h
    · obtain ⟨h, h5⟩ := and2 h
      obtain ⟨h, h4⟩ := and2 h
      obtain ⟨h, h3⟩ := and2 h
      obtain ⟨h1, h2⟩ := and2 h
      exact pe_appM o.cn (ihp.E gs ev X E S o _ h1) (iha.E gs ev X E S o _ h2) h3 h4 h5
    · cases h
  | popAt p a ihp iha =>
    refine sokE rfl fun gs ev X E S o x h => ?_
    unfold chkE at h
    split at h
    · obtain ⟨h, h5⟩ := and2 h
      obtain ⟨h, h4⟩ := and2 h
      obtain ⟨h, h3⟩ := and2 h
      obtain ⟨h1, h2⟩ := and2 h
      exact pe_popM o.cn (ihp.E gs ev X E S o _ h1) (iha.E gs ev X E S o _ h2) h3 h4 h5
    · cases h
  | index p a ihp iha =>
    refine sokE rfl fun gs ev X E S o x h => ?_
    unfold chkE at h
    split at h
    · obtain ⟨h, h5⟩ := and2 h
      obtain ⟨h, h4⟩ := and2 h
      obtain ⟨h, h3⟩ := and2 h
      obtain ⟨h1, h2⟩ := and2 h
      exact pe_indexM o.cn (ihp.E gs ev X E S o _ h1) (iha.E gs ev X E S o _ h2) h3 h4 h5
    · cases h
  | count p a ihp iha =>
    refine sokE rfl fun gs ev X E S o x h => ?_
    unfold chkE at h
    split at h
    · obtain ⟨h, h5⟩ := and2 h
      obtain ⟨h, h4⟩ := and2 h
      obtain ⟨h, h3⟩ := and2 h
      obtain ⟨h1, h2⟩ := and2 h
      exact pe_countM o.cn (ihp.E gs ev X E S o _ h1) (iha.E gs ev X E S o _ h2) h3 h4 h5
    · cases h
  | dnew =>
    refine sokE rfl fun gs ev X E S o x h => ?_
    unfold chkE at h
    split at h
    · exact pe_dnewM o.cn
    · cases h
  | lam i => exact sokE rfl fun gs ev X E S o x h => ff rfl h
  | inrg neg a hi iha ihh =>
    refine ⟨fun gs ev X E S o x h => ?_, fun _ _ _ _ _ _ _ h => ff rfl h, fun _ _ _ _ _ _ _ h => ff rfl h, fun gs ev X E S o x h => ?_, fun _ _ _ _ _ _ _ _ h => ff rfl h, fun _ _ _ _ _ _ _ h => ff rfl h, fun _ _ _ _ _ _ _ h => ff rfl h, fun _ _ _ _ _ _ _ _ _ _ h => ff rfl h, fun _ _ _ _ _ _ _ _ _ h => ff rfl h⟩
    · unfold chkE at h
      split at h
      · obtain ⟨h, h6⟩ := and2 h
        obtain ⟨h, h5⟩ := and2 h
        obtain ⟨h, h4⟩ := and2 h
        obtain ⟨h, h3⟩ := and2 h
        obtain ⟨h1, h2⟩ := and2 h
        have e1 := dec h1
        have e2 := dec h2
        subst e1 e2
        exact pe_inrM o.cn (iha.E gs ev X E S o _ h5) (ihh.E gs ev X E S o _ h6) h4 (gl_of o.lk h3).1 (o.cn.free _ (by decide))
      · cases h
    · unfold chkV at h
      split at h
      · obtain ⟨h, h6⟩ := and2 h
        obtain ⟨h, h5⟩ := and2 h
        obtain ⟨h, h4⟩ := and2 h
        obtain ⟨h, h3⟩ := and2 h
        obtain ⟨h1, h2⟩ := and2 h
        have e1 := dec h1
        have e2 := dec h2
        subst e1 e2
        exact pt_inrM o.cn (iha.E gs ev X E S o _ h5) (ihh.E gs ev X E S o _ h6) h4 (gl_of o.lk h3).1 (o.cn.free _ (by decide))
      · cases h
end
end Snd

-- Snd23
set_option autoImplicit false
set_option linter.all false
set_option Elab.async false
set_option maxRecDepth 100000
set_option maxHeartbeats 8000000
/-! soundness of M, part 23: the checker of statements -/
namespace Snd
open PySem PySem.Spec PyProof.Rows L2 MM
def blkKind (sc : Scope) : ScopeKind := if sc.kind.isAnnotationScope then .function else sc.kind
/-- swapsWith -/
def swB (S : SC) (value tg : Expr) : Option Bool := match value with
  | .ListComp _ _ s p => (match tg with
    | .Name t pos => some (blkKind S.sc == .function && S.sc.names.lookup t == some .local && pos.line == p.line && !(s.names.any fun (n, k) => n == t && (k == .local || k == .cell)))
    | _ => some false)
  | .SetComp _ _ _ _ => none
  | .DictComp _ _ _ _ _ => none
  | _ => some false
theorem sw_ok {S : SC} {env : Env} (hs : env.scope = S.sc) {value tg : Expr} {b : Bool} (h : swB S value tg = some b) (line : Nat) : swapsWith value (some tg) line env = pure b := by
  unfold swB at h
  cases value with
  | ListComp e gs s p =>
    cases tg with
    | Name t pos =>
      have h := Option.some.inj h
      subst h
      rw [← hs]
      rfl
    | _ => cases h; rfl
  | SetComp _ _ _ _ => cases h
  | DictComp _ _ _ _ _ => cases h
  | _ => cases h; rfl
/-- swappedStores; none: not supported -/
def parB (S : SC) (ts vs : List Expr) : Option (Option (List Str)) :=
  if !(ts.length == 2 || ts.length == 3) || vs.length != ts.length || blkKind S.sc != .function then some none else
  if vs.any (fun | .Starred .. => true | _ => false) then some none else
  let line := (ts.head?.map (·.pos.line)).getD 0
  let names := ts.filterMap fun
    | .Name id pos => if S.sc.names.lookup id == some .local && pos.line == line then some id else none
    | _ => none
  if names.length != ts.length || names.eraseDups.length != names.length then some none else
  if vs.all (foldedForSure 8) then some none else
  if vs.all (constantsAlone 8) then none else some (some names)
theorem par_ok {S : SC} {env : Env} (hs : env.scope = S.sc) {ts vs : List Expr} {k k2 : Nat} {p p2 : Pos} {o : Option (List Str)} (h : parB S ts vs = some o) : swappedStores [.Tuple ts k p] (.Tuple vs k2 p2) env = pure o := by
  unfold parB at h
  rw [← hs] at h
  unfold swappedStores
  dsimp only
  split
  · rename_i c1
    have h := (if_pos c1).symm.trans h
    cases h; rfl
  rename_i c1
  replace h := (if_neg c1).symm.trans h
  split
  · rename_i c1
    have h := (if_pos c1).symm.trans h
    cases h; rfl
  rename_i c1
  replace h := (if_neg c1).symm.trans h
  split
  · rename_i c1
    have h := (if_pos c1).symm.trans h
    cases h; rfl
  rename_i c1
  replace h := (if_neg c1).symm.trans h
  split
  · rename_i c1
    have h := (if_pos c1).symm.trans h
    cases h; rfl
  rename_i c1
  replace h := (if_neg c1).symm.trans h
  split
  · rename_i c1
    have h := (if_pos c1).symm.trans h
    cases h
  rename_i c1
  replace h := (if_neg c1).symm.trans h
  cases h; rfl
/-- raise X('..') -/
theorem ps_raiseM {g : GW} {ev : Fs} {X : Cx} {E : XK} {n : Nat} {x m : Str} {a : Addr} {j : Nat} {p1 p2 p3 pos : Pos} (c : Cn g ev X E) (W : ExAt g n x a) (hn : n ≠ 0) (hg : Gl X x) (hd : (x == ("__debug__" : Str)) = false) :
    PS X (.Raise (some (.Call (.Name x p1) [.Constant (.str m) j p2] [] p3)) none pos) (tS g ev E fun _ => fun h => .exc n 0 h) := by
  have hmk := pmk_own (X := X) (x := x) (m := m) (j := j) (p := p1) (p2 := p2) (pos := p3) (C := a) PySem.F.excBase_ValueError (by rw [c.hK]; exact W.exc) (by rw [c.hm]; exact W.mg) (by rw [c.hK]; exact W.keep) (raises_own (by rw [c.hK]; exact W.sub) (by rw [c.hK]; exact W.typ)) hg hd
  refine ⟨fun pins s σ H D I ⟨ρ, τ, h, rs, rh, p⟩ => (ps_raise c.calm c.takes hmk).run pins s σ H D I ?_⟩
  exact p ρ H _ none Grow.refl rh ⟨a, rfl, by show g.mg (g.en n) = _; rw [W.en]; exact W.mg, fun z => absurd z hn⟩
/-! ### the checker -/
def noPar (S : SC) (tg value : Expr) : Bool := match tg, value with
  | .Tuple ts _ _, .Tuple vs _ _ => decide (parB S ts vs = some none)
  | .List _ _, _ => false
  | .Starred _ _, _ => false
  | _, _ => true
theorem noPar_ok {S : SC} {env : Env} (hs : env.scope = S.sc) {tg value : Expr} (h : noPar S tg value = true) : swappedStores [tg] value env = pure none ∧ (assignEach [tg] env).map (·.2) = [assign tg env] := by
  unfold noPar at h
  split at h
  · exact ⟨par_ok hs (by simpa using h), rfl⟩
  · cases h
  · cases h
  · rename_i n2 n3 n1
    refine ⟨?_, ?_⟩
    · cases tg with
      | Tuple ts k p =>
        cases value with
        | Tuple vs k2 p2 => exact (n1 _ _ _ _ _ _ rfl rfl).elim
        | _ => rfl
      | List ts p => exact (n2 _ _ rfl).elim
      | _ => rfl
    · cases tg with
      | Starred t p => exact (n3 _ _ rfl).elim
      | _ => rfl
def noComp : Expr → Bool
  | .ListComp _ _ _ _ => false
  | .SetComp _ _ _ _ => false
  | .DictComp _ _ _ _ _ => false
  | _ => true
theorem noComp_ok {e : Expr} (h : noComp e = true) (t : Option Expr) (line : Nat) (env : Env) : swapsWith e t line env = pure false := by
  cases e <;> first | rfl | cases h
mutual
def chkS (C : CK) (S : SC) : MS → Stmt → Bool
  | .pass, st => (match st with | .Pass _ => true | _ => false)
  | .asg t e, st => (match st with
    | .Assign [tg] value _ => tgB S.N S.sc S.fnB t tg && noPar S tg value && (match swB S value tg with
      | some false => chkE C S e value
      | some true => (match e, t with | .lc mu own tg' it c elt, .nm i => chkE C S (.lc mu own tg' it c elt) value && decide (S.sc.names.lookup (S.N.getD i "") = some .local) | _, _ => false)
      | none => false)
    | _ => false)
  | .par is as, st => (match st with
    | .Assign [.Tuple ts _ _] (.Tuple vs _ _) _ => (match parB S ts vs with | some (some ns) => decide (ns = is.map fun i => S.N.getD i "") && decide (is.Nodup) && (decide (is.length = 2) || decide (is.length = 3)) && tgN S.N S.sc (fun _ => false) is ts && chkA C S as vs && allPlain vs | _ => false)
    | _ => false)
  | .sub o i e, st => (match st with
    | .Assign [.Subscript p q p2] value _ => plainIx q && noComp value && chkE C S o p && chkE C S i q && chkE C S e value
    | _ => false)
  | .ifs c a b, st => (match st with | .If t x y _ => chkT C S c t && chkB C S a x && chkB C S b y | _ => false)
  | .whl c b, st => (match st with | .While t x [] _ => chkT C S c t && chkB C S b x | _ => false)
  | .fors t it b, st => (match st with | .For tg iter x [] _ => tgB S.N S.sc S.fnB t tg && !isSetE iter && chkI C S it tg iter && chkB C S b x | _ => false)
  | .ret e, st => (match st with | .Return (some x) _ => chkE C S e x | _ => false)
  | .retN, st => (match st with | .Return none _ => true | _ => false)
  | .raise c as, st => (match as, st with | .nil, .Raise (some (.Call (.Name y _) [.Constant (.str _) _ _] [] _)) none _ => decide (C.ex c = some y) && !decide (c = 0) && glB S y | _, _ => false)
  | .expr e, st => (match st with | .Expr x _ => noComp x && chkE C S e x | _ => false)
  | _, _ => false
def chkB (C : CK) (S : SC) : MS → List Stmt → Bool
  | .skip, b => (match b with | [] => true | _ => false)
  | .seq a r, b => (match b with | st :: rest => chkS C S a st && chkB C S r rest | [] => false)
  | _, _ => false
end
end Snd

-- Snd24
set_option autoImplicit false
set_option linter.all false
set_option Elab.async false
set_option maxRecDepth 100000
set_option maxHeartbeats 8000000
/-! soundness of M, part 24: statements, a program -/
namespace Snd
open PySem PySem.Spec PyProof.Rows L2 MM
section
variable {C : CK} {g : GW} {fa : Nat → Addr} {cfg : Cfg} {k : Nat}
/-- what the statement checker's yes means -/
structure SOKS (C : CK) (g : GW) (cfg : Cfg) (k : Nat) (m : MS) : Prop where
  S : ∀ gs ev X E S, Ok g k gs ev X E S → S.top = true → PassesOwn (model X.prog X.w) X.A X.env X.xe → ∀ st, chkS C S m st = true → PS X st (tS (gw g gs) ev E (evS cfg (Kof ev) m))
  B : ∀ gs ev X E S, Ok g k gs ev X E S → S.top = true → PassesOwn (model X.prog X.w) X.A X.env X.xe → ∀ st, chkB C S m st = true → PSs X st (tS (gw g gs) ev E (evS cfg (Kof ev) m))
theorem tgN2 {N : List Str} {sc : Scope} {i j : Nat} {e1 e2 : Expr} (h : tgN N sc (fun _ => false) [i, j] [e1, e2] = true) : ∃ x y px py, e1 = .Name x px ∧ e2 = .Name y py ∧ N[i]? = some x ∧ N[j]? = some y ∧ sc.names.lookup x = some .local ∧ sc.names.lookup y = some .local := by
  cases e1 <;> try (simp [tgN] at h; done)
  cases e2 <;> try (simp [tgN] at h; done)
  simp [tgN] at h
  exact ⟨_, _, _, _, rfl, rfl, h.1.1, h.2.1, h.1.2, h.2.2⟩
theorem tgN3 {N : List Str} {sc : Scope} {i j l : Nat} {e1 e2 e3 : Expr} (h : tgN N sc (fun _ => false) [i, j, l] [e1, e2, e3] = true) :
    ∃ x y z px py pz, e1 = .Name x px ∧ e2 = .Name y py ∧ e3 = .Name z pz ∧ N[i]? = some x ∧ N[j]? = some y ∧ N[l]? = some z ∧ sc.names.lookup x = some .local ∧ sc.names.lookup y = some .local ∧ sc.names.lookup z = some .local := by
  cases e1 <;> try (simp [tgN] at h; done)
  cases e2 <;> try (simp [tgN] at h; done)
  cases e3 <;> try (simp [tgN] at h; done)
  simp [tgN] at h
  exact ⟨_, _, _, _, _, _, rfl, rfl, rfl, h.1.1, h.2.1.1, h.2.2.1, h.1.2, h.2.1.2, h.2.2.2⟩
theorem getD_of {N : List Str} {i : Nat} {x : Str} (h : N[i]? = some x) : N.getD i "" = x := by simp [List.getD_eq_getElem?_getD, h]
/-- a comprehension's parts -/
theorem lc_parts (se : ∀ e, SOK C g cfg k e) {gs : List Addr} {ev : Fs} {X : Cx} {E : XK} {S : SC} {own : List Nat} {tg : MT} {it t elt : ME} {mu : Bool} {x : Expr} (o : Ok g k gs ev X E S) (h : chkE C S (.lc mu own tg it t elt) x = true) :
    ∃ e tgE iter ifs scope pos, x = .ListComp e [⟨tgE, iter, ifs, 0⟩] scope pos ∧ BlkOk X.N X.env.scope scope (ownP S own) ∧ PI X tgE iter (tI (gw g gs) ev E fun τ => M.bind (evI cfg (Kof ev) S.top it τ) fun v => opt (items v)) ∧
      (∀ (s : Shared) (H : Hp) (C' : Addr) (cl : List (Str × Addr)) (fp : List Addr), PG (X.blk s H scope (compEnvC scope cl C' X.env) fp) tgE (gX (gw g gs).K tg)) ∧
      (∀ (D : Addr) (s : Shared) (H : Hp) (C' : Addr) (cl : List (Str × Addr)) (fp : List Addr), PTs (X.blk s H scope (compEnvC scope cl C' X.env) fp) ifs (tMT (gh (gw g gs) D) ev noX fun τ => evT cfg (Kof ev) false t τ)) ∧
      (∀ (D : Addr) (s : Shared) (H : Hp) (C' : Addr) (cl : List (Str × Addr)) (fp : List Addr), PE (X.blk s H scope (compEnvC scope cl C' X.env) fp) e (tM (gh (gw g gs) D) ev noX fun τ => evE cfg (Kof ev) false elt τ)) ∧
      (∀ v, foldedSetIterable iter X.env v = pure v) ∧ ∀ i ∈ tgIx tg, i ∈ (ownP S own).map (·.2) := by
  unfold chkE at h
  split at h
  · rename_i e tgE iter ifs scope pos
    obtain ⟨h, h7⟩ := and2 h
    obtain ⟨h, h6⟩ := and2 h
    obtain ⟨h, h5⟩ := and2 h
    obtain ⟨h, h4⟩ := and2 h
    obtain ⟨h, h3⟩ := and2 h
    obtain ⟨h1, h2⟩ := and2 h
    refine ⟨e, tgE, iter, ifs, scope, pos, rfl, by rw [o.lk.N, o.lk.sc]; exact blkOk_by h1, (se it).I gs ev X E S o tgE iter h5,
      fun s H C' cl fp => pg_X (ok_blk0 (scope := scope) o s H C' cl fp).cn (ok_blk0 (scope := scope) o s H C' cl fp).lk.N (ok_blk0 (scope := scope) o s H C' cl fp).lk.sc (ok_blk0 (scope := scope) o s H C' cl fp).lk.fn h2,
      fun D s H C' cl fp => ?_, fun D s H C' cl fp => (se elt).E (D :: gs) ev _ noX _ (ok_blk (scope := scope) o (fun _ _ => trivial) D s H C' cl fp) e h7, fold_ok (nt h4) _, fun i hi => by
        rw [ownP_ix]
        have := List.all_eq_true.mp h3 i hi
        simpa using this⟩
    have ob := ok_blk (scope := scope) o (fun _ _ => trivial) D s H C' cl fp
    cases ifs with
    | nil =>
      have et := isTT_of h6
      subst et
      exact ⟨fun pins s σ H Q I ⟨ρ, τ, h, rs, rh, p⟩ => pts_nil.run pins s σ H Q I (RPost.pure (a := true) rh p)⟩
    | cons c r =>
      cases r with
      | nil => exact pts_one ((se t).T (D :: gs) ev _ noX _ ob c h6).1
      | cons c2 r => cases h6
  · cases h
theorem sndS (wd : Wd C g fa) (se : ∀ e, SOK C g cfg k e) (m : MS) : SOKS C g cfg k m := by
  induction m with
  | skip =>
    refine ⟨fun _ _ _ _ _ _ _ _ _ h => ff rfl h, fun gs ev X E S o ht hp st h => ?_⟩
    unfold chkB at h
    split at h
    · exact pss_nilM
    · cases h
  | seq a b iha ihb =>
    refine ⟨fun _ _ _ _ _ _ _ _ _ h => ff rfl h, fun gs ev X E S o ht hp st h => ?_⟩
    unfold chkB at h
    split at h
    · obtain ⟨h1, h2⟩ := and2 h
      exact pss_consM (iha.S gs ev X E S o ht hp _ h1) (ihb.B gs ev X E S o ht hp _ h2)
    · cases h
  | pass =>
    refine ⟨fun gs ev X E S o ht hp st h => ?_, fun _ _ _ _ _ _ _ _ _ h => ff rfl h⟩
    unfold chkS at h
    split at h
    · exact ps_passM
    · cases h
  | asg t e =>
    refine ⟨fun gs ev X E S o ht hp st h => ?_, fun _ _ _ _ _ _ _ _ _ h => ff rfl h⟩
    unfold chkS at h
    split at h
    · rename_i tg value pos
      obtain ⟨h, h3⟩ := and2 h
      obtain ⟨h1, h2⟩ := and2 h
      have pg := pg_X o.cn o.lk.N o.lk.sc o.lk.fn h1
      obtain ⟨n1, n2⟩ := noPar_ok (env := X.env) o.lk.sc h2
      split at h3
      · rename_i hsw
        have pe := (se e).E gs ev X E S o _ h3
        rw [ht] at pe
        exact ps_asgM pe pg (sw_ok o.lk.sc hsw pos.line) n1 n2
      · rename_i hsw
        split at h3
        · rename_i mu own tg' it c elt i hx
          obtain ⟨h4, h5⟩ := and2 h3
          obtain ⟨e, tgE, iter, ifs, scope, cpos, rfl, b1, b2, b3, b4, b5, b6, b7⟩ := lc_parts se o h4
          cases tg with
          | Name y py =>
            simp only [tgB, tgN, Bool.and_eq_true, decide_eq_true_eq] at h1
            have hy := h1.1.1
            have hl : S.sc.names.lookup y = some .local := by
              have := dec h5
              rw [getD_of hy] at this; exact this
            have key := ps_setLcM (mu := mu) (pos := pos) (py := py) o.cn (by rw [o.lk.N]; exact hy) (by rw [o.lk.sc]; exact hl) (sw_ok o.lk.sc hsw pos.line) b2 b1 b3 b4 b5 b6 b7
            rw [ownP_ix, ht] at key
            have ee : (fun τ => M.bind (M.bind (M.bind (evI cfg (Kof ev) true it τ) fun v => opt (items v)) fun xs => M.bind (noexc (lcF (MM.bindM tg') (fun τ => evT cfg (Kof ev) false c τ) (fun τ => evE cfg (Kof ev) false elt τ) (wipeM τ own) xs)) fun ys => if ys.length ≤ cap then mkList mu ys else bad) fun v => M.bind (MM.bindM (.nm i) v τ) fun τ' => M.pure (.nx τ')) = evS cfg (Kof ev) (.asg (.nm i) (.lc mu own tg' it c elt)) := by
              funext τ
              exact congrArg (fun m => M.bind m fun v => M.bind (MM.bindM (.nm i) v τ) fun τ' => M.pure (Fl.nx τ')) (bind_assoc (m := evI cfg (Kof ev) true it τ))
            rw [ee] at key
            exact key
          | _ => simp [swB] at hsw
        · cases h3
      · cases h3
    · cases h
  | par is as =>
    refine ⟨fun gs ev X E S o ht hp st h => ?_, fun _ _ _ _ _ _ _ _ _ h => ff rfl h⟩
    unfold chkS at h
    split at h
    · rename_i ts kt pt vs k2 p2 pos
      split at h
      · rename_i ns hpar
        obtain ⟨h, h6⟩ := and2 h
        obtain ⟨h, h5⟩ := and2 h
        obtain ⟨h, h4⟩ := and2 h
        obtain ⟨h, h3⟩ := and2 h
        obtain ⟨h1, h2⟩ := and2 h
        have hw := par_ok (k := kt) (p := pt) (k2 := k2) (p2 := p2) (env := X.env) o.lk.sc hpar
        have ha := (se as).A gs ev X E S o _ h5 h6
        rw [ht] at ha
        have hvl : vs.length = ts.length := by
          unfold parB at hpar
          split at hpar
          · cases hpar
          · rename_i hc
            by_cases hv : vs.length = ts.length
            · exact hv
            · exact absurd (by simp [hv]) hc
        have htl := tgN_len h4
        have nd : is.Nodup := dec h2
        have e1 := dec h1
        simp only [Bool.or_eq_true, decide_eq_true_eq] at h3
        match is, ts, vs, h3, htl, hvl, h4, ha, hw, nd, e1 with
        | [i, j], [x1, x2], [v1, v2], _, _, _, h4, ha, hw, nd, e1 =>
          obtain ⟨x, y, px, py, rfl, rfl, a1, a2, a3, a4⟩ := tgN2 h4
          have : ns = [x, y] := by rw [e1]; simp [a1, a2]
          subst this
          exact ps_par2M o.cn (by rw [o.lk.N]; exact a1) (by rw [o.lk.N]; exact a2) (by simp at nd; exact nd) (by rw [o.lk.sc]; exact a3) (by rw [o.lk.sc]; exact a4) ha hw
        | [i, j, l], [x1, x2, x3], [v1, v2, v3], _, _, _, h4, ha, hw, nd, e1 =>
          obtain ⟨x, y, z, px, py, pz, rfl, rfl, rfl, a1, a2, a3, a4, a5, a6⟩ := tgN3 h4
          have : ns = [x, y, z] := by rw [e1]; simp [a1, a2, a3]
          subst this
          simp at nd
          exact ps_par3M o.cn (by rw [o.lk.N]; exact a1) (by rw [o.lk.N]; exact a2) (by rw [o.lk.N]; exact a3) nd.1.1 nd.1.2 nd.2 (by rw [o.lk.sc]; exact a4) (by rw [o.lk.sc]; exact a5) (by rw [o.lk.sc]; exact a6) ha hw
        | [], _, _, h3, _, _, _, _, _, _, _ => simp at h3
        | [_], _, _, h3, _, _, _, _, _, _, _ => simp at h3
        | _ :: _ :: _ :: _ :: _, _, _, h3, _, _, _, _, _, _, _ => simp at h3
        | [i, j], [], _, _, h, _, _, _, _, _, _ => simp at h
        | [i, j], [_], _, _, h, _, _, _, _, _, _ => simp at h
        | [i, j], _ :: _ :: _ :: _, _, _, h, _, _, _, _, _, _ => simp at h
        | [i, j, l], [], _, _, h, _, _, _, _, _, _ => simp at h
        | [i, j, l], [_], _, _, h, _, _, _, _, _, _ => simp at h
        | [i, j, l], [_, _], _, _, h, _, _, _, _, _, _ => simp at h
        | [i, j, l], _ :: _ :: _ :: _ :: _, _, _, h, _, _, _, _, _, _ => simp at h
        | [i, j], [_, _], [], _, _, h, _, _, _, _, _ => simp at h
        | [i, j], [_, _], [_], _, _, h, _, _, _, _, _ => simp at h
        | [i, j], [_, _], _ :: _ :: _ :: _, _, _, h, _, _, _, _, _ => simp at h
        | [i, j, l], [_, _, _], [], _, _, h, _, _, _, _, _ => simp at h
        | [i, j, l], [_, _, _], [_], _, _, h, _, _, _, _, _ => simp at h
        | [i, j, l], [_, _, _], [_, _], _, _, h, _, _, _, _, _ => simp at h
        | [i, j, l], [_, _, _], _ :: _ :: _ :: _ :: _, _, _, h, _, _, _, _, _ => simp at h
      · cases h
    · cases h
  | sub p i e =>
    refine ⟨fun gs ev X E S o ht hp st h => ?_, fun _ _ _ _ _ _ _ _ _ h => ff rfl h⟩
    unfold chkS at h
    split at h
    · obtain ⟨h, h5⟩ := and2 h
      obtain ⟨h, h4⟩ := and2 h
      obtain ⟨h, h3⟩ := and2 h
      obtain ⟨h1, h2⟩ := and2 h
      have pe := (se e).E gs ev X E S o _ h5
      have po := (se p).E gs ev X E S o _ h3
      have pi := (se i).E gs ev X E S o _ h4
      rw [ht] at pe po pi
      exact ps_subM o.cn pe po pi h1 (by unfold swapsWithSole; exact noComp_ok h2 _ _ _)
    · cases h
  | ifs t a b iha ihb =>
    refine ⟨fun gs ev X E S o ht hp st h => ?_, fun _ _ _ _ _ _ _ _ _ h => ff rfl h⟩
    unfold chkS at h
    split at h
    · obtain ⟨h, h3⟩ := and2 h
      obtain ⟨h1, h2⟩ := and2 h
      have pt := ((se t).T gs ev X E S o _ h1).1
      rw [ht] at pt
      exact ps_ifM pt (iha.B gs ev X E S o ht hp _ h2) (ihb.B gs ev X E S o ht hp _ h3)
    · cases h
  | whl t b ihb =>
    refine ⟨fun gs ev X E S o ht hp st h => ?_, fun _ _ _ _ _ _ _ _ _ h => ff rfl h⟩
    unfold chkS at h
    split at h
    · obtain ⟨h1, h2⟩ := and2 h
      have pt := ((se t).T gs ev X E S o _ h1).1
      rw [ht] at pt
      exact ps_whlM hp pt (ihb.B gs ev X E S o ht hp _ h2)
    · cases h
  | fors t it b ihb =>
    refine ⟨fun gs ev X E S o ht hp st h => ?_, fun _ _ _ _ _ _ _ _ _ h => ff rfl h⟩
    unfold chkS at h
    split at h
    · rename_i tg iter x pos
      obtain ⟨h, h4⟩ := and2 h
      obtain ⟨h, h3⟩ := and2 h
      obtain ⟨h1, h2⟩ := and2 h
      have pi := (se it).I gs ev X E S o tg iter h3
      rw [ht] at pi
      have := ps_forM (pos := pos) o.cn hp pi (pg_X o.cn o.lk.N o.lk.sc o.lk.fn h1) (ihb.B gs ev X E S o ht hp _ h4) (fold_ok (nt h2) _)
      have ee : (fun τ => M.bind (M.bind (evI cfg (Kof ev) true it τ) fun v => opt (items v)) fun xs => loopF (fun v τ => M.bind (MM.bindM t v τ) fun τ' => evS cfg (Kof ev) b τ') xs τ) = evS cfg (Kof ev) (.fors t it b) := by
        funext τ
        rw [bind_assoc]
        rfl
      rw [ee] at this
      exact this
    · cases h
  | ret e =>
    refine ⟨fun gs ev X E S o ht hp st h => ?_, fun _ _ _ _ _ _ _ _ _ h => ff rfl h⟩
    unfold chkS at h
    split at h
    · have pe := (se e).E gs ev X E S o _ h
      rw [ht] at pe
      exact ps_retM pe
    · cases h
  | retN =>
    refine ⟨fun gs ev X E S o ht hp st h => ?_, fun _ _ _ _ _ _ _ _ _ h => ff rfl h⟩
    unfold chkS at h
    split at h
    · exact ps_retNM
    · cases h
  | raise n as =>
    refine ⟨fun gs ev X E S o ht hp st h => ?_, fun _ _ _ _ _ _ _ _ _ h => ff rfl h⟩
    unfold chkS at h
    split at h
    · obtain ⟨h, h3⟩ := and2 h
      obtain ⟨h1, h2⟩ := and2 h
      obtain ⟨a, W⟩ := wd.ex _ _ (dec h1)
      obtain ⟨q1, q2, q3, q4⟩ := gl_of o.lk h3
      have W' : ExAt (gw g gs) n _ a := ⟨W.en, W.mg, W.exc, W.keep, W.sub, W.typ⟩
      exact ps_raiseM o.cn W' (by simpa using h2) q1 q2
    · cases h
  | expr e =>
    refine ⟨fun gs ev X E S o ht hp st h => ?_, fun _ _ _ _ _ _ _ _ _ h => ff rfl h⟩
    unfold chkS at h
    split at h
    · obtain ⟨h1, h2⟩ := and2 h
      have pe := (se e).E gs ev X E S o _ h2
      rw [ht] at pe
      exact ps_exprM pe (noComp_ok h1 _ _ _)
    · cases h
end
end Snd

-- Snd25
set_option autoImplicit false
set_option linter.all false
set_option Elab.async false
set_option maxRecDepth 100000
set_option maxHeartbeats 8000000
/-! soundness of M, part 25: a program -/
namespace Snd
open PySem PySem.Spec PyProof.Rows L2 MM
/-- a program: defs by numbers; global ints; their names -/
structure Pg where
  tab : List (Nat × DF × MD)
  gints : List (Nat × Str × Int)
  exs : List (Nat × Str)
def Pg.C (p : Pg) : CK := ⟨fun f => (p.tab.lookup f).map (·.1), fun n => (p.gints.lookup n).map (·.2), fun n => ((p.gints.lookup n).map (·.1)).getD "", fun n => p.exs.lookup n⟩
def Pg.P (p : Pg) : Nat → Option MD := fun f => (p.tab.lookup f).map (·.2)
def Pg.G (p : Pg) : Nat → Option Int := fun n => (p.gints.lookup n).map (·.2)
def topS (df : DF) : SC := ⟨df.N, df.scope, fun _ => true, true⟩
def chk1 (p : Pg) (x : Nat × DF × MD) : Bool := decide (x.2.2.np = x.2.1.ps.length) && decide (x.2.2.ns = x.2.1.N.length) && chkB p.C (topS x.2.1) x.2.2.body x.2.1.body
def Pg.chk (p : Pg) : Bool := p.tab.all (chk1 p)
theorem lookup_mem {α : Type} : ∀ {l : List (Nat × α)} {n : Nat} {a : α}, l.lookup n = some a → (n, a) ∈ l
  | (m, b) :: r, n, a, h => by
    rw [List.lookup_cons] at h
    cases hb : n == m with
    | true => rw [hb] at h; cases h; have : n = m := by simpa using hb
              subst this; exact List.mem_cons_self
    | false => rw [hb] at h; exact List.mem_cons_of_mem _ (lookup_mem h)
section
variable {p : Pg} {g : GW} {fa : Nat → Addr} {L : Nat → Option ME}
theorem gl_call (d : Nat) : (callM p.P L p.G d).gl = p.C.G := by cases d <;> rfl
theorem prog_ok (hc : p.chk = true) (wd : Wd p.C g fa) (fr : ∀ x ∈ freeNames, g.mg x = none) : ∀ (d : Nat) (gs : List Addr) (f : Nat) (df : DF), p.C.D f = some df → FnM (gw g gs) (callM p.P L p.G d) d f df (fa f)
  | 0, gs, f, df, _ => fnM_zero
  | d + 1, gs, f, df, hf => by
    have hf' : (p.tab.lookup f).map (·.1) = some df := hf
    obtain ⟨⟨df', md⟩, h1, h2⟩ := Option.map_eq_some_iff.mp hf'
    have h2 : df' = df := h2
    subst h2
    have hm := List.all_eq_true.mp hc _ (lookup_mem h1)
    unfold chk1 at hm
    obtain ⟨h, h5⟩ := and2 hm
    obtain ⟨h3, h4⟩ := and2 h
    have W := wd.defs f df' hf
    refine fnM_succ (md := md) (by show (p.tab.lookup f).map (·.2) = _; rw [h1]; rfl) ⟨W.nm, W.N, W.mg, W.keep, W.nd, W.obj, W.sc⟩ fr (dec h3) (dec h4) ?_
    intro gs' ev X E cn tp po hr hN hs
    have se := fun e => snd_all (k := d) wd (gl_call d) (fun gs f df hf => prog_ok hc wd fr d gs f df hf) e
    exact (sndS wd se md.body).B gs' ev X E (topS df') ⟨cn, fun _ => tp, hr, ⟨hN, hs, fun x _ => tp.fnT x⟩⟩ rfl po _ h5
end
end Snd

-- Snd26
set_option autoImplicit false
set_option linter.all false
set_option Elab.async false
set_option maxRecDepth 100000
set_option maxHeartbeats 8000000
/-! soundness of M, part 26: a law -/
namespace Snd
open PySem PySem.Spec PyProof.Rows L2 MM
section
variable {p : Pg} {g : GW} {fa : Nat → Addr} {L : Nat → Option ME}
theorem rep_sc {a : Addr} {is : List Int} {H : Hp} (hg : g.gs = []) (h : SqL g.K H a (is.map V.int)) : Rep g ⟨[], []⟩ [] H (sc is) (.ref a) := by
  simp only [sc, Rep, RepX]
  refine ⟨a, is, rfl, ?_, rfl⟩
  rcases h with h | h
  · exact .inr ⟨h, by simp, by simp [hg]⟩
  · exact .inl (.inr h)
/-- the law's promise -/
def spLaw (K : PySem.W.Frag) (n : Nat) : Sp := fun vs H Q _ => ∃ (a : Addr) (ns : List Int), vs = [.ref a] ∧ ns.length ≤ n ∧ (∀ z ∈ ns, Builtin.Int.intBits z ≤ 1048576) ∧ SqL K H a (ns.map V.int) ∧ ∀ H', Q (.bl true) H'
theorem law_ok {df : DF} {md : MD} {f d n : Nat} {base : Heap} {fd : FuncData} (hc : p.chk = true) (wd : Wd p.C g fa) (fr : ∀ x ∈ freeNames, g.mg x = none) (hf : p.C.D f = some df) (hP : p.P f = some md) (hps : df.ps = [("script" : Str)]) (hg : g.gs = []) (hT : g.T = [])
    (F : FunD g.K df.name df.name df.params df.body df.scope [] [] (fa f) fd)
    (law : ∀ ns : List Int, ns.length ≤ n → (∀ z ∈ ns, Builtin.Int.intBits z ≤ 1048576) → ∃ h', gc md.fz 0 [] (evS (callM p.P L p.G d) [] md.body (startM [sc ns] md.ns) []) = .ok (.bool true) h') :
    FnOk g.P g.w g.K g.mg base (L2.CX g.P g.w) (d + 1) (fa f) fd ["script"] (spLaw g.K n) := by
  have W := wd.defs f df hf
  have hm : (f, df, md) ∈ p.tab := by
    have h1 : (p.tab.lookup f).map (·.1) = some df := hf
    have h2 : (p.tab.lookup f).map (·.2) = some md := hP
    cases q : p.tab.lookup f with
    | none => rw [q] at h1; cases h1
    | some x =>
      rw [q] at h1 h2
      have e1 : x.1 = df := Option.some.inj h1
      have e2 : x.2 = md := Option.some.inj h2
      obtain ⟨a, b⟩ := x
      subst e1 e2
      exact lookup_mem q
  have hm := List.all_eq_true.mp hc _ hm
  unfold chk1 at hm
  obtain ⟨h, h5⟩ := and2 hm
  obtain ⟨h3, h4⟩ := and2 h
  refine F.ok (by rw [← hps]; exact W.sc) (fun vs H Q E h => ?_) (fun cdv A outer s H vs Q E hr h => ?_)
  · obtain ⟨a, ns, rfl, _⟩ := h; rfl
  · obtain ⟨a, ns, rfl, hl, hb, hS, hQ⟩ := h
    have bo : BodyOk g (callM p.P L p.G d) d df md.body := by
      intro gs' ev X E cn tp po hr hN hs
      have se : ∀ e, SOK p.C g (callM p.P L p.G d) d e := fun e => snd_all (k := d) wd (gl_call d) (fun gs f df hf => prog_ok hc wd fr d gs f df hf) e
      exact (sndS wd se md.body).B gs' ev X E (topS df) ⟨cn, fun _ => tp, hr, ⟨hN, hs, fun x _ => tp.fnT x⟩⟩ rfl po _ h5
    obtain ⟨h', e⟩ := law ns hl hb
    refine body_run (md := md) (c := ⟨[], []⟩) (ρ := []) (h := []) (ds := [sc ns]) (base := base) (A := A) (outer := outer) W fr (dec h4) bo hr ⟨Nat.le_refl _, fun j τ σ hj => by cases hj⟩ rfl
      ⟨rfl, List.nodup_nil, (fun n o a h1 => by cases h1), (by rw [hT]; exact fun q hq => by cases hq), (fun j τ σ hj => by cases hj), (fun a ha => by rw [hg] at ha; cases ha)⟩ ?_ (by rw [hps]; rfl) ?_
    · simp only [Reps]
      exact ⟨_, _, rfl, rep_sc hg hS, rfl⟩
    · show RPost _ _ _ _ _ (gc md.fz 0 [] (evS (callM p.P L p.G d) [] md.body (startM [sc ns] md.ns) [])) _
      rw [e]
      intro ρ' H' _ _ v rv
      rw [bool_of rv]
      exact hQ H'
end
/-! ### the head's facts -/
def dOf (df : DF) : He.DefD := ⟨(df.name, none), df.name, df.name, df.params, df.body, df.scope, [], []⟩
def Pg.fn (p : Pg) : List He.DefD := p.tab.map fun x => dOf x.2.1
def Pg.fa (p : Pg) : List He.Fa := p.tab.map (fun x => .glo x.2.1.name) ++ freeNames.map .free ++ p.gints.map (fun x => .int x.2.1 x.2.2) ++ p.exs.map (fun x => .glo x.2) ++ p.exs.map fun x => .exc x.2
/-- a scope, checked -/
def scB (df : DF) : Bool := decide (df.scope.kind = .function) && !df.scope.isCoroutine && !df.scope.isGenerator && decide df.N.Nodup && decide (df.N.take df.ps.length = df.ps) &&
  (df.ps.all fun x => decide (df.scope.names.lookup x = some .local) || decide (df.scope.names.lookup x = some .cell)) && (df.scope.names.all fun y => !decide (y.2 = .free)) && !(df.name == ("__debug__" : Str))
theorem scB_ok {df : DF} (h : scB df = true) : FnScope df.N df.ps df.scope ∧ (df.name == ("__debug__" : Str)) = false := by
  unfold scB at h
  obtain ⟨h, h8⟩ := and2 h
  obtain ⟨h, h7⟩ := and2 h
  obtain ⟨h, h6⟩ := and2 h
  obtain ⟨h, h5⟩ := and2 h
  obtain ⟨h, h4⟩ := and2 h
  obtain ⟨h, h3⟩ := and2 h
  obtain ⟨h1, h2⟩ := and2 h
  refine ⟨⟨dec h1, nt h2, nt h3, dec h4, dec h5, fun x hx => ?_, fun y hy e => ?_⟩, nt h8⟩
  · have := List.all_eq_true.mp h6 x hx
    simpa using this
  · have := List.all_eq_true.mp h7 y hy
    simp [e] at this
/-- how a def binds its arguments -/
def BindOk (df : DF) : Prop := ∀ (kV doc pm : Value) (an : Option Addr) (cdv ct : Value) (us : List Value), us.length = df.ps.length → bindArgs (fnObj df .none kV doc pm an cdv ct) ⟨us, []⟩ = pure (df.ps.zip us)
def Pg.gw (p : Pg) (P : Program) (w : World) (K : PySem.W.Frag) (mg : Str → Option Value) : GW :=
  ⟨P, w, K, mg, [], fun f => ((p.tab.lookup f).map (·.1.name)).getD "", fun _ => "", fun c => (p.exs.lookup c).getD "", fun _ => none, fun f => ((p.tab.lookup f).map (·.1.N)).getD [], []⟩
def Pg.ad (p : Pg) (K : PySem.W.Frag) : Nat → Addr := fun f => He.ga K (((p.tab.lookup f).map (·.1.name)).getD "")
section
variable {p : Pg} {P : Program} {w : World} {K : PySem.W.Frag} {mg : Str → Option Value} {h : Heap}
theorem fun_of (c : He.SaysD p.fa p.fn K) {f : Nat} {df : DF} (hf : p.C.D f = some df) : ∃ fd, FunD K df.name df.name df.params df.body df.scope [] [] (p.ad K f) fd := by
  have hf' : (p.tab.lookup f).map (·.1) = some df := hf
  obtain ⟨⟨df', md⟩, h1, h2⟩ := Option.map_eq_some_iff.mp hf'
  have h2 : df' = df := h2
  subst h2
  obtain ⟨fd, F⟩ := He.SaysD.defs c (d := dOf df') (List.mem_map.mpr ⟨_, lookup_mem h1, rfl⟩)
  refine ⟨fd, ?_⟩
  have e : p.ad K f = He.ga K df'.name := by unfold Pg.ad; rw [h1]; rfl
  rw [e]
  exact F
theorem wd_of (X : K.In h) (G : h.Ns mainGlobals mg) (c : He.SaysD p.fa p.fn K) (sc : p.tab.all (fun x => scB x.2.1) = true) (bd : ∀ x ∈ p.tab, BindOk x.2.1) : Wd p.C (p.gw P w K mg) (p.ad K) ∧ ∀ x ∈ freeNames, (p.gw P w K mg).mg x = none := by
  refine ⟨⟨fun f df hf => ?_, fun x i hi => ?_, fun n x hx => ?_⟩, fun x hx => ?_⟩
  · obtain ⟨fd, F⟩ := fun_of c hf
    have hf' : (p.tab.lookup f).map (·.1) = some df := hf
    obtain ⟨⟨df', md⟩, h1, h2⟩ := Option.map_eq_some_iff.mp hf'
    have h2 : df' = df := h2
    subst h2
    have hm := lookup_mem h1
    obtain ⟨s1, s2⟩ := scB_ok (List.all_eq_true.mp sc _ hm)
    obtain ⟨oc, od, dV, kV, doc, pm, an, cdv, ct, osl, rfl, lk, hcd, hD, _⟩ := F.ex
    have hdV : dV = .none := by rcases hD with ⟨_, e⟩ | ⟨e, _⟩; exact e; exact absurd rfl e
    subst hdV
    have ea : p.ad K f = He.ga K df'.name := by unfold Pg.ad; rw [h1]; rfl
    refine ⟨by show ((p.tab.lookup f).map (fun x => x.1.name)).getD (Str.ofString "") = _; rw [h1]; rfl, by show ((p.tab.lookup f).map (·.1.N)).getD [] = _; rw [h1]; rfl, ?_, F.kp, s2, ⟨oc, od, .none, kV, doc, pm, an, cdv, ct, osl, lk, hcd, fun us hl => bd _ hm kV doc pm an cdv ct us hl⟩, s1⟩
    rw [ea]
    exact He.glo_ok X G (He.SaysD.facts c (List.mem_append_left _ (List.mem_append_left _ (List.mem_append_left _ (List.mem_append_left _ (List.mem_map.mpr ⟨_, hm, rfl⟩))))))
  · have hi' : (p.gints.lookup x).map (·.2) = some i := hi
    obtain ⟨⟨y, j⟩, h1, h2⟩ := Option.map_eq_some_iff.mp hi'
    have h2 : j = i := h2
    subst h2
    have e : p.C.gn x = y := by show ((p.gints.lookup x).map (fun x => x.1)).getD (Str.ofString "") = _; rw [h1]; rfl
    rw [e]
    exact He.int_ok X G (He.SaysD.facts c (List.mem_append_left _ (List.mem_append_left _ (List.mem_append_right _ (List.mem_map.mpr ⟨_, lookup_mem h1, rfl⟩)))))
  · have hm := lookup_mem (show p.exs.lookup n = some x from hx)
    have e1 := He.glo_ok (mg := mg) X G (He.SaysD.facts c (f := .glo x) (List.mem_append_left _ (List.mem_append_right _ (List.mem_map.mpr ⟨_, hm, rfl⟩))))
    obtain ⟨q1, q2, q3, q4⟩ := He.exc_ok (He.SaysD.facts c (f := .exc x) (List.mem_append_right _ (List.mem_map.mpr ⟨_, hm, rfl⟩)))
    exact ⟨He.ga K x, by show (p.exs.lookup n).getD (Str.ofString "") = x; rw [show p.exs.lookup n = some x from hx]; rfl, e1, q1, q2, q3, q4⟩
  · exact He.free_ok X G (He.SaysD.facts c (List.mem_append_left _ (List.mem_append_left _ (List.mem_append_left _ (List.mem_append_right _ (List.mem_map.mpr ⟨_, hx, rfl⟩))))))
end
end Snd

-- Com
set_option autoImplicit false
set_option linter.all false
set_option maxRecDepth 100000
namespace Com
open MM
/-- 0 -/
def md__law_after : MD := ⟨2, 6, true,
    (.seq (.asg (.nm 4) (.lc false [2, 3] (.tup [2, 3]) (.seq (.idx (.var 0) (.int 1))) (.tv (.cmp .eq (.var 2) (.var 1))) (.var 3)))
    (.seq (.fors (.nm 5) (.rng1 (.b1 .len (.seq (.idx (.var 0) (.int 0))))) (.seq (.asg (.nm 4) (.bin .add (.var 4) (.lc false [2, 3] (.tup [2, 3]) (.seq (.idx (.var 0) (.int 1))) (.tand (.tv (.cmp .isin (.var 2) (.var 4))) (.tv (.cmp .notin (.var 3) (.var 4)))) (.var 3))))
    .skip))
    (.seq (.ret (.b1 .sortSet (.seq (.var 4))))
    .skip)))⟩
abbrev lp__law_after_0 : MS := (.seq (.asg (.nm 4) (.bin .add (.var 4) (.lc false [2, 3] (.tup [2, 3]) (.seq (.idx (.var 0) (.int 1))) (.tand (.tv (.cmp .isin (.var 2) (.var 4))) (.tv (.cmp .notin (.var 3) (.var 4)))) (.var 3))))
    .skip)
/-- 2 -/
def md__law_all_say : MD := ⟨2, 3, true,
    (.seq (.ret (.cmp .eq (.lc false [2] (.nm 2) (.seq (.var 0)) (.tv (.cmp .ne (.call 12 (.cons (.var 2) .nil)) (.tup (.cons .non (.cons (.bin .add (.var 1) (.str " value")) .nil))))) (.var 2)) (.lst false .nil)))
    .skip)⟩
/-- 3 -/
def md__law_asked : MD := ⟨2, 3, true,
    (.seq (.asg (.nm 2) (.lst false (.cons (.call 72 (.cons (.var 0) (.cons (.int 0) .nil))) (.cons (.call 137 (.cons (.var 0) (.cons (.int 0) .nil))) (.cons (.call 119 (.cons (.var 0) .nil)) (.cons (.call 112 (.cons (.var 0) (.cons (.var 1) .nil))) (.cons (.call 85 (.cons (.var 0) (.cons (.int 2) .nil))) .nil)))))))
    (.seq (.asg (.nm 2) (.bin .add (.var 2) (.lst false (.cons (.call 81 (.cons (.var 0) (.cons (.int 2) (.cons (.var 1) (.cons (.int 0) .nil))))) (.cons (.call 110 (.cons (.var 0) (.cons (.int 2) (.cons (.var 1) (.cons (.int 0) .nil))))) (.cons (.call 115 (.cons (.var 0) (.cons (.int 2) (.cons (.var 1) .nil)))) .nil))))))
    (.seq (.ret (.bin .add (.var 2) (.lst false (.cons (.call 123 (.cons (.var 0) (.cons (.int 2) (.cons (.tup .nil) .nil)))) (.cons (.call 94 (.cons (.var 0) (.cons (.var 1) (.cons (.tup .nil) .nil)))) .nil)))))
    .skip)))⟩
/-- 5 -/
def md__law_bad_works : MD := ⟨0, 1, true,
    (.seq (.asg (.nm 0) (.lst false (.cons .non (.cons (.tup .nil) (.cons (.tup (.cons (.tup .nil) (.cons (.tup .nil) .nil))) (.cons (.tup (.cons (.tup (.cons (.int 1) .nil)) .nil)) (.cons (.tup (.cons (.lst false (.cons (.int 1) .nil)) (.cons (.tup .nil) .nil))) (.cons (.tup (.cons (.tup (.cons (.int 1) .nil)) (.cons (.lst false .nil) .nil))) (.cons (.tup (.cons (.tup (.cons (.int 0) .nil)) (.cons (.tup .nil) .nil))) (.cons (.tup (.cons (.tup (.cons .tt .nil)) (.cons (.tup .nil) .nil))) (.cons (.tup (.cons (.tup (.cons (.int 1) (.cons (.int 1) .nil))) (.cons (.tup (.cons (.tup (.cons (.int 0) (.cons (.int 0) .nil))) .nil)) .nil))) .nil)))))))))))
    (.seq (.asg (.nm 0) (.bin .add (.var 0) (.lst false (.cons (.tup (.cons (.tup (.cons (.int 1) (.cons (.int 1) .nil))) (.cons (.tup (.cons (.tup (.cons (.int 0) (.cons (.int 2) .nil))) .nil)) .nil))) (.cons (.tup (.cons (.tup (.cons (.int 1) (.cons (.int 1) .nil))) (.cons (.tup (.cons (.tup (.cons (.int 0) (.cons (.int 1) .nil))) (.cons (.tup (.cons (.int 1) (.cons (.int 0) .nil))) .nil))) .nil))) (.cons (.tup (.cons (.tup (.cons (.int 1) (.cons (.int 1) (.cons (.int 1) .nil)))) (.cons (.tup (.cons (.tup (.cons (.int 0) (.cons (.int 2) .nil))) (.cons (.tup (.cons (.int 0) (.cons (.int 1) .nil))) .nil))) .nil))) (.cons (.tup (.cons (.bin .mul (.tup (.cons (.int 1) .nil)) (.int 11)) (.cons (.tup .nil) .nil))) .nil)))))))
    (.seq (.ret (.bin .add (.var 0) (.lst false (.cons (.tup (.cons (.tup (.cons (.bin .add (.bin .pow (.int 10) (.int 30)) (.int 1)) .nil)) (.cons (.tup .nil) .nil))) (.cons (.tup (.cons (.tup (.cons (.int 1) (.cons (.int 1) .nil))) (.cons (.tup (.cons (.tup (.cons (.int 0) (.cons (.int 1) .nil))) (.cons (.tup (.cons (.int 0) (.cons (.int 1) .nil))) .nil))) .nil))) (.cons (.tup (.cons (.tup (.cons (.int 1) (.cons (.int 1) .nil))) (.cons (.tup (.cons (.lst false (.cons (.int 0) (.cons (.int 1) .nil))) .nil)) .nil))) (.cons (.tup (.cons (.tup (.cons (.int 1) (.cons (.int 1) .nil))) (.cons (.tup (.cons (.tup (.cons (.neg (.int 1)) (.cons (.int 1) .nil))) .nil)) .nil))) .nil)))))))
    .skip)))⟩
/-- 6 -/
def md__law_begun : MD := ⟨2, 2, true,
    (.seq (.ret (.tup (.cons (.idx (.var 0) (.int 0)) (.cons (.idx (.var 0) (.int 1)) (.cons (.bin .add (.bin .add (.sl (.idx (.var 0) (.int 2)) .nil (.seq (.var 1))) (.tup (.cons (.idx (.var 0) (.int 1)) .nil))) (.sl (.idx (.var 0) (.int 2)) (.seq (.bin .add (.var 1) (.int 1))) .nil)) .nil)))))
    .skip)⟩
/-- 7 -/
def md__law_both : MD := ⟨3, 7, true,
    (.seq (.asg (.nm 3) (.b1 .len (.seq (.idx (.var 0) (.int 0)))))
    (.seq (.asg (.nm 6) (.bin .add (.b1 (.list false) (.seq (.idx (.var 0) (.int 1)))) (.lc false [4, 5] (.tup [4, 5]) (.seq (.idx (.var 1) (.int 1))) (.tv .tt) (.tup (.cons (.bin .add (.var 4) (.var 3)) (.cons (.bin .add (.var 5) (.var 3)) .nil))))))
    (.seq (.ifs (.tv (.var 2)) (.seq (.fors (.nm 4) (.rng1 (.var 3)) (.seq (.asg (.nm 6) (.bin .add (.var 6) (.lc false [5] (.nm 5) (.rng1 (.b1 .len (.seq (.idx (.var 1) (.int 0))))) (.tv .tt) (.tup (.cons (.var 4) (.cons (.bin .add (.var 3) (.var 5)) .nil))))))
    .skip))
    .skip) .skip)
    (.seq (.ret (.tup (.cons (.bin .add (.idx (.var 0) (.int 0)) (.idx (.var 1) (.int 0))) (.cons (.b1 .tuple (.seq (.b1 .sorted (.seq (.var 6))))) .nil))))
    .skip))))⟩
abbrev lp__law_both_0 : MS := (.seq (.asg (.nm 6) (.bin .add (.var 6) (.lc false [5] (.nm 5) (.rng1 (.b1 .len (.seq (.idx (.var 1) (.int 0))))) (.tv .tt) (.tup (.cons (.var 4) (.cons (.bin .add (.var 3) (.var 5)) .nil))))))
    .skip)
/-- 8 -/
def md__law_bound : MD := ⟨2, 8, true,
    (.seq (.par [2, 3] (.cons (.call 38 (.cons (.var 0) .nil)) (.cons .non .nil)))
    (.seq (.fors (.nm 4) (.rng1 (.b1 .max (.seq (.var 2)))) (.seq (.asg (.nm 6) (.b1 .len (.seq (.lc false [5] (.nm 5) (.seq (.var 2)) (.tv (.cmp .gt (.var 5) (.var 4))) (.var 5)))))
    (.seq (.asg (.nm 7) (.bin .sub (.var 4) (.bin .fdiv (.neg (.var 6)) (.var 1))))
    (.seq (.ifs (.tor (.tv (.cmp .is (.var 3) .non)) (.tv (.cmp .gt (.var 7) (.idx (.var 3) (.int 0))))) (.seq (.asg (.nm 3) (.tup (.cons (.var 7) (.cons (.var 4) .nil))))
    .skip) .skip)
    .skip))))
    (.seq (.ret (.var 3))
    .skip)))⟩
abbrev lp__law_bound_0 : MS := (.seq (.asg (.nm 6) (.b1 .len (.seq (.lc false [5] (.nm 5) (.seq (.var 2)) (.tv (.cmp .gt (.var 5) (.var 4))) (.var 5)))))
    (.seq (.asg (.nm 7) (.bin .sub (.var 4) (.bin .fdiv (.neg (.var 6)) (.var 1))))
    (.seq (.ifs (.tor (.tv (.cmp .is (.var 3) .non)) (.tv (.cmp .gt (.var 7) (.idx (.var 3) (.int 0))))) (.seq (.asg (.nm 3) (.tup (.cons (.var 7) (.cons (.var 4) .nil))))
    .skip) .skip)
    .skip)))
/-- 9 -/
def md__law_by : MD := ⟨1, 5, true,
    (.seq (.asg (.nm 1) (.tup .nil))
    (.seq (.whl (.tv (.cmp .lt (.b1 .len (.seq (.var 1))) (.b1 .len (.seq (.var 0))))) (.seq (.asg (.nm 3) (.lc false [2] (.nm 2) (.rng1 (.b1 .len (.seq (.var 0)))) (.tv (.cmp .notin (.var 2) (.var 1))) (.var 2)))
    (.seq (.asg (.nm 4) (.b1 .max (.seq (.lc false [2] (.nm 2) (.seq (.var 3)) (.tv .tt) (.idx (.var 0) (.var 2))))))
    (.seq (.asg (.nm 1) (.bin .add (.var 1) (.tup (.cons (.idx (.lc false [2] (.nm 2) (.seq (.var 3)) (.tv (.cmp .eq (.idx (.var 0) (.var 2)) (.var 4))) (.var 2)) (.int 0)) .nil))))
    .skip))))
    (.seq (.ret (.var 1))
    .skip)))⟩
abbrev lp__law_by_0 : MS := (.seq (.asg (.nm 3) (.lc false [2] (.nm 2) (.rng1 (.b1 .len (.seq (.var 0)))) (.tv (.cmp .notin (.var 2) (.var 1))) (.var 2)))
    (.seq (.asg (.nm 4) (.b1 .max (.seq (.lc false [2] (.nm 2) (.seq (.var 3)) (.tv .tt) (.idx (.var 0) (.var 2))))))
    (.seq (.asg (.nm 1) (.bin .add (.var 1) (.tup (.cons (.idx (.lc false [2] (.nm 2) (.seq (.var 3)) (.tv (.cmp .eq (.idx (.var 0) (.var 2)) (.var 4))) (.var 2)) (.int 0)) .nil))))
    .skip)))
/-- 13 -/
def md__law_chain : MD := ⟨2, 4, true,
    (.seq (.ret (.bin .add (.idx (.idx (.var 0) (.int 0)) (.var 1)) (.b1 .max (.seq (.bin .add (.lst false (.cons (.int 0) .nil)) (.lc false [2, 3] (.tup [2, 3]) (.seq (.idx (.var 0) (.int 1))) (.tv (.cmp .eq (.var 2) (.var 1))) (.call 13 (.cons (.var 0) (.cons (.var 3) .nil)))))))))
    .skip)⟩
/-- 14 -/
def md__law_chain_right : MD := ⟨2, 5, true,
    (.seq (.ifs (.tor (.tnot (.tv (.isi [.tuple] (.var 1)))) (.tv (.cmp .eq (.var 1) (.tup .nil)))) (.seq (.ret .ff)
    .skip) .skip)
    (.seq (.ifs (.tv (.cmp .ne (.lc false [2] (.nm 2) (.seq (.var 1)) (.tor (.tv (.inrg true (.var 2) (.b1 .len (.seq (.idx (.var 0) (.int 0)))))) (.tv (.isi [.bool] (.var 2)))) (.var 2)) (.lst false .nil))) (.seq (.ret .ff)
    .skip) .skip)
    (.seq (.fors (.tup [3, 4]) (.zp (.var 1) (.sl (.var 1) (.seq (.int 1)) .nil)) (.seq (.ifs (.tv (.cmp .notin (.var 4) (.call 0 (.cons (.var 0) (.cons (.var 3) .nil))))) (.seq (.ret .ff)
    .skip) .skip)
    .skip))
    (.seq (.ret (.cmp .eq (.b1 .sum (.seq (.lc false [2] (.nm 2) (.seq (.var 1)) (.tv .tt) (.idx (.idx (.var 0) (.int 0)) (.var 2))))) (.b1 .max (.seq (.call 38 (.cons (.var 0) .nil))))))
    .skip))))⟩
abbrev lp__law_chain_right_0 : MS := (.seq (.ifs (.tv (.cmp .notin (.var 4) (.call 0 (.cons (.var 0) (.cons (.var 3) .nil))))) (.seq (.ret .ff)
    .skip) .skip)
    .skip)
/-- 15 -/
def md__law_chosen : MD := ⟨2, 2, true,
    (.seq (.ret (.idx (.var 1) (.call 51 (.cons (.var 0) (.cons (.b1 .len (.seq (.var 1))) .nil)))))
    .skip)⟩
/-- 16 -/
def md__law_couples : MD := ⟨1, 4, true,
    (.seq (.asg (.nm 1) (.lst true .nil))
    (.seq (.fors (.nm 2) (.rng1 (.b1 .len (.seq (.idx (.var 0) (.int 0))))) (.seq (.fors (.nm 3) (.rng2 (.bin .add (.var 2) (.int 1)) (.b1 .len (.seq (.idx (.var 0) (.int 0))))) (.seq (.ifs (.tand (.tv (.cmp .notin (.var 3) (.call 0 (.cons (.var 0) (.cons (.var 2) .nil))))) (.tv (.cmp .notin (.var 2) (.call 0 (.cons (.var 0) (.cons (.var 3) .nil)))))) (.seq (.expr (.app (.var 1) (.tup (.cons (.var 2) (.cons (.var 3) .nil)))))
    .skip) .skip)
    .skip))
    .skip))
    (.seq (.ret (.var 1))
    .skip)))⟩
abbrev lp__law_couples_0 : MS := (.seq (.ifs (.tand (.tv (.cmp .notin (.var 3) (.call 0 (.cons (.var 0) (.cons (.var 2) .nil))))) (.tv (.cmp .notin (.var 2) (.call 0 (.cons (.var 0) (.cons (.var 3) .nil)))))) (.seq (.expr (.app (.var 1) (.tup (.cons (.var 2) (.cons (.var 3) .nil)))))
    .skip) .skip)
    .skip)
abbrev lp__law_couples_1 : MS := (.seq (.fors (.nm 3) (.rng2 (.bin .add (.var 2) (.int 1)) (.b1 .len (.seq (.idx (.var 0) (.int 0))))) (.seq (.ifs (.tand (.tv (.cmp .notin (.var 3) (.call 0 (.cons (.var 0) (.cons (.var 2) .nil))))) (.tv (.cmp .notin (.var 2) (.call 0 (.cons (.var 0) (.cons (.var 3) .nil)))))) (.seq (.expr (.app (.var 1) (.tup (.cons (.var 2) (.cons (.var 3) .nil)))))
    .skip) .skip)
    .skip))
    .skip)
/-- 18 -/
def md__law_end : MD := ⟨3, 5, true,
    (.seq (.ret (.b1 .max (.seq (.lc false [3, 4] (.tup [3, 4]) (.zp (.call 53 (.cons (.var 0) (.cons (.var 1) (.cons (.var 2) .nil)))) (.idx (.var 0) (.int 0))) (.tv .tt) (.bin .add (.var 3) (.var 4))))))
    .skip)⟩
/-- 19 -/
def md__law_end_of : MD := ⟨2, 4, true,
    (.seq (.ret (.b1 .max (.seq (.lc false [2, 3] (.tup [2, 3]) (.zp (.var 1) (.idx (.var 0) (.int 0))) (.tv .tt) (.bin .add (.var 2) (.var 3))))))
    .skip)⟩
/-- 20 -/
def md__law_ended : MD := ⟨3, 3, true,
    (.seq (.ret (.and (.cmp .isnot (.idx (.idx (.var 1) (.int 2)) (.var 2)) .non) (.cmp .le (.bin .add (.idx (.idx (.var 1) (.int 2)) (.var 2)) (.idx (.idx (.var 0) (.int 0)) (.var 2))) (.idx (.var 1) (.int 1)))))
    .skip)⟩
/-- 22 -/
def md__law_every : MD := ⟨1, 8, true,
    (.seq (.asg (.nm 1) (.lst false (.cons (.tup (.cons (.tup .nil) (.cons (.b1 .tuple (.seq (.var 0))) .nil))) .nil)))
    (.seq (.fors (.nm 2) (.rng1 (.b1 .len (.seq (.var 0)))) (.seq (.asg (.nm 3) (.lst false .nil))
    (.seq (.fors (.tup [4, 5]) (.seq (.var 1)) (.seq (.asg (.nm 3) (.bin .add (.var 3) (.lc false [7] (.nm 7) (.seq (.var 5)) (.tv .tt) (.tup (.cons (.bin .add (.var 4) (.tup (.cons (.var 7) .nil))) (.cons (.b1 .tuple (.seq (.lc false [6] (.nm 6) (.seq (.var 5)) (.tv (.cmp .ne (.var 6) (.var 7))) (.var 6)))) .nil))))))
    .skip))
    (.seq (.asg (.nm 1) (.var 3))
    .skip))))
    (.seq (.ret (.lc false [4, 5] (.tup [4, 5]) (.seq (.var 1)) (.tv .tt) (.var 4)))
    .skip)))⟩
abbrev lp__law_every_0 : MS := (.seq (.asg (.nm 3) (.bin .add (.var 3) (.lc false [7] (.nm 7) (.seq (.var 5)) (.tv .tt) (.tup (.cons (.bin .add (.var 4) (.tup (.cons (.var 7) .nil))) (.cons (.b1 .tuple (.seq (.lc false [6] (.nm 6) (.seq (.var 5)) (.tv (.cmp .ne (.var 6) (.var 7))) (.var 6)))) .nil))))))
    .skip)
abbrev lp__law_every_1 : MS := (.seq (.asg (.nm 3) (.lst false .nil))
    (.seq (.fors (.tup [4, 5]) (.seq (.var 1)) (.seq (.asg (.nm 3) (.bin .add (.var 3) (.lc false [7] (.nm 7) (.seq (.var 5)) (.tv .tt) (.tup (.cons (.bin .add (.var 4) (.tup (.cons (.var 7) .nil))) (.cons (.b1 .tuple (.seq (.lc false [6] (.nm 6) (.seq (.var 5)) (.tv (.cmp .ne (.var 6) (.var 7))) (.var 6)))) .nil))))))
    .skip))
    (.seq (.asg (.nm 1) (.var 3))
    .skip)))
/-- 23 -/
def md__law_facts : MD := ⟨3, 7, true,
    (.seq (.asg (.nm 3) (.tup .nil))
    (.seq (.asg (.nm 4) (.call 53 (.cons (.var 1) (.cons (.var 2) (.cons (.call 43 (.cons (.var 0) (.cons (.b1 .len (.seq (.idx (.var 1) (.int 0)))) .nil))) .nil)))))
    (.seq (.fors (.nm 5) (.rng1 (.call 51 (.cons (.var 0) (.cons (.int 5) .nil)))) (.seq (.asg (.nm 6) (.call 51 (.cons (.var 0) (.cons (.b1 .len (.seq (.var 4))) .nil))))
    (.seq (.asg (.nm 3) (.bin .add (.var 3) (.tup (.cons (.tup (.cons (.var 6) (.cons (.bin .add (.idx (.var 4) (.var 6)) (.ite (.tv (.cmp .eq (.call 51 (.cons (.var 0) (.cons (.int 7) .nil))) (.int 0))) (.int 1) (.int 0))) .nil))) .nil))))
    .skip)))
    (.seq (.ret (.var 3))
    .skip))))⟩
abbrev lp__law_facts_0 : MS := (.seq (.asg (.nm 6) (.call 51 (.cons (.var 0) (.cons (.b1 .len (.seq (.var 4))) .nil))))
    (.seq (.asg (.nm 3) (.bin .add (.var 3) (.tup (.cons (.tup (.cons (.var 6) (.cons (.bin .add (.idx (.var 4) (.var 6)) (.ite (.tv (.cmp .eq (.call 51 (.cons (.var 0) (.cons (.int 7) .nil))) (.int 0))) (.int 1) (.int 0))) .nil))) .nil))))
    .skip))
/-- 24 -/
def md__law_forest : MD := ⟨2, 7, true,
    (.seq (.asg (.tup [2, 3]) (.tup (.cons (.b1 (.list true) (.rng1 (.var 1))) (.cons (.lst true .nil) .nil))))
    (.seq (.asg (.nm 5) (.lc false [4] (.nm 4) (.rng1 (.var 1)) (.tv .tt) (.popAt (.var 2) (.call 51 (.cons (.var 0) (.cons (.b1 .len (.seq (.var 2))) .nil))))))
    (.seq (.fors (.nm 6) (.rng1 (.bin .sub (.var 1) (.int 1))) (.seq (.ifs (.tv (.cmp .gt (.call 51 (.cons (.var 0) (.cons (.int 5) .nil))) (.int 0))) (.seq (.expr (.app (.var 3) (.tup (.cons (.idx (.var 5) (.var 6)) (.cons (.idx (.var 5) (.bin .add (.bin .add (.var 6) (.int 1)) (.call 51 (.cons (.var 0) (.cons (.bin .sub (.bin .sub (.var 1) (.var 6)) (.int 1)) .nil))))) .nil)))))
    .skip) .skip)
    .skip))
    (.seq (.ret (.tup (.cons (.bin .mul (.tup (.cons (.int 1) .nil)) (.var 1)) (.cons (.b1 .tuple (.seq (.b1 .sorted (.seq (.var 3))))) .nil))))
    .skip))))⟩
abbrev lp__law_forest_0 : MS := (.seq (.ifs (.tv (.cmp .gt (.call 51 (.cons (.var 0) (.cons (.int 5) .nil))) (.int 0))) (.seq (.expr (.app (.var 3) (.tup (.cons (.idx (.var 5) (.var 6)) (.cons (.idx (.var 5) (.bin .add (.bin .add (.var 6) (.int 1)) (.call 51 (.cons (.var 0) (.cons (.bin .sub (.bin .sub (.var 1) (.var 6)) (.int 1)) .nil))))) .nil)))))
    .skip) .skip)
    .skip)
/-- 25 -/
def md__law_from : MD := ⟨5, 20, true,
    (.seq (.ifs (.tv (.cmp .eq (.b1 .len (.seq (.var 2))) (.b1 .len (.seq (.idx (.var 0) (.int 0)))))) (.seq (.ret (.int 0))
    .skip) .skip)
    (.seq (.asg (.nm 5) (.tup (.cons (.var 2) (.cons (.var 3) .nil))))
    (.seq (.ifs (.tv (.cmp .notin (.var 5) (.var 4))) (.seq (.asg (.nm 8) (.bin .add (.b1 (.list false) (.seq (.var 2))) (.lc false [6, 7] (.tup [6, 7]) (.seq (.var 3)) (.tv .tt) (.var 6))))
    (.seq (.asg (.nm 11) (.lc false [9, 10] (.tup [9, 10]) (.seq (.idx (.var 0) (.int 1))) (.tv (.cmp .notin (.var 9) (.var 2))) (.var 10)))
    (.seq (.asg (.nm 12) (.lc false [6] (.nm 6) (.rng1 (.b1 .len (.seq (.idx (.var 0) (.int 0))))) (.tand (.tv (.cmp .notin (.var 6) (.var 8))) (.tv (.cmp .notin (.var 6) (.var 11)))) (.var 6)))
    (.seq (.asg (.nm 13) .non)
    (.seq (.fors (.nm 14) (.seq (.call 41 (.cons (.var 12) (.cons (.bin .sub (.var 1) (.b1 .len (.seq (.var 3)))) .nil)))) (.seq (.asg (.nm 15) (.bin .add (.b1 (.list false) (.seq (.var 3))) (.lc false [6] (.nm 6) (.seq (.var 14)) (.tv .tt) (.tup (.cons (.var 6) (.cons (.idx (.idx (.var 0) (.int 0)) (.var 6)) .nil))))))
    (.seq (.ifs (.tv (.cmp .ne (.var 15) (.lst false .nil))) (.seq (.asg (.nm 16) (.b1 .min (.seq (.lc false [6, 7] (.tup [6, 7]) (.seq (.var 15)) (.tv .tt) (.var 7)))))
    (.seq (.asg (.nm 17) (.lc false [6, 7] (.tup [6, 7]) (.seq (.var 15)) (.tv (.cmp .eq (.var 7) (.var 16))) (.var 6)))
    (.seq (.asg (.nm 18) (.b1 .tuple (.seq (.b1 .sorted (.seq (.lc false [6, 7] (.tup [6, 7]) (.seq (.var 15)) (.tv (.cmp .gt (.var 7) (.var 16))) (.tup (.cons (.var 6) (.cons (.bin .sub (.var 7) (.var 16)) .nil)))))))))
    (.seq (.asg (.nm 19) (.bin .add (.var 16) (.call 25 (.cons (.var 0) (.cons (.var 1) (.cons (.b1 .tuple (.seq (.b1 .sorted (.seq (.bin .add (.b1 (.list false) (.seq (.var 2))) (.var 17)))))) (.cons (.var 18) (.cons (.var 4) .nil))))))))
    (.seq (.asg (.nm 13) (.ite (.tv (.cmp .is (.var 13) .non)) (.var 19) (.min2 (.var 13) (.var 19))))
    .skip))))) .skip)
    .skip)))
    (.seq (.sub (.var 4) (.var 5) (.var 13))
    .skip)))))) .skip)
    (.seq (.ret (.idx (.var 4) (.var 5)))
    .skip))))⟩
abbrev lp__law_from_0 : MS := (.seq (.asg (.nm 15) (.bin .add (.b1 (.list false) (.seq (.var 3))) (.lc false [6] (.nm 6) (.seq (.var 14)) (.tv .tt) (.tup (.cons (.var 6) (.cons (.idx (.idx (.var 0) (.int 0)) (.var 6)) .nil))))))
    (.seq (.ifs (.tv (.cmp .ne (.var 15) (.lst false .nil))) (.seq (.asg (.nm 16) (.b1 .min (.seq (.lc false [6, 7] (.tup [6, 7]) (.seq (.var 15)) (.tv .tt) (.var 7)))))
    (.seq (.asg (.nm 17) (.lc false [6, 7] (.tup [6, 7]) (.seq (.var 15)) (.tv (.cmp .eq (.var 7) (.var 16))) (.var 6)))
    (.seq (.asg (.nm 18) (.b1 .tuple (.seq (.b1 .sorted (.seq (.lc false [6, 7] (.tup [6, 7]) (.seq (.var 15)) (.tv (.cmp .gt (.var 7) (.var 16))) (.tup (.cons (.var 6) (.cons (.bin .sub (.var 7) (.var 16)) .nil)))))))))
    (.seq (.asg (.nm 19) (.bin .add (.var 16) (.call 25 (.cons (.var 0) (.cons (.var 1) (.cons (.b1 .tuple (.seq (.b1 .sorted (.seq (.bin .add (.b1 (.list false) (.seq (.var 2))) (.var 17)))))) (.cons (.var 18) (.cons (.var 4) .nil))))))))
    (.seq (.asg (.nm 13) (.ite (.tv (.cmp .is (.var 13) .non)) (.var 19) (.min2 (.var 13) (.var 19))))
    .skip))))) .skip)
    .skip))
/-- 26 -/
def md__law_functions : MD := ⟨0, 3, true,
    (.seq (.asg (.nm 1) (.lc false [0] (.nm 0) (.seq (.tup (.cons (.fnv 119) (.cons (.fnv 124) (.cons (.fnv 79) (.cons (.fnv 80) (.cons (.fnv 97) (.cons (.fnv 104) (.cons (.fnv 161) .nil))))))))) (.tv .tt) (.tup (.cons (.var 0) (.cons (.lst false (.cons (.str "work") .nil)) .nil)))))
    (.seq (.asg (.nm 1) (.bin .add (.var 1) (.lc false [0] (.nm 0) (.seq (.tup (.cons (.fnv 72) (.cons (.fnv 137) .nil)))) (.tv .tt) (.tup (.cons (.var 0) (.cons (.lst false (.cons (.str "work") (.cons (.str "task") .nil))) .nil))))))
    (.seq (.asg (.nm 1) (.bin .add (.var 1) (.lst false (.cons (.tup (.cons (.fnv 121) (.cons (.lst false (.cons (.str "work") (.cons (.str "work") .nil))) .nil))) (.cons (.tup (.cons (.fnv 103) (.cons (.lst false (.cons (.str "work") (.cons (.str "any") .nil))) .nil))) (.cons (.tup (.cons (.fnv 78) (.cons (.lst false (.cons (.str "work") .nil)) .nil))) .nil))))))
    (.seq (.asg (.nm 1) (.bin .add (.var 1) (.lc false [0] (.nm 0) (.seq (.tup (.cons (.fnv 146) (.cons (.fnv 83) (.cons (.fnv 96) (.cons (.fnv 149) (.cons (.fnv 115) .nil))))))) (.tv .tt) (.tup (.cons (.var 0) (.cons (.lst false (.cons (.str "work") (.cons (.str "hands") (.cons (.str "order") .nil)))) .nil))))))
    (.seq (.asg (.nm 1) (.bin .add (.var 1) (.lc false [0] (.nm 0) (.seq (.tup (.cons (.fnv 86) (.cons (.fnv 112) .nil)))) (.tv .tt) (.tup (.cons (.var 0) (.cons (.lst false (.cons (.str "work") (.cons (.str "order") .nil))) .nil))))))
    (.seq (.asg (.nm 1) (.bin .add (.var 1) (.lst false (.cons (.tup (.cons (.fnv 105) (.cons (.lst false (.cons (.str "work") (.cons (.str "hands") (.cons (.str "any") .nil)))) .nil))) (.cons (.tup (.cons (.fnv 142) (.cons (.lst false (.cons (.str "work") (.cons (.str "hands") (.cons (.str "number") .nil)))) .nil))) .nil)))))
    (.seq (.asg (.nm 2) (.lst false (.cons (.fnv 74) (.cons (.fnv 77) (.cons (.fnv 85) (.cons (.fnv 75) (.cons (.fnv 162) (.cons (.fnv 118) .nil))))))))
    (.seq (.asg (.nm 1) (.bin .add (.var 1) (.lc false [0] (.nm 0) (.seq (.var 2)) (.tv .tt) (.tup (.cons (.var 0) (.cons (.lst false (.cons (.str "work") (.cons (.str "hands") .nil))) .nil))))))
    (.seq (.asg (.nm 1) (.bin .add (.var 1) (.lc false [0] (.nm 0) (.seq (.tup (.cons (.fnv 81) (.cons (.fnv 110) (.cons (.fnv 113) .nil))))) (.tv .tt) (.tup (.cons (.var 0) (.cons (.lst false (.cons (.str "work") (.cons (.str "hands") (.cons (.str "order") (.cons (.str "task") .nil))))) .nil))))))
    (.seq (.asg (.nm 1) (.bin .add (.var 1) (.lst false (.cons (.tup (.cons (.fnv 114) (.cons (.lst false (.cons (.str "work") (.cons (.str "hands") (.cons (.str "order") (.cons (.str "task") (.cons (.str "last") .nil)))))) .nil))) (.cons (.tup (.cons (.fnv 127) (.cons (.lst false (.cons (.str "hands") (.cons (.str "hands") .nil))) .nil))) .nil)))))
    (.seq (.asg (.nm 1) (.bin .add (.var 1) (.lst false (.cons (.tup (.cons (.fnv 155) (.cons (.lst false (.cons (.str "three") .nil)) .nil))) (.cons (.tup (.cons (.fnv 140) (.cons (.lst false (.cons (.str "work") .nil)) .nil))) (.cons (.tup (.cons (.fnv 123) (.cons (.lst false (.cons (.str "work") (.cons (.str "hands") (.cons (.str "facts") .nil)))) .nil))) .nil))))))
    (.seq (.ret (.bin .add (.var 1) (.lst false (.cons (.tup (.cons (.fnv 152) (.cons (.lst false (.cons (.str "work") (.cons (.str "hands") (.cons (.str "facts") (.cons (.str "task") .nil))))) .nil))) (.cons (.tup (.cons (.fnv 94) (.cons (.lst false (.cons (.str "work") (.cons (.str "order") (.cons (.str "facts") .nil)))) .nil))) .nil)))))
    .skip))))))))))))⟩
/-- 27 -/
def md__law_goes : MD := ⟨2, 4, true,
    (.seq (.ret (.cmp .eq (.lc false [2, 3] (.tup [2, 3]) (.seq (.var 1)) (.tv (.cmp .ne (.idx (.var 0) (.var 2)) (.var 3))) (.int 1)) (.lst false .nil)))
    .skip)⟩
/-- 29 -/
def md__law_held : MD := ⟨2, 10, true,
    (.seq (.par [2, 3] (.cons (.call 200 (.cons (.var 0) (.cons (.var 1) .nil))) (.cons (.b1 .len (.seq (.idx (.var 1) (.int 0)))) .nil)))
    (.seq (.par [4, 5] (.cons (.bin .add (.int 1) (.call 51 (.cons (.var 0) (.cons (.int 5) .nil)))) (.cons (.bin .add (.int 1) (.call 51 (.cons (.var 0) (.cons (.int 5) .nil)))) .nil)))
    (.seq (.asg (.nm 6) (.call 83 (.cons (.var 2) (.cons (.var 5) (.cons (.call 43 (.cons (.var 0) (.cons (.var 3) .nil))) .nil)))))
    (.seq (.asg (.nm 7) (.call 18 (.cons (.var 1) (.cons (.var 4) (.cons (.call 43 (.cons (.var 0) (.cons (.var 3) .nil))) .nil)))))
    (.seq (.ifs (.tor (.tv (.cmp .isnot (.call 121 (.cons (.var 2) (.cons (.var 1) .nil))) .tt)) (.tv (.cmp .gt (.bin .mul (.var 6) (.var 5)) (.bin .mul (.var 7) (.bin .sub (.bin .add (.var 4) (.var 5)) (.int 1)))))) (.seq (.ret .ff)
    .skip) .skip)
    (.seq (.asg (.tup [8, 9]) (.call 127 (.cons (.var 4) (.cons (.var 5) .nil))))
    (.seq (.ret (.cmp .le (.bin .mul (.var 6) (.var 9)) (.bin .mul (.var 7) (.var 8))))
    .skip)))))))⟩
/-- 30 -/
def md__law_int : MD := ⟨3, 3, true,
    (.seq (.ret (.and (.isi [.int] (.var 0)) (.and (.not (.isi [.bool] (.var 0))) (.cmp2 .le .le (.var 1) (.var 0) (.var 2)))))
    .skip)⟩
/-- 31 -/
def md__law_is : MD := ⟨2, 2, true,
    (.seq (.ret (.and (.isi [.bool] (.var 0)) (.cmp .eq (.var 0) (.var 1))))
    .skip)⟩
/-- 32 -/
def md__law_kind : MD := ⟨1, 1, true,
    (.seq (.ifs (.tor (.tv (.cmp .is (.var 0) .non)) (.tv (.isi [.bool, .str] (.var 0)))) (.seq (.ret (.ite (.tv (.cmp .is (.var 0) .non)) (.int 0) (.ite (.tv (.isi [.bool] (.var 0))) (.int 1) (.int 5))))
    .skip) .skip)
    (.seq (.ifs (.tv (.isi [.list, .tuple] (.var 0))) (.seq (.ret (.ite (.tv (.isi [.list] (.var 0))) (.int 2) (.int 3)))
    .skip) .skip)
    (.seq (.ret (.ite (.tv (.isi [.int] (.var 0))) (.int 4) (.int 6)))
    .skip)))⟩
/-- 34 -/
def md__law_known : MD := ⟨0, 3, true,
    (.seq (.asg (.nm 0) (.tup (.cons (.tup (.cons (.int 3) (.cons (.int 2) (.cons (.int 2) (.cons (.int 2) (.cons (.int 4) (.cons (.int 4) (.cons (.int 4) (.cons (.int 4) (.cons (.int 9) .nil)))))))))) (.cons (.tup (.cons (.tup (.cons (.int 0) (.cons (.int 8) .nil))) (.cons (.tup (.cons (.int 3) (.cons (.int 4) .nil))) (.cons (.tup (.cons (.int 3) (.cons (.int 5) .nil))) (.cons (.tup (.cons (.int 3) (.cons (.int 6) .nil))) (.cons (.tup (.cons (.int 3) (.cons (.int 7) .nil))) .nil)))))) .nil))))
    (.seq (.asg (.nm 1) (.tup (.cons (.tup (.cons (.int 1) (.cons (.int 1) (.cons (.int 1) (.cons (.int 1) (.cons (.int 1) .nil)))))) (.cons (.tup (.cons (.tup (.cons (.int 0) (.cons (.int 2) .nil))) (.cons (.tup (.cons (.int 1) (.cons (.int 2) .nil))) (.cons (.tup (.cons (.int 2) (.cons (.int 4) .nil))) (.cons (.tup (.cons (.int 3) (.cons (.int 4) .nil))) .nil))))) .nil))))
    (.seq (.asg (.nm 2) (.tup (.cons (.tup (.cons (.int 1) (.cons (.int 1) (.cons (.int 1) (.cons (.int 10) (.cons (.int 10) .nil)))))) (.cons (.tup (.cons (.tup (.cons (.int 0) (.cons (.int 1) .nil))) (.cons (.tup (.cons (.int 0) (.cons (.int 2) .nil))) (.cons (.tup (.cons (.int 1) (.cons (.int 3) .nil))) (.cons (.tup (.cons (.int 2) (.cons (.int 3) .nil))) .nil))))) .nil))))
    (.seq (.ret (.tup (.cons (.var 0) (.cons (.var 1) (.cons (.var 2) (.cons (.tup (.cons (.tup (.cons (.int 1) (.cons (.int 1) (.cons (.int 1) (.cons (.int 1) .nil))))) (.cons (.tup (.cons (.tup (.cons (.int 0) (.cons (.int 2) .nil))) (.cons (.tup (.cons (.int 0) (.cons (.int 3) .nil))) (.cons (.tup (.cons (.int 1) (.cons (.int 3) .nil))) .nil)))) .nil))) .nil))))))
    .skip))))⟩
/-- 35 -/
def md__law_labels : MD := ⟨1, 9, true,
    (.seq (.asg (.nm 1) .dnew)
    (.seq (.fors (.nm 2) (.rng2 (.int 1) (.bin .add (.b1 .len (.seq (.idx (.var 0) (.int 0)))) (.int 1))) (.seq (.asg (.tup [3, 4]) (.tup (.cons .non (.cons .non .nil))))
    (.seq (.fors (.nm 5) (.rng1 (.b1 .len (.seq (.idx (.var 0) (.int 0))))) (.seq (.asg (.nm 6) (.call 200 (.cons (.var 0) (.cons (.var 5) .nil))))
    (.seq (.ifs (.tand (.tv (.cmp .notin (.var 5) (.var 1))) (.tv (.cmp .eq (.lc false [7] (.nm 7) (.seq (.var 6)) (.tv (.cmp .notin (.var 7) (.var 1))) (.var 7)) (.lst false .nil)))) (.seq (.asg (.nm 8) (.rev (.b1 .sorted (.seq (.lc false [7] (.nm 7) (.seq (.var 6)) (.tv .tt) (.idx (.var 1) (.var 7)))))))
    (.seq (.ifs (.tor (.tv (.cmp .is (.var 3) .non)) (.tv (.cmp .le (.var 8) (.var 3)))) (.seq (.par [3, 4] (.cons (.var 8) (.cons (.var 5) .nil)))
    .skip) .skip)
    .skip)) .skip)
    .skip)))
    (.seq (.sub (.var 1) (.var 4) (.var 2))
    .skip))))
    (.seq (.ret (.lc false [5] (.nm 5) (.rng1 (.b1 .len (.seq (.idx (.var 0) (.int 0))))) (.tv .tt) (.idx (.var 1) (.var 5))))
    .skip)))⟩
abbrev lp__law_labels_0 : MS := (.seq (.asg (.nm 6) (.call 200 (.cons (.var 0) (.cons (.var 5) .nil))))
    (.seq (.ifs (.tand (.tv (.cmp .notin (.var 5) (.var 1))) (.tv (.cmp .eq (.lc false [7] (.nm 7) (.seq (.var 6)) (.tv (.cmp .notin (.var 7) (.var 1))) (.var 7)) (.lst false .nil)))) (.seq (.asg (.nm 8) (.rev (.b1 .sorted (.seq (.lc false [7] (.nm 7) (.seq (.var 6)) (.tv .tt) (.idx (.var 1) (.var 7)))))))
    (.seq (.ifs (.tor (.tv (.cmp .is (.var 3) .non)) (.tv (.cmp .le (.var 8) (.var 3)))) (.seq (.par [3, 4] (.cons (.var 8) (.cons (.var 5) .nil)))
    .skip) .skip)
    .skip)) .skip)
    .skip))
abbrev lp__law_labels_1 : MS := (.seq (.asg (.tup [3, 4]) (.tup (.cons .non (.cons .non .nil))))
    (.seq (.fors (.nm 5) (.rng1 (.b1 .len (.seq (.idx (.var 0) (.int 0))))) (.seq (.asg (.nm 6) (.call 200 (.cons (.var 0) (.cons (.var 5) .nil))))
    (.seq (.ifs (.tand (.tv (.cmp .notin (.var 5) (.var 1))) (.tv (.cmp .eq (.lc false [7] (.nm 7) (.seq (.var 6)) (.tv (.cmp .notin (.var 7) (.var 1))) (.var 7)) (.lst false .nil)))) (.seq (.asg (.nm 8) (.rev (.b1 .sorted (.seq (.lc false [7] (.nm 7) (.seq (.var 6)) (.tv .tt) (.idx (.var 1) (.var 7)))))))
    (.seq (.ifs (.tor (.tv (.cmp .is (.var 3) .non)) (.tv (.cmp .le (.var 8) (.var 3)))) (.seq (.par [3, 4] (.cons (.var 8) (.cons (.var 5) .nil)))
    .skip) .skip)
    .skip)) .skip)
    .skip)))
    (.seq (.sub (.var 1) (.var 4) (.var 2))
    .skip)))
/-- 36 -/
def md__law_least : MD := ⟨2, 2, true,
    (.seq (.ret (.call 25 (.cons (.var 0) (.cons (.var 1) (.cons (.tup .nil) (.cons (.tup .nil) (.cons .dnew .nil)))))))
    .skip)⟩
/-- 37 -/
def md__law_led : MD := ⟨3, 6, true,
    (.seq (.whl (.tv .tt) (.seq (.fors (.nm 3) (.seq (.var 2)) (.seq (.asg (.nm 4) (.call 67 (.cons (.var 0) (.cons (.var 1) .nil))))
    (.seq (.ifs (.tand (.tv (.cmp .eq (.idx (.var 4) (.var 3)) (.str "ready"))) (.tv (.cmp .lt (.count (.var 4) (.str "runs")) (.idx (.var 1) (.int 0))))) (.seq (.asg (.nm 1) (.call 6 (.cons (.var 1) (.cons (.var 3) .nil))))
    .skip) .skip)
    .skip)))
    (.seq (.asg (.nm 5) (.call 64 (.cons (.var 0) (.cons (.var 1) .nil))))
    (.seq (.ifs (.tv (.cmp .is (.var 5) .non)) (.seq (.ret (.var 1))
    .skip) .skip)
    (.seq (.asg (.nm 1) (.var 5))
    .skip)))))
    .skip)⟩
abbrev lp__law_led_0 : MS := (.seq (.asg (.nm 4) (.call 67 (.cons (.var 0) (.cons (.var 1) .nil))))
    (.seq (.ifs (.tand (.tv (.cmp .eq (.idx (.var 4) (.var 3)) (.str "ready"))) (.tv (.cmp .lt (.count (.var 4) (.str "runs")) (.idx (.var 1) (.int 0))))) (.seq (.asg (.nm 1) (.call 6 (.cons (.var 1) (.cons (.var 3) .nil))))
    .skip) .skip)
    .skip))
abbrev lp__law_led_1 : MS := (.seq (.fors (.nm 3) (.seq (.var 2)) (.seq (.asg (.nm 4) (.call 67 (.cons (.var 0) (.cons (.var 1) .nil))))
    (.seq (.ifs (.tand (.tv (.cmp .eq (.idx (.var 4) (.var 3)) (.str "ready"))) (.tv (.cmp .lt (.count (.var 4) (.str "runs")) (.idx (.var 1) (.int 0))))) (.seq (.asg (.nm 1) (.call 6 (.cons (.var 1) (.cons (.var 3) .nil))))
    .skip) .skip)
    .skip)))
    (.seq (.asg (.nm 5) (.call 64 (.cons (.var 0) (.cons (.var 1) .nil))))
    (.seq (.ifs (.tv (.cmp .is (.var 5) .non)) (.seq (.ret (.var 1))
    .skip) .skip)
    (.seq (.asg (.nm 1) (.var 5))
    .skip))))
/-- 38 -/
def md__law_levels : MD := ⟨1, 6, true,
    (.seq (.asg (.nm 2) (.lc true [1] (.nm 1) (.seq (.idx (.var 0) (.int 0))) (.tv .tt) (.var 1)))
    (.seq (.fors (.nm 3) (.rng1 (.b1 .len (.seq (.var 2)))) (.seq (.fors (.tup [4, 5]) (.seq (.idx (.var 0) (.int 1))) (.seq (.sub (.var 2) (.var 4) (.max2 (.idx (.var 2) (.var 4)) (.bin .add (.idx (.idx (.var 0) (.int 0)) (.var 4)) (.idx (.var 2) (.var 5)))))
    .skip))
    .skip))
    (.seq (.ret (.var 2))
    .skip)))⟩
abbrev lp__law_levels_0 : MS := (.seq (.sub (.var 2) (.var 4) (.max2 (.idx (.var 2) (.var 4)) (.bin .add (.idx (.idx (.var 0) (.int 0)) (.var 4)) (.idx (.var 2) (.var 5)))))
    .skip)
abbrev lp__law_levels_1 : MS := (.seq (.fors (.tup [4, 5]) (.seq (.idx (.var 0) (.int 1))) (.seq (.sub (.var 2) (.var 4) (.max2 (.idx (.var 2) (.var 4)) (.bin .add (.idx (.idx (.var 0) (.int 0)) (.var 4)) (.idx (.var 2) (.var 5)))))
    .skip))
    .skip)
/-- 39 -/
def md__law_lighter : MD := ⟨2, 7, true,
    (.seq (.ifs (.tv (.cmp .ne (.b1 .len (.seq (.idx (.var 0) (.int 0)))) (.b1 .len (.seq (.idx (.var 1) (.int 0)))))) (.seq (.ret .ff)
    .skip) .skip)
    (.seq (.ifs (.tv (.cmp .ne (.lc false [2, 3] (.tup [2, 3]) (.zp (.idx (.var 0) (.int 0)) (.idx (.var 1) (.int 0))) (.tv (.cmp .gt (.var 2) (.var 3))) (.int 1)) (.lst false .nil))) (.seq (.ret .ff)
    .skip) .skip)
    (.seq (.fors (.nm 4) (.rng1 (.b1 .len (.seq (.idx (.var 0) (.int 0))))) (.seq (.asg (.nm 5) (.call 0 (.cons (.var 1) (.cons (.var 4) .nil))))
    (.seq (.ifs (.tv (.cmp .ne (.lc false [6] (.nm 6) (.seq (.call 0 (.cons (.var 0) (.cons (.var 4) .nil)))) (.tv (.cmp .notin (.var 6) (.var 5))) (.var 6)) (.lst false .nil))) (.seq (.ret .ff)
    .skip) .skip)
    .skip)))
    (.seq (.ret .tt)
    .skip))))⟩
abbrev lp__law_lighter_0 : MS := (.seq (.asg (.nm 5) (.call 0 (.cons (.var 1) (.cons (.var 4) .nil))))
    (.seq (.ifs (.tv (.cmp .ne (.lc false [6] (.nm 6) (.seq (.call 0 (.cons (.var 0) (.cons (.var 4) .nil)))) (.tv (.cmp .notin (.var 6) (.var 5))) (.var 6)) (.lst false .nil))) (.seq (.ret .ff)
    .skip) .skip)
    .skip))
/-- 41 -/
def md__law_lots : MD := ⟨2, 5, true,
    (.seq (.asg (.nm 2) (.lst false (.cons (.tup .nil) .nil)))
    (.seq (.fors (.nm 3) (.seq (.var 0)) (.seq (.asg (.nm 2) (.bin .add (.var 2) (.lc false [4] (.nm 4) (.seq (.var 2)) (.tv (.cmp .lt (.b1 .len (.seq (.var 4))) (.var 1))) (.bin .add (.var 4) (.tup (.cons (.var 3) .nil))))))
    .skip))
    (.seq (.ret (.var 2))
    .skip)))⟩
abbrev lp__law_lots_0 : MS := (.seq (.asg (.nm 2) (.bin .add (.var 2) (.lc false [4] (.nm 4) (.seq (.var 2)) (.tv (.cmp .lt (.b1 .len (.seq (.var 4))) (.var 1))) (.bin .add (.var 4) (.tup (.cons (.var 3) .nil))))))
    .skip)
/-- 42 -/
def md__law_low : MD := ⟨2, 4, true,
    (.seq (.par [2, 3] (.cons (.var 0) (.cons (.var 1) .nil)))
    (.seq (.whl (.tv (.cmp .ne (.var 3) (.int 0))) (.seq (.par [2, 3] (.cons (.var 3) (.cons (.bin .mod (.var 2) (.var 3)) .nil)))
    .skip))
    (.seq (.ret (.tup (.cons (.bin .fdiv (.var 0) (.var 2)) (.cons (.bin .fdiv (.var 1) (.var 2)) .nil))))
    .skip)))⟩
abbrev lp__law_low_0 : MS := (.seq (.par [2, 3] (.cons (.var 3) (.cons (.bin .mod (.var 2) (.var 3)) .nil)))
    .skip)
/-- 43 -/
def md__law_mixed : MD := ⟨2, 5, true,
    (.seq (.par [2, 3] (.cons (.b1 (.list true) (.rng1 (.var 1))) (.cons (.tup .nil) .nil)))
    (.seq (.fors (.nm 4) (.rng1 (.var 1)) (.seq (.asg (.nm 3) (.bin .add (.var 3) (.tup (.cons (.popAt (.var 2) (.call 51 (.cons (.var 0) (.cons (.b1 .len (.seq (.var 2))) .nil)))) .nil))))
    .skip))
    (.seq (.ret (.var 3))
    .skip)))⟩
abbrev lp__law_mixed_0 : MS := (.seq (.asg (.nm 3) (.bin .add (.var 3) (.tup (.cons (.popAt (.var 2) (.call 51 (.cons (.var 0) (.cons (.b1 .len (.seq (.var 2))) .nil)))) .nil))))
    .skip)
/-- 44 -/
def md__law_most : MD := ⟨3, 9, true,
    (.seq (.ifs (.tv (.cmp .lt (.b1 .len (.seq (.var 1))) (.int 2))) (.seq (.ret (.int 0))
    .skip) .skip)
    (.seq (.ifs (.tv (.cmp .notin (.var 1) (.var 2))) (.seq (.par [3, 4] (.cons (.idx (.var 1) (.int 0)) (.cons (.sl (.var 1) (.seq (.int 1)) .nil) .nil)))
    (.seq (.asg (.nm 5) (.call 44 (.cons (.var 0) (.cons (.var 4) (.cons (.var 2) .nil)))))
    (.seq (.fors (.nm 6) (.seq (.var 4)) (.seq (.ifs (.tv (.cmp .isin (.tup (.cons (.var 3) (.cons (.var 6) .nil))) (.var 0))) (.seq (.asg (.nm 8) (.b1 .tuple (.seq (.lc false [7] (.nm 7) (.seq (.var 4)) (.tv (.cmp .ne (.var 7) (.var 6))) (.var 7)))))
    (.seq (.asg (.nm 5) (.max2 (.var 5) (.bin .add (.int 1) (.call 44 (.cons (.var 0) (.cons (.var 8) (.cons (.var 2) .nil)))))))
    .skip)) .skip)
    .skip))
    (.seq (.sub (.var 2) (.var 1) (.var 5))
    .skip)))) .skip)
    (.seq (.ret (.idx (.var 2) (.var 1)))
    .skip)))⟩
abbrev lp__law_most_0 : MS := (.seq (.ifs (.tv (.cmp .isin (.tup (.cons (.var 3) (.cons (.var 6) .nil))) (.var 0))) (.seq (.asg (.nm 8) (.b1 .tuple (.seq (.lc false [7] (.nm 7) (.seq (.var 4)) (.tv (.cmp .ne (.var 7) (.var 6))) (.var 7)))))
    (.seq (.asg (.nm 5) (.max2 (.var 5) (.bin .add (.int 1) (.call 44 (.cons (.var 0) (.cons (.var 8) (.cons (.var 2) .nil)))))))
    .skip)) .skip)
    .skip)
/-- 46 -/
def md__law_number : MD := ⟨2, 3, true,
    (.seq (.ifs (.tor (.tv (.cmp .eq (.var 0) (.str ""))) (.tor (.tv (.cmp .ne (.lc false [2] (.nm 2) (.seq (.var 0)) (.tv (.cmp .notin (.var 2) (.str "0123456789"))) (.var 2)) (.lst false .nil))) (.tv (.cmp .gt (.b1 .len (.seq (.var 0))) (.int 31))))) (.seq (.ret .non)
    .skip) .skip)
    (.seq (.ret (.ite (.tand (.tv (.cmp .eq (.b1 .str (.seq (.b1 .int (.seq (.var 0))))) (.var 0))) (.tv (.cmp .le (.b1 .int (.seq (.var 0))) (.var 1)))) (.b1 .int (.seq (.var 0))) .non))
    .skip))⟩
/-- 47 -/
def md__law_of : MD := ⟨1, 3, true,
    (.seq (.asg (.nm 2) (.and (.cmp2 .le .le (.int 1) (.b1 .len (.seq (.idx (.var 0) (.int 0)))) (.int 10)) (.cmp .eq (.lc false [1] (.nm 1) (.seq (.idx (.var 0) (.int 0))) (.tnot (.tv (.cmp2 .le .le (.int 1) (.var 1) (.bin .pow (.int 10) (.int 30))))) (.var 1)) (.lst false .nil))))
    (.seq (.ret (.ite (.tv (.var 2)) (.tup (.cons (.var 0) (.cons (.str "") .nil))) (.tup (.cons .non (.cons (.str "work value") .nil)))))
    .skip))⟩
/-- 48 -/
def md__law_one_right : MD := ⟨2, 4, true,
    (.seq (.asg (.nm 2) (.call 43 (.cons (.var 0) (.cons (.b1 .len (.seq (.idx (.var 1) (.int 0)))) .nil))))
    (.seq (.ifs (.tor (.tv (.cmp .ne (.call 83 (.cons (.var 1) (.cons (.int 1) (.cons (.var 2) .nil)))) (.b1 .sum (.seq (.idx (.var 1) (.int 0)))))) (.tv (.cmp .ne (.call 96 (.cons (.var 1) (.cons (.int 1) (.cons (.var 2) .nil)))) (.int 0)))) (.seq (.ret .ff)
    .skip) .skip)
    (.seq (.asg (.nm 3) (.call 51 (.cons (.var 0) (.cons (.b1 .len (.seq (.idx (.var 1) (.int 0)))) .nil))))
    (.seq (.ret (.and (.cmp .eq (.call 81 (.cons (.var 1) (.cons (.int 1) (.cons (.var 2) (.cons (.var 3) .nil))))) (.lst false .nil)) (.cmp .is (.call 113 (.cons (.var 1) (.cons (.int 1) (.cons (.var 2) (.cons (.var 3) .nil))))) .non)))
    .skip))))⟩
/-- 50 -/
def md__law_other : MD := ⟨2, 5, true,
    (.seq (.asg (.nm 2) (.lst false .nil))
    (.seq (.fors (.nm 3) (.rng1 (.var 1)) (.seq (.asg (.nm 2) (.bin .add (.var 2) (.lc false [4] (.nm 4) (.rng2 (.bin .add (.var 3) (.int 1)) (.var 1)) (.tv (.cmp .eq (.call 51 (.cons (.var 0) (.cons (.int 4) .nil))) (.int 0))) (.tup (.cons (.var 3) (.cons (.var 4) .nil))))))
    .skip))
    (.seq (.ret (.tup (.cons (.bin .mul (.tup (.cons (.int 1) .nil)) (.var 1)) (.cons (.b1 .tuple (.seq (.var 2))) .nil))))
    .skip)))⟩
abbrev lp__law_other_0 : MS := (.seq (.asg (.nm 2) (.bin .add (.var 2) (.lc false [4] (.nm 4) (.rng2 (.bin .add (.var 3) (.int 1)) (.var 1)) (.tv (.cmp .eq (.call 51 (.cons (.var 0) (.cons (.int 4) .nil))) (.int 0))) (.tup (.cons (.var 3) (.cons (.var 4) .nil))))))
    .skip)
/-- 51 -/
def md__law_pick : MD := ⟨2, 3, true,
    (.seq (.ifs (.tv (.cmp .gt (.idx (.var 0) (.int 0)) (.int 0))) (.seq (.asg (.nm 2) (.bin .mod (.b1 .int (.seq (.idx (.var 0) (.int 0)))) (.var 1)))
    (.seq (.sub (.var 0) (.int 0) (.bin .fdiv (.idx (.var 0) (.int 0)) (.var 1)))
    (.seq (.ret (.var 2))
    .skip))) .skip)
    (.seq (.sub (.var 0) (.int 1) (.bin .mod (.b1 .int (.seq (.bin .add (.bin .mul (.idx (.var 0) (.int 1)) (.int 318665857834)) (.int 12289)))) (.int 999999999959)))
    (.seq (.ret (.bin .mod (.b1 .int (.seq (.bin .fdiv (.idx (.var 0) (.int 1)) (.int 3181)))) (.var 1)))
    .skip)))⟩
/-- 52 -/
def md__law_plain_work : MD := ⟨2, 9, true,
    (.seq (.asg (.tup [2, 3, 4]) (.tup (.cons (.b1 (.list true) (.rng1 (.var 1))) (.cons (.bin .add (.int 2) (.call 51 (.cons (.var 0) (.cons (.int 4) .nil)))) (.cons (.lst true .nil) .nil)))))
    (.seq (.asg (.nm 6) (.lc false [5] (.nm 5) (.rng1 (.var 1)) (.tv .tt) (.popAt (.var 2) (.call 51 (.cons (.var 0) (.cons (.b1 .len (.seq (.var 2))) .nil))))))
    (.seq (.fors (.nm 7) (.rng1 (.var 1)) (.seq (.fors (.nm 8) (.rng1 (.var 1)) (.seq (.ifs (.tand (.tv (.cmp .lt (.idx (.var 6) (.var 7)) (.idx (.var 6) (.var 8)))) (.tv (.cmp .eq (.call 51 (.cons (.var 0) (.cons (.var 3) .nil))) (.int 0)))) (.seq (.expr (.app (.var 4) (.tup (.cons (.var 7) (.cons (.var 8) .nil)))))
    .skip) .skip)
    .skip))
    .skip))
    (.seq (.ret (.tup (.cons (.bin .mul (.tup (.cons (.int 1) .nil)) (.var 1)) (.cons (.b1 .tuple (.seq (.b1 .sorted (.seq (.var 4))))) .nil))))
    .skip))))⟩
abbrev lp__law_plain_work_0 : MS := (.seq (.ifs (.tand (.tv (.cmp .lt (.idx (.var 6) (.var 7)) (.idx (.var 6) (.var 8)))) (.tv (.cmp .eq (.call 51 (.cons (.var 0) (.cons (.var 3) .nil))) (.int 0)))) (.seq (.expr (.app (.var 4) (.tup (.cons (.var 7) (.cons (.var 8) .nil)))))
    .skip) .skip)
    .skip)
abbrev lp__law_plain_work_1 : MS := (.seq (.fors (.nm 8) (.rng1 (.var 1)) (.seq (.ifs (.tand (.tv (.cmp .lt (.idx (.var 6) (.var 7)) (.idx (.var 6) (.var 8)))) (.tv (.cmp .eq (.call 51 (.cons (.var 0) (.cons (.var 3) .nil))) (.int 0)))) (.seq (.expr (.app (.var 4) (.tup (.cons (.var 7) (.cons (.var 8) .nil)))))
    .skip) .skip)
    .skip))
    .skip)
/-- 53 -/
def md__law_run : MD := ⟨3, 14, true,
    (.seq (.asg (.tup [3, 4]) (.var 0))
    (.seq (.asg (.tup [6, 7]) (.tup (.cons (.lc true [5] (.nm 5) (.seq (.var 3)) (.tv .tt) .non) (.cons (.int 0) .nil))))
    (.seq (.whl (.tv (.cmp .isin .non (.var 6))) (.seq (.asg (.nm 10) (.lc true [8, 9] (.tup [8, 9]) (.enm (.var 6)) (.tand (.tv (.cmp .isnot (.var 9) .non)) (.tv (.cmp .gt (.bin .add (.var 9) (.idx (.var 3) (.var 8))) (.var 7)))) (.var 8)))
    (.seq (.asg (.nm 11) (.lst true .nil))
    (.seq (.fors (.tup [12, 13]) (.seq (.var 4)) (.seq (.ifs (.tor (.tv (.cmp .is (.idx (.var 6) (.var 12)) .non)) (.tv (.cmp .gt (.bin .add (.idx (.var 6) (.var 12)) (.idx (.var 3) (.var 12))) (.var 7)))) (.seq (.expr (.app (.var 11) (.var 13)))
    .skip) .skip)
    .skip))
    (.seq (.fors (.nm 8) (.seq (.var 2)) (.seq (.ifs (.tand (.tv (.cmp .is (.idx (.var 6) (.var 8)) .non)) (.tand (.tv (.cmp .notin (.var 8) (.var 11))) (.tv (.cmp .lt (.b1 .len (.seq (.var 10))) (.var 1))))) (.seq (.sub (.var 6) (.var 8) (.var 7))
    (.seq (.expr (.app (.var 10) (.var 8)))
    .skip)) .skip)
    .skip))
    (.seq (.ifs (.tv (.cmp .isin .non (.var 6))) (.seq (.asg (.nm 7) (.b1 .min (.seq (.lc false [8] (.nm 8) (.seq (.var 10)) (.tv .tt) (.bin .add (.idx (.var 6) (.var 8)) (.idx (.var 3) (.var 8)))))))
    .skip) .skip)
    .skip))))))
    (.seq (.ret (.b1 .tuple (.seq (.var 6))))
    .skip))))⟩
abbrev lp__law_run_0 : MS := (.seq (.ifs (.tand (.tv (.cmp .is (.idx (.var 6) (.var 8)) .non)) (.tand (.tv (.cmp .notin (.var 8) (.var 11))) (.tv (.cmp .lt (.b1 .len (.seq (.var 10))) (.var 1))))) (.seq (.sub (.var 6) (.var 8) (.var 7))
    (.seq (.expr (.app (.var 10) (.var 8)))
    .skip)) .skip)
    .skip)
abbrev lp__law_run_1 : MS := (.seq (.ifs (.tor (.tv (.cmp .is (.idx (.var 6) (.var 12)) .non)) (.tv (.cmp .gt (.bin .add (.idx (.var 6) (.var 12)) (.idx (.var 3) (.var 12))) (.var 7)))) (.seq (.expr (.app (.var 11) (.var 13)))
    .skip) .skip)
    .skip)
abbrev lp__law_run_2 : MS := (.seq (.asg (.nm 10) (.lc true [8, 9] (.tup [8, 9]) (.enm (.var 6)) (.tand (.tv (.cmp .isnot (.var 9) .non)) (.tv (.cmp .gt (.bin .add (.var 9) (.idx (.var 3) (.var 8))) (.var 7)))) (.var 8)))
    (.seq (.asg (.nm 11) (.lst true .nil))
    (.seq (.fors (.tup [12, 13]) (.seq (.var 4)) (.seq (.ifs (.tor (.tv (.cmp .is (.idx (.var 6) (.var 12)) .non)) (.tv (.cmp .gt (.bin .add (.idx (.var 6) (.var 12)) (.idx (.var 3) (.var 12))) (.var 7)))) (.seq (.expr (.app (.var 11) (.var 13)))
    .skip) .skip)
    .skip))
    (.seq (.fors (.nm 8) (.seq (.var 2)) (.seq (.ifs (.tand (.tv (.cmp .is (.idx (.var 6) (.var 8)) .non)) (.tand (.tv (.cmp .notin (.var 8) (.var 11))) (.tv (.cmp .lt (.b1 .len (.seq (.var 10))) (.var 1))))) (.seq (.sub (.var 6) (.var 8) (.var 7))
    (.seq (.expr (.app (.var 10) (.var 8)))
    .skip)) .skip)
    .skip))
    (.seq (.ifs (.tv (.cmp .isin .non (.var 6))) (.seq (.asg (.nm 7) (.b1 .min (.seq (.lc false [8] (.nm 8) (.seq (.var 10)) (.tv .tt) (.bin .add (.idx (.var 6) (.var 8)) (.idx (.var 3) (.var 8)))))))
    .skip) .skip)
    .skip)))))
/-- 58 -/
def md__law_spring : MD := ⟨2, 4, false,
    (.seq (.asg (.nm 2) (.int 43))
    (.seq (.ifs (.tv (.cmp .lt (.var 1) (.b1 .len (.seq (.var 0))))) (.seq (.asg (.nm 2) (.b1 .abs (.seq (.idx (.var 0) (.var 1)))))
    .skip) .skip)
    (.seq (.asg (.nm 3) (.bin .mod (.b1 .int (.seq (.bin .add (.bin .add (.bin .mul (.var 2) (.int 2011)) (.bin .mul (.int 700001) (.var 1))) (.int 11)))) (.int 999999999959)))
    (.seq (.ret (.lst true (.cons (.ite (.tv (.cmp .ge (.var 2) (.bin .pow (.int 10) (.int 18)))) (.var 2) (.int 0)) (.cons (.var 3) .nil))))
    .skip))))⟩
/-- 59 -/
def md__law_text : MD := ⟨1, 5, true,
    (.seq (.asg (.nm 1) (.str "times"))
    (.seq (.fors (.nm 2) (.seq (.idx (.var 0) (.int 0))) (.seq (.asg (.nm 1) (.bin .add (.bin .add (.var 1) (.str " ")) (.b1 .str (.seq (.var 2)))))
    .skip))
    (.seq (.fors (.tup [3, 4]) (.seq (.idx (.var 0) (.int 1))) (.seq (.asg (.nm 1) (.bin .add (.bin .add (.bin .add (.bin .add (.var 1) (.str "\n")) (.b1 .str (.seq (.var 3)))) (.str ">")) (.b1 .str (.seq (.var 4)))))
    .skip))
    (.seq (.ret (.var 1))
    .skip))))⟩
abbrev lp__law_text_0 : MS := (.seq (.asg (.nm 1) (.bin .add (.bin .add (.bin .add (.bin .add (.var 1) (.str "\n")) (.b1 .str (.seq (.var 3)))) (.str ">")) (.b1 .str (.seq (.var 4)))))
    .skip)
abbrev lp__law_text_1 : MS := (.seq (.asg (.nm 1) (.bin .add (.bin .add (.var 1) (.str " ")) (.b1 .str (.seq (.var 2)))))
    .skip)
/-- 60 -/
def md__law_tight : MD := ⟨1, 3, true,
    (.seq (.asg (.tup [1, 2]) (.call 155 (.cons (.var 0) .nil)))
    (.seq (.ifs (.tor (.tv (.cmp .isnot (.call 109 (.cons (.var 1) .nil)) .tt)) (.tor (.tv (.cmp .gt (.b1 .len (.seq (.idx (.var 1) (.int 0)))) (.int 7))) (.tv (.cmp .ne (.b1 .sorted (.seq (.var 2))) (.b1 (.list false) (.rng1 (.b1 .len (.seq (.idx (.var 1) (.int 0)))))))))) (.seq (.ret .ff)
    .skip) .skip)
    (.seq (.ret (.cmp .eq (.call 42 (.cons (.call 18 (.cons (.var 1) (.cons (.var 0) (.cons (.var 2) .nil)))) (.cons (.call 36 (.cons (.var 1) (.cons (.var 0) .nil))) .nil))) (.call 42 (.cons (.bin .sub (.bin .mul (.int 2) (.var 0)) (.int 1)) (.cons (.var 0) .nil)))))
    .skip)))⟩
/-- 61 -/
def md__law_times : MD := ⟨2, 7, true,
    (.seq (.asg (.nm 2) (.lst false (.cons (.int 0) .nil)))
    (.seq (.fors (.tup [3, 4]) (.enm (.idx (.var 0) (.int 0))) (.seq (.ifs (.tv (.cmp .ne (.var 3) (.var 1))) (.seq (.asg (.nm 2) (.bin .add (.bin .add (.var 2) (.lc false [5] (.nm 5) (.seq (.var 2)) (.tv .tt) (.bin .add (.var 5) (.var 4)))) (.lc false [5] (.nm 5) (.seq (.var 2)) (.tv .tt) (.bin .sub (.var 5) (.var 4)))))
    .skip) .skip)
    .skip))
    (.seq (.asg (.nm 6) (.lst false (.cons (.int 1) (.cons (.int 2) (.cons (.bin .pow (.int 10) (.int 30)) (.cons (.idx (.idx (.var 0) (.int 0)) (.var 1)) (.cons (.bin .sub (.idx (.idx (.var 0) (.int 0)) (.var 1)) (.int 1)) .nil)))))))
    (.seq (.fors (.nm 5) (.seq (.b1 .sortSet (.seq (.var 2)))) (.seq (.asg (.nm 6) (.bin .add (.var 6) (.lst false (.cons (.bin .sub (.var 5) (.int 1)) (.cons (.var 5) (.cons (.bin .add (.var 5) (.int 1)) (.cons (.bin .add (.var 5) (.int 2)) .nil)))))))
    .skip))
    (.seq (.ret (.lc false [4] (.nm 4) (.seq (.b1 .sortSet (.seq (.var 6)))) (.tv (.cmp2 .le .le (.int 1) (.var 4) (.bin .pow (.int 10) (.int 30)))) (.var 4)))
    .skip)))))⟩
abbrev lp__law_times_0 : MS := (.seq (.asg (.nm 6) (.bin .add (.var 6) (.lst false (.cons (.bin .sub (.var 5) (.int 1)) (.cons (.var 5) (.cons (.bin .add (.var 5) (.int 1)) (.cons (.bin .add (.var 5) (.int 2)) .nil)))))))
    .skip)
abbrev lp__law_times_1 : MS := (.seq (.ifs (.tv (.cmp .ne (.var 3) (.var 1))) (.seq (.asg (.nm 2) (.bin .add (.bin .add (.var 2) (.lc false [5] (.nm 5) (.seq (.var 2)) (.tv .tt) (.bin .add (.var 5) (.var 4)))) (.lc false [5] (.nm 5) (.seq (.var 2)) (.tv .tt) (.bin .sub (.var 5) (.var 4)))))
    .skip) .skip)
    .skip)
/-- 62 -/
def md__law_twins : MD := ⟨2, 4, true,
    (.seq (.ifs (.tv (.cmp .ne (.call 32 (.cons (.var 0) .nil)) (.call 32 (.cons (.var 1) .nil)))) (.seq (.ret .ff)
    .skip) .skip)
    (.seq (.ifs (.tv (.cmp .isin (.call 32 (.cons (.var 0) .nil)) (.lst false (.cons (.int 2) (.cons (.int 3) .nil))))) (.seq (.ret (.and (.cmp .eq (.b1 .len (.seq (.var 0))) (.b1 .len (.seq (.var 1)))) (.cmp .eq (.lc false [2, 3] (.tup [2, 3]) (.zp (.var 0) (.var 1)) (.tnot (.tv (.call 62 (.cons (.var 2) (.cons (.var 3) .nil))))) (.int 1)) (.lst false .nil))))
    .skip) .skip)
    (.seq (.ret (.cmp .eq (.var 0) (.var 1)))
    .skip)))⟩
/-- 64 -/
def md__law_waited : MD := ⟨2, 5, true,
    (.seq (.asg (.nm 2) (.call 67 (.cons (.var 0) (.cons (.var 1) .nil))))
    (.seq (.asg (.nm 4) (.lc false [3] (.nm 3) (.rng1 (.b1 .len (.seq (.var 2)))) (.tv (.cmp .eq (.idx (.var 2) (.var 3)) (.str "runs"))) (.bin .add (.idx (.idx (.var 1) (.int 2)) (.var 3)) (.idx (.idx (.var 0) (.int 0)) (.var 3)))))
    (.seq (.ret (.ite (.tv (.cmp .ne (.var 4) (.lst false .nil))) (.tup (.cons (.idx (.var 1) (.int 0)) (.cons (.b1 .min (.seq (.var 4))) (.cons (.idx (.var 1) (.int 2)) .nil)))) .non))
    .skip)))⟩
/-- 65 -/
def md__law_with : MD := ⟨3, 3, true,
    (.seq (.ret (.tup (.cons (.bin .add (.bin .add (.sl (.idx (.var 0) (.int 0)) .nil (.seq (.var 1))) (.tup (.cons (.var 2) .nil))) (.sl (.idx (.var 0) (.int 0)) (.seq (.bin .add (.var 1) (.int 1))) .nil)) (.cons (.idx (.var 0) (.int 1)) .nil))))
    .skip)⟩
/-- 66 -/
def md__law_without : MD := ⟨2, 7, true,
    (.seq (.asg (.nm 3) (.lc false [2] (.nm 2) (.seq (.idx (.var 0) (.int 1))) (.tv (.cmp .notin (.var 1) (.var 2))) (.var 2)))
    (.seq (.asg (.nm 6) (.lc false [4, 5] (.tup [4, 5]) (.seq (.var 3)) (.tv .tt) (.tup (.cons (.bin .sub (.var 4) (.ite (.tv (.cmp .gt (.var 4) (.var 1))) (.int 1) (.int 0))) (.cons (.bin .sub (.var 5) (.ite (.tv (.cmp .gt (.var 5) (.var 1))) (.int 1) (.int 0))) .nil)))))
    (.seq (.ret (.tup (.cons (.bin .add (.sl (.idx (.var 0) (.int 0)) .nil (.seq (.var 1))) (.sl (.idx (.var 0) (.int 0)) (.seq (.bin .add (.var 1) (.int 1))) .nil)) (.cons (.b1 .tuple (.seq (.var 6))) .nil))))
    .skip)))⟩
/-- 67 -/
def md__law_words : MD := ⟨2, 8, true,
    (.seq (.asg (.nm 2) (.lst true .nil))
    (.seq (.fors (.tup [3, 4]) (.enm (.idx (.var 1) (.int 2))) (.seq (.asg (.nm 7) (.lc false [5, 6] (.tup [5, 6]) (.seq (.idx (.var 0) (.int 1))) (.tand (.tv (.cmp .eq (.var 6) (.var 3))) (.tnot (.tv (.call 20 (.cons (.var 0) (.cons (.var 1) (.cons (.var 5) .nil))))))) (.var 5)))
    (.seq (.ifs (.tv (.cmp .is (.var 4) .non)) (.seq (.expr (.app (.var 2) (.ite (.tv (.cmp .eq (.var 7) (.lst false .nil))) (.str "ready") (.str "waits"))))
    .skip) (.seq (.expr (.app (.var 2) (.ite (.tv (.call 20 (.cons (.var 0) (.cons (.var 1) (.cons (.var 3) .nil))))) (.str "ended") (.str "runs"))))
    .skip))
    .skip)))
    (.seq (.ret (.var 2))
    .skip)))⟩
abbrev lp__law_words_0 : MS := (.seq (.asg (.nm 7) (.lc false [5, 6] (.tup [5, 6]) (.seq (.idx (.var 0) (.int 1))) (.tand (.tv (.cmp .eq (.var 6) (.var 3))) (.tnot (.tv (.call 20 (.cons (.var 0) (.cons (.var 1) (.cons (.var 5) .nil))))))) (.var 5)))
    (.seq (.ifs (.tv (.cmp .is (.var 4) .non)) (.seq (.expr (.app (.var 2) (.ite (.tv (.cmp .eq (.var 7) (.lst false .nil))) (.str "ready") (.str "waits"))))
    .skip) (.seq (.expr (.app (.var 2) (.ite (.tv (.call 20 (.cons (.var 0) (.cons (.var 1) (.cons (.var 3) .nil))))) (.str "ended") (.str "runs"))))
    .skip))
    .skip))
/-- 68 -/
def md__law_work : MD := ⟨3, 13, true,
    (.seq (.par [3, 4] (.cons (.bin .add (.var 1) (.call 51 (.cons (.var 0) (.cons (.bin .add (.bin .sub (.var 2) (.var 1)) (.int 1)) .nil)))) (.cons (.call 51 (.cons (.var 0) (.cons (.int 4) .nil))) .nil)))
    (.seq (.asg (.nm 5) (.bin .add (.int 2) (.call 51 (.cons (.var 0) (.cons (.int 4) .nil)))))
    (.seq (.par [6, 7, 8] (.cons (.call 43 (.cons (.var 0) (.cons (.var 3) .nil))) (.cons (.tup .nil) (.cons (.lst true .nil) .nil))))
    (.seq (.fors (.nm 9) (.rng1 (.var 3)) (.seq (.asg (.nm 10) (.bin .add (.int 1) (.call 51 (.cons (.var 0) (.cons (.idx (.lst false (.cons (.int 1) (.cons (.int 4) (.cons (.int 12) (.cons (.int 5) .nil))))) (.var 4)) .nil)))))
    (.seq (.asg (.nm 7) (.bin .add (.var 7) (.tup (.cons (.ite (.tv (.cmp .eq (.var 4) (.int 3))) (.bin .add (.bin .mul (.var 10) (.bin .pow (.int 10) (.int 28))) (.call 51 (.cons (.var 0) (.cons (.int 3) .nil)))) (.var 10)) .nil))))
    .skip)))
    (.seq (.fors (.nm 11) (.rng1 (.var 3)) (.seq (.fors (.nm 12) (.rng1 (.var 3)) (.seq (.ifs (.tand (.tv (.cmp .lt (.idx (.var 6) (.var 11)) (.idx (.var 6) (.var 12)))) (.tv (.cmp .eq (.call 51 (.cons (.var 0) (.cons (.var 5) .nil))) (.int 0)))) (.seq (.expr (.app (.var 8) (.tup (.cons (.var 11) (.cons (.var 12) .nil)))))
    .skip) .skip)
    .skip))
    .skip))
    (.seq (.ret (.tup (.cons (.var 7) (.cons (.b1 .tuple (.seq (.b1 .sorted (.seq (.var 8))))) .nil))))
    .skip))))))⟩
abbrev lp__law_work_0 : MS := (.seq (.ifs (.tand (.tv (.cmp .lt (.idx (.var 6) (.var 11)) (.idx (.var 6) (.var 12)))) (.tv (.cmp .eq (.call 51 (.cons (.var 0) (.cons (.var 5) .nil))) (.int 0)))) (.seq (.expr (.app (.var 8) (.tup (.cons (.var 11) (.cons (.var 12) .nil)))))
    .skip) .skip)
    .skip)
abbrev lp__law_work_1 : MS := (.seq (.fors (.nm 12) (.rng1 (.var 3)) (.seq (.ifs (.tand (.tv (.cmp .lt (.idx (.var 6) (.var 11)) (.idx (.var 6) (.var 12)))) (.tv (.cmp .eq (.call 51 (.cons (.var 0) (.cons (.var 5) .nil))) (.int 0)))) (.seq (.expr (.app (.var 8) (.tup (.cons (.var 11) (.cons (.var 12) .nil)))))
    .skip) .skip)
    .skip))
    .skip)
abbrev lp__law_work_2 : MS := (.seq (.asg (.nm 10) (.bin .add (.int 1) (.call 51 (.cons (.var 0) (.cons (.idx (.lst false (.cons (.int 1) (.cons (.int 4) (.cons (.int 12) (.cons (.int 5) .nil))))) (.var 4)) .nil)))))
    (.seq (.asg (.nm 7) (.bin .add (.var 7) (.tup (.cons (.ite (.tv (.cmp .eq (.var 4) (.int 3))) (.bin .add (.bin .mul (.var 10) (.bin .pow (.int 10) (.int 28))) (.call 51 (.cons (.var 0) (.cons (.int 3) .nil)))) (.var 10)) .nil))))
    .skip))
/-- 70 -/
def md_all_behind : MD := ⟨2, 4, true,
    (.seq (.ret (.lc false [2, 3] (.tup [2, 3]) (.enm (.idx (.call 153 (.cons (.b1 .len (.seq (.idx (.var 0) (.int 0)))) (.cons (.idx (.var 0) (.int 1)) .nil))) (.var 1))) (.tv (.var 3)) (.var 2)))
    .skip)⟩
/-- 71 -/
def md_all_next : MD := ⟨2, 7, true,
    (.seq (.asg (.nm 2) (.call 153 (.cons (.b1 .len (.seq (.idx (.var 0) (.int 0)))) (.cons (.idx (.var 0) (.int 1)) .nil))))
    (.seq (.asg (.nm 5) (.lc false [3, 4] (.tup [3, 4]) (.enm (.idx (.var 2) (.var 1))) (.tv (.var 4)) (.var 3)))
    (.seq (.ret (.lc false [3] (.nm 3) (.seq (.var 5)) (.tnot (.tv (.b1 .any (.seq (.lc false [6] (.nm 6) (.seq (.var 5)) (.tv .tt) (.idx (.idx (.var 2) (.var 6)) (.var 3))))))) (.var 3)))
    .skip)))⟩
/-- 72 -/
def md_behind : MD := ⟨2, 2, true,
    (.seq (.expr (.call 136 (.cons (.var 0) .nil)))
    (.seq (.expr (.call 135 (.cons (.var 0) (.cons (.var 1) .nil))))
    (.seq (.ret (.call 70 (.cons (.var 0) (.cons (.var 1) .nil))))
    .skip)))⟩
/-- 74 -/
def md_best_end : MD := ⟨2, 2, true,
    (.seq (.expr (.call 136 (.cons (.var 0) .nil)))
    (.seq (.expr (.call 131 (.cons (.var 1) .nil)))
    (.seq (.expr (.call 130 (.cons (.var 0) (.cons (.glb 2) .nil))))
    (.seq (.ret (.call 143 (.cons (.var 0) (.cons (.call 76 (.cons (.var 0) (.cons (.var 1) .nil))) .nil))))
    .skip))))⟩
/-- 75 -/
def md_best_list : MD := ⟨2, 2, true,
    (.seq (.ret (.idx (.b1 .min (.seq (.call 145 (.cons (.var 0) (.cons (.var 1) .nil))))) (.int 1)))
    .skip)⟩
/-- 76 -/
def md_best_plan : MD := ⟨2, 2, true,
    (.seq (.ret (.call 93 (.cons (.var 0) (.cons (.var 1) (.cons (.call 116 (.cons (.var 0) (.cons (.var 1) .nil))) (.cons (.bin .mul (.tup (.cons .non .nil)) (.b1 .len (.seq (.idx (.var 0) (.int 0))))) (.cons .non (.cons .dnew .nil))))))))
    .skip)⟩
/-- 77 -/
def md_bound : MD := ⟨2, 2, true,
    (.seq (.expr (.call 136 (.cons (.var 0) .nil)))
    (.seq (.expr (.call 131 (.cons (.var 1) .nil)))
    (.seq (.ret (.call 116 (.cons (.var 0) (.cons (.var 1) .nil))))
    .skip)))⟩
/-- 78 -/
def md_by_labels : MD := ⟨1, 3, true,
    (.seq (.expr (.call 136 (.cons (.var 0) .nil)))
    (.seq (.expr (.call 134 (.cons (.var 0) .nil)))
    (.seq (.asg (.nm 1) (.call 111 (.cons (.var 0) .nil)))
    (.seq (.ret (.call 88 (.cons (.lc false [2] (.nm 2) (.rng1 (.b1 .len (.seq (.idx (.var 0) (.int 0))))) (.tv .tt) (.idx (.var 1) (.var 2))) .nil)))
    .skip))))⟩
/-- 79 -/
def md_by_levels : MD := ⟨1, 1, true,
    (.seq (.expr (.call 136 (.cons (.var 0) .nil)))
    (.seq (.ret (.call 88 (.cons (.call 120 (.cons (.var 0) .nil)) .nil)))
    .skip))⟩
/-- 80 -/
def md_by_times : MD := ⟨1, 1, true,
    (.seq (.expr (.call 136 (.cons (.var 0) .nil)))
    (.seq (.ret (.call 88 (.cons (.idx (.var 0) (.int 0)) .nil)))
    .skip))⟩
/-- 81 -/
def md_drops : MD := ⟨4, 7, true,
    (.seq (.expr (.call 128 (.cons (.var 0) (.cons (.var 1) (.cons (.var 2) .nil)))))
    (.seq (.expr (.call 135 (.cons (.var 0) (.cons (.var 3) .nil))))
    (.seq (.ret (.lc false [4, 5, 6] (.tup [4, 5, 6]) (.seq (.call 151 (.cons (.var 0) (.cons (.var 1) (.cons (.var 2) (.cons (.var 3) .nil)))))) (.tv (.cmp .lt (.var 6) (.var 5))) (.var 4)))
    .skip)))⟩
/-- 82 -/
def md_earliest : MD := ⟨4, 12, true,
    (.seq (.asg (.nm 6) (.lc false [4, 5] (.tup [4, 5]) (.zp (.var 2) (.idx (.var 0) (.int 0))) (.tv (.cmp .isnot (.var 4) .non)) (.bin .add (.var 4) (.var 5))))
    (.seq (.asg (.nm 9) (.b1 .max (.seq (.bin .add (.lst false (.cons (.int 0) .nil)) (.lc false [7, 8] (.tup [7, 8]) (.seq (.idx (.var 0) (.int 1))) (.tv (.cmp .eq (.var 8) (.var 3))) (.bin .add (.idx (.var 2) (.var 7)) (.idx (.idx (.var 0) (.int 0)) (.var 7))))))))
    (.seq (.asg (.nm 11) (.bin .add (.lst false (.cons (.var 9) .nil)) (.lc false [10] (.nm 10) (.seq (.b1 .sorted (.seq (.var 6)))) (.tv (.cmp .gt (.var 10) (.var 9))) (.var 10))))
    (.seq (.ret (.idx (.lc false [10] (.nm 10) (.seq (.var 11)) (.tv (.call 89 (.cons (.var 0) (.cons (.var 1) (.cons (.var 2) (.cons (.var 3) (.cons (.var 10) .nil))))))) (.var 10)) (.int 0)))
    .skip))))⟩
/-- 83 -/
def md_end : MD := ⟨3, 3, true,
    (.seq (.expr (.call 128 (.cons (.var 0) (.cons (.var 1) (.cons (.var 2) .nil)))))
    (.seq (.ret (.call 84 (.cons (.var 0) (.cons (.var 1) (.cons (.var 2) .nil)))))
    .skip))⟩
/-- 84 -/
def md_end_of : MD := ⟨3, 3, true,
    (.seq (.ret (.idx (.call 117 (.cons (.var 0) (.cons (.var 1) (.cons (.var 2) (.cons (.bin .mul (.tup (.cons .non .nil)) (.b1 .len (.seq (.idx (.var 0) (.int 0))))) (.cons (.int 0) .nil)))))) (.int 1)))
    .skip)⟩
/-- 85 -/
def md_ends : MD := ⟨2, 5, true,
    (.seq (.asg (.nm 4) (.lc false [2, 3] (.tup [2, 3]) (.seq (.call 145 (.cons (.var 0) (.cons (.var 1) .nil)))) (.tv .tt) (.var 2)))
    (.seq (.ret (.lc false [2] (.nm 2) (.seq (.b1 .sortSet (.seq (.var 4)))) (.tv .tt) (.tup (.cons (.var 2) (.cons (.count (.var 4) (.var 2)) .nil)))))
    .skip))⟩
/-- 86 -/
def md_ends_by_hands : MD := ⟨2, 2, true,
    (.seq (.expr (.call 136 (.cons (.var 0) .nil)))
    (.seq (.expr (.call 133 (.cons (.var 0) (.cons (.var 1) .nil))))
    (.seq (.ret (.call 87 (.cons (.var 0) (.cons (.var 1) .nil))))
    .skip)))⟩
/-- 87 -/
def md_ends_of_hands : MD := ⟨2, 3, true,
    (.seq (.ret (.b1 .tuple (.seq (.lc false [2] (.nm 2) (.rng2 (.int 1) (.int 11)) (.tv .tt) (.call 84 (.cons (.var 0) (.cons (.var 2) (.cons (.var 1) .nil))))))))
    .skip)⟩
/-- 88 -/
def md_falling : MD := ⟨1, 3, true,
    (.seq (.ret (.b1 .tuple (.seq (.lc false [1, 2] (.tup [1, 2]) (.seq (.b1 .sorted (.seq (.lc false [2, 1] (.tup [2, 1]) (.enm (.var 0)) (.tv .tt) (.tup (.cons (.neg (.var 1)) (.cons (.var 2) .nil))))))) (.tv .tt) (.var 2)))))
    .skip)⟩
/-- 89 -/
def md_fits_from : MD := ⟨5, 9, true,
    (.seq (.asg (.nm 5) (.bin .add (.var 4) (.idx (.idx (.var 0) (.int 0)) (.var 3))))
    (.seq (.asg (.nm 7) (.bin .add (.lst false (.cons (.var 4) .nil)) (.lc false [6] (.nm 6) (.seq (.var 2)) (.tand (.tv (.cmp .isnot (.var 6) .non)) (.tv (.cmp2 .lt .lt (.var 4) (.var 6) (.var 5)))) (.var 6))))
    (.seq (.ret (.b1 .all (.seq (.lc false [8] (.nm 8) (.seq (.var 7)) (.tv .tt) (.cmp .lt (.call 148 (.cons (.var 0) (.cons (.var 2) (.cons (.var 8) .nil)))) (.var 1))))))
    .skip)))⟩
/-- 90 -/
def md_fraction : MD := ⟨2, 4, true,
    (.seq (.par [2, 3] (.cons (.var 0) (.cons (.var 1) .nil)))
    (.seq (.whl (.tv (.cmp .ne (.var 3) (.int 0))) (.seq (.par [2, 3] (.cons (.var 3) (.cons (.bin .mod (.var 2) (.var 3)) .nil)))
    .skip))
    (.seq (.ret (.tup (.cons (.bin .fdiv (.var 0) (.var 2)) (.cons (.bin .fdiv (.var 1) (.var 2)) .nil))))
    .skip)))⟩
abbrev lp_fraction_0 : MS := (.seq (.par [2, 3] (.cons (.var 3) (.cons (.bin .mod (.var 2) (.var 3)) .nil)))
    .skip)
/-- 91 -/
def md_free_pairs : MD := ⟨1, 7, true,
    (.seq (.asg (.nm 1) (.b1 .len (.seq (.idx (.var 0) (.int 0)))))
    (.seq (.asg (.tup [2, 3]) (.tup (.cons (.call 153 (.cons (.var 1) (.cons (.idx (.var 0) (.int 1)) .nil))) (.cons (.lst false .nil) .nil))))
    (.seq (.fors (.nm 4) (.rng1 (.var 1)) (.seq (.asg (.nm 6) (.lc false [5] (.nm 5) (.rng2 (.bin .add (.var 4) (.int 1)) (.var 1)) (.tand (.tnot (.tv (.idx (.idx (.var 2) (.var 4)) (.var 5)))) (.tnot (.tv (.idx (.idx (.var 2) (.var 5)) (.var 4))))) (.var 5)))
    (.seq (.asg (.nm 3) (.bin .add (.var 3) (.lc false [5] (.nm 5) (.seq (.var 6)) (.tv .tt) (.tup (.cons (.var 4) (.cons (.var 5) .nil))))))
    .skip)))
    (.seq (.ret (.var 3))
    .skip))))⟩
abbrev lp_free_pairs_0 : MS := (.seq (.asg (.nm 6) (.lc false [5] (.nm 5) (.rng2 (.bin .add (.var 4) (.int 1)) (.var 1)) (.tand (.tnot (.tv (.idx (.idx (.var 2) (.var 4)) (.var 5)))) (.tnot (.tv (.idx (.idx (.var 2) (.var 5)) (.var 4))))) (.var 5)))
    (.seq (.asg (.nm 3) (.bin .add (.var 3) (.lc false [5] (.nm 5) (.seq (.var 6)) (.tv .tt) (.tup (.cons (.var 4) (.cons (.var 5) .nil))))))
    .skip))
/-- 92 -/
def md_goes : MD := ⟨2, 4, true,
    (.seq (.ret (.b1 .all (.seq (.lc false [2, 3] (.tup [2, 3]) (.seq (.var 1)) (.tv .tt) (.cmp .eq (.idx (.var 0) (.var 2)) (.var 3))))))
    .skip)⟩
/-- 93 -/
def md_grown : MD := ⟨6, 10, true,
    (.seq (.ifs (.tv (.cmp .notin .non (.var 3))) (.seq (.ret (.ite (.tor (.tv (.cmp .is (.var 4) .non)) (.tv (.cmp .lt (.call 143 (.cons (.var 0) (.cons (.var 3) .nil))) (.call 143 (.cons (.var 0) (.cons (.var 4) .nil)))))) (.var 3) (.var 4)))
    .skip) .skip)
    (.seq (.ifs (.tv (.cmp .isin (.var 3) (.var 5))) (.seq (.ret (.var 4))
    .skip) .skip)
    (.seq (.sub (.var 5) (.var 3) .tt)
    (.seq (.fors (.nm 6) (.rng1 (.b1 .len (.seq (.var 3)))) (.seq (.ifs (.tand (.tv (.cmp .is (.idx (.var 3) (.var 6)) .non)) (.tv (.b1 .all (.seq (.lc false [7, 8] (.tup [7, 8]) (.seq (.idx (.var 0) (.int 1))) (.tv (.cmp .eq (.var 8) (.var 6))) (.cmp .isnot (.idx (.var 3) (.var 7)) .non)))))) (.seq (.asg (.nm 9) (.call 82 (.cons (.var 0) (.cons (.var 1) (.cons (.var 3) (.cons (.var 6) .nil))))))
    (.seq (.ifs (.tor (.tv (.cmp .is (.var 4) .non)) (.tv (.cmp .lt (.bin .add (.var 9) (.idx (.idx (.var 0) (.int 0)) (.var 6))) (.call 143 (.cons (.var 0) (.cons (.var 4) .nil)))))) (.seq (.asg (.nm 4) (.call 93 (.cons (.var 0) (.cons (.var 1) (.cons (.var 2) (.cons (.bin .add (.bin .add (.sl (.var 3) .nil (.seq (.var 6))) (.tup (.cons (.var 9) .nil))) (.sl (.var 3) (.seq (.bin .add (.var 6) (.int 1))) .nil)) (.cons (.var 4) (.cons (.var 5) .nil))))))))
    .skip) .skip)
    (.seq (.ifs (.tand (.tv (.cmp .isnot (.var 4) .non)) (.tv (.cmp .eq (.call 143 (.cons (.var 0) (.cons (.var 4) .nil))) (.var 2)))) (.seq (.ret (.var 4))
    .skip) .skip)
    .skip))) .skip)
    .skip))
    (.seq (.ret (.var 4))
    .skip)))))⟩
abbrev lp_grown_0 : MS := (.seq (.ifs (.tand (.tv (.cmp .is (.idx (.var 3) (.var 6)) .non)) (.tv (.b1 .all (.seq (.lc false [7, 8] (.tup [7, 8]) (.seq (.idx (.var 0) (.int 1))) (.tv (.cmp .eq (.var 8) (.var 6))) (.cmp .isnot (.idx (.var 3) (.var 7)) .non)))))) (.seq (.asg (.nm 9) (.call 82 (.cons (.var 0) (.cons (.var 1) (.cons (.var 3) (.cons (.var 6) .nil))))))
    (.seq (.ifs (.tor (.tv (.cmp .is (.var 4) .non)) (.tv (.cmp .lt (.bin .add (.var 9) (.idx (.idx (.var 0) (.int 0)) (.var 6))) (.call 143 (.cons (.var 0) (.cons (.var 4) .nil)))))) (.seq (.asg (.nm 4) (.call 93 (.cons (.var 0) (.cons (.var 1) (.cons (.var 2) (.cons (.bin .add (.bin .add (.sl (.var 3) .nil (.seq (.var 6))) (.tup (.cons (.var 9) .nil))) (.sl (.var 3) (.seq (.bin .add (.var 6) (.int 1))) .nil)) (.cons (.var 4) (.cons (.var 5) .nil))))))))
    .skip) .skip)
    (.seq (.ifs (.tand (.tv (.cmp .isnot (.var 4) .non)) (.tv (.cmp .eq (.call 143 (.cons (.var 0) (.cons (.var 4) .nil))) (.var 2)))) (.seq (.ret (.var 4))
    .skip) .skip)
    .skip))) .skip)
    .skip)
/-- 94 -/
def md_hands_told : MD := ⟨3, 4, true,
    (.seq (.expr (.call 136 (.cons (.var 0) .nil)))
    (.seq (.expr (.call 133 (.cons (.var 0) (.cons (.var 1) .nil))))
    (.seq (.expr (.call 129 (.cons (.var 0) (.cons (.var 2) .nil))))
    (.seq (.ret (.lc false [3] (.nm 3) (.rng2 (.int 1) (.int 11)) (.tv (.call 92 (.cons (.call 147 (.cons (.var 0) (.cons (.var 3) (.cons (.var 1) .nil)))) (.cons (.var 2) .nil)))) (.var 3)))
    .skip))))⟩
/-- 96 -/
def md_idle : MD := ⟨3, 3, true,
    (.seq (.expr (.call 128 (.cons (.var 0) (.cons (.var 1) (.cons (.var 2) .nil)))))
    (.seq (.ret (.bin .sub (.bin .mul (.var 1) (.call 84 (.cons (.var 0) (.cons (.var 1) (.cons (.var 2) .nil))))) (.b1 .sum (.seq (.idx (.var 0) (.int 0))))))
    .skip))⟩
/-- 97 -/
def md_is_forest : MD := ⟨1, 2, true,
    (.seq (.expr (.call 136 (.cons (.var 0) .nil)))
    (.seq (.ret (.b1 .all (.seq (.lc false [1] (.nm 1) (.rng1 (.b1 .len (.seq (.idx (.var 0) (.int 0))))) (.tv .tt) (.cmp .lt (.b1 .len (.seq (.call 71 (.cons (.var 0) (.cons (.var 1) .nil))))) (.int 2))))))
    .skip))⟩
/-- 98 -/
def md_is_free_to_begin : MD := ⟨4, 7, true,
    (.seq (.asg (.nm 6) (.lc false [4, 5] (.tup [4, 5]) (.seq (.idx (.var 0) (.int 1))) (.tv (.cmp .eq (.var 5) (.var 3))) (.var 4)))
    (.seq (.ret (.b1 .all (.seq (.lc false [4] (.nm 4) (.seq (.var 6)) (.tv .tt) (.and (.cmp .isin (.var 4) (.var 1)) (.cmp .le (.bin .add (.idx (.var 1) (.var 4)) (.idx (.idx (.var 0) (.int 0)) (.var 4))) (.var 2)))))))
    .skip))⟩
/-- 99 -/
def md_is_good_order : MD := ⟨2, 4, true,
    (.seq (.asg (.nm 2) (.b1 .len (.seq (.idx (.var 0) (.int 0)))))
    (.seq (.ifs (.tor (.tnot (.tv (.call 106 (.cons (.var 1) (.cons (.var 2) (.cons (.var 2) .nil)))))) (.tnot (.tv (.b1 .all (.seq (.lc false [3] (.nm 3) (.seq (.var 1)) (.tv .tt) (.call 108 (.cons (.var 3) (.cons (.int 0) (.cons (.bin .sub (.var 2) (.int 1)) .nil)))))))))) (.seq (.ret .ff)
    .skip) .skip)
    (.seq (.ret (.cmp .eq (.b1 .sorted (.seq (.var 1))) (.b1 (.list false) (.rng1 (.var 2)))))
    .skip)))⟩
/-- 100 -/
def md_is_good_plan : MD := ⟨3, 7, true,
    (.seq (.asg (.nm 3) (.b1 .len (.seq (.idx (.var 0) (.int 0)))))
    (.seq (.ifs (.tor (.tnot (.tv (.call 106 (.cons (.var 2) (.cons (.var 3) (.cons (.var 3) .nil)))))) (.tnot (.tv (.b1 .all (.seq (.lc false [4] (.nm 4) (.seq (.var 2)) (.tv .tt) (.call 108 (.cons (.var 4) (.cons (.int 0) (.cons (.bin .pow (.int 10) (.int 46)) .nil)))))))))) (.seq (.ret .ff)
    .skip) .skip)
    (.seq (.ifs (.tnot (.tv (.b1 .all (.seq (.lc false [4, 5] (.tup [4, 5]) (.seq (.idx (.var 0) (.int 1))) (.tv .tt) (.cmp .le (.bin .add (.idx (.var 2) (.var 4)) (.idx (.idx (.var 0) (.int 0)) (.var 4))) (.idx (.var 2) (.var 5)))))))) (.seq (.ret .ff)
    .skip) .skip)
    (.seq (.ret (.b1 .all (.seq (.lc false [6] (.nm 6) (.seq (.var 2)) (.tv .tt) (.cmp .le (.call 148 (.cons (.var 0) (.cons (.var 2) (.cons (.var 6) .nil)))) (.var 1))))))
    .skip))))⟩
/-- 101 -/
def md_is_good_work : MD := ⟨1, 9, true,
    (.seq (.ifs (.tor (.tnot (.tv (.call 106 (.cons (.var 0) (.cons (.int 2) (.cons (.int 2) .nil)))))) (.tor (.tnot (.tv (.call 106 (.cons (.idx (.var 0) (.int 0)) (.cons (.int 1) (.cons (.glb 0) .nil)))))) (.tnot (.tv (.call 106 (.cons (.idx (.var 0) (.int 1)) (.cons (.int 0) (.cons (.int 90) .nil)))))))) (.seq (.ret .ff)
    .skip) .skip)
    (.seq (.asg (.tup [1, 2]) (.var 0))
    (.seq (.ifs (.tnot (.tv (.b1 .all (.seq (.lc false [3] (.nm 3) (.seq (.var 1)) (.tv .tt) (.call 108 (.cons (.var 3) (.cons (.int 1) (.cons (.glb 1) .nil))))))))) (.seq (.ret .ff)
    .skip) .skip)
    (.seq (.ifs (.tnot (.tv (.b1 .all (.seq (.lc false [4] (.nm 4) (.seq (.var 2)) (.tv .tt) (.call 107 (.cons (.b1 .len (.seq (.var 1))) (.cons (.var 4) .nil)))))))) (.seq (.ret .ff)
    .skip) .skip)
    (.seq (.ifs (.tnot (.tv (.b1 .all (.seq (.lc false [5, 6] (.tup [5, 6]) (.zp (.var 2) (.sl (.var 2) (.seq (.int 1)) .nil)) (.tv .tt) (.cmp .lt (.var 5) (.var 6))))))) (.seq (.ret .ff)
    .skip) .skip)
    (.seq (.asg (.nm 7) (.call 153 (.cons (.b1 .len (.seq (.var 1))) (.cons (.var 2) .nil))))
    (.seq (.ret (.not (.b1 .any (.seq (.lc false [8] (.nm 8) (.rng1 (.b1 .len (.seq (.var 1)))) (.tv .tt) (.idx (.idx (.var 7) (.var 8)) (.var 8)))))))
    .skip)))))))⟩
/-- 102 -/
def md_is_lighter : MD := ⟨2, 7, true,
    (.seq (.ifs (.tor (.tv (.cmp .ne (.b1 .len (.seq (.idx (.var 0) (.int 0)))) (.b1 .len (.seq (.idx (.var 1) (.int 0)))))) (.tnot (.tv (.b1 .all (.seq (.lc false [2, 3] (.tup [2, 3]) (.zp (.idx (.var 0) (.int 0)) (.idx (.var 1) (.int 0))) (.tv .tt) (.cmp .le (.var 2) (.var 3)))))))) (.seq (.ret .ff)
    .skip) .skip)
    (.seq (.asg (.nm 4) (.call 153 (.cons (.b1 .len (.seq (.idx (.var 1) (.int 0)))) (.cons (.idx (.var 1) (.int 1)) .nil))))
    (.seq (.ret (.b1 .all (.seq (.lc false [5, 6] (.tup [5, 6]) (.seq (.idx (.var 0) (.int 1))) (.tv .tt) (.idx (.idx (.var 4) (.var 5)) (.var 6))))))
    .skip)))⟩
/-- 103 -/
def md_is_order : MD := ⟨2, 2, true,
    (.seq (.expr (.call 136 (.cons (.var 0) .nil)))
    (.seq (.ret (.call 99 (.cons (.var 0) (.cons (.var 1) .nil))))
    .skip))⟩
/-- 104 -/
def md_is_plain : MD := ⟨1, 2, true,
    (.seq (.expr (.call 136 (.cons (.var 0) .nil)))
    (.seq (.ret (.b1 .all (.seq (.lc false [1] (.nm 1) (.seq (.idx (.var 0) (.int 0))) (.tv .tt) (.cmp .eq (.var 1) (.int 1))))))
    .skip))⟩
/-- 105 -/
def md_is_plan : MD := ⟨3, 3, true,
    (.seq (.expr (.call 136 (.cons (.var 0) .nil)))
    (.seq (.expr (.call 131 (.cons (.var 1) .nil)))
    (.seq (.ret (.call 100 (.cons (.var 0) (.cons (.var 1) (.cons (.var 2) .nil)))))
    .skip)))⟩
/-- 106 -/
def md_is_row : MD := ⟨3, 3, true,
    (.seq (.ret (.and (.isi [.tuple] (.var 0)) (.cmp2 .le .le (.var 1) (.b1 .len (.seq (.var 0))) (.var 2))))
    .skip)⟩
/-- 107 -/
def md_is_two : MD := ⟨2, 3, true,
    (.seq (.ifs (.tor (.tnot (.tv (.call 106 (.cons (.var 1) (.cons (.int 2) (.cons (.int 2) .nil)))))) (.tnot (.tv (.b1 .all (.seq (.lc false [2] (.nm 2) (.seq (.var 1)) (.tv .tt) (.call 108 (.cons (.var 2) (.cons (.int 0) (.cons (.bin .sub (.var 0) (.int 1)) .nil)))))))))) (.seq (.ret .ff)
    .skip) .skip)
    (.seq (.ret (.cmp .ne (.idx (.var 1) (.int 0)) (.idx (.var 1) (.int 1))))
    .skip))⟩
/-- 108 -/
def md_is_whole : MD := ⟨3, 3, true,
    (.seq (.ret (.and (.isi [.int] (.var 0)) (.and (.not (.isi [.bool] (.var 0))) (.cmp2 .le .le (.var 1) (.var 0) (.var 2)))))
    .skip)⟩
/-- 109 -/
def md_is_work : MD := ⟨1, 1, true,
    (.seq (.ret (.call 101 (.cons (.var 0) .nil)))
    .skip)⟩
/-- 110 -/
def md_jumps : MD := ⟨4, 7, true,
    (.seq (.expr (.call 128 (.cons (.var 0) (.cons (.var 1) (.cons (.var 2) .nil)))))
    (.seq (.expr (.call 135 (.cons (.var 0) (.cons (.var 3) .nil))))
    (.seq (.ret (.lc false [4, 5, 6] (.tup [4, 5, 6]) (.seq (.call 151 (.cons (.var 0) (.cons (.var 1) (.cons (.var 2) (.cons (.var 3) .nil)))))) (.tv (.cmp .gt (.var 6) (.bin .add (.var 5) (.int 1)))) (.var 4)))
    .skip)))⟩
/-- 111 -/
def md_labels_of : MD := ⟨1, 9, true,
    (.seq (.asg (.tup [1, 2]) (.tup (.cons (.b1 .len (.seq (.idx (.var 0) (.int 0)))) (.cons .dnew .nil))))
    (.seq (.asg (.nm 4) (.lc false [3] (.nm 3) (.rng1 (.var 1)) (.tv .tt) (.call 71 (.cons (.var 0) (.cons (.var 3) .nil)))))
    (.seq (.fors (.nm 5) (.rng2 (.int 1) (.bin .add (.var 1) (.int 1))) (.seq (.asg (.nm 6) (.lst true .nil))
    (.seq (.fors (.nm 3) (.rng1 (.var 1)) (.seq (.ifs (.tand (.tv (.cmp .notin (.var 3) (.var 2))) (.tv (.b1 .all (.seq (.lc false [7] (.nm 7) (.seq (.idx (.var 4) (.var 3))) (.tv .tt) (.cmp .isin (.var 7) (.var 2))))))) (.seq (.asg (.nm 8) (.b1 .sorted (.seq (.lc false [7] (.nm 7) (.seq (.idx (.var 4) (.var 3))) (.tv .tt) (.idx (.var 2) (.var 7))))))
    (.seq (.expr (.app (.var 6) (.tup (.cons (.b1 .tuple (.seq (.rev (.var 8)))) (.cons (.neg (.var 3)) .nil)))))
    .skip)) .skip)
    .skip))
    (.seq (.sub (.var 2) (.neg (.idx (.b1 .min (.seq (.var 6))) (.int 1))) (.var 5))
    .skip))))
    (.seq (.ret (.var 2))
    .skip))))⟩
abbrev lp_labels_of_0 : MS := (.seq (.ifs (.tand (.tv (.cmp .notin (.var 3) (.var 2))) (.tv (.b1 .all (.seq (.lc false [7] (.nm 7) (.seq (.idx (.var 4) (.var 3))) (.tv .tt) (.cmp .isin (.var 7) (.var 2))))))) (.seq (.asg (.nm 8) (.b1 .sorted (.seq (.lc false [7] (.nm 7) (.seq (.idx (.var 4) (.var 3))) (.tv .tt) (.idx (.var 2) (.var 7))))))
    (.seq (.expr (.app (.var 6) (.tup (.cons (.b1 .tuple (.seq (.rev (.var 8)))) (.cons (.neg (.var 3)) .nil)))))
    .skip)) .skip)
    .skip)
abbrev lp_labels_of_1 : MS := (.seq (.asg (.nm 6) (.lst true .nil))
    (.seq (.fors (.nm 3) (.rng1 (.var 1)) (.seq (.ifs (.tand (.tv (.cmp .notin (.var 3) (.var 2))) (.tv (.b1 .all (.seq (.lc false [7] (.nm 7) (.seq (.idx (.var 4) (.var 3))) (.tv .tt) (.cmp .isin (.var 7) (.var 2))))))) (.seq (.asg (.nm 8) (.b1 .sorted (.seq (.lc false [7] (.nm 7) (.seq (.idx (.var 4) (.var 3))) (.tv .tt) (.idx (.var 2) (.var 7))))))
    (.seq (.expr (.app (.var 6) (.tup (.cons (.b1 .tuple (.seq (.rev (.var 8)))) (.cons (.neg (.var 3)) .nil)))))
    .skip)) .skip)
    .skip))
    (.seq (.sub (.var 2) (.neg (.idx (.b1 .min (.seq (.var 6))) (.int 1))) (.var 5))
    .skip)))
/-- 113 -/
def md_later_if_shorter : MD := ⟨4, 11, true,
    (.seq (.expr (.call 128 (.cons (.var 0) (.cons (.var 1) (.cons (.var 2) .nil)))))
    (.seq (.expr (.call 135 (.cons (.var 0) (.cons (.var 3) .nil))))
    (.seq (.par [4, 5] (.cons (.call 84 (.cons (.var 0) (.cons (.var 1) (.cons (.var 2) .nil)))) (.cons .non .nil)))
    (.seq (.fors (.tup [6, 7, 8, 9]) (.seq (.call 141 (.cons (.var 0) (.cons (.var 1) (.cons (.var 2) (.cons (.var 3) .nil)))))) (.seq (.asg (.nm 10) (.min2 (.var 7) (.bin .sub (.idx (.idx (.var 0) (.int 0)) (.var 3)) (.int 1))))
    (.seq (.ifs (.tand (.tv (.cmp .le (.var 6) (.var 10))) (.tv (.cmp .gt (.bin .add (.var 8) (.bin .mul (.var 9) (.bin .sub (.var 10) (.var 6)))) (.var 4)))) (.seq (.asg (.nm 5) (.var 10))
    .skip) .skip)
    .skip)))
    (.seq (.ret (.var 5))
    .skip)))))⟩
abbrev lp_later_if_shorter_0 : MS := (.seq (.asg (.nm 10) (.min2 (.var 7) (.bin .sub (.idx (.idx (.var 0) (.int 0)) (.var 3)) (.int 1))))
    (.seq (.ifs (.tand (.tv (.cmp .le (.var 6) (.var 10))) (.tv (.cmp .gt (.bin .add (.var 8) (.bin .mul (.var 9) (.bin .sub (.var 10) (.var 6)))) (.var 4)))) (.seq (.asg (.nm 5) (.var 10))
    .skip) .skip)
    .skip))
/-- 114 -/
def md_later_with : MD := ⟨5, 6, true,
    (.seq (.expr (.call 128 (.cons (.var 0) (.cons (.var 1) (.cons (.var 2) .nil)))))
    (.seq (.expr (.call 135 (.cons (.var 0) (.cons (.var 3) .nil))))
    (.seq (.expr (.call 135 (.cons (.var 0) (.cons (.var 4) .nil))))
    (.seq (.asg (.nm 5) (.tup (.cons (.idx (.var 0) (.int 0)) (.cons (.b1 .tuple (.seq (.b1 .sortSet (.seq (.bin .add (.b1 (.list false) (.seq (.idx (.var 0) (.int 1)))) (.lst false (.cons (.tup (.cons (.var 3) (.cons (.var 4) .nil))) .nil))))))) .nil))))
    (.seq (.ifs (.tnot (.tv (.call 101 (.cons (.var 5) .nil)))) (.seq (.raise 9 .nil)
    .skip) .skip)
    (.seq (.ret (.cmp .gt (.call 84 (.cons (.var 5) (.cons (.var 1) (.cons (.var 2) .nil)))) (.call 84 (.cons (.var 0) (.cons (.var 1) (.cons (.var 2) .nil))))))
    .skip))))))⟩
/-- 115 -/
def md_later_without : MD := ⟨3, 8, true,
    (.seq (.expr (.call 128 (.cons (.var 0) (.cons (.var 1) (.cons (.var 2) .nil)))))
    (.seq (.asg (.tup [3, 4]) (.var 0))
    (.seq (.par [5, 6] (.cons (.call 84 (.cons (.var 0) (.cons (.var 1) (.cons (.var 2) .nil)))) (.cons (.lst true .nil) .nil)))
    (.seq (.fors (.nm 7) (.rng1 (.b1 .len (.seq (.var 4)))) (.seq (.ifs (.tv (.cmp .gt (.call 84 (.cons (.tup (.cons (.var 3) (.cons (.bin .add (.sl (.var 4) .nil (.seq (.var 7))) (.sl (.var 4) (.seq (.bin .add (.var 7) (.int 1))) .nil)) .nil))) (.cons (.var 1) (.cons (.var 2) .nil)))) (.var 5))) (.seq (.expr (.app (.var 6) (.var 7)))
    .skip) .skip)
    .skip))
    (.seq (.ret (.var 6))
    .skip)))))⟩
abbrev lp_later_without_0 : MS := (.seq (.ifs (.tv (.cmp .gt (.call 84 (.cons (.tup (.cons (.var 3) (.cons (.bin .add (.sl (.var 4) .nil (.seq (.var 7))) (.sl (.var 4) (.seq (.bin .add (.var 7) (.int 1))) .nil)) .nil))) (.cons (.var 1) (.cons (.var 2) .nil)))) (.var 5))) (.seq (.expr (.app (.var 6) (.var 7)))
    .skip) .skip)
    .skip)
/-- 116 -/
def md_least_bound : MD := ⟨2, 2, true,
    (.seq (.ret (.max2 (.b1 .max (.seq (.call 120 (.cons (.var 0) .nil)))) (.bin .fdiv (.bin .sub (.bin .add (.b1 .sum (.seq (.idx (.var 0) (.int 0)))) (.var 1)) (.int 1)) (.var 1))))
    .skip)⟩
/-- 117 -/
def md_led : MD := ⟨5, 11, true,
    (.seq (.asg (.nm 5) (.idx (.var 0) (.int 0)))
    (.seq (.asg (.nm 6) .dnew)
    (.seq (.fors (.tup [7, 8]) (.enm (.var 3)) (.seq (.ifs (.tv (.cmp .isnot (.var 8) .non)) (.seq (.sub (.var 6) (.var 7) (.var 8))
    .skip) .skip)
    .skip))
    (.seq (.whl (.tv .tt) (.seq (.asg (.nm 9) (.bin .sub (.var 1) (.b1 .len (.seq (.lc false [7] (.nm 7) (.seq (.var 6)) (.tv (.cmp .gt (.bin .add (.idx (.var 6) (.var 7)) (.idx (.var 5) (.var 7))) (.var 4))) (.var 7))))))
    (.seq (.fors (.nm 7) (.seq (.var 2)) (.seq (.ifs (.tand (.tv (.cmp .gt (.var 9) (.int 0))) (.tand (.tv (.cmp .notin (.var 7) (.var 6))) (.tv (.call 98 (.cons (.var 0) (.cons (.var 6) (.cons (.var 4) (.cons (.var 7) .nil)))))))) (.seq (.sub (.var 6) (.var 7) (.var 4))
    (.seq (.asg (.nm 9) (.bin .sub (.var 9) (.int 1)))
    .skip)) .skip)
    .skip))
    (.seq (.asg (.nm 10) (.lc false [7] (.nm 7) (.seq (.var 6)) (.tv (.cmp .gt (.bin .add (.idx (.var 6) (.var 7)) (.idx (.var 5) (.var 7))) (.var 4))) (.bin .add (.idx (.var 6) (.var 7)) (.idx (.var 5) (.var 7)))))
    (.seq (.ifs (.tv (.cmp .eq (.var 10) (.lst false .nil))) (.seq (.ret (.tup (.cons (.b1 .tuple (.seq (.lc false [7] (.nm 7) (.rng1 (.b1 .len (.seq (.var 5)))) (.tv .tt) (.idx (.var 6) (.var 7))))) (.cons (.var 4) .nil))))
    .skip) .skip)
    (.seq (.asg (.nm 4) (.b1 .min (.seq (.var 10))))
    .skip))))))
    .skip))))⟩
abbrev lp_led_0 : MS := (.seq (.ifs (.tand (.tv (.cmp .gt (.var 9) (.int 0))) (.tand (.tv (.cmp .notin (.var 7) (.var 6))) (.tv (.call 98 (.cons (.var 0) (.cons (.var 6) (.cons (.var 4) (.cons (.var 7) .nil)))))))) (.seq (.sub (.var 6) (.var 7) (.var 4))
    (.seq (.asg (.nm 9) (.bin .sub (.var 9) (.int 1)))
    .skip)) .skip)
    .skip)
abbrev lp_led_1 : MS := (.seq (.asg (.nm 9) (.bin .sub (.var 1) (.b1 .len (.seq (.lc false [7] (.nm 7) (.seq (.var 6)) (.tv (.cmp .gt (.bin .add (.idx (.var 6) (.var 7)) (.idx (.var 5) (.var 7))) (.var 4))) (.var 7))))))
    (.seq (.fors (.nm 7) (.seq (.var 2)) (.seq (.ifs (.tand (.tv (.cmp .gt (.var 9) (.int 0))) (.tand (.tv (.cmp .notin (.var 7) (.var 6))) (.tv (.call 98 (.cons (.var 0) (.cons (.var 6) (.cons (.var 4) (.cons (.var 7) .nil)))))))) (.seq (.sub (.var 6) (.var 7) (.var 4))
    (.seq (.asg (.nm 9) (.bin .sub (.var 9) (.int 1)))
    .skip)) .skip)
    .skip))
    (.seq (.asg (.nm 10) (.lc false [7] (.nm 7) (.seq (.var 6)) (.tv (.cmp .gt (.bin .add (.idx (.var 6) (.var 7)) (.idx (.var 5) (.var 7))) (.var 4))) (.bin .add (.idx (.var 6) (.var 7)) (.idx (.var 5) (.var 7)))))
    (.seq (.ifs (.tv (.cmp .eq (.var 10) (.lst false .nil))) (.seq (.ret (.tup (.cons (.b1 .tuple (.seq (.lc false [7] (.nm 7) (.rng1 (.b1 .len (.seq (.var 5)))) (.tv .tt) (.idx (.var 6) (.var 7))))) (.cons (.var 4) .nil))))
    .skip) .skip)
    (.seq (.asg (.nm 4) (.b1 .min (.seq (.var 10))))
    .skip)))))
abbrev lp_led_2 : MS := (.seq (.ifs (.tv (.cmp .isnot (.var 8) .non)) (.seq (.sub (.var 6) (.var 7) (.var 8))
    .skip) .skip)
    .skip)
/-- 118 -/
def md_level_bound : MD := ⟨2, 8, true,
    (.seq (.expr (.call 136 (.cons (.var 0) .nil)))
    (.seq (.expr (.call 131 (.cons (.var 1) .nil)))
    (.seq (.expr (.call 134 (.cons (.var 0) .nil)))
    (.seq (.asg (.nm 2) (.call 120 (.cons (.var 0) .nil)))
    (.seq (.asg (.nm 3) (.lst true .nil))
    (.seq (.fors (.nm 4) (.rng1 (.b1 .max (.seq (.var 2)))) (.seq (.asg (.nm 6) (.b1 .len (.seq (.lc false [5] (.nm 5) (.seq (.var 2)) (.tv (.cmp .gt (.var 5) (.var 4))) (.var 5)))))
    (.seq (.expr (.app (.var 3) (.tup (.cons (.bin .add (.var 4) (.bin .fdiv (.bin .sub (.bin .add (.var 6) (.var 1)) (.int 1)) (.var 1))) (.cons (.neg (.var 4)) .nil)))))
    .skip)))
    (.seq (.asg (.tup [7, 4]) (.b1 .max (.seq (.var 3))))
    (.seq (.ret (.tup (.cons (.var 7) (.cons (.neg (.var 4)) .nil))))
    .skip))))))))⟩
abbrev lp_level_bound_0 : MS := (.seq (.asg (.nm 6) (.b1 .len (.seq (.lc false [5] (.nm 5) (.seq (.var 2)) (.tv (.cmp .gt (.var 5) (.var 4))) (.var 5)))))
    (.seq (.expr (.app (.var 3) (.tup (.cons (.bin .add (.var 4) (.bin .fdiv (.bin .sub (.bin .add (.var 6) (.var 1)) (.int 1)) (.var 1))) (.cons (.neg (.var 4)) .nil)))))
    .skip))
/-- 119 -/
def md_levels : MD := ⟨1, 1, true,
    (.seq (.expr (.call 136 (.cons (.var 0) .nil)))
    (.seq (.ret (.call 120 (.cons (.var 0) .nil)))
    .skip))⟩
/-- 120 -/
def md_levels_of : MD := ⟨1, 9, true,
    (.seq (.asg (.tup [1, 2]) (.var 0))
    (.seq (.asg (.nm 3) (.lmul false (.lst false (.cons (.int 0) .nil)) (.b1 .len (.seq (.var 1)))))
    (.seq (.fors (.nm 4) (.rng1 (.b1 .len (.seq (.var 1)))) (.seq (.asg (.nm 3) (.lc false [7, 8] (.tup [7, 8]) (.enm (.var 1)) (.tv .tt) (.bin .add (.var 8) (.b1 .max (.seq (.bin .add (.lst false (.cons (.int 0) .nil)) (.lc false [5, 6] (.tup [5, 6]) (.seq (.var 2)) (.tv (.cmp .eq (.var 5) (.var 7))) (.idx (.var 3) (.var 6)))))))))
    .skip))
    (.seq (.ret (.var 3))
    .skip))))⟩
abbrev lp_levels_of_0 : MS := (.seq (.asg (.nm 3) (.lc false [7, 8] (.tup [7, 8]) (.enm (.var 1)) (.tv .tt) (.bin .add (.var 8) (.b1 .max (.seq (.bin .add (.lst false (.cons (.int 0) .nil)) (.lc false [5, 6] (.tup [5, 6]) (.seq (.var 2)) (.tv (.cmp .eq (.var 5) (.var 7))) (.idx (.var 3) (.var 6)))))))))
    .skip)
/-- 121 -/
def md_lighter : MD := ⟨2, 2, true,
    (.seq (.expr (.call 136 (.cons (.var 0) .nil)))
    (.seq (.expr (.call 136 (.cons (.var 1) .nil)))
    (.seq (.ret (.call 102 (.cons (.var 0) (.cons (.var 1) .nil))))
    .skip)))⟩
/-- 122 -/
def md_lists_of : MD := ⟨1, 6, true,
    (.seq (.ifs (.tv (.cmp .eq (.b1 .len (.seq (.var 0))) (.int 0))) (.seq (.ret (.lst false (.cons (.tup .nil) .nil)))
    .skip) .skip)
    (.seq (.asg (.nm 1) (.lst false .nil))
    (.seq (.fors (.nm 2) (.seq (.var 0)) (.seq (.asg (.nm 4) (.lc false [3] (.nm 3) (.seq (.var 0)) (.tv (.cmp .ne (.var 3) (.var 2))) (.var 3)))
    (.seq (.asg (.nm 1) (.bin .add (.var 1) (.lc false [5] (.nm 5) (.seq (.call 122 (.cons (.var 4) .nil))) (.tv .tt) (.bin .add (.tup (.cons (.var 2) .nil)) (.var 5)))))
    .skip)))
    (.seq (.ret (.var 1))
    .skip))))⟩
abbrev lp_lists_of_0 : MS := (.seq (.asg (.nm 4) (.lc false [3] (.nm 3) (.seq (.var 0)) (.tv (.cmp .ne (.var 3) (.var 2))) (.var 3)))
    (.seq (.asg (.nm 1) (.bin .add (.var 1) (.lc false [5] (.nm 5) (.seq (.call 122 (.cons (.var 4) .nil))) (.tv .tt) (.bin .add (.tup (.cons (.var 2) .nil)) (.var 5)))))
    .skip))
/-- 123 -/
def md_lists_told : MD := ⟨3, 3, true,
    (.seq (.expr (.call 136 (.cons (.var 0) .nil)))
    (.seq (.expr (.call 131 (.cons (.var 1) .nil)))
    (.seq (.expr (.call 129 (.cons (.var 0) (.cons (.var 2) .nil))))
    (.seq (.expr (.call 130 (.cons (.var 0) (.cons (.glb 5) .nil))))
    (.seq (.ret (.call 156 (.cons (.var 0) (.cons (.var 1) (.cons (.var 2) .nil)))))
    .skip)))))⟩
/-- 124 -/
def md_longest_chain : MD := ⟨1, 6, true,
    (.seq (.expr (.call 136 (.cons (.var 0) .nil)))
    (.seq (.asg (.nm 1) (.call 120 (.cons (.var 0) .nil)))
    (.seq (.asg (.nm 2) (.tup (.cons (.index (.var 1) (.b1 .max (.seq (.var 1)))) .nil)))
    (.seq (.whl (.tv (.cmp .ne (.call 71 (.cons (.var 0) (.cons (.idx (.var 2) (.neg (.int 1))) .nil))) (.lst false .nil))) (.seq (.asg (.nm 3) (.call 71 (.cons (.var 0) (.cons (.idx (.var 2) (.neg (.int 1))) .nil))))
    (.seq (.asg (.nm 5) (.b1 .max (.seq (.lc false [4] (.nm 4) (.seq (.var 3)) (.tv .tt) (.idx (.var 1) (.var 4))))))
    (.seq (.asg (.nm 2) (.bin .add (.var 2) (.tup (.cons (.idx (.lc false [4] (.nm 4) (.seq (.var 3)) (.tv (.cmp .eq (.idx (.var 1) (.var 4)) (.var 5))) (.var 4)) (.int 0)) .nil))))
    .skip))))
    (.seq (.ret (.var 2))
    .skip)))))⟩
abbrev lp_longest_chain_0 : MS := (.seq (.asg (.nm 3) (.call 71 (.cons (.var 0) (.cons (.idx (.var 2) (.neg (.int 1))) .nil))))
    (.seq (.asg (.nm 5) (.b1 .max (.seq (.lc false [4] (.nm 4) (.seq (.var 3)) (.tv .tt) (.idx (.var 1) (.var 4))))))
    (.seq (.asg (.nm 2) (.bin .add (.var 2) (.tup (.cons (.idx (.lc false [4] (.nm 4) (.seq (.var 3)) (.tv (.cmp .eq (.idx (.var 1) (.var 4)) (.var 5))) (.var 4)) (.int 0)) .nil))))
    .skip)))
/-- 126 -/
def md_most_pairs : MD := ⟨1, 12, true,
    (.seq (.ifs (.tv (.cmp .eq (.var 0) (.lst false .nil))) (.seq (.ret (.tup .nil))
    .skip) .skip)
    (.seq (.asg (.tup [1, 2]) (.idx (.var 0) (.int 0)))
    (.seq (.asg (.nm 4) (.lc false [3] (.nm 3) (.seq (.sl (.var 0) (.seq (.int 1)) .nil)) (.tand (.tv (.cmp .notin (.var 1) (.var 3))) (.tv (.cmp .notin (.var 2) (.var 3)))) (.var 3)))
    (.seq (.asg (.nm 5) (.bin .add (.tup (.cons (.tup (.cons (.var 1) (.cons (.var 2) .nil))) .nil)) (.call 126 (.cons (.var 4) .nil))))
    (.seq (.asg (.nm 6) (.lc false [3] (.nm 3) (.seq (.var 0)) (.tv (.cmp .notin (.var 1) (.var 3))) (.var 3)))
    (.seq (.asg (.nm 7) (.call 126 (.cons (.var 6) .nil)))
    (.seq (.asg (.nm 8) (.lc false [3] (.nm 3) (.seq (.sl (.var 0) (.seq (.int 1)) .nil)) (.tv (.cmp .isin (.var 1) (.var 3))) (.var 3)))
    (.seq (.fors (.nm 3) (.seq (.var 8)) (.seq (.asg (.nm 10) (.lc false [9] (.nm 9) (.seq (.var 0)) (.tand (.tv (.cmp .notin (.idx (.var 3) (.int 0)) (.var 9))) (.tv (.cmp .notin (.idx (.var 3) (.int 1)) (.var 9)))) (.var 9)))
    (.seq (.asg (.nm 11) (.bin .add (.tup (.cons (.var 3) .nil)) (.call 126 (.cons (.var 10) .nil))))
    (.seq (.asg (.nm 5) (.ite (.tv (.cmp .gt (.b1 .len (.seq (.var 11))) (.b1 .len (.seq (.var 5))))) (.var 11) (.var 5)))
    .skip))))
    (.seq (.ret (.ite (.tv (.cmp .gt (.b1 .len (.seq (.var 7))) (.b1 .len (.seq (.var 5))))) (.var 7) (.var 5)))
    .skip)))))))))⟩
abbrev lp_most_pairs_0 : MS := (.seq (.asg (.nm 10) (.lc false [9] (.nm 9) (.seq (.var 0)) (.tand (.tv (.cmp .notin (.idx (.var 3) (.int 0)) (.var 9))) (.tv (.cmp .notin (.idx (.var 3) (.int 1)) (.var 9)))) (.var 9)))
    (.seq (.asg (.nm 11) (.bin .add (.tup (.cons (.var 3) .nil)) (.call 126 (.cons (.var 10) .nil))))
    (.seq (.asg (.nm 5) (.ite (.tv (.cmp .gt (.b1 .len (.seq (.var 11))) (.b1 .len (.seq (.var 5))))) (.var 11) (.var 5)))
    .skip)))
/-- 127 -/
def md_most_share : MD := ⟨2, 2, true,
    (.seq (.expr (.call 131 (.cons (.var 0) .nil)))
    (.seq (.expr (.call 131 (.cons (.var 1) .nil)))
    (.seq (.ret (.call 90 (.cons (.bin .sub (.bin .add (.var 1) (.var 0)) (.int 1)) (.cons (.var 1) .nil))))
    .skip)))⟩
/-- 128 -/
def md_need_all : MD := ⟨3, 3, true,
    (.seq (.expr (.call 136 (.cons (.var 0) .nil)))
    (.seq (.expr (.call 131 (.cons (.var 1) .nil)))
    (.seq (.expr (.call 133 (.cons (.var 0) (.cons (.var 2) .nil))))
    .skip)))⟩
/-- 129 -/
def md_need_facts : MD := ⟨2, 5, true,
    (.seq (.ifs (.tor (.tnot (.tv (.call 106 (.cons (.var 1) (.cons (.int 0) (.cons (.int 6) .nil)))))) (.tnot (.tv (.b1 .all (.seq (.lc false [2] (.nm 2) (.seq (.var 1)) (.tv .tt) (.call 106 (.cons (.var 2) (.cons (.int 2) (.cons (.int 2) .nil)))))))))) (.seq (.raise 6 .nil)
    .skip) .skip)
    (.seq (.fors (.tup [3, 4]) (.seq (.var 1)) (.seq (.ifs (.tor (.tnot (.tv (.call 108 (.cons (.var 3) (.cons (.int 0) (.cons (.bin .sub (.b1 .len (.seq (.idx (.var 0) (.int 0)))) (.int 1)) .nil)))))) (.tnot (.tv (.call 108 (.cons (.var 4) (.cons (.int 0) (.cons (.glb 3) .nil))))))) (.seq (.raise 6 .nil)
    .skip) .skip)
    .skip))
    .skip))⟩
abbrev lp_need_facts_0 : MS := (.seq (.ifs (.tor (.tnot (.tv (.call 108 (.cons (.var 3) (.cons (.int 0) (.cons (.bin .sub (.b1 .len (.seq (.idx (.var 0) (.int 0)))) (.int 1)) .nil)))))) (.tnot (.tv (.call 108 (.cons (.var 4) (.cons (.int 0) (.cons (.glb 3) .nil))))))) (.seq (.raise 6 .nil)
    .skip) .skip)
    .skip)
/-- 131 -/
def md_need_hands : MD := ⟨1, 1, true,
    (.seq (.ifs (.tnot (.tv (.call 108 (.cons (.var 0) (.cons (.int 1) (.cons (.int 10) .nil)))))) (.seq (.raise 3 .nil)
    .skip) .skip)
    .skip)⟩
/-- 133 -/
def md_need_order : MD := ⟨2, 2, true,
    (.seq (.ifs (.tnot (.tv (.call 99 (.cons (.var 0) (.cons (.var 1) .nil))))) (.seq (.raise 4 .nil)
    .skip) .skip)
    .skip)⟩
/-- 134 -/
def md_need_plain : MD := ⟨1, 2, true,
    (.seq (.ifs (.tnot (.tv (.b1 .all (.seq (.lc false [1] (.nm 1) (.seq (.idx (.var 0) (.int 0))) (.tv .tt) (.cmp .eq (.var 1) (.int 1))))))) (.seq (.raise 8 .nil)
    .skip) .skip)
    .skip)⟩
/-- 135 -/
def md_need_task : MD := ⟨2, 2, true,
    (.seq (.ifs (.tnot (.tv (.call 108 (.cons (.var 1) (.cons (.int 0) (.cons (.bin .sub (.b1 .len (.seq (.idx (.var 0) (.int 0)))) (.int 1)) .nil)))))) (.seq (.raise 2 .nil)
    .skip) .skip)
    .skip)⟩
/-- 136 -/
def md_need_work : MD := ⟨1, 1, true,
    (.seq (.ifs (.tnot (.tv (.call 101 (.cons (.var 0) .nil)))) (.seq (.raise 1 .nil)
    .skip) .skip)
    .skip)⟩
/-- 137 -/
def md_next_behind : MD := ⟨2, 2, true,
    (.seq (.expr (.call 136 (.cons (.var 0) .nil)))
    (.seq (.expr (.call 135 (.cons (.var 0) (.cons (.var 1) .nil))))
    (.seq (.ret (.call 71 (.cons (.var 0) (.cons (.var 1) .nil))))
    .skip)))⟩
/-- 138 -/
def md_number_of : MD := ⟨1, 2, true,
    (.seq (.ifs (.tor (.tv (.cmp .eq (.var 0) (.str ""))) (.tor (.tv (.cmp .gt (.b1 .len (.seq (.var 0))) (.int 31))) (.tnot (.tv (.b1 .all (.seq (.lc false [1] (.nm 1) (.seq (.var 0)) (.tv .tt) (.cmp .isin (.var 1) (.str "0123456789"))))))))) (.seq (.ret .non)
    .skip) .skip)
    (.seq (.ret (.b1 .int (.seq (.var 0))))
    .skip))⟩
/-- 140 -/
def md_pairs_at_once : MD := ⟨1, 1, true,
    (.seq (.expr (.call 136 (.cons (.var 0) .nil)))
    (.seq (.expr (.call 134 (.cons (.var 0) .nil)))
    (.seq (.ret (.b1 .tuple (.seq (.b1 .sorted (.seq (.call 126 (.cons (.call 91 (.cons (.var 0) .nil)) .nil)))))))
    .skip)))⟩
/-- 142 -/
def md_plan_by : MD := ⟨3, 4, true,
    (.seq (.expr (.call 136 (.cons (.var 0) .nil)))
    (.seq (.expr (.call 131 (.cons (.var 1) .nil)))
    (.seq (.ifs (.tnot (.tv (.call 108 (.cons (.var 2) (.cons (.int 0) (.cons (.glb 3) .nil)))))) (.seq (.raise 5 .nil)
    .skip) .skip)
    (.seq (.expr (.call 130 (.cons (.var 0) (.cons (.glb 2) .nil))))
    (.seq (.asg (.nm 3) (.call 76 (.cons (.var 0) (.cons (.var 1) .nil))))
    (.seq (.ret (.ite (.tv (.cmp .le (.call 143 (.cons (.var 0) (.cons (.var 3) .nil))) (.var 2))) (.var 3) .non))
    .skip))))))⟩
/-- 143 -/
def md_plan_end : MD := ⟨2, 4, true,
    (.seq (.ret (.b1 .max (.seq (.lc false [2, 3] (.tup [2, 3]) (.zp (.var 1) (.idx (.var 0) (.int 0))) (.tv .tt) (.bin .add (.var 2) (.var 3))))))
    .skip)⟩
/-- 145 -/
def md_rows_of : MD := ⟨2, 3, true,
    (.seq (.expr (.call 136 (.cons (.var 0) .nil)))
    (.seq (.expr (.call 131 (.cons (.var 1) .nil)))
    (.seq (.expr (.call 130 (.cons (.var 0) (.cons (.glb 4) .nil))))
    (.seq (.ret (.lc false [2] (.nm 2) (.seq (.call 122 (.cons (.b1 (.list false) (.rng1 (.b1 .len (.seq (.idx (.var 0) (.int 0)))))) .nil))) (.tv .tt) (.tup (.cons (.call 84 (.cons (.var 0) (.cons (.var 1) (.cons (.var 2) .nil)))) (.cons (.var 2) .nil)))))
    .skip))))⟩
/-- 146 -/
def md_run : MD := ⟨3, 3, true,
    (.seq (.expr (.call 128 (.cons (.var 0) (.cons (.var 1) (.cons (.var 2) .nil)))))
    (.seq (.ret (.call 147 (.cons (.var 0) (.cons (.var 1) (.cons (.var 2) .nil)))))
    .skip))⟩
/-- 147 -/
def md_run_of : MD := ⟨3, 3, true,
    (.seq (.ret (.idx (.call 117 (.cons (.var 0) (.cons (.var 1) (.cons (.var 2) (.cons (.bin .mul (.tup (.cons .non .nil)) (.b1 .len (.seq (.idx (.var 0) (.int 0))))) (.cons (.int 0) .nil)))))) (.int 0)))
    .skip)⟩
/-- 148 -/
def md_running_at : MD := ⟨3, 6, true,
    (.seq (.asg (.nm 5) (.lc false [3, 4] (.tup [3, 4]) (.zp (.var 1) (.idx (.var 0) (.int 0))) (.tv (.cmp .isnot (.var 3) .non)) (.tup (.cons (.var 3) (.cons (.var 4) .nil)))))
    (.seq (.ret (.b1 .len (.seq (.lc false [3, 4] (.tup [3, 4]) (.seq (.var 5)) (.tv (.cmp2 .le .lt (.var 3) (.var 2) (.bin .add (.var 3) (.var 4)))) (.var 3)))))
    .skip))⟩
/-- 149 -/
def md_share : MD := ⟨3, 3, true,
    (.seq (.expr (.call 128 (.cons (.var 0) (.cons (.var 1) (.cons (.var 2) .nil)))))
    (.seq (.expr (.call 130 (.cons (.var 0) (.cons (.glb 2) .nil))))
    (.seq (.ret (.call 90 (.cons (.call 84 (.cons (.var 0) (.cons (.var 1) (.cons (.var 2) .nil)))) (.cons (.call 143 (.cons (.var 0) (.cons (.call 76 (.cons (.var 0) (.cons (.var 1) .nil))) .nil))) .nil))))
    .skip)))⟩
/-- 150 -/
def md_slopes_of : MD := ⟨3, 10, true,
    (.seq (.asg (.nm 3) (.idx (.var 0) (.int 0)))
    (.seq (.asg (.nm 4) .dnew)
    (.seq (.fors (.tup [5, 6]) (.seq (.b1 .sorted (.seq (.lc false [6, 5] (.tup [6, 5]) (.enm (.var 1)) (.tv .tt) (.tup (.cons (.var 5) (.cons (.var 6) .nil))))))) (.seq (.asg (.nm 8) (.lc false [7] (.nm 7) (.seq (.var 4)) (.tv (.cmp .eq (.bin .add (.idx (.var 1) (.var 7)) (.idx (.var 3) (.var 7))) (.var 5))) (.idx (.var 4) (.var 7))))
    (.seq (.asg (.nm 9) (.ite (.tand (.tv (.cmp .gt (.var 5) (.int 0))) (.tv (.cmp .eq (.b1 .max (.seq (.var 8))) (.int 1)))) (.int 1) (.int 0)))
    (.seq (.sub (.var 4) (.var 6) (.ite (.tv (.cmp .eq (.var 6) (.var 2))) (.int 1) (.var 9)))
    .skip))))
    (.seq (.ret (.lc false [6] (.nm 6) (.rng1 (.b1 .len (.seq (.var 3)))) (.tv .tt) (.idx (.var 4) (.var 6))))
    .skip))))⟩
abbrev lp_slopes_of_0 : MS := (.seq (.asg (.nm 8) (.lc false [7] (.nm 7) (.seq (.var 4)) (.tv (.cmp .eq (.bin .add (.idx (.var 1) (.var 7)) (.idx (.var 3) (.var 7))) (.var 5))) (.idx (.var 4) (.var 7))))
    (.seq (.asg (.nm 9) (.ite (.tand (.tv (.cmp .gt (.var 5) (.int 0))) (.tv (.cmp .eq (.b1 .max (.seq (.var 8))) (.int 1)))) (.int 1) (.int 0)))
    (.seq (.sub (.var 4) (.var 6) (.ite (.tv (.cmp .eq (.var 6) (.var 2))) (.int 1) (.var 9)))
    .skip)))
/-- 151 -/
def md_steps_of : MD := ⟨4, 12, true,
    (.seq (.par [4, 5] (.cons (.call 141 (.cons (.var 0) (.cons (.var 1) (.cons (.var 2) (.cons (.var 3) .nil))))) (.cons (.lst true .nil) .nil)))
    (.seq (.fors (.tup [6, 7]) (.zp (.var 4) (.sl (.var 4) (.seq (.int 1)) .nil)) (.seq (.asg (.tup [8, 9, 10, 11]) (.var 6))
    (.seq (.expr (.app (.var 5) (.tup (.cons (.idx (.var 7) (.int 0)) (.cons (.bin .add (.var 10) (.bin .mul (.var 11) (.bin .sub (.var 9) (.var 8)))) (.cons (.idx (.var 7) (.int 2)) .nil))))))
    .skip)))
    (.seq (.ret (.var 5))
    .skip)))⟩
abbrev lp_steps_of_0 : MS := (.seq (.asg (.tup [8, 9, 10, 11]) (.var 6))
    (.seq (.expr (.app (.var 5) (.tup (.cons (.idx (.var 7) (.int 0)) (.cons (.bin .add (.var 10) (.bin .mul (.var 11) (.bin .sub (.var 9) (.var 8)))) (.cons (.idx (.var 7) (.int 2)) .nil))))))
    .skip))
/-- 153 -/
def md_table_of : MD := ⟨2, 10, true,
    (.seq (.asg (.nm 4) (.lc false [3] (.nm 3) (.rng1 (.var 0)) (.tv .tt) (.lc false [2] (.nm 2) (.rng1 (.var 0)) (.tv .tt) (.cmp .isin (.tup (.cons (.var 3) (.cons (.var 2) .nil))) (.var 1)))))
    (.seq (.fors (.nm 5) (.rng1 (.var 0)) (.seq (.asg (.nm 6) (.idx (.var 4) (.var 5)))
    (.seq (.asg (.nm 4) (.lc false [9] (.nm 9) (.seq (.var 4)) (.tv .tt) (.lc false [7, 8] (.tup [7, 8]) (.zp (.var 9) (.var 6)) (.tv .tt) (.or (.var 7) (.and (.idx (.var 9) (.var 5)) (.var 8))))))
    .skip)))
    (.seq (.ret (.var 4))
    .skip)))⟩
abbrev lp_table_of_0 : MS := (.seq (.asg (.nm 6) (.idx (.var 4) (.var 5)))
    (.seq (.asg (.nm 4) (.lc false [9] (.nm 9) (.seq (.var 4)) (.tv .tt) (.lc false [7, 8] (.tup [7, 8]) (.zp (.var 9) (.var 6)) (.tv .tt) (.or (.var 7) (.and (.idx (.var 9) (.var 5)) (.var 8))))))
    .skip))
/-- 155 -/
def md_tight : MD := ⟨1, 2, true,
    (.seq (.ifs (.tnot (.tv (.call 108 (.cons (.var 0) (.cons (.int 1) (.cons (.int 3) .nil)))))) (.seq (.raise 3 .nil)
    .skip) .skip)
    (.seq (.asg (.nm 1) (.bin .mul (.var 0) (.bin .sub (.var 0) (.int 1))))
    (.seq (.ret (.tup (.cons (.tup (.cons (.bin .add (.bin .mul (.tup (.cons (.int 1) .nil)) (.var 1)) (.tup (.cons (.var 0) .nil))) (.cons (.tup .nil) .nil))) (.cons (.b1 .tuple (.rng1 (.bin .add (.var 1) (.int 1)))) .nil))))
    .skip)))⟩
/-- 156 -/
def md_told_lists : MD := ⟨3, 5, true,
    (.seq (.asg (.nm 3) (.call 122 (.cons (.b1 (.list false) (.rng1 (.b1 .len (.seq (.idx (.var 0) (.int 0)))))) .nil)))
    (.seq (.ret (.lc false [4] (.nm 4) (.seq (.var 3)) (.tv (.call 92 (.cons (.call 147 (.cons (.var 0) (.cons (.var 1) (.cons (.var 4) .nil)))) (.cons (.var 2) .nil)))) (.var 4)))
    .skip))⟩
/-- 158 -/
def md_with_time : MD := ⟨3, 5, true,
    (.seq (.asg (.tup [3, 4]) (.var 0))
    (.seq (.ret (.tup (.cons (.bin .add (.bin .add (.sl (.var 3) .nil (.seq (.var 1))) (.tup (.cons (.var 2) .nil))) (.sl (.var 3) (.seq (.bin .add (.var 1) (.int 1))) .nil)) (.cons (.var 4) .nil))))
    .skip))⟩
/-- 161 -/
def md_work_text : MD := ⟨1, 1, true,
    (.seq (.expr (.call 136 (.cons (.var 0) .nil)))
    (.seq (.ret (.call 154 (.cons (.var 0) .nil)))
    .skip))⟩
/-- 162 -/
def md_worst_list : MD := ⟨2, 6, true,
    (.seq (.asg (.nm 2) (.call 145 (.cons (.var 0) (.cons (.var 1) .nil))))
    (.seq (.asg (.nm 5) (.b1 .max (.seq (.lc false [3, 4] (.tup [3, 4]) (.seq (.var 2)) (.tv .tt) (.var 3)))))
    (.seq (.ret (.idx (.lc false [3, 4] (.tup [3, 4]) (.seq (.var 2)) (.tv (.cmp .eq (.var 3) (.var 5))) (.var 4)) (.int 0)))
    .skip)))⟩
end Com

-- Q1
set_option autoImplicit false
set_option linter.all false
set_option Elab.async false
/-! plain, part 1: how M computes, for simp -/
namespace Q
open PySem MM
/-- def number i of a program -/
class Has (P : Nat → Option MD) (i : Nat) (m : outParam MD) : Prop where
  eq : P i = some m
class HasG (G : Nat → Option Int) (i : Nat) (v : outParam Int) : Prop where
  eq : G i = some v
section
variable {P : Nat → Option MD} {L : Nat → Option ME} {G : Nat → Option Int}
theorem fn_eq {f : Nat} {md : MD} [hp : Has P f md] {d : Nat} {K : List (Option MSt)} {vs : List MV} {h : MH} (hl : vs.length = md.np) : (callM P L G (d + 1)).fn f K vs h = gc md.fz K.length h (evS (callM P L G d) K md.body (startM vs md.ns) h) := by
  show (match P f with | some md => if vs.length = md.np then gc md.fz K.length h (evS (callM P L G d) K md.body (startM vs md.ns) h) else .bad | none => .bad) = _
  rw [hp.eq]
  simp only [hl, if_true]
/-- a call whose body computes purely a plain value -/
theorem fn_pure {f : Nat} {md : MD} [hp : Has P f md] {d : Nat} {K : List (Option MSt)} {vs : List MV} {v : MV} (hl : vs.length = md.np) (hv : v.plain = true)
    (e : evS (callM P L G d) K md.body (startM vs md.ns) = M.pure (.rt v)) : (callM P L G (d + 1)).fn f K vs = M.pure v := by
  funext h
  rw [fn_eq hl, e]
  simp only [gc, M.pure, hv, if_true, List.take_length]
theorem fn_none {f : Nat} {md : MD} [hp : Has P f md] {d : Nat} {K : List (Option MSt)} {vs : List MV} {σ : MSt} (hl : vs.length = md.np)
    (e : evS (callM P L G d) K md.body (startM vs md.ns) = M.pure (.nx σ)) : (callM P L G (d + 1)).fn f K vs = M.pure .none := by
  funext h
  rw [fn_eq hl, e]
  simp only [gc, M.pure, List.take_length]
end
@[simp] theorem bindP {α β : Type} (a : α) (f : α → M β) : M.bind (M.pure a) f = f a := (rfl)
@[simp] theorem bindB {α β : Type} (f : α → M β) : M.bind bad f = bad := (rfl)
@[simp] theorem opt_some {α : Type} (a : α) : opt (some a) = M.pure a := (rfl)
@[simp] theorem pureEq {α : Type} (a : α) : (Pure.pure a : M α) = M.pure a := (rfl)
@[simp] theorem bindEq {α β : Type} (m : M α) (f : α → M β) : (m >>= f) = M.bind m f := (rfl)
@[simp] theorem noexc_pure {α : Type} (a : α) : noexc (M.pure a) = M.pure a := (rfl)
theorem bind_ite {α β : Type} (c : Prop) [Decidable c] (a b : M α) (f : α → M β) : M.bind (if c then a else b) f = if c then M.bind a f else M.bind b f := by split <;> rfl
@[simp] theorem iteP {α : Type} (c : Prop) [Decidable c] (a b : α) : (if c then M.pure a else M.pure b) = M.pure (if c then a else b) := by split <;> rfl
@[congr] theorem bind_congr {α β : Type} {m m' : M α} (f : α → M β) (h : m = m') : M.bind m f = M.bind m' f := by rw [h]
theorem bind_of {α β : Type} {m : M α} {a : α} {f : α → M β} {r : M β} (e : m = M.pure a) (h : f a = r) : M.bind m f = r := by rw [e, bindP, h]
/-- with a heap -/
theorem bindO {α β : Type} {m : M α} {a : α} {f : α → M β} {h h' : MH} {r : Res β} (e : m h = .ok a h') (k : f a h' = r) : M.bind m f h = r := by simp only [M.bind, e, k]

/-! ### expressions -/
section
variable {c : Cfg} {K : List (Option MSt)} {top : Bool} {σ : MSt}
def andK (m : M MV) : MV → M MV
  | .bool b => if b = true then m else M.pure (.bool false)
  | _ => bad
def orK (m : M MV) : MV → M MV
  | .bool b => if b = true then M.pure (.bool true) else m
  | _ => bad
@[simp] theorem andK_bool (m : M MV) (b : Bool) : andK m (.bool b) = if b = true then m else M.pure (.bool false) := (rfl)
@[simp] theorem orK_bool (m : M MV) (b : Bool) : orK m (.bool b) = if b = true then M.pure (.bool true) else m := (rfl)
theorem ev_and (a b : ME) : evE c K top (.and a b) σ = M.bind (evE c K top a σ) (andK (evE c K top b σ)) := by
  rw [evE]
  congr 1
  funext v
  unfold andK
  cases v <;> try rfl
  rename_i b; cases b <;> rfl
theorem ev_or (a b : ME) : evE c K top (.or a b) σ = M.bind (evE c K top a σ) (orK (evE c K top b σ)) := by
  rw [evE]
  congr 1
  funext v
  unfold orK
  cases v <;> try rfl
  rename_i b; cases b <;> rfl
def negK : MV → M MV
  | .int i => M.pure (.int (-i))
  | _ => bad
@[simp] theorem negK_int (i : Int) : negK (.int i) = M.pure (.int (-i)) := (rfl)
theorem ev_neg (a : ME) : evE c K top (.neg a) σ = M.bind (evE c K top a σ) negK := by
  rw [evE]
  congr 1
/-- slots -/
def slot (σ : MSt) (i : Nat) : M MV := opt (σ[i]?.join)
theorem ev_var (i : Nat) : evE c K top (.var i) σ = slot σ i := by rw [evE]; rfl
@[simp] theorem slot0 (v : MV) (σ : MSt) : slot (some v :: σ) 0 = M.pure v := (rfl)
@[simp] theorem slotS (o : Option MV) (σ : MSt) (i : Nat) : slot (o :: σ) (i + 1) = slot σ i := by simp [slot]
/-- comprehensions -/
def fmM {α β : Type} (f : α → M (Option β)) : List α → M (List β)
  | [] => M.pure []
  | x :: xs => M.bind (f x) fun
    | some y => M.bind (fmM f xs) fun ys => M.pure (y :: ys)
    | none => fmM f xs
def lcL {α : Type} (mu : Bool) (f : α → M (Option MV)) (xs : List α) : M MV := M.bind (noexc (fmM f xs)) fun ys => if ys.length ≤ cap then mkList mu ys else bad
def lcI (mu : Bool) (f : MV → M (Option MV)) (v : MV) : M MV := M.bind (opt (items v)) fun xs => lcL mu f xs
def lcB (c : Cfg) (K : List (Option MSt)) (tg : MT) (t elt : ME) (σ : MSt) (x : MV) : M (Option MV) := M.bind (bindM tg x σ) fun τ => M.bind (evT c K false t τ) fun b => if b = true then M.bind (evE c K false elt τ) fun y => M.pure (some y) else M.pure none
theorem M.bind_assoc {α β γ : Type} (m : M α) (f : α → M β) (k : β → M γ) : M.bind (M.bind m f) k = M.bind m fun a => M.bind (f a) k := by
  funext h
  unfold M.bind
  cases m h <;> rfl
theorem lcF_eq (tg : MT) (t elt : ME) : ∀ xs : List MV, lcF (bindM tg) (fun τ => evT c K false t τ) (fun τ => evE c K false elt τ) σ xs = fmM (lcB c K tg t elt σ) xs
  | [] => rfl
  | v :: vs => by
    rw [lcF, fmM, lcF_eq tg t elt vs]
    unfold lcB
    rw [M.bind_assoc]
    congr 1
    funext τ
    rw [M.bind_assoc]
    congr 1
    funext b
    rw [bind_ite, M.bind_assoc]
    rfl
theorem ev_lc (mu : Bool) (own : List Nat) (tg : MT) (it t elt : ME) : evE c K top (.lc mu own tg it t elt) σ = M.bind (evI c K top it σ) (lcI mu (lcB c K tg t elt (wipeM σ own))) := by
  rw [evE]
  congr 1
  funext v
  unfold lcI lcL
  congr 1
  funext xs
  rw [lcF_eq]
def fm2 (c : Cfg) (K : List (Option MSt)) (own1 : List Nat) (tg1 : MT) (it1 t elt : ME) (τ : MSt) : M MV :=
  M.bind (evI c K false it1 τ) fun v1 => M.bind (opt (items v1)) fun xs1 => M.bind (fmM (lcB c K tg1 t elt (wipeM τ own1)) xs1) fun ys => M.pure (.list ys)
end
@[simp] theorem lcI_list {α : Type} (mu : Bool) (f : MV → M (Option MV)) (xs : List α) (e : α → MV) : lcI mu f (.list (xs.map e)) = lcL mu (fun a => f (e a)) xs := by
  show lcL mu f (xs.map e) = _
  unfold lcL
  congr 2
  induction xs with
  | nil => rfl
  | cons x r ih => simp only [List.map_cons, fmM, ih]
@[simp] theorem lcI_tup {α : Type} (mu : Bool) (f : MV → M (Option MV)) (xs : List α) (e : α → MV) : lcI mu f (.tuple (xs.map e)) = lcL mu (fun a => f (e a)) xs := lcI_list mu f xs e
@[congr] theorem lcL_congr {α : Type} {mu : Bool} {f f' : α → M (Option MV)} {xs : List α} (h : ∀ a, a ∈ xs → f a = f' a) : lcL mu f xs = lcL mu f' xs := by
  unfold lcL
  congr 2
  induction xs with
  | nil => rfl
  | cons x r ih => simp only [fmM, h x List.mem_cons_self, ih fun a ha => h a (List.mem_cons_of_mem _ ha)]
theorem fmM_map {α β : Type} (y : α → β) : ∀ xs : List α, fmM (fun a => M.pure (some (y a))) xs = M.pure (xs.map y)
  | [] => rfl
  | x :: r => by rw [fmM, bindP]; show M.bind (fmM _ r) _ = _; rw [fmM_map y r]; rfl
theorem fmM_filter {α β : Type} (p : α → Prop) [∀ a, Decidable (p a)] (y : α → β) : ∀ xs : List α, fmM (fun a => M.pure (if p a then some (y a) else none)) xs = M.pure ((xs.filter fun a => decide (p a)).map y)
  | [] => rfl
  | x :: r => by
    rw [fmM, bindP]
    by_cases h : p x
    · rw [List.filter_cons_of_pos (by simpa using h), if_pos h]
      show M.bind (fmM _ r) _ = _
      rw [fmM_filter p y r]; rfl
    · rw [List.filter_cons_of_neg (by simpa using h), if_neg h]
      exact fmM_filter p y r
@[simp] theorem mkList_ff (xs : List MV) : mkList false xs = M.pure (.list xs) := (rfl)
@[congr] theorem fmM_congr {α β : Type} {f : α → M (Option β)} {xs ys : List α} (h : xs = ys) : fmM f xs = fmM f ys := by rw [h]
def optK {β : Type} (m : M (List β)) : Option β → M (List β)
  | some y => M.bind m fun ys => M.pure (y :: ys)
  | none => m
@[simp] theorem optK_some {β : Type} (m : M (List β)) (y : β) : optK m (some y) = M.bind m fun ys => M.pure (y :: ys) := (rfl)
@[simp] theorem optK_none {β : Type} (m : M (List β)) : optK m none = m := (rfl)
@[simp] theorem fmM_nil {α β : Type} (f : α → M (Option β)) : fmM f [] = M.pure [] := (rfl)
@[simp] theorem fmM_cons {α β : Type} (f : α → M (Option β)) (x : α) (xs : List α) : fmM f (x :: xs) = M.bind (f x) (optK (fmM f xs)) := by
  rw [fmM]
  congr 1
@[simp] theorem optK_ite {β : Type} (m : M (List β)) (c : Prop) [Decidable c] (y : β) : optK m (if c then some y else none) = M.bind m fun ys => M.pure (if c then y :: ys else ys) := by
  split
  · rfl
  · funext h
    show m h = _
    unfold M.bind
    cases m h <;> rfl
/-- short enough -/
def Sh {α : Type} (xs : List α) : Prop := xs.length ≤ cap
theorem lc_map {α : Type} (y : α → MV) (xs : List α) (h : Sh xs) : lcL false (fun a => M.pure (some (y a))) xs = M.pure (.list (xs.map y)) := by
  unfold lcL
  rw [fmM_map, noexc_pure, bindP, if_pos (by rw [List.length_map]; exact h), mkList_ff]
theorem lc_filter {α : Type} (p : α → Prop) [∀ a, Decidable (p a)] (y : α → MV) (xs : List α) (h : Sh xs) : lcL false (fun a => M.pure (if p a then some (y a) else none)) xs = M.pure (.list ((xs.filter fun a => decide (p a)).map y)) := by
  unfold lcL
  rw [fmM_filter, noexc_pure, bindP, if_pos (by rw [List.length_map]; exact Nat.le_trans (List.length_filter_le _ _) h), mkList_ff]
theorem lcm_map {α : Type} (y : α → MV) (xs : List α) (h : Sh xs) (hp : PyData.plainAll (xs.map y) = true) (H : MH) : lcL true (fun a => M.pure (some (y a))) xs H = .ok (rf H.length) (H ++ [.lst (xs.map y)]) := by
  unfold lcL
  rw [fmM_map, noexc_pure, bindP, if_pos (by rw [List.length_map]; exact h)]
  simp only [mkList, if_true, hp]
@[congr] theorem loopF_congr {body : MV → MSt → M Fl} {xs ys : List MV} {σ : MSt} (h : xs = ys) : loopF body xs σ = loopF body ys σ := by rw [h]
@[congr] theorem whileN_congr {t : MSt → M Bool} {body : MSt → M Fl} {n : Nat} {σ : MSt} : whileN t body n σ = whileN t body n σ := (rfl)
/-- a loop that computes purely -/
theorem loop_pure {α S : Type} (I : S → Prop) (encs : S → MSt) (encv : α → MV) (step : S → α → S) {body : MV → MSt → M Fl} :
    ∀ (xs : List α) (s : S), I s → (∀ a ∈ xs, ∀ s, I s → body (encv a) (encs s) = M.pure (.nx (encs (step s a))) ∧ I (step s a)) → loopF body (xs.map encv) (encs s) = M.pure (.nx (encs (xs.foldl step s)))
  | [], s, _, _ => rfl
  | x :: xs, s, hi, h => by
    obtain ⟨h1, h2⟩ := h x List.mem_cons_self s hi
    rw [List.map_cons, loopF, h1, bindP]
    exact loop_pure I encs encv step xs _ h2 fun a ha => h a (List.mem_cons_of_mem _ ha)
/-- a loop, by an invariant -/
theorem loop_inv {body : MV → MSt → M Fl} (xs : List MV) (I : Nat → MSt → MH → Prop) {σ : MSt} {h : MH} (h0 : I 0 σ h)
    (hs : ∀ (k : Nat) (x : MV) (σ : MSt) (h : MH), xs[k]? = some x → I k σ h → ∃ σ' h', body x σ h = .ok (.nx σ') h' ∧ I (k + 1) σ' h') :
    ∃ σ' h', loopF body xs σ h = .ok (.nx σ') h' ∧ I xs.length σ' h' := by
  induction xs generalizing I σ h with
  | nil => exact ⟨σ, h, rfl, h0⟩
  | cons x r ih =>
    obtain ⟨σ1, h1, e1, i1⟩ := hs 0 x σ h rfl h0
    obtain ⟨σ2, h2, e2, i2⟩ := ih (fun k => I (k + 1)) i1 (fun k y σ h hk hi => hs (k + 1) y σ h (by simpa using hk) hi)
    refine ⟨σ2, h2, ?_, i2⟩
    simp only [loopF, M.bind, e1]
    exact e2
def loopK (body : MV → MSt → M Fl) (vs : List MV) : Fl → M Fl
  | .nx σ => loopF body vs σ
  | .ct σ => loopF body vs σ
  | .bk σ => M.pure (.nx σ)
  | .rt r => M.pure (.rt r)
@[simp] theorem loopK_nx (body : MV → MSt → M Fl) (vs : List MV) (σ : MSt) : loopK body vs (.nx σ) = loopF body vs σ := (rfl)
@[simp] theorem loopK_rt (body : MV → MSt → M Fl) (vs : List MV) (v : MV) : loopK body vs (.rt v) = M.pure (.rt v) := (rfl)
@[simp] theorem loopF_nil (body : MV → MSt → M Fl) (σ : MSt) : loopF body [] σ = M.pure (.nx σ) := (rfl)
theorem loopF_cons (body : MV → MSt → M Fl) (v : MV) (vs : List MV) (σ : MSt) : loopF body (v :: vs) σ = M.bind (body v σ) (loopK body vs) := by
  rw [loopF]
  congr 1
/-! ### statements -/
section
variable {c : Cfg} {K : List (Option MSt)} {σ : MSt}
def seqK (m : MSt → M Fl) : Fl → M Fl
  | .nx σ => m σ
  | f => M.pure f
@[simp] theorem seqK_nx (m : MSt → M Fl) (σ : MSt) : seqK m (.nx σ) = m σ := (rfl)
@[simp] theorem seqK_rt (m : MSt → M Fl) (v : MV) : seqK m (.rt v) = M.pure (.rt v) := (rfl)
@[simp] theorem seqK_ite (m : MSt → M Fl) (p : Prop) [Decidable p] (a b : Fl) : seqK m (if p then a else b) = if p then seqK m a else seqK m b := by split <;> rfl
theorem ev_seq (a b : MS) : evS c K (.seq a b) σ = M.bind (evS c K a σ) (seqK (evS c K b)) := by
  rw [evS]
  congr 1
def forB (c : Cfg) (K : List (Option MSt)) (t : MT) (b : MS) (v : MV) (τ : MSt) : M Fl := M.bind (bindM t v τ) fun τ' => evS c K b τ'
def forK (c : Cfg) (K : List (Option MSt)) (t : MT) (b : MS) (σ : MSt) (v : MV) : M Fl := M.bind (opt (items v)) fun xs => loopF (forB c K t b) xs σ
@[simp] theorem forK_list (t : MT) (b : MS) (xs : List MV) : forK c K t b σ (.list xs) = loopF (forB c K t b) xs σ := (rfl)
@[simp] theorem forK_tup (t : MT) (b : MS) (xs : List MV) : forK c K t b σ (.tuple xs) = loopF (forB c K t b) xs σ := (rfl)
theorem ev_for (t : MT) (it : ME) (b : MS) : evS c K (.fors t it b) σ = M.bind (evI c K true it σ) (forK c K t b σ) := by
  rw [evS]
  rfl
def ifK (c : Cfg) (K : List (Option MSt)) (a b : MS) (σ : MSt) (r : Bool) : M Fl := if r = true then evS c K a σ else evS c K b σ
theorem ev_ifs (t : ME) (a b : MS) : evS c K (.ifs t a b) σ = M.bind (evT c K true t σ) fun r => if r = true then evS c K a σ else evS c K b σ := by
  rw [evS]
theorem ev_asg (t : MT) (e : ME) : evS c K (.asg t e) σ = M.bind (evE c K true e σ) fun v => M.bind (bindM t v σ) fun σ' => M.pure (.nx σ') := by rw [evS]
end
section
variable {c : Cfg} {K : List (Option MSt)} {top : Bool} {σ : MSt}
theorem ev_non : evE c K top .non σ = M.pure .none := by rw [evE]
theorem ev_tt : evE c K top .tt σ = M.pure (.bool true) := by rw [evE]
theorem ev_ff : evE c K top .ff σ = M.pure (.bool false) := by rw [evE]
theorem ev_int (i : Int) : evE c K top (.int i) σ = M.pure (.int i) := by rw [evE]
theorem ev_str (i : Str) : evE c K top (.str i) σ = M.pure (.str i) := by rw [evE]
theorem ev_glb (x : Nat) : evE c K top (.glb x) σ = opt ((c.gl x).map .int) := by rw [evE]
theorem ev_fnv (x : Nat) : evE c K top (.fnv x) σ = M.pure (fv x) := by rw [evE]
def shortK {α : Type} (f : List MV → M α) (vs : List MV) : M α := if vs.length ≤ cap then f vs else bad
@[simp] theorem shortK_le {α : Type} (f : List MV → M α) (vs : List MV) (h : vs.length ≤ 1000) : shortK f vs = f vs := if_pos (Nat.le_trans h (by decide))
@[simp] theorem lcI_cons (mu : Bool) (f : MV → M (Option MV)) (x : MV) (xs : List MV) : lcI mu f (.list (x :: xs)) = M.bind (noexc (fmM f (x :: xs))) (shortK (mkList mu)) := (rfl)
@[simp] theorem lcI_consT (mu : Bool) (f : MV → M (Option MV)) (x : MV) (xs : List MV) : lcI mu f (.tuple (x :: xs)) = M.bind (noexc (fmM f (x :: xs))) (shortK (mkList mu)) := (rfl)
@[simp] theorem lcI_nil (mu : Bool) (f : MV → M (Option MV)) : lcI mu f (.list []) = mkList mu [] := (rfl)
@[simp] theorem lcI_nilT (mu : Bool) (f : MV → M (Option MV)) : lcI mu f (.tuple []) = mkList mu [] := (rfl)
theorem ev_tup (as : ME) : evE c K top (.tup as) σ = M.bind (evA c K top as σ) (shortK fun vs => M.pure (.tuple vs)) := by rw [evE]; rfl
theorem ev_lst (mu : Bool) (as : ME) : evE c K top (.lst mu as) σ = M.bind (evA c K top as σ) (shortK (mkList mu)) := by rw [evE]; rfl
theorem ev_bin (op : BOp) (a b : ME) : evE c K top (.bin op a b) σ = M.bind (evE c K top a σ) fun x => M.bind (evE c K top b σ) fun y => binM op x y := by rw [evE]
theorem ev_lmul (mu : Bool) (a b : ME) : evE c K top (.lmul mu a b) σ = M.bind (evE c K top a σ) fun x => M.bind (evE c K top b σ) fun y => lmulM mu x y := by rw [evE]
theorem ev_not (a : ME) : evE c K top (.not a) σ = M.bind (evE c K top a σ) fun v => M.bind (truthM v) fun b => M.pure (.bool (!b)) := by rw [evE]
theorem ev_cmp (op : COp) (a b : ME) : evE c K top (.cmp op a b) σ = M.bind (evE c K top a σ) fun x => M.bind (evE c K top b σ) fun y => M.bind (cmpM op x y) fun r => M.pure (.bool r) := by rw [evE]
theorem ev_cmp2 (op op' : COp) (a b d : ME) : evE c K top (.cmp2 op op' a b d) σ = M.bind (evE c K top a σ) fun x => M.bind (evE c K top b σ) fun y => M.bind (cmpM op x y) fun r =>
      if r = true then M.bind (evE c K top d σ) fun z => M.bind (cmpM op' y z) fun r' => M.pure (.bool r') else M.pure (.bool false) := by rw [evE]
theorem ev_ite (t a b : ME) : evE c K top (.ite t a b) σ = M.bind (evT c K top t σ) fun r => if r = true then evE c K top a σ else evE c K top b σ := by rw [evE]
theorem ev_call (f : Nat) (as : ME) : evE c K top (.call f as) σ = M.bind (evA c K top as σ) fun vs => c.fn f (K ++ [if top then some σ else none]) vs := by rw [evE]
theorem ev_b1 (b : B1) (a : ME) : evE c K top (.b1 b a) σ = M.bind (evI c K top a σ) fun v => b1M b v := by rw [evE]
def max2K : MV → MV → M MV
  | .int i, .int j => M.pure (.int (if j > i then j else i))
  | _, _ => bad
def min2K : MV → MV → M MV
  | .int i, .int j => M.pure (.int (if j < i then j else i))
  | _, _ => bad
theorem max2_int (i j : Int) : max2K (.int i) (.int j) = M.pure (.int (max i j)) := by
  exact congrArg (fun x => M.pure (PyData.int x)) (by split <;> omega)
theorem min2_int (i j : Int) : min2K (.int i) (.int j) = M.pure (.int (min i j)) := by
  exact congrArg (fun x => M.pure (PyData.int x)) (by split <;> omega)
theorem ev_max2 (a b : ME) : evE c K top (.max2 a b) σ = M.bind (evE c K top a σ) fun x => M.bind (evE c K top b σ) fun y => max2K x y := by rw [evE]; rfl
theorem ev_min2 (a b : ME) : evE c K top (.min2 a b) σ = M.bind (evE c K top a σ) fun x => M.bind (evE c K top b σ) fun y => min2K x y := by rw [evE]; rfl
theorem ev_isi (ts : List Ty) (a : ME) : evE c K top (.isi ts a) σ = M.bind (evE c K top a σ) fun x => isiM ts x := by rw [evE]
theorem ev_idx (a b : ME) : evE c K top (.idx a b) σ = M.bind (evE c K top a σ) fun x => M.bind (evE c K top b σ) fun y => idxM x y := by rw [evE]
theorem ev_sl (a lo hi : ME) : evE c K top (.sl a lo hi) σ = M.bind (evE c K top a σ) fun x => M.bind (evP c K top lo σ) fun l => M.bind (evP c K top hi σ) fun u => slM x l u := by rw [evE]
theorem ev_rev (a : ME) : evE c K top (.rev a) σ = M.bind (evE c K top a σ) fun x => revM x := by rw [evE]
theorem ev_app (o a : ME) : evE c K top (.app o a) σ = M.bind (evE c K top o σ) fun x => M.bind (lstChk x) fun _ => M.bind (evE c K top a σ) fun y => appM x y := by rw [evE]
theorem ev_popAt (o a : ME) : evE c K top (.popAt o a) σ = M.bind (evE c K top o σ) fun x => M.bind (lstChk x) fun _ => M.bind (evE c K top a σ) fun y => popM x y := by rw [evE]
theorem ev_index (o a : ME) : evE c K top (.index o a) σ = M.bind (evE c K top o σ) fun x => M.bind (lstChk x) fun _ => M.bind (evE c K top a σ) fun y => indexM x y := by rw [evE]
theorem ev_count (o a : ME) : evE c K top (.count o a) σ = M.bind (evE c K top o σ) fun x => M.bind (lstChk x) fun _ => M.bind (evE c K top a σ) fun y => countM x y := by rw [evE]
theorem ev_dnew : evE c K top .dnew σ = fun h => .ok (rf h.length) (h ++ [.dct []]) := by rw [evE]
theorem ev_lam (i : Nat) : evE c K top (.lam i) σ = if top then M.pure (cl i K.length) else bad := by rw [evE]
theorem ev_inrg (neg : Bool) (a hi : ME) : evE c K top (.inrg neg a hi) σ = M.bind (evE c K top a σ) fun x => M.bind (evE c K top hi σ) fun y => inrM neg x y := by rw [evE]
def pK : MV → M (Option Int)
  | .int i => M.pure (some i)
  | _ => bad
@[simp] theorem pK_int (i : Int) : pK (.int i) = M.pure (some i) := (rfl)
theorem ev_pn : evP c K top .nil σ = M.pure none := by rw [evP]
theorem ev_ps (e : ME) : evP c K top (.seq e) σ = M.bind (evE c K top e σ) pK := by rw [evP]; rfl
theorem ev_skip : evS c K .skip σ = M.pure (.nx σ) := by rw [evS]
theorem ev_pass : evS c K .pass σ = M.pure (.nx σ) := by rw [evS]
theorem ev_par (is : List Nat) (as : ME) : evS c K (.par is as) σ = M.bind (evA c K true as σ) fun vs => if vs.length = is.length then M.pure (.nx (setAll σ is vs)) else bad := by rw [evS]
theorem ev_sub (o i e : ME) : evS c K (.sub o i e) σ = M.bind (evE c K true e σ) fun v => M.bind (evE c K true o σ) fun x => M.bind (evE c K true i σ) fun k => M.bind (putM x k v) fun _ => M.pure (.nx σ) := by rw [evS]
def whlK (c : Cfg) (K : List (Option MSt)) (t : ME) (b : MS) (σ : MSt) : M Fl := whileN (fun τ => evT c K true t τ) (fun τ => evS c K b τ) fuel σ
theorem ev_whl (t : ME) (b : MS) : evS c K (.whl t b) σ = whlK c K t b σ := by rw [evS]; rfl
theorem ev_ret (e : ME) : evS c K (.ret e) σ = M.bind (evE c K true e σ) fun v => M.pure (.rt v) := by rw [evS]
theorem ev_retN : evS c K .retN σ = M.pure (.rt .none) := by rw [evS]
def raiseK (k : Nat) (vs : List MV) : M Fl := fun h => match vs with
      | [] => .exc k 0 h
      | [.int n] => .exc k n h
      | _ => .bad
theorem ev_raise (k : Nat) (as : ME) : evS c K (.raise k as) σ = M.bind (evA c K true as σ) (raiseK k) := by rw [evS]; rfl
theorem ev_expr (e : ME) : evS c K (.expr e) σ = M.bind (evE c K true e σ) fun _ => M.pure (.nx σ) := by rw [evS]
end
end Q

-- Q2
set_option autoImplicit false
set_option linter.all false
set_option Elab.async false
/-! plain, part 2: values -/
namespace Q
open PySem MM
@[simp] theorem seqM_list (xs : List MV) : seqM (.list xs) = M.pure xs := (rfl)
@[simp] theorem seqM_tup (xs : List MV) : seqM (.tuple xs) = M.pure xs := (rfl)
@[simp] theorem truth_bool (b : Bool) : truthM (.bool b) = M.pure b := (rfl)
@[simp] theorem truth_list (xs : List MV) : truthM (.list xs) = M.pure (!xs.isEmpty) := (rfl)
@[simp] theorem truth_tup (xs : List MV) : truthM (.tuple xs) = M.pure (!xs.isEmpty) := (rfl)
@[simp] theorem truth_int (i : Int) : truthM (.int i) = M.pure (i != 0) := (rfl)
@[simp] theorem lt_int (i j : Int) : ltM (.int i) (.int j) = M.pure (decide (i < j)) := by
  unfold ltM
  rw [if_pos (by rfl)]
  exact congrArg M.pure (W.dataLt_int i j)
@[simp] theorem eqv_int (i j : Int) : PyData.eqv (.int i) (.int j) = decide (i = j) := by
  simp only [PyData.eqv]
  rw [Bool.eq_iff_iff]; simp
@[simp] theorem eq_int (i j : Int) : eqM (.int i) (.int j) = M.pure (decide (i = j)) := by
  unfold eqM
  rw [if_pos (by rfl), eqv_int]
@[simp] theorem eq_bool (i j : Bool) : eqM (.bool i) (.bool j) = M.pure (decide (i = j)) := by
  cases i <;> cases j <;> rfl
@[simp] theorem cmp_lt (a b : MV) : cmpM .lt a b = ltM a b := (rfl)
@[simp] theorem cmp_gt (a b : MV) : cmpM .gt a b = ltM b a := (rfl)
@[simp low] theorem cmp_le' (a b : MV) : cmpM .le a b = M.bind (ltM b a) fun r => M.pure (!r) := (rfl)
@[simp low] theorem cmp_ge' (a b : MV) : cmpM .ge a b = M.bind (ltM a b) fun r => M.pure (!r) := (rfl)
@[simp] theorem cmp_le (i j : Int) : cmpM .le (.int i) (.int j) = M.pure (decide (i ≤ j)) := by simp only [cmpM, lt_int, bindP]; exact congrArg M.pure (by rw [Bool.eq_iff_iff]; simp)
@[simp] theorem cmp_ge (i j : Int) : cmpM .ge (.int i) (.int j) = M.pure (decide (j ≤ i)) := by simp only [cmpM, lt_int, bindP]; exact congrArg M.pure (by rw [Bool.eq_iff_iff]; simp)
@[simp] theorem cmp_eq (a b : MV) : cmpM .eq a b = eqM a b := (rfl)
@[simp] theorem cmp_ne (a b : MV) : cmpM .ne a b = M.bind (eqM a b) fun r => M.pure (!r) := (rfl)
@[simp] theorem cmp_in (a b : MV) : cmpM .isin a b = inM a b := (rfl)
@[simp] theorem cmp_notin (a b : MV) : cmpM .notin a b = M.bind (inM a b) fun r => M.pure (!r) := (rfl)
@[simp] theorem cmp_is (a b : MV) : cmpM .is a b = isM a b := (rfl)
@[simp] theorem cmp_isnot (a b : MV) : cmpM .isnot a b = M.bind (isM a b) fun r => M.pure (!r) := (rfl)
@[simp] theorem is_none (a : MV) : isM a .none = M.pure (isNon a) := (rfl)
@[simp] theorem is_bool (a b : Bool) : isM (.bool a) (.bool b) = M.pure (decide (a = b)) := (rfl)
@[simp] theorem non_none : isNon .none = true := (rfl)
@[simp] theorem non_int (i : Int) : isNon (.int i) = false := (rfl)
@[simp] theorem non_bool (i : Bool) : isNon (.bool i) = false := (rfl)
@[simp] theorem non_tup (i : List MV) : isNon (.tuple i) = false := (rfl)
@[simp] theorem non_list (i : List MV) : isNon (.list i) = false := (rfl)
@[simp] theorem non_str (i : Str) : isNon (.str i) = false := (rfl)
@[simp] theorem bin_add (i j : Int) : binM .add (.int i) (.int j) = M.pure (.int (i + j)) := (rfl)
@[simp] theorem bin_sub (i j : Int) : binM .sub (.int i) (.int j) = M.pure (.int (i - j)) := (rfl)
@[simp] theorem len_list (xs : List MV) : b1M .len (.list xs) = M.pure (.int xs.length) := (rfl)
@[simp] theorem len_tup (xs : List MV) : b1M .len (.tuple xs) = M.pure (.int xs.length) := (rfl)
@[simp] theorem isi_int (ts : List Ty) (i : Int) : isiM ts (.int i) = M.pure (.bool (ts.any fun t => tyIs t (.int i))) := (rfl)
@[simp] theorem isi_bool (ts : List Ty) (i : Bool) : isiM ts (.bool i) = M.pure (.bool (ts.any fun t => tyIs t (.bool i))) := (rfl)
@[simp] theorem isi_tup (ts : List Ty) (xs : List MV) : isiM ts (.tuple xs) = M.pure (.bool (ts.any fun t => tyIs t (.tuple xs))) := (rfl)
@[simp] theorem isi_list (ts : List Ty) (xs : List MV) : isiM ts (.list xs) = M.pure (.bool (ts.any fun t => tyIs t (.list xs))) := (rfl)
@[simp] theorem isi_none (ts : List Ty) : isiM ts .none = M.pure (.bool (ts.any fun t => tyIs t .none)) := (rfl)
@[simp] theorem isi_str (ts : List Ty) (x : Str) : isiM ts (.str x) = M.pure (.bool (ts.any fun t => tyIs t (.str x))) := (rfl)
@[simp] theorem walk_list (xs : List MV) : walkM (.list xs) = M.pure xs := (rfl)
@[simp] theorem walk_tup (xs : List MV) : walkM (.tuple xs) = M.pure xs := (rfl)
@[simp] theorem items_list (xs : List MV) : items (.list xs) = some xs := (rfl)
@[simp] theorem items_tup (xs : List MV) : items (.tuple xs) = some xs := (rfl)
@[simp] theorem ite_int (c : Prop) [Decidable c] (a b : Int) : (if c then PyData.int a else PyData.int b) = .int (if c then a else b) := by split <;> rfl
@[simp] theorem ite_pbool (c : Prop) [Decidable c] (a b : Bool) : (if c then PyData.bool a else PyData.bool b) = .bool (if c then a else b) := by split <;> rfl
@[simp] theorem idx_list (xs : List MV) (i : Int) : idxM (.list xs) (.int i) = atM xs i := (rfl)
@[simp] theorem idx_tup (xs : List MV) (i : Int) : idxM (.tuple xs) (.int i) = atM xs i := (rfl)
theorem atM_nat {xs : List MV} {k : Nat} {v : MV} (h : xs[k]? = some v) : atM xs (k : Int) = M.pure v := by
  have hk : k < xs.length := (List.getElem?_eq_some_iff.mp h).1
  unfold atM ixOf
  rw [if_pos (by omega), if_pos (by omega)]
  simp [h]
@[simp] theorem at0 (x : MV) (xs : List MV) : atM (x :: xs) 0 = M.pure x := atM_nat (k := 0) rfl
@[simp] theorem at1 (x y : MV) (xs : List MV) : atM (x :: y :: xs) 1 = M.pure y := atM_nat (k := 1) rfl
@[simp] theorem at2 (x y z : MV) (xs : List MV) : atM (x :: y :: z :: xs) 2 = M.pure z := atM_nat (k := 2) rfl
@[simp] theorem at3 (x y z w : MV) (xs : List MV) : atM (x :: y :: z :: w :: xs) 3 = M.pure w := atM_nat (k := 3) rfl
@[simp] theorem rfOf_tup (xs : List MV) : rfOf (.tuple xs) = none := (rfl)
@[simp] theorem rfOf_list (xs : List MV) : rfOf (.list xs) = none := (rfl)
@[simp] theorem in_tup (a : MV) (xs : List MV) : inM a (.tuple xs) = inSeq a (.tuple xs) := (rfl)
@[simp] theorem in_list (a : MV) (xs : List MV) : inM a (.list xs) = inSeq a (.list xs) := (rfl)
/-! ### lists of one kind -/
theorem bools_of {α : Type} (p : α → Bool) (xs : List α) : boolsOf (xs.map fun a => .bool (p a)) = some (xs.map p) := by
  induction xs with
  | nil => rfl
  | cons x r ih => simp only [List.map_cons, boolsOf, ih, Option.map_some]
theorem ints_of {α : Type} (p : α → Int) (xs : List α) : intsOf (xs.map fun a => .int (p a)) = some (xs.map p) := by
  induction xs with
  | nil => rfl
  | cons x r ih => simp only [List.map_cons, intsOf, ih, Option.map_some]
@[simp] theorem all_map {α : Type} (p : α → Bool) (xs : List α) : b1M .all (.list (xs.map fun a => .bool (p a))) = M.pure (.bool (xs.all p)) := by
  simp [b1M, bools_of]
@[simp] theorem any_map {α : Type} (p : α → Bool) (xs : List α) : b1M .any (.list (xs.map fun a => .bool (p a))) = M.pure (.bool (xs.any p)) := by
  simp [b1M, bools_of]
@[simp] theorem sum_map {α : Type} (p : α → Int) (xs : List α) : b1M .sum (.list (xs.map fun a => .int (p a))) = M.pure (.int (xs.map p).sum) := by
  simp [b1M, ints_of]
@[simp] theorem sum_mapT {α : Type} (p : α → Int) (xs : List α) : b1M .sum (.tuple (xs.map fun a => .int (p a))) = M.pure (.int (xs.map p).sum) := by
  simp [b1M, ints_of]
@[simp] theorem plain_map {α : Type} (f : α → MV) (xs : List α) : PyData.plainAll (xs.map f) = xs.all fun a => (f a).plain := by
  induction xs with
  | nil => rfl
  | cons x r ih => simp only [List.map_cons, PyData.plainAll, ih, List.all_cons]
@[simp] theorem plain_list (xs : List MV) : (PyData.list xs).plain = PyData.plainAll xs := by simp [PyData.plain]
@[simp] theorem plain_tup (xs : List MV) : (PyData.tuple xs).plain = PyData.plainAll xs := by simp [PyData.plain]
@[simp] theorem plain_int (i : Int) : (PyData.int i).plain = true := by simp [PyData.plain]
@[simp] theorem plain_bool (i : Bool) : (PyData.bool i).plain = true := by simp [PyData.plain]
@[simp] theorem plain_none : (PyData.none).plain = true := by simp [PyData.plain]
@[simp] theorem plain_str (x : Str) : (PyData.str x).plain = true := by simp [PyData.plain]
@[simp] theorem plainAll_nil : PyData.plainAll [] = true := by simp [PyData.plainAll]
@[simp] theorem plainAll_cons (x : MV) (xs : List MV) : PyData.plainAll (x :: xs) = (x.plain && PyData.plainAll xs) := by simp [PyData.plainAll]
@[simp] theorem plainAll_append (xs ys : List MV) : PyData.plainAll (xs ++ ys) = (PyData.plainAll xs && PyData.plainAll ys) := by
  induction xs with
  | nil => rfl
  | cons x r ih => simp [ih, Bool.and_assoc]
/-- depth at most k -/
theorem depth_map_le {α : Type} (f : α → MV) (k : Nat) (hf : ∀ a, (f a).depth ≤ k) (xs : List α) : PyData.depthAll (xs.map f) ≤ k := by
  induction xs with
  | nil => simp [PyData.depthAll]
  | cons x r ih => simp only [List.map_cons, PyData.depthAll]; have := hf x; omega
theorem zipL_map {α β : Type} (f : α → MV) (g : β → MV) : ∀ (xs : List α) (ys : List β), zipL (xs.map f) (ys.map g) = (xs.zip ys).map fun p => .tuple [f p.1, g p.2]
  | [], _ => rfl
  | _ :: _, [] => rfl
  | x :: xs, y :: ys => by simp only [List.map_cons, zipL, List.zip_cons_cons, zipL_map f g xs ys]
@[simp] theorem zipL_same {α : Type} (f g : α → MV) : ∀ (xs : List α), zipL (xs.map f) (xs.map g) = xs.map fun p => .tuple [f p, g p]
  | [] => rfl
  | x :: xs => by simp only [List.map_cons, zipL, zipL_same f g xs]
@[simp] theorem all_nil : b1M .all (.list []) = M.pure (.bool true) := (rfl)
@[simp] theorem any_nil : b1M .any (.list []) = M.pure (.bool false) := (rfl)
theorem all_cons (p : Bool) (xs : List MV) {q : Bool} (h : b1M .all (.list xs) = M.pure (.bool q)) : b1M .all (.list (.bool p :: xs)) = M.pure (.bool (p && q)) := by
  simp only [b1M, seqM_list, bindEq, bindP, boolsOf] at h ⊢
  cases e : boolsOf xs with
  | none => rw [e] at h; exact absurd (congrFun h []) (by simp [opt, bad, M.bind, M.pure])
  | some bs =>
    rw [e] at h
    have := congrFun h []
    simp [M.pure] at this ⊢
    rw [this]
@[simp] theorem all_1 (p : Bool) : b1M .all (.list [.bool p]) = M.pure (.bool p) := by rw [all_cons p [] all_nil, Bool.and_true]
@[simp] theorem all_2 (p q : Bool) : b1M .all (.list [.bool p, .bool q]) = M.pure (.bool (p && q)) := by rw [all_cons p _ (all_1 q)]
/-! ### tasks -/
class Few (n : Nat) : Prop where
  le : n ≤ 10
class Short {α : Type} (xs : List α) : Prop where
  le : xs.length ≤ 1000
theorem sh {α : Type} (xs : List α) [h : Short xs] : Sh xs := Nat.le_trans h.le (by decide)
abbrev R (n : Nat) : List (Fin n) := List.finRange n
instance {n : Nat} [h : Few n] : Short (R n) := ⟨by rw [List.length_finRange]; exact Nat.le_trans h.le (by decide)⟩
instance {α : Type} {p : α → Bool} {xs : List α} [h : Short xs] : Short (xs.filter p) := ⟨Nat.le_trans (List.length_filter_le _ _) h.le⟩
instance {α β : Type} {f : α → β} {xs : List α} [h : Short xs] : Short (xs.map f) := ⟨by rw [List.length_map]; exact h.le⟩
instance {α β : Type} {xs : List α} {ys : List β} [h : Short xs] : Short (xs.zip ys) := ⟨by rw [List.length_zip]; exact Nat.le_trans (Nat.min_le_left _ _) h.le⟩
instance {α : Type} {k : Nat} {xs : List α} [h : Short xs] : Short (xs.drop k) := ⟨by rw [List.length_drop]; have := h.le; omega⟩
@[simp] theorem lc_map' {α : Type} (y : α → MV) (xs : List α) [h : Short xs] : lcL false (fun a => M.pure (some (y a))) xs = M.pure (.list (xs.map y)) := lc_map y xs (sh xs)
@[simp] theorem lc_filter' {α : Type} (p : α → Prop) [∀ a, Decidable (p a)] (y : α → MV) (xs : List α) [h : Short xs] : lcL false (fun a => M.pure (if p a then some (y a) else none)) xs = M.pure (.list ((xs.filter fun a => decide (p a)).map y)) := lc_filter p y xs (sh xs)
@[simp] theorem cast_fin {n : Nat} (i j : Fin n) : ((i.val : Nat) : Int) = ((j.val : Nat) : Int) ↔ i = j := by rw [Fin.ext_iff]; omega
instance {α : Type} {xs : List α} [h : Short xs] : Short xs.tail := ⟨by rw [List.length_tail]; have := h.le; omega⟩
abbrev fi {n : Nat} (i : Fin n) : MV := .int ((i.val : Nat) : Int)
abbrev fp {n : Nat} (p : Fin n × Fin n) : MV := .tuple [fi p.1, fi p.2]
abbrev fl {n : Nat} (t : Fin n → MV) : MV := .list ((R n).map t)
abbrev ft {n : Nat} (t : Fin n → MV) : MV := .tuple ((R n).map t)
/-- a work -/
abbrev wk {n : Nat} (t : Fin n → Int) (ns : List (Fin n × Fin n)) : MV := .tuple [ft fun i => .int (t i), .tuple (ns.map fp)]
@[simp] theorem rng_n {n : Nat} [h : Few n] : rngM (.int 0) (.int (n : Int)) = M.pure ((R n).map fi) := by
  have hn := h.le
  show (if (rngOk 0 n && decide (((n : Int) - 0).toNat ≤ cap)) = true then M.pure (rangeL 0 ((n : Int) - 0).toNat) else bad) = _
  have h3 : ((n : Int) - 0).toNat = n := by omega
  have h4 : n ≤ cap := by unfold cap; omega
  rw [if_pos (by rw [h3]; simp [rngOk, h4]; omega), h3]
  congr 1
  unfold rangeL
  apply List.ext_getElem <;> simp
theorem rng_nat (n : Nat) (hn : n ≤ 1000) : rngM (.int 0) (.int (n : Int)) = M.pure ((R n).map fi) := by
  show (if (rngOk 0 n && decide (((n : Int) - 0).toNat ≤ cap)) = true then M.pure (rangeL 0 ((n : Int) - 0).toNat) else bad) = _
  have h3 : ((n : Int) - 0).toNat = n := by omega
  have h4 : n ≤ cap := by unfold cap; omega
  rw [if_pos (by rw [h3]; simp [rngOk, h4]; omega), h3]
  congr 1
  unfold rangeL
  apply List.ext_getElem <;> simp
@[simp] theorem at_fin {n : Nat} (f : Fin n → MV) (i : Fin n) : atM ((R n).map f) ((i.val : Nat) : Int) = M.pure (f i) := atM_nat (by simp)
theorem mem_any_eq {α : Type} [DecidableEq α] (a : α) (xs : List α) [Decidable (a ∈ xs)] : (xs.any fun x => decide (x = a)) = decide (a ∈ xs) := by
  rw [Bool.eq_iff_iff]
  simp
theorem inSeq_map {α : Type} [DecidableEq α] (e : α → MV) (hp : ∀ a, (e a).plain = true) (hd : ∀ a, (e a).depth ≤ 10) (he : ∀ a b, PyData.eqv (e a) (e b) = decide (a = b)) (a : α) (xs : List α) [Decidable (a ∈ xs)] {b : MV} (hb : seqM b = M.pure (xs.map e)) : inSeq (e a) b = M.pure (decide (a ∈ xs)) := by
  unfold inSeq
  rw [hb]
  simp only [bindEq, bindP, plain_map, hp, List.all_eq_true, implies_true]
  have h1 := hd a
  rw [if_pos (by simp [hp]; omega), List.any_map]
  simp only [Function.comp_def, he, mem_any_eq]
theorem eqv_fi {n : Nat} (i j : Fin n) : PyData.eqv (fi i) (fi j) = decide (i = j) := by
  rw [eqv_int, Bool.eq_iff_iff]; simp
theorem eqv_fp {n : Nat} (p q : Fin n × Fin n) : PyData.eqv (fp p) (fp q) = decide (p = q) := by
  simp only [PyData.eqv, PyData.eqvAll]
  rw [Bool.eq_iff_iff]
  simp [Prod.ext_iff]
@[simp] theorem in_fis {n : Nat} (i : Fin n) (xs : List (Fin n)) : inSeq (.int ((i.val : Nat) : Int)) (.list (xs.map fi)) = M.pure (decide (i ∈ xs)) :=
  inSeq_map fi (fun _ => rfl) (fun _ => by simp [PyData.depth]) eqv_fi i xs rfl
@[simp] theorem in_fisT {n : Nat} (i : Fin n) (xs : List (Fin n)) : inSeq (.int ((i.val : Nat) : Int)) (.tuple (xs.map fi)) = M.pure (decide (i ∈ xs)) :=
  inSeq_map fi (fun _ => rfl) (fun _ => by simp [PyData.depth]) eqv_fi i xs rfl
@[simp] theorem in_fpsT {n : Nat} (i j : Fin n) (xs : List (Fin n × Fin n)) : inSeq (.tuple [.int ((i.val : Nat) : Int), .int ((j.val : Nat) : Int)]) (.tuple (xs.map fp)) = M.pure (decide ((i, j) ∈ xs)) :=
  inSeq_map fp (fun _ => by simp) (fun _ => by simp [PyData.depth, PyData.depthAll]) eqv_fp (i, j) xs rfl
@[simp] theorem in_fpsL {n : Nat} (i j : Fin n) (xs : List (Fin n × Fin n)) : inSeq (.tuple [.int ((i.val : Nat) : Int), .int ((j.val : Nat) : Int)]) (.list (xs.map fp)) = M.pure (decide ((i, j) ∈ xs)) :=
  inSeq_map fp (fun _ => by simp) (fun _ => by simp [PyData.depth, PyData.depthAll]) eqv_fp (i, j) xs rfl
@[simp] theorem in_ints (i : Int) (xs : List Int) : inSeq (.int i) (.list (xs.map .int)) = M.pure (decide (i ∈ xs)) :=
  inSeq_map .int (fun _ => rfl) (fun _ => by simp [PyData.depth]) eqv_int i xs rfl
theorem enumL_map {α : Type} (f : α → MV) : ∀ (xs : List α) (k : Nat), enumL k (xs.map f) = (xs.zipIdx k).map fun p => .tuple [.int p.2, f p.1]
  | [], _ => rfl
  | x :: xs, k => by simp only [List.map_cons, enumL, List.zipIdx_cons, enumL_map f xs]
@[simp] theorem enum_fin {n : Nat} (f : Fin n → MV) : enumL 0 ((R n).map f) = (R n).map fun i => .tuple [fi i, f i] := by
  rw [enumL_map]
  apply List.ext_getElem <;> simp
end Q

-- W1
set_option autoImplicit false
set_option linter.all false
set_option Elab.async false
set_option maxRecDepth 10000
namespace Q
open PySem MM Com
variable {P : Nat → Option MD} {L : Nat → Option ME} {G : Nat → Option Int} {d : Nat} {K : List (Option MSt)}
@[simp] theorem gl_cc (x : Nat) : (callM P L G d).gl x = G x := by cases d <;> rfl
@[simp] theorem foldl_fst {α S J : Type} (f : S → α → S) (g : S × J → α → J) (xs : List α) (s : S) (j : J) : (xs.foldl (fun s a => (f s.1 a, g s a)) (s, j)).1 = xs.foldl f s := by
  induction xs generalizing s j with
  | nil => rfl
  | cons x r ih => exact ih _ _
theorem is_whole_ok [Has P 108 md_is_whole] (v lo hi : Int) : (callM P L G (d + 1)).fn 108 K [.int v, .int lo, .int hi] = M.pure (.bool (decide (lo ≤ v ∧ v ≤ hi))) := by
  refine fn_pure rfl rfl ?_
  simp [ev_seq, ev_for, ev_ifs, ev_asg, ev_and, ev_or, ev_neg, ev_var, ev_lc, ev_non, ev_tt, ev_ff, ev_int, ev_str, ev_glb, ev_fnv, ev_tup, ev_lst, ev_bin, ev_lmul, ev_not, ev_cmp, ev_cmp2, ev_ite, ev_call, ev_b1, ev_max2, ev_min2, max2_int, min2_int, ev_isi, ev_idx, ev_sl, ev_rev, ev_app, ev_popAt, ev_index, ev_count, ev_dnew, ev_lam, ev_inrg, ev_pn, ev_ps, ev_skip, ev_pass, ev_par, ev_sub, ev_whl, ev_ret, ev_retN, ev_raise, ev_expr, evA, evI, evT, lcB, bindM, setAll, wipeM, bind_ite, startM, tyIs, md_is_whole]
theorem is_row_ok [Has P 106 md_is_row] (xs : List MV) (lo hi : Int) : (callM P L G (d + 1)).fn 106 K [.tuple xs, .int lo, .int hi] = M.pure (.bool (decide (lo ≤ xs.length ∧ (xs.length : Int) ≤ hi))) := by
  refine fn_pure rfl rfl ?_
  simp [ev_seq, ev_for, ev_ifs, ev_asg, ev_and, ev_or, ev_neg, ev_var, ev_lc, ev_non, ev_tt, ev_ff, ev_int, ev_str, ev_glb, ev_fnv, ev_tup, ev_lst, ev_bin, ev_lmul, ev_not, ev_cmp, ev_cmp2, ev_ite, ev_call, ev_b1, ev_max2, ev_min2, max2_int, min2_int, ev_isi, ev_idx, ev_sl, ev_rev, ev_app, ev_popAt, ev_index, ev_count, ev_dnew, ev_lam, ev_inrg, ev_pn, ev_ps, ev_skip, ev_pass, ev_par, ev_sub, ev_whl, ev_ret, ev_retN, ev_raise, ev_expr, evA, evI, evT, lcB, bindM, setAll, wipeM, bind_ite, startM, tyIs, md_is_row]
/-- tables, after so many middles -/
def tabK {n : Nat} (ns : List (Fin n × Fin n)) : List (Fin n) → Fin n → Fin n → Bool := fun ms => ms.foldl (fun t m i j => t i j || (t i m && t m j)) (fun i j => decide ((i, j) ∈ ns))
def tab {n : Nat} (ns : List (Fin n × Fin n)) : Fin n → Fin n → Bool := tabK ns (R n)
abbrev bt {n : Nat} (t : Fin n → Fin n → Bool) : MV := fl fun i => fl fun j => .bool (t i j)
theorem table_ok [Has P 153 md_table_of] {n : Nat} [Few n] (ns : List (Fin n × Fin n)) : (callM P L G (d + 1)).fn 153 K [.int n, .tuple (ns.map fp)] = M.pure (bt (tab ns)) := by
  refine fn_pure rfl (by simp) ?_
  simp [ev_seq, ev_for, ev_ifs, ev_asg, ev_and, ev_or, ev_neg, ev_var, ev_lc, ev_non, ev_tt, ev_ff, ev_int, ev_str, ev_glb, ev_fnv, ev_tup, ev_lst, ev_bin, ev_lmul, ev_not, ev_cmp, ev_cmp2, ev_ite, ev_call, ev_b1, ev_max2, ev_min2, max2_int, min2_int, ev_isi, ev_idx, ev_sl, ev_rev, ev_app, ev_popAt, ev_index, ev_count, ev_dnew, ev_lam, ev_inrg, ev_pn, ev_ps, ev_skip, ev_pass, ev_par, ev_sub, ev_whl, ev_ret, ev_retN, ev_raise, ev_expr, evA, evI, evT, lcB, bindM, setAll, wipeM, bind_ite, startM, tyIs, md_table_of]
  refine bind_of (loop_pure (fun _ => True) (fun s => [some (.int n), some (.tuple (ns.map fp)), none, none, some (bt s.1), s.2.1, s.2.2, none, none, none]) fi (fun s m => (fun i j => s.1 i j || (s.1 i m && s.1 m j), some (fi m), some (fl fun j => .bool (s.1 m j)))) (R n) (fun i j => decide ((i, j) ∈ ns), none, none) trivial ?_) ?_
  · intro m _ s _
    simp [ev_seq, ev_for, ev_ifs, ev_asg, ev_and, ev_or, ev_neg, ev_var, ev_lc, ev_non, ev_tt, ev_ff, ev_int, ev_str, ev_glb, ev_fnv, ev_tup, ev_lst, ev_bin, ev_lmul, ev_not, ev_cmp, ev_cmp2, ev_ite, ev_call, ev_b1, ev_max2, ev_min2, max2_int, min2_int, ev_isi, ev_idx, ev_sl, ev_rev, ev_app, ev_popAt, ev_index, ev_count, ev_dnew, ev_lam, ev_inrg, ev_pn, ev_ps, ev_skip, ev_pass, ev_par, ev_sub, ev_whl, ev_ret, ev_retN, ev_raise, ev_expr, evA, evI, evT, lcB, bindM, setAll, wipeM, bind_ite, startM, tyIs, forB]
  · simp [ev_seq, ev_for, ev_ifs, ev_asg, ev_and, ev_or, ev_neg, ev_var, ev_lc, ev_non, ev_tt, ev_ff, ev_int, ev_str, ev_glb, ev_fnv, ev_tup, ev_lst, ev_bin, ev_lmul, ev_not, ev_cmp, ev_cmp2, ev_ite, ev_call, ev_b1, ev_max2, ev_min2, max2_int, min2_int, ev_isi, ev_idx, ev_sl, ev_rev, ev_app, ev_popAt, ev_index, ev_count, ev_dnew, ev_lam, ev_inrg, ev_pn, ev_ps, ev_skip, ev_pass, ev_par, ev_sub, ev_whl, ev_ret, ev_retN, ev_raise, ev_expr, evA, evI, evT, lcB, bindM, setAll, wipeM, bind_ite, startM, tyIs]
    rw [foldl_fst (fun (t : Fin n → Fin n → Bool) m i j => t i j || (t i m && t m j)) (fun s m => (some (fi m), some (fl fun j => .bool (s.1 m j))))]
    rfl
/-- lexical order of needs -/
def ltP {n : Nat} (p q : Fin n × Fin n) : Bool := decide (p.1 < q.1 ∨ p.1 = q.1 ∧ p.2 < q.2)
@[simp] theorem lt_fp {n : Nat} (p q : Fin n × Fin n) : ltM (fp p) (fp q) = M.pure (ltP p q) := by
  unfold ltM
  rw [if_pos (by simp [W.alike, W.alikeAll, isNon, deepOk, PyData.depth, PyData.depthAll, PyData.plain, PyData.plainAll])]
  refine (congrArg M.pure (W.dataLt_ii _ _ _ _)).trans ?_
  unfold ltP
  congr 1
  rw [Bool.eq_iff_iff]
  simp [Fin.lt_def]
@[simp] theorem lt_fp' {n : Nat} (a b c e : Fin n) : ltM (.tuple [.int ((a.val : Nat) : Int), .int ((b.val : Nat) : Int)]) (.tuple [.int ((c.val : Nat) : Int), .int ((e.val : Nat) : Int)]) = M.pure (ltP (a, b) (c, e)) := lt_fp (a, b) (c, e)
theorem whole_fin [Has P 108 md_is_whole] {n : Nat} (i : Fin n) : (callM P L G (d + 1)).fn 108 K [fi i, .int 0, .int ((n : Int) - 1)] = M.pure (.bool true) := by
  rw [is_whole_ok]
  have := i.isLt
  congr 2
  rw [decide_eq_true_iff]
  omega
theorem two_ok [Has P 106 md_is_row] [Has P 107 md_is_two] [Has P 108 md_is_whole] {n : Nat} (p : Fin n × Fin n) : (callM P L G (d + 2)).fn 107 K [.int n, fp p] = M.pure (.bool (!decide (p.1 = p.2))) := by
  refine fn_pure rfl rfl ?_
  simp [ev_seq, ev_for, ev_ifs, ev_asg, ev_and, ev_or, ev_neg, ev_var, ev_lc, ev_non, ev_tt, ev_ff, ev_int, ev_str, ev_glb, ev_fnv, ev_tup, ev_lst, ev_bin, ev_lmul, ev_not, ev_cmp, ev_cmp2, ev_ite, ev_call, ev_b1, ev_max2, ev_min2, max2_int, min2_int, ev_isi, ev_idx, ev_sl, ev_rev, ev_app, ev_popAt, ev_index, ev_count, ev_dnew, ev_lam, ev_inrg, ev_pn, ev_ps, ev_skip, ev_pass, ev_par, ev_sub, ev_whl, ev_ret, ev_retN, ev_raise, ev_expr, evA, evI, evT, lcB, bindM, setAll, wipeM, bind_ite, startM, tyIs, md_is_two, is_row_ok, whole_fin]
abbrev MOST : Int := 1000000000000000000000000000000
theorem ltP_trans {n : Nat} {p q r : Fin n × Fin n} (a : ltP p q = true) (b : ltP q r = true) : ltP p r = true := by
  simp only [ltP, decide_eq_true_eq, Fin.lt_def, Fin.ext_iff] at a b ⊢
  omega
theorem zip_asc {n : Nat} : ∀ {ns : List (Fin n × Fin n)}, (∀ p ∈ ns.zip ns.tail, ltP p.1 p.2 = true) → ns.Pairwise fun p q => ltP p q = true
  | [], _ => List.Pairwise.nil
  | [a], _ => by simp
  | a :: b :: r, h => by
    have ih := zip_asc (ns := b :: r) fun p hp => h p (by simp only [List.tail_cons, List.zip_cons_cons] at hp ⊢; exact List.mem_cons_of_mem _ hp)
    refine List.pairwise_cons.mpr ⟨fun c hc => ?_, ih⟩
    have ab : ltP a b = true := h (a, b) (by simp)
    rcases List.mem_cons.mp hc with rfl | hc
    · exact ab
    · exact ltP_trans ab ((List.pairwise_cons.mp ih).1 c hc)
theorem asc_zip {n : Nat} : ∀ {ns : List (Fin n × Fin n)}, (ns.Pairwise fun p q => ltP p q = true) → ∀ p ∈ ns.zip ns.tail, ltP p.1 p.2 = true
  | [], _, p, hp => by simp at hp
  | [a], _, p, hp => by simp at hp
  | a :: b :: r, h, p, hp => by
    simp only [List.tail_cons, List.zip_cons_cons, List.mem_cons] at hp
    rcases hp with rfl | hp
    · exact (List.pairwise_cons.mp h).1 b List.mem_cons_self
    · exact asc_zip (ns := b :: r) (List.pairwise_cons.mp h).2 p hp
/-- a good work -/
structure GoodW {n : Nat} (t : Fin n → Int) (ns : List (Fin n × Fin n)) : Prop where
  pos : 1 ≤ n
  few : ns.length ≤ 90
  time : ∀ i, 1 ≤ t i ∧ t i ≤ MOST
  ne : ∀ p ∈ ns, p.1 ≠ p.2
  asc : ns.Pairwise fun p q => ltP p q = true
  free : ∀ i, tab ns i i = false
open Classical in
noncomputable instance {n : Nat} (t : Fin n → Int) (ns : List (Fin n × Fin n)) : Decidable (GoodW t ns) := propDecidable _
@[simp] theorem cut1 (xs : List MV) : cut xs (some 1) none = xs.drop 1 := by
  simp only [cut, sIx]
  rw [if_neg (by omega)]
  cases xs with
  | nil => rfl
  | cons x r =>
    have : min (1 : Int).toNat (x :: r).length = 1 := by simp
    rw [this]
    simp
@[simp] theorem sl_list (xs : List MV) (l u : Option Int) : slM (.list xs) l u = M.pure (.list (cut xs l u)) := (rfl)
@[simp] theorem sl_tup (xs : List MV) (l u : Option Int) : slM (.tuple xs) l u = M.pure (.tuple (cut xs l u)) := (rfl)
@[simp] theorem zipL_tail {α β : Type} (f : α → MV) (g : β → MV) (xs : List α) (ys : List β) : zipL (xs.map f) (ys.map g).tail = (xs.zip ys.tail).map fun p => .tuple [f p.1, g p.2] := by rw [← zipL_map, List.map_tail]
theorem good_ok [Has P 106 md_is_row] [Has P 107 md_is_two] [Has P 108 md_is_whole] [Has P 153 md_table_of] [Has P 101 md_is_good_work] [HasG G 0 10] [HasG G 1 MOST] {n : Nat} [Few n] (t : Fin n → Int) (ns : List (Fin n × Fin n)) [Short ns] : (callM P L G (d + 3)).fn 101 K [wk t ns] = M.pure (.bool (decide (GoodW t ns))) := by
  refine fn_pure rfl rfl ?_
  simp [ev_seq, ev_for, ev_ifs, ev_asg, ev_and, ev_or, ev_neg, ev_var, ev_lc, ev_non, ev_tt, ev_ff, ev_int, ev_str, ev_glb, ev_fnv, ev_tup, ev_lst, ev_bin, ev_lmul, ev_not, ev_cmp, ev_cmp2, ev_ite, ev_call, ev_b1, ev_max2, ev_min2, max2_int, min2_int, ev_isi, ev_idx, ev_sl, ev_rev, ev_app, ev_popAt, ev_index, ev_count, ev_dnew, ev_lam, ev_inrg, ev_pn, ev_ps, ev_skip, ev_pass, ev_par, ev_sub, ev_whl, ev_ret, ev_retN, ev_raise, ev_expr, evA, evI, evT, lcB, bindM, setAll, wipeM, bind_ite, startM, tyIs, md_is_good_work, is_row_ok, is_whole_ok, two_ok, table_ok, HasG.eq (G := G) (i := 0), HasG.eq (G := G) (i := 1), zipL_map]
  have := Few.le (n := n)
  split
  · rename_i h
    rw [decide_eq_false fun g : GoodW t ns => by have := g.pos; have := g.few; omega]
  split
  · rename_i h1 h
    rw [decide_eq_false fun g : GoodW t ns => by obtain ⟨x, h⟩ := h; have := g.time x; have := h this.1; omega]
  split
  · rename_i h1 h2 h
    rw [decide_eq_false fun g : GoodW t ns => by obtain ⟨x, h⟩ := h; exact g.ne _ h rfl]
  split
  · rename_i h1 h2 h3 h
    rw [decide_eq_false fun g : GoodW t ns => by obtain ⟨a, b, a1, b1, h, h'⟩ := h; have := asc_zip g.asc _ h; simp only at this; rw [h'] at this; cases this]
  · rename_i h1 h2 h3 h4
    congr 3
    rw [Bool.eq_iff_iff]
    simp only [Bool.not_eq_true', decide_eq_true_eq, List.any_eq_false]
    refine ⟨fun h => ⟨by omega, by omega, fun i => ?_, fun p hp e => h3 ⟨p.1, ?_⟩, zip_asc fun p hp => ?_, fun i => ?_⟩, fun g i _ => by rw [g.free i]; exact Bool.false_ne_true⟩
    · refine Classical.byContradiction fun z => h2 ⟨i, fun _ => ?_⟩
      omega
    · obtain ⟨a, b⟩ := p
      simp only at e
      subst e
      exact hp
    · obtain ⟨⟨a, b⟩, a1, b1⟩ := p
      refine Classical.byContradiction fun z => h4 ⟨a, b, a1, b1, hp, by simpa using z⟩
    · have := h i (by simp)
      simpa using this
theorem need_work_ok [Has P 106 md_is_row] [Has P 107 md_is_two] [Has P 108 md_is_whole] [Has P 153 md_table_of] [Has P 101 md_is_good_work] [Has P 136 md_need_work] [HasG G 0 10] [HasG G 1 MOST] {n : Nat} [Few n] (t : Fin n → Int) (ns : List (Fin n × Fin n)) [Short ns] (g : GoodW t ns) : (callM P L G (d + 4)).fn 136 K [wk t ns] = M.pure .none := by
  refine fn_none (σ := [some (wk t ns)]) rfl ?_
  simp [ev_seq, ev_for, ev_ifs, ev_asg, ev_and, ev_or, ev_neg, ev_var, ev_lc, ev_non, ev_tt, ev_ff, ev_int, ev_str, ev_glb, ev_fnv, ev_tup, ev_lst, ev_bin, ev_lmul, ev_not, ev_cmp, ev_cmp2, ev_ite, ev_call, ev_b1, ev_max2, ev_min2, max2_int, min2_int, ev_isi, ev_idx, ev_sl, ev_rev, ev_app, ev_popAt, ev_index, ev_count, ev_dnew, ev_lam, ev_inrg, ev_pn, ev_ps, ev_skip, ev_pass, ev_par, ev_sub, ev_whl, ev_ret, ev_retN, ev_raise, ev_expr, evA, evI, evT, lcB, bindM, setAll, wipeM, bind_ite, startM, tyIs, md_need_work, good_ok, g]
theorem need_task_ok [Has P 108 md_is_whole] [Has P 135 md_need_task] {n : Nat} (t : Fin n → Int) (ns : List (Fin n × Fin n)) (i : Fin n) : (callM P L G (d + 2)).fn 135 K [wk t ns, fi i] = M.pure .none := by
  refine fn_none (σ := [some (wk t ns), some (fi i)]) rfl ?_
  simp [ev_seq, ev_for, ev_ifs, ev_asg, ev_and, ev_or, ev_neg, ev_var, ev_lc, ev_non, ev_tt, ev_ff, ev_int, ev_str, ev_glb, ev_fnv, ev_tup, ev_lst, ev_bin, ev_lmul, ev_not, ev_cmp, ev_cmp2, ev_ite, ev_call, ev_b1, ev_max2, ev_min2, max2_int, min2_int, ev_isi, ev_idx, ev_sl, ev_rev, ev_app, ev_popAt, ev_index, ev_count, ev_dnew, ev_lam, ev_inrg, ev_pn, ev_ps, ev_skip, ev_pass, ev_par, ev_sub, ev_whl, ev_ret, ev_retN, ev_raise, ev_expr, evA, evI, evT, lcB, bindM, setAll, wipeM, bind_ite, startM, tyIs, md_need_task, whole_fin]
theorem need_hands_ok [Has P 108 md_is_whole] [Has P 131 md_need_hands] (k : Int) (h1 : 1 ≤ k) (h2 : k ≤ 10) : (callM P L G (d + 2)).fn 131 K [.int k] = M.pure .none := by
  refine fn_none (σ := [some (.int k)]) rfl ?_
  simp [ev_seq, ev_for, ev_ifs, ev_asg, ev_and, ev_or, ev_neg, ev_var, ev_lc, ev_non, ev_tt, ev_ff, ev_int, ev_str, ev_glb, ev_fnv, ev_tup, ev_lst, ev_bin, ev_lmul, ev_not, ev_cmp, ev_cmp2, ev_ite, ev_call, ev_b1, ev_max2, ev_min2, max2_int, min2_int, ev_isi, ev_idx, ev_sl, ev_rev, ev_app, ev_popAt, ev_index, ev_count, ev_dnew, ev_lam, ev_inrg, ev_pn, ev_ps, ev_skip, ev_pass, ev_par, ev_sub, ev_whl, ev_ret, ev_retN, ev_raise, ev_expr, evA, evI, evT, lcB, bindM, setAll, wipeM, bind_ite, startM, tyIs, md_need_hands, is_whole_ok, h1, h2]
theorem all_behind_ok [Has P 153 md_table_of] [Has P 70 md_all_behind] {n : Nat} [Few n] (t : Fin n → Int) (ns : List (Fin n × Fin n)) (i : Fin n) : (callM P L G (d + 2)).fn 70 K [wk t ns, fi i] = M.pure (.list (((R n).filter fun j => tab ns i j).map fi)) := by
  refine fn_pure rfl (by simp) ?_
  simp [ev_seq, ev_for, ev_ifs, ev_asg, ev_and, ev_or, ev_neg, ev_var, ev_lc, ev_non, ev_tt, ev_ff, ev_int, ev_str, ev_glb, ev_fnv, ev_tup, ev_lst, ev_bin, ev_lmul, ev_not, ev_cmp, ev_cmp2, ev_ite, ev_call, ev_b1, ev_max2, ev_min2, max2_int, min2_int, ev_isi, ev_idx, ev_sl, ev_rev, ev_app, ev_popAt, ev_index, ev_count, ev_dnew, ev_lam, ev_inrg, ev_pn, ev_ps, ev_skip, ev_pass, ev_par, ev_sub, ev_whl, ev_ret, ev_retN, ev_raise, ev_expr, evA, evI, evT, lcB, bindM, setAll, wipeM, bind_ite, startM, tyIs, md_all_behind, table_ok]
/-- who is next behind -/
def nextL {n : Nat} (ns : List (Fin n × Fin n)) (i : Fin n) : List (Fin n) := (R n).filter fun a => decide (∀ x : Fin n, tab ns i x = true → tab ns x a = false) && tab ns i a
theorem all_next_ok [Has P 153 md_table_of] [Has P 71 md_all_next] {n : Nat} [Few n] (t : Fin n → Int) (ns : List (Fin n × Fin n)) (i : Fin n) : (callM P L G (d + 2)).fn 71 K [wk t ns, fi i] = M.pure (.list ((nextL ns i).map fi)) := by
  refine fn_pure rfl (by simp) ?_
  simp [ev_seq, ev_for, ev_ifs, ev_asg, ev_and, ev_or, ev_neg, ev_var, ev_lc, ev_non, ev_tt, ev_ff, ev_int, ev_str, ev_glb, ev_fnv, ev_tup, ev_lst, ev_bin, ev_lmul, ev_not, ev_cmp, ev_cmp2, ev_ite, ev_call, ev_b1, ev_max2, ev_min2, max2_int, min2_int, ev_isi, ev_idx, ev_sl, ev_rev, ev_app, ev_popAt, ev_index, ev_count, ev_dnew, ev_lam, ev_inrg, ev_pn, ev_ps, ev_skip, ev_pass, ev_par, ev_sub, ev_whl, ev_ret, ev_retN, ev_raise, ev_expr, evA, evI, evT, lcB, bindM, setAll, wipeM, bind_ite, startM, tyIs, md_all_next, table_ok, nextL]
/-- a turn of levels_of -/
def lvS {n : Nat} (t : Fin n → Int) (ns : List (Fin n × Fin n)) (f : Fin n → Int) (i : Fin n) : Int := t i + ((ns.filter fun p => decide (p.1 = i)).map fun p => f p.2).foldl max 0
def lvK {n : Nat} (t : Fin n → Int) (ns : List (Fin n × Fin n)) : List (Fin n) → Fin n → Int := fun ms => ms.foldl (fun f _ => lvS t ns f) fun _ => 0
theorem best_ints (gt : Bool) (x : Int) (xs : List Int) : bestM gt (.int x :: xs.map .int) = M.pure (.int (xs.foldl (if gt then max else min) x)) := by
  have hp : PyData.plainAll (.int x :: xs.map PyData.int) = true := by simp
  have hd : PyData.depthAll (.int x :: xs.map PyData.int) ≤ 100 := by
    have := depth_map_le PyData.int 1 (fun _ => by simp [PyData.depth]) xs
    simp only [PyData.depthAll, PyData.depth]; omega
  have ha : allAlike (.int x :: xs.map PyData.int) = true := by
    simp [allAlike, W.alike]
  have hn : (PyData.int x :: xs.map PyData.int).all (fun y => !isNon y) = true := by simp [isNon]
  simp only [bestM, hp, ha, hn, hd, decide_true, Bool.and_self, if_true]
  congr 1
  clear hp hd ha hn
  induction xs generalizing x with
  | nil => rfl
  | cons y r ih =>
    simp only [List.map_cons, List.foldl_cons]
    cases gt with
    | true =>
      simp only [if_true, W.dataLt_int] at ih ⊢
      rw [show (if decide (x < y) = true then PyData.int y else PyData.int x) = .int (max x y) by
        by_cases h : x < y
        · rw [if_pos (by simpa using h)]; congr 1; omega
        · rw [if_neg (by simpa using h)]; congr 1; omega]
      exact ih _
    | false =>
      simp only [Bool.false_eq_true, if_false, W.dataLt_int] at ih ⊢
      rw [show (if decide (y < x) = true then PyData.int y else PyData.int x) = .int (min x y) by
        by_cases h : y < x
        · rw [if_pos (by simpa using h)]; congr 1; omega
        · rw [if_neg (by simpa using h)]; congr 1; omega]
      exact ih _
@[simp] theorem max_cons {α : Type} (x : Int) (f : α → Int) (xs : List α) : b1M .max (.list (.int x :: xs.map fun a => .int (f a))) = M.pure (.int ((xs.map f).foldl max x)) := by
  have := best_ints true x (xs.map f)
  rw [List.map_map] at this
  exact this
@[simp] theorem min_cons {α : Type} (x : Int) (f : α → Int) (xs : List α) : b1M .min (.list (.int x :: xs.map fun a => .int (f a))) = M.pure (.int ((xs.map f).foldl min x)) := by
  have := best_ints false x (xs.map f)
  rw [List.map_map] at this
  exact this
@[simp] theorem add_lists (xs ys : List MV) [h : Short xs] [h' : Short ys] : binM .add (.list xs) (.list ys) = M.pure (.list (xs ++ ys)) := if_pos (by have := h.le; have := h'.le; unfold cap; omega)
@[simp] theorem add_tups (xs ys : List MV) [h : Short xs] [h' : Short ys] : binM .add (.tuple xs) (.tuple ys) = M.pure (.tuple (xs ++ ys)) := if_pos (by have := h.le; have := h'.le; unfold cap; omega)
instance {α : Type} : Short ([] : List α) := ⟨by simp⟩
instance {α : Type} (a : α) : Short [a] := ⟨by simp⟩
instance {α : Type} (a b : α) : Short [a, b] := ⟨by simp⟩
theorem rep_one {n : Nat} (x : MV) : rep [x] n = (R n).map fun _ => x := by
  unfold rep
  rw [Int.toNat_natCast]
  apply List.ext_getElem <;> simp
@[simp] theorem lmul_n {n : Nat} [h : Few n] (x : MV) : lmulM false (.list [x]) (.int (n : Int)) = M.pure (.list ((R n).map fun _ => x)) := by
  have := h.le
  show (if repOk 1 n = true then mkList false (rep [x] n) else bad) = _
  rw [if_pos, rep_one]
  · rfl
  · simp [repOk, cap]; omega
theorem levels_of_ok [Has P 120 md_levels_of] {n : Nat} [Few n] (t : Fin n → Int) (ns : List (Fin n × Fin n)) [Short ns] : (callM P L G (d + 1)).fn 120 K [wk t ns] = M.pure (fl fun i => .int (lvK t ns (R n) i)) := by
  refine fn_pure rfl (by simp) ?_
  simp [ev_seq, ev_for, ev_ifs, ev_asg, ev_and, ev_or, ev_neg, ev_var, ev_lc, ev_non, ev_tt, ev_ff, ev_int, ev_str, ev_glb, ev_fnv, ev_tup, ev_lst, ev_bin, ev_lmul, ev_not, ev_cmp, ev_cmp2, ev_ite, ev_call, ev_b1, ev_max2, ev_min2, max2_int, min2_int, ev_isi, ev_idx, ev_sl, ev_rev, ev_app, ev_popAt, ev_index, ev_count, ev_dnew, ev_lam, ev_inrg, ev_pn, ev_ps, ev_skip, ev_pass, ev_par, ev_sub, ev_whl, ev_ret, ev_retN, ev_raise, ev_expr, evA, evI, evT, lcB, bindM, setAll, wipeM, bind_ite, startM, tyIs, md_levels_of]
  refine bind_of (loop_pure (fun _ => True) (fun s => [some (wk t ns), some (ft fun i => .int (t i)), some (.tuple (ns.map fp)), some (fl fun i => .int (s.1 i)), s.2, none, none, none, none]) fi (fun s m => (lvS t ns s.1, some (fi m))) (R n) (fun _ => 0, none) trivial ?_) ?_
  · intro m _ s _
    simp [ev_seq, ev_for, ev_ifs, ev_asg, ev_and, ev_or, ev_neg, ev_var, ev_lc, ev_non, ev_tt, ev_ff, ev_int, ev_str, ev_glb, ev_fnv, ev_tup, ev_lst, ev_bin, ev_lmul, ev_not, ev_cmp, ev_cmp2, ev_ite, ev_call, ev_b1, ev_max2, ev_min2, max2_int, min2_int, ev_isi, ev_idx, ev_sl, ev_rev, ev_app, ev_popAt, ev_index, ev_count, ev_dnew, ev_lam, ev_inrg, ev_pn, ev_ps, ev_skip, ev_pass, ev_par, ev_sub, ev_whl, ev_ret, ev_retN, ev_raise, ev_expr, evA, evI, evT, lcB, bindM, setAll, wipeM, bind_ite, startM, tyIs, forB]
    rfl
  · simp [ev_seq, ev_for, ev_ifs, ev_asg, ev_and, ev_or, ev_neg, ev_var, ev_lc, ev_non, ev_tt, ev_ff, ev_int, ev_str, ev_glb, ev_fnv, ev_tup, ev_lst, ev_bin, ev_lmul, ev_not, ev_cmp, ev_cmp2, ev_ite, ev_call, ev_b1, ev_max2, ev_min2, max2_int, min2_int, ev_isi, ev_idx, ev_sl, ev_rev, ev_app, ev_popAt, ev_index, ev_count, ev_dnew, ev_lam, ev_inrg, ev_pn, ev_ps, ev_skip, ev_pass, ev_par, ev_sub, ev_whl, ev_ret, ev_retN, ev_raise, ev_expr, evA, evI, evT, lcB, bindM, setAll, wipeM, bind_ite, startM, tyIs]
    rw [foldl_fst (fun f _ => lvS t ns f) (fun s m => some (fi m))]
    rfl
section
variable [Has P 106 md_is_row] [Has P 107 md_is_two] [Has P 108 md_is_whole] [Has P 153 md_table_of] [Has P 101 md_is_good_work] [Has P 136 md_need_work] [HasG G 0 10] [HasG G 1 MOST]
theorem levels_ok [Has P 120 md_levels_of] [Has P 119 md_levels] {n : Nat} [Few n] (t : Fin n → Int) (ns : List (Fin n × Fin n)) [Short ns] (g : GoodW t ns) : (callM P L G (d + 5)).fn 119 K [wk t ns] = M.pure (fl fun i => .int (lvK t ns (R n) i)) := by
  refine fn_pure rfl (by simp) ?_
  simp [ev_seq, ev_for, ev_ifs, ev_asg, ev_and, ev_or, ev_neg, ev_var, ev_lc, ev_non, ev_tt, ev_ff, ev_int, ev_str, ev_glb, ev_fnv, ev_tup, ev_lst, ev_bin, ev_lmul, ev_not, ev_cmp, ev_cmp2, ev_ite, ev_call, ev_b1, ev_max2, ev_min2, max2_int, min2_int, ev_isi, ev_idx, ev_sl, ev_rev, ev_app, ev_popAt, ev_index, ev_count, ev_dnew, ev_lam, ev_inrg, ev_pn, ev_ps, ev_skip, ev_pass, ev_par, ev_sub, ev_whl, ev_ret, ev_retN, ev_raise, ev_expr, evA, evI, evT, lcB, bindM, setAll, wipeM, bind_ite, startM, tyIs, md_levels, levels_of_ok, need_work_ok, g]
theorem behind_ok [Has P 108 md_is_whole] [Has P 135 md_need_task] [Has P 70 md_all_behind] [Has P 72 md_behind] {n : Nat} [Few n] (t : Fin n → Int) (ns : List (Fin n × Fin n)) [Short ns] (g : GoodW t ns) (i : Fin n) : (callM P L G (d + 5)).fn 72 K [wk t ns, fi i] = M.pure (.list (((R n).filter fun j => tab ns i j).map fi)) := by
  refine fn_pure rfl (by simp) ?_
  simp [ev_seq, ev_for, ev_ifs, ev_asg, ev_and, ev_or, ev_neg, ev_var, ev_lc, ev_non, ev_tt, ev_ff, ev_int, ev_str, ev_glb, ev_fnv, ev_tup, ev_lst, ev_bin, ev_lmul, ev_not, ev_cmp, ev_cmp2, ev_ite, ev_call, ev_b1, ev_max2, ev_min2, max2_int, min2_int, ev_isi, ev_idx, ev_sl, ev_rev, ev_app, ev_popAt, ev_index, ev_count, ev_dnew, ev_lam, ev_inrg, ev_pn, ev_ps, ev_skip, ev_pass, ev_par, ev_sub, ev_whl, ev_ret, ev_retN, ev_raise, ev_expr, evA, evI, evT, lcB, bindM, setAll, wipeM, bind_ite, startM, tyIs, md_behind, all_behind_ok, need_work_ok, g, need_task_ok]
theorem next_behind_ok [Has P 108 md_is_whole] [Has P 135 md_need_task] [Has P 71 md_all_next] [Has P 137 md_next_behind] {n : Nat} [Few n] (t : Fin n → Int) (ns : List (Fin n × Fin n)) [Short ns] (g : GoodW t ns) (i : Fin n) : (callM P L G (d + 5)).fn 137 K [wk t ns, fi i] = M.pure (.list ((nextL ns i).map fi)) := by
  refine fn_pure rfl (by simp) ?_
  simp [ev_seq, ev_for, ev_ifs, ev_asg, ev_and, ev_or, ev_neg, ev_var, ev_lc, ev_non, ev_tt, ev_ff, ev_int, ev_str, ev_glb, ev_fnv, ev_tup, ev_lst, ev_bin, ev_lmul, ev_not, ev_cmp, ev_cmp2, ev_ite, ev_call, ev_b1, ev_max2, ev_min2, max2_int, min2_int, ev_isi, ev_idx, ev_sl, ev_rev, ev_app, ev_popAt, ev_index, ev_count, ev_dnew, ev_lam, ev_inrg, ev_pn, ev_ps, ev_skip, ev_pass, ev_par, ev_sub, ev_whl, ev_ret, ev_retN, ev_raise, ev_expr, evA, evI, evT, lcB, bindM, setAll, wipeM, bind_ite, startM, tyIs, md_next_behind, all_next_ok, need_work_ok, g, need_task_ok]
/-- lighter, as it is computed -/
def lightB {n : Nat} (t : Fin n → Int) (ns : List (Fin n × Fin n)) (t' : Fin n → Int) (ns' : List (Fin n × Fin n)) : Bool := decide (∀ i, t i ≤ t' i) && ns.all fun p => tab ns' p.1 p.2
theorem is_lighter_ok [Has P 102 md_is_lighter] {n : Nat} [Few n] (t : Fin n → Int) (ns : List (Fin n × Fin n)) [Short ns] (t' : Fin n → Int) (ns' : List (Fin n × Fin n)) [Short ns'] : (callM P L G (d + 2)).fn 102 K [wk t ns, wk t' ns'] = M.pure (.bool (lightB t ns t' ns')) := by
  refine fn_pure rfl (by simp) ?_
  simp [ev_seq, ev_for, ev_ifs, ev_asg, ev_and, ev_or, ev_neg, ev_var, ev_lc, ev_non, ev_tt, ev_ff, ev_int, ev_str, ev_glb, ev_fnv, ev_tup, ev_lst, ev_bin, ev_lmul, ev_not, ev_cmp, ev_cmp2, ev_ite, ev_call, ev_b1, ev_max2, ev_min2, max2_int, min2_int, ev_isi, ev_idx, ev_sl, ev_rev, ev_app, ev_popAt, ev_index, ev_count, ev_dnew, ev_lam, ev_inrg, ev_pn, ev_ps, ev_skip, ev_pass, ev_par, ev_sub, ev_whl, ev_ret, ev_retN, ev_raise, ev_expr, evA, evI, evT, lcB, bindM, setAll, wipeM, bind_ite, startM, tyIs, md_is_lighter, table_ok]
  unfold lightB
  by_cases h : ∀ i, t i ≤ t' i
  · rw [if_neg (fun ⟨x, hx⟩ => by have := h x; omega), decide_eq_true h, Bool.true_and]
  · rw [if_pos (Classical.byContradiction fun z => h fun i => Int.not_lt.mp fun hx => z ⟨i, hx⟩), decide_eq_false h, Bool.false_and]
theorem is_lighter_ne [Has P 102 md_is_lighter] {n m : Nat} [Few n] [Few m] (hn : n ≠ m) (t : Fin n → Int) (ns : List (Fin n × Fin n)) (t' : Fin m → Int) (ns' : List (Fin m × Fin m)) : (callM P L G (d + 2)).fn 102 K [wk t ns, wk t' ns'] = M.pure (.bool false) := by
  refine fn_pure rfl (by simp) ?_
  have : ((n : Int) = (m : Int)) ↔ False := by constructor <;> intro h <;> first | omega | cases h
  simp [ev_seq, ev_for, ev_ifs, ev_asg, ev_and, ev_or, ev_neg, ev_var, ev_lc, ev_non, ev_tt, ev_ff, ev_int, ev_str, ev_glb, ev_fnv, ev_tup, ev_lst, ev_bin, ev_lmul, ev_not, ev_cmp, ev_cmp2, ev_ite, ev_call, ev_b1, ev_max2, ev_min2, max2_int, min2_int, ev_isi, ev_idx, ev_sl, ev_rev, ev_app, ev_popAt, ev_index, ev_count, ev_dnew, ev_lam, ev_inrg, ev_pn, ev_ps, ev_skip, ev_pass, ev_par, ev_sub, ev_whl, ev_ret, ev_retN, ev_raise, ev_expr, evA, evI, evT, lcB, bindM, setAll, wipeM, bind_ite, startM, tyIs, md_is_lighter, this]
theorem lighter_ok [Has P 102 md_is_lighter] [Has P 121 md_lighter] {n : Nat} [Few n] (t : Fin n → Int) (ns : List (Fin n × Fin n)) [Short ns] (t' : Fin n → Int) (ns' : List (Fin n × Fin n)) [Short ns'] (g : GoodW t ns) (g' : GoodW t' ns') : (callM P L G (d + 5)).fn 121 K [wk t ns, wk t' ns'] = M.pure (.bool (lightB t ns t' ns')) := by
  refine fn_pure rfl (by simp) ?_
  simp [ev_seq, ev_for, ev_ifs, ev_asg, ev_and, ev_or, ev_neg, ev_var, ev_lc, ev_non, ev_tt, ev_ff, ev_int, ev_str, ev_glb, ev_fnv, ev_tup, ev_lst, ev_bin, ev_lmul, ev_not, ev_cmp, ev_cmp2, ev_ite, ev_call, ev_b1, ev_max2, ev_min2, max2_int, min2_int, ev_isi, ev_idx, ev_sl, ev_rev, ev_app, ev_popAt, ev_index, ev_count, ev_dnew, ev_lam, ev_inrg, ev_pn, ev_ps, ev_skip, ev_pass, ev_par, ev_sub, ev_whl, ev_ret, ev_retN, ev_raise, ev_expr, evA, evI, evT, lcB, bindM, setAll, wipeM, bind_ite, startM, tyIs, md_lighter, is_lighter_ok, need_work_ok, g, g']
theorem lighter_ne [Has P 102 md_is_lighter] [Has P 121 md_lighter] {n m : Nat} [Few n] [Few m] (hn : n ≠ m) (t : Fin n → Int) (ns : List (Fin n × Fin n)) [Short ns] (t' : Fin m → Int) (ns' : List (Fin m × Fin m)) [Short ns'] (g : GoodW t ns) (g' : GoodW t' ns') : (callM P L G (d + 5)).fn 121 K [wk t ns, wk t' ns'] = M.pure (.bool false) := by
  refine fn_pure rfl (by simp) ?_
  simp [ev_seq, ev_for, ev_ifs, ev_asg, ev_and, ev_or, ev_neg, ev_var, ev_lc, ev_non, ev_tt, ev_ff, ev_int, ev_str, ev_glb, ev_fnv, ev_tup, ev_lst, ev_bin, ev_lmul, ev_not, ev_cmp, ev_cmp2, ev_ite, ev_call, ev_b1, ev_max2, ev_min2, max2_int, min2_int, ev_isi, ev_idx, ev_sl, ev_rev, ev_app, ev_popAt, ev_index, ev_count, ev_dnew, ev_lam, ev_inrg, ev_pn, ev_ps, ev_skip, ev_pass, ev_par, ev_sub, ev_whl, ev_ret, ev_retN, ev_raise, ev_expr, evA, evI, evT, lcB, bindM, setAll, wipeM, bind_ite, startM, tyIs, md_lighter, is_lighter_ne hn, need_work_ok, g, g']
/-- the greatest of some, from 0 on -/
def maxF {n : Nat} (f : Fin n → Int) : Int := ((R n).map f).foldl max 0
theorem max_fin {n : Nat} (f : Fin n → Int) (hn : 1 ≤ n) (h0 : ∀ i, 0 ≤ f i) : b1M .max (.list ((R n).map fun i => .int (f i))) = M.pure (.int (maxF f)) := by
  unfold maxF
  cases hr : R n with
  | nil => have := congrArg List.length hr; simp at this; omega
  | cons x r =>
    refine (max_cons (f x) f r).trans ?_
    simp only [List.map_cons, List.foldl_cons]
    rw [show max 0 (f x) = f x by have := h0 x; omega]
theorem foldl_max_ge (xs : List Int) (a : Int) : a ≤ xs.foldl max a ∧ ∀ x ∈ xs, x ≤ xs.foldl max a := by
  induction xs generalizing a with
  | nil => simp
  | cons x r ih =>
    obtain ⟨h1, h2⟩ := ih (max a x)
    simp only [List.foldl_cons]
    refine ⟨by omega, fun y hy => ?_⟩
    rcases List.mem_cons.mp hy with rfl | hy
    · omega
    · exact h2 y hy
theorem foldl_max_mem (xs : List Int) (a : Int) : xs.foldl max a = a ∨ xs.foldl max a ∈ xs := by
  induction xs generalizing a with
  | nil => simp
  | cons x r ih =>
    simp only [List.foldl_cons]
    rcases ih (max a x) with h | h
    · rw [h]
      by_cases hx : a ≤ x
      · right; rw [show max a x = x by omega]; exact List.mem_cons_self
      · left; omega
    · right; exact List.mem_cons_of_mem _ h
theorem lvS_pos {n : Nat} (t : Fin n → Int) (ns : List (Fin n × Fin n)) (f : Fin n → Int) (i : Fin n) : t i ≤ lvS t ns f i := by
  unfold lvS
  have := (foldl_max_ge ((ns.filter fun p => decide (p.1 = i)).map fun p => f p.2) 0).1
  omega
theorem lvK_snoc {n : Nat} (t : Fin n → Int) (ns : List (Fin n × Fin n)) (ms : List (Fin n)) (m : Fin n) : lvK t ns (ms ++ [m]) = lvS t ns (lvK t ns ms) := by
  unfold lvK
  rw [List.foldl_append]
  rfl
theorem lvK_pos {n : Nat} (t : Fin n → Int) (ns : List (Fin n × Fin n)) (h : ∀ i, 0 ≤ t i) (ms : List (Fin n)) (i : Fin n) : 0 ≤ lvK t ns ms i := by
  rcases List.eq_nil_or_concat ms with rfl | ⟨r, m, rfl⟩
  · exact Int.le_refl _
  · rw [List.concat_eq_append, lvK_snoc]
    have := lvS_pos t ns (lvK t ns r) i
    have := h i
    omega
theorem least_bound_ok [Has P 120 md_levels_of] [Has P 116 md_least_bound] {n : Nat} [Few n] (t : Fin n → Int) (ns : List (Fin n × Fin n)) [Short ns] (g : GoodW t ns) (k : Int) (h1 : 1 ≤ k) (h2 : k ≤ 10) : (callM P L G (d + 2)).fn 116 K [wk t ns, .int k] = M.pure (.int (max (maxF (lvK t ns (R n))) ((((R n).map t).sum + k - 1) / k))) := by
  refine fn_pure rfl rfl ?_
  have hd : ∀ a : Int, binM .fdiv (.int a) (.int k) = M.pure (.int (a / k)) := fun a => if_pos (by unfold divOk; rw [decide_eq_true (show (0 : Int) < k by omega), decide_eq_true (show k < 1073741824 by omega)]; rfl)
  simp [ev_seq, ev_for, ev_ifs, ev_asg, ev_and, ev_or, ev_neg, ev_var, ev_lc, ev_non, ev_tt, ev_ff, ev_int, ev_str, ev_glb, ev_fnv, ev_tup, ev_lst, ev_bin, ev_lmul, ev_not, ev_cmp, ev_cmp2, ev_ite, ev_call, ev_b1, ev_max2, ev_min2, max2_int, min2_int, ev_isi, ev_idx, ev_sl, ev_rev, ev_app, ev_popAt, ev_index, ev_count, ev_dnew, ev_lam, ev_inrg, ev_pn, ev_ps, ev_skip, ev_pass, ev_par, ev_sub, ev_whl, ev_ret, ev_retN, ev_raise, ev_expr, evA, evI, evT, lcB, bindM, setAll, wipeM, bind_ite, startM, tyIs, md_least_bound, levels_of_ok, max_fin _ g.pos (lvK_pos t ns (fun i => by have := g.time i; omega) (R n)), hd]
theorem bound_ok [Has P 120 md_levels_of] [Has P 116 md_least_bound] [Has P 131 md_need_hands] [Has P 77 md_bound] {n : Nat} [Few n] (t : Fin n → Int) (ns : List (Fin n × Fin n)) [Short ns] (g : GoodW t ns) (k : Int) (h1 : 1 ≤ k) (h2 : k ≤ 10) : (callM P L G (d + 5)).fn 77 K [wk t ns, .int k] = M.pure (.int (max (maxF (lvK t ns (R n))) ((((R n).map t).sum + k - 1) / k))) := by
  refine fn_pure rfl rfl ?_
  simp [ev_seq, ev_for, ev_ifs, ev_asg, ev_and, ev_or, ev_neg, ev_var, ev_lc, ev_non, ev_tt, ev_ff, ev_int, ev_str, ev_glb, ev_fnv, ev_tup, ev_lst, ev_bin, ev_lmul, ev_not, ev_cmp, ev_cmp2, ev_ite, ev_call, ev_b1, ev_max2, ev_min2, max2_int, min2_int, ev_isi, ev_idx, ev_sl, ev_rev, ev_app, ev_popAt, ev_index, ev_count, ev_dnew, ev_lam, ev_inrg, ev_pn, ev_ps, ev_skip, ev_pass, ev_par, ev_sub, ev_whl, ev_ret, ev_retN, ev_raise, ev_expr, evA, evI, evT, lcB, bindM, setAll, wipeM, bind_ite, startM, tyIs, md_bound, least_bound_ok, need_work_ok, g, need_hands_ok, h1, h2]
end
end Q

-- G1
set_option autoImplicit false
set_option linter.all false
set_option Elab.async false
set_option maxRecDepth 10000
/-! plain, mathematics: who is behind whom -/
namespace Q
section
variable {n : Nat} {ns : List (Fin n × Fin n)}
/-- j is behind i -/
inductive Beh (ns : List (Fin n × Fin n)) : Fin n → Fin n → Prop where
  | one {i j : Fin n} (h : (i, j) ∈ ns) : Beh ns i j
  | cons {i j k : Fin n} (h : (i, j) ∈ ns) (p : Beh ns j k) : Beh ns i k
theorem Beh.trans {i j k : Fin n} (a : Beh ns i j) (b : Beh ns j k) : Beh ns i k := by
  induction a with
  | one h => exact .cons h b
  | cons h _ ih => exact .cons h (ih b)
/-- .. by ways through some -/
inductive Via (ns : List (Fin n × Fin n)) (S : Fin n → Prop) : Fin n → Fin n → Prop where
  | one {i j : Fin n} (h : (i, j) ∈ ns) : Via ns S i j
  | cons {i j k : Fin n} (h : (i, j) ∈ ns) (s : S j) (p : Via ns S j k) : Via ns S i k
theorem Via.trans {S : Fin n → Prop} {i j k : Fin n} (a : Via ns S i j) (s : S j) (b : Via ns S j k) : Via ns S i k := by
  induction a with
  | one h => exact .cons h s b
  | cons h t _ ih => exact .cons h t (ih s b)
theorem Via.mono {S T : Fin n → Prop} (st : ∀ i, S i → T i) {i j : Fin n} (a : Via ns S i j) : Via ns T i j := by
  induction a with
  | one h => exact .one h
  | cons h t _ ih => exact .cons h (st _ t) ih
theorem via_step {S T : Fin n → Prop} {m : Fin n} (hT : ∀ i, T i ↔ S i ∨ i = m) {i j : Fin n} : Via ns T i j ↔ Via ns S i j ∨ Via ns S i m ∧ Via ns S m j := by
  constructor
  · intro a
    induction a with
    | one h => exact .inl (.one h)
    | cons h t _ ih =>
      rcases (hT _).mp t with s | rfl
      · rcases ih with p | ⟨p, q⟩
        · exact .inl (.cons h s p)
        · exact .inr ⟨.cons h s p, q⟩
      · rcases ih with p | ⟨p, q⟩
        · exact .inr ⟨.one h, p⟩
        · exact .inr ⟨.one h, q⟩
  · rintro (p | ⟨p, q⟩)
    · exact p.mono fun i h => (hT i).mpr (.inl h)
    · exact (p.mono fun i h => (hT i).mpr (.inl h)).trans ((hT m).mpr (.inr rfl)) (q.mono fun i h => (hT i).mpr (.inl h))
theorem tabK_snoc (ms : List (Fin n)) (m : Fin n) (i j : Fin n) : tabK ns (ms ++ [m]) i j = (tabK ns ms i j || (tabK ns ms i m && tabK ns ms m j)) := by
  unfold tabK
  rw [List.foldl_append]
  rfl
theorem tabK_via' (rs : List (Fin n)) : ∀ i j : Fin n, tabK ns rs.reverse i j = true ↔ Via ns (· ∈ rs) i j := by
  induction rs with
  | nil =>
    intro i j
    show decide _ = true ↔ _
    rw [decide_eq_true_iff]
    exact ⟨.one, fun v => by cases v with | one h => exact h | cons h s _ => cases s⟩
  | cons m r ih =>
    intro i j
    rw [List.reverse_cons, tabK_snoc, Bool.or_eq_true, Bool.and_eq_true, ih, ih, ih]
    exact (via_step (T := (· ∈ m :: r)) (S := (· ∈ r)) (fun i => by simp [or_comm])).symm
theorem tabK_via (ms : List (Fin n)) (i j : Fin n) : tabK ns ms i j = true ↔ Via ns (· ∈ ms) i j := by
  have := tabK_via' (ns := ns) ms.reverse i j
  rw [List.reverse_reverse] at this
  rw [this]
  exact ⟨Via.mono fun i h => List.mem_reverse.mp h, Via.mono fun i h => List.mem_reverse.mpr h⟩
theorem tab_iff (i j : Fin n) : tab ns i j = true ↔ Beh ns i j := by
  refine (tabK_via _ i j).trans ⟨fun v => ?_, fun b => ?_⟩
  · induction v with
    | one h => exact .one h
    | cons h _ _ ih => exact .cons h ih
  · induction b with
    | one h => exact .one h
    | cons h _ ih => exact .cons h (List.mem_finRange _) ih
theorem tab_false (i j : Fin n) : tab ns i j = false ↔ ¬ Beh ns i j := by
  rw [← tab_iff, Bool.not_eq_true]
/-- a set that grows until it is closed, within n turns -/
theorem grow_closed (S : Nat → Fin n → Prop) (cl : Nat → Prop) (h1 : ∀ k i, S k i → S (k + 1) i) (h2 : ∀ k, cl k → cl (k + 1)) (h3 : ∀ k, ¬ cl k → ∃ i, S (k + 1) i ∧ ¬ S k i) : cl n ∨ ∀ i, S n i := by
  classical
  have key : ∀ k, cl k ∨ k ≤ ((R n).filter fun i => decide (S k i)).length := by
    intro k
    induction k with
    | zero => exact .inr (Nat.zero_le _)
    | succ k ih =>
      by_cases hc : cl k
      · exact .inl (h2 k hc)
      · rcases ih with ih | ih
        · exact absurd ih hc
        · right
          obtain ⟨i, hi, hn⟩ := h3 k hc
          have : ∀ (xs : List (Fin n)), i ∈ xs → (xs.filter fun i => decide (S k i)).length + 1 ≤ (xs.filter fun i => decide (S (k + 1) i)).length := by
            intro xs hx
            have mono : ∀ (xs : List (Fin n)), (xs.filter fun i => decide (S k i)).length ≤ (xs.filter fun i => decide (S (k + 1) i)).length := by
              intro xs
              induction xs with
              | nil => simp
              | cons x r ih =>
                simp only [List.filter_cons]
                by_cases hx : S k x
                · simp only [hx, h1 k x hx, decide_true, if_true, List.length_cons]; omega
                · simp only [hx, decide_false, Bool.false_eq_true, if_false]
                  split <;> (try simp only [List.length_cons]) <;> omega
            induction xs with
            | nil => cases hx
            | cons x r ih =>
              simp only [List.filter_cons]
              rcases List.mem_cons.mp hx with rfl | hr
              · simp only [hi, hn, decide_true, decide_false, if_true, Bool.false_eq_true, if_false, List.length_cons]
                have := mono r; omega
              · have := ih hr
                by_cases hx : S k x
                · simp only [hx, h1 k x hx, decide_true, if_true, List.length_cons]; omega
                · simp only [hx, decide_false, Bool.false_eq_true, if_false]
                  split <;> (try simp only [List.length_cons]) <;> omega
          have := this (R n) (List.mem_finRange i)
          omega
  rcases key n with h | h
  · exact .inl h
  · right
    intro i
    have hl : ((R n).filter fun i => decide (S n i)).length = (R n).length := Nat.le_antisymm (List.length_filter_le _ _) (by rw [List.length_finRange]; exact h)
    have := List.length_filter_eq_length_iff.mp hl i (List.mem_finRange i)
    simpa using this
/-- the law's own search -/
def aft0 (ns : List (Fin n × Fin n)) (i : Fin n) : List (Fin n) := (ns.filter fun q => decide (q.1 = i)).map fun q => q.2
def aftS (ns : List (Fin n × Fin n)) (f : List (Fin n)) : List (Fin n) := f ++ (ns.filter fun q => decide (q.1 ∈ f) && !decide (q.2 ∈ f)).map fun q => q.2
def aftK (ns : List (Fin n × Fin n)) (i : Fin n) : Nat → List (Fin n)
  | 0 => aft0 ns i
  | k + 1 => aftS ns (aftK ns i k)
theorem mem_aftS {f : List (Fin n)} {j : Fin n} : j ∈ aftS ns f ↔ j ∈ f ∨ ∃ k ∈ f, (k, j) ∈ ns := by
  unfold aftS
  simp only [List.mem_append, List.mem_map, List.mem_filter, Bool.and_eq_true, Bool.not_eq_true', decide_eq_false_iff_not, decide_eq_true_eq]
  constructor
  · rintro (h | ⟨⟨a, b⟩, ⟨h1, h2, h3⟩, rfl⟩)
    · exact .inl h
    · exact .inr ⟨a, h2, h1⟩
  · rintro (h | ⟨k, h1, h2⟩)
    · exact .inl h
    · by_cases hj : j ∈ f
      · exact .inl hj
      · exact .inr ⟨(k, j), ⟨h2, h1, hj⟩, rfl⟩
theorem aft_sound (i : Fin n) : ∀ (k : Nat) (j : Fin n), j ∈ aftK ns i k → Beh ns i j
  | 0, j, h => by
    simp only [aftK, aft0, List.mem_map, List.mem_filter, decide_eq_true_eq] at h
    obtain ⟨⟨a, b⟩, ⟨h1, h2⟩, h3⟩ := h
    simp only at h2 h3
    subst h2 h3
    exact .one h1
  | k + 1, j, h => by
    rcases mem_aftS.mp h with h | ⟨l, h1, h2⟩
    · exact aft_sound i k j h
    · exact (aft_sound i k l h1).trans (.one h2)
theorem mem_aft (i j : Fin n) : j ∈ aftK ns i n ↔ Beh ns i j := by
  refine ⟨aft_sound i n j, fun b => ?_⟩
  have base : ∀ k j, (i, j) ∈ ns → j ∈ aftK ns i k := by
    intro k
    induction k with
    | zero => intro j h; exact List.mem_map.mpr ⟨(i, j), List.mem_filter.mpr ⟨h, by simp⟩, rfl⟩
    | succ k ih => intro j h; exact mem_aftS.mpr (.inl (ih j h))
  rcases grow_closed (fun k j => j ∈ aftK ns i k) (fun k => ∀ a ∈ aftK ns i k, ∀ b, (a, b) ∈ ns → b ∈ aftK ns i k) (fun k j h => mem_aftS.mpr (.inl h)) (fun k hc a ha b hb => by
      have : a ∈ aftK ns i k := by
        rcases mem_aftS.mp ha with h | ⟨l, h1, h2⟩
        · exact h
        · exact hc l h1 a h2
      exact mem_aftS.mpr (.inl (hc a this b hb))) (fun k hc => by
      refine Classical.byContradiction fun z => hc fun a ha b hb => Classical.byContradiction fun hn => z ⟨b, mem_aftS.mpr (.inr ⟨a, ha, hb⟩), hn⟩) with h | h
  · have : ∀ a j, Beh ns a j → a ∈ aftK ns i n → j ∈ aftK ns i n := by
      intro a j b
      induction b with
      | one h' => exact fun ha => h _ ha _ h'
      | cons h' _ ih => exact fun ha => ih (h _ ha _ h')
    cases b with
    | one h' => exact base n j h'
    | cons h' p => exact this _ _ p (base n _ h')
  · exact h j
end
/-- how many there are -/
theorem count_add {α : Type} (p q r : α → Bool) : ∀ (ns : List α), (∀ x ∈ ns, p x = true → r x = true) → (∀ x ∈ ns, q x = true → r x = true) → (∀ x ∈ ns, p x = true → q x = true → False) → (ns.filter p).length + (ns.filter q).length ≤ (ns.filter r).length
  | [], _, _, _ => by simp
  | x :: t, h1, h2, h3 => by
    have ih := count_add p q r t (fun y hy => h1 y (List.mem_cons_of_mem _ hy)) (fun y hy => h2 y (List.mem_cons_of_mem _ hy)) (fun y hy => h3 y (List.mem_cons_of_mem _ hy))
    have a := h1 x List.mem_cons_self
    have b := h2 x List.mem_cons_self
    have c := h3 x List.mem_cons_self
    simp only [List.filter_cons]
    cases hp : p x <;> cases hq : q x <;> cases hr : r x <;> simp [hp, hq, hr] at a b c ⊢ <;> omega
theorem aft_len {n : Nat} (ns : List (Fin n × Fin n)) (i : Fin n) : ∀ k, (aftK ns i k).length ≤ (ns.filter fun q => decide (q.2 ∈ aftK ns i k)).length
  | 0 => by
    have := count_add (fun q => decide (q.1 = i)) (fun _ => false) (fun q => decide (q.2 ∈ aft0 ns i)) ns (fun x hx hp => by
      rw [decide_eq_true_iff] at hp ⊢
      exact List.mem_map.mpr ⟨x, List.mem_filter.mpr ⟨hx, decide_eq_true hp⟩, rfl⟩) (fun _ _ h => by cases h) (fun _ _ _ h => by cases h)
    show (aft0 ns i).length ≤ _
    rw [aft0, List.length_map]
    exact Nat.le_trans (Nat.le_add_right _ _) this
  | k + 1 => by
    have ih := aft_len ns i k
    have := count_add (fun q => decide (q.2 ∈ aftK ns i k)) (fun q => decide (q.1 ∈ aftK ns i k) && !decide (q.2 ∈ aftK ns i k)) (fun q => decide (q.2 ∈ aftK ns i (k + 1))) ns (fun x hx hp => by
      rw [decide_eq_true_iff] at hp ⊢
      exact List.mem_append.mpr (.inl hp)) (fun x hx hp => by
      rw [decide_eq_true_iff]
      exact List.mem_append.mpr (.inr (List.mem_map.mpr ⟨x, List.mem_filter.mpr ⟨hx, hp⟩, rfl⟩))) (fun x _ h1 h2 => by
      rw [h1] at h2
      simp at h2)
    show (aftK ns i k ++ (ns.filter fun q => decide (q.1 ∈ aftK ns i k) && !decide (q.2 ∈ aftK ns i k)).map fun q => q.2).length ≤ _
    rw [List.length_append, List.length_map]
    omega
theorem aft_short {n : Nat} (ns : List (Fin n × Fin n)) (i : Fin n) (k : Nat) : (aftK ns i k).length ≤ ns.length := Nat.le_trans (aft_len ns i k) (List.length_filter_le _ _)
end Q

-- L1
set_option autoImplicit false
set_option linter.all false
set_option Elab.async false
set_option maxRecDepth 10000
/-! plain: the laws' own defs, part 1 -/
namespace Q
open PySem MM Com
variable {P : Nat → Option MD} {L : Nat → Option ME} {G : Nat → Option Int} {d : Nat} {K : List (Option MSt)}
theorem asc_ext : ∀ {l l' : List Int}, l.Pairwise (· < ·) → l'.Pairwise (· < ·) → (∀ x, x ∈ l ↔ x ∈ l') → l = l'
  | [], [], _, _, _ => rfl
  | [], y :: _, _, _, h => absurd ((h y).mpr List.mem_cons_self) (by simp)
  | x :: _, [], _, _, h => absurd ((h x).mp List.mem_cons_self) (by simp)
  | x :: r, y :: s, h1, h2, h => by
    rw [List.pairwise_cons] at h1 h2
    have e : x = y := by
      rcases List.mem_cons.mp ((h x).mp List.mem_cons_self) with e | hx
      · exact e
      · rcases List.mem_cons.mp ((h y).mpr List.mem_cons_self) with e | hy
        · exact e.symm
        · have := h2.1 x hx; have := h1.1 y hy; omega
    subst e
    rw [asc_ext h1.2 h2.2 fun z => ?_]
    have hz := h z
    rw [List.mem_cons, List.mem_cons] at hz
    constructor
    · intro hr
      rcases hz.mp (.inr hr) with e | hs
      · subst e; have := h1.1 z hr; omega
      · exact hs
    · intro hs
      rcases hz.mpr (.inr hs) with e | hr
      · subst e; have := h2.1 z hs; omega
      · exact hr
theorem mem_insU (x y : Int) : ∀ l : List Int, x ∈ insU y l ↔ x = y ∨ x ∈ l
  | [] => by simp [insU]
  | z :: t => by
    have iht := mem_insU x y t
    unfold insU
    by_cases h1 : y < z
    · simp [h1]
    · by_cases h2 : y = z
      · subst h2; simp
      · simp only [h1, h2, if_false, List.mem_cons, iht]
        constructor
        · rintro (h | h | h) <;> simp [h]
        · rintro (h | h | h) <;> simp [h]
theorem mem_sortU (x : Int) : ∀ xs : List Int, x ∈ sortU xs ↔ x ∈ xs
  | [] => Iff.rfl
  | y :: r => by rw [sortU, mem_insU, mem_sortU x r, List.mem_cons]
theorem insU_asc (y : Int) : ∀ l : List Int, l.Pairwise (· < ·) → (insU y l).Pairwise (· < ·)
  | [], _ => by simp [insU]
  | z :: t, h => by
    rw [List.pairwise_cons] at h
    unfold insU
    by_cases h1 : y < z
    · simp only [h1, if_true, List.pairwise_cons, List.mem_cons]
      exact ⟨fun a ha => by rcases ha with rfl | ha; exact h1; have := h.1 a ha; omega, h⟩
    · by_cases h2 : y = z
      · subst h2; simp only [Int.lt_irrefl, if_false, if_true, List.pairwise_cons]; exact h
      · simp only [h1, h2, if_false, List.pairwise_cons]
        refine ⟨fun a ha => ?_, insU_asc y t h.2⟩
        rcases (mem_insU a y t).mp ha with rfl | ha
        · omega
        · exact h.1 a ha
theorem sortU_asc : ∀ xs : List Int, (sortU xs).Pairwise (· < ·)
  | [] => List.Pairwise.nil
  | y :: r => insU_asc y _ (sortU_asc r)
theorem R_asc (n : Nat) : (R n).Pairwise (· < ·) := by
  rw [List.pairwise_iff_getElem]
  intro i j hi hj h
  simp [Fin.lt_def]
  omega
theorem fins_asc {n : Nat} (p : Fin n → Bool) : (((R n).filter p).map fun i => ((i.val : Nat) : Int)).Pairwise (· < ·) := by
  rw [List.pairwise_map]
  refine ((R_asc n).filter p).imp fun {a b} h => ?_
  have := Fin.lt_def.mp h
  omega
theorem sortU_fin {n : Nat} (xs : List (Fin n)) : sortU (xs.map fun i => ((i.val : Nat) : Int)) = ((R n).filter fun i => decide (i ∈ xs)).map fun i => ((i.val : Nat) : Int) := by
  refine asc_ext (sortU_asc _) (fins_asc _) fun x => ?_
  rw [mem_sortU]
  simp only [List.mem_map, List.mem_filter, decide_eq_true_eq]
  constructor
  · rintro ⟨i, hi, rfl⟩; exact ⟨i, ⟨List.mem_finRange i, hi⟩, rfl⟩
  · rintro ⟨i, ⟨_, hi⟩, rfl⟩; exact ⟨i, hi, rfl⟩
theorem sortSet_fin {n : Nat} (xs : List (Fin n)) (h : xs.length < 63) : b1M .sortSet (.list (xs.map fi)) = M.pure (.list (((R n).filter fun i => decide (i ∈ xs)).map fi)) := by
  simp only [b1M, seqM_list, bindEq, bindP, ints_of, opt_some, List.length_map]
  rw [if_pos h, sortU_fin, List.map_map]
  rfl
theorem sub_len {α : Type} [DecidableEq α] : ∀ {l m : List α}, l.Nodup → (∀ x ∈ l, x ∈ m) → l.length ≤ m.length
  | [], _, _, _ => Nat.zero_le _
  | x :: r, m, hn, hs => by
    rw [List.nodup_cons] at hn
    have hx : x ∈ m := hs x List.mem_cons_self
    have := sub_len (l := r) (m := m.erase x) hn.2 fun y hy => by
      have hne : y ≠ x := fun e => hn.1 (e ▸ hy)
      exact (List.mem_erase_of_ne hne).mpr (hs y (List.mem_cons_of_mem _ hy))
    rw [List.length_erase_of_mem hx] at this
    have hp := List.length_pos_of_mem hx
    rw [List.length_cons]
    omega
theorem sum_const {α : Type} (k : Nat) : ∀ l : List α, (l.map fun _ => k).sum = l.length * k
  | [] => by simp
  | _ :: r => by simp only [List.map_cons, List.sum_cons, sum_const k r, List.length_cons, Nat.add_mul]; omega
theorem few_needs {n : Nat} [Few n] {ns : List (Fin n × Fin n)} (hn : ns.Nodup) (ac : ∀ i, ¬ Beh ns i i) : ns.length ≤ 45 := by
  have h10 := Few.le (n := n)
  let sw : Fin n × Fin n → Fin n × Fin n := fun p => (p.2, p.1)
  have hsw : ∀ a b, sw a = sw b → a = b := fun a b e => by
    simp only [sw, Prod.mk.injEq] at e
    exact Prod.ext e.2 e.1
  have nd : (ns ++ ns.map sw).Nodup := by
    rw [List.nodup_append]
    refine ⟨hn, ?_, ?_⟩
    · exact List.Pairwise.map _ (fun a b h e => h (hsw a b e)) hn
    · rintro p hp q hq rfl
      obtain ⟨u, hu, e⟩ := List.mem_map.mp hq
      subst e
      exact ac u.1 (.cons (j := u.2) hu (.one hp))
  let all : List (Fin n × Fin n) := (R n).flatMap fun i => ((R n).erase i).map fun j => (i, j)
  have hall : ∀ p : Fin n × Fin n, p.1 ≠ p.2 → p ∈ all := fun p hp => by
    refine List.mem_flatMap.mpr ⟨p.1, List.mem_finRange _, List.mem_map.mpr ⟨p.2, (List.mem_erase_of_ne (fun e => hp e.symm)).mpr (List.mem_finRange _), rfl⟩⟩
  have hne : ∀ p ∈ ns, p.1 ≠ p.2 := fun p hp e => ac p.1 (.one (by rw [show (p.1, p.1) = p from Prod.ext rfl e]; exact hp))
  have hl := sub_len nd (m := all) fun p hp => by
    rcases List.mem_append.mp hp with hp | hp
    · exact hall p (hne p hp)
    · obtain ⟨q, hq, rfl⟩ := List.mem_map.mp hp
      exact hall _ fun e => hne q hq e.symm
  have ha : all.length ≤ n * (n - 1) := by
    have : all.length = ((R n).map fun _ => n - 1).sum := by
      simp only [all, List.length_flatMap, List.length_map]
      refine congrArg List.sum (List.map_congr_left fun i _ => ?_)
      rw [List.length_erase_of_mem (List.mem_finRange i), List.length_finRange]
    rw [this, sum_const, List.length_finRange]
    exact Nat.le_refl _
  have : n * (n - 1) ≤ 10 * 9 := Nat.mul_le_mul h10 (by omega)
  rw [List.length_append, List.length_map] at hl
  omega
theorem asc_nodup {n : Nat} {ns : List (Fin n × Fin n)} (h : ns.Pairwise fun p q => ltP p q = true) : ns.Nodup :=
  h.imp fun {a b} hl e => by subst e; simp [ltP, Fin.lt_def] at hl
/-- few enough for a set -/
class Few63 {α : Type} (xs : List α) : Prop where
  le : xs.length < 63
instance {α : Type} {xs : List α} [h : Few63 xs] : Short xs := ⟨by have := h.le; omega⟩
instance {n : Nat} {ns : List (Fin n × Fin n)} {i : Fin n} {k : Nat} [h : Few63 ns] : Few63 (aftK ns i k) := ⟨Nat.lt_of_le_of_lt (aft_short ns i k) h.le⟩
theorem GoodW.few63 {n : Nat} [Few n] {t : Fin n → Int} {ns : List (Fin n × Fin n)} (g : GoodW t ns) : Few63 ns := ⟨by
  have := few_needs (asc_nodup g.asc) fun i b => (tab_false i i).mp (g.free i) b
  omega⟩
theorem foldl_iter {n : Nat} {S : Type} (f : S → S) (s : S) (g : Nat → S) (h0 : g 0 = s) (hs : ∀ k, g (k + 1) = f (g k)) : (R n).foldl (fun s _ => f s) s = g n := by
  have : ∀ (xs : List (Fin n)) (k : Nat), xs.foldl (fun s _ => f s) (g k) = g (k + xs.length) := by
    intro xs
    induction xs with
    | nil => intro k; rfl
    | cons x r ih => intro k; rw [List.foldl_cons, ← hs, ih, List.length_cons]; congr 1; omega
  rw [← h0, this, List.length_finRange, Nat.zero_add]
theorem mm {α β γ : Type} (f : β → γ) (g : α → β) (l : List α) : l.map (fun a => f (g a)) = (l.map g).map f := by simp
theorem after_ok [Has P 0 md__law_after] {n : Nat} [Few n] (t : Fin n → Int) (ns : List (Fin n × Fin n)) [Few63 ns] (i : Fin n) : (callM P L G (d + 1)).fn 0 K [wk t ns, fi i] = M.pure (.list (((R n).filter fun j => tab ns i j).map fi)) := by
  refine fn_pure rfl (by simp) ?_
  simp [ev_seq, ev_for, ev_ifs, ev_asg, ev_and, ev_or, ev_neg, ev_var, ev_lc, ev_non, ev_tt, ev_ff, ev_int, ev_str, ev_glb, ev_fnv, ev_tup, ev_lst, ev_bin, ev_lmul, ev_not, ev_cmp, ev_cmp2, ev_ite, ev_call, ev_b1, ev_max2, ev_min2, max2_int, min2_int, ev_isi, ev_idx, ev_sl, ev_rev, ev_app, ev_popAt, ev_index, ev_count, ev_dnew, ev_lam, ev_inrg, ev_pn, ev_ps, ev_skip, ev_pass, ev_par, ev_sub, ev_whl, ev_ret, ev_retN, ev_raise, ev_expr, evA, evI, evT, lcB, bindM, setAll, wipeM, bind_ite, startM, tyIs, md__law_after]
  rw [mm (fi (n := n)) (fun q : Fin n × Fin n => q.2)]
  refine bind_of (loop_pure (fun s => ∃ k, s.1 = aftK ns i k) (fun s => [some (wk t ns), some (fi i), none, none, some (.list (s.1.map fi)), s.2]) fi (fun s m => (aftS ns s.1, some (fi m))) (R n) (aftK ns i 0, none) ⟨0, rfl⟩ ?_) ?_
  · rintro m _ ⟨s, o⟩ ⟨k, rfl⟩
    simp [ev_seq, ev_for, ev_ifs, ev_asg, ev_and, ev_or, ev_neg, ev_var, ev_lc, ev_non, ev_tt, ev_ff, ev_int, ev_str, ev_glb, ev_fnv, ev_tup, ev_lst, ev_bin, ev_lmul, ev_not, ev_cmp, ev_cmp2, ev_ite, ev_call, ev_b1, ev_max2, ev_min2, max2_int, min2_int, ev_isi, ev_idx, ev_sl, ev_rev, ev_app, ev_popAt, ev_index, ev_count, ev_dnew, ev_lam, ev_inrg, ev_pn, ev_ps, ev_skip, ev_pass, ev_par, ev_sub, ev_whl, ev_ret, ev_retN, ev_raise, ev_expr, evA, evI, evT, lcB, bindM, setAll, wipeM, bind_ite, startM, tyIs, forB]
    rw [mm (fi (n := n)) (fun q : Fin n × Fin n => q.2), ← List.map_append]
    exact ⟨rfl, k + 1, rfl⟩
  · simp [ev_seq, ev_for, ev_ifs, ev_asg, ev_and, ev_or, ev_neg, ev_var, ev_lc, ev_non, ev_tt, ev_ff, ev_int, ev_str, ev_glb, ev_fnv, ev_tup, ev_lst, ev_bin, ev_lmul, ev_not, ev_cmp, ev_cmp2, ev_ite, ev_call, ev_b1, ev_max2, ev_min2, max2_int, min2_int, ev_isi, ev_idx, ev_sl, ev_rev, ev_app, ev_popAt, ev_index, ev_count, ev_dnew, ev_lam, ev_inrg, ev_pn, ev_ps, ev_skip, ev_pass, ev_par, ev_sub, ev_whl, ev_ret, ev_retN, ev_raise, ev_expr, evA, evI, evT, lcB, bindM, setAll, wipeM, bind_ite, startM, tyIs]
    rw [foldl_fst (fun f _ => aftS ns f) (fun s m => some (fi m)), foldl_iter (aftS ns) _ (aftK ns i) rfl (fun _ => rfl), sortSet_fin _ Few63.le]
    simp [ev_seq, ev_for, ev_ifs, ev_asg, ev_and, ev_or, ev_neg, ev_var, ev_lc, ev_non, ev_tt, ev_ff, ev_int, ev_str, ev_glb, ev_fnv, ev_tup, ev_lst, ev_bin, ev_lmul, ev_not, ev_cmp, ev_cmp2, ev_ite, ev_call, ev_b1, ev_max2, ev_min2, max2_int, min2_int, ev_isi, ev_idx, ev_sl, ev_rev, ev_app, ev_popAt, ev_index, ev_count, ev_dnew, ev_lam, ev_inrg, ev_pn, ev_ps, ev_skip, ev_pass, ev_par, ev_sub, ev_whl, ev_ret, ev_retN, ev_raise, ev_expr, evA, evI, evT, lcB, bindM, setAll, wipeM, bind_ite, startM, tyIs]
    congr 3
    exact congrArg _ (List.filter_congr fun j _ => by rw [Bool.eq_iff_iff, decide_eq_true_iff, mem_aft, tab_iff])
end Q

-- G2
set_option autoImplicit false
set_option linter.all false
set_option Elab.async false
set_option maxRecDepth 10000
/-! plain, mathematics: levels -/
namespace Q
section
variable {n : Nat} {t : Fin n → Int} {ns : List (Fin n × Fin n)}
/-- no task behind itself -/
def Acy (ns : List (Fin n × Fin n)) : Prop := ∀ i, ¬ Beh ns i i
theorem GoodW.acy (g : GoodW t ns) : Acy ns := fun i => (tab_false i i).mp (g.free i)
/-- how many are behind -/
def ht (ns : List (Fin n × Fin n)) (i : Fin n) : Nat := ((R n).filter fun j => tab ns i j).length
theorem filter_lt {α : Type} {p q : α → Bool} (h : ∀ x, p x = true → q x = true) : ∀ (l : List α) (x : α), x ∈ l → q x = true → p x = false → (l.filter p).length < (l.filter q).length := by
  have le : ∀ l : List α, (l.filter p).length ≤ (l.filter q).length := fun l => by
    induction l with
    | nil => simp
    | cons y r ih =>
      simp only [List.filter_cons]
      cases hp : p y with
      | true => simp only [h y hp, if_true, List.length_cons]; omega
      | false =>
        simp only [Bool.false_eq_true, if_false]
        cases q y <;> simp <;> omega
  intro l x hx hq hp
  induction l with
  | nil => cases hx
  | cons y r ih =>
    simp only [List.filter_cons]
    rcases List.mem_cons.mp hx with rfl | hr
    · simp only [hp, hq, if_true, Bool.false_eq_true, if_false, List.length_cons]
      have := le r; omega
    · have := ih hr
      cases hp : p y with
      | true => simp only [h y hp, if_true, List.length_cons]; omega
      | false =>
        simp only [Bool.false_eq_true, if_false]
        cases q y <;> simp <;> omega
theorem ht_lt (ac : Acy ns) {i j : Fin n} (h : Beh ns i j) : ht ns j < ht ns i :=
  filter_lt (fun x hx => (tab_iff i x).mpr (h.trans ((tab_iff j x).mp hx))) (R n) j (List.mem_finRange j) ((tab_iff i j).mpr h) ((tab_false j j).mpr (ac j))
theorem ht_n (ac : Acy ns) (i : Fin n) : ht ns i < n := by
  have := filter_lt (p := fun j => tab ns i j) (q := fun _ => true) (fun _ _ => rfl) (R n) i (List.mem_finRange i) rfl ((tab_false i i).mpr (ac i))
  have e : ((R n).filter fun _ => true) = R n := by simp
  rw [e, List.length_finRange] at this
  exact this
/-- the greatest of a task's next ones, from 0 on -/
def mxS (ns : List (Fin n × Fin n)) (f : Fin n → Int) (i : Fin n) : Int := ((ns.filter fun p => decide (p.1 = i)).map fun p => f p.2).foldl max 0
theorem mxS_ge (f : Fin n → Int) {i j : Fin n} (h : (i, j) ∈ ns) : f j ≤ mxS ns f i :=
  (foldl_max_ge _ 0).2 _ (List.mem_map.mpr ⟨(i, j), List.mem_filter.mpr ⟨h, by simp⟩, rfl⟩)
theorem mxS_pos (f : Fin n → Int) (i : Fin n) : 0 ≤ mxS ns f i := (foldl_max_ge _ 0).1
theorem mxS_mem (f : Fin n → Int) (i : Fin n) : mxS ns f i = 0 ∨ ∃ j, (i, j) ∈ ns ∧ mxS ns f i = f j := by
  rcases foldl_max_mem ((ns.filter fun p => decide (p.1 = i)).map fun p => f p.2) 0 with h | h
  · exact .inl h
  · obtain ⟨⟨a, b⟩, hp, e⟩ := List.mem_map.mp h
    obtain ⟨h1, h2⟩ := List.mem_filter.mp hp
    simp only [decide_eq_true_eq] at h2
    subst h2
    exact .inr ⟨b, h1, e.symm⟩
theorem mxS_congr {f g : Fin n → Int} {i : Fin n} (h : ∀ j, (i, j) ∈ ns → f j = g j) : mxS ns f i = mxS ns g i := by
  unfold mxS
  refine congrArg (fun l => List.foldl max 0 l) (List.map_congr_left fun p hp => ?_)
  obtain ⟨h1, h2⟩ := List.mem_filter.mp hp
  simp only [decide_eq_true_eq] at h2
  exact h p.2 (by rw [← h2]; exact h1)
theorem lvS_eq (f : Fin n → Int) (i : Fin n) : lvS t ns f i = t i + mxS ns f i := rfl
def lvN (t : Fin n → Int) (ns : List (Fin n × Fin n)) : Nat → Fin n → Int
  | 0 => fun _ => 0
  | k + 1 => lvS t ns (lvN t ns k)
/-- the levels -/
def lev (t : Fin n → Int) (ns : List (Fin n × Fin n)) : Fin n → Int := lvN t ns n
theorem lvK_lev : lvK t ns (R n) = lev t ns := foldl_iter (lvS t ns) _ (lvN t ns) rfl fun _ => rfl
theorem lvN_stab (ac : Acy ns) : ∀ (k : Nat) (i : Fin n), ht ns i < k → lvN t ns (k + 1) i = lvN t ns k i
  | 0, i, h => by omega
  | k + 1, i, h => by
    show t i + mxS ns (lvN t ns (k + 1)) i = t i + mxS ns (lvN t ns k) i
    rw [mxS_congr fun j hj => lvN_stab ac k j (by have := ht_lt ac (.one hj); omega)]
theorem lev_eq (ac : Acy ns) (i : Fin n) : lev t ns i = t i + mxS ns (lev t ns) i := (lvN_stab ac n i (ht_n ac i)).symm
theorem lev_uniq (ac : Acy ns) {f : Fin n → Int} (hf : ∀ i, f i = t i + mxS ns f i) : ∀ (k : Nat) (i : Fin n), ht ns i < k → f i = lev t ns i
  | 0, i, h => by omega
  | k + 1, i, h => by
    rw [hf i, lev_eq ac i, mxS_congr fun j hj => lev_uniq ac hf k j (by have := ht_lt ac (.one hj); omega)]
theorem lev_ge (ac : Acy ns) {i j : Fin n} (h : (i, j) ∈ ns) : t i + lev t ns j ≤ lev t ns i := by
  rw [lev_eq ac i]
  have := mxS_ge (lev t ns) h
  omega
theorem lev_t (ac : Acy ns) (i : Fin n) : t i ≤ lev t ns i := by
  rw [lev_eq ac i]
  have := mxS_pos (ns := ns) (lev t ns) i
  omega
/-- the law's own turns -/
def up {n : Nat} {α : Type} (f : Fin n → α) (i : Fin n) (x : α) : Fin n → α := fun j => if j = i then x else f j
def gsS (t : Fin n → Int) (f : Fin n → Int) (p : Fin n × Fin n) : Fin n → Int := up f p.1 (max (f p.1) (t p.1 + f p.2))
def gsN (t : Fin n → Int) (ns : List (Fin n × Fin n)) : Nat → Fin n → Int
  | 0 => t
  | k + 1 => ns.foldl (gsS t) (gsN t ns k)
theorem gsS_ge (f : Fin n → Int) (p : Fin n × Fin n) (i : Fin n) : f i ≤ gsS t f p i := by
  unfold gsS up
  split
  · rename_i e; subst e; omega
  · exact Int.le_refl _
theorem gs_ge : ∀ (l : List (Fin n × Fin n)) (f : Fin n → Int) (i : Fin n), f i ≤ l.foldl (gsS t) f i
  | [], f, i => Int.le_refl _
  | p :: r, f, i => Int.le_trans (gsS_ge f p i) (gs_ge r _ i)
theorem gs_le (ac : Acy ns) : ∀ (l : List (Fin n × Fin n)) (f : Fin n → Int), (∀ p ∈ l, p ∈ ns) → (∀ i, f i ≤ lev t ns i) → ∀ i, l.foldl (gsS t) f i ≤ lev t ns i
  | [], f, _, h, i => h i
  | p :: r, f, hs, h, i => by
    refine gs_le ac r _ (fun q hq => hs q (List.mem_cons_of_mem _ hq)) (fun j => ?_) i
    unfold gsS up
    split
    · rename_i e
      subst e
      have h1 := h p.1
      have h2 := h p.2
      have h3 := lev_ge (t := t) ac (i := p.1) (j := p.2) (hs p List.mem_cons_self)
      have h4 := h p.1
      omega
    · exact h j
theorem gs_done : ∀ (l : List (Fin n × Fin n)) (f : Fin n → Int) (p : Fin n × Fin n), p ∈ l → t p.1 + f p.2 ≤ l.foldl (gsS t) f p.1
  | q :: r, f, p, hp => by
    rcases List.mem_cons.mp hp with rfl | hr
    · refine Int.le_trans ?_ (gs_ge r (gsS t f p) p.1)
      unfold gsS up
      simp only [if_true]
      omega
    · refine Int.le_trans ?_ (gs_done r (gsS t f q) p hr)
      have := gsS_ge (t := t) f q p.2
      omega
theorem gsN_ok (ac : Acy ns) : ∀ k : Nat, (∀ i, t i ≤ gsN t ns k i ∧ gsN t ns k i ≤ lev t ns i) ∧ ∀ i, ht ns i < k → gsN t ns k i = lev t ns i
  | 0 => ⟨fun i => ⟨Int.le_refl _, lev_t ac i⟩, fun i h => by omega⟩
  | k + 1 => by
    obtain ⟨h1, h2⟩ := gsN_ok ac k
    have ub : ∀ i, gsN t ns (k + 1) i ≤ lev t ns i := gs_le ac ns _ (fun p hp => hp) fun i => (h1 i).2
    refine ⟨fun i => ⟨Int.le_trans (h1 i).1 (gs_ge ns _ i), ub i⟩, fun i hi => Int.le_antisymm (ub i) ?_⟩
    rw [lev_eq ac i]
    rcases mxS_mem (ns := ns) (lev t ns) i with e | ⟨j, hj, e⟩
    · rw [e]
      have a := (h1 i).1
      have b : gsN t ns k i ≤ gsN t ns (k + 1) i := gs_ge ns _ i
      omega
    · rw [e, ← h2 j (by have := ht_lt ac (.one hj); omega)]
      exact gs_done ns (gsN t ns k) (i, j) hj
theorem gs_lev (ac : Acy ns) : gsN t ns n = lev t ns := funext fun i => (gsN_ok ac n).2 i (ht_n ac i)
end
end Q

-- Q3
set_option autoImplicit false
set_option linter.all false
set_option Elab.async false
set_option maxRecDepth 10000
/-! plain, part 3: heaps -/
namespace Q
open PySem MM Com
def resK {α β : Type} (f : α → M β) : Res α → Res β
  | .ok a h => f a h
  | .exc c n h => .exc c n h
  | .bad => .bad
theorem bind_app {α β : Type} (m : M α) (f : α → M β) (h : MH) : M.bind m f h = resK f (m h) := by
  unfold M.bind resK
  cases m h <;> rfl
theorem pure_app {α : Type} (a : α) (h : MH) : M.pure a h = .ok a h := (rfl)
@[simp] theorem resK_ok {α β : Type} (f : α → M β) (a : α) (h : MH) : resK f (.ok a h) = f a h := (rfl)
@[simp] theorem resK_exc {α β : Type} (f : α → M β) (c : Nat) (n : Int) (h : MH) : resK f (.exc c n h) = .exc c n h := (rfl)
@[congr] theorem resK_congr {α β : Type} {f : α → M β} {r r' : Res α} (h : r = r') : resK f r = resK f r' := by rw [h]
theorem ite_app {α : Type} (c : Prop) [Decidable c] (m m' : M α) (h : MH) : (if c then m else m') h = if c then m h else m' h := by split <;> rfl
@[simp] theorem resK_ite {α β : Type} (f : α → M β) (c : Prop) [Decidable c] (a b : Res α) : resK f (if c then a else b) = if c then resK f a else resK f b := by split <;> rfl
/-- what stands at a number -/
def refKK {α : Type} (fl : List MV → M α) (fd : List (MV × MV) → M α) : Option MO → M α
  | some (.lst xs) => fl xs
  | some (.dct es) => fd es
  | none => bad
@[simp] theorem refKK_lst {α : Type} (fl : List MV → M α) (fd : List (MV × MV) → M α) (xs : List MV) : refKK fl fd (some (.lst xs)) = fl xs := (rfl)
@[simp] theorem refKK_dct {α : Type} (fl : List MV → M α) (fd : List (MV × MV) → M α) (xs : List (MV × MV)) : refKK fl fd (some (.dct xs)) = fd xs := (rfl)
@[congr] theorem refKK_congr {α : Type} {fl : List MV → M α} {fd : List (MV × MV) → M α} {o o' : Option MO} (h : o = o') : refKK fl fd o = refKK fl fd o' := by rw [h]
theorem rfOf_lit (r : Nat) : rfOf (PyData.dict [(PyData.none, PyData.int (r : Int))]) = some r := by simp [rfOf]
section
variable (r : Nat) (h : MH)
@[simp] theorem seqM_rf : seqM (rf r) h = refKK (fun xs => M.pure xs) (fun _ => bad) h[r]? h := by
  simp only [rf, seqM, rfOf_lit]
  cases h[r]? with
  | none => rfl
  | some o => cases o <;> rfl
@[simp] theorem len_rf : b1M .len (rf r) h = refKK (fun xs => M.pure (.int xs.length)) (fun xs => M.pure (.int xs.length)) h[r]? h := by
  simp only [rf, b1M, rfOf_lit]
  cases h[r]? with
  | none => rfl
  | some o => cases o <;> rfl
@[simp] theorem idx_rf (k : MV) : idxM (rf r) k h = refKK (fun xs => match k with | .int i => atM xs i | _ => bad) (fun es => if isKey k then opt (dget k es) else bad) h[r]? h := by
  simp only [rf, idxM, rfOf_lit]
  cases h[r]? with
  | none => rfl
  | some o => cases o with
    | lst xs => cases k <;> rfl
    | dct es => dsimp only [refKK]; split <;> rfl
@[simp] theorem chk_rf : lstChk (rf r) h = refKK (fun xs => M.pure ()) (fun _ => bad) h[r]? h := by
  simp only [rf, lstChk, rfOf_lit]
  cases h[r]? with
  | none => rfl
  | some o => cases o <;> rfl
@[simp] theorem in_rf (a : MV) : inM a (rf r) h = refKK (fun xs => inSeq a (.list xs)) (fun es => if isKey a then M.pure (dget a es).isSome else bad) h[r]? h := by
  simp only [inM, rfOf_rf]
  cases e : h[r]? with
  | none => simp only [inSeq, bindEq, bind_app, seqM_rf, e]; rfl
  | some o => cases o with
    | lst xs => simp only [inSeq, bindEq, bind_app, seqM_rf, e, refKK_lst, pure_app, resK_ok, seqM_list]
    | dct es => dsimp only [refKK]; split <;> rfl
end
/-- changes -/
theorem pop_ok {h : MH} {r : Nat} {xs : List MV} (hr : h[r]? = some (.lst xs)) (k : Nat) {y : MV} (hk : xs[k]? = some y) : popM (rf r) (.int (k : Int)) h = .ok y (h.set r (.lst (xs.eraseIdx k))) := by
  have hl : k < xs.length := (List.getElem?_eq_some_iff.mp hk).1
  simp only [popM, onRef, rfOf_rf, hr]
  have : ixOf xs.length (k : Int) = some k := by
    unfold ixOf
    rw [if_pos (by omega), if_pos (by omega)]
    simp
  rw [this]
  simp only [Option.bind_some, hk, Option.map_some]
theorem app_ok {h : MH} {r : Nat} {xs : List MV} (hr : h[r]? = some (.lst xs)) (hl : xs.length < cap) {a : MV} (ha : a.plain = true) : appM (rf r) a h = .ok .none (h.set r (.lst (xs ++ [a]))) := by
  simp only [appM, ha, if_true, onRef, rfOf_rf, hr, if_pos hl]
theorem put_ok {h : MH} {r : Nat} {xs : List MV} (hr : h[r]? = some (.lst xs)) (k : Nat) (hk : k < xs.length) {a : MV} (ha : a.plain = true) : putM (rf r) (.int (k : Int)) a h = .ok .none (h.set r (.lst (xs.set k a))) := by
  have : ixOf xs.length (k : Int) = some k := by
    unfold ixOf
    rw [if_pos (by omega), if_pos (by omega)]
    simp
  simp only [putM, ha, if_true, onRef, rfOf_rf, hr, this, Option.map_some]
/-- a source of draws stands at r -/
def Sp (h : MH) (r : Nat) : Prop := ∃ a b : Int, h[r]? = some (.lst [.int a, .int b])
/-- but for r the same -/
structure Same (r : Nat) (h h' : MH) : Prop where
  len : h'.length = h.length
  el : ∀ q, q ≠ r → h'[q]? = h[q]?
theorem Same.refl {r : Nat} {h : MH} : Same r h h := ⟨rfl, fun _ _ => rfl⟩
theorem Same.trans {r : Nat} {h h' h'' : MH} (a : Same r h h') (b : Same r h' h'') : Same r h h'' := ⟨b.len.trans a.len, fun q n => (b.el q n).trans (a.el q n)⟩
theorem Sp.lt {h : MH} {r : Nat} (s : Sp h r) : r < h.length := let ⟨_, _, e⟩ := s; (List.getElem?_eq_some_iff.mp e).1
theorem same_set {r : Nat} {h : MH} {o : MO} : Same r h (h.set r o) := ⟨by simp, fun q n => List.getElem?_set_ne (fun e => n e.symm)⟩
variable {P : Nat → Option MD} {L : Nat → Option ME} {G : Nat → Option Int} {d : Nat} {K : List (Option MSt)}
/-- a call whose body ends with a plain value -/
theorem fn_plain {f : Nat} {md : MD} [hp : Has P f md] {vs : List MV} {v : MV} {h h' : MH} (hl : vs.length = md.np) (hv : v.plain = true)
    (e : evS (callM P L G d) K md.body (startM vs md.ns) h = .ok (.rt v) h') : (callM P L G (d + 1)).fn f K vs h = .ok v (h'.take h.length) := by
  rw [fn_eq hl, e]
  simp only [gc, hv, if_true]
theorem mod_ok (x m : Int) (h : 0 < m) : binM .mod (.int x) (.int m) = M.pure (.int (x % m)) := if_pos h
theorem div_ok (x m : Int) (h : 0 < m) (h2 : m.natAbs < 2 ^ 9000) : binM .fdiv (.int x) (.int m) = M.pure (.int (x / m)) := if_pos (by unfold divOk; rw [decide_eq_true h, decide_eq_true h2, Bool.or_true]; rfl)
theorem div_ok' (x m : Int) (h : 0 < m) (h2 : m < 1073741824) : binM .fdiv (.int x) (.int m) = M.pure (.int (x / m)) := if_pos (by unfold divOk; rw [decide_eq_true h, decide_eq_true h2]; rfl)
theorem mul_okR (x m : Int) (h : -(2 ^ 64) < m) (h2 : m < 2 ^ 64) : binM .mul (.int x) (.int m) = M.pure (.int (x * m)) := if_pos (by unfold mulOk small; rw [decide_eq_true h, decide_eq_true h2]; simp)
theorem mul_okL (x m : Int) (h : -(2 ^ 64) < x) (h2 : x < 2 ^ 64) : binM .mul (.int x) (.int m) = M.pure (.int (x * m)) := if_pos (by unfold mulOk small; rw [decide_eq_true h, decide_eq_true h2]; simp)
theorem pick_ok [Has P 51 md__law_pick] {h : MH} {r : Nat} (s : Sp h r) (m : Int) (h1 : 1 ≤ m) (h2 : m.natAbs < 2 ^ 9000) : ∃ v h', (∀ (d : Nat) (K : List (Option MSt)), (callM P L G (d + 1)).fn 51 K [rf r, .int m] h = .ok (.int v) h') ∧ 0 ≤ v ∧ v < m ∧ Sp h' r ∧ Same r h h' := by
  have hr := s.lt
  obtain ⟨a, b, hs⟩ := s
  have hm : ∀ x : Int, binM .mod (.int x) (.int m) = M.pure (.int (x % m)) := fun x => mod_ok x m (by omega)
  have hm' : ∀ x : Int, binM .mod (.int x) (.int 999999999959) = M.pure (.int (x % 999999999959)) := fun x => mod_ok x _ (by omega)
  have hd : ∀ x : Int, binM .fdiv (.int x) (.int m) = M.pure (.int (x / m)) := fun x => div_ok x m (by omega) h2
  have hd' : ∀ x : Int, binM .fdiv (.int x) (.int 3181) = M.pure (.int (x / 3181)) := fun x => div_ok' x _ (by omega) (by omega)
  have hM : ∀ x : Int, binM .mul (.int x) (.int 318665857834) = M.pure (.int (x * 318665857834)) := fun x => mul_okR x _ (by decide) (by decide)
  by_cases ha : 0 < a
  · refine ⟨a % m, h.set r (.lst [.int (a / m), .int b]), fun d K => ?_, Int.emod_nonneg _ (by omega), Int.emod_lt_of_pos _ (by omega), ⟨_, _, List.getElem?_set_self hr⟩, same_set⟩
    have p := put_ok hs 0 (by simp) (plain_int (a / m))
    refine (fn_plain (v := .int (a % m)) rfl rfl (h' := h.set r (.lst [.int (a / m), .int b])) ?_).trans (by rw [List.take_of_length_le (by simp)])
    simp only [List.set, Int.ofNat_zero, Int.natCast_zero] at p
    simp [ev_seq, ev_for, ev_ifs, ev_asg, ev_and, ev_or, ev_neg, ev_var, ev_lc, ev_non, ev_tt, ev_ff, ev_int, ev_str, ev_glb, ev_fnv, ev_tup, ev_lst, ev_bin, ev_lmul, ev_not, ev_cmp, ev_cmp2, ev_ite, ev_call, ev_b1, ev_max2, ev_min2, max2_int, min2_int, ev_isi, ev_idx, ev_sl, ev_rev, ev_app, ev_popAt, ev_index, ev_count, ev_dnew, ev_lam, ev_inrg, ev_pn, ev_ps, ev_skip, ev_pass, ev_par, ev_sub, ev_whl, ev_ret, ev_retN, ev_raise, ev_expr, evA, evI, evT, lcB, bindM, setAll, wipeM, bind_ite, startM, tyIs, md__law_pick, bind_app, pure_app, ite_app, hs, ha, hm, hd, b1M, p]
  · generalize hb : (b * 318665857834 + 12289) % 999999999959 = b'
    refine ⟨b' / 3181 % m, h.set r (.lst [.int a, .int b']), fun d K => ?_, Int.emod_nonneg _ (by omega), Int.emod_lt_of_pos _ (by omega), ⟨_, _, List.getElem?_set_self hr⟩, same_set⟩
    have p := put_ok hs 1 (by simp) (plain_int b')
    have q : (h.set r (.lst [.int a, .int b']))[r]? = some (.lst [.int a, .int b']) := List.getElem?_set_self hr
    refine (fn_plain (v := .int (b' / 3181 % m)) rfl rfl (h' := h.set r (.lst [.int a, .int b'])) ?_).trans (by rw [List.take_of_length_le (by simp)])
    simp only [List.set, Int.natCast_one] at p
    simp [ev_seq, ev_for, ev_ifs, ev_asg, ev_and, ev_or, ev_neg, ev_var, ev_lc, ev_non, ev_tt, ev_ff, ev_int, ev_str, ev_glb, ev_fnv, ev_tup, ev_lst, ev_bin, ev_lmul, ev_not, ev_cmp, ev_cmp2, ev_ite, ev_call, ev_b1, ev_max2, ev_min2, max2_int, min2_int, ev_isi, ev_idx, ev_sl, ev_rev, ev_app, ev_popAt, ev_index, ev_count, ev_dnew, ev_lam, ev_inrg, ev_pn, ev_ps, ev_skip, ev_pass, ev_par, ev_sub, ev_whl, ev_ret, ev_retN, ev_raise, ev_expr, evA, evI, evT, lcB, bindM, setAll, wipeM, bind_ite, startM, tyIs, md__law_pick, bind_app, pure_app, ite_app, hs, ha, hm, hm', hd, hd', hM, b1M, hb, p, q, -List.getElem?_set_self]
end Q

-- L2
set_option autoImplicit false
set_option linter.all false
set_option Elab.async false
set_option maxRecDepth 10000
set_option exponentiation.threshold 10000
/-! plain: draws -/
namespace Q
open PySem MM Com
variable {P : Nat → Option MD} {L : Nat → Option ME} {G : Nat → Option Int} {d : Nat} {K : List (Option MSt)}
theorem big_ok (m : Int) (h1 : 1 ≤ m) (h2 : m ≤ 10000000000000000000000000000000) : m.natAbs < 2 ^ 9000 := by
  have a : m.natAbs < 2 ^ 104 := by
    have : (2 : Nat) ^ 104 = 20282409603651670423947251286016 := by decide
    rw [this]; omega
  exact Nat.lt_of_lt_of_le a (Nat.pow_le_pow_right (by decide) (by decide))
/-- a draw below m -/
theorem pickS [Has P 51 md__law_pick] {h : MH} {r : Nat} (s : Sp h r) (m : Int) (h1 : 1 ≤ m) (h2 : m ≤ 10000000000000000000000000000000) : ∃ (v : Nat) (h' : MH), (∀ (d : Nat) (K : List (Option MSt)), (callM P L G (d + 1)).fn 51 K [rf r, .int m] h = .ok (.int (v : Int)) h') ∧ (v : Int) < m ∧ Sp h' r ∧ Same r h h' := by
  obtain ⟨v, h', e, a, b, c⟩ := pick_ok (P := P) (L := L) (G := G) s m h1 (big_ok m h1 h2)
  obtain ⟨k, rfl⟩ := Int.eq_ofNat_of_zero_le a
  exact ⟨k, h', e, b, c⟩
/-- the heap without what was made since -/
theorem Sp.take {h : MH} {r n : Nat} (s : Sp h r) (hn : r < n) : Sp (h.take n) r := by
  obtain ⟨a, b, e⟩ := s
  exact ⟨a, b, by rw [List.getElem?_take_of_lt hn]; exact e⟩
theorem same_take {h h' : MH} {r : Nat} (hl : h.length ≤ h'.length) (e : ∀ q, q < h.length → q ≠ r → h'[q]? = h[q]?) : Same r h (h'.take h.length) := by
  refine ⟨by rw [List.length_take]; omega, fun q n => ?_⟩
  by_cases hq : q < h.length
  · rw [List.getElem?_take_of_lt hq]; exact e q hq n
  · rw [List.getElem?_eq_none (by rw [List.length_take]; omega), List.getElem?_eq_none (by omega)]
@[simp] theorem app_last {h : MH} {o : MO} : (h ++ [o])[h.length]? = some o := by simp
theorem Sp.app {h : MH} {r : Nat} {o : MO} (s : Sp h r) : Sp (h ++ [o]) r := by
  have := s.lt
  obtain ⟨a, b, e⟩ := s
  exact ⟨a, b, by rw [List.getElem?_append_left this]; exact e⟩
theorem Sp.set {h : MH} {r q : Nat} {o : MO} (s : Sp h r) (hq : q ≠ r) : Sp (h.set q o) r := by
  obtain ⟨a, b, e⟩ := s
  exact ⟨a, b, by rw [List.getElem?_set_ne hq]; exact e⟩
@[simp] theorem mkList_mu (xs : List MV) (hp : PyData.plainAll xs = true) (h : MH) : mkList true xs h = .ok (rf h.length) (h ++ [.lst xs]) := by
  simp [mkList, hp]
@[simp] theorem list_mu (xs : List MV) (hp : PyData.plainAll xs = true) (h : MH) : b1M (.list true) (.list xs) h = .ok (rf h.length) (h ++ [.lst xs]) := by
  simp [b1M, mkList, hp]
/-- a loop by an invariant, for a family of bodies -/
theorem loop_fam {ι : Type} {body : ι → MV → MSt → M Fl} (xs : List MV) (I : Nat → MSt → MH → Prop) {σ : MSt} {h : MH} (h0 : I 0 σ h)
    (hs : ∀ (k : Nat) (x : MV) (σ : MSt) (h : MH), xs[k]? = some x → I k σ h → ∃ σ' h', (∀ i, body i x σ h = .ok (.nx σ') h') ∧ I (k + 1) σ' h') :
    ∃ σ' h', (∀ i, loopF (body i) xs σ h = .ok (.nx σ') h') ∧ I xs.length σ' h' := by
  induction xs generalizing I σ h with
  | nil => exact ⟨σ, h, fun _ => rfl, h0⟩
  | cons x r ih =>
    obtain ⟨σ1, h1, e1, i1⟩ := hs 0 x σ h rfl h0
    obtain ⟨σ2, h2, e2, i2⟩ := ih (fun k => I (k + 1)) i1 (fun k y σ h hk hi => hs (k + 1) y σ h (by simpa using hk) hi)
    refine ⟨σ2, h2, fun i => ?_, i2⟩
    simp only [loopF, M.bind, e1]
    exact e2 i
theorem erase_map {α β : Type} (f : α → β) : ∀ (l : List α) (k : Nat), (l.map f).eraseIdx k = (l.eraseIdx k).map f
  | [], _ => rfl
  | _ :: _, 0 => rfl
  | x :: r, k + 1 => by simp only [List.map_cons, List.eraseIdx_cons_succ, erase_map f r k]
theorem erase_perm {α : Type} : ∀ (l : List α) (k : Nat) (hk : k < l.length), (l[k] :: l.eraseIdx k).Perm l
  | x :: r, 0, _ => List.Perm.refl _
  | x :: r, k + 1, hk => by
    simp only [List.getElem_cons_succ, List.eraseIdx_cons_succ]
    exact (List.Perm.swap _ _ _).trans ((erase_perm r k (by simpa using hk)).cons x)
theorem mixed_ok [Has P 51 md__law_pick] [Has P 43 md__law_mixed] {h : MH} {r n : Nat} [Few n] (s : Sp h r) : ∃ (o : List (Fin n)) (h' : MH), (∀ (d : Nat) (K : List (Option MSt)), (callM P L G (d + 2)).fn 43 K [rf r, .int n] h = .ok (.tuple (o.map fi)) h') ∧ o.Perm (R n) ∧ Sp h' r ∧ Same r h h' := by
  have hr := s.lt
  have hn := Few.le (n := n)
  have hne : h.length ≠ r := by omega
  let I : Nat → MSt → MH → Prop := fun k σ H => ∃ (rem fnd : List (Fin n)) (x : Option MV), σ = [some (rf r), some (.int n), some (rf h.length), some (.tuple (fnd.map fi)), x] ∧
    H.length = h.length + 1 ∧ Sp H r ∧ H[h.length]? = some (.lst (rem.map fi)) ∧ (fnd ++ rem).Perm (R n) ∧ fnd.length = k ∧ ∀ q, q < h.length → q ≠ r → H[q]? = h[q]?
  obtain ⟨σ', H, e, rem, o, x, rfl, p1, p2, p3, p4, p5, p6⟩ := loop_fam (body := fun (i : Nat × List (Option MSt)) => forB (callM P L G (i.1 + 1)) i.2 (.nm 4) (.seq (.asg (.nm 3) (.bin .add (.var 3) (.tup (.cons (.popAt (.var 2) (.call 51 (.cons (.var 0) (.cons (.b1 .len (.seq (.var 2))) .nil)))) .nil)))) .skip))
      ((R n).map fi) I (σ := [some (rf r), some (.int n), some (rf h.length), some (.tuple []), none]) (h := h ++ [.lst ((R n).map fi)])
      ⟨R n, [], none, rfl, by simp, s.app, app_last, by simp, rfl, fun q hq _ => List.getElem?_append_left hq⟩ (by
    intro k x σ H hk hi
    obtain ⟨rem, fnd, y, rfl, q1, q2, q3, q4, q5, q6⟩ := hi
    have hk' : k < n := by
      have := (List.getElem?_eq_some_iff.mp hk).1
      simpa using this
    have hl : fnd.length + rem.length = n := by have := q4.length_eq; simpa using this
    obtain ⟨v, H', e, v1, s', sm⟩ := pickS (P := P) (L := L) (G := G) q2 (rem.length : Int) (by omega) (by omega)
    have hv : v < rem.length := by omega
    have hr3 : H'[h.length]? = some (.lst (rem.map fi)) := by rw [sm.el _ hne]; exact q3
    have pp := pop_ok hr3 v (y := fi rem[v]) (by simp [hv])
    have : Short fnd := ⟨by omega⟩
    refine ⟨[some (rf r), some (.int n), some (rf h.length), some (.tuple ((fnd ++ [rem[v]]).map fi)), some x], H'.set h.length (.lst ((rem.eraseIdx v).map fi)), fun i => ?_, rem.eraseIdx v, fnd ++ [rem[v]], some x, rfl, ?_, ?_, ?_, ?_, ?_, ?_⟩
    · obtain ⟨d, K⟩ := i
      have le : List.eraseIdx (rem.map fi) v = (rem.eraseIdx v).map fi := erase_map _ _ _
      rw [le] at pp
      simp [ev_seq, ev_for, ev_ifs, ev_asg, ev_and, ev_or, ev_neg, ev_var, ev_lc, ev_non, ev_tt, ev_ff, ev_int, ev_str, ev_glb, ev_fnv, ev_tup, ev_lst, ev_bin, ev_lmul, ev_not, ev_cmp, ev_cmp2, ev_ite, ev_call, ev_b1, ev_max2, ev_min2, max2_int, min2_int, ev_isi, ev_idx, ev_sl, ev_rev, ev_app, ev_popAt, ev_index, ev_count, ev_dnew, ev_lam, ev_inrg, ev_pn, ev_ps, ev_skip, ev_pass, ev_par, ev_sub, ev_whl, ev_ret, ev_retN, ev_raise, ev_expr, evA, evI, evT, lcB, bindM, setAll, wipeM, bind_ite, startM, tyIs, forB, bind_app, pure_app, ite_app, q3, e, pp, hr3]
    · simp [sm.len, q1]
    · exact s'.set hne
    · exact List.getElem?_set_self (by rw [sm.len]; omega)
    · refine List.Perm.trans ?_ q4
      rw [List.append_assoc]
      refine List.Perm.append_left _ ?_
      exact erase_perm rem v hv
    · simp [q5]
    · intro q hq hq'
      rw [List.getElem?_set_ne (by omega), sm.el q hq', q6 q hq hq'])
  have hrem : rem = [] := by
    have := p4.length_eq
    simp at this p5
    exact List.eq_nil_of_length_eq_zero (by omega)
  subst hrem
  refine ⟨o, H.take h.length, fun d K => ?_, by simpa using p4, p2.take hr, same_take (by omega) p6⟩
  refine fn_plain rfl (by simp) ?_
  have e := e (d, K)
  simp [ev_seq, ev_for, ev_ifs, ev_asg, ev_and, ev_or, ev_neg, ev_var, ev_lc, ev_non, ev_tt, ev_ff, ev_int, ev_str, ev_glb, ev_fnv, ev_tup, ev_lst, ev_bin, ev_lmul, ev_not, ev_cmp, ev_cmp2, ev_ite, ev_call, ev_b1, ev_max2, ev_min2, max2_int, min2_int, ev_isi, ev_idx, ev_sl, ev_rev, ev_app, ev_popAt, ev_index, ev_count, ev_dnew, ev_lam, ev_inrg, ev_pn, ev_ps, ev_skip, ev_pass, ev_par, ev_sub, ev_whl, ev_ret, ev_retN, ev_raise, ev_expr, evA, evI, evT, lcB, bindM, setAll, wipeM, bind_ite, startM, tyIs, md__law_mixed, bind_app, pure_app, ite_app, e]
/-- a list by its places -/
theorem as_fin {α : Type} {n : Nat} (l : List α) (h : l.length = n) : l = (R n).map fun i => l[i.val]'(by rw [h]; exact i.isLt) := by
  apply List.ext_getElem <;> simp [h]
theorem map_fin {α β : Type} {n : Nat} (f : α → β) (l : List α) (h : l.length = n) : l.map f = (R n).map fun i => f (l[i.val]'(by rw [h]; exact i.isLt)) := by
  apply List.ext_getElem <;> simp [h]
theorem wm_ok (v : Nat) (h : v < 4) : ∃ m : Int, atM [.int 1, .int 4, .int 12, .int 5] (v : Int) = M.pure (.int m) ∧ 1 ≤ m ∧ m ≤ 12 ∧ (v = 3 → m = 5) := by
  match v, h with
  | 0, _ => exact ⟨1, atM_nat rfl, by decide, by decide, by decide⟩
  | 1, _ => exact ⟨4, atM_nat rfl, by decide, by decide, by decide⟩
  | 2, _ => exact ⟨12, atM_nat rfl, by decide, by decide, by decide⟩
  | 3, _ => exact ⟨5, atM_nat rfl, by decide, by decide, by decide⟩
theorem isort_asc {n : Nat} : ∀ {ns : List (Fin n × Fin n)}, (ns.Pairwise fun p q => ltP p q = true) → isort (ns.map fp) = ns.map fp
  | [], _ => rfl
  | p :: r, h => by
    rw [List.pairwise_cons] at h
    rw [List.map_cons, isort, isort_asc h.2]
    cases r with
    | nil => rfl
    | cons q s =>
      have hq := h.1 q List.mem_cons_self
      rw [List.map_cons, ins]
      rw [show W.dataLt (fp q) (fp p) = false from ?_]
      · rfl
      · refine (W.dataLt_ii _ _ _ _).trans ?_
        simp only [ltP, decide_eq_true_eq, Fin.lt_def, Fin.ext_iff] at hq
        rw [decide_eq_false_iff_not]
        omega
theorem sortable_fps {n : Nat} (ns : List (Fin n × Fin n)) : sortable (ns.map fp) = true := by
  have hd : PyData.depthAll (ns.map fp) ≤ 100 := depth_map_le fp 100 (fun p => by simp [PyData.depth, PyData.depthAll]) ns
  have ha : allAlike (ns.map fp) = true := by simp [allAlike, W.alike, W.alikeAll]
  unfold sortable
  rw [ha, decide_eq_true hd]
  simp
theorem sorted_fps {n : Nat} (ns : List (Fin n × Fin n)) (h : ns.Pairwise fun p q => ltP p q = true) : (if sortable (ns.map fp) = true then (M.pure (.list (isort (ns.map fp))) : M MV) else bad) = M.pure (.list (ns.map fp)) := by
  rw [if_pos (sortable_fps ns), isort_asc h]
@[simp] theorem tuple_list (xs : List MV) : b1M .tuple (.list xs) = M.pure (.tuple xs) := (rfl)
@[simp] theorem tuple_tup (xs : List MV) : b1M .tuple (.tuple xs) = M.pure (.tuple xs) := (rfl)
@[simp] theorem sorted_rf (r : Nat) (h : MH) : b1M .sorted (rf r) h = refKK (fun xs => if sortable xs = true then M.pure (.list (isort xs)) else bad) (fun _ => bad) h[r]? h := by
  simp only [b1M, bindEq, bind_app, seqM_rf]
  cases e : h[r]? with
  | none => rfl
  | some o => cases o <;> simp [pure_app, e]; rfl
end Q

-- L3
set_option autoImplicit false
set_option linter.all false
set_option Elab.async false
set_option maxRecDepth 10000
set_option exponentiation.threshold 10000
/-! plain: a drawn work -/
namespace Q
open PySem MM Com
variable {P : Nat → Option MD} {L : Nat → Option ME} {G : Nat → Option Int} {d : Nat} {K : List (Option MSt)}
theorem pow_ok (i j : Int) (h : 0 ≤ j) (h2 : j ≤ 1000000) (h3 : i.natAbs < 2 ^ 64) : binM .pow (.int i) (.int j) = M.pure (.int (i ^ j.toNat)) := if_pos (by rw [decide_eq_true h, decide_eq_true h2, decide_eq_true h3]; rfl)
theorem pow28 : binM .pow (.int 10) (.int 28) = M.pure (.int 10000000000000000000000000000) := pow_ok 10 28 (by decide) (by decide) (by decide)
abbrev Dk := Nat × List (Option MSt)
/-- the times -/
theorem work_times [Has P 51 md__law_pick] {h : MH} {r q n w : Nat} [Few n] (hw : w < 4) (s : Sp h r) (hq : q ≠ r) (lo hi th : Int) (rk nd : MV) (a b : Option MV) :
    ∃ (ts : List Int) (h' : MH) (x y : Option MV), (∀ i : Dk, loopF (forB (callM P L G (i.1 + 1)) i.2 (.nm 9) lp__law_work_2) ((R n).map fi) [some (rf r), some (.int lo), some (.int hi), some (.int n), some (.int (w : Int)), some (.int th), some rk, some (.tuple []), some (rf q), none, none, a, b] h
      = .ok (.nx [some (rf r), some (.int lo), some (.int hi), some (.int n), some (.int (w : Int)), some (.int th), some rk, some (.tuple (ts.map .int)), some (rf q), x, y, a, b]) h') ∧ ts.length = n ∧ (∀ t ∈ ts, 1 ≤ t ∧ t ≤ MOST) ∧ Sp h' r ∧ Same r h h' := by
  have hn := Few.le (n := n)
  obtain ⟨m, em, m1, m2, m3⟩ := wm_ok w hw
  let I : Nat → MSt → MH → Prop := fun k σ H => ∃ (ts : List Int) (x y : Option MV), σ = [some (rf r), some (.int lo), some (.int hi), some (.int n), some (.int (w : Int)), some (.int th), some rk, some (.tuple (ts.map .int)), some (rf q), x, y, a, b] ∧ ts.length = k ∧ (∀ t ∈ ts, 1 ≤ t ∧ t ≤ MOST) ∧ Sp H r ∧ Same r h H
  obtain ⟨σ', H, e, ts, x, y, rfl, p1, p2, p3, p4⟩ := loop_fam (body := fun (i : Dk) => forB (callM P L G (i.1 + 1)) i.2 (.nm 9) lp__law_work_2) ((R n).map fi) I (h := h) (σ := [some (rf r), some (.int lo), some (.int hi), some (.int n), some (.int (w : Int)), some (.int th), some rk, some (.tuple []), some (rf q), none, none, a, b])
    ⟨[], none, none, rfl, rfl, by simp, s, Same.refl⟩ (by
    rintro k x σ H hk ⟨ts, y, z, rfl, q1, q2, q3, q4⟩
    have hk' : k < n := by
      have := (List.getElem?_eq_some_iff.mp hk).1
      simpa using this
    have : Short ts := ⟨by omega⟩
    obtain ⟨v, h1, e1, v1, s1, sm1⟩ := pickS (P := P) (L := L) (G := G) q3 m m1 (by omega)
    by_cases hw3 : w = 3
    · subst hw3
      have m3 := m3 rfl
      subst m3
      have hM := mul_okL (1 + (v : Int)) 10000000000000000000000000000 (by omega) (by omega)
      obtain ⟨u, h2, e2, u1, s2, sm2⟩ := pickS (P := P) (L := L) (G := G) s1 3 (by omega) (by omega)
      refine ⟨[some (rf r), some (.int lo), some (.int hi), some (.int n), some (.int (3 : Nat)), some (.int th), some rk, some (.tuple ((ts ++ [(1 + (v : Int)) * 10000000000000000000000000000 + u]).map .int)), some (rf q), some x, some (.int (1 + (v : Int))), a, b], h2, fun i => ?_, _, _, _, rfl, by simp [q1], ?_, s2, q4.trans (sm1.trans sm2)⟩
      · obtain ⟨d, K⟩ := i
        simp [ev_seq, ev_for, ev_ifs, ev_asg, ev_and, ev_or, ev_neg, ev_var, ev_lc, ev_non, ev_tt, ev_ff, ev_int, ev_str, ev_glb, ev_fnv, ev_tup, ev_lst, ev_bin, ev_lmul, ev_not, ev_cmp, ev_cmp2, ev_ite, ev_call, ev_b1, ev_max2, ev_min2, max2_int, min2_int, ev_isi, ev_idx, ev_sl, ev_rev, ev_app, ev_popAt, ev_index, ev_count, ev_dnew, ev_lam, ev_inrg, ev_pn, ev_ps, ev_skip, ev_pass, ev_par, ev_sub, ev_whl, ev_ret, ev_retN, ev_raise, ev_expr, evA, evI, evT, lcB, bindM, setAll, wipeM, bind_ite, startM, tyIs, lp__law_work_2, forB, bind_app, pure_app, ite_app, e1, e2, em, pow28, hM]
      · intro t ht
        rcases List.mem_append.mp ht with ht | ht
        · exact q2 t ht
        · have : t = (1 + (v : Int)) * 10000000000000000000000000000 + u := by simpa using ht
          subst this
          unfold MOST
          omega
    · refine ⟨[some (rf r), some (.int lo), some (.int hi), some (.int n), some (.int (w : Int)), some (.int th), some rk, some (.tuple ((ts ++ [(1 + (v : Int))]).map .int)), some (rf q), some x, some (.int (1 + (v : Int))), a, b], h1, fun i => ?_, _, _, _, rfl, by simp [q1], ?_, s1, q4.trans sm1⟩
      · obtain ⟨d, K⟩ := i
        have hw4 : ¬ (w : Int) = 3 := by omega
        simp [ev_seq, ev_for, ev_ifs, ev_asg, ev_and, ev_or, ev_neg, ev_var, ev_lc, ev_non, ev_tt, ev_ff, ev_int, ev_str, ev_glb, ev_fnv, ev_tup, ev_lst, ev_bin, ev_lmul, ev_not, ev_cmp, ev_cmp2, ev_ite, ev_call, ev_b1, ev_max2, ev_min2, max2_int, min2_int, ev_isi, ev_idx, ev_sl, ev_rev, ev_app, ev_popAt, ev_index, ev_count, ev_dnew, ev_lam, ev_inrg, ev_pn, ev_ps, ev_skip, ev_pass, ev_par, ev_sub, ev_whl, ev_ret, ev_retN, ev_raise, ev_expr, evA, evI, evT, lcB, bindM, setAll, wipeM, bind_ite, startM, tyIs, lp__law_work_2, forB, bind_app, pure_app, ite_app, e1, em, hw4]
      · intro t ht
        rcases List.mem_append.mp ht with ht | ht
        · exact q2 t ht
        · have : t = 1 + (v : Int) := by simpa using ht
          subst this
          unfold MOST
          omega)
  exact ⟨ts, H, x, y, e, by simpa using p1, p2, p3, p4⟩
/-- but for r and q the same -/
structure Same2 (r q : Nat) (h h' : MH) : Prop where
  len : h'.length = h.length
  el : ∀ u, u ≠ r → u ≠ q → h'[u]? = h[u]?
theorem Same2.refl {r q : Nat} {h : MH} : Same2 r q h h := ⟨rfl, fun _ _ _ => rfl⟩
theorem Same2.trans {r q : Nat} {h h' h'' : MH} (a : Same2 r q h h') (b : Same2 r q h' h'') : Same2 r q h h'' := ⟨b.len.trans a.len, fun u n m => (b.el u n m).trans (a.el u n m)⟩
theorem Same.two {r : Nat} {q : Nat} {h h' : MH} (a : Same r h h') : Same2 r q h h' := ⟨a.len, fun u n _ => a.el u n⟩
theorem same2_set {r q : Nat} {h : MH} {o : MO} : Same2 r q h (h.set q o) := ⟨by simp, fun u _ m => List.getElem?_set_ne (fun e => m e.symm)⟩
/-- needs drawn so far: sorted, with the rank, up to a place -/
structure Nds {n : Nat} (rk : Fin n → Fin n) (ns : List (Fin n × Fin n)) (a b : Nat) : Prop where
  asc : ns.Pairwise fun p q => ltP p q = true
  rank : ∀ p ∈ ns, rk p.1 < rk p.2
  at_ : ∀ p ∈ ns, p.1.val < a ∨ p.1.val = a ∧ p.2.val < b
theorem Nds.next {n : Nat} {rk : Fin n → Fin n} {ns : List (Fin n × Fin n)} {a b b' : Nat} (h : Nds rk ns a b) (hb : b ≤ b') : Nds rk ns a b' := ⟨h.asc, h.rank, fun p hp => by have := h.at_ p hp; omega⟩
theorem Nds.row {n : Nat} {rk : Fin n → Fin n} {ns : List (Fin n × Fin n)} {a b : Nat} (h : Nds rk ns a b) : Nds rk ns (a + 1) 0 := ⟨h.asc, h.rank, fun p hp => by have := h.at_ p hp; omega⟩
theorem Nds.add {n : Nat} {rk : Fin n → Fin n} {ns : List (Fin n × Fin n)} {i j : Fin n} (h : Nds rk ns i.val j.val) (hr : rk i < rk j) : Nds rk (ns ++ [(i, j)]) i.val (j.val + 1) := by
  refine ⟨?_, fun p hp => ?_, fun p hp => ?_⟩
  · rw [List.pairwise_append]
    refine ⟨h.asc, by simp, fun p hp q hq => ?_⟩
    have e : q = (i, j) := by simpa using hq
    subst e
    have := h.at_ p hp
    simp only [ltP, decide_eq_true_eq, Fin.lt_def, Fin.ext_iff]
    omega
  · rcases List.mem_append.mp hp with hp | hp
    · exact h.rank p hp
    · have e : p = (i, j) := by simpa using hp
      subst e; exact hr
  · rcases List.mem_append.mp hp with hp | hp
    · have := h.at_ p hp; omega
    · have e : p = (i, j) := by simpa using hp
      subst e; simp
theorem Nds.beh {n : Nat} {rk : Fin n → Fin n} {ns : List (Fin n × Fin n)} {a b : Nat} (h : Nds rk ns a b) {i j : Fin n} (p : Beh ns i j) : rk i < rk j := by
  induction p with
  | one q => exact h.rank _ q
  | cons q _ ih => exact Fin.lt_trans (h.rank _ q) ih
theorem Nds.few {n : Nat} [Few n] {rk : Fin n → Fin n} {ns : List (Fin n × Fin n)} {a b : Nat} (h : Nds rk ns a b) : ns.length ≤ 45 := few_needs (asc_nodup h.asc) fun i p => by have := h.beh p; simp [Fin.lt_def] at this
theorem work_inner [Has P 51 md__law_pick] {h : MH} {r q n : Nat} [Few n] (s : Sp h r) (hq : q ≠ r) (lo hi th : Int) (t1 : 1 ≤ th) (t2 : th ≤ 10) (rk : Fin n → Fin n) (w ts : MV) (a b o : Option MV) (one : Fin n) (ns : List (Fin n × Fin n)) (hs : h[q]? = some (.lst (ns.map fp))) (hd : Nds rk ns one.val 0) :
    ∃ (ns' : List (Fin n × Fin n)) (h' : MH) (y : Option MV), (∀ i : Dk, loopF (forB (callM P L G (i.1 + 1)) i.2 (.nm 12) lp__law_work_0) ((R n).map fi) [some (rf r), some (.int lo), some (.int hi), some (.int n), some w, some (.int th), some (ft fun i => fi (rk i)), some ts, some (rf q), a, b, some (fi one), o] h
      = .ok (.nx [some (rf r), some (.int lo), some (.int hi), some (.int n), some w, some (.int th), some (ft fun i => fi (rk i)), some ts, some (rf q), a, b, some (fi one), y]) h') ∧ h'[q]? = some (.lst (ns'.map fp)) ∧ Nds rk ns' one.val n ∧ Sp h' r ∧ Same2 r q h h' := by
  let I : Nat → MSt → MH → Prop := fun k σ H => ∃ (ns' : List (Fin n × Fin n)) (y : Option MV), σ = [some (rf r), some (.int lo), some (.int hi), some (.int n), some w, some (.int th), some (ft fun i => fi (rk i)), some ts, some (rf q), a, b, some (fi one), y] ∧ H[q]? = some (.lst (ns'.map fp)) ∧ Nds rk ns' one.val k ∧ Sp H r ∧ Same2 r q h H
  obtain ⟨σ', H, e, ns', y, rfl, p1, p2, p3, p4⟩ := loop_fam (body := fun (i : Dk) => forB (callM P L G (i.1 + 1)) i.2 (.nm 12) lp__law_work_0) ((R n).map fi) I (h := h) (σ := [some (rf r), some (.int lo), some (.int hi), some (.int n), some w, some (.int th), some (ft fun i => fi (rk i)), some ts, some (rf q), a, b, some (fi one), o])
    ⟨ns, o, rfl, hs, hd, s, Same2.refl⟩ (by
    rintro k x σ H hk ⟨ns', y, rfl, q1, q2, q3, q4⟩
    obtain ⟨hk', hx⟩ := List.getElem?_eq_some_iff.mp hk
    have hk' : k < n := by simpa using hk'
    simp only [List.getElem_map, List.getElem_finRange] at hx
    obtain ⟨j, hj, rfl⟩ : ∃ j : Fin n, j.val = k ∧ x = fi j := ⟨⟨k, hk'⟩, rfl, hx.symm⟩
    subst hj
    have lt : ((rk one).val : Int) < ((rk j).val : Int) ↔ rk one < rk j := by rw [Fin.lt_def]; omega
    by_cases hr : rk one < rk j
    · obtain ⟨v, h1, e1, v1, s1, sm1⟩ := pickS (P := P) (L := L) (G := G) q3 th t1 (by omega)
      have q1' : h1[q]? = some (.lst (ns'.map fp)) := by rw [sm1.el _ hq]; exact q1
      by_cases hv : v = 0
      · subst hv
        have ap := app_ok q1' (by have := q2.few; simp [cap]; omega) (a := fp (one, j)) (by simp)
        refine ⟨[some (rf r), some (.int lo), some (.int hi), some (.int n), some w, some (.int th), some (ft fun i => fi (rk i)), some ts, some (rf q), a, b, some (fi one), some (fi j)], h1.set q (.lst ((ns' ++ [(one, j)]).map fp)), fun i => ?_, ns' ++ [(one, j)], _, rfl, List.getElem?_set_self (Nat.lt_of_lt_of_eq (List.getElem?_eq_some_iff.mp q1').1 rfl), q2.add hr, s1.set hq, q4.trans (sm1.two.trans same2_set)⟩
        obtain ⟨d, K⟩ := i
        rw [List.map_append]
        have ap : appM (rf q) (.tuple [fi one, fi j]) h1 = _ := ap
        simp [ev_seq, ev_for, ev_ifs, ev_asg, ev_and, ev_or, ev_neg, ev_var, ev_lc, ev_non, ev_tt, ev_ff, ev_int, ev_str, ev_glb, ev_fnv, ev_tup, ev_lst, ev_bin, ev_lmul, ev_not, ev_cmp, ev_cmp2, ev_ite, ev_call, ev_b1, ev_max2, ev_min2, max2_int, min2_int, ev_isi, ev_idx, ev_sl, ev_rev, ev_app, ev_popAt, ev_index, ev_count, ev_dnew, ev_lam, ev_inrg, ev_pn, ev_ps, ev_skip, ev_pass, ev_par, ev_sub, ev_whl, ev_ret, ev_retN, ev_raise, ev_expr, evA, evI, evT, lcB, bindM, setAll, wipeM, bind_ite, startM, tyIs, forB, bind_app, pure_app, ite_app, e1, lt, hr, q1', ap]
      · refine ⟨[some (rf r), some (.int lo), some (.int hi), some (.int n), some w, some (.int th), some (ft fun i => fi (rk i)), some ts, some (rf q), a, b, some (fi one), some (fi j)], h1, fun i => ?_, ns', _, rfl, q1', q2.next (by omega), s1, q4.trans sm1.two⟩
        obtain ⟨d, K⟩ := i
        simp [ev_seq, ev_for, ev_ifs, ev_asg, ev_and, ev_or, ev_neg, ev_var, ev_lc, ev_non, ev_tt, ev_ff, ev_int, ev_str, ev_glb, ev_fnv, ev_tup, ev_lst, ev_bin, ev_lmul, ev_not, ev_cmp, ev_cmp2, ev_ite, ev_call, ev_b1, ev_max2, ev_min2, max2_int, min2_int, ev_isi, ev_idx, ev_sl, ev_rev, ev_app, ev_popAt, ev_index, ev_count, ev_dnew, ev_lam, ev_inrg, ev_pn, ev_ps, ev_skip, ev_pass, ev_par, ev_sub, ev_whl, ev_ret, ev_retN, ev_raise, ev_expr, evA, evI, evT, lcB, bindM, setAll, wipeM, bind_ite, startM, tyIs, forB, bind_app, pure_app, ite_app, e1, lt, hr, hv]
    · refine ⟨[some (rf r), some (.int lo), some (.int hi), some (.int n), some w, some (.int th), some (ft fun i => fi (rk i)), some ts, some (rf q), a, b, some (fi one), some (fi j)], H, fun i => ?_, ns', _, rfl, q1, q2.next (by omega), q3, q4⟩
      obtain ⟨d, K⟩ := i
      simp [ev_seq, ev_for, ev_ifs, ev_asg, ev_and, ev_or, ev_neg, ev_var, ev_lc, ev_non, ev_tt, ev_ff, ev_int, ev_str, ev_glb, ev_fnv, ev_tup, ev_lst, ev_bin, ev_lmul, ev_not, ev_cmp, ev_cmp2, ev_ite, ev_call, ev_b1, ev_max2, ev_min2, max2_int, min2_int, ev_isi, ev_idx, ev_sl, ev_rev, ev_app, ev_popAt, ev_index, ev_count, ev_dnew, ev_lam, ev_inrg, ev_pn, ev_ps, ev_skip, ev_pass, ev_par, ev_sub, ev_whl, ev_ret, ev_retN, ev_raise, ev_expr, evA, evI, evT, lcB, bindM, setAll, wipeM, bind_ite, startM, tyIs, forB, bind_app, pure_app, ite_app, lt, hr])
  exact ⟨ns', H, y, e, p1, by simpa using p2, p3, p4⟩
theorem work_outer [Has P 51 md__law_pick] {h : MH} {r q n : Nat} [Few n] (s : Sp h r) (hq : q ≠ r) (lo hi th : Int) (t1 : 1 ≤ th) (t2 : th ≤ 10) (rk : Fin n → Fin n) (w ts : MV) (a b : Option MV) (hs : h[q]? = some (.lst [])) :
    ∃ (ns' : List (Fin n × Fin n)) (h' : MH) (x y : Option MV), (∀ i : Dk, loopF (forB (callM P L G (i.1 + 1)) i.2 (.nm 11) lp__law_work_1) ((R n).map fi) [some (rf r), some (.int lo), some (.int hi), some (.int n), some w, some (.int th), some (ft fun i => fi (rk i)), some ts, some (rf q), a, b, none, none] h
      = .ok (.nx [some (rf r), some (.int lo), some (.int hi), some (.int n), some w, some (.int th), some (ft fun i => fi (rk i)), some ts, some (rf q), a, b, x, y]) h') ∧ h'[q]? = some (.lst (ns'.map fp)) ∧ Nds rk ns' n 0 ∧ Sp h' r ∧ Same2 r q h h' := by
  let I : Nat → MSt → MH → Prop := fun k σ H => ∃ (ns' : List (Fin n × Fin n)) (x y : Option MV), σ = [some (rf r), some (.int lo), some (.int hi), some (.int n), some w, some (.int th), some (ft fun i => fi (rk i)), some ts, some (rf q), a, b, x, y] ∧ H[q]? = some (.lst (ns'.map fp)) ∧ Nds rk ns' k 0 ∧ Sp H r ∧ Same2 r q h H
  obtain ⟨σ', H, e, ns', x, y, rfl, p1, p2, p3, p4⟩ := loop_fam (body := fun (i : Dk) => forB (callM P L G (i.1 + 1)) i.2 (.nm 11) lp__law_work_1) ((R n).map fi) I (h := h) (σ := [some (rf r), some (.int lo), some (.int hi), some (.int n), some w, some (.int th), some (ft fun i => fi (rk i)), some ts, some (rf q), a, b, none, none])
    ⟨[], none, none, rfl, hs, ⟨by simp, by simp, by simp⟩, s, Same2.refl⟩ (by
    rintro k x σ H hk ⟨ns', x0, y, rfl, q1, q2, q3, q4⟩
    obtain ⟨hk', hx⟩ := List.getElem?_eq_some_iff.mp hk
    have hk' : k < n := by simpa using hk'
    simp only [List.getElem_map, List.getElem_finRange] at hx
    obtain ⟨j, hj, rfl⟩ : ∃ j : Fin n, j.val = k ∧ x = fi j := ⟨⟨k, hk'⟩, rfl, hx.symm⟩
    subst hj
    obtain ⟨ns2, h2, y2, e2, u1, u2, u3, u4⟩ := work_inner (P := P) (L := L) (G := G) q3 hq lo hi th t1 t2 rk w ts a b y j ns' q1 q2
    refine ⟨_, h2, fun i => ?_, ns2, some (fi j), y2, rfl, u1, u2.row, u3, q4.trans u4⟩
    have e2 := e2 i
    obtain ⟨d, K⟩ := i
    simp only at e2
    simp [ev_seq, ev_for, ev_ifs, ev_asg, ev_and, ev_or, ev_neg, ev_var, ev_lc, ev_non, ev_tt, ev_ff, ev_int, ev_str, ev_glb, ev_fnv, ev_tup, ev_lst, ev_bin, ev_lmul, ev_not, ev_cmp, ev_cmp2, ev_ite, ev_call, ev_b1, ev_max2, ev_min2, max2_int, min2_int, ev_isi, ev_idx, ev_sl, ev_rev, ev_app, ev_popAt, ev_index, ev_count, ev_dnew, ev_lam, ev_inrg, ev_pn, ev_ps, ev_skip, ev_pass, ev_par, ev_sub, ev_whl, ev_ret, ev_retN, ev_raise, ev_expr, evA, evI, evT, lcB, bindM, setAll, wipeM, bind_ite, startM, tyIs, lp__law_work_1, forB, bind_app, pure_app, ite_app, e2])
  exact ⟨ns', H, x, y, e, p1, by simpa using p2, p3, p4⟩
/-- a drawn work -/
theorem work_ok [Has P 51 md__law_pick] [Has P 43 md__law_mixed] [Has P 68 md__law_work] {h : MH} {r : Nat} (s : Sp h r) (lo hi : Int) (l1 : 1 ≤ lo) (l2 : lo ≤ hi) (l3 : hi ≤ 10) : ∃ (n : Nat) (t : Fin n → Int) (ns : List (Fin n × Fin n)) (h' : MH), Few n ∧ lo ≤ n ∧ n ≤ hi ∧
    (∀ (d : Nat) (K : List (Option MSt)), (callM P L G (d + 3)).fn 68 K [rf r, .int lo, .int hi] h = .ok (wk t ns) h') ∧ GoodW t ns ∧ Sp h' r ∧ Same r h h' := by
  have hr := s.lt
  obtain ⟨v1, h1, e1, b1, s1, sm1⟩ := pickS (P := P) (L := L) (G := G) s (hi - lo + 1) (by omega) (by omega)
  obtain ⟨n, hn⟩ : ∃ n : Nat, lo + (v1 : Int) = n := ⟨(lo + v1).toNat, by omega⟩
  have few : Few n := ⟨by omega⟩
  obtain ⟨v2, h2, e2, b2, s2, sm2⟩ := pickS (P := P) (L := L) (G := G) s1 4 (by omega) (by omega)
  obtain ⟨v3, h3, e3, b3, s3, sm3⟩ := pickS (P := P) (L := L) (G := G) s2 4 (by omega) (by omega)
  obtain ⟨o, h4, e4, b4, s4, sm4⟩ := mixed_ok (P := P) (L := L) (G := G) (n := n) s3
  have ol : o.length = n := by have := b4.length_eq; simpa using this
  obtain ⟨rk, hrk⟩ : ∃ rk : Fin n → Fin n, o.map fi = (R n).map fun i => fi (rk i) := ⟨fun i => o[i.val]'(by rw [ol]; exact i.isLt), map_fin fi o ol⟩
  have sm14 : Same r h h4 := ((sm1.trans sm2).trans sm3).trans sm4
  have hq : h4.length ≠ r := by have := sm14.len; omega
  obtain ⟨ts, h5, x5, y5, e5, c5, d5, s5, sm5⟩ := work_times (P := P) (L := L) (G := G) (n := n) (w := v2) (by omega) (s4.app (o := .lst [])) hq lo hi (2 + (v3 : Int)) (.tuple (o.map fi)) .none none none
  have q5 : h5[h4.length]? = some (.lst []) := by rw [sm5.el _ hq]; simp
  obtain ⟨ns, h6, x6, y6, e6, c6, d6, s6, sm6⟩ := work_outer (P := P) (L := L) (G := G) (n := n) s5 hq lo hi (2 + (v3 : Int)) (by omega) (by omega) rk (.int (v2 : Int)) (.tuple (ts.map .int)) x5 y5 q5
  have tl : ts.map PyData.int = (R n).map fun i => .int (ts[i.val]'(by rw [c5]; exact i.isLt)) := map_fin PyData.int ts c5
  have lh : h6.length = h.length + 1 := by rw [sm6.len, sm5.len]; simp [sm14.len]
  refine ⟨n, fun i => ts[i.val]'(by rw [c5]; exact i.isLt), ns, h6.take h.length, few, by omega, by omega, fun d K => ?_, ?_, s6.take hr, same_take (by omega) fun q hq1 hq2 => ?_⟩
  · refine fn_plain rfl (by simp) ?_
    have e5 := e5 (d + 1, K)
    have e6 := e6 (d + 1, K)
    rw [hrk, tl] at e5
    rw [tl] at e6
    simp only at e5 e6
    simp [ev_seq, ev_for, ev_ifs, ev_asg, ev_and, ev_or, ev_neg, ev_var, ev_lc, ev_non, ev_tt, ev_ff, ev_int, ev_str, ev_glb, ev_fnv, ev_tup, ev_lst, ev_bin, ev_lmul, ev_not, ev_cmp, ev_cmp2, ev_ite, ev_call, ev_b1, ev_max2, ev_min2, max2_int, min2_int, ev_isi, ev_idx, ev_sl, ev_rev, ev_app, ev_popAt, ev_index, ev_count, ev_dnew, ev_lam, ev_inrg, ev_pn, ev_ps, ev_skip, ev_pass, ev_par, ev_sub, ev_whl, ev_ret, ev_retN, ev_raise, ev_expr, evA, evI, evT, lcB, bindM, setAll, wipeM, bind_ite, startM, tyIs, md__law_work, bind_app, pure_app, ite_app, e1, e2, e3, hn, e4, hrk, e5, e6, c6, sortable_fps, isort_asc d6.asc]
  · refine ⟨by omega, by have := d6.few; omega, fun i => d5 _ (List.getElem_mem _), fun p hp e => ?_, d6.asc, fun i => ?_⟩
    · have := d6.rank p hp
      rw [e] at this
      simp [Fin.lt_def] at this
    · rw [tab_false]
      intro b
      have := d6.beh b
      simp [Fin.lt_def] at this
  · rw [sm6.el q hq2 (by have := sm14.len; omega), sm5.el q hq2, List.getElem?_append_left (by have := sm14.len; omega), sm14.el q hq2]
end Q

-- L4
set_option autoImplicit false
set_option linter.all false
set_option Elab.async false
set_option maxRecDepth 10000
set_option exponentiation.threshold 10000
/-! plain: twins, levels, springs -/
namespace Q
open PySem MM Com
variable {P : Nat → Option MD} {L : Nat → Option ME} {G : Nat → Option Int} {d : Nat} {K : List (Option MSt)}
def kindOf : MV → Int
  | .none => 0
  | .bool _ => 1
  | .str _ => 5
  | .list _ => 2
  | .tuple _ => 3
  | _ => 4
theorem kind_ok [Has P 32 md__law_kind] (v : MV) (hp : v.plain = true) : (callM P L G (d + 1)).fn 32 K [v] = M.pure (.int (kindOf v)) := by
  refine fn_pure rfl rfl ?_
  cases v <;> first | (simp [ev_seq, ev_for, ev_ifs, ev_asg, ev_and, ev_or, ev_neg, ev_var, ev_lc, ev_non, ev_tt, ev_ff, ev_int, ev_str, ev_glb, ev_fnv, ev_tup, ev_lst, ev_bin, ev_lmul, ev_not, ev_cmp, ev_cmp2, ev_ite, ev_call, ev_b1, ev_max2, ev_min2, max2_int, min2_int, ev_isi, ev_idx, ev_sl, ev_rev, ev_app, ev_popAt, ev_index, ev_count, ev_dnew, ev_lam, ev_inrg, ev_pn, ev_ps, ev_skip, ev_pass, ev_par, ev_sub, ev_whl, ev_ret, ev_retN, ev_raise, ev_expr, evA, evI, evT, lcB, bindM, setAll, wipeM, bind_ite, startM, tyIs, md__law_kind, kindOf]; done) | (simp [PyData.plain] at hp)
mutual
/-- nested at most k deep, with few items -/
def Tame : Nat → MV → Prop
  | _, .none => True
  | _, .bool _ => True
  | _, .int _ => True
  | _, .str _ => True
  | 0, _ => False
  | k + 1, .list xs => xs.length ≤ 1000 ∧ TameL k xs
  | k + 1, .tuple xs => xs.length ≤ 1000 ∧ TameL k xs
  | _, .dict _ => False
def TameL : Nat → List MV → Prop
  | _, [] => True
  | k, x :: xs => Tame k x ∧ TameL k xs
end
theorem TameL.mem {k : Nat} : ∀ {xs : List MV}, TameL k xs → ∀ x ∈ xs, Tame k x
  | [], _, x, hx => by cases hx
  | y :: r, h, x, hx => by
    simp only [TameL] at h
    rcases List.mem_cons.mp hx with rfl | hx
    · exact h.1
    · exact TameL.mem h.2 x hx
theorem tameL_map {α : Type} {k : Nat} (f : α → MV) (hf : ∀ a, Tame k (f a)) : ∀ xs : List α, TameL k (xs.map f)
  | [] => by simp [TameL]
  | x :: r => by simp only [List.map_cons, TameL]; exact ⟨hf x, tameL_map f hf r⟩
mutual
theorem Tame.plain : ∀ {k : Nat} {v : MV}, Tame k v → v.plain = true
  | k, .none, _ => rfl
  | k, .bool _, _ => rfl
  | k, .int _, _ => rfl
  | k, .str _, _ => rfl
  | 0, .list _, h => by simp [Tame] at h
  | 0, .tuple _, h => by simp [Tame] at h
  | k + 1, .list xs, h => by simp only [Tame] at h; simpa [PyData.plain] using TameL.plain h.2
  | k + 1, .tuple xs, h => by simp only [Tame] at h; simpa [PyData.plain] using TameL.plain h.2
  | 0, .dict _, h => by simp [Tame] at h
  | k + 1, .dict _, h => by simp [Tame] at h
theorem TameL.plain : ∀ {k : Nat} {xs : List MV}, TameL k xs → PyData.plainAll xs = true
  | _, [], _ => rfl
  | k, x :: xs, h => by
    simp only [TameL] at h
    simp [Tame.plain h.1, TameL.plain h.2]
end
@[simp] theorem zipL_self (xs : List MV) : zipL xs xs = xs.map fun x => .tuple [x, x] := by
  induction xs with
  | nil => rfl
  | cons x r ih => simp only [zipL, List.map_cons, ih]
theorem eq_self_atom {v : MV} (h : Tame 0 v) : eqM v v = M.pure true := by
  cases v <;> first | (simp [Tame] at h; done) | (simp [eqM, deepOk, PyData.depth, PyData.plain, PyData.eqv]; done)
mutual
theorem eqv_self : ∀ {k : Nat} {v : MV}, Tame k v → PyData.eqv v v = true
  | k, .none, _ => by simp [PyData.eqv]
  | k, .bool _, _ => by simp [PyData.eqv]
  | k, .int _, _ => by simp [PyData.eqv]
  | k, .str _, _ => by simp [PyData.eqv]
  | 0, .list _, h => by simp [Tame] at h
  | 0, .tuple _, h => by simp [Tame] at h
  | k + 1, .list xs, h => by simp only [Tame] at h; simpa [PyData.eqv] using eqvAll_self h.2
  | k + 1, .tuple xs, h => by simp only [Tame] at h; simpa [PyData.eqv] using eqvAll_self h.2
  | 0, .dict _, h => by simp [Tame] at h
  | k + 1, .dict _, h => by simp [Tame] at h
theorem eqvAll_self : ∀ {k : Nat} {xs : List MV}, TameL k xs → PyData.eqvAll xs xs = true
  | _, [], _ => by simp [PyData.eqvAll]
  | k, x :: xs, h => by
    simp only [TameL] at h
    simp [PyData.eqvAll, eqv_self h.1, eqvAll_self h.2]
end
mutual
theorem depth_tame : ∀ {k : Nat} {v : MV}, Tame k v → v.depth ≤ k
  | k, .none, _ => by simp [PyData.depth]
  | k, .bool _, _ => by simp [PyData.depth]
  | k, .int _, _ => by simp [PyData.depth]
  | k, .str _, _ => by simp [PyData.depth]
  | 0, .list _, h => by simp [Tame] at h
  | 0, .tuple _, h => by simp [Tame] at h
  | k + 1, .list xs, h => by simp only [Tame] at h; have := depthAll_tame h.2; simp only [PyData.depth]; omega
  | k + 1, .tuple xs, h => by simp only [Tame] at h; have := depthAll_tame h.2; simp only [PyData.depth]; omega
  | 0, .dict _, h => by simp [Tame] at h
  | k + 1, .dict _, h => by simp [Tame] at h
theorem depthAll_tame : ∀ {k : Nat} {xs : List MV}, TameL k xs → PyData.depthAll xs ≤ k
  | _, [], _ => by simp [PyData.depthAll]
  | k, x :: xs, h => by
    simp only [TameL] at h
    have := depth_tame h.1
    have := depthAll_tame h.2
    simp only [PyData.depthAll]
    omega
end
theorem eq_self {k : Nat} {v : MV} (h : Tame k v) (hk : k ≤ 100) : eqM v v = M.pure true := by
  have := depth_tame h
  unfold eqM
  rw [if_pos (by simp [h.plain, deepOk]; omega), eqv_self h]
@[simp] theorem eq_nil : eqM (.list []) (.list []) = M.pure true := by
  unfold eqM
  rw [if_pos (by simp [deepOk, PyData.depth, PyData.depthAll])]
  simp [PyData.eqv, PyData.eqvAll]
theorem lcL_none {α : Type} {f : α → M (Option MV)} {xs : List α} (h : ∀ a ∈ xs, f a = M.pure none) : lcL false f xs = M.pure (.list []) := by
  rw [lcL_congr h]
  have : ∀ xs : List α, fmM (fun _ => (M.pure none : M (Option MV))) xs = M.pure [] := fun xs => by
    induction xs with
    | nil => rfl
    | cons x r ih => simp [ih]
  unfold lcL
  rw [this]
  simp
@[simp] theorem lc_none' {α : Type} (xs : List α) : lcL false (fun _ => M.pure none) xs = M.pure (.list []) := lcL_none fun _ _ => rfl
@[simp] theorem in_lits (i : Int) (a b : Int) : inSeq (.int i) (.list [.int a, .int b]) = M.pure (decide (i = a ∨ i = b)) := by
  have := inSeq_map .int (fun _ => rfl) (fun _ => by simp [PyData.depth]) eqv_int i [a, b] (b := .list [.int a, .int b]) rfl
  rw [this]
  simp
theorem twins_self [Has P 32 md__law_kind] [Has P 62 md__law_twins] : ∀ (k : Nat) (v : MV) (K : List (Option MSt)) (d : Nat), Tame k v → (callM P L G (d + k + 2)).fn 62 K [v, v] = M.pure (.bool true) := by
  intro k
  induction k with
  | zero =>
    intro v K d h
    refine fn_pure rfl rfl ?_
    have hk : ∀ (d : Nat) (K : List (Option MSt)), (callM P L G (d + 1)).fn 32 K [v] = M.pure (.int (kindOf v)) := fun d K => kind_ok v h.plain
    have he := eq_self_atom h
    have h2 : ¬ (kindOf v = 2 ∨ kindOf v = 3) := by cases v <;> simp [Tame, kindOf] at h ⊢
    simp [ev_seq, ev_for, ev_ifs, ev_asg, ev_and, ev_or, ev_neg, ev_var, ev_lc, ev_non, ev_tt, ev_ff, ev_int, ev_str, ev_glb, ev_fnv, ev_tup, ev_lst, ev_bin, ev_lmul, ev_not, ev_cmp, ev_cmp2, ev_ite, ev_call, ev_b1, ev_max2, ev_min2, max2_int, min2_int, ev_isi, ev_idx, ev_sl, ev_rev, ev_app, ev_popAt, ev_index, ev_count, ev_dnew, ev_lam, ev_inrg, ev_pn, ev_ps, ev_skip, ev_pass, ev_par, ev_sub, ev_whl, ev_ret, ev_retN, ev_raise, ev_expr, evA, evI, evT, lcB, bindM, setAll, wipeM, bind_ite, startM, tyIs, md__law_twins, hk, he, h2]
  | succ k ih =>
    intro v K d h
    refine fn_pure rfl rfl ?_
    have hk : ∀ (d : Nat) (K : List (Option MSt)), (callM P L G (d + 1)).fn 32 K [v] = M.pure (.int (kindOf v)) := fun d K => kind_ok v h.plain
    by_cases hl : kindOf v = 2 ∨ kindOf v = 3
    · have key : ∀ (xs : List MV), xs.length ≤ 1000 → TameL k xs → (v = .list xs ∨ v = .tuple xs) → evS (callM P L G (d + k + 2)) K md__law_twins.body (startM [v, v] md__law_twins.ns) = M.pure (.rt (.bool true)) := by
        intro xs h1 h2 hv
        have hf : ∀ (K : List (Option MSt)), ∀ a ∈ xs, (callM P L G (d + k + 2)).fn 62 K [a, a] = M.pure (.bool true) := fun K a ha => ih a K d (h2.mem a ha)
        have sx : Short xs := ⟨h1⟩
        have hc : ∀ (f : MV → M (Option MV)), (∀ a ∈ xs, f a = M.pure none) → lcL false f xs = M.pure (.list []) := fun f hf => lcL_none hf
        rcases hv with rfl | rfl
        · simp [ev_seq, ev_for, ev_ifs, ev_asg, ev_and, ev_or, ev_neg, ev_var, ev_lc, ev_non, ev_tt, ev_ff, ev_int, ev_str, ev_glb, ev_fnv, ev_tup, ev_lst, ev_bin, ev_lmul, ev_not, ev_cmp, ev_cmp2, ev_ite, ev_call, ev_b1, ev_max2, ev_min2, max2_int, min2_int, ev_isi, ev_idx, ev_sl, ev_rev, ev_app, ev_popAt, ev_index, ev_count, ev_dnew, ev_lam, ev_inrg, ev_pn, ev_ps, ev_skip, ev_pass, ev_par, ev_sub, ev_whl, ev_ret, ev_retN, ev_raise, ev_expr, evA, evI, evT, lcB, bindM, setAll, wipeM, bind_ite, startM, tyIs, md__law_twins, hk, kindOf]
          rw [hc]
          · simp [ev_seq, ev_for, ev_ifs, ev_asg, ev_and, ev_or, ev_neg, ev_var, ev_lc, ev_non, ev_tt, ev_ff, ev_int, ev_str, ev_glb, ev_fnv, ev_tup, ev_lst, ev_bin, ev_lmul, ev_not, ev_cmp, ev_cmp2, ev_ite, ev_call, ev_b1, ev_max2, ev_min2, max2_int, min2_int, ev_isi, ev_idx, ev_sl, ev_rev, ev_app, ev_popAt, ev_index, ev_count, ev_dnew, ev_lam, ev_inrg, ev_pn, ev_ps, ev_skip, ev_pass, ev_par, ev_sub, ev_whl, ev_ret, ev_retN, ev_raise, ev_expr, evA, evI, evT, lcB, bindM, setAll, wipeM, bind_ite, startM, tyIs]
          · intro a ha
            simp [ev_seq, ev_for, ev_ifs, ev_asg, ev_and, ev_or, ev_neg, ev_var, ev_lc, ev_non, ev_tt, ev_ff, ev_int, ev_str, ev_glb, ev_fnv, ev_tup, ev_lst, ev_bin, ev_lmul, ev_not, ev_cmp, ev_cmp2, ev_ite, ev_call, ev_b1, ev_max2, ev_min2, max2_int, min2_int, ev_isi, ev_idx, ev_sl, ev_rev, ev_app, ev_popAt, ev_index, ev_count, ev_dnew, ev_lam, ev_inrg, ev_pn, ev_ps, ev_skip, ev_pass, ev_par, ev_sub, ev_whl, ev_ret, ev_retN, ev_raise, ev_expr, evA, evI, evT, lcB, bindM, setAll, wipeM, bind_ite, startM, tyIs, hf _ a ha]
        · simp [ev_seq, ev_for, ev_ifs, ev_asg, ev_and, ev_or, ev_neg, ev_var, ev_lc, ev_non, ev_tt, ev_ff, ev_int, ev_str, ev_glb, ev_fnv, ev_tup, ev_lst, ev_bin, ev_lmul, ev_not, ev_cmp, ev_cmp2, ev_ite, ev_call, ev_b1, ev_max2, ev_min2, max2_int, min2_int, ev_isi, ev_idx, ev_sl, ev_rev, ev_app, ev_popAt, ev_index, ev_count, ev_dnew, ev_lam, ev_inrg, ev_pn, ev_ps, ev_skip, ev_pass, ev_par, ev_sub, ev_whl, ev_ret, ev_retN, ev_raise, ev_expr, evA, evI, evT, lcB, bindM, setAll, wipeM, bind_ite, startM, tyIs, md__law_twins, hk, kindOf]
          rw [hc]
          · simp [ev_seq, ev_for, ev_ifs, ev_asg, ev_and, ev_or, ev_neg, ev_var, ev_lc, ev_non, ev_tt, ev_ff, ev_int, ev_str, ev_glb, ev_fnv, ev_tup, ev_lst, ev_bin, ev_lmul, ev_not, ev_cmp, ev_cmp2, ev_ite, ev_call, ev_b1, ev_max2, ev_min2, max2_int, min2_int, ev_isi, ev_idx, ev_sl, ev_rev, ev_app, ev_popAt, ev_index, ev_count, ev_dnew, ev_lam, ev_inrg, ev_pn, ev_ps, ev_skip, ev_pass, ev_par, ev_sub, ev_whl, ev_ret, ev_retN, ev_raise, ev_expr, evA, evI, evT, lcB, bindM, setAll, wipeM, bind_ite, startM, tyIs]
          · intro a ha
            simp [ev_seq, ev_for, ev_ifs, ev_asg, ev_and, ev_or, ev_neg, ev_var, ev_lc, ev_non, ev_tt, ev_ff, ev_int, ev_str, ev_glb, ev_fnv, ev_tup, ev_lst, ev_bin, ev_lmul, ev_not, ev_cmp, ev_cmp2, ev_ite, ev_call, ev_b1, ev_max2, ev_min2, max2_int, min2_int, ev_isi, ev_idx, ev_sl, ev_rev, ev_app, ev_popAt, ev_index, ev_count, ev_dnew, ev_lam, ev_inrg, ev_pn, ev_ps, ev_skip, ev_pass, ev_par, ev_sub, ev_whl, ev_ret, ev_retN, ev_raise, ev_expr, evA, evI, evT, lcB, bindM, setAll, wipeM, bind_ite, startM, tyIs, hf _ a ha]
      cases v with
      | list xs => simp only [Tame] at h; exact key xs h.1 h.2 (.inl rfl)
      | tuple xs => simp only [Tame] at h; exact key xs h.1 h.2 (.inr rfl)
      | _ => simp [kindOf] at hl
    · have h0 : Tame 0 v := by cases v <;> simp [Tame, kindOf] at h hl ⊢
      have he := eq_self_atom h0
      simp [ev_seq, ev_for, ev_ifs, ev_asg, ev_and, ev_or, ev_neg, ev_var, ev_lc, ev_non, ev_tt, ev_ff, ev_int, ev_str, ev_glb, ev_fnv, ev_tup, ev_lst, ev_bin, ev_lmul, ev_not, ev_cmp, ev_cmp2, ev_ite, ev_call, ev_b1, ev_max2, ev_min2, max2_int, min2_int, ev_isi, ev_idx, ev_sl, ev_rev, ev_app, ev_popAt, ev_index, ev_count, ev_dnew, ev_lam, ev_inrg, ev_pn, ev_ps, ev_skip, ev_pass, ev_par, ev_sub, ev_whl, ev_ret, ev_retN, ev_raise, ev_expr, evA, evI, evT, lcB, bindM, setAll, wipeM, bind_ite, startM, tyIs, md__law_twins, hk, he, hl]
end Q

-- L5
set_option autoImplicit false
set_option linter.all false
set_option Elab.async false
set_option maxRecDepth 10000
set_option exponentiation.threshold 10000
/-! plain: the law's levels, springs, what is told -/
namespace Q
open PySem MM Com
variable {P : Nat → Option MD} {L : Nat → Option ME} {G : Nat → Option Int} {d : Nat} {K : List (Option MSt)}
/-- a loop, with a heap -/
theorem loop_hp {α S : Type} (I : S → Prop) (encs : S → MSt) (encH : S → MH) (encv : α → MV) (step : S → α → S) {body : MV → MSt → M Fl} :
    ∀ (xs : List α) (s : S), I s → (∀ a ∈ xs, ∀ s, I s → body (encv a) (encs s) (encH s) = .ok (.nx (encs (step s a))) (encH (step s a)) ∧ I (step s a)) → loopF body (xs.map encv) (encs s) (encH s) = .ok (.nx (encs (xs.foldl step s))) (encH (xs.foldl step s))
  | [], s, _, _ => rfl
  | x :: xs, s, hi, h => by
    obtain ⟨h1, h2⟩ := h x List.mem_cons_self s hi
    rw [List.map_cons, loopF, M.bind]
    simp only [h1]
    exact loop_hp I encs encH encv step xs _ h2 fun a ha => h a (List.mem_cons_of_mem _ ha)
/-- a list handed back is frozen -/
theorem fn_frz {f : Nat} {md : MD} [hp : Has P f md] {vs : List MV} {xs : List MV} (hz : md.fz = true) (hl : vs.length = md.np)
    (e : ∀ h, ∃ h' : MH, evS (callM P L G d) K md.body (startM vs md.ns) h = .ok (.rt (rf h.length)) h' ∧ h'[h.length]? = some (.lst xs) ∧ h'.take h.length = h) : (callM P L G (d + 1)).fn f K vs = M.pure (.list xs) := by
  funext h
  obtain ⟨h', e1, e2, e3⟩ := e h
  rw [fn_eq hl, e1, hz]
  have hz2 : frzOf h.length h' (rf h.length) = some xs := by
    unfold frzOf
    rw [rfOf_rf]
    simp only [Nat.le_refl, if_true, e2]
  have hp : (rf h.length).plain = false := rfl
  simp only [gc, hp, Bool.false_eq_true, if_false, if_true, hz2, e3]
  rfl
@[simp] theorem lcm_map' {α : Type} (y : α → MV) (xs : List α) [h : Short xs] (hp : ∀ a, (y a).plain = true) (H : MH) : lcL true (fun a => M.pure (some (y a))) xs H = .ok (rf H.length) (H ++ [.lst (xs.map y)]) :=
  lcm_map y xs (sh xs) (by simp [hp]) H
theorem set_fin {n : Nat} (f : Fin n → MV) (i : Fin n) (x : MV) : ((R n).map f).set i.val x = (R n).map (up f i x) := by
  apply List.ext_getElem
  · simp
  · intro k h1 h2
    simp only [List.getElem_set, List.getElem_map, List.getElem_finRange]
    unfold up
    by_cases h : i.val = k
    · subst h; simp
    · rw [if_neg h, if_neg (fun e => h (by rw [← e]; rfl))]
theorem set_last {h : MH} {a b : MO} : (h ++ [a]).set h.length b = h ++ [b] := by
  rw [List.set_append_right _ _ (Nat.le_refl _)]
  simp
theorem law_levels_ok [Has P 38 md__law_levels] {n : Nat} [Few n] (t : Fin n → Int) (ns : List (Fin n × Fin n)) : (callM P L G (d + 1)).fn 38 K [wk t ns] = M.pure (fl fun i => .int (gsN t ns n i)) := by
  refine fn_frz rfl rfl fun h => ⟨h ++ [.lst ((R n).map fun i => .int (gsN t ns n i))], ?_, app_last, by simp⟩
  -- one need
  have step : ∀ (f : Fin n → Int) (p : Fin n × Fin n) (x y z : Option MV), forB (callM P L G d) K (.tup [4, 5]) lp__law_levels_0 (fp p) [some (wk t ns), none, some (rf h.length), x, y, z] (h ++ [.lst ((R n).map fun i => .int (f i))])
      = .ok (.nx [some (wk t ns), none, some (rf h.length), x, some (fi p.1), some (fi p.2)]) (h ++ [.lst ((R n).map fun i => .int (gsS t f p i))]) := by
    intro f p x y z
    have pt := put_ok (h := h ++ [.lst ((R n).map fun i => .int (f i))]) (r := h.length) app_last p.1.val (by simp) (plain_int (max (f p.1) (t p.1 + f p.2)))
    rw [set_fin, set_last] at pt
    have e : up (fun i => PyData.int (f i)) p.1 (.int (max (f p.1) (t p.1 + f p.2))) = fun i => .int (gsS t f p i) := by
      funext i
      unfold gsS up
      split <;> rfl
    rw [e] at pt
    simp [ev_seq, ev_for, ev_ifs, ev_asg, ev_and, ev_or, ev_neg, ev_var, ev_lc, ev_non, ev_tt, ev_ff, ev_int, ev_str, ev_glb, ev_fnv, ev_tup, ev_lst, ev_bin, ev_lmul, ev_not, ev_cmp, ev_cmp2, ev_ite, ev_call, ev_b1, ev_max2, ev_min2, max2_int, min2_int, ev_isi, ev_idx, ev_sl, ev_rev, ev_app, ev_popAt, ev_index, ev_count, ev_dnew, ev_lam, ev_inrg, ev_pn, ev_ps, ev_skip, ev_pass, ev_par, ev_sub, ev_whl, ev_ret, ev_retN, ev_raise, ev_expr, evA, evI, evT, lcB, bindM, setAll, wipeM, bind_ite, startM, tyIs, forB, bind_app, pure_app, ite_app, pt]
  have inner : ∀ (f : Fin n → Int) (x y z : Option MV), ∃ y' z', loopF (forB (callM P L G d) K (.tup [4, 5]) lp__law_levels_0) (ns.map fp) [some (wk t ns), none, some (rf h.length), x, y, z] (h ++ [.lst ((R n).map fun i => .int (f i))])
      = .ok (.nx [some (wk t ns), none, some (rf h.length), x, y', z']) (h ++ [.lst ((R n).map fun i => .int (ns.foldl (gsS t) f i))]) := by
    intro f x y z
    have := loop_hp (fun _ => True) (fun s => [some (wk t ns), none, some (rf h.length), x, s.2.1, s.2.2]) (fun s => h ++ [.lst ((R n).map fun i => .int (s.1 i))]) fp (fun s p => (gsS t s.1 p, some (fi p.1), some (fi p.2))) ns (f, y, z) trivial (fun p _ s _ => ⟨step s.1 p x s.2.1 s.2.2, trivial⟩)
    rw [foldl_fst (gsS t) (fun s p => (some (fi p.1), some (fi p.2)))] at this
    exact ⟨_, _, this⟩
  obtain ⟨σ', h', el, rfl, x, y, z, rfl⟩ := loop_inv (body := forB (callM P L G d) K (.nm 3) lp__law_levels_1) ((R n).map fi) (fun k σ h1 => h1 = h ++ [.lst ((R n).map fun i => .int (gsN t ns k i))] ∧ ∃ x y z, σ = [some (wk t ns), none, some (rf h.length), x, y, z]) (σ := [some (wk t ns), none, some (rf h.length), none, none, none]) (h := h ++ [.lst ((R n).map fun i => .int (gsN t ns 0 i))]) ⟨rfl, none, none, none, rfl⟩ (by
      rintro k x σ h1 hk ⟨rfl, x0, y, z, rfl⟩
      obtain ⟨y', z', e⟩ := inner (gsN t ns k) (some x) y z
      refine ⟨_, _, ?_, rfl, some x, y', z', rfl⟩
      simp [ev_seq, ev_for, ev_ifs, ev_asg, ev_and, ev_or, ev_neg, ev_var, ev_lc, ev_non, ev_tt, ev_ff, ev_int, ev_str, ev_glb, ev_fnv, ev_tup, ev_lst, ev_bin, ev_lmul, ev_not, ev_cmp, ev_cmp2, ev_ite, ev_call, ev_b1, ev_max2, ev_min2, max2_int, min2_int, ev_isi, ev_idx, ev_sl, ev_rev, ev_app, ev_popAt, ev_index, ev_count, ev_dnew, ev_lam, ev_inrg, ev_pn, ev_ps, ev_skip, ev_pass, ev_par, ev_sub, ev_whl, ev_ret, ev_retN, ev_raise, ev_expr, evA, evI, evT, lcB, bindM, setAll, wipeM, bind_ite, startM, tyIs, lp__law_levels_1, forB, bind_app, pure_app, ite_app, e]
      exact fun _ => rfl)
  simp only [List.length_map, List.length_finRange] at el
  have el : loopF (forB (callM P L G d) K (.nm 3) lp__law_levels_1) ((R n).map fi) [some (wk t ns), none, some (rf h.length), none, none, none] (h ++ [.lst ((R n).map fun i => .int (t i))]) = _ := el
  simp [ev_seq, ev_for, ev_ifs, ev_asg, ev_and, ev_or, ev_neg, ev_var, ev_lc, ev_non, ev_tt, ev_ff, ev_int, ev_str, ev_glb, ev_fnv, ev_tup, ev_lst, ev_bin, ev_lmul, ev_not, ev_cmp, ev_cmp2, ev_ite, ev_call, ev_b1, ev_max2, ev_min2, max2_int, min2_int, ev_isi, ev_idx, ev_sl, ev_rev, ev_app, ev_popAt, ev_index, ev_count, ev_dnew, ev_lam, ev_inrg, ev_pn, ev_ps, ev_skip, ev_pass, ev_par, ev_sub, ev_whl, ev_ret, ev_retN, ev_raise, ev_expr, evA, evI, evT, lcB, bindM, setAll, wipeM, bind_ite, startM, tyIs, md__law_levels, bind_app, pure_app, ite_app, el]
theorem is_ok [Has P 31 md__law_is] (a b : Bool) : (callM P L G (d + 1)).fn 31 K [.bool a, .bool b] = M.pure (.bool (decide (a = b))) := by
  refine fn_pure rfl rfl ?_
  simp [ev_seq, ev_for, ev_ifs, ev_asg, ev_and, ev_or, ev_neg, ev_var, ev_lc, ev_non, ev_tt, ev_ff, ev_int, ev_str, ev_glb, ev_fnv, ev_tup, ev_lst, ev_bin, ev_lmul, ev_not, ev_cmp, ev_cmp2, ev_ite, ev_call, ev_b1, ev_max2, ev_min2, max2_int, min2_int, ev_isi, ev_idx, ev_sl, ev_rev, ev_app, ev_popAt, ev_index, ev_count, ev_dnew, ev_lam, ev_inrg, ev_pn, ev_ps, ev_skip, ev_pass, ev_par, ev_sub, ev_whl, ev_ret, ev_retN, ev_raise, ev_expr, evA, evI, evT, lcB, bindM, setAll, wipeM, bind_ite, startM, tyIs, md__law_is]
@[simp] theorem len_sc (is : List Int) : b1M .len (sc is) = M.pure (.int is.length) := by
  funext h
  simp [sc, b1M, rfOf, scOf, pure_app]
@[simp] theorem idx_sc (is : List Int) (k : Int) : idxM (sc is) (.int k) = atM (is.map .int) k := by
  funext h
  simp [sc, idxM, rfOf, scOf]
@[simp] theorem abs_int (i : Int) : b1M .abs (.int i) = M.pure (.int (if i < 0 then -i else i)) := (rfl)
@[simp] theorem int_int (i : Int) : b1M .int (.int i) = M.pure (.int i) := (rfl)
/-- a spring at the end of the heap -/
theorem spring_ok [Has P 58 md__law_spring] (is : List Int) (k : Nat) (h : MH) : ∃ a b : Int, ∀ (d : Nat) (K : List (Option MSt)), (callM P L G (d + 1)).fn 58 K [sc is, .int (k : Int)] h = .ok (rf h.length) (h ++ [.lst [.int a, .int b]]) := by
  obtain ⟨c, hc⟩ : ∃ c : Int, (if k < is.length then atM (is.map .int) (k : Int) else M.pure (.int c)) = (if k < is.length then atM (is.map .int) (k : Int) else M.pure (.int 43)) := ⟨43, rfl⟩
  have hm' : ∀ x : Int, binM .mod (.int x) (.int 999999999959) = M.pure (.int (x % 999999999959)) := fun x => mod_ok x _ (by omega)
  have hM : ∀ x : Int, binM .mul (.int x) (.int 2011) = M.pure (.int (x * 2011)) := fun x => mul_okR x _ (by decide) (by decide)
  have hM2 : ∀ x : Int, binM .mul (.int 700001) (.int x) = M.pure (.int (700001 * x)) := fun x => mul_okL 700001 x (by decide) (by decide)
  have hp : binM .pow (.int 10) (.int 18) = M.pure (.int 1000000000000000000) := pow_ok 10 18 (by decide) (by decide) (by decide)
  have fin : ∀ (c : Int), (∀ (d : Nat) (K : List (Option MSt)), evS (callM P L G d) K md__law_spring.body (startM [sc is, .int (k : Int)] md__law_spring.ns) h = evS (callM P L G d) K (.seq (.asg (.nm 3) (.bin .mod (.b1 .int (.seq (.bin .add (.bin .add (.bin .mul (.var 2) (.int 2011)) (.bin .mul (.int 700001) (.var 1))) (.int 11)))) (.int 999999999959)))
    (.seq (.ret (.lst true (.cons (.ite (.tv (.cmp .ge (.var 2) (.bin .pow (.int 10) (.int 18)))) (.var 2) (.int 0)) (.cons (.var 3) .nil)))) .skip)) [some (sc is), some (.int (k : Int)), some (.int c), none] h) → ∃ a b : Int, ∀ (d : Nat) (K : List (Option MSt)), (callM P L G (d + 1)).fn 58 K [sc is, .int (k : Int)] h = .ok (rf h.length) (h ++ [.lst [.int a, .int b]]) := by
    intro c hc
    refine ⟨if 1000000000000000000 ≤ c then c else 0, (c * 2011 + 700001 * (k : Int) + 11) % 999999999959, fun d K => ?_⟩
    rw [fn_eq rfl, hc]
    simp [ev_seq, ev_for, ev_ifs, ev_asg, ev_and, ev_or, ev_neg, ev_var, ev_lc, ev_non, ev_tt, ev_ff, ev_int, ev_str, ev_glb, ev_fnv, ev_tup, ev_lst, ev_bin, ev_lmul, ev_not, ev_cmp, ev_cmp2, ev_ite, ev_call, ev_b1, ev_max2, ev_min2, max2_int, min2_int, ev_isi, ev_idx, ev_sl, ev_rev, ev_app, ev_popAt, ev_index, ev_count, ev_dnew, ev_lam, ev_inrg, ev_pn, ev_ps, ev_skip, ev_pass, ev_par, ev_sub, ev_whl, ev_ret, ev_retN, ev_raise, ev_expr, evA, evI, evT, lcB, bindM, setAll, wipeM, bind_ite, startM, tyIs, bind_app, pure_app, ite_app, hm', hM, hM2, hp]
    have hz : (rf h.length).plain = false := rfl
    have ho : ∀ j, okRet j (rf h.length) = true := fun j => by simp [okRet, rf, clOf]
    simp [gc, hz, md__law_spring, ho]
  by_cases hk : k < is.length
  · refine fin (if is[k] < 0 then -is[k] else is[k]) fun d K => ?_
    have ha : atM (is.map .int) (k : Int) = M.pure (.int is[k]) := atM_nat (by simp [hk])
    have hk' : (k : Int) < (is.length : Int) := by omega
    simp [ev_seq, ev_for, ev_ifs, ev_asg, ev_and, ev_or, ev_neg, ev_var, ev_lc, ev_non, ev_tt, ev_ff, ev_int, ev_str, ev_glb, ev_fnv, ev_tup, ev_lst, ev_bin, ev_lmul, ev_not, ev_cmp, ev_cmp2, ev_ite, ev_call, ev_b1, ev_max2, ev_min2, max2_int, min2_int, ev_isi, ev_idx, ev_sl, ev_rev, ev_app, ev_popAt, ev_index, ev_count, ev_dnew, ev_lam, ev_inrg, ev_pn, ev_ps, ev_skip, ev_pass, ev_par, ev_sub, ev_whl, ev_ret, ev_retN, ev_raise, ev_expr, evA, evI, evT, lcB, bindM, setAll, wipeM, bind_ite, startM, tyIs, md__law_spring, bind_app, pure_app, ite_app, hk', ha, hm', hM, hM2, hp]
  · refine fin 43 fun d K => ?_
    have hk' : ¬ (k : Int) < (is.length : Int) := by omega
    simp [ev_seq, ev_for, ev_ifs, ev_asg, ev_and, ev_or, ev_neg, ev_var, ev_lc, ev_non, ev_tt, ev_ff, ev_int, ev_str, ev_glb, ev_fnv, ev_tup, ev_lst, ev_bin, ev_lmul, ev_not, ev_cmp, ev_cmp2, ev_ite, ev_call, ev_b1, ev_max2, ev_min2, max2_int, min2_int, ev_isi, ev_idx, ev_sl, ev_rev, ev_app, ev_popAt, ev_index, ev_count, ev_dnew, ev_lam, ev_inrg, ev_pn, ev_ps, ev_skip, ev_pass, ev_par, ev_sub, ev_whl, ev_ret, ev_retN, ev_raise, ev_expr, evA, evI, evT, lcB, bindM, setAll, wipeM, bind_ite, startM, tyIs, md__law_spring, bind_app, pure_app, ite_app, hk', hm', hM, hM2, hp]
end Q

-- L6
set_option autoImplicit false
set_option linter.all false
set_option Elab.async false
set_option maxRecDepth 10000
set_option exponentiation.threshold 10000
/-! plain: chains -/
namespace Q
open PySem MM Com
variable {P : Nat → Option MD} {L : Nat → Option ME} {G : Nat → Option Int} {d : Nat} {K : List (Option MSt)}
/-- a while that ends -/
theorem while_run {S : Type} (I : S → Prop) (encs : S → MSt) (m : S → Nat) {t : MSt → M Bool} {body : MSt → M Fl}
    (hb : ∀ s, I s → t (encs s) = M.pure false ∨ t (encs s) = M.pure true ∧ ∃ s', body (encs s) = M.pure (.nx (encs s')) ∧ I s' ∧ m s' < m s) :
    ∀ (N : Nat) (s : S), I s → m s < N → ∃ s', I s' ∧ t (encs s') = M.pure false ∧ whileN t body N (encs s) = M.pure (.nx (encs s'))
  | 0, _, _, h => by omega
  | N + 1, s, hi, h => by
    rcases hb s hi with e | ⟨e, s', e2, hi', hm⟩
    · exact ⟨s, hi, e, by rw [whileN, e, bindP]; rfl⟩
    · obtain ⟨u, h1, h2, h3⟩ := while_run I encs m hb N s' hi' (by omega)
      refine ⟨u, h1, h2, ?_⟩
      rw [whileN, e, bindP, if_pos rfl, e2, bindP]
      exact h3
theorem whl_run {S : Type} (I : S → Prop) (encs : S → MSt) (m : S → Nat) {c : Cfg} {K : List (Option MSt)} {t : ME} {b : MS}
    (hb : ∀ s, I s → evT c K true t (encs s) = M.pure false ∨ evT c K true t (encs s) = M.pure true ∧ ∃ s', evS c K b (encs s) = M.pure (.nx (encs s')) ∧ I s' ∧ m s' < m s) (s : S) (hi : I s) (h : m s < 10 ^ 30) :
    ∃ s', I s' ∧ evT c K true t (encs s') = M.pure false ∧ whlK c K t b (encs s) = M.pure (.nx (encs s')) :=
  while_run I encs m hb fuel s hi (Nat.lt_of_lt_of_le h (Nat.pow_le_pow_right (by decide) (by decide)))
theorem fuel_big {n : Nat} (h : n < 10 ^ 30) : n < fuel := Nat.lt_of_lt_of_le h (Nat.pow_le_pow_right (by decide) (by decide))
/-- no list empty -/
theorem eq_nil_map {α : Type} (f : α → MV) (hf : ∀ a, (f a).plain = true) (xs : List α) : eqM (.list (xs.map f)) (.list []) = M.pure xs.isEmpty := by
  unfold eqM
  rw [if_pos (by simp [hf, deepOk, PyData.depth, PyData.depthAll])]
  cases xs <;> simp [PyData.eqv, PyData.eqvAll]
@[simp] theorem eq_nil_fi {n : Nat} (xs : List (Fin n)) : eqM (.list (xs.map fi)) (.list []) = M.pure xs.isEmpty := eq_nil_map fi (fun _ => by simp) xs
theorem index_fin {n : Nat} (f : Fin n → Int) (x : Int) (h : ∃ i, f i = x) : ∃ i : Fin n, f i = x ∧ indexM (.list ((R n).map fun i => .int (f i))) (.int x) = M.pure (fi i) := by
  obtain ⟨i0, h0⟩ := h
  have hd : PyData.depthAll ((R n).map fun i => PyData.int (f i)) ≤ 1 := depth_map_le _ 1 (fun _ => by simp [PyData.depth]) _
  cases e : (R n).findIdx? (fun i => decide (f i = x)) with
  | none =>
    have := List.findIdx?_eq_none_iff.mp e i0 (List.mem_finRange i0)
    simp [h0] at this
  | some k =>
    obtain ⟨hk, h1, _⟩ := List.findIdx?_eq_some_iff_getElem.mp e
    simp only [List.getElem_finRange, decide_eq_true_eq] at h1
    have hk' : k < n := by simpa using hk
    refine ⟨⟨k, hk'⟩, h1, ?_⟩
    simp only [indexM, seqM_list, bindEq, bindP]
    rw [if_pos (by simp; omega)]
    have : SeqAt.dataPlace ((R n).map fun i => PyData.int (f i)) (.int x) = some k := by
      unfold SeqAt.dataPlace
      rw [List.findIdx?_map, ← e]
      congr 1
    rw [this]
    rfl
@[simp] theorem chk_list (xs : List MV) : lstChk (.list xs) = M.pure () := (rfl)
/-- the last of a row -/
theorem at_last {α : Type} (f : α → MV) (xs : List α) (x : α) : atM ((xs ++ [x]).map f) (-1) = M.pure (f x) := by
  have h : ixOf ((xs ++ [x]).map f).length (-1) = some xs.length := by
    unfold ixOf
    rw [if_neg (by omega), if_pos (by simp; omega)]
    simp
    omega
  unfold atM
  rw [h]
  simp
theorem max_ne {α : Type} (f : α → Int) (xs : List α) (h : xs ≠ []) : ∃ a ∈ xs, (∀ b ∈ xs, f b ≤ f a) ∧ b1M .max (.list (xs.map fun a => .int (f a))) = M.pure (.int (f a)) := by
  cases xs with
  | nil => exact absurd rfl h
  | cons x r =>
    have e := max_cons (f x) f r
    rw [show (PyData.int (f x) :: r.map fun a => PyData.int (f a)) = (x :: r).map fun a => PyData.int (f a) from rfl] at e
    have ge := foldl_max_ge (r.map f) (f x)
    rcases foldl_max_mem (r.map f) (f x) with z | z
    · rw [z] at e ge
      refine ⟨x, List.mem_cons_self, fun b hb => ?_, e⟩
      rcases List.mem_cons.mp hb with rfl | hb
      · exact Int.le_refl _
      · exact ge.2 _ (List.mem_map.mpr ⟨b, hb, rfl⟩)
    · obtain ⟨a, ha, ea⟩ := List.mem_map.mp z
      rw [← ea] at e ge
      refine ⟨a, List.mem_cons_of_mem _ ha, fun b hb => ?_, e⟩
      rcases List.mem_cons.mp hb with rfl | hb
      · exact ge.1
      · exact ge.2 _ (List.mem_map.mpr ⟨b, hb, rfl⟩)
theorem at_head {α : Type} (f : α → MV) (xs : List α) (h : xs ≠ []) : ∃ a ∈ xs, atM (xs.map f) 0 = M.pure (f a) := by
  cases xs with
  | nil => exact absurd rfl h
  | cons x r => exact ⟨x, List.mem_cons_self, at0 _ _⟩
instance {n : Nat} [h : Few n] {ns : List (Fin n × Fin n)} {i : Fin n} : Short (nextL ns i) := by unfold nextL; infer_instance
section
variable {n : Nat} {t : Fin n → Int} {ns : List (Fin n × Fin n)}
theorem lev_beh (ac : Acy ns) (h1 : ∀ i, 1 ≤ t i) {i j : Fin n} (h : Beh ns i j) : t i + lev t ns j ≤ lev t ns i := by
  induction h with
  | one h => exact lev_ge ac h
  | @cons a b c h _ ih =>
    have := lev_ge (t := t) ac h
    have := h1 b
    omega
theorem mem_next {i j : Fin n} : j ∈ nextL ns i ↔ Beh ns i j ∧ ∀ k, Beh ns i k → ¬ Beh ns k j := by
  unfold nextL
  simp only [List.mem_filter, List.mem_finRange, true_and, Bool.and_eq_true, decide_eq_true_eq, tab_iff, tab_false]
  exact and_comm
/-- the next ones tell the level -/
theorem next_lev (ac : Acy ns) (h1 : ∀ i, 1 ≤ t i) (i : Fin n) (hn : nextL ns i ≠ []) : (∃ j ∈ nextL ns i, lev t ns i = t i + lev t ns j) ∧ ∀ j ∈ nextL ns i, t i + lev t ns j ≤ lev t ns i := by
  refine ⟨?_, fun j hj => lev_beh ac h1 (mem_next.mp hj).1⟩
  obtain ⟨j0, hj0⟩ := List.exists_mem_of_ne_nil _ hn
  have hb := (mem_next.mp hj0).1
  obtain ⟨k, hk⟩ : ∃ k, (i, k) ∈ ns := by
    cases hb with
    | one h => exact ⟨_, h⟩
    | cons h _ => exact ⟨_, h⟩
  have e := lev_eq (t := t) ac i
  have hge := mxS_ge (lev t ns) hk
  have hlk := lev_t (t := t) ac k
  have hk1 := h1 k
  rcases mxS_mem (ns := ns) (lev t ns) i with z | ⟨j, hj, z⟩
  · omega
  · refine ⟨j, mem_next.mpr ⟨.one hj, fun m hm hmj => ?_⟩, by rw [e, z]⟩
    have a := lev_beh (t := t) ac h1 hm
    have b := lev_beh (t := t) ac h1 hmj
    have c := h1 m
    omega
theorem next_nil (ac : Acy ns) (h1 : ∀ i, 1 ≤ t i) (i : Fin n) (hn : nextL ns i = []) : lev t ns i = t i := by
  rcases mxS_mem (ns := ns) (lev t ns) i with z | ⟨j, hj, z⟩
  · rw [lev_eq ac i, z]; omega
  · exfalso
    have e := lev_eq (t := t) ac i
    have : j ∈ nextL ns i := mem_next.mpr ⟨.one hj, fun m hm hmj => by
      have a := lev_beh (t := t) ac h1 hm
      have b := lev_beh (t := t) ac h1 hmj
      have c := h1 m
      omega⟩
    rw [hn] at this
    cases this
theorem maxF_ge (f : Fin n → Int) (i : Fin n) : f i ≤ maxF f := (foldl_max_ge _ 0).2 _ (List.mem_map.mpr ⟨i, List.mem_finRange i, rfl⟩)
theorem maxF_mem (f : Fin n → Int) (hn : 1 ≤ n) (h0 : ∀ i, 0 ≤ f i) : ∃ i, f i = maxF f := by
  rcases foldl_max_mem ((R n).map f) 0 with e | e
  · have a := maxF_ge f ⟨0, hn⟩
    have b := h0 ⟨0, hn⟩
    exact ⟨⟨0, hn⟩, by unfold maxF at a ⊢; omega⟩
  · obtain ⟨i, _, h⟩ := List.mem_map.mp e
    exact ⟨i, h⟩
end
/-- a chain: each behind the one before; its sum, and what is yet to come -/
inductive Chn {n : Nat} (ns : List (Fin n × Fin n)) : List (Fin n) → Prop where
  | one (i : Fin n) : Chn ns [i]
  | cons {i j : Fin n} {r : List (Fin n)} (h : Beh ns i j) (c : Chn ns (j :: r)) : Chn ns (i :: j :: r)
theorem Chn.snoc {n : Nat} {ns : List (Fin n × Fin n)} : ∀ {c : List (Fin n)} {i j : Fin n}, Chn ns (c ++ [i]) → Beh ns i j → Chn ns (c ++ [i] ++ [j])
  | [], i, j, _, b => .cons b (.one j)
  | [a], i, j, h, b => by
    cases h with
    | cons h c => exact .cons h (.cons b (.one j))
  | a :: a2 :: r, i, j, h, b => by
    cases h with
    | cons h c => exact .cons h (Chn.snoc (c := a2 :: r) c b)
section
variable [Has P 106 md_is_row] [Has P 107 md_is_two] [Has P 108 md_is_whole] [Has P 153 md_table_of] [Has P 101 md_is_good_work] [Has P 136 md_need_work] [HasG G 0 10] [HasG G 1 MOST]
theorem longest_chain_ok [Has P 120 md_levels_of] [Has P 71 md_all_next] [Has P 124 md_longest_chain] {n : Nat} [Few n] (t : Fin n → Int) (ns : List (Fin n × Fin n)) [Short ns] (g : GoodW t ns) :
    ∃ c : List (Fin n), Chn ns c ∧ c.length ≤ n ∧ (c.map t).sum = maxF (lev t ns) ∧ (callM P L G (d + 5)).fn 124 K [wk t ns] = M.pure (.tuple (c.map fi)) := by
  have ac := g.acy
  have h1 : ∀ i, 1 ≤ t i := fun i => (g.time i).1
  have l0 : ∀ i, 0 ≤ lev t ns i := fun i => by have := lev_t (t := t) ac i; have := h1 i; omega
  obtain ⟨i0, hi0, ei0⟩ := index_fin (lev t ns) (maxF (lev t ns)) (maxF_mem _ g.pos l0)
  let I : List (Fin n) × Fin n × Option MV × Option MV × Option MV → Prop := fun s => Chn ns (s.1 ++ [s.2.1]) ∧ (s.1.map t).sum + lev t ns s.2.1 = maxF (lev t ns) ∧ s.1.length + ht ns s.2.1 < n
  obtain ⟨⟨c, l, x, y, z⟩, ⟨c1, c2, c3⟩, ht, ew⟩ := whl_run (c := callM P L G (d + 4)) (K := K) (t := .tv (.cmp .ne (.call 71 (.cons (.var 0) (.cons (.idx (.var 2) (.neg (.int 1))) .nil))) (.lst false .nil))) (b := lp_longest_chain_0)
    I (fun s => [some (wk t ns), some (fl fun i => .int (lev t ns i)), some (.tuple ((s.1 ++ [s.2.1]).map fi)), s.2.2.1, s.2.2.2.1, s.2.2.2.2]) (fun s => ht ns s.2.1) (by
    rintro ⟨c, l, x, y, z⟩ ⟨c1, c2, c3⟩
    by_cases hn : nextL ns l = []
    · left
      simp [ev_seq, ev_for, ev_ifs, ev_asg, ev_and, ev_or, ev_neg, ev_var, ev_lc, ev_non, ev_tt, ev_ff, ev_int, ev_str, ev_glb, ev_fnv, ev_tup, ev_lst, ev_bin, ev_lmul, ev_not, ev_cmp, ev_cmp2, ev_ite, ev_call, ev_b1, ev_max2, ev_min2, max2_int, min2_int, ev_isi, ev_idx, ev_sl, ev_rev, ev_app, ev_popAt, ev_index, ev_count, ev_dnew, ev_lam, ev_inrg, ev_pn, ev_ps, ev_skip, ev_pass, ev_par, ev_sub, ev_whl, ev_ret, ev_retN, ev_raise, ev_expr, evA, evI, evT, lcB, bindM, setAll, wipeM, bind_ite, startM, tyIs, all_next_ok, at_last, hn, -List.map_append]
    · right
      refine ⟨by simp [ev_seq, ev_for, ev_ifs, ev_asg, ev_and, ev_or, ev_neg, ev_var, ev_lc, ev_non, ev_tt, ev_ff, ev_int, ev_str, ev_glb, ev_fnv, ev_tup, ev_lst, ev_bin, ev_lmul, ev_not, ev_cmp, ev_cmp2, ev_ite, ev_call, ev_b1, ev_max2, ev_min2, max2_int, min2_int, ev_isi, ev_idx, ev_sl, ev_rev, ev_app, ev_popAt, ev_index, ev_count, ev_dnew, ev_lam, ev_inrg, ev_pn, ev_ps, ev_skip, ev_pass, ev_par, ev_sub, ev_whl, ev_ret, ev_retN, ev_raise, ev_expr, evA, evI, evT, lcB, bindM, setAll, wipeM, bind_ite, startM, tyIs, all_next_ok, at_last, List.isEmpty_eq_false_iff.mpr hn, -List.map_append], ?_⟩
      obtain ⟨⟨j, hj, ej⟩, hle⟩ := next_lev (t := t) ac h1 l hn
      obtain ⟨m, hm, hmax, em⟩ := max_ne (lev t ns) (nextL ns l) hn
      have hne : ((nextL ns l).filter fun a => decide (lev t ns a = lev t ns m)) ≠ [] := fun z => by
        have : m ∈ (nextL ns l).filter fun a => decide (lev t ns a = lev t ns m) := List.mem_filter.mpr ⟨hm, by simp⟩
        rw [z] at this
        cases this
      obtain ⟨k, hk, ek⟩ := at_head fi _ hne
      obtain ⟨hk1, hk2⟩ := List.mem_filter.mp hk
      simp only [decide_eq_true_eq] at hk2
      have hb := (mem_next.mp hk1).1
      have hlt := ht_lt ac hb
      have e1 : lev t ns l = t l + lev t ns k := by
        have a := hle m hm
        have b := hmax j hj
        omega
      simp only at c1 c2 c3
      have shc : Short (c ++ [l]) := ⟨by have := Few.le (n := n); simp; omega⟩
      refine ⟨(c ++ [l], k, some (.list ((nextL ns l).map fi)), y, some (.int (lev t ns m))), ?_, ⟨c1.snoc hb, ?_, ?_⟩, hlt⟩
      · simp [ev_seq, ev_for, ev_ifs, ev_asg, ev_and, ev_or, ev_neg, ev_var, ev_lc, ev_non, ev_tt, ev_ff, ev_int, ev_str, ev_glb, ev_fnv, ev_tup, ev_lst, ev_bin, ev_lmul, ev_not, ev_cmp, ev_cmp2, ev_ite, ev_call, ev_b1, ev_max2, ev_min2, max2_int, min2_int, ev_isi, ev_idx, ev_sl, ev_rev, ev_app, ev_popAt, ev_index, ev_count, ev_dnew, ev_lam, ev_inrg, ev_pn, ev_ps, ev_skip, ev_pass, ev_par, ev_sub, ev_whl, ev_ret, ev_retN, ev_raise, ev_expr, evA, evI, evT, lcB, bindM, setAll, wipeM, bind_ite, startM, tyIs, all_next_ok, at_last, em, ek, -List.map_append]
        simp
      · simp; omega
      · simp; omega) ([], i0, none, none, none) ⟨.one i0, by simpa using hi0, by simpa using ht_n ac i0⟩ (Nat.lt_of_lt_of_le (ht_n ac i0) (Nat.le_trans Few.le (by decide)))
  have hn : nextL ns l = [] := by
    refine Classical.byContradiction fun hz => ?_
    have : evT (callM P L G (d + 4)) K true (.tv (.cmp .ne (.call 71 (.cons (.var 0) (.cons (.idx (.var 2) (.neg (.int 1))) .nil))) (.lst false .nil))) [some (wk t ns), some (fl fun i => .int (lev t ns i)), some (.tuple ((c ++ [l]).map fi)), x, y, z] = M.pure true := by
      simp [ev_seq, ev_for, ev_ifs, ev_asg, ev_and, ev_or, ev_neg, ev_var, ev_lc, ev_non, ev_tt, ev_ff, ev_int, ev_str, ev_glb, ev_fnv, ev_tup, ev_lst, ev_bin, ev_lmul, ev_not, ev_cmp, ev_cmp2, ev_ite, ev_call, ev_b1, ev_max2, ev_min2, max2_int, min2_int, ev_isi, ev_idx, ev_sl, ev_rev, ev_app, ev_popAt, ev_index, ev_count, ev_dnew, ev_lam, ev_inrg, ev_pn, ev_ps, ev_skip, ev_pass, ev_par, ev_sub, ev_whl, ev_ret, ev_retN, ev_raise, ev_expr, evA, evI, evT, lcB, bindM, setAll, wipeM, bind_ite, startM, tyIs, all_next_ok, at_last, List.isEmpty_eq_false_iff.mpr hz, -List.map_append]
    rw [this] at ht
    have := congrFun ht []
    simp [M.pure] at this
  refine ⟨c ++ [l], c1, by simp only [List.length_append, List.length_singleton] at c3 ⊢; omega, ?_, ?_⟩
  · have := next_nil (t := t) ac h1 l hn
    simp at c2 ⊢
    omega
  · refine fn_pure rfl (by simp) ?_
    have mx := max_fin (lev t ns) g.pos l0
    simp [ev_seq, ev_for, ev_ifs, ev_asg, ev_and, ev_or, ev_neg, ev_var, ev_lc, ev_non, ev_tt, ev_ff, ev_int, ev_str, ev_glb, ev_fnv, ev_tup, ev_lst, ev_bin, ev_lmul, ev_not, ev_cmp, ev_cmp2, ev_ite, ev_call, ev_b1, ev_max2, ev_min2, max2_int, min2_int, ev_isi, ev_idx, ev_sl, ev_rev, ev_app, ev_popAt, ev_index, ev_count, ev_dnew, ev_lam, ev_inrg, ev_pn, ev_ps, ev_skip, ev_pass, ev_par, ev_sub, ev_whl, ev_ret, ev_retN, ev_raise, ev_expr, evA, evI, evT, lcB, bindM, setAll, wipeM, bind_ite, startM, tyIs, md_longest_chain, need_work_ok, g, levels_of_ok, lvK_lev, mx, ei0]
    refine bind_of ew ?_
    simp [ev_seq, ev_for, ev_ifs, ev_asg, ev_and, ev_or, ev_neg, ev_var, ev_lc, ev_non, ev_tt, ev_ff, ev_int, ev_str, ev_glb, ev_fnv, ev_tup, ev_lst, ev_bin, ev_lmul, ev_not, ev_cmp, ev_cmp2, ev_ite, ev_call, ev_b1, ev_max2, ev_min2, max2_int, min2_int, ev_isi, ev_idx, ev_sl, ev_rev, ev_app, ev_popAt, ev_index, ev_count, ev_dnew, ev_lam, ev_inrg, ev_pn, ev_ps, ev_skip, ev_pass, ev_par, ev_sub, ev_whl, ev_ret, ev_retN, ev_raise, ev_expr, evA, evI, evT, lcB, bindM, setAll, wipeM, bind_ite, startM, tyIs]
end
end Q

-- L7
set_option autoImplicit false
set_option linter.all false
set_option Elab.async false
set_option maxRecDepth 10000
set_option exponentiation.threshold 10000
/-! plain: what k02 asks -/
namespace Q
open PySem MM Com
variable {P : Nat → Option MD} {L : Nat → Option ME} {G : Nat → Option Int} {d : Nat} {K : List (Option MSt)}
/-- a loop that may return v at an item -/
theorem loop_all {α S : Type} (I : S → Prop) (encs : S → MSt) (encv : α → MV) (step : S → α → S) (p : α → Bool) (v : MV) {body : MV → MSt → M Fl} :
    ∀ (xs : List α) (s : S), I s → (∀ a ∈ xs, ∀ s, I s → body (encv a) (encs s) = M.pure (if p a = true then .nx (encs (step s a)) else .rt v) ∧ I (step s a)) → loopF body (xs.map encv) (encs s) = M.pure (if xs.all p = true then .nx (encs (xs.foldl step s)) else .rt v)
  | [], s, _, _ => rfl
  | x :: xs, s, hi, h => by
    obtain ⟨h1, h2⟩ := h x List.mem_cons_self s hi
    rw [List.map_cons, loopF, h1, bindP]
    cases hp : p x with
    | false => simp [hp]
    | true =>
      simp only [if_true, List.all_cons, hp, Bool.true_and]
      exact loop_all I encs encv step p v xs _ h2 fun a ha => h a (List.mem_cons_of_mem _ ha)
@[simp] theorem eq_nil_ints {α : Type} (f : α → Int) (xs : List α) : eqM (.list (xs.map fun a => .int (f a))) (.list []) = M.pure xs.isEmpty := eq_nil_map _ (fun _ => by simp) xs
theorem eq_nil_mapT {α : Type} (f : α → MV) (hf : ∀ a, (f a).plain = true) (xs : List α) : eqM (.tuple (xs.map f)) (.tuple []) = M.pure xs.isEmpty := by
  unfold eqM
  rw [if_pos (by simp [hf, deepOk, PyData.depth, PyData.depthAll])]
  cases xs <;> simp [PyData.eqv, PyData.eqvAll]
@[simp] theorem eq_nilT_fi {n : Nat} (xs : List (Fin n)) : eqM (.tuple (xs.map fi)) (.tuple []) = M.pure xs.isEmpty := eq_nil_mapT fi (fun _ => by simp) xs
@[simp] theorem inr_fin {n : Nat} (neg : Bool) (i : Fin n) : inrM neg (.int ((i.val : Nat) : Int)) (.int (n : Int)) = M.pure (.bool (!neg)) := by
  have h : 0 ≤ ((i.val : Nat) : Int) ∧ ((i.val : Nat) : Int) < (n : Int) := by have := i.isLt; omega
  show M.pure (PyData.bool (if neg = true then _ else _)) = _
  rw [decide_eq_true h]
  cases neg <;> rfl
/-- lighter, as it is meant -/
def Light {n : Nat} (t : Fin n → Int) (ns : List (Fin n × Fin n)) (t' : Fin n → Int) (ns' : List (Fin n × Fin n)) : Prop := (∀ i, t i ≤ t' i) ∧ ∀ i j, Beh ns i j → Beh ns' i j
theorem lightB_iff {n : Nat} (t : Fin n → Int) (ns : List (Fin n × Fin n)) (t' : Fin n → Int) (ns' : List (Fin n × Fin n)) : lightB t ns t' ns' = true ↔ Light t ns t' ns' := by
  unfold lightB Light
  rw [Bool.and_eq_true, decide_eq_true_iff, List.all_eq_true]
  refine and_congr Iff.rfl ⟨fun h i j b => ?_, fun h p hp => (tab_iff _ _).mpr (h _ _ (.one hp))⟩
  induction b with
  | one q => exact (tab_iff _ _).mp (h _ q)
  | cons q _ ih => exact ((tab_iff _ _).mp (h _ q)).trans ih
theorem law_lighter_ok [Has P 0 md__law_after] [Has P 39 md__law_lighter] {n : Nat} [Few n] (t : Fin n → Int) (ns : List (Fin n × Fin n)) [Few63 ns] (t' : Fin n → Int) (ns' : List (Fin n × Fin n)) [Few63 ns'] : (callM P L G (d + 2)).fn 39 K [wk t ns, wk t' ns'] = M.pure (.bool (lightB t ns t' ns')) := by
  refine fn_pure rfl (by simp) ?_
  simp [ev_seq, ev_for, ev_ifs, ev_asg, ev_and, ev_or, ev_neg, ev_var, ev_lc, ev_non, ev_tt, ev_ff, ev_int, ev_str, ev_glb, ev_fnv, ev_tup, ev_lst, ev_bin, ev_lmul, ev_not, ev_cmp, ev_cmp2, ev_ite, ev_call, ev_b1, ev_max2, ev_min2, max2_int, min2_int, ev_isi, ev_idx, ev_sl, ev_rev, ev_app, ev_popAt, ev_index, ev_count, ev_dnew, ev_lam, ev_inrg, ev_pn, ev_ps, ev_skip, ev_pass, ev_par, ev_sub, ev_whl, ev_ret, ev_retN, ev_raise, ev_expr, evA, evI, evT, lcB, bindM, setAll, wipeM, bind_ite, startM, tyIs, md__law_lighter]
  by_cases h : ∃ x, t' x < t x
  · rw [if_pos h]
    have : lightB t ns t' ns' = false := by
      rw [← Bool.not_eq_true, lightB_iff]
      obtain ⟨x, hx⟩ := h
      intro z
      have := z.1 x
      omega
    rw [this]
  · rw [if_neg h]
    refine bind_of (loop_all (fun _ => True) (fun s => [some (wk t ns), some (wk t' ns'), none, none, s.1, s.2, none]) fi (fun s i => (some (fi i), some (.list (((R n).filter fun j => tab ns' i j).map fi)))) (fun i => ((R n).filter fun j => !tab ns' i j && tab ns i j).isEmpty) (.bool false) (R n) (none, none) trivial ?_) ?_
    · intro i _ s _
      simp [ev_seq, ev_for, ev_ifs, ev_asg, ev_and, ev_or, ev_neg, ev_var, ev_lc, ev_non, ev_tt, ev_ff, ev_int, ev_str, ev_glb, ev_fnv, ev_tup, ev_lst, ev_bin, ev_lmul, ev_not, ev_cmp, ev_cmp2, ev_ite, ev_call, ev_b1, ev_max2, ev_min2, max2_int, min2_int, ev_isi, ev_idx, ev_sl, ev_rev, ev_app, ev_popAt, ev_index, ev_count, ev_dnew, ev_lam, ev_inrg, ev_pn, ev_ps, ev_skip, ev_pass, ev_par, ev_sub, ev_whl, ev_ret, ev_retN, ev_raise, ev_expr, evA, evI, evT, lcB, bindM, setAll, wipeM, bind_ite, startM, tyIs, forB, after_ok]
      by_cases hz : ∃ x, tab ns' i x = false ∧ tab ns i x = true
      · rw [if_pos hz, if_neg (fun z => by obtain ⟨x, h1, h2⟩ := hz; rw [z x h1] at h2; cases h2)]
      · rw [if_neg hz, if_pos (fun x hx => by rw [← Bool.not_eq_true]; exact fun z => hz ⟨x, hx, z⟩)]
    · cases hz : (R n).all (fun i => ((R n).filter fun j => !tab ns' i j && tab ns i j).isEmpty) with
      | true =>
        have : lightB t ns t' ns' = true := by
          rw [lightB_iff]
          refine ⟨fun i => Int.not_lt.mp fun hx => h ⟨i, hx⟩, fun i j b => ?_⟩
          have a := List.all_eq_true.mp hz i (List.mem_finRange i)
          rw [List.isEmpty_iff, List.filter_eq_nil_iff] at a
          have c := a j (List.mem_finRange j)
          rw [(tab_iff i j).mpr b, Bool.and_true] at c
          exact (tab_iff i j).mp (by simpa using c)
        rw [this]
        simp [ev_seq, ev_for, ev_ifs, ev_asg, ev_and, ev_or, ev_neg, ev_var, ev_lc, ev_non, ev_tt, ev_ff, ev_int, ev_str, ev_glb, ev_fnv, ev_tup, ev_lst, ev_bin, ev_lmul, ev_not, ev_cmp, ev_cmp2, ev_ite, ev_call, ev_b1, ev_max2, ev_min2, max2_int, min2_int, ev_isi, ev_idx, ev_sl, ev_rev, ev_app, ev_popAt, ev_index, ev_count, ev_dnew, ev_lam, ev_inrg, ev_pn, ev_ps, ev_skip, ev_pass, ev_par, ev_sub, ev_whl, ev_ret, ev_retN, ev_raise, ev_expr, evA, evI, evT, lcB, bindM, setAll, wipeM, bind_ite, startM, tyIs]
      | false =>
        have : lightB t ns t' ns' = false := by
          rw [← Bool.not_eq_true, lightB_iff]
          rintro ⟨_, z⟩
          rw [← Bool.not_eq_true] at hz
          refine hz (List.all_eq_true.mpr fun i _ => ?_)
          rw [List.isEmpty_iff, List.filter_eq_nil_iff]
          intro j _ hc
          rw [Bool.and_eq_true] at hc
          rw [(tab_iff i j).mpr (z i j ((tab_iff i j).mp hc.2))] at hc
          simp at hc
        rw [this]
        simp [ev_seq, ev_for, ev_ifs, ev_asg, ev_and, ev_or, ev_neg, ev_var, ev_lc, ev_non, ev_tt, ev_ff, ev_int, ev_str, ev_glb, ev_fnv, ev_tup, ev_lst, ev_bin, ev_lmul, ev_not, ev_cmp, ev_cmp2, ev_ite, ev_call, ev_b1, ev_max2, ev_min2, max2_int, min2_int, ev_isi, ev_idx, ev_sl, ev_rev, ev_app, ev_popAt, ev_index, ev_count, ev_dnew, ev_lam, ev_inrg, ev_pn, ev_ps, ev_skip, ev_pass, ev_par, ev_sub, ev_whl, ev_ret, ev_retN, ev_raise, ev_expr, evA, evI, evT, lcB, bindM, setAll, wipeM, bind_ite, startM, tyIs]
theorem law_lighter_ne [Has P 39 md__law_lighter] {n m : Nat} [Few n] [Few m] (hn : n ≠ m) (t : Fin n → Int) (ns : List (Fin n × Fin n)) (t' : Fin m → Int) (ns' : List (Fin m × Fin m)) : (callM P L G (d + 2)).fn 39 K [wk t ns, wk t' ns'] = M.pure (.bool false) := by
  refine fn_pure rfl (by simp) ?_
  have : ((n : Int) = (m : Int)) ↔ False := by constructor <;> intro h <;> first | omega | cases h
  simp [ev_seq, ev_for, ev_ifs, ev_asg, ev_and, ev_or, ev_neg, ev_var, ev_lc, ev_non, ev_tt, ev_ff, ev_int, ev_str, ev_glb, ev_fnv, ev_tup, ev_lst, ev_bin, ev_lmul, ev_not, ev_cmp, ev_cmp2, ev_ite, ev_call, ev_b1, ev_max2, ev_min2, max2_int, min2_int, ev_isi, ev_idx, ev_sl, ev_rev, ev_app, ev_popAt, ev_index, ev_count, ev_dnew, ev_lam, ev_inrg, ev_pn, ev_ps, ev_skip, ev_pass, ev_par, ev_sub, ev_whl, ev_ret, ev_retN, ev_raise, ev_expr, evA, evI, evT, lcB, bindM, setAll, wipeM, bind_ite, startM, tyIs, md__law_lighter, this]
/-- what follows in a chain is behind -/
theorem Chn.zip {n : Nat} {ns : List (Fin n × Fin n)} {c : List (Fin n)} (h : Chn ns c) : ∀ p ∈ c.zip c.tail, Beh ns p.1 p.2 := by
  induction h with
  | one i => simp
  | @cons i j r h c ih =>
    intro p hp
    simp only [List.tail_cons, List.zip_cons_cons, List.mem_cons] at hp
    rcases hp with rfl | hp
    · exact h
    · exact ih p hp
theorem chain_right_ok [Has P 0 md__law_after] [Has P 38 md__law_levels] [Has P 14 md__law_chain_right] {n : Nat} [Few n] (t : Fin n → Int) (ns : List (Fin n × Fin n)) [Few63 ns] (g : GoodW t ns) (c : List (Fin n)) [Short c] (hc : Chn ns c) (hs : (c.map t).sum = maxF (lev t ns)) : (callM P L G (d + 2)).fn 14 K [wk t ns, .tuple (c.map fi)] = M.pure (.bool true) := by
  have ac := g.acy
  have l0 : ∀ i, 0 ≤ lev t ns i := fun i => by have := lev_t (t := t) ac i; have := (g.time i).1; omega
  have mx := max_fin (lev t ns) g.pos l0
  have hc0 : c.isEmpty = false := by cases hc <;> rfl
  refine fn_pure rfl rfl ?_
  have lp : ∀ (x y : Option MV), loopF (forB (callM P L G (d + 1)) K (.tup [3, 4]) lp__law_chain_right_0) ((c.zip c.tail).map fun p => .tuple [fi p.1, fi p.2]) [some (wk t ns), some (.tuple (c.map fi)), none, x, y] = _ := fun x y =>
    loop_pure (fun _ => True) (fun s => [some (wk t ns), some (.tuple (c.map fi)), none, s.1, s.2]) (fun p : Fin n × Fin n => .tuple [fi p.1, fi p.2]) (fun s p => (some (fi p.1), some (fi p.2))) (c.zip c.tail) (x, y) trivial (by
      intro p hp s _
      have hb := hc.zip p hp
      have := (tab_iff p.1 p.2).mpr hb
      simp [ev_seq, ev_for, ev_ifs, ev_asg, ev_and, ev_or, ev_neg, ev_var, ev_lc, ev_non, ev_tt, ev_ff, ev_int, ev_str, ev_glb, ev_fnv, ev_tup, ev_lst, ev_bin, ev_lmul, ev_not, ev_cmp, ev_cmp2, ev_ite, ev_call, ev_b1, ev_max2, ev_min2, max2_int, min2_int, ev_isi, ev_idx, ev_sl, ev_rev, ev_app, ev_popAt, ev_index, ev_count, ev_dnew, ev_lam, ev_inrg, ev_pn, ev_ps, ev_skip, ev_pass, ev_par, ev_sub, ev_whl, ev_ret, ev_retN, ev_raise, ev_expr, evA, evI, evT, lcB, bindM, setAll, wipeM, bind_ite, startM, tyIs, forB, after_ok, this])
  simp [ev_seq, ev_for, ev_ifs, ev_asg, ev_and, ev_or, ev_neg, ev_var, ev_lc, ev_non, ev_tt, ev_ff, ev_int, ev_str, ev_glb, ev_fnv, ev_tup, ev_lst, ev_bin, ev_lmul, ev_not, ev_cmp, ev_cmp2, ev_ite, ev_call, ev_b1, ev_max2, ev_min2, max2_int, min2_int, ev_isi, ev_idx, ev_sl, ev_rev, ev_app, ev_popAt, ev_index, ev_count, ev_dnew, ev_lam, ev_inrg, ev_pn, ev_ps, ev_skip, ev_pass, ev_par, ev_sub, ev_whl, ev_ret, ev_retN, ev_raise, ev_expr, evA, evI, evT, lcB, bindM, setAll, wipeM, bind_ite, startM, tyIs, md__law_chain_right, hc0, zipL_tail, lp, law_levels_ok, gs_lev ac, mx, hs]
end Q

-- L8
set_option autoImplicit false
set_option linter.all false
set_option Elab.async false
set_option maxRecDepth 10000
set_option exponentiation.threshold 10000
/-! plain: comprehensions that draw; sorting pairs -/
namespace Q
open PySem MM Com
variable {P : Nat → Option MD} {L : Nat → Option ME} {G : Nat → Option Int} {d : Nat} {K : List (Option MSt)}
theorem fm_map {ι α β : Type} {f : ι → α → M (Option MV)} (enc : β → MV) (rel : α → β → Prop) (I : MH → Prop) : ∀ (xs : List α) (H : MH), I H → (∀ a ∈ xs, ∀ H, I H → ∃ b H', (∀ i, f i a H = .ok (some (enc b)) H') ∧ rel a b ∧ I H') →
    ∃ (bs : List β) (H' : MH), (∀ i, fmM (f i) xs H = .ok (bs.map enc) H') ∧ bs.length = xs.length ∧ (∀ (k : Nat) (a : α) (b : β), xs[k]? = some a → bs[k]? = some b → rel a b) ∧ I H'
  | [], H, hi, _ => ⟨[], H, fun _ => rfl, rfl, fun k a b h => by simp at h, hi⟩
  | x :: xs, H, hi, hs => by
    obtain ⟨b, H1, e1, r1, i1⟩ := hs x List.mem_cons_self H hi
    obtain ⟨bs, H2, e2, l2, r2, i2⟩ := fm_map enc rel I xs H1 i1 fun a ha => hs a (List.mem_cons_of_mem _ ha)
    refine ⟨b :: bs, H2, fun i => ?_, by simp [l2], fun k a c ha hc => ?_, i2⟩
    · rw [fmM_cons, bind_app, e1, resK_ok, optK_some, bind_app, e2, resK_ok]
      rfl
    · cases k with
      | zero => simp at ha hc; subst ha hc; exact r1
      | succ k => exact r2 k a c (by simpa using ha) (by simpa using hc)
theorem fm_sub {ι α : Type} {f : ι → α → M (Option MV)} (enc : α → MV) (I : MH → Prop) : ∀ (xs : List α) (H : MH), I H → (∀ a ∈ xs, ∀ H, I H → ∃ (b : Bool) (H' : MH), (∀ i, f i a H = .ok (if b = true then some (enc a) else none) H') ∧ I H') →
    ∃ (ys : List α) (H' : MH), (∀ i, fmM (f i) xs H = .ok (ys.map enc) H') ∧ ys.Sublist xs ∧ I H'
  | [], H, hi, _ => ⟨[], H, fun _ => rfl, .slnil, hi⟩
  | x :: xs, H, hi, hs => by
    obtain ⟨b, H1, e1, i1⟩ := hs x List.mem_cons_self H hi
    obtain ⟨ys, H2, e2, s2, i2⟩ := fm_sub enc I xs H1 i1 fun a ha => hs a (List.mem_cons_of_mem _ ha)
    cases b with
    | true =>
      refine ⟨x :: ys, H2, fun i => ?_, s2.cons₂ _, i2⟩
      rw [fmM_cons, bind_app, e1, resK_ok, if_pos rfl, optK_some, bind_app, e2, resK_ok]
      rfl
    | false =>
      refine ⟨ys, H2, fun i => ?_, s2.cons _, i2⟩
      rw [fmM_cons, bind_app, e1, resK_ok, if_neg Bool.false_ne_true, optK_none, e2]
theorem lcL_of {α : Type} {f : α → M (Option MV)} {xs : List α} {ys : List MV} {H H' : MH} (e : fmM f xs H = .ok ys H') (hl : ys.length ≤ 1000) : lcL false f xs H = .ok (.list ys) H' := by
  unfold lcL
  rw [bind_app, noexc, e, resK_ok, if_pos (Nat.le_trans hl (by decide))]
  rfl
theorem lcI_of {α : Type} {f : MV → M (Option MV)} {xs : List α} {e : α → MV} {ys : List MV} {H H' : MH} (h : fmM (fun a => f (e a)) xs H = .ok ys H') (hl : ys.length ≤ 1000) :
    lcI false f (.list (xs.map e)) H = .ok (.list ys) H' ∧ lcI false f (.tuple (xs.map e)) H = .ok (.list ys) H' := by
  rw [lcI_list, lcI_tup]
  exact ⟨lcL_of h hl, lcL_of h hl⟩
/-- pairs sorted -/
def insP {n : Nat} (x : Fin n × Fin n) : List (Fin n × Fin n) → List (Fin n × Fin n)
  | [] => [x]
  | y :: r => if ltP y x = true then y :: insP x r else x :: y :: r
def sortP {n : Nat} : List (Fin n × Fin n) → List (Fin n × Fin n)
  | [] => []
  | x :: r => insP x (sortP r)
theorem dataLt_fp {n : Nat} (p q : Fin n × Fin n) : W.dataLt (fp p) (fp q) = ltP p q := by
  refine (W.dataLt_ii _ _ _ _).trans ?_
  unfold ltP
  rw [Bool.eq_iff_iff]
  simp [Fin.lt_def]
theorem ins_fp {n : Nat} (x : Fin n × Fin n) : ∀ l, ins (fp x) (l.map fp) = (insP x l).map fp
  | [] => rfl
  | y :: r => by
    rw [List.map_cons, ins, dataLt_fp, insP, ins_fp x r]
    cases ltP y x <;> rfl
theorem isort_fp {n : Nat} : ∀ l : List (Fin n × Fin n), isort (l.map fp) = (sortP l).map fp
  | [] => rfl
  | x :: r => by rw [List.map_cons, isort, isort_fp r, ins_fp, sortP]
theorem insP_perm {n : Nat} (x : Fin n × Fin n) : ∀ l, (insP x l).Perm (x :: l)
  | [] => List.Perm.refl _
  | y :: r => by
    unfold insP
    split
    · exact ((insP_perm x r).cons y).trans (List.Perm.swap _ _ _)
    · exact List.Perm.refl _
theorem sortP_perm {n : Nat} : ∀ l : List (Fin n × Fin n), (sortP l).Perm l
  | [] => List.Perm.refl _
  | x :: r => (insP_perm x _).trans ((sortP_perm r).cons x)
theorem ltP_total {n : Nat} {p q : Fin n × Fin n} (h : p ≠ q) (h2 : ¬ ltP p q = true) : ltP q p = true := by
  have : ¬ (p.1 = q.1 ∧ p.2 = q.2) := fun e => h (Prod.ext e.1 e.2)
  simp only [ltP, decide_eq_true_eq, Fin.lt_def, Fin.ext_iff] at *
  omega
theorem insP_asc {n : Nat} (x : Fin n × Fin n) : ∀ l : List (Fin n × Fin n), (l.Pairwise fun p q => ltP p q = true) → x ∉ l → (insP x l).Pairwise fun p q => ltP p q = true
  | [], _, _ => by simp [insP]
  | y :: r, h, hx => by
    rw [List.pairwise_cons] at h
    rw [List.mem_cons, not_or] at hx
    unfold insP
    split
    · rename_i hl
      refine List.pairwise_cons.mpr ⟨fun a ha => ?_, insP_asc x r h.2 hx.2⟩
      rcases List.mem_cons.mp ((insP_perm x r).mem_iff.mp ha) with rfl | ha
      · exact hl
      · exact h.1 a ha
    · rename_i hl
      have hxy := ltP_total (fun e => hx.1 e.symm) hl
      refine List.pairwise_cons.mpr ⟨fun a ha => ?_, List.pairwise_cons.mpr h⟩
      rcases List.mem_cons.mp ha with rfl | ha
      · exact hxy
      · exact ltP_trans hxy (h.1 a ha)
theorem sortP_asc {n : Nat} : ∀ l : List (Fin n × Fin n), l.Nodup → (sortP l).Pairwise fun p q => ltP p q = true
  | [], _ => List.Pairwise.nil
  | x :: r, h => by
    rw [List.nodup_cons] at h
    exact insP_asc x _ (sortP_asc r h.2) fun z => h.1 ((sortP_perm r).mem_iff.mp z)
@[simp] theorem sorted_fpT {n : Nat} (ns : List (Fin n × Fin n)) : b1M .sorted (.tuple (ns.map fp)) = M.pure (.list ((sortP ns).map fp)) := by
  simp only [b1M, seqM_tup, bindEq, bindP]
  rw [if_pos (sortable_fps ns), isort_fp]
@[simp] theorem sorted_fpL {n : Nat} (ns : List (Fin n × Fin n)) : b1M .sorted (.list (ns.map fp)) = M.pure (.list ((sortP ns).map fp)) := by
  simp only [b1M, seqM_list, bindEq, bindP]
  rw [if_pos (sortable_fps ns), isort_fp]
@[simp] theorem cut_take (xs : List MV) (k : Nat) : cut xs none (some (k : Int)) = xs.take k := by
  simp only [cut, sIx]
  rw [if_neg (by omega)]
  simp only [Int.toNat_natCast, List.drop_zero, Nat.sub_zero]
  rcases Nat.le_total k xs.length with h | h
  · rw [Nat.min_eq_left h]
  · rw [Nat.min_eq_right h, List.take_of_length_le (Nat.le_refl _), List.take_of_length_le h]
@[simp] theorem cut_drop (xs : List MV) (k : Nat) : cut xs (some ((k : Int) + 1)) none = xs.drop (k + 1) := by
  simp only [cut, sIx]
  rw [if_neg (by omega), show ((k : Int) + 1).toNat = k + 1 by omega]
  rcases Nat.le_total (k + 1) xs.length with h | h
  · rw [Nat.min_eq_left h, List.take_of_length_le (by rw [List.length_drop]; omega)]
  · rw [Nat.min_eq_right h, List.drop_of_length_le h, List.drop_of_length_le (Nat.le_refl _)]
    simp
instance {α : Type} {k : Nat} {xs : List α} [h : Short xs] : Short (xs.take k) := ⟨by rw [List.length_take]; have := h.le; omega⟩
instance {n k : Nat} [h : Few n] {α : Type} {f : Fin n → α} {x : α} : Short (((R n).map f).take k ++ [x]) := ⟨by simp; have := h.le; omega⟩
/-- one place changed -/
theorem fin_up {n : Nat} (f : Fin n → MV) (a : Fin n) (x : MV) : ((R n).map f).take a.val ++ x :: ((R n).map f).drop (a.val + 1) = (R n).map (up f a x) := by
  rw [← set_fin, List.set_eq_take_append_cons_drop, if_pos (by simp)]
theorem fin_up' {n : Nat} (f : Fin n → MV) (a : Fin n) (x : MV) : ((R n).map f).take a.val ++ [x] ++ ((R n).map f).drop (a.val + 1) = (R n).map (up f a x) := by
  rw [List.append_assoc]; exact fin_up f a x
theorem Beh.mono {n : Nat} {ns ms : List (Fin n × Fin n)} (h : ∀ p ∈ ns, p ∈ ms) {i j : Fin n} (b : Beh ns i j) : Beh ms i j := by
  induction b with
  | one q => exact .one (h _ q)
  | cons q _ ih => exact .cons (h _ q) ih
/-- a good work has less -/
theorem GoodW.sub {n : Nat} [Few n] {t t' : Fin n → Int} {ns ns' : List (Fin n × Fin n)} (g : GoodW t ns) (h1 : ∀ i, 1 ≤ t' i ∧ t' i ≤ MOST) (hs : ns'.Sublist ns) : GoodW t' ns' :=
  ⟨g.pos, Nat.le_trans hs.length_le g.few, h1, fun p hp => g.ne p (hs.subset hp), g.asc.sublist hs, fun i => (tab_false i i).mpr fun b => g.acy i (b.mono fun p hp => hs.subset hp)⟩
/-- one need more -/
theorem beh_add {n : Nat} {ns : List (Fin n × Fin n)} {a b : Fin n} {i j : Fin n} (h : Beh (ns ++ [(a, b)]) i j) : Beh ns i j ∨ (i = a ∨ Beh ns i a) ∧ (b = j ∨ Beh ns b j) := by
  induction h with
  | @one i j h =>
    rcases List.mem_append.mp h with h | h
    · exact .inl (.one h)
    · have e : (i, j) = (a, b) := by simpa using h
      cases e
      exact .inr ⟨.inl rfl, .inl rfl⟩
  | @cons i k j h _ ih =>
    rcases List.mem_append.mp h with h2 | h
    · rcases ih with p | ⟨p, q⟩
      · exact .inl (.cons h2 p)
      · refine .inr ⟨.inr ?_, q⟩
        rcases p with rfl | p
        · exact .one h2
        · exact .cons h2 p
    · have e : (i, k) = (a, b) := by simpa using h
      cases e
      refine .inr ⟨.inl rfl, ?_⟩
      rcases ih with p | ⟨p, q⟩
      · exact .inr p
      · exact q
theorem acy_add {n : Nat} {ns : List (Fin n × Fin n)} (ac : Acy ns) {a b : Fin n} (hne : a ≠ b) (h : ¬ Beh ns b a) : Acy (ns ++ [(a, b)]) := by
  intro i p
  rcases beh_add p with q | ⟨q, r⟩
  · exact ac i q
  · rcases q with rfl | q
    · rcases r with e | r
      · exact hne e.symm
      · exact h r
    · rcases r with rfl | r
      · exact h q
      · exact h (r.trans q)
theorem GoodW.add {n : Nat} [Few n] {t : Fin n → Int} {ns : List (Fin n × Fin n)} (g : GoodW t ns) {a b : Fin n} (hne : a ≠ b) (hn : (a, b) ∉ ns) (h : ¬ Beh ns b a) : GoodW t (sortP (ns ++ [(a, b)])) := by
  have nd : (ns ++ [(a, b)]).Nodup := by
    rw [List.nodup_append]
    exact ⟨asc_nodup g.asc, by simp, fun p hp q hq e => by
      have : q = (a, b) := by simpa using hq
      subst e this
      exact hn hp⟩
  have ac := acy_add g.acy hne h
  have fw := few_needs nd ac
  have hm : ∀ p, p ∈ sortP (ns ++ [(a, b)]) → p ∈ ns ++ [(a, b)] := fun p hp => (sortP_perm _).mem_iff.mp hp
  refine ⟨g.pos, by rw [(sortP_perm _).length_eq]; omega, g.time, fun p hp e => ?_, sortP_asc _ nd, fun i => (tab_false i i).mpr fun q => ac i (q.mono hm)⟩
  exact ac p.1 (.one (by rw [show (p.1, p.1) = p from Prod.ext rfl e]; exact hm p hp))
end Q

-- Prog_k02
set_option autoImplicit false
set_option linter.all false
set_option Elab.async false
set_option maxRecDepth 100000
set_option maxHeartbeats 0
namespace Prog
open PySem PySem.Spec PyProof.Rows L2 MM Snd
abbrev R : PySem.W.OpenRow := PySem.W.OpenLaw.row PySem.Challenge.rw_morehands_k02_whole_levels_and_chains
def top (i : Nat) : Stmt := R.prog.main.body.getD i (.Pass ⟨0, 0, 0, 0⟩)
def df_law : DF := ⟨"law", defArgs (top 55), defBody (top 55), defScope (top 55), ["script"], ["script", "k", "spring", "turn", "work", "other", "mine", "yours"]⟩
def md_law : MD := ⟨1, 8, true,
    (.seq (.fors (.nm 1) (.rng1 (.max2 (.int 5) (.min2 (.int 11) (.b1 .len (.seq (.var 0)))))) (.seq (.asg (.nm 2) (.call 58 (.cons (.var 0) (.cons (.var 1) .nil))))
    (.seq (.fors (.nm 3) (.rng1 (.int 3)) (.seq (.asg (.nm 4) (.call 68 (.cons (.var 2) (.cons (.int 1) (.cons (.int 10) .nil)))))
    (.seq (.ifs (.tnot (.tv (.call 62 (.cons (.call 119 (.cons (.var 4) .nil)) (.cons (.call 38 (.cons (.var 4) .nil)) .nil))))) (.seq (.ret .ff)
    .skip) .skip)
    (.seq (.ifs (.tnot (.tv (.call 14 (.cons (.var 4) (.cons (.call 124 (.cons (.var 4) .nil)) .nil))))) (.seq (.ret .ff)
    .skip) .skip)
    (.seq (.asg (.nm 5) (.call 200 (.cons (.var 2) (.cons (.var 4) .nil))))
    (.seq (.fors (.tup [6, 7]) (.seq (.lst false (.cons (.tup (.cons (.var 4) (.cons (.var 5) .nil))) (.cons (.tup (.cons (.var 5) (.cons (.var 4) .nil))) (.cons (.tup (.cons (.var 4) (.cons (.var 4) .nil))) .nil))))) (.seq (.ifs (.tnot (.tv (.call 31 (.cons (.call 121 (.cons (.var 6) (.cons (.var 7) .nil))) (.cons (.call 39 (.cons (.var 6) (.cons (.var 7) .nil))) .nil))))) (.seq (.ret .ff)
    .skip) .skip)
    .skip))
    (.seq (.ifs (.tv (.cmp .lt (.call 77 (.cons (.var 4) (.cons (.int 10) .nil))) (.b1 .max (.seq (.call 119 (.cons (.var 4) .nil)))))) (.seq (.ret .ff)
    .skip) .skip)
    .skip)))))))
    .skip)))
    (.seq (.ret (.call 201 .nil))
    .skip))⟩
abbrev lp_law_0 : MS := (.seq (.ifs (.tnot (.tv (.call 31 (.cons (.call 121 (.cons (.var 6) (.cons (.var 7) .nil))) (.cons (.call 39 (.cons (.var 6) (.cons (.var 7) .nil))) .nil))))) (.seq (.ret .ff)
    .skip) .skip)
    .skip)
abbrev lp_law_1 : MS := (.seq (.asg (.nm 4) (.call 68 (.cons (.var 2) (.cons (.int 1) (.cons (.int 10) .nil)))))
    (.seq (.ifs (.tnot (.tv (.call 62 (.cons (.call 119 (.cons (.var 4) .nil)) (.cons (.call 38 (.cons (.var 4) .nil)) .nil))))) (.seq (.ret .ff)
    .skip) .skip)
    (.seq (.ifs (.tnot (.tv (.call 14 (.cons (.var 4) (.cons (.call 124 (.cons (.var 4) .nil)) .nil))))) (.seq (.ret .ff)
    .skip) .skip)
    (.seq (.asg (.nm 5) (.call 200 (.cons (.var 2) (.cons (.var 4) .nil))))
    (.seq (.fors (.tup [6, 7]) (.seq (.lst false (.cons (.tup (.cons (.var 4) (.cons (.var 5) .nil))) (.cons (.tup (.cons (.var 5) (.cons (.var 4) .nil))) (.cons (.tup (.cons (.var 4) (.cons (.var 4) .nil))) .nil))))) (.seq (.ifs (.tnot (.tv (.call 31 (.cons (.call 121 (.cons (.var 6) (.cons (.var 7) .nil))) (.cons (.call 39 (.cons (.var 6) (.cons (.var 7) .nil))) .nil))))) (.seq (.ret .ff)
    .skip) .skip)
    .skip))
    (.seq (.ifs (.tv (.cmp .lt (.call 77 (.cons (.var 4) (.cons (.int 10) .nil))) (.b1 .max (.seq (.call 119 (.cons (.var 4) .nil)))))) (.seq (.ret .ff)
    .skip) .skip)
    .skip))))))
abbrev lp_law_2 : MS := (.seq (.asg (.nm 2) (.call 58 (.cons (.var 0) (.cons (.var 1) .nil))))
    (.seq (.fors (.nm 3) (.rng1 (.int 3)) (.seq (.asg (.nm 4) (.call 68 (.cons (.var 2) (.cons (.int 1) (.cons (.int 10) .nil)))))
    (.seq (.ifs (.tnot (.tv (.call 62 (.cons (.call 119 (.cons (.var 4) .nil)) (.cons (.call 38 (.cons (.var 4) .nil)) .nil))))) (.seq (.ret .ff)
    .skip) .skip)
    (.seq (.ifs (.tnot (.tv (.call 14 (.cons (.var 4) (.cons (.call 124 (.cons (.var 4) .nil)) .nil))))) (.seq (.ret .ff)
    .skip) .skip)
    (.seq (.asg (.nm 5) (.call 200 (.cons (.var 2) (.cons (.var 4) .nil))))
    (.seq (.fors (.tup [6, 7]) (.seq (.lst false (.cons (.tup (.cons (.var 4) (.cons (.var 5) .nil))) (.cons (.tup (.cons (.var 5) (.cons (.var 4) .nil))) (.cons (.tup (.cons (.var 4) (.cons (.var 4) .nil))) .nil))))) (.seq (.ifs (.tnot (.tv (.call 31 (.cons (.call 121 (.cons (.var 6) (.cons (.var 7) .nil))) (.cons (.call 39 (.cons (.var 6) (.cons (.var 7) .nil))) .nil))))) (.seq (.ret .ff)
    .skip) .skip)
    .skip))
    (.seq (.ifs (.tv (.cmp .lt (.call 77 (.cons (.var 4) (.cons (.int 10) .nil))) (.b1 .max (.seq (.call 119 (.cons (.var 4) .nil)))))) (.seq (.ret .ff)
    .skip) .skip)
    .skip)))))))
    .skip))
def df__law_written : DF := ⟨"_law_written", defArgs (top 54), defBody (top 54), defScope (top 54), [], ["graham", "tree", "late", "pair", "three", "two"]⟩
def md__law_written : MD := ⟨0, 6, true,
    (.seq (.asg (.tup [0, 1, 2, 3]) (.call 34 .nil))
    (.seq (.ifs (.tnot (.tv (.call 62 (.cons (.lst false (.cons (.call 119 (.cons (.var 1) .nil)) (.cons (.call 119 (.cons (.var 2) .nil)) .nil))) (.cons (.lst false (.cons (.lst false (.cons (.int 3) (.cons (.int 3) (.cons (.int 2) (.cons (.int 2) (.cons (.int 1) .nil)))))) (.cons (.lst false (.cons (.int 12) (.cons (.int 11) (.cons (.int 11) (.cons (.int 10) (.cons (.int 10) .nil)))))) .nil))) .nil))))) (.seq (.ret .ff)
    .skip) .skip)
    (.seq (.ifs (.tor (.tv (.cmp .ne (.call 124 (.cons (.var 0) .nil)) (.tup (.cons (.int 0) (.cons (.int 8) .nil))))) (.tv (.cmp .ne (.call 119 (.cons (.var 0) .nil)) (.lst false (.cons (.int 12) (.cons (.int 2) (.cons (.int 2) (.cons (.int 6) (.cons (.int 4) (.cons (.int 4) (.cons (.int 4) (.cons (.int 4) (.cons (.int 9) .nil))))))))))))) (.seq (.ret .ff)
    .skip) .skip)
    (.seq (.asg (.tup [4, 5]) (.tup (.cons (.tup (.cons (.tup (.cons (.int 1) (.cons (.int 1) (.cons (.int 1) .nil)))) (.cons (.tup (.cons (.tup (.cons (.int 0) (.cons (.int 1) .nil))) (.cons (.tup (.cons (.int 1) (.cons (.int 2) .nil))) .nil))) .nil))) (.cons (.tup (.cons (.tup (.cons (.int 1) (.cons (.int 1) (.cons (.int 1) .nil)))) (.cons (.tup (.cons (.tup (.cons (.int 0) (.cons (.int 1) .nil))) (.cons (.tup (.cons (.int 0) (.cons (.int 2) .nil))) (.cons (.tup (.cons (.int 1) (.cons (.int 2) .nil))) .nil)))) .nil))) .nil))))
    (.seq (.ifs (.tnot (.tv (.call 62 (.cons (.lst false (.cons (.call 121 (.cons (.var 4) (.cons (.var 5) .nil))) (.cons (.call 121 (.cons (.var 5) (.cons (.var 4) .nil))) (.cons (.call 121 (.cons (.var 0) (.cons (.var 1) .nil))) .nil)))) (.cons (.lst false (.cons .tt (.cons .tt (.cons .ff .nil)))) .nil))))) (.seq (.ret .ff)
    .skip) .skip)
    (.seq (.ifs (.tor (.tv (.cmp .isnot (.call 121 (.cons (.tup (.cons (.tup (.cons (.int 1) (.cons (.int 1) (.cons (.int 1) .nil)))) (.cons (.tup (.cons (.tup (.cons (.int 0) (.cons (.int 2) .nil))) .nil)) .nil))) (.cons (.var 4) .nil))) .tt)) (.tv (.cmp .isnot (.call 121 (.cons (.var 4) (.cons (.tup (.cons (.tup (.cons (.int 1) (.cons (.int 1) (.cons (.int 1) .nil)))) (.cons (.tup (.cons (.tup (.cons (.int 0) (.cons (.int 2) .nil))) .nil)) .nil))) .nil))) .ff))) (.seq (.ret .ff)
    .skip) .skip)
    (.seq (.ret (.and (.cmp .is (.call 121 (.cons (.tup (.cons (.tup (.cons (.int 1) (.cons (.int 2) (.cons (.int 1) .nil)))) (.cons (.tup .nil) .nil))) (.cons (.var 4) .nil))) .ff) (.cmp .eq (.call 124 (.cons (.tup (.cons (.tup (.cons (.int 5) .nil)) (.cons (.tup .nil) .nil))) .nil)) (.tup (.cons (.int 0) .nil)))))
    .skip)))))))⟩
def df__law_known : DF := ⟨"_law_known", defArgs (top 50), defBody (top 50), defScope (top 50), [], ["graham", "tree", "late"]⟩
abbrev md__law_known : MD := Com.md__law_known
def df__law_twins : DF := ⟨"_law_twins", defArgs (top 47), defBody (top 47), defScope (top 47), ["one", "other"], ["one", "other", "a", "b"]⟩
abbrev md__law_twins : MD := Com.md__law_twins
def df__law_kind : DF := ⟨"_law_kind", defArgs (top 46), defBody (top 46), defScope (top 46), ["value"], ["value"]⟩
abbrev md__law_kind : MD := Com.md__law_kind
def df_longest_chain : DF := ⟨"longest_chain", defArgs (top 31), defBody (top 31), defScope (top 31), ["work"], ["work", "row", "found", "some", "task", "high"]⟩
abbrev md_longest_chain : MD := Com.md_longest_chain
def df_need_work : DF := ⟨"need_work", defArgs (top 25), defBody (top 25), defScope (top 25), ["value"], ["value"]⟩
abbrev md_need_work : MD := Com.md_need_work
def df_is_good_work : DF := ⟨"is_good_work", defArgs (top 24), defBody (top 24), defScope (top 24), ["value"], ["value", "times", "needs", "time", "need", "one", "two", "table", "task"]⟩
abbrev md_is_good_work : MD := Com.md_is_good_work
def df_table_of : DF := ⟨"table_of", defArgs (top 23), defBody (top 23), defScope (top 23), ["many", "needs"], ["many", "needs", "other", "one", "table", "middle", "after", "told", "more", "row"]⟩
abbrev md_table_of : MD := Com.md_table_of
def df_is_row : DF := ⟨"is_row", defArgs (top 21), defBody (top 21), defScope (top 21), ["value", "low", "high"], ["value", "low", "high"]⟩
abbrev md_is_row : MD := Com.md_is_row
def df_is_whole : DF := ⟨"is_whole", defArgs (top 20), defBody (top 20), defScope (top 20), ["value", "low", "high"], ["value", "low", "high"]⟩
abbrev md_is_whole : MD := Com.md_is_whole
def df_is_two : DF := ⟨"is_two", defArgs (top 22), defBody (top 22), defScope (top 22), ["many", "value"], ["many", "value", "one"]⟩
abbrev md_is_two : MD := Com.md_is_two
def df_levels_of : DF := ⟨"levels_of", defArgs (top 28), defBody (top 28), defScope (top 28), ["work"], ["work", "times", "needs", "found", "turn", "one", "other", "task", "time"]⟩
abbrev md_levels_of : MD := Com.md_levels_of
def df_all_next : DF := ⟨"all_next", defArgs (top 27), defBody (top 27), defScope (top 27), ["work", "task"], ["work", "task", "table", "other", "told", "some", "third"]⟩
abbrev md_all_next : MD := Com.md_all_next
def df_levels : DF := ⟨"levels", defArgs (top 30), defBody (top 30), defScope (top 30), ["work"], ["work"]⟩
abbrev md_levels : MD := Com.md_levels
def df_lighter : DF := ⟨"lighter", defArgs (top 32), defBody (top 32), defScope (top 32), ["one", "other"], ["one", "other"]⟩
abbrev md_lighter : MD := Com.md_lighter
def df_is_lighter : DF := ⟨"is_lighter", defArgs (top 29), defBody (top 29), defScope (top 29), ["one", "other"], ["one", "other", "mine", "yours", "table", "first", "second"]⟩
abbrev md_is_lighter : MD := Com.md_is_lighter
def df__law_spring : DF := ⟨"_law_spring", defArgs (top 40), defBody (top 40), defScope (top 40), ["script", "at"], ["script", "at", "cell", "mixed"]⟩
abbrev md__law_spring : MD := Com.md__law_spring
def df__law_work : DF := ⟨"_law_work", defArgs (top 44), defBody (top 44), defScope (top 44), ["spring", "low", "high"], ["spring", "low", "high", "many", "way", "thin", "rank", "times", "needs", "task", "time", "one", "other"]⟩
abbrev md__law_work : MD := Com.md__law_work
def df__law_pick : DF := ⟨"_law_pick", defArgs (top 41), defBody (top 41), defScope (top 41), ["spring", "many"], ["spring", "many", "digit"]⟩
abbrev md__law_pick : MD := Com.md__law_pick
def df__law_mixed : DF := ⟨"_law_mixed", defArgs (top 43), defBody (top 43), defScope (top 43), ["spring", "many"], ["spring", "many", "left", "found", "turn"]⟩
abbrev md__law_mixed : MD := Com.md__law_mixed
def df__law_less : DF := ⟨"_law_less", defArgs (top 52), defBody (top 52), defScope (top 52), ["spring", "work"], ["spring", "work", "times", "needs", "time", "less", "need", "left", "way", "at", "more", "one", "other", "free"]⟩
def md__law_less : MD := ⟨2, 14, true,
    (.seq (.asg (.tup [2, 3]) (.var 1))
    (.seq (.asg (.nm 5) (.b1 .tuple (.seq (.lc false [4] (.nm 4) (.seq (.var 2)) (.tv .tt) (.ite (.tv (.cmp .eq (.call 51 (.cons (.var 0) (.cons (.int 2) .nil))) (.int 0))) (.bin .add (.int 1) (.call 51 (.cons (.var 0) (.cons (.var 4) .nil)))) (.var 4))))))
    (.seq (.asg (.nm 7) (.b1 .tuple (.seq (.lc false [6] (.nm 6) (.seq (.var 3)) (.tv (.cmp .gt (.call 51 (.cons (.var 0) (.cons (.int 4) .nil))) (.int 0))) (.var 6)))))
    (.seq (.asg (.nm 8) (.call 51 (.cons (.var 0) (.cons (.int 4) .nil))))
    (.seq (.ifs (.tv (.cmp .eq (.var 8) (.int 0))) (.seq (.asg (.nm 9) (.call 51 (.cons (.var 0) (.cons (.b1 .len (.seq (.var 2))) .nil))))
    (.seq (.asg (.nm 10) (.ite (.tv (.cmp .lt (.idx (.var 2) (.var 9)) (.bin .pow (.int 10) (.int 30)))) (.bin .add (.idx (.var 2) (.var 9)) (.int 1)) (.idx (.var 2) (.var 9))))
    (.seq (.asg (.nm 5) (.bin .add (.bin .add (.sl (.var 5) .nil (.seq (.var 9))) (.tup (.cons (.var 10) .nil))) (.sl (.var 5) (.seq (.bin .add (.var 9) (.int 1))) .nil)))
    .skip))) .skip)
    (.seq (.ifs (.tand (.tv (.cmp .eq (.var 8) (.int 1))) (.tv (.cmp .gt (.b1 .len (.seq (.var 2))) (.int 1)))) (.seq (.asg (.nm 11) (.call 51 (.cons (.var 0) (.cons (.b1 .len (.seq (.var 2))) .nil))))
    (.seq (.asg (.nm 12) (.call 51 (.cons (.var 0) (.cons (.b1 .len (.seq (.var 2))) .nil))))
    (.seq (.asg (.nm 13) (.and (.cmp .ne (.var 11) (.var 12)) (.cmp .notin (.tup (.cons (.var 11) (.cons (.var 12) .nil))) (.var 7))))
    (.seq (.ifs (.tand (.tv (.var 13)) (.tv (.cmp .notin (.var 11) (.call 0 (.cons (.var 1) (.cons (.var 12) .nil)))))) (.seq (.asg (.nm 7) (.b1 .tuple (.seq (.b1 .sorted (.seq (.bin .add (.var 7) (.tup (.cons (.tup (.cons (.var 11) (.cons (.var 12) .nil))) .nil))))))))
    .skip) .skip)
    .skip)))) .skip)
    (.seq (.ret (.tup (.cons (.var 5) (.cons (.var 7) .nil))))
    .skip)))))))⟩
def df__law_after : DF := ⟨"_law_after", defArgs (top 48), defBody (top 48), defScope (top 48), ["work", "task"], ["work", "task", "one", "other", "found", "turn"]⟩
abbrev md__law_after : MD := Com.md__law_after
def df__law_chain_right : DF := ⟨"_law_chain_right", defArgs (top 51), defBody (top 51), defScope (top 51), ["work", "told"], ["work", "told", "task", "one", "other"]⟩
abbrev md__law_chain_right : MD := Com.md__law_chain_right
def df__law_levels : DF := ⟨"_law_levels", defArgs (top 49), defBody (top 49), defScope (top 49), ["work"], ["work", "time", "found", "turn", "one", "other"]⟩
abbrev md__law_levels : MD := Com.md__law_levels
def df_bound : DF := ⟨"bound", defArgs (top 35), defBody (top 35), defScope (top 35), ["work", "hands"], ["work", "hands"]⟩
abbrev md_bound : MD := Com.md_bound
def df_need_hands : DF := ⟨"need_hands", defArgs (top 26), defBody (top 26), defScope (top 26), ["value"], ["value"]⟩
abbrev md_need_hands : MD := Com.md_need_hands
def df_least_bound : DF := ⟨"least_bound", defArgs (top 34), defBody (top 34), defScope (top 34), ["work", "hands"], ["work", "hands"]⟩
abbrev md_least_bound : MD := Com.md_least_bound
def df__law_is : DF := ⟨"_law_is", defArgs (top 45), defBody (top 45), defScope (top 45), ["told", "due"], ["told", "due"]⟩
abbrev md__law_is : MD := Com.md__law_is
def df__law_lighter : DF := ⟨"_law_lighter", defArgs (top 53), defBody (top 53), defScope (top 53), ["one", "other"], ["one", "other", "mine", "yours", "task", "far", "later"]⟩
abbrev md__law_lighter : MD := Com.md__law_lighter
def pg : Pg := ⟨[(202, df_law, md_law), (201, df__law_written, md__law_written), (34, df__law_known, md__law_known), (62, df__law_twins, md__law_twins), (32, df__law_kind, md__law_kind), (124, df_longest_chain, md_longest_chain), (136, df_need_work, md_need_work), (101, df_is_good_work, md_is_good_work), (153, df_table_of, md_table_of), (106, df_is_row, md_is_row), (108, df_is_whole, md_is_whole), (107, df_is_two, md_is_two), (120, df_levels_of, md_levels_of), (71, df_all_next, md_all_next), (119, df_levels, md_levels), (121, df_lighter, md_lighter), (102, df_is_lighter, md_is_lighter), (58, df__law_spring, md__law_spring), (68, df__law_work, md__law_work), (51, df__law_pick, md__law_pick), (43, df__law_mixed, md__law_mixed), (200, df__law_less, md__law_less), (0, df__law_after, md__law_after), (14, df__law_chain_right, md__law_chain_right), (38, df__law_levels, md__law_levels), (77, df_bound, md_bound), (131, df_need_hands, md_need_hands), (116, df_least_bound, md_least_bound), (31, df__law_is, md__law_is), (39, df__law_lighter, md__law_lighter)],
  [(0, "MOST_TASKS", 10), (1, "MOST_TIME", 1000000000000000000000000000000)],
  [(3, "InvalidHands"), (1, "InvalidWork")]⟩
instance : Q.Has pg.P 202 md_law := ⟨by rfl⟩
instance : Q.Has pg.P 201 md__law_written := ⟨by rfl⟩
instance : Q.Has pg.P 34 md__law_known := ⟨by rfl⟩
instance : Q.Has pg.P 62 md__law_twins := ⟨by rfl⟩
instance : Q.Has pg.P 32 md__law_kind := ⟨by rfl⟩
instance : Q.Has pg.P 124 md_longest_chain := ⟨by rfl⟩
instance : Q.Has pg.P 136 md_need_work := ⟨by rfl⟩
instance : Q.Has pg.P 101 md_is_good_work := ⟨by rfl⟩
instance : Q.Has pg.P 153 md_table_of := ⟨by rfl⟩
instance : Q.Has pg.P 106 md_is_row := ⟨by rfl⟩
instance : Q.Has pg.P 108 md_is_whole := ⟨by rfl⟩
instance : Q.Has pg.P 107 md_is_two := ⟨by rfl⟩
instance : Q.Has pg.P 120 md_levels_of := ⟨by rfl⟩
instance : Q.Has pg.P 71 md_all_next := ⟨by rfl⟩
instance : Q.Has pg.P 119 md_levels := ⟨by rfl⟩
instance : Q.Has pg.P 121 md_lighter := ⟨by rfl⟩
instance : Q.Has pg.P 102 md_is_lighter := ⟨by rfl⟩
instance : Q.Has pg.P 58 md__law_spring := ⟨by rfl⟩
instance : Q.Has pg.P 68 md__law_work := ⟨by rfl⟩
instance : Q.Has pg.P 51 md__law_pick := ⟨by rfl⟩
instance : Q.Has pg.P 43 md__law_mixed := ⟨by rfl⟩
instance : Q.Has pg.P 200 md__law_less := ⟨by rfl⟩
instance : Q.Has pg.P 0 md__law_after := ⟨by rfl⟩
instance : Q.Has pg.P 14 md__law_chain_right := ⟨by rfl⟩
instance : Q.Has pg.P 38 md__law_levels := ⟨by rfl⟩
instance : Q.Has pg.P 77 md_bound := ⟨by rfl⟩
instance : Q.Has pg.P 131 md_need_hands := ⟨by rfl⟩
instance : Q.Has pg.P 116 md_least_bound := ⟨by rfl⟩
instance : Q.Has pg.P 31 md__law_is := ⟨by rfl⟩
instance : Q.Has pg.P 39 md__law_lighter := ⟨by rfl⟩
instance : Q.HasG pg.G 0 10 := ⟨by rfl⟩
instance : Q.HasG pg.G 1 1000000000000000000000000000000 := ⟨by rfl⟩
theorem chk_ok : pg.chk = true := by decide +kernel
theorem sc_ok : pg.tab.all (fun x => scB x.2.1) = true := by decide +kernel
theorem bd_law : BindOk df_law := fun _ _ _ _ _ _ us hl => match us, hl with | [_], _ => by kernel_rfl
theorem bd__law_written : BindOk df__law_written := fun _ _ _ _ _ _ us hl => match us, hl with | [], _ => by kernel_rfl
theorem bd__law_known : BindOk df__law_known := fun _ _ _ _ _ _ us hl => match us, hl with | [], _ => by kernel_rfl
theorem bd__law_twins : BindOk df__law_twins := fun _ _ _ _ _ _ us hl => match us, hl with | [_, _], _ => by kernel_rfl
theorem bd__law_kind : BindOk df__law_kind := fun _ _ _ _ _ _ us hl => match us, hl with | [_], _ => by kernel_rfl
theorem bd_longest_chain : BindOk df_longest_chain := fun _ _ _ _ _ _ us hl => match us, hl with | [_], _ => by kernel_rfl
theorem bd_need_work : BindOk df_need_work := fun _ _ _ _ _ _ us hl => match us, hl with | [_], _ => by kernel_rfl
theorem bd_is_good_work : BindOk df_is_good_work := fun _ _ _ _ _ _ us hl => match us, hl with | [_], _ => by kernel_rfl
theorem bd_table_of : BindOk df_table_of := fun _ _ _ _ _ _ us hl => match us, hl with | [_, _], _ => by kernel_rfl
theorem bd_is_row : BindOk df_is_row := fun _ _ _ _ _ _ us hl => match us, hl with | [_, _, _], _ => by kernel_rfl
theorem bd_is_whole : BindOk df_is_whole := fun _ _ _ _ _ _ us hl => match us, hl with | [_, _, _], _ => by kernel_rfl
theorem bd_is_two : BindOk df_is_two := fun _ _ _ _ _ _ us hl => match us, hl with | [_, _], _ => by kernel_rfl
theorem bd_levels_of : BindOk df_levels_of := fun _ _ _ _ _ _ us hl => match us, hl with | [_], _ => by kernel_rfl
theorem bd_all_next : BindOk df_all_next := fun _ _ _ _ _ _ us hl => match us, hl with | [_, _], _ => by kernel_rfl
theorem bd_levels : BindOk df_levels := fun _ _ _ _ _ _ us hl => match us, hl with | [_], _ => by kernel_rfl
theorem bd_lighter : BindOk df_lighter := fun _ _ _ _ _ _ us hl => match us, hl with | [_, _], _ => by kernel_rfl
theorem bd_is_lighter : BindOk df_is_lighter := fun _ _ _ _ _ _ us hl => match us, hl with | [_, _], _ => by kernel_rfl
theorem bd__law_spring : BindOk df__law_spring := fun _ _ _ _ _ _ us hl => match us, hl with | [_, _], _ => by kernel_rfl
theorem bd__law_work : BindOk df__law_work := fun _ _ _ _ _ _ us hl => match us, hl with | [_, _, _], _ => by kernel_rfl
theorem bd__law_pick : BindOk df__law_pick := fun _ _ _ _ _ _ us hl => match us, hl with | [_, _], _ => by kernel_rfl
theorem bd__law_mixed : BindOk df__law_mixed := fun _ _ _ _ _ _ us hl => match us, hl with | [_, _], _ => by kernel_rfl
theorem bd__law_less : BindOk df__law_less := fun _ _ _ _ _ _ us hl => match us, hl with | [_, _], _ => by kernel_rfl
theorem bd__law_after : BindOk df__law_after := fun _ _ _ _ _ _ us hl => match us, hl with | [_, _], _ => by kernel_rfl
theorem bd__law_chain_right : BindOk df__law_chain_right := fun _ _ _ _ _ _ us hl => match us, hl with | [_, _], _ => by kernel_rfl
theorem bd__law_levels : BindOk df__law_levels := fun _ _ _ _ _ _ us hl => match us, hl with | [_], _ => by kernel_rfl
theorem bd_bound : BindOk df_bound := fun _ _ _ _ _ _ us hl => match us, hl with | [_, _], _ => by kernel_rfl
theorem bd_need_hands : BindOk df_need_hands := fun _ _ _ _ _ _ us hl => match us, hl with | [_], _ => by kernel_rfl
theorem bd_least_bound : BindOk df_least_bound := fun _ _ _ _ _ _ us hl => match us, hl with | [_, _], _ => by kernel_rfl
theorem bd__law_is : BindOk df__law_is := fun _ _ _ _ _ _ us hl => match us, hl with | [_, _], _ => by kernel_rfl
theorem bd__law_lighter : BindOk df__law_lighter := fun _ _ _ _ _ _ us hl => match us, hl with | [_, _], _ => by kernel_rfl
theorem bd_ok : ∀ x ∈ pg.tab, BindOk x.2.1 := by
  intro x hx
  rcases List.mem_cons.mp hx with e | hx
  · rw [e]; exact bd_law
  rcases List.mem_cons.mp hx with e | hx
  · rw [e]; exact bd__law_written
  rcases List.mem_cons.mp hx with e | hx
  · rw [e]; exact bd__law_known
  rcases List.mem_cons.mp hx with e | hx
  · rw [e]; exact bd__law_twins
  rcases List.mem_cons.mp hx with e | hx
  · rw [e]; exact bd__law_kind
  rcases List.mem_cons.mp hx with e | hx
  · rw [e]; exact bd_longest_chain
  rcases List.mem_cons.mp hx with e | hx
  · rw [e]; exact bd_need_work
  rcases List.mem_cons.mp hx with e | hx
  · rw [e]; exact bd_is_good_work
  rcases List.mem_cons.mp hx with e | hx
  · rw [e]; exact bd_table_of
  rcases List.mem_cons.mp hx with e | hx
  · rw [e]; exact bd_is_row
  rcases List.mem_cons.mp hx with e | hx
  · rw [e]; exact bd_is_whole
  rcases List.mem_cons.mp hx with e | hx
  · rw [e]; exact bd_is_two
  rcases List.mem_cons.mp hx with e | hx
  · rw [e]; exact bd_levels_of
  rcases List.mem_cons.mp hx with e | hx
  · rw [e]; exact bd_all_next
  rcases List.mem_cons.mp hx with e | hx
  · rw [e]; exact bd_levels
  rcases List.mem_cons.mp hx with e | hx
  · rw [e]; exact bd_lighter
  rcases List.mem_cons.mp hx with e | hx
  · rw [e]; exact bd_is_lighter
  rcases List.mem_cons.mp hx with e | hx
  · rw [e]; exact bd__law_spring
  rcases List.mem_cons.mp hx with e | hx
  · rw [e]; exact bd__law_work
  rcases List.mem_cons.mp hx with e | hx
  · rw [e]; exact bd__law_pick
  rcases List.mem_cons.mp hx with e | hx
  · rw [e]; exact bd__law_mixed
  rcases List.mem_cons.mp hx with e | hx
  · rw [e]; exact bd__law_less
  rcases List.mem_cons.mp hx with e | hx
  · rw [e]; exact bd__law_after
  rcases List.mem_cons.mp hx with e | hx
  · rw [e]; exact bd__law_chain_right
  rcases List.mem_cons.mp hx with e | hx
  · rw [e]; exact bd__law_levels
  rcases List.mem_cons.mp hx with e | hx
  · rw [e]; exact bd_bound
  rcases List.mem_cons.mp hx with e | hx
  · rw [e]; exact bd_need_hands
  rcases List.mem_cons.mp hx with e | hx
  · rw [e]; exact bd_least_bound
  rcases List.mem_cons.mp hx with e | hx
  · rw [e]; exact bd__law_is
  rcases List.mem_cons.mp hx with e | hx
  · rw [e]; exact bd__law_lighter
  cases hx
abbrev hk : PySem.W.Hook := He.hookX 4 pg.fa pg.fn [] [] (fun _ => true)
def ob (s : PySem.W.SharedT) : He.AlX := He.obsX 4 pg.fa pg.fn [] [] (fun _ => true) (HandSHeadRun.getT s)
theorem ob_eq (s : PySem.W.SharedT) : ob s = hk.obs s.abs := He.obsX_eq (HandSHeadRun.getT_eq s)
def loose0 : List PySem.Str := ["HandError", "InvalidWork", "InvalidTask", "InvalidHands", "InvalidOrder", "InvalidNumber", "InvalidFacts", "InvalidText", "NotPlain", "NoNeed", "NotReady", "NoHand", "NothingRuns", "Unlike", "NothingToUndo", "TooMany", "MOST_TASKS", "MOST_TIME", "is_whole", "is_row", "is_two", "table_of", "is_good_work", "need_work", "need_hands", "all_next", "levels_of", "is_lighter", "levels", "longest_chain"]
def loose1 : List PySem.Str := ["lighter", "least_bound", "bound", "_law_error", "_law_came", "_law_all_say", "_law_spring", "_law_pick", "_law_chosen", "_law_mixed", "_law_work", "_law_is", "_law_kind", "_law_twins", "_law_after", "_law_levels", "_law_known", "_law_chain_right", "_law_less", "_law_lighter", "_law_written"]
def loose : List PySem.Str := loose0 ++ loose1
theorem run (w : World) : HandSHeadRun.RunEq R (PySem.W.view R.prog [55]) hk ob 6000 loose w := by
  intro os
  kernel_rfl
def depth : Nat := 100
def LawM : Prop := ∀ ns : List Int, ns.length ≤ 63 → (∀ z ∈ ns, Builtin.Int.intBits z ≤ 1048576) → ∃ h', gc md_law.fz 0 [] (evS (callM pg.P (fun _ => none) pg.G depth) [] md_law.body (startM [sc ns] md_law.ns) []) = .ok (.bool true) h'
theorem facts (law : LawM) {P : Program} {w : World} {K : PySem.W.Frag} {h : Heap} {mg : PySem.Str → Option Value} {f : Addr} (X : K.In h) (G : h.Ns mainGlobals mg) (hfa : mg ("law" : PySem.Str) = some (.ref f)) (c : He.SaysD pg.fa pg.fn K) :
    ∃ fd : FuncData, (∀ (s : Shared) (v : Value), BindsTo s fd ⟨[v], []⟩ [("script", v)]) ∧ ∀ base : Heap, FnOk P w K mg base (L2.CX P w) (depth + 1) f fd ["script"] (spLaw K 63) := by
  obtain ⟨wd, fr⟩ := wd_of (p := pg) (P := P) (w := w) X G c sc_ok bd_ok
  have hf : pg.C.D 202 = some df_law := by rfl
  obtain ⟨fd, F⟩ := fun_of c hf
  have e := hfa.symm.trans ((wd.defs _ _ hf).mg)
  injection e with e
  injection e with e
  subst e
  have b := FunD.bindsA (ps := ["script"]) F fun _ _ _ _ _ _ us hl => match us, hl with | [_], _ => by kernel_rfl
  exact ⟨fd, fun s v => b s [v] rfl, fun base => law_ok (L := fun _ => none) (d := depth) (base := base) chk_ok wd fr hf (by rfl) rfl rfl rfl F law⟩
end Prog
open PySem PySem.W PySem.Calls PyProof.Rows
theorem law_holds (law : Prog.LawM) : PySem.Challenge.rw_morehands_k02_whole_levels_and_chains.Holds := by
  w_on; o_law
  refine HandSHeadRun.head_any (r := OpenLaw.row PySem.Challenge.rw_morehands_k02_whole_levels_and_chains) (q := view (OpenLaw.row PySem.Challenge.rw_morehands_k02_whole_levels_and_chains).prog [55]) (H := Prog.hk) (ob := Prog.ob) (M := 6000) (loose := Prog.loose) (d := HandSHeadRun.topDef (OpenLaw.row PySem.Challenge.rw_morehands_k02_whole_levels_and_chains).prog 55) (kwd := []) Prog.ob_eq
    (by kernel_rfl) (fun s => by kernel_rfl) Prog.run (by kernel_rfl) (by kernel_rfl) (by kernel_rfl) (by rfl) (by first | assumption | decide +kernel) (by decide +kernel) ⟨rfl, rfl, rfl, rfl, rfl, by decide +kernel⟩ ?hw ?hc
  case hw => w_witness2
  case hc =>
    refine LamX.walk_ofTsE (l := PySem.Challenge.rw_morehands_k02_whole_levels_and_chains) (n := 63) (k := Prog.depth + 1) (x := "script") (CX := fun w => L2.CX (PySem.Challenge.rw_morehands_k02_whole_levels_and_chains).prog w) rfl (by decide) (by kernel_rfl) ⟨rfl, by decide, by decide⟩ ?F ?X
    case F =>
      intro w mg fa h Y G hmg0
      obtain ⟨K, KX, c⟩ := Y
      have hmg : mg ("law" : PySem.Str) = some (.ref fa) := by
        have e : (HandSHeadRun.topDef (OpenLaw.row PySem.Challenge.rw_morehands_k02_whole_levels_and_chains).prog 55).name = ("law" : PySem.Str) := by kernel_rfl
        rw [← e]
        exact hmg0
      obtain ⟨fd, hb, hF⟩ := Prog.facts law (P := (PySem.Challenge.rw_morehands_k02_whole_levels_and_chains).prog) (w := w) KX G hmg c.t.d
      refine ⟨K, KX, fd, [], Snd.spLaw K 63, (fun p hp => by cases hp), (fun p hp => by cases hp), (fun p hp => by cases hp), hb, fun H a ns hl hbits _ hS => ⟨a, ns, rfl, hl, hbits, hS, fun _ => rfl⟩, fun base _ _ _ => hF base⟩
    case X =>
      intro w H s e s' z
      obtain ⟨_, _, _, _, _, _, _, _, _, _, _, _, z⟩ := z
      exact z

-- K02
set_option autoImplicit false
set_option linter.all false
set_option Elab.async false
set_option maxRecDepth 10000
set_option exponentiation.threshold 10000
/-! k02: the law in plain Lean -/
namespace K02
open PySem MM Q
open Prog (pg md_law md__law_less md__law_written LawM lp_law_0 lp_law_1 lp_law_2)
variable {d : Nat} {K : List (Option MSt)}
abbrev LL : Nat → Option ME := fun _ => none
theorem opt_list {α : Type} (xs : List α) (h : xs.length ≤ 1000) : Short xs := ⟨h⟩
/-- `_law_less` -/
theorem less_ok {h : MH} {r n : Nat} [Few n] (s : Sp h r) (t : Fin n → Int) (ns : List (Fin n × Fin n)) [Few63 ns] (g : GoodW t ns) : ∃ (t' : Fin n → Int) (ns' : List (Fin n × Fin n)) (h' : MH),
    (∀ (d : Nat) (K : List (Option MSt)), (callM pg.P LL pg.G (d + 3)).fn 200 K [rf r, wk t ns] h = .ok (wk t' ns') h') ∧ GoodW t' ns' ∧ Sp h' r ∧ Same r h h' := by
  have hn := Few.le (n := n)
  have hr := s.lt
  have few := Few63.le (xs := ns)
  -- lesser times
  obtain ⟨bs, h1, e1, l1, r1, s1, sm1⟩ := fm_map (f := fun (i : Dk) => fun a => lcB (callM pg.P LL pg.G (i.1 + 2)) i.2 (.nm 4) (.tv .tt) (.ite (.tv (.cmp .eq (.call 51 (.cons (.var 0) (.cons (.int 2) .nil))) (.int 0))) (.bin .add (.int 1) (.call 51 (.cons (.var 0) (.cons (.var 4) .nil)))) (.var 4)) [some (rf r), some (wk t ns), some (ft fun i => .int (t i)), some (.tuple (ns.map fp)), none, none, none, none, none, none, none, none, none, none] (.int (t a)))
    (enc := PyData.int) (fun (a : Fin n) b => 1 ≤ b ∧ b ≤ t a) (fun H => Sp H r ∧ Same r h H) (R n) h ⟨s, Same.refl⟩ (by
      rintro a - H ⟨s, sm⟩
      obtain ⟨v, H1, e1, b1, s1, sm1⟩ := pickS (P := pg.P) (L := LL) (G := pg.G) s 2 (by omega) (by omega)
      have ht := g.time a
      by_cases hv : v = 0
      · subst hv
        obtain ⟨u, H2, e2, b2, s2, sm2⟩ := pickS (P := pg.P) (L := LL) (G := pg.G) s1 (t a) (by omega) (by unfold MOST at ht; omega)
        refine ⟨1 + (u : Int), H2, fun i => ?_, by omega, s2, (sm.trans sm1).trans sm2⟩
        simp [ev_seq, ev_for, ev_ifs, ev_asg, ev_and, ev_or, ev_neg, ev_var, ev_lc, ev_non, ev_tt, ev_ff, ev_int, ev_str, ev_glb, ev_fnv, ev_tup, ev_lst, ev_bin, ev_lmul, ev_not, ev_cmp, ev_cmp2, ev_ite, ev_call, ev_b1, ev_max2, ev_min2, max2_int, min2_int, ev_isi, ev_idx, ev_sl, ev_rev, ev_app, ev_popAt, ev_index, ev_count, ev_dnew, ev_lam, ev_inrg, ev_pn, ev_ps, ev_skip, ev_pass, ev_par, ev_sub, ev_whl, ev_ret, ev_retN, ev_raise, ev_expr, evA, evI, evT, lcB, bindM, setAll, wipeM, bind_ite, startM, tyIs, bind_app, pure_app, ite_app, e1, e2]
      · refine ⟨t a, H1, fun i => ?_, by omega, s1, sm.trans sm1⟩
        simp [ev_seq, ev_for, ev_ifs, ev_asg, ev_and, ev_or, ev_neg, ev_var, ev_lc, ev_non, ev_tt, ev_ff, ev_int, ev_str, ev_glb, ev_fnv, ev_tup, ev_lst, ev_bin, ev_lmul, ev_not, ev_cmp, ev_cmp2, ev_ite, ev_call, ev_b1, ev_max2, ev_min2, max2_int, min2_int, ev_isi, ev_idx, ev_sl, ev_rev, ev_app, ev_popAt, ev_index, ev_count, ev_dnew, ev_lam, ev_inrg, ev_pn, ev_ps, ev_skip, ev_pass, ev_par, ev_sub, ev_whl, ev_ret, ev_retN, ev_raise, ev_expr, evA, evI, evT, lcB, bindM, setAll, wipeM, bind_ite, startM, tyIs, bind_app, pure_app, ite_app, e1, hv])
  simp only [List.length_finRange] at l1
  have e1 := fun i => (lcI_of (e1 i) (by simp; omega)).2
  rw [map_fin PyData.int bs l1] at e1
  obtain ⟨b, hb, e1⟩ : ∃ b : Fin n → Int, (∀ i, 1 ≤ b i ∧ b i ≤ t i) ∧ ∀ i : Dk, lcI false (lcB (callM pg.P LL pg.G (i.1 + 2)) i.2 (.nm 4) (.tv .tt) (.ite (.tv (.cmp .eq (.call 51 (.cons (.var 0) (.cons (.int 2) .nil))) (.int 0))) (.bin .add (.int 1) (.call 51 (.cons (.var 0) (.cons (.var 4) .nil)))) (.var 4)) [some (rf r), some (wk t ns), some (ft fun i => .int (t i)), some (.tuple (ns.map fp)), none, none, none, none, none, none, none, none, none, none]) (ft fun i => .int (t i)) h = .ok (fl fun i => .int (b i)) h1 :=
    ⟨fun i => bs[i.val]'(by rw [l1]; exact i.isLt), fun i => r1 i.val i _ (by simp) (List.getElem?_eq_getElem _), e1⟩
  -- fewer needs
  obtain ⟨ms, h2, e2, sub, s2, sm2⟩ := fm_sub (f := fun (i : Dk) => fun a => lcB (callM pg.P LL pg.G (i.1 + 2)) i.2 (.nm 6) (.tv (.cmp .gt (.call 51 (.cons (.var 0) (.cons (.int 4) .nil))) (.int 0))) (.var 6) [some (rf r), some (wk t ns), some (ft fun i => .int (t i)), some (.tuple (ns.map fp)), none, some (ft fun i => .int (b i)), none, none, none, none, none, none, none, none] (fp a))
    (enc := fp) (fun H => Sp H r ∧ Same r h1 H) ns h1 ⟨s1, Same.refl⟩ (by
      rintro a - H ⟨s, sm⟩
      obtain ⟨v, H1, e1, b1, s1, sm1⟩ := pickS (P := pg.P) (L := LL) (G := pg.G) s 4 (by omega) (by omega)
      refine ⟨decide (0 < (v : Int)), H1, fun i => ?_, s1, sm.trans sm1⟩
      simp [ev_seq, ev_for, ev_ifs, ev_asg, ev_and, ev_or, ev_neg, ev_var, ev_lc, ev_non, ev_tt, ev_ff, ev_int, ev_str, ev_glb, ev_fnv, ev_tup, ev_lst, ev_bin, ev_lmul, ev_not, ev_cmp, ev_cmp2, ev_ite, ev_call, ev_b1, ev_max2, ev_min2, max2_int, min2_int, ev_isi, ev_idx, ev_sl, ev_rev, ev_app, ev_popAt, ev_index, ev_count, ev_dnew, ev_lam, ev_inrg, ev_pn, ev_ps, ev_skip, ev_pass, ev_par, ev_sub, ev_whl, ev_ret, ev_retN, ev_raise, ev_expr, evA, evI, evT, lcB, bindM, setAll, wipeM, bind_ite, startM, tyIs, bind_app, pure_app, ite_app, e1]
      split <;> rfl)
  have e2 := fun i => (lcI_of (e2 i) (by have := sub.length_le; simp; omega)).2
  have g2 : GoodW b ms := g.sub (fun i => by have := hb i; have := g.time i; omega) sub
  have f2 := g2.few63
  -- the way
  obtain ⟨w, h3, e3, b3, s3, sm3⟩ := pickS (P := pg.P) (L := LL) (G := pg.G) s2 4 (by omega) (by omega)
  have sm03 := (sm1.trans sm2).trans sm3
  have nn : (1 : Int) ≤ (n : Int) := by have := g.pos; omega
  have run : ∀ {v : MV} {H : MH}, v.plain = true → H.length = h.length → (∀ d K, evS (callM pg.P LL pg.G (d + 2)) K md__law_less.body (startM [rf r, wk t ns] md__law_less.ns) h = .ok (.rt v) H) → ∀ (d : Nat) (K : List (Option MSt)), (callM pg.P LL pg.G (d + 3)).fn 200 K [rf r, wk t ns] h = .ok v H := by
    intro v H hp hl e d K
    refine (fn_plain rfl hp (e d K)).trans ?_
    rw [List.take_of_length_le (by omega)]
  have e1 : ∀ d K, _ := fun d K => e1 (d, K)
  have e2 : ∀ d K, _ := fun d K => e2 (d, K)
  simp only at e1 e2
  by_cases w0 : w = 0
  · subst w0
    obtain ⟨a, h4, e4, b4, s4, sm4⟩ := pickS (P := pg.P) (L := LL) (G := pg.G) s3 n nn (by omega)
    obtain ⟨a, ha⟩ : ∃ a' : Fin n, (a'.val : Nat) = a := ⟨⟨a, by omega⟩, rfl⟩
    subst ha
    have ta := g.time a
    refine ⟨up b a (if t a < MOST then t a + 1 else t a), ms, h4, run (by simp) (by rw [(sm03.trans sm4).len]) fun d K => ?_, g2.sub (fun i => ?_) (List.Sublist.refl _), s4, sm03.trans sm4⟩
    · have hp : binM .pow (.int 10) (.int 30) = M.pure (.int MOST) := pow_ok 10 30 (by decide) (by decide) (by decide)
      simp [ev_seq, ev_for, ev_ifs, ev_asg, ev_and, ev_or, ev_neg, ev_var, ev_lc, ev_non, ev_tt, ev_ff, ev_int, ev_str, ev_glb, ev_fnv, ev_tup, ev_lst, ev_bin, ev_lmul, ev_not, ev_cmp, ev_cmp2, ev_ite, ev_call, ev_b1, ev_max2, ev_min2, max2_int, min2_int, ev_isi, ev_idx, ev_sl, ev_rev, ev_app, ev_popAt, ev_index, ev_count, ev_dnew, ev_lam, ev_inrg, ev_pn, ev_ps, ev_skip, ev_pass, ev_par, ev_sub, ev_whl, ev_ret, ev_retN, ev_raise, ev_expr, evA, evI, evT, lcB, bindM, setAll, wipeM, bind_ite, startM, tyIs, md__law_less, bind_app, pure_app, ite_app, e1, e2, e3, e4, hp, -lcI_list, -lcI_tup, -List.take_append_drop, -List.map_take, -List.map_drop, fin_up, fin_up']
      intro i
      unfold up
      split <;> rfl
    · unfold up
      have := hb i
      have := g.time i
      split
      · split <;> omega
      · omega
  by_cases w1 : w = 1 ∧ 1 < n
  · obtain ⟨rfl, n2⟩ := w1
    obtain ⟨a, h4, e4, b4, s4, sm4⟩ := pickS (P := pg.P) (L := LL) (G := pg.G) s3 n nn (by omega)
    obtain ⟨c, h5, e5, b5, s5, sm5⟩ := pickS (P := pg.P) (L := LL) (G := pg.G) s4 n nn (by omega)
    obtain ⟨a, ha⟩ : ∃ a' : Fin n, (a'.val : Nat) = a := ⟨⟨a, by omega⟩, rfl⟩
    obtain ⟨c, hc⟩ : ∃ a' : Fin n, (a'.val : Nat) = c := ⟨⟨c, by omega⟩, rfl⟩
    subst ha hc
    have n2' : (1 : Int) < n := by omega
    have sm05 := (sm03.trans sm4).trans sm5
    have shm : Short ms := ⟨by have := g2.few; omega⟩
    by_cases hz : (a ≠ c ∧ (a, c) ∉ ms) ∧ ¬ Beh ns c a
    · have hcb : tab ns c a = false := (tab_false _ _).mpr hz.2
      refine ⟨b, sortP (ms ++ [(a, c)]), h5, run (by simp) (by rw [sm05.len]) fun d K => ?_, g2.add hz.1.1 hz.1.2 fun q => hz.2 (q.mono fun p hp => sub.subset hp), s5, sm05⟩
      have so : b1M .sorted (.tuple (ms.map fp ++ [.tuple [fi a, fi c]])) = M.pure (.list ((sortP (ms ++ [(a, c)])).map fp)) := by
        have := sorted_fpT (ms ++ [(a, c)])
        rw [List.map_append] at this
        exact this
      simp [ev_seq, ev_for, ev_ifs, ev_asg, ev_and, ev_or, ev_neg, ev_var, ev_lc, ev_non, ev_tt, ev_ff, ev_int, ev_str, ev_glb, ev_fnv, ev_tup, ev_lst, ev_bin, ev_lmul, ev_not, ev_cmp, ev_cmp2, ev_ite, ev_call, ev_b1, ev_max2, ev_min2, max2_int, min2_int, ev_isi, ev_idx, ev_sl, ev_rev, ev_app, ev_popAt, ev_index, ev_count, ev_dnew, ev_lam, ev_inrg, ev_pn, ev_ps, ev_skip, ev_pass, ev_par, ev_sub, ev_whl, ev_ret, ev_retN, ev_raise, ev_expr, evA, evI, evT, lcB, bindM, setAll, wipeM, bind_ite, startM, tyIs, md__law_less, bind_app, pure_app, ite_app, e1, e2, e3, n2', e4, e5, after_ok, hz.1.1, hz.1.2, hcb, so, -lcI_list, -lcI_tup]
    · refine ⟨b, ms, h5, run (by simp) (by rw [sm05.len]) fun d K => ?_, g2, s5, sm05⟩
      by_cases h1 : a = c
      · subst h1
        simp [ev_seq, ev_for, ev_ifs, ev_asg, ev_and, ev_or, ev_neg, ev_var, ev_lc, ev_non, ev_tt, ev_ff, ev_int, ev_str, ev_glb, ev_fnv, ev_tup, ev_lst, ev_bin, ev_lmul, ev_not, ev_cmp, ev_cmp2, ev_ite, ev_call, ev_b1, ev_max2, ev_min2, max2_int, min2_int, ev_isi, ev_idx, ev_sl, ev_rev, ev_app, ev_popAt, ev_index, ev_count, ev_dnew, ev_lam, ev_inrg, ev_pn, ev_ps, ev_skip, ev_pass, ev_par, ev_sub, ev_whl, ev_ret, ev_retN, ev_raise, ev_expr, evA, evI, evT, lcB, bindM, setAll, wipeM, bind_ite, startM, tyIs, md__law_less, bind_app, pure_app, ite_app, e1, e2, e3, n2', e4, e5, after_ok, -lcI_list, -lcI_tup]
      by_cases h2 : (a, c) ∈ ms
      · simp [ev_seq, ev_for, ev_ifs, ev_asg, ev_and, ev_or, ev_neg, ev_var, ev_lc, ev_non, ev_tt, ev_ff, ev_int, ev_str, ev_glb, ev_fnv, ev_tup, ev_lst, ev_bin, ev_lmul, ev_not, ev_cmp, ev_cmp2, ev_ite, ev_call, ev_b1, ev_max2, ev_min2, max2_int, min2_int, ev_isi, ev_idx, ev_sl, ev_rev, ev_app, ev_popAt, ev_index, ev_count, ev_dnew, ev_lam, ev_inrg, ev_pn, ev_ps, ev_skip, ev_pass, ev_par, ev_sub, ev_whl, ev_ret, ev_retN, ev_raise, ev_expr, evA, evI, evT, lcB, bindM, setAll, wipeM, bind_ite, startM, tyIs, md__law_less, bind_app, pure_app, ite_app, e1, e2, e3, n2', e4, e5, after_ok, h1, h2, -lcI_list, -lcI_tup]
      · have h3 : tab ns c a = true := (tab_iff _ _).mpr (Classical.byContradiction fun z => hz ⟨⟨h1, h2⟩, z⟩)
        simp [ev_seq, ev_for, ev_ifs, ev_asg, ev_and, ev_or, ev_neg, ev_var, ev_lc, ev_non, ev_tt, ev_ff, ev_int, ev_str, ev_glb, ev_fnv, ev_tup, ev_lst, ev_bin, ev_lmul, ev_not, ev_cmp, ev_cmp2, ev_ite, ev_call, ev_b1, ev_max2, ev_min2, max2_int, min2_int, ev_isi, ev_idx, ev_sl, ev_rev, ev_app, ev_popAt, ev_index, ev_count, ev_dnew, ev_lam, ev_inrg, ev_pn, ev_ps, ev_skip, ev_pass, ev_par, ev_sub, ev_whl, ev_ret, ev_retN, ev_raise, ev_expr, evA, evI, evT, lcB, bindM, setAll, wipeM, bind_ite, startM, tyIs, md__law_less, bind_app, pure_app, ite_app, e1, e2, e3, n2', e4, e5, after_ok, h1, h2, h3, -lcI_list, -lcI_tup]
  · refine ⟨b, ms, h3, run (by simp) (by rw [sm03.len]) fun d K => ?_, g2, s3, sm03⟩
    by_cases h1 : w = 1
    · have h2 : ¬ (1 : Int) < n := by intro z; exact w1 ⟨h1, by omega⟩
      subst h1
      simp [ev_seq, ev_for, ev_ifs, ev_asg, ev_and, ev_or, ev_neg, ev_var, ev_lc, ev_non, ev_tt, ev_ff, ev_int, ev_str, ev_glb, ev_fnv, ev_tup, ev_lst, ev_bin, ev_lmul, ev_not, ev_cmp, ev_cmp2, ev_ite, ev_call, ev_b1, ev_max2, ev_min2, max2_int, min2_int, ev_isi, ev_idx, ev_sl, ev_rev, ev_app, ev_popAt, ev_index, ev_count, ev_dnew, ev_lam, ev_inrg, ev_pn, ev_ps, ev_skip, ev_pass, ev_par, ev_sub, ev_whl, ev_ret, ev_retN, ev_raise, ev_expr, evA, evI, evT, lcB, bindM, setAll, wipeM, bind_ite, startM, tyIs, md__law_less, bind_app, pure_app, ite_app, e1, e2, e3, h2, -lcI_list, -lcI_tup]
    · have h1' : ¬ (w : Int) = 1 := by omega
      simp [ev_seq, ev_for, ev_ifs, ev_asg, ev_and, ev_or, ev_neg, ev_var, ev_lc, ev_non, ev_tt, ev_ff, ev_int, ev_str, ev_glb, ev_fnv, ev_tup, ev_lst, ev_bin, ev_lmul, ev_not, ev_cmp, ev_cmp2, ev_ite, ev_call, ev_b1, ev_max2, ev_min2, max2_int, min2_int, ev_isi, ev_idx, ev_sl, ev_rev, ev_app, ev_popAt, ev_index, ev_count, ev_dnew, ev_lam, ev_inrg, ev_pn, ev_ps, ev_skip, ev_pass, ev_par, ev_sub, ev_whl, ev_ret, ev_retN, ev_raise, ev_expr, evA, evI, evT, lcB, bindM, setAll, wipeM, bind_ite, startM, tyIs, md__law_less, bind_app, pure_app, ite_app, e1, e2, e3, w0, h1, h1', -lcI_list, -lcI_tup]
/-! ### the written works -/
def tG : Fin 9 → Int := fun i => [3, 2, 2, 2, 4, 4, 4, 4, 9][i.val]!
def nG : List (Fin 9 × Fin 9) := [(0, 8), (3, 4), (3, 5), (3, 6), (3, 7)]
def tT : Fin 5 → Int := fun _ => 1
def nT : List (Fin 5 × Fin 5) := [(0, 2), (1, 2), (2, 4), (3, 4)]
def tL : Fin 5 → Int := fun i => [1, 1, 1, 10, 10][i.val]!
def nL : List (Fin 5 × Fin 5) := [(0, 1), (0, 2), (1, 3), (2, 3)]
instance : Few 9 := ⟨by decide⟩
instance : Few 5 := ⟨by decide⟩
instance : Few 3 := ⟨by decide⟩
instance : Few 1 := ⟨by decide⟩
theorem gG : GoodW tG nG := ⟨by decide, by decide, by decide +kernel, by decide +kernel, by decide +kernel, by decide +kernel⟩
theorem gT : GoodW tT nT := ⟨by decide, by decide, by decide +kernel, by decide +kernel, by decide +kernel, by decide +kernel⟩
theorem gL : GoodW tL nL := ⟨by decide, by decide, by decide +kernel, by decide +kernel, by decide +kernel, by decide +kernel⟩
instance : Few63 nG := gG.few63
instance : Few63 nT := gT.few63
instance : Few63 nL := gL.few63
theorem eG : (PyData.tuple [.tuple [.int 3, .int 2, .int 2, .int 2, .int 4, .int 4, .int 4, .int 4, .int 9], .tuple [.tuple [.int 0, .int 8], .tuple [.int 3, .int 4], .tuple [.int 3, .int 5], .tuple [.int 3, .int 6], .tuple [.int 3, .int 7]]]) = wk tG nG := by rfl
theorem eT : (PyData.tuple [.tuple [.int 1, .int 1, .int 1, .int 1, .int 1], .tuple [.tuple [.int 0, .int 2], .tuple [.int 1, .int 2], .tuple [.int 2, .int 4], .tuple [.int 3, .int 4]]]) = wk tT nT := by rfl
theorem eL : (PyData.tuple [.tuple [.int 1, .int 1, .int 1, .int 10, .int 10], .tuple [.tuple [.int 0, .int 1], .tuple [.int 0, .int 2], .tuple [.int 1, .int 3], .tuple [.int 2, .int 3]]]) = wk tL nL := by rfl
theorem known_ok : ∃ v : MV, v.plain = true ∧ ∀ (d : Nat) (K : List (Option MSt)), (callM pg.P LL pg.G (d + 1)).fn 34 K [] = M.pure (.tuple [wk tG nG, wk tT nT, wk tL nL, v]) := by
  refine ⟨.tuple [.tuple [.int 1, .int 1, .int 1, .int 1], .tuple [.tuple [.int 0, .int 2], .tuple [.int 0, .int 3], .tuple [.int 1, .int 3]]], rfl, fun d K => ?_⟩
  refine fn_pure rfl (by simp) ?_
  simp [ev_seq, ev_for, ev_ifs, ev_asg, ev_and, ev_or, ev_neg, ev_var, ev_lc, ev_non, ev_tt, ev_ff, ev_int, ev_str, ev_glb, ev_fnv, ev_tup, ev_lst, ev_bin, ev_lmul, ev_not, ev_cmp, ev_cmp2, ev_ite, ev_call, ev_b1, ev_max2, ev_min2, max2_int, min2_int, ev_isi, ev_idx, ev_sl, ev_rev, ev_app, ev_popAt, ev_index, ev_count, ev_dnew, ev_lam, ev_inrg, ev_pn, ev_ps, ev_skip, ev_pass, ev_par, ev_sub, ev_whl, ev_ret, ev_retN, ev_raise, ev_expr, evA, evI, evT, lcB, bindM, setAll, wipeM, bind_ite, startM, tyIs, Com.md__law_known, eG, eT, eL]
def t3 : Fin 3 → Int := fun _ => 1
def n3 : List (Fin 3 × Fin 3) := [(0, 1), (1, 2)]
def n2 : List (Fin 3 × Fin 3) := [(0, 1), (0, 2), (1, 2)]
def n1 : List (Fin 3 × Fin 3) := [(0, 2)]
def t121 : Fin 3 → Int := fun i => [1, 2, 1][i.val]!
def n0 : List (Fin 3 × Fin 3) := []
def t5 : Fin 1 → Int := fun _ => 5
def m0 : List (Fin 1 × Fin 1) := []
theorem g3 : GoodW t3 n3 := ⟨by decide, by decide, by decide +kernel, by decide +kernel, by decide +kernel, by decide +kernel⟩
theorem g2 : GoodW t3 n2 := ⟨by decide, by decide, by decide +kernel, by decide +kernel, by decide +kernel, by decide +kernel⟩
theorem g1 : GoodW t3 n1 := ⟨by decide, by decide, by decide +kernel, by decide +kernel, by decide +kernel, by decide +kernel⟩
theorem g121 : GoodW t121 n0 := ⟨by decide, by decide, by decide +kernel, by decide +kernel, by decide +kernel, by decide +kernel⟩
theorem g5 : GoodW t5 m0 := ⟨by decide, by decide, by decide +kernel, by decide +kernel, by decide +kernel, by decide +kernel⟩
instance : Few63 n3 := g3.few63
instance : Few63 n2 := g2.few63
instance : Few63 n1 := g1.few63
instance : Few63 n0 := g121.few63
instance : Few63 m0 := g5.few63
theorem e3 : (PyData.tuple [.tuple [.int 1, .int 1, .int 1], .tuple [.tuple [.int 0, .int 1], .tuple [.int 1, .int 2]]]) = wk t3 n3 := by rfl
theorem e2 : (PyData.tuple [.tuple [.int 1, .int 1, .int 1], .tuple [.tuple [.int 0, .int 1], .tuple [.int 0, .int 2], .tuple [.int 1, .int 2]]]) = wk t3 n2 := by rfl
theorem e1 : (PyData.tuple [.tuple [.int 1, .int 1, .int 1], .tuple [.tuple [.int 0, .int 2]]]) = wk t3 n1 := by rfl
theorem e121 : (PyData.tuple [.tuple [.int 1, .int 2, .int 1], .tuple []]) = wk t121 n0 := by rfl
theorem e5 : (PyData.tuple [.tuple [.int 5], .tuple []]) = wk t5 m0 := by rfl
theorem lvT : (fl fun i => .int (lvK tT nT (Q.R 5) i)) = .list [.int 3, .int 3, .int 2, .int 2, .int 1] := by rfl
theorem lvL : (fl fun i => .int (lvK tL nL (Q.R 5) i)) = .list [.int 12, .int 11, .int 11, .int 10, .int 10] := by rfl
theorem lvG : (fl fun i => .int (lvK tG nG (Q.R 9) i)) = .list [.int 12, .int 2, .int 2, .int 6, .int 4, .int 4, .int 4, .int 4, .int 9] := by rfl
/-- the chains of graham -/
theorem chG (c : List (Fin 9)) (hc : Chn nG c) (hs : (c.map tG).sum = maxF (lev tG nG)) : c = [0, 8] := by
  have e : maxF (lev tG nG) = 12 := by decide +kernel
  rw [e] at hs
  cases hc with
  | one i =>
    exfalso
    have : ∀ i : Fin 9, ¬ ([i].map tG).sum = 12 := by decide +kernel
    exact this i hs
  | @cons i j r h hc =>
    have hij := (tab_iff i j).mpr h
    cases hc with
    | one j =>
      have : ∀ i j : Fin 9, tab nG i j = true → ([i, j].map tG).sum = 12 → i = 0 ∧ j = 8 := by decide +kernel
      obtain ⟨rfl, rfl⟩ := this i j hij hs
      rfl
    | @cons j k r h2 hc =>
      exfalso
      have hjk := (tab_iff j k).mpr h2
      have : ∀ i j k : Fin 9, tab nG i j = true → tab nG j k = true → False := by decide +kernel
      exact this i j k hij hjk
theorem ch5 (c : List (Fin 1)) (hc : Chn m0 c) : c = [0] := by
  cases hc with
  | one i => rw [show i = 0 from Subsingleton.elim _ _]
  | cons h hc => exact absurd ((tab_iff _ _).mpr h) (by rw [Bool.not_eq_true]; exact g5.free 0 ▸ by congr 1 <;> exact Subsingleton.elim _ _)
theorem written_ok : (callM pg.P LL pg.G (d + 7)).fn 201 K [] = M.pure (.bool true) := by
  obtain ⟨v, hv, ek⟩ := known_ok
  refine fn_pure rfl rfl ?_
  obtain ⟨c1, hc1, _, hs1, ec1⟩ := longest_chain_ok (P := pg.P) (L := LL) (G := pg.G) (d := d + 1) (K := K ++ [some [some (wk tG nG), some (wk tT nT), some (wk tL nL), some v, none, none]]) tG nG gG
  have := chG c1 hc1 hs1
  subst this
  obtain ⟨c5, hc5, _, hs5, ec5⟩ := longest_chain_ok (P := pg.P) (L := LL) (G := pg.G) (d := d + 1) (K := K ++ [some [some (wk tG nG), some (wk tT nT), some (wk tL nL), some v, some (wk t3 n3), some (wk t3 n2)]]) t5 m0 g5
  have := ch5 c5 hc5
  subst this
  have tw1 := fun K => twins_self (P := pg.P) (L := LL) (G := pg.G) 2 (.list [.list [.int 3, .int 3, .int 2, .int 2, .int 1], .list [.int 12, .int 11, .int 11, .int 10, .int 10]]) K (d + 2) (by simp [Tame, TameL])
  have tw2 := fun K => twins_self (P := pg.P) (L := LL) (G := pg.G) 1 (.list [.bool true, .bool true, .bool false]) K (d + 3) (by simp [Tame, TameL])
  have l1 : lightB t3 n3 t3 n2 = true := by decide +kernel
  have l2 : lightB t3 n2 t3 n3 = true := by decide +kernel
  have l3 : lightB t3 n1 t3 n3 = true := by decide +kernel
  have l4 : lightB t3 n3 t3 n1 = false := by decide +kernel
  have l5 : lightB t121 n0 t3 n3 = false := by decide +kernel
  have lne := lighter_ne (P := pg.P) (L := LL) (G := pg.G) (d := d + 1) (K := K ++ [some [some (wk tG nG), some (wk tT nT), some (wk tL nL), some v, some (wk t3 n3), some (wk t3 n2)]]) (n := 9) (m := 5) (by decide) tG nG tT nT gG gT
  have q1 : eqM (.tuple [fi (0 : Fin 9), fi (8 : Fin 9)]) (.tuple [.int 0, .int 8]) = M.pure true := eq_self (k := 1) (v := .tuple [.int 0, .int 8]) (by simp [Tame, TameL]) (by decide)
  have q2 : eqM (.tuple [fi (0 : Fin 1)]) (.tuple [.int 0]) = M.pure true := eq_self (k := 1) (v := .tuple [.int 0]) (by simp [Tame, TameL]) (by decide)
  have q3 := eq_self (k := 1) (v := .list [.int 12, .int 2, .int 2, .int 6, .int 4, .int 4, .int 4, .int 4, .int 9]) (by simp [Tame, TameL]) (by decide)
  simp [ev_seq, ev_for, ev_ifs, ev_asg, ev_and, ev_or, ev_neg, ev_var, ev_lc, ev_non, ev_tt, ev_ff, ev_int, ev_str, ev_glb, ev_fnv, ev_tup, ev_lst, ev_bin, ev_lmul, ev_not, ev_cmp, ev_cmp2, ev_ite, ev_call, ev_b1, ev_max2, ev_min2, max2_int, min2_int, ev_isi, ev_idx, ev_sl, ev_rev, ev_app, ev_popAt, ev_index, ev_count, ev_dnew, ev_lam, ev_inrg, ev_pn, ev_ps, ev_skip, ev_pass, ev_par, ev_sub, ev_whl, ev_ret, ev_retN, ev_raise, ev_expr, evA, evI, evT, lcB, bindM, setAll, wipeM, bind_ite, startM, tyIs, md__law_written, q1, q2, q3, ek, e1, e2, e3, e121, e5, levels_ok, gT, gL, gG, lvT, lvL, lvG, tw1, tw2, ec1, ec5, lighter_ok, g1, g2, g3, g121, l1, l2, l3, l4, l5, lne]
theorem maxF_eq {n : Nat} {t : Fin n → Int} {ns : List (Fin n × Fin n)} (g : GoodW t ns) : b1M .max (fl fun i => .int (lev t ns i)) = M.pure (.int (maxF (lev t ns))) :=
  max_fin (lev t ns) g.pos fun i => by have := lev_t (t := t) g.acy i; have := (g.time i).1; omega
theorem turn_ok {h : MH} {r : Nat} (s : Sp h r) (is : List Int) (K : List (Option MSt)) (v a b c e f : Option MV) (k : MV) : ∃ a' b' c' e' h', forB (callM pg.P LL pg.G (d + 8)) K (.nm 3) lp_law_1 k [some (sc is), v, some (rf r), a, b, c, e, f] h = .ok (.nx [some (sc is), v, some (rf r), some k, a', b', c', e']) h' ∧ Sp h' r ∧ Same r h h' := by
  obtain ⟨n, t, ns, h1, few, _, _, e1, g, s1, sm1⟩ := work_ok (P := pg.P) (L := LL) (G := pg.G) s 1 10 (by decide) (by decide) (by decide)
  have f1 := g.few63
  obtain ⟨t', ns', h2, e2, g', s2, sm2⟩ := less_ok s1 t ns g
  have f2 := g'.few63
  obtain ⟨c0, hc, hl, hs, ec⟩ := longest_chain_ok (P := pg.P) (L := LL) (G := pg.G) (d := d + 3) (K := K ++ [some [some (sc is), v, some (rf r), some k, some (wk t ns), c, e, f]]) t ns g
  have shc : Short c0 := ⟨by have := few.le; omega⟩
  have tw := fun K => twins_self (P := pg.P) (L := LL) (G := pg.G) 1 (fl fun i => .int (lev t ns i)) K (d + 5) (by simp only [Tame]; exact ⟨by simp; have := few.le; omega, tameL_map _ (fun _ => by simp [Tame]) _⟩)
  have mx := maxF_eq g
  refine ⟨some (wk t ns), some (wk t' ns'), some (wk t ns), some (wk t ns), h2, ?_, s2, sm1.trans sm2⟩
  simp [ev_seq, ev_for, ev_ifs, ev_asg, ev_and, ev_or, ev_neg, ev_var, ev_lc, ev_non, ev_tt, ev_ff, ev_int, ev_str, ev_glb, ev_fnv, ev_tup, ev_lst, ev_bin, ev_lmul, ev_not, ev_cmp, ev_cmp2, ev_ite, ev_call, ev_b1, ev_max2, ev_min2, max2_int, min2_int, ev_isi, ev_idx, ev_sl, ev_rev, ev_app, ev_popAt, ev_index, ev_count, ev_dnew, ev_lam, ev_inrg, ev_pn, ev_ps, ev_skip, ev_pass, ev_par, ev_sub, ev_whl, ev_ret, ev_retN, ev_raise, ev_expr, evA, evI, evT, lcB, bindM, setAll, wipeM, bind_ite, startM, tyIs, forB, bind_app, pure_app, ite_app, e1, levels_ok, g, lvK_lev, law_levels_ok, gs_lev g.acy, tw, ec, chain_right_ok, hc, hs, e2, loopF_cons, lighter_ok, law_lighter_ok, g', is_ok, bound_ok, mx]
  omega
theorem loops_ok (is : List Int) (h : MH) (K : List (Option MSt)) (k : Nat) (a b c e f g' g1 : Option MV) : ∃ a' b' c' e' f' i' h', forB (callM pg.P LL pg.G (d + 8)) K (.nm 1) lp_law_2 (.int (k : Int)) [some (sc is), a, b, c, e, f, g', g1] h = .ok (.nx [some (sc is), some (.int (k : Int)), a', b', c', e', f', i']) h' := by
  obtain ⟨x, y, es⟩ := spring_ok (P := pg.P) (L := LL) (G := pg.G) is k h
  have sp : Sp (h ++ [.lst [.int x, .int y]]) h.length := ⟨x, y, app_last⟩
  have r3 : rngM (.int 0) (.int 3) = M.pure ((Q.R 3).map fi) := rng_nat 3 (by decide)
  obtain ⟨σ', h', e, s', t, u, v, w, z, rfl⟩ := loop_inv (body := forB (callM pg.P LL pg.G (d + 8)) K (.nm 3) lp_law_1) ((Q.R 3).map fi) (fun _ σ H => Sp H h.length ∧ ∃ t u v w z, σ = [some (sc is), some (.int (k : Int)), some (rf h.length), t, u, v, w, z]) (σ := [some (sc is), some (.int (k : Int)), some (rf h.length), c, e, f, g', g1]) (h := h ++ [.lst [.int x, .int y]]) ⟨sp, _, _, _, _, _, rfl⟩ (by
    rintro j x σ H - ⟨s, t, u, v, w, z, rfl⟩
    obtain ⟨a', b', c', e', h', e, s', -⟩ := turn_ok (d := d) s is K (some (.int (k : Int))) t u v w z x
    exact ⟨_, _, e, s', _, _, _, _, _, rfl⟩)
  refine ⟨some (rf h.length), t, u, v, w, z, h', ?_⟩
  simp [ev_seq, ev_for, ev_ifs, ev_asg, ev_and, ev_or, ev_neg, ev_var, ev_lc, ev_non, ev_tt, ev_ff, ev_int, ev_str, ev_glb, ev_fnv, ev_tup, ev_lst, ev_bin, ev_lmul, ev_not, ev_cmp, ev_cmp2, ev_ite, ev_call, ev_b1, ev_max2, ev_min2, max2_int, min2_int, ev_isi, ev_idx, ev_sl, ev_rev, ev_app, ev_popAt, ev_index, ev_count, ev_dnew, ev_lam, ev_inrg, ev_pn, ev_ps, ev_skip, ev_pass, ev_par, ev_sub, ev_whl, ev_ret, ev_retN, ev_raise, ev_expr, evA, evI, evT, lcB, bindM, setAll, wipeM, bind_ite, startM, tyIs, lp_law_2, forB, bind_app, pure_app, ite_app, es, r3, e]
theorem law_ok : LawM := by
  intro is hl hb
  have hm : (max 5 (min 11 (is.length : Int))) = ((max 5 (min 11 is.length) : Nat) : Int) := by omega
  obtain ⟨σ', h', e, t, u, v, w, x, y, z, rfl⟩ := loop_inv (body := forB (callM pg.P LL pg.G (92 + 8)) [] (.nm 1) lp_law_2) ((Q.R (max 5 (min 11 is.length))).map fi) (fun _ σ H => ∃ t u v w x y z, σ = [some (sc is), t, u, v, w, x, y, z]) (σ := [some (sc is), none, none, none, none, none, none, none]) (h := []) ⟨_, _, _, _, _, _, _, rfl⟩ (by
    rintro j x σ H hj ⟨t, u, v, w, x2, y, z, rfl⟩
    obtain ⟨hj', rfl⟩ := List.getElem?_eq_some_iff.mp hj
    simp only [List.getElem_map]
    obtain ⟨a', b', c', e', f', i', h', e⟩ := loops_ok (d := 92) is H [] _ t u v w x2 y z
    exact ⟨_, _, e, _, _, _, _, _, _, _, rfl⟩)
  have hr := rng_nat (max 5 (min 11 is.length)) (by omega)
  refine ⟨[], ?_⟩
  have key : evS (callM pg.P LL pg.G (92 + 8)) [] md_law.body (startM [sc is] md_law.ns) [] = .ok (.rt (.bool true)) h' := by
    simp [ev_seq, ev_for, ev_ifs, ev_asg, ev_and, ev_or, ev_neg, ev_var, ev_lc, ev_non, ev_tt, ev_ff, ev_int, ev_str, ev_glb, ev_fnv, ev_tup, ev_lst, ev_bin, ev_lmul, ev_not, ev_cmp, ev_cmp2, ev_ite, ev_call, ev_b1, ev_max2, ev_min2, max2_int, min2_int, ev_isi, ev_idx, ev_sl, ev_rev, ev_app, ev_popAt, ev_index, ev_count, ev_dnew, ev_lam, ev_inrg, ev_pn, ev_ps, ev_skip, ev_pass, ev_par, ev_sub, ev_whl, ev_ret, ev_retN, ev_raise, ev_expr, evA, evI, evT, lcB, bindM, setAll, wipeM, bind_ite, startM, tyIs, md_law, bind_app, pure_app, ite_app, hm, hr, e, written_ok]
  show gc md_law.fz 0 [] (evS (callM pg.P LL pg.G (92 + 8)) [] md_law.body (startM [sc is] md_law.ns) []) = _
  rw [key]
  simp [gc]
end K02

open PySem PySem.W PyProof.Rows
theorem PySem.Challenge.cw_morehands_k02_whole_levels_and_chains_holds : PySem.Challenge.rw_morehands_k02_whole_levels_and_chains.Holds := by
  exact law_holds K02.law_ok
