import PyProof.Rows.All
import HandS.Base
import Wide.All
import OpenK.AllK
import Wide.FinOn
import HandS.ForMost
import HandS.ForExc
import HandS.ExcInit
import HandS.ExcField
import HandS.Wide
import HandS.Style
import HandS.Deep
import HandS.TupAny
import HandS.IsInst
import HandS.WordsDict
import HandS.TupLen
import KE.KTupSum
import KE.DataMinMax
import HandS.SortInts
import HandS.Zip
import HandS.DictComp
import HandS.Comp
import PyProof.Rows.SetFrom
import HandS.Strs
import PySem.Challenge.RW_frameshold_k79_whole_rulers_that_close
import HandS.ExcIs
set_option Elab.async false
set_option linter.all false
set_option maxRecDepth 100000
/-! Core: values as trees (D), slots, outcomes, the shallow combinators. Plain Lean. -/
namespace FS
open PySem

abbrev Key := Sum Int Str
/-- the longest list that is looked at -/
abbrev sz : Nat := 16777216

inductive D where
  | non
  | bl (b : Bool)
  | int (i : Int)
  | str (s : Str)
  | tup (xs : List D)
  | lst (o : Bool) (xs : List D)
  | dk (o : Bool) (ks : List Key) (vs : List D)
  | dt (o : Bool) (ks : List (List Key)) (vs : List D)
  | obj (o : Bool) (c : Str) (ns : List Str) (vs : List D)
  /-- the law's script -/
  | scr (ns : List Int)
  /-- a locked dict, as a walk leans on it (no value of a program) -/
  | lk (a : PySem.Addr) (o : PySem.Obj) (kvs : List (Key × L2.V))

mutual
def frz : D → D
  | .tup xs => .tup (frzs xs)
  | .lst _ xs => .lst false (frzs xs)
  | .dk _ ks vs => .dk false ks (frzs vs)
  | .dt _ ks vs => .dt false ks (frzs vs)
  | .obj _ c ns vs => .obj false c ns (frzs vs)
  | .non => .non
  | .bl b => .bl b
  | .int i => .int i
  | .str s => .str s
  | .scr ns => .scr ns
  | .lk a o k => .lk a o k
def frzs : List D → List D
  | [] => []
  | x :: xs => frz x :: frzs xs
end
mutual
def isF : D → Bool
  | .tup xs => isFs xs
  | .lst o xs => !o && isFs xs
  | .dk o _ vs => !o && isFs vs
  | .dt o _ vs => !o && isFs vs
  | .obj o _ _ vs => !o && isFs vs
  | .non => true
  | .bl _ => true
  | .int _ => true
  | .str _ => true
  | .scr _ => true
  | .lk _ _ _ => true
def isFs : List D → Bool
  | [] => true
  | x :: xs => isF x && isFs xs
end
mutual
theorem frz_of : ∀ d : D, isF d = true → frz d = d
  | .tup xs, h => by
    have h' : isFs xs = true := h
    simp only [frz, frzs_of xs h']
  | .lst o xs, h => by
    simp only [isF, Bool.and_eq_true, Bool.not_eq_true'] at h
    simp only [frz, frzs_of xs h.2, h.1]
  | .dk o ks xs, h => by
    simp only [isF, Bool.and_eq_true, Bool.not_eq_true'] at h
    simp only [frz, frzs_of xs h.2, h.1]
  | .dt o ks xs, h => by
    simp only [isF, Bool.and_eq_true, Bool.not_eq_true'] at h
    simp only [frz, frzs_of xs h.2, h.1]
  | .obj o c ns xs, h => by
    simp only [isF, Bool.and_eq_true, Bool.not_eq_true'] at h
    simp only [frz, frzs_of xs h.2, h.1]
  | .non, _ => rfl
  | .bl _, _ => rfl
  | .int _, _ => rfl
  | .str _, _ => rfl
  | .scr _, _ => rfl
  | .lk _ _ _, _ => rfl
theorem frzs_of : ∀ ds : List D, isFs ds = true → frzs ds = ds
  | [], _ => rfl
  | x :: xs, h => by
    simp only [isFs, Bool.and_eq_true] at h
    simp only [frzs, frz_of x h.1, frzs_of xs h.2]
end
mutual
theorem isF_frz : ∀ d : D, isF (frz d) = true
  | .tup xs => by simp only [frz, isF, isFs_frzs xs]
  | .lst o xs => by simp only [frz, isF, isFs_frzs xs]; rfl
  | .dk o ks xs => by simp only [frz, isF, isFs_frzs xs]; rfl
  | .dt o ks xs => by simp only [frz, isF, isFs_frzs xs]; rfl
  | .obj o c ns xs => by simp only [frz, isF, isFs_frzs xs]; rfl
  | .non => rfl
  | .bl _ => rfl
  | .int _ => rfl
  | .str _ => rfl
  | .scr _ => rfl
  | .lk _ _ _ => rfl
theorem isFs_frzs : ∀ ds : List D, isFs (frzs ds) = true
  | [] => rfl
  | x :: xs => by simp only [frzs, isFs, isF_frz x, isFs_frzs xs, Bool.and_self]
end
theorem isFs_all : ∀ ds : List D, isFs ds = ds.all isF
  | [] => rfl
  | x :: xs => by simp only [isFs, List.all_cons, isFs_all xs]
theorem frzs_map : ∀ ds : List D, frzs ds = ds.map frz
  | [] => rfl
  | x :: xs => by simp only [frzs, List.map_cons, frzs_map xs]
theorem isFs_mem {ds : List D} (h : isFs ds = true) {x : D} (hx : x ∈ ds) : isF x = true := by
  rw [isFs_all] at h
  exact List.all_eq_true.mp h x hx
theorem isFs_append (a b : List D) : isFs (a ++ b) = (isFs a && isFs b) := by simp only [isFs_all, List.all_append]

mutual
/-- == of data -/
def deq : D → D → Bool
  | .non, .non => true
  | .bl a, .bl b => a == b
  | .bl a, .int j => (if a then 1 else 0) == j
  | .int i, .bl b => i == (if b then 1 else 0)
  | .int i, .int j => i == j
  | .str x, .str y => x == y
  | .lst _ xs, .lst _ ys => deqs xs ys
  | .tup xs, .tup ys => deqs xs ys
  | _, _ => false
def deqs : List D → List D → Bool
  | [], [] => true
  | x :: xs, y :: ys => deq x y && deqs xs ys
  | _, _ => false
end
mutual
/-- data that may be compared, nested so deep at most -/
def okd : Nat → D → Bool
  | _, .non => true
  | _, .bl _ => true
  | _, .int _ => true
  | _, .str s => s.cps.all (· < 1114112)
  | n + 1, .lst _ xs => okds n xs
  | n + 1, .tup xs => okds n xs
  | _, _ => false
def okds : Nat → List D → Bool
  | _, [] => true
  | n, x :: xs => okd n x && okds n xs
end
def eqD (a b : D) : Option D := if okd 40 a && okd 40 b then some (.bl (deq a b)) else none
def neD (a b : D) : Option D := if okd 40 a && okd 40 b then some (.bl (!deq a b)) else none
def addD : D → D → Option D
  | .int i, .int j => some (.int (i + j))
  | .str x, .str y => if x.length + y.length ≤ sz then some (.str (x ++ y)) else none
  | .tup xs, .tup ys => if xs.length + ys.length ≤ sz then some (.tup (xs ++ ys)) else none
  | .lst _ xs, .lst _ ys => if xs.length + ys.length ≤ sz then some (.lst true (xs ++ ys)) else none
  | _, _ => none
def addI : D → D → Option D
  | .int i, .int j => some (.int (i + j))
  | _, _ => none
def subD : D → D → Option D
  | .int i, .int j => some (.int (i - j))
  | _, _ => none
def mulD : D → D → Option D
  | .int i, .int j => if i.natAbs.log2 + j.natAbs.log2 < 1000000 then some (.int (i * j)) else none
  | _, _ => none
/-- a list times an int -/
def repD : D → D → Option D
  | .lst _ xs, .int k => if -(2 ^ 63) ≤ k ∧ k < 2 ^ 63 ∧ xs.length * k.toNat ≤ sz then some (.lst true (List.replicate k.toNat xs).flatten) else none
  | _, _ => none
def fdivD : D → D → Option D
  | .int i, .int j => if j ≠ 0 ∧ j.natAbs.log2 < 9000 then some (.int (i.fdiv j)) else none
  | _, _ => none
def modD : D → D → Option D
  | .int i, .int j => if j ≠ 0 then some (.int (i.fmod j)) else none
  | _, _ => none
def powD : D → D → Option D
  | .int i, .int j => if 0 ≤ j ∧ j ≤ 1000000 ∧ i.natAbs < 2 ^ 64 then some (.int (i ^ j.toNat)) else none
  | _, _ => none
def ltD : D → D → Option D
  | .int i, .int j => some (.bl (decide (i < j)))
  | _, _ => none
def leD : D → D → Option D
  | .int i, .int j => some (.bl (decide (i ≤ j)))
  | _, _ => none
def gtD : D → D → Option D
  | .int i, .int j => some (.bl (decide (j < i)))
  | _, _ => none
def geD : D → D → Option D
  | .int i, .int j => some (.bl (decide (j ≤ i)))
  | _, _ => none
def negD : D → Option D
  | .int i => some (.int (-i))
  | _ => none
/-- is None, is a bool -/
def isD : D → D → Option D
  | .bl a, .bl b => some (.bl (decide (a = b)))
  | .non, .non => some (.bl true)
  | _, .non => some (.bl false)
  | _, _ => none
def isNotD : D → D → Option D
  | .bl a, .bl b => some (.bl (!decide (a = b)))
  | .non, .non => some (.bl false)
  | _, .non => some (.bl true)
  | _, _ => none
def key? : D → Option Key
  | .int i => some (.inl i)
  | .str s => some (.inr s)
  | _ => none
def keys? : List D → Option (List Key)
  | [] => some []
  | x :: xs => (key? x).bind fun k => (keys? xs).map (k :: ·)
/-- x in y -/
def inB : D → D → Option Bool
  | x, .lst _ ys => if okd 40 x && okds 40 ys then some (ys.any fun y => deq y x) else none
  | x, .tup ys => if okd 40 x && okds 40 ys then some (ys.any fun y => deq y x) else none
  | x, .dk _ ks _ => (key? x).map fun k => ks.any fun a => decide (a = k)
  | .tup xs, .dt _ ks _ => (keys? xs).map fun k => ks.any fun a => decide (a = k)
  | _, _ => none
def inD (x y : D) : Option D := (inB x y).map .bl
def notInD (x y : D) : Option D := (inB x y).map fun b => .bl (!b)
/-- a place in a list, from the end where it is below 0 -/
def ixOf (n : Nat) (i : Int) : Option Nat := if 0 ≤ i then (if i < n then some i.toNat else none) else if -(n : Int) ≤ i then some (i + n).toNat else none
def look {κ : Type} [DecidableEq κ] : κ → List κ → List D → Option D
  | k, a :: ks, v :: vs => if a = k then some v else look k ks vs
  | _, _, _ => none
/-- x[i] -/
def ixD : D → D → Option D
  | .lst _ xs, .int i => (ixOf xs.length i).bind fun j => xs[j]?
  | .tup xs, .int i => (ixOf xs.length i).bind fun j => xs[j]?
  | .dk _ ks vs, x => (key? x).bind fun k => look k ks vs
  | .dt _ ks vs, .tup xs => (keys? xs).bind fun k => look k ks vs
  | _, _ => none
def lenD : D → Option D
  | .lst _ xs => some (.int xs.length)
  | .tup xs => some (.int xs.length)
  | .dk _ ks _ => some (.int ks.length)
  | .dt _ ks _ => some (.int ks.length)
  | .str s => if s.length ≤ sz then some (.int s.length) else none
  | _ => none
/-- isinstance against a built-in class -/
inductive Ty where | int | bool | str | tuple | list
def isiD : Ty → D → Option D
  | _, .obj _ _ _ _ => none
  | _, .scr _ => none
  | _, .lk _ _ _ => none
  | .int, .int _ => some (.bl true)
  | .int, .bl _ => some (.bl true)
  | .int, _ => some (.bl false)
  | .bool, .bl _ => some (.bl true)
  | .bool, _ => some (.bl false)
  | .str, .str _ => some (.bl true)
  | .str, _ => some (.bl false)
  | .tuple, .tup _ => some (.bl true)
  | .tuple, _ => some (.bl false)
  | .list, .lst _ _ => some (.bl true)
  | .list, _ => some (.bl false)
def absD : List D → Option D
  | [.int i] => some (.int (if i < 0 then -i else i))
  | _ => none
def intD : List D → Option D
  | [.int i] => some (.int i)
  | [.bl b] => some (.int (if b then 1 else 0))
  | _ => none
def ints? : List D → Option (List Int)
  | [] => some []
  | .int i :: xs => (ints? xs).map (i :: ·)
  | _ => none
def bools? : List D → Option (List Bool)
  | [] => some []
  | .bl b :: xs => (bools? xs).map (b :: ·)
  | _ => none
def sumD : List D → Option D
  | [.lst _ xs] => (ints? xs).map fun ns => .int ns.sum
  | [.tup xs] => (ints? xs).map fun ns => .int ns.sum
  | _ => none
def maxI : List Int → Int
  | [] => 0
  | x :: xs => xs.foldl max x
def minI : List Int → Int
  | [] => 0
  | x :: xs => xs.foldl min x
def maxD : List D → Option D
  | [.lst _ xs] => (ints? xs).bind fun ns => if ns.isEmpty then none else some (.int (maxI ns))
  | [.tup xs] => (ints? xs).bind fun ns => if ns.isEmpty then none else some (.int (maxI ns))
  | [.int i, .int j] => some (.int (if j > i then j else i))
  | _ => none
def minD : List D → Option D
  | [.lst _ xs] => (ints? xs).bind fun ns => if ns.isEmpty then none else some (.int (minI ns))
  | [.tup xs] => (ints? xs).bind fun ns => if ns.isEmpty then none else some (.int (minI ns))
  | [.int i, .int j] => some (.int (if j < i then j else i))
  | _ => none
def allD : List D → Option D
  | [.lst _ xs] => (bools? xs).map fun bs => .bl (bs.all id)
  | _ => none
def anyD : List D → Option D
  | [.lst _ xs] => (bools? xs).map fun bs => .bl (bs.any id)
  | _ => none
def kD : Key → D
  | .inl i => .int i
  | .inr s => .str s
def tupleD : List D → Option D
  | [.lst _ xs] => some (.tup xs)
  | [.tup xs] => some (.tup xs)
  | _ => none
def listD : List D → Option D
  | [.lst _ xs] => some (.lst true xs)
  | [.tup xs] => some (.lst true xs)
  | [.scr ns] => some (.lst true (ns.map .int))
  | [.dk _ ks _] => some (.lst true (ks.map kD))
  | _ => none

/-- the slots: the def's names by place -/
abbrev Sl := List (Option D)
structure Exn where
  cls : Str
  ns : List Str
  vs : List D
/-- an expression's outcome -/
inductive Out (α : Type) where
  | bad
  | ok (a : α) (σ : Sl)
  | exc (x : Exn) (σ : Sl)
/-- a statement's outcome -/
inductive OutS where
  | bad
  | nx (σ : Sl)
  | ret (d : D) (σ : Sl)
  | brk (σ : Sl)
  | ct (σ : Sl)
  | exc (x : Exn) (σ : Sl)
abbrev M (α : Type) := Sl → Out α
abbrev MS := Sl → OutS
/-- quiet: nothing is changed, the value is frozen -/
abbrev Qt := Sl → Option D
/-- a call's outcome: the value, the parameters behind it -/
inductive COut where
  | bad
  | ok (d : D) (ps : List D)
  | exc (x : Exn)
abbrev Con := List D → COut

def Out.then {α β : Type} (o : Out α) (k : α → Sl → Out β) : Out β :=
  match o with
  | .bad => .bad
  | .ok a σ => k a σ
  | .exc x σ => .exc x σ
@[simp] theorem Out.then_ok {α β : Type} (a : α) (σ : Sl) (k : α → Sl → Out β) : (Out.ok a σ).then k = k a σ := rfl
@[simp] theorem Out.then_bad {α β : Type} (k : α → Sl → Out β) : (Out.bad : Out α).then k = .bad := rfl
@[simp] theorem Out.then_exc {α β : Type} (x : Exn) (σ : Sl) (k : α → Sl → Out β) : (Out.exc x σ : Out α).then k = .exc x σ := rfl
def Out.thenS {α : Type} (o : Out α) (k : α → Sl → OutS) : OutS :=
  match o with
  | .bad => .bad
  | .ok a σ => k a σ
  | .exc x σ => .exc x σ
@[simp] theorem Out.thenS_ok {α : Type} (a : α) (σ : Sl) (k : α → Sl → OutS) : (Out.ok a σ).thenS k = k a σ := rfl
@[simp] theorem Out.thenS_bad {α : Type} (k : α → Sl → OutS) : (Out.bad : Out α).thenS k = .bad := rfl
@[simp] theorem Out.thenS_exc {α : Type} (x : Exn) (σ : Sl) (k : α → Sl → OutS) : (Out.exc x σ : Out α).thenS k = .exc x σ := rfl
def OutS.then (o : OutS) (k : Sl → OutS) : OutS :=
  match o with
  | .nx σ => k σ
  | o => o
@[simp] theorem OutS.then_nx (σ : Sl) (k : Sl → OutS) : (OutS.nx σ).then k = k σ := rfl
@[simp] theorem OutS.then_ret (d : D) (σ : Sl) (k : Sl → OutS) : (OutS.ret d σ).then k = .ret d σ := rfl
@[simp] theorem OutS.then_brk (σ : Sl) (k : Sl → OutS) : (OutS.brk σ).then k = .brk σ := rfl
@[simp] theorem OutS.then_ct (σ : Sl) (k : Sl → OutS) : (OutS.ct σ).then k = .ct σ := rfl
@[simp] theorem OutS.then_exc (x : Exn) (σ : Sl) (k : Sl → OutS) : (OutS.exc x σ).then k = .exc x σ := rfl
@[simp] theorem OutS.then_bad (k : Sl → OutS) : OutS.bad.then k = .bad := rfl
def ofOpt {α : Type} (o : Option α) (σ : Sl) : Out α :=
  match o with
  | some a => .ok a σ
  | none => .bad
@[simp] theorem ofOpt_some {α : Type} (a : α) (σ : Sl) : ofOpt (some a) σ = .ok a σ := rfl
@[simp] theorem ofOpt_none {α : Type} (σ : Sl) : ofOpt (none : Option α) σ = .bad := rfl

/-! ### what stands in a slot -/
def at? (σ : Sl) (i : Nat) : Option D := (σ[i]?).join
@[simp] theorem at?_zero (x : Option D) (σ : Sl) : at? (x :: σ) 0 = x := by cases x <;> rfl
@[simp] theorem at?_succ (x : Option D) (σ : Sl) (i : Nat) : at? (x :: σ) (i + 1) = at? σ i := rfl

/-! ### quiet expressions -/
/-- a slot as it is (borrowed) -/
def pVar (i : Nat) : Qt := fun σ => at? σ i
/-- a frozen value -/
def qF (p : Qt) : Qt := fun σ => (p σ).bind fun d => if isF d = true then some d else none
def qC (d : D) : Qt := fun _ => some d
def q2 (f : D → D → Option D) (a b : Qt) : Qt := fun σ => (a σ).bind fun x => (b σ).bind fun y => f x y
def q1 (f : D → Option D) (a : Qt) : Qt := fun σ => (a σ).bind f
/-- a field of an object -/
def fldD (f : Str) : D → Option D
  | .obj _ _ ns vs => ((ns.zip vs).find? fun p => decide (p.1 = f)).map (·.2)
  | _ => none

/-! ### expressions -/
def mQ (q : Qt) : M D := fun σ => ofOpt (q σ) σ
/-- a name, handed on: what it holds is frozen -/
def mVar (i : Nat) : M D := fun σ =>
  match at? σ i with
  | some d => if isF d = true then .ok d σ else .ok (frz d) (σ.set i (some (frz d)))
  | none => .bad
/-- a name, moved out: it is unknown behind -/
def mMov (i : Nat) : M D := fun σ =>
  match at? σ i with
  | some d => .ok d (σ.set i none)
  | none => .bad
def m2 (f : D → D → Option D) (a b : M D) : M D := fun σ => (a σ).then fun x σ1 => (b σ1).then fun y σ2 => ofOpt (f (frz x) (frz y)) σ2
def m1 (f : D → Option D) (a : M D) : M D := fun σ => (a σ).then fun x σ1 => ofOpt (f (frz x)) σ1
def mAll : List (M D) → M (List D)
  | [] => fun σ => .ok [] σ
  | a :: as => fun σ => (a σ).then fun x σ1 => (mAll as σ1).then fun xs σ2 => .ok (x :: xs) σ2
def mTup (m : M (List D)) : M D := fun σ => (m σ).then fun xs σ1 => if xs.length ≤ sz then .ok (.tup xs) σ1 else .bad
def mLst (m : M (List D)) : M D := fun σ => (m σ).then fun xs σ1 => if xs.length ≤ sz then .ok (.lst true xs) σ1 else .bad
/-- a built-in of the values, all frozen -/
def mB (f : List D → Option D) (m : M (List D)) : M D := fun σ => (m σ).then fun xs σ1 => ofOpt (f (frzs xs)) σ1
def bool? : D → Option Bool
  | .bl b => some b
  | _ => none
@[simp] theorem bool?_bl (b : Bool) : bool? (.bl b) = some b := rfl
def mT (a : M D) : M Bool := fun σ => (a σ).then fun x σ1 => ofOpt (bool? x) σ1
def tAnd' (a b : M Bool) : M Bool := fun σ => (a σ).then fun x σ1 => if x = true then b σ1 else .ok false σ1
def tOr' (a b : M Bool) : M Bool := fun σ => (a σ).then fun x σ1 => if x = true then .ok true σ1 else b σ1
def tNot' (a : M Bool) : M Bool := fun σ => (a σ).then fun x σ1 => .ok (!x) σ1
def mIf (c : M Bool) (a b : M D) : M D := fun σ => (c σ).then fun x σ1 => if x = true then a σ1 else b σ1
def mAndV (a b : M D) : M D := fun σ => (mT a σ).then fun x σ1 => if x = true then b σ1 else .ok (.bl false) σ1
def mOrV (a b : M D) : M D := fun σ => (mT a σ).then fun x σ1 => if x = true then .ok (.bl true) σ1 else b σ1
def mNotV (a : M D) : M D := fun σ => (mT a σ).then fun x σ1 => .ok (.bl (!x)) σ1
/-- a op b op' c -/
def mChain (f f' : D → D → Option D) (a b c : M D) : M D := fun σ => (a σ).then fun x σ1 => (b σ1).then fun y σ2 =>
  match f (frz x) (frz y) with
  | some (.bl true) => (c σ2).then fun z σ3 => ofOpt (f' (frz y) (frz z)) σ3
  | some (.bl false) => .ok (.bl false) σ2
  | _ => .bad

/-- what is walked: a list's, a tuple's items -/
def items : D → Option (List D)
  | .lst _ xs => some xs
  | .tup xs => some xs
  | _ => none
def iSeq (m : M D) : M (List D) := fun σ => (m σ).then fun d σ1 => ofOpt (items (frz d)) σ1
def irange (lo : Int) (n : Nat) : List D := (List.range n).map fun k => .int (lo + (k : Nat))
def rng1 : D → Option (List D)
  | .int j => if -(2 ^ 62) ≤ j ∧ j < 2 ^ 62 then some (irange 0 j.toNat) else none
  | _ => none
def rng2 : D → D → Option (List D)
  | .int i, .int j => if -(2 ^ 62) ≤ i ∧ i < 2 ^ 62 ∧ -(2 ^ 62) ≤ j ∧ j < 2 ^ 62 then some (irange i (j - i).toNat) else none
  | _, _ => none
def iRng1 (a : M D) : M (List D) := fun σ => (a σ).then fun x σ1 => ofOpt (rng1 x) σ1
def iRng2 (a b : M D) : M (List D) := fun σ => (a σ).then fun x σ1 => (b σ1).then fun y σ2 => ofOpt (rng2 x y) σ2

/-! ### calls -/
inductive Arg where
  | val (m : M D)
  | ref (i : Nat)
def mArgs : List Arg → M (List D)
  | [] => fun σ => .ok [] σ
  | .val m :: as => fun σ => (m σ).then fun x σ1 => (mArgs as σ1).then fun xs σ2 => .ok (x :: xs) σ2
  | .ref i :: as => fun σ =>
    match at? σ i with
    | none => .bad
    | some _ => (mArgs as σ).then fun xs σ1 => (mMov i σ1).then fun x σ2 => .ok (x :: xs) σ2
/-- the slots that are lent -/
def lent : List Arg → List Nat
  | [] => []
  | .ref i :: as => i :: lent as
  | .val _ :: as => lent as
def backs : List Nat → List D → Sl → Sl
  | i :: is, d :: ds, σ => backs is ds (σ.set i (some d))
  | _, _, σ => σ
def mCall (c : Con) (as : List Arg) : M D := fun σ => (mArgs as σ).then fun xs σ1 =>
  match c xs with
  | .bad => .bad
  | .ok d ps => if ps.length = (lent as).length then .ok d (backs (lent as) ps σ1) else .bad
  | .exc x => .exc x σ1

/-! ### targets, stores -/
abbrev Tg := D → Sl → Option Sl
def tName (i : Nat) : Tg := fun d σ => if i < σ.length then some (σ.set i (some d)) else none
def tAll : List Tg → List D → Sl → Option Sl
  | [], [], σ => some σ
  | t :: ts, d :: ds, σ => (t d σ).bind fun σ1 => tAll ts ds σ1
  | _, _, _ => none
def tTup' (ts : List Tg) : Tg := fun d σ =>
  match d with
  | .tup xs => tAll ts xs σ
  | _ => none

/-! ### statements -/
def sNext : MS := fun σ => .nx σ
def sSeq (a b : MS) : MS := fun σ => (a σ).then b
def sAsg (t : Tg) (e : M D) : MS := fun σ => (e σ).thenS fun d σ1 => match t d σ1 with | some σ2 => .nx σ2 | none => .bad
def sExp (e : M D) : MS := fun σ => (e σ).thenS fun _ σ1 => .nx σ1
def sRet (e : M D) : MS := fun σ => (e σ).thenS fun d σ1 => .ret d σ1
def sIf (c : M Bool) (a b : MS) : MS := fun σ => (c σ).thenS fun x σ1 => if x = true then a σ1 else b σ1
def sBrk : MS := fun σ => .brk σ
def sCt : MS := fun σ => .ct σ
/-- a for over items -/
def forL (t : Tg) (body : MS) : List D → Sl → OutS
  | [], σ => .nx σ
  | x :: xs, σ =>
    match t x σ with
    | none => .bad
    | some σ1 =>
      match body σ1 with
      | .nx σ2 => forL t body xs σ2
      | .ct σ2 => forL t body xs σ2
      | .brk σ2 => .nx σ2
      | .ret d σ2 => .ret d σ2
      | .exc x σ2 => .exc x σ2
      | .bad => .bad
def sFor (t : Tg) (src : M (List D)) (body : MS) : MS := fun σ => (src σ).thenS fun xs σ1 => if xs.length ≤ sz then forL t body xs σ1 else .bad
/-- a while, so many turns at most -/
def whileN (c : M Bool) (body : MS) : Nat → Sl → Option OutS
  | 0, _ => none
  | n + 1, σ =>
    match c σ with
    | .bad => some .bad
    | .exc x σ1 => some (.exc x σ1)
    | .ok false σ1 => some (.nx σ1)
    | .ok true σ1 =>
      match body σ1 with
      | .nx σ2 => whileN c body n σ2
      | .ct σ2 => whileN c body n σ2
      | .brk σ2 => some (.nx σ2)
      | .ret d σ2 => some (.ret d σ2)
      | .exc x σ2 => some (.exc x σ2)
      | .bad => some .bad
open Classical in
noncomputable def sWhile (c : M Bool) (body : MS) : MS := fun σ => if h : ∃ n, (whileN c body n σ).isSome = true then ((whileN c body (choose h) σ).getD .bad) else .bad
theorem whileN_mono {c : M Bool} {body : MS} : ∀ {n : Nat} {σ : Sl} {o : OutS} (k : Nat), whileN c body n σ = some o → whileN c body (n + k) σ = some o
  | 0, _, _, _, h => by simp [whileN] at h
  | n + 1, σ, o, k, h => by
    have e : n + 1 + k = (n + k) + 1 := by omega
    rw [e]
    unfold whileN at h ⊢
    cases hc : c σ with
    | bad => rw [hc] at h; exact h
    | exc x σ1 => rw [hc] at h; exact h
    | ok b σ1 =>
      rw [hc] at h
      cases b with
      | false => exact h
      | true =>
        dsimp only at h ⊢
        cases hb : body σ1 with
        | bad => rw [hb] at h; exact h
        | nx σ2 => rw [hb] at h; exact whileN_mono k h
        | ct σ2 => rw [hb] at h; exact whileN_mono k h
        | brk σ2 => rw [hb] at h; exact h
        | ret d σ2 => rw [hb] at h; exact h
        | exc x σ2 => rw [hb] at h; exact h
theorem sWhile_of {c : M Bool} {body : MS} {n : Nat} {σ : Sl} {o : OutS} (h : whileN c body n σ = some o) : sWhile c body σ = o := by
  have hx : ∃ n, (whileN c body n σ).isSome = true := ⟨n, by rw [h]; rfl⟩
  unfold sWhile
  rw [dif_pos hx]
  have h2 := Classical.choose_spec hx
  obtain ⟨o', e⟩ := Option.isSome_iff_exists.mp h2
  rw [e]
  have a := whileN_mono (Classical.choose hx) h
  have b := whileN_mono n e
  rw [Nat.add_comm] at b
  rw [a] at b
  exact (Option.some.inj b).symm

/-! ### a def -/
def startSl (n : Nat) (ds : List D) : Sl := ds.map some ++ List.replicate (n - ds.length) none
/-- what some slots hold behind -/
def params (refs : List Nat) (σ : Sl) : Option (List D) :=
  match refs with
  | [] => some []
  | i :: is => (at? σ i).bind fun d => (params is σ).map (d :: ·)
def endOf (refs : List Nat) (d : D) (σ : Sl) : COut := match params refs σ with | some ps => .ok d ps | none => .bad
/-- a def of k parameters and n names, by its body -/
def runDef (k n : Nat) (refs : List Nat) (body : MS) : Con := fun ds =>
  if ds.length = k then
    match body (startSl n ds) with
    | .nx σ => endOf refs .non σ
    | .ret d σ => endOf refs d σ
    | .exc x _ => .exc x
    | _ => .bad
  else .bad

/-! ### comprehensions -/
/-- the block's own names forgotten, and brought back -/
def wipeD (σ : Sl) : List Nat → Sl
  | [] => σ
  | v :: vs => (wipeD σ vs).set v none
def lcL (own : List Nat) (t : Tg) (c : M Bool) (e : M D) : List D → Sl → Out (List D)
  | [], σ => .ok [] σ
  | x :: xs, σ =>
    match t x σ with
    | none => .bad
    | some σ1 =>
      match c σ1 with
      | .ok true σ2 =>
        match e σ2 with
        | .ok y σ3 =>
          match lcL own t c e xs (wipeD σ3 own) with
          | .ok ys σ4 => .ok (y :: ys) σ4
          | _ => .bad
        | _ => .bad
      | .ok false σ2 => lcL own t c e xs (wipeD σ2 own)
      | _ => .bad
def tTrue : M Bool := fun σ => .ok true σ
/-- [e for t in src if c] -/
def mLc (own : List Nat) (t : Tg) (src : M (List D)) (c : M Bool) (e : M D) : M D := fun σ => (src σ).then fun xs σ1 =>
  if xs.length ≤ sz then
    match lcL own t c e xs (wipeD σ1 own) with
    | .ok ys σ2 => .ok (.lst true ys) (wipeD σ2 own)
    | _ => .bad
  else .bad
end FS

/-! Rep1: how a value tree lies in the abstract heap. -/
namespace FS
open PySem PySem.Spec PyProof.Rows L2

/-- a list of the written part -/
def KLst (K : PySem.W.Frag) (a : Addr) (xs : List V) : Prop :=
  ∃ (o : Obj) (its : Array Value) (n : Nat), K.lookup a = some o ∧ o.cls = .type "list" ∧ o.dict = none ∧ o.data = .seq its n ∧ its.size ≤ sizeLine ∧ Vals xs its.toList

section
variable (K : PySem.W.Frag) (mg : Str → Option Value) (Z : Addr → Prop) (H : Hp)
mutual
def Rep : D → V → List Addr → Prop
  | .non, v, F => v = .non ∧ F = []
  | .bl b, v, F => v = .bl b ∧ F = []
  | .int i, v, F => v = .int i ∧ F = []
  | .str s, v, F => v = .str s ∧ F = []
  | .tup xs, v, F => ∃ a vs, v = .ref a ∧ SqT K H a vs ∧ Reps xs vs F
  | .lst o xs, v, F => ∃ a vs Fx, v = .ref a ∧ Reps xs vs Fx ∧ ((o = true ∧ H a = some (.lst vs) ∧ F = a :: Fx) ∨ (o = false ∧ (H a = some (.lst vs) ∧ Z a) ∧ Fx = [] ∧ F = []))
  | .scr ns, v, F => ∃ a, v = .ref a ∧ ((∃ o, H a = some (.frz o (.lst (ns.map V.int)))) ∨ KLst K a (ns.map V.int)) ∧ F = []
  | .lk a o kvs, v, F => v = .ref a ∧ (H a = some (.frz o (.dK kvs)) ∧ Z a) ∧ F = []
  | .dk o ks xs, v, F => ∃ a vs Fx, v = .ref a ∧ Reps xs vs Fx ∧ ks.length = vs.length ∧ ((o = true ∧ H a = some (.dK (ks.zip vs)) ∧ F = a :: Fx) ∨ (o = false ∧ (Rd H a (.dK (ks.zip vs)) ∧ Z a) ∧ Fx = [] ∧ F = []))
  | .dt o ks xs, v, F => ∃ a vs Fx, v = .ref a ∧ Reps xs vs Fx ∧ ks.length = vs.length ∧ ((o = true ∧ H a = some (.dT (ks.zip vs)) ∧ F = a :: Fx) ∨ (o = false ∧ (Rd H a (.dT (ks.zip vs)) ∧ Z a) ∧ Fx = [] ∧ F = []))
  | .obj o c ns xs, v, F => ∃ a C dx vs Fx, v = .ref a ∧ Reps xs vs Fx ∧ ns.length = vs.length ∧ mg c = some (.ref C) ∧ H a = some (.ins C dx (ns.zip vs)) ∧ ((o = true ∧ F = a :: Fx) ∨ (o = false ∧ Z a ∧ Fx = [] ∧ F = []))
def Reps : List D → List V → List Addr → Prop
  | [], vs, F => vs = [] ∧ F = []
  | x :: xs, vs, F => ∃ v vr F1 F2, vs = v :: vr ∧ F = F1 ++ F2 ∧ Rep x v F1 ∧ Reps xs vr F2
end
end

section
variable {K : PySem.W.Frag} {mg : Str → Option Value} {Z Z' : Addr → Prop} {H H' : Hp}
theorem Reps.length : ∀ {xs : List D} {vs : List V} {F : List Addr}, Reps K mg Z H xs vs F → xs.length = vs.length
  | [], vs, F, h => by
    have h' : vs = [] ∧ F = [] := h
    rw [h'.1]; rfl
  | x :: xs, vs, F, h => by
    have h' : ∃ v vr F1 F2, vs = v :: vr ∧ F = F1 ++ F2 ∧ Rep K mg Z H x v F1 ∧ Reps K mg Z H xs vr F2 := h
    obtain ⟨v, vr, F1, F2, rfl, rfl, h1, h2⟩ := h'
    rw [List.length_cons, List.length_cons, Reps.length h2]

/-- what may not be written whoever owns it -/
def Still : HO → Prop
  | .tup _ => True
  | .frz _ (.tup _) => True
  | .frz _ (.lst _) => True
  | _ => False
/-- the same, but for a lock on a dict -/
def Lk (o o' : HO) : Prop := o' = o ∨ ∃ kvs ob, o = .dK kvs ∧ o' = .frz ob (.dK kvs)
theorem Lk.rfl' {o : HO} : Lk o o := .inl rfl
theorem Lk.trans {o o' o'' : HO} (h : Lk o o') (g : Lk o' o'') : Lk o o'' := by
  rcases h with rfl | ⟨k, ob, rfl, rfl⟩
  · exact g
  · rcases g with rfl | ⟨k2, ob2, e, _⟩
    · exact .inr ⟨k, ob, rfl, rfl⟩
    · cases e
/-- kept but for what is handed over, and for locks on what is frozen -/
def Kp (Z0 : Addr → Prop) (A0 : List Addr) (H0 H : Hp) : Prop := ∀ a o, H0 a = some o → a ∉ A0 → ∃ o', H a = some o' ∧ Lk o o' ∧ (o' = o ∨ Z0 a)
/-- the heap is kept where these footprints, the frozen part and what never changes lie -/
def KeepAt (Z : Addr → Prop) (H H' : Hp) (F : List Addr) : Prop := ∀ a o, H a = some o → ((a ∈ F ∨ Still o) → H' a = some o) ∧ (Z a → ∃ o', H' a = some o' ∧ Lk o o')
theorem KeepAt.mk0 {F : List Addr} (h : ∀ a o, H a = some o → (a ∈ F ∨ Z a ∨ Still o) → H' a = some o) : KeepAt Z H H' F := fun a o e =>
  ⟨fun q => h a o e (q.elim .inl fun s => .inr (.inr s)), fun z => ⟨o, h a o e (.inr (.inl z)), .inl rfl⟩⟩
theorem KeepAt.sub {F F' : List Addr} (h : KeepAt Z H H' F) (s : ∀ a ∈ F', a ∈ F) : KeepAt Z H H' F' := fun a o e =>
  ⟨fun q => (h a o e).1 (q.elim (fun z => .inl (s a z)) .inr), (h a o e).2⟩
theorem KeepAt.sqT {F : List Addr} (h : KeepAt Z H H' F) {a : Addr} {vs : List V} (q : SqT K H a vs) : SqT K H' a vs := by
  rcases q with (q | ⟨o, q⟩) | q
  · exact .inl (.inl ((h _ _ q).1 (.inr trivial)))
  · exact .inl (.inr ⟨o, (h _ _ q).1 (.inr trivial)⟩)
  · exact .inr q
theorem KeepAt.rdK {F : List Addr} (h : KeepAt Z H H' F) {a : Addr} {kvs : List (L2.Key × V)} (q : Rd H a (.dK kvs)) (z : Z a) : Rd H' a (.dK kvs) := by
  rcases q with q | ⟨o, q⟩
  · obtain ⟨o', e, l⟩ := (h _ _ q).2 z
    rcases l with rfl | ⟨k, ob, e1, rfl⟩
    · exact .inl e
    · cases e1; exact .inr ⟨ob, e⟩
  · obtain ⟨o', e, l⟩ := (h _ _ q).2 z
    rcases l with rfl | ⟨k, ob, e1, _⟩
    · exact .inr ⟨o, e⟩
    · cases e1
theorem KeepAt.rdT {F : List Addr} (h : KeepAt Z H H' F) {a : Addr} {kvs : List (List L2.Key × V)} (q : Rd H a (.dT kvs)) (z : Z a) : Rd H' a (.dT kvs) := by
  rcases q with q | ⟨o, q⟩
  · obtain ⟨o', e, l⟩ := (h _ _ q).2 z
    rcases l with rfl | ⟨k, ob, e1, _⟩
    · exact .inl e
    · cases e1
  · obtain ⟨o', e, l⟩ := (h _ _ q).2 z
    rcases l with rfl | ⟨k, ob, e1, _⟩
    · exact .inr ⟨o, e⟩
    · cases e1
theorem KeepAt.lst {F : List Addr} (h : KeepAt Z H H' F) {a : Addr} {vs : List V} (q : H a = some (.lst vs)) (z : Z a) : H' a = some (.lst vs) := by
  obtain ⟨o', e, l⟩ := (h _ _ q).2 z
  rcases l with rfl | ⟨k, ob, e1, _⟩
  · exact e
  · cases e1
theorem KeepAt.ins {F : List Addr} (h : KeepAt Z H H' F) {a C dx : Addr} {fs : List (Str × V)} (q : H a = some (.ins C dx fs)) (z : Z a) : H' a = some (.ins C dx fs) := by
  obtain ⟨o', e, l⟩ := (h _ _ q).2 z
  rcases l with rfl | ⟨k, ob, e1, _⟩
  · exact e
  · cases e1

mutual
theorem Rep.keep (hz : ∀ a, Z a → Z' a) : ∀ (d : D) {v : V} {F : List Addr}, Rep K mg Z H d v F → KeepAt Z H H' F → Rep K mg Z' H' d v F
  | .non, _, _, h, _ => h
  | .bl _, _, _, h, _ => h
  | .int _, _, _, h, _ => h
  | .str _, _, _, h, _ => h
  | .tup xs, v, F, h, k => by
    obtain ⟨a, vs, e, q, r⟩ := (show ∃ a vs, v = .ref a ∧ SqT K H a vs ∧ Reps K mg Z H xs vs F from h)
    exact ⟨a, vs, e, k.sqT q, Reps.keep hz xs r k⟩
  | .lst o xs, v, F, h, k => by
    obtain ⟨a, vs, Fx, e, r, q⟩ := (show ∃ a vs Fx, v = .ref a ∧ Reps K mg Z H xs vs Fx ∧ _ from h)
    rcases q with ⟨ho, q, ef⟩ | ⟨ho, q, e1, e2⟩
    · subst ef
      exact ⟨a, vs, Fx, e, Reps.keep hz xs r (k.sub fun b hb => List.mem_cons_of_mem _ hb), .inl ⟨ho, (k _ _ q).1 (.inl List.mem_cons_self), rfl⟩⟩
    · subst e1
      exact ⟨a, vs, [], e, Reps.keep hz xs r (k.sub fun b hb => nomatch hb), .inr ⟨ho, ⟨k.lst q.1 q.2, hz _ q.2⟩, rfl, e2⟩⟩
  | .lk a o kvs, v, F, h, k => by
    obtain ⟨e, ⟨q, z⟩, ef⟩ := (show v = .ref a ∧ (H a = some (.frz o (.dK kvs)) ∧ Z a) ∧ F = [] from h)
    obtain ⟨o', e2, l⟩ := (k _ _ q).2 z
    rcases l with rfl | ⟨_, _, e1, _⟩
    · exact ⟨e, ⟨e2, hz _ z⟩, ef⟩
    · cases e1
  | .scr ns, v, F, h, k => by
    obtain ⟨a, e, q, ef⟩ := (show ∃ a, v = .ref a ∧ ((∃ o, H a = some (.frz o (.lst (ns.map V.int)))) ∨ KLst K a (ns.map V.int)) ∧ F = [] from h)
    refine ⟨a, e, ?_, ef⟩
    rcases q with ⟨o, q⟩ | q
    · exact .inl ⟨o, (k _ _ q).1 (.inr trivial)⟩
    · exact .inr q
  | .dk o ks xs, v, F, h, k => by
    obtain ⟨a, vs, Fx, e, r, l, q⟩ := (show ∃ a vs Fx, v = .ref a ∧ Reps K mg Z H xs vs Fx ∧ ks.length = vs.length ∧ _ from h)
    rcases q with ⟨ho, q, ef⟩ | ⟨ho, ⟨q, z⟩, e1, e2⟩
    · subst ef
      exact ⟨a, vs, Fx, e, Reps.keep hz xs r (k.sub fun b hb => List.mem_cons_of_mem _ hb), l, .inl ⟨ho, (k _ _ q).1 (.inl List.mem_cons_self), rfl⟩⟩
    · subst e1
      exact ⟨a, vs, [], e, Reps.keep hz xs r (k.sub fun b hb => nomatch hb), l, .inr ⟨ho, ⟨k.rdK q z, hz _ z⟩, rfl, e2⟩⟩
  | .dt o ks xs, v, F, h, k => by
    obtain ⟨a, vs, Fx, e, r, l, q⟩ := (show ∃ a vs Fx, v = .ref a ∧ Reps K mg Z H xs vs Fx ∧ ks.length = vs.length ∧ _ from h)
    rcases q with ⟨ho, q, ef⟩ | ⟨ho, ⟨q, z⟩, e1, e2⟩
    · subst ef
      exact ⟨a, vs, Fx, e, Reps.keep hz xs r (k.sub fun b hb => List.mem_cons_of_mem _ hb), l, .inl ⟨ho, (k _ _ q).1 (.inl List.mem_cons_self), rfl⟩⟩
    · subst e1
      exact ⟨a, vs, [], e, Reps.keep hz xs r (k.sub fun b hb => nomatch hb), l, .inr ⟨ho, ⟨k.rdT q z, hz _ z⟩, rfl, e2⟩⟩
  | .obj o c ns xs, v, F, h, k => by
    obtain ⟨a, C, dx, vs, Fx, e, r, l, m, q, t⟩ := (show ∃ a C dx vs Fx, v = .ref a ∧ Reps K mg Z H xs vs Fx ∧ ns.length = vs.length ∧ mg c = some (.ref C) ∧ H a = some (.ins C dx (ns.zip vs)) ∧ _ from h)
    rcases t with ⟨ho, ef⟩ | ⟨ho, z, e1, e2⟩
    · subst ef
      exact ⟨a, C, dx, vs, Fx, e, Reps.keep hz xs r (k.sub fun b hb => List.mem_cons_of_mem _ hb), l, m, (k _ _ q).1 (.inl List.mem_cons_self), .inl ⟨ho, rfl⟩⟩
    · subst e1
      exact ⟨a, C, dx, vs, [], e, Reps.keep hz xs r (k.sub fun b hb => nomatch hb), l, m, k.ins q z, .inr ⟨ho, hz _ z, rfl, e2⟩⟩
theorem Reps.keep (hz : ∀ a, Z a → Z' a) : ∀ (ds : List D) {vs : List V} {F : List Addr}, Reps K mg Z H ds vs F → KeepAt Z H H' F → Reps K mg Z' H' ds vs F
  | [], _, _, h, _ => h
  | x :: xs, vs, F, h, k => by
    obtain ⟨v, vr, F1, F2, e1, e2, h1, h2⟩ := (show ∃ v vr F1 F2, vs = v :: vr ∧ F = F1 ++ F2 ∧ Rep K mg Z H x v F1 ∧ Reps K mg Z H xs vr F2 from h)
    subst e2
    exact ⟨v, vr, F1, F2, e1, rfl, Rep.keep hz x h1 (k.sub fun b hb => List.mem_append_left _ hb), Reps.keep hz xs h2 (k.sub fun b hb => List.mem_append_right _ hb)⟩
end

/-- the heap only grows -/
def Ext (H H' : Hp) : Prop := ∀ a o, H a = some o → H' a = some o
theorem Ext.keepAt {F : List Addr} (h : Ext H H') : KeepAt Z H H' F := .mk0 fun a o e _ => h a o e
theorem Ext.refl : Ext H H := fun _ _ e => e
theorem Ext.trans {H'' : Hp} (a : Ext H H') (b : Ext H' H'') : Ext H H'' := fun c o e => b c o (a c o e)
theorem Ext.upd {p : Addr} {o : HO} (h : H p = none) : Ext H (upd H p o) := fun b x e => by
  rw [upd_ne (ne_of_none e h)]; exact e
/-- an owned thing is changed -/
theorem KeepAt.upd {F : List Addr} {x : Addr} {o o' : HO} (h : H x = some o) (hs : ¬ Still o) (hf : x ∉ F) (hz : ¬ Z x) : KeepAt Z H (upd H x o') F := .mk0 fun a u e q => by
  have : a ≠ x := by
    rintro rfl
    rw [h] at e; cases e
    rcases q with q | q | q
    · exact hf q
    · exact hz q
    · exact hs q
  rw [upd_ne this]; exact e

/-- all owned things stand -/
theorem Reps.mem_some_of (f : ∀ d v F, Rep K mg Z H d v F → ∀ a ∈ F, H a ≠ none) : True := trivial
mutual
theorem Rep.there : ∀ (d : D) {v : V} {F : List Addr}, Rep K mg Z H d v F → ∀ a ∈ F, ∃ o, H a = some o ∧ ¬ Still o
  | .non, _, _, h, a, ha => by rw [(show _ ∧ _ from h).2] at ha; cases ha
  | .bl _, _, _, h, a, ha => by rw [(show _ ∧ _ from h).2] at ha; cases ha
  | .int _, _, _, h, a, ha => by rw [(show _ ∧ _ from h).2] at ha; cases ha
  | .str _, _, _, h, a, ha => by rw [(show _ ∧ _ from h).2] at ha; cases ha
  | .tup xs, v, F, h, b, hb => by
    obtain ⟨a, vs, e, q, r⟩ := (show ∃ a vs, v = .ref a ∧ SqT K H a vs ∧ Reps K mg Z H xs vs F from h)
    exact Reps.there xs r b hb
  | .lst o xs, v, F, h, b, hb => by
    obtain ⟨a, vs, Fx, e, r, q⟩ := (show ∃ a vs Fx, v = .ref a ∧ Reps K mg Z H xs vs Fx ∧ _ from h)
    rcases q with ⟨ho, q, ef⟩ | ⟨ho, q, e1, e2⟩
    · subst ef
      rcases List.mem_cons.mp hb with rfl | hb
      · exact ⟨_, q, id⟩
      · exact Reps.there xs r b hb
    · subst e2; cases hb
  | .lk a o kvs, v, F, h, b, hb => by
    obtain ⟨e, q, ef⟩ := (show v = .ref a ∧ (H a = some (.frz o (.dK kvs)) ∧ Z a) ∧ F = [] from h)
    subst ef; cases hb
  | .scr ns, v, F, h, b, hb => by
    obtain ⟨a, e, q, ef⟩ := (show ∃ a, v = .ref a ∧ ((∃ o, H a = some (.frz o (.lst (ns.map V.int)))) ∨ KLst K a (ns.map V.int)) ∧ F = [] from h)
    subst ef; cases hb
  | .dk o ks xs, v, F, h, b, hb => by
    obtain ⟨a, vs, Fx, e, r, l, q⟩ := (show ∃ a vs Fx, v = .ref a ∧ Reps K mg Z H xs vs Fx ∧ ks.length = vs.length ∧ _ from h)
    rcases q with ⟨ho, q, ef⟩ | ⟨ho, q, e1, e2⟩
    · subst ef
      rcases List.mem_cons.mp hb with rfl | hb
      · exact ⟨_, q, id⟩
      · exact Reps.there xs r b hb
    · subst e2; cases hb
  | .dt o ks xs, v, F, h, b, hb => by
    obtain ⟨a, vs, Fx, e, r, l, q⟩ := (show ∃ a vs Fx, v = .ref a ∧ Reps K mg Z H xs vs Fx ∧ ks.length = vs.length ∧ _ from h)
    rcases q with ⟨ho, q, ef⟩ | ⟨ho, q, e1, e2⟩
    · subst ef
      rcases List.mem_cons.mp hb with rfl | hb
      · exact ⟨_, q, id⟩
      · exact Reps.there xs r b hb
    · subst e2; cases hb
  | .obj o c ns xs, v, F, h, b, hb => by
    obtain ⟨a, C, dx, vs, Fx, e, r, l, m, q, t⟩ := (show ∃ a C dx vs Fx, v = .ref a ∧ Reps K mg Z H xs vs Fx ∧ ns.length = vs.length ∧ mg c = some (.ref C) ∧ H a = some (.ins C dx (ns.zip vs)) ∧ _ from h)
    rcases t with ⟨ho, ef⟩ | ⟨ho, z, e1, e2⟩
    · subst ef
      rcases List.mem_cons.mp hb with rfl | hb
      · exact ⟨_, q, id⟩
      · exact Reps.there xs r b hb
    · subst e2; cases hb
theorem Reps.there : ∀ (ds : List D) {vs : List V} {F : List Addr}, Reps K mg Z H ds vs F → ∀ a ∈ F, ∃ o, H a = some o ∧ ¬ Still o
  | [], _, _, h, a, ha => by rw [(show _ ∧ _ from h).2] at ha; cases ha
  | x :: xs, vs, F, h, b, hb => by
    obtain ⟨v, vr, F1, F2, e1, e2, h1, h2⟩ := (show ∃ v vr F1 F2, vs = v :: vr ∧ F = F1 ++ F2 ∧ Rep K mg Z H x v F1 ∧ Reps K mg Z H xs vr F2 from h)
    subst e2
    rcases List.mem_append.mp hb with hb | hb
    · exact Rep.there x h1 b hb
    · exact Reps.there xs h2 b hb
end

mutual
/-- all is frozen: its footprint comes to the frozen part -/
theorem Rep.frz (hz : ∀ a, Z a → Z' a) : ∀ (d : D) {v : V} {F : List Addr}, Rep K mg Z H d v F → (∀ a ∈ F, Z' a) → Rep K mg Z' H (FS.frz d) v []
  | .non, _, _, h, _ => ⟨(show _ ∧ _ from h).1, rfl⟩
  | .bl _, _, _, h, _ => ⟨(show _ ∧ _ from h).1, rfl⟩
  | .int _, _, _, h, _ => ⟨(show _ ∧ _ from h).1, rfl⟩
  | .str _, _, _, h, _ => ⟨(show _ ∧ _ from h).1, rfl⟩
  | .tup xs, v, F, h, k => by
    obtain ⟨a, vs, e, q, r⟩ := (show ∃ a vs, v = .ref a ∧ SqT K H a vs ∧ Reps K mg Z H xs vs F from h)
    show Rep K mg Z' H (.tup (FS.frzs xs)) v []
    exact ⟨a, vs, e, q, Reps.frz hz xs r k⟩
  | .lst o xs, v, F, h, k => by
    obtain ⟨a, vs, Fx, e, r, q⟩ := (show ∃ a vs Fx, v = .ref a ∧ Reps K mg Z H xs vs Fx ∧ _ from h)
    show Rep K mg Z' H (.lst false (FS.frzs xs)) v []
    rcases q with ⟨ho, q, ef⟩ | ⟨ho, q, e1, e2⟩
    · subst ef
      exact ⟨a, vs, [], e, Reps.frz hz xs r fun b hb => k b (List.mem_cons_of_mem _ hb), .inr ⟨rfl, ⟨q, k a List.mem_cons_self⟩, rfl, rfl⟩⟩
    · subst e1
      exact ⟨a, vs, [], e, Reps.frz hz xs r (fun b hb => nomatch hb), .inr ⟨rfl, ⟨q.1, hz _ q.2⟩, rfl, rfl⟩⟩
  | .lk a o kvs, v, F, h, k => by
    obtain ⟨e, ⟨q, z⟩, ef⟩ := (show v = .ref a ∧ (H a = some (.frz o (.dK kvs)) ∧ Z a) ∧ F = [] from h)
    exact ⟨e, ⟨q, hz _ z⟩, rfl⟩
  | .scr ns, v, F, h, k => by
    obtain ⟨a, e, q, ef⟩ := (show ∃ a, v = .ref a ∧ ((∃ o, H a = some (.frz o (.lst (ns.map V.int)))) ∨ KLst K a (ns.map V.int)) ∧ F = [] from h)
    exact ⟨a, e, q, rfl⟩
  | .dk o ks xs, v, F, h, k => by
    obtain ⟨a, vs, Fx, e, r, l, q⟩ := (show ∃ a vs Fx, v = .ref a ∧ Reps K mg Z H xs vs Fx ∧ ks.length = vs.length ∧ _ from h)
    show Rep K mg Z' H (.dk false ks (FS.frzs xs)) v []
    rcases q with ⟨ho, q, ef⟩ | ⟨ho, ⟨q, z⟩, e1, e2⟩
    · subst ef
      exact ⟨a, vs, [], e, Reps.frz hz xs r fun b hb => k b (List.mem_cons_of_mem _ hb), l, .inr ⟨rfl, ⟨.inl q, k a List.mem_cons_self⟩, rfl, rfl⟩⟩
    · subst e1
      exact ⟨a, vs, [], e, Reps.frz hz xs r (fun b hb => nomatch hb), l, .inr ⟨rfl, ⟨q, hz _ z⟩, rfl, rfl⟩⟩
  | .dt o ks xs, v, F, h, k => by
    obtain ⟨a, vs, Fx, e, r, l, q⟩ := (show ∃ a vs Fx, v = .ref a ∧ Reps K mg Z H xs vs Fx ∧ ks.length = vs.length ∧ _ from h)
    show Rep K mg Z' H (.dt false ks (FS.frzs xs)) v []
    rcases q with ⟨ho, q, ef⟩ | ⟨ho, ⟨q, z⟩, e1, e2⟩
    · subst ef
      exact ⟨a, vs, [], e, Reps.frz hz xs r fun b hb => k b (List.mem_cons_of_mem _ hb), l, .inr ⟨rfl, ⟨.inl q, k a List.mem_cons_self⟩, rfl, rfl⟩⟩
    · subst e1
      exact ⟨a, vs, [], e, Reps.frz hz xs r (fun b hb => nomatch hb), l, .inr ⟨rfl, ⟨q, hz _ z⟩, rfl, rfl⟩⟩
  | .obj o c ns xs, v, F, h, k => by
    obtain ⟨a, C, dx, vs, Fx, e, r, l, m, q, t⟩ := (show ∃ a C dx vs Fx, v = .ref a ∧ Reps K mg Z H xs vs Fx ∧ ns.length = vs.length ∧ mg c = some (.ref C) ∧ H a = some (.ins C dx (ns.zip vs)) ∧ _ from h)
    show Rep K mg Z' H (.obj false c ns (FS.frzs xs)) v []
    rcases t with ⟨ho, ef⟩ | ⟨ho, z, e1, e2⟩
    · subst ef
      exact ⟨a, C, dx, vs, [], e, Reps.frz hz xs r fun b hb => k b (List.mem_cons_of_mem _ hb), l, m, q, .inr ⟨rfl, k a List.mem_cons_self, rfl, rfl⟩⟩
    · subst e1
      exact ⟨a, C, dx, vs, [], e, Reps.frz hz xs r (fun b hb => nomatch hb), l, m, q, .inr ⟨rfl, hz _ z, rfl, rfl⟩⟩
theorem Reps.frz (hz : ∀ a, Z a → Z' a) : ∀ (ds : List D) {vs : List V} {F : List Addr}, Reps K mg Z H ds vs F → (∀ a ∈ F, Z' a) → Reps K mg Z' H (FS.frzs ds) vs []
  | [], _, _, h, _ => ⟨(show _ ∧ _ from h).1, rfl⟩
  | x :: xs, vs, F, h, k => by
    obtain ⟨v, vr, F1, F2, e1, e2, h1, h2⟩ := (show ∃ v vr F1 F2, vs = v :: vr ∧ F = F1 ++ F2 ∧ Rep K mg Z H x v F1 ∧ Reps K mg Z H xs vr F2 from h)
    subst e2
    exact ⟨v, vr, [], [], e1, rfl, Rep.frz hz x h1 fun b hb => k b (List.mem_append_left _ hb), Reps.frz hz xs h2 fun b hb => k b (List.mem_append_right _ hb)⟩
end

mutual
/-- what is frozen has no footprint -/
theorem Rep.isF_nil : ∀ (d : D) {v : V} {F : List Addr}, Rep K mg Z H d v F → isF d = true → F = []
  | .non, _, _, h, _ => (show _ ∧ _ from h).2
  | .bl _, _, _, h, _ => (show _ ∧ _ from h).2
  | .int _, _, _, h, _ => (show _ ∧ _ from h).2
  | .str _, _, _, h, _ => (show _ ∧ _ from h).2
  | .tup xs, v, F, h, k => by
    obtain ⟨a, vs, e, q, r⟩ := (show ∃ a vs, v = .ref a ∧ SqT K H a vs ∧ Reps K mg Z H xs vs F from h)
    exact Reps.isF_nil xs r k
  | .lst o xs, v, F, h, k => by
    obtain ⟨a, vs, Fx, e, r, q⟩ := (show ∃ a vs Fx, v = .ref a ∧ Reps K mg Z H xs vs Fx ∧ _ from h)
    simp only [isF, Bool.and_eq_true, Bool.not_eq_true'] at k
    rcases q with ⟨ho, q, ef⟩ | ⟨ho, q, e1, e2⟩
    · rw [ho] at k; exact nomatch k.1
    · exact e2
  | .lk a o kvs, v, F, h, k => by
    obtain ⟨e, q, ef⟩ := (show v = .ref a ∧ (H a = some (.frz o (.dK kvs)) ∧ Z a) ∧ F = [] from h)
    exact ef
  | .scr ns, v, F, h, k => by
    obtain ⟨a, e, q, ef⟩ := (show ∃ a, v = .ref a ∧ ((∃ o, H a = some (.frz o (.lst (ns.map V.int)))) ∨ KLst K a (ns.map V.int)) ∧ F = [] from h)
    exact ef
  | .dk o ks xs, v, F, h, k => by
    obtain ⟨a, vs, Fx, e, r, l, q⟩ := (show ∃ a vs Fx, v = .ref a ∧ Reps K mg Z H xs vs Fx ∧ ks.length = vs.length ∧ _ from h)
    simp only [isF, Bool.and_eq_true, Bool.not_eq_true'] at k
    rcases q with ⟨ho, q, ef⟩ | ⟨ho, q, e1, e2⟩
    · rw [ho] at k; exact nomatch k.1
    · exact e2
  | .dt o ks xs, v, F, h, k => by
    obtain ⟨a, vs, Fx, e, r, l, q⟩ := (show ∃ a vs Fx, v = .ref a ∧ Reps K mg Z H xs vs Fx ∧ ks.length = vs.length ∧ _ from h)
    simp only [isF, Bool.and_eq_true, Bool.not_eq_true'] at k
    rcases q with ⟨ho, q, ef⟩ | ⟨ho, q, e1, e2⟩
    · rw [ho] at k; exact nomatch k.1
    · exact e2
  | .obj o c ns xs, v, F, h, k => by
    obtain ⟨a, C, dx, vs, Fx, e, r, l, m, q, t⟩ := (show ∃ a C dx vs Fx, v = .ref a ∧ Reps K mg Z H xs vs Fx ∧ ns.length = vs.length ∧ mg c = some (.ref C) ∧ H a = some (.ins C dx (ns.zip vs)) ∧ _ from h)
    simp only [isF, Bool.and_eq_true, Bool.not_eq_true'] at k
    rcases t with ⟨ho, ef⟩ | ⟨ho, z, e1, e2⟩
    · rw [ho] at k; exact nomatch k.1
    · exact e2
theorem Reps.isF_nil : ∀ (ds : List D) {vs : List V} {F : List Addr}, Reps K mg Z H ds vs F → isFs ds = true → F = []
  | [], _, _, h, _ => (show _ ∧ _ from h).2
  | x :: xs, vs, F, h, k => by
    obtain ⟨v, vr, F1, F2, e1, e2, h1, h2⟩ := (show ∃ v vr F1 F2, vs = v :: vr ∧ F = F1 ++ F2 ∧ Rep K mg Z H x v F1 ∧ Reps K mg Z H xs vr F2 from h)
    simp only [isFs, Bool.and_eq_true] at k
    subst e2
    rw [Rep.isF_nil x h1 k.1, Reps.isF_nil xs h2 k.2]
    rfl
end
theorem Reps.append_inv : ∀ {xs ys : List D} {vs : List V} {F : List Addr}, Reps K mg Z H (xs ++ ys) vs F → ∃ v1 v2 F1 F2, vs = v1 ++ v2 ∧ F = F1 ++ F2 ∧ Reps K mg Z H xs v1 F1 ∧ Reps K mg Z H ys v2 F2
  | [], ys, vs, F, h => ⟨[], vs, [], F, rfl, rfl, ⟨rfl, rfl⟩, h⟩
  | x :: xs, ys, vs, F, h => by
    obtain ⟨v, vr, F1, F2, e1, e2, h1, h2⟩ := (show ∃ v vr F1 F2, vs = v :: vr ∧ F = F1 ++ F2 ∧ Rep K mg Z H x v F1 ∧ Reps K mg Z H (xs ++ ys) vr F2 from h)
    obtain ⟨a, b, Fa, Fb, e3, e4, h3, h4⟩ := Reps.append_inv h2
    subst e1 e2 e3 e4
    exact ⟨v :: a, b, F1 ++ Fa, Fb, rfl, by rw [List.append_assoc], ⟨v, a, F1, Fa, rfl, rfl, h1, h3⟩, h4⟩
theorem Reps.append : ∀ {xs ys : List D} {v1 v2 : List V} {F1 F2 : List Addr}, Reps K mg Z H xs v1 F1 → Reps K mg Z H ys v2 F2 → Reps K mg Z H (xs ++ ys) (v1 ++ v2) (F1 ++ F2)
  | [], ys, v1, v2, F1, F2, h, g => by
    obtain ⟨rfl, rfl⟩ := (show v1 = [] ∧ F1 = [] from h)
    exact g
  | x :: xs, ys, v1, v2, F1, F2, h, g => by
    obtain ⟨v, vr, Fa, Fb, e1, e2, h1, h2⟩ := (show ∃ v vr Fa Fb, v1 = v :: vr ∧ F1 = Fa ++ Fb ∧ Rep K mg Z H x v Fa ∧ Reps K mg Z H xs vr Fb from h)
    subst e1 e2
    exact ⟨v, vr ++ v2, Fa, Fb ++ F2, rfl, by rw [List.append_assoc], h1, Reps.append h2 g⟩
/-- an item -/
theorem Reps.get : ∀ {xs : List D} {vs : List V} {F : List Addr} {i : Nat} {x : D}, Reps K mg Z H xs vs F → xs[i]? = some x → ∃ v Fx, vs[i]? = some v ∧ Rep K mg Z H x v Fx ∧ (∀ a ∈ Fx, a ∈ F)
  | [], _, _, _, _, _, e => by simp at e
  | y :: ys, vs, F, 0, x, h, e => by
    obtain ⟨v, vr, F1, F2, e1, e2, h1, h2⟩ := (show ∃ v vr F1 F2, vs = v :: vr ∧ F = F1 ++ F2 ∧ Rep K mg Z H y v F1 ∧ Reps K mg Z H ys vr F2 from h)
    simp at e; subst e e1 e2
    exact ⟨v, F1, rfl, h1, fun a ha => List.mem_append_left _ ha⟩
  | y :: ys, vs, F, i + 1, x, h, e => by
    obtain ⟨v, vr, F1, F2, e1, e2, h1, h2⟩ := (show ∃ v vr F1 F2, vs = v :: vr ∧ F = F1 ++ F2 ∧ Rep K mg Z H y v F1 ∧ Reps K mg Z H ys vr F2 from h)
    obtain ⟨u, Fx, g1, g2, g3⟩ := Reps.get (i := i) (x := x) h2 (by simpa using e)
    subst e1 e2
    exact ⟨u, Fx, by simpa using g1, g2, fun a ha => List.mem_append_right _ (g3 a ha)⟩
end
end FS

/-! Rep2: the slots, the state. -/
namespace FS
open PySem PySem.Spec PyProof.Rows L2
section
variable (K : PySem.W.Frag) (mg : Str → Option Value) (Z : Addr → Prop) (H : Hp)
def SReps : Sl → L2.St → List Addr → Prop
  | [], σ, F => σ = [] ∧ F = []
  | none :: sd, σ, F => ∃ x σr, σ = x :: σr ∧ SReps sd σr F
  | some d :: sd, σ, F => ∃ v σr F1 F2, σ = some v :: σr ∧ F = F1 ++ F2 ∧ Rep K mg Z H d v F1 ∧ SReps sd σr F2
end
section
variable {K : PySem.W.Frag} {mg : Str → Option Value} {Z Z' : Addr → Prop} {H H' : Hp}
theorem SReps.length : ∀ {sd : Sl} {σ : L2.St} {F : List Addr}, SReps K mg Z H sd σ F → sd.length = σ.length
  | [], σ, F, h => by obtain ⟨rfl, _⟩ := (show σ = [] ∧ F = [] from h); rfl
  | none :: sd, σ, F, h => by
    obtain ⟨x, σr, rfl, hh⟩ := (show ∃ x σr, σ = x :: σr ∧ SReps K mg Z H sd σr F from h)
    rw [List.length_cons, List.length_cons, SReps.length hh]
  | some d :: sd, σ, F, h => by
    obtain ⟨v, σr, F1, F2, rfl, rfl, _, hh⟩ := (show ∃ v σr F1 F2, σ = some v :: σr ∧ F = F1 ++ F2 ∧ Rep K mg Z H d v F1 ∧ SReps K mg Z H sd σr F2 from h)
    rw [List.length_cons, List.length_cons, SReps.length hh]
theorem SReps.keep (hz : ∀ a, Z a → Z' a) : ∀ {sd : Sl} {σ : L2.St} {F : List Addr}, SReps K mg Z H sd σ F → KeepAt Z H H' F → SReps K mg Z' H' sd σ F
  | [], _, _, h, _ => h
  | none :: sd, σ, F, h, k => by
    obtain ⟨x, σr, e, h⟩ := (show ∃ x σr, σ = x :: σr ∧ SReps K mg Z H sd σr F from h)
    exact ⟨x, σr, e, SReps.keep hz h k⟩
  | some d :: sd, σ, F, h, k => by
    obtain ⟨v, σr, F1, F2, e, rfl, r, h⟩ := (show ∃ v σr F1 F2, σ = some v :: σr ∧ F = F1 ++ F2 ∧ Rep K mg Z H d v F1 ∧ SReps K mg Z H sd σr F2 from h)
    exact ⟨v, σr, F1, F2, e, rfl, r.keep hz d (k.sub fun a ha => List.mem_append_left _ ha), SReps.keep hz h (k.sub fun a ha => List.mem_append_right _ ha)⟩
theorem SReps.there : ∀ {sd : Sl} {σ : L2.St} {F : List Addr}, SReps K mg Z H sd σ F → ∀ a ∈ F, ∃ o, H a = some o ∧ ¬ Still o
  | [], _, _, h, a, ha => by rw [(show _ ∧ _ from h).2] at ha; cases ha
  | none :: sd, σ, F, h, a, ha => by
    obtain ⟨x, σr, e, h⟩ := (show ∃ x σr, σ = x :: σr ∧ SReps K mg Z H sd σr F from h)
    exact SReps.there h a ha
  | some d :: sd, σ, F, h, a, ha => by
    obtain ⟨v, σr, F1, F2, e, rfl, r, h⟩ := (show ∃ v σr F1 F2, σ = some v :: σr ∧ F = F1 ++ F2 ∧ Rep K mg Z H d v F1 ∧ SReps K mg Z H sd σr F2 from h)
    rcases List.mem_append.mp ha with ha | ha
    · exact r.there d a ha
    · exact SReps.there h a ha
theorem SReps.get : ∀ {sd : Sl} {σ : L2.St} {F : List Addr} {i : Nat} {d : D}, SReps K mg Z H sd σ F → at? sd i = some d → ∃ v Fx, σ[i]? = some (some v) ∧ Rep K mg Z H d v Fx ∧ ∀ a ∈ Fx, a ∈ F
  | [], _, _, i, d, h, e => by cases e
  | none :: sd, σ, F, 0, d, h, e => by cases e
  | none :: sd, σ, F, i + 1, d, h, e => by
    obtain ⟨x, σr, rfl, hh⟩ := (show ∃ x σr, σ = x :: σr ∧ SReps K mg Z H sd σr F from h)
    obtain ⟨v, Fx, h1, h2, h3⟩ := SReps.get (i := i) (d := d) hh e
    exact ⟨v, Fx, by simpa using h1, h2, h3⟩
  | some y :: sd, σ, F, 0, d, h, e => by
    obtain ⟨v, σr, F1, F2, rfl, rfl, r, hh⟩ := (show ∃ v σr F1 F2, σ = some v :: σr ∧ F = F1 ++ F2 ∧ Rep K mg Z H y v F1 ∧ SReps K mg Z H sd σr F2 from h)
    cases e
    exact ⟨v, F1, rfl, r, fun a ha => List.mem_append_left _ ha⟩
  | some y :: sd, σ, F, i + 1, d, h, e => by
    obtain ⟨v, σr, F1, F2, rfl, rfl, r, hh⟩ := (show ∃ v σr F1 F2, σ = some v :: σr ∧ F = F1 ++ F2 ∧ Rep K mg Z H y v F1 ∧ SReps K mg Z H sd σr F2 from h)
    obtain ⟨v, Fx, h1, h2, h3⟩ := SReps.get (i := i) (d := d) hh e
    exact ⟨v, Fx, by simpa using h1, h2, fun a ha => List.mem_append_right _ (h3 a ha)⟩
/-- a slot moved out -/
theorem SReps.take : ∀ {sd : Sl} {σ : L2.St} {F : List Addr} {i : Nat} {d : D}, SReps K mg Z H sd σ F → at? sd i = some d →
    ∃ v Fx Fr, σ[i]? = some (some v) ∧ Rep K mg Z H d v Fx ∧ F.Perm (Fx ++ Fr) ∧ SReps K mg Z H (sd.set i none) σ Fr
  | [], _, _, i, d, h, e => by cases e
  | none :: sd, σ, F, 0, d, h, e => by cases e
  | none :: sd, σ, F, i + 1, d, h, e => by
    obtain ⟨x, σr, rfl, hh⟩ := (show ∃ x σr, σ = x :: σr ∧ SReps K mg Z H sd σr F from h)
    obtain ⟨v, Fx, Fr, h1, h2, h3, h4⟩ := SReps.take (i := i) (d := d) hh e
    exact ⟨v, Fx, Fr, by simpa using h1, h2, h3, x, σr, rfl, h4⟩
  | some y :: sd, σ, F, 0, d, h, e => by
    obtain ⟨v, σr, F1, F2, rfl, rfl, r, hh⟩ := (show ∃ v σr F1 F2, σ = some v :: σr ∧ F = F1 ++ F2 ∧ Rep K mg Z H y v F1 ∧ SReps K mg Z H sd σr F2 from h)
    cases e
    exact ⟨v, F1, F2, rfl, r, .refl _, some v, σr, rfl, hh⟩
  | some y :: sd, σ, F, i + 1, d, h, e => by
    obtain ⟨v, σr, F1, F2, rfl, rfl, r, hh⟩ := (show ∃ v σr F1 F2, σ = some v :: σr ∧ F = F1 ++ F2 ∧ Rep K mg Z H y v F1 ∧ SReps K mg Z H sd σr F2 from h)
    obtain ⟨u, Fx, Fr, h1, h2, h3, h4⟩ := SReps.take (i := i) (d := d) hh e
    refine ⟨u, Fx, F1 ++ Fr, by simpa using h1, h2, ?_, v, σr, F1, Fr, rfl, rfl, r, h4⟩
    refine (List.Perm.append_left F1 h3).trans ?_
    rw [← List.append_assoc, ← List.append_assoc]
    exact List.Perm.append_right Fr List.perm_append_comm
/-- a slot forgotten -/
theorem SReps.drop {sd : Sl} {σ : L2.St} {F : List Addr} (h : SReps K mg Z H sd σ F) (i : Nat) : ∃ Fx Fr, F.Perm (Fx ++ Fr) ∧ SReps K mg Z H (sd.set i none) σ Fr := by
  cases e : at? sd i with
  | some d =>
    obtain ⟨v, Fx, Fr, _, _, h3, h4⟩ := h.take e
    exact ⟨Fx, Fr, h3, h4⟩
  | none =>
    have : sd.set i none = sd := by
      refine List.ext_getElem? fun j => ?_
      by_cases hj : i = j
      · subst hj
        by_cases hl : i < sd.length
        · rw [List.getElem?_set_self hl]
          unfold at? at e
          rw [List.getElem?_eq_getElem hl] at e ⊢
          have e' : sd[i] = none := e
          rw [e']
        · rw [List.getElem?_eq_none (by simpa using hl), List.getElem?_eq_none (by simpa using hl)]
      · rw [List.getElem?_set_ne hj]
    rw [this]
    exact ⟨[], F, .refl _, h⟩
/-- a slot that is unknown is stored -/
theorem SReps.put : ∀ {sd : Sl} {σ : L2.St} {F : List Addr} {i : Nat} {d : D} {v : V} {Fx : List Addr}, SReps K mg Z H sd σ F → at? sd i = none → i < sd.length → Rep K mg Z H d v Fx →
    ∃ F', F'.Perm (Fx ++ F) ∧ SReps K mg Z H (sd.set i (some d)) (σ.set i (some v)) F'
  | [], _, _, i, d, _, _, h, e, l, _ => by simp at l
  | none :: sd, σ, F, 0, d, v, Fx, h, e, l, r => by
    obtain ⟨x, σr, rfl, hh⟩ := (show ∃ x σr, σ = x :: σr ∧ SReps K mg Z H sd σr F from h)
    exact ⟨Fx ++ F, .refl _, v, σr, Fx, F, rfl, rfl, r, hh⟩
  | none :: sd, σ, F, i + 1, d, v, Fx, h, e, l, r => by
    obtain ⟨x, σr, rfl, hh⟩ := (show ∃ x σr, σ = x :: σr ∧ SReps K mg Z H sd σr F from h)
    obtain ⟨F', p, h'⟩ := SReps.put (i := i) (d := d) hh e (by simpa using l) r
    exact ⟨F', p, x, _, rfl, h'⟩
  | some y :: sd, σ, F, 0, d, v, Fx, h, e, l, r => by cases e
  | some y :: sd, σ, F, i + 1, d, v, Fx, h, e, l, r => by
    obtain ⟨v', σr, F1, F2, rfl, rfl, r', hh⟩ := (show ∃ v σr F1 F2, σ = some v :: σr ∧ F = F1 ++ F2 ∧ Rep K mg Z H y v F1 ∧ SReps K mg Z H sd σr F2 from h)
    obtain ⟨F', p, h'⟩ := SReps.put (i := i) (d := d) hh e (by simpa using l) r
    refine ⟨F1 ++ F', ?_, v', _, F1, F', rfl, rfl, r', h'⟩
    refine (List.Perm.append_left F1 p).trans ?_
    rw [← List.append_assoc, ← List.append_assoc]
    exact List.Perm.append_right F2 List.perm_append_comm
theorem set_at {σ : L2.St} {i : Nat} {v : V} (h : σ[i]? = some (some v)) : σ.set i (some v) = σ := by
  obtain ⟨hl, e⟩ := List.getElem?_eq_some_iff.mp h
  refine List.ext_getElem? fun j => ?_
  by_cases hj : i = j
  · subst hj
    rw [List.getElem?_set_self hl, h]
  · rw [List.getElem?_set_ne hj]
theorem at?_lt {sd : Sl} {i : Nat} {d : D} (e : at? sd i = some d) : i < sd.length := by
  unfold at? at e
  cases q : sd[i]? with
  | none => rw [q] at e; cases e
  | some x => exact (List.getElem?_eq_some_iff.mp q).1
theorem at?_set_self {sd : Sl} {i : Nat} {x : Option D} (h : i < sd.length) : at? (sd.set i x) i = x := by
  unfold at?
  rw [List.getElem?_set_self h]; rfl
theorem at?_set_none {sd : Sl} {i : Nat} : at? (sd.set i none) i = none := by
  by_cases h : i < sd.length
  · exact at?_set_self h
  · unfold at?
    rw [List.getElem?_eq_none (by simpa using h)]; rfl
theorem at?_set_ne {sd : Sl} {i j : Nat} {x : Option D} (h : i ≠ j) : at? (sd.set i x) j = at? sd j := by
  unfold at?
  rw [List.getElem?_set_ne h]
end

/-! ### the state -/
/-- the entry of the def: its heap, what the arguments own, what was frozen, the slots that are handed back -/
structure Fr0 where
  H0 : Hp
  A0 : List Addr
  Z0 : Addr → Prop
  V0 : List (Nat × V)
structure SIx (K : PySem.W.Frag) (mg : Str → Option Value) (f : Fr0) (sd : Sl) (σ : L2.St) (ds : List D) (vs : List V) (H : Hp) (Z : Addr → Prop) (F G : List Addr) : Prop where
  slots : SReps K mg Z H sd σ F
  temps : Reps K mg Z H ds vs G
  nd : (F ++ G).Nodup
  nz : ∀ a ∈ F ++ G, ¬ Z a
  zin : ∀ a, Z a → H a ≠ none
  zlow : ∀ a, f.Z0 a → Z a
  zup : ∀ a, Z a → f.Z0 a ∨ a ∈ f.A0 ∨ f.H0 a = none
  own : ∀ a ∈ F ++ G, a ∈ f.A0 ∨ f.H0 a = none
  keep : Kp f.Z0 f.A0 f.H0 H
  pins : ∀ p ∈ f.V0, σ[p.1]? = some (some p.2)
def SI (K : PySem.W.Frag) (mg : Str → Option Value) (f : Fr0) (sd : Sl) (σ : L2.St) (ds : List D) (vs : List V) (H : Hp) : Prop := ∃ Z F G, SIx K mg f sd σ ds vs H Z F G

section
variable {K : PySem.W.Frag} {mg : Str → Option Value} {Z Z' : Addr → Prop} {H H' : Hp} {f : Fr0} {sd : Sl} {σ : L2.St} {ds : List D} {vs : List V} {F G : List Addr}
/-- the heap has grown -/
theorem SIx.ext (S : SIx K mg f sd σ ds vs H Z F G) (e : Ext H H') : SIx K mg f sd σ ds vs H' Z F G where
  slots := S.slots.keep (fun _ z => z) e.keepAt
  temps := S.temps.keep (fun _ z => z) _ e.keepAt
  nd := S.nd
  nz := S.nz
  zin := fun a z => by
    cases q : H a with
    | none => exact absurd q (S.zin a z)
    | some o => rw [e a o q]; simp
  zlow := S.zlow
  zup := S.zup
  own := S.own
  keep := fun a o h1 h2 => let ⟨o', k1, k2⟩ := S.keep a o h1 h2; ⟨o', e a o' k1, k2⟩
  pins := S.pins
theorem SIx.fresh (S : SIx K mg f sd σ ds vs H Z F G) {p : Addr} (hp : H p = none) : ¬ Z p ∧ p ∉ F ++ G ∧ (p ∈ f.A0 ∨ f.H0 p = none) := by
  refine ⟨fun z => S.zin p z hp, fun h => ?_, ?_⟩
  · rcases List.mem_append.mp h with h | h
    · obtain ⟨o, e, _⟩ := S.slots.there p h
      rw [hp] at e; cases e
    · obtain ⟨o, e, _⟩ := Reps.there ds S.temps p h
      rw [hp] at e; cases e
  · by_cases ha : p ∈ f.A0
    · exact .inl ha
    · refine .inr ?_
      cases q : f.H0 p with
      | none => rfl
      | some o => obtain ⟨o', k1, _⟩ := S.keep p o q ha; rw [k1] at hp; cases hp
/-- a temporary more, its footprint fresh -/
theorem SIx.push (S : SIx K mg f sd σ ds vs H Z F G) {d : D} {v : V} {Gn : List Addr} (r : Rep K mg Z H d v Gn) (nd : Gn.Nodup) (hd : ∀ a ∈ Gn, a ∉ F ++ G) (hz : ∀ a ∈ Gn, ¬ Z a) (ho : ∀ a ∈ Gn, a ∈ f.A0 ∨ f.H0 a = none) :
    SIx K mg f sd σ (d :: ds) (v :: vs) H Z F (Gn ++ G) where
  slots := S.slots
  temps := ⟨v, vs, Gn, G, rfl, rfl, r, S.temps⟩
  nd := by
    have h := S.nd
    rw [List.nodup_append] at h ⊢
    obtain ⟨h1, h2, h3⟩ := h
    refine ⟨h1, ?_, fun a ha b hb => ?_⟩
    · rw [List.nodup_append]
      exact ⟨nd, h2, fun a ha b hb e => hd a ha (by rw [e]; exact List.mem_append_right _ hb)⟩
    · rcases List.mem_append.mp hb with hb | hb
      · rintro rfl
        exact hd a hb (List.mem_append_left _ ha)
      · exact h3 a ha b hb
  nz := fun a ha => by
    rcases List.mem_append.mp ha with ha | ha
    · exact S.nz a (List.mem_append_left _ ha)
    · rcases List.mem_append.mp ha with ha | ha
      · exact hz a ha
      · exact S.nz a (List.mem_append_right _ ha)
  zin := S.zin
  zlow := S.zlow
  zup := S.zup
  own := fun a ha => by
    rcases List.mem_append.mp ha with ha | ha
    · exact S.own a (List.mem_append_left _ ha)
    · rcases List.mem_append.mp ha with ha | ha
      · exact ho a ha
      · exact S.own a (List.mem_append_right _ ha)
  keep := S.keep
  pins := S.pins
/-- a frozen temporary more -/
theorem SIx.push0 (S : SIx K mg f sd σ ds vs H Z F G) {d : D} {v : V} (r : Rep K mg Z H d v []) : SIx K mg f sd σ (d :: ds) (v :: vs) H Z F G :=
  S.push r List.nodup_nil (fun _ h => nomatch h) (fun _ h => nomatch h) (fun _ h => nomatch h)
/-- the footprints in another order, fewer -/
theorem SIx.sub {sd' : Sl} {σ' : L2.St} {ds' : List D} {vs' : List V} {F' G' R : List Addr} (S : SIx K mg f sd σ ds vs H Z F G) (s : SReps K mg Z H sd' σ' F') (t : Reps K mg Z H ds' vs' G') (p : (F ++ G).Perm (R ++ (F' ++ G'))) (hp : ∀ p ∈ f.V0, σ'[p.1]? = some (some p.2)) :
    SIx K mg f sd' σ' ds' vs' H Z F' G' where
  slots := s
  temps := t
  nd := ((p.nodup_iff.mp S.nd).sublist (List.sublist_append_right R _))
  nz := fun a ha => S.nz a (p.mem_iff.mpr (List.mem_append_right _ ha))
  zin := S.zin
  zlow := S.zlow
  zup := S.zup
  own := fun a ha => S.own a (p.mem_iff.mpr (List.mem_append_right _ ha))
  keep := S.keep
  pins := hp
/-- the last temporary dropped -/
theorem SIx.pop {d : D} {v : V} (S : SIx K mg f sd σ (d :: ds) (v :: vs) H Z F G) : ∃ G', SIx K mg f sd σ ds vs H Z F G' := by
  obtain ⟨v', vr, F1, F2, e1, e2, h1, h2⟩ := (show ∃ v' vr F1 F2, v :: vs = v' :: vr ∧ G = F1 ++ F2 ∧ Rep K mg Z H d v' F1 ∧ Reps K mg Z H ds vr F2 from S.temps)
  cases e1
  subst e2
  refine ⟨F2, S.sub (R := F1) S.slots h2 ?_ S.pins⟩
  rw [← List.append_assoc, ← List.append_assoc]
  exact List.Perm.append_right _ List.perm_append_comm
/-- the last temporary is frozen -/
theorem SIx.freeze {d : D} {v : V} (S : SIx K mg f sd σ (d :: ds) (v :: vs) H Z F G) : ∃ Z' G', SIx K mg f sd σ (frz d :: ds) (v :: vs) H Z' F G' ∧ Rep K mg Z' H (frz d) v [] ∧ ∀ a, Z a → Z' a := by
  obtain ⟨v', vr, F1, F2, e1, e2, h1, h2⟩ := (show ∃ v' vr F1 F2, v :: vs = v' :: vr ∧ G = F1 ++ F2 ∧ Rep K mg Z H d v' F1 ∧ Reps K mg Z H ds vr F2 from S.temps)
  cases e1
  subst e2
  have nd := S.nd
  rw [List.nodup_append] at nd
  obtain ⟨n1, n2, n3⟩ := nd
  rw [List.nodup_append] at n2
  obtain ⟨n4, n5, n6⟩ := n2
  have hz : ∀ a, Z a → (Z a ∨ a ∈ F1) := fun a z => .inl z
  have r := h1.frz (Z' := fun a => Z a ∨ a ∈ F1) hz d fun a ha => .inr ha
  refine ⟨fun a => Z a ∨ a ∈ F1, F2, ⟨S.slots.keep hz (Ext.refl.keepAt), ⟨v, vs, [], F2, rfl, rfl, r, h2.keep hz _ Ext.refl.keepAt⟩, ?_, fun a ha => ?_, fun a z => ?_, fun a z => .inl (S.zlow a z), fun a z => ?_, fun a ha => ?_, S.keep, S.pins⟩, r, fun a z => .inl z⟩
  · rw [List.nodup_append]
    exact ⟨n1, n5, fun a ha b hb => n3 a ha b (List.mem_append_right _ hb)⟩
  · rintro (z | z)
    · refine S.nz a ?_ z
      rcases List.mem_append.mp ha with ha | ha
      · exact List.mem_append_left _ ha
      · exact List.mem_append_right _ (List.mem_append_right _ ha)
    · rcases List.mem_append.mp ha with ha | ha
      · exact n3 a ha a (List.mem_append_left _ z) rfl
      · exact n6 a z a ha rfl
  · rcases z with z | z
    · exact S.zin a z
    · obtain ⟨o, e, _⟩ := h1.there d a z
      rw [e]; simp
  · rcases z with z | z
    · exact S.zup a z
    · exact .inr (S.own a (List.mem_append_right _ (List.mem_append_left _ z)))
  · refine S.own a ?_
    rcases List.mem_append.mp ha with ha | ha
    · exact List.mem_append_left _ ha
    · exact List.mem_append_right _ (List.mem_append_right _ ha)
/-- a slot moved out to the temporaries -/
theorem SIx.mov (S : SIx K mg f sd σ ds vs H Z F G) {i : Nat} {d : D} (e : at? sd i = some d) : ∃ v F' Fx, σ[i]? = some (some v) ∧ SIx K mg f (sd.set i none) σ (d :: ds) (v :: vs) H Z F' (Fx ++ G) ∧ Rep K mg Z H d v Fx := by
  obtain ⟨v, Fx, Fr, h1, h2, h3, h4⟩ := S.slots.take e
  refine ⟨v, Fr, Fx, h1, S.sub (R := []) h4 ⟨v, vs, Fx, G, rfl, rfl, h2, S.temps⟩ ?_ S.pins, h2⟩
  refine (List.Perm.append_right G h3).trans ?_
  rw [List.nil_append, ← List.append_assoc]
  exact List.Perm.append_right G List.perm_append_comm
/-- the last temporary is stored in a slot -/
theorem SIx.store {d : D} {v : V} (S : SIx K mg f sd σ (d :: ds) (v :: vs) H Z F G) {i : Nat} (hl : i < sd.length) (hr : ∀ p ∈ f.V0, p.1 ≠ i ∨ p.2 = v) :
    ∃ F' G', SIx K mg f (sd.set i (some d)) (σ.set i (some v)) ds vs H Z F' G' := by
  obtain ⟨v', vr, F1, F2, e1, e2, h1, h2⟩ := (show ∃ v' vr F1 F2, v :: vs = v' :: vr ∧ G = F1 ++ F2 ∧ Rep K mg Z H d v' F1 ∧ Reps K mg Z H ds vr F2 from S.temps)
  cases e1
  subst e2
  obtain ⟨Fx, Fr, p1, s1⟩ := S.slots.drop i
  obtain ⟨F', p2, s2⟩ := s1.put (i := i) (d := d) at?_set_none (by simpa using hl) h1
  rw [List.set_set] at s2
  refine ⟨F', F2, S.sub (R := Fx) s2 h2 ?_ fun p hp => ?_⟩
  · -- F ++ (F1 ++ F2) ~ Fx ++ (F' ++ F2)
    have a : (F ++ (F1 ++ F2)).Perm ((Fx ++ Fr) ++ (F1 ++ F2)) := List.Perm.append_right _ p1
    refine a.trans ?_
    rw [List.append_assoc]
    refine List.Perm.append_left Fx ?_
    rw [← List.append_assoc]
    refine List.Perm.append_right F2 ?_
    exact List.perm_append_comm.trans p2.symm
  · by_cases q : p.1 = i
    · have hlσ : p.1 < σ.length := by rw [q, ← S.slots.length]; exact hl
      rcases hr p hp with z | z
      · exact absurd q z
      · rw [q] at hlσ ⊢
        rw [List.getElem?_set_self hlσ, z]
    · rw [List.getElem?_set_ne (Ne.symm q)]
      exact S.pins p hp
/-- .. in the slot from which it came -/
theorem SIx.back {d : D} {v : V} (S : SIx K mg f sd σ (d :: ds) (v :: vs) H Z F G) {i : Nat} (hv : σ[i]? = some (some v)) : ∃ F' G', SIx K mg f (sd.set i (some d)) σ ds vs H Z F' G' := by
  have hl : i < sd.length := by rw [S.slots.length]; exact (List.getElem?_eq_some_iff.mp hv).1
  have := S.store (i := i) hl fun p hp => by
    by_cases q : p.1 = i
    · refine .inr ?_
      have := S.pins p hp
      rw [q, hv] at this
      cases this; rfl
    · exact .inl q
  rw [set_at hv] at this
  exact this
/-- a slot frozen where it stands -/
theorem SIx.frzAt (S : SIx K mg f sd σ ds vs H Z F G) {i : Nat} {d : D} (e : at? sd i = some d) : ∃ v Z' F' G', σ[i]? = some (some v) ∧ SIx K mg f (sd.set i (some (frz d))) σ (frz d :: ds) (v :: vs) H Z' F' G' := by
  obtain ⟨v, F', Fx, h1, S1, r1⟩ := S.mov e
  obtain ⟨Z', G', S2, r2, hz⟩ := S1.freeze
  have S3 := S2.push0 r2
  obtain ⟨F3, G3, S4⟩ := S3.back h1
  rw [List.set_set] at S4
  exact ⟨v, Z', F3, G3, h1, S4⟩
end
end FS

/-! Sim: what a reading of the hand layer does by value trees; the judgements; contracts. -/
namespace FS
open PySem PySem.Spec PyProof.Rows L2

/-- an exception lies so -/
def ExR (K : PySem.W.Frag) (mg : Str → Option Value) (x : Exn) (cls : Value) (dx : Option Addr) (H : Hp) : Prop :=
  ∃ C, mg x.cls = some (.ref C) ∧ cls = .ref C ∧ ((x.ns = [] ∧ x.vs = [] ∧ dx = none) ∨ ∃ d vs, dx = some d ∧ H d = some (.xd (x.ns.zip vs)) ∧ x.ns.length = vs.length ∧ Reps K mg (fun _ => False) H x.vs vs [])

/-- the arguments at some places -/
def pick {α : Type} (refs : List Nat) (vs : List α) : List α := refs.filterMap fun i => vs[i]?

/-- a def's promise, from its contract: n parameters, those at refs handed back -/
def spOf (K : PySem.W.Frag) (mg : Str → Option Value) (n : Nat) (refs : List Nat) (c : Con) : Sp := fun vs H Q E =>
  vs.length = n ∧ ∃ ds Z G, Reps K mg Z H ds vs G ∧ G.Nodup ∧ (∀ a ∈ G, ¬ Z a) ∧ (∀ a, Z a → H a ≠ none) ∧
    match c ds with
    | .bad => False
    | .ok d ps => ∀ v H' Z' G', Reps K mg Z' H' (ps ++ [d]) (pick refs vs ++ [v]) G' → G'.Nodup → (∀ a ∈ G', ¬ Z' a) → (∀ a, Z' a → H' a ≠ none) → (∀ a, Z a → Z' a) → (∀ a, Z' a → Z a ∨ a ∈ G ∨ H a = none) →
        (∀ a ∈ G', a ∈ G ∨ H a = none) → Kp Z G H H' → Q v H'
    | .exc x => ∀ cls dx H', ExR K mg x cls dx H' → Kp Z G H H' → E cls dx H'

/-- a name of the module holds a def that keeps a contract -/
def Callable (X : Cx) (x : Str) (n : Nat) (refs : List Nat) (c : Con) : Prop :=
  ∃ k f fd ps, FnOk X.prog X.w X.K X.mg X.base (L2.CX X.prog X.w) k f fd ps (spOf X.K X.mg n refs c) ∧ Room k X.A ∧ X.mg x = some (.ref f) ∧ PySem.W.keepIn X.K (.ref f) = true ∧ Binds X.K fd ps []

structure Fn where
  name : Str
  n : Nat
  refs : List Nat
  con : Con
/-- what is known of the def whose body is read: its names by place, its scope, the names that may be stored, the slots handed back, the defs, the built-in names, the module's constants -/
structure Gam where
  N : List Str
  sc : Scope
  st : List Str
  refs : List Nat
  fns : List Fn
  blt : List Str
  cns : List (Str × D)
  /-- the exception classes that are raised, their fields -/
  exs : List (Str × List Str) := []
  /-- whether the first is caught as the second -/
  exm : List (Str × Str × Bool) := []
  /-- a field of an exception class -/
  xfs : List (Str × Str) := []
  /-- a def's own body -/
  top : Bool := false

/-- what an exception's __init__ does -/
def ExcP (C : Addr) (fs : List Str) (sp : Sp) : Prop := ∀ a ws H Q E, ws.length = fs.length → H a = some (exo a C none) → (∀ dx H', H dx = none → dx ≠ a → H' a = some (exo a C (some dx)) → H' dx = some (exd dx (fs.zip ws).reverse) → (∀ b, b ≠ a → b ≠ dx → H' b = H b) → Q .non H') → sp (.ref a :: ws) H Q E
def ExcAt (P : Program) (w : World) (K : PySem.W.Frag) (mg : Str → Option Value) (base : Heap) (k : Nat) (x : Str) (fs : List Str) : Prop :=
  ∃ C fI fd ps sp, mg x = some (.ref C) ∧ OexC K C ∧ PySem.W.findIn K (.ref C) "__init__" = some (some (.ref fI)) ∧ PySem.W.typeIn K (.ref fI) = some (.type "function") ∧ FnOk P w K mg base (L2.CX P w) k fI fd ps sp ∧ Binds K fd ps [] ∧ ExcP C fs sp
structure Ctx (Γ : Gam) (X : Cx) : Prop where
  N : X.N = Γ.N
  nd : Γ.N.Nodup
  sc : X.env.scope = Γ.sc
  calm : X.calm = true
  pas : PassesOwn (model X.prog X.w) X.A X.env X.xe
  un : X.A.units + 70 < cLine
  st : ∀ x ∈ Γ.st, X.fn x = true ∨ X.env.scope.names.lookup x = some .local
  fns : ∀ p ∈ Γ.fns, Callable X p.name p.n p.refs p.con
  blt : ∀ x ∈ Γ.blt, X.mg x = none
  cns : ∀ p ∈ Γ.cns, ∃ u v, X.mg p.1 = some u ∧ RelV v u ∧ ∀ Z H, Rep X.K X.mg Z H p.2 v []
  exs : ∀ p ∈ Γ.exs, ∃ k, ExcAt X.prog X.w X.K X.mg X.base k p.1 p.2 ∧ Room (k + 1) X.A
  exm : ∀ p ∈ Γ.exm, ∃ C' C, X.mg p.1 = some (.ref C') ∧ X.mg p.2.1 = some (.ref C) ∧ PySem.W.exmOne X.K (.ref C') (.ref C) = some p.2.2
  xfs : ∀ p ∈ Γ.xfs, ∃ C, X.mg p.1 = some (.ref C) ∧ XfC X.K C ∧ PySem.W.findIn X.K (.ref C) p.2 = some none
  top : Γ.top = true → X.stack = X.env :: X.outer ∧ X.env.frame = some X.env.locals

/-- only these slots are changed -/
def Away (js : List Nat) (σ σ' : L2.St) : Prop := σ'.length = σ.length ∧ ∀ j, j ∉ js → σ'[j]? = σ[j]?
section
variable (X : Cx) (refs : List Nat) (W : WX)
abbrev SIX (X : Cx) := SI X.K X.mg
abbrev SIxX (X : Cx) := SIx X.K X.mg
def SimE (t : TE) (m : M D) : Prop := ∀ f sd σ ds vs H Q, (∀ p ∈ f.V0, p.1 ∈ refs) → SIX X f sd σ ds vs H →
  match m sd with
  | .bad => True
  | .ok d sd' => (∀ v H', SIX X f sd' σ (d :: ds) (v :: vs) H' → Q v H') → t σ H Q
  | .exc x sd' => (∀ cls dx H', SIX X f sd' σ ds vs H' → ExR X.K X.mg x cls dx H' → W cls dx σ H') → t σ H Q
def SimT (t : TT) (m : M Bool) : Prop := ∀ f sd σ ds vs H Q, (∀ p ∈ f.V0, p.1 ∈ refs) → SIX X f sd σ ds vs H →
  match m sd with
  | .bad => True
  | .ok b sd' => (∀ H', SIX X f sd' σ ds vs H' → Q b H') → t σ H Q
  | .exc x sd' => (∀ cls dx H', SIX X f sd' σ ds vs H' → ExR X.K X.mg x cls dx H' → W cls dx σ H') → t σ H Q
def SimA (t : TA) (m : M (List D)) : Prop := ∀ f sd σ ds vs H Q, (∀ p ∈ f.V0, p.1 ∈ refs) → SIX X f sd σ ds vs H →
  match m sd with
  | .bad => True
  | .ok xs sd' => (∀ us H', us.length = xs.length → SIX X f sd' σ (xs ++ ds) (us ++ vs) H' → Q us H') → t σ H Q
  | .exc x sd' => (∀ cls dx H', SIX X f sd' σ ds vs H' → ExR X.K X.mg x cls dx H' → W cls dx σ H') → t σ H Q
def SimG (js : List Nat) (t : TG) (g : Tg) : Prop := ∀ f sd σ d v ds vs H Q, (∀ p ∈ f.V0, p.1 ∈ refs) → SIX X f sd σ (d :: ds) (v :: vs) H →
  match g d sd with
  | none => True
  | some sd' => (∀ σ' H', SIX X f sd' σ' ds vs H' → Away js σ σ' → Q σ' H') → t v σ H Q
def SimS (t : TS) (m : MS) : Prop := ∀ f sd σ ds vs H D, (∀ p ∈ f.V0, p.1 ∈ refs) → SIX X f sd σ ds vs H →
  match m sd with
  | .bad => True
  | .nx sd' => (∀ σ' H', SIX X f sd' σ' ds vs H' → D.nx σ' H') → t D σ H
  | .brk sd' => (∀ σ' H', SIX X f sd' σ' ds vs H' → D.bk σ' H') → t D σ H
  | .ct sd' => (∀ σ' H', SIX X f sd' σ' ds vs H' → D.ct σ' H') → t D σ H
  | .ret d sd' => (∀ v σ' H', SIX X f sd' σ' (d :: ds) (v :: vs) H' → D.rt v H') → t D σ H
  | .exc x sd' => (∀ cls dx σ' H', SIX X f sd' σ' ds vs H' → ExR X.K X.mg x cls dx H' → W cls dx σ' H') → t D σ H
/-- quiet: the state is not touched -/
def SimQ (t : TE) (q : Qt) : Prop := ∀ f sd σ ds vs H Z F G d Q, SIxX X f sd σ ds vs H Z F G → q sd = some d → (∀ v, Rep X.K X.mg Z H d v [] → Q v H) → t σ H Q
/-- borrowed: a part of a slot -/
def SimP (t : TE) (q : Qt) : Prop := ∀ f sd σ ds vs H Z F G d Q, SIxX X f sd σ ds vs H Z F G → q sd = some d → (∀ v Fp, Rep X.K X.mg Z H d v Fp → (∀ a ∈ Fp, a ∈ F) → Q v H) → t σ H Q
end

section
variable (Γ : Gam)
def EO (e : Expr) (m : M D) : Prop := ∀ X W, Ctx Γ X → Takes X W → ∃ t, PE X e t ∧ SimE X Γ.refs W t m
def TO (e : Expr) (m : M Bool) : Prop := ∀ X W, Ctx Γ X → Takes X W → ∃ t, PT X e t ∧ SimT X Γ.refs W t m
def TWO (e : Expr) (m : M Bool) : Prop := ∀ X W, Ctx Γ X → Takes X W → ∃ t, PW X e t ∧ SimT X Γ.refs W t m
def AO (es : List Expr) (m : M (List D)) : Prop := ∀ X W, Ctx Γ X → Takes X W → ∃ t, PA X es t ∧ SimA X Γ.refs W t m
def GO (e : Expr) (g : Tg) (js : List Nat) : Prop := ∀ X W, Ctx Γ X → Takes X W → ∃ t, PG X e t ∧ SimG X Γ.refs js t g
def GsO (es : List Expr) (gs : List Tg) (js : List Nat) : Prop := ∀ X W, Ctx Γ X → Takes X W → ∃ t : TGs, PGs X es t ∧
  ∀ f sd σ xs us ds vs H Q, us.length = xs.length → (∀ p ∈ f.V0, p.1 ∈ Γ.refs) → SIX X f sd σ (xs ++ ds) (us ++ vs) H →
    match tAll gs xs sd with
    | none => True
    | some sd' => (∀ σ' H', SIX X f sd' σ' ds vs H' → Away js σ σ' → Q σ' H') → t us σ H Q
def SO (s : Stmt) (m : MS) : Prop := ∀ X W, Ctx Γ X → Takes X W → ∃ t, PS X s t ∧ SimS X Γ.refs W t m
def BO (s : List Stmt) (m : MS) : Prop := ∀ X W, Ctx Γ X → Takes X W → ∃ t, PSs X s t ∧ SimS X Γ.refs W t m
def QO (e : Expr) (q : Qt) : Prop := ∀ X, Ctx Γ X → ∃ t, PE X e t ∧ SimQ X t q
def PO (e : Expr) (q : Qt) : Prop := ∀ X, Ctx Γ X → ∃ t, PE X e t ∧ SimP X t q
end

/-! ### small facts of SI -/
section
variable {X : Cx} {refs : List Nat} {W : WX} {f : Fr0} {sd : Sl} {σ : L2.St} {ds : List D} {vs : List V} {H : Hp}
theorem SI.pop {d : D} {v : V} (S : SIX X f sd σ (d :: ds) (v :: vs) H) : SIX X f sd σ ds vs H := by
  obtain ⟨Z, F, G, S⟩ := S
  obtain ⟨G', S'⟩ := S.pop
  exact ⟨Z, F, G', S'⟩
theorem SI.freeze {d : D} {v : V} (S : SIX X f sd σ (d :: ds) (v :: vs) H) : SIX X f sd σ (frz d :: ds) (v :: vs) H := by
  obtain ⟨Z, F, G, S⟩ := S
  obtain ⟨Z', G', S', _⟩ := S.freeze
  exact ⟨Z', F, G', S'⟩
theorem SI.len (S : SIX X f sd σ ds vs H) : sd.length = σ.length := by
  obtain ⟨Z, F, G, S⟩ := S
  exact S.slots.length
theorem SI.vlen (S : SIX X f sd σ ds vs H) : ds.length = vs.length := by
  obtain ⟨Z, F, G, S⟩ := S
  exact S.temps.length
theorem SI.pops : ∀ {xs : List D} {us : List V}, us.length = xs.length → SIX X f sd σ (xs ++ ds) (us ++ vs) H → SIX X f sd σ ds vs H
  | [], [], _, S => S
  | x :: xs, u :: us, h, S => SI.pops (by simpa using h) S.pop
  | [], _ :: _, h, _ => by simp at h
  | _ :: _, [], h, _ => by simp at h
/-- x behind xs goes ahead of them -/
theorem SI.rot {x : D} {u : V} {xs : List D} {us : List V} (hl : us.length = xs.length) (S : SIX X f sd σ (xs ++ x :: ds) (us ++ u :: vs) H) : SIX X f sd σ (x :: xs ++ ds) (u :: us ++ vs) H := by
  obtain ⟨Z, F, G, S⟩ := S
  obtain ⟨v1, v2, F1, F2, e1, e2, h1, h2⟩ := S.temps.append_inv
  have l1 : v1.length = us.length := by rw [← h1.length, hl]
  obtain ⟨ea, eb⟩ := List.append_inj e1 l1.symm
  subst ea
  obtain ⟨v, vr, Fa, Fb, e3, e4, h3, h4⟩ := (show ∃ v vr Fa Fb, v2 = v :: vr ∧ F2 = Fa ++ Fb ∧ Rep X.K X.mg Z H x v Fa ∧ Reps X.K X.mg Z H ds vr Fb from h2)
  rw [e3] at eb
  cases eb
  subst e2 e4
  refine ⟨Z, F, Fa ++ (F1 ++ Fb), S.sub (R := []) S.slots ⟨u, us ++ vs, Fa, F1 ++ Fb, rfl, rfl, h3, h1.append h4⟩ ?_ S.pins⟩
  rw [List.nil_append]
  refine List.Perm.append_left F ?_
  rw [← List.append_assoc, ← List.append_assoc]
  exact List.Perm.append_right Fb List.perm_append_comm
/-- all the new temporaries frozen -/
theorem SI.freezes : ∀ {xs : List D} {us : List V}, us.length = xs.length → SIX X f sd σ (xs ++ ds) (us ++ vs) H → SIX X f sd σ (frzs xs ++ ds) (us ++ vs) H := by
  intro xs us h S
  obtain ⟨Z, F, G, S⟩ := S
  obtain ⟨v1, v2, F1, F2, e1, e2, h1, h2⟩ := S.temps.append_inv
  have l1 : v1.length = us.length := by rw [← h1.length, h]
  obtain ⟨ea, eb⟩ := List.append_inj e1 l1.symm
  subst ea eb e2
  have nd := S.nd
  rw [List.nodup_append] at nd
  obtain ⟨n1, n2, n3⟩ := nd
  rw [List.nodup_append] at n2
  obtain ⟨n4, n5, n6⟩ := n2
  have hz : ∀ a, Z a → (Z a ∨ a ∈ F1) := fun a z => .inl z
  have r := h1.frz (Z' := fun a => Z a ∨ a ∈ F1) hz xs fun a ha => .inr ha
  refine ⟨fun a => Z a ∨ a ∈ F1, F, [] ++ F2, ⟨S.slots.keep hz (Ext.refl.keepAt), r.append (h2.keep hz _ Ext.refl.keepAt), ?_, fun a ha => ?_, fun a z => ?_, fun a z => .inl (S.zlow a z), fun a z => ?_, fun a ha => ?_, S.keep, S.pins⟩⟩
  · rw [List.nil_append, List.nodup_append]
    exact ⟨n1, n5, fun a ha b hb => n3 a ha b (List.mem_append_right _ hb)⟩
  · rw [List.nil_append] at ha
    rintro (z | z)
    · refine S.nz a ?_ z
      rcases List.mem_append.mp ha with ha | ha
      · exact List.mem_append_left _ ha
      · exact List.mem_append_right _ (List.mem_append_right _ ha)
    · rcases List.mem_append.mp ha with ha | ha
      · exact n3 a ha a (List.mem_append_left _ z) rfl
      · exact n6 a z a ha rfl
  · rcases z with z | z
    · exact S.zin a z
    · obtain ⟨o, e, _⟩ := Reps.there xs h1 a z
      rw [e]; simp
  · rcases z with z | z
    · exact S.zup a z
    · exact .inr (S.own a (List.mem_append_right _ (List.mem_append_left _ z)))
  · rw [List.nil_append] at ha
    refine S.own a ?_
    rcases List.mem_append.mp ha with ha | ha
    · exact List.mem_append_left _ ha
    · exact List.mem_append_right _ (List.mem_append_right _ ha)
/-- frozen temporaries, read -/
theorem SIx.topF {Z : Addr → Prop} {F G : List Addr} {d : D} {v : V} (S : SIxX X f sd σ (d :: ds) (v :: vs) H Z F G) (hf : isF d = true) : Rep X.K X.mg Z H d v [] ∧ SIxX X f sd σ ds vs H Z F G := by
  obtain ⟨v', vr, F1, F2, e1, e2, h1, h2⟩ := (show ∃ v' vr F1 F2, v :: vs = v' :: vr ∧ G = F1 ++ F2 ∧ Rep X.K X.mg Z H d v' F1 ∧ Reps X.K X.mg Z H ds vr F2 from S.temps)
  cases e1
  have n := h1.isF_nil d hf
  subst n
  rw [List.nil_append] at e2
  subst e2
  exact ⟨h1, S.sub (R := []) S.slots h2 (.refl _) S.pins⟩
theorem SIx.topsF {Z : Addr → Prop} {F G : List Addr} {xs : List D} {us : List V} (hl : us.length = xs.length) (S : SIxX X f sd σ (xs ++ ds) (us ++ vs) H Z F G) (hf : isFs xs = true) : Reps X.K X.mg Z H xs us [] ∧ SIxX X f sd σ ds vs H Z F G := by
  obtain ⟨v1, v2, F1, F2, e1, e2, h1, h2⟩ := S.temps.append_inv
  have l1 : v1.length = us.length := by rw [← h1.length, hl]
  obtain ⟨ea, eb⟩ := List.append_inj e1 l1.symm
  subst ea eb e2
  have n := h1.isF_nil xs hf
  subst n
  exact ⟨h1, S.sub (R := []) S.slots h2 (.refl _) S.pins⟩
end

/-! ### what rules by values give -/
/-- quiet: nothing is made -/
def QR2 (X : Cx) (r : R2) (f : D → D → Option D) : Prop := ∀ Z H d1 d2 d v1 v2 F1 F2, f d1 d2 = some d → Rep X.K X.mg Z H d1 v1 F1 → Rep X.K X.mg Z H d2 v2 F2 → ∃ v, Rep X.K X.mg Z H d v [] ∧ ∀ Q : VK, Q v H → r v1 v2 H Q
/-- something new may be made -/
def New (X : Cx) (Z : Addr → Prop) (H : Hp) (d : D) (v : V) (H' : Hp) : Prop := Ext H H' ∧ ∃ Gn, Rep X.K X.mg Z H' d v Gn ∧ Gn.Nodup ∧ ∀ a ∈ Gn, H a = none
def AR2 (X : Cx) (r : R2) (f : D → D → Option D) : Prop := ∀ Z H d1 d2 d v1 v2, f d1 d2 = some d → Rep X.K X.mg Z H d1 v1 [] → Rep X.K X.mg Z H d2 v2 [] → ∀ Q : VK, (∀ v H', New X Z H d v H' → Q v H') → r v1 v2 H Q
def ARs (X : Cx) (r : List V → Hp → VK → Prop) (f : List D → Option D) : Prop := ∀ Z H ds d vs, f ds = some d → Reps X.K X.mg Z H ds vs [] → ∀ Q : VK, (∀ v H', New X Z H d v H' → Q v H') → r vs H Q
def QRs (X : Cx) (r : List V → Hp → VK → Prop) (f : List D → Option D) : Prop := ∀ Z H ds d vs F, f ds = some d → Reps X.K X.mg Z H ds vs F → ∃ v, Rep X.K X.mg Z H d v [] ∧ ∀ Q : VK, Q v H → r vs H Q
theorem New.of {X : Cx} {Z : Addr → Prop} {H : Hp} {d : D} {v : V} (r : Rep X.K X.mg Z H d v []) : New X Z H d v H := ⟨Ext.refl, [], r, List.nodup_nil, fun _ h => nomatch h⟩
theorem QR2.ar {X : Cx} {r : R2} {f : D → D → Option D} (h : QR2 X r f) : AR2 X r f := fun Z H d1 d2 d v1 v2 e r1 r2 Q q => by
  obtain ⟨v, rv, k⟩ := h Z H d1 d2 d v1 v2 _ _ e r1 r2
  exact k Q (q v H (.of rv))
theorem QRs.ar {X : Cx} {r : List V → Hp → VK → Prop} {f : List D → Option D} (h : QRs X r f) : ARs X r f := fun Z H ds d vs e r1 Q q => by
  obtain ⟨v, rv, k⟩ := h Z H ds d vs _ e r1
  exact k Q (q v H (.of rv))
/-- what is new goes to the temporaries -/
theorem SIx.new {X : Cx} {f : Fr0} {sd : Sl} {σ : L2.St} {ds : List D} {vs : List V} {H H' : Hp} {Z : Addr → Prop} {F G : List Addr} {d : D} {v : V} (S : SIxX X f sd σ ds vs H Z F G) (n : New X Z H d v H') : SIX X f sd σ (d :: ds) (v :: vs) H' := by
  obtain ⟨e, Gn, r, nd, fr⟩ := n
  exact ⟨Z, F, Gn ++ G, (S.ext e).push r nd (fun a ha => (S.fresh (fr a ha)).2.1) (fun a ha => (S.fresh (fr a ha)).1) fun a ha => (S.fresh (fr a ha)).2.2⟩
end FS

/-! Ev: names, constants, operators, tests, displays, calls. -/
namespace FS
open PySem PySem.Spec PyProof.Rows L2
section
variable {Γ : Gam}

/-! ### quiet ones -/
theorem QO.eo {e : Expr} {q : Qt} (h : QO Γ e q) : EO Γ e (mQ q) := fun X W C tk => by
  obtain ⟨t, ht, hs⟩ := h X C
  refine ⟨t, ht, fun f sd σ ds vs H Q hr S => ?_⟩
  obtain ⟨Z, F, G, S⟩ := S
  unfold mQ
  cases e : q sd with
  | none => trivial
  | some d =>
    intro k
    exact hs f sd σ ds vs H Z F G d Q S e fun v r => k v H ⟨Z, F, G, S.push0 r⟩
theorem PO.qo {e : Expr} {p : Qt} (h : PO Γ e p) : QO Γ e (qF p) := fun X C => by
  obtain ⟨t, ht, hs⟩ := h X C
  refine ⟨t, ht, fun f sd σ ds vs H Z F G d Q S e k => ?_⟩
  unfold qF at e
  cases e1 : p sd with
  | none => rw [e1] at e; cases e
  | some d1 =>
    rw [e1] at e
    dsimp only [Option.bind] at e
    split at e
    · rename_i hf
      cases e
      exact hs f sd σ ds vs H Z F G d Q S e1 fun v Fp r _ => by
        have n := r.isF_nil d hf
        subst n
        exact k v r
    · cases e
def VisN (Γ : Gam) (i : Nat) (x : Str) : Prop := Γ.N[i]? = some x ∧ (Vis Γ.sc x) ∧ (x == ("__debug__" : Str)) = false ∧ (x == ("__classdict__" : Str)) = false
theorem PO.var {i : Nat} {x : Str} {p : Pos} (h : VisN Γ i x) : PO Γ (.Name x p) (pVar i) := fun X C => by
  obtain ⟨h1, h2, h3, h4⟩ := h
  refine ⟨tVar i, pe_var (by rw [C.N]; exact h1) (by rw [C.sc]; exact h2) h3 h4, fun f sd σ ds vs H Z F G d Q S e k => ?_⟩
  obtain ⟨v, Fx, e1, r, s⟩ := S.slots.get (i := i) e
  exact ⟨v, e1, k v Fx r s⟩
theorem QO.var {i : Nat} {x : Str} {p : Pos} (h : VisN Γ i x) : QO Γ (.Name x p) (qF (pVar i)) := (PO.var h).qo
theorem EO.var {i : Nat} {x : Str} {p : Pos} (h : VisN Γ i x) : EO Γ (.Name x p) (mVar i) := fun X W C tk => by
  obtain ⟨h1, h2, h3, h4⟩ := h
  refine ⟨tVar i, pe_var (by rw [C.N]; exact h1) (by rw [C.sc]; exact h2) h3 h4, fun f sd σ ds vs H Q hr S => ?_⟩
  obtain ⟨Z, F, G, S⟩ := S
  unfold mVar
  cases e : at? sd i with
  | none => trivial
  | some d =>
    dsimp only
    by_cases hf : isF d = true
    · rw [if_pos hf]
      intro k
      obtain ⟨v, Fx, e1, r, s⟩ := S.slots.get e
      have n := r.isF_nil d hf
      subst n
      exact ⟨v, e1, k v H ⟨Z, F, G, S.push0 r⟩⟩
    · rw [if_neg hf]
      intro k
      obtain ⟨v, Z', F', G', e1, S'⟩ := S.frzAt e
      exact ⟨v, e1, k v H ⟨Z', F', G', S'⟩⟩
theorem QO.int {i : Int} {j : Nat} {p : Pos} : QO Γ (.Constant (.int i) j p) (qC (.int i)) := fun X C => ⟨_, pe_int, fun f sd σ ds vs H Z F G d Q S e k => by cases e; exact k _ ⟨rfl, rfl⟩⟩
theorem QO.bl {i : Bool} {j : Nat} {p : Pos} : QO Γ (.Constant (.bool i) j p) (qC (.bl i)) := fun X C => ⟨_, pe_bl, fun f sd σ ds vs H Z F G d Q S e k => by cases e; exact k _ ⟨rfl, rfl⟩⟩
theorem QO.non {j : Nat} {p : Pos} : QO Γ (.Constant .none j p) (qC .non) := fun X C => ⟨_, pe_non, fun f sd σ ds vs H Z F G d Q S e k => by cases e; exact k _ ⟨rfl, rfl⟩⟩
theorem QO.str {s : Str} {j : Nat} {p : Pos} : QO Γ (.Constant (.str s) j p) (qC (.str s)) := fun X C => ⟨_, pe_str, fun f sd σ ds vs H Z F G d Q S e k => by cases e; exact k _ ⟨rfl, rfl⟩⟩
/-- a name of the module, a built-in name -/
def GlN (Γ : Gam) (x : Str) : Prop := Γ.sc.names.lookup x = some .globalImplicit
theorem GlN.gl {x : Str} (h : GlN Γ x) {X : Cx} (C : Ctx Γ X) : Gl X x := by
  show X.env.scope.names.lookup x = _
  rw [C.sc]; exact h
theorem QO.cn {x : Str} {d : D} {p : Pos} (h : GlN Γ x) (hm : (x, d) ∈ Γ.cns) (hd : (x == ("__debug__" : Str)) = false := by decide) : QO Γ (.Name x p) (qC d) := fun X C => by
  obtain ⟨u, v, e, r, q⟩ := C.cns _ hm
  refine ⟨_, pe_glob (h.gl C) e r hd, fun f sd σ ds vs H Z F G d' Q S e' k => ?_⟩
  cases e'
  exact k v (q Z H)

/-! ### operators -/
def OpQ (op : Operator) (g : D → D → Option D) : Prop := ∀ X : Cx, X.calm = true → X.A.units + 70 < cLine → ∃ r, OpR X (binaryOp op) r ∧ QR2 X r g
def OpA (op : Operator) (g : D → D → Option D) : Prop := ∀ X : Cx, X.calm = true → X.A.units + 70 < cLine → ∃ r, OpR X (binaryOp op) r ∧ AR2 X r g
def CmQ (op : CmpOp) (g : D → D → Option D) : Prop := ∀ X : Cx, X.calm = true → X.A.units + 70 < cLine → ∃ r, OpR X (compareOp op) r ∧ QR2 X r g
theorem OpQ.oa {op : Operator} {g : D → D → Option D} (h : OpQ op g) : OpA op g := fun X c u => by
  obtain ⟨r, h1, h2⟩ := h X c u
  exact ⟨r, h1, h2.ar⟩

theorem QO.po {e : Expr} {q : Qt} (h : QO Γ e q) : PO Γ e q := fun X C => by
  obtain ⟨t, ht, hs⟩ := h X C
  exact ⟨t, ht, fun f sd σ ds vs H Z F G d Q S e k => hs f sd σ ds vs H Z F G d Q S e fun v r => k v [] r fun a ha => nomatch ha⟩
theorem simQ2 {X : Cx} {ta tb : TE} {a b : Qt} {r : R2} {g : D → D → Option D} (ha : SimP X ta a) (hb : SimP X tb b) (h : QR2 X r g) : SimQ X (tOp r ta tb) (q2 g a b) := fun f sd σ ds vs H Z F G d Q S e k => by
  unfold q2 at e
  cases ea : a sd with
  | none => rw [ea] at e; cases e
  | some x =>
    rw [ea] at e
    dsimp only [Option.bind] at e
    cases eb : b sd with
    | none => rw [eb] at e; cases e
    | some y =>
      rw [eb] at e
      dsimp only at e
      refine ha f sd σ ds vs H Z F G x _ S ea fun v Fv rv _ => hb f sd σ ds vs H Z F G y _ S eb fun u Fu ru _ => ?_
      obtain ⟨z, rz, kz⟩ := h Z H x y d v u Fv Fu e rv ru
      exact kz Q (k z rz)
theorem simE2 {X : Cx} {refs : List Nat} {W : WX} {ta tb : TE} {a b : M D} {r : R2} {g : D → D → Option D} (ha : SimE X refs W ta a) (hb : SimE X refs W tb b) (h : AR2 X r g) : SimE X refs W (tOp r ta tb) (m2 g a b) := fun f sd σ ds vs H Q hr S => by
  unfold m2
  have h1 := ha f sd σ ds vs H (fun x H1 => tb σ H1 fun y H2 => r x y H2 Q) hr S
  cases ea : a sd with
  | bad => trivial
  | exc x σ1 =>
    rw [ea] at h1
    exact h1
  | ok x sd1 =>
    rw [ea] at h1
    dsimp only at h1
    rw [Out.then_ok]
    cases eb : b sd1 with
    | bad => trivial
    | exc z sd2 =>
      rw [Out.then_exc]
      intro k
      refine h1 fun v H1 S1 => ?_
      have h2 := hb f sd1 σ (x :: ds) (v :: vs) H1 (fun y H2 => r v y H2 Q) hr S1
      rw [eb] at h2
      exact h2 fun cls dx H' S2 => k cls dx H' S2.pop
    | ok y sd2 =>
      rw [Out.then_ok]
      cases eg : g (frz x) (frz y) with
      | none => trivial
      | some d =>
        rw [ofOpt_some]
        intro k
        refine h1 fun v H1 S1 => ?_
        have h2 := hb f sd1 σ (frz x :: ds) (v :: vs) H1 (fun y H2 => r v y H2 Q) hr S1.freeze
        rw [eb] at h2
        refine h2 fun u H2 S2 => ?_
        obtain ⟨Z, F, G, S3⟩ := S2.freeze
        obtain ⟨ru, S4⟩ := S3.topF (isF_frz y)
        obtain ⟨rv, S5⟩ := S4.topF (isF_frz x)
        exact h Z H2 (frz x) (frz y) d v u eg rv ru Q fun z H3 n => k z H3 (S5.new n)
theorem QO.bin {op : Operator} {g : D → D → Option D} {a b : Expr} {qa qb : Qt} {p : Pos} (ho : OpQ op g) (ha : PO Γ a qa) (hb : PO Γ b qb) : QO Γ (.BinOp a op b p) (q2 g qa qb) := fun X C => by
  obtain ⟨r, h1, h2⟩ := ho X C.calm C.un
  obtain ⟨ta, p1, s1⟩ := ha X C
  obtain ⟨tb, p2, s2⟩ := hb X C
  exact ⟨_, pe_op h1 p1 p2, simQ2 s1 s2 h2⟩
theorem EO.bin {op : Operator} {g : D → D → Option D} {a b : Expr} {ma mb : M D} {p : Pos} (ho : OpA op g) (ha : EO Γ a ma) (hb : EO Γ b mb) : EO Γ (.BinOp a op b p) (m2 g ma mb) := fun X W C tk => by
  obtain ⟨r, h1, h2⟩ := ho X C.calm C.un
  obtain ⟨ta, p1, s1⟩ := ha X W C tk
  obtain ⟨tb, p2, s2⟩ := hb X W C tk
  exact ⟨_, pe_op h1 p1 p2, simE2 s1 s2 h2⟩
theorem QO.cmp {op : CmpOp} {g : D → D → Option D} {a b : Expr} {qa qb : Qt} {p : Pos} (ho : CmQ op g) (ha : PO Γ a qa) (hb : PO Γ b qb) (hm : behindInMarks op b = false) : QO Γ (.Compare a [op] [b] p) (q2 g qa qb) := fun X C => by
  obtain ⟨r, h1, h2⟩ := ho X C.calm C.un
  obtain ⟨ta, p1, s1⟩ := ha X C
  obtain ⟨tb, p2, s2⟩ := hb X C
  exact ⟨_, pe_cmpR h1 p1 p2 hm, simQ2 s1 s2 h2⟩
theorem EO.cmp {op : CmpOp} {g : D → D → Option D} {a b : Expr} {ma mb : M D} {p : Pos} (ho : CmQ op g) (ha : EO Γ a ma) (hb : EO Γ b mb) (hm : behindInMarks op b = false) : EO Γ (.Compare a [op] [b] p) (m2 g ma mb) := fun X W C tk => by
  obtain ⟨r, h1, h2⟩ := ho X C.calm C.un
  obtain ⟨ta, p1, s1⟩ := ha X W C tk
  obtain ⟨tb, p2, s2⟩ := hb X W C tk
  exact ⟨_, pe_cmpR h1 p1 p2 hm, simE2 s1 s2 h2.ar⟩
/-- a test from a reading whose value is a bool -/
theorem simTest {X : Cx} {refs : List Nat} {W : WX} {t : TE} {m : M D} (h : SimE X refs W t m) : SimT X refs W (tTest t) (mT m) := fun f sd σ ds vs H Q hr S => by
  unfold mT
  have h1 := h f sd σ ds vs H (fun x H' => ∃ k, x = .bl k ∧ Q k H') hr S
  cases e : m sd with
  | bad => trivial
  | exc x sd1 => rw [e] at h1; exact h1
  | ok d sd1 =>
    rw [e] at h1
    rw [Out.then_ok]
    cases d with
    | bl b =>
      rw [bool?_bl, ofOpt_some]
      intro k
      refine h1 fun v H' S' => ?_
      obtain ⟨Z, F, G, S'⟩ := S'
      obtain ⟨r, S2⟩ := S'.topF rfl
      exact ⟨b, r.1, k H' ⟨Z, F, G, S2⟩⟩
    | _ => trivial
theorem TO.cmp {op : CmpOp} {g : D → D → Option D} {a b : Expr} {ma mb : M D} {p : Pos} (ho : CmQ op g) (ha : EO Γ a ma) (hb : EO Γ b mb) (hm : behindInMarks op b = false) : TO Γ (.Compare a [op] [b] p) (mT (m2 g ma mb)) := fun X W C tk => by
  obtain ⟨r, h1, h2⟩ := ho X C.calm C.un
  obtain ⟨ta, p1, s1⟩ := ha X W C tk
  obtain ⟨tb, p2, s2⟩ := hb X W C tk
  exact ⟨_, pt_cmpR h1 p1 p2 hm, simTest (simE2 s1 s2 h2.ar)⟩
theorem simChain {X : Cx} {refs : List Nat} {W : WX} {ta tb tc : TE} {a b c : M D} {r r' : R2} {g g' : D → D → Option D} (ha : SimE X refs W ta a) (hb : SimE X refs W tb b) (hc : SimE X refs W tc c) (h : QR2 X r g) (h' : QR2 X r' g') :
    SimE X refs W (tChain r r' ta tb tc) (mChain g g' a b c) := fun f sd σ ds vs H Q hr S => by
  unfold mChain
  have h1 := ha f sd σ ds vs H (fun x H1 => tb σ H1 fun y H2 => r x y H2 fun z H3 => ∃ k, z = .bl k ∧ (if k = true then tc σ H3 fun w' H4 => r' y w' H4 Q else Q (.bl false) H3)) hr S
  cases ea : a sd with
  | bad => trivial
  | exc x σ1 => rw [ea] at h1; exact h1
  | ok x sd1 =>
    rw [ea] at h1
    dsimp only at h1
    rw [Out.then_ok]
    cases eb : b sd1 with
    | bad => trivial
    | exc z sd2 =>
      rw [Out.then_exc]
      intro k
      refine h1 fun v H1 S1 => ?_
      have h2 := hb f sd1 σ (x :: ds) (v :: vs) H1 (fun y H2 => r v y H2 fun z H3 => ∃ k, z = .bl k ∧ (if k = true then tc σ H3 fun w' H4 => r' y w' H4 Q else Q (.bl false) H3)) hr S1
      rw [eb] at h2
      exact h2 fun cls dx H' S2 => k cls dx H' S2.pop
    | ok y sd2 =>
      rw [Out.then_ok]
      cases eg : g (frz x) (frz y) with
      | none => trivial
      | some d =>
        cases d with
        | bl kk =>
          cases kk with
          | false =>
            dsimp only
            intro k
            refine h1 fun v H1 S1 => ?_
            have h2 := hb f sd1 σ (frz x :: ds) (v :: vs) H1 (fun y H2 => r v y H2 fun z H3 => ∃ k, z = .bl k ∧ (if k = true then tc σ H3 fun w' H4 => r' y w' H4 Q else Q (.bl false) H3)) hr S1.freeze
            rw [eb] at h2
            refine h2 fun u H2 S2 => ?_
            obtain ⟨Z, F, G, S3⟩ := S2.freeze
            obtain ⟨ru, S4⟩ := S3.topF (isF_frz y)
            obtain ⟨rv, S5⟩ := S4.topF (isF_frz x)
            obtain ⟨z, rz, kz⟩ := h Z H2 (frz x) (frz y) _ v u _ _ eg rv ru
            refine kz _ ⟨false, rz.1, ?_⟩
            rw [if_neg Bool.false_ne_true]
            exact k _ H2 ⟨Z, F, G, S5.push0 ⟨rfl, rfl⟩⟩
          | true =>
            dsimp only
            cases ec : c sd2 with
            | bad => trivial
            | exc z sd3 =>
              rw [Out.then_exc]
              intro k
              refine h1 fun v H1 S1 => ?_
              have h2 := hb f sd1 σ (frz x :: ds) (v :: vs) H1 (fun y H2 => r v y H2 fun z H3 => ∃ k, z = .bl k ∧ (if k = true then tc σ H3 fun w' H4 => r' y w' H4 Q else Q (.bl false) H3)) hr S1.freeze
              rw [eb] at h2
              refine h2 fun u H2 S2 => ?_
              obtain ⟨Z, F, G, S3⟩ := S2.freeze
              obtain ⟨ru, S4⟩ := S3.topF (isF_frz y)
              obtain ⟨rv, S5⟩ := S4.topF (isF_frz x)
              obtain ⟨zz, rz, kz⟩ := h Z H2 (frz x) (frz y) _ v u _ _ eg rv ru
              refine kz _ ⟨true, rz.1, ?_⟩
              rw [if_pos rfl]
              have h3 := hc f sd2 σ ds vs H2 (fun w' H4 => r' u w' H4 Q) hr ⟨Z, F, G, S5⟩
              rw [ec] at h3
              exact h3 k
            | ok w sd3 =>
              rw [Out.then_ok]
              cases eg' : g' (frz y) (frz w) with
              | none => trivial
              | some d' =>
                rw [ofOpt_some]
                intro k
                refine h1 fun v H1 S1 => ?_
                have h2 := hb f sd1 σ (frz x :: ds) (v :: vs) H1 (fun y H2 => r v y H2 fun z H3 => ∃ k, z = .bl k ∧ (if k = true then tc σ H3 fun w' H4 => r' y w' H4 Q else Q (.bl false) H3)) hr S1.freeze
                rw [eb] at h2
                refine h2 fun u H2 S2 => ?_
                obtain ⟨Z, F, G, S3⟩ := S2.freeze
                obtain ⟨ru, S4⟩ := S3.topF (isF_frz y)
                obtain ⟨rv, S5⟩ := S4.topF (isF_frz x)
                obtain ⟨zz, rz, kz⟩ := h Z H2 (frz x) (frz y) _ v u _ _ eg rv ru
                refine kz _ ⟨true, rz.1, ?_⟩
                rw [if_pos rfl]
                have h3 := hc f sd2 σ (frz y :: ds) (u :: vs) H2 (fun w' H4 => r' u w' H4 Q) hr ⟨Z, F, G, S5.push0 ru⟩
                rw [ec] at h3
                refine h3 fun w' H4 S6 => ?_
                obtain ⟨Z', F', G', S7⟩ := S6.freeze
                obtain ⟨rw', S8⟩ := S7.topF (isF_frz w)
                obtain ⟨ru', S9⟩ := S8.topF (isF_frz y)
                obtain ⟨z2, rz2, kz2⟩ := h' Z' H4 (frz y) (frz w) d' u w' _ _ eg' ru' rw'
                exact kz2 Q (k z2 H4 ⟨Z', F', G', S9.push0 rz2⟩)
        | _ => trivial
theorem EO.chain {op op' : CmpOp} {g g' : D → D → Option D} {a b c : Expr} {ma mb mc : M D} {p : Pos} (ho : CmQ op g) (ho' : CmQ op' g') (ha : EO Γ a ma) (hb : EO Γ b mb) (hc : EO Γ c mc) (hm : lastMarks [op, op'] [b, c] = false) :
    EO Γ (.Compare a [op, op'] [b, c] p) (mChain g g' ma mb mc) := fun X W C tk => by
  obtain ⟨r, h1, h2⟩ := ho X C.calm C.un
  obtain ⟨r', h1', h2'⟩ := ho' X C.calm C.un
  obtain ⟨ta, p1, s1⟩ := ha X W C tk
  obtain ⟨tb, p2, s2⟩ := hb X W C tk
  obtain ⟨tc, p3, s3⟩ := hc X W C tk
  exact ⟨_, pe_chain h1 h1' p1 p2 p3 hm, simChain s1 s2 s3 h2 h2'⟩
theorem TO.chain {op op' : CmpOp} {g g' : D → D → Option D} {a b c : Expr} {ma mb mc : M D} {p : Pos} (ho : CmQ op g) (ho' : CmQ op' g') (ha : EO Γ a ma) (hb : EO Γ b mb) (hc : EO Γ c mc) (hm : lastMarks [op, op'] [b, c] = false) :
    TO Γ (.Compare a [op, op'] [b, c] p) (mT (mChain g g' ma mb mc)) := fun X W C tk => by
  obtain ⟨r, h1, h2⟩ := ho X C.calm C.un
  obtain ⟨r', h1', h2'⟩ := ho' X C.calm C.un
  obtain ⟨ta, p1, s1⟩ := ha X W C tk
  obtain ⟨tb, p2, s2⟩ := hb X W C tk
  obtain ⟨tc, p3, s3⟩ := hc X W C tk
  exact ⟨_, pt_chain h1 h1' p1 p2 p3 hm, simTest (simChain s1 s2 s3 h2 h2')⟩

/-! ### tests -/
theorem TO.not {a : Expr} {m : M Bool} {p : Pos} (h : TO Γ a m) : TO Γ (.UnaryOp .Not a p) (tNot' m) := fun X W C tk => by
  obtain ⟨t, p1, s1⟩ := h X W C tk
  refine ⟨_, pt_not p1, fun f sd σ ds vs H Q hr S => ?_⟩
  unfold tNot'
  have h1 := s1 f sd σ ds vs H (fun c H1 => Q (!c) H1) hr S
  cases e : m sd with
  | bad => trivial
  | exc x sd1 => rw [e] at h1; exact h1
  | ok b sd1 => rw [e] at h1; exact h1
theorem TWO.to {a : Expr} {m : M Bool} (h : TWO Γ a m) : TO Γ a m := fun X W C tk => by
  obtain ⟨t, p1, s1⟩ := h X W C tk
  exact ⟨t, p1.pt, s1⟩
theorem TWO.and1 {a : Expr} {m : M Bool} {p : Pos} (h : TO Γ a m) : TWO Γ (.BoolOp .And [a] p) m := fun X W C tk => by
  obtain ⟨t, p1, s1⟩ := h X W C tk
  exact ⟨t, pw_and1 p1, s1⟩
theorem TWO.or1 {a : Expr} {m : M Bool} {p : Pos} (h : TO Γ a m) : TWO Γ (.BoolOp .Or [a] p) m := fun X W C tk => by
  obtain ⟨t, p1, s1⟩ := h X W C tk
  exact ⟨t, pw_or1 p1, s1⟩
theorem TWO.and {a b : Expr} {rest : List Expr} {m n : M Bool} {p : Pos} (h : TO Γ a m) (g : TWO Γ (.BoolOp .And (b :: rest) p) n) : TWO Γ (.BoolOp .And (a :: b :: rest) p) (tAnd' m n) := fun X W C tk => by
  obtain ⟨t, p1, s1⟩ := h X W C tk
  obtain ⟨u, p2, s2⟩ := g X W C tk
  refine ⟨_, pw_and p1 p2, fun f sd σ ds vs H Q hr S => ?_⟩
  unfold tAnd'
  have h1 := s1 f sd σ ds vs H (fun c H1 => if c = true then u σ H1 Q else Q false H1) hr S
  cases e : m sd with
  | bad => trivial
  | exc x sd1 => rw [e] at h1; exact h1
  | ok b sd1 =>
    rw [e] at h1
    rw [Out.then_ok]
    cases b with
    | false =>
      rw [if_neg Bool.false_ne_true]
      intro k
      refine h1 fun H' S' => ?_
      rw [if_neg Bool.false_ne_true]
      exact k H' S'
    | true =>
      rw [if_pos rfl]
      cases e2 : n sd1 with
      | bad => trivial
      | exc x sd2 =>
        intro k
        refine h1 fun H' S' => ?_
        rw [if_pos rfl]
        have h2 := s2 f sd1 σ ds vs H' Q hr S'
        rw [e2] at h2
        exact h2 k
      | ok b sd2 =>
        intro k
        refine h1 fun H' S' => ?_
        rw [if_pos rfl]
        have h2 := s2 f sd1 σ ds vs H' Q hr S'
        rw [e2] at h2
        exact h2 k
theorem TWO.or {a b : Expr} {rest : List Expr} {m n : M Bool} {p : Pos} (h : TO Γ a m) (g : TWO Γ (.BoolOp .Or (b :: rest) p) n) : TWO Γ (.BoolOp .Or (a :: b :: rest) p) (tOr' m n) := fun X W C tk => by
  obtain ⟨t, p1, s1⟩ := h X W C tk
  obtain ⟨u, p2, s2⟩ := g X W C tk
  refine ⟨_, pw_or p1 p2, fun f sd σ ds vs H Q hr S => ?_⟩
  unfold tOr'
  have h1 := s1 f sd σ ds vs H (fun c H1 => if c = true then Q true H1 else u σ H1 Q) hr S
  cases e : m sd with
  | bad => trivial
  | exc x sd1 => rw [e] at h1; exact h1
  | ok b sd1 =>
    rw [e] at h1
    rw [Out.then_ok]
    cases b with
    | true =>
      rw [if_pos rfl]
      intro k
      refine h1 fun H' S' => ?_
      rw [if_pos rfl]
      exact k H' S'
    | false =>
      rw [if_neg Bool.false_ne_true]
      cases e2 : n sd1 with
      | bad => trivial
      | exc x sd2 =>
        intro k
        refine h1 fun H' S' => ?_
        rw [if_neg Bool.false_ne_true]
        have h2 := s2 f sd1 σ ds vs H' Q hr S'
        rw [e2] at h2
        exact h2 k
      | ok b sd2 =>
        intro k
        refine h1 fun H' S' => ?_
        rw [if_neg Bool.false_ne_true]
        have h2 := s2 f sd1 σ ds vs H' Q hr S'
        rw [e2] at h2
        exact h2 k
/-- an expression whose value is a bool, as a test (a call, a name, a field) -/
theorem TO.val {e : Expr} {m : M D} (h : EO Γ e m) (he : ∀ env whole, isTrue e env whole = (do let v ← whole; standAt e.pos; holding [v] (truthy v))) : TO Γ e (mT m) := fun X W C tk => by
  obtain ⟨t, p1, s1⟩ := h X W C tk
  refine ⟨_, pt_val p1 (he _), ?_⟩
  exact simTest s1

/-! ### bools as values, conditional expressions -/
theorem EO.ite {c a b : Expr} {mc : M Bool} {ma mb : M D} {p : Pos} (hc : TO Γ c mc) (ha : EO Γ a ma) (hb : EO Γ b mb) : EO Γ (.IfExp c a b p) (mIf mc ma mb) := fun X W C tk => by
  obtain ⟨t, p1, s1⟩ := hc X W C tk
  obtain ⟨u, p2, s2⟩ := ha X W C tk
  obtain ⟨w, p3, s3⟩ := hb X W C tk
  refine ⟨_, pe_ifExp p1 p2 p3, fun f sd σ ds vs H Q hr S => ?_⟩
  unfold mIf
  have h1 := s1 f sd σ ds vs H (fun c H1 => if c = true then u σ H1 Q else w σ H1 Q) hr S
  cases e : mc sd with
  | bad => trivial
  | exc x sd1 => rw [e] at h1; exact h1
  | ok b sd1 =>
    rw [e] at h1
    rw [Out.then_ok]
    cases b with
    | true =>
      rw [if_pos rfl]
      cases e2 : ma sd1 with
      | bad => trivial
      | exc x sd2 =>
        intro k
        refine h1 fun H' S' => ?_
        rw [if_pos rfl]
        have h2 := s2 f sd1 σ ds vs H' Q hr S'
        rw [e2] at h2
        exact h2 k
      | ok b sd2 =>
        intro k
        refine h1 fun H' S' => ?_
        rw [if_pos rfl]
        have h2 := s2 f sd1 σ ds vs H' Q hr S'
        rw [e2] at h2
        exact h2 k
    | false =>
      rw [if_neg Bool.false_ne_true]
      cases e2 : mb sd1 with
      | bad => trivial
      | exc x sd2 =>
        intro k
        refine h1 fun H' S' => ?_
        rw [if_neg Bool.false_ne_true]
        have h2 := s3 f sd1 σ ds vs H' Q hr S'
        rw [e2] at h2
        exact h2 k
      | ok b sd2 =>
        intro k
        refine h1 fun H' S' => ?_
        rw [if_neg Bool.false_ne_true]
        have h2 := s3 f sd1 σ ds vs H' Q hr S'
        rw [e2] at h2
        exact h2 k
theorem EO.one {op : BoolOp} {a : Expr} {m : M D} {p : Pos} (h : EO Γ a m) : EO Γ (.BoolOp op [a] p) m := fun X W C tk => by
  obtain ⟨t, p1, s1⟩ := h X W C tk
  exact ⟨t, pe_one p1, s1⟩
/-- the common part of and, or, not as values -/
theorem simB {X : Cx} {refs : List Nat} {W : WX} {t : TE} {m : M D} (s1 : SimE X refs W t m) {f : Fr0} {sd : Sl} {σ : L2.St} {ds : List D} {vs : List V} {H : Hp} {R : Bool → Hp → Prop} (hr : ∀ p ∈ f.V0, p.1 ∈ refs) (S : SIX X f sd σ ds vs H) :
    match mT m sd with
    | .bad => True
    | .ok b sd' => (∀ H', SIX X f sd' σ ds vs H' → R b H') → t σ H (fun x H1 => ∃ c, x = .bl c ∧ R c H1)
    | .exc x sd' => (∀ cls dx H', SIX X f sd' σ ds vs H' → ExR X.K X.mg x cls dx H' → W cls dx σ H') → t σ H (fun x H1 => ∃ c, x = .bl c ∧ R c H1) := simTest s1 f sd σ ds vs H R hr S
theorem EO.and {a b : Expr} {rest : List Expr} {m n : M D} {p : Pos} (h : EO Γ a m) (g : EO Γ (.BoolOp .And (b :: rest) p) n) : EO Γ (.BoolOp .And (a :: b :: rest) p) (mAndV m n) := fun X W C tk => by
  obtain ⟨t, p1, s1⟩ := h X W C tk
  obtain ⟨u, p2, s2⟩ := g X W C tk
  refine ⟨_, pe_and p1 p2, fun f sd σ ds vs H Q hr S => ?_⟩
  unfold mAndV
  have h1 := simB s1 (R := fun c H1 => if c = true then u σ H1 Q else Q (.bl false) H1) hr S
  cases e : mT m sd with
  | bad => trivial
  | exc x sd1 => rw [e] at h1; exact h1
  | ok b sd1 =>
    rw [e] at h1
    rw [Out.then_ok]
    cases b with
    | false =>
      rw [if_neg Bool.false_ne_true]
      intro k
      refine h1 fun H' S' => ?_
      rw [if_neg Bool.false_ne_true]
      obtain ⟨Z, F, G, S'⟩ := S'
      exact k _ H' ⟨Z, F, G, S'.push0 ⟨rfl, rfl⟩⟩
    | true =>
      rw [if_pos rfl]
      cases e2 : n sd1 with
      | bad => trivial
      | exc x sd2 =>
        intro k
        refine h1 fun H' S' => ?_
        rw [if_pos rfl]
        have h2 := s2 f sd1 σ ds vs H' Q hr S'
        rw [e2] at h2
        exact h2 k
      | ok b sd2 =>
        intro k
        refine h1 fun H' S' => ?_
        rw [if_pos rfl]
        have h2 := s2 f sd1 σ ds vs H' Q hr S'
        rw [e2] at h2
        exact h2 k
theorem EO.or {a b : Expr} {rest : List Expr} {m n : M D} {p : Pos} (h : EO Γ a m) (g : EO Γ (.BoolOp .Or (b :: rest) p) n) : EO Γ (.BoolOp .Or (a :: b :: rest) p) (mOrV m n) := fun X W C tk => by
  obtain ⟨t, p1, s1⟩ := h X W C tk
  obtain ⟨u, p2, s2⟩ := g X W C tk
  refine ⟨_, pe_or p1 p2, fun f sd σ ds vs H Q hr S => ?_⟩
  unfold mOrV
  have h1 := simB s1 (R := fun c H1 => if c = true then Q (.bl true) H1 else u σ H1 Q) hr S
  cases e : mT m sd with
  | bad => trivial
  | exc x sd1 => rw [e] at h1; exact h1
  | ok b sd1 =>
    rw [e] at h1
    rw [Out.then_ok]
    cases b with
    | true =>
      rw [if_pos rfl]
      intro k
      refine h1 fun H' S' => ?_
      rw [if_pos rfl]
      obtain ⟨Z, F, G, S'⟩ := S'
      exact k _ H' ⟨Z, F, G, S'.push0 ⟨rfl, rfl⟩⟩
    | false =>
      rw [if_neg Bool.false_ne_true]
      cases e2 : n sd1 with
      | bad => trivial
      | exc x sd2 =>
        intro k
        refine h1 fun H' S' => ?_
        rw [if_neg Bool.false_ne_true]
        have h2 := s2 f sd1 σ ds vs H' Q hr S'
        rw [e2] at h2
        exact h2 k
      | ok b sd2 =>
        intro k
        refine h1 fun H' S' => ?_
        rw [if_neg Bool.false_ne_true]
        have h2 := s2 f sd1 σ ds vs H' Q hr S'
        rw [e2] at h2
        exact h2 k
theorem EO.not {a : Expr} {m : M D} {p : Pos} (h : EO Γ a m) : EO Γ (.UnaryOp .Not a p) (mNotV m) := fun X W C tk => by
  obtain ⟨t, p1, s1⟩ := h X W C tk
  refine ⟨_, pe_not p1, fun f sd σ ds vs H Q hr S => ?_⟩
  unfold mNotV
  have h1 := simB s1 (R := fun c H1 => Q (.bl (!c)) H1) hr S
  cases e : mT m sd with
  | bad => trivial
  | exc x sd1 => rw [e] at h1; exact h1
  | ok b sd1 =>
    rw [e] at h1
    rw [Out.then_ok]
    intro k
    refine h1 fun H' S' => ?_
    obtain ⟨Z, F, G, S'⟩ := S'
    exact k _ H' ⟨Z, F, G, S'.push0 ⟨rfl, rfl⟩⟩

/-! ### argument lists, displays -/
theorem AO.nil : AO Γ [] (mAll []) := fun X W C tk => ⟨_, pa_nil, fun f sd σ ds vs H Q hr S k => k [] H rfl S⟩
theorem AO.cons {e : Expr} {es : List Expr} {m : M D} {ms : List (M D)} (h : EO Γ e m) (g : AO Γ es (mAll ms)) (hs : ∀ env, starEach (e :: es) env = (false, eval e env) :: starEach es env := by intro _; rfl) : AO Γ (e :: es) (mAll (m :: ms)) := fun X W C tk => by
  obtain ⟨t, p1, s1⟩ := h X W C tk
  obtain ⟨u, p2, s2⟩ := g X W C tk
  refine ⟨_, pa_cons p1 p2 (hs _), fun f sd σ ds vs H Q hr S => ?_⟩
  unfold mAll
  have h1 := s1 f sd σ ds vs H (fun x H1 => u σ H1 fun xs H2 => Q (x :: xs) H2) hr S
  cases e : m sd with
  | bad => trivial
  | exc x sd1 => rw [e] at h1; exact h1
  | ok d sd1 =>
    rw [e] at h1
    rw [Out.then_ok]
    cases e2 : mAll ms sd1 with
    | bad => trivial
    | exc x sd2 =>
      rw [Out.then_exc]
      intro k
      refine h1 fun v H1 S1 => ?_
      have h2 := s2 f sd1 σ (d :: ds) (v :: vs) H1 (fun xs H2 => Q (v :: xs) H2) hr S1
      rw [e2] at h2
      exact h2 fun cls dx H' S' => k cls dx H' S'.pop
    | ok xs sd2 =>
      rw [Out.then_ok]
      intro k
      refine h1 fun v H1 S1 => ?_
      have h2 := s2 f sd1 σ (d :: ds) (v :: vs) H1 (fun xs H2 => Q (v :: xs) H2) hr S1
      rw [e2] at h2
      exact h2 fun us H2 l S2 => k (v :: us) H2 (by simp [l]) (S2.rot l)
theorem EO.tup {es : List Expr} {k : Nat} {p : Pos} {m : M (List D)} (h : AO Γ es m) : EO Γ (.Tuple es k p) (mTup m) := fun X W C tk => by
  obtain ⟨t, p1, s1⟩ := h X W C tk
  refine ⟨_, pe_tup p1, fun f sd σ ds vs H Q hr S => ?_⟩
  unfold mTup
  have h1 := s1 f sd σ ds vs H (fun xs H1 => xs.length ≤ sizeLine ∧ ∀ p, H1 p = none → Q (.ref p) (upd H1 p (.tup xs))) hr S
  cases e : m sd with
  | bad => trivial
  | exc x sd1 => rw [e] at h1; exact h1
  | ok xs sd1 =>
    rw [e] at h1
    rw [Out.then_ok]
    by_cases hl : xs.length ≤ sz
    · rw [if_pos hl]
      intro k
      refine h1 fun us H1 l S1 => ⟨by rw [l, sizeLine_eq]; exact hl, fun p hp => k _ _ ?_⟩
      obtain ⟨Z, F, G, S1⟩ := S1
      have S2 := S1.ext (Ext.upd (o := .tup us) hp)
      obtain ⟨v1, v2, F1, F2, e1, e2, h3, h4⟩ := S2.temps.append_inv
      have l1 : v1.length = us.length := by rw [← h3.length, l]
      obtain ⟨ea, eb⟩ := List.append_inj e1 l1.symm
      subst ea eb e2
      exact ⟨Z, F, F1 ++ F2, S2.sub (R := []) S2.slots ⟨.ref p, vs, F1, F2, rfl, rfl, ⟨p, us, rfl, .inl (.inl upd_same), h3⟩, h4⟩ (.refl _) S2.pins⟩
    · rw [if_neg hl]
      trivial
theorem EO.lst {es : List Expr} {p : Pos} {m : M (List D)} (h : AO Γ es m) : EO Γ (.List es p) (mLst m) := fun X W C tk => by
  obtain ⟨t, p1, s1⟩ := h X W C tk
  refine ⟨_, pe_lst p1, fun f sd σ ds vs H Q hr S => ?_⟩
  unfold mLst
  have h1 := s1 f sd σ ds vs H (fun xs H1 => xs.length ≤ sizeLine ∧ ∀ p, H1 p = none → Q (.ref p) (upd H1 p (.lst xs))) hr S
  cases e : m sd with
  | bad => trivial
  | exc x sd1 => rw [e] at h1; exact h1
  | ok xs sd1 =>
    rw [e] at h1
    rw [Out.then_ok]
    by_cases hl : xs.length ≤ sz
    · rw [if_pos hl]
      intro k
      refine h1 fun us H1 l S1 => ⟨by rw [l, sizeLine_eq]; exact hl, fun p hp => k _ _ ?_⟩
      obtain ⟨Z, F, G, S1⟩ := S1
      obtain ⟨fz, ff, fo⟩ := S1.fresh hp
      have S2 := S1.ext (Ext.upd (o := .lst us) hp)
      obtain ⟨v1, v2, F1, F2, e1, e2, h3, h4⟩ := S2.temps.append_inv
      have l1 : v1.length = us.length := by rw [← h3.length, l]
      obtain ⟨ea, eb⟩ := List.append_inj e1 l1.symm
      subst ea eb e2
      refine ⟨Z, F, (p :: F1) ++ F2, ⟨S2.slots, ⟨.ref p, vs, p :: F1, F2, rfl, rfl, ⟨p, us, F1, rfl, h3, .inl ⟨rfl, upd_same, rfl⟩⟩, h4⟩, ?_, fun a ha => ?_, S2.zin, S2.zlow, S2.zup, fun a ha => ?_, S2.keep, S2.pins⟩⟩
      · have nd := S2.nd
        refine (List.Perm.nodup_iff (l₂ := p :: (F ++ (F1 ++ F2))) ?_).mpr (List.nodup_cons.mpr ⟨ff, nd⟩)
        show (F ++ (p :: (F1 ++ F2))).Perm _
        exact List.perm_middle
      · have : a = p ∨ a ∈ F ++ (F1 ++ F2) := by
          rcases List.mem_append.mp ha with ha | ha
          · exact .inr (List.mem_append_left _ ha)
          · rcases List.mem_cons.mp (show a ∈ p :: (F1 ++ F2) from ha) with ha | ha
            · exact .inl ha
            · exact .inr (List.mem_append_right _ ha)
        rcases this with rfl | ha
        · exact fz
        · exact S2.nz a ha
      · have : a = p ∨ a ∈ F ++ (F1 ++ F2) := by
          rcases List.mem_append.mp ha with ha | ha
          · exact .inr (List.mem_append_left _ ha)
          · rcases List.mem_cons.mp (show a ∈ p :: (F1 ++ F2) from ha) with ha | ha
            · exact .inl ha
            · exact .inr (List.mem_append_right _ ha)
        rcases this with rfl | ha
        · exact fo
        · exact S2.own a ha
    · rw [if_neg hl]
      trivial
end
end FS

/-! Call: a def's call by its contract. -/
namespace FS
open PySem PySem.Spec PyProof.Rows L2

def posOf : Nat → List Arg → List Nat
  | _, [] => []
  | k, .ref _ :: as => k :: posOf (k + 1) as
  | k, .val _ :: as => posOf (k + 1) as
def pickA : List Arg → List V → List V
  | .ref _ :: as, u :: us => u :: pickA as us
  | .val _ :: as, _ :: us => pickA as us
  | _, _ => []
def Lent (σ : L2.St) : List Arg → List V → Prop
  | .ref i :: as, u :: us => σ[i]? = some (some u) ∧ Lent σ as us
  | .val _ :: as, _ :: us => Lent σ as us
  | [], [] => True
  | _, _ => False
theorem pick_pos : ∀ (as : List Arg) (pre us : List V), us.length = as.length → pick (posOf pre.length as) (pre ++ us) = pickA as us
  | [], pre, [], _ => rfl
  | .ref i :: as, pre, u :: us, h => by
    have ih := pick_pos as (pre ++ [u]) us (by simpa using h)
    rw [List.length_append, List.length_singleton, List.append_assoc, List.singleton_append] at ih
    show pick (pre.length :: posOf (pre.length + 1) as) (pre ++ u :: us) = u :: pickA as us
    unfold pick at ih ⊢
    rw [List.filterMap_cons]
    have e : (pre ++ u :: us)[pre.length]? = some u := by simp
    rw [e, ih]
  | .val m :: as, pre, u :: us, h => by
    have ih := pick_pos as (pre ++ [u]) us (by simpa using h)
    rw [List.length_append, List.length_singleton, List.append_assoc, List.singleton_append] at ih
    show pick (posOf (pre.length + 1) as) (pre ++ u :: us) = pickA as us
    exact ih
  | [], _, _ :: _, h => by simp at h
  | _ :: _, _, [], h => by simp at h
theorem Lent.len {σ : L2.St} : ∀ {as : List Arg} {us : List V}, Lent σ as us → us.length = as.length
  | [], [], _ => rfl
  | .ref i :: as, u :: us, h => by
    have := Lent.len (as := as) (us := us) h.2
    simp [this]
  | .val m :: as, u :: us, h => by
    have := Lent.len (as := as) (us := us) h
    simp [this]
  | [], _ :: _, h => h.elim
  | .ref _ :: _, [], h => h.elim
  | .val _ :: _, [], h => h.elim
theorem pickA_len {σ : L2.St} : ∀ {as : List Arg} {us : List V}, Lent σ as us → (pickA as us).length = (lent as).length
  | [], [], _ => rfl
  | .ref i :: as, u :: us, h => by
    have := pickA_len (as := as) (us := us) h.2
    simp [pickA, lent, this]
  | .val m :: as, u :: us, h => pickA_len (as := as) (us := us) h
  | [], _ :: _, h => h.elim
  | .ref _ :: _, [], h => h.elim
  | .val _ :: _, [], h => h.elim

section
variable {Γ : Gam}
def ArgsO (Γ : Gam) (es : List Expr) (as : List Arg) : Prop := ∀ X W, Ctx Γ X → Takes X W → ∃ t : TA, PA X es t ∧
  ∀ f sd σ ds vs H Q, (∀ p ∈ f.V0, p.1 ∈ Γ.refs) → SIX X f sd σ ds vs H →
  match mArgs as sd with
  | .bad => True
  | .ok xs sd' => (∀ us H', us.length = xs.length → SIX X f sd' σ (xs ++ ds) (us ++ vs) H' → Lent σ as us → Q us H') → t σ H Q
  | .exc x sd' => (∀ cls dx H', SIX X f sd' σ ds vs H' → ExR X.K X.mg x cls dx H' → W cls dx σ H') → t σ H Q
theorem ArgsO.nil : ArgsO Γ [] [] := fun X W C tk => ⟨_, pa_nil, fun f sd σ ds vs H Q hr S k => k [] H rfl S trivial⟩
theorem ArgsO.val {e : Expr} {es : List Expr} {m : M D} {as : List Arg} (h : EO Γ e m) (g : ArgsO Γ es as) (hs : ∀ env, starEach (e :: es) env = (false, eval e env) :: starEach es env := by intro _; rfl) : ArgsO Γ (e :: es) (.val m :: as) := fun X W C tk => by
  obtain ⟨t, p1, s1⟩ := h X W C tk
  obtain ⟨u, p2, s2⟩ := g X W C tk
  refine ⟨_, pa_cons p1 p2 (hs _), fun f sd σ ds vs H Q hr S => ?_⟩
  unfold mArgs
  have h1 := s1 f sd σ ds vs H (fun x H1 => u σ H1 fun xs H2 => Q (x :: xs) H2) hr S
  cases e : m sd with
  | bad => trivial
  | exc x sd1 => rw [e] at h1; exact h1
  | ok d sd1 =>
    rw [e] at h1
    rw [Out.then_ok]
    cases e2 : mArgs as sd1 with
    | bad => trivial
    | exc x sd2 =>
      rw [Out.then_exc]
      intro k
      refine h1 fun v H1 S1 => ?_
      have h2 := s2 f sd1 σ (d :: ds) (v :: vs) H1 (fun xs H2 => Q (v :: xs) H2) hr S1
      rw [e2] at h2
      exact h2 fun cls dx H' S' => k cls dx H' S'.pop
    | ok xs sd2 =>
      rw [Out.then_ok]
      intro k
      refine h1 fun v H1 S1 => ?_
      have h2 := s2 f sd1 σ (d :: ds) (v :: vs) H1 (fun xs H2 => Q (v :: xs) H2) hr S1
      rw [e2] at h2
      exact h2 fun us H2 l S2 ln => k (v :: us) H2 (by simp [l]) (S2.rot l) ln
theorem ArgsO.ref {i : Nat} {x : Str} {p : Pos} {es : List Expr} {as : List Arg} (hv : VisN Γ i x) (g : ArgsO Γ es as) (hs : ∀ env, starEach (.Name x p :: es) env = (false, eval (.Name x p) env) :: starEach es env := by intro _; rfl) : ArgsO Γ (.Name x p :: es) (.ref i :: as) := fun X W C tk => by
  obtain ⟨v1, v2, v3, v4⟩ := hv
  obtain ⟨u, p2, s2⟩ := g X W C tk
  refine ⟨_, pa_cons (pe_var (i := i) (by rw [C.N]; exact v1) (by rw [C.sc]; exact v2) v3 v4) p2 (hs _), fun f sd σ ds vs H Q hr S => ?_⟩
  unfold mArgs
  cases e : at? sd i with
  | none => trivial
  | some d0 =>
    dsimp only
    obtain ⟨Z, F, G, S0⟩ := id S
    obtain ⟨v, Fx, e1, _, _⟩ := S0.slots.get e
    have h2 := s2 f sd σ ds vs H (fun xs H2 => Q (v :: xs) H2) hr S
    cases e2 : mArgs as sd with
    | bad => trivial
    | exc x sd2 =>
      rw [Out.then_exc]
      rw [e2] at h2
      exact fun k => ⟨v, e1, h2 k⟩
    | ok xs sd2 =>
      rw [Out.then_ok]
      rw [e2] at h2
      unfold mMov
      cases e3 : at? sd2 i with
      | none => trivial
      | some d =>
        dsimp only
        rw [Out.then_ok]
        intro k
        refine ⟨v, e1, h2 fun us H2 l S2 ln => ?_⟩
        obtain ⟨Z, F, G, S2⟩ := S2
        obtain ⟨v', F', Fx, e4, S3, _⟩ := S2.mov e3
        rw [e1] at e4
        cases e4
        exact k (v :: us) H2 (by simp [l]) ⟨Z, F', _, S3⟩ ⟨e1, ln⟩

/-- the lent things go back to their slots -/
theorem SI.backs {X : Cx} {f : Fr0} {σ : L2.St} {H : Hp} {d : D} {v : V} {ds : List D} {vs : List V} : ∀ {as : List Arg} {us : List V} {ps : List D} {sd : Sl}, Lent σ as us → ps.length = (lent as).length → SIX X f sd σ (ps ++ d :: ds) (pickA as us ++ v :: vs) H →
    SIX X f (FS.backs (lent as) ps sd) σ (d :: ds) (v :: vs) H
  | [], [], [], sd, _, _, S => S
  | .val m :: as, u :: us, ps, sd, h, l, S => SI.backs (as := as) (us := us) h l S
  | .ref i :: as, u :: us, p :: ps, sd, h, l, S => by
    have S' : SIX X f sd σ (p :: (ps ++ d :: ds)) (u :: (pickA as us ++ v :: vs)) H := S
    obtain ⟨Z, F, G, S'⟩ := S'
    obtain ⟨F', G', S2⟩ := S'.back h.1
    exact SI.backs (as := as) (us := us) (ps := ps) h.2 (by simpa [lent] using l) ⟨Z, F', G', S2⟩
  | [], [], _ :: _, _, _, l, _ => by simp [lent] at l
  | [], _ :: _, _, _, h, _, _ => h.elim
  | .ref _ :: _, [], _, _, h, _, _ => h.elim
  | .val _ :: _, [], _, _, h, _, _ => h.elim
  | .ref _ :: _, _ :: _, [], _, _, l, _ => by simp [lent] at l

/-- behind a call by contract -/
theorem SIx.behind {X : Cx} {f : Fr0} {sd : Sl} {σ : L2.St} {xs rs ds : List D} {us ws vs : List V} {H H' : Hp} {Z Z' : Addr → Prop} {F G1 G2 G' : List Addr}
    (S : SIxX X f sd σ (xs ++ ds) (us ++ vs) H Z F (G1 ++ G2)) (r1 : Reps X.K X.mg Z H xs us G1) (r2 : Reps X.K X.mg Z H ds vs G2) (r : Reps X.K X.mg Z' H' rs ws G') (nd : G'.Nodup) (nz : ∀ a ∈ G', ¬ Z' a) (zin : ∀ a, Z' a → H' a ≠ none)
    (zz : ∀ a, Z a → Z' a) (zu : ∀ a, Z' a → Z a ∨ a ∈ G1 ∨ H a = none) (gg : ∀ a ∈ G', a ∈ G1 ∨ H a = none) (kk : Kp Z G1 H H') : SIX X f sd σ (rs ++ ds) (ws ++ vs) H' := by
  have snd := S.nd
  rw [List.nodup_append] at snd
  obtain ⟨n1, n2, n3⟩ := snd
  rw [List.nodup_append] at n2
  obtain ⟨n4, n5, n6⟩ := n2
  -- what was owned beside the arguments
  have other : ∀ a, (a ∈ F ∨ a ∈ G2) → a ∉ G1 ∧ H a ≠ none ∧ ¬ Z a := fun a ha => by
    rcases ha with ha | ha
    · refine ⟨fun z => n3 a ha a (List.mem_append_left _ z) rfl, ?_, S.nz a (List.mem_append_left _ ha)⟩
      obtain ⟨o, e, _⟩ := S.slots.there a ha
      rw [e]; simp
    · refine ⟨fun z => n6 a z a ha rfl, ?_, S.nz a (List.mem_append_right _ (List.mem_append_right _ ha))⟩
      obtain ⟨o, e, _⟩ := Reps.there ds r2 a ha
      rw [e]; simp
  have keepF : ∀ {L : List Addr}, (∀ a ∈ L, a ∈ F ∨ a ∈ G2) → KeepAt Z H H' L := fun {L} hL a o e => by
    refine ⟨fun q => ?_, fun q => ?_⟩
    · have hn : a ∉ G1 := fun z => by
        rcases q with q | q
        · exact (other a (hL a q)).1 z
        · obtain ⟨o', e', ns⟩ := Reps.there xs r1 a z
          rw [e] at e'; cases e'
          exact ns q
      obtain ⟨o', k1, k2, k3⟩ := kk a o e hn
      rcases q with q | q
      · rcases k3 with rfl | z
        · exact k1
        · exact absurd z (other a (hL a q)).2.2
      · rcases k2 with rfl | ⟨kvs, ob, rfl, _⟩
        · exact k1
        · exact q.elim
    · obtain ⟨o', k1, k2, k3⟩ := kk a o e fun z => S.nz a (List.mem_append_right _ (List.mem_append_left _ z)) q
      exact ⟨o', k1, k2⟩
  refine ⟨Z', F, G' ++ G2, ⟨S.slots.keep zz (keepF fun a ha => .inl ha), r.append (r2.keep zz _ (keepF fun a ha => .inr ha)), ?_, fun a ha => ?_, zin, fun a z => zz a (S.zlow a z), fun a z => ?_, fun a ha => ?_, fun a o h1 h2 => ?_, S.pins⟩⟩
  · rw [List.nodup_append]
    refine ⟨n1, ?_, fun a ha b hb e => ?_⟩
    · rw [List.nodup_append]
      refine ⟨nd, n5, fun a ha b hb e => ?_⟩
      subst e
      rcases gg a ha with z | z
      · exact (other a (.inr hb)).1 z
      · exact (other a (.inr hb)).2.1 z
    · subst e
      rcases List.mem_append.mp hb with hb | hb
      · rcases gg a hb with z | z
        · exact (other a (.inl ha)).1 z
        · exact (other a (.inl ha)).2.1 z
      · exact n3 a ha a (List.mem_append_right _ hb) rfl
  · have old : ∀ b, (b ∈ F ∨ b ∈ G2) → ¬ Z' b := fun b hb z => by
      obtain ⟨o1, o2, o3⟩ := other b hb
      rcases zu b z with z | z | z
      · exact o3 z
      · exact o1 z
      · exact o2 z
    rcases List.mem_append.mp ha with ha | ha
    · exact old a (.inl ha)
    · rcases List.mem_append.mp ha with ha | ha
      · exact nz a ha
      · exact old a (.inr ha)
  · rcases zu a z with z | z | z
    · exact S.zup a z
    · exact .inr (S.own a (List.mem_append_right _ (List.mem_append_left _ z)))
    · exact .inr (S.fresh z).2.2
  · rcases List.mem_append.mp ha with ha | ha
    · exact S.own a (List.mem_append_left _ ha)
    · rcases List.mem_append.mp ha with ha | ha
      · rcases gg a ha with z | z
        · exact S.own a (List.mem_append_right _ (List.mem_append_left _ z))
        · exact (S.fresh z).2.2
      · exact S.own a (List.mem_append_right _ (List.mem_append_right _ ha))
  · obtain ⟨o1, e, l1, c1⟩ := S.keep a o h1 h2
    obtain ⟨o2, k1, k2, k3⟩ := kk a o1 e fun z => by
      rcases S.own a (List.mem_append_right _ (List.mem_append_left _ z)) with q | q
      · exact h2 q
      · rw [h1] at q; cases q
    refine ⟨o2, k1, l1.trans k2, ?_⟩
    rcases k3 with rfl | z
    · exact c1
    · rcases S.zup a z with q | q | q
      · exact .inr q
      · exact absurd q h2
      · rw [h1] at q; cases q

theorem EO.call {x : Str} {p pos : Pos} {e : Expr} {es : List Expr} {as : List Arg} {n : Nat} {c : Con} (hf : (⟨x, n, posOf 0 as, c⟩ : Fn) ∈ Γ.fns) (hn : as.length = n) (hg : GlN Γ x) (ha : ArgsO Γ (e :: es) as) (hdb : (x == ("__debug__" : Str)) = false := by decide)
    (he : ∀ env, starEach (e :: es) env = (false, eval e env) :: starEach es env := by intro _; rfl) (hpl : ∀ env, (backTo pos (starEach es env)).any (·.1) = false := by intro _; rfl) : EO Γ (.Call (.Name x p) (e :: es) [] pos) (mCall c as) := fun X W C tk => by
  obtain ⟨t, p1, s1⟩ := ha X W C tk
  obtain ⟨k, g, fd, ps, F, hr, hm, hk, hb⟩ := C.fns _ hf
  refine ⟨_, pe_callS (E := WE W) F hr (hg.gl C) hm hk hb (fun σ => passAt tk σ) p1 hdb (he _) (hpl _), fun f sd σ ds vs H Q hrf S => ?_⟩
  have h1 := s1 f sd σ ds vs H (fun us H1 => spOf X.K X.mg n (posOf 0 as) c us H1 Q (WE W σ)) hrf S
  unfold mCall
  cases e1 : mArgs as sd with
  | bad => trivial
  | exc z sd1 => rw [e1] at h1; exact h1
  | ok xs sd1 =>
    rw [e1] at h1
    rw [Out.then_ok]
    -- the arguments' footprint
    have split : ∀ {us : List V} {H1 : Hp}, us.length = xs.length → SIX X f sd1 σ (xs ++ ds) (us ++ vs) H1 → ∃ Z F G1 G2, SIxX X f sd1 σ (xs ++ ds) (us ++ vs) H1 Z F (G1 ++ G2) ∧ Reps X.K X.mg Z H1 xs us G1 ∧ Reps X.K X.mg Z H1 ds vs G2 := fun {us H1} l S1 => by
      obtain ⟨Z, F, G, S1⟩ := S1
      obtain ⟨v1, v2, G1, G2, e2, e3, r1, r2⟩ := S1.temps.append_inv
      have l1 : v1.length = us.length := by rw [← r1.length, l]
      obtain ⟨ea, eb⟩ := List.append_inj e2 l1.symm
      subst ea eb e3
      exact ⟨Z, F, G1, G2, S1, r1, r2⟩
    cases ec : c xs with
    | bad => trivial
    | exc z =>
      intro kk
      refine h1 fun us H1 l S1 ln => ?_
      obtain ⟨Z, F', G1, G2, S2, r1, r2⟩ := split l S1
      have nd := S2.nd
      rw [List.nodup_append] at nd
      obtain ⟨n1, n2, n3⟩ := nd
      rw [List.nodup_append] at n2
      refine ⟨by rw [ln.len, hn], xs, Z, G1, r1, n2.1, fun a ha => S2.nz a (List.mem_append_right _ (List.mem_append_left _ ha)), S2.zin, ?_⟩
      rw [ec]
      intro cls dx H' ex kp
      refine kk cls dx H' ?_ ex
      have zin' : ∀ a, Z a → H' a ≠ none := fun a z => by
        cases q : H1 a with
        | none => exact absurd q (S2.zin a z)
        | some o =>
          obtain ⟨o', k1, _⟩ := kp a o q fun w => S2.nz a (List.mem_append_right _ (List.mem_append_left _ w)) z
          rw [k1]
          simp
      exact S2.behind (rs := []) (ws := []) (G' := []) r1 r2 ⟨rfl, rfl⟩ List.nodup_nil (fun _ h => nomatch h) zin' (fun _ z => z) (fun a z => .inl z) (fun _ h => nomatch h) kp
    | ok d ps' =>
      dsimp only
      by_cases hlen : ps'.length = (lent as).length
      · rw [if_pos hlen]
        intro kk
        refine h1 fun us H1 l S1 ln => ?_
        obtain ⟨Z, F', G1, G2, S2, r1, r2⟩ := split l S1
        have nd := S2.nd
        rw [List.nodup_append] at nd
        obtain ⟨n1, n2, n3⟩ := nd
        rw [List.nodup_append] at n2
        refine ⟨by rw [ln.len, hn], xs, Z, G1, r1, n2.1, fun a ha => S2.nz a (List.mem_append_right _ (List.mem_append_left _ ha)), S2.zin, ?_⟩
        rw [ec]
        intro v H' Z' G' rr nd' nz' zin' zz zu gg kp
        have ep : pick (posOf 0 as) us = pickA as us := pick_pos as [] us ln.len
        rw [ep] at rr
        have S3 := S2.behind r1 r2 rr nd' nz' zin' zz zu gg kp
        rw [List.append_assoc, List.append_assoc] at S3
        exact kk v H' (SI.backs ln hlen S3)
      · rw [if_neg hlen]
        trivial
end
end FS

/-! St: targets, statements, loops. -/
namespace FS
open PySem PySem.Spec PyProof.Rows L2
section
variable {Γ : Gam}

/-! ### targets -/
def LocN (Γ : Gam) (i : Nat) (x : Str) : Prop := Γ.N[i]? = some x ∧ Loc Γ.sc x ∧ x ∈ Γ.st ∧ i ∉ Γ.refs
theorem simName {X : Cx} {refs : List Nat} {i : Nat} (hi : i ∉ refs) : SimG X refs [i] (gName i) (tName i) := fun f sd σ d v ds vs H Q hr S => by
  unfold tName
  by_cases hl : i < sd.length
  · rw [if_pos hl]
    intro k
    obtain ⟨Z, F, G, S⟩ := S
    obtain ⟨F', G', S'⟩ := S.store hl fun p hp => .inl fun e => hi (e ▸ hr p hp)
    exact k _ H ⟨Z, F', G', S'⟩ ⟨List.length_set .., fun j hj => List.getElem?_set_ne (by simpa using Ne.symm (by simpa using hj))⟩
  · rw [if_neg hl]
    trivial
theorem GO.name {i : Nat} {x : Str} {p : Pos} (h : LocN Γ i x) : GO Γ (.Name x p) (tName i) [i] := fun X W C tk => by
  obtain ⟨h1, h2, h3, h4⟩ := h
  exact ⟨_, pg_name (by rw [C.N]; exact C.nd) (by rw [C.N]; exact h1) (by rw [C.sc]; exact h2) (C.st x h3), simName h4⟩
theorem GsO.nil : GsO Γ [] [] [] := fun X W C tk => ⟨_, pgs_nil, fun f sd σ xs us ds vs H Q l hr S => by
  cases xs with
  | nil =>
    cases us with
    | nil => exact fun k => ⟨rfl, k σ H S ⟨rfl, fun _ _ => rfl⟩⟩
    | cons _ _ => simp at l
  | cons _ _ => trivial⟩
theorem GsO.cons {e : Expr} {es : List Expr} {g : Tg} {gs : List Tg} {js ks : List Nat} (h : GO Γ e g js) (h2 : GsO Γ es gs ks) (hs : ∀ env, (assignEach (e :: es) env).map (·.2) = assign e env :: (assignEach es env).map (·.2) := by intro _; rfl) : GsO Γ (e :: es) (g :: gs) (js ++ ks) := fun X W C tk => by
  obtain ⟨t, p1, s1⟩ := h X W C tk
  obtain ⟨u, p2, s2⟩ := h2 X W C tk
  refine ⟨_, pgs_cons p1 p2 (hs _), fun f sd σ xs us ds vs H Q l hr S => ?_⟩
  cases xs with
  | nil => trivial
  | cons x xs =>
    cases us with
    | nil => simp at l
    | cons v us =>
      unfold tAll
      have h1 := s1 f sd σ x v (xs ++ ds) (us ++ vs) H (fun σ' H' => u us σ' H' Q) hr S
      cases e1 : g x sd with
      | none => trivial
      | some sd1 =>
        rw [e1] at h1
        dsimp only [Option.bind]
        cases e2 : tAll gs xs sd1 with
        | none => trivial
        | some sd2 =>
          dsimp only
          intro k
          refine ⟨v, us, rfl, h1 fun σ1 H1 S1 a1 => ?_⟩
          have h3 := s2 f sd1 σ1 xs us ds vs H1 Q (by simpa using l) hr S1
          rw [e2] at h3
          exact h3 fun σ2 H2 S2 a2 => k σ2 H2 S2 ⟨a2.1.trans a1.1, fun j hj => by
            rw [List.mem_append, not_or] at hj
            rw [a2.2 j hj.2, a1.2 j hj.1]⟩
theorem simTupG {X : Cx} {refs js : List Nat} {n : Nat} {t : TGs} {gs : List Tg} (hn : gs.length = n) (h : ∀ f sd σ xs us ds vs H Q, us.length = xs.length → (∀ p ∈ f.V0, p.1 ∈ refs) → SIX X f sd σ (xs ++ ds) (us ++ vs) H →
    match tAll gs xs sd with
    | none => True
    | some sd' => (∀ σ' H', SIX X f sd' σ' ds vs H' → Away js σ σ' → Q σ' H') → t us σ H Q) : SimG X refs js (gTup X.K n t) (tTup' gs) := fun f sd σ d v ds vs H Q hr S => by
  unfold tTup'
  cases d with
  | tup xs =>
    dsimp only
    obtain ⟨Z, F, G, S⟩ := S
    obtain ⟨v', vr, F1, F2, e1, e2, h1, h2⟩ := (show ∃ v' vr F1 F2, v :: vs = v' :: vr ∧ G = F1 ++ F2 ∧ Rep X.K X.mg Z H (.tup xs) v' F1 ∧ Reps X.K X.mg Z H ds vr F2 from S.temps)
    cases e1
    obtain ⟨a, us, ev, q, r⟩ := (show ∃ a us, v = .ref a ∧ SqT X.K H a us ∧ Reps X.K X.mg Z H xs us F1 from h1)
    have lu : us.length = xs.length := r.length.symm
    have S2 : SIX X f sd σ (xs ++ ds) (us ++ vs) H := ⟨Z, F, F1 ++ F2, S.sub (R := []) S.slots (r.append h2) (by rw [e2]; exact .refl _) S.pins⟩
    have h3 := h f sd σ xs us ds vs H Q lu hr S2
    cases e3 : tAll gs xs sd with
    | none => trivial
    | some sd1 =>
      rw [e3] at h3
      intro k
      refine ⟨a, us, ev, q, ?_, h3 k⟩
      -- the lengths agree
      have : ∀ {gs : List Tg} {xs : List D} {sd sd1 : Sl}, tAll gs xs sd = some sd1 → gs.length = xs.length := by
        intro gs
        induction gs with
        | nil =>
          intro xs sd sd1 h
          cases xs with
          | nil => rfl
          | cons _ _ => cases h
        | cons g gs ih =>
          intro xs sd sd1 h
          cases xs with
          | nil => cases h
          | cons x xs =>
            unfold tAll at h
            cases q : g x sd with
            | none => rw [q] at h; cases h
            | some s2 =>
              rw [q] at h
              have := ih h
              simp [this]
      rw [lu, ← this e3, hn]
  | _ => trivial
theorem GO.tup {es : List Expr} {k : Nat} {p : Pos} {gs : List Tg} {js : List Nat} (h : GsO Γ es gs js) (hn : ∀ env, (assignEach es env).length = gs.length := by intro _; rfl) (hst : ∀ env, (assignEach es env).findIdx? (·.1) = none := by intro _; rfl) : GO Γ (.Tuple es k p) (tTup' gs) js := fun X W C tk => by
  obtain ⟨t, p1, s1⟩ := h X W C tk
  exact ⟨_, pg_tup C.calm p1 (hn _) (hst _), simTupG rfl s1⟩

/-! ### small statements -/
theorem BO.nil : BO Γ [] sNext := fun X W C tk => ⟨_, pss_nil, fun f sd σ ds vs H D hr S k => k σ H S⟩
theorem BO.cons {s : Stmt} {ss : List Stmt} {m n : MS} (h : SO Γ s m) (g : BO Γ ss n) : BO Γ (s :: ss) (sSeq m n) := fun X W C tk => by
  obtain ⟨t, p1, s1⟩ := h X W C tk
  obtain ⟨u, p2, s2⟩ := g X W C tk
  refine ⟨_, pss_cons p1 p2, fun f sd σ ds vs H D hr S => ?_⟩
  unfold sSeq
  have h1 := s1 f sd σ ds vs H { D with nx := u D } hr S
  cases e : m sd with
  | bad => trivial
  | nx sd1 =>
    rw [e] at h1
    rw [OutS.then_nx]
    cases e2 : n sd1 with
    | bad => trivial
    | nx sd2 => exact fun k => h1 fun σ' H' S' => by have h2 := s2 f sd1 σ' ds vs H' D hr S'; rw [e2] at h2; exact h2 k
    | brk sd2 => exact fun k => h1 fun σ' H' S' => by have h2 := s2 f sd1 σ' ds vs H' D hr S'; rw [e2] at h2; exact h2 k
    | ct sd2 => exact fun k => h1 fun σ' H' S' => by have h2 := s2 f sd1 σ' ds vs H' D hr S'; rw [e2] at h2; exact h2 k
    | ret d sd2 => exact fun k => h1 fun σ' H' S' => by have h2 := s2 f sd1 σ' ds vs H' D hr S'; rw [e2] at h2; exact h2 k
    | exc x sd2 => exact fun k => h1 fun σ' H' S' => by have h2 := s2 f sd1 σ' ds vs H' D hr S'; rw [e2] at h2; exact h2 k
  | brk sd1 => rw [e] at h1; exact h1
  | ct sd1 => rw [e] at h1; exact h1
  | ret d sd1 => rw [e] at h1; exact h1
  | exc x sd1 => rw [e] at h1; exact h1
theorem BO.one {s : Stmt} {m : MS} (h : SO Γ s m) : BO Γ [s] m := fun X W C tk => by
  obtain ⟨t, p1, s1⟩ := h X W C tk
  exact ⟨t, pss_one p1, s1⟩
theorem SO.pass {p : Pos} : SO Γ (.Pass p) sNext := fun X W C tk => ⟨_, ps_pass, fun f sd σ ds vs H D hr S k => k σ H S⟩
theorem SO.brk {p : Pos} : SO Γ (.Break p) sBrk := fun X W C tk => ⟨_, ps_break, fun f sd σ ds vs H D hr S k => k σ H S⟩
theorem SO.ct {p : Pos} : SO Γ (.Continue p) sCt := fun X W C tk => ⟨_, ps_continue, fun f sd σ ds vs H D hr S k => k σ H S⟩
theorem SO.retN {p : Pos} : SO Γ (.Return none p) (sRet (mQ (qC .non))) := fun X W C tk => ⟨_, ps_retN, fun f sd σ ds vs H D hr S => by
  intro k
  obtain ⟨Z, F, G, S⟩ := S
  exact k .non σ H ⟨Z, F, G, S.push0 ⟨rfl, rfl⟩⟩⟩
theorem SO.ret {e : Expr} {m : M D} {p : Pos} (h : EO Γ e m) : SO Γ (.Return (some e) p) (sRet m) := fun X W C tk => by
  obtain ⟨t, p1, s1⟩ := h X W C tk
  refine ⟨_, ps_ret p1, fun f sd σ ds vs H D hr S => ?_⟩
  unfold sRet
  have h1 := s1 f sd σ ds vs H D.rt hr S
  cases e : m sd with
  | bad => trivial
  | exc x sd1 => rw [e] at h1; exact fun k => h1 fun cls dx H' => k cls dx σ H'
  | ok d sd1 => rw [e] at h1; exact fun k => h1 fun v H' => k v σ H'
theorem SO.exp {e : Expr} {m : M D} {p : Pos} (h : EO Γ e m) (hs : ∀ env, swapsWith e none p.line env = pure false := by intro _; rfl) : SO Γ (.Expr e p) (sExp m) := fun X W C tk => by
  obtain ⟨t, p1, s1⟩ := h X W C tk
  refine ⟨_, ps_expr p1 (hs _), fun f sd σ ds vs H D hr S => ?_⟩
  unfold sExp
  have h1 := s1 f sd σ ds vs H (fun _ H1 => D.nx σ H1) hr S
  cases e : m sd with
  | bad => trivial
  | exc x sd1 => rw [e] at h1; exact fun k => h1 fun cls dx H' => k cls dx σ H'
  | ok d sd1 => rw [e] at h1; exact fun k => h1 fun v H' S' => k σ H' S'.pop
theorem simAsg {X : Cx} {refs js : List Nat} {W : WX} {te : TE} {g : TG} {m : M D} {t : Tg} (s1 : SimE X refs W te m) (s2 : SimG X refs js g t) : SimS X refs W (tAsg te g) (sAsg t m) := fun f sd σ ds vs H D hr S => by
  unfold sAsg
  have h1 := s1 f sd σ ds vs H (fun x H1 => g x σ H1 D.nx) hr S
  cases e : m sd with
  | bad => trivial
  | exc x sd1 => rw [e] at h1; exact fun k => h1 fun cls dx H' => k cls dx σ H'
  | ok d sd1 =>
    rw [e] at h1
    rw [Out.thenS_ok]
    cases e2 : t d sd1 with
    | none => trivial
    | some sd2 =>
      dsimp only
      intro k
      refine h1 fun v H1 S1 => ?_
      have h2 := s2 f sd1 σ d v ds vs H1 D.nx hr S1
      rw [e2] at h2
      exact h2 fun σ' H' S' _ => k σ' H' S'
/-- name = e -/
theorem SO.set {i : Nat} {x : Str} {e : Expr} {m : M D} {p p' : Pos} (h : LocN Γ i x) (he : EO Γ e m) (hs : ∀ env, swapsWith e (some (.Name x p')) p.line env = pure false := by intro _; rfl) : SO Γ (.Assign [.Name x p'] e p) (sAsg (tName i) m) := fun X W C tk => by
  obtain ⟨h1, h2, h3, h4⟩ := h
  obtain ⟨t, p1, s1⟩ := he X W C tk
  exact ⟨_, ps_set (by rw [C.N]; exact C.nd) (by rw [C.N]; exact h1) (by rw [C.sc]; exact h2) p1 (hs _) (C.st x h3), simAsg s1 (simName h4)⟩
/-- target = e -/
theorem SO.asg {tg e : Expr} {g : Tg} {js : List Nat} {m : M D} {p : Pos} (h : GO Γ tg g js) (he : EO Γ e m) (hs : ∀ env, swapsWithSole [tg] e p.line env = pure false := by intro _; rfl) (hw : ∀ env, swappedStores [tg] e env = pure none := by intro _; rfl)
    (h1 : ∀ env, (assignEach [tg] env).map (·.2) = [assign tg env] := by intro _; rfl) : SO Γ (.Assign [tg] e p) (sAsg g m) := fun X W C tk => by
  obtain ⟨t, p1, s1⟩ := he X W C tk
  obtain ⟨u, p2, s2⟩ := h X W C tk
  exact ⟨_, ps_asg p1 p2 (hs _) (hw _) (h1 _), simAsg s1 s2⟩
theorem SO.ifs {c : Expr} {a b : List Stmt} {mc : M Bool} {ma mb : MS} {p : Pos} (hc : TO Γ c mc) (ha : BO Γ a ma) (hb : BO Γ b mb) : SO Γ (.If c a b p) (sIf mc ma mb) := fun X W C tk => by
  obtain ⟨t, p1, s1⟩ := hc X W C tk
  obtain ⟨u, p2, s2⟩ := ha X W C tk
  obtain ⟨w, p3, s3⟩ := hb X W C tk
  refine ⟨_, ps_if p1 p2 p3, fun f sd σ ds vs H D hr S => ?_⟩
  unfold sIf
  have h1 := s1 f sd σ ds vs H (fun b H1 => if b = true then u D σ H1 else w D σ H1) hr S
  cases e : mc sd with
  | bad => trivial
  | exc x sd1 => rw [e] at h1; exact fun k => h1 fun cls dx H' => k cls dx σ H'
  | ok b sd1 =>
    rw [e] at h1
    rw [Out.thenS_ok]
    cases b with
    | true =>
      rw [if_pos rfl]
      cases e2 : ma sd1 with
      | bad => trivial
      | nx sd2 => exact fun k => h1 fun H' S' => by rw [if_pos rfl]; have h2 := s2 f sd1 σ ds vs H' D hr S'; rw [e2] at h2; exact h2 k
      | brk sd2 => exact fun k => h1 fun H' S' => by rw [if_pos rfl]; have h2 := s2 f sd1 σ ds vs H' D hr S'; rw [e2] at h2; exact h2 k
      | ct sd2 => exact fun k => h1 fun H' S' => by rw [if_pos rfl]; have h2 := s2 f sd1 σ ds vs H' D hr S'; rw [e2] at h2; exact h2 k
      | ret d sd2 => exact fun k => h1 fun H' S' => by rw [if_pos rfl]; have h2 := s2 f sd1 σ ds vs H' D hr S'; rw [e2] at h2; exact h2 k
      | exc x sd2 => exact fun k => h1 fun H' S' => by rw [if_pos rfl]; have h2 := s2 f sd1 σ ds vs H' D hr S'; rw [e2] at h2; exact h2 k
    | false =>
      rw [if_neg Bool.false_ne_true]
      cases e2 : mb sd1 with
      | bad => trivial
      | nx sd2 => exact fun k => h1 fun H' S' => by rw [if_neg Bool.false_ne_true]; have h2 := s3 f sd1 σ ds vs H' D hr S'; rw [e2] at h2; exact h2 k
      | brk sd2 => exact fun k => h1 fun H' S' => by rw [if_neg Bool.false_ne_true]; have h2 := s3 f sd1 σ ds vs H' D hr S'; rw [e2] at h2; exact h2 k
      | ct sd2 => exact fun k => h1 fun H' S' => by rw [if_neg Bool.false_ne_true]; have h2 := s3 f sd1 σ ds vs H' D hr S'; rw [e2] at h2; exact h2 k
      | ret d sd2 => exact fun k => h1 fun H' S' => by rw [if_neg Bool.false_ne_true]; have h2 := s3 f sd1 σ ds vs H' D hr S'; rw [e2] at h2; exact h2 k
      | exc x sd2 => exact fun k => h1 fun H' S' => by rw [if_neg Bool.false_ne_true]; have h2 := s3 f sd1 σ ds vs H' D hr S'; rw [e2] at h2; exact h2 k

/-! ### what is walked -/
/-- the iterator J over the items xs, leaning on some temporaries -/
def Walk (X : Cx) (J : It) (ws : List D) (us : List V) (xs : List D) : Prop := us.length = ws.length ∧ ∀ f sd σ ds vs H i, SIX X f sd σ (ws ++ ds) (us ++ vs) H →
  (∀ x, xs[i]? = some x → J.go i H ∧ ∀ v H', J.yld i H v H' → SIX X f sd σ (x :: (ws ++ ds)) (v :: (us ++ vs)) H') ∧ (xs.length ≤ i → J.stop i H)
def SimI (X : Cx) (refs : List Nat) (W : WX) (wi : TI) (m : M (List D)) : Prop := ∀ f sd σ ds vs H R, (∀ p ∈ f.V0, p.1 ∈ refs) → SIX X f sd σ ds vs H →
  match m sd with
  | .bad => True
  | .ok xs sd' => (∀ J ws us H', Walk X J ws us xs → SIX X f sd' σ (ws ++ ds) (us ++ vs) H' → R J H') → wi σ H R
  | .exc x sd' => (∀ cls dx H', SIX X f sd' σ ds vs H' → ExR X.K X.mg x cls dx H' → W cls dx σ H') → wi σ H R
def IO (Γ : Gam) (tg e : Expr) (m : M (List D)) : Prop := ∀ X W, Ctx Γ X → Takes X W → ∃ t, PI X tg e t ∧ SimI X Γ.refs W t m

/-- a list or a tuple, whichever it is -/
def iBoth (K : PySem.W.Frag) (tl : TE) : TI := fun σ H R => tl σ H fun x H1 => ∃ a, x = .ref a ∧ (((∃ xs, SqL K H1 a xs) ∧ R (Itl K a) H1) ∨ ((∃ xs, SqT K H1 a xs) ∧ R (Itt K a) H1))
theorem pi_both {X : Cx} {tg l : Expr} {tl : TE} (hl : PE X l tl) : PI X tg l (iBoth X.K tl) := by
  refine ⟨fun pins s σ H R I h => ?_⟩
  refine thn (hl.run pins s σ H _ I h) fun v s1 ⟨x, H1, I1, r1, q1⟩ => ?_
  obtain ⟨a, e, q⟩ := q1
  subst e
  cases r1
  rcases q with ⟨⟨xs, hq⟩, q⟩ | ⟨⟨xs, hq⟩, q⟩
  · obtain ⟨its, rv, p, hz⟩ := I1.list hq
    refine wpAny_pyIter_list p.isList ?_
    refine ⟨s1.heap.objs.size, [s1.heap.objs.size], _, _, H1, rfl, I1.kept (t' := s1.toks) fun b o e => Heap.get?_push_of_some _ e, turn_list a _, ⟨_, Heap.get?_push_size _ rfl, rfl, rfl⟩, fun b hb => ?_, q⟩
    have e : b = s1.heap.objs.size := by simpa using hb
    subst e
    exact I1.fpOk (Nat.le_refl _) (I1.hok.fresh (Nat.le_refl _))
  · obtain ⟨its, rv, p, hz⟩ := I1.tuple hq
    refine wpAny_pyIter_tuple (show s1.heap.IsTuple a its.toArray from p) ?_
    refine ⟨s1.heap.objs.size, [s1.heap.objs.size], _, _, H1, rfl, I1.kept (t' := s1.toks) fun b o e => Heap.get?_push_of_some _ e, turn_tuple a _, ⟨_, Heap.get?_push_size _ rfl, rfl, rfl⟩, fun b hb => ?_, q⟩
    have e : b = s1.heap.objs.size := by simpa using hb
    subst e
    exact I1.fpOk (Nat.le_refl _) (I1.hok.fresh (Nat.le_refl _))
theorem IO.seq {tg e : Expr} {m : M D} (h : EO Γ e m) : IO Γ tg e (iSeq m) := fun X W C tk => by
  obtain ⟨t, p1, s1⟩ := h X W C tk
  refine ⟨_, pi_both p1, fun f sd σ ds vs H R hr S => ?_⟩
  unfold iSeq
  have h1 := s1 f sd σ ds vs H (fun x H1 => ∃ a, x = .ref a ∧ (((∃ xs, SqL X.K H1 a xs) ∧ R (Itl X.K a) H1) ∨ ((∃ xs, SqT X.K H1 a xs) ∧ R (Itt X.K a) H1))) hr S
  cases e : m sd with
  | bad => trivial
  | exc x sd1 => rw [e] at h1; exact h1
  | ok d sd1 =>
    rw [e] at h1
    rw [Out.then_ok]
    cases ei : items (frz d) with
    | none => trivial
    | some xs =>
      rw [ofOpt_some]
      intro k
      refine h1 fun v H1 S1 => ?_
      obtain ⟨Z, F, G, S2⟩ := S1.freeze
      have hff := isF_frz d
      generalize frz d = dd at ei S2 hff
      have hx : ∀ {x : D} {i : Nat}, isFs xs = true → xs[i]? = some x → isF x = true := fun hfs hxi => isFs_mem hfs (List.mem_of_getElem? hxi)
      cases dd with
      | lst o ys =>
        cases ei
        have r := (S2.topF hff).1
        obtain ⟨a, us, Fx, ev, rr, q⟩ := (show ∃ a us Fx, v = .ref a ∧ Reps X.K X.mg Z H1 xs us Fx ∧ _ from r)
        simp only [isF, Bool.and_eq_true, Bool.not_eq_true'] at hff
        have hq : H1 a = some (.lst us) := by
          rcases q with ⟨_, q, _⟩ | ⟨_, q, _⟩
          · exact q
          · exact q.1
        refine ⟨a, ev, .inl ⟨⟨us, .inl (.inl hq)⟩, k (Itl X.K a) [.lst o xs] [v] H1 ⟨rfl, fun f sd σ ds vs H i S => ?_⟩ ⟨Z, F, G, S2⟩⟩⟩
        obtain ⟨Z, F, G, S⟩ := S
        obtain ⟨r, S0⟩ := SIx.topF (show SIxX X f sd σ (.lst o xs :: ds) (v :: vs) H Z F G from S) (by simp only [isF, hff.1, hff.2]; rfl)
        obtain ⟨a', us', Fx', ev', rr', q'⟩ := (show ∃ a us Fx, v = .ref a ∧ Reps X.K X.mg Z H xs us Fx ∧ _ from r)
        have ea : a' = a := by rw [ev] at ev'; exact (V.ref.inj ev').symm
        subst ea
        have hfx : Fx' = [] := rr'.isF_nil xs hff.2
        have hq' : H a' = some (.lst us') := by
          rcases q' with ⟨_, q, _⟩ | ⟨_, q, _⟩
          · exact q
          · exact q.1
        refine ⟨fun x hxi => ?_, fun hi => ⟨us', .inl (.inl hq'), by rw [← rr'.length]; exact hi⟩⟩
        obtain ⟨u, Fu, hu, ru, sub⟩ := rr'.get hxi
        have nu := ru.isF_nil x (hx hff.2 hxi)
        subst nu
        refine ⟨⟨us', u, .inl (.inl hq'), hu⟩, fun w H' y => ?_⟩
        obtain ⟨rfl, y⟩ := y
        have ew := y us' (.inl (.inl hq'))
        rw [hu] at ew
        cases ew
        exact ⟨Z, F, G, S.push0 ru⟩
      | tup ys =>
        cases ei
        have r := (S2.topF hff).1
        obtain ⟨a, us, ev, q, rr⟩ := (show ∃ a us, v = .ref a ∧ SqT X.K H1 a us ∧ Reps X.K X.mg Z H1 xs us [] from r)
        refine ⟨a, ev, .inr ⟨⟨us, q⟩, k (Itt X.K a) [.tup xs] [v] H1 ⟨rfl, fun f sd σ ds vs H i S => ?_⟩ ⟨Z, F, G, S2⟩⟩⟩
        obtain ⟨Z, F, G, S⟩ := S
        obtain ⟨r, S0⟩ := SIx.topF (show SIxX X f sd σ (.tup xs :: ds) (v :: vs) H Z F G from S) hff
        obtain ⟨a', us', ev', q', rr'⟩ := (show ∃ a us, v = .ref a ∧ SqT X.K H a us ∧ Reps X.K X.mg Z H xs us [] from r)
        have ea : a' = a := by rw [ev] at ev'; exact (V.ref.inj ev').symm
        subst ea
        refine ⟨fun x hxi => ?_, fun hi => ⟨us', q', by rw [← rr'.length]; exact hi⟩⟩
        obtain ⟨u, Fu, hu, ru, sub⟩ := rr'.get hxi
        have nu := ru.isF_nil x (hx hff hxi)
        subst nu
        refine ⟨⟨us', u, q', hu⟩, fun w H' y => ?_⟩
        obtain ⟨rfl, y⟩ := y
        have ew := y us' q'
        rw [hu] at ew
        cases ew
        exact ⟨Z, F, G, S.push0 ru⟩
      | _ => cases ei
theorem walk_range {X : Cx} {lo : Int} {n : Nat} : Walk X (Itr lo n) [] [] (irange lo n) := ⟨rfl, fun f sd σ ds vs H i S => by
  have hl : (irange lo n).length = n := by simp [irange]
  refine ⟨fun x hx => ?_, fun hi => by rw [hl] at hi; exact hi⟩
  have hi : i < n := by rw [← hl]; exact (List.getElem?_eq_some_iff.mp hx).1
  have ex : x = .int (lo + (i : Nat)) := by
    unfold irange at hx
    rw [List.getElem?_map, List.getElem?_range hi] at hx
    exact (Option.some.inj hx).symm
  refine ⟨hi, fun v H' y => ?_⟩
  obtain ⟨rfl, rfl⟩ := y
  subst ex
  obtain ⟨Z, F, G, S⟩ := S
  exact ⟨Z, F, G, S.push0 ⟨rfl, rfl⟩⟩⟩
theorem IO.range1 {tg a : Expr} {m : M D} {p pos : Pos} (hg : GlN Γ "range") (hb : ("range" : Str) ∈ Γ.blt) (h : EO Γ a m) (hs : ∀ env, starEach [a] env = [(false, eval a env)] := by intro _; rfl) : IO Γ tg (.Call (.Name "range" p) [a] [] pos) (iRng1 m) := fun X W C tk => by
  obtain ⟨t, p1, s1⟩ := h X W C tk
  refine ⟨_, pi_range1 (hg.gl C) (C.blt _ hb) (pa_cons p1 pa_nil (by rw [hs]; rfl)) (hs _), fun f sd σ ds vs H R hr S => ?_⟩
  unfold FS.iRng1
  have h1 := s1 f sd σ ds vs H (fun x H1 => ∃ j : Int, [x] = [.int j] ∧ -(2 ^ 62) ≤ j ∧ j < 2 ^ 62 ∧ R (Itr 0 j.toNat) H1) hr S
  cases e : m sd with
  | bad => trivial
  | exc x sd1 => rw [e] at h1; exact h1
  | ok d sd1 =>
    rw [e] at h1
    rw [Out.then_ok]
    cases d with
    | int j =>
      unfold rng1
      dsimp only
      by_cases hj : -(2 ^ 62) ≤ j ∧ j < 2 ^ 62
      · rw [if_pos hj, ofOpt_some]
        intro k
        refine h1 fun v H1 S1 => ?_
        obtain ⟨Z, F, G, S1⟩ := S1
        obtain ⟨r, S2⟩ := S1.topF rfl
        exact ⟨j, by rw [r.1], hj.1, hj.2, k _ [] [] H1 walk_range ⟨Z, F, G, S2⟩⟩
      · rw [if_neg hj]
        trivial
    | _ => trivial
theorem IO.range2 {tg a b : Expr} {m n : M D} {p pos : Pos} (hg : GlN Γ "range") (hb : ("range" : Str) ∈ Γ.blt) (h : EO Γ a m) (h' : EO Γ b n) (hs : ∀ env, starEach [a, b] env = [(false, eval a env), (false, eval b env)] := by intro _; rfl) (hs2 : ∀ env, starEach [b] env = [(false, eval b env)] := by intro _; rfl) :
    IO Γ tg (.Call (.Name "range" p) [a, b] [] pos) (iRng2 m n) := fun X W C tk => by
  obtain ⟨t, p1, s1⟩ := h X W C tk
  obtain ⟨u, p2, s2⟩ := h' X W C tk
  refine ⟨_, pi_range2 (hg.gl C) (C.blt _ hb) (pa_cons p1 (pa_cons p2 pa_nil (by rw [hs2]; rfl)) (by rw [hs, hs2])) (hs _) (hs2 _), fun f sd σ ds vs H R hr S => ?_⟩
  unfold FS.iRng2
  have h1 := s1 f sd σ ds vs H (fun x H1 => u σ H1 fun y H2 => ∃ i j : Int, [x, y] = [.int i, .int j] ∧ (-(2 ^ 62) ≤ i ∧ i < 2 ^ 62 ∧ -(2 ^ 62) ≤ j ∧ j < 2 ^ 62) ∧ R (Itr i (j - i).toNat) H2) hr S
  cases e : m sd with
  | bad => trivial
  | exc x sd1 => rw [e] at h1; exact h1
  | ok d sd1 =>
    rw [e] at h1
    dsimp only at h1
    rw [Out.then_ok]
    cases e2 : n sd1 with
    | bad => trivial
    | exc x sd2 =>
      rw [Out.then_exc]
      intro k
      refine h1 fun v H1 S1 => ?_
      have h2 := s2 f sd1 σ (d :: ds) (v :: vs) H1 (fun y H2 => ∃ i j : Int, [v, y] = [.int i, .int j] ∧ (-(2 ^ 62) ≤ i ∧ i < 2 ^ 62 ∧ -(2 ^ 62) ≤ j ∧ j < 2 ^ 62) ∧ R (Itr i (j - i).toNat) H2) hr S1
      rw [e2] at h2
      exact h2 fun cls dx H' S' => k cls dx H' S'.pop
    | ok d2 sd2 =>
      rw [Out.then_ok]
      cases er : rng2 d d2 with
      | none => trivial
      | some xs =>
        rw [ofOpt_some]
        intro k
        refine h1 fun v H1 S1 => ?_
        have h2 := s2 f sd1 σ (d :: ds) (v :: vs) H1 (fun y H2 => ∃ i j : Int, [v, y] = [.int i, .int j] ∧ (-(2 ^ 62) ≤ i ∧ i < 2 ^ 62 ∧ -(2 ^ 62) ≤ j ∧ j < 2 ^ 62) ∧ R (Itr i (j - i).toNat) H2) hr S1
        rw [e2] at h2
        refine h2 fun w H2 S2 => ?_
        unfold rng2 at er
        split at er
        · rename_i i j
          split at er
          · rename_i hc
            cases er
            obtain ⟨Z, F, G, S2⟩ := S2
            obtain ⟨r, S3⟩ := S2.topF rfl
            obtain ⟨r', S4⟩ := S3.topF rfl
            exact ⟨i, j, by rw [r.1, r'.1], hc, k _ [] [] H2 walk_range ⟨Z, F, G, S4⟩⟩
          · cases er
        · cases er

/-! ### loops -/
theorem SI.under {X : Cx} {f : Fr0} {sd : Sl} {σ : L2.St} {H : Hp} {d : D} {v : V} {ws ds : List D} {us vs : List V} (l : us.length = ws.length) (S : SIX X f sd σ (d :: (ws ++ ds)) (v :: (us ++ vs)) H) : SIX X f sd σ (d :: ds) (v :: vs) H := by
  obtain ⟨Z, F, G, S⟩ := S
  obtain ⟨v', vr, F1, F2, e1, e2, h1, h2⟩ := (show ∃ v' vr F1 F2, v :: (us ++ vs) = v' :: vr ∧ G = F1 ++ F2 ∧ Rep X.K X.mg Z H d v' F1 ∧ Reps X.K X.mg Z H (ws ++ ds) vr F2 from S.temps)
  cases e1
  obtain ⟨v1, v2, Fa, Fb, e3, e4, h3, h4⟩ := h2.append_inv
  have l1 : v1.length = us.length := by rw [← h3.length, l]
  obtain ⟨ea, eb⟩ := List.append_inj e3 l1.symm
  subst ea eb e2 e4
  refine ⟨Z, F, F1 ++ Fb, S.sub (R := Fa) S.slots ⟨v, vs, F1, Fb, rfl, rfl, h1, h4⟩ ?_ S.pins⟩
  -- F ++ (F1 ++ (Fa ++ Fb)) ~ Fa ++ (F ++ (F1 ++ Fb))
  have a : (F ++ (F1 ++ (Fa ++ Fb))).Perm (F ++ (Fa ++ (F1 ++ Fb))) := by
    refine List.Perm.append_left F ?_
    rw [← List.append_assoc, ← List.append_assoc]
    exact List.Perm.append_right Fb List.perm_append_comm
  refine a.trans ?_
  have b : ((F ++ Fa) ++ (F1 ++ Fb)).Perm ((Fa ++ F) ++ (F1 ++ Fb)) := List.Perm.append_right _ List.perm_append_comm
  rw [List.append_assoc, List.append_assoc] at b
  exact b
theorem simFor {X : Cx} {refs js : List Nat} {W : WX} {wi : TI} {g : TG} {tb : TS} {src : M (List D)} {t : Tg} {body : MS} (s1 : SimI X refs W wi src) (s2 : SimG X refs js g t) (s3 : SimS X refs W tb body) : SimS X refs W (tFor wi g tb) (sFor t src body) := fun f sd σ ds vs H D hr S => by
  unfold sFor
  have h1 := s1 f sd σ ds vs H (fun J H1 => ∃ W : Nat → Nat → L2.St → Hp → Prop, (∃ m, W 0 m σ H1) ∧ ∀ i m σ H, W i m σ H →
    (J.stop i H ∧ D.nx σ H) ∨ (J.go i H ∧ ∃ N : L2.St → Hp → Prop, (∀ σ' H', N σ' H' → ∃ m', m' < m ∧ W (i + 1) m' σ' H') ∧ ∀ x H', J.yld i H x H' → g x σ H' fun σ2 H2 => tb { D with nx := N, ct := N, bk := D.nx } σ2 H2)) hr S
  cases e : src sd with
  | bad => trivial
  | exc x sd1 => rw [e] at h1; exact fun k => h1 fun cls dx H' => k cls dx σ H'
  | ok xs sd1 =>
    rw [e] at h1
    rw [Out.thenS_ok]
    by_cases hz : xs.length ≤ sz
    case neg => rw [if_neg hz]; trivial
    rw [if_pos hz]
    -- whatever comes out
    have key : ∀ o, forL t body xs sd1 = o → (match o with
      | .bad => True
      | .nx sd' => (∀ σ' H', SIX X f sd' σ' ds vs H' → D.nx σ' H') → tFor wi g tb D σ H
      | .brk sd' => (∀ σ' H', SIX X f sd' σ' ds vs H' → D.bk σ' H') → tFor wi g tb D σ H
      | .ct sd' => (∀ σ' H', SIX X f sd' σ' ds vs H' → D.ct σ' H') → tFor wi g tb D σ H
      | .ret d sd' => (∀ v σ' H', SIX X f sd' σ' (d :: ds) (v :: vs) H' → D.rt v H') → tFor wi g tb D σ H
      | .exc x sd' => (∀ cls dx σ' H', SIX X f sd' σ' ds vs H' → ExR X.K X.mg x cls dx H' → W cls dx σ' H') → tFor wi g tb D σ H) := by
      intro o ho
      -- what is wanted of the end
      have go : ∀ (hnb : o ≠ .bad) (K : ∀ σ' H', (match o with | .nx sd' => SIX X f sd' σ' ds vs H' | _ => False) → D.nx σ' H')
          (KR : ∀ v σ' H', (match o with | .ret d sd' => SIX X f sd' σ' (d :: ds) (v :: vs) H' | _ => False) → D.rt v H')
          (KX : ∀ cls dx σ' H', (match o with | .exc x sd' => SIX X f sd' σ' ds vs H' ∧ ExR X.K X.mg x cls dx H' | _ => False) → W cls dx σ' H'), tFor wi g tb D σ H := by
        intro hnb K KR KX
        refine h1 fun J ws us H1 wk S1 => ?_
        obtain ⟨lw, wk⟩ := wk
        refine ⟨fun i m σ H => m = xs.length - i ∧ i ≤ xs.length ∧ ∃ sdi, SIX X f sdi σ (ws ++ ds) (us ++ vs) H ∧ forL t body (xs.drop i) sdi = o, ⟨xs.length, by simp, Nat.zero_le _, sd1, S1, by rw [List.drop_zero]; exact ho⟩, ?_⟩
        rintro i m σ2 H2 ⟨rfl, hi, sdi, S2, ef⟩
        obtain ⟨w1, w2⟩ := wk f sdi σ2 ds vs H2 i S2
        by_cases hlt : i < xs.length
        · have hy0 : ∃ y0, xs[i]? = some y0 ∧ xs.drop i = y0 :: xs.drop (i + 1) := ⟨_, List.getElem?_eq_getElem hlt, List.drop_eq_getElem_cons hlt⟩
          obtain ⟨y0, ex, ed⟩ := hy0
          obtain ⟨wg, wy⟩ := w1 _ ex
          rw [ed] at ef
          unfold forL at ef
          cases et : t y0 sdi with
          | none => rw [et] at ef; exact absurd ef.symm hnb
          | some sdt =>
            rw [et] at ef
            dsimp only at ef
            have hbody := fun σ3 H3 DD S3 => s3 f sdt σ3 (ws ++ ds) (us ++ vs) H3 DD hr S3
            have htg := fun v H' Q S3 => s2 f sdi σ2 y0 v (ws ++ ds) (us ++ vs) H' Q hr S3
            rw [et] at htg
            cases eb : body sdt with
            | bad => rw [eb] at ef; exact absurd ef.symm hnb
            | nx sd4 =>
              rw [eb] at ef hbody
              refine .inr ⟨wg, fun σ' H' => SIX X f sd4 σ' (ws ++ ds) (us ++ vs) H', fun σ' H' S4 => ⟨xs.length - (i + 1), by omega, rfl, by omega, sd4, S4, ef⟩, fun v H' y => ?_⟩
              exact htg v H' _ (wy v H' y) fun σ3 H3 S3 _ => hbody σ3 H3 _ S3 fun σ' H' S4 => S4
            | ct sd4 =>
              rw [eb] at ef hbody
              refine .inr ⟨wg, fun σ' H' => SIX X f sd4 σ' (ws ++ ds) (us ++ vs) H', fun σ' H' S4 => ⟨xs.length - (i + 1), by omega, rfl, by omega, sd4, S4, ef⟩, fun v H' y => ?_⟩
              exact htg v H' _ (wy v H' y) fun σ3 H3 S3 _ => hbody σ3 H3 _ S3 fun σ' H' S4 => S4
            | brk sd4 =>
              rw [eb] at ef hbody
              refine .inr ⟨wg, fun _ _ => False, fun _ _ h => h.elim, fun v H' y => ?_⟩
              exact htg v H' _ (wy v H' y) fun σ3 H3 S3 _ => hbody σ3 H3 _ S3 fun σ' H' S4 => K σ' H' (by rw [← ef]; exact S4.pops lw)
            | ret d sd4 =>
              rw [eb] at ef hbody
              refine .inr ⟨wg, fun _ _ => False, fun _ _ h => h.elim, fun v H' y => ?_⟩
              exact htg v H' _ (wy v H' y) fun σ3 H3 S3 _ => hbody σ3 H3 _ S3 fun v' σ' H' S4 => KR v' σ' H' (by rw [← ef]; exact S4.under lw)
            | exc x sd4 =>
              rw [eb] at ef hbody
              refine .inr ⟨wg, fun _ _ => False, fun _ _ h => h.elim, fun v H' y => ?_⟩
              exact htg v H' _ (wy v H' y) fun σ3 H3 S3 _ => hbody σ3 H3 _ S3 fun cls dx σ' H' S4 ex => KX cls dx σ' H' (by rw [← ef]; exact ⟨S4.pops lw, ex⟩)
        · have ed : xs.drop i = [] := List.drop_eq_nil_of_le (by omega)
          rw [ed] at ef
          exact .inl ⟨w2 (by omega), K σ2 H2 (by rw [← ef]; exact S2.pops lw)⟩
      cases o with
      | bad => trivial
      | nx sd' => exact fun k => go (by simp) (fun σ' H' h => k σ' H' h) (fun _ _ _ h => h.elim) (fun _ _ _ _ h => h.elim)
      | ret d sd' => exact fun k => go (by simp) (fun _ _ h => h.elim) (fun v σ' H' h => k v σ' H' h) (fun _ _ _ _ h => h.elim)
      | exc x sd' => exact fun k => go (by simp) (fun _ _ h => h.elim) (fun _ _ _ h => h.elim) (fun cls dx σ' H' h => k cls dx σ' H' h.1 h.2)
      | brk sd' =>
        have nb : ∀ (ys : List FS.D) sd, forL t body ys sd ≠ .brk sd' := by
          intro ys
          induction ys with
          | nil => intro sd h; cases h
          | cons y ys ih =>
            intro sd h
            unfold forL at h
            split at h
            · cases h
            · split at h <;> first | exact ih _ h | cases h
        exact absurd ho (nb xs sd1)
      | ct sd' =>
        have nb : ∀ (ys : List FS.D) sd, forL t body ys sd ≠ .ct sd' := by
          intro ys
          induction ys with
          | nil => intro sd h; cases h
          | cons y ys ih =>
            intro sd h
            unfold forL at h
            split at h
            · cases h
            · split at h <;> first | exact ih _ h | cases h
        exact absurd ho (nb xs sd1)
    exact key _ rfl
theorem SO.for_ {tg iter : Expr} {body : List Stmt} {p : Pos} {t : Tg} {js : List Nat} {src : M (List D)} {m : MS} (hi : IO Γ tg iter src) (hg : GO Γ tg t js) (hb : BO Γ body m) (hs : ∀ env x, foldedSetIterable iter env x = pure x := by intro _ _; rfl) : SO Γ (.For tg iter body [] p) (sFor t src m) := fun X W C tk => by
  obtain ⟨wi, p1, s1⟩ := hi X W C tk
  obtain ⟨g, p2, s2⟩ := hg X W C tk
  obtain ⟨tb, p3, s3⟩ := hb X W C tk
  exact ⟨_, ps_for C.pas C.calm p1 p2 p3 (hs _), simFor s1 s2 s3⟩
theorem simWhile {X : Cx} {refs : List Nat} {W : WX} {tc : TT} {tb : TS} {c : M Bool} {body : MS} (s1 : SimT X refs W tc c) (s2 : SimS X refs W tb body) : SimS X refs W (tWhile tc tb) (sWhile c body) := fun f sd σ ds vs H D hr S => by
  by_cases hx : ∃ n, (whileN c body n sd).isSome = true
  case neg =>
    unfold sWhile
    rw [dif_neg hx]
    trivial
  obtain ⟨n, hn⟩ := hx
  obtain ⟨o, ho⟩ := Option.isSome_iff_exists.mp hn
  rw [sWhile_of ho]
  have go : ∀ (hnb : o ≠ .bad) (K : ∀ σ' H', (match o with | .nx sd' => SIX X f sd' σ' ds vs H' | _ => False) → D.nx σ' H')
      (KR : ∀ v σ' H', (match o with | .ret d sd' => SIX X f sd' σ' (d :: ds) (v :: vs) H' | _ => False) → D.rt v H')
      (KX : ∀ cls dx σ' H', (match o with | .exc x sd' => SIX X f sd' σ' ds vs H' ∧ ExR X.K X.mg x cls dx H' | _ => False) → W cls dx σ' H'), tWhile tc tb D σ H := by
    intro hnb K KR KX
    refine ⟨fun m σ H => ∃ sdi, SIX X f sdi σ ds vs H ∧ whileN c body m sdi = some o, ⟨n, sd, S, ho⟩, ?_⟩
    rintro m σ2 H2 ⟨sdi, S2, ew⟩
    cases m with
    | zero => cases ew
    | succ m =>
      unfold whileN at ew
      have h1 := fun Q => s1 f sdi σ2 ds vs H2 Q hr S2
      cases ec : c sdi with
      | bad => rw [ec] at ew; exact absurd (Option.some.inj ew).symm hnb
      | exc x sd3 =>
        rw [ec] at ew h1
        have ew' := Option.some.inj ew
        exact h1 _ fun cls dx H' S3 ex => KX cls dx σ2 H' (by rw [← ew']; exact ⟨S3, ex⟩)
      | ok b sd3 =>
        rw [ec] at ew h1
        cases b with
        | false =>
          have ew' := Option.some.inj ew
          refine h1 _ fun H' S3 => ?_
          rw [if_neg Bool.false_ne_true]
          exact K σ2 H' (by rw [← ew']; exact S3)
        | true =>
          dsimp only at ew
          refine h1 _ fun H' S3 => ?_
          rw [if_pos rfl]
          have hbody := fun DD => s2 f sd3 σ2 ds vs H' DD hr S3
          cases eb : body sd3 with
          | bad => rw [eb] at ew; exact absurd (Option.some.inj ew).symm hnb
          | nx sd4 =>
            rw [eb] at ew hbody
            exact ⟨fun σ' H' => SIX X f sd4 σ' ds vs H', fun σ' H' S4 => ⟨m, Nat.lt_succ_self _, sd4, S4, ew⟩, hbody _ fun σ' H' S4 => S4⟩
          | ct sd4 =>
            rw [eb] at ew hbody
            exact ⟨fun σ' H' => SIX X f sd4 σ' ds vs H', fun σ' H' S4 => ⟨m, Nat.lt_succ_self _, sd4, S4, ew⟩, hbody _ fun σ' H' S4 => S4⟩
          | brk sd4 =>
            rw [eb] at ew hbody
            have ew' := Option.some.inj ew
            exact ⟨fun _ _ => False, fun _ _ h => h.elim, hbody _ fun σ' H' S4 => K σ' H' (by rw [← ew']; exact S4)⟩
          | ret d sd4 =>
            rw [eb] at ew hbody
            have ew' := Option.some.inj ew
            exact ⟨fun _ _ => False, fun _ _ h => h.elim, hbody _ fun v σ' H' S4 => KR v σ' H' (by rw [← ew']; exact S4)⟩
          | exc x sd4 =>
            rw [eb] at ew hbody
            have ew' := Option.some.inj ew
            exact ⟨fun _ _ => False, fun _ _ h => h.elim, hbody _ fun cls dx σ' H' S4 ex => KX cls dx σ' H' (by rw [← ew']; exact ⟨S4, ex⟩)⟩
  have nob : ∀ sd', o ≠ .brk sd' ∧ o ≠ .ct sd' := by
    intro sd'
    have : ∀ n sd, whileN c body n sd ≠ some (.brk sd') ∧ whileN c body n sd ≠ some (.ct sd') := by
      intro n
      induction n with
      | zero => intro sd; exact ⟨fun h => (by cases h), fun h => (by cases h)⟩
      | succ n ih =>
        intro sd
        unfold whileN
        constructor
        · intro h
          split at h
          · cases h
          · cases h
          · cases h
          · split at h <;> first | exact (ih _).1 h | cases h
        · intro h
          split at h
          · cases h
          · cases h
          · cases h
          · split at h <;> first | exact (ih _).2 h | cases h
    exact ⟨fun e => (this n sd).1 (by rw [← e]; exact ho), fun e => (this n sd).2 (by rw [← e]; exact ho)⟩
  cases o with
  | bad => trivial
  | nx sd' => exact fun k => go (by simp) (fun σ' H' h => k σ' H' h) (fun _ _ _ h => h.elim) (fun _ _ _ _ h => h.elim)
  | ret d sd' => exact fun k => go (by simp) (fun _ _ h => h.elim) (fun v σ' H' h => k v σ' H' h) (fun _ _ _ _ h => h.elim)
  | exc x sd' => exact fun k => go (by simp) (fun _ _ h => h.elim) (fun _ _ _ h => h.elim) (fun cls dx σ' H' h => k cls dx σ' H' h.1 h.2)
  | brk sd' => exact absurd rfl (nob sd').1
  | ct sd' => exact absurd rfl (nob sd').2
theorem SO.while_ {c : Expr} {body : List Stmt} {p : Pos} {mc : M Bool} {m : MS} (hc : TO Γ c mc) (hb : BO Γ body m) : SO Γ (.While c body [] p) (sWhile mc m) := fun X W C tk => by
  obtain ⟨t, p1, s1⟩ := hc X W C tk
  obtain ⟨u, p2, s2⟩ := hb X W C tk
  exact ⟨_, ps_while C.pas p1 p2, simWhile s1 s2⟩
end
end FS

/-! Defs: a def keeps the contract of its body. -/
namespace FS
open PySem PySem.Spec PyProof.Rows L2

theorem sreps_none {K : PySem.W.Frag} {mg : Str → Option Value} {Z : Addr → Prop} {H : Hp} : ∀ n : Nat, SReps K mg Z H (List.replicate n none) (List.replicate n none) []
  | 0 => ⟨rfl, rfl⟩
  | n + 1 => ⟨none, List.replicate n none, rfl, sreps_none n⟩
theorem sreps_start {K : PySem.W.Frag} {mg : Str → Option Value} {Z : Addr → Prop} {H : Hp} (k : Nat) : ∀ {ds : List D} {vs : List V} {G : List Addr}, Reps K mg Z H ds vs G → SReps K mg Z H (ds.map some ++ List.replicate k none) (vs.map some ++ List.replicate k none) G
  | [], vs, G, h => by
    obtain ⟨rfl, rfl⟩ := (show vs = [] ∧ G = [] from h)
    exact sreps_none k
  | d :: ds, vs, G, h => by
    obtain ⟨v, vr, F1, F2, e1, e2, h1, h2⟩ := (show ∃ v vr F1 F2, vs = v :: vr ∧ G = F1 ++ F2 ∧ Rep K mg Z H d v F1 ∧ Reps K mg Z H ds vr F2 from h)
    subst e1 e2
    exact ⟨v, _, F1, F2, rfl, rfl, h1, sreps_start k h2⟩

/-- the slots that are handed back go to the temporaries -/
theorem SI.params {X : Cx} {f : Fr0} {σ : L2.St} {H : Hp} {ds : List D} {vs us : List V} : ∀ {refs : List Nat} {sd : Sl} {ps : List D}, refs.Nodup → (∀ i ∈ refs, ∃ v, us[i]? = some v ∧ σ[i]? = some (some v)) → FS.params refs sd = some ps → SIX X f sd σ ds vs H →
    ∃ sd', SIX X f sd' σ (ps ++ ds) (pick refs us ++ vs) H ∧ ∀ j, j ∉ refs → at? sd' j = at? sd j
  | [], sd, ps, _, _, e, S => by
    cases e
    exact ⟨sd, S, fun _ _ => rfl⟩
  | i :: is, sd, ps, nd, hv, e, S => by
    unfold FS.params at e
    cases e1 : at? sd i with
    | none => rw [e1] at e; cases e
    | some d =>
      rw [e1] at e
      dsimp only [Option.bind] at e
      cases e2 : FS.params is sd with
      | none => rw [e2] at e; cases e
      | some ps' =>
        rw [e2] at e
        cases e
        obtain ⟨ni, nd'⟩ := List.nodup_cons.mp nd
        obtain ⟨sd1, S1, h1⟩ := SI.params nd' (fun j hj => hv j (List.mem_cons_of_mem _ hj)) e2 S
        have e3 : at? sd1 i = some d := (h1 i ni).trans e1
        obtain ⟨Z, F, G, S1⟩ := S1
        obtain ⟨v, F', Fx, e4, S2, _⟩ := S1.mov e3
        obtain ⟨v', e5, e6⟩ := hv i List.mem_cons_self
        rw [e4] at e6
        cases e6
        refine ⟨sd1.set i none, ?_, fun j hj => ?_⟩
        · have : pick (i :: is) us = v :: pick is us := by
            unfold pick
            rw [List.filterMap_cons, e5]
          rw [this]
          exact ⟨Z, F', _, S2⟩
        · have n1 : j ≠ i := fun z => hj (z ▸ List.mem_cons_self)
          rw [at?_set_ne (Ne.symm n1)]
          exact h1 j fun z => hj (List.mem_cons_of_mem _ z)

/-- what is known, behind the top, of a def -/
def Known (P : Program) (w : World) (K : PySem.W.Frag) (mg : Str → Option Value) (base : Heap) (k : Nat) (p : Fn) : Prop :=
  ∃ f fd ps, FnOk P w K mg base (L2.CX P w) k f fd ps (spOf K mg p.n p.refs p.con) ∧ mg p.name = some (.ref f) ∧ PySem.W.keepIn K (.ref f) = true ∧ Binds K fd ps []
theorem Known.mono {P : Program} {w : World} {K : PySem.W.Frag} {mg : Str → Option Value} {base : Heap} {j k : Nat} {p : Fn} (h : Known P w K mg base j p) (l : j ≤ k) : Known P w K mg base k p := by
  obtain ⟨f, fd, ps, F, a⟩ := h
  exact ⟨f, fd, ps, F.mono l, a⟩

theorem def_ok {P : Program} {w : World} {K : PySem.W.Frag} {mg : Str → Option Value} {base : Heap} {x qual : Str} {st : Stmt} {f : Addr} {fd : FuncData} {Γ : Gam} {ps : List Str} {k : Nat} {m : MS} (F : Fun K x qual st f fd) (S : FnScope Γ.N ps (defScope st)) (hsc : Γ.sc = defScope st) (hpl : ps.length ≤ Γ.N.length)
    (fns : ∀ p ∈ Γ.fns, Known P w K mg base k p) (blt : ∀ x ∈ Γ.blt, mg x = none) (cns : ∀ p ∈ Γ.cns, ∃ u v, mg p.1 = some u ∧ RelV v u ∧ ∀ Z H, Rep K mg Z H p.2 v []) (exs : ∀ p ∈ Γ.exs, ∃ j, j + 1 ≤ k ∧ ExcAt P w K mg base j p.1 p.2) (exm : ∀ p ∈ Γ.exm, ∃ C' C, mg p.1 = some (.ref C') ∧ mg p.2.1 = some (.ref C) ∧ PySem.W.exmOne K (.ref C') (.ref C) = some p.2.2)
    (xfs : ∀ p ∈ Γ.xfs, ∃ C, mg p.1 = some (.ref C) ∧ XfC K C ∧ PySem.W.findIn K (.ref C) p.2 = some none) (hrn : Γ.refs.Nodup) (hrl : ∀ i ∈ Γ.refs, i < ps.length) (hB : BO Γ (defBody st) m) :
    FnOk P w K mg base (L2.CX P w) (k + 1) f fd ps (spOf K mg ps.length Γ.refs (runDef ps.length Γ.N.length Γ.refs m)) := by
  refine F.okX S (fun vs H Q E h => h.1) fun cdv A outer s H vs Q E hr h => ?_
  obtain ⟨hl, ds, Z, G, r, nd, nz, zin, h⟩ := h
  let X : Cx := cxOf (L2.CX P w) P w K mg base Γ.N qual (defScope st) f cdv A outer s H E
  have C : Ctx Γ X := {
    N := rfl
    nd := S.nd
    sc := hsc.symm
    calm := rfl
    pas := passes_of rfl
    un := by have := hr.un; show (A.deeper _).units + 70 < _; omega
    st := fun x _ => .inl rfl
    fns := fun p hp => by
      obtain ⟨g, gd, gp, F1, a, b, c⟩ := fns p hp
      exact ⟨k, g, gd, gp, F1, hr, a, b, c⟩
    blt := blt
    cns := cns
    exs := fun p hp => by
      obtain ⟨j, hj, e⟩ := exs p hp
      exact ⟨j, e, hr.mono hj⟩
    exm := exm
    xfs := xfs
    top := fun _ => ⟨rfl, rfl⟩ }
  have tk : Takes X (fun cls d _ H => E cls d H) := takes_of rfl rfl rfl rfl
  obtain ⟨t, p1, s1⟩ := hB X _ C tk
  refine ⟨t, p1, ?_⟩
  have hpick : ∀ i ∈ Γ.refs, ∃ v, vs[i]? = some v := fun i hi => ⟨_, List.getElem?_eq_getElem (by rw [hl]; exact hrl i hi)⟩
  -- the entry
  let fr : Fr0 := { H0 := H, A0 := G, Z0 := Z, V0 := Γ.refs.filterMap fun i => (vs[i]?).map fun v => (i, v) }
  have hV0 : ∀ p ∈ fr.V0, p.1 ∈ Γ.refs ∧ vs[p.1]? = some p.2 := fun p hp => by
    obtain ⟨i, hi, e⟩ := List.mem_filterMap.mp hp
    cases q : vs[i]? with
    | none => rw [q] at e; cases e
    | some v => rw [q] at e; cases e; exact ⟨hi, q⟩
  have hin0 : ∀ i ∈ Γ.refs, ∀ v, vs[i]? = some v → (i, v) ∈ fr.V0 := fun i hi v e => List.mem_filterMap.mpr ⟨i, hi, by rw [e]; rfl⟩
  have ld : ds.length = ps.length := by rw [r.length, hl]
  have S0 : SIX X fr (startSl Γ.N.length ds) (L2.start Γ.N vs) [] [] H := by
    refine ⟨Z, G, [], ⟨?_, ⟨rfl, rfl⟩, by rw [List.append_nil]; exact nd, fun a ha => nz a (by rwa [List.append_nil] at ha), zin, fun a z => z, fun a z => .inl z, fun a ha => .inl (by rwa [List.append_nil] at ha), fun a o e _ => ⟨o, e, .rfl', .inl rfl⟩, fun p hp => ?_⟩⟩
    · unfold startSl L2.start
      rw [ld, hl]
      exact sreps_start _ r
    · obtain ⟨_, e⟩ := hV0 p hp
      have hlt : p.1 < vs.length := (List.getElem?_eq_some_iff.mp e).1
      unfold L2.start
      rw [List.getElem?_append_left (by simpa using hlt), List.getElem?_map, e]
      rfl
  have h1 := s1 fr (startSl Γ.N.length ds) (L2.start Γ.N vs) [] [] H { nx := fun _ H' => Q .non H', rt := Q } (fun p hp => (hV0 p hp).1) S0
  unfold runDef at h
  rw [if_pos ld] at h
  -- the end
  have fin : ∀ d sd' v σ' H', SIX X fr sd' σ' [d] [v] H' → (match endOf Γ.refs d sd' with
      | .bad => False
      | .ok d ps => ∀ v H' Z' G', Reps K mg Z' H' (ps ++ [d]) (pick Γ.refs vs ++ [v]) G' → G'.Nodup → (∀ a ∈ G', ¬ Z' a) → (∀ a, Z' a → H' a ≠ none) → (∀ a, Z a → Z' a) → (∀ a, Z' a → Z a ∨ a ∈ G ∨ H a = none) →
          (∀ a ∈ G', a ∈ G ∨ H a = none) → Kp Z G H H' → Q v H'
      | .exc x => ∀ cls dx H', ExR K mg x cls dx H' → Kp Z G H H' → E cls dx H') → Q v H' := fun d sd' v σ' H' S' q => by
    unfold endOf at q
    cases e : FS.params Γ.refs sd' with
    | none => rw [e] at q; exact q.elim
    | some ps' =>
      rw [e] at q
      dsimp only at q
      obtain ⟨Z1, F1, G1, S1⟩ := S'
      have hpin : ∀ i ∈ Γ.refs, ∃ v, vs[i]? = some v ∧ σ'[i]? = some (some v) := fun i hi => by
        obtain ⟨v, e⟩ := hpick i hi
        exact ⟨v, e, S1.pins _ (hin0 i hi v e)⟩
      obtain ⟨sd2, S2, _⟩ := SI.params hrn hpin e (show SIX X fr sd' σ' [d] [v] H' from ⟨Z1, F1, G1, S1⟩)
      obtain ⟨Z2, F2, G2, S2⟩ := S2
      have nd2 := S2.nd
      rw [List.nodup_append] at nd2
      exact q v H' Z2 G2 S2.temps nd2.2.1 (fun a ha => S2.nz a (List.mem_append_right _ ha)) S2.zin S2.zlow S2.zup (fun a ha => S2.own a (List.mem_append_right _ ha)) S2.keep
  cases em : m (startSl Γ.N.length ds) with
  | bad => rw [em] at h; exact h.elim
  | brk sd' => rw [em] at h; exact h.elim
  | ct sd' => rw [em] at h; exact h.elim
  | nx sd' =>
    rw [em] at h h1
    refine h1 fun σ' H' S' => ?_
    obtain ⟨Z1, F1, G1, S1⟩ := S'
    exact fin .non sd' .non σ' H' ⟨Z1, F1, G1, S1.push0 ⟨rfl, rfl⟩⟩ h
  | ret d sd' =>
    rw [em] at h h1
    exact h1 fun v σ' H' S' => fin d sd' v σ' H' S' h
  | exc x sd' =>
    rw [em] at h h1
    refine h1 fun cls dx σ' H' S' ex => ?_
    obtain ⟨Z1, F1, G1, S1⟩ := S'
    exact h cls dx H' ex S1.keep
end FS

/-! Ops: operators and built-ins by values. -/
namespace FS
open PySem PySem.Spec PyProof.Rows L2

section
variable {K : PySem.W.Frag} {mg : Str → Option Value} {Z : Addr → Prop} {H : Hp}
theorem Rep.eInt {i : Int} {v : V} {F : List Addr} (r : Rep K mg Z H (.int i) v F) : v = .int i := (show _ ∧ _ from r).1
theorem Rep.eBl {i : Bool} {v : V} {F : List Addr} (r : Rep K mg Z H (.bl i) v F) : v = .bl i := (show _ ∧ _ from r).1
theorem Rep.eStr {i : Str} {v : V} {F : List Addr} (r : Rep K mg Z H (.str i) v F) : v = .str i := (show _ ∧ _ from r).1
theorem Rep.eNon {v : V} {F : List Addr} (r : Rep K mg Z H .non v F) : v = .non := (show _ ∧ _ from r).1
theorem Rep.int {i : Int} : Rep K mg Z H (.int i) (.int i) [] := ⟨rfl, rfl⟩
theorem Rep.bl {i : Bool} : Rep K mg Z H (.bl i) (.bl i) [] := ⟨rfl, rfl⟩
theorem Rep.str {i : Str} : Rep K mg Z H (.str i) (.str i) [] := ⟨rfl, rfl⟩
theorem Rep.non : Rep K mg Z H .non .non [] := ⟨rfl, rfl⟩
/-- a list, owned or frozen -/
theorem Rep.lstAt {o : Bool} {xs : List D} {v : V} {F : List Addr} (r : Rep K mg Z H (.lst o xs) v F) : ∃ a vs Fx, v = .ref a ∧ H a = some (.lst vs) ∧ Reps K mg Z H xs vs Fx ∧ ∀ b ∈ Fx, b ∈ F := by
  obtain ⟨a, vs, Fx, ev, rr, q⟩ := (show ∃ a vs Fx, v = .ref a ∧ Reps K mg Z H xs vs Fx ∧ _ from r)
  rcases q with ⟨_, q, e⟩ | ⟨_, q, e, _⟩
  · exact ⟨a, vs, Fx, ev, q, rr, fun b hb => by rw [e]; exact List.mem_cons_of_mem _ hb⟩
  · exact ⟨a, vs, Fx, ev, q.1, rr, fun b hb => by rw [e] at hb; cases hb⟩
theorem Rep.tupAt {xs : List D} {v : V} {F : List Addr} (r : Rep K mg Z H (.tup xs) v F) : ∃ a vs, v = .ref a ∧ SqT K H a vs ∧ Reps K mg Z H xs vs F := r
theorem Rep.dkAt {o : Bool} {ks : List Key} {xs : List D} {v : V} {F : List Addr} (r : Rep K mg Z H (.dk o ks xs) v F) : ∃ a vs Fx, v = .ref a ∧ Rd H a (.dK (ks.zip vs)) ∧ ks.length = vs.length ∧ Reps K mg Z H xs vs Fx ∧ ∀ b ∈ Fx, b ∈ F := by
  obtain ⟨a, vs, Fx, ev, rr, l, q⟩ := (show ∃ a vs Fx, v = .ref a ∧ Reps K mg Z H xs vs Fx ∧ ks.length = vs.length ∧ _ from r)
  rcases q with ⟨_, q, e⟩ | ⟨_, q, e, _⟩
  · exact ⟨a, vs, Fx, ev, .inl q, l, rr, fun b hb => by rw [e]; exact List.mem_cons_of_mem _ hb⟩
  · exact ⟨a, vs, Fx, ev, q.1, l, rr, fun b hb => by rw [e] at hb; cases hb⟩
theorem Rep.dtAt {o : Bool} {ks : List (List Key)} {xs : List D} {v : V} {F : List Addr} (r : Rep K mg Z H (.dt o ks xs) v F) : ∃ a vs Fx, v = .ref a ∧ Rd H a (.dT (ks.zip vs)) ∧ ks.length = vs.length ∧ Reps K mg Z H xs vs Fx ∧ ∀ b ∈ Fx, b ∈ F := by
  obtain ⟨a, vs, Fx, ev, rr, l, q⟩ := (show ∃ a vs Fx, v = .ref a ∧ Reps K mg Z H xs vs Fx ∧ ks.length = vs.length ∧ _ from r)
  rcases q with ⟨_, q, e⟩ | ⟨_, q, e, _⟩
  · exact ⟨a, vs, Fx, ev, .inl q, l, rr, fun b hb => by rw [e]; exact List.mem_cons_of_mem _ hb⟩
  · exact ⟨a, vs, Fx, ev, q.1, l, rr, fun b hb => by rw [e] at hb; cases hb⟩
end

/-! ### data -/
mutual
def toP : D → PyData
  | .non => .none
  | .bl b => .bool b
  | .int i => .int i
  | .str s => .str s
  | .lst _ xs => .list (toPs xs)
  | .tup xs => .tuple (toPs xs)
  | .dk _ _ _ => .none
  | .dt _ _ _ => .none
  | .obj _ _ _ _ => .none
  | .scr _ => .none
  | .lk _ _ _ => .none
def toPs : List D → List PyData
  | [] => []
  | x :: xs => toP x :: toPs xs
end
mutual
theorem toP_ok : ∀ (n : Nat) (d : D), okd n d = true → (toP d).canLay0 = true ∧ (toP d).depth ≤ n
  | n, .non, _ => ⟨rfl, Nat.zero_le _⟩
  | n, .bl b, _ => ⟨rfl, Nat.zero_le _⟩
  | n, .int i, _ => ⟨rfl, Nat.zero_le _⟩
  | n, .str s, h => ⟨by simp only [okd] at h; exact h, Nat.zero_le _⟩
  | n + 1, .lst o xs, h => by
    simp only [okd] at h
    obtain ⟨d2, d3⟩ := toPs_ok n xs h
    exact ⟨by simp only [toP, PyData.canLay0]; exact d2, by simp only [toP, PyData.depth]; omega⟩
  | n + 1, .tup xs, h => by
    simp only [okd] at h
    obtain ⟨d2, d3⟩ := toPs_ok n xs h
    exact ⟨by simp only [toP, PyData.canLay0]; exact d2, by simp only [toP, PyData.depth]; omega⟩
  | 0, .lst _ _, h => by simp [okd] at h
  | 0, .tup _, h => by simp [okd] at h
  | _, .dk _ _ _, h => by simp [okd] at h
  | _, .dt _ _ _, h => by simp [okd] at h
  | _, .obj _ _ _ _, h => by simp [okd] at h
  | _, .scr _, h => by simp [okd] at h
  | _, .lk _ _ _, h => by simp [okd] at h
theorem toPs_ok : ∀ (n : Nat) (ds : List D), okds n ds = true → PyData.canLayAll0 (toPs ds) = true ∧ PyData.depthAll (toPs ds) ≤ n
  | n, [], _ => ⟨rfl, Nat.zero_le _⟩
  | n, x :: xs, h => by
    simp only [okds, Bool.and_eq_true] at h
    obtain ⟨a2, a3⟩ := toP_ok n x h.1
    obtain ⟨b2, b3⟩ := toPs_ok n xs h.2
    refine ⟨by simp only [toPs, PyData.canLayAll0, a2, b2, Bool.and_self], ?_⟩
    simp only [toPs, PyData.depthAll]
    exact Nat.max_le.mpr ⟨a3, b3⟩
end
mutual
theorem dp_of {K : PySem.W.Frag} {mg : Str → Option Value} {Z : Addr → Prop} {H : Hp} : ∀ (n : Nat) (d : D) {v : V} {F : List Addr}, okd n d = true → Rep K mg Z H d v F → Dp K H v (toP d)
  | n, .non, v, F, _, r => by rw [r.eNon]; exact .non
  | n, .bl b, v, F, _, r => by rw [r.eBl]; exact .bl b
  | n, .int i, v, F, _, r => by rw [r.eInt]; exact .int i
  | n, .str s, v, F, h, r => by rw [r.eStr]; exact .str s
  | n + 1, .lst o xs, v, F, h, r => by
    simp only [okd] at h
    obtain ⟨a, vs, Fx, ev, q, rr, _⟩ := r.lstAt
    subst ev
    exact .lst (.inl (.inl q)) (dps_of n xs h rr)
  | n + 1, .tup xs, v, F, h, r => by
    simp only [okd] at h
    obtain ⟨a, vs, ev, q, rr⟩ := r.tupAt
    subst ev
    exact .tup q (dps_of n xs h rr)
  | 0, .lst _ _, _, _, h, _ => by simp [okd] at h
  | 0, .tup _, _, _, h, _ => by simp [okd] at h
  | _, .dk _ _ _, _, _, h, _ => by simp [okd] at h
  | _, .dt _ _ _, _, _, h, _ => by simp [okd] at h
  | _, .obj _ _ _ _, _, _, h, _ => by simp [okd] at h
  | _, .scr _, _, _, h, _ => by simp [okd] at h
  | _, .lk _ _ _, _, _, h, _ => by simp [okd] at h
theorem dps_of {K : PySem.W.Frag} {mg : Str → Option Value} {Z : Addr → Prop} {H : Hp} : ∀ (n : Nat) (ds : List D) {vs : List V} {F : List Addr}, okds n ds = true → Reps K mg Z H ds vs F → DpAll K H vs (toPs ds)
  | n, [], vs, F, _, r => by
    obtain ⟨rfl, _⟩ := (show vs = [] ∧ F = [] from r)
    exact .nil
  | n, x :: xs, vs, F, h, r => by
    simp only [okds, Bool.and_eq_true] at h
    obtain ⟨v, vr, F1, F2, e1, e2, h1, h2⟩ := (show ∃ v vr F1 F2, vs = v :: vr ∧ F = F1 ++ F2 ∧ Rep K mg Z H x v F1 ∧ Reps K mg Z H xs vr F2 from r)
    subst e1
    exact .cons (dp_of n x h.1 h1) (dps_of n xs h.2 h2)
end
mutual
theorem eqv_deq : ∀ (n m : Nat) (d e : D), okd n d = true → okd m e = true → PyData.eqv (toP d) (toP e) = deq d e
  | n, m, d, e, hd, he => by
    cases d with
    | lst o xs =>
      cases n with
      | zero => simp [okd] at hd
      | succ n =>
        cases e with
        | lst o' ys =>
          cases m with
          | zero => simp [okd] at he
          | succ m =>
            simp only [okd] at hd he
            simp only [toP, PyData.eqv, deq]
            exact eqvs_deqs n m xs ys hd he
        | dk _ _ _ => cases m <;> simp [okd] at he
        | dt _ _ _ => cases m <;> simp [okd] at he
        | obj _ _ _ _ => cases m <;> simp [okd] at he
        | scr _ => cases m <;> simp [okd] at he
        | lk _ _ _ => cases m <;> simp [okd] at he
        | _ => simp [toP, PyData.eqv, deq]
    | tup xs =>
      cases n with
      | zero => simp [okd] at hd
      | succ n =>
        cases e with
        | tup ys =>
          cases m with
          | zero => simp [okd] at he
          | succ m =>
            simp only [okd] at hd he
            simp only [toP, PyData.eqv, deq]
            exact eqvs_deqs n m xs ys hd he
        | dk _ _ _ => cases m <;> simp [okd] at he
        | dt _ _ _ => cases m <;> simp [okd] at he
        | obj _ _ _ _ => cases m <;> simp [okd] at he
        | scr _ => cases m <;> simp [okd] at he
        | lk _ _ _ => cases m <;> simp [okd] at he
        | _ => simp [toP, PyData.eqv, deq]
    | dk _ _ _ => cases n <;> simp [okd] at hd
    | dt _ _ _ => cases n <;> simp [okd] at hd
    | obj _ _ _ _ => cases n <;> simp [okd] at hd
    | scr _ => cases n <;> simp [okd] at hd
    | lk _ _ _ => cases n <;> simp [okd] at hd
    | _ =>
      cases e with
      | dk _ _ _ => cases m <;> simp [okd] at he
      | dt _ _ _ => cases m <;> simp [okd] at he
      | obj _ _ _ _ => cases m <;> simp [okd] at he
      | scr _ => cases m <;> simp [okd] at he
      | lk _ _ _ => cases m <;> simp [okd] at he
      | _ => simp [toP, PyData.eqv, deq]
theorem eqvs_deqs : ∀ (n m : Nat) (ds es : List D), okds n ds = true → okds m es = true → PyData.eqvAll (toPs ds) (toPs es) = deqs ds es
  | n, m, [], [], _, _ => by simp [toPs, PyData.eqvAll, deqs]
  | n, m, [], _ :: _, _, _ => by simp [toPs, PyData.eqvAll, deqs]
  | n, m, _ :: _, [], _, _ => by simp [toPs, PyData.eqvAll, deqs]
  | n, m, x :: xs, y :: ys, h, g => by
    simp only [okds, Bool.and_eq_true] at h g
    simp only [toPs, PyData.eqvAll, deqs]
    rw [eqv_deq n m x y h.1 g.1, eqvs_deqs n m xs ys h.2 g.2]
end
theorem shaped_ok {d : D} (h : okd 40 d = true) : SeqAt.shaped (toP d) = true := by
  obtain ⟨a, b⟩ := toP_ok 40 d h
  show ((toP d).canLay0 && decide ((toP d).depth ≤ 64)) = true
  rw [a, Bool.true_and]
  exact decide_eq_true (by omega)
theorem any_toPs (x : D) (n : Nat) (hx : okd n x = true) : ∀ (m : Nat) (ys : List D), okds m ys = true → ((toPs ys).any fun z => PyData.eqv z (toP x)) = ys.any fun y => deq y x
  | m, [], _ => rfl
  | m, y :: ys, h => by
    simp only [okds, Bool.and_eq_true] at h
    simp only [toPs, List.any_cons]
    rw [eqv_deq m n y x h.1 hx, any_toPs x n hx m ys h.2]

/-! ### comparisons -/
theorem cm_eq : CmQ .Eq eqD := fun X c u => ⟨_, op_eqD (by omega), fun Z H d1 d2 d v1 v2 F1 F2 e r1 r2 => by
  unfold eqD at e
  split at e
  · rename_i h
    rw [Bool.and_eq_true] at h
    cases e
    refine ⟨_, Rep.bl, fun Q q => ⟨toP d1, toP d2, dp_of 40 d1 h.1 r1, dp_of 40 d2 h.2 r2, shaped_ok h.1, shaped_ok h.2, ?_⟩⟩
    rw [eqv_deq 40 40 d1 d2 h.1 h.2]
    exact q
  · cases e⟩
theorem cm_ne : CmQ .NotEq neD := fun X c u => ⟨_, op_neD (by omega), fun Z H d1 d2 d v1 v2 F1 F2 e r1 r2 => by
  unfold neD at e
  split at e
  · rename_i h
    rw [Bool.and_eq_true] at h
    cases e
    refine ⟨_, Rep.bl, fun Q q => ⟨toP d1, toP d2, dp_of 40 d1 h.1 r1, dp_of 40 d2 h.2 r2, shaped_ok h.1, shaped_ok h.2, ?_⟩⟩
    rw [eqv_deq 40 40 d1 d2 h.1 h.2]
    exact q
  · cases e⟩
theorem cm_lt : CmQ .Lt ltD := fun X c u => ⟨_, op_lt, fun Z H d1 d2 d v1 v2 F1 F2 e r1 r2 => by
  unfold ltD at e
  split at e
  · cases e; exact ⟨_, Rep.bl, fun Q q => ⟨_, _, r1.eInt, r2.eInt, q⟩⟩
  · cases e⟩
theorem cm_le : CmQ .LtE leD := fun X c u => ⟨_, op_le, fun Z H d1 d2 d v1 v2 F1 F2 e r1 r2 => by
  unfold leD at e
  split at e
  · cases e; exact ⟨_, Rep.bl, fun Q q => ⟨_, _, r1.eInt, r2.eInt, q⟩⟩
  · cases e⟩
theorem cm_gt : CmQ .Gt gtD := fun X c u => ⟨_, op_gt, fun Z H d1 d2 d v1 v2 F1 F2 e r1 r2 => by
  unfold gtD at e
  split at e
  · cases e; exact ⟨_, Rep.bl, fun Q q => ⟨_, _, r1.eInt, r2.eInt, q⟩⟩
  · cases e⟩
theorem cm_ge : CmQ .GtE geD := fun X c u => ⟨_, op_ge, fun Z H d1 d2 d v1 v2 F1 F2 e r1 r2 => by
  unfold geD at e
  split at e
  · cases e; exact ⟨_, Rep.bl, fun Q q => ⟨_, _, r1.eInt, r2.eInt, q⟩⟩
  · cases e⟩
def nonB : D → Bool
  | .non => true
  | _ => false
/-- a value that is not None -/
theorem Rep.notNon {K : PySem.W.Frag} {mg : Str → Option Value} {Z : Addr → Prop} {H : Hp} {d : D} {v : V} {F : List Addr} (r : Rep K mg Z H d v F) : decide (v = .non) = nonB d := by
  cases d with
  | non => rw [r.eNon]; rfl
  | bl b => rw [r.eBl]; rfl
  | int i => rw [r.eInt]; rfl
  | str s => rw [r.eStr]; rfl
  | tup xs => obtain ⟨a, vs, ev, _⟩ := r.tupAt; rw [ev]; rfl
  | lst o xs => obtain ⟨a, vs, Fx, ev, _⟩ := r.lstAt; rw [ev]; rfl
  | dk o ks xs => obtain ⟨a, vs, Fx, ev, _⟩ := r.dkAt; rw [ev]; rfl
  | dt o ks xs => obtain ⟨a, vs, Fx, ev, _⟩ := r.dtAt; rw [ev]; rfl
  | obj o c ns xs =>
    obtain ⟨a, C, dx, vs, Fx, ev, _⟩ := (show ∃ a C dx vs Fx, v = .ref a ∧ _ from r)
    rw [ev]; rfl
  | lk a o k =>
    obtain ⟨ev, _⟩ := (show v = .ref a ∧ _ from r)
    rw [ev]; rfl
  | scr ns =>
    obtain ⟨a, ev, _⟩ := (show ∃ a, v = .ref a ∧ _ from r)
    rw [ev]; rfl
theorem cm_is : CmQ .Is isD := fun X c u => ⟨_, op_isBl.or op_isN, fun Z H d1 d2 d v1 v2 F1 F2 e r1 r2 => by
  unfold isD at e
  split at e
  · cases e; exact ⟨_, Rep.bl, fun Q q => .inl ⟨_, _, r1.eBl, r2.eBl, q⟩⟩
  · cases e
    refine ⟨_, Rep.bl, fun Q q => .inr ⟨r2.eNon, ?_⟩⟩
    rw [r1.notNon]; exact q
  · rename_i hn
    cases e
    refine ⟨_, Rep.bl, fun Q q => .inr ⟨r2.eNon, ?_⟩⟩
    rw [r1.notNon]
    cases d1 <;> first | exact q | exact (hn rfl).elim
  · cases e⟩
theorem cm_isNot : CmQ .IsNot isNotD := fun X c u => ⟨_, op_notBl.or op_notN, fun Z H d1 d2 d v1 v2 F1 F2 e r1 r2 => by
  unfold isNotD at e
  split at e
  · cases e; exact ⟨_, Rep.bl, fun Q q => .inl ⟨_, _, r1.eBl, r2.eBl, q⟩⟩
  · cases e
    refine ⟨_, Rep.bl, fun Q q => .inr ⟨r2.eNon, ?_⟩⟩
    rw [r1.notNon]; exact q
  · rename_i hn
    cases e
    refine ⟨_, Rep.bl, fun Q q => .inr ⟨r2.eNon, ?_⟩⟩
    rw [r1.notNon]
    cases d1 <;> first | exact q | exact (hn rfl).elim
  · cases e⟩

/-! ### arithmetic -/
theorem oq_addI : OpQ .Add addI := fun X c u => ⟨_, op_add, fun Z H d1 d2 d v1 v2 F1 F2 e r1 r2 => by
  unfold addI at e
  split at e
  · cases e; exact ⟨_, Rep.int, fun Q q => ⟨_, _, r1.eInt, r2.eInt, q⟩⟩
  · cases e⟩
theorem oq_sub : OpQ .Sub subD := fun X c u => ⟨_, op_sub, fun Z H d1 d2 d v1 v2 F1 F2 e r1 r2 => by
  unfold subD at e
  split at e
  · cases e; exact ⟨_, Rep.int, fun Q q => ⟨_, _, r1.eInt, r2.eInt, q⟩⟩
  · cases e⟩
theorem oq_mul : OpQ .Mult mulD := fun X c u => ⟨_, op_mulW, fun Z H d1 d2 d v1 v2 F1 F2 e r1 r2 => by
  unfold mulD at e
  split at e
  · split at e
    · rename_i h
      cases e; exact ⟨_, Rep.int, fun Q q => ⟨_, _, r1.eInt, r2.eInt, h, q⟩⟩
    · cases e
  · cases e⟩
theorem op_fdivWN {X : Cx} : OpR X (binaryOp .FloorDiv) (rI (fun _ j => j ≠ 0 ∧ j.natAbs.log2 < 9000) fun i j => .int (i.fdiv j)) := opI fun _ _ _ _ _ _ _ hc q => floordiv_int hc.1 q (.inl (PyProof.noPylong_of_log2 hc.2))
theorem oq_fdiv : OpQ .FloorDiv fdivD := fun X c u => ⟨_, op_fdivWN, fun Z H d1 d2 d v1 v2 F1 F2 e r1 r2 => by
  unfold fdivD at e
  split at e
  · split at e
    · rename_i h
      cases e; exact ⟨_, Rep.int, fun Q q => ⟨_, _, r1.eInt, r2.eInt, h, q⟩⟩
    · cases e
  · cases e⟩
theorem oq_mod : OpQ .Mod modD := fun X c u => ⟨_, op_modN, fun Z H d1 d2 d v1 v2 F1 F2 e r1 r2 => by
  unfold modD at e
  split at e
  · split at e
    · rename_i h
      cases e; exact ⟨_, Rep.int, fun Q q => ⟨_, _, r1.eInt, r2.eInt, h, q⟩⟩
    · cases e
  · cases e⟩
theorem oq_pow : OpQ .Pow powD := fun X c u => ⟨_, op_pow, fun Z H d1 d2 d v1 v2 F1 F2 e r1 r2 => by
  unfold powD at e
  split at e
  · split at e
    · rename_i h
      cases e; exact ⟨_, Rep.int, fun Q q => ⟨_, _, r1.eInt, r2.eInt, h, q⟩⟩
    · cases e
  · cases e⟩
/-- a new list -/
theorem new_lst {X : Cx} {Z : Addr → Prop} {H : Hp} {xs : List D} {vs : List V} {p : Addr} (r : Reps X.K X.mg Z H xs vs []) (hp : H p = none) : New X Z H (.lst true xs) (.ref p) (upd H p (.lst vs)) :=
  ⟨Ext.upd hp, [p], ⟨p, vs, [], rfl, r.keep (fun _ z => z) xs (Ext.upd hp).keepAt, .inl ⟨rfl, upd_same, rfl⟩⟩, by simp, fun a ha => by
    have e : a = p := by simpa using ha
    rw [e]; exact hp⟩
theorem new_tup {X : Cx} {Z : Addr → Prop} {H : Hp} {xs : List D} {vs : List V} {p : Addr} (r : Reps X.K X.mg Z H xs vs []) (hp : H p = none) : New X Z H (.tup xs) (.ref p) (upd H p (.tup vs)) :=
  ⟨Ext.upd hp, [], ⟨p, vs, rfl, .inl (.inl upd_same), r.keep (fun _ z => z) xs (Ext.upd hp).keepAt⟩, by simp, fun a ha => by cases ha⟩
/-- of a frozen value -/
theorem Reps.nil0 {K : PySem.W.Frag} {mg : Str → Option Value} {Z : Addr → Prop} {H : Hp} {xs : List D} {vs : List V} {F G : List Addr} (r : Reps K mg Z H xs vs F) (h : ∀ b ∈ F, b ∈ G) (hG : G = []) : Reps K mg Z H xs vs [] := by
  subst hG
  cases F with
  | nil => exact r
  | cons a F => exact absurd (h a List.mem_cons_self) (by simp)
theorem oa_add : OpA .Add addD := fun X c u => ⟨_, op_add.or (op_add_str.or (op_cat.or op_catA)), fun Z H d1 d2 d v1 v2 e r1 r2 Q q => by
  unfold addD at e
  split at e
  · cases e; exact .inl ⟨_, _, r1.eInt, r2.eInt, q _ H (.of Rep.int)⟩
  · split at e
    · rename_i h
      cases e
      exact .inr (.inl ⟨_, _, r1.eStr, r2.eStr, by rw [sizeLine_eq]; exact h, q _ H (.of Rep.str)⟩)
    · cases e
  · rename_i xs ys
    split at e
    · rename_i h
      cases e
      obtain ⟨a, vs, ev, s1, rr1⟩ := r1.tupAt
      obtain ⟨b, us, eu, s2, rr2⟩ := r2.tupAt
      refine .inr (.inr (.inr ⟨a, b, vs, us, ev, eu, s1, s2, by rw [← rr1.length, ← rr2.length, sizeLine_eq]; exact h, fun e => ?_, fun e1 e2 => ?_, fun e1 e2 p hp => ?_⟩))
      · have hx : xs = [] := List.length_eq_zero_iff.mp (by rw [rr1.length, e]; rfl)
        subst hx
        rw [List.nil_append] at q
        rw [← eu]
        exact q _ H (.of r2)
      · have hy : ys = [] := List.length_eq_zero_iff.mp (by rw [rr2.length, e2]; rfl)
        subst hy
        rw [List.append_nil] at q
        rw [← ev]
        exact q _ H (.of r1)
      · exact q _ _ (new_tup (by have := rr1.append rr2; exact this) hp)
    · cases e
  · rename_i o1 xs o2 ys
    split at e
    · rename_i h
      cases e
      obtain ⟨a, vs, Fx, ev, s1, rr1, z1⟩ := r1.lstAt
      obtain ⟨b, us, Fy, eu, s2, rr2, z2⟩ := r2.lstAt
      exact .inr (.inr (.inl ⟨a, b, vs, us, ev, eu, s1, s2, by rw [← rr1.length, ← rr2.length, sizeLine_eq]; exact h, fun p hp => q _ _ (new_lst ((rr1.nil0 z1 rfl).append (rr2.nil0 z2 rfl)) hp)⟩))
    · cases e
  · cases e⟩
theorem reps_flat {K : PySem.W.Frag} {mg : Str → Option Value} {Z : Addr → Prop} {H : Hp} {xs : List D} {vs : List V} (r : Reps K mg Z H xs vs []) : ∀ k : Nat, Reps K mg Z H (List.replicate k xs).flatten (List.replicate k vs).flatten []
  | 0 => ⟨rfl, rfl⟩
  | k + 1 => by
    rw [List.replicate_succ, List.replicate_succ, List.flatten_cons, List.flatten_cons]
    exact r.append (reps_flat r k)
theorem oa_rep : OpA .Mult repD := fun X c u => ⟨_, op_rep, fun Z H d1 d2 d v1 v2 e r1 r2 Q q => by
  unfold repD at e
  split at e
  · split at e
    · rename_i h
      cases e
      obtain ⟨a, vs, Fx, ev, s1, rr1, z1⟩ := r1.lstAt
      exact ⟨a, _, vs, ev, r2.eInt, s1, h.1, h.2.1, by rw [← rr1.length, sizeLine_eq]; exact h.2.2, fun p hp => q _ _ (new_lst (reps_flat (rr1.nil0 z1 rfl) _) hp)⟩
    · cases e
  · cases e⟩
end FS

/-! Blt: in, subscripts, built-in functions. -/
namespace FS
open PySem PySem.Spec PyProof.Rows L2

/-! ### in -/
def rInTD (K : PySem.W.Frag) (neg : Bool) : R2 := fun x y H Q => ∃ d ds, Dp K H x d ∧ Dp K H y (.tuple ds) ∧ SeqAt.shaped d = true ∧ SeqAt.shaped (.tuple ds) = true ∧ Q (.bl (if neg then !(ds.any fun z => PyData.eqv z d) else ds.any fun z => PyData.eqv z d)) H
theorem op_inTD {X : Cx} (hu : X.A.units + 65 < cLine) : OpR X (compareOp .In) (rInTD X.K false) := by
  intro pins s σ H x y v u Q I rx ry h
  obtain ⟨d, ds, hd, he, sd, se, q⟩ := h
  obtain ⟨as, r1⟩ := Dp.reads I d x v hd rx
  obtain ⟨bs, r2⟩ := Dp.reads I (.tuple ds) y u he ry
  exact SeqAt.in_tuple_reads r2 r1 (SeqAt.canLay_of_shaped se) (SeqAt.canLay_of_shaped sd) (room_in_shaped sd hu) ⟨.bl _, H, I, rfl, q⟩
theorem op_notInTD {X : Cx} (hu : X.A.units + 65 < cLine) : OpR X (compareOp .NotIn) (rInTD X.K true) := by
  intro pins s σ H x y v u Q I rx ry h
  obtain ⟨d, ds, hd, he, sd, se, q⟩ := h
  obtain ⟨as, r1⟩ := Dp.reads I d x v hd rx
  obtain ⟨bs, r2⟩ := Dp.reads I (.tuple ds) y u he ry
  exact SeqAt.notIn_tuple_reads r2 r1 (SeqAt.canLay_of_shaped se) (SeqAt.canLay_of_shaped sd) (room_in_shaped sd hu) ⟨.bl _, H, I, rfl, q⟩

/-- what a dict holds at a key; the key a tuple that is read anyhow -/
def DGet2 (K : PySem.W.Frag) (H : Hp) (a : Addr) (y : V) (r : Option V) : Prop :=
  (∃ kvs k, Rd H a (.dK kvs) ∧ y = kV k ∧ r = valV kvs k) ∨ ∃ kvs k b, Rd H a (.dT kvs) ∧ y = .ref b ∧ SqT K H b (k.map kV) ∧ r = valV kvs k
theorem key_of2 {X : Cx} {pins : List (Addr × Obj)} {σ : L2.St} {H : Hp} {s : Shared} {b : Addr} {k : List L2.Key} (I : Inv X pins σ H s) (h : SqT X.K H b (k.map kV)) : (tupleKind (mixKind X.prog X.w)).is s.heap k b := by
  obtain ⟨its, r, ⟨o, e, c, n, d⟩, _⟩ := I.tuple h
  exact ⟨o, its.toArray, n, e, c, d, by simpa using items_are r⟩
section
variable {X : Cx} {pins : List (Addr × Obj)} {σ : L2.St} {H : Hp} {s : Shared} {a : Addr} {y v : V} {u r : Value} {o : Option V} {A : Around} {E : Value → Shared → Prop}
theorem d_getItem2 {Q : Value → Shared → Prop} (hu : A.units + 1 < cLine) (I : Inv X pins σ H s) (g : DGet2 X.K H a y (some v)) (ry : RelV y u) (h : ∀ w' s', Inv X pins σ H s' → RelV v w' → Q w' s') :
    wpAny (model X.prog X.w) A (getItem (.ref a) u) Q E s := by
  rcases g with ⟨kvs, k, e, ey, l⟩ | ⟨kvs, k, b, e, ey, eb, l⟩
  · exact d_getItem hu I (.inl ⟨kvs, k, e, ey, l⟩) ry h
  · subst ey
    cases (show u = Value.ref b from ry)
    obtain ⟨z, hd, xs, rel, dd⟩ := dt_rd I.hok e
    obtain ⟨w', hw, rw'⟩ := RelO.some_of (v := v) (o := (atKey xs k).map (·.2)) (by rw [l]; exact rel.val k)
    obtain ⟨p, hp, hp2⟩ := Option.map_eq_some_iff.mp hw
    refine wpAny_getItem_heap (tupleKind_room_in1 hu) (key_of2 I eb) dd hp ?_
    rw [hp2]
    exact h w' _ (I.tok _) rw'
theorem d_in2 {Q : Value → Shared → Prop} (hu : A.units + 1 < cLine) (I : Inv X pins σ H s) (g : DGet2 X.K H a y o) (ry : RelV y u) (h : ∀ s', Inv X pins σ H s' → Q (.bool o.isSome) s') :
    wpAny (model X.prog X.w) A (compareOp .In u (.ref a)) Q E s := by
  rcases g with ⟨kvs, k, e, ey, l⟩ | ⟨kvs, k, b, e, ey, eb, l⟩
  · exact d_in hu I (.inl ⟨kvs, k, e, ey, l⟩) ry h
  · subst ey
    cases (show u = Value.ref b from ry)
    obtain ⟨z, hd, xs, rel, dd⟩ := dt_rd I.hok e
    refine wpAny_in_heap (tupleKind_room_in1 hu) (key_of2 I eb) hd dd ?_
    have q := (rel.val k).isSome_eq
    rw [Option.isSome_map] at q
    rw [← q, ← l]
    exact h _ (I.tok _)
theorem d_notIn2 {Q : Value → Shared → Prop} (hu : A.units + 1 < cLine) (I : Inv X pins σ H s) (g : DGet2 X.K H a y o) (ry : RelV y u) (h : ∀ s', Inv X pins σ H s' → Q (.bool (!o.isSome)) s') :
    wpAny (model X.prog X.w) A (compareOp .NotIn u (.ref a)) Q E s := by
  rcases g with ⟨kvs, k, e, ey, l⟩ | ⟨kvs, k, b, e, ey, eb, l⟩
  · exact d_notIn hu I (.inl ⟨kvs, k, e, ey, l⟩) ry h
  · subst ey
    cases (show u = Value.ref b from ry)
    obtain ⟨z, hd, xs, rel, dd⟩ := dt_rd I.hok e
    refine wpAny_notIn_heap (tupleKind_room_in1 hu) (key_of2 I eb) hd dd ?_
    have q := (rel.val k).isSome_eq
    rw [Option.isSome_map] at q
    rw [← q, ← l]
    exact h _ (I.tok _)
end
def rDin (K : PySem.W.Frag) (neg : Bool) : R2 := fun x y H Q => ∃ a o, y = .ref a ∧ DGet2 K H a x o ∧ Q (.bl (if neg then !o.isSome else o.isSome)) H
theorem op_dIn {X : Cx} (hu : X.A.units + 1 < cLine) : OpR X (compareOp .In) (rDin X.K false) := by
  intro pins s σ H x y v u Q I rx ry h
  obtain ⟨a, o, rfl, g, q⟩ := h
  cases ry
  exact d_in2 hu I g rx fun s' I' => ⟨.bl _, H, I', rfl, q⟩
theorem op_dNotIn {X : Cx} (hu : X.A.units + 1 < cLine) : OpR X (compareOp .NotIn) (rDin X.K true) := by
  intro pins s σ H x y v u Q I rx ry h
  obtain ⟨a, o, rfl, g, q⟩ := h
  cases ry
  exact d_notIn2 hu I g rx fun s' I' => ⟨.bl _, H, I', rfl, q⟩
def rDix (K : PySem.W.Frag) : R2 := fun x y H Q => ∃ a v, x = .ref a ∧ DGet2 K H a y (some v) ∧ Q v H
theorem typeIs_dict {X : Cx} {pins : List (Addr × Obj)} {σ : L2.St} {H : Hp} {s : Shared} {a : Addr} {y : V} {o : Option V} (I : Inv X pins σ H s) (g : DGet2 X.K H a y o) : s.TypeIs (.ref a) "dict" := by
  rcases g with ⟨kvs, k, e, _⟩ | ⟨kvs, k, b, e, _⟩
  · obtain ⟨_, _, vs, _, dd⟩ := dk_rd I.hok e
    exact dd.typeIs
  · obtain ⟨_, _, vs, _, dd⟩ := dt_rd I.hok e
    exact dd.typeIs
/-- a dict's subscript: what pe_item does for one -/
theorem ix_dict {X : Cx} (hu : X.A.units + 1 < cLine) : IxR X (rDix X.K) := by
  intro value slice pins s σ H x y v u Q I rx ry h hs
  obtain ⟨a, z, rfl, g, q⟩ := h
  cases rx
  exact tail_any (typeIs_dict I g) slot_dict_getitem.lookup (d_getItem2 hu I g ry fun w' s' I' r' => ⟨z, H, I', r', q⟩) hs

/-! ### the tree's side -/
section
variable {K : PySem.W.Frag} {mg : Str → Option Value} {Z : Addr → Prop} {H : Hp}
theorem key?_kV {d : D} {k : Key} {v : V} {F : List Addr} (e : key? d = some k) (r : Rep K mg Z H d v F) : v = kV k := by
  unfold key? at e
  split at e
  · cases e; exact r.eInt
  · cases e; exact r.eStr
  · cases e
theorem keys?_kV : ∀ {ds : List D} {ks : List Key} {vs : List V} {F : List Addr}, keys? ds = some ks → Reps K mg Z H ds vs F → vs = ks.map kV
  | [], ks, vs, F, e, r => by
    cases e
    exact (show vs = [] ∧ F = [] from r).1
  | x :: xs, ks, vs, F, e, r => by
    obtain ⟨v, vr, F1, F2, e1, e2, h1, h2⟩ := (show ∃ v vr F1 F2, vs = v :: vr ∧ F = F1 ++ F2 ∧ Rep K mg Z H x v F1 ∧ Reps K mg Z H xs vr F2 from r)
    unfold keys? at e
    cases ek : key? x with
    | none => rw [ek] at e; cases e
    | some k =>
      rw [ek] at e
      cases ek2 : keys? xs with
      | none => rw [ek2] at e; cases e
      | some k2 =>
        rw [ek2] at e
        cases e
        rw [e1, key?_kV ek h1, keys?_kV ek2 h2]; rfl
theorem look_val {κ : Type} [DecidableEq κ] {k : κ} : ∀ {ks : List κ} {xs : List D} {vs : List V} {d : D} {F : List Addr}, look k ks xs = some d → Reps K mg Z H xs vs F → ks.length = vs.length → ∃ v Fx, valV (ks.zip vs) k = some v ∧ Rep K mg Z H d v Fx ∧ ∀ a ∈ Fx, a ∈ F
  | [], xs, vs, d, F, e, _, _ => by simp [look] at e
  | a :: ks, [], vs, d, F, e, _, _ => by simp [look] at e
  | a :: ks, x :: xs, vs, d, F, e, r, l => by
    obtain ⟨v, vr, F1, F2, e1, e2, h1, h2⟩ := (show ∃ v vr F1 F2, vs = v :: vr ∧ F = F1 ++ F2 ∧ Rep K mg Z H x v F1 ∧ Reps K mg Z H xs vr F2 from r)
    subst e1 e2
    unfold look at e
    by_cases h : a = k
    · rw [if_pos h] at e
      cases e
      exact ⟨v, F1, by rw [List.zip_cons_cons]; exact valV_pos (p := (a, v)) h, h1, fun b hb => List.mem_append_left _ hb⟩
    · rw [if_neg h] at e
      obtain ⟨u, Fx, q1, q2, q3⟩ := look_val (ks := ks) (xs := xs) e h2 (by simpa using l)
      exact ⟨u, Fx, by rw [List.zip_cons_cons, valV_neg (p := (a, v)) h]; exact q1, q2, fun b hb => List.mem_append_right _ (q3 b hb)⟩
theorem isSome_valV {κ : Type} [DecidableEq κ] {k : κ} : ∀ {ks : List κ} {vs : List V}, ks.length = vs.length → (valV (ks.zip vs) k).isSome = ks.any fun a => decide (a = k)
  | [], vs, _ => by simp [valV_nil]
  | a :: ks, [], l => by simp at l
  | a :: ks, v :: vs, l => by
    rw [List.zip_cons_cons, List.any_cons]
    by_cases h : a = k
    · rw [valV_pos (p := (a, v)) h, decide_eq_true h]; rfl
    · rw [valV_neg (p := (a, v)) h, decide_eq_false h, Bool.false_or]
      exact isSome_valV (by simpa using l)
end
theorem oksh {xs : List D} (h : okds 40 xs = true) : SeqAt.shaped (.list (toPs xs)) = true ∧ SeqAt.shaped (.tuple (toPs xs)) = true := by
  obtain ⟨a, b⟩ := toPs_ok 40 xs h
  constructor
  · show (PyData.canLayAll0 (toPs xs) && decide (PyData.depthAll (toPs xs) + 1 ≤ 64)) = true
    rw [a, Bool.true_and]; exact decide_eq_true (by omega)
  · show (PyData.canLayAll0 (toPs xs) && decide (PyData.depthAll (toPs xs) + 1 ≤ 64)) = true
    rw [a, Bool.true_and]; exact decide_eq_true (by omega)
theorem in_rule {X : Cx} {Z : Addr → Prop} {H : Hp} {d1 d2 : D} {b : Bool} {v1 v2 : V} {F1 F2 : List Addr} (e : inB d1 d2 = some b) (r1 : Rep X.K X.mg Z H d1 v1 F1) (r2 : Rep X.K X.mg Z H d2 v2 F2) (Q : VK) :
    (Q (.bl b) H → rInD X.K v1 v2 H Q ∨ rInTD X.K false v1 v2 H Q ∨ rDin X.K false v1 v2 H Q) ∧ (Q (.bl (!b)) H → rNotInD X.K v1 v2 H Q ∨ rInTD X.K true v1 v2 H Q ∨ rDin X.K true v1 v2 H Q) := by
  unfold inB at e
  split at e
  · rename_i o ys
    split at e
    · rename_i h
      rw [Bool.and_eq_true] at h
      cases e
      obtain ⟨a, vs, Fx, ev, s1, rr, _⟩ := r2.lstAt
      have p1 := dp_of 40 d1 h.1 r1
      have p2 : Dp X.K H v2 (.list (toPs ys)) := by rw [ev]; exact .lst (.inl (.inl s1)) (dps_of 40 ys h.2 rr)
      have ea := any_toPs d1 40 h.1 40 ys h.2
      exact ⟨fun q => .inl ⟨_, _, p1, p2, shaped_ok h.1, (oksh h.2).1, by rw [ea]; exact q⟩, fun q => .inl ⟨_, _, p1, p2, shaped_ok h.1, (oksh h.2).1, by rw [ea]; exact q⟩⟩
    · cases e
  · rename_i ys
    split at e
    · rename_i h
      rw [Bool.and_eq_true] at h
      cases e
      obtain ⟨a, vs, ev, s1, rr⟩ := r2.tupAt
      have p1 := dp_of 40 d1 h.1 r1
      have p2 : Dp X.K H v2 (.tuple (toPs ys)) := by rw [ev]; exact .tup s1 (dps_of 40 ys h.2 rr)
      have ea := any_toPs d1 40 h.1 40 ys h.2
      exact ⟨fun q => .inr (.inl ⟨_, _, p1, p2, shaped_ok h.1, (oksh h.2).2, by rw [if_neg Bool.false_ne_true, ea]; exact q⟩), fun q => .inr (.inl ⟨_, _, p1, p2, shaped_ok h.1, (oksh h.2).2, by rw [if_pos rfl, ea]; exact q⟩)⟩
    · cases e
  · rename_i ks xs
    obtain ⟨k, ek, eb⟩ := Option.map_eq_some_iff.mp e
    obtain ⟨a, vs, Fx, ev, s1, l, rr, _⟩ := r2.dkAt
    have hk := key?_kV ek r1
    have hs := isSome_valV (k := k) l
    rw [eb] at hs
    exact ⟨fun q => .inr (.inr ⟨a, _, ev, .inl ⟨_, k, s1, hk, rfl⟩, by rw [if_neg Bool.false_ne_true, hs]; exact q⟩), fun q => .inr (.inr ⟨a, _, ev, .inl ⟨_, k, s1, hk, rfl⟩, by rw [if_pos rfl, hs]; exact q⟩)⟩
  · rename_i ts o ks xs
    obtain ⟨k, ek, eb⟩ := Option.map_eq_some_iff.mp e
    obtain ⟨a, vs, Fx, ev, s1, l, rr, _⟩ := r2.dtAt
    obtain ⟨t, us, et, st, ru⟩ := r1.tupAt
    have hk := keys?_kV ek ru
    rw [hk] at st
    have hs := isSome_valV (k := k) l
    rw [eb] at hs
    exact ⟨fun q => .inr (.inr ⟨a, _, ev, .inr ⟨_, k, t, s1, et, st, rfl⟩, by rw [if_neg Bool.false_ne_true, hs]; exact q⟩), fun q => .inr (.inr ⟨a, _, ev, .inr ⟨_, k, t, s1, et, st, rfl⟩, by rw [if_pos rfl, hs]; exact q⟩)⟩
  · cases e
theorem cm_in : CmQ .In inD := fun X c u => ⟨_, (op_inD (by omega)).or ((op_inTD (by omega)).or (op_dIn (by omega))), fun Z H d1 d2 d v1 v2 F1 F2 e r1 r2 => by
  obtain ⟨b, eb, ed⟩ := Option.map_eq_some_iff.mp e
  subst ed
  exact ⟨_, Rep.bl, fun Q q => (in_rule eb r1 r2 Q).1 q⟩⟩
theorem cm_notIn : CmQ .NotIn notInD := fun X c u => ⟨_, (op_notInD (by omega)).or ((op_notInTD (by omega)).or (op_dNotIn (by omega))), fun Z H d1 d2 d v1 v2 F1 F2 e r1 r2 => by
  obtain ⟨b, eb, ed⟩ := Option.map_eq_some_iff.mp e
  subst ed
  exact ⟨_, Rep.bl, fun Q q => (in_rule eb r1 r2 Q).2 q⟩⟩

/-! ### subscripts -/
theorem ixOf_atI {xs : List D} {vs : List V} {i : Int} {j : Nat} {v : V} (l : xs.length = vs.length) (e : ixOf xs.length i = some j) (hv : vs[j]? = some v) : atI vs i = some v := by
  unfold atI
  have : ixN vs.length i = some j := by rw [← l]; exact e
  rw [this]; exact hv
theorem ix_rule {X : Cx} {Z : Addr → Prop} {H : Hp} {d1 d2 d : D} {v1 v2 : V} {F1 F2 : List Addr} (e : ixD d1 d2 = some d) (r1 : Rep X.K X.mg Z H d1 v1 F1) (r2 : Rep X.K X.mg Z H d2 v2 F2) :
    ∃ v Fx, Rep X.K X.mg Z H d v Fx ∧ (∀ a ∈ Fx, a ∈ F1) ∧ ∀ Q : VK, Q v H → rIx X.K v1 v2 H Q ∨ rDix X.K v1 v2 H Q := by
  unfold ixD at e
  split at e
  · rename_i o xs i
    cases ej : ixOf xs.length i with
    | none => rw [ej] at e; cases e
    | some j =>
      rw [ej] at e
      obtain ⟨a, vs, Fx, ev, s1, rr, z⟩ := r1.lstAt
      obtain ⟨v, Fv, hv, rv, zv⟩ := rr.get e
      exact ⟨v, Fv, rv, fun b hb => z b (zv b hb), fun Q q => .inl (.inl ⟨a, vs, i, v, ev, r2.eInt, .inl (.inl s1), ixOf_atI rr.length ej hv, q⟩)⟩
  · rename_i xs i
    cases ej : ixOf xs.length i with
    | none => rw [ej] at e; cases e
    | some j =>
      rw [ej] at e
      obtain ⟨a, vs, ev, s1, rr⟩ := r1.tupAt
      obtain ⟨v, Fv, hv, rv, zv⟩ := rr.get e
      exact ⟨v, Fv, rv, fun b hb => zv b hb, fun Q q => .inl (.inr (.inl ⟨a, vs, i, v, ev, r2.eInt, s1, ixOf_atI rr.length ej hv, q⟩))⟩
  · rename_i o ks xs
    cases ek : key? d2 with
    | none => rw [ek] at e; cases e
    | some k =>
      rw [ek] at e
      obtain ⟨a, vs, Fx, ev, s1, l, rr, z⟩ := r1.dkAt
      obtain ⟨v, Fv, hv, rv, zv⟩ := look_val (k := k) e rr l
      exact ⟨v, Fv, rv, fun b hb => z b (zv b hb), fun Q q => .inr ⟨a, v, ev, .inl ⟨_, k, s1, key?_kV ek r2, hv.symm⟩, q⟩⟩
  · rename_i o ks xs ts
    cases ek : keys? ts with
    | none => rw [ek] at e; cases e
    | some k =>
      rw [ek] at e
      obtain ⟨a, vs, Fx, ev, s1, l, rr, z⟩ := r1.dtAt
      obtain ⟨t, us, et, st, ru⟩ := r2.tupAt
      rw [keys?_kV ek ru] at st
      obtain ⟨v, Fv, hv, rv, zv⟩ := look_val (k := k) e rr l
      exact ⟨v, Fv, rv, fun b hb => z b (zv b hb), fun Q q => .inr ⟨a, v, ev, .inr ⟨_, k, t, s1, et, st, hv.symm⟩, q⟩⟩
  · cases e
section
variable {Γ : Gam}
theorem ixBoth {X : Cx} (C : Ctx Γ X) : IxR X (fun x y H Q => rIx X.K x y H Q ∨ rDix X.K x y H Q) := ix_seq.or (ix_dict (by have := C.un; omega))
/-- a part, borrowed -/
theorem PO.sub {a b : Expr} {p q : Qt} {pos : Pos} (ha : PO Γ a p) (hb : PO Γ b q) (hs : PlainIx b := by intro _ _; rfl) : PO Γ (.Subscript a b pos) (q2 ixD p q) := fun X C => by
  obtain ⟨ta, p1, s1⟩ := ha X C
  obtain ⟨tb, p2, s2⟩ := hb X C
  refine ⟨_, pe_ix (ixBoth C) p1 p2 hs, fun f sd σ ds vs H Z F G d Q S e k => ?_⟩
  unfold q2 at e
  cases ea : p sd with
  | none => rw [ea] at e; cases e
  | some x =>
    rw [ea] at e
    dsimp only [Option.bind] at e
    cases eb : q sd with
    | none => rw [eb] at e; cases e
    | some y =>
      rw [eb] at e
      dsimp only at e
      refine s1 f sd σ ds vs H Z F G x _ S ea fun v Fv rv zv => s2 f sd σ ds vs H Z F G y _ S eb fun u Fu ru _ => ?_
      obtain ⟨z, Fz, rz, sz, kz⟩ := ix_rule e rv ru
      exact kz Q (k z Fz rz fun a ha => zv a (sz a ha))
/-- an item of what was worked out -/
theorem EO.sub {a b : Expr} {m n : M D} {pos : Pos} (ha : EO Γ a m) (hb : EO Γ b n) (hs : PlainIx b := by intro _ _; rfl) : EO Γ (.Subscript a b pos) (m2 ixD m n) := fun X W C tk => by
  obtain ⟨ta, p1, s1⟩ := ha X W C tk
  obtain ⟨tb, p2, s2⟩ := hb X W C tk
  refine ⟨_, pe_ix (ixBoth C) p1 p2 hs, simE2 s1 s2 fun Z H d1 d2 d v1 v2 e r1 r2 Q q => ?_⟩
  obtain ⟨z, Fz, rz, sz, kz⟩ := ix_rule e r1 r2
  refine kz Q (q z H (.of ?_))
  cases Fz with
  | nil => exact rz
  | cons a Fz => exact absurd (sz a List.mem_cons_self) (by simp)
/-- frozen, whatever it is -/
def mFz (m : M D) : M D := fun σ => (m σ).then fun x σ1 => .ok (frz x) σ1
theorem EO.fz {a : Expr} {m : M D} (ha : EO Γ a m) : EO Γ a (mFz m) := fun X W C tk => by
  obtain ⟨t, p1, s1⟩ := ha X W C tk
  refine ⟨t, p1, fun f sd σ ds vs H Q hr S => ?_⟩
  unfold mFz
  have h1 := s1 f sd σ ds vs H Q hr S
  cases e : m sd with
  | bad => trivial
  | exc x sd1 => rw [e] at h1; exact h1
  | ok d sd1 =>
    rw [e] at h1
    rw [Out.then_ok]
    intro k
    exact h1 fun v H1 S1 => k v H1 S1.freeze
end

/-! ### built-ins -/
section
variable {Γ : Gam}
def SimQA (X : Cx) (t : TA) (q : Sl → Option (List D)) : Prop := ∀ f sd σ ds vs H Z F G xs Q, SIxX X f sd σ ds vs H Z F G → q sd = some xs → (∀ us Fp, Reps X.K X.mg Z H xs us Fp → Q us H) → t σ H Q
def QAO (Γ : Gam) (es : List Expr) (q : Sl → Option (List D)) : Prop := ∀ X, Ctx Γ X → ∃ t, PA X es t ∧ SimQA X t q
def qNil : Sl → Option (List D) := fun _ => some []
def qCons (p : Qt) (q : Sl → Option (List D)) : Sl → Option (List D) := fun σ => (p σ).bind fun x => (q σ).map (x :: ·)
theorem QAO.nil : QAO Γ [] qNil := fun X C => ⟨_, pa_nil, fun f sd σ ds vs H Z F G xs Q S e k => by cases e; exact k [] [] ⟨rfl, rfl⟩⟩
theorem QAO.cons {e : Expr} {es : List Expr} {p : Qt} {q : Sl → Option (List D)} (h : PO Γ e p) (g : QAO Γ es q) (hs : ∀ env, starEach (e :: es) env = (false, eval e env) :: starEach es env := by intro _; rfl) : QAO Γ (e :: es) (qCons p q) := fun X C => by
  obtain ⟨t, p1, s1⟩ := h X C
  obtain ⟨u, p2, s2⟩ := g X C
  refine ⟨_, pa_cons p1 p2 (hs _), fun f sd σ ds vs H Z F G xs Q S e k => ?_⟩
  unfold qCons at e
  cases ea : p sd with
  | none => rw [ea] at e; cases e
  | some x =>
    rw [ea] at e
    dsimp only [Option.bind] at e
    obtain ⟨ys, ey, ez⟩ := Option.map_eq_some_iff.mp e
    subst ez
    exact s1 f sd σ ds vs H Z F G x _ S ea fun v Fv rv _ => s2 f sd σ ds vs H Z F G ys _ S ey fun us Fu ru => k (v :: us) (Fv ++ Fu) ⟨v, us, Fv, Fu, rfl, rfl, rv, ru⟩
/-- a built-in function, by values -/
def BltQ (x : Str) (f : List D → Option D) : Prop := (∃ id, bootBuiltins x = some (.builtin id) ∧ ∀ X : Cx, X.calm = true → X.A.units + 70 < cLine → ∃ r, CallR X (.builtin id) r ∧ QRs X r f) ∨ ∃ T, bootBuiltins x = some (.type T) ∧ ∀ X : Cx, X.calm = true → X.A.units + 70 < cLine → ∃ r, CallR X (.type T) r ∧ QRs X r f
def BltA (x : Str) (f : List D → Option D) : Prop := (∃ id, bootBuiltins x = some (.builtin id) ∧ ∀ X : Cx, X.calm = true → X.A.units + 70 < cLine → ∃ r, CallR X (.builtin id) r ∧ ARs X r f) ∨ ∃ T, bootBuiltins x = some (.type T) ∧ ∀ X : Cx, X.calm = true → X.A.units + 70 < cLine → ∃ r, CallR X (.type T) r ∧ ARs X r f
theorem BltQ.a {x : Str} {f : List D → Option D} (h : BltQ x f) : BltA x f := by
  rcases h with ⟨id, e, h⟩ | ⟨T, e, h⟩
  · exact .inl ⟨id, e, fun X c u => let ⟨r, h1, h2⟩ := h X c u; ⟨r, h1, h2.ar⟩⟩
  · exact .inr ⟨T, e, fun X c u => let ⟨r, h1, h2⟩ := h X c u; ⟨r, h1, h2.ar⟩⟩
def qB (f : List D → Option D) (q : Sl → Option (List D)) : Qt := fun σ => (q σ).bind f
theorem QO.blt {x : Str} {f : List D → Option D} {e : Expr} {es : List Expr} {q : Sl → Option (List D)} {p pos : Pos} (hb : BltQ x f) (hg : GlN Γ x) (hm : x ∈ Γ.blt) (ha : QAO Γ (e :: es) q) (hn : x ≠ "__name__" := by decide) (hd : (x == ("__debug__" : Str)) = false := by decide)
    (he : ∀ env, starEach (e :: es) env = (false, eval e env) :: starEach es env := by intro _; rfl) (hpl : ∀ env, (backTo pos (starEach es env)).any (·.1) = false := by intro _; rfl) : QO Γ (.Call (.Name x p) (e :: es) [] pos) (qB f q) := fun X C => by
  obtain ⟨ta, p1, s1⟩ := ha X C
  rcases hb with ⟨id, ei, hb⟩ | ⟨T, ei, hb⟩
  · obtain ⟨r, h1, h2⟩ := hb X C.calm C.un
    refine ⟨_, pe_callB h1 (hg.gl C) (C.blt x hm) ei p1 hn hd (he _) (hpl _), fun f sd σ ds vs H Z F G d Q S e k => ?_⟩
    obtain ⟨xs, ex, ed⟩ := Option.bind_eq_some_iff.mp e
    refine s1 f sd σ ds vs H Z F G xs _ S ex fun us Fu ru => ?_
    obtain ⟨z, rz, kz⟩ := h2 Z H xs d us Fu ed ru
    exact kz Q (k z rz)
  · obtain ⟨r, h1, h2⟩ := hb X C.calm C.un
    refine ⟨_, pe_callTy h1 (hg.gl C) (C.blt x hm) ei p1 hn hd (he _) (hpl _), fun f sd σ ds vs H Z F G d Q S e k => ?_⟩
    obtain ⟨xs, ex, ed⟩ := Option.bind_eq_some_iff.mp e
    refine s1 f sd σ ds vs H Z F G xs _ S ex fun us Fu ru => ?_
    obtain ⟨z, rz, kz⟩ := h2 Z H xs d us Fu ed ru
    exact kz Q (k z rz)
theorem simBlt {X : Cx} {refs : List Nat} {W : WX} {t : TA} {r : List V → Hp → VK → Prop} {m : M (List D)} {g : List D → Option D} (h : SimA X refs W t m) (hr : ARs X r g) : SimE X refs W (tCB r t) (mB g m) := fun f sd σ ds vs H Q hv S => by
  unfold mB
  have h1 := h f sd σ ds vs H (fun us H1 => r us H1 Q) hv S
  cases e : m sd with
  | bad => trivial
  | exc x sd1 => rw [e] at h1; exact h1
  | ok xs sd1 =>
    rw [e] at h1
    rw [Out.then_ok]
    cases eg : g (frzs xs) with
    | none => trivial
    | some d =>
      rw [ofOpt_some]
      intro k
      refine h1 fun us H1 l S1 => ?_
      obtain ⟨Z, F, G, S2⟩ := S1.freezes l
      obtain ⟨ru, S3⟩ := S2.topsF (by rw [l, frzs_map, List.length_map]) (isFs_frzs xs)
      exact hr Z H1 (frzs xs) d us eg ru Q fun z H3 n => k z H3 (S3.new n)
theorem EO.blt {x : Str} {f : List D → Option D} {e : Expr} {es : List Expr} {m : M (List D)} {p pos : Pos} (hb : BltA x f) (hg : GlN Γ x) (hm : x ∈ Γ.blt) (ha : AO Γ (e :: es) m) (hn : x ≠ "__name__" := by decide) (hd : (x == ("__debug__" : Str)) = false := by decide)
    (he : ∀ env, starEach (e :: es) env = (false, eval e env) :: starEach es env := by intro _; rfl) (hpl : ∀ env, (backTo pos (starEach es env)).any (·.1) = false := by intro _; rfl) : EO Γ (.Call (.Name x p) (e :: es) [] pos) (mB f m) := fun X W C tk => by
  obtain ⟨ta, p1, s1⟩ := ha X W C tk
  rcases hb with ⟨id, ei, hb⟩ | ⟨T, ei, hb⟩
  · obtain ⟨r, h1, h2⟩ := hb X C.calm C.un
    exact ⟨_, pe_callB h1 (hg.gl C) (C.blt x hm) ei p1 hn hd (he _) (hpl _), simBlt s1 h2⟩
  · obtain ⟨r, h1, h2⟩ := hb X C.calm C.un
    exact ⟨_, pe_callTy h1 (hg.gl C) (C.blt x hm) ei p1 hn hd (he _) (hpl _), simBlt s1 h2⟩
/-- new from borrowed: list(p), tuple(p) of frozen items -/
theorem QO.neg {a : Expr} {p : Qt} {pos : Pos} (h : PO Γ a p) : QO Γ (.UnaryOp .USub a pos) (q1 negD p) := fun X C => by
  obtain ⟨t, p1, s1⟩ := h X C
  refine ⟨_, pe_un un_neg p1, fun f sd σ ds vs H Z F G d Q S e k => ?_⟩
  obtain ⟨x, ex, ed⟩ := Option.bind_eq_some_iff.mp e
  unfold negD at ed
  split at ed
  · cases ed
    exact s1 f sd σ ds vs H Z F G _ _ S ex fun v Fv rv _ => ⟨_, rv.eInt, k _ Rep.int⟩
  · cases ed
theorem EO.neg {a : Expr} {m : M D} {pos : Pos} (h : EO Γ a m) : EO Γ (.UnaryOp .USub a pos) (m1 negD m) := fun X W C tk => by
  obtain ⟨t, p1, s1⟩ := h X W C tk
  refine ⟨_, pe_un un_neg p1, fun f sd σ ds vs H Q hv S => ?_⟩
  unfold m1
  have h1 := s1 f sd σ ds vs H (fun x H1 => ∃ i, x = .int i ∧ Q (.int (-i)) H1) hv S
  cases e : m sd with
  | bad => trivial
  | exc x sd1 => rw [e] at h1; exact h1
  | ok d sd1 =>
    rw [e] at h1
    rw [Out.then_ok]
    cases d with
    | int i =>
      show (∀ v H', _ → Q v H') → _
      intro k
      refine h1 fun v H' S' => ?_
      obtain ⟨Z, F, G, S'⟩ := S'
      obtain ⟨r, S2⟩ := S'.topF rfl
      exact ⟨i, r.eInt, k _ H' ⟨Z, F, G, S2.push0 Rep.int⟩⟩
    | _ => trivial
end

/-! ### isinstance -/
def Ty.nm : Ty → String
  | .int => "int"
  | .bool => "bool"
  | .str => "str"
  | .tuple => "tuple"
  | .list => "list"
def tyD : D → Option String
  | .non => some "NoneType"
  | .bl _ => some "bool"
  | .int _ => some "int"
  | .str _ => some "str"
  | .tup _ => some "tuple"
  | .lst _ _ => some "list"
  | .dk _ _ _ => some "dict"
  | _ => none
theorem tyx {K : PySem.W.Frag} {mg : Str → Option Value} {Z : Addr → Prop} {H : Hp} {d : D} {v : V} {F : List Addr} {T : String} (r : Rep K mg Z H d v F) (e : tyD d = some T) : TyX K H v (.type T) := by
  cases d with
  | non => cases e; rw [r.eNon]; exact .base .non
  | bl b => cases e; rw [r.eBl]; exact .base (.bl b)
  | int i => cases e; rw [r.eInt]; exact .base (.int i)
  | str s => cases e; rw [r.eStr]; exact .base (.str s)
  | tup xs =>
    cases e
    obtain ⟨a, vs, ev, q, _⟩ := r.tupAt
    subst ev
    rcases q with (q | ⟨o, q⟩) | ⟨o, its, n, q, c, _⟩
    · exact .base (.tup q)
    · exact .fTuple q
    · exact .kTuple q c
  | lst o xs =>
    cases e
    obtain ⟨a, vs, Fx, ev, q, _⟩ := r.lstAt
    subst ev
    exact .base (.lst q)
  | dk o ks xs =>
    cases e
    obtain ⟨a, vs, Fx, ev, q, _⟩ := r.dkAt
    subst ev
    rcases q with q | ⟨o, q⟩
    · exact .base (.dK q)
    · exact .fDict q
  | dt o ks xs => cases e
  | obj o c ns xs => cases e
  | scr ns => cases e
  | lk _ _ _ => cases e
theorem kit_ty (K : PySem.W.Frag) (T : Ty) (t : String) (ht : t ∈ ["NoneType", "bool", "int", "str", "tuple", "list", "dict"]) :
    PySem.W.kitOne K (.type t) (.type T.nm) = some (decide (t = T.nm) || (decide (t = "bool") && decide (T.nm = "int"))) := by
  simp only [List.mem_cons, List.not_mem_nil, or_false] at ht
  rcases ht with h | h | h | h | h | h | h <;> subst h <;> cases T <;> rfl
def isiQ (T : Ty) (d : D) : Option D := (tyD d).map fun t => .bl (decide (t = T.nm) || (decide (t = "bool") && decide (T.nm = "int")))
theorem tyD_mem {d : D} {t : String} (e : tyD d = some t) : t ∈ ["NoneType", "bool", "int", "str", "tuple", "list", "dict"] := by
  cases d <;> cases e <;> decide
section
variable {Γ : Gam}
theorem QO.isi {a : Expr} {p : Qt} {T : Ty} {q1' q2' pos : Pos} (h : PO Γ a p) (hg : GlN Γ "isinstance") (hm : ("isinstance" : Str) ∈ Γ.blt) (hg2 : GlN Γ (Str.ofString T.nm)) (hm2 : (Str.ofString T.nm) ∈ Γ.blt)
    (he : ∀ env y, starEach [a, y] env = (false, eval a env) :: starEach [y] env := by intro _ _; rfl) : QO Γ (.Call (.Name "isinstance" q1') [a, .Name (Str.ofString T.nm) q2'] [] pos) (FS.q1 (isiQ T) p) := fun X C => by
  obtain ⟨t, p1, s1⟩ := h X C
  have hb : bootBuiltins (Str.ofString T.nm) = some (.type T.nm) := by cases T <;> rfl
  have pt : PE X (.Name (Str.ofString T.nm) q2') (tC (.ty T.nm)) := pe_bltn (hg2.gl C) (C.blt _ hm2) hb rfl (by cases T <;> decide) (by cases T <;> decide)
  refine ⟨_, pe_callB call_isi (hg.gl C) (C.blt _ hm) rfl (pa_cons p1 (pa_cons pt pa_nil) (he _ _)) (by decide) (by decide) (he _ _), fun f sd σ ds vs H Z F G d Q S e k => ?_⟩
  obtain ⟨x, ex, ed⟩ := Option.bind_eq_some_iff.mp e
  obtain ⟨ty, et, ed⟩ := Option.map_eq_some_iff.mp ed
  subst ed
  exact s1 f sd σ ds vs H Z F G x _ S ex fun v Fv rv _ => ⟨v, _, .type ty, .type T.nm, _, rfl, .ty _, tyx rv et, kit_ty X.K T ty (tyD_mem et), k _ Rep.bl⟩
end
end FS

/-! Blt2: the built-in functions by value trees. -/
namespace FS
open PySem PySem.Spec PyProof.Rows L2

section
variable {K : PySem.W.Frag} {mg : Str → Option Value} {Z : Addr → Prop} {H : Hp}
theorem Reps.one {d : D} {vs : List V} {F : List Addr} (r : Reps K mg Z H [d] vs F) : ∃ v, vs = [v] ∧ Rep K mg Z H d v F := by
  obtain ⟨v, vr, F1, F2, e1, e2, h1, h2⟩ := (show ∃ v vr F1 F2, vs = v :: vr ∧ F = F1 ++ F2 ∧ Rep K mg Z H d v F1 ∧ Reps K mg Z H [] vr F2 from r)
  obtain ⟨rfl, rfl⟩ := (show vr = [] ∧ F2 = [] from h2)
  subst e1 e2
  exact ⟨v, rfl, by rw [List.append_nil]; exact h1⟩
theorem Reps.two {d e : D} {vs : List V} {F : List Addr} (r : Reps K mg Z H [d, e] vs F) : ∃ v u F1 F2, vs = [v, u] ∧ F = F1 ++ F2 ∧ Rep K mg Z H d v F1 ∧ Rep K mg Z H e u F2 := by
  obtain ⟨v, vr, F1, F2, e1, e2, h1, h2⟩ := (show ∃ v vr F1 F2, vs = v :: vr ∧ F = F1 ++ F2 ∧ Rep K mg Z H d v F1 ∧ Reps K mg Z H [e] vr F2 from r)
  obtain ⟨u, eu, h3⟩ := Reps.one h2
  subst e1 e2 eu
  exact ⟨v, u, F1, F2, rfl, rfl, h1, h3⟩
theorem ints?_vals : ∀ {ds : List D} {ns : List Int} {vs : List V} {F : List Addr}, ints? ds = some ns → Reps K mg Z H ds vs F → vs = ns.map V.int
  | [], ns, vs, F, e, r => by
    cases e
    exact (show vs = [] ∧ F = [] from r).1
  | .int i :: xs, ns, vs, F, e, r => by
    obtain ⟨v, vr, F1, F2, e1, e2, h1, h2⟩ := (show ∃ v vr F1 F2, vs = v :: vr ∧ F = F1 ++ F2 ∧ Rep K mg Z H (.int i) v F1 ∧ Reps K mg Z H xs vr F2 from r)
    unfold ints? at e
    obtain ⟨m, em, en⟩ := Option.map_eq_some_iff.mp e
    subst en
    rw [e1, h1.eInt, ints?_vals em h2]; rfl
  | .non :: xs, _, _, _, e, _ => by simp [ints?] at e
  | .bl _ :: xs, _, _, _, e, _ => by simp [ints?] at e
  | .str _ :: xs, _, _, _, e, _ => by simp [ints?] at e
  | .tup _ :: xs, _, _, _, e, _ => by simp [ints?] at e
  | .lst _ _ :: xs, _, _, _, e, _ => by simp [ints?] at e
  | .dk _ _ _ :: xs, _, _, _, e, _ => by simp [ints?] at e
  | .dt _ _ _ :: xs, _, _, _, e, _ => by simp [ints?] at e
  | .obj _ _ _ _ :: xs, _, _, _, e, _ => by simp [ints?] at e
  | .scr _ :: xs, _, _, _, e, _ => by simp [ints?] at e
  | .lk _ _ _ :: xs, _, _, _, e, _ => by simp [ints?] at e
theorem bools?_vals : ∀ {ds : List D} {ns : List Bool} {vs : List V} {F : List Addr}, bools? ds = some ns → Reps K mg Z H ds vs F → vs = ns.map V.bl
  | [], ns, vs, F, e, r => by
    cases e
    exact (show vs = [] ∧ F = [] from r).1
  | .bl i :: xs, ns, vs, F, e, r => by
    obtain ⟨v, vr, F1, F2, e1, e2, h1, h2⟩ := (show ∃ v vr F1 F2, vs = v :: vr ∧ F = F1 ++ F2 ∧ Rep K mg Z H (.bl i) v F1 ∧ Reps K mg Z H xs vr F2 from r)
    unfold bools? at e
    obtain ⟨m, em, en⟩ := Option.map_eq_some_iff.mp e
    subst en
    rw [e1, h1.eBl, bools?_vals em h2]; rfl
  | .non :: xs, _, _, _, e, _ => by simp [bools?] at e
  | .int _ :: xs, _, _, _, e, _ => by simp [bools?] at e
  | .str _ :: xs, _, _, _, e, _ => by simp [bools?] at e
  | .tup _ :: xs, _, _, _, e, _ => by simp [bools?] at e
  | .lst _ _ :: xs, _, _, _, e, _ => by simp [bools?] at e
  | .dk _ _ _ :: xs, _, _, _, e, _ => by simp [bools?] at e
  | .dt _ _ _ :: xs, _, _, _, e, _ => by simp [bools?] at e
  | .obj _ _ _ _ :: xs, _, _, _, e, _ => by simp [bools?] at e
  | .scr _ :: xs, _, _, _, e, _ => by simp [bools?] at e
  | .lk _ _ _ :: xs, _, _, _, e, _ => by simp [bools?] at e
theorem reps_ints : ∀ ns : List Int, Reps K mg Z H (ns.map D.int) (ns.map V.int) []
  | [] => ⟨rfl, rfl⟩
  | n :: ns => ⟨_, _, [], [], rfl, rfl, Rep.int, reps_ints ns⟩
end

/-! ### len -/
theorem bq_len : BltQ "len" (fun | [d] => lenD d | _ => none) := .inl ⟨"len", rfl, fun X c cu => ⟨_, call_len_seq.or (call_len_str.or (CallR.or (r := fun xs H Q => ∃ a kvs, xs = [V.ref a] ∧ Rd H a (.dK kvs) ∧ Q (.int kvs.length) H) (by
    intro pins s σ H xs us Q I r h
    obtain ⟨a, kvs, rfl, ha, q⟩ := h
    obtain ⟨u, rfl, ru⟩ := vals1 r
    cases ru
    exact d_len I ha fun t s' I' => ⟨.int kvs.length, H, I', ⟨t, rfl⟩, q⟩) (r' := fun xs H Q => ∃ a kvs, xs = [V.ref a] ∧ Rd H a (.dT kvs) ∧ Q (.int ((kvs.length : Nat) : Int)) H) (by
    intro pins s σ H xs us Q I r h
    obtain ⟨p, kvs, rfl, hp, q⟩ := h
    obtain ⟨u, rfl, rx⟩ := vals1 r
    obtain rfl : u = .ref p := rx
    obtain ⟨z, hd, ys, rel, dd⟩ := dt_rd I.hok hp
    have hl : kvs.length = ys.length := Paired.length rel
    refine PySem.call_len_dictH hd dd (by rw [← hl]; rw [sizeLine_eq] at z; omega) ?_
    rw [← hl]
    exact ⟨.int ((kvs.length : Nat) : Int), H, I.tok _, ⟨_, rfl⟩, q⟩))), fun Z H ds d vs F e r => by
  dsimp only at e
  split at e
  · rename_i d0
    obtain ⟨v, ev, rz⟩ := Reps.one r
    subst ev
    unfold lenD at e
    clear r
    have r0 := rz
    clear rz
    split at e
    · cases e
      obtain ⟨a, us, Fx, ev, s1, rr, _⟩ := r0.lstAt
      exact ⟨_, Rep.int, fun Q q => .inl ⟨a, us, by rw [ev], .inl (.inl (.inl s1)), by rw [← rr.length]; exact q⟩⟩
    · cases e
      obtain ⟨a, us, ev, s1, rr⟩ := r0.tupAt
      exact ⟨_, Rep.int, fun Q q => .inl ⟨a, us, by rw [ev], .inr s1, by rw [← rr.length]; exact q⟩⟩
    · cases e
      obtain ⟨a, us, Fx, ev, s1, l, rr, _⟩ := r0.dkAt
      exact ⟨_, Rep.int, fun Q q => .inr (.inr (.inl ⟨a, _, by rw [ev], s1, by rw [List.length_zip, ← l, Nat.min_self]; exact q⟩))⟩
    · cases e
      obtain ⟨a, us, Fx, ev, s1, l, rr, _⟩ := r0.dtAt
      exact ⟨_, Rep.int, fun Q q => .inr (.inr (.inr ⟨a, _, by rw [ev], s1, by rw [List.length_zip, ← l, Nat.min_self]; exact q⟩))⟩
    · split at e
      · rename_i h
        cases e
        exact ⟨_, Rep.int, fun Q q => .inr (.inl ⟨_, by rw [r0.eStr], by rw [sizeLine_eq]; exact h, q⟩)⟩
      · cases e
    · cases e
  · cases e⟩⟩
def len1 : List D → Option D := fun | [d] => lenD d | _ => none
theorem bq_len' : BltQ "len" len1 := bq_len

/-! ### ints -/
theorem bq_abs : BltQ "abs" absD := .inl ⟨"abs", rfl, fun X c cu => ⟨_, call_abs, fun Z H ds d vs F e r => by
  unfold absD at e
  split at e
  · cases e
    obtain ⟨v, ev, rz⟩ := Reps.one r
    exact ⟨_, Rep.int, fun Q q => ⟨_, by rw [ev, rz.eInt], q⟩⟩
  · cases e⟩⟩
theorem bq_int : BltQ "int" intD := .inr ⟨"int", rfl, fun X c cu => ⟨_, call_int1, fun Z H ds d vs F e r => by
  unfold intD at e
  split at e
  · cases e
    obtain ⟨v, ev, rz⟩ := Reps.one r
    exact ⟨_, Rep.int, fun Q q => .inl ⟨_, by rw [ev, rz.eInt], q⟩⟩
  · cases e
    obtain ⟨v, ev, rz⟩ := Reps.one r
    exact ⟨_, Rep.int, fun Q q => .inr ⟨_, by rw [ev, rz.eBl], q⟩⟩
  · cases e⟩⟩

/-! ### sum -/
def rSumT (K : PySem.W.Frag) : List V → Hp → VK → Prop := fun vs H Q => ∃ (a : Addr) (ns : List Int), vs = [V.ref a] ∧ SqT K H a (ns.map V.int) ∧ Q (.int ns.sum) H
theorem cr_sumT {X : Cx} (hc : X.calm = true) : CallR X (.builtin "sum") (rSumT X.K) := by
  intro pins s σ H vs us Q I r h
  obtain ⟨a, ns, rfl, hs, q⟩ := h
  obtain ⟨its, rv, hl, _⟩ := I.tuple hs
  rw [Vals.ref1 r]
  have hi := rv.ints
  obtain ⟨xs, hx⟩ := hi.allInts.items
  have hn : numsOf (intItems xs).toList = ns := by rw [← hx]; exact hi.numsOf
  rw [nums_intItems] at hn
  rw [hx] at hl
  refine PySem.W.ktm_sumG (I.ok.hd hc) hl fun h' tk t' hk => ?_
  rw [preSum_eq, List.take_of_length_le (by simp), hn]
  exact ⟨.int _, H, I.kept hk, ⟨_, rfl⟩, q⟩
theorem bq_sum : BltQ "sum" sumD := .inl ⟨"sum", rfl, fun X c cu => ⟨_, (cr_sum c).or (cr_sumT c), fun Z H ds d vs F e r => by
  unfold sumD at e
  split at e
  · obtain ⟨ns, en, ed⟩ := Option.map_eq_some_iff.mp e
    subst ed
    obtain ⟨v, ev, rz⟩ := Reps.one r
    obtain ⟨a, us, Fx, eu, s1, rr, _⟩ := rz.lstAt
    rw [ints?_vals en rr] at s1
    exact ⟨_, Rep.int, fun Q q => .inl ⟨a, ns, by rw [ev, eu], .inl (.inl s1), q⟩⟩
  · obtain ⟨ns, en, ed⟩ := Option.map_eq_some_iff.mp e
    subst ed
    obtain ⟨v, ev, rz⟩ := Reps.one r
    obtain ⟨a, us, eu, s1, rr⟩ := rz.tupAt
    rw [ints?_vals en rr] at s1
    exact ⟨_, Rep.int, fun Q q => .inr ⟨a, ns, by rw [ev, eu], s1, q⟩⟩
  · cases e⟩⟩

/-! ### the greatest, the least -/
theorem foldl_max_ge : ∀ (xs : List Int) (x : Int), x ≤ xs.foldl max x ∧ (∀ y ∈ xs, y ≤ xs.foldl max x) ∧ (xs.foldl max x = x ∨ xs.foldl max x ∈ xs)
  | [], x => ⟨Int.le_refl _, (fun y hy => nomatch hy), (.inl rfl)⟩
  | a :: xs, x => by
    obtain ⟨h1, h2, h3⟩ := foldl_max_ge xs (max x a)
    refine ⟨by rw [List.foldl_cons]; omega, fun y hy => ?_, ?_⟩
    · rw [List.foldl_cons]
      rcases List.mem_cons.mp hy with rfl | hy
      · omega
      · exact h2 y hy
    · rw [List.foldl_cons]
      rcases h3 with h3 | h3
      · by_cases hx : a ≤ x
        · left; rw [h3]; omega
        · right; rw [h3]; exact List.mem_cons.mpr (.inl (by omega))
      · exact .inr (List.mem_cons_of_mem _ h3)
theorem foldl_min_le : ∀ (xs : List Int) (x : Int), xs.foldl min x ≤ x ∧ (∀ y ∈ xs, xs.foldl min x ≤ y) ∧ (xs.foldl min x = x ∨ xs.foldl min x ∈ xs)
  | [], x => ⟨Int.le_refl _, (fun y hy => nomatch hy), (.inl rfl)⟩
  | a :: xs, x => by
    obtain ⟨h1, h2, h3⟩ := foldl_min_le xs (min x a)
    refine ⟨by rw [List.foldl_cons]; omega, fun y hy => ?_, ?_⟩
    · rw [List.foldl_cons]
      rcases List.mem_cons.mp hy with rfl | hy
      · omega
      · exact h2 y hy
    · rw [List.foldl_cons]
      rcases h3 with h3 | h3
      · by_cases hx : x ≤ a
        · left; rw [h3]; omega
        · right; rw [h3]; exact List.mem_cons.mpr (.inl (by omega))
      · exact .inr (List.mem_cons_of_mem _ h3)
theorem maxI_spec {ns : List Int} (h : ns ≠ []) : maxI ns ∈ ns ∧ ∀ y ∈ ns, y ≤ maxI ns := by
  cases ns with
  | nil => exact absurd rfl h
  | cons x xs =>
    obtain ⟨h1, h2, h3⟩ := foldl_max_ge xs x
    refine ⟨?_, fun y hy => ?_⟩
    · rcases h3 with h3 | h3
      · show xs.foldl max x ∈ _; rw [h3]; exact List.mem_cons_self
      · exact List.mem_cons_of_mem _ h3
    · rcases List.mem_cons.mp hy with rfl | hy
      · exact h1
      · exact h2 y hy
theorem minI_spec {ns : List Int} (h : ns ≠ []) : minI ns ∈ ns ∧ ∀ y ∈ ns, minI ns ≤ y := by
  cases ns with
  | nil => exact absurd rfl h
  | cons x xs =>
    obtain ⟨h1, h2, h3⟩ := foldl_min_le xs x
    refine ⟨?_, fun y hy => ?_⟩
    · rcases h3 with h3 | h3
      · show xs.foldl min x ∈ _; rw [h3]; exact List.mem_cons_self
      · exact List.mem_cons_of_mem _ h3
    · rcases List.mem_cons.mp hy with rfl | hy
      · exact h1
      · exact h2 y hy
theorem maxI_unique {ns : List Int} {m : Int} (h1 : m ∈ ns) (h2 : ∀ y ∈ ns, y ≤ m) : m = maxI ns := by
  have hne : ns ≠ [] := by rintro rfl; cases h1
  obtain ⟨a, b⟩ := maxI_spec hne
  have := b m h1
  have := h2 _ a
  omega
theorem minI_unique {ns : List Int} {m : Int} (h1 : m ∈ ns) (h2 : ∀ y ∈ ns, m ≤ y) : m = minI ns := by
  have hne : ns ≠ [] := by rintro rfl; cases h1
  obtain ⟨a, b⟩ := minI_spec hne
  have := b m h1
  have := h2 _ a
  omega
theorem reads_ints {h : Heap} : ∀ {us : List Value} {ns : List Int}, IntsAre us ns → ReadsAll h us (ns.map PyData.int) []
  | _, _, .nil => .nil
  | _, _, .cons n t r => .cons (.int n t) (reads_ints r)
theorem alike_ints (ns : List Int) : PySem.W.AlikeAll (ns.map PyData.int) := by
  refine ⟨fun x hx y hy => ?_, fun x hx => ?_⟩
  · obtain ⟨a, _, rfl⟩ := List.mem_map.mp hx
    obtain ⟨b, _, rfl⟩ := List.mem_map.mp hy
    simp [PySem.W.alike]
  · obtain ⟨a, _, rfl⟩ := List.mem_map.mp hx
    simp
theorem depth_ints : ∀ ns : List Int, PyData.depthAll (ns.map PyData.int) = 0
  | [] => rfl
  | n :: ns => by
    show max _ (PyData.depthAll (ns.map PyData.int)) = 0
    rw [depth_ints ns]; rfl
def rExtT (K : PySem.W.Frag) (g : List Int → Int) : List V → Hp → VK → Prop := fun vs H Q => ∃ (a : Addr) (ns : List Int), vs = [V.ref a] ∧ SqT K H a (ns.map V.int) ∧ 0 < ns.length ∧ Q (.int (g ns)) H
theorem cr_maxT {X : Cx} (hc : X.calm = true) (hu : X.A.units + 1 < cLine) : CallR X (.builtin "max") (rExtT X.K maxI) := by
  intro pins s σ H vs us Q I r h
  obtain ⟨a, ns, rfl, hs, hn, q⟩ := h
  obtain ⟨its, rv, hl, _⟩ := I.tuple hs
  rw [Vals.ref1 r]
  have hi := rv.ints
  cases ns with
  | nil => exact absurd hn (by decide)
  | cons x xs =>
    refine PySem.W.max_tuple_data (x := .int x) (xs := xs.map PyData.int) (I.ok.hd hc) hl (reads_ints hi) (alike_ints (x :: xs)) (by
      show _ + 1 + PyData.depthAll ((x :: xs).map PyData.int) < _
      rw [depth_ints]; exact hu) fun i v h' tk bs _ hr hk => ?_
    rw [PySem.W.maxD_ints] at hr
    cases hr
    exact ⟨.int _, H, I.kept hk, ⟨_, rfl⟩, q⟩
theorem cr_minT {X : Cx} (hc : X.calm = true) (hu : X.A.units + 1 < cLine) : CallR X (.builtin "min") (rExtT X.K minI) := by
  intro pins s σ H vs us Q I r h
  obtain ⟨a, ns, rfl, hs, hn, q⟩ := h
  obtain ⟨its, rv, hl, _⟩ := I.tuple hs
  rw [Vals.ref1 r]
  have hi := rv.ints
  cases ns with
  | nil => exact absurd hn (by decide)
  | cons x xs =>
    refine PySem.W.min_tuple_data (x := .int x) (xs := xs.map PyData.int) (I.ok.hd hc) hl (reads_ints hi) (alike_ints (x :: xs)) (by
      show _ + 1 + PyData.depthAll ((x :: xs).map PyData.int) < _
      rw [depth_ints]; exact hu) fun i v h' tk bs _ hr hk => ?_
    rw [PySem.W.minD_ints] at hr
    cases hr
    exact ⟨.int _, H, I.kept hk, ⟨_, rfl⟩, q⟩

theorem bq_max : BltQ "max" maxD := .inl ⟨"max", rfl, fun X c cu => ⟨_, (call_max2 c).or ((cr_max c).or (cr_maxT c (by omega))), fun Z H ds d vs F e r => by
  unfold maxD at e
  split at e
  · obtain ⟨ns, en, ed⟩ := Option.bind_eq_some_iff.mp e
    split at ed
    · cases ed
    · rename_i hne
      cases ed
      have hne' : ns ≠ [] := by rintro rfl; exact hne rfl
      obtain ⟨v, ev, rz⟩ := Reps.one r
      obtain ⟨a, us, Fx, eu, s1, rr, _⟩ := rz.lstAt
      rw [ints?_vals en rr] at s1
      exact ⟨_, Rep.int, fun Q q => .inr (.inl ⟨a, ns, by rw [ev, eu], .inl (.inl s1), List.length_pos_iff.mpr hne', fun m h1 h2 => by rw [maxI_unique h1 h2]; exact q⟩)⟩
  · obtain ⟨ns, en, ed⟩ := Option.bind_eq_some_iff.mp e
    split at ed
    · cases ed
    · rename_i hne
      cases ed
      have hne' : ns ≠ [] := by rintro rfl; exact hne rfl
      obtain ⟨v, ev, rz⟩ := Reps.one r
      obtain ⟨a, us, eu, s1, rr⟩ := rz.tupAt
      rw [ints?_vals en rr] at s1
      exact ⟨_, Rep.int, fun Q q => .inr (.inr ⟨a, ns, by rw [ev, eu], s1, List.length_pos_iff.mpr hne', q⟩)⟩
  · cases e
    obtain ⟨v, u, F1, F2, ev, _, r1, r2⟩ := Reps.two r
    exact ⟨_, Rep.int, fun Q q => .inl ⟨_, _, by rw [ev, r1.eInt, r2.eInt], q⟩⟩
  · cases e⟩⟩
theorem bq_min : BltQ "min" minD := .inl ⟨"min", rfl, fun X c cu => ⟨_, (call_min2 c).or ((cr_min c).or (cr_minT c (by omega))), fun Z H ds d vs F e r => by
  unfold minD at e
  split at e
  · obtain ⟨ns, en, ed⟩ := Option.bind_eq_some_iff.mp e
    split at ed
    · cases ed
    · rename_i hne
      cases ed
      have hne' : ns ≠ [] := by rintro rfl; exact hne rfl
      obtain ⟨v, ev, rz⟩ := Reps.one r
      obtain ⟨a, us, Fx, eu, s1, rr, _⟩ := rz.lstAt
      rw [ints?_vals en rr] at s1
      exact ⟨_, Rep.int, fun Q q => .inr (.inl ⟨a, ns, by rw [ev, eu], .inl (.inl s1), List.length_pos_iff.mpr hne', fun m h1 h2 => by rw [minI_unique h1 h2]; exact q⟩)⟩
  · obtain ⟨ns, en, ed⟩ := Option.bind_eq_some_iff.mp e
    split at ed
    · cases ed
    · rename_i hne
      cases ed
      have hne' : ns ≠ [] := by rintro rfl; exact hne rfl
      obtain ⟨v, ev, rz⟩ := Reps.one r
      obtain ⟨a, us, eu, s1, rr⟩ := rz.tupAt
      rw [ints?_vals en rr] at s1
      exact ⟨_, Rep.int, fun Q q => .inr (.inr ⟨a, ns, by rw [ev, eu], s1, List.length_pos_iff.mpr hne', q⟩)⟩
  · cases e
    obtain ⟨v, u, F1, F2, ev, _, r1, r2⟩ := Reps.two r
    exact ⟨_, Rep.int, fun Q q => .inl ⟨_, _, by rw [ev, r1.eInt, r2.eInt], q⟩⟩
  · cases e⟩⟩

/-! ### all, any -/
theorem bq_all : BltQ "all" allD := .inl ⟨"all", rfl, fun X c cu => ⟨_, cr_all c, fun Z H ds d vs F e r => by
  unfold allD at e
  split at e
  · obtain ⟨ns, en, ed⟩ := Option.map_eq_some_iff.mp e
    subst ed
    obtain ⟨v, ev, rz⟩ := Reps.one r
    obtain ⟨a, us, Fx, eu, s1, rr, _⟩ := rz.lstAt
    rw [bools?_vals en rr] at s1
    exact ⟨_, Rep.bl, fun Q q => ⟨a, ns, by rw [ev, eu], .inl (.inl s1), q⟩⟩
  · cases e⟩⟩
theorem bq_any : BltQ "any" anyD := .inl ⟨"any", rfl, fun X c cu => ⟨_, cr_any c, fun Z H ds d vs F e r => by
  unfold anyD at e
  split at e
  · obtain ⟨ns, en, ed⟩ := Option.map_eq_some_iff.mp e
    subst ed
    obtain ⟨v, ev, rz⟩ := Reps.one r
    obtain ⟨a, us, Fx, eu, s1, rr, _⟩ := rz.lstAt
    rw [bools?_vals en rr] at s1
    exact ⟨_, Rep.bl, fun Q q => ⟨a, ns, by rw [ev, eu], .inl (.inl s1), q⟩⟩
  · cases e⟩⟩

/-! ### tuple(x), list(x) -/
theorem ba_tuple : BltA "tuple" tupleD := .inr ⟨"tuple", rfl, fun X c cu => ⟨_, call_tuple_of, fun Z H ds d vs e r Q q => by
  unfold tupleD at e
  split at e
  · cases e
    obtain ⟨v, ev, rz⟩ := Reps.one r
    obtain ⟨a, us, Fx, eu, s1, rr, z⟩ := rz.lstAt
    exact ⟨a, us, by rw [ev, eu], .inl ⟨.inl (.inl s1), fun l hl => q _ _ (new_tup (rr.nil0 z rfl) hl)⟩⟩
  · cases e
    obtain ⟨v, ev, rz⟩ := Reps.one r
    obtain ⟨a, us, eu, s1, rr⟩ := rz.tupAt
    exact ⟨a, us, by rw [ev, eu], .inr ⟨s1, q _ H (.of (by rw [← eu]; exact rz))⟩⟩
  · cases e⟩⟩
def listD' : List D → Option D
  | [.lst _ xs] => some (.lst true xs)
  | [.tup xs] => some (.lst true xs)
  | [.scr ns] => some (.lst true (ns.map .int))
  | _ => none
theorem ba_list : BltA "list" listD' := .inr ⟨"list", rfl, fun X c cu => ⟨_, call_list_of, fun Z H ds d vs e r Q q => by
  unfold listD' at e
  split at e
  · cases e
    obtain ⟨v, ev, rz⟩ := Reps.one r
    obtain ⟨a, us, Fx, eu, s1, rr, z⟩ := rz.lstAt
    exact ⟨a, us, by rw [ev, eu], .inl (.inl (.inl s1)), fun l hl => q _ _ (new_lst (rr.nil0 z rfl) hl)⟩
  · cases e
    obtain ⟨v, ev, rz⟩ := Reps.one r
    obtain ⟨a, us, eu, s1, rr⟩ := rz.tupAt
    exact ⟨a, us, by rw [ev, eu], .inr s1, fun l hl => q _ _ (new_lst rr hl)⟩
  · rename_i ns
    cases e
    obtain ⟨v, ev, rz⟩ := Reps.one r
    obtain ⟨a, ea, s1, _⟩ := (show ∃ a, v = .ref a ∧ ((∃ o, H a = some (.frz o (.lst (ns.map V.int)))) ∨ KLst X.K a (ns.map V.int)) ∧ _ from rz)
    refine ⟨a, ns.map V.int, by rw [ev, ea], .inl ?_, fun l hl => q _ _ (new_lst (reps_ints ns) hl)⟩
    rcases s1 with ⟨o, s1⟩ | ⟨o, its, n, k1, k2, k3, k4, k5, k6⟩
    · exact .inl (.inr ⟨o, s1⟩)
    · exact .inr ⟨o, its, n, k1, k2, k3, k4, k5, k6⟩
  · cases e⟩⟩

/-! ### sorted of ints -/
theorem sorted_unique {a b : List Int} (p : a.Perm b) (ha : a.Pairwise (· ≤ ·)) (hb : b.Pairwise (· ≤ ·)) : a = b :=
  List.Perm.eq_of_pairwise (fun x y _ _ h1 h2 => Int.le_antisymm h1 h2) ha hb p
def sortI (ns : List Int) : List Int := ns.mergeSort (fun a b => decide (a ≤ b))
theorem sortI_perm (ns : List Int) : (sortI ns).Perm ns := List.mergeSort_perm ns _
theorem sortI_le (ns : List Int) : (sortI ns).Pairwise (· ≤ ·) := by
  have h := List.pairwise_mergeSort (le := fun a b : Int => decide (a ≤ b)) (fun a b c h1 h2 => by
    have := of_decide_eq_true h1
    have := of_decide_eq_true h2
    exact decide_eq_true (by omega)) (fun a b => by
    by_cases h : a ≤ b
    · simp [h]
    · simp [h]; omega) ns
  exact h.imp fun h => of_decide_eq_true h
def sortedD : List D → Option D
  | [.lst _ xs] => (ints? xs).map fun ns => .lst true ((sortI ns).map .int)
  | _ => none
theorem ba_sorted : BltA "sorted" sortedD := .inl ⟨"sorted", rfl, fun X c cu => ⟨_, cr_sortedI, fun Z H ds d vs e r Q q => by
  unfold sortedD at e
  split at e
  · obtain ⟨ns, en, ed⟩ := Option.map_eq_some_iff.mp e
    subst ed
    obtain ⟨v, ev, rz⟩ := Reps.one r
    obtain ⟨a, us, Fx, eu, s1, rr, z⟩ := rz.lstAt
    rw [ints?_vals en rr] at s1
    refine ⟨a, ns, by rw [ev, eu], .inl (.inl s1), fun ns' p hp hs hn => ?_⟩
    rw [sorted_unique (hp.trans (sortI_perm ns).symm) hs (sortI_le ns)]
    exact q _ _ (new_lst (reps_ints _) hn)
  · cases e⟩⟩
end FS

/-! Lc: comprehensions of lists. -/
namespace FS
open PySem PySem.Spec PyProof.Rows L2

section
variable {K : PySem.W.Frag} {mg : Str → Option Value} {Z : Addr → Prop} {H : Hp}
/-- slots that are unknown may hold anything -/
theorem SReps.agree : ∀ {sd : Sl} {σ σ' : L2.St} {F : List Addr}, SReps K mg Z H sd σ F → σ'.length = σ.length → (∀ j, at? sd j ≠ none → σ'[j]? = σ[j]?) → SReps K mg Z H sd σ' F
  | [], σ, σ', F, h, hl, ha => by
    obtain ⟨e1, e2⟩ := (show σ = [] ∧ F = [] from h)
    subst e1
    have : σ' = [] := List.length_eq_zero_iff.mp hl
    subst this
    exact ⟨rfl, e2⟩
  | none :: sd, σ, σ', F, h, hl, ha => by
    obtain ⟨x, σr, e, h2⟩ := (show ∃ x σr, σ = x :: σr ∧ SReps K mg Z H sd σr F from h)
    subst e
    cases σ' with
    | nil => simp at hl
    | cons y σ' => exact ⟨y, σ', rfl, SReps.agree h2 (by simpa using hl) fun j hj => by simpa using ha (j + 1) (by simpa using hj)⟩
  | some d :: sd, σ, σ', F, h, hl, ha => by
    obtain ⟨v, σr, F1, F2, e1, e2, h1, h2⟩ := (show ∃ v σr F1 F2, σ = some v :: σr ∧ F = F1 ++ F2 ∧ Rep K mg Z H d v F1 ∧ SReps K mg Z H sd σr F2 from h)
    subst e1 e2
    cases σ' with
    | nil => simp at hl
    | cons y σ' =>
      have e0 := ha 0 (by simp)
      simp at e0
      subst e0
      exact ⟨v, σ', F1, F2, rfl, rfl, h1, SReps.agree h2 (by simpa using hl) fun j hj => by simpa using ha (j + 1) (by simpa using hj)⟩
theorem SReps.wipe : ∀ {sd : Sl} {σ : L2.St} {F : List Addr} (own : List Nat), SReps K mg Z H sd σ F → ∃ R F', F.Perm (R ++ F') ∧ SReps K mg Z H (wipeD sd own) σ F'
  | sd, σ, F, [], h => ⟨[], F, .refl _, h⟩
  | sd, σ, F, i :: own, h => by
    obtain ⟨R, F', p, s⟩ := SReps.wipe own h
    obtain ⟨Fx, Fr, p2, s2⟩ := s.drop i
    refine ⟨R ++ Fx, Fr, ?_, s2⟩
    refine p.trans ?_
    rw [List.append_assoc]
    exact List.Perm.append_left R p2
end
theorem wipeD_len (sd : Sl) : ∀ own : List Nat, (wipeD sd own).length = sd.length
  | [] => rfl
  | i :: own => by unfold wipeD; rw [List.length_set, wipeD_len sd own]
theorem at?_wipeD {sd : Sl} {j : Nat} : ∀ {own : List Nat}, at? (wipeD sd own) j ≠ none → j ∉ own ∧ at? sd j ≠ none
  | [], h => ⟨by simp, h⟩
  | i :: own, h => by
    unfold wipeD at h
    by_cases e : i = j
    · subst e
      rw [at?_set_none] at h
      exact absurd rfl h
    · rw [at?_set_ne e] at h
      obtain ⟨h1, h2⟩ := at?_wipeD h
      exact ⟨by simp only [List.mem_cons, not_or]; exact ⟨fun q => e q.symm, h1⟩, h2⟩
theorem wipe_at {σ : L2.St} {j : Nat} : ∀ {own : List Nat}, j ∉ own → (L2.wipe σ own)[j]? = σ[j]?
  | [], _ => rfl
  | i :: own, h => by
    simp only [List.mem_cons, not_or] at h
    unfold L2.wipe
    rw [List.getElem?_set_ne (fun q => h.1 q.symm), wipe_at h.2]
theorem wipe_eq {σ σ' : L2.St} {own : List Nat} (hl : σ'.length = σ.length) (h : ∀ j, j ∉ own → σ'[j]? = σ[j]?) : L2.wipe σ' own = L2.wipe σ own := by
  refine List.ext_getElem? fun j => ?_
  by_cases hj : j ∈ own
  · have key : ∀ (τ : L2.St) (own : List Nat), j ∈ own → (L2.wipe τ own)[j]? = if j < τ.length then some none else none := by
      intro τ own
      induction own with
      | nil => intro h; cases h
      | cons i own ih =>
        intro h
        unfold L2.wipe
        by_cases e : i = j
        · subst e
          rw [List.getElem?_set_self' ]
          by_cases hlt : i < τ.length
          · rw [if_pos hlt, List.getElem?_eq_getElem (by rw [L2.wipe_length]; exact hlt)]; rfl
          · rw [if_neg hlt, List.getElem?_eq_none (by rw [L2.wipe_length]; omega)]; rfl
        · rw [List.getElem?_set_ne e]
          exact ih (by
            rcases List.mem_cons.mp h with q | q
            · exact absurd q.symm e
            · exact q)
    rw [key σ' own hj, key σ own hj, hl]
  · rw [wipe_at hj, wipe_at hj, h j hj]
theorem wipe_wipe (σ : L2.St) (own : List Nat) : L2.wipe (L2.wipe σ own) own = L2.wipe σ own :=
  wipe_eq (L2.wipe_length σ own) fun j hj => wipe_at hj

section
variable {K : PySem.W.Frag} {mg : Str → Option Value} {Z : Addr → Prop} {H : Hp} {f : Fr0} {sd : Sl} {σ : L2.St} {ds : List D} {vs : List V} {F G : List Addr}
/-- an owned thing is written -/
theorem SIx.poke {sd' : Sl} {σ' : L2.St} {ds' : List D} {vs' : List V} {F' G' R : List Addr} {p : Addr} {o : HO} (S : SIx K mg f sd σ ds vs H Z F G) (hp : p ∈ F ++ G) (s : SReps K mg Z (upd H p o) sd' σ' F') (t : Reps K mg Z (upd H p o) ds' vs' G')
    (pm : (F ++ G).Perm (R ++ (F' ++ G'))) (hv : ∀ p ∈ f.V0, σ'[p.1]? = some (some p.2)) : SIx K mg f sd' σ' ds' vs' (upd H p o) Z F' G' where
  slots := s
  temps := t
  nd := ((pm.nodup_iff.mp S.nd).sublist (List.sublist_append_right R _))
  nz := fun a ha => S.nz a (pm.mem_iff.mpr (List.mem_append_right _ ha))
  zin := fun a z => by
    by_cases e : a = p
    · rw [e, upd_same]; simp
    · rw [upd_ne e]; exact S.zin a z
  zlow := S.zlow
  zup := S.zup
  own := fun a ha => S.own a (pm.mem_iff.mpr (List.mem_append_right _ ha))
  keep := fun a u h1 h2 => by
    have : a ≠ p := by
      rintro rfl
      rcases S.own _ hp with q | q
      · exact h2 q
      · rw [h1] at q; cases q
    rw [upd_ne this]
    exact S.keep a u h1 h2
  pins := hv
/-- the slots forgotten below -/
theorem SI.wipeD {X : Cx} (own : List Nat) (S : SIX X f sd σ ds vs H) : SIX X f (FS.wipeD sd own) σ ds vs H := by
  obtain ⟨Z, F, G, S⟩ := S
  obtain ⟨R, F', p, s⟩ := S.slots.wipe own
  refine ⟨Z, F', G, S.sub (R := R) s S.temps ?_ S.pins⟩
  rw [← List.append_assoc]
  exact List.Perm.append_right G p
/-- other slots where nothing is known -/
theorem SI.agree {X : Cx} {σ' : L2.St} (S : SIX X f sd σ ds vs H) (hl : σ'.length = σ.length) (h : ∀ j, at? sd j ≠ none → σ'[j]? = σ[j]?) (hv : ∀ p ∈ f.V0, σ'[p.1]? = σ[p.1]?) : SIX X f sd σ' ds vs H := by
  obtain ⟨Z, F, G, S⟩ := S
  exact ⟨Z, F, G, S.sub (R := []) (S.slots.agree hl h) S.temps (.refl _) fun p hp => by rw [hv p hp]; exact S.pins p hp⟩
theorem SI.wipe {X : Cx} {own : List Nat} (hv : ∀ p ∈ f.V0, p.1 ∉ own) (S : SIX X f sd σ ds vs H) : SIX X f (FS.wipeD sd own) (L2.wipe σ own) ds vs H :=
  (S.wipeD own).agree (L2.wipe_length _ _) (fun j hj => wipe_at (at?_wipeD hj).1) fun p hp => wipe_at (hv p hp)
theorem SI.unwipe {X : Cx} {own : List Nat} (hv : ∀ p ∈ f.V0, p.1 ∉ own) (S : SIX X f sd (L2.wipe σ own) ds vs H) : SIX X f (FS.wipeD sd own) σ ds vs H :=
  (S.wipeD own).agree (L2.wipe_length _ _).symm (fun j hj => (wipe_at (at?_wipeD hj).1).symm) fun p hp => (wipe_at (hv p hp)).symm
/-- append to a list among the temporaries -/
theorem SI.app {X : Cx} {y : D} {v : V} {ws acc ds : List D} {us vs : List V} {p : Addr} (l : us.length = ws.length) (S : SIX X f sd σ (y :: (ws ++ .lst true acc :: ds)) (v :: (us ++ .ref p :: vs)) H) :
    ∃ av, H p = some (.lst av) ∧ av.length = acc.length ∧ SIX X f sd σ (ws ++ .lst true (acc ++ [y]) :: ds) (us ++ .ref p :: vs) (upd H p (.lst (av ++ [v]))) := by
  obtain ⟨Z, F, G, S⟩ := S
  obtain ⟨v', vr, Gy, G2, e1, e2, ry, r2⟩ := (show ∃ v' vr F1 F2, v :: (us ++ .ref p :: vs) = v' :: vr ∧ G = F1 ++ F2 ∧ Rep X.K X.mg Z H y v' F1 ∧ Reps X.K X.mg Z H (ws ++ .lst true acc :: ds) vr F2 from S.temps)
  cases e1
  obtain ⟨v1, v2, Gw, G3, e3, e4, rw', r3⟩ := r2.append_inv
  obtain ⟨ea, eb⟩ := List.append_inj e3 (by rw [l, rw'.length])
  subst ea
  obtain ⟨v3, vr3, Ga, Gd, e5, e6, ra, rd⟩ := (show ∃ v' vr F1 F2, v2 = v' :: vr ∧ G3 = F1 ++ F2 ∧ Rep X.K X.mg Z H (.lst true acc) v' F1 ∧ Reps X.K X.mg Z H ds vr F2 from r3)
  rw [e5] at eb
  cases eb
  obtain ⟨a, av, Fx, ev, rr, q⟩ := (show ∃ a vs Fx, V.ref p = .ref a ∧ Reps X.K X.mg Z H acc vs Fx ∧ _ from ra)
  cases ev
  rcases q with ⟨_, hp, eg⟩ | ⟨h, _⟩
  case inr => cases h
  subst e2 e4 e6 eg
  have nd := S.nd
  have hpm : p ∈ F ++ (Gy ++ (Gw ++ ((p :: Fx) ++ Gd))) := by simp
  have hs : ¬ Still (HO.lst av) := fun h => h
  -- p is nowhere else
  have pm : (F ++ (Gy ++ (Gw ++ ((p :: Fx) ++ Gd)))).Perm (p :: (F ++ (Gy ++ (Gw ++ (Fx ++ Gd))))) := by
    have a1 : (Gw ++ ((p :: Fx) ++ Gd)).Perm (p :: (Gw ++ (Fx ++ Gd))) := List.perm_middle
    have a2 : (Gy ++ (Gw ++ ((p :: Fx) ++ Gd))).Perm (p :: (Gy ++ (Gw ++ (Fx ++ Gd)))) := (List.Perm.append_left Gy a1).trans List.perm_middle
    exact (List.Perm.append_left F a2).trans List.perm_middle
  have hn : p ∉ F ++ (Gy ++ (Gw ++ (Fx ++ Gd))) := (List.nodup_cons.mp (pm.nodup_iff.mp nd)).1
  have hz : ¬ Z p := S.nz p hpm
  have kp : ∀ {L : List Addr}, (∀ a ∈ L, a ∈ F ++ (Gy ++ (Gw ++ (Fx ++ Gd)))) → KeepAt Z H (upd H p (.lst (av ++ [v]))) L := fun hL => KeepAt.upd hp hs (fun hm => hn (hL _ hm)) hz
  have idz : ∀ a, Z a → Z a := fun _ z => z
  have s' := S.slots.keep idz (kp fun a ha => List.mem_append_left _ ha)
  have ry' := ry.keep idz y (kp fun a ha => by simp [ha])
  have rw'' := rw'.keep idz ws (kp fun a ha => by simp [ha])
  have rr' := rr.keep idz acc (kp fun a ha => by simp [ha])
  have rd' := rd.keep idz ds (kp fun a ha => by simp [ha])
  have one : Reps X.K X.mg Z (upd H p (.lst (av ++ [v]))) [y] [v] Gy := ⟨v, [], Gy, [], rfl, by rw [List.append_nil], ry', ⟨rfl, rfl⟩⟩
  have rl : Rep X.K X.mg Z (upd H p (.lst (av ++ [v]))) (.lst true (acc ++ [y])) (.ref p) (p :: (Fx ++ Gy)) := ⟨p, av ++ [v], Fx ++ Gy, rfl, rr'.append one, .inl ⟨rfl, upd_same, rfl⟩⟩
  have rt : Reps X.K X.mg Z (upd H p (.lst (av ++ [v]))) (ws ++ .lst true (acc ++ [y]) :: ds) (us ++ .ref p :: vs) (Gw ++ ((p :: (Fx ++ Gy)) ++ Gd)) := rw''.append ⟨_, _, _, _, rfl, rfl, rl, rd'⟩
  refine ⟨av, hp, rr.length.symm, Z, F, Gw ++ ((p :: (Fx ++ Gy)) ++ Gd), S.poke (R := []) hpm s' rt ?_ S.pins⟩
  rw [List.nil_append]
  refine List.Perm.append_left F ?_
  -- Gy ++ (Gw ++ (p :: Fx ++ Gd)) ~ Gw ++ (p :: (Fx ++ Gy) ++ Gd)
  have b1 : (Gy ++ (Gw ++ ((p :: Fx) ++ Gd))).Perm (Gw ++ (Gy ++ ((p :: Fx) ++ Gd))) := by
    have b0 : ((Gy ++ Gw) ++ ((p :: Fx) ++ Gd)).Perm ((Gw ++ Gy) ++ ((p :: Fx) ++ Gd)) := List.Perm.append_right _ List.perm_append_comm
    rw [List.append_assoc, List.append_assoc] at b0
    exact b0
  refine b1.trans (List.Perm.append_left Gw ?_)
  rw [← List.append_assoc]
  refine List.Perm.append_right Gd ?_
  have b2 : (Gy ++ (p :: Fx)).Perm ((p :: Fx) ++ Gy) := List.perm_append_comm
  exact b2
/-- a new empty list goes under the temporaries of a walk -/
theorem SI.newUnder {X : Cx} {ws ds : List D} {us vs : List V} {p : Addr} (l : us.length = ws.length) (S : SIX X f sd σ (ws ++ ds) (us ++ vs) H) (hp : H p = none) :
    SIX X f sd σ (ws ++ .lst true [] :: ds) (us ++ .ref p :: vs) (upd H p (.lst [])) := by
  obtain ⟨Z, F, G, S⟩ := S
  obtain ⟨fz, fn, fo⟩ := S.fresh hp
  have S1 := (S.ext (Ext.upd (o := .lst []) hp)).push (d := .lst true []) (v := .ref p) (Gn := [p]) ⟨p, [], [], rfl, ⟨rfl, rfl⟩, .inl ⟨rfl, upd_same, rfl⟩⟩ (by simp) (fun a ha => by
    have : a = p := by simpa using ha
    rw [this]; exact fn) (fun a ha => by
    have : a = p := by simpa using ha
    rw [this]; exact fz) (fun a ha => by
    have : a = p := by simpa using ha
    rw [this]; exact fo)
  obtain ⟨v', vr, G1, G2, e1, e2, r1, r2⟩ := (show ∃ v' vr F1 F2, V.ref p :: (us ++ vs) = v' :: vr ∧ [p] ++ G = F1 ++ F2 ∧ Rep X.K X.mg Z _ (.lst true []) v' F1 ∧ Reps X.K X.mg Z _ (ws ++ ds) vr F2 from S1.temps)
  cases e1
  obtain ⟨v1, v2, Gw, Gd, e3, e4, rw', rd⟩ := r2.append_inv
  obtain ⟨ea, eb⟩ := List.append_inj e3 (by rw [l, rw'.length])
  subst ea eb
  refine ⟨Z, F, Gw ++ (G1 ++ Gd), S1.sub (R := []) S1.slots (rw'.append ⟨_, _, _, _, rfl, rfl, r1, rd⟩) ?_ S1.pins⟩
  rw [List.nil_append, e2, e4]
  refine List.Perm.append_left F ?_
  rw [← List.append_assoc, ← List.append_assoc]
  exact List.Perm.append_right _ List.perm_append_comm
/-- .. and comes to the top -/
theorem SI.topped {X : Cx} {ws ds : List D} {us vs : List V} {d : D} {v : V} (l : us.length = ws.length) (S : SIX X f sd σ (ws ++ d :: ds) (us ++ v :: vs) H) : SIX X f sd σ (d :: ds) (v :: vs) H := S.pops l
end

/-! ### the block -/
abbrev W0 : WX := fun _ _ _ _ => False
/-- what is known within a comprehension -/
def Gam.blk (Γ : Gam) (scope : Scope) (st : List Str) : Gam := { Γ with sc := relS scope Γ.sc, st := st, top := false }
def stB (sc scope : Scope) (st : List Str) : Bool := st.all fun x => (scope.names.lookup x == some .cell) || decide ((relS scope sc).names.lookup x = some .local)
theorem ctx_blk {Γ : Gam} {X : Cx} {scope : Scope} {st : List Str} (C : Ctx Γ X) (hst : stB Γ.sc scope st = true) (s : Shared) (H : Hp) (c : Addr) (cl : List (Str × Addr)) (fp : List Addr) :
    Ctx (Γ.blk scope st) (X.blk s H scope (compEnvC scope cl c X.env) fp) where
  N := C.N
  nd := C.nd
  sc := by show relS scope X.env.scope = relS scope Γ.sc; rw [C.sc]
  calm := C.calm
  pas := PassesOwn.never
  un := C.un
  st := fun x hx => by
    have h := List.all_eq_true.mp hst x hx
    rw [Bool.or_eq_true] at h
    rcases h with h | h
    · exact .inl h
    · refine .inr ?_
      show (relS scope X.env.scope).names.lookup x = _
      rw [C.sc]
      exact of_decide_eq_true h
  fns := fun p hp => C.fns p hp
  blt := C.blt
  cns := C.cns
  exs := C.exs
  exm := C.exm
  xfs := C.xfs
  top := fun h => nomatch h
section
variable (X : Cx) (scope : Scope)
def eAll (e : Expr) : TE := fun σ H Q => ∀ (s0 : Shared) (H0 : Hp) (C : Addr) (cl : List (Str × Addr)) (fp : List Addr), ∃ t, PE (X.blk s0 H0 scope (compEnvC scope cl C X.env) fp) e t ∧ t σ H Q
def gAll (e : Expr) : TG := fun v σ H Q => ∀ (s0 : Shared) (H0 : Hp) (C : Addr) (cl : List (Str × Addr)) (fp : List Addr), ∃ t, PG (X.blk s0 H0 scope (compEnvC scope cl C X.env) fp) e t ∧ t v σ H Q
def tAll2 (ifs : List Expr) : TT := fun σ H Q => ∀ (s0 : Shared) (H0 : Hp) (C : Addr) (cl : List (Str × Addr)) (fp : List Addr), ∃ t, PTs (X.blk s0 H0 scope (compEnvC scope cl C X.env) fp) ifs t ∧ t σ H Q
end
theorem pe_all {X : Cx} {scope : Scope} {e : Expr} (s0 : Shared) (H0 : Hp) (C : Addr) (cl : List (Str × Addr)) (fp : List Addr) : PE (X.blk s0 H0 scope (compEnvC scope cl C X.env) fp) e (eAll X scope e) :=
  ⟨fun pins s σ H Q I h => let ⟨t, p, q⟩ := h s0 H0 C cl fp; p.run pins s σ H Q I q⟩
theorem pg_all {X : Cx} {scope : Scope} {e : Expr} (s0 : Shared) (H0 : Hp) (C : Addr) (cl : List (Str × Addr)) (fp : List Addr) : PG (X.blk s0 H0 scope (compEnvC scope cl C X.env) fp) e (gAll X scope e) :=
  ⟨fun pins s σ H v u Q I r h => let ⟨t, p, q⟩ := h s0 H0 C cl fp; p.run pins s σ H v u Q I r q⟩
theorem pts_all {X : Cx} {scope : Scope} {ifs : List Expr} (s0 : Shared) (H0 : Hp) (C : Addr) (cl : List (Str × Addr)) (fp : List Addr) : PTs (X.blk s0 H0 scope (compEnvC scope cl C X.env) fp) ifs (tAll2 X scope ifs) :=
  ⟨fun pins s σ H Q I h => let ⟨t, p, q⟩ := h s0 H0 C cl fp; p.run pins s σ H Q I q⟩
def TsO (Γ : Gam) (ifs : List Expr) (m : M Bool) : Prop := ∀ X W, Ctx Γ X → Takes X W → ∃ t, PTs X ifs t ∧ SimT X Γ.refs W t m
theorem TsO.nil {Γ : Gam} : TsO Γ [] tTrue := fun X W C tk => ⟨_, pts_nil, fun f sd σ ds vs H Q hr S k => k H S⟩
theorem TsO.one {Γ : Gam} {c : Expr} {m : M Bool} (h : TO Γ c m) : TsO Γ [c] m := fun X W C tk => by
  obtain ⟨t, p, s⟩ := h X W C tk
  exact ⟨t, pts_one p, s⟩
section
variable {Γ : Gam} {X : Cx} {scope : Scope} {st : List Str}
theorem simE_all {e : Expr} {m : M D} (C : Ctx Γ X) (hst : stB Γ.sc scope st = true) (h : EO (Γ.blk scope st) e m) : SimE X Γ.refs W0 (eAll X scope e) m := fun f sd σ ds vs H Q hr S => by
  have key := fun (s0 : Shared) (H0 : Hp) (c : Addr) (cl : List (Str × Addr)) (fp : List Addr) => h _ W0 (ctx_blk C hst s0 H0 c cl fp) takes0
  cases e1 : m sd with
  | bad => trivial
  | ok d sd' =>
    intro k s0 H0 c cl fp
    obtain ⟨t, p, s⟩ := key s0 H0 c cl fp
    have := s f sd σ ds vs H Q hr S
    rw [e1] at this
    exact ⟨t, p, this k⟩
  | exc x sd' =>
    intro k s0 H0 c cl fp
    obtain ⟨t, p, s⟩ := key s0 H0 c cl fp
    have := s f sd σ ds vs H Q hr S
    rw [e1] at this
    exact ⟨t, p, this k⟩
theorem simT_all {ifs : List Expr} {m : M Bool} (C : Ctx Γ X) (hst : stB Γ.sc scope st = true) (h : TsO (Γ.blk scope st) ifs m) : SimT X Γ.refs W0 (tAll2 X scope ifs) m := fun f sd σ ds vs H Q hr S => by
  have key := fun (s0 : Shared) (H0 : Hp) (c : Addr) (cl : List (Str × Addr)) (fp : List Addr) => h _ W0 (ctx_blk C hst s0 H0 c cl fp) takes0
  cases e1 : m sd with
  | bad => trivial
  | ok d sd' =>
    intro k s0 H0 c cl fp
    obtain ⟨t, p, s⟩ := key s0 H0 c cl fp
    have := s f sd σ ds vs H Q hr S
    rw [e1] at this
    exact ⟨t, p, this k⟩
  | exc x sd' =>
    intro k s0 H0 c cl fp
    obtain ⟨t, p, s⟩ := key s0 H0 c cl fp
    have := s f sd σ ds vs H Q hr S
    rw [e1] at this
    exact ⟨t, p, this k⟩
theorem simG_all {e : Expr} {g : Tg} {js : List Nat} (C : Ctx Γ X) (hst : stB Γ.sc scope st = true) (h : GO (Γ.blk scope st) e g js) : SimG X Γ.refs js (gAll X scope e) g := fun f sd σ d v ds vs H Q hr S => by
  have key := fun (s0 : Shared) (H0 : Hp) (c : Addr) (cl : List (Str × Addr)) (fp : List Addr) => h _ W0 (ctx_blk C hst s0 H0 c cl fp) takes0
  cases e1 : g d sd with
  | none => trivial
  | some sd' =>
    intro k s0 H0 c cl fp
    obtain ⟨t, p, s⟩ := key s0 H0 c cl fp
    have := s f sd σ d v ds vs H Q hr S
    rw [e1] at this
    exact ⟨t, p, this k⟩
theorem lcL_len {own : List Nat} {t : Tg} {c : M Bool} {e : M D} : ∀ {xs : List D} {sd : Sl} {ys : List D} {sd' : Sl}, lcL own t c e xs sd = .ok ys sd' → ys.length ≤ xs.length
  | [], sd, ys, sd', h => by cases h; exact Nat.le_refl _
  | x :: xs, sd, ys, sd', h => by
    unfold lcL at h
    split at h
    · cases h
    · split at h
      · split at h
        · split at h
          · rename_i hh
            cases h
            have := lcL_len hh
            simp; omega
          · cases h
        · cases h
      · have := lcL_len h
        simp; omega
      · cases h
theorem simLc {refs : List Nat} {W : WX} {wi : TI} {g : TG} {tt : TT} {te : TE} {own js : List Nat} {src : M (List D)} {t : Tg} {c : M Bool} {m : M D} (hj : ∀ j ∈ js, j ∈ own) (ho : ∀ i ∈ refs, i ∉ own)
    (s1 : SimI X refs W wi src) (s2 : SimG X refs js g t) (s3 : SimT X refs W0 tt c) (s4 : SimE X refs W0 te m) : SimE X refs W (tLc wi g tt te own) (mLc own t src c m) := fun f sd σ ds vs H Q hr S => by
  unfold mLc
  have h1 := s1 f sd σ ds vs H (fun J H1 => ∀ D, H1 D = none → ∃ W : Nat → Nat → Hp → Prop, (∃ m, W 0 m (upd H1 D (.lst []))) ∧ ∀ i m H, W i m H →
    (J.stop i H ∧ Q (.ref D) H) ∨ (J.go i H ∧ ∃ Nx : Hp → Prop, (∀ H', Nx H' → ∃ m', m' < m ∧ W (i + 1) m' H') ∧ ∀ x H', J.yld i H x H' → g x (L2.wipe σ own) H' fun σ2 H2 => L2.wipe σ2 own = L2.wipe σ own ∧ tt σ2 H2 fun b H3 =>
    if b = true then te σ2 H3 fun y H4 => ∃ acc, H4 D = some (.lst acc) ∧ acc.length < sizeLine ∧ Nx (upd H4 D (.lst (acc ++ [y]))) else Nx H3)) hr S
  cases e : src sd with
  | bad => trivial
  | exc x sd1 => rw [e] at h1; exact h1
  | ok xs sd1 =>
    rw [e] at h1
    rw [Out.then_ok]
    by_cases hz : xs.length ≤ sz
    case neg => rw [if_neg hz]; trivial
    rw [if_pos hz]
    cases el : lcL own t c m xs (wipeD sd1 own) with
    | bad => trivial
    | exc x sd2 => trivial
    | ok ys sd2 =>
      dsimp only
      intro k
      have hv : ∀ p ∈ f.V0, p.1 ∉ own := fun p hp => ho _ (hr p hp)
      refine h1 fun J ws us H1 wk S1 p hp => ?_
      obtain ⟨lw, wk⟩ := wk
      have S2 := (SI.newUnder lw S1 hp).wipe (own := own) hv
      refine ⟨fun i m' H' => m' = xs.length - i ∧ i ≤ xs.length ∧ ∃ acc rest sdi, acc.length ≤ i ∧ acc ++ rest = ys ∧ SIX X f sdi (L2.wipe σ own) (ws ++ .lst true acc :: ds) (us ++ .ref p :: vs) H' ∧ lcL own t c m (xs.drop i) sdi = .ok rest sd2,
        ⟨xs.length, by simp, Nat.zero_le _, [], ys, _, Nat.le_refl _, rfl, S2, by rw [List.drop_zero]; exact el⟩, ?_⟩
      rintro i m' H2 ⟨rfl, hi, acc, rest, sdi, la, ey, S3, ef⟩
      obtain ⟨w1, w2⟩ := wk f sdi (L2.wipe σ own) (.lst true acc :: ds) (.ref p :: vs) H2 i S3
      by_cases hlt : i < xs.length
      · have hy0 : ∃ y0, xs[i]? = some y0 ∧ xs.drop i = y0 :: xs.drop (i + 1) := ⟨_, List.getElem?_eq_getElem hlt, List.drop_eq_getElem_cons hlt⟩
        obtain ⟨y0, ex, ed⟩ := hy0
        rw [ed] at ef
        obtain ⟨wg, wy⟩ := w1 _ ex
        unfold lcL at ef
        cases et : t y0 sdi with
        | none => rw [et] at ef; cases ef
        | some sdt =>
          rw [et] at ef
          dsimp only at ef
          have htg := fun v H' Q S3 => s2 f sdi (L2.wipe σ own) y0 v (ws ++ .lst true acc :: ds) (us ++ .ref p :: vs) H' Q hr S3
          rw [et] at htg
          have hw : ∀ {σ3 : L2.St}, Away js (L2.wipe σ own) σ3 → L2.wipe σ3 own = L2.wipe σ own := fun aw => (wipe_eq aw.1 fun j hj' => aw.2 j fun q => hj' (hj j q)).trans (wipe_wipe σ own)
          cases ec : c sdt with
          | bad => rw [ec] at ef; cases ef
          | exc x sdx => rw [ec] at ef; cases ef
          | ok b sdc =>
            rw [ec] at ef
            have ht := fun σ3 H3 QQ S3 => s3 f sdt σ3 (ws ++ .lst true acc :: ds) (us ++ .ref p :: vs) H3 QQ hr S3
            rw [ec] at ht
            cases b with
            | false =>
              dsimp only at ef
              refine .inr ⟨wg, fun H' => SIX X f (wipeD sdc own) (L2.wipe σ own) (ws ++ .lst true acc :: ds) (us ++ .ref p :: vs) H', fun H' S4 => ⟨xs.length - (i + 1), by omega, rfl, by omega, acc, rest, wipeD sdc own, by omega, ey, S4, ef⟩, fun v H' y => ?_⟩
              exact htg v H' _ (wy v H' y) fun σ3 H3 S5 aw => ⟨hw aw, ht σ3 H3 _ S5 fun H6 S6 => by
                rw [if_neg Bool.false_ne_true]
                have S7 := S6.wipe (own := own) hv
                rw [hw aw] at S7
                exact S7⟩
            | true =>
              dsimp only at ef
              cases em : m sdc with
              | bad => rw [em] at ef; cases ef
              | exc x sdx => rw [em] at ef; cases ef
              | ok y1 sde =>
                rw [em] at ef
                dsimp only at ef
                cases er : lcL own t c m (xs.drop (i + 1)) (wipeD sde own) with
                | bad => rw [er] at ef; cases ef
                | exc x sdx => rw [er] at ef; cases ef
                | ok rest2 sdr =>
                  rw [er] at ef
                  cases ef
                  have hm := fun σ3 H3 QQ S3 => s4 f sdc σ3 (ws ++ .lst true acc :: ds) (us ++ .ref p :: vs) H3 QQ hr S3
                  rw [em] at hm
                  refine .inr ⟨wg, fun H' => SIX X f (wipeD sde own) (L2.wipe σ own) (ws ++ .lst true (acc ++ [y1]) :: ds) (us ++ .ref p :: vs) H', fun H' S4 => ⟨xs.length - (i + 1), by omega, rfl, by omega, acc ++ [y1], rest2, wipeD sde own, by simp; omega, by rw [List.append_assoc]; exact ey, S4, er⟩, fun v H' y => ?_⟩
                  exact htg v H' _ (wy v H' y) fun σ3 H3 S5 aw => ⟨hw aw, ht σ3 H3 _ S5 fun H6 S6 => by
                    rw [if_pos rfl]
                    refine hm σ3 H6 _ S6 fun v1 H7 S7 => ?_
                    obtain ⟨av, hD, hl, S8⟩ := SI.app lw S7
                    refine ⟨av, hD, by rw [sizeLine_eq, hl]; unfold sz at hz; omega, ?_⟩
                    have S9 := S8.wipe (own := own) hv
                    rw [hw aw] at S9
                    exact S9⟩
      · have ed : xs.drop i = [] := List.drop_eq_nil_of_le (by omega)
        rw [ed] at ef
        cases ef
        rw [List.append_nil] at ey
        subst ey
        exact .inl ⟨w2 (by omega), k _ H2 ((SI.topped lw S3).unwipe hv)⟩
end
section
variable {Γ : Gam}
/-- what the printer gives for a comprehension -/
structure LcOk (Γ : Gam) (scope : Scope) (own : List (Str × Nat)) (st : List Str) (js : List Nat) : Prop where
  blk : blkC Γ.N Γ.sc scope own = true
  st : stB Γ.sc scope st = true
  js : (js.all fun j => own.any fun p => p.2 == j) = true
  ref : (Γ.refs.all fun i => !(own.any fun p => p.2 == i)) = true
theorem LcOk.hj {scope : Scope} {own : List (Str × Nat)} {st : List Str} {js : List Nat} (h : LcOk Γ scope own st js) : ∀ j ∈ js, j ∈ own.map (·.2) := fun j hj => by
  obtain ⟨p, hp, e⟩ := List.any_eq_true.mp (List.all_eq_true.mp h.js j hj)
  exact List.mem_map.mpr ⟨p, hp, by simpa using e⟩
theorem LcOk.ho {scope : Scope} {own : List (Str × Nat)} {st : List Str} {js : List Nat} (h : LcOk Γ scope own st js) : ∀ i ∈ Γ.refs, i ∉ own.map (·.2) := fun i hi m => by
  obtain ⟨p, hp, e⟩ := List.mem_map.mp m
  have := List.all_eq_true.mp h.ref i hi
  rw [Bool.not_eq_true'] at this
  rw [List.any_eq_false] at this
  exact this p hp (by simpa using e)
/-- [elt for tg in iter if ..] -/
theorem EO.lc {elt tg iter : Expr} {ifs : List Expr} {scope : Scope} {own : List (Str × Nat)} {st : List Str} {js : List Nat} {pos : Pos} {src : M (List D)} {t : Tg} {c : M Bool} {m : M D} (ok : LcOk Γ scope own st js) (hi : IO Γ tg iter src)
    (hg : GO (Γ.blk scope st) tg t js) (hc : TsO (Γ.blk scope st) ifs c) (he : EO (Γ.blk scope st) elt m) (hs : ∀ env x, foldedSetIterable iter env x = pure x := by intro _ _; rfl) :
    EO Γ (.ListComp elt [⟨tg, iter, ifs, 0⟩] scope pos) (mLc (own.map (·.2)) t src c m) := fun X W C tk => by
  obtain ⟨wi, p1, s1⟩ := hi X W C tk
  exact ⟨_, pe_lc C.calm (by rw [C.N]; exact C.nd) p1 (blkOk_by (by rw [C.N, C.sc]; exact ok.blk)) (fun s H D cl fp => pg_all (scope := scope) s H D cl fp) (fun s H D cl fp => pts_all (scope := scope) s H D cl fp) (fun s H D cl fp => pe_all (scope := scope) s H D cl fp) (hs _),
    simLc ok.hj ok.ho s1 (simG_all C ok.st hg) (simT_all C ok.st hc) (simE_all C ok.st he)⟩
/-- name = [..] -/
theorem SO.setLc {i : Nat} {y : Str} {py spos : Pos} {elt tg iter : Expr} {ifs : List Expr} {scope : Scope} {own : List (Str × Nat)} {st : List Str} {js : List Nat} {pos : Pos} {src : M (List D)} {t : Tg} {c : M Bool} {m : M D} (hy : LocN Γ i y) (hyl : Γ.sc.names.lookup y = some .local) (ok : LcOk Γ scope own st js) (hi : IO Γ tg iter src)
    (hg : GO (Γ.blk scope st) tg t js) (hc : TsO (Γ.blk scope st) ifs c) (he : EO (Γ.blk scope st) elt m)
    (hk : Γ.sc.kind = .function) (hl : (py.line == pos.line) = true) (ha : (scope.names.any fun (n, k) => n == y && (k == .local || k == .cell)) = false) (hs : ∀ env x, foldedSetIterable iter env x = pure x := by intro _ _; rfl) :
    SO Γ (.Assign [.Name y py] (.ListComp elt [⟨tg, iter, ifs, 0⟩] scope pos) spos) (sAsg (tName i) (mLc (own.map (·.2)) t src c m)) := fun X W C tk => by
  obtain ⟨wi, p1, s1⟩ := hi X W C tk
  obtain ⟨h1, h2, h3, h4⟩ := hy
  have hk' : X.env.scope.kind = .function := by rw [C.sc]; exact hk
  have hl' : X.env.scope.names.lookup y = some .local := by rw [C.sc]; exact hyl
  exact ⟨_, ps_setLc C.calm (by rw [C.N]; exact C.nd) (by rw [C.N]; exact h1) hl' (sw_true hk' hl' hl ha) p1 (blkOk_by (by rw [C.N, C.sc]; exact ok.blk)) (fun s H D cl fp => pg_all (scope := scope) s H D cl fp) (fun s H D cl fp => pts_all (scope := scope) s H D cl fp) (fun s H D cl fp => pe_all (scope := scope) s H D cl fp) (hs _),
    simAsg (simLc ok.hj ok.ho s1 (simG_all C ok.st hg) (simT_all C ok.st hc) (simE_all C ok.st he)) (simName h4)⟩
end
end FS

/-! Src: more that is walked. -/
namespace FS
open PySem PySem.Spec PyProof.Rows L2

def iArgs (f : List D → Option (List D)) (m : M (List D)) : M (List D) := fun σ => (m σ).then fun xs σ1 => ofOpt (f (frzs xs)) σ1
def tI (r : List V → Hp → (It → Hp → Prop) → Prop) (ta : TA) : TI := fun σ H R => ta σ H fun vs H1 => r vs H1 R
def IRs (X : Cx) (r : List V → Hp → (It → Hp → Prop) → Prop) (f : List D → Option (List D)) : Prop := ∀ Z H ds vs xs, f ds = some xs → isFs ds = true → Reps X.K X.mg Z H ds vs [] → ∀ R, (∀ J, Walk X J ds vs xs → R J H) → r vs H R
section
variable {Γ : Gam}
theorem simIA {X : Cx} {refs : List Nat} {W : WX} {ta : TA} {m : M (List D)} {r : List V → Hp → (It → Hp → Prop) → Prop} {f : List D → Option (List D)} (s1 : SimA X refs W ta m) (hr : IRs X r f) : SimI X refs W (tI r ta) (iArgs f m) := fun fr sd σ ds vs H R hv S => by
  unfold iArgs
  have h1 := s1 fr sd σ ds vs H (fun us H1 => r us H1 R) hv S
  cases e : m sd with
  | bad => trivial
  | exc x sd1 => rw [e] at h1; exact h1
  | ok xs sd1 =>
    rw [e] at h1
    rw [Out.then_ok]
    cases eg : f (frzs xs) with
    | none => trivial
    | some ys =>
      rw [ofOpt_some]
      intro k
      refine h1 fun us H1 l S1 => ?_
      have S2 := S1.freezes l
      obtain ⟨Z, F, G, S3⟩ := S2
      obtain ⟨ru, S4⟩ := S3.topsF (by rw [l, frzs_map, List.length_map]) (isFs_frzs xs)
      exact hr Z H1 (frzs xs) us ys eg (isFs_frzs xs) ru R fun J wk => k J (frzs xs) us H1 wk ⟨Z, F, G, S3⟩

/-! ### range, down -/
def idown (hi : Int) (n : Nat) : List D := (List.range n).map fun k => .int (hi + (k : Nat) * (-1))
def rng3 : List D → Option (List D)
  | [.int i, .int j, .int c] => if c = -1 ∧ -(2 ^ 62) ≤ i ∧ i < 2 ^ 62 ∧ -(2 ^ 62) ≤ j ∧ j < 2 ^ 62 then some (idown i (i - j).toNat) else none
  | _ => none
theorem walk_down {X : Cx} {hi : Int} {n : Nat} {ws : List D} {us : List V} (l : us.length = ws.length) : Walk X (Itc hi (-1) n) ws us (idown hi n) := ⟨l, fun f sd σ ds vs H i S => by
  have hl : (idown hi n).length = n := by simp [idown]
  refine ⟨fun x hx => ?_, fun hi => by rw [hl] at hi; exact hi⟩
  have h : i < n := by rw [← hl]; exact (List.getElem?_eq_some_iff.mp hx).1
  have ex : x = .int (hi + (i : Nat) * (-1)) := by
    unfold idown at hx
    rw [List.getElem?_map, List.getElem?_range h] at hx
    exact (Option.some.inj hx).symm
  refine ⟨h, fun v H' y => ?_⟩
  obtain ⟨rfl, rfl⟩ := y
  subst ex
  obtain ⟨Z, F, G, S⟩ := S
  exact ⟨Z, F, G, S.push0 ⟨rfl, rfl⟩⟩⟩
theorem ir_rng3 {X : Cx} : IRs X (fun vs H1 R => ∃ (i j c : Int) (n : Nat), vs = [.int i, .int j, .int c] ∧ RgC i j c n ∧ R (Itc i c n) H1) rng3 := fun Z H ds vs xs e hf r R k => by
  have lv := r.length
  unfold rng3 at e
  split at e
  · rename_i i j c
    split at e
    · rename_i hc
      cases e
      obtain ⟨v, vr, F1, F2, e1, e2, h1, h2⟩ := (show ∃ v vr F1 F2, vs = v :: vr ∧ _ = F1 ++ F2 ∧ Rep X.K X.mg Z H (.int i) v F1 ∧ Reps X.K X.mg Z H [.int j, .int c] vr F2 from r)
      obtain ⟨u, w, F3, F4, e3, _, h3, h4⟩ := Reps.two h2
      obtain ⟨rfl, hc⟩ := hc
      exact ⟨i, j, -1, _, by rw [e1, e3, h1.eInt, h3.eInt, h4.eInt], RgC.neg hc.1 hc.2.1 hc.2.2.1 hc.2.2.2, k _ (walk_down lv.symm)⟩
    · cases e
  · cases e
theorem IO.range3 {tg a b c : Expr} {m : M (List D)} {p pos : Pos} (hg : GlN Γ "range") (hb : ("range" : Str) ∈ Γ.blt) (h : AO Γ [a, b, c] m) (hs : ∀ env, starEach [a, b, c] env = (false, eval a env) :: starEach [b, c] env := by intro _; rfl) (hpl : ∀ env, (backTo pos (starEach [b, c] env)).any (·.1) = false := by intro _; rfl) :
    IO Γ tg (.Call (.Name "range" p) [a, b, c] [] pos) (iArgs rng3 m) := fun X W C tk => by
  obtain ⟨t, p1, s1⟩ := h X W C tk
  exact ⟨_, pi_range3 (hg.gl C) (C.blt _ hb) p1 (hs _) (hpl _), simIA s1 ir_rng3⟩

/-! ### zip -/
def pairs (xs ys : List D) : List D := List.zipWith (fun x y => .tup [x, y]) xs ys
def zipD : List D → Option (List D)
  | [.lst _ xs, .lst _ ys] => some (pairs xs ys)
  | [.tup xs, .tup ys] => some (pairs xs ys)
  | _ => none
theorem pairs_len (xs ys : List D) : (pairs xs ys).length = min xs.length ys.length := by simp [pairs]
theorem pairs_get {xs ys : List D} {i : Nat} {z : D} (h : (pairs xs ys)[i]? = some z) : ∃ x y, xs[i]? = some x ∧ ys[i]? = some y ∧ z = .tup [x, y] := by
  unfold pairs at h
  rw [List.getElem?_zipWith] at h
  split at h
  · rename_i x y hx hy
    cases h
    exact ⟨x, y, hx, hy, rfl⟩
  · cases h
theorem SIx.pairNew {X : Cx} {f : Fr0} {sd : Sl} {σ : L2.St} {ds : List D} {vs : List V} {H : Hp} {Z : Addr → Prop} {F G : List Addr} {x y : D} {u w : V} {T : Addr} (S : SIxX X f sd σ ds vs H Z F G) (hT : H T = none)
    (rx : Rep X.K X.mg Z H x u []) (ry : Rep X.K X.mg Z H y w []) : SIX X f sd σ (.tup [x, y] :: ds) (.ref T :: vs) (upd H T (.tup [u, w])) :=
  S.new (new_tup (⟨u, [w], [], [], rfl, rfl, rx, w, [], [], [], rfl, rfl, ry, rfl, rfl⟩ : Reps X.K X.mg Z H [x, y] [u, w] []) hT)
theorem walk_zipL {X : Cx} {o1 o2 : Bool} {xs ys : List D} {a b : Addr} (hf : isFs [.lst o1 xs, .lst o2 ys] = true) : Walk X (Itz X.K a b) [.lst o1 xs, .lst o2 ys] [.ref a, .ref b] (pairs xs ys) := ⟨rfl, fun f sd σ ds vs H i S => by
  obtain ⟨Z, F, G, S⟩ := S
  obtain ⟨r, S0⟩ := SIx.topsF (xs := [.lst o1 xs, .lst o2 ys]) (us := [.ref a, .ref b]) rfl S hf
  obtain ⟨v, u, F1, F2, ev, e0, r1, r2⟩ := Reps.two r
  cases ev
  have n1 : F1 = [] := (List.append_eq_nil_iff.mp e0.symm).1
  have n2 : F2 = [] := (List.append_eq_nil_iff.mp e0.symm).2
  subst n1 n2
  obtain ⟨a', vx, Fx, ea, s1, rr1, z1⟩ := r1.lstAt
  obtain ⟨b', vy, Fy, eb, s2, rr2, z2⟩ := r2.lstAt
  cases ea
  cases eb
  have rx := rr1.nil0 z1 rfl
  have ry := rr2.nil0 z2 rfl
  have lx := rx.length
  have ly := ry.length
  refine ⟨fun z hz => ?_, fun hi => ⟨vx, vy, .inl (.inl s1), .inl (.inl s2), by rw [pairs_len] at hi; omega⟩⟩
  obtain ⟨x, y, hx, hy, ez⟩ := pairs_get hz
  subst ez
  obtain ⟨u1, Fu1, hu1, ru1, q1⟩ := rx.get hx
  obtain ⟨u2, Fu2, hu2, ru2, q2⟩ := ry.get hy
  have m1 : Fu1 = [] := by cases Fu1 with | nil => rfl | cons c _ => exact absurd (q1 c List.mem_cons_self) (by simp)
  have m2 : Fu2 = [] := by cases Fu2 with | nil => rfl | cons c _ => exact absurd (q2 c List.mem_cons_self) (by simp)
  subst m1 m2
  refine ⟨⟨vx, vy, u1, u2, .inl (.inl s1), .inl (.inl s2), hu1, hu2⟩, fun v H' y' => ?_⟩
  obtain ⟨T, p, q, e1, hT, e2, k1, k2⟩ := y'
  have ep := k1 vx (.inl (.inl s1))
  have eq := k2 vy (.inl (.inl s2))
  rw [hu1] at ep
  rw [hu2] at eq
  cases ep
  cases eq
  subst e1 e2
  exact S.pairNew hT ru1 ru2⟩
theorem walk_zipT {X : Cx} {xs ys : List D} {a b : Addr} (hf : isFs [.tup xs, .tup ys] = true) : Walk X (RZ.ItzT X.K a b) [.tup xs, .tup ys] [.ref a, .ref b] (pairs xs ys) := ⟨rfl, fun f sd σ ds vs H i S => by
  obtain ⟨Z, F, G, S⟩ := S
  obtain ⟨r, S0⟩ := SIx.topsF (xs := [.tup xs, .tup ys]) (us := [.ref a, .ref b]) rfl S hf
  obtain ⟨v, u, F1, F2, ev, e0, r1, r2⟩ := Reps.two r
  cases ev
  have n1 : F1 = [] := (List.append_eq_nil_iff.mp e0.symm).1
  have n2 : F2 = [] := (List.append_eq_nil_iff.mp e0.symm).2
  subst n1 n2
  obtain ⟨a', vx, ea, s1, rx⟩ := r1.tupAt
  obtain ⟨b', vy, eb, s2, ry⟩ := r2.tupAt
  cases ea
  cases eb
  have lx := rx.length
  have ly := ry.length
  refine ⟨fun z hz => ?_, fun hi => ⟨vx, vy, s1, s2, by rw [pairs_len] at hi; omega⟩⟩
  obtain ⟨x, y, hx, hy, ez⟩ := pairs_get hz
  subst ez
  obtain ⟨u1, Fu1, hu1, ru1, q1⟩ := rx.get hx
  obtain ⟨u2, Fu2, hu2, ru2, q2⟩ := ry.get hy
  have m1 : Fu1 = [] := by cases Fu1 with | nil => rfl | cons c _ => exact absurd (q1 c List.mem_cons_self) (by simp)
  have m2 : Fu2 = [] := by cases Fu2 with | nil => rfl | cons c _ => exact absurd (q2 c List.mem_cons_self) (by simp)
  subst m1 m2
  refine ⟨⟨vx, vy, u1, u2, s1, s2, hu1, hu2⟩, fun v H' y' => ?_⟩
  obtain ⟨T, p, q, e1, hT, e2, k1, k2⟩ := y'
  have ep := k1 vx s1
  have eq := k2 vy s2
  rw [hu1] at ep
  rw [hu2] at eq
  cases ep
  cases eq
  subst e1 e2
  exact S.pairNew hT ru1 ru2⟩
theorem ir_zip {X : Cx} : IRs X (fun vs H1 R => ∃ a b xs ys, vs = [.ref a, .ref b] ∧ ((SqL X.K H1 a xs ∧ SqL X.K H1 b ys ∧ R (Itz X.K a b) H1) ∨ (SqT X.K H1 a xs ∧ SqT X.K H1 b ys ∧ R (RZ.ItzT X.K a b) H1))) zipD := fun Z H ds vs xs e hf r R k => by
  unfold zipD at e
  split at e
  · cases e
    obtain ⟨v, u, F1, F2, ev, e0, r1, r2⟩ := Reps.two r
    obtain ⟨a', vx, Fx, ea, s1, rr1, z1⟩ := r1.lstAt
    obtain ⟨b', vy, Fy, eb, s2, rr2, z2⟩ := r2.lstAt
    subst ev ea eb
    exact ⟨a', b', vx, vy, rfl, .inl ⟨.inl (.inl s1), .inl (.inl s2), k _ (walk_zipL hf)⟩⟩
  · cases e
    obtain ⟨v, u, F1, F2, ev, e0, r1, r2⟩ := Reps.two r
    obtain ⟨a', vx, ea, s1, rr1⟩ := r1.tupAt
    obtain ⟨b', vy, eb, s2, rr2⟩ := r2.tupAt
    subst ev ea eb
    exact ⟨a', b', vx, vy, rfl, .inr ⟨s1, s2, k _ (walk_zipT hf)⟩⟩
  · cases e
theorem IO.zip {elts : List Expr} {kk : Nat} {tpos : Pos} {a b : Expr} {m : M (List D)} {p pos : Pos} (hg : GlN Γ "zip") (hb : ("zip" : Str) ∈ Γ.blt) (h : AO Γ [a, b] m) (hs : ∀ env, starEach [a, b] env = (false, eval a env) :: starEach [b] env := by intro _; rfl) (hpl : ∀ env, (backTo pos (starEach [b] env)).any (·.1) = false := by intro _; rfl) :
    IO Γ (.Tuple elts kk tpos) (.Call (.Name "zip" p) [a, b] [] pos) (iArgs zipD m) := fun X W C tk => by
  obtain ⟨t, p1, s1⟩ := h X W C tk
  exact ⟨_, RZ.pi_zipA (hg.gl C) (C.blt _ hb) p1 (hs _) (hpl _), simIA s1 ir_zip⟩

/-! ### enumerate of a list -/
def numd (xs : List D) : List D := xs.mapIdx fun i x => .tup [.int (i : Nat), x]
def enumD : List D → Option (List D)
  | [.lst _ xs] => some (numd xs)
  | _ => none
theorem walk_enum {X : Cx} {o : Bool} {xs : List D} {a : Addr} (hf : isFs [.lst o xs] = true) : Walk X (Ite X.K a) [.lst o xs] [.ref a] (numd xs) := ⟨rfl, fun f sd σ ds vs H i S => by
  obtain ⟨Z, F, G, S⟩ := S
  obtain ⟨r, S0⟩ := SIx.topsF (xs := [.lst o xs]) (us := [.ref a]) rfl S hf
  obtain ⟨v, ev, r1⟩ := Reps.one r
  cases ev
  obtain ⟨a', vx, Fx, ea, s1, rr1, z1⟩ := r1.lstAt
  cases ea
  have rx := rr1.nil0 z1 rfl
  have lx := rx.length
  refine ⟨fun z hz => ?_, fun hi => ⟨vx, .inl (.inl s1), by rw [numd, List.length_mapIdx] at hi; omega⟩⟩
  unfold numd at hz
  rw [List.getElem?_mapIdx] at hz
  obtain ⟨x, hx, ez⟩ := Option.map_eq_some_iff.mp hz
  subst ez
  obtain ⟨u1, Fu1, hu1, ru1, q1⟩ := rx.get hx
  have m1 : Fu1 = [] := by cases Fu1 with | nil => rfl | cons c _ => exact absurd (q1 c List.mem_cons_self) (by simp)
  subst m1
  refine ⟨⟨vx, u1, .inl (.inl s1), hu1⟩, fun v H' y' => ?_⟩
  obtain ⟨T, p, e1, hT, e2, k1⟩ := y'
  have ep := k1 vx (.inl (.inl s1))
  rw [hu1] at ep
  cases ep
  subst e1 e2
  exact S.pairNew hT Rep.int ru1⟩
theorem ir_enum {X : Cx} : IRs X (fun vs H1 R => ∃ a xs, vs = [.ref a] ∧ SqL X.K H1 a xs ∧ R (Ite X.K a) H1) enumD := fun Z H ds vs xs e hf r R k => by
  unfold enumD at e
  split at e
  · cases e
    obtain ⟨v, ev, r1⟩ := Reps.one r
    obtain ⟨a', vx, Fx, ea, s1, rr1, z1⟩ := r1.lstAt
    subst ev ea
    exact ⟨a', vx, rfl, .inl (.inl s1), k _ (walk_enum hf)⟩
  · cases e
theorem IO.enum {elts : List Expr} {kk : Nat} {tpos : Pos} {a : Expr} {m : M (List D)} {p pos : Pos} (hg : GlN Γ "enumerate") (hb : ("enumerate" : Str) ∈ Γ.blt) (h : AO Γ [a] m) (hs : ∀ env, starEach [a] env = [(false, eval a env)] := by intro _; rfl) :
    IO Γ (.Tuple elts kk tpos) (.Call (.Name "enumerate" p) [a] [] pos) (iArgs enumD m) := fun X W C tk => by
  obtain ⟨t, p1, s1⟩ := h X W C tk
  exact ⟨_, pi_enum (hg.gl C) (C.blt _ hb) p1 (hs _), simIA s1 ir_enum⟩

/-! ### e[::-1] of a list -/
def revD : D → Option D
  | .lst _ xs => some (.lst true xs.reverse)
  | _ => none
theorem Reps.rev {K : PySem.W.Frag} {mg : Str → Option Value} {Z : Addr → Prop} {H : Hp} : ∀ {xs : List D} {vs : List V}, Reps K mg Z H xs vs [] → Reps K mg Z H xs.reverse vs.reverse []
  | [], vs, r => by obtain ⟨rfl, _⟩ := (show vs = [] ∧ _ from r); exact ⟨rfl, rfl⟩
  | x :: xs, vs, r => by
    obtain ⟨v, vr, F1, F2, e1, e2, h1, h2⟩ := (show ∃ v vr F1 F2, vs = v :: vr ∧ _ = F1 ++ F2 ∧ Rep K mg Z H x v F1 ∧ Reps K mg Z H xs vr F2 from r)
    have n1 : F1 = [] := (List.append_eq_nil_iff.mp e2.symm).1
    have n2 : F2 = [] := (List.append_eq_nil_iff.mp e2.symm).2
    subst n1 n2 e1
    rw [List.reverse_cons, List.reverse_cons]
    exact (Reps.rev h2).append (⟨v, [], [], [], rfl, rfl, h1, rfl, rfl⟩ : Reps K mg Z H [x] [v] [])
theorem EO.revL {e : Expr} {m : M D} {k : Nat} {p1 p2 p3 pos : Pos} (h : EO Γ e m) : EO Γ (.Subscript e (.Slice none none (some (.UnaryOp .USub (.Constant (.int 1) k p1) p2)) p3) pos) (m1 revD m) := fun X W C tk => by
  obtain ⟨t, q1, s1⟩ := h X W C tk
  refine ⟨_, pe_revL q1, fun f sd σ ds vs H Q hv S => ?_⟩
  unfold m1
  have h1 := s1 f sd σ ds vs H (fun x H1 => ∃ a xs, x = .ref a ∧ SqL X.K H1 a xs ∧ ∀ p, H1 p = none → Q (.ref p) (upd H1 p (.lst xs.reverse))) hv S
  cases e : m sd with
  | bad => trivial
  | exc x sd1 => rw [e] at h1; exact h1
  | ok d sd1 =>
    rw [e] at h1
    rw [Out.then_ok]
    cases er : revD (frz d) with
    | none => trivial
    | some d2 =>
      rw [ofOpt_some]
      intro k
      refine h1 fun v H1 S1 => ?_
      obtain ⟨Z, F, G, S2⟩ := S1.freeze
      obtain ⟨r, S3⟩ := S2.topF (isF_frz d)
      unfold revD at er
      split at er
      · rename_i o xs ed
        cases er
        rw [ed] at r
        obtain ⟨a, us, Fx, ev, s0, rr, z⟩ := r.lstAt
        exact ⟨a, us, ev, .inl (.inl s0), fun p hp => k _ _ (S3.new (new_lst (Reps.rev (rr.nil0 z rfl)) hp))⟩
      · cases er
end
end FS

/-! Dc2: a dict comprehension of two clauses, keys ints or texts. The library has the list's rule (two clauses) and the dict's (one clause); this one goes by the same steps. -/
namespace L2D
open PySem PySem.Spec PyProof.Rows L2
theorem dTurn2_out (kx vx t0 i0 t1 i1 : Expr) (ifs0 ifs1 : List Expr) (scope : Scope) (pos : Pos) (it : Value) (D : Addr) (env : Env) :
    compTurn (.DictComp kx vx [⟨t0, i0, ifs0, 0⟩, ⟨t1, i1, ifs1, 0⟩] scope pos) 0 it (.ref D) env = (do
      standAt i0.pos
      match ← pyNext it with
      | none => pure (.done .next)
      | some v =>
        letOwnedTupleGo t0 it v
        assign t0 env v
        let mut ok := true
        for c in ifs0 do
          if ok then ok ← isTrue c env (eval c env)
        if ok then
          let x ← eval i1 env
          standAt i1.pos
          let x ← foldedSetIterable i1 env x
          let _ ← runOwn (.compStart (.DictComp kx vx [⟨t0, i0, ifs0, 0⟩, ⟨t1, i1, ifs1, 0⟩] scope pos) 1 (← holding [x] (pyIter x)) (.ref D) env) env
        again (.compLoop (.DictComp kx vx [⟨t0, i0, ifs0, 0⟩, ⟨t1, i1, ifs1, 0⟩] scope pos) 0 it (.ref D) env)) := by rfl
theorem dTurn2_in (kx vx t0 i0 t1 i1 : Expr) (ifs0 ifs1 : List Expr) (scope : Scope) (pos : Pos) (it : Value) (D : Addr) (env : Env) :
    compTurn (.DictComp kx vx [⟨t0, i0, ifs0, 0⟩, ⟨t1, i1, ifs1, 0⟩] scope pos) 1 it (.ref D) env = (do
      standAt i1.pos
      match ← pyNext it with
      | none => pure (.done .next)
      | some v =>
        letOwnedTupleGo t1 it v
        assign t1 env v
        let mut ok := true
        for c in ifs1 do
          if ok then ok ← isTrue c env (eval c env)
        if ok then
          (do
            let kv ← eval kx env
            let vv ← holding [kv] (eval vx env)
            standAt { kx.pos with endLine := vx.pos.endLine, endCol := vx.pos.endCol }
            holding [kv, vv] (dictSet D kv vv))
        again (.compLoop (.DictComp kx vx [⟨t0, i0, ifs0, 0⟩, ⟨t1, i1, ifs1, 0⟩] scope pos) 1 it (.ref D) env)) := by rfl

section
variable {prog : Program} {w : World} {A : Around} {R : Result → Shared → Prop} {s : Shared} {kx vx t0 i0 t1 i1 : Expr} {ifs0 ifs1 : List Expr} {scope : Scope} {pos : Pos} {it : Value} {D : Addr} {env : Env}
/-- the loop of the first clause -/
theorem dLoop2_out (hs : ∀ x, foldedSetIterable i1 env x = pure x) (I : Nat → Shared → Prop)
    (turn : ∀ n s, I n s → wpAny (model prog w) A (pyNext it) (fun r s₁ => match r with
      | none => R (.ok .next) s₁
      | some v => wpAny (model prog w) A (letOwnedTupleGo t0 it v) (fun _ s₁' => wpAny (model prog w) A (assign t0 env v) (fun _ s₂ =>
          wpAny (model prog w) A (forIn ifs0 true fun c r => if r = true then do let ok ← isTrue c env (eval c env); pure (ForInStep.yield ok) else pure (ForInStep.yield r)) (fun ok s₃ =>
            if ok = true then wpAny (model prog w) A (eval i1 env) (fun x s₄ => wpAny (model prog w) A (pyIter x) (fun it1 s₅ =>
              codeAny (model prog w) A (.compStart (.DictComp kx vx [⟨t0, i0, ifs0, 0⟩, ⟨t1, i1, ifs1, 0⟩] scope pos) 1 it1 (.ref D) env) (fun r s' => match r with
                | .ok _ => ∃ m, m < n ∧ I m s'
                | .error _ => False) s₅) (notedBy (model prog w) A env fun e s' => R (.error e) s') s₄) (notedBy (model prog w) A env fun e s' => R (.error e) s') s₃
            else ∃ m, m < n ∧ I m s₃) (notedBy (model prog w) A env fun e s' => R (.error e) s') s₂) (notedBy (model prog w) A env fun e s' => R (.error e) s') s₁') (notedBy (model prog w) A env fun e s' => R (.error e) s') s₁) (notedBy (model prog w) A env fun e s' => R (.error e) s') s)
    (n : Nat) (h : I n s) :
    codeAny (model prog w) A (.compLoop (.DictComp kx vx [⟨t0, i0, ifs0, 0⟩, ⟨t1, i1, ifs1, 0⟩] scope pos) 0 it (.ref D) env) R s := by
  refine codeAny_loop rfl I (fun n s hI => ?_) n h
  show wpAny _ A ((compTurn (.DictComp kx vx [⟨t0, i0, ifs0, 0⟩, ⟨t1, i1, ifs1, 0⟩] scope pos) 0 it (.ref D) env).onRaise (fun x => do noteFrame x env; theTreesLotGoes x)) _ _ s
  refine wpAny_noted ?_
  rw [dTurn2_out]
  refine wpAny_bind (wpAny_standAt (wpAny_bind (wpAny_mono (turn n s hI) (fun r s₁ h₁ => ?_) fun _ _ h' => h')))
  cases r with
  | none => exact wpAny_pure h₁
  | some v =>
    refine wpAny_bind (wpAny_mono h₁ (fun _ s₁' h₁' => ?_) fun _ _ h' => h')
    refine wpAny_bind (wpAny_mono h₁' (fun _ s₂ h₂ => wpAny_bind (wpAny_mono h₂ (fun ok s₃ h₃ => ?_) fun _ _ h' => h')) fun _ _ h' => h')
    cases ok with
    | false => exact wpAny_pure ⟨rfl, h₃⟩
    | true =>
      refine wpAny_bind (wpAny_mono h₃ (fun x s₄ h₄ => ?_) fun _ _ h' => h')
      refine wpAny_bind (wpAny_standAt (wpAny_bind (wpAny_of_eq (hs x) (wpAny_bind (wpAny_holding (wpAny_mono h₄ (fun it1 s₅ h₅ => ?_) fun _ _ h' => h'))))))
      refine wpAny_bind (wpAny_runOwn ?_)
      rw [Around.mark_none]
      refine codeAny_mono h₅ fun r s' hr => ?_
      cases r with
      | ok f =>
        first
          | exact wpAny_pure ⟨rfl, hr⟩
          | exact wpAny_bind (wpAny_pure (wpAny_pure ⟨rfl, hr⟩))
      | error e => exact hr.elim
/-- the loop of the second -/
theorem dLoop2_in (I : Nat → Shared → Prop)
    (turn : ∀ n s, I n s → wpAny (model prog w) A (pyNext it) (fun r s₁ => match r with
      | none => R (.ok .next) s₁
      | some v => wpAny (model prog w) A (letOwnedTupleGo t1 it v) (fun _ s₁' => wpAny (model prog w) A (assign t1 env v) (fun _ s₂ =>
          wpAny (model prog w) A (forIn ifs1 true fun c r => if r = true then do let ok ← isTrue c env (eval c env); pure (ForInStep.yield ok) else pure (ForInStep.yield r)) (fun ok s₃ =>
            if ok = true then wpAny (model prog w) A (eval kx env) (fun kv s₄ => wpAny (model prog w) A (eval vx env) (fun vv s₅ =>
              wpAny (model prog w) A (dictSet D kv vv) (fun _ s₆ => ∃ m, m < n ∧ I m s₆) (notedBy (model prog w) A env fun e s' => R (.error e) s') s₅) (notedBy (model prog w) A env fun e s' => R (.error e) s') s₄) (notedBy (model prog w) A env fun e s' => R (.error e) s') s₃
            else ∃ m, m < n ∧ I m s₃) (notedBy (model prog w) A env fun e s' => R (.error e) s') s₂) (notedBy (model prog w) A env fun e s' => R (.error e) s') s₁') (notedBy (model prog w) A env fun e s' => R (.error e) s') s₁) (notedBy (model prog w) A env fun e s' => R (.error e) s') s)
    (n : Nat) (h : I n s) :
    codeAny (model prog w) A (.compLoop (.DictComp kx vx [⟨t0, i0, ifs0, 0⟩, ⟨t1, i1, ifs1, 0⟩] scope pos) 1 it (.ref D) env) R s := by
  refine codeAny_loop rfl I (fun n s hI => ?_) n h
  show wpAny _ A ((compTurn (.DictComp kx vx [⟨t0, i0, ifs0, 0⟩, ⟨t1, i1, ifs1, 0⟩] scope pos) 1 it (.ref D) env).onRaise (fun x => do noteFrame x env; theTreesLotGoes x)) _ _ s
  refine wpAny_noted ?_
  rw [dTurn2_in]
  refine wpAny_bind (wpAny_standAt (wpAny_bind (wpAny_mono (turn n s hI) (fun r s₁ h₁ => ?_) fun _ _ h' => h')))
  cases r with
  | none => exact wpAny_pure h₁
  | some v =>
    refine wpAny_bind (wpAny_mono h₁ (fun _ s₁' h₁' => ?_) fun _ _ h' => h')
    refine wpAny_bind (wpAny_mono h₁' (fun _ s₂ h₂ => wpAny_bind (wpAny_mono h₂ (fun ok s₃ h₃ => ?_) fun _ _ h' => h')) fun _ _ h' => h')
    cases ok with
    | false => exact wpAny_pure ⟨rfl, h₃⟩
    | true =>
      exact wpAny_bind (wpAny_bind (wpAny_mono h₃ (fun kv s₄ h₄ => wpAny_bind (wpAny_holding (wpAny_mono h₄ (fun vv s₅ h₅ => wpAny_bind (wpAny_standAt (wpAny_holding (wpAny_mono h₅ (fun _ s₆ h₆ => wpAny_pure ⟨rfl, h₆⟩) fun _ _ h' => h')))) fun _ _ h' => h'))) fun _ _ h' => h'))
/-- the second clause's start -/
theorem dStart1_ok (h0 : codeAny (model prog w) A (.compLoop (.DictComp kx vx [⟨t0, i0, ifs0, 0⟩, ⟨t1, i1, ifs1, 0⟩] scope pos) 1 it (.ref D) env) R s)
    (h : wpAny (model prog w) A (pyIter it) (fun it' s' => codeAny (model prog w) A (.compLoop (.DictComp kx vx [⟨t0, i0, ifs0, 0⟩, ⟨t1, i1, ifs1, 0⟩] scope pos) 1 it' (.ref D) env) R s')
      (notedBy (model prog w) A env fun x s' => R (.error x) s') s) :
    codeAny (model prog w) A (.compStart (.DictComp kx vx [⟨t0, i0, ifs0, 0⟩, ⟨t1, i1, ifs1, 0⟩] scope pos) 1 it (.ref D) env) R s := by
  refine codeAny_of_tree ?_
  show wpAny _ _ ((compStart (.DictComp kx vx [⟨t0, i0, ifs0, 0⟩, ⟨t1, i1, ifs1, 0⟩] scope pos) 1 it (.ref D) env).onRaise (fun x => do noteFrame x env; standAt theWindowsPlace)) _ _ s
  refine wpAny_notedAt ?_
  unfold compStart
  show wpAny _ _ (ask >>= _) _ _ s
  refine wpAny_bind (wpAny_askSetting (wpAny_ite ?_))
  split
  · first
      | exact wpAny_bind (wpAny_pure (wpAny_pure (And.intro rfl h0)))
      | exact wpAny_pure (And.intro rfl h0)
  · first
      | exact wpAny_bind (wpAny_rule (wpAny_bind (wpAny_standAt (wpAny_bind (wpAny_mono h (fun it' s' h' => wpAny_pure (And.intro rfl h')) fun _ _ x => x)))))
      | (refine wpAny_bind (wpAny_rule ?_); show wpAny _ _ (standAt i1.pos >>= _) _ _ s; exact wpAny_bind (wpAny_standAt (wpAny_bind (wpAny_mono h (fun it' s' h' => wpAny_pure (And.intro rfl h')) fun _ _ x => x))))
end

section
variable {X : Cx}
/-- {kx: vx for tg in iter if .. for tg1 in iter1 if ..}: behind the first clause's store and tests the second source's own loop, from which Nx is reached. vs: the block's names; vs1: those of the second target -/
def tDc2 (wi : TI) (g : TG) (tt : TT) (wi1 : TI) (g1 : TG) (tt1 : TT) (tk tv : TE) (vs vs1 : List Nat) : TE := fun σ H Q => wi σ H fun J H1 => ∀ D, H1 D = none → ∃ W : Nat → Nat → Hp → Prop, (∃ m, W 0 m (upd H1 D (.dK []))) ∧ ∀ i m H, W i m H →
  (J.stop i H ∧ Q (.ref D) H) ∨ (J.go i H ∧ ∃ Nx : Hp → Prop, (∀ H', Nx H' → ∃ m', m' < m ∧ W (i + 1) m' H') ∧ ∀ x H', J.yld i H x H' → g x (wipe σ vs) H' fun σ2 H2 => wipe σ2 vs = wipe σ vs ∧ tt σ2 H2 fun b H3 =>
    if b = true then wi1 σ2 H3 fun J1 H4 => ∃ W1 : Nat → Nat → Hp → Prop, (∃ m, W1 0 m H4) ∧ ∀ j k H, W1 j k H →
      (J1.stop j H ∧ Nx H) ∨ (J1.go j H ∧ ∃ Nx1 : Hp → Prop, (∀ H', Nx1 H' → ∃ k', k' < k ∧ W1 (j + 1) k' H') ∧ ∀ x H', J1.yld j H x H' → g1 x (wipe σ2 vs1) H' fun σ3 H5 => wipe σ3 vs1 = wipe σ2 vs1 ∧ tt1 σ3 H5 fun b H6 =>
        if b = true then tk σ3 H6 fun y H7 => tv σ3 H7 fun z H8 => ∃ kvs k, y = kV k ∧ H8 D = some (.dK kvs) ∧ kvs.length < sizeLine ∧ Nx1 (upd H8 D (.dK (putK kvs k z))) else Nx1 H6)
    else Nx H3)
theorem dc2_core {pins : List (Addr × Obj)} {s : Shared} {σ : L2.St} {H : Hp} {Q : VK} {kx vx tg iter tg1 iter1 : Expr} {ifs ifs1 : List Expr} {scope : Scope} {own : List (Str × Nat)} {vs1 : List Nat} {pos pos' : Pos} {wi wi1 : TI} {g g1 : TG} {tt tt1 : TT} {tk tv : TE} {use : Option (Value → Sem Unit)} {Qf : Value → Shared → Prop}
    (hc : X.calm = true) (hN : X.N.Nodup) (I : Inv X pins σ H s) (hi : PI X tg iter wi) (ok : BlkOk X.N X.env.scope scope own) (hv : ∀ i ∈ vs1, i ∈ own.map (·.2))
    (hg : ∀ (s : Shared) (H : Hp) (C : Addr) (cl : List (Str × Addr)) (fp : List Addr), PG (X.blk s H scope (compEnvC scope cl C X.env) fp) tg g) (ht : ∀ (s : Shared) (H : Hp) (C : Addr) (cl : List (Str × Addr)) (fp : List Addr), PTs (X.blk s H scope (compEnvC scope cl C X.env) fp) ifs tt)
    (hk : ∀ (s : Shared) (H : Hp) (C : Addr) (cl : List (Str × Addr)) (fp : List Addr), PE (X.blk s H scope (compEnvC scope cl C X.env) fp) kx tk)
    (he : ∀ (s : Shared) (H : Hp) (C : Addr) (cl : List (Str × Addr)) (fp : List Addr), PE (X.blk s H scope (compEnvC scope cl C X.env) fp) vx tv) (hs : ∀ x, foldedSetIterable iter X.env x = pure x)
    (hi1 : ∀ (s : Shared) (H : Hp) (C : Addr) (cl : List (Str × Addr)) (fp : List Addr), PI (X.blk s H scope (compEnvC scope cl C X.env) fp) tg1 iter1 wi1)
    (hg1 : ∀ (s : Shared) (H : Hp) (C : Addr) (cl : List (Str × Addr)) (fp : List Addr), PG (X.blk s H scope (compEnvC scope cl C X.env) fp) tg1 g1)
    (ht1 : ∀ (s : Shared) (H : Hp) (C : Addr) (cl : List (Str × Addr)) (fp : List Addr), PTs (X.blk s H scope (compEnvC scope cl C X.env) fp) ifs1 tt1)
    (hs1 : ∀ env x, foldedSetIterable iter1 env x = pure x)
    (h : tDc2 wi g tt wi1 g1 tt1 tk tv (own.map (·.2)) vs1 σ H Q)
    (hRR : ∀ D C s' m H', Inv X pins σ H' s' → Q (.ref D) H' → s'.heap.Ns C m → FpOk X pins H' C → compPost (model X.prog X.w) X.A X.xe use Qf (.ref D) C (.ok .next) s') :
    wpAny (model X.prog X.w) X.A (comprehension (.DictComp kx vx [⟨tg, iter, ifs, 0⟩, ⟨tg1, iter1, ifs1, 0⟩] scope pos) scope X.env pos' newDict false (eval iter X.env) use) Qf X.xe s := by
  have hfree : ∀ y ∈ scope.names, y.2 = .free → ∃ c, X.env.cells.lookup y.1 = some c := fun y hy e => by
    rcases ok.free y hy e with k | k
    · exact I.ok.has _ (.inl k)
    · exact I.ok.has _ (.inr k)
  refine wpAny_comprehension_free (use := use) rfl hs (closure_ok hfree) ok.kind (fun y hy e => by rw [ok.uniq y hy, e])
    (thn (hi.run pins s σ H _ I h) fun xv s1 hx => thn hx fun itv s2 h2 => ?_)
  obtain ⟨it, fp, tn, J, H2, e, I2, T, st2, f2, q⟩ := h2
  subst e
  refine wpAny_newObj_type (newEnv_comp ?_)
  generalize hD : s2.heap.objs.size = D
  have hDn : H2 D = none := I2.hok.fresh (Nat.le_of_eq hD)
  obtain ⟨W, ⟨m0, w0⟩, turn⟩ := q D hDn
  -- the new list
  generalize hs3 : ({ s2 with heap := s2.heap.push { cls := .type "dict", data := .dict #[] } } : Shared) = s3
  have I3 : Inv X pins σ (upd H2 D (.dK [])) s3 := by
    rw [← hs3]
    refine I2.laid (t' := s2.toks) (fun b o e => Heap.get?_push_of_some _ e) (Nat.le_of_eq hD) ?_
    rw [← hD]
    exact dk_empty s2.heap I2.big
  have h3 : s3.heap = s2.heap.push { cls := .type "dict", data := .dict #[] } := by rw [← hs3]
  have sz : ∀ b ∈ fp, b < s2.heap.objs.size := fun b hb => by
    obtain ⟨o, e, _⟩ := T.obj _ _ st2 b hb
    exact Heap.lt_size e
  have f3 : ∀ b ∈ fp, FpOk X pins (upd H2 D (.dK [])) b ∧ b < s3.heap.objs.size := fun b hb => by
    have hlt := sz b hb
    refine ⟨⟨?_, (f2 b hb).2⟩, by rw [h3, Heap.size_push]; exact Nat.lt_succ_of_lt hlt⟩
    rw [upd_ne (by rw [← hD]; exact Nat.ne_of_lt hlt)]
    exact (f2 b hb).1
  have st3 : tn 0 s3.heap := T.keep _ _ _ st2 fun b _ o e => by rw [h3]; exact Heap.get?_push_of_some _ e
  have I4 := block_start I3 ok hN f3
  have pg := hg s3 (upd H2 D (.dK [])) s3.heap.objs.size (cellsFrom (s3.heap.objs.size + 1) scope.names (cloFrom X.env.cells scope.names [])) fp
  have pt := ht s3 (upd H2 D (.dK [])) s3.heap.objs.size (cellsFrom (s3.heap.objs.size + 1) scope.names (cloFrom X.env.cells scope.names [])) fp
  have pk := hk s3 (upd H2 D (.dK [])) s3.heap.objs.size (cellsFrom (s3.heap.objs.size + 1) scope.names (cloFrom X.env.cells scope.names [])) fp
  have pe := he s3 (upd H2 D (.dK [])) s3.heap.objs.size (cellsFrom (s3.heap.objs.size + 1) scope.names (cloFrom X.env.cells scope.names [])) fp
  have pi1 := hi1 s3 (upd H2 D (.dK [])) s3.heap.objs.size (cellsFrom (s3.heap.objs.size + 1) scope.names (cloFrom X.env.cells scope.names [])) fp
  have pg1 := hg1 s3 (upd H2 D (.dK [])) s3.heap.objs.size (cellsFrom (s3.heap.objs.size + 1) scope.names (cloFrom X.env.cells scope.names [])) fp
  have pt1 := ht1 s3 (upd H2 D (.dK [])) s3.heap.objs.size (cellsFrom (s3.heap.objs.size + 1) scope.names (cloFrom X.env.cells scope.names [])) fp
  show codeAny _ _ (.compStart (.DictComp kx vx [⟨tg, iter, ifs, 0⟩, ⟨tg1, iter1, ifs1, 0⟩] scope pos) 0 (.ref it) (.ref D) (compEnvC scope (cellsFrom (s3.heap.objs.size + 1) scope.names (cloFrom X.env.cells scope.names [])) s3.heap.objs.size X.env)) (compPost (model X.prog X.w) X.A X.xe use Qf (.ref D) s3.heap.objs.size) { s3 with heap := pushCells (s3.heap.push { cls := .type "dict", data := .dict #[] }) scope.names }
  have nfp : ∀ b ∈ fp, (upd H2 D (.dK [])) b = none := fun b hb => (f3 b hb).1.1
  generalize hce : compEnvC scope (cellsFrom (s3.heap.objs.size + 1) scope.names (cloFrom X.env.cells scope.names [])) s3.heap.objs.size X.env = ce at I4 pg pt pk pe pi1 pg1 pt1 ⊢
  have cL : ce.locals = s3.heap.objs.size := by subst hce; rfl
  generalize hH3 : upd H2 D (.dK []) = H3 at I3 I4 pg pt pk pe pi1 pg1 pt1 w0 nfp f3
  generalize hs4 : ({ s3 with heap := pushCells (s3.heap.push { cls := .type "dict", data := .dict #[] }) scope.names } : Shared) = s4 at I4 ⊢
  have st4 : tn 0 s4.heap := T.keep _ _ _ st3 fun b _ o e => by rw [← hs4]; exact pushCells_keeps _ _ _ _ (Heap.get?_push_of_some _ e)
  have stat : ∀ {σ' : L2.St} {H' : Hp} {s' : Shared}, Inv (X.blk s3 H3 scope ce fp) [] σ' H' s' → (∀ b ∈ fp, H' b = none) → ∀ b ∈ fp, FpOk (X.blk s3 H3 scope ce fp) [] H' b := fun {σ' H' s'} I' hn b hb =>
    ⟨hn b hb, (I'.ok.exf b hb).1, I'.ok.exfs b hb, .inl hb, fun x c e => (I'.ok.exf b hb).2 x c e, fun p hp => absurd (show p ∈ ([] : List (Addr × Obj)) ++ [] from hp) (by simp)⟩
  have loop : codeAny (model X.prog X.w) X.A (.compLoop (.DictComp kx vx [⟨tg, iter, ifs, 0⟩, ⟨tg1, iter1, ifs1, 0⟩] scope pos) 0 (.ref it) (.ref D) ce) (compPost (model X.prog X.w) X.A X.xe use Qf (.ref D) s3.heap.objs.size) s4 := by
    refine dLoop2_out (hs1 ce) (fun n s' => ∃ i H', Inv (X.blk s3 H3 scope ce fp) [] (wipe σ (own.map (·.2))) H' s' ∧ tn i s'.heap ∧ (∀ b ∈ fp, H' b = none) ∧ W i n H') ?_ m0 ⟨0, H3, I4, st4, nfp, w0⟩
    rintro n s5 ⟨i, H5, I5, st5, n5, w5⟩
    rcases turn i n H5 w5 with ⟨stop, qq⟩ | ⟨go, Nx, hNx, step⟩
    · have td := T.done (X.blk s3 H3 scope ce fp) rfl rfl rfl hc i [] s5 _ H5 (fun _ _ => False) I5 (stat I5 n5) st5 stop
      refine thnF td fun r s6 ⟨hr, I6⟩ => ?_
      subst hr
      -- back in the def's context
      have I7 : Inv X pins σ H5 s6 := I3.call' (ch := fp) I6.os I6.base I6.hok I6.bare fun b hb => ⟨(f3 b hb).1.2.2.2.1, (f3 b hb).1.2.1, (f3 b hb).1.2.2.2.2.1, (f3 b hb).1.2.2.2.2.2⟩
      have nC : H5 s3.heap.objs.size = none := by
        have z : H5 ce.locals = none := I6.free
        rw [cL] at z
        exact z
      obtain ⟨m, hn, _⟩ := I6.loc
      have hn : s6.heap.Ns ce.locals m := hn
      rw [cL] at hn
      exact hRR D s3.heap.objs.size s6 m H5 I7 qq hn (I3.fpOk (Nat.le_refl _) nC)
    · have ti := T.item (X.blk s3 H3 scope ce fp) rfl rfl rfl hc i [] s5 _ H5 (fun _ _ => False) I5 (stat I5 n5) st5 go
      refine thnF ti fun r s6 ⟨u, hr, h6⟩ => ?_
      subst hr
      refine thnF h6 fun _ s7 ⟨x, H7, I7, r7, y7, st7, n7⟩ => ?_
      have I7' := I7.pinned (stat I7 n7) (T.obj _ _ st7)
      refine thnF (pg.run _ s7 _ H7 x u _ I7' r7 (step x H7 y7)) fun _ s8 ⟨σ8, H8, I8, hw8, q8⟩ => ?_
      refine thnF (pt.run _ s8 σ8 H8 _ I8 q8) fun b s9 ⟨H9, I9, q9⟩ => ?_
      -- the turn's end, from any slots that know what the block knew at its start
      have fin : ∀ {σ9 : L2.St} {s' : Shared} {H' : Hp}, Inv (X.blk s3 H3 scope ce fp) ([] ++ pinsAt fp s7.heap) σ9 H' s' → (wipe σ (own.map (·.2))).length = σ9.length → (∀ (j : Nat) v, (wipe σ (own.map (·.2)))[j]? = some (some v) → σ9[j]? = some (some v)) → Nx H' →
          ∃ m, m < n ∧ ∃ i H', Inv (X.blk s3 H3 scope ce fp) [] (wipe σ (own.map (·.2))) H' s' ∧ tn i s'.heap ∧ (∀ b ∈ fp, H' b = none) ∧ W i m H' := fun {σ9 s' H'} I' hl hk nx => by
        obtain ⟨m', hm, w'⟩ := hNx H' nx
        have pin' : ∀ b ∈ fp, ∀ o, s7.heap.get? b = some o → s'.heap.get? b = some o ∧ H' b = none := fun b hb o e =>
          let z := I'.pin (b, o) (List.mem_append_right _ (List.mem_append_right _ (mem_pinsAt hb e)))
          ⟨z.1, z.2.1⟩
        refine ⟨m', hm, i + 1, H', (I'.unpinned (pins := [])).weak hl hk, T.keep _ _ _ st7 fun b hb o e => (pin' b hb o e).1, fun b hb => ?_, w'⟩
        obtain ⟨o, e, _⟩ := T.obj _ _ st7 b hb
        exact (pin' b hb o e).2
      have hl8 : (wipe σ (own.map (·.2))).length = σ8.length := by rw [← hw8, wipe_length]
      have hk8 : ∀ (j : Nat) v, (wipe σ (own.map (·.2)))[j]? = some (some v) → σ8[j]? = some (some v) := fun j v e => by
        rw [← hw8] at e
        exact (wipe_some e).1
      have hk9 : ∀ (j : Nat) v, (wipe σ (own.map (·.2)))[j]? = some (some v) → (wipe σ8 vs1)[j]? = some (some v) := fun j v e => by
        rw [← hw8] at e
        obtain ⟨e1, e2⟩ := wipe_some e
        rw [wipe_out fun z => e2 (hv j z)]
        exact e1
      cases b with
      | false =>
        simp only [Bool.false_eq_true, if_false] at q9 ⊢
        exact fin I9 hl8 hk8 q9
      | true =>
        simp only [if_true] at q9 ⊢
        refine thnF (pi1.run _ s9 σ8 H9 _ I9 q9) fun xv s10 hx => thnF hx fun itv s11 h11 => ?_
        obtain ⟨it1, fp1, tn1, J1, H11, e1, I11, T1, st11, f11, W1, ⟨m1, w1⟩, turn1⟩ := h11
        subst e1
        -- the inner loop
        have stat1 : ∀ {H' : Hp}, (∀ b ∈ fp1, H' b = none) → ∀ b ∈ fp1, FpOk (X.blk s3 H3 scope ce fp) ([] ++ pinsAt fp s7.heap) H' b := fun hn b hb => ⟨hn b hb, (f11 b hb).2⟩
        have loop1 : codeAny (model X.prog X.w) X.A (.compLoop (.DictComp kx vx [⟨tg, iter, ifs, 0⟩, ⟨tg1, iter1, ifs1, 0⟩] scope pos) 1 (.ref it1) (.ref D) ce)
            (fun r s' => match r with
              | .ok _ => ∃ m, m < n ∧ ∃ i H', Inv (X.blk s3 H3 scope ce fp) [] (wipe σ (own.map (·.2))) H' s' ∧ tn i s'.heap ∧ (∀ b ∈ fp, H' b = none) ∧ W i m H'
              | .error _ => False) s11 := by
          refine dLoop2_in (fun k s' => ∃ j H', Inv (X.blk s3 H3 scope ce fp) ([] ++ pinsAt fp s7.heap) (wipe σ8 vs1) H' s' ∧ tn1 j s'.heap ∧ (∀ b ∈ fp1, H' b = none) ∧ W1 j k H') ?_ m1 ⟨0, H11, I11.weak (wipe_length _ _) (fun j v e => (wipe_some e).1), st11, fun b hb => (f11 b hb).1, w1⟩
          rintro k s12 ⟨j, H12, I12, st12, n12, w12⟩
          rcases turn1 j k H12 w12 with ⟨stop1, nx1⟩ | ⟨go1, Nx1, hNx1, step1⟩
          · refine thnF (T1.done (X.blk s3 H3 scope ce fp) rfl rfl rfl hc j _ s12 (wipe σ8 vs1) H12 (fun _ _ => False) I12 (stat1 n12) st12 stop1) fun r s13 ⟨hr, I13⟩ => ?_
            subst hr
            exact fin I13 (hl8.trans (wipe_length σ8 vs1).symm) hk9 nx1
          · refine thnF (T1.item (X.blk s3 H3 scope ce fp) rfl rfl rfl hc j _ s12 (wipe σ8 vs1) H12 (fun _ _ => False) I12 (stat1 n12) st12 go1) fun r s13 ⟨u1, hr, h13⟩ => ?_
            subst hr
            refine thnF h13 fun _ s14 ⟨x1, H14, I14, r14, y14, st14, n14⟩ => ?_
            have I14' := I14.pinned (stat1 n14) (T1.obj _ _ st14)
            refine thnF (pg1.run _ s14 (wipe σ8 vs1) H14 x1 u1 _ I14' r14 (step1 x1 H14 y14)) fun _ s15 ⟨σ15, H15, I15, hw15, q15⟩ => ?_
            refine thnF (pt1.run _ s15 σ15 H15 _ I15 q15) fun b1 s16 ⟨H16, I16, q16⟩ => ?_
            have fin1 : ∀ {s' : Shared} {H' : Hp}, Inv (X.blk s3 H3 scope ce fp) (([] ++ pinsAt fp s7.heap) ++ pinsAt fp1 s14.heap) σ15 H' s' → Nx1 H' → ∃ m, m < k ∧ ∃ j H', Inv (X.blk s3 H3 scope ce fp) ([] ++ pinsAt fp s7.heap) (wipe σ8 vs1) H' s' ∧ tn1 j s'.heap ∧ (∀ b ∈ fp1, H' b = none) ∧ W1 j m H' := fun {s' H'} I' nx => by
              obtain ⟨m', hm, w'⟩ := hNx1 H' nx
              have pin' : ∀ b ∈ fp1, ∀ o, s14.heap.get? b = some o → s'.heap.get? b = some o ∧ H' b = none := fun b hb o e =>
                let z := I'.pin (b, o) (List.mem_append_right _ (List.mem_append_right _ (mem_pinsAt hb e)))
                ⟨z.1, z.2.1⟩
              refine ⟨m', hm, j + 1, H', I'.unpinned.weak (by rw [← hw15, wipe_length]) (fun j v e => by rw [← hw15] at e; exact (wipe_some e).1), T1.keep _ _ _ st14 fun b hb o e => (pin' b hb o e).1, fun b hb => ?_, w'⟩
              obtain ⟨o, e, _⟩ := T1.obj _ _ st14 b hb
              exact (pin' b hb o e).2
            cases b1 with
            | false =>
              simp only [Bool.false_eq_true, if_false] at q16 ⊢
              exact fin1 I16 q16
            | true =>
              simp only [if_true] at q16 ⊢
              refine thnF (pk.run _ s16 σ15 H16 _ I16 q16) fun z s17 ⟨yk, H17, I17, r17, q17⟩ => ?_
              refine thnF (pe.run _ s17 σ15 H17 _ I17 q17) fun z2 s18 ⟨yv, H18, I18, r18, kvs, k, ek, hD18, hz18, nx⟩ => ?_
              subst ek
              exact d_dictSet (X := X.blk s3 H3 scope ce fp) I18 hD18 hz18 r17 r18 fun s19 I19 => fin1 I19 nx
        exact dStart1_ok loop1 (T1.self X.A 0 _ _ _ st11 loop1)
  exact codeAny_compStart_dict loop (T.self X.A 0 _ _ _ st4 loop)
/-- as a value -/
theorem pe_dc2 {kx vx tg iter tg1 iter1 : Expr} {ifs ifs1 : List Expr} {scope : Scope} {own : List (Str × Nat)} {vs1 : List Nat} {pos : Pos} {wi wi1 : TI} {g g1 : TG} {tt tt1 : TT} {tk tv : TE} (hc : X.calm = true) (hN : X.N.Nodup) (hi : PI X tg iter wi) (ok : BlkOk X.N X.env.scope scope own) (hv : ∀ i ∈ vs1, i ∈ own.map (·.2))
    (hg : ∀ (s : Shared) (H : Hp) (C : Addr) (cl : List (Str × Addr)) (fp : List Addr), PG (X.blk s H scope (compEnvC scope cl C X.env) fp) tg g) (ht : ∀ (s : Shared) (H : Hp) (C : Addr) (cl : List (Str × Addr)) (fp : List Addr), PTs (X.blk s H scope (compEnvC scope cl C X.env) fp) ifs tt)
    (hi1 : ∀ (s : Shared) (H : Hp) (C : Addr) (cl : List (Str × Addr)) (fp : List Addr), PI (X.blk s H scope (compEnvC scope cl C X.env) fp) tg1 iter1 wi1)
    (hg1 : ∀ (s : Shared) (H : Hp) (C : Addr) (cl : List (Str × Addr)) (fp : List Addr), PG (X.blk s H scope (compEnvC scope cl C X.env) fp) tg1 g1) (ht1 : ∀ (s : Shared) (H : Hp) (C : Addr) (cl : List (Str × Addr)) (fp : List Addr), PTs (X.blk s H scope (compEnvC scope cl C X.env) fp) ifs1 tt1)
    (hk : ∀ (s : Shared) (H : Hp) (C : Addr) (cl : List (Str × Addr)) (fp : List Addr), PE (X.blk s H scope (compEnvC scope cl C X.env) fp) kx tk)
    (he : ∀ (s : Shared) (H : Hp) (C : Addr) (cl : List (Str × Addr)) (fp : List Addr), PE (X.blk s H scope (compEnvC scope cl C X.env) fp) vx tv) (hs : ∀ x, foldedSetIterable iter X.env x = pure x := by intro _; rfl) (hs1 : ∀ env x, foldedSetIterable iter1 env x = pure x := by intro _ _; rfl) :
    PE X (.DictComp kx vx [⟨tg, iter, ifs, 0⟩, ⟨tg1, iter1, ifs1, 0⟩] scope pos) (tDc2 wi g tt wi1 g1 tt1 tk tv (own.map (·.2)) vs1) := by
  refine ⟨fun pins s σ H Q I h => ?_⟩
  rw [arm_eval_DictComp]
  refine dc2_core hc hN I hi ok hv hg ht hk he hs hi1 hg1 ht1 hs1 h fun D C s' m H' I' q hn f => ⟨m, hn, fun h'' sb => ?_⟩
  obtain ⟨f0, f1, f2, f3, f4, f5⟩ := f
  exact ⟨.ref D, H', I'.turned (t' := s'.toks) (fun b o hb e => (sb.2 b hb).trans e) f0 f1 f3 f4 f5, rfl, q⟩
end
end L2D

/-! Dc: dict displays, dict comprehensions, stores into dicts. -/
namespace FS
open PySem PySem.Spec PyProof.Rows L2

theorem perm_lift (A B C : List Addr) : (A ++ (B ++ C)).Perm (B ++ (A ++ C)) := by
  have h : ((A ++ B) ++ C).Perm ((B ++ A) ++ C) := List.Perm.append_right _ List.perm_append_comm
  rw [List.append_assoc, List.append_assoc] at h
  exact h
/-! ### put -/
section
variable {κ : Type} [DecidableEq κ]
def putKs (ks : List κ) (k : κ) : List κ := if (ks.any fun a => decide (a = k)) = true then ks else ks ++ [k]
def subV : List κ → List D → κ → D → List D
  | a :: ks, x :: xs, k, y => (if a = k then y else x) :: subV ks xs k y
  | _, xs, _, _ => xs
def putVs (ks : List κ) (xs : List D) (k : κ) (y : D) : List D := if (ks.any fun a => decide (a = k)) = true then subV ks xs k y else xs ++ [y]
variable {K : PySem.W.Frag} {mg : Str → Option Value} {Z : Addr → Prop} {H : Hp}
theorem reps_sub {y : D} {v : V} (ry : Rep K mg Z H y v []) {k : κ} : ∀ {ks : List κ} {xs : List D} {vs : List V} {F : List Addr}, Reps K mg Z H xs vs F → ks.length = vs.length →
    ∃ ws R F', F.Perm (R ++ F') ∧ Reps K mg Z H (subV ks xs k y) ws F' ∧ ws.length = vs.length ∧ (ks.zip vs).map (fun kv => if kv.1 = k then (kv.1, v) else kv) = ks.zip ws
  | [], xs, vs, F, r, l => by
    have : vs = [] := List.length_eq_zero_iff.mp l.symm
    subst this
    have : xs = [] := List.length_eq_zero_iff.mp r.length
    subst this
    exact ⟨[], [], F, .refl _, r, rfl, rfl⟩
  | a :: ks, [], vs, F, r, l => by
    have := r.length
    simp at this
    rw [← this] at l
    simp at l
  | a :: ks, x :: xs, vs, F, r, l => by
    obtain ⟨u, vr, F1, F2, e1, e2, h1, h2⟩ := (show ∃ v vr F1 F2, vs = v :: vr ∧ F = F1 ++ F2 ∧ Rep K mg Z H x v F1 ∧ Reps K mg Z H xs vr F2 from r)
    subst e1 e2
    obtain ⟨ws, R, F', p, rr, lw, e⟩ := reps_sub ry (k := k) (ks := ks) h2 (by simpa using l)
    by_cases h : a = k
    · refine ⟨v :: ws, F1 ++ R, F', ?_, ?_, by simp [lw], ?_⟩
      · rw [List.append_assoc]; exact List.Perm.append_left F1 p
      · show Reps K mg Z H ((if a = k then y else x) :: subV ks xs k y) _ _
        rw [if_pos h]
        exact ⟨v, ws, [], F', rfl, rfl, ry, rr⟩
      · rw [List.zip_cons_cons, List.map_cons, List.zip_cons_cons, e, if_pos h]
    · refine ⟨u :: ws, R, F1 ++ F', ?_, ?_, by simp [lw], ?_⟩
      · have := List.Perm.append_left F1 p
        refine this.trans ?_
        rw [← List.append_assoc, ← List.append_assoc]
        exact List.Perm.append_right F' List.perm_append_comm
      · show Reps K mg Z H ((if a = k then y else x) :: subV ks xs k y) _ _
        rw [if_neg h]
        exact ⟨u, ws, F1, F', rfl, rfl, h1, rr⟩
      · rw [List.zip_cons_cons, List.map_cons, List.zip_cons_cons, e, if_neg h]
theorem reps_put {y : D} {v : V} (ry : Rep K mg Z H y v []) {k : κ} {ks : List κ} {xs : List D} {vs : List V} {F : List Addr} (r : Reps K mg Z H xs vs F) (l : ks.length = vs.length) :
    ∃ ws R F', F.Perm (R ++ F') ∧ Reps K mg Z H (putVs ks xs k y) ws F' ∧ (putKs ks k).length = ws.length ∧ putK (ks.zip vs) k v = (putKs ks k).zip ws := by
  have ha : ((ks.zip vs).any fun kv => decide (kv.1 = k)) = ks.any fun a => decide (a = k) := by
    have : ∀ {ks : List κ} {vs : List V}, ks.length = vs.length → ((ks.zip vs).any fun kv => decide (kv.1 = k)) = ks.any fun a => decide (a = k) := by
      intro ks
      induction ks with
      | nil => intro vs _; rfl
      | cons a ks ih =>
        intro vs l
        cases vs with
        | nil => simp at l
        | cons u vs =>
          rw [List.zip_cons_cons, List.any_cons, List.any_cons, ih (by simpa using l)]
    exact this l
  unfold putK putKs putVs
  rw [ha]
  by_cases h : (ks.any fun a => decide (a = k)) = true
  · rw [if_pos h, if_pos h, if_pos h]
    obtain ⟨ws, R, F', p, rr, lw, e⟩ := reps_sub ry (k := k) (ks := ks) r l
    exact ⟨ws, R, F', p, rr, l.trans lw.symm, e⟩
  · rw [if_neg h, if_neg h, if_neg h]
    refine ⟨vs ++ [v], [], F ++ [], by simp, r.append (⟨v, [], [], [], rfl, rfl, ry, rfl, rfl⟩ : Reps K mg Z H [y] [v] []), by simp [l], ?_⟩
    rw [List.zip_append l]; rfl
theorem putKs_len (ks : List κ) (k : κ) : (putKs ks k).length ≤ ks.length + 1 := by
  unfold putKs
  split
  · omega
  · simp
end

section
variable {X : Cx} {f : Fr0} {sd : Sl} {σ : L2.St} {H : Hp}
/-- a store into a dict among the temporaries, key and value frozen -/
theorem SIx.dput {Z : Addr → Prop} {F G : List Addr} {ws ds : List D} {us vs : List V} {ks : List Key} {xs : List D} {p : Addr} {k : Key} {y : D} {v : V} (l : us.length = ws.length)
    (S : SIxX X f sd σ (ws ++ .dk true ks xs :: ds) (us ++ .ref p :: vs) H Z F G) (ry : Rep X.K X.mg Z H y v []) :
    ∃ kvs, H p = some (.dK kvs) ∧ kvs.length = ks.length ∧ SIX X f sd σ (ws ++ .dk true (putKs ks k) (putVs ks xs k y) :: ds) (us ++ .ref p :: vs) (upd H p (.dK (putK kvs k v))) := by
  obtain ⟨v1, v2, Gw, G3, e3, e4, rw', r3⟩ := S.temps.append_inv
  obtain ⟨ea, eb⟩ := List.append_inj e3 (by rw [l, rw'.length])
  subst ea
  obtain ⟨v3, vr3, Ga, Gd, e5, e6, ra, rd⟩ := (show ∃ v' vr F1 F2, v2 = v' :: vr ∧ G3 = F1 ++ F2 ∧ Rep X.K X.mg Z H (.dk true ks xs) v' F1 ∧ Reps X.K X.mg Z H ds vr F2 from r3)
  rw [e5] at eb
  cases eb
  obtain ⟨a, av, Fx, ev, rr, lk, q⟩ := (show ∃ a vs Fx, V.ref p = .ref a ∧ Reps X.K X.mg Z H xs vs Fx ∧ ks.length = vs.length ∧ _ from ra)
  cases ev
  rcases q with ⟨_, hp, eg⟩ | ⟨h, _⟩
  case inr => cases h
  subst e4 e6 eg
  have nd := S.nd
  have hpm : p ∈ F ++ (Gw ++ ((p :: Fx) ++ Gd)) := by simp
  have hs : ¬ Still (HO.dK (ks.zip av)) := fun h => h
  have pm : (F ++ (Gw ++ ((p :: Fx) ++ Gd))).Perm (p :: (F ++ (Gw ++ (Fx ++ Gd)))) := by
    have a1 : (Gw ++ ((p :: Fx) ++ Gd)).Perm (p :: (Gw ++ (Fx ++ Gd))) := List.perm_middle
    exact (List.Perm.append_left F a1).trans List.perm_middle
  have hn : p ∉ F ++ (Gw ++ (Fx ++ Gd)) := (List.nodup_cons.mp (pm.nodup_iff.mp nd)).1
  have hz : ¬ Z p := S.nz p hpm
  have kp : ∀ {L : List Addr}, (∀ a ∈ L, a ∈ F ++ (Gw ++ (Fx ++ Gd))) → KeepAt Z H (upd H p (.dK (putK (ks.zip av) k v))) L := fun hL => KeepAt.upd hp hs (fun hm => hn (hL _ hm)) hz
  have idz : ∀ a, Z a → Z a := fun _ z => z
  have s' := S.slots.keep idz (kp fun a ha => List.mem_append_left _ ha)
  have ry' := ry.keep idz y (kp (L := []) fun a ha => nomatch ha)
  have rw'' := rw'.keep idz ws (kp fun a ha => by simp [ha])
  have rr' := rr.keep idz xs (kp fun a ha => by simp [ha])
  have rd' := rd.keep idz ds (kp fun a ha => by simp [ha])
  obtain ⟨nv, R, F', pf, rn, ln, en⟩ := reps_put ry' (k := k) rr' lk
  have rl : Rep X.K X.mg Z (upd H p (.dK (putK (ks.zip av) k v))) (.dk true (putKs ks k) (putVs ks xs k y)) (.ref p) (p :: F') := ⟨p, nv, F', rfl, rn, ln, .inl ⟨rfl, by rw [upd_same, en], rfl⟩⟩
  have rt : Reps X.K X.mg Z (upd H p (.dK (putK (ks.zip av) k v))) (ws ++ .dk true (putKs ks k) (putVs ks xs k y) :: ds) (us ++ .ref p :: vs) (Gw ++ ((p :: F') ++ Gd)) := rw''.append ⟨_, _, _, _, rfl, rfl, rl, rd'⟩
  refine ⟨ks.zip av, hp, by rw [List.length_zip, ← lk, Nat.min_self], Z, F, Gw ++ ((p :: F') ++ Gd), S.poke (R := R) hpm s' rt ?_ S.pins⟩
  -- the footprints
  have b1 : ((p :: Fx) ++ Gd).Perm (R ++ ((p :: F') ++ Gd)) := by
    have c1 : (p :: Fx).Perm (p :: (R ++ F')) := List.Perm.cons p pf
    have c2 : (p :: (R ++ F')).Perm (R ++ (p :: F')) := List.perm_middle.symm
    rw [← List.append_assoc]
    exact List.Perm.append_right Gd (c1.trans c2)
  have b2 : (Gw ++ ((p :: Fx) ++ Gd)).Perm (R ++ (Gw ++ ((p :: F') ++ Gd))) := by
    exact (List.Perm.append_left Gw b1).trans (perm_lift _ _ _)
  exact (List.Perm.append_left F b2).trans (perm_lift _ _ _)
theorem SI.newUnderD {ws ds : List D} {us vs : List V} {p : Addr} (l : us.length = ws.length) (S : SIX X f sd σ (ws ++ ds) (us ++ vs) H) (hp : H p = none) :
    SIX X f sd σ (ws ++ .dk true [] [] :: ds) (us ++ .ref p :: vs) (upd H p (.dK [])) := by
  obtain ⟨Z, F, G, S⟩ := S
  obtain ⟨fz, fn, fo⟩ := S.fresh hp
  have S1 := (S.ext (Ext.upd (o := .dK []) hp)).push (d := .dk true [] []) (v := .ref p) (Gn := [p]) ⟨p, [], [], rfl, ⟨rfl, rfl⟩, rfl, .inl ⟨rfl, upd_same, rfl⟩⟩ (by simp) (fun a ha => by
    have : a = p := by simpa using ha
    rw [this]; exact fn) (fun a ha => by
    have : a = p := by simpa using ha
    rw [this]; exact fz) (fun a ha => by
    have : a = p := by simpa using ha
    rw [this]; exact fo)
  obtain ⟨v', vr, G1, G2, e1, e2, r1, r2⟩ := (show ∃ v' vr F1 F2, V.ref p :: (us ++ vs) = v' :: vr ∧ [p] ++ G = F1 ++ F2 ∧ Rep X.K X.mg Z _ (.dk true [] []) v' F1 ∧ Reps X.K X.mg Z _ (ws ++ ds) vr F2 from S1.temps)
  cases e1
  obtain ⟨v1, v2, Gw, Gd, e3, e4, rw', rd⟩ := r2.append_inv
  obtain ⟨ea, eb⟩ := List.append_inj e3 (by rw [l, rw'.length])
  subst ea eb
  refine ⟨Z, F, Gw ++ (G1 ++ Gd), S1.sub (R := []) S1.slots (rw'.append ⟨_, _, _, _, rfl, rfl, r1, rd⟩) ?_ S1.pins⟩
  rw [List.nil_append, e2, e4]
  refine List.Perm.append_left F ?_
  rw [← List.append_assoc, ← List.append_assoc]
  exact List.Perm.append_right _ List.perm_append_comm
end

/-! ### {k: v for .. for ..} -/
structure DcIn where
  vs1 : List Nat
  t1 : Tg
  c1 : M Bool
  ek : M D
  ev : M D
def dcIn (q : DcIn) : List D → List Key → List D → Sl → Out (List Key × List D)
  | [], ks, vs, σ => .ok (ks, vs) σ
  | x :: xs, ks, vs, σ =>
    match q.t1 x σ with
    | none => .bad
    | some σ1 =>
      match q.c1 σ1 with
      | .ok true σ2 =>
        match q.ek σ2 with
        | .ok k σ3 =>
          match q.ev σ3 with
          | .ok v σ4 =>
            match key? k with
            | some kk => if ks.length < sz then dcIn q xs (putKs ks kk) (putVs ks vs kk (frz v)) (wipeD σ4 q.vs1) else .bad
            | none => .bad
          | _ => .bad
        | _ => .bad
      | .ok false σ2 => dcIn q xs ks vs (wipeD σ2 q.vs1)
      | _ => .bad
def dcOut (own : List Nat) (t : Tg) (c : M Bool) (src1 : M (List D)) (q : DcIn) : List D → List Key → List D → Sl → Out (List Key × List D)
  | [], ks, vs, σ => .ok (ks, vs) σ
  | x :: xs, ks, vs, σ =>
    match t x σ with
    | none => .bad
    | some σ1 =>
      match c σ1 with
      | .ok true σ2 =>
        match src1 σ2 with
        | .ok ys σ3 =>
          match dcIn q ys ks vs (wipeD σ3 q.vs1) with
          | .ok (ks', vs') σ4 => dcOut own t c src1 q xs ks' vs' (wipeD σ4 own)
          | _ => .bad
        | _ => .bad
      | .ok false σ2 => dcOut own t c src1 q xs ks vs (wipeD σ2 own)
      | _ => .bad
def mDc2 (own : List Nat) (t : Tg) (src : M (List D)) (c : M Bool) (src1 : M (List D)) (q : DcIn) : M D := fun σ => (src σ).then fun xs σ1 =>
  match dcOut own t c src1 q xs [] [] (wipeD σ1 own) with
  | .ok (ks, vs) σ2 => .ok (.dk true ks vs) (wipeD σ2 own)
  | _ => .bad

section
variable {X : Cx}
theorem simDc2 {refs : List Nat} {W : WX} {wi wi1 : TI} {g g1 : TG} {tt tt1 : TT} {tk tv : TE} {own js js1 : List Nat} {src src1 : M (List D)} {t : Tg} {c : M Bool} {q : DcIn} (hj : ∀ j ∈ js, j ∈ own) (hj1 : ∀ j ∈ js1, j ∈ q.vs1) (ho : ∀ i ∈ refs, i ∉ own) (ho1 : ∀ i ∈ q.vs1, i ∈ own)
    (s1 : SimI X refs W wi src) (s2 : SimG X refs js g t) (s3 : SimT X refs W0 tt c) (s4 : SimI X refs W0 wi1 src1) (s5 : SimG X refs js1 g1 q.t1) (s6 : SimT X refs W0 tt1 q.c1) (s7 : SimE X refs W0 tk q.ek) (s8 : SimE X refs W0 tv q.ev) :
    SimE X refs W (L2D.tDc2 wi g tt wi1 g1 tt1 tk tv own q.vs1) (mDc2 own t src c src1 q) := fun f sd σ ds vs H Q hr S => by
  unfold mDc2
  have h1 := s1 f sd σ ds vs H (fun J H1 => ∀ D, H1 D = none → ∃ W : Nat → Nat → Hp → Prop, (∃ m, W 0 m (upd H1 D (.dK []))) ∧ ∀ i m H, W i m H →
    (J.stop i H ∧ Q (.ref D) H) ∨ (J.go i H ∧ ∃ Nx : Hp → Prop, (∀ H', Nx H' → ∃ m', m' < m ∧ W (i + 1) m' H') ∧ ∀ x H', J.yld i H x H' → g x (L2.wipe σ own) H' fun σ2 H2 => L2.wipe σ2 own = L2.wipe σ own ∧ tt σ2 H2 fun b H3 =>
      if b = true then wi1 σ2 H3 fun J1 H4 => ∃ W1 : Nat → Nat → Hp → Prop, (∃ m, W1 0 m H4) ∧ ∀ j k H, W1 j k H →
        (J1.stop j H ∧ Nx H) ∨ (J1.go j H ∧ ∃ Nx1 : Hp → Prop, (∀ H', Nx1 H' → ∃ k', k' < k ∧ W1 (j + 1) k' H') ∧ ∀ x H', J1.yld j H x H' → g1 x (L2.wipe σ2 q.vs1) H' fun σ3 H5 => L2.wipe σ3 q.vs1 = L2.wipe σ2 q.vs1 ∧ tt1 σ3 H5 fun b H6 =>
          if b = true then tk σ3 H6 fun y H7 => tv σ3 H7 fun z H8 => ∃ kvs k, y = kV k ∧ H8 D = some (.dK kvs) ∧ kvs.length < sizeLine ∧ Nx1 (upd H8 D (.dK (putK kvs k z))) else Nx1 H6)
      else Nx H3)) hr S
  cases e : src sd with
  | bad => trivial
  | exc x sd1 => rw [e] at h1; exact h1
  | ok xs sd1 =>
    rw [e] at h1
    rw [Out.then_ok]
    cases el : dcOut own t c src1 q xs [] [] (wipeD sd1 own) with
    | bad => trivial
    | exc x sd2 => trivial
    | ok r sd2 =>
      obtain ⟨kf, vf⟩ := r
      dsimp only
      intro kk
      have hv : ∀ p ∈ f.V0, p.1 ∉ own := fun p hp => ho _ (hr p hp)
      have hv1 : ∀ p ∈ f.V0, p.1 ∉ q.vs1 := fun p hp z => hv p hp (ho1 _ z)
      refine h1 fun J ws us H1 wk S1 p hp => ?_
      obtain ⟨lw, wk⟩ := wk
      have S2 := (SI.newUnderD lw S1 hp).wipe (own := own) hv
      refine ⟨fun i m' H' => m' = xs.length - i ∧ i ≤ xs.length ∧ ∃ ks vx sdi, SIX X f sdi (L2.wipe σ own) (ws ++ .dk true ks vx :: ds) (us ++ .ref p :: vs) H' ∧ dcOut own t c src1 q (xs.drop i) ks vx sdi = .ok (kf, vf) sd2,
        ⟨xs.length, by simp, Nat.zero_le _, [], [], _, S2, by rw [List.drop_zero]; exact el⟩, ?_⟩
      rintro i m' H2 ⟨rfl, hi, ks, vx, sdi, S3, ef⟩
      obtain ⟨w1, w2⟩ := wk f sdi (L2.wipe σ own) (.dk true ks vx :: ds) (.ref p :: vs) H2 i S3
      by_cases hlt : i < xs.length
      · have hy0 : ∃ y0, xs[i]? = some y0 ∧ xs.drop i = y0 :: xs.drop (i + 1) := ⟨_, List.getElem?_eq_getElem hlt, List.drop_eq_getElem_cons hlt⟩
        obtain ⟨y0, ex, ed⟩ := hy0
        rw [ed] at ef
        obtain ⟨wg, wy⟩ := w1 _ ex
        unfold dcOut at ef
        cases et : t y0 sdi with
        | none => rw [et] at ef; cases ef
        | some sdt =>
          rw [et] at ef
          dsimp only at ef
          have htg := fun v H' Q S3 => s2 f sdi (L2.wipe σ own) y0 v (ws ++ .dk true ks vx :: ds) (us ++ .ref p :: vs) H' Q hr S3
          rw [et] at htg
          have hw : ∀ {σ3 : L2.St}, Away js (L2.wipe σ own) σ3 → L2.wipe σ3 own = L2.wipe σ own := fun aw => (wipe_eq aw.1 fun j hj' => aw.2 j fun q => hj' (hj j q)).trans (wipe_wipe σ own)
          cases ec : c sdt with
          | bad => rw [ec] at ef; cases ef
          | exc x sdx => rw [ec] at ef; cases ef
          | ok b sdc =>
            rw [ec] at ef
            have ht := fun σ3 H3 QQ S3 => s3 f sdt σ3 (ws ++ .dk true ks vx :: ds) (us ++ .ref p :: vs) H3 QQ hr S3
            rw [ec] at ht
            cases b with
            | false =>
              dsimp only at ef
              refine .inr ⟨wg, fun H' => SIX X f (wipeD sdc own) (L2.wipe σ own) (ws ++ .dk true ks vx :: ds) (us ++ .ref p :: vs) H', fun H' S4 => ⟨xs.length - (i + 1), by omega, rfl, by omega, ks, vx, wipeD sdc own, S4, ef⟩, fun v H' y => ?_⟩
              exact htg v H' _ (wy v H' y) fun σ3 H3 S5 aw => ⟨hw aw, ht σ3 H3 _ S5 fun H6 S6 => by
                rw [if_neg Bool.false_ne_true]
                have S7 := S6.wipe (own := own) hv
                rw [hw aw] at S7
                exact S7⟩
            | true =>
              dsimp only at ef
              cases es : src1 sdc with
              | bad => rw [es] at ef; cases ef
              | exc x sdx => rw [es] at ef; cases ef
              | ok ys sds =>
                rw [es] at ef
                dsimp only at ef
                have hsrc := fun σ3 H3 R S3 => s4 f sdc σ3 (ws ++ .dk true ks vx :: ds) (us ++ .ref p :: vs) H3 R hr S3
                rw [es] at hsrc
                cases ei : dcIn q ys ks vx (wipeD sds q.vs1) with
                | bad => rw [ei] at ef; cases ef
                | exc x sdx => rw [ei] at ef; cases ef
                | ok r1 sde =>
                  obtain ⟨ks2, vx2⟩ := r1
                  rw [ei] at ef
                  dsimp only at ef
                  refine .inr ⟨wg, fun H' => SIX X f (wipeD sde own) (L2.wipe σ own) (ws ++ .dk true ks2 vx2 :: ds) (us ++ .ref p :: vs) H', fun H' S4 => ⟨xs.length - (i + 1), by omega, rfl, by omega, ks2, vx2, wipeD sde own, S4, ef⟩, fun v H' y => ?_⟩
                  refine htg v H' _ (wy v H' y) fun σ2 H3 S5 aw => ⟨hw aw, ht σ2 H3 _ S5 fun H6 S6 => ?_⟩
                  rw [if_pos rfl]
                  refine hsrc σ2 H6 _ S6 fun J1 ws1 us1 H7 wk1 S7 => ?_
                  obtain ⟨lw1, wk1⟩ := wk1
                  have S8 := S7.wipe (own := q.vs1) hv1
                  refine ⟨fun j m1 H' => m1 = ys.length - j ∧ j ≤ ys.length ∧ ∃ ks3 vx3 sdj, SIX X f sdj (L2.wipe σ2 q.vs1) (ws1 ++ (ws ++ .dk true ks3 vx3 :: ds)) (us1 ++ (us ++ .ref p :: vs)) H' ∧ dcIn q (ys.drop j) ks3 vx3 sdj = .ok (ks2, vx2) sde,
                    ⟨ys.length, by simp, Nat.zero_le _, ks, vx, _, S8, by rw [List.drop_zero]; exact ei⟩, ?_⟩
                  rintro j m1 H8 ⟨rfl, hij, ks3, vx3, sdj, S9, eg⟩
                  obtain ⟨v1, v2⟩ := wk1 f sdj (L2.wipe σ2 q.vs1) (ws ++ .dk true ks3 vx3 :: ds) (us ++ .ref p :: vs) H8 j S9
                  by_cases hltj : j < ys.length
                  · have hy1 : ∃ y1, ys[j]? = some y1 ∧ ys.drop j = y1 :: ys.drop (j + 1) := ⟨_, List.getElem?_eq_getElem hltj, List.drop_eq_getElem_cons hltj⟩
                    obtain ⟨y1, ey, edj⟩ := hy1
                    rw [edj] at eg
                    obtain ⟨wg1, wy1⟩ := v1 _ ey
                    unfold dcIn at eg
                    cases et1 : q.t1 y1 sdj with
                    | none => rw [et1] at eg; cases eg
                    | some sdt1 =>
                      rw [et1] at eg
                      dsimp only at eg
                      have htg1 := fun v H' Q S3 => s5 f sdj (L2.wipe σ2 q.vs1) y1 v (ws1 ++ (ws ++ .dk true ks3 vx3 :: ds)) (us1 ++ (us ++ .ref p :: vs)) H' Q hr S3
                      rw [et1] at htg1
                      have hw1 : ∀ {σ3 : L2.St}, Away js1 (L2.wipe σ2 q.vs1) σ3 → L2.wipe σ3 q.vs1 = L2.wipe σ2 q.vs1 := fun aw => (wipe_eq aw.1 fun j hj' => aw.2 j fun z => hj' (hj1 j z)).trans (wipe_wipe σ2 q.vs1)
                      cases ec1 : q.c1 sdt1 with
                      | bad => rw [ec1] at eg; cases eg
                      | exc x sdx => rw [ec1] at eg; cases eg
                      | ok b1 sdc1 =>
                        rw [ec1] at eg
                        have ht1 := fun σ3 H3 QQ S3 => s6 f sdt1 σ3 (ws1 ++ (ws ++ .dk true ks3 vx3 :: ds)) (us1 ++ (us ++ .ref p :: vs)) H3 QQ hr S3
                        rw [ec1] at ht1
                        cases b1 with
                        | false =>
                          dsimp only at eg
                          refine .inr ⟨wg1, fun H' => SIX X f (wipeD sdc1 q.vs1) (L2.wipe σ2 q.vs1) (ws1 ++ (ws ++ .dk true ks3 vx3 :: ds)) (us1 ++ (us ++ .ref p :: vs)) H', fun H' S4 => ⟨ys.length - (j + 1), by omega, rfl, by omega, ks3, vx3, _, S4, eg⟩, fun v H' y => ?_⟩
                          exact htg1 v H' _ (wy1 v H' y) fun σ3 H3 S5 aw => ⟨hw1 aw, ht1 σ3 H3 _ S5 fun H6 S6 => by
                            rw [if_neg Bool.false_ne_true]
                            have S7 := S6.wipe (own := q.vs1) hv1
                            rw [hw1 aw] at S7
                            exact S7⟩
                        | true =>
                          dsimp only at eg
                          cases ek : q.ek sdc1 with
                          | bad => rw [ek] at eg; cases eg
                          | exc x sdx => rw [ek] at eg; cases eg
                          | ok dk sdk =>
                            rw [ek] at eg
                            dsimp only at eg
                            have hke := fun σ3 H3 QQ S3 => s7 f sdc1 σ3 (ws1 ++ (ws ++ .dk true ks3 vx3 :: ds)) (us1 ++ (us ++ .ref p :: vs)) H3 QQ hr S3
                            rw [ek] at hke
                            cases ev : q.ev sdk with
                            | bad => rw [ev] at eg; cases eg
                            | exc x sdx => rw [ev] at eg; cases eg
                            | ok dv sdv =>
                              rw [ev] at eg
                              dsimp only at eg
                              cases ekk : key? dk with
                              | none => rw [ekk] at eg; cases eg
                              | some k0 =>
                                rw [ekk] at eg
                                dsimp only at eg
                                by_cases hks : ks3.length < sz
                                case neg => rw [if_neg hks] at eg; cases eg
                                rw [if_pos hks] at eg
                                refine .inr ⟨wg1, fun H' => SIX X f (wipeD sdv q.vs1) (L2.wipe σ2 q.vs1) (ws1 ++ (ws ++ .dk true (putKs ks3 k0) (putVs ks3 vx3 k0 (frz dv)) :: ds)) (us1 ++ (us ++ .ref p :: vs)) H', fun H' S4 => ⟨ys.length - (j + 1), by omega, rfl, by omega, _, _, _, S4, eg⟩, fun v H' y => ?_⟩
                                refine htg1 v H' _ (wy1 v H' y) fun σ3 H9 S10 aw => ⟨hw1 aw, ht1 σ3 H9 _ S10 fun H10 S11 => ?_⟩
                                rw [if_pos rfl]
                                refine hke σ3 H10 _ S11 fun vk H11 S12 => ?_
                                have hve := fun σ3 H3 QQ S3 => s8 f sdk σ3 (dk :: (ws1 ++ (ws ++ .dk true ks3 vx3 :: ds))) (vk :: (us1 ++ (us ++ .ref p :: vs))) H3 QQ hr S3
                                rw [ev] at hve
                                refine hve σ3 H11 _ S12 fun vv H12 S13 => ?_
                                obtain ⟨Z, F, G, S14⟩ := S13.freeze
                                obtain ⟨rv, S15⟩ := S14.topF (isF_frz dv)
                                have fk : isF dk = true := by
                                  unfold key? at ekk
                                  split at ekk
                                  · rfl
                                  · rfl
                                  · cases ekk
                                obtain ⟨rk, S16⟩ := S15.topF fk
                                have S17 : SIxX X f sdv σ3 ((ws1 ++ ws) ++ .dk true ks3 vx3 :: ds) ((us1 ++ us) ++ .ref p :: vs) H12 Z F G := by rw [List.append_assoc, List.append_assoc]; exact S16
                                obtain ⟨kvs, hk1, hk2, S18⟩ := SIx.dput (k := k0) (by rw [List.length_append, List.length_append, lw, lw1]) S17 rv
                                refine ⟨kvs, k0, key?_kV ekk rk, hk1, by rw [sizeLine_eq, hk2]; exact hks, ?_⟩
                                rw [List.append_assoc, List.append_assoc] at S18
                                have S19 := S18.wipe (own := q.vs1) hv1
                                rw [hw1 aw] at S19
                                exact S19
                  · have ed1 : ys.drop j = [] := List.drop_eq_nil_of_le (by omega)
                    rw [ed1] at eg
                    cases eg
                    refine .inl ⟨v2 (by omega), ?_⟩
                    have S20 := (S9.pops lw1).wipe (own := own) hv
                    have e1 : L2.wipe (L2.wipe σ2 q.vs1) own = L2.wipe σ own := by
                      rw [wipe_eq (σ' := L2.wipe σ2 q.vs1) (σ := σ2) (L2.wipe_length _ _) fun j hj => wipe_at fun z => hj (ho1 j z)]
                      exact hw aw
                    rw [e1] at S20
                    exact S20
      · have ed : xs.drop i = [] := List.drop_eq_nil_of_le (by omega)
        rw [ed] at ef
        cases ef
        exact .inl ⟨w2 (by omega), kk _ H2 ((SI.topped lw S3).unwipe hv)⟩
end
section
variable {X : Cx} {scope : Scope}
def iAll (X : Cx) (scope : Scope) (tg e : Expr) : TI := fun σ H Q => ∀ (s0 : Shared) (H0 : Hp) (C : Addr) (cl : List (Str × Addr)) (fp : List Addr), ∃ t, PI (X.blk s0 H0 scope (compEnvC scope cl C X.env) fp) tg e t ∧ t σ H Q
theorem pi_all {tg e : Expr} (s0 : Shared) (H0 : Hp) (C : Addr) (cl : List (Str × Addr)) (fp : List Addr) : PI (X.blk s0 H0 scope (compEnvC scope cl C X.env) fp) tg e (iAll X scope tg e) :=
  ⟨fun pins s σ H R I h => let ⟨t, p, q⟩ := h s0 H0 C cl fp; p.run pins s σ H R I q⟩
theorem simI_all {Γ : Gam} {st : List Str} {tg e : Expr} {m : M (List D)} (C : Ctx Γ X) (hst : stB Γ.sc scope st = true) (h : IO (Γ.blk scope st) tg e m) : SimI X Γ.refs W0 (iAll X scope tg e) m := fun f sd σ ds vs H Q hr S => by
  have key := fun (s0 : Shared) (H0 : Hp) (c : Addr) (cl : List (Str × Addr)) (fp : List Addr) => h _ W0 (ctx_blk C hst s0 H0 c cl fp) takes0
  cases e1 : m sd with
  | bad => trivial
  | ok d sd' =>
    intro k s0 H0 c cl fp
    obtain ⟨t, p, s⟩ := key s0 H0 c cl fp
    have := s f sd σ ds vs H Q hr S
    rw [e1] at this
    exact ⟨t, p, this k⟩
  | exc x sd' =>
    intro k s0 H0 c cl fp
    obtain ⟨t, p, s⟩ := key s0 H0 c cl fp
    have := s f sd σ ds vs H Q hr S
    rw [e1] at this
    exact ⟨t, p, this k⟩
end
section
variable {Γ : Gam}
theorem EO.dc2 {kx vx tg iter tg1 iter1 : Expr} {ifs ifs1 : List Expr} {scope : Scope} {own : List (Str × Nat)} {st : List Str} {js js1 : List Nat} {pos : Pos} {src src1 : M (List D)} {t t1 : Tg} {c c1 : M Bool} {mk mv : M D} (ok : LcOk Γ scope own st (js ++ js1)) (hi : IO Γ tg iter src)
    (hg : GO (Γ.blk scope st) tg t js) (hc : TsO (Γ.blk scope st) ifs c) (hi1 : IO (Γ.blk scope st) tg1 iter1 src1) (hg1 : GO (Γ.blk scope st) tg1 t1 js1) (hc1 : TsO (Γ.blk scope st) ifs1 c1) (hk : EO (Γ.blk scope st) kx mk) (hv : EO (Γ.blk scope st) vx mv)
    (hs : ∀ env x, foldedSetIterable iter env x = pure x := by intro _ _; rfl) (hs1 : ∀ env x, foldedSetIterable iter1 env x = pure x := by intro _ _; rfl) :
    EO Γ (.DictComp kx vx [⟨tg, iter, ifs, 0⟩, ⟨tg1, iter1, ifs1, 0⟩] scope pos) (mDc2 (own.map (·.2)) t src c src1 ⟨js1, t1, c1, mk, mv⟩) := fun X W C tk => by
  obtain ⟨wi, p1, s1⟩ := hi X W C tk
  have h1 : ∀ j ∈ js, j ∈ own.map (·.2) := fun j h => ok.hj j (List.mem_append_left _ h)
  have h2 : ∀ j ∈ js1, j ∈ own.map (·.2) := fun j h => ok.hj j (List.mem_append_right _ h)
  exact ⟨_, L2D.pe_dc2 (vs1 := js1) C.calm (by rw [C.N]; exact C.nd) p1 (blkOk_by (by rw [C.N, C.sc]; exact ok.blk)) h2 (fun s H D cl fp => pg_all (scope := scope) s H D cl fp) (fun s H D cl fp => pts_all (scope := scope) s H D cl fp) (fun s H D cl fp => pi_all (scope := scope) s H D cl fp)
      (fun s H D cl fp => pg_all (scope := scope) s H D cl fp) (fun s H D cl fp => pts_all (scope := scope) s H D cl fp) (fun s H D cl fp => pe_all (scope := scope) s H D cl fp) (fun s H D cl fp => pe_all (scope := scope) s H D cl fp) (hs _) hs1,
    simDc2 (q := ⟨js1, t1, c1, mk, mv⟩) h1 (fun _ h => h) ok.ho h2 s1 (simG_all C ok.st hg) (simT_all C ok.st hc) (simI_all C ok.st hi1) (simG_all C ok.st hg1) (simT_all C ok.st hc1) (simE_all C ok.st hk) (simE_all C ok.st hv)⟩
end

/-! ### the keys of a dict that is frozen, from now on locked -/
def iKeysL (td : TE) : TI := fun σ H R => td σ H fun x H1 => ∃ d kvs, x = .ref d ∧ ((∃ o, H1 d = some (.frz o (.dK kvs)) ∧ R (Itk d o kvs) H1) ∨ (H1 d = some (.dK kvs) ∧ ∀ od, R (Itk d od kvs) (upd H1 d (.frz od (.dK kvs)))))
theorem pi_keysL {X : Cx} {tg e : Expr} {td : TE} (he : PE X e td) : PI X tg e (iKeysL td) := by
  refine ⟨fun pins s σ H R I h => ?_⟩
  refine thn (he.run pins s σ H _ I h) fun u s1 ⟨x, H1, I1, rx, d, kvs, ex, q⟩ => ?_
  subst ex
  obtain rfl : u = Value.ref d := rx
  have key : ∀ (o : Obj) (H2 : Hp), Inv X pins σ H2 s1 → H2 d = some (.frz o (.dK kvs)) → R (Itk d o kvs) H2 → wpAny (model X.prog X.w) X.A (pyIter (.ref d)) (PIE X pins σ tg R) X.xe s1 := fun o H2 I2 hd q => by
    obtain ⟨hs, hgd, hx, es, ep, vs, hdt, hsz, kv, hm⟩ := I2.frzK hd
    refine iter_keys hs hgd hx hdt (pi_one (tk := s1.toks) I2 _ (turn_keys _ hdt) ⟨_, Heap.get?_push_size _ rfl, rfl, ?_⟩ q)
    rw [hsz] <;> rfl
  rcases q with ⟨o, hd, q⟩ | ⟨hd, q⟩
  · exact key o H1 I1 hd q
  · obtain ⟨od, I2⟩ := I1.lock hd trivial
    exact key od _ I2 upd_same (q od)
def kDs (ks : List Key) : List D := ks.map kD
def iKeys' (p : Qt) : M (List D) := fun σ => match p σ with | some (.dk false ks _) => .ok (kDs ks) σ | _ => .bad
theorem SIx.lockZ {X : Cx} {f : Fr0} {sd : Sl} {σ : L2.St} {ds : List D} {vs : List V} {H : Hp} {Z : Addr → Prop} {F G : List Addr} {a : Addr} {kvs : List (L2.Key × V)} {od : Obj} (S : SIxX X f sd σ ds vs H Z F G) (z : Z a) (h : H a = some (.dK kvs)) :
    SIxX X f sd σ ds vs (upd H a (.frz od (.dK kvs))) Z F G := by
  have kp : ∀ {L : List Addr}, (∀ b ∈ L, b ∈ F ++ G) → KeepAt Z H (upd H a (.frz od (.dK kvs))) L := fun {L} hL b o e => by
    by_cases hb : b = a
    · subst hb
      rw [h] at e
      cases e
      refine ⟨fun q => ?_, fun _ => ⟨_, upd_same, .inr ⟨_, _, rfl, rfl⟩⟩⟩
      rcases q with q | q
      · exact absurd z (S.nz b (hL b q))
      · exact q.elim
    · rw [upd_ne hb]
      exact ⟨fun _ => e, fun _ => ⟨o, e, .inl rfl⟩⟩
  have idz : ∀ a, Z a → Z a := fun _ z => z
  exact {
    slots := S.slots.keep idz (kp fun b hb => List.mem_append_left _ hb)
    temps := S.temps.keep idz _ (kp fun b hb => List.mem_append_right _ hb)
    nd := S.nd
    nz := S.nz
    zin := fun b zb => by
      by_cases hb : b = a
      · rw [hb, upd_same]; simp
      · rw [upd_ne hb]; exact S.zin b zb
    zlow := S.zlow
    zup := S.zup
    own := S.own
    keep := fun b o e hn => by
      obtain ⟨o', k1, k2, k3⟩ := S.keep b o e hn
      by_cases hb : b = a
      · subst hb
        rw [h] at k1
        cases k1
        refine ⟨_, upd_same, k2.trans (.inr ⟨_, _, rfl, rfl⟩), .inr ?_⟩
        rcases S.zup b z with q | q | q
        · exact q
        · exact absurd q hn
        · rw [e] at q; cases q
      · rw [upd_ne hb]
        exact ⟨o', k1, k2, k3⟩
    pins := S.pins }
theorem walk_keys {X : Cx} {a : Addr} {o : Obj} {ks : List Key} {vs : List V} (l : ks.length = vs.length) : Walk X (Itk a o (ks.zip vs)) [.lk a o (ks.zip vs)] [.ref a] (kDs ks) := ⟨rfl, fun f sd σ ds us H i S => by
  obtain ⟨Z, F, G, S⟩ := S
  obtain ⟨r, S0⟩ := SIx.topF (show SIxX X f sd σ (.lk a o (ks.zip vs) :: ds) (.ref a :: us) H Z F G from S) rfl
  obtain ⟨_, ⟨hH, hZ⟩, _⟩ := (show V.ref a = .ref a ∧ (H a = some (.frz o (.dK (ks.zip vs))) ∧ Z a) ∧ _ from r)
  have lz : (ks.zip vs).length = ks.length := by rw [List.length_zip, ← l, Nat.min_self]
  refine ⟨fun x hx => ?_, fun hi => ⟨hH, by rw [lz]; simpa [kDs] using hi⟩⟩
  unfold kDs at hx
  rw [List.getElem?_map] at hx
  obtain ⟨k, hk, ek⟩ := Option.map_eq_some_iff.mp hx
  subst ek
  have hi : i < ks.length := (List.getElem?_eq_some_iff.mp hk).1
  refine ⟨⟨hH, by rw [lz]; exact hi⟩, fun v H' y => ?_⟩
  obtain ⟨rfl, k', v', e1, rfl⟩ := y
  have e2 : k' = k := by
    rw [List.getElem?_zip_eq_some] at e1
    rw [hk] at e1
    exact (Option.some.inj e1.1).symm
  subst e2
  refine ⟨Z, F, G, S.push0 ?_⟩
  cases k' with
  | inl i => exact Rep.int
  | inr s => exact Rep.str⟩
theorem IO.keys {Γ : Gam} {tg e : Expr} {p : Qt} (h : PO Γ e p) : IO Γ tg e (iKeys' p) := fun X W C tk => by
  obtain ⟨t, p1, s1⟩ := h X C
  refine ⟨_, pi_keysL p1, fun f sd σ ds vs H R hr S => ?_⟩
  unfold iKeys'
  obtain ⟨Z, F, G, S⟩ := S
  cases e : p sd with
  | none => trivial
  | some d =>
    cases d with
    | dk ow ks xs =>
      cases ow with
      | true => trivial
      | false =>
        dsimp only
        intro k
        refine s1 f sd σ ds vs H Z F G _ _ S e fun v Fp r _ => ?_
        obtain ⟨a, us, Fx, ev, rr, l, q⟩ := (show ∃ a vs Fx, v = .ref a ∧ Reps X.K X.mg Z H xs vs Fx ∧ ks.length = vs.length ∧ _ from r)
        rcases q with ⟨h, _⟩ | ⟨_, ⟨q, z⟩, _, _⟩
        · cases h
        · refine ⟨a, ks.zip us, ev, ?_⟩
          rcases q with q | ⟨o, q⟩
          · refine .inr ⟨q, fun od => k _ [.lk a od (ks.zip us)] [.ref a] _ (walk_keys l) ⟨Z, F, G, ?_⟩⟩
            exact (S.lockZ (od := od) z q).push0 ⟨rfl, ⟨upd_same, z⟩, rfl⟩
          · exact .inl ⟨o, q, k _ [.lk a o (ks.zip us)] [.ref a] _ (walk_keys l) ⟨Z, F, G, S.push0 ⟨rfl, ⟨q, z⟩, rfl⟩⟩⟩
    | _ => trivial
end FS

/-! Ex: exceptions: made, raised, caught. -/
namespace FS
open PySem PySem.Spec PyProof.Rows L2

/-! ### Base.__init__(self, ..) of an own class above, whose __init__ is ValueError's -/
structure VeC (K : PySem.W.Frag) (mg : Str → Option Value) (b : Str) (Fb : Addr) : Prop where
  mg : mg b = some (.ref Fb)
  sp : PySem.W.specialIn K (.ref Fb) "__getattribute__" = some (some (.builtin "type.__getattribute__"))
  rd : PySem.W.readsIn K Fb (.type "type") = true
  fi : PySem.W.findCls K (.ref Fb) (.type "type") "__init__" = some (.val (.builtin "ValueError.__init__"))
theorem pe_vecls {X : Cx} {b : Str} {Fb : Addr} {e : Expr} {es : List Expr} {ta : TA} {p1 p2 pos : Pos} {pl : Sem Bool} (V : VeC X.K X.mg b Fb) (hg : Gl X b) (ha : PA X (e :: es) ta) (hd : (b == ("__debug__" : Str)) = false := by decide)
    (hc : eval (.Call (.Attribute (.Name b p1) "__init__" p2) (e :: es) [] pos) X.env = (do
      let ov ← eval (.Name b p1) X.env
      standAt p2.atName
      let (f, first) ← holding [ov] (getMethod ov "__init__" pl)
      callWith pos f first (backTo pos (starEach (e :: es) X.env)) (backToKw pos (keywordEach [] X.env))) := by rfl)
    (he : starEach (e :: es) X.env = (false, eval e X.env) :: starEach es X.env := by rfl) (hpl : (backTo pos (starEach es X.env)).any (·.1) = false := by rfl) :
    PE X (.Call (.Attribute (.Name b p1) "__init__" p2) (e :: es) [] pos) (tVeI X.K ta) := by
  refine ⟨fun pins s σ H Q I h => ?_⟩
  refine PySem.W.methodCall_KW (ld_glob I hg V.mg ?_ hd) hc
  refine PySem.W.method_cls I.kIn V.sp (PySem.W.cls_value I.kIn V.rd V.fi (by decide +kernel) ?_)
  show wpAny _ _ (callWith pos (Value.builtin "ValueError.__init__") [] (backTo pos (starEach (e :: es) X.env)) []) _ _ _
  refine PyProof.Rows.callWith_method1 (thn (ha.run pos pins _ σ H _ (I.tok _) h) fun us s1 ⟨vs, H1, I1, r1, a, C, ws, ev, hl, T, ea, q⟩ => ?_) he hpl
  subst ev
  cases r1 with
  | @cons _ u0 _ ur ra rw' =>
    obtain rfl : u0 = Value.ref a := ra
    have hlen : ur.length ≤ sizeLine := by
      rw [← Paired.length rw', sizeLine_eq]
      omega
    exact oinit_ok T I1 ea hlen fun s' J => ⟨.non, H1, J, rfl, q⟩

/-! ### __init__(self, f): Base.__init__(self, f); self.f = f -/
def spI (C : Addr) (fs : List Str) : Sp := fun vs H Q E => vs.length = fs.length + 1 ∧ ∃ a ws, vs = .ref a :: ws ∧ H a = some (exo a C none) ∧
  ∀ dx H', H dx = none → dx ≠ a → H' a = some (exo a C (some dx)) → H' dx = some (exd dx (fs.zip ws).reverse) → (∀ b, b ≠ a → b ≠ dx → H' b = H b) → Q .non H'
theorem spI_ok {C : Addr} {fs : List Str} : ExcP C fs (spI C fs) := fun a ws H Q E l h k => ⟨by simp [l], a, ws, rfl, h, k⟩
theorem init1 {P : Program} {w : World} {K : PySem.W.Frag} {mg : Str → Option Value} {base : Heap} {qual b se f : Str} {st : Stmt} {fI Fb C : Addr} {fd : FuncData} {k : Nat} {p1 p2 p3 p4 p5 p6 p7 p8 p9 p10 : Pos} (F : Fun K "__init__" qual st fI fd) (S : FnScope [se, f] [se, f] (defScope st))
    (hb : defBody st = [.Expr (.Call (.Attribute (.Name b p1) "__init__" p2) [.Name se p3, .Name f p4] [] p5) p6, .Assign [.Attribute (.Name se p7) f p8] (.Name f p9) p10])
    (V : VeC K mg b Fb) (T : OexC K C) (hf : PySem.W.findIn K (.ref C) f = some none) (hv1 : Vis (defScope st) se) (hv2 : Vis (defScope st) f) (hg : (defScope st).names.lookup b = some .globalImplicit)
    (hd1 : (se == ("__debug__" : Str)) = false := by decide) (hd2 : (f == ("__debug__" : Str)) = false := by decide) (hd3 : (b == ("__debug__" : Str)) = false := by decide) (hc1 : (se == ("__classdict__" : Str)) = false := by decide) (hc2 : (f == ("__classdict__" : Str)) = false := by decide)
    (hce : ∀ env, ∃ pl, eval (.Call (.Attribute (.Name b p1) "__init__" p2) [.Name se p3, .Name f p4] [] p5) env = (do
      let ov ← eval (.Name b p1) env
      standAt p2.atName
      let (g, first) ← holding [ov] (getMethod ov "__init__" pl)
      callWith p5 g first (backTo p5 (starEach [.Name se p3, .Name f p4] env)) (backToKw p5 (keywordEach [] env))) )
    (hs1 : ∀ env, swapsWith (.Call (.Attribute (.Name b p1) "__init__" p2) [.Name se p3, .Name f p4] [] p5) none p6.line env = pure false)
    (hs2 : ∀ env, swapsWith (.Name f p9) (some (.Attribute (.Name se p7) f p8)) p10.line env = pure false) :
    FnOk P w K mg base (L2.CX P w) (k + 1) fI fd [se, f] (spI C [f]) := by
  refine F.okX S (fun vs H Q E h => by simpa using h.1) fun cdv A outer s H vs Q E hr h => ?_
  obtain ⟨hl, a, ws, rfl, ha, kk⟩ := h
  have : ∃ y, ws = [y] := by
    match ws, hl with
    | [y], _ => exact ⟨y, rfl⟩
    | [], h => simp at h
    | _ :: _ :: _, h => simp at h
  obtain ⟨y, rfl⟩ := this
  let X : Cx := cxOf (L2.CX P w) P w K mg base [se, f] qual (defScope st) fI cdv A outer s H E
  have v0 : PE X (.Name se p3) (tVar 0) := pe_var rfl hv1 hd1 hc1
  have v0' : PE X (.Name se p7) (tVar 0) := pe_var rfl hv1 hd1 hc1
  have v1 : PE X (.Name f p4) (tVar 1) := pe_var rfl hv2 hd2 hc2
  have v1' : PE X (.Name f p9) (tVar 1) := pe_var rfl hv2 hd2 hc2
  obtain ⟨pl, hpl⟩ := hce X.env
  have e1 : PE X (.Call (.Attribute (.Name b p1) "__init__" p2) [.Name se p3, .Name f p4] [] p5) _ := pe_vecls V hg (pa_cons v0 (pa_cons v1 pa_nil rfl) rfl) hd3 hpl
  have b1 : PSs X (defBody st) (tSeq (tDrop (tVeI X.K (tCons (tVar 0) (tCons (tVar 1) tNil)))) (tOst X.K f (tVar 0) (tVar 1))) := by
    rw [hb]
    exact pss_cons (ps_expr e1 (hs1 _)) (pss_one (ps_ost (f := f) v0' v1' (hs2 _)))
  refine ⟨_, b1, ?_⟩
  show tSeq (tDrop (tVeI K (tCons (tVar 0) (tCons (tVar 1) tNil)))) (tOst K f (tVar 0) (tVar 1)) _ (L2.start [se, f] [.ref a, y]) H
  refine ⟨.ref a, rfl, y, rfl, a, C, [y], rfl, by simp, T, ha, ?_⟩
  refine ⟨y, rfl, .ref a, rfl, a, C, rfl, T, hf, .inl ⟨ha, fun dx hx ne => ?_⟩⟩
  refine kk dx _ hx ne upd_same ?_ fun c h1 h2 => ?_
  · rw [upd_ne ne, upd_same]; rfl
  · rw [upd_ne h1, upd_ne h2]

/-! ### raise X(e, ..) -/
def atomD : D → Bool
  | .int _ => true
  | .str _ => true
  | .bl _ => true
  | .non => true
  | _ => false
theorem reps_atom {K : PySem.W.Frag} {mg : Str → Option Value} {Z Z' : Addr → Prop} {H H' : Hp} : ∀ {xs : List D} {vs : List V} {F : List Addr}, xs.all atomD = true → Reps K mg Z H xs vs F → Reps K mg Z' H' xs vs []
  | [], vs, F, _, r => by
    obtain ⟨rfl, _⟩ := (show vs = [] ∧ F = [] from r)
    exact ⟨rfl, rfl⟩
  | x :: xs, vs, F, h, r => by
    rw [List.all_cons, Bool.and_eq_true] at h
    obtain ⟨v, vr, F1, F2, e1, e2, h1, h2⟩ := (show ∃ v vr F1 F2, vs = v :: vr ∧ F = F1 ++ F2 ∧ Rep K mg Z H x v F1 ∧ Reps K mg Z H xs vr F2 from r)
    refine ⟨v, vr, [], [], e1, rfl, ?_, reps_atom h.2 h2⟩
    cases x with
    | int i => exact ⟨h1.eInt, rfl⟩
    | str i => exact ⟨h1.eStr, rfl⟩
    | bl i => exact ⟨h1.eBl, rfl⟩
    | non => exact ⟨h1.eNon, rfl⟩
    | _ => exact absurd h.1 (by simp [atomD])
theorem Reps.reverse {K : PySem.W.Frag} {mg : Str → Option Value} {Z : Addr → Prop} {H : Hp} {xs : List D} {vs : List V} (r : Reps K mg Z H xs vs []) : Reps K mg Z H xs.reverse vs.reverse [] := Reps.rev r
def sRaise (x : Str) (fs : List Str) (m : M (List D)) : MS := fun σ => (m σ).thenS fun xs σ1 => if xs.length = fs.length ∧ xs.all atomD = true ∧ xs.length ≤ 900 then .exc ⟨x, fs.reverse, xs.reverse⟩ σ1 else .bad
section
variable {Γ : Gam}
theorem zip_rev {α β : Type} : ∀ {xs : List α} {ys : List β}, xs.length = ys.length → (xs.zip ys).reverse = xs.reverse.zip ys.reverse
  | [], ys, h => by
    have : ys = [] := List.length_eq_zero_iff.mp h.symm
    subst this; rfl
  | x :: xs, [], h => by simp at h
  | x :: xs, y :: ys, h => by
    rw [List.zip_cons_cons, List.reverse_cons, List.reverse_cons, List.reverse_cons, zip_rev (by simpa using h), List.zip_append (by simpa using h)]
    rfl
theorem SO.raise {x : Str} {fs : List Str} {e : Expr} {es : List Expr} {m : M (List D)} {p pos pos' : Pos} (hx : (x, fs) ∈ Γ.exs) (hg : GlN Γ x) (ha : AO Γ (e :: es) m) (hdb : (x == ("__debug__" : Str)) = false := by decide)
    (he : ∀ env, starEach (e :: es) env = (false, eval e env) :: starEach es env := by intro _; rfl) (hpl : ∀ env, (backTo pos (starEach es env)).any (·.1) = false := by intro _; rfl) : SO Γ (.Raise (some (.Call (.Name x p) (e :: es) [] pos)) none pos') (sRaise x fs m) := fun X W C tk => by
  obtain ⟨ta, p1, s1⟩ := ha X W C tk
  obtain ⟨k, ⟨Ca, fI, fd, ps, sp, g1, g2, g3, g4, g5, g6, g7⟩, hr⟩ := C.exs _ hx
  refine ⟨_, ps_raise C.calm tk (pmk_oex (ds := []) (dvs := []) g2 g3 g4 g5 hr g6 .nil passL (hg.gl C) g1 p1 hdb (he _) (hpl _)), fun f sd σ ds vs H D hv S => ?_⟩
  unfold sRaise
  have h1 := s1 f sd σ ds vs H (fun us H1 => us.length ≤ 1000 ∧ ∀ a, H1 a = none → sp (.ref a :: (us ++ [])) (upd H1 a (exo a Ca none))
    (fun v H2 => v = .non ∧ ∃ (d : Addr) (fs : List (Str × V)), H2 a = some (exo a Ca (some d)) ∧ H2 d = some (exd d fs) ∧ H1 d = none ∧ W (.ref Ca) (some d) σ (upd (del H2 a) d (.xd fs))) (fun _ _ _ => False)) hv S
  cases em : m sd with
  | bad => trivial
  | exc z sd1 => rw [em] at h1; exact fun kk => h1 fun cls dx H' => kk cls dx σ H'
  | ok xs sd1 =>
    rw [em] at h1
    rw [Out.thenS_ok]
    by_cases hc : xs.length = fs.length ∧ xs.all atomD = true ∧ xs.length ≤ 900
    case neg => rw [if_neg hc]; trivial
    rw [if_pos hc]
    obtain ⟨hl, hat, h9⟩ := hc
    intro kk
    refine h1 fun us H1 l S1 => ⟨by omega, fun a hn => ?_⟩
    rw [List.append_nil]
    have S2 := S1.pops l
    obtain ⟨Z, F, G, S3⟩ := S1
    obtain ⟨v1, v2, G1, G2, e3, e4, r1, r2⟩ := S3.temps.append_inv
    obtain ⟨ea, eb⟩ := List.append_inj e3 (by rw [l, r1.length])
    subst ea
    refine g7 a us _ _ _ (by rw [l, hl]) upd_same fun dx H' hdx ne h2 h3 h4 => ⟨rfl, dx, _, h2, h3, ?_, ?_⟩
    · rw [upd_ne ne] at hdx
      exact hdx
    · have hdx1 : H1 dx = none := by rw [upd_ne ne] at hdx; exact hdx
      have eH : upd (del H' a) dx (.xd (fs.zip us).reverse) = upd H1 dx (.xd (fs.zip us).reverse) := by
        funext c
        by_cases hc : c = dx
        · rw [hc, upd_same, upd_same]
        · rw [upd_ne hc, upd_ne hc]
          by_cases ha : c = a
          · rw [ha, del_same, hn]
          · rw [del_ne ha, h4 c ha hc, upd_ne ha]
      rw [eH]
      obtain ⟨Z2, F2, G2', S2⟩ := S2
      refine kk _ _ σ _ ⟨Z2, F2, G2', S2.ext (Ext.upd hdx1)⟩ ⟨Ca, g1, rfl, .inr ⟨dx, us.reverse, rfl, ?_, ?_, ?_⟩⟩
      · rw [upd_same, zip_rev (by rw [l, hl])]
      · simp [l, hl]
      · exact (reps_atom (Z' := fun _ => False) (H' := upd H1 dx (.xd (fs.zip us).reverse)) hat r1).reverse

/-! ### try: body, except x as n: return n.f -/
def excFld (f : Str) (e : Exn) : Option D := (e.ns.zip e.vs).lookup f
def caught (tb : List (Str × Str × Bool)) (x : Str) (c : Str) : Option Bool := (tb.find? fun p => decide (p.1 = c) && decide (p.2.1 = x)).map (·.2.2)
def sTryF (tb : List (Str × Str × Bool)) (xf : List (Str × Str)) (x f : Str) (i : Nat) (body : MS) : MS := fun σ =>
  match body σ with
  | .exc e σ1 =>
    match caught tb x e.cls with
    | some true => if xf.any (fun p => decide (p = (e.cls, f))) = true ∧ i < σ1.length then (match excFld f e with | some d => .ret d σ1 | none => .bad) else .bad
    | some false => .exc e σ1
    | none => .bad
  | o => o
def bAll (X : Cx) (body : List Stmt) (W : WX) : TS := fun D σ H => ∀ (pn : List (Addr × Obj)) (xe : Value → Shared → Prop), Takes (X.tr pn xe) W → PassesOwn (model X.prog X.w) X.A X.env xe → ∃ t, PSs (X.tr pn xe) body t ∧ t D σ H
theorem pss_ball {X : Cx} {body : List Stmt} {W : WX} {pn : List (Addr × Obj)} {xe : Value → Shared → Prop} (tk : Takes (X.tr pn xe) W) (pa : PassesOwn (model X.prog X.w) X.A X.env xe) : PSs (X.tr pn xe) body (bAll X body W) :=
  ⟨fun pins s σ H D I h => let ⟨t, p, q⟩ := h pn xe tk pa; p.run pins s σ H D I q⟩
theorem ctx_tr {X : Cx} (C : Ctx Γ X) (pn : List (Addr × Obj)) (xe : Value → Shared → Prop) (pa : PassesOwn (model X.prog X.w) X.A X.env xe) : Ctx Γ (X.tr pn xe) where
  N := C.N
  nd := C.nd
  sc := C.sc
  calm := C.calm
  pas := pa
  un := C.un
  st := C.st
  fns := C.fns
  blt := C.blt
  cns := C.cns
  exs := C.exs
  exm := C.exm
  xfs := C.xfs
  top := C.top
theorem simS_ball {X : Cx} {body : List Stmt} {W : WX} {m : MS} (C : Ctx Γ X) (h : BO Γ body m) : SimS X Γ.refs W (bAll X body W) m := fun f sd σ ds vs H D hr S => by
  have key := fun (pn : List (Addr × Obj)) (xe : Value → Shared → Prop) (tk : Takes (X.tr pn xe) W) (pa : PassesOwn (model X.prog X.w) X.A X.env xe) => h (X.tr pn xe) W (ctx_tr C pn xe pa) tk
  cases e1 : m sd with
  | bad => trivial
  | nx sd' =>
    intro k pn xe tk pa
    obtain ⟨t, p, s⟩ := key pn xe tk pa
    have := s f sd σ ds vs H D hr S
    rw [e1] at this
    exact ⟨t, p, this k⟩
  | brk sd' =>
    intro k pn xe tk pa
    obtain ⟨t, p, s⟩ := key pn xe tk pa
    have := s f sd σ ds vs H D hr S
    rw [e1] at this
    exact ⟨t, p, this k⟩
  | ct sd' =>
    intro k pn xe tk pa
    obtain ⟨t, p, s⟩ := key pn xe tk pa
    have := s f sd σ ds vs H D hr S
    rw [e1] at this
    exact ⟨t, p, this k⟩
  | ret d sd' =>
    intro k pn xe tk pa
    obtain ⟨t, p, s⟩ := key pn xe tk pa
    have := s f sd σ ds vs H D hr S
    rw [e1] at this
    exact ⟨t, p, this k⟩
  | exc x sd' =>
    intro k pn xe tk pa
    obtain ⟨t, p, s⟩ := key pn xe tk pa
    have := s f sd σ ds vs H D hr S
    rw [e1] at this
    exact ⟨t, p, this k⟩
theorem lookup_zip {K : PySem.W.Frag} {mg : Str → Option Value} {Z : Addr → Prop} {H : Hp} {f : Str} : ∀ {ns : List Str} {xs : List D} {vs : List V} {d : D}, ns.length = vs.length → Reps K mg Z H xs vs [] → (ns.zip xs).lookup f = some d → ∃ v, (ns.zip vs).lookup f = some v ∧ Rep K mg Z H d v []
  | [], xs, vs, d, l, r, e => by simp at e
  | n :: ns, [], vs, d, l, r, e => by simp at e
  | n :: ns, x :: xs, vs, d, l, r, e => by
    obtain ⟨v, vr, F1, F2, e1, e2, h1, h2⟩ := (show ∃ v vr F1 F2, vs = v :: vr ∧ _ = F1 ++ F2 ∧ Rep K mg Z H x v F1 ∧ Reps K mg Z H xs vr F2 from r)
    have n1 : F1 = [] := (List.append_eq_nil_iff.mp e2.symm).1
    have n2 : F2 = [] := (List.append_eq_nil_iff.mp e2.symm).2
    subst n1 n2 e1
    rw [List.zip_cons_cons, List.lookup_cons] at e
    rw [List.zip_cons_cons, List.lookup_cons]
    cases hb : f == n with
    | true => rw [hb] at e; cases e; exact ⟨v, rfl, h1⟩
    | false => rw [hb] at e; exact lookup_zip (by simpa using l) h2 e
/-- the reading of the suite: whichever class of the table it is -/
def suF (K : PySem.W.Frag) (mg : Str → Option Value) (xf : List (Str × Str)) (f : Str) (i : Nat) (a : Addr) (cls : Value) (d : Option Addr) : TS := fun D σ H => ∃ c C, (c, f) ∈ xf ∧ mg c = some (.ref C) ∧ tRet (tXf a cls d C f (tVar i)) D σ H
theorem SO.tryF {x n f : Str} {i : Nat} {body : List Stmt} {m : MS} {np p1 p2 p3 pos pos' : Pos} (ht : Γ.top = true) (hn : VisN Γ i n) (hln : Γ.sc.names.lookup n = some .local) (hi : i ∉ Γ.refs) (hx : GlN Γ x) (hxm : Γ.exm.any (fun p => decide (p.2.1 = x)) = true) (hb : BO Γ body m)
    (hd : (x == ("__debug__" : Str)) = false := by decide) (hab : ∀ env, attributeBase (.Name n p1) f env (eval (.Name n p1) env) = eval (.Name n p1) env := by intro _; rfl) :
    SO Γ (.Try body [.ExceptHandler (some (.Name x np)) (some n) [.Return (some (.Attribute (.Name n p1) f p2)) p3] pos'] [] [] pos) (sTryF Γ.exm Γ.xfs x f i m) := fun X W C tk => by
  obtain ⟨v1, v2, v3, v4⟩ := hn
  obtain ⟨p0, hp0, e0⟩ := List.any_eq_true.mp hxm
  obtain ⟨C0', C0, g1, g2, g3⟩ := C.exm p0 hp0
  have ex0 : p0.2.1 = x := of_decide_eq_true e0
  rw [ex0] at g2
  obtain ⟨hs, hf⟩ := C.top ht
  have nm : Names X x (.ref C0) := ⟨hx.gl C, hd, .inl g2⟩
  have hsu : ∀ (a : Addr) (oe : Obj) (cls : Value) (d : Option Addr) (pn : List (Addr × Obj)), Zc cls d oe → (∃ vs, oe.data = .fields vs) → PSs (X.suite a ((a, oe) :: pn)) [.Return (some (.Attribute (.Name n p1) f p2)) p3] (suF X.K X.mg Γ.xfs f i a cls d) := fun a oe cls d pn hz hf' => by
    refine ⟨fun pins s σ H D I h => ?_⟩
    obtain ⟨c, Cc, hc, hm, h⟩ := h
    obtain ⟨C1, k1, k2, k3⟩ := C.xfs _ hc
    have ec : Cc = C1 := by
      have := hm.symm.trans k1
      cases this; rfl
    subst ec
    have pv : PE (X.suite a ((a, oe) :: pn)) (.Name n p1) (tVar i) := pe_var (by show X.N[i]? = _; rw [C.N]; exact v1) (by show Vis X.env.scope n; rw [C.sc]; exact v2) v3 v4
    exact (pss_one (ps_ret (pe_xf k2 k3 hz hf' pv (hab _)))).run pins s σ H D I h
  refine ⟨_, ps_try_as hs hf (by rw [C.N]; exact C.nd) (by rw [C.N]; exact v1) (by show X.env.scope.names.lookup n = _; rw [C.sc]; exact hln) nm tk (fun W pn xe tk pa => pss_ball tk pa) hsu, fun fr sd σ ds vs H D hr S => ?_⟩
  have h1 := simS_ball (W := wAs X.K (.ref C0) i (suF X.K X.mg Γ.xfs f i) W D) C hb fr sd σ ds vs H D hr S
  unfold sTryF
  cases em : m sd with
  | bad => trivial
  | nx sd' => rw [em] at h1; exact h1
  | brk sd' => rw [em] at h1; exact h1
  | ct sd' => rw [em] at h1; exact h1
  | ret d sd' => rw [em] at h1; exact h1
  | exc e sd' =>
    rw [em] at h1
    dsimp only
    cases ec : caught Γ.exm x e.cls with
    | none => trivial
    | some b =>
      obtain ⟨q, hq, eq⟩ := Option.map_eq_some_iff.mp ec
      have hq1 := List.find?_some hq
      have hq2 := List.mem_of_find?_eq_some hq
      rw [Bool.and_eq_true, decide_eq_true_eq, decide_eq_true_eq] at hq1
      obtain ⟨C1, C2, k1, k2, k3⟩ := C.exm q hq2
      rw [hq1.1] at k1
      rw [hq1.2, g2] at k2
      cases k2
      rw [eq] at k3
      cases b with
      | false =>
        intro k
        refine h1 fun cls dx σ' H' S' ex => ?_
        obtain ⟨C3, m3, ec3, q3⟩ := id ex
        rw [k1] at m3
        cases m3
        subst ec3
        exact ⟨false, k3, fun h => (by cases h), fun _ => k _ _ σ' H' S' ex⟩
      | true =>
        dsimp only
        by_cases hxf : Γ.xfs.any (fun p => decide (p = (e.cls, f))) = true ∧ i < sd'.length
        case neg => rw [if_neg hxf]; trivial
        rw [if_pos hxf]
        obtain ⟨hxf, hil⟩ := hxf
        cases ef : excFld f e with
        | none => trivial
        | some d =>
          intro k
          refine h1 fun cls dx σ' H' S' ex => ?_
          obtain ⟨C3, m3, ec3, q3⟩ := ex
          have k1' := k1
          rw [m3] at k1
          cases k1
          subst ec3
          refine ⟨true, k3, fun _ a ha => ?_, fun h => (by cases h)⟩
          obtain ⟨pf, hpf, epf⟩ := List.any_eq_true.mp hxf
          have epf' : pf = (e.cls, f) := of_decide_eq_true epf
          rw [epf'] at hpf
          rcases q3 with ⟨z1, z2, z3⟩ | ⟨dd, vs', z1, z2, z3, z4⟩
          · unfold excFld at ef
            rw [z1] at ef
            simp at ef
          · obtain ⟨v, lv, rv⟩ := lookup_zip z3 z4 ef
            refine ⟨e.cls, _, hpf, k1', ?_⟩
            have hlt : i < σ'.length := by
              rw [← S'.len]
              exact hil
            refine ⟨.ref a, ?_, rfl, rfl, dd, _, v, z1, z2, lv, ?_⟩
            · rw [List.getElem?_set_self hlt]
            · obtain ⟨Z5, F5, G5, S5⟩ := S'
              exact k v σ' H' ⟨Z5, F5, G5, S5.push0 (rv.keep (fun _ h => h.elim) d Ext.refl.keepAt)⟩
end
end FS

/-! Mut: lists that are changed in their slot. -/
namespace FS
open PySem PySem.Spec PyProof.Rows L2

section
variable {K : PySem.W.Frag} {mg : Str → Option Value} {Z : Addr → Prop} {H : Hp}
theorem reps_setAt {d : D} {v : V} {Fd : List Addr} (rd : Rep K mg Z H d v Fd) : ∀ {xs : List D} {vs : List V} {F : List Addr} {j : Nat}, Reps K mg Z H xs vs F → j < xs.length → ∃ R F', (F ++ Fd).Perm (R ++ F') ∧ Reps K mg Z H (xs.set j d) (vs.set j v) F'
  | [], _, _, j, _, h => by simp at h
  | x :: xs, vs, F, 0, r, _ => by
    obtain ⟨u, vr, F1, F2, e1, e2, h1, h2⟩ := (show ∃ v vr F1 F2, vs = v :: vr ∧ F = F1 ++ F2 ∧ Rep K mg Z H x v F1 ∧ Reps K mg Z H xs vr F2 from r)
    subst e1 e2
    refine ⟨F1, Fd ++ F2, ?_, v, vr, Fd, F2, rfl, rfl, rd, h2⟩
    rw [List.append_assoc]
    exact List.Perm.append_left F1 List.perm_append_comm
  | x :: xs, vs, F, j + 1, r, h => by
    obtain ⟨u, vr, F1, F2, e1, e2, h1, h2⟩ := (show ∃ v vr F1 F2, vs = v :: vr ∧ F = F1 ++ F2 ∧ Rep K mg Z H x v F1 ∧ Reps K mg Z H xs vr F2 from r)
    subst e1 e2
    obtain ⟨R, F', p, rr⟩ := reps_setAt rd (j := j) h2 (by simpa using h)
    refine ⟨R, F1 ++ F', ?_, u, vr.set j v, F1, F', rfl, rfl, h1, rr⟩
    rw [List.append_assoc]
    exact (List.Perm.append_left F1 p).trans (perm_lift _ _ _)
end
section
variable {X : Cx} {f : Fr0} {sd : Sl} {σ : L2.St} {H : Hp}
/-- an item of the list on top is set to the value under it -/
theorem SI.setAt {d : D} {v : V} {xs ds : List D} {vs : List V} {p : Addr} {j : Nat} (hj : j < xs.length) (S : SIX X f sd σ (.lst true xs :: d :: ds) (.ref p :: v :: vs) H) :
    ∃ av, H p = some (.lst av) ∧ av.length = xs.length ∧ SIX X f sd σ (.lst true (xs.set j d) :: ds) (.ref p :: vs) (upd H p (.lst (av.set j v))) := by
  obtain ⟨Z, F, G, S⟩ := S
  obtain ⟨v1, vr, Ga, G2, e1, e2, ra, r2⟩ := (show ∃ v' vr F1 F2, V.ref p :: v :: vs = v' :: vr ∧ G = F1 ++ F2 ∧ Rep X.K X.mg Z H (.lst true xs) v' F1 ∧ Reps X.K X.mg Z H (d :: ds) vr F2 from S.temps)
  cases e1
  obtain ⟨v2, vr2, Gd, Gs, e3, e4, rd, rs⟩ := (show ∃ v' vr F1 F2, v :: vs = v' :: vr ∧ G2 = F1 ++ F2 ∧ Rep X.K X.mg Z H d v' F1 ∧ Reps X.K X.mg Z H ds vr F2 from r2)
  cases e3
  obtain ⟨a, av, Fx, ev, rr, q⟩ := (show ∃ a vs Fx, V.ref p = .ref a ∧ Reps X.K X.mg Z H xs vs Fx ∧ _ from ra)
  cases ev
  rcases q with ⟨_, hp, eg⟩ | ⟨h, _⟩
  case inr => cases h
  subst e2 e4 eg
  have nd := S.nd
  have hpm : p ∈ F ++ ((p :: Fx) ++ (Gd ++ Gs)) := by simp
  have hs : ¬ Still (HO.lst av) := fun h => h
  have pm : (F ++ ((p :: Fx) ++ (Gd ++ Gs))).Perm (p :: (F ++ (Fx ++ (Gd ++ Gs)))) := List.perm_middle
  have hn : p ∉ F ++ (Fx ++ (Gd ++ Gs)) := (List.nodup_cons.mp (pm.nodup_iff.mp nd)).1
  have hz : ¬ Z p := S.nz p hpm
  have kp : ∀ {L : List Addr}, (∀ a ∈ L, a ∈ F ++ (Fx ++ (Gd ++ Gs))) → KeepAt Z H (upd H p (.lst (av.set j v))) L := fun hL => KeepAt.upd hp hs (fun hm => hn (hL _ hm)) hz
  have idz : ∀ a, Z a → Z a := fun _ z => z
  have s' := S.slots.keep idz (kp fun a ha => List.mem_append_left _ ha)
  have rd' := rd.keep idz d (kp fun a ha => by simp [ha])
  have rr' := rr.keep idz xs (kp fun a ha => by simp [ha])
  have rs' := rs.keep idz ds (kp fun a ha => by simp [ha])
  obtain ⟨R, F', pf, rn⟩ := reps_setAt rd' rr' hj
  refine ⟨av, hp, rr.length.symm, Z, F, (p :: F') ++ Gs, S.poke (R := R) hpm s' ⟨_, _, _, _, rfl, rfl, ⟨p, _, F', rfl, rn, .inl ⟨rfl, upd_same, rfl⟩⟩, rs'⟩ ?_ S.pins⟩
  have b1 : ((p :: Fx) ++ (Gd ++ Gs)).Perm (R ++ ((p :: F') ++ Gs)) := by
    have c1 : ((p :: Fx) ++ Gd).Perm (R ++ (p :: F')) := by
      have : (p :: (Fx ++ Gd)).Perm (p :: (R ++ F')) := List.Perm.cons p pf
      exact this.trans List.perm_middle.symm
    have c2 := List.Perm.append_right Gs c1
    rw [List.append_assoc, List.append_assoc] at c2
    exact c2
  exact (List.Perm.append_left F b1).trans (perm_lift _ _ _)
end

section
variable {Γ : Gam}
/-! ### x[i] = .. -/
def tIx (i : Nat) (q : Qt) : Tg := fun d σ => (at? σ i).bind fun c => (q σ).bind fun k =>
  match c, k with
  | .lst true xs, .int n => (ixOf xs.length n).map fun j => σ.set i (some (.lst true (xs.set j d)))
  | _, _ => none
theorem ixOf_lt {n : Nat} {i : Int} {j : Nat} (h : ixOf n i = some j) : j < n := by
  unfold ixOf at h
  split at h
  · split at h
    · cases h; omega
    · cases h
  · split at h
    · cases h; omega
    · cases h
theorem GO.ix {i : Nat} {x : Str} {b : Expr} {q : Qt} {p pos : Pos} (hv : VisN Γ i x) (hb : PO Γ b q)
    (ha : ∀ env v, assign (.Subscript (.Name x p) b pos) env v = (do
      let ov ← holding [v] (eval (.Name x p) env)
      let iv ← holding [v, ov] (eval b env)
      standAt pos
      holding [v, ov, iv] (setItem ov iv v)
      release [v, ov, iv] []) := by intro _ _; rfl) : GO Γ (.Subscript (.Name x p) b pos) (tIx i q) [] := fun X W C tk => by
  obtain ⟨h1, h2, h3, h4⟩ := hv
  obtain ⟨tb, p2, s2⟩ := hb X C
  refine ⟨_, pg_sub (pe_var (by rw [C.N]; exact h1) (by rw [C.sc]; exact h2) h3 h4) p2 set_list (ha _), fun f sd σ d v ds vs H Q hr S => ?_⟩
  unfold tIx
  cases e1 : at? sd i with
  | none => trivial
  | some c =>
    dsimp only [Option.bind]
    cases e2 : q sd with
    | none => trivial
    | some k =>
      dsimp only
      cases c with
      | lst ow xs =>
        cases ow with
        | false => cases k <;> trivial
        | true =>
          cases k with
          | int n =>
            dsimp only
            cases ej : ixOf xs.length n with
            | none => trivial
            | some j =>
              dsimp only [Option.map]
              intro kk
              obtain ⟨Z, F, G, S⟩ := S
              obtain ⟨u, F', Fx, eu, S1, ru⟩ := S.mov e1
              obtain ⟨a, av0, _, ea, _⟩ := ru.lstAt
              subst ea
              obtain ⟨av, hp, hl, S2⟩ := SI.setAt (ixOf_lt ej) ⟨Z, F', _, S1⟩
              refine ⟨.ref a, eu, s2 f sd σ (d :: ds) (v :: vs) H Z F G (.int n) _ S e2 fun w Fw rw' _ => ?_⟩
              refine ⟨a, av, n, j, rfl, rw'.eInt, hp, by rw [hl]; exact ej, ?_⟩
              obtain ⟨Z2, F2, G2, S2⟩ := S2
              obtain ⟨F3, G3, S3⟩ := S2.back eu
              rw [List.set_set] at S3
              exact kk σ _ ⟨Z2, F3, G3, S3⟩ ⟨rfl, fun _ _ => rfl⟩
          | _ => trivial
      | _ => cases k <;> trivial

/-! ### x.append(e) -/
def sApp (i : Nat) (m : M D) : MS := fun σ =>
  match at? σ i with
  | some (.lst _ _) => (m σ).thenS fun y σ1 =>
    match at? σ1 i with
    | some (.lst true xs) => if xs.length < sz then .nx (σ1.set i (some (.lst true (xs ++ [y])))) else .bad
    | _ => .bad
  | _ => .bad
theorem SO.app {i : Nat} {x : Str} {e : Expr} {m : M D} {p p2 cpos pos : Pos} (hv : VisN Γ i x) (he : EO Γ e m) (hs : ∀ env, swapsWith (.Call (.Attribute (.Name x p) "append" p2) [e] [] cpos) none pos.line env = pure false := by intro _; rfl)
    (hbase : ∀ env, attributeBase (.Name x p) "append" env (eval (.Name x p) env) = eval (.Name x p) env := by intro _; rfl)
    (hfew : ∀ env, ((backTo cpos (starEach [e] env)).all (fun x => !x.1) && (backToKw cpos (keywordEach [] env)).all (fun x => x.1.isSome)
      && decide (([e] : List Expr).length + ([] : List Keyword).length + (if ([] : List Keyword).isEmpty then 0 else 1) < 30)) = true := by intro _; rfl)
    (hline : (p2.endLine == cpos.line) = true := by rfl) (hst : ∀ env, starEach [e] env = (false, eval e env) :: starEach [] env := by intro _; rfl) (hpl : ∀ env, (backTo cpos (starEach [] env)).any (·.1) = false := by intro _; rfl) :
    SO Γ (.Expr (.Call (.Attribute (.Name x p) "append" p2) [e] [] cpos) pos) (sApp i m) := fun X W C tk => by
  obtain ⟨h1, h2, h3, h4⟩ := hv
  obtain ⟨te, p1, s1⟩ := he X W C tk
  have pv : PE X (.Name x p) (tVar i) := pe_var (by rw [C.N]; exact h1) (by rw [C.sc]; exact h2) h3 h4
  refine ⟨_, ps_expr (pe_bm F.plainAttrs_list PySem.F.slot_list_append PySem.F.type_list_append mt_append pv (pa_cons p1 pa_nil (hst _)) (hbase _) (hfew _) hline (hst _) (hpl _)) (hs _), fun f sd σ ds vs H D hr S => ?_⟩
  unfold sApp
  cases e0 : at? sd i with
  | none => trivial
  | some c =>
    cases c with
    | lst ow ys =>
      dsimp only
      obtain ⟨Z0, F0, G0, S0⟩ := id S
      obtain ⟨v0, Fv, ev0, rv0, _⟩ := S0.slots.get e0
      obtain ⟨a0, av0, _, ea0, ha0, _⟩ := rv0.lstAt
      subst ea0
      have h1 := s1 f sd σ ds vs H (fun y H2 => rAppend (.ref a0) [y] H2 fun _ H3 => D.nx σ H3) hr S
      have start : (te σ H fun y H2 => rAppend (.ref a0) [y] H2 fun _ H3 => D.nx σ H3) → tDrop (tBM X.K "list" rAppend (tVar i) (tCons te tNil)) D σ H := fun h => ⟨.ref a0, ev0, .inl ⟨rfl, av0, .inl (.inl ha0)⟩, h⟩
      cases em : m sd with
      | bad => trivial
      | exc z sd1 => rw [em] at h1; exact fun k => start (h1 fun cls dx H' => k cls dx σ H')
      | ok y sd1 =>
        rw [em] at h1
        rw [Out.thenS_ok]
        cases e1 : at? sd1 i with
        | none => trivial
        | some c1 =>
          cases c1 with
          | lst ow1 xs =>
            cases ow1 with
            | false => trivial
            | true =>
              dsimp only
              by_cases hz : xs.length < sz
              case neg => rw [if_neg hz]; trivial
              rw [if_pos hz]
              intro k
              refine start (h1 fun u H1 S1 => ?_)
              obtain ⟨Z, F, G, S1⟩ := S1
              obtain ⟨v1, F', Fx, ev1, S2, r1⟩ := S1.mov e1
              rw [ev0] at ev1
              cases ev1
              have S3 : SIX X f (sd1.set i none) σ (y :: ([] ++ .lst true xs :: ds)) (u :: ([] ++ .ref a0 :: vs)) H1 := SI.rot (xs := [.lst true xs]) (us := [.ref a0]) rfl ⟨Z, F', _, S2⟩
              obtain ⟨av, hp, hl, S4⟩ := SI.app rfl S3
              refine ⟨a0, av, u, rfl, rfl, hp, by rw [sizeLine_eq, hl]; exact hz, ?_⟩
              obtain ⟨Z4, F4, G4, S4⟩ := S4
              obtain ⟨F5, G5, S5⟩ := S4.back ev0
              rw [List.set_set] at S5
              exact k σ _ ⟨Z4, F5, G5, S5⟩
          | _ => trivial
    | _ => trivial
end
end FS

/-! SetI: set(list of ints) with its order known, sorted(..) of it, of any length below the bound. The library tells set(list) without the order (call_set_list); the steps are the same. -/
namespace L2I
open PySem PySem.Spec PySem.Calls PyProof.Rows L2
section
variable {prog : Program} {w : World} {A : Around} {R : Result → Shared → Prop} {I : Addr} {fp wr : List Addr} {G : Array GenState → Array GenState → Prop} {n : Nat} {P : Nat → Value → Prop} {St : Nat → Shared → Prop}
theorem loopR (W : WalksS prog w A.in1 I fp wr G n P St) (S : Addr) (hSf : S ∉ fp)
    (val : Nat → Int) (hval : ∀ i v, P i v → ∃ t, v = .int (val i) t) (hb : n + 1 < scanBound) :
    ∀ (k i : Nat) (s : Shared), n - i = k → i ≤ n → St i s →
      SetR w s.heap S (fun k' => (firstMet val i).any (· == k')) (firstMet val i).length →
      (∀ s', Moved (S :: wr) G s s' → SetR w s'.heap S (fun k' => (firstMet val n).any (· == k')) (firstMet val n).length → R (.ok (.ret .none)) s') →
      codeAny (model prog w) A (.builtin "set.update.loop" ⟨[.ref S, .ref I], []⟩) R s := by
  have hSw : S ∉ wr := fun h => hSf (W.sub _ h)
  have hsub : ∀ b ∈ wr, b ∈ S :: wr := fun b hb => List.mem_cons_of_mem _ hb
  intro k
  induction k with
  | zero =>
    intro i s hk hi hst hS hR
    have hin : i = n := by omega
    subst hin
    refine codeAny_builtin PyProof.Rows.F.entry_set_update_loop ?_
    rw [Around.under_plainId PyProof.Rows.F.plain_set_update_loop _]
    show wpAny _ A.in1 (pyNext (.ref I) >>= _) _ _ s
    refine wpAny_bind (W.done s _ _ hst fun s' hm => ?_)
    show wpAny _ A.in1 (ret Value.none) _ _ s'
    exact wpAny_pure (hR s' (hm.mono hsub) (by
      obtain ⟨o, es, ep, t, ho, rest⟩ := hS
      exact ⟨o, es, ep, t, hm.heap S _ hSw ho, rest⟩))
  | succ k ih =>
    intro i s hk hi hst hS hR
    have hlt : i < n := by omega
    refine codeAny_builtin PyProof.Rows.F.entry_set_update_loop ?_
    rw [Around.under_plainId PyProof.Rows.F.plain_set_update_loop _]
    show wpAny _ A.in1 (pyNext (.ref I) >>= _) _ _ s
    refine wpAny_bind (W.item i s _ _ hlt hst fun v s' hP hst' hm => ?_)
    obtain ⟨t, rfl⟩ := hval i v hP
    have hS' : SetR w s'.heap S (fun k' => (firstMet val i).any (· == k')) (firstMet val i).length := by
      obtain ⟨o, es, ep, tb, ho, rest⟩ := hS
      exact ⟨o, es, ep, tb, hm.heap S _ hSw ho, rest⟩
    show wpAny _ A.in1 (holding [Value.int (val i) t] (setAdd S (.int (val i) t)) >>= _) _ _ s'
    refine wpAny_bind (wpAny_holding ?_)
    unfold setAdd
    refine wpAny_holding ?_
    refine wpAny_bind ((intKind prog w).pyHash (k := val i) (intKind_is _ _ _ _) ?_)
    have hroom : (firstMet val i).length + 1 < scanBound := by have := firstMet_length_le val i; omega
    refine setR_add_hashed (s := { s' with toks := s'.toks + 1 }) hS' hroom fun h' hsb hS2 => ?_

    have hSi : SetR w h' S (fun k' => (firstMet val (i + 1)).any (· == k')) (firstMet val (i + 1)).length := by
      have e1 : (firstMet val (i + 1)).length = if ((firstMet val i).any (· == val i)) = true then (firstMet val i).length else (firstMet val i).length + 1 := by rw [firstMet_succ, step_length]
      rw [e1]
      exact hS2.congr fun k' => by rw [firstMet_succ, step_any]
    refine wpAny_pure ⟨plainId_quiet PyProof.Rows.F.plain_set_update_loop _, ih (i + 1) _ (by omega) hlt (W.frame _ s' _ _ hst' (Nat.le_succ _) fun b hb o e => ?_) hSi fun s'' hm'' hS'' => ?_⟩
    · rw [hsb.2 b (fun h : b = S => hSf (by rw [← h]; exact hb))]; exact e
    · refine hR s'' (Moved.trans W.gtrans ((hm.mono hsub).then_heap (Nat.le_succ _) fun b o hb e => ?_) hm'') hS''
      rw [hsb.2 b (fun h : b = S => hb (by rw [h]; exact List.mem_cons_self))]; exact e
end
section
variable {prog : Program} {w : World} {A : Around} {E : Value → Shared → Prop} {s : Shared}
theorem newR (a : Value) {Q₁ : Value → Shared → Prop}
    (h : Q₁ (.ref s.heap.objs.size) { s with heap := s.heap.push { cls := .type "set", dict := none, data := .set #[] 0 (.fresh 0 0 (!w.params.followText "set-order")) } }) :
    codeAny (model prog w) A (.call (.builtin "set.__new__") ⟨[.type "set", a], []⟩) (wants Q₁ E) s := by
  refine codeAny_of_tree ?_
  show wpAny _ A.in1 (do checkBuiltinCall "set.__new__" ⟨[.type "set", a], []⟩; again (.builtin "set.__new__" ⟨[.type "set", a], []⟩)) _ _ s
  refine wpAny_bind (wpAny_of_eq (F.newCall_set_1 a) (wpAny_pure ⟨plainId_quiet F.plain_set_new _, codeAny_builtin F.entry_set_new ?_⟩))
  rw [Around.under_plainId F.plain_set_new _]
  unfold Builtin.«set.__new__» Builtin.Frozenset.newClass
  have hsub := sub_set_self
  obtain ⟨hp, g, d, tk, os⟩ := s
  dsimp only
  wp_walk
  refine wpAny_askSetting (wpAny_pure ?_)
  dsimp only
  simp only [newObj]
  refine wpAny_bind (wpAny_alloc (wpAny_pure ?_))
  exact wpAny_pure h

set_option maxRecDepth 100000 in
set_option maxHeartbeats 3200000 in

theorem set_listR {l : Addr} {items : Array Value} {ns : List Int} {Q : Value → Shared → Prop}
    (hh : A.handled = none) (hl : s.heap.IsList l items) (hi : PyProof.Rows.IntsAre items.toList ns) (hb : items.size + 1 < scanBound)
    (h : ∀ (h' : Heap) (tk : Nat), SetR w h' s.heap.objs.size (fun k' => (PyProof.Rows.firstMet (fun i => ns.getD i 0) items.size).any (· == k')) (PyProof.Rows.firstMet (fun i => ns.getD i 0) items.size).length →
      (∀ b o, b < s.heap.objs.size → s.heap.get? b = some o → h'.get? b = some o) → Q (.ref s.heap.objs.size) { s with heap := h', toks := tk }) :
    wpAny (model prog w) A (call (.type "set") [.ref l]) Q E s := by
  obtain ⟨c, tl, hmro⟩ := F.called_set.mro
  have hmade := F.called_set.made
  have hsub := F.called_set.sub
  refine wpAny_call (codeAny_of_tree ?_)
  show wpAny _ _ (callAny (.type "set") _) _ _ _
  refine wpAny_pure ⟨Code.quiet_builtin _ (by decide +kernel), codeAny_builtin F.entry_type_call ?_⟩
  rw [Around.under_plain (weight_type_call_type "set" [.ref l] []) rfl]
  have h1 := F.called_set.notType
  have h2 := F.called_set.canCreate
  have hct := F.typeCall_set_1 (.ref l)
  repeat (any_goals (first | assumption | wp_step))

  refine codeAny_mono (newR (.ref l) (E := E) (Q₁ := fun obj s₁ => obj = .ref s.heap.objs.size ∧ s₁ = { s with heap := s.heap.push { cls := .type "set", dict := none, data := .set #[] 0 (.fresh 0 0 (!w.params.followText "set-order")) } }) ⟨rfl, rfl⟩) fun r s₁ hr => ?_
  cases r with
  | error e => exact hr
  | ok fl =>
    cases fl with
    | ret obj =>
      obtain ⟨rfl, rfl⟩ := hr
      generalize hled : (!w.params.followText "set-order") = led
      have hS : (s.heap.push { cls := .type "set", dict := none, data := .set #[] 0 (.fresh 0 0 led) }).get? s.heap.objs.size = some { cls := .type "set", dict := none, data := .set #[] 0 (.fresh 0 0 led) } := Heap.get?_push_size _ rfl
      have hT : Shared.TypeIs { s with heap := s.heap.push { cls := .type "set", dict := none, data := .set #[] 0 (.fresh 0 0 led) } } (.ref s.heap.objs.size) "set" := ⟨_, hS, rfl⟩
      have hli := F.called_set.init.lookup
      have hbi := F.called_set.init.bind (.ref s.heap.objs.size)
      repeat (any_goals (first | assumption | wp_step))

      refine codeAny_mono (codeAny_call_builtin (R := wants (fun r s₂ => r = .none ∧ ∃ h' tk, s₂ = { s with heap := h', toks := tk } ∧
          SetR w h' s.heap.objs.size (fun k' => (PyProof.Rows.firstMet (fun i => ns.getD i 0) items.size).any (· == k')) (PyProof.Rows.firstMet (fun i => ns.getD i 0) items.size).length ∧
          (∀ b o, b < s.heap.objs.size → s.heap.get? b = some o → h'.get? b = some o)) E) F.called_set.init.plain F.entry_set_init (check_set_init_1 hT ?_)) fun r₂ s₂ hr₂ => ?_
      · obtain ⟨ol, hol, hcl, nl, hdl⟩ := hl
        obtain ⟨ocls, odict, odata, oslots⟩ := ol
        simp only at hcl hdl
        subst hcl; subst hdl
        have hol' : (s.heap.push { cls := .type "set", dict := none, data := .set #[] 0 (.fresh 0 0 led) }).get? l = some { cls := .type "list", dict := odict, data := .seq items nl, slots := oslots } := Heap.get?_push_of_some _ hol
        have hsls := F.sub_list_set
        have hslf := F.sub_list_frozenset
        have hne : (Value.type "list" == Value.type "dict") = false := by decide
        have hl1 : (s.heap.push { cls := .type "set", dict := none, data := .set #[] 0 (.fresh 0 0 led) }).IsList l items := ⟨_, hol', rfl, nl, rfl⟩
        unfold Builtin.«set.__init__» noKeywords Builtin.Frozenset.updateFrom
        generalize hPI : pyIter = PI
        wp_walk
        subst hPI

        refine wpAny_pyIter_list hl1 ?_
        refine wpAny_bind (wpAny_runValue ?_)
        have hlS : l < s.heap.objs.size := Heap.lt_size hol
        have hh3 : A.in1.in1.in1.handled = none := by simp [hh]
        have hneI : l ≠ (s.heap.push { cls := .type "set", dict := none, data := .set #[] 0 (.fresh 0 0 led) }).objs.size := by
          rw [Heap.size_push]; exact Nat.ne_of_lt (Nat.lt_succ_of_lt hlS)
        have hSf : s.heap.objs.size ∉ [(s.heap.push { cls := .type "set", dict := none, data := .set #[] 0 (.fresh 0 0 led) }).objs.size, l] := by
          rw [Heap.size_push]; simp only [List.mem_cons, List.mem_singleton, List.not_mem_nil, or_false, not_or]
          exact ⟨Nat.ne_of_lt (Nat.lt_succ_self _), Nat.ne_of_gt hlS⟩
        have hval : ∀ (i : Nat) (v : Value), items[i]? = some v → ∃ t, v = .int ((fun i => ns.getD i 0) i) t := fun i v hv =>
          PyProof.Rows.IntsAre.int_at hi i v (by rw [Array.getElem?_toList]; exact hv)
        refine loopR ((Walks.list hh3 _ l hneI items).toS) s.heap.objs.size
          hSf (fun i => ns.getD i 0) hval hb (items.size - 0) 0 _ (by omega) (Nat.zero_le _)
          ⟨⟨_, Heap.get?_push_size _ rfl, rfl, rfl⟩, (hl1.push _)⟩ ?hS0 ?hR
        case hS0 =>
          have R0 : SetR w (s.heap.push { cls := .type "set", dict := none, data := .set #[] 0 (.fresh 0 0 led) }) s.heap.objs.size (fun _ => false) 0 := by
            rw [← hled]; exact setR_fresh (h := s.heap) w
          exact (R0.at fun o e => Heap.get?_push_of_some _ e).congr fun _ => rfl
        case hR =>
          intro s' hm hS'
          obtain ⟨h', g', d', tk', os'⟩ := s'
          have eg : g' = s.gens := hm.gens
          have ed : d' = s.drawn := hm.drawn
          have eo : os' = s.os := hm.os
          subst eg; subst ed; subst eo
          show wpAny _ _ _ _ _ _
          refine wpAny_pure ?_
          show wpAny _ _ (ret Value.none) _ _ _
          refine wpAny_pure ⟨rfl, h', tk', rfl, hS', fun b o hb e => ?_⟩
          have hb1 : b ≠ s.heap.objs.size := Nat.ne_of_lt hb
          have hb2 : b ≠ (s.heap.push { cls := .type "set", dict := none, data := .set #[] 0 (.fresh 0 0 led) }).objs.size := by
            rw [Heap.size_push]; exact Nat.ne_of_lt (Nat.lt_succ_of_lt hb)
          exact hm.heap b o (by simp only [List.mem_cons, List.mem_singleton, List.not_mem_nil, or_false, not_or]; exact ⟨hb1, hb2⟩) (Heap.get?_push_of_some _ (Heap.get?_push_of_some _ e))

      · cases r₂ with
        | error e => exact hr₂
        | ok fl₂ =>
          cases fl₂ with
          | ret r =>
            obtain ⟨rfl, h', tk, rfl, hS', hk'⟩ := hr₂
            repeat (any_goals (first | assumption | wp_step))
            exact h _ _ hS' hk'
          | _ => exact hr₂.elim
    | _ => exact hr.elim
/-- sorted(set), of any size -/
theorem sorted_setR {a : Addr} {S : Int → Bool} {n : Nat} {Q : Value → Shared → Prop} (R : SetR w s.heap a S n) (hh : A.handled = none)
    (hQ : ∀ s' p (out : Array Value) (c : Nat) (ns : List Int), (∀ b o, s.heap.get? b = some o → s'.heap.get? b = some o) → s'.gens = s.gens → s'.os = s.os → s.heap.objs.size ≤ p →
      s'.heap.get? p = some (seqObj "list" out c) → IntsAre out.toList ns → ns.Pairwise (· < ·) → (∀ k, k ∈ ns ↔ S k = true) → ns.length = n → Q (.ref p) s') :
    wpAny (model prog w) A (call (.builtin "sorted") [.ref a]) Q E s := by
  obtain ⟨o, es, ep, t, ho, hex, hd, g, nd, hm, hb, hf, hn, hr, hl⟩ := R
  refine Calls.call_function_entry kind_sorted plain_sorted entry_sorted (args_sorted1 _) ?_
  unfold Builtin.«sorted»
  refine wpAny_bind (m := checkCount "sorted" 1 1 _) (wpAny_pure ?_)
  refine wpAny_bind (collect_set (A := A.in1) hh ⟨o, ho, hex.1, hd⟩ hf hb hr hl fun s1 vs k1 hz g1 o1 pm => ?_)
  have hvl : vs.length = n := by rw [pm.length_eq, List.length_map, Array.length_toList]; exact hn
  have hI : IntsAre vs (vs.map Builtin.Re.reRawOf) := ints_of vs fun v hv => by
    obtain ⟨e, he, q⟩ := List.mem_map.mp (pm.mem_iff.mp hv)
    obtain ⟨k, tk, h1, _⟩ := g e he
    exact ⟨k, tk, by rw [← q]; exact h1⟩
  have pk : (vs.map Builtin.Re.reRawOf).Perm (es.toList.map keyOf) := by
    have q := pm.map Builtin.Re.reRawOf
    rw [List.map_map] at q
    exact q
  have hbn : n < 4096 := by rw [← hn]; exact hb
  refine wpAny_bind (wpAny_newList ?_ (by rw [hvl, sizeLine_eq]; omega))
  have hoL : (s1.heap.push (seqObj "list" vs.toArray 0)).get? s1.heap.objs.size = some (seqObj "list" vs.toArray 0) := Heap.get?_push_size _ rfl
  refine wpAny_bind (wpAny_holding (wpAny_call_entry slot_list_sort ⟨_, hoL, rfl⟩ entry_list_sort (SrtO.list_sort_ord SrtO.swo_int hoL (by rw [hvl, sizeLine_eq]; omega) (fun h2 => SrtO.ints_sortable hI h2) fun out q1 q2 => ⟨_, rfl, ?_⟩) (args_list_sort _)))
  obtain ⟨a1, a2, a3⟩ := SrtO.ints_out hI q1 q2
  obtain ⟨c, hc⟩ := sortedHeap_at (vs := vs) (out := out.toArray) hoL
  have pn : (out.map SrtO.iv).Perm (es.toList.map keyOf) := a2.trans pk
  refine wpAny_pure ⟨_, rfl, hQ _ s1.heap.objs.size out.toArray c (out.map SrtO.iv) (fun b u e => ?_) g1 o1 hz hc (by simpa using a1) (lt_of_le_nodup _ a3 (pn.nodup_iff.mpr nd)) (fun k => by rw [pn.mem_iff, ← hm k]) ?_⟩
  · have q := k1 b u e
    have hlt := Heap.lt_size q
    show (sortedHeap (s1.heap.push (seqObj "list" vs.toArray 0)) s1.heap.objs.size vs out.toArray).get? b = some u
    rw [sortedHeap_old (Nat.ne_of_lt hlt) (by rw [size_push']; exact Nat.lt_succ_of_lt hlt)]
    exact Heap.get?_push_of_some _ q
  · rw [pn.length_eq, List.length_map, Array.length_toList]; exact hn
end
/-- set(x), x a list of ints -/
def rSetI (K : PySem.W.Frag) (w : World) : List V → Hp → VK → Prop := fun vs H Q => ∃ (a : Addr) (ns : List Int), vs = [V.ref a] ∧ SqL K H a (ns.map V.int) ∧ ns.length + 1 < 4096 ∧ ∀ p S n, (∀ k, S k = ns.any (· == k)) → H p = none → Q (.ref p) (upd H p (SetO w p S n))
/-- sorted(x), x a set of ints -/
def rSortS (w : World) : List V → Hp → VK → Prop := fun vs H Q => ∃ (a : Addr) (S : Int → Bool) (n : Nat), vs = [V.ref a] ∧ H a = some (SetO w a S n) ∧
  ∀ (ns : List Int) (p : Addr), ns.Pairwise (· < ·) → (∀ k : Int, k ∈ ns ↔ S k = true) → H p = none → Q (.ref p) (upd H p (.lst (ns.map V.int)))
section
variable {X : Cx}
theorem cr_setI (hc : X.calm = true) : CallR X (.type "set") (rSetI X.K X.w) := by
  intro pins s σ H xs us Q I r h
  obtain ⟨a, ns, rfl, hs, hn, q⟩ := h
  obtain ⟨its, rv, hl, hz⟩ := I.list hs
  rw [Vals.ref1 r]
  have hi := rv.ints
  have hlen : its.length = ns.length := by have := rv.length; rw [List.length_map] at this; exact this.symm
  refine set_listR (I.ok.hd hc) hl.isList hi (by rw [List.size_toArray, hlen]; exact hn) fun h' tk hS hk => ?_
  have hsz : its.toArray.size = ns.length := by rw [List.size_toArray, hlen]
  have key : ∀ k, ((firstMet (fun i => ns.getD i 0) its.toArray.size).any (· == k)) = ns.any (· == k) := fun k => by
    rw [firstMet_any, hsz]
    have : (List.range ns.length).map (fun i => ns.getD i 0) = ns := by
      refine List.ext_getElem? fun i => ?_
      rw [List.getElem?_map]
      by_cases hi : i < ns.length
      · rw [List.getElem?_range hi, List.getElem?_eq_getElem hi]
        simp [List.getD_eq_getElem?_getD, List.getElem?_eq_getElem hi]
      · rw [List.getElem?_eq_none (by simpa using hi), List.getElem?_eq_none (by simpa using hi)]; rfl
    rw [this]
  have he : ∃ u, h'.get? s.heap.objs.size = some u := by
    have ⟨o, _, _, _, ho, _⟩ := hS
    exact ⟨o, ho⟩
  exact ⟨.ref _, upd H s.heap.objs.size (SetO X.w s.heap.objs.size _ _), I.laid (t' := tk) (fun b u e => hk b u (Heap.lt_size e) e) (Nat.le_refl _) (setO_new hS), rfl, q _ _ _ key (I.hok.fresh (Nat.le_refl _))⟩
theorem cr_sortS (hc : X.calm = true) : CallR X (.builtin "sorted") (rSortS X.w) := by
  intro pins s σ H vs us Q I r h
  obtain ⟨a, S, n, rfl, ha, q⟩ := h
  have R := setO_get I ha
  rw [Vals.ref1 r]
  have hbn : n < 4096 := by
    obtain ⟨_, _, _, _, _, _, _, _, _, _, hb, _, hn, _⟩ := R
    rw [← hn]; exact hb
  refine sorted_setR R (I.ok.hd hc) fun s' p out c ns k g o hp hg hi hs hm hl => ?_
  have hlen : (ns.map V.int).length ≤ sizeLine := by rw [List.length_map, hl, sizeLine_eq]; omega
  have hn : H p = none := I.hok.fresh hp
  have J : Inv X pins σ (upd H p (.lst (ns.map V.int))) { s with heap := s'.heap, gens := s'.gens, drawn := s'.drawn, toks := s'.toks } :=
    I.call (ch := []) (Un.laid k hp hn) (I.hok.laid k hp ⟨hlen, out.toList, c, vals_of_ints hi, hg⟩) (by rw [g]; exact I.bare) (fun _ z => nomatch z)
  have e : s' = { s with heap := s'.heap, gens := s'.gens, drawn := s'.drawn, toks := s'.toks } := by
    cases s'
    cases s
    cases o
    rfl
  rw [e]
  exact ⟨.ref p, _, J, rfl, q ns p hs hm hn⟩
end
end L2I

namespace FS
open PySem PySem.Spec PyProof.Rows L2
/-- the ints of a list, each once, ascending -/
def sortSet (ns : List Int) : List Int := (sortI ns).eraseDups
section
variable {Γ : Gam}
def sortSetD : D → Option D
  | .lst _ xs => (ints? xs).bind fun ns => if ns.length + 1 < 4096 then some (.lst true ((sortSet ns).map .int)) else none
  | _ => none
theorem pairwise_eraseDups : ∀ (n : Nat) (ns : List Int), ns.length ≤ n → ns.Pairwise (· ≤ ·) → ns.eraseDups.Pairwise (· < ·)
  | _, [], _, _ => by rw [List.eraseDups_nil]; exact .nil
  | 0, x :: xs, h, _ => by simp at h
  | n + 1, x :: xs, h, p => by
    rw [List.eraseDups_cons]
    obtain ⟨p1, p2⟩ := List.pairwise_cons.mp p
    refine List.pairwise_cons.mpr ⟨fun y hy => ?_, pairwise_eraseDups n _ (Nat.le_trans (List.length_filter_le _ _) (by simpa using h)) (p2.filter _)⟩
    rw [List.mem_eraseDups] at hy
    obtain ⟨h1, h2⟩ := List.mem_filter.mp hy
    have := p1 y h1
    have h3 : y ≠ x := by simpa using h2
    omega
theorem sortSet_lt (ns : List Int) : (sortSet ns).Pairwise (· < ·) := pairwise_eraseDups _ _ (Nat.le_refl _) (sortI_le ns)
theorem mem_sortSet {ns : List Int} {k : Int} : k ∈ sortSet ns ↔ k ∈ ns := by
  unfold sortSet
  rw [List.mem_eraseDups]
  exact (sortI_perm ns).mem_iff
theorem lt_unique {a b : List Int} (ha : a.Pairwise (· < ·)) (hb : b.Pairwise (· < ·)) (h : ∀ k, k ∈ a ↔ k ∈ b) : a = b := by
  have na : a.Nodup := ha.imp fun h => Int.ne_of_lt h
  have nb : b.Nodup := hb.imp fun h => Int.ne_of_lt h
  exact List.Perm.eq_of_pairwise (fun x y _ _ h1 h2 => absurd h1 (Int.not_lt.mpr (Int.le_of_lt h2))) ha hb ((List.perm_ext_iff_of_nodup na nb).mpr h)
/-- sorted(set(e)), e a list of ints -/
theorem EO.sortSet {e : Expr} {m : M D} {p1 p2 pos1 pos2 : Pos} (hg : GlN Γ "sorted") (hm : ("sorted" : Str) ∈ Γ.blt) (hg2 : GlN Γ "set") (hm2 : ("set" : Str) ∈ Γ.blt) (h : EO Γ e m)
    (he : ∀ env, starEach [e] env = (false, eval e env) :: starEach [] env := by intro _; rfl) (hpl : ∀ env, (backTo pos2 (starEach [] env)).any (·.1) = false := by intro _; rfl)
    (he2 : ∀ env, starEach [.Call (.Name "set" p2) [e] [] pos2] env = (false, eval (.Call (.Name "set" p2) [e] [] pos2) env) :: starEach [] env := by intro _; rfl) (hpl2 : ∀ env, (backTo pos1 (starEach [] env)).any (·.1) = false := by intro _; rfl) :
    EO Γ (.Call (.Name "sorted" p1) [.Call (.Name "set" p2) [e] [] pos2] [] pos1) (m1 sortSetD m) := fun X W C tk => by
  obtain ⟨t, q1, s1⟩ := h X W C tk
  have pset : PE X (.Call (.Name "set" p2) [e] [] pos2) _ := pe_callTy (L2I.cr_setI C.calm) (hg2.gl C) (C.blt _ hm2) rfl (pa_cons q1 pa_nil (he _)) (by decide) (by decide) (he _) (hpl _)
  refine ⟨_, pe_callB (L2I.cr_sortS C.calm) (hg.gl C) (C.blt _ hm) rfl (pa_cons pset pa_nil (he2 _)) (by decide) (by decide) (he2 _) (hpl2 _), fun f sd σ ds vs H Q hv S => ?_⟩
  unfold m1
  have h1 := s1 f sd σ ds vs H (fun x H1 => L2I.rSetI X.K X.w [x] H1 fun y H2 => L2I.rSortS X.w [y] H2 Q) hv S
  cases em : m sd with
  | bad => trivial
  | exc x sd1 => rw [em] at h1; exact h1
  | ok d sd1 =>
    rw [em] at h1
    rw [Out.then_ok]
    cases er : sortSetD (frz d) with
    | none => trivial
    | some d2 =>
      rw [ofOpt_some]
      intro k
      refine h1 fun v H1 S1 => ?_
      obtain ⟨Z, F, G, S2⟩ := S1.freeze
      obtain ⟨r, S3⟩ := S2.topF (isF_frz d)
      unfold sortSetD at er
      split at er
      · rename_i o xs ed
        obtain ⟨ns, en, e2⟩ := Option.bind_eq_some_iff.mp er
        split at e2
        · rename_i hn
          cases e2
          rw [ed] at r
          obtain ⟨a, us, Fx, ev, s0, rr, z⟩ := r.lstAt
          rw [ints?_vals en rr] at s0
          refine ⟨a, ns, by rw [ev], .inl (.inl s0), hn, fun p S n hS hp => ⟨p, S, n, rfl, upd_same, fun ns' p' hlt hmem hp' => ?_⟩⟩
          have hpn : p' ≠ p := by rintro rfl; rw [upd_same] at hp'; cases hp'
          have e3 : ns' = FS.sortSet ns := lt_unique hlt (sortSet_lt ns) fun k => by
            rw [hmem, hS, mem_sortSet, List.any_eq_true]
            constructor
            · rintro ⟨y, hy, e⟩; rw [← (by simpa using e : y = k)]; exact hy
            · intro hk; exact ⟨k, hk, by simp⟩
          rw [e3]
          have S4 := S3.ext (Ext.upd (o := SetO X.w p S n) hp)
          exact k _ _ (S4.new (new_lst (reps_ints _) hp'))
        · cases e2
      · cases er
/-! ### {k: v} -/
def mDisp1 (mk mv : M D) : M D := fun σ => (mk σ).then fun k σ1 => (mv σ1).then fun v σ2 => match key? k with | some kk => .ok (.dk true [kk] [frz v]) σ2 | none => .bad
theorem EO.disp1 {k v : Expr} {mk mv : M D} {pos : Pos} (hk : EO Γ k mk) (hv : EO Γ v mv) : EO Γ (.Dict [some k] [v] pos) (mDisp1 mk mv) := fun X W C tk => by
  obtain ⟨t, q1, s1⟩ := hk X W C tk
  obtain ⟨u, q2, s2⟩ := hv X W C tk
  refine ⟨_, pe_disp (pps_cons q1 q2 pps_nil) rfl rfl (by simp) (by simp), fun f sd σ ds vs H Q hr S => ?_⟩
  unfold mDisp1
  have new : ∀ p, H p = none → SIX X f sd σ (.dk true [] [] :: ds) (.ref p :: vs) (upd H p (.dK [])) := fun p hp => SI.newUnderD (ws := []) (us := []) rfl S hp
  have P1 := fun p (hp : H p = none) Q => s1 f sd σ (.dk true [] [] :: ds) (.ref p :: vs) (upd H p (.dK [])) Q hr (new p hp)
  cases e1 : mk sd with
  | bad => trivial
  | exc z sd1 =>
    rw [Out.then_exc]
    intro k p hp
    have h1 := P1 p hp (fun x H1 => u σ H1 fun y H2 => (fun ps H2 => H2 p = some (.dK []) ∧ ∃ kvs : List (L2.Key × V), ps = kvs.map (fun kv => (kV kv.1, kv.2)) ∧ kvs.length ≤ 15 ∧ Q (.ref p) (upd H2 p (.dK (mergeK [] kvs)))) [(x, y)] H2)
    rw [e1] at h1
    exact h1 fun cls dx H' S' => k cls dx H' S'.pop
  | ok d sd1 =>
    rw [Out.then_ok]
    cases e2 : mv sd1 with
    | bad => trivial
    | exc z sd2 =>
      rw [Out.then_exc]
      intro k p hp
      have h1 := P1 p hp (fun x H1 => u σ H1 fun y H2 => (fun ps H2 => H2 p = some (.dK []) ∧ ∃ kvs : List (L2.Key × V), ps = kvs.map (fun kv => (kV kv.1, kv.2)) ∧ kvs.length ≤ 15 ∧ Q (.ref p) (upd H2 p (.dK (mergeK [] kvs)))) [(x, y)] H2)
      rw [e1] at h1
      refine h1 fun x H1 S1 => ?_
      have h2 := s2 f sd1 σ _ _ H1 (fun y H2 => (fun ps H2 => H2 p = some (.dK []) ∧ ∃ kvs : List (L2.Key × V), ps = kvs.map (fun kv => (kV kv.1, kv.2)) ∧ kvs.length ≤ 15 ∧ Q (.ref p) (upd H2 p (.dK (mergeK [] kvs)))) [(x, y)] H2) hr S1
      rw [e2] at h2
      exact h2 fun cls dx H' S' => k cls dx H' S'.pop.pop
    | ok y sd2 =>
      rw [Out.then_ok]
      cases e3 : key? d with
      | none => trivial
      | some kk =>
        intro k p hp
        have h1 := P1 p hp (fun x H1 => u σ H1 fun y H2 => (fun ps H2 => H2 p = some (.dK []) ∧ ∃ kvs : List (L2.Key × V), ps = kvs.map (fun kv => (kV kv.1, kv.2)) ∧ kvs.length ≤ 15 ∧ Q (.ref p) (upd H2 p (.dK (mergeK [] kvs)))) [(x, y)] H2)
        rw [e1] at h1
        refine h1 fun x H1 S1 => ?_
        have h2 := s2 f sd1 σ _ _ H1 (fun y H2 => (fun ps H2 => H2 p = some (.dK []) ∧ ∃ kvs : List (L2.Key × V), ps = kvs.map (fun kv => (kV kv.1, kv.2)) ∧ kvs.length ≤ 15 ∧ Q (.ref p) (upd H2 p (.dK (mergeK [] kvs)))) [(x, y)] H2) hr S1
        rw [e2] at h2
        refine h2 fun w H2 S2 => ?_
        obtain ⟨Z, F, G, S3⟩ := S2.freeze
        obtain ⟨rv, S4⟩ := S3.topF (isF_frz y)
        have fk : isF d = true := by
          unfold key? at e3
          split at e3
          · rfl
          · rfl
          · cases e3
        obtain ⟨rk, S5⟩ := S4.topF fk
        obtain ⟨kvs, hk1, hk2, S6⟩ := SIx.dput (ws := []) (us := []) (k := kk) rfl S5 rv
        have e4 : kvs = [] := List.length_eq_zero_iff.mp hk2
        subst e4
        refine ⟨hk1, [(kk, w)], by rw [key?_kV e3 rk]; rfl, by simp, ?_⟩
        exact k _ _ S6
end
end FS

/-! Gk: what the printed derivations lean on. -/
namespace FS
open PySem PySem.Spec PyProof.Rows L2
def visB (Γ : Gam) (i : Nat) (x : Str) : Bool := decide (Γ.N[i]? = some x) && (match Γ.sc.names.lookup x with | some .local => true | some .cell => true | some .free => true | _ => false) && !(x == ("__debug__" : Str)) && !(x == ("__classdict__" : Str))
theorem vis {Γ : Gam} {i : Nat} {x : Str} (h : visB Γ i x = true) : VisN Γ i x := by
  unfold visB at h
  simp only [Bool.and_eq_true, decide_eq_true_eq, Bool.not_eq_true'] at h
  obtain ⟨⟨⟨h1, h2⟩, h3⟩, h4⟩ := h
  refine ⟨h1, ?_, h3, h4⟩
  split at h2
  · exact .inl (by assumption)
  · exact .inr (.inl (by assumption))
  · exact .inr (.inr (by assumption))
  · cases h2
def locB (Γ : Gam) (i : Nat) (x : Str) : Bool := decide (Γ.N[i]? = some x) && (match Γ.sc.names.lookup x with | some .local => true | some .cell => true | _ => false) && decide (x ∈ Γ.st) && decide (i ∉ Γ.refs)
theorem loc {Γ : Gam} {i : Nat} {x : Str} (h : locB Γ i x = true) : LocN Γ i x := by
  unfold locB at h
  simp only [Bool.and_eq_true, decide_eq_true_eq] at h
  obtain ⟨⟨⟨h1, h2⟩, h3⟩, h4⟩ := h
  refine ⟨h1, ?_, h3, h4⟩
  split at h2
  · exact .inl (by assumption)
  · exact .inr (by assumption)
  · cases h2
def glB (Γ : Gam) (x : Str) : Bool := match Γ.sc.names.lookup x with | some .globalImplicit => true | _ => false
theorem gl {Γ : Gam} {x : Str} (h : glB Γ x = true) : GlN Γ x := by
  unfold glB at h
  unfold GlN
  split at h
  · assumption
  · cases h
theorem bltm {Γ : Gam} {x : Str} (h : decide (x ∈ Γ.blt) = true) : x ∈ Γ.blt := of_decide_eq_true h
theorem at_ {α : Type} {x : α} {l : List α} {j : Nat} (h : l[j]? = some x) : x ∈ l := List.mem_of_getElem? h
/-- a name, moved out -/
theorem EO.mov {Γ : Gam} {i : Nat} {x : Str} {p : Pos} (h : VisN Γ i x) : EO Γ (.Name x p) (mMov i) := fun X W C tk => by
  obtain ⟨h1, h2, h3, h4⟩ := h
  refine ⟨tVar i, pe_var (by rw [C.N]; exact h1) (by rw [C.sc]; exact h2) h3 h4, fun f sd σ ds vs H Q hr S => ?_⟩
  obtain ⟨Z, F, G, S⟩ := S
  unfold mMov
  cases e : at? sd i with
  | none => trivial
  | some d =>
    dsimp only
    intro k
    obtain ⟨v, F', Fx, e1, S1, _⟩ := S.mov e
    exact ⟨v, e1, k v H ⟨Z, F', _, S1⟩⟩
/-- a def of which nothing is promised -/
def cBad : Con := fun _ => .bad
theorem bad_ok {P : Program} {w : World} {K : PySem.W.Frag} {mg : Str → Option Value} {base : Heap} {x qual : Str} {st : Stmt} {f : Addr} {fd : FuncData} {N ps : List Str} {refs : List Nat} (F : Fun K x qual st f fd) (S : FnScope N ps (defScope st)) :
    FnOk P w K mg base (L2.CX P w) 1 f fd ps (spOf K mg ps.length refs cBad) :=
  F.okX S (fun vs H Q E h => h.1) fun cdv A outer s H vs Q E hr h => by
    obtain ⟨_, ds, Z, G, _, _, _, _, h⟩ := h
    exact h.elim
/-- what stands in the written part of a def -/
structure DefT (K : PySem.W.Frag) (mg : Str → Option Value) (x : Str) (st : Stmt) (ps : List Str) : Prop where
  ex : ∃ f fd, Fun K x x st f fd ∧ Binds K fd ps [] ∧ mg x = some (.ref f)
theorem DefT.known {P : Program} {w : World} {K : PySem.W.Frag} {mg : Str → Option Value} {base : Heap} {x : Str} {st : Stmt} {ps : List Str} {k : Nat} {refs : List Nat} {c : Con} (T : DefT K mg x st ps)
    (h : ∀ f fd, Fun K x x st f fd → FnOk P w K mg base (L2.CX P w) k f fd ps (spOf K mg ps.length refs c)) : Known P w K mg base k ⟨x, ps.length, refs, c⟩ := by
  obtain ⟨f, fd, F, b, g⟩ := T.ex
  exact ⟨f, fd, ps, h f fd F, g, F.kp, b⟩
theorem scr_of {K : PySem.W.Frag} {H : Hp} {a : Addr} {ns : List Int} (hO : Only H) (hS : SqL K H a (ns.map V.int)) : (∃ o, H a = some (.frz o (.lst (ns.map V.int)))) ∨ KLst K a (ns.map V.int) := by
  rcases hS with (h | ⟨o, h⟩) | ⟨o, its, n, h1, h2, h3, h4, h5, h6⟩
  · rcases hO a with q | ⟨o, xs, q⟩
    · rw [h] at q; cases q
    · rw [h] at q; cases q
  · exact .inl ⟨o, h⟩
  · exact .inr ⟨o, its, n, h1, h2, h3, h4, h5, h6⟩
theorem noCX {P : Program} {w : World} {H : Hp} {s : Shared} {e : Value} {s' : Shared} (h : L2.CX P w [] H s (fun _ _ _ => False) e s') : False := by
  obtain ⟨_, _, _, _, _, _, _, _, _, _, _, _, q⟩ := h
  exact q
end FS

/-! Pl: plain facts of the mirrors. -/
namespace FS
open PySem
abbrev tn (ns : List Int) : D := .tup (ns.map .int)
theorem ints?_map : ∀ ns : List Int, ints? (ns.map .int) = some ns
  | [] => rfl
  | n :: ns => by
    show (ints? (ns.map .int)).map (n :: ·) = _
    rw [ints?_map ns]; rfl
theorem frzs_ints : ∀ ns : List Int, frzs (ns.map .int) = ns.map .int
  | [] => rfl
  | n :: ns => by
    show .int n :: frzs (ns.map .int) = _
    rw [frzs_ints ns]; rfl
theorem isFs_ints : ∀ ns : List Int, isFs (ns.map .int) = true
  | [] => rfl
  | n :: ns => by
    show (true && isFs (ns.map .int)) = true
    rw [isFs_ints ns]; rfl
theorem okds_ints (k : Nat) : ∀ ns : List Int, okds k (ns.map .int) = true
  | [] => by cases k <;> rfl
  | n :: ns => by
    show (okd k (.int n) && okds k (ns.map .int)) = true
    rw [okds_ints k ns, Bool.and_true]
    cases k <;> rfl
@[simp] theorem isF_tn (ns : List Int) : isF (tn ns) = true := isFs_ints ns
@[simp] theorem frz_tn (ns : List Int) : frz (tn ns) = tn ns := by show D.tup (frzs (ns.map .int)) = _; rw [frzs_ints]
theorem bools?_map : ∀ bs : List Bool, bools? (bs.map .bl) = some bs
  | [] => rfl
  | n :: ns => by
    show (bools? (ns.map .bl)).map (n :: ·) = _
    rw [bools?_map ns]; rfl
theorem frzs_bls : ∀ ns : List Bool, frzs (ns.map .bl) = ns.map .bl
  | [] => rfl
  | n :: ns => by
    show .bl n :: frzs (ns.map .bl) = _
    rw [frzs_bls ns]; rfl
/-- a comprehension whose turns change nothing -/
theorem lcL_map {own : List Nat} {t : Tg} {c : M Bool} {e : M D} {f : D → D} {p : D → Bool} {σ : Sl} : ∀ {xs : List D},
    (∀ x ∈ xs, ∃ σ1, t x σ = some σ1 ∧ wipeD σ1 own = σ ∧ ((p x = true ∧ c σ1 = .ok true σ1 ∧ e σ1 = .ok (f x) σ1) ∨ (p x = false ∧ c σ1 = .ok false σ1))) →
    lcL own t c e xs σ = .ok ((xs.filter p).map f) σ
  | [], _ => rfl
  | x :: xs, h => by
    obtain ⟨σ1, h1, h2, h3⟩ := h x List.mem_cons_self
    have ih := lcL_map (xs := xs) fun y hy => h y (List.mem_cons_of_mem _ hy)
    unfold lcL
    rw [h1]
    dsimp only
    rcases h3 with ⟨hp, hc, he⟩ | ⟨hp, hc⟩
    · rw [hc]
      dsimp only
      rw [he]
      dsimp only
      rw [h2, ih, List.filter_cons_of_pos hp, List.map_cons]
    · rw [hc]
      dsimp only
      rw [h2, ih, List.filter_cons_of_neg (by simp [hp])]
theorem mLc_map {own : List Nat} {t : Tg} {src : M (List D)} {c : M Bool} {e : M D} {f : D → D} {p : D → Bool} {σ σ1 : Sl} {xs : List D} (h0 : src σ = .ok xs σ1) (hz : xs.length ≤ sz) (hw : wipeD (wipeD σ1 own) own = wipeD σ1 own)
    (h : ∀ x ∈ xs, ∃ σ2, t x (wipeD σ1 own) = some σ2 ∧ wipeD σ2 own = wipeD σ1 own ∧ ((p x = true ∧ c σ2 = .ok true σ2 ∧ e σ2 = .ok (f x) σ2) ∨ (p x = false ∧ c σ2 = .ok false σ2))) :
    mLc own t src c e σ = .ok (.lst true ((xs.filter p).map f)) (wipeD σ1 own) := by
  unfold mLc
  rw [h0, Out.then_ok, if_pos hz, lcL_map h]
  dsimp only
  rw [hw]
theorem filter_true {α : Type} (xs : List α) : xs.filter (fun _ => true) = xs := by simp
theorem mulD_of {i j : Int} (hi : i.natAbs < 2 ^ 1000) (hj : j.natAbs < 2 ^ 1000) : mulD (.int i) (.int j) = some (.int (i * j)) := by
  have h : ∀ n : Nat, n < 2 ^ 1000 → n.log2 < 1000 := fun n hn => by
    by_cases h0 : n = 0
    · subst h0; decide
    · exact (Nat.log2_lt h0).mpr hn
  have hc : i.natAbs.log2 + j.natAbs.log2 < 1000000 := by have := h _ hi; have := h _ hj; omega
  show (if i.natAbs.log2 + j.natAbs.log2 < 1000000 then some (D.int (i * j)) else none) = _
  rw [if_pos hc]
theorem small_abs {i : Int} (h1 : -(2 ^ 62) < i) (h2 : i < 2 ^ 62) : i.natAbs < 2 ^ 1000 :=
  Nat.lt_of_lt_of_le (show i.natAbs < 2 ^ 62 by omega) (Nat.pow_le_pow_right (by decide) (by decide))
theorem dcIn_cons {q : DcIn} {x : D} {xs : List D} {ks : List Key} {vs : List D} {σ σ1 : Sl} {k : D} {kk : Key} {v : D} (h1 : q.t1 x σ = some σ1) (h2 : q.c1 σ1 = .ok true σ1) (h3 : q.ek σ1 = .ok k σ1) (h4 : q.ev σ1 = .ok v σ1) (h5 : key? k = some kk) (h6 : ks.length < sz) :
    dcIn q (x :: xs) ks vs σ = dcIn q xs (putKs ks kk) (putVs ks vs kk (frz v)) (wipeD σ1 q.vs1) := by
  conv => lhs; unfold dcIn
  simp only [h1, h2, h3, h4, h5, if_pos h6]
/-! ### steps, one at a time -/
theorem mCall_ok {c : Con} {as : List Arg} {σ σ1 : Sl} {xs : List D} {d : D} (ha : mArgs as σ = .ok xs σ1) (hc : c xs = .ok d []) (hl : lent as = []) : mCall c as σ = .ok d σ1 := by
  unfold mCall
  rw [ha, Out.then_ok, hc]
  dsimp only
  rw [hl]
  rfl
theorem mT_ok {a : M D} {σ σ1 : Sl} {b : Bool} (h : a σ = .ok (.bl b) σ1) : mT a σ = .ok b σ1 := by
  unfold mT
  rw [h]; rfl
theorem tNot_ok {a : M Bool} {σ σ1 : Sl} {b : Bool} (h : a σ = .ok b σ1) : tNot' a σ = .ok (!b) σ1 := by
  unfold tNot'
  rw [h]; rfl
theorem m2_ok {f : D → D → Option D} {a b : M D} {σ σ1 σ2 : Sl} {x y z : D} (ha : a σ = .ok x σ1) (hb : b σ1 = .ok y σ2) (h : f (frz x) (frz y) = some z) : m2 f a b σ = .ok z σ2 := by
  unfold m2
  rw [ha, Out.then_ok, hb, Out.then_ok, h]; rfl
end FS

/-! K79a: the defs of k79, their mirrors, and that they keep to them. Printed by gen.py. -/
namespace K79
open PySem PySem.Spec PyProof.Rows L2 FS
def topS (i : Nat) : Stmt := PySem.Challenge.pw_frameshold_k79_whole_rulers_that_close.main.body.getD i (.Pass ⟨0, 0, 0, 0⟩)
def exmT : List (Str × Str × Bool) := [("Refused", "Refused", true)]
def xfsT : List (Str × Str) := [("Refused", "word")]
abbrev c__law_same_0 : Con := cBad
def m_is_whole : MS :=
 (sRet (mAndV (mQ (q1 (isiQ .int) (pVar 0))) (mNotV (mQ (q1 (isiQ .bool) (pVar 0))))))
def c_is_whole : Con := runDef 1 1 [] m_is_whole
abbrev g_is_whole : Gam := { N := ["value"], sc := defScope (topS 4), st := ["value"], refs := [], fns := [], blt := ["isinstance", "int", "bool"], cns := [], exs := [], exm := [], xfs := [], top := true }
theorem b_is_whole : BO g_is_whole (defBody (topS 4)) m_is_whole :=
 (BO.one (SO.ret (EO.and (QO.isi (T := .int) (PO.var (i := 0) (vis (by decide +kernel))) (gl (by decide +kernel)) (bltm (by decide +kernel)) (gl (by decide +kernel)) (bltm (by decide +kernel))).eo (EO.one (EO.not (QO.isi (T := .bool) (PO.var (i := 0) (vis (by decide +kernel))) (gl (by decide +kernel)) (bltm (by decide +kernel)) (gl (by decide +kernel)) (bltm (by decide +kernel))).eo)))))
theorem sc_is_whole : FnScope ["value"] ["value"] (defScope (topS 4)) := ⟨rfl, rfl, rfl, by decide +kernel, rfl, by decide +kernel, by decide +kernel⟩
def m_look_at_ruler : MS :=
 (sSeq (sIf (tOr' (tNot' (mT (mQ (q1 (isiQ .tuple) (pVar 0))))) (tNot' (mT (mChain ltD leD (mQ (qC (.int 0))) (mQ (qB len1 (qCons (pVar 0) qNil))) (mQ (qC (.int 40)))))))
 (sRaise "Refused" ["word"] (mAll [(mQ (qC (.str "ruler")))]))
 sNext)
 (sIf (tNot' (mT (mB allD (mAll [(mLc [1] (tName 1) (iSeq (mVar 0)) tTrue (mAndV (mCall c_is_whole [.val (mVar 1)]) (mQ (q2 gtD (pVar 1) (qC (.int 0))))))]))))
 (sRaise "Refused" ["word"] (mAll [(mQ (qC (.str "ruler")))]))
 sNext))
def c_look_at_ruler : Con := runDef 1 2 [] m_look_at_ruler
abbrev g_look_at_ruler : Gam := { N := ["value", "one"], sc := defScope (topS 7), st := ["value", "one"], refs := [], fns := [⟨"is_whole", 1, [], c_is_whole⟩], blt := ["isinstance", "tuple", "len", "all"], cns := [], exs := [("Refused", ["word"])], exm := [], xfs := [], top := true }
theorem b_look_at_ruler : BO g_look_at_ruler (defBody (topS 7)) m_look_at_ruler :=
 (BO.cons (SO.ifs (TWO.or (TO.not (TO.val (QO.isi (T := .tuple) (PO.var (i := 0) (vis (by decide +kernel))) (gl (by decide +kernel)) (bltm (by decide +kernel)) (gl (by decide +kernel)) (bltm (by decide +kernel))).eo fun _ _ => rfl)) (TWO.or1 (TO.not (TO.chain cm_lt cm_le QO.int.eo (QO.blt bq_len' (gl (by decide +kernel)) (bltm (by decide +kernel)) (QAO.cons (PO.var (i := 0) (vis (by decide +kernel))) QAO.nil)).eo QO.int.eo rfl)))).to
 (BO.one (SO.raise (fs := ["word"]) (at_ (j := 0) rfl) (gl (by decide +kernel)) (AO.cons QO.str.eo AO.nil)))
 BO.nil)
 (BO.one (SO.ifs (TO.not (TO.val (EO.blt bq_all.a (gl (by decide +kernel)) (bltm (by decide +kernel)) (AO.cons (EO.lc (own := [("one", 1)]) (st := ["one"]) (js := [1]) ⟨by decide +kernel, by decide +kernel, by decide +kernel, by decide +kernel⟩ (IO.seq (EO.var (i := 0) (vis (by decide +kernel)))) (GO.name (i := 1) (loc (by decide +kernel))) TsO.nil (EO.and (EO.call (as := [.val (mVar 1)]) (c := c_is_whole) (at_ (j := 0) rfl) rfl (gl (by decide +kernel)) (ArgsO.val (EO.var (i := 1) (vis (by decide +kernel))) ArgsO.nil)) (EO.one (QO.cmp cm_gt (PO.var (i := 1) (vis (by decide +kernel))) QO.int.po rfl).eo))) AO.nil)) fun _ _ => rfl))
 (BO.one (SO.raise (fs := ["word"]) (at_ (j := 0) rfl) (gl (by decide +kernel)) (AO.cons QO.str.eo AO.nil)))
 BO.nil)))
theorem sc_look_at_ruler : FnScope ["value", "one"] ["value"] (defScope (topS 7)) := ⟨rfl, rfl, rfl, by decide +kernel, rfl, by decide +kernel, by decide +kernel⟩
def m_is_folds : MS :=
 (sSeq (sIf (tOr' (tNot' (mT (mQ (q1 (isiQ .tuple) (pVar 1))))) (mT (m2 neD (mQ (qB len1 (qCons (pVar 1) qNil))) (mQ (qB len1 (qCons (pVar 0) qNil))))))
 (sRet (mQ (qC (.bl false))))
 sNext)
 (sRet (mB allD (mAll [(mLc [2] (tName 2) (iSeq (mVar 1)) tTrue (mAndV (mCall c_is_whole [.val (mVar 2)]) (m2 inD (mVar 2) (mTup (mAll [(mQ (qC (.int 1))), (mQ (q1 negD (qC (.int 1))))])))))]))))
def c_is_folds : Con := runDef 2 3 [] m_is_folds
abbrev g_is_folds : Gam := { N := ["ruler", "value", "one"], sc := defScope (topS 8), st := ["ruler", "value", "one"], refs := [], fns := [⟨"is_whole", 1, [], c_is_whole⟩], blt := ["isinstance", "tuple", "len", "all"], cns := [], exs := [], exm := [], xfs := [], top := true }
theorem b_is_folds : BO g_is_folds (defBody (topS 8)) m_is_folds :=
 (BO.cons (SO.ifs (TWO.or (TO.not (TO.val (QO.isi (T := .tuple) (PO.var (i := 1) (vis (by decide +kernel))) (gl (by decide +kernel)) (bltm (by decide +kernel)) (gl (by decide +kernel)) (bltm (by decide +kernel))).eo fun _ _ => rfl)) (TWO.or1 (TO.cmp cm_ne (QO.blt bq_len' (gl (by decide +kernel)) (bltm (by decide +kernel)) (QAO.cons (PO.var (i := 1) (vis (by decide +kernel))) QAO.nil)).eo (QO.blt bq_len' (gl (by decide +kernel)) (bltm (by decide +kernel)) (QAO.cons (PO.var (i := 0) (vis (by decide +kernel))) QAO.nil)).eo rfl))).to
 (BO.one (SO.ret QO.bl.eo))
 BO.nil)
 (BO.one (SO.ret (EO.blt bq_all.a (gl (by decide +kernel)) (bltm (by decide +kernel)) (AO.cons (EO.lc (own := [("one", 2)]) (st := ["one"]) (js := [2]) ⟨by decide +kernel, by decide +kernel, by decide +kernel, by decide +kernel⟩ (IO.seq (EO.var (i := 1) (vis (by decide +kernel)))) (GO.name (i := 2) (loc (by decide +kernel))) TsO.nil (EO.and (EO.call (as := [.val (mVar 2)]) (c := c_is_whole) (at_ (j := 0) rfl) rfl (gl (by decide +kernel)) (ArgsO.val (EO.var (i := 2) (vis (by decide +kernel))) ArgsO.nil)) (EO.one (EO.cmp cm_in (EO.var (i := 2) (vis (by decide +kernel))) (EO.tup (AO.cons QO.int.eo (AO.cons (QO.neg QO.int.po).eo AO.nil))) rfl)))) AO.nil)))))
theorem sc_is_folds : FnScope ["ruler", "value", "one"] ["ruler", "value"] (defScope (topS 8)) := ⟨rfl, rfl, rfl, by decide +kernel, rfl, by decide +kernel, by decide +kernel⟩
def m_closes : MS :=
 (sSeq (sExp (mCall c_look_at_ruler [.val (mVar 0)]))
 (sSeq (sIf (mT (m2 gtD (mQ (q2 mulD (qB sumD (qCons (pVar 0) qNil)) (qB len1 (qCons (pVar 0) qNil)))) (mQ (qC (.int 200000)))))
 (sRaise "Refused" ["word"] (mAll [(mQ (qC (.str "room")))]))
 sNext)
 (sSeq (sAsg (tName 1) (mLst (mAll [(mFz (mDisp1 (mQ (qC (.int 0))) (mQ (qC (.bl true)))))])))
 (sSeq (sFor (tName 2) (iSeq (mVar 0))
 (sApp 1 (mFz (mDc2 [3, 4] (tName 3) (iKeys' (q2 ixD (pVar 1) (q1 negD (qC (.int 1))))) tTrue (iSeq (mTup (mAll [(mQ (qC (.int 1))), (mQ (q1 negD (qC (.int 1))))]))) ⟨[4], (tName 4), tTrue, (mQ (q2 addI (pVar 3) (q2 mulD (pVar 4) (pVar 2)))), (mQ (qC (.bl true)))⟩))))
 (sSeq (sIf (mT (m2 notInD (mQ (qC (.int 0))) (mQ (qF (q2 ixD (pVar 1) (q1 negD (qC (.int 1))))))))
 (sRet (mQ (qC .non)))
 sNext)
 (sSeq (sAsg (tName 5) (mQ (qC (.int 0))))
 (sSeq (sAsg (tName 6) (mLst (mAll [])))
 (sSeq (sFor (tName 7) (iArgs rng3 (mAll [(mQ (q2 subD (qB len1 (qCons (pVar 0) qNil)) (qC (.int 1)))), (mQ (q1 negD (qC (.int 1)))), (mQ (q1 negD (qC (.int 1))))]))
 (sSeq (sAsg (tName 4) (mIf (mT (m2 inD (mQ (q2 subD (pVar 5) (q2 ixD (pVar 0) (pVar 7)))) (mQ (qF (q2 ixD (pVar 1) (pVar 7)))))) (mQ (qC (.int 1))) (mQ (q1 negD (qC (.int 1))))))
 (sSeq (sApp 6 (mVar 4))
 (sAsg (tName 5) (mQ (q2 subD (pVar 5) (q2 mulD (pVar 4) (q2 ixD (pVar 0) (pVar 7)))))))))
 (sRet (mB tupleD (mAll [(m1 revD (mVar 6))])))))))))))
def c_closes : Con := runDef 1 8 [] m_closes
abbrev g_closes : Gam := { N := ["ruler", "rows", "link", "place", "side", "here", "found", "at"], sc := defScope (topS 9), st := ["ruler", "rows", "link", "place", "side", "here", "found", "at"], refs := [], fns := [⟨"look_at_ruler", 1, [], c_look_at_ruler⟩], blt := ["sum", "len", "range", "tuple"], cns := [("MOST_WORK", (.int 200000))], exs := [("Refused", ["word"])], exm := [], xfs := [], top := true }
theorem b_closes : BO g_closes (defBody (topS 9)) m_closes :=
 (BO.cons (SO.exp (EO.call (as := [.val (mVar 0)]) (c := c_look_at_ruler) (at_ (j := 0) rfl) rfl (gl (by decide +kernel)) (ArgsO.val (EO.var (i := 0) (vis (by decide +kernel))) ArgsO.nil)))
 (BO.cons (SO.ifs (TO.cmp cm_gt (QO.bin oq_mul (QO.blt bq_sum (gl (by decide +kernel)) (bltm (by decide +kernel)) (QAO.cons (PO.var (i := 0) (vis (by decide +kernel))) QAO.nil)).po (QO.blt bq_len' (gl (by decide +kernel)) (bltm (by decide +kernel)) (QAO.cons (PO.var (i := 0) (vis (by decide +kernel))) QAO.nil)).po).eo (QO.cn (gl (by decide +kernel)) (at_ (j := 0) rfl)).eo rfl)
 (BO.one (SO.raise (fs := ["word"]) (at_ (j := 0) rfl) (gl (by decide +kernel)) (AO.cons QO.str.eo AO.nil)))
 BO.nil)
 (BO.cons (SO.set (i := 1) (loc (by decide +kernel)) (EO.lst (AO.cons (EO.disp1 QO.int.eo QO.bl.eo).fz AO.nil)))
 (BO.cons (SO.for_ (IO.seq (EO.var (i := 0) (vis (by decide +kernel)))) (GO.name (i := 2) (loc (by decide +kernel)))
 (BO.one (SO.app (i := 1) (vis (by decide +kernel)) (EO.dc2 (own := [("place", 3), ("side", 4)]) (st := ["place", "side"]) (js := [3]) (js1 := [4]) ⟨by decide +kernel, by decide +kernel, by decide +kernel, by decide +kernel⟩ (IO.keys (PO.sub (PO.var (i := 1) (vis (by decide +kernel))) (QO.neg QO.int.po).po)) (GO.name (i := 3) (loc (by decide +kernel))) TsO.nil (IO.seq (EO.tup (AO.cons QO.int.eo (AO.cons (QO.neg QO.int.po).eo AO.nil)))) (GO.name (i := 4) (loc (by decide +kernel))) TsO.nil (QO.bin oq_addI (PO.var (i := 3) (vis (by decide +kernel))) (QO.bin oq_mul (PO.var (i := 4) (vis (by decide +kernel))) (PO.var (i := 2) (vis (by decide +kernel)))).po).eo QO.bl.eo).fz)))
 (BO.cons (SO.ifs (TO.cmp cm_notIn QO.int.eo (PO.sub (PO.var (i := 1) (vis (by decide +kernel))) (QO.neg QO.int.po).po).qo.eo rfl)
 (BO.one (SO.ret QO.non.eo))
 BO.nil)
 (BO.cons (SO.set (i := 5) (loc (by decide +kernel)) QO.int.eo)
 (BO.cons (SO.set (i := 6) (loc (by decide +kernel)) (EO.lst AO.nil))
 (BO.cons (SO.for_ (IO.range3 (gl (by decide +kernel)) (bltm (by decide +kernel)) (AO.cons (QO.bin oq_sub (QO.blt bq_len' (gl (by decide +kernel)) (bltm (by decide +kernel)) (QAO.cons (PO.var (i := 0) (vis (by decide +kernel))) QAO.nil)).po QO.int.po).eo (AO.cons (QO.neg QO.int.po).eo (AO.cons (QO.neg QO.int.po).eo AO.nil)))) (GO.name (i := 7) (loc (by decide +kernel)))
 (BO.cons (SO.set (i := 4) (loc (by decide +kernel)) (EO.ite (TO.cmp cm_in (QO.bin oq_sub (PO.var (i := 5) (vis (by decide +kernel))) (PO.sub (PO.var (i := 0) (vis (by decide +kernel))) (PO.var (i := 7) (vis (by decide +kernel))))).eo (PO.sub (PO.var (i := 1) (vis (by decide +kernel))) (PO.var (i := 7) (vis (by decide +kernel)))).qo.eo rfl) QO.int.eo (QO.neg QO.int.po).eo))
 (BO.cons (SO.app (i := 6) (vis (by decide +kernel)) (EO.var (i := 4) (vis (by decide +kernel))))
 (BO.one (SO.set (i := 5) (loc (by decide +kernel)) (QO.bin oq_sub (PO.var (i := 5) (vis (by decide +kernel))) (QO.bin oq_mul (PO.var (i := 4) (vis (by decide +kernel))) (PO.sub (PO.var (i := 0) (vis (by decide +kernel))) (PO.var (i := 7) (vis (by decide +kernel))))).po).eo)))))
 (BO.one (SO.ret (EO.blt ba_tuple (gl (by decide +kernel)) (bltm (by decide +kernel)) (AO.cons (EO.revL (EO.var (i := 6) (vis (by decide +kernel)))) AO.nil))))))))))))
theorem sc_closes : FnScope ["ruler", "rows", "link", "place", "side", "here", "found", "at"] ["ruler"] (defScope (topS 9)) := ⟨rfl, rfl, rfl, by decide +kernel, rfl, by decide +kernel, by decide +kernel⟩
def m_closes_in_plane : MS :=
 (sSeq (sExp (mCall c_look_at_ruler [.val (mVar 0)]))
 (sRet (mQ (q2 leD (q2 mulD (qC (.int 2)) (qB maxD (qCons (pVar 0) qNil))) (qB sumD (qCons (pVar 0) qNil))))))
def c_closes_in_plane : Con := runDef 1 1 [] m_closes_in_plane
abbrev g_closes_in_plane : Gam := { N := ["ruler"], sc := defScope (topS 10), st := ["ruler"], refs := [], fns := [⟨"look_at_ruler", 1, [], c_look_at_ruler⟩], blt := ["max", "sum"], cns := [], exs := [], exm := [], xfs := [], top := true }
theorem b_closes_in_plane : BO g_closes_in_plane (defBody (topS 10)) m_closes_in_plane :=
 (BO.cons (SO.exp (EO.call (as := [.val (mVar 0)]) (c := c_look_at_ruler) (at_ (j := 0) rfl) rfl (gl (by decide +kernel)) (ArgsO.val (EO.var (i := 0) (vis (by decide +kernel))) ArgsO.nil)))
 (BO.one (SO.ret (QO.cmp cm_le (QO.bin oq_mul QO.int.po (QO.blt bq_max (gl (by decide +kernel)) (bltm (by decide +kernel)) (QAO.cons (PO.var (i := 0) (vis (by decide +kernel))) QAO.nil)).po).po (QO.blt bq_sum (gl (by decide +kernel)) (bltm (by decide +kernel)) (QAO.cons (PO.var (i := 0) (vis (by decide +kernel))) QAO.nil)).po rfl).eo)))
theorem sc_closes_in_plane : FnScope ["ruler"] ["ruler"] (defScope (topS 10)) := ⟨rfl, rfl, rfl, by decide +kernel, rfl, by decide +kernel, by decide +kernel⟩
def m_reach_of : MS :=
 (sSeq (sExp (mCall c_look_at_ruler [.val (mVar 0)]))
 (sRet (mTup (mAll [(mQ (qB maxD (qCons (qC (.int 0)) (qCons (q2 subD (q2 mulD (qC (.int 2)) (qB maxD (qCons (pVar 0) qNil))) (qB sumD (qCons (pVar 0) qNil))) qNil)))), (mQ (qB sumD (qCons (pVar 0) qNil)))]))))
def c_reach_of : Con := runDef 1 1 [] m_reach_of
abbrev g_reach_of : Gam := { N := ["ruler"], sc := defScope (topS 11), st := ["ruler"], refs := [], fns := [⟨"look_at_ruler", 1, [], c_look_at_ruler⟩], blt := ["max", "sum"], cns := [], exs := [], exm := [], xfs := [], top := true }
theorem b_reach_of : BO g_reach_of (defBody (topS 11)) m_reach_of :=
 (BO.cons (SO.exp (EO.call (as := [.val (mVar 0)]) (c := c_look_at_ruler) (at_ (j := 0) rfl) rfl (gl (by decide +kernel)) (ArgsO.val (EO.var (i := 0) (vis (by decide +kernel))) ArgsO.nil)))
 (BO.one (SO.ret (EO.tup (AO.cons (QO.blt bq_max (gl (by decide +kernel)) (bltm (by decide +kernel)) (QAO.cons QO.int.po (QAO.cons (QO.bin oq_sub (QO.bin oq_mul QO.int.po (QO.blt bq_max (gl (by decide +kernel)) (bltm (by decide +kernel)) (QAO.cons (PO.var (i := 0) (vis (by decide +kernel))) QAO.nil)).po).po (QO.blt bq_sum (gl (by decide +kernel)) (bltm (by decide +kernel)) (QAO.cons (PO.var (i := 0) (vis (by decide +kernel))) QAO.nil)).po).po QAO.nil))).eo (AO.cons (QO.blt bq_sum (gl (by decide +kernel)) (bltm (by decide +kernel)) (QAO.cons (PO.var (i := 0) (vis (by decide +kernel))) QAO.nil)).eo AO.nil))))))
theorem sc_reach_of : FnScope ["ruler"] ["ruler"] (defScope (topS 11)) := ⟨rfl, rfl, rfl, by decide +kernel, rfl, by decide +kernel, by decide +kernel⟩
def m__law_draws : MS :=
 (sRet (mLst (mAll [(mFz (mB listD' (mAll [(mVar 0)]))), (mQ (qC (.int 0))), (mQ (qC (.int 0))), (mQ (qC (.int 1)))])))
def c__law_draws : Con := runDef 1 1 [] m__law_draws
abbrev g__law_draws : Gam := { N := ["script"], sc := defScope (topS 13), st := ["script"], refs := [], fns := [], blt := ["list"], cns := [], exs := [], exm := [], xfs := [], top := true }
theorem b__law_draws : BO g__law_draws (defBody (topS 13)) m__law_draws :=
 (BO.one (SO.ret (EO.lst (AO.cons (EO.blt ba_list (gl (by decide +kernel)) (bltm (by decide +kernel)) (AO.cons (EO.var (i := 0) (vis (by decide +kernel))) AO.nil)).fz (AO.cons QO.int.eo (AO.cons QO.int.eo (AO.cons QO.int.eo AO.nil)))))))
theorem sc__law_draws : FnScope ["script"] ["script"] (defScope (topS 13)) := ⟨rfl, rfl, rfl, by decide +kernel, rfl, by decide +kernel, by decide +kernel⟩
def m__law_draw : MS :=
 (sSeq (sIf (tAnd' (mT (m2 eqD (mQ (qF (q2 ixD (pVar 0) (qC (.int 2))))) (mQ (qC (.int 0))))) (mT (m2 ltD (mQ (qF (q2 ixD (pVar 0) (qC (.int 1))))) (mQ (qB len1 (qCons (q2 ixD (pVar 0) (qC (.int 0))) qNil))))))
 (sSeq (sAsg (tName 2) (mQ (qF (q2 ixD (q2 ixD (pVar 0) (qC (.int 0))) (q2 ixD (pVar 0) (qC (.int 1)))))))
 (sSeq (sAsg (tIx 0 (qC (.int 1))) (mQ (q2 addI (q2 ixD (pVar 0) (qC (.int 1))) (qC (.int 1)))))
 (sSeq (sIf (mT (m2 geD (mVar 2) (mQ (q2 powD (qC (.int 10)) (qC (.int 18))))))
 (sAsg (tIx 0 (qC (.int 2))) (mVar 2))
 sNext)
 (sAsg (tIx 0 (qC (.int 3))) (mQ (q2 modD (qB intD (qCons (q2 addI (q2 addI (q2 mulD (q2 ixD (pVar 0) (qC (.int 3))) (qC (.int 48271))) (pVar 2)) (qC (.int 13))) qNil)) (qC (.int 2147483647))))))))
 sNext)
 (sSeq (sIf (mT (m2 gtD (mQ (qF (q2 ixD (pVar 0) (qC (.int 2))))) (mQ (qC (.int 0)))))
 (sSeq (sAsg (tName 3) (mQ (q2 modD (qB intD (qCons (q2 ixD (pVar 0) (qC (.int 2))) qNil)) (pVar 1))))
 (sSeq (sAsg (tIx 0 (qC (.int 2))) (mQ (q2 fdivD (q2 ixD (pVar 0) (qC (.int 2))) (pVar 1))))
 (sRet (mMov 3))))
 sNext)
 (sSeq (sAsg (tIx 0 (qC (.int 3))) (mQ (q2 modD (qB intD (qCons (q2 addI (q2 mulD (q2 ixD (pVar 0) (qC (.int 3))) (qC (.int 69621))) (qC (.int 7))) qNil)) (qC (.int 2147483629)))))
 (sRet (mQ (q2 modD (qB intD (qCons (q2 fdivD (q2 ixD (pVar 0) (qC (.int 3))) (qC (.int 11))) qNil)) (pVar 1)))))))
def c__law_draw : Con := runDef 2 4 [0] m__law_draw
abbrev g__law_draw : Gam := { N := ["draws", "limit", "cell", "value"], sc := defScope (topS 14), st := ["draws", "limit", "cell", "value"], refs := [0], fns := [], blt := ["len", "int"], cns := [], exs := [], exm := [], xfs := [], top := true }
theorem b__law_draw : BO g__law_draw (defBody (topS 14)) m__law_draw :=
 (BO.cons (SO.ifs (TWO.and (TO.cmp cm_eq (PO.sub (PO.var (i := 0) (vis (by decide +kernel))) QO.int.po).qo.eo QO.int.eo rfl) (TWO.and1 (TO.cmp cm_lt (PO.sub (PO.var (i := 0) (vis (by decide +kernel))) QO.int.po).qo.eo (QO.blt bq_len' (gl (by decide +kernel)) (bltm (by decide +kernel)) (QAO.cons (PO.sub (PO.var (i := 0) (vis (by decide +kernel))) QO.int.po) QAO.nil)).eo rfl))).to
 (BO.cons (SO.set (i := 2) (loc (by decide +kernel)) (PO.sub (PO.sub (PO.var (i := 0) (vis (by decide +kernel))) QO.int.po) (PO.sub (PO.var (i := 0) (vis (by decide +kernel))) QO.int.po)).qo.eo)
 (BO.cons (SO.asg (GO.ix (i := 0) (vis (by decide +kernel)) QO.int.po) (QO.bin oq_addI (PO.sub (PO.var (i := 0) (vis (by decide +kernel))) QO.int.po) QO.int.po).eo)
 (BO.cons (SO.ifs (TO.cmp cm_ge (EO.var (i := 2) (vis (by decide +kernel))) (QO.bin oq_pow QO.int.po QO.int.po).eo rfl)
 (BO.one (SO.asg (GO.ix (i := 0) (vis (by decide +kernel)) QO.int.po) (EO.var (i := 2) (vis (by decide +kernel)))))
 BO.nil)
 (BO.one (SO.asg (GO.ix (i := 0) (vis (by decide +kernel)) QO.int.po) (QO.bin oq_mod (QO.blt bq_int (gl (by decide +kernel)) (bltm (by decide +kernel)) (QAO.cons (QO.bin oq_addI (QO.bin oq_addI (QO.bin oq_mul (PO.sub (PO.var (i := 0) (vis (by decide +kernel))) QO.int.po) QO.int.po).po (PO.var (i := 2) (vis (by decide +kernel)))).po QO.int.po).po QAO.nil)).po QO.int.po).eo)))))
 BO.nil)
 (BO.cons (SO.ifs (TO.cmp cm_gt (PO.sub (PO.var (i := 0) (vis (by decide +kernel))) QO.int.po).qo.eo QO.int.eo rfl)
 (BO.cons (SO.set (i := 3) (loc (by decide +kernel)) (QO.bin oq_mod (QO.blt bq_int (gl (by decide +kernel)) (bltm (by decide +kernel)) (QAO.cons (PO.sub (PO.var (i := 0) (vis (by decide +kernel))) QO.int.po) QAO.nil)).po (PO.var (i := 1) (vis (by decide +kernel)))).eo)
 (BO.cons (SO.asg (GO.ix (i := 0) (vis (by decide +kernel)) QO.int.po) (QO.bin oq_fdiv (PO.sub (PO.var (i := 0) (vis (by decide +kernel))) QO.int.po) (PO.var (i := 1) (vis (by decide +kernel)))).eo)
 (BO.one (SO.ret (EO.mov (i := 3) (vis (by decide +kernel)))))))
 BO.nil)
 (BO.cons (SO.asg (GO.ix (i := 0) (vis (by decide +kernel)) QO.int.po) (QO.bin oq_mod (QO.blt bq_int (gl (by decide +kernel)) (bltm (by decide +kernel)) (QAO.cons (QO.bin oq_addI (QO.bin oq_mul (PO.sub (PO.var (i := 0) (vis (by decide +kernel))) QO.int.po) QO.int.po).po QO.int.po).po QAO.nil)).po QO.int.po).eo)
 (BO.one (SO.ret (QO.bin oq_mod (QO.blt bq_int (gl (by decide +kernel)) (bltm (by decide +kernel)) (QAO.cons (QO.bin oq_fdiv (PO.sub (PO.var (i := 0) (vis (by decide +kernel))) QO.int.po) QO.int.po).po QAO.nil)).po (PO.var (i := 1) (vis (by decide +kernel)))).eo)))))
theorem sc__law_draw : FnScope ["draws", "limit", "cell", "value"] ["draws", "limit"] (defScope (topS 14)) := ⟨rfl, rfl, rfl, by decide +kernel, rfl, by decide +kernel, by decide +kernel⟩
def m__law_same_1 : MS :=
 (sSeq (sIf (tOr' (mT (mQ (q1 (isiQ .tuple) (pVar 1)))) (mT (mQ (q1 (isiQ .list) (pVar 1)))))
 (sSeq (sIf (tOr' (mT (m2 neD (mQ (q1 (isiQ .tuple) (pVar 1))) (mQ (q1 (isiQ .tuple) (pVar 0))))) (mT (m2 neD (mQ (q1 (isiQ .list) (pVar 1))) (mQ (q1 (isiQ .list) (pVar 0))))))
 (sRet (mQ (qC (.bl false))))
 sNext)
 (sSeq (sIf (mT (m2 neD (mQ (qB len1 (qCons (pVar 0) qNil))) (mQ (qB len1 (qCons (pVar 1) qNil)))))
 (sRet (mQ (qC (.bl false))))
 sNext)
 (sRet (m2 eqD (mB len1 (mAll [(mLc [2] (tName 2) (FS.iRng1 (mQ (qB len1 (qCons (pVar 1) qNil)))) (tNot' (mT (mCall c__law_same_0 [.val (mQ (qF (q2 ixD (pVar 0) (pVar 2)))), .val (mQ (qF (q2 ixD (pVar 1) (pVar 2))))]))) (mVar 2))])) (mQ (qC (.int 0)))))))
 sNext)
 (sSeq (sIf (mT (mQ (q1 (isiQ .str) (pVar 1))))
 (sRet (mAndV (mQ (q1 (isiQ .str) (pVar 0))) (mQ (q2 eqD (pVar 0) (pVar 1)))))
 sNext)
 (sSeq (sIf (mT (m2 isD (mVar 1) (mQ (qC .non))))
 (sRet (mQ (q2 isD (pVar 0) (qC .non))))
 sNext)
 (sSeq (sIf (tOr' (mT (mQ (q1 (isiQ .bool) (pVar 1)))) (mT (mQ (q1 (isiQ .bool) (pVar 0)))))
 (sRet (mAndV (mQ (q1 (isiQ .bool) (pVar 1))) (mAndV (mQ (q1 (isiQ .bool) (pVar 0))) (mQ (q2 eqD (pVar 0) (pVar 1))))))
 sNext)
 (sRet (mAndV (mQ (q1 (isiQ .int) (pVar 0))) (mAndV (mQ (q1 (isiQ .int) (pVar 1))) (mQ (q2 eqD (pVar 0) (pVar 1))))))))))
def c__law_same_1 : Con := runDef 2 3 [] m__law_same_1
abbrev g__law_same_1 : Gam := { N := ["actual", "expected", "k"], sc := defScope (topS 15), st := ["actual", "expected", "k"], refs := [], fns := [⟨"_law_same", 2, [], c__law_same_0⟩], blt := ["isinstance", "tuple", "list", "len", "range", "str", "bool", "int"], cns := [], exs := [], exm := [], xfs := [], top := true }
theorem b__law_same_1 : BO g__law_same_1 (defBody (topS 15)) m__law_same_1 :=
 (BO.cons (SO.ifs (TWO.or (TO.val (QO.isi (T := .tuple) (PO.var (i := 1) (vis (by decide +kernel))) (gl (by decide +kernel)) (bltm (by decide +kernel)) (gl (by decide +kernel)) (bltm (by decide +kernel))).eo fun _ _ => rfl) (TWO.or1 (TO.val (QO.isi (T := .list) (PO.var (i := 1) (vis (by decide +kernel))) (gl (by decide +kernel)) (bltm (by decide +kernel)) (gl (by decide +kernel)) (bltm (by decide +kernel))).eo fun _ _ => rfl))).to
 (BO.cons (SO.ifs (TWO.or (TO.cmp cm_ne (QO.isi (T := .tuple) (PO.var (i := 1) (vis (by decide +kernel))) (gl (by decide +kernel)) (bltm (by decide +kernel)) (gl (by decide +kernel)) (bltm (by decide +kernel))).eo (QO.isi (T := .tuple) (PO.var (i := 0) (vis (by decide +kernel))) (gl (by decide +kernel)) (bltm (by decide +kernel)) (gl (by decide +kernel)) (bltm (by decide +kernel))).eo rfl) (TWO.or1 (TO.cmp cm_ne (QO.isi (T := .list) (PO.var (i := 1) (vis (by decide +kernel))) (gl (by decide +kernel)) (bltm (by decide +kernel)) (gl (by decide +kernel)) (bltm (by decide +kernel))).eo (QO.isi (T := .list) (PO.var (i := 0) (vis (by decide +kernel))) (gl (by decide +kernel)) (bltm (by decide +kernel)) (gl (by decide +kernel)) (bltm (by decide +kernel))).eo rfl))).to
 (BO.one (SO.ret QO.bl.eo))
 BO.nil)
 (BO.cons (SO.ifs (TO.cmp cm_ne (QO.blt bq_len' (gl (by decide +kernel)) (bltm (by decide +kernel)) (QAO.cons (PO.var (i := 0) (vis (by decide +kernel))) QAO.nil)).eo (QO.blt bq_len' (gl (by decide +kernel)) (bltm (by decide +kernel)) (QAO.cons (PO.var (i := 1) (vis (by decide +kernel))) QAO.nil)).eo rfl)
 (BO.one (SO.ret QO.bl.eo))
 BO.nil)
 (BO.one (SO.ret (EO.cmp cm_eq (EO.blt bq_len'.a (gl (by decide +kernel)) (bltm (by decide +kernel)) (AO.cons (EO.lc (own := [("k", 2)]) (st := ["k"]) (js := [2]) ⟨by decide +kernel, by decide +kernel, by decide +kernel, by decide +kernel⟩ (IO.range1 (gl (by decide +kernel)) (bltm (by decide +kernel)) (QO.blt bq_len' (gl (by decide +kernel)) (bltm (by decide +kernel)) (QAO.cons (PO.var (i := 1) (vis (by decide +kernel))) QAO.nil)).eo) (GO.name (i := 2) (loc (by decide +kernel))) (TsO.one (TO.not (TO.val (EO.call (as := [.val (mQ (qF (q2 ixD (pVar 0) (pVar 2)))), .val (mQ (qF (q2 ixD (pVar 1) (pVar 2))))]) (c := c__law_same_0) (at_ (j := 0) rfl) rfl (gl (by decide +kernel)) (ArgsO.val (PO.sub (PO.var (i := 0) (vis (by decide +kernel))) (PO.var (i := 2) (vis (by decide +kernel)))).qo.eo (ArgsO.val (PO.sub (PO.var (i := 1) (vis (by decide +kernel))) (PO.var (i := 2) (vis (by decide +kernel)))).qo.eo ArgsO.nil))) fun _ _ => rfl))) (EO.var (i := 2) (vis (by decide +kernel)))) AO.nil)) QO.int.eo rfl)))))
 BO.nil)
 (BO.cons (SO.ifs (TO.val (QO.isi (T := .str) (PO.var (i := 1) (vis (by decide +kernel))) (gl (by decide +kernel)) (bltm (by decide +kernel)) (gl (by decide +kernel)) (bltm (by decide +kernel))).eo fun _ _ => rfl)
 (BO.one (SO.ret (EO.and (QO.isi (T := .str) (PO.var (i := 0) (vis (by decide +kernel))) (gl (by decide +kernel)) (bltm (by decide +kernel)) (gl (by decide +kernel)) (bltm (by decide +kernel))).eo (EO.one (QO.cmp cm_eq (PO.var (i := 0) (vis (by decide +kernel))) (PO.var (i := 1) (vis (by decide +kernel))) rfl).eo))))
 BO.nil)
 (BO.cons (SO.ifs (TO.cmp cm_is (EO.var (i := 1) (vis (by decide +kernel))) QO.non.eo rfl)
 (BO.one (SO.ret (QO.cmp cm_is (PO.var (i := 0) (vis (by decide +kernel))) QO.non.po rfl).eo))
 BO.nil)
 (BO.cons (SO.ifs (TWO.or (TO.val (QO.isi (T := .bool) (PO.var (i := 1) (vis (by decide +kernel))) (gl (by decide +kernel)) (bltm (by decide +kernel)) (gl (by decide +kernel)) (bltm (by decide +kernel))).eo fun _ _ => rfl) (TWO.or1 (TO.val (QO.isi (T := .bool) (PO.var (i := 0) (vis (by decide +kernel))) (gl (by decide +kernel)) (bltm (by decide +kernel)) (gl (by decide +kernel)) (bltm (by decide +kernel))).eo fun _ _ => rfl))).to
 (BO.one (SO.ret (EO.and (QO.isi (T := .bool) (PO.var (i := 1) (vis (by decide +kernel))) (gl (by decide +kernel)) (bltm (by decide +kernel)) (gl (by decide +kernel)) (bltm (by decide +kernel))).eo (EO.and (QO.isi (T := .bool) (PO.var (i := 0) (vis (by decide +kernel))) (gl (by decide +kernel)) (bltm (by decide +kernel)) (gl (by decide +kernel)) (bltm (by decide +kernel))).eo (EO.one (QO.cmp cm_eq (PO.var (i := 0) (vis (by decide +kernel))) (PO.var (i := 1) (vis (by decide +kernel))) rfl).eo)))))
 BO.nil)
 (BO.one (SO.ret (EO.and (QO.isi (T := .int) (PO.var (i := 0) (vis (by decide +kernel))) (gl (by decide +kernel)) (bltm (by decide +kernel)) (gl (by decide +kernel)) (bltm (by decide +kernel))).eo (EO.and (QO.isi (T := .int) (PO.var (i := 1) (vis (by decide +kernel))) (gl (by decide +kernel)) (bltm (by decide +kernel)) (gl (by decide +kernel)) (bltm (by decide +kernel))).eo (EO.one (QO.cmp cm_eq (PO.var (i := 0) (vis (by decide +kernel))) (PO.var (i := 1) (vis (by decide +kernel))) rfl).eo)))))))))
theorem sc__law_same_1 : FnScope ["actual", "expected", "k"] ["actual", "expected"] (defScope (topS 15)) := ⟨rfl, rfl, rfl, by decide +kernel, rfl, by decide +kernel, by decide +kernel⟩
def m__law_refused : MS :=
 (sSeq (sTryF exmT xfsT "Refused" "word" 1
 (sExp (mCall c_closes [.val (mVar 0)])))
 (sRet (mQ (qC .non))))
def c__law_refused : Con := runDef 1 2 [] m__law_refused
abbrev g__law_refused : Gam := { N := ["ruler", "e"], sc := defScope (topS 16), st := ["ruler", "e"], refs := [], fns := [⟨"closes", 1, [], c_closes⟩], blt := [], cns := [], exs := [], exm := exmT, xfs := xfsT, top := true }
theorem b__law_refused : BO g__law_refused (defBody (topS 16)) m__law_refused :=
 (BO.cons (SO.tryF (i := 1) rfl (vis (by decide +kernel)) (by decide +kernel) (by decide +kernel) (gl (by decide +kernel)) (by decide +kernel)
 (BO.one (SO.exp (EO.call (as := [.val (mVar 0)]) (c := c_closes) (at_ (j := 0) rfl) rfl (gl (by decide +kernel)) (ArgsO.val (EO.var (i := 0) (vis (by decide +kernel))) ArgsO.nil)))))
 (BO.one (SO.ret QO.non.eo)))
theorem sc__law_refused : FnScope ["ruler", "e"] ["ruler"] (defScope (topS 16)) := ⟨rfl, rfl, rfl, by decide +kernel, rfl, by decide +kernel, by decide +kernel⟩
def m_law : MS :=
 (sSeq (sAsg (tName 1) (mCall c__law_draws [.val (mVar 0)]))
 (sSeq (sFor (tName 2) (FS.iRng1 (mQ (qC (.int 5))))
 (sSeq (sAsg (tName 3) (mB tupleD (mAll [(mLc [4] (tName 4) (FS.iRng1 (m2 addI (mQ (qC (.int 1))) (mCall c__law_draw [.ref 1, .val (mQ (qC (.int 9)))]))) tTrue (m2 addI (mQ (qC (.int 1))) (mCall c__law_draw [.ref 1, .val (m2 ixD (mLst (mAll [(mQ (qC (.int 4))), (mQ (qC (.int 12))), (mQ (qC (.int 30)))])) (mCall c__law_draw [.ref 1, .val (mQ (qC (.int 3)))]))])))])))
 (sSeq (sAsg (tName 5) (mLst (mAll [(mQ (qC (.int 0)))])))
 (sSeq (sFor (tName 6) (iSeq (mVar 3))
 (sAsg (tName 5) (m1 sortSetD (m2 addD (mLc [7] (tName 7) (iSeq (mVar 5)) tTrue (mQ (q2 addI (pVar 7) (pVar 6)))) (mLc [7] (tName 7) (iSeq (mVar 5)) tTrue (mQ (q2 subD (pVar 7) (pVar 6))))))))
 (sSeq (sAsg (tName 8) (mCall c_closes [.val (mVar 3)]))
 (sSeq (sIf (mT (m2 neD (mQ (q2 isNotD (pVar 8) (qC .non))) (mQ (q2 inD (qC (.int 0)) (pVar 5)))))
 (sRet (mQ (qC (.bl false))))
 sNext)
 (sSeq (sIf (tAnd' (mT (m2 isNotD (mVar 8) (mQ (qC .non)))) (tOr' (mT (m2 isNotD (mCall c_is_folds [.val (mVar 3), .val (mVar 8)]) (mQ (qC (.bl true))))) (mT (m2 neD (mB sumD (mAll [(mLc [9, 6] (tTup' [(tName 9), (tName 6)]) (iArgs zipD (mAll [(mVar 8), (mVar 3)])) tTrue (mQ (q2 mulD (pVar 9) (pVar 6))))])) (mQ (qC (.int 0)))))))
 (sRet (mQ (qC (.bl false))))
 sNext)
 (sSeq (sAsg (tName 10) (mQ (q2 subD (qB sumD (qCons (pVar 3) qNil)) (qB maxD (qCons (pVar 3) qNil)))))
 (sSeq (sIf (tOr' (tNot' (mT (mCall c__law_same_1 [.val (mCall c_closes_in_plane [.val (mVar 3)]), .val (mQ (q2 leD (qB maxD (qCons (pVar 3) qNil)) (pVar 10)))]))) (tAnd' (mT (m2 isNotD (mVar 8) (mQ (qC .non)))) (mT (m2 isNotD (mCall c_closes_in_plane [.val (mVar 3)]) (mQ (qC (.bl true)))))))
 (sRet (mQ (qC (.bl false))))
 sNext)
 (sSeq (sAsg (tTup' [(tName 11), (tName 12)]) (mCall c_reach_of [.val (mVar 3)]))
 (sSeq (sIf (tOr' (mT (m2 neD (mVar 11) (mQ (qB maxD (qCons (qC (.int 0)) (qCons (q2 subD (qB maxD (qCons (pVar 3) qNil)) (pVar 10)) qNil)))))) (tOr' (mT (m2 neD (mVar 12) (mQ (qB sumD (qCons (pVar 3) qNil))))) (tOr' (mT (m2 neD (mQ (qB maxD (qCons (pVar 5) qNil))) (mVar 12))) (tOr' (mT (m2 gtD (mB len1 (mAll [(mLc [7] (tName 7) (iSeq (mVar 5)) (mT (m2 ltD (mQ (qB absD (qCons (pVar 7) qNil))) (mVar 11))) (mVar 7))])) (mQ (qC (.int 0))))) (mT (m2 neD (mQ (q2 eqD (pVar 11) (qC (.int 0)))) (mCall c_closes_in_plane [.val (mVar 3)])))))))
 (sRet (mQ (qC (.bl false))))
 sNext)
 (sSeq (sIf (tOr' (tNot' (mT (mCall c__law_same_1 [.val (mCall c_closes_in_plane [.val (m2 addD (mVar 3) (mTup (mAll [(mVar 12)])))]), .val (mQ (qC (.bl true)))]))) (mT (m2 isD (mCall c_closes [.val (m2 addD (mVar 3) (mVar 3))]) (mQ (qC .non)))))
 (sRet (mQ (qC (.bl false))))
 sNext)
 (sSeq (sAsg (tName 13) (mIf (mT (m2 gtD (mVar 11) (mQ (qC (.int 0))))) (m2 addD (mVar 3) (mTup (mAll [(m2 addI (mVar 11) (mCall c__law_draw [.ref 1, .val (mQ (q2 addI (q2 subD (pVar 12) (pVar 11)) (qC (.int 1))))]))]))) (mVar 3)))
 (sSeq (sIf (tAnd' (mT (m2 isNotD (mCall c_closes_in_plane [.val (mVar 13)]) (mQ (qC (.bl true))))) (mT (m2 gtD (mVar 11) (mQ (qC (.int 0))))))
 (sRet (mQ (qC (.bl false))))
 sNext)
 (sFor (tName 14) (iSeq (mLst (mAll [(mTup (mAll [])), (mFz (mLst (mAll [(mQ (qC (.int 1)))]))), (mTup (mAll [(mQ (qC (.int 0)))])), (mTup (mAll [(mQ (qC (.str "x")))])), (mTup (mAll [(mQ (qC (.bl true)))])), (mQ (qC .non))])))
 (sIf (mT (m2 neD (mCall c__law_refused [.val (mVar 14)]) (mQ (qC (.str "ruler")))))
 (sRet (mQ (qC (.bl false))))
 sNext))))))))))))))))
 (sRet (mQ (qC (.bl true))))))
def c_law : Con := runDef 1 15 [] m_law
abbrev g_law : Gam := { N := ["script", "draws", "turn", "ruler", "k", "ends", "link", "one", "told", "side", "rest", "low", "high", "wider", "bad"], sc := defScope (topS 17), st := ["script", "draws", "turn", "ruler", "k", "ends", "link", "one", "told", "side", "rest", "low", "high", "wider", "bad"], refs := [], fns := [⟨"_law_draws", 1, [], c__law_draws⟩, ⟨"_law_draw", 2, [0], c__law_draw⟩, ⟨"closes", 1, [], c_closes⟩, ⟨"is_folds", 2, [], c_is_folds⟩, ⟨"closes_in_plane", 1, [], c_closes_in_plane⟩, ⟨"_law_same", 2, [], c__law_same_1⟩, ⟨"reach_of", 1, [], c_reach_of⟩, ⟨"_law_refused", 1, [], c__law_refused⟩], blt := ["range", "tuple", "sorted", "set", "zip", "sum", "max", "abs", "len"], cns := [], exs := [], exm := [], xfs := [], top := true }
theorem b_law : BO g_law (defBody (topS 17)) m_law :=
 (BO.cons (SO.set (i := 1) (loc (by decide +kernel)) (EO.call (as := [.val (mVar 0)]) (c := c__law_draws) (at_ (j := 0) rfl) rfl (gl (by decide +kernel)) (ArgsO.val (EO.var (i := 0) (vis (by decide +kernel))) ArgsO.nil)))
 (BO.cons (SO.for_ (IO.range1 (gl (by decide +kernel)) (bltm (by decide +kernel)) QO.int.eo) (GO.name (i := 2) (loc (by decide +kernel)))
 (BO.cons (SO.set (i := 3) (loc (by decide +kernel)) (EO.blt ba_tuple (gl (by decide +kernel)) (bltm (by decide +kernel)) (AO.cons (EO.lc (own := [("k", 4)]) (st := ["k"]) (js := [4]) ⟨by decide +kernel, by decide +kernel, by decide +kernel, by decide +kernel⟩ (IO.range1 (gl (by decide +kernel)) (bltm (by decide +kernel)) (EO.bin oq_addI.oa QO.int.eo (EO.call (as := [.ref 1, .val (mQ (qC (.int 9)))]) (c := c__law_draw) (at_ (j := 1) rfl) rfl (gl (by decide +kernel)) (ArgsO.ref (i := 1) (vis (by decide +kernel)) (ArgsO.val QO.int.eo ArgsO.nil))))) (GO.name (i := 4) (loc (by decide +kernel))) TsO.nil (EO.bin oq_addI.oa QO.int.eo (EO.call (as := [.ref 1, .val (m2 ixD (mLst (mAll [(mQ (qC (.int 4))), (mQ (qC (.int 12))), (mQ (qC (.int 30)))])) (mCall c__law_draw [.ref 1, .val (mQ (qC (.int 3)))]))]) (c := c__law_draw) (at_ (j := 1) rfl) rfl (gl (by decide +kernel)) (ArgsO.ref (i := 1) (vis (by decide +kernel)) (ArgsO.val (EO.sub (EO.lst (AO.cons QO.int.eo (AO.cons QO.int.eo (AO.cons QO.int.eo AO.nil)))) (EO.call (as := [.ref 1, .val (mQ (qC (.int 3)))]) (c := c__law_draw) (at_ (j := 1) rfl) rfl (gl (by decide +kernel)) (ArgsO.ref (i := 1) (vis (by decide +kernel)) (ArgsO.val QO.int.eo ArgsO.nil)))) ArgsO.nil))))) AO.nil)))
 (BO.cons (SO.set (i := 5) (loc (by decide +kernel)) (EO.lst (AO.cons QO.int.eo AO.nil)))
 (BO.cons (SO.for_ (IO.seq (EO.var (i := 3) (vis (by decide +kernel)))) (GO.name (i := 6) (loc (by decide +kernel)))
 (BO.one (SO.set (i := 5) (loc (by decide +kernel)) (EO.sortSet (gl (by decide +kernel)) (bltm (by decide +kernel)) (gl (by decide +kernel)) (bltm (by decide +kernel)) (EO.bin oa_add (EO.lc (own := [("one", 7)]) (st := ["one"]) (js := [7]) ⟨by decide +kernel, by decide +kernel, by decide +kernel, by decide +kernel⟩ (IO.seq (EO.var (i := 5) (vis (by decide +kernel)))) (GO.name (i := 7) (loc (by decide +kernel))) TsO.nil (QO.bin oq_addI (PO.var (i := 7) (vis (by decide +kernel))) (PO.var (i := 6) (vis (by decide +kernel)))).eo) (EO.lc (own := [("one", 7)]) (st := ["one"]) (js := [7]) ⟨by decide +kernel, by decide +kernel, by decide +kernel, by decide +kernel⟩ (IO.seq (EO.var (i := 5) (vis (by decide +kernel)))) (GO.name (i := 7) (loc (by decide +kernel))) TsO.nil (QO.bin oq_sub (PO.var (i := 7) (vis (by decide +kernel))) (PO.var (i := 6) (vis (by decide +kernel)))).eo))))))
 (BO.cons (SO.set (i := 8) (loc (by decide +kernel)) (EO.call (as := [.val (mVar 3)]) (c := c_closes) (at_ (j := 2) rfl) rfl (gl (by decide +kernel)) (ArgsO.val (EO.var (i := 3) (vis (by decide +kernel))) ArgsO.nil)))
 (BO.cons (SO.ifs (TO.cmp cm_ne (QO.cmp cm_isNot (PO.var (i := 8) (vis (by decide +kernel))) QO.non.po rfl).eo (QO.cmp cm_in QO.int.po (PO.var (i := 5) (vis (by decide +kernel))) rfl).eo rfl)
 (BO.one (SO.ret QO.bl.eo))
 BO.nil)
 (BO.cons (SO.ifs (TWO.and (TO.cmp cm_isNot (EO.var (i := 8) (vis (by decide +kernel))) QO.non.eo rfl) (TWO.and1 (TWO.or (TO.cmp cm_isNot (EO.call (as := [.val (mVar 3), .val (mVar 8)]) (c := c_is_folds) (at_ (j := 3) rfl) rfl (gl (by decide +kernel)) (ArgsO.val (EO.var (i := 3) (vis (by decide +kernel))) (ArgsO.val (EO.var (i := 8) (vis (by decide +kernel))) ArgsO.nil))) QO.bl.eo rfl) (TWO.or1 (TO.cmp cm_ne (EO.blt bq_sum.a (gl (by decide +kernel)) (bltm (by decide +kernel)) (AO.cons (EO.lc (own := [("side", 9), ("link", 6)]) (st := ["side", "link"]) (js := [9, 6]) ⟨by decide +kernel, by decide +kernel, by decide +kernel, by decide +kernel⟩ (IO.zip (gl (by decide +kernel)) (bltm (by decide +kernel)) (AO.cons (EO.var (i := 8) (vis (by decide +kernel))) (AO.cons (EO.var (i := 3) (vis (by decide +kernel))) AO.nil))) (GO.tup (GsO.cons (GO.name (i := 9) (loc (by decide +kernel))) (GsO.cons (GO.name (i := 6) (loc (by decide +kernel))) GsO.nil))) TsO.nil (QO.bin oq_mul (PO.var (i := 9) (vis (by decide +kernel))) (PO.var (i := 6) (vis (by decide +kernel)))).eo) AO.nil)) QO.int.eo rfl))).to)).to
 (BO.one (SO.ret QO.bl.eo))
 BO.nil)
 (BO.cons (SO.set (i := 10) (loc (by decide +kernel)) (QO.bin oq_sub (QO.blt bq_sum (gl (by decide +kernel)) (bltm (by decide +kernel)) (QAO.cons (PO.var (i := 3) (vis (by decide +kernel))) QAO.nil)).po (QO.blt bq_max (gl (by decide +kernel)) (bltm (by decide +kernel)) (QAO.cons (PO.var (i := 3) (vis (by decide +kernel))) QAO.nil)).po).eo)
 (BO.cons (SO.ifs (TWO.or (TO.not (TO.val (EO.call (as := [.val (mCall c_closes_in_plane [.val (mVar 3)]), .val (mQ (q2 leD (qB maxD (qCons (pVar 3) qNil)) (pVar 10)))]) (c := c__law_same_1) (at_ (j := 5) rfl) rfl (gl (by decide +kernel)) (ArgsO.val (EO.call (as := [.val (mVar 3)]) (c := c_closes_in_plane) (at_ (j := 4) rfl) rfl (gl (by decide +kernel)) (ArgsO.val (EO.var (i := 3) (vis (by decide +kernel))) ArgsO.nil)) (ArgsO.val (QO.cmp cm_le (QO.blt bq_max (gl (by decide +kernel)) (bltm (by decide +kernel)) (QAO.cons (PO.var (i := 3) (vis (by decide +kernel))) QAO.nil)).po (PO.var (i := 10) (vis (by decide +kernel))) rfl).eo ArgsO.nil))) fun _ _ => rfl)) (TWO.or1 (TWO.and (TO.cmp cm_isNot (EO.var (i := 8) (vis (by decide +kernel))) QO.non.eo rfl) (TWO.and1 (TO.cmp cm_isNot (EO.call (as := [.val (mVar 3)]) (c := c_closes_in_plane) (at_ (j := 4) rfl) rfl (gl (by decide +kernel)) (ArgsO.val (EO.var (i := 3) (vis (by decide +kernel))) ArgsO.nil)) QO.bl.eo rfl))).to)).to
 (BO.one (SO.ret QO.bl.eo))
 BO.nil)
 (BO.cons (SO.asg (GO.tup (GsO.cons (GO.name (i := 11) (loc (by decide +kernel))) (GsO.cons (GO.name (i := 12) (loc (by decide +kernel))) GsO.nil))) (EO.call (as := [.val (mVar 3)]) (c := c_reach_of) (at_ (j := 6) rfl) rfl (gl (by decide +kernel)) (ArgsO.val (EO.var (i := 3) (vis (by decide +kernel))) ArgsO.nil)))
 (BO.cons (SO.ifs (TWO.or (TO.cmp cm_ne (EO.var (i := 11) (vis (by decide +kernel))) (QO.blt bq_max (gl (by decide +kernel)) (bltm (by decide +kernel)) (QAO.cons QO.int.po (QAO.cons (QO.bin oq_sub (QO.blt bq_max (gl (by decide +kernel)) (bltm (by decide +kernel)) (QAO.cons (PO.var (i := 3) (vis (by decide +kernel))) QAO.nil)).po (PO.var (i := 10) (vis (by decide +kernel)))).po QAO.nil))).eo rfl) (TWO.or (TO.cmp cm_ne (EO.var (i := 12) (vis (by decide +kernel))) (QO.blt bq_sum (gl (by decide +kernel)) (bltm (by decide +kernel)) (QAO.cons (PO.var (i := 3) (vis (by decide +kernel))) QAO.nil)).eo rfl) (TWO.or (TO.cmp cm_ne (QO.blt bq_max (gl (by decide +kernel)) (bltm (by decide +kernel)) (QAO.cons (PO.var (i := 5) (vis (by decide +kernel))) QAO.nil)).eo (EO.var (i := 12) (vis (by decide +kernel))) rfl) (TWO.or (TO.cmp cm_gt (EO.blt bq_len'.a (gl (by decide +kernel)) (bltm (by decide +kernel)) (AO.cons (EO.lc (own := [("one", 7)]) (st := ["one"]) (js := [7]) ⟨by decide +kernel, by decide +kernel, by decide +kernel, by decide +kernel⟩ (IO.seq (EO.var (i := 5) (vis (by decide +kernel)))) (GO.name (i := 7) (loc (by decide +kernel))) (TsO.one (TO.cmp cm_lt (QO.blt bq_abs (gl (by decide +kernel)) (bltm (by decide +kernel)) (QAO.cons (PO.var (i := 7) (vis (by decide +kernel))) QAO.nil)).eo (EO.var (i := 11) (vis (by decide +kernel))) rfl)) (EO.var (i := 7) (vis (by decide +kernel)))) AO.nil)) QO.int.eo rfl) (TWO.or1 (TO.cmp cm_ne (QO.cmp cm_eq (PO.var (i := 11) (vis (by decide +kernel))) QO.int.po rfl).eo (EO.call (as := [.val (mVar 3)]) (c := c_closes_in_plane) (at_ (j := 4) rfl) rfl (gl (by decide +kernel)) (ArgsO.val (EO.var (i := 3) (vis (by decide +kernel))) ArgsO.nil)) rfl)))))).to
 (BO.one (SO.ret QO.bl.eo))
 BO.nil)
 (BO.cons (SO.ifs (TWO.or (TO.not (TO.val (EO.call (as := [.val (mCall c_closes_in_plane [.val (m2 addD (mVar 3) (mTup (mAll [(mVar 12)])))]), .val (mQ (qC (.bl true)))]) (c := c__law_same_1) (at_ (j := 5) rfl) rfl (gl (by decide +kernel)) (ArgsO.val (EO.call (as := [.val (m2 addD (mVar 3) (mTup (mAll [(mVar 12)])))]) (c := c_closes_in_plane) (at_ (j := 4) rfl) rfl (gl (by decide +kernel)) (ArgsO.val (EO.bin oa_add (EO.var (i := 3) (vis (by decide +kernel))) (EO.tup (AO.cons (EO.var (i := 12) (vis (by decide +kernel))) AO.nil))) ArgsO.nil)) (ArgsO.val QO.bl.eo ArgsO.nil))) fun _ _ => rfl)) (TWO.or1 (TO.cmp cm_is (EO.call (as := [.val (m2 addD (mVar 3) (mVar 3))]) (c := c_closes) (at_ (j := 2) rfl) rfl (gl (by decide +kernel)) (ArgsO.val (EO.bin oa_add (EO.var (i := 3) (vis (by decide +kernel))) (EO.var (i := 3) (vis (by decide +kernel)))) ArgsO.nil)) QO.non.eo rfl))).to
 (BO.one (SO.ret QO.bl.eo))
 BO.nil)
 (BO.cons (SO.set (i := 13) (loc (by decide +kernel)) (EO.ite (TO.cmp cm_gt (EO.var (i := 11) (vis (by decide +kernel))) QO.int.eo rfl) (EO.bin oa_add (EO.var (i := 3) (vis (by decide +kernel))) (EO.tup (AO.cons (EO.bin oq_addI.oa (EO.var (i := 11) (vis (by decide +kernel))) (EO.call (as := [.ref 1, .val (mQ (q2 addI (q2 subD (pVar 12) (pVar 11)) (qC (.int 1))))]) (c := c__law_draw) (at_ (j := 1) rfl) rfl (gl (by decide +kernel)) (ArgsO.ref (i := 1) (vis (by decide +kernel)) (ArgsO.val (QO.bin oq_addI (QO.bin oq_sub (PO.var (i := 12) (vis (by decide +kernel))) (PO.var (i := 11) (vis (by decide +kernel)))).po QO.int.po).eo ArgsO.nil)))) AO.nil))) (EO.var (i := 3) (vis (by decide +kernel)))))
 (BO.cons (SO.ifs (TWO.and (TO.cmp cm_isNot (EO.call (as := [.val (mVar 13)]) (c := c_closes_in_plane) (at_ (j := 4) rfl) rfl (gl (by decide +kernel)) (ArgsO.val (EO.var (i := 13) (vis (by decide +kernel))) ArgsO.nil)) QO.bl.eo rfl) (TWO.and1 (TO.cmp cm_gt (EO.var (i := 11) (vis (by decide +kernel))) QO.int.eo rfl))).to
 (BO.one (SO.ret QO.bl.eo))
 BO.nil)
 (BO.one (SO.for_ (IO.seq (EO.lst (AO.cons (EO.tup AO.nil) (AO.cons (EO.lst (AO.cons QO.int.eo AO.nil)).fz (AO.cons (EO.tup (AO.cons QO.int.eo AO.nil)) (AO.cons (EO.tup (AO.cons QO.str.eo AO.nil)) (AO.cons (EO.tup (AO.cons QO.bl.eo AO.nil)) (AO.cons QO.non.eo AO.nil)))))))) (GO.name (i := 14) (loc (by decide +kernel)))
 (BO.one (SO.ifs (TO.cmp cm_ne (EO.call (as := [.val (mVar 14)]) (c := c__law_refused) (at_ (j := 7) rfl) rfl (gl (by decide +kernel)) (ArgsO.val (EO.var (i := 14) (vis (by decide +kernel))) ArgsO.nil)) QO.str.eo rfl)
 (BO.one (SO.ret QO.bl.eo))
 BO.nil))))))))))))))))))
 (BO.one (SO.ret QO.bl.eo))))
theorem sc_law : FnScope ["script", "draws", "turn", "ruler", "k", "ends", "link", "one", "told", "side", "rest", "low", "high", "wider", "bad"] ["script"] (defScope (topS 17)) := ⟨rfl, rfl, rfl, by decide +kernel, rfl, by decide +kernel, by decide +kernel⟩
end K79

/-! K79h: what the top of k79 leaves, the defs' promises joined. Printed by gen.py, head.py. -/
namespace K79
open PySem PySem.Spec PyProof.Rows L2 FS
def clsS (i j : Nat) : Stmt := match topS i with | .ClassDef _ _ _ body _ _ _ _ _ _ _ => body.getD j (.Pass ⟨0, 0, 0, 0⟩) | _ => .Pass ⟨0, 0, 0, 0⟩
/-- what the written part says -/
structure Tx (P : Program) (w : World) (K : PySem.W.Frag) (mg : Str → Option Value) : Prop where
  d_is_whole : DefT K mg "is_whole" (topS 4) ["value"]
  d_look_at_ruler : DefT K mg "look_at_ruler" (topS 7) ["value"]
  d_is_folds : DefT K mg "is_folds" (topS 8) ["ruler", "value"]
  d_closes : DefT K mg "closes" (topS 9) ["ruler"]
  d_closes_in_plane : DefT K mg "closes_in_plane" (topS 10) ["ruler"]
  d_reach_of : DefT K mg "reach_of" (topS 11) ["ruler"]
  d__law_draws : DefT K mg "_law_draws" (topS 13) ["script"]
  d__law_draw : DefT K mg "_law_draw" (topS 14) ["draws", "limit"]
  d__law_same : DefT K mg "_law_same" (topS 15) ["actual", "expected"]
  d__law_refused : DefT K mg "_law_refused" (topS 16) ["ruler"]
  d_law : DefT K mg "law" (topS 17) ["script"]
  z_abs : mg "abs" = none
  z_all : mg "all" = none
  z_bool : mg "bool" = none
  z_int : mg "int" = none
  z_isinstance : mg "isinstance" = none
  z_len : mg "len" = none
  z_list : mg "list" = none
  z_max : mg "max" = none
  z_range : mg "range" = none
  z_set : mg "set" = none
  z_sorted : mg "sorted" = none
  z_str : mg "str" = none
  z_sum : mg "sum" = none
  z_tuple : mg "tuple" = none
  z_zip : mg "zip" = none
  n_MOST_WORK : ∃ u v, mg "MOST_WORK" = some u ∧ RelV v u ∧ ∀ Z H, Rep K mg Z H (.int 200000) v []
  e_Refused : ∀ base, ExcAt P w K mg base 1 "Refused" ["word"]
  x_Refused_word : ∃ C, mg "Refused" = some (.ref C) ∧ XfC K C ∧ PySem.W.findIn K (.ref C) "word" = some none
  m_Refused_Refused : ∃ C' C, mg "Refused" = some (.ref C') ∧ mg "Refused" = some (.ref C) ∧ PySem.W.exmOne K (.ref C') (.ref C) = some true
section
variable {P : Program} {w : World} {K : PySem.W.Frag} {mg : Str → Option Value} {base : Heap}
theorem o_is_whole (T : Tx P w K mg) {f : Addr} {fd : FuncData} (F : Fun K "is_whole" "is_whole" (topS 4) f fd) : FnOk P w K mg base (L2.CX P w) 2 f fd ["value"] (spOf K mg 1 [] c_is_whole) :=
  def_ok (Γ := g_is_whole) (k := 1) F sc_is_whole rfl (by decide)
   (fun p hp => nomatch hp)
   (fun p hp => by
    rcases List.mem_cons.mp hp with rfl | hp
    · exact T.z_isinstance
    rcases List.mem_cons.mp hp with rfl | hp
    · exact T.z_int
    rcases List.mem_cons.mp hp with rfl | hp
    · exact T.z_bool
    cases hp)
   (fun p hp => nomatch hp)
   (fun p hp => nomatch hp)
   (fun p hp => nomatch hp)
   (fun p hp => nomatch hp)
   (by decide) (by decide) b_is_whole
theorem k_is_whole (T : Tx P w K mg) : Known P w K mg base 2 ⟨"is_whole", 1, [], c_is_whole⟩ := T.d_is_whole.known fun f fd F => o_is_whole T F
theorem o_look_at_ruler (T : Tx P w K mg) {f : Addr} {fd : FuncData} (F : Fun K "look_at_ruler" "look_at_ruler" (topS 7) f fd) : FnOk P w K mg base (L2.CX P w) 3 f fd ["value"] (spOf K mg 1 [] c_look_at_ruler) :=
  def_ok (Γ := g_look_at_ruler) (k := 2) F sc_look_at_ruler rfl (by decide)
   (fun p hp => by
    rcases List.mem_cons.mp hp with rfl | hp
    · exact (k_is_whole T).mono (by decide)
    cases hp)
   (fun p hp => by
    rcases List.mem_cons.mp hp with rfl | hp
    · exact T.z_isinstance
    rcases List.mem_cons.mp hp with rfl | hp
    · exact T.z_tuple
    rcases List.mem_cons.mp hp with rfl | hp
    · exact T.z_len
    rcases List.mem_cons.mp hp with rfl | hp
    · exact T.z_all
    cases hp)
   (fun p hp => nomatch hp)
   (fun p hp => by
    rcases List.mem_cons.mp hp with rfl | hp
    · exact ⟨1, by decide, T.e_Refused base⟩
    cases hp)
   (fun p hp => nomatch hp)
   (fun p hp => nomatch hp)
   (by decide) (by decide) b_look_at_ruler
theorem k_look_at_ruler (T : Tx P w K mg) : Known P w K mg base 3 ⟨"look_at_ruler", 1, [], c_look_at_ruler⟩ := T.d_look_at_ruler.known fun f fd F => o_look_at_ruler T F
theorem o_is_folds (T : Tx P w K mg) {f : Addr} {fd : FuncData} (F : Fun K "is_folds" "is_folds" (topS 8) f fd) : FnOk P w K mg base (L2.CX P w) 3 f fd ["ruler", "value"] (spOf K mg 2 [] c_is_folds) :=
  def_ok (Γ := g_is_folds) (k := 2) F sc_is_folds rfl (by decide)
   (fun p hp => by
    rcases List.mem_cons.mp hp with rfl | hp
    · exact (k_is_whole T).mono (by decide)
    cases hp)
   (fun p hp => by
    rcases List.mem_cons.mp hp with rfl | hp
    · exact T.z_isinstance
    rcases List.mem_cons.mp hp with rfl | hp
    · exact T.z_tuple
    rcases List.mem_cons.mp hp with rfl | hp
    · exact T.z_len
    rcases List.mem_cons.mp hp with rfl | hp
    · exact T.z_all
    cases hp)
   (fun p hp => nomatch hp)
   (fun p hp => nomatch hp)
   (fun p hp => nomatch hp)
   (fun p hp => nomatch hp)
   (by decide) (by decide) b_is_folds
theorem k_is_folds (T : Tx P w K mg) : Known P w K mg base 3 ⟨"is_folds", 2, [], c_is_folds⟩ := T.d_is_folds.known fun f fd F => o_is_folds T F
theorem o_closes (T : Tx P w K mg) {f : Addr} {fd : FuncData} (F : Fun K "closes" "closes" (topS 9) f fd) : FnOk P w K mg base (L2.CX P w) 4 f fd ["ruler"] (spOf K mg 1 [] c_closes) :=
  def_ok (Γ := g_closes) (k := 3) F sc_closes rfl (by decide)
   (fun p hp => by
    rcases List.mem_cons.mp hp with rfl | hp
    · exact (k_look_at_ruler T).mono (by decide)
    cases hp)
   (fun p hp => by
    rcases List.mem_cons.mp hp with rfl | hp
    · exact T.z_sum
    rcases List.mem_cons.mp hp with rfl | hp
    · exact T.z_len
    rcases List.mem_cons.mp hp with rfl | hp
    · exact T.z_range
    rcases List.mem_cons.mp hp with rfl | hp
    · exact T.z_tuple
    cases hp)
   (fun p hp => by
    rcases List.mem_cons.mp hp with rfl | hp
    · exact T.n_MOST_WORK
    cases hp)
   (fun p hp => by
    rcases List.mem_cons.mp hp with rfl | hp
    · exact ⟨1, by decide, T.e_Refused base⟩
    cases hp)
   (fun p hp => nomatch hp)
   (fun p hp => nomatch hp)
   (by decide) (by decide) b_closes
theorem k_closes (T : Tx P w K mg) : Known P w K mg base 4 ⟨"closes", 1, [], c_closes⟩ := T.d_closes.known fun f fd F => o_closes T F
theorem o_closes_in_plane (T : Tx P w K mg) {f : Addr} {fd : FuncData} (F : Fun K "closes_in_plane" "closes_in_plane" (topS 10) f fd) : FnOk P w K mg base (L2.CX P w) 4 f fd ["ruler"] (spOf K mg 1 [] c_closes_in_plane) :=
  def_ok (Γ := g_closes_in_plane) (k := 3) F sc_closes_in_plane rfl (by decide)
   (fun p hp => by
    rcases List.mem_cons.mp hp with rfl | hp
    · exact (k_look_at_ruler T).mono (by decide)
    cases hp)
   (fun p hp => by
    rcases List.mem_cons.mp hp with rfl | hp
    · exact T.z_max
    rcases List.mem_cons.mp hp with rfl | hp
    · exact T.z_sum
    cases hp)
   (fun p hp => nomatch hp)
   (fun p hp => nomatch hp)
   (fun p hp => nomatch hp)
   (fun p hp => nomatch hp)
   (by decide) (by decide) b_closes_in_plane
theorem k_closes_in_plane (T : Tx P w K mg) : Known P w K mg base 4 ⟨"closes_in_plane", 1, [], c_closes_in_plane⟩ := T.d_closes_in_plane.known fun f fd F => o_closes_in_plane T F
theorem o_reach_of (T : Tx P w K mg) {f : Addr} {fd : FuncData} (F : Fun K "reach_of" "reach_of" (topS 11) f fd) : FnOk P w K mg base (L2.CX P w) 4 f fd ["ruler"] (spOf K mg 1 [] c_reach_of) :=
  def_ok (Γ := g_reach_of) (k := 3) F sc_reach_of rfl (by decide)
   (fun p hp => by
    rcases List.mem_cons.mp hp with rfl | hp
    · exact (k_look_at_ruler T).mono (by decide)
    cases hp)
   (fun p hp => by
    rcases List.mem_cons.mp hp with rfl | hp
    · exact T.z_max
    rcases List.mem_cons.mp hp with rfl | hp
    · exact T.z_sum
    cases hp)
   (fun p hp => nomatch hp)
   (fun p hp => nomatch hp)
   (fun p hp => nomatch hp)
   (fun p hp => nomatch hp)
   (by decide) (by decide) b_reach_of
theorem k_reach_of (T : Tx P w K mg) : Known P w K mg base 4 ⟨"reach_of", 1, [], c_reach_of⟩ := T.d_reach_of.known fun f fd F => o_reach_of T F
theorem o__law_draws (T : Tx P w K mg) {f : Addr} {fd : FuncData} (F : Fun K "_law_draws" "_law_draws" (topS 13) f fd) : FnOk P w K mg base (L2.CX P w) 2 f fd ["script"] (spOf K mg 1 [] c__law_draws) :=
  def_ok (Γ := g__law_draws) (k := 1) F sc__law_draws rfl (by decide)
   (fun p hp => nomatch hp)
   (fun p hp => by
    rcases List.mem_cons.mp hp with rfl | hp
    · exact T.z_list
    cases hp)
   (fun p hp => nomatch hp)
   (fun p hp => nomatch hp)
   (fun p hp => nomatch hp)
   (fun p hp => nomatch hp)
   (by decide) (by decide) b__law_draws
theorem k__law_draws (T : Tx P w K mg) : Known P w K mg base 2 ⟨"_law_draws", 1, [], c__law_draws⟩ := T.d__law_draws.known fun f fd F => o__law_draws T F
theorem o__law_draw (T : Tx P w K mg) {f : Addr} {fd : FuncData} (F : Fun K "_law_draw" "_law_draw" (topS 14) f fd) : FnOk P w K mg base (L2.CX P w) 2 f fd ["draws", "limit"] (spOf K mg 2 [0] c__law_draw) :=
  def_ok (Γ := g__law_draw) (k := 1) F sc__law_draw rfl (by decide)
   (fun p hp => nomatch hp)
   (fun p hp => by
    rcases List.mem_cons.mp hp with rfl | hp
    · exact T.z_len
    rcases List.mem_cons.mp hp with rfl | hp
    · exact T.z_int
    cases hp)
   (fun p hp => nomatch hp)
   (fun p hp => nomatch hp)
   (fun p hp => nomatch hp)
   (fun p hp => nomatch hp)
   (by decide) (by decide) b__law_draw
theorem k__law_draw (T : Tx P w K mg) : Known P w K mg base 2 ⟨"_law_draw", 2, [0], c__law_draw⟩ := T.d__law_draw.known fun f fd F => o__law_draw T F
theorem o__law_same_1 (T : Tx P w K mg) {f : Addr} {fd : FuncData} (F : Fun K "_law_same" "_law_same" (topS 15) f fd) : FnOk P w K mg base (L2.CX P w) 2 f fd ["actual", "expected"] (spOf K mg 2 [] c__law_same_1) :=
  def_ok (Γ := g__law_same_1) (k := 1) F sc__law_same_1 rfl (by decide)
   (fun p hp => by
    rcases List.mem_cons.mp hp with rfl | hp
    · exact (T.d__law_same.known fun f fd F => bad_ok (refs := []) F sc__law_same_1).mono (by decide)
    cases hp)
   (fun p hp => by
    rcases List.mem_cons.mp hp with rfl | hp
    · exact T.z_isinstance
    rcases List.mem_cons.mp hp with rfl | hp
    · exact T.z_tuple
    rcases List.mem_cons.mp hp with rfl | hp
    · exact T.z_list
    rcases List.mem_cons.mp hp with rfl | hp
    · exact T.z_len
    rcases List.mem_cons.mp hp with rfl | hp
    · exact T.z_range
    rcases List.mem_cons.mp hp with rfl | hp
    · exact T.z_str
    rcases List.mem_cons.mp hp with rfl | hp
    · exact T.z_bool
    rcases List.mem_cons.mp hp with rfl | hp
    · exact T.z_int
    cases hp)
   (fun p hp => nomatch hp)
   (fun p hp => nomatch hp)
   (fun p hp => nomatch hp)
   (fun p hp => nomatch hp)
   (by decide) (by decide) b__law_same_1
theorem k__law_same_1 (T : Tx P w K mg) : Known P w K mg base 2 ⟨"_law_same", 2, [], c__law_same_1⟩ := T.d__law_same.known fun f fd F => o__law_same_1 T F
theorem o__law_refused (T : Tx P w K mg) {f : Addr} {fd : FuncData} (F : Fun K "_law_refused" "_law_refused" (topS 16) f fd) : FnOk P w K mg base (L2.CX P w) 5 f fd ["ruler"] (spOf K mg 1 [] c__law_refused) :=
  def_ok (Γ := g__law_refused) (k := 4) F sc__law_refused rfl (by decide)
   (fun p hp => by
    rcases List.mem_cons.mp hp with rfl | hp
    · exact (k_closes T).mono (by decide)
    cases hp)
   (fun p hp => nomatch hp)
   (fun p hp => nomatch hp)
   (fun p hp => nomatch hp)
   (fun p hp => by
    rcases List.mem_cons.mp hp with rfl | hp
    · exact T.m_Refused_Refused
    cases hp)
   (fun p hp => by
    rcases List.mem_cons.mp hp with rfl | hp
    · exact T.x_Refused_word
    cases hp)
   (by decide) (by decide) b__law_refused
theorem k__law_refused (T : Tx P w K mg) : Known P w K mg base 5 ⟨"_law_refused", 1, [], c__law_refused⟩ := T.d__law_refused.known fun f fd F => o__law_refused T F
theorem o_law (T : Tx P w K mg) {f : Addr} {fd : FuncData} (F : Fun K "law" "law" (topS 17) f fd) : FnOk P w K mg base (L2.CX P w) 6 f fd ["script"] (spOf K mg 1 [] c_law) :=
  def_ok (Γ := g_law) (k := 5) F sc_law rfl (by decide)
   (fun p hp => by
    rcases List.mem_cons.mp hp with rfl | hp
    · exact (k__law_draws T).mono (by decide)
    rcases List.mem_cons.mp hp with rfl | hp
    · exact (k__law_draw T).mono (by decide)
    rcases List.mem_cons.mp hp with rfl | hp
    · exact (k_closes T).mono (by decide)
    rcases List.mem_cons.mp hp with rfl | hp
    · exact (k_is_folds T).mono (by decide)
    rcases List.mem_cons.mp hp with rfl | hp
    · exact (k_closes_in_plane T).mono (by decide)
    rcases List.mem_cons.mp hp with rfl | hp
    · exact (k__law_same_1 T).mono (by decide)
    rcases List.mem_cons.mp hp with rfl | hp
    · exact (k_reach_of T).mono (by decide)
    rcases List.mem_cons.mp hp with rfl | hp
    · exact (k__law_refused T).mono (by decide)
    cases hp)
   (fun p hp => by
    rcases List.mem_cons.mp hp with rfl | hp
    · exact T.z_range
    rcases List.mem_cons.mp hp with rfl | hp
    · exact T.z_tuple
    rcases List.mem_cons.mp hp with rfl | hp
    · exact T.z_sorted
    rcases List.mem_cons.mp hp with rfl | hp
    · exact T.z_set
    rcases List.mem_cons.mp hp with rfl | hp
    · exact T.z_zip
    rcases List.mem_cons.mp hp with rfl | hp
    · exact T.z_sum
    rcases List.mem_cons.mp hp with rfl | hp
    · exact T.z_max
    rcases List.mem_cons.mp hp with rfl | hp
    · exact T.z_abs
    rcases List.mem_cons.mp hp with rfl | hp
    · exact T.z_len
    cases hp)
   (fun p hp => nomatch hp)
   (fun p hp => nomatch hp)
   (fun p hp => nomatch hp)
   (fun p hp => nomatch hp)
   (by decide) (by decide) b_law
theorem k_law (T : Tx P w K mg) : Known P w K mg base 6 ⟨"law", 1, [], c_law⟩ := T.d_law.known fun f fd F => o_law T F
end
theorem all_mk {P : Program} {w : World} {K : PySem.W.Frag} {h : Heap} {mg : Str → Option Value} (X : K.In h) (G : h.Ns mainGlobals mg)
    {f_is_whole : Addr} {od_is_whole an_is_whole : Option Addr} {sl_is_whole : Array (Option Value)} {oc_is_whole kV_is_whole dc_is_whole pm_is_whole cd_is_whole ct_is_whole : Value}
    (a_is_whole : PySem.W.nsIn K mainGlobals "is_whole" = some (some (.ref f_is_whole))) (l_is_whole : K.lookup f_is_whole = some ⟨oc_is_whole, od_is_whole, .func (PySem.W.fnOf "is_whole" "is_whole" (defArgs (topS 4)) (defBody (topS 4)) (defScope (topS 4)) .none kV_is_whole dc_is_whole pm_is_whole an_is_whole cd_is_whole ct_is_whole), sl_is_whole⟩) (c_is_whole : PySem.W.codeIn K cd_is_whole "is_whole" = true) (k_is_whole : PySem.W.keepIn K (.ref f_is_whole) = true)
    {f_look_at_ruler : Addr} {od_look_at_ruler an_look_at_ruler : Option Addr} {sl_look_at_ruler : Array (Option Value)} {oc_look_at_ruler kV_look_at_ruler dc_look_at_ruler pm_look_at_ruler cd_look_at_ruler ct_look_at_ruler : Value}
    (a_look_at_ruler : PySem.W.nsIn K mainGlobals "look_at_ruler" = some (some (.ref f_look_at_ruler))) (l_look_at_ruler : K.lookup f_look_at_ruler = some ⟨oc_look_at_ruler, od_look_at_ruler, .func (PySem.W.fnOf "look_at_ruler" "look_at_ruler" (defArgs (topS 7)) (defBody (topS 7)) (defScope (topS 7)) .none kV_look_at_ruler dc_look_at_ruler pm_look_at_ruler an_look_at_ruler cd_look_at_ruler ct_look_at_ruler), sl_look_at_ruler⟩) (c_look_at_ruler : PySem.W.codeIn K cd_look_at_ruler "look_at_ruler" = true) (k_look_at_ruler : PySem.W.keepIn K (.ref f_look_at_ruler) = true)
    {f_is_folds : Addr} {od_is_folds an_is_folds : Option Addr} {sl_is_folds : Array (Option Value)} {oc_is_folds kV_is_folds dc_is_folds pm_is_folds cd_is_folds ct_is_folds : Value}
    (a_is_folds : PySem.W.nsIn K mainGlobals "is_folds" = some (some (.ref f_is_folds))) (l_is_folds : K.lookup f_is_folds = some ⟨oc_is_folds, od_is_folds, .func (PySem.W.fnOf "is_folds" "is_folds" (defArgs (topS 8)) (defBody (topS 8)) (defScope (topS 8)) .none kV_is_folds dc_is_folds pm_is_folds an_is_folds cd_is_folds ct_is_folds), sl_is_folds⟩) (c_is_folds : PySem.W.codeIn K cd_is_folds "is_folds" = true) (k_is_folds : PySem.W.keepIn K (.ref f_is_folds) = true)
    {f_closes : Addr} {od_closes an_closes : Option Addr} {sl_closes : Array (Option Value)} {oc_closes kV_closes dc_closes pm_closes cd_closes ct_closes : Value}
    (a_closes : PySem.W.nsIn K mainGlobals "closes" = some (some (.ref f_closes))) (l_closes : K.lookup f_closes = some ⟨oc_closes, od_closes, .func (PySem.W.fnOf "closes" "closes" (defArgs (topS 9)) (defBody (topS 9)) (defScope (topS 9)) .none kV_closes dc_closes pm_closes an_closes cd_closes ct_closes), sl_closes⟩) (c_closes : PySem.W.codeIn K cd_closes "closes" = true) (k_closes : PySem.W.keepIn K (.ref f_closes) = true)
    {f_closes_in_plane : Addr} {od_closes_in_plane an_closes_in_plane : Option Addr} {sl_closes_in_plane : Array (Option Value)} {oc_closes_in_plane kV_closes_in_plane dc_closes_in_plane pm_closes_in_plane cd_closes_in_plane ct_closes_in_plane : Value}
    (a_closes_in_plane : PySem.W.nsIn K mainGlobals "closes_in_plane" = some (some (.ref f_closes_in_plane))) (l_closes_in_plane : K.lookup f_closes_in_plane = some ⟨oc_closes_in_plane, od_closes_in_plane, .func (PySem.W.fnOf "closes_in_plane" "closes_in_plane" (defArgs (topS 10)) (defBody (topS 10)) (defScope (topS 10)) .none kV_closes_in_plane dc_closes_in_plane pm_closes_in_plane an_closes_in_plane cd_closes_in_plane ct_closes_in_plane), sl_closes_in_plane⟩) (c_closes_in_plane : PySem.W.codeIn K cd_closes_in_plane "closes_in_plane" = true) (k_closes_in_plane : PySem.W.keepIn K (.ref f_closes_in_plane) = true)
    {f_reach_of : Addr} {od_reach_of an_reach_of : Option Addr} {sl_reach_of : Array (Option Value)} {oc_reach_of kV_reach_of dc_reach_of pm_reach_of cd_reach_of ct_reach_of : Value}
    (a_reach_of : PySem.W.nsIn K mainGlobals "reach_of" = some (some (.ref f_reach_of))) (l_reach_of : K.lookup f_reach_of = some ⟨oc_reach_of, od_reach_of, .func (PySem.W.fnOf "reach_of" "reach_of" (defArgs (topS 11)) (defBody (topS 11)) (defScope (topS 11)) .none kV_reach_of dc_reach_of pm_reach_of an_reach_of cd_reach_of ct_reach_of), sl_reach_of⟩) (c_reach_of : PySem.W.codeIn K cd_reach_of "reach_of" = true) (k_reach_of : PySem.W.keepIn K (.ref f_reach_of) = true)
    {f__law_draws : Addr} {od__law_draws an__law_draws : Option Addr} {sl__law_draws : Array (Option Value)} {oc__law_draws kV__law_draws dc__law_draws pm__law_draws cd__law_draws ct__law_draws : Value}
    (a__law_draws : PySem.W.nsIn K mainGlobals "_law_draws" = some (some (.ref f__law_draws))) (l__law_draws : K.lookup f__law_draws = some ⟨oc__law_draws, od__law_draws, .func (PySem.W.fnOf "_law_draws" "_law_draws" (defArgs (topS 13)) (defBody (topS 13)) (defScope (topS 13)) .none kV__law_draws dc__law_draws pm__law_draws an__law_draws cd__law_draws ct__law_draws), sl__law_draws⟩) (c__law_draws : PySem.W.codeIn K cd__law_draws "_law_draws" = true) (k__law_draws : PySem.W.keepIn K (.ref f__law_draws) = true)
    {f__law_draw : Addr} {od__law_draw an__law_draw : Option Addr} {sl__law_draw : Array (Option Value)} {oc__law_draw kV__law_draw dc__law_draw pm__law_draw cd__law_draw ct__law_draw : Value}
    (a__law_draw : PySem.W.nsIn K mainGlobals "_law_draw" = some (some (.ref f__law_draw))) (l__law_draw : K.lookup f__law_draw = some ⟨oc__law_draw, od__law_draw, .func (PySem.W.fnOf "_law_draw" "_law_draw" (defArgs (topS 14)) (defBody (topS 14)) (defScope (topS 14)) .none kV__law_draw dc__law_draw pm__law_draw an__law_draw cd__law_draw ct__law_draw), sl__law_draw⟩) (c__law_draw : PySem.W.codeIn K cd__law_draw "_law_draw" = true) (k__law_draw : PySem.W.keepIn K (.ref f__law_draw) = true)
    {f__law_same : Addr} {od__law_same an__law_same : Option Addr} {sl__law_same : Array (Option Value)} {oc__law_same kV__law_same dc__law_same pm__law_same cd__law_same ct__law_same : Value}
    (a__law_same : PySem.W.nsIn K mainGlobals "_law_same" = some (some (.ref f__law_same))) (l__law_same : K.lookup f__law_same = some ⟨oc__law_same, od__law_same, .func (PySem.W.fnOf "_law_same" "_law_same" (defArgs (topS 15)) (defBody (topS 15)) (defScope (topS 15)) .none kV__law_same dc__law_same pm__law_same an__law_same cd__law_same ct__law_same), sl__law_same⟩) (c__law_same : PySem.W.codeIn K cd__law_same "_law_same" = true) (k__law_same : PySem.W.keepIn K (.ref f__law_same) = true)
    {f__law_refused : Addr} {od__law_refused an__law_refused : Option Addr} {sl__law_refused : Array (Option Value)} {oc__law_refused kV__law_refused dc__law_refused pm__law_refused cd__law_refused ct__law_refused : Value}
    (a__law_refused : PySem.W.nsIn K mainGlobals "_law_refused" = some (some (.ref f__law_refused))) (l__law_refused : K.lookup f__law_refused = some ⟨oc__law_refused, od__law_refused, .func (PySem.W.fnOf "_law_refused" "_law_refused" (defArgs (topS 16)) (defBody (topS 16)) (defScope (topS 16)) .none kV__law_refused dc__law_refused pm__law_refused an__law_refused cd__law_refused ct__law_refused), sl__law_refused⟩) (c__law_refused : PySem.W.codeIn K cd__law_refused "_law_refused" = true) (k__law_refused : PySem.W.keepIn K (.ref f__law_refused) = true)
    {f_law : Addr} {od_law an_law : Option Addr} {sl_law : Array (Option Value)} {oc_law kV_law dc_law pm_law cd_law ct_law : Value}
    (a_law : PySem.W.nsIn K mainGlobals "law" = some (some (.ref f_law))) (l_law : K.lookup f_law = some ⟨oc_law, od_law, .func (PySem.W.fnOf "law" "law" (defArgs (topS 17)) (defBody (topS 17)) (defScope (topS 17)) .none kV_law dc_law pm_law an_law cd_law ct_law), sl_law⟩) (c_law : PySem.W.codeIn K cd_law "law" = true) (k_law : PySem.W.keepIn K (.ref f_law) = true)
    (z_abs : PySem.W.nsIn K mainGlobals "abs" = some none)
    (z_all : PySem.W.nsIn K mainGlobals "all" = some none)
    (z_bool : PySem.W.nsIn K mainGlobals "bool" = some none)
    (z_int : PySem.W.nsIn K mainGlobals "int" = some none)
    (z_isinstance : PySem.W.nsIn K mainGlobals "isinstance" = some none)
    (z_len : PySem.W.nsIn K mainGlobals "len" = some none)
    (z_list : PySem.W.nsIn K mainGlobals "list" = some none)
    (z_max : PySem.W.nsIn K mainGlobals "max" = some none)
    (z_range : PySem.W.nsIn K mainGlobals "range" = some none)
    (z_set : PySem.W.nsIn K mainGlobals "set" = some none)
    (z_sorted : PySem.W.nsIn K mainGlobals "sorted" = some none)
    (z_str : PySem.W.nsIn K mainGlobals "str" = some none)
    (z_sum : PySem.W.nsIn K mainGlobals "sum" = some none)
    (z_tuple : PySem.W.nsIn K mainGlobals "tuple" = some none)
    (z_zip : PySem.W.nsIn K mainGlobals "zip" = some none)
    {t_MOST_WORK : Tok} (n_MOST_WORK : PySem.W.nsIn K mainGlobals "MOST_WORK" = some (some (.int 200000 t_MOST_WORK)))
    {Fb : Addr} (va : PySem.W.nsIn K mainGlobals "FrameError" = some (some (.ref Fb))) (vs_ : PySem.W.specialIn K (.ref Fb) "__getattribute__" = some (some (.builtin "type.__getattribute__"))) (vr : PySem.W.readsIn K Fb (.type "type") = true) (vf : PySem.W.findCls K (.ref Fb) (.type "type") "__init__" = some (.val (.builtin "ValueError.__init__")))
    {C_Refused fi_Refused : Addr} {nm_Refused q_Refused : Str} {N_Refused : Addr} {bs_Refused bm_Refused : List Value} {sn_Refused : _} {sub_Refused : _} {ab_Refused : _} {col_Refused : _} {dd_Refused : Option Addr} {k0_Refused k1_Refused k2_Refused k3_Refused k5_Refused : Option Value}
    (ea_Refused : PySem.W.nsIn K mainGlobals "Refused" = some (some (.ref C_Refused))) (el_Refused : K.lookup C_Refused = some (excClassObj nm_Refused q_Refused C_Refused N_Refused bs_Refused bm_Refused true sn_Refused sub_Refused ab_Refused col_Refused dd_Refused k0_Refused k1_Refused k2_Refused k3_Refused k5_Refused "ValueError.__new__")) (er_Refused : PySem.HandSPX.refsVE bm_Refused = true) (es_Refused : PySem.W.findIn K (.ref C_Refused) "__setattr__" = some (some (.builtin "object.__setattr__")))
    (eb_Refused : PySem.W.subIn K (.ref C_Refused) (.type "BaseException") = some true) (et_Refused : PySem.W.typeIn K (.ref C_Refused) = some (.type "type")) (ek_Refused : PySem.W.keepIn K (.ref C_Refused) = true) (ei_Refused : PySem.W.findIn K (.ref C_Refused) "__init__" = some (some (.ref fi_Refused))) (ef_Refused : PySem.W.typeIn K (.ref fi_Refused) = some (.type "function"))
    {od_Refused an_Refused : Option Addr} {sl_Refused : Array (Option Value)} {oc_Refused kV_Refused dc_Refused pm_Refused cd_Refused ct_Refused : Value} (l_Refused : K.lookup fi_Refused = some ⟨oc_Refused, od_Refused, .func (PySem.W.fnOf "__init__" "Refused.__init__" (defArgs (clsS 2 0)) (defBody (clsS 2 0)) (defScope (clsS 2 0)) .none kV_Refused dc_Refused pm_Refused an_Refused cd_Refused ct_Refused), sl_Refused⟩) (c_Refused : PySem.W.codeIn K cd_Refused "Refused.__init__" = true) (k_Refused : PySem.W.keepIn K (.ref fi_Refused) = true)
    (ew_Refused_word : PySem.W.findIn K (.ref C_Refused) "word" = some none) (eg_Refused : PySem.W.findIn K (.ref C_Refused) "__getattribute__" = some (some (.builtin "BaseException.__getattribute__"))) (eh_Refused : PySem.W.findIn K (.ref C_Refused) "__getattr__" = some none) (ed_Refused : PySem.W.hasDictIn K C_Refused = true)
    (em_Refused_Refused : PySem.W.subIn K (.ref C_Refused) (.ref C_Refused) = some true)
    : Tx P w K mg where
  d_is_whole := ⟨_, _, fun_mk (st := topS 4) l_is_whole c_is_whole k_is_whole, (fun_mk (st := topS 4) l_is_whole c_is_whole k_is_whole).binds (ps := ["value"]) (fun _ _ _ _ _ _ us hl => match us, hl with | [_], _ => rfl), PySem.W.mg_of X G a_is_whole⟩
  d_look_at_ruler := ⟨_, _, fun_mk (st := topS 7) l_look_at_ruler c_look_at_ruler k_look_at_ruler, (fun_mk (st := topS 7) l_look_at_ruler c_look_at_ruler k_look_at_ruler).binds (ps := ["value"]) (fun _ _ _ _ _ _ us hl => match us, hl with | [_], _ => rfl), PySem.W.mg_of X G a_look_at_ruler⟩
  d_is_folds := ⟨_, _, fun_mk (st := topS 8) l_is_folds c_is_folds k_is_folds, (fun_mk (st := topS 8) l_is_folds c_is_folds k_is_folds).binds (ps := ["ruler", "value"]) (fun _ _ _ _ _ _ us hl => match us, hl with | [_, _], _ => rfl), PySem.W.mg_of X G a_is_folds⟩
  d_closes := ⟨_, _, fun_mk (st := topS 9) l_closes c_closes k_closes, (fun_mk (st := topS 9) l_closes c_closes k_closes).binds (ps := ["ruler"]) (fun _ _ _ _ _ _ us hl => match us, hl with | [_], _ => rfl), PySem.W.mg_of X G a_closes⟩
  d_closes_in_plane := ⟨_, _, fun_mk (st := topS 10) l_closes_in_plane c_closes_in_plane k_closes_in_plane, (fun_mk (st := topS 10) l_closes_in_plane c_closes_in_plane k_closes_in_plane).binds (ps := ["ruler"]) (fun _ _ _ _ _ _ us hl => match us, hl with | [_], _ => rfl), PySem.W.mg_of X G a_closes_in_plane⟩
  d_reach_of := ⟨_, _, fun_mk (st := topS 11) l_reach_of c_reach_of k_reach_of, (fun_mk (st := topS 11) l_reach_of c_reach_of k_reach_of).binds (ps := ["ruler"]) (fun _ _ _ _ _ _ us hl => match us, hl with | [_], _ => rfl), PySem.W.mg_of X G a_reach_of⟩
  d__law_draws := ⟨_, _, fun_mk (st := topS 13) l__law_draws c__law_draws k__law_draws, (fun_mk (st := topS 13) l__law_draws c__law_draws k__law_draws).binds (ps := ["script"]) (fun _ _ _ _ _ _ us hl => match us, hl with | [_], _ => rfl), PySem.W.mg_of X G a__law_draws⟩
  d__law_draw := ⟨_, _, fun_mk (st := topS 14) l__law_draw c__law_draw k__law_draw, (fun_mk (st := topS 14) l__law_draw c__law_draw k__law_draw).binds (ps := ["draws", "limit"]) (fun _ _ _ _ _ _ us hl => match us, hl with | [_, _], _ => rfl), PySem.W.mg_of X G a__law_draw⟩
  d__law_same := ⟨_, _, fun_mk (st := topS 15) l__law_same c__law_same k__law_same, (fun_mk (st := topS 15) l__law_same c__law_same k__law_same).binds (ps := ["actual", "expected"]) (fun _ _ _ _ _ _ us hl => match us, hl with | [_, _], _ => rfl), PySem.W.mg_of X G a__law_same⟩
  d__law_refused := ⟨_, _, fun_mk (st := topS 16) l__law_refused c__law_refused k__law_refused, (fun_mk (st := topS 16) l__law_refused c__law_refused k__law_refused).binds (ps := ["ruler"]) (fun _ _ _ _ _ _ us hl => match us, hl with | [_], _ => rfl), PySem.W.mg_of X G a__law_refused⟩
  d_law := ⟨_, _, fun_mk (st := topS 17) l_law c_law k_law, (fun_mk (st := topS 17) l_law c_law k_law).binds (ps := ["script"]) (fun _ _ _ _ _ _ us hl => match us, hl with | [_], _ => rfl), PySem.W.mg_of X G a_law⟩
  z_abs := PySem.W.mg_none_of X G z_abs
  z_all := PySem.W.mg_none_of X G z_all
  z_bool := PySem.W.mg_none_of X G z_bool
  z_int := PySem.W.mg_none_of X G z_int
  z_isinstance := PySem.W.mg_none_of X G z_isinstance
  z_len := PySem.W.mg_none_of X G z_len
  z_list := PySem.W.mg_none_of X G z_list
  z_max := PySem.W.mg_none_of X G z_max
  z_range := PySem.W.mg_none_of X G z_range
  z_set := PySem.W.mg_none_of X G z_set
  z_sorted := PySem.W.mg_none_of X G z_sorted
  z_str := PySem.W.mg_none_of X G z_str
  z_sum := PySem.W.mg_none_of X G z_sum
  z_tuple := PySem.W.mg_none_of X G z_tuple
  z_zip := PySem.W.mg_none_of X G z_zip
  n_MOST_WORK := ⟨_, .int 200000, PySem.W.mg_of X G n_MOST_WORK, ⟨_, rfl⟩, fun _ _ => Rep.int⟩
  e_Refused := fun base => ⟨C_Refused, fi_Refused, _, ["self", "word"], spI C_Refused ["word"], PySem.W.mg_of X G ea_Refused, ⟨⟨_, _, _, _, _, _, _, _, _, _, _, _, _, _, _, el_Refused, er_Refused⟩, es_Refused, eb_Refused, et_Refused, ek_Refused⟩, ei_Refused, ef_Refused,
      init1 (k := 0) (fun_mk (st := clsS 2 0) l_Refused c_Refused k_Refused) ⟨rfl, rfl, rfl, by decide +kernel, rfl, by decide +kernel, by decide +kernel⟩ rfl (b := "FrameError") ⟨PySem.W.mg_of X G va, vs_, vr, vf⟩ ⟨⟨_, _, _, _, _, _, _, _, _, _, _, _, _, _, _, el_Refused, er_Refused⟩, es_Refused, eb_Refused, et_Refused, ek_Refused⟩ ew_Refused_word (.inl rfl) (.inl rfl) rfl (by decide) (by decide) (by decide) (by decide) (by decide) (fun _ => ⟨_, rfl⟩) (fun _ => rfl) (fun _ => rfl),
      (fun_mk (st := clsS 2 0) l_Refused c_Refused k_Refused).binds (ps := ["self", "word"]) (fun _ _ _ _ _ _ us hl => match us, hl with | [_, _], _ => rfl), spI_ok⟩
  x_Refused_word := ⟨_, PySem.W.mg_of X G ea_Refused, ⟨eg_Refused, eh_Refused, eb_Refused, ed_Refused⟩, ew_Refused_word⟩
  m_Refused_Refused := ⟨_, _, PySem.W.mg_of X G ea_Refused, PySem.W.mg_of X G ea_Refused, PySem.W.exm_ref eb_Refused ed_Refused et_Refused em_Refused_Refused⟩
def spLaw (K : PySem.W.Frag) : Sp := fun vs H Q _ => ∃ (a : Addr) (ns : List Int), vs = [.ref a] ∧ ns.length ≤ 63 ∧ ((∃ o, H a = some (.frz o (.lst (ns.map V.int)))) ∨ KLst K a (ns.map V.int)) ∧ ∀ H', Q (.bl true) H'
theorem law_fd {P : Program} {w : World} {K : PySem.W.Frag} {h : Heap} {mg : Str → Option Value} {fa : Addr} (hl : ∀ ns : List Int, ns.length ≤ 63 → c_law [.scr ns] = .ok (.bl true) []) (hfa : mg "law" = some (.ref fa)) (T : Tx P w K mg) :
    ∃ fd : FuncData, (∀ (s : Shared) (v : Value), BindsTo s fd ⟨[v], []⟩ [("script", v)]) ∧ ∀ base : Heap, K.In base → base.Ns mainGlobals mg → FnOk P w K mg base (L2.CX P w) 6 fa fd ["script"] (spLaw K) := by
  obtain ⟨f, fd, F, b, e⟩ := T.d_law.ex
  rw [hfa] at e
  cases e
  refine ⟨fd, fun s v => ?_, fun base _ _ => (o_law T F).imp fun vs H Q E q => ?_⟩
  · obtain ⟨oc, od, kV, doc, pm, an, cdv, ct, osl, rfl, lk, hcd⟩ := F.ex
    exact .of_eq rfl
  · obtain ⟨a, ns, rfl, hn, hs, q⟩ := q
    refine ⟨rfl, [.scr ns], fun _ => False, [], ⟨.ref a, [], [], [], rfl, rfl, ⟨a, rfl, hs, rfl⟩, rfl, rfl⟩, List.nodup_nil, (fun _ h => nomatch h), (fun _ h => h.elim), ?_⟩
    rw [hl ns hn]
    intro v H' Z' G' r _ _ _ _ _ _ _
    obtain ⟨v', e1, r1⟩ := Reps.one (show Reps K mg Z' H' [.bl true] [v] G' from r)
    cases e1
    rw [r1.eBl]
    exact q H'
end K79

/-! K79c: the plain law of k79. -/
namespace K79
open PySem FS
theorem whole_int (i : Int) : c_is_whole [.int i] = .ok (.bl true) [] := rfl
theorem whole_bl (i : Bool) : c_is_whole [.bl i] = .ok (.bl false) [] := rfl
theorem whole_str (i : Str) : c_is_whole [.str i] = .ok (.bl false) [] := rfl
/-- the rulers that are looked through -/
structure Good (ns : List Int) : Prop where
  len : 0 < ns.length
  len40 : ns.length ≤ 40
  pos : ∀ n ∈ ns, 0 < n
theorem look_ok {ns : List Int} (h : Good ns) : c_look_at_ruler [tn ns] = .ok .non [] := by
  have hl : (ns.map D.int).length = ns.length := List.length_map ..
  have h1 : (0 : Int) < ns.length := by have := h.len; omega
  have h2 : (ns.length : Int) ≤ 40 := by have := h.len40; omega
  have lc : mLc [1] (tName 1) (iSeq (mVar 0)) tTrue (mAndV (mCall c_is_whole [.val (mVar 1)]) (mQ (q2 gtD (pVar 1) (qC (.int 0))))) [some (tn ns), none] = .ok (.lst true ((ns.map fun _ => D.bl true))) [some (tn ns), none] := by
    have := mLc_map (own := [1]) (t := tName 1) (src := iSeq (mVar 0)) (c := tTrue) (e := mAndV (mCall c_is_whole [.val (mVar 1)]) (mQ (q2 gtD (pVar 1) (qC (.int 0))))) (f := fun _ => .bl true) (p := fun _ => true) (σ := [some (tn ns), none]) (σ1 := [some (tn ns), none]) (xs := ns.map .int)
      (by simp [iSeq, mVar, items]) (by rw [hl]; have := h.len40; unfold sz; omega) rfl (fun x hx => by
        obtain ⟨n, hn, rfl⟩ := List.mem_map.mp hx
        refine ⟨[some (tn ns), some (.int n)], rfl, rfl, .inl ⟨rfl, rfl, ?_⟩⟩
        have := h.pos n hn
        simp [mAndV, mT, mCall, mArgs, mVar, whole_int, mQ, q2, pVar, qC, gtD, isF, lent, backs, this])
    rw [this, filter_true, List.map_map]
    rfl
  have h0 := h.len
  have h3 := h.len40
  have ha : bools? (List.map (fun _ => D.bl true) ns) = some (ns.map fun _ => true) := by rw [show List.map (fun _ => D.bl true) ns = (ns.map fun _ => true).map .bl by rw [List.map_map]; rfl, bools?_map]
  have hb : frzs (List.map (fun _ => D.bl true) ns) = List.map (fun _ => D.bl true) ns := by rw [show List.map (fun _ => D.bl true) ns = (ns.map fun _ => true).map .bl by rw [List.map_map]; rfl, frzs_bls]
  simp [c_look_at_ruler, runDef, m_look_at_ruler, startSl, sSeq, sIf, tOr', tNot', mT, mQ, q1, pVar, isiQ, tyD, Ty.nm, mChain, qC, qB, qCons, qNil, len1, lenD, ltD, leD, hl, h0, h2, frz, sNext, mB, mAll, lc, allD, frzs, endOf, params, ha, hb]
/-- the rulers that are refused -/
theorem look_bad (d : D) (h : d ∈ [.tup [], .lst false [.int 1], .tup [.int 0], .tup [.str "x"], .tup [.bl true], .non]) : c_look_at_ruler [d] = .exc ⟨"Refused", ["word"], [.str "ruler"]⟩ := by
  simp only [List.mem_cons, List.not_mem_nil, or_false] at h
  rcases h with rfl | rfl | rfl | rfl | rfl | rfl <;> rfl
theorem two_max {ns : List Int} (h : Good ns) (hm : ∀ n ∈ ns, n < 2 ^ 60) : mulD (.int 2) (.int (maxI ns)) = some (.int (2 * maxI ns)) := by
  have h0 : ns ≠ [] := by rintro rfl; exact absurd h.len (by simp)
  obtain ⟨a, b⟩ := maxI_spec h0
  have h1 := h.pos _ a
  have h2 := hm _ a
  exact mulD_of (small_abs (by omega) (by omega)) (small_abs (by omega) (by omega))
theorem plane_ok {ns : List Int} (h : Good ns) (hm : ∀ n ∈ ns, n < 2 ^ 60) : c_closes_in_plane [tn ns] = .ok (.bl (decide (2 * maxI ns ≤ ns.sum))) [] := by
  have h0 : ns ≠ [] := by rintro rfl; exact absurd h.len (by simp)
  simp [c_closes_in_plane, runDef, m_closes_in_plane, startSl, sSeq, sExp, mCall, mArgs, mVar, look_ok h, lent, backs, sRet, mQ, q2, qC, qB, qCons, qNil, pVar, maxD, ints?_map, h0, two_max h hm, sumD, leD, endOf, params]
theorem reach_ok {ns : List Int} (h : Good ns) (hm : ∀ n ∈ ns, n < 2 ^ 60) : c_reach_of [tn ns] = .ok (.tup [.int (max 0 (2 * maxI ns - ns.sum)), .int ns.sum]) [] := by
  have h0 : ns ≠ [] := by rintro rfl; exact absurd h.len (by simp)
  simp [c_reach_of, runDef, m_reach_of, startSl, sSeq, sExp, mCall, mArgs, mVar, look_ok h, lent, backs, sRet, mQ, q2, qC, qB, qCons, qNil, pVar, maxD, ints?_map, h0, two_max h hm, sumD, subD, endOf, params, mTup, mAll, sz]
  omega
theorem same_bl (a b : Bool) : c__law_same_1 [.bl a, .bl b] = .ok (.bl (a == b)) [] := by cases a <;> cases b <;> rfl
theorem refused_bad (d : D) (h : d ∈ [.tup [], .lst false [.int 1], .tup [.int 0], .tup [.str "x"], .tup [.bl true], .non]) : c__law_refused [d] = .ok (.str "ruler") [] := by
  have e : c_closes [d] = .exc ⟨"Refused", ["word"], [.str "ruler"]⟩ := by
    have hl := look_bad d h
    simp only [List.mem_cons, List.not_mem_nil, or_false] at h
    rcases h with rfl | rfl | rfl | rfl | rfl | rfl <;> rfl
  have hf : isF d = true := by
    simp only [List.mem_cons, List.not_mem_nil, or_false] at h
    rcases h with rfl | rfl | rfl | rfl | rfl | rfl <;> rfl
  simp [c__law_refused, runDef, m__law_refused, startSl, sSeq, sTryF, sExp, mCall, mArgs, mVar, hf, e, caught, exmT, xfsT, excFld, endOf, params]
/-! ### draws -/
abbrev dst (ns : List Int) (p c s : Int) : D := .lst true [.lst false (ns.map .int), .int p, .int c, .int s]
theorem draws_ok (ns : List Int) : c__law_draws [.scr ns] = .ok (dst ns 0 0 1) [] := by
  simp [c__law_draws, runDef, m__law_draws, startSl, sRet, mLst, mAll, mFz, mB, mVar, isF, frzs, frz, listD', mQ, qC, endOf, params, sz, frzs_ints]
theorem ix4 (a b c d : D) (o : Bool) : ixD (.lst o [a, b, c, d]) (.int 0) = some a ∧ ixD (.lst o [a, b, c, d]) (.int 1) = some b ∧ ixD (.lst o [a, b, c, d]) (.int 2) = some c ∧ ixD (.lst o [a, b, c, d]) (.int 3) = some d := ⟨rfl, rfl, rfl, rfl⟩
theorem ix_ints {ns : List Int} {p : Int} (h0 : 0 ≤ p) (h1 : p < ns.length) : ∃ v, ixD (.lst false (ns.map .int)) (.int p) = some (.int v) := by
  have hl : p.toNat < ns.length := by omega
  refine ⟨ns[p.toNat], ?_⟩
  show (ixOf (ns.map D.int).length p).bind (fun j => (ns.map D.int)[j]?) = _
  unfold ixOf
  rw [if_pos h0, if_pos (by rw [List.length_map]; exact h1)]
  simp [hl]
structure DOk (p s : Int) : Prop where
  p : 0 ≤ p
  s0 : 0 ≤ s
  s1 : s < 2147483647
/-- the second half of a draw -/
def m_draw2 : MS := (sSeq (sIf (mT (m2 gtD (mQ (qF (q2 ixD (pVar 0) (qC (.int 2))))) (mQ (qC (.int 0)))))
 (sSeq (sAsg (tName 3) (mQ (q2 modD (qB intD (qCons (q2 ixD (pVar 0) (qC (.int 2))) qNil)) (pVar 1))))
 (sSeq (sAsg (tIx 0 (qC (.int 2))) (mQ (q2 fdivD (q2 ixD (pVar 0) (qC (.int 2))) (pVar 1))))
 (sRet (mMov 3))))
 sNext)
 (sSeq (sAsg (tIx 0 (qC (.int 3))) (mQ (q2 modD (qB intD (qCons (q2 addI (q2 mulD (q2 ixD (pVar 0) (qC (.int 3))) (qC (.int 69621))) (qC (.int 7))) qNil)) (qC (.int 2147483629)))))
 (sRet (mQ (q2 modD (qB intD (qCons (q2 fdivD (q2 ixD (pVar 0) (qC (.int 3))) (qC (.int 11))) qNil)) (pVar 1))))))
theorem draw2 {ns : List Int} {p c s l : Int} {x y : Option D} (h : DOk p s) (hl : 0 < l) (hl2 : l < 2 ^ 60) :
    ∃ v c' s' x' y', m_draw2 [some (dst ns p c s), some (.int l), x, y] = .ret (.int v) [some (dst ns p c' s'), some (.int l), x', y'] ∧ 0 ≤ v ∧ v < l ∧ DOk p s' := by
  have hlog : l.natAbs.log2 < 9000 := Nat.lt_trans ((Nat.log2_lt (by omega)).mpr (show l.natAbs < 2 ^ 60 by omega)) (by decide)
  have hne : l ≠ 0 := by omega
  have hm := mulD_of (i := s) (j := 69621) (small_abs (by have := h.s0; omega) (by have := h.s1; omega)) (small_abs (by decide) (by decide))
  have h11 : fdivD (.int ((s * 69621 + 7).fmod 2147483629)) (.int 11) = some (.int (((s * 69621 + 7).fmod 2147483629).fdiv 11)) := rfl
  by_cases hc : 0 < c
  · refine ⟨c.fmod l, c.fdiv l, s, x, none, ?_, ?_, ?_, h⟩
    rotate_left
    · rw [Int.fmod_eq_emod_of_nonneg _ (by omega)]; exact Int.emod_nonneg _ hne
    · rw [Int.fmod_eq_emod_of_nonneg _ (by omega)]; exact Int.emod_lt_of_pos _ hl
    · simp [m_draw2, sSeq, sIf, mT, m2, mQ, qF, q2, pVar, qC, ix4, isF, frz, gtD, hc, sAsg, tName, qB, qCons, qNil, intD, modD, hne, tIx, ixOf, fdivD, hlog, sRet, mMov]
  · refine ⟨(((s * 69621 + 7).fmod 2147483629).fdiv 11).fmod l, c, (s * 69621 + 7).fmod 2147483629, x, y, ?_, ?_, ?_, ⟨h.p, ?_, ?_⟩⟩
    rotate_left
    · rw [Int.fmod_eq_emod_of_nonneg _ (by omega)]; exact Int.emod_nonneg _ hne
    · rw [Int.fmod_eq_emod_of_nonneg _ (by omega)]; exact Int.emod_lt_of_pos _ hl
    · rw [Int.fmod_eq_emod_of_nonneg _ (by omega)]; exact Int.emod_nonneg _ (by decide)
    · rw [Int.fmod_eq_emod_of_nonneg _ (by omega)]
      have := Int.emod_lt_of_pos (s * 69621 + 7) (b := 2147483629) (by decide)
      omega
    · simp [m_draw2, sSeq, sIf, mT, m2, mQ, qF, q2, pVar, qC, ix4, isF, frz, gtD, hc, sAsg, qB, qCons, qNil, intD, modD, hne, tIx, ixOf, h11, hm, addI, sRet, sNext]
/-- the first half -/
def m_draw1 : MS := (sIf (tAnd' (mT (m2 eqD (mQ (qF (q2 ixD (pVar 0) (qC (.int 2))))) (mQ (qC (.int 0))))) (mT (m2 ltD (mQ (qF (q2 ixD (pVar 0) (qC (.int 1))))) (mQ (qB len1 (qCons (q2 ixD (pVar 0) (qC (.int 0))) qNil))))))
 (sSeq (sAsg (tName 2) (mQ (qF (q2 ixD (q2 ixD (pVar 0) (qC (.int 0))) (q2 ixD (pVar 0) (qC (.int 1)))))))
 (sSeq (sAsg (tIx 0 (qC (.int 1))) (mQ (q2 addI (q2 ixD (pVar 0) (qC (.int 1))) (qC (.int 1)))))
 (sSeq (sIf (mT (m2 geD (mVar 2) (mQ (q2 powD (qC (.int 10)) (qC (.int 18))))))
 (sAsg (tIx 0 (qC (.int 2))) (mVar 2))
 sNext)
 (sAsg (tIx 0 (qC (.int 3))) (mQ (q2 modD (qB intD (qCons (q2 addI (q2 addI (q2 mulD (q2 ixD (pVar 0) (qC (.int 3))) (qC (.int 48271))) (pVar 2)) (qC (.int 13))) qNil)) (qC (.int 2147483647))))))))
 sNext)
theorem draw1 {ns : List Int} {p c s : Int} {L : D} (h : DOk p s) : ∃ p' c' s' x, m_draw1 [some (dst ns p c s), some L, none, none] = .nx [some (dst ns p' c' s'), some L, x, none] ∧ DOk p' s' := by
  have hlen : (ns.map D.int).length = ns.length := List.length_map ..
  by_cases hc : c = 0
  · subst hc
    by_cases hp : p < ns.length
    · obtain ⟨v, hv⟩ := ix_ints h.p hp
      have hm := mulD_of (i := s) (j := 48271) (small_abs (by have := h.s0; omega) (by have := h.s1; omega)) (small_abs (by decide) (by decide))
      have hpow : powD (.int 10) (.int 18) = some (.int (10 ^ 18)) := rfl
      have hd : DOk (p + 1) ((s * 48271 + v + 13).fmod 2147483647) := ⟨by have := h.p; omega, by
          rw [Int.fmod_eq_emod_of_nonneg _ (by omega)]; exact Int.emod_nonneg _ (by decide), by
          rw [Int.fmod_eq_emod_of_nonneg _ (by omega)]; exact Int.emod_lt_of_pos _ (by decide)⟩
      by_cases hb : (10 : Int) ^ 18 ≤ v
      · refine ⟨p + 1, v, (s * 48271 + v + 13).fmod 2147483647, some (.int v), ?_, hd⟩
        simp [m_draw1, sSeq, sIf, tAnd', mT, m2, mQ, qF, q2, pVar, qC, ix4, isF, frz, eqD, okd, deq, ltD, sAsg, tName, qB, qCons, qNil, len1, lenD, hlen, hp, hv, intD, modD, tIx, ixOf, hm, addI, sNext, geD, mVar, hpow]
        simp at hb
        simp [hb, sAsg, tIx, pVar, qC, ixOf, ix4, hm, addI, intD, modD, mVar, isF, mQ, q2, qB, qCons, qNil]
      · refine ⟨p + 1, 0, (s * 48271 + v + 13).fmod 2147483647, some (.int v), ?_, hd⟩
        simp [m_draw1, sSeq, sIf, tAnd', mT, m2, mQ, qF, q2, pVar, qC, ix4, isF, frz, eqD, okd, deq, ltD, sAsg, tName, qB, qCons, qNil, len1, lenD, hlen, hp, hv, intD, modD, tIx, ixOf, hm, addI, sNext, geD, mVar, hpow]
        simp at hb
        have hb' : ¬ (1000000000000000000 ≤ v) := by omega
        simp [hb', sAsg, tIx, pVar, qC, ixOf, ix4, hm, addI, intD, modD, mVar, isF, mQ, q2, qB, qCons, qNil]
    · refine ⟨p, 0, s, none, ?_, h⟩
      simp [m_draw1, sSeq, sIf, tAnd', mT, m2, mQ, qF, q2, pVar, qC, ix4, isF, frz, eqD, okd, deq, ltD, qB, qCons, qNil, len1, lenD, hlen, hp, sNext]
  · refine ⟨p, c, s, none, ?_, h⟩
    simp [m_draw1, sSeq, sIf, tAnd', mT, m2, mQ, qF, q2, pVar, qC, ix4, isF, frz, eqD, okd, deq, hc, sNext]
theorem draw_ok {ns : List Int} {p c s l : Int} (h : DOk p s) (hl : 0 < l) (hl2 : l < 2 ^ 60) : ∃ v p' c' s', c__law_draw [dst ns p c s, .int l] = .ok (.int v) [dst ns p' c' s'] ∧ 0 ≤ v ∧ v < l ∧ DOk p' s' := by
  obtain ⟨p1, c1, s1, x, e1, h1⟩ := draw1 (ns := ns) (c := c) (L := .int l) h
  obtain ⟨v, c2, s2, x', y', e, h3, h4, h5⟩ := draw2 (ns := ns) (c := c1) (x := x) (y := none) h1 hl hl2
  refine ⟨v, p1, c2, s2, ?_, h3, h4, h5⟩
  have e0 : c__law_draw [dst ns p c s, .int l] = (match ((m_draw1 [some (dst ns p c s), some (.int l), none, none]).then m_draw2) with
      | .nx σ => endOf [0] .non σ
      | .ret d σ => endOf [0] d σ
      | .exc x _ => .exc x
      | _ => COut.bad) := rfl
  rw [e0, e1, OutS.then_nx, e]
  rfl
end K79

/-! K79d: closes. -/
namespace K79
open PySem FS
def putI (acc : List Int) (k : Int) : List Int := if (acc.any fun a => decide (a = k)) = true then acc else acc ++ [k]
def step (ks : List Int) (l : Int) : List Int := ks.foldl (fun acc p => putI (putI acc (p + l)) (p - l)) []
def iks (ks : List Int) : List Key := ks.map .inl
def reps (n : Nat) : List D := List.replicate n (.bl true)
def dkT (o : Bool) (ks : List Int) : D := .dk o (iks ks) (reps ks.length)
theorem any_iks (ks : List Int) (k : Int) : ((iks ks).any fun a => decide (a = .inl k)) = ks.any fun a => decide (a = k) := by
  unfold iks
  rw [List.any_map]
  congr 1
  funext a
  simp
theorem putKs_iks (ks : List Int) (k : Int) : putKs (iks ks) (.inl k) = iks (putI ks k) := by
  unfold putKs putI
  rw [any_iks]
  split
  · rfl
  · simp [iks]
theorem subV_reps {κ : Type} [DecidableEq κ] (k : κ) : ∀ (ks : List κ) (n : Nat), subV ks (reps n) k (.bl true) = reps n
  | [], n => by cases n <;> rfl
  | a :: ks, 0 => rfl
  | a :: ks, n + 1 => by
    show (if a = k then D.bl true else .bl true) :: subV ks (reps n) k (.bl true) = D.bl true :: reps n
    rw [subV_reps k ks n, ite_self]
theorem putVs_reps (ks : List Int) (k : Int) : putVs (iks ks) (reps ks.length) (.inl k) (.bl true) = reps (putI ks k).length := by
  unfold putVs putI
  rw [any_iks]
  split
  · rw [subV_reps]
  · rw [List.length_append]
    show List.replicate _ _ ++ [_] = List.replicate (ks.length + 1) _
    rw [List.replicate_succ']
theorem mem_putI {acc : List Int} {k x : Int} : x ∈ putI acc k ↔ x ∈ acc ∨ x = k := by
  unfold putI
  split
  · rename_i h
    obtain ⟨a, ha, e⟩ := List.any_eq_true.mp h
    have e' : a = k := of_decide_eq_true e
    constructor
    · exact .inl
    · rintro (h | h)
      · exact h
      · rw [h, ← e']; exact ha
  · simp
theorem putI_len (acc : List Int) (k : Int) : (putI acc k).length ≤ acc.length + 1 ∧ acc.length ≤ (putI acc k).length := by
  unfold putI
  split
  · omega
  · simp
theorem foldl_step {l : Int} : ∀ (ks acc : List Int) (x : Int), x ∈ ks.foldl (fun acc p => putI (putI acc (p + l)) (p - l)) acc ↔ x ∈ acc ∨ ∃ p ∈ ks, x = p + l ∨ x = p - l
  | [], acc, x => by simp
  | p :: ks, acc, x => by
    rw [List.foldl_cons, foldl_step ks]
    rw [mem_putI, mem_putI]
    simp only [List.mem_cons]
    constructor
    · rintro (((h | h) | h) | ⟨q, hq, h⟩)
      · exact .inl h
      · exact .inr ⟨p, .inl rfl, .inl h⟩
      · exact .inr ⟨p, .inl rfl, .inr h⟩
      · exact .inr ⟨q, .inr hq, h⟩
    · rintro (h | ⟨q, rfl | hq, h⟩)
      · exact .inl (.inl (.inl h))
      · rcases h with h | h
        · exact .inl (.inl (.inr h))
        · exact .inl (.inr h)
      · exact .inr ⟨q, hq, h⟩
theorem mem_step {ks : List Int} {l x : Int} : x ∈ step ks l ↔ ∃ p ∈ ks, x = p + l ∨ x = p - l := by
  unfold step
  rw [foldl_step]
  simp
theorem foldl_len {l : Int} : ∀ (ks acc : List Int), (ks.foldl (fun acc p => putI (putI acc (p + l)) (p - l)) acc).length ≤ acc.length + 2 * ks.length
  | [], acc => by simp
  | p :: ks, acc => by
    rw [List.foldl_cons]
    have := foldl_len (l := l) ks (putI (putI acc (p + l)) (p - l))
    have h1 := putI_len acc (p + l)
    have h2 := putI_len (putI acc (p + l)) (p - l)
    simp only [List.length_cons]
    omega
theorem step_len (ks : List Int) (l : Int) : (step ks l).length ≤ 2 * ks.length := by
  have := foldl_len (l := l) ks []
  unfold step
  simpa using this
/-- the second clause of the comprehension -/
abbrev q4 : DcIn := ⟨[4], (tName 4), tTrue, (mQ (q2 addI (pVar 3) (q2 mulD (pVar 4) (pVar 2)))), (mQ (qC (.bl true)))⟩
theorem inner {R W A B C : Option D} {l p : Int} {acc : List Int} (hl : -(2 ^ 60) < l ∧ l < 2 ^ 60) (hn : acc.length + 2 ≤ sz) :
    dcIn q4 [.int 1, .int (-1)] (iks acc) (reps acc.length) [R, W, some (.int l), some (.int p), none, A, B, C] = .ok (iks (putI (putI acc (p + l)) (p - l)), reps (putI (putI acc (p + l)) (p - l)).length) [R, W, some (.int l), some (.int p), none, A, B, C] := by
  have m1 := mulD_of (i := 1) (j := l) (small_abs (by decide) (by decide)) (small_abs (by omega) (by omega))
  have m2 := mulD_of (i := -1) (j := l) (small_abs (by decide) (by decide)) (small_abs (by omega) (by omega))
  have e1 : p + 1 * l = p + l := by omega
  have e2 : p + -1 * l = p - l := by omega
  have l1 : (iks acc).length < sz := by simp only [iks, List.length_map]; omega
  have h1 := putI_len acc (p + l)
  have l2 : (iks (putI acc (p + l))).length < sz := by simp only [iks, List.length_map]; omega
  have k1 : q4.ek [R, W, some (.int l), some (.int p), some (.int 1), A, B, C] = .ok (.int (p + l)) [R, W, some (.int l), some (.int p), some (.int 1), A, B, C] := by
    simp [q4, mQ, q2, pVar, m1, addI]
  have k2 : q4.ek [R, W, some (.int l), some (.int p), some (.int (-1)), A, B, C] = .ok (.int (p - l)) [R, W, some (.int l), some (.int p), some (.int (-1)), A, B, C] := by
    simp [q4, mQ, q2, pVar, m2, addI]
    omega
  rw [dcIn_cons (σ1 := [R, W, some (.int l), some (.int p), some (.int 1), A, B, C]) rfl rfl k1 (v := .bl true) rfl rfl l1, putKs_iks, show frz (.bl true) = .bl true from rfl, putVs_reps, show wipeD [R, W, some (.int l), some (.int p), some (.int 1), A, B, C] q4.vs1 = [R, W, some (.int l), some (.int p), none, A, B, C] from rfl]
  rw [dcIn_cons (σ1 := [R, W, some (.int l), some (.int p), some (.int (-1)), A, B, C]) rfl rfl k2 (v := .bl true) rfl rfl l2, putKs_iks, show frz (.bl true) = .bl true from rfl, putVs_reps, show wipeD [R, W, some (.int l), some (.int p), some (.int (-1)), A, B, C] q4.vs1 = [R, W, some (.int l), some (.int p), none, A, B, C] from rfl]
  rfl
abbrev src1 : M (List D) := iSeq (mTup (mAll [(mQ (qC (.int 1))), (mQ (q1 negD (qC (.int 1))))]))
theorem outer {R W A B C : Option D} {l : Int} (hl : -(2 ^ 60) < l ∧ l < 2 ^ 60) : ∀ (ks acc : List Int), acc.length + 2 * ks.length + 2 ≤ sz →
    dcOut [3, 4] (tName 3) tTrue src1 q4 (ks.map .int) (iks acc) (reps acc.length) [R, W, some (.int l), none, none, A, B, C] =
      .ok (iks (ks.foldl (fun acc p => putI (putI acc (p + l)) (p - l)) acc), reps (ks.foldl (fun acc p => putI (putI acc (p + l)) (p - l)) acc).length) [R, W, some (.int l), none, none, A, B, C]
  | [], acc, h => rfl
  | p :: ks, acc, h => by
    rw [List.map_cons, List.foldl_cons]
    have h0 := inner (R := R) (W := W) (A := A) (B := B) (C := C) (l := l) (p := p) (acc := acc) hl (by omega)
    have h1 := putI_len acc (p + l)
    have h2 := putI_len (putI acc (p + l)) (p - l)
    have ih := outer (R := R) (W := W) (A := A) (B := B) (C := C) hl ks (putI (putI acc (p + l)) (p - l)) (by simp only [List.length_cons] at h; omega)
    unfold dcOut
    have e1 : tName 3 (.int p) [R, W, some (.int l), none, none, A, B, C] = some [R, W, some (.int l), some (.int p), none, A, B, C] := rfl
    rw [e1]
    dsimp only [tTrue]
    have e2 : src1 [R, W, some (.int l), some (.int p), none, A, B, C] = .ok [.int 1, .int (-1)] [R, W, some (.int l), some (.int p), none, A, B, C] := rfl
    rw [e2]
    dsimp only
    have e3 : wipeD [R, W, some (.int l), some (.int p), none, A, B, C] q4.vs1 = [R, W, some (.int l), some (.int p), none, A, B, C] := rfl
    rw [e3, h0]
    exact ih
/-! ### the loop over the links -/
def prs (K : List Int) : List Int → List (List Int × Int)
  | [] => []
  | l :: ns => (K, l) :: prs (step K l) ns
abbrev lvl (x : List Int × Int) : D := dkT false x.1
def rows (K : List Int) (ns : List Int) : List D := (prs K ns).map lvl ++ [dkT false (ns.foldl step K)]
theorem ix_last (rs : List D) (d : D) (o : Bool) : ixD (.lst o (rs ++ [d])) (.int (-1)) = some d := by
  show (ixOf (rs ++ [d]).length (-1)).bind (fun j => (rs ++ [d])[j]?) = some d
  have h : ixOf (rs ++ [d]).length (-1) = some rs.length := by
    unfold ixOf
    rw [if_neg (by decide), if_pos (by simp; omega)]
    congr 1
    simp
    omega
  rw [h]
  simp
theorem kDs_iks (ks : List Int) : kDs (iks ks) = ks.map .int := by
  unfold kDs iks
  rw [List.map_map]; rfl
theorem frzs_reps : ∀ n, frzs (reps n) = reps n
  | 0 => rfl
  | n + 1 => by
    show frz (.bl true) :: frzs (reps n) = D.bl true :: reps n
    rw [frzs_reps n]; rfl
abbrev bodyR : MS := (sApp 1 (mFz (mDc2 [3, 4] (tName 3) (iKeys' (q2 ixD (pVar 1) (q1 negD (qC (.int 1))))) tTrue src1 q4)))
theorem turnR {R A B C : Option D} {l : Int} {rs : List D} {K : List Int} (hl : -(2 ^ 60) < l ∧ l < 2 ^ 60) (hk : 2 * K.length + 2 ≤ sz) (hr : rs.length + 1 < sz) :
    bodyR [R, some (.lst true (rs ++ [dkT false K])), some (.int l), none, none, A, B, C] = .nx [R, some (.lst true ((rs ++ [dkT false K]) ++ [dkT false (step K l)])), some (.int l), none, none, A, B, C] := by
  have e1 : mFz (mDc2 [3, 4] (tName 3) (iKeys' (q2 ixD (pVar 1) (q1 negD (qC (.int 1))))) tTrue src1 q4) [R, some (.lst true (rs ++ [dkT false K])), some (.int l), none, none, A, B, C] = .ok (dkT false (step K l)) [R, some (.lst true (rs ++ [dkT false K])), some (.int l), none, none, A, B, C] := by
    have e2 : iKeys' (q2 ixD (pVar 1) (q1 negD (qC (.int 1)))) [R, some (.lst true (rs ++ [dkT false K])), some (.int l), none, none, A, B, C] = .ok (K.map .int) [R, some (.lst true (rs ++ [dkT false K])), some (.int l), none, none, A, B, C] := by
      unfold iKeys'
      have : q2 ixD (pVar 1) (q1 negD (qC (.int 1))) [R, some (.lst true (rs ++ [dkT false K])), some (.int l), none, none, A, B, C] = some (dkT false K) := ix_last rs _ true
      rw [this]
      show Out.ok (kDs (iks K)) _ = _
      rw [kDs_iks]
    unfold mFz mDc2
    rw [e2, Out.then_ok]
    have e3 : wipeD [R, some (.lst true (rs ++ [dkT false K])), some (.int l), none, none, A, B, C] [3, 4] = [R, some (.lst true (rs ++ [dkT false K])), some (.int l), none, none, A, B, C] := rfl
    rw [e3]
    have := outer (R := R) (W := some (.lst true (rs ++ [dkT false K]))) (A := A) (B := B) (C := C) hl K [] (by simp; omega)
    rw [show dcOut [3, 4] (tName 3) tTrue src1 q4 (K.map .int) [] [] = dcOut [3, 4] (tName 3) tTrue src1 q4 (K.map .int) (iks []) (reps ([] : List Int).length) from rfl, this]
    show (Out.ok (frz (.dk true (iks (step K l)) (reps (step K l).length))) _) = _
    rw [frz, frzs_reps]
    rfl
  show sApp 1 _ _ = _
  unfold sApp
  simp only [at?_succ, at?_zero]
  rw [e1]
  simp only [Out.thenS_ok, at?_succ, at?_zero]
  rw [if_pos (by simpa using hr)]
  rfl
theorem loopR {R A B C : Option D} : ∀ (ns : List Int) (rs : List D) (K : List Int) (x : Option D), (∀ l ∈ ns, -(2 ^ 60) < l ∧ l < 2 ^ 60) → 2 ^ ns.length * (2 * K.length + 2) ≤ sz → rs.length + ns.length + 1 < sz → ∃ x',
    forL (tName 2) bodyR (ns.map .int) [R, some (.lst true (rs ++ [dkT false K])), x, none, none, A, B, C] = .nx [R, some (.lst true (rs ++ rows K ns)), x', none, none, A, B, C]
  | [], rs, K, x, _, _, _ => ⟨x, rfl⟩
  | l :: ns, rs, K, x, h, hk, hr => by
    have hl := h l List.mem_cons_self
    have hk2 : 2 * K.length + 2 ≤ sz := by
      refine Nat.le_trans ?_ hk
      exact Nat.le_mul_of_pos_left _ (Nat.two_pow_pos _)
    have t := turnR (R := R) (A := A) (B := B) (C := C) (rs := rs) (K := K) hl hk2 (by simp only [List.length_cons] at hr; omega)
    have hs := step_len K l
    obtain ⟨x', ih⟩ := loopR (R := R) (A := A) (B := B) (C := C) ns (rs ++ [dkT false K]) (step K l) (some (.int l)) (fun y hy => h y (List.mem_cons_of_mem _ hy)) (by
      refine Nat.le_trans ?_ hk
      rw [List.length_cons, Nat.pow_succ, Nat.mul_assoc]
      exact Nat.mul_le_mul_left _ (by omega)) (by simp only [List.length_append, List.length_cons, List.length_nil] at hr ⊢; omega)
    refine ⟨x', ?_⟩
    rw [List.map_cons]
    unfold forL
    have e1 : tName 2 (.int l) [R, some (.lst true (rs ++ [dkT false K])), x, none, none, A, B, C] = some [R, some (.lst true (rs ++ [dkT false K])), some (.int l), none, none, A, B, C] := rfl
    rw [e1]
    dsimp only
    rw [t]
    dsimp only
    rw [ih]
    simp [rows, prs]
end K79

/-! K79e: closes, the way back. -/
namespace K79
open PySem FS
def inI (ks : List Int) (x : Int) : Bool := ks.any fun a => decide (a = x)
theorem inI_iff {ks : List Int} {x : Int} : inI ks x = true ↔ x ∈ ks := by
  unfold inI
  rw [List.any_eq_true]
  constructor
  · rintro ⟨a, ha, e⟩; rw [← (of_decide_eq_true e : a = x)]; exact ha
  · intro h; exact ⟨x, h, by simp⟩
def sd (h : Int) (x : List Int × Int) : Int := if inI x.1 (h - x.2) = true then 1 else -1
def backF : Int → List (List Int × Int) → List Int
  | _, [] => []
  | h, x :: r => sd h x :: backF (h - sd h x * x.2) r
def here : Int → List (List Int × Int) → Int
  | h, [] => h
  | h, x :: r => here (h - sd h x * x.2) r
theorem backF_append : ∀ (h : Int) (a b : List (List Int × Int)), backF h (a ++ b) = backF h a ++ backF (here h a) b
  | h, [], b => rfl
  | h, x :: a, b => by
    show sd h x :: backF _ (a ++ b) = sd h x :: (backF _ a ++ _)
    rw [backF_append]; rfl
theorem here_append : ∀ (h : Int) (a b : List (List Int × Int)), here h (a ++ b) = here (here h a) b
  | h, [], b => rfl
  | h, x :: a, b => by
    show here _ (a ++ b) = here (here _ a) b
    rw [here_append]
theorem backF_len : ∀ (h : Int) (a : List (List Int × Int)), (backF h a).length = a.length
  | _, [] => rfl
  | h, x :: a => by
    show (backF _ a).length + 1 = _
    rw [backF_len]; rfl
theorem backF_pm : ∀ (h : Int) (a : List (List Int × Int)), ∀ s ∈ backF h a, s = 1 ∨ s = -1
  | _, [], s, hs => by cases hs
  | h, x :: a, s, hs => by
    rcases List.mem_cons.mp hs with rfl | hs
    · unfold sd; split
      · exact .inl rfl
      · exact .inr rfl
    · exact backF_pm _ a s hs
def dot (ss ls : List Int) : Int := (List.zipWith (fun s l => s * l) ss ls).sum
theorem dot_append : ∀ (a c b d : List Int), a.length = c.length → dot (a ++ b) (c ++ d) = dot a c + dot b d
  | [], [], b, d, _ => by simp [dot]
  | x :: a, y :: c, b, d, h => by
    have := dot_append a c b d (by simpa using h)
    simp only [dot, List.cons_append, List.zipWith_cons_cons, List.sum_cons] at this ⊢
    omega
  | [], _ :: _, _, _, h => by simp at h
  | _ :: _, [], _, _, h => by simp at h
theorem prs_len : ∀ (K ns : List Int), (prs K ns).length = ns.length
  | _, [] => rfl
  | K, l :: ns => by
    show (prs (step K l) ns).length + 1 = _
    rw [prs_len]; rfl
theorem prs_snd : ∀ (K ns : List Int), (prs K ns).map (·.2) = ns
  | _, [] => rfl
  | K, l :: ns => by
    show l :: (prs (step K l) ns).map (·.2) = _
    rw [prs_snd]
theorem dot_rev : ∀ (h : Int) (a : List (List Int × Int)), here h a = h - dot (backF h a) (a.map (·.2))
  | h, [] => by simp [here, dot, backF]
  | h, x :: a => by
    have := dot_rev (h - sd h x * x.2) a
    show here (h - sd h x * x.2) a = h - dot (sd h x :: backF (h - sd h x * x.2) a) (x.2 :: a.map (·.2))
    rw [this]
    simp only [dot, List.zipWith_cons_cons, List.sum_cons]
    omega
/-- the way back stays within what is reached -/
theorem back_in : ∀ (ns K : List Int) (h : Int), h ∈ ns.foldl step K → here h (prs K ns).reverse ∈ K
  | [], K, h, hh => hh
  | l :: ns, K, h, hh => by
    have ih := back_in ns (step K l) h hh
    show here h ((K, l) :: prs (step K l) ns).reverse ∈ K
    rw [List.reverse_cons, here_append]
    generalize here h (prs (step K l) ns).reverse = g at ih
    obtain ⟨p, hp, e⟩ := mem_step.mp ih
    show g - sd g (K, l) * l ∈ K
    unfold sd
    dsimp only
    by_cases hi : inI K (g - l) = true
    · rw [if_pos hi]
      have := inI_iff.mp hi
      rw [show g - 1 * l = g - l by omega]
      exact this
    · rw [if_neg hi]
      rcases e with e | e
      · exfalso
        refine hi (inI_iff.mpr ?_)
        rw [e, show p + l - l = p by omega]
        exact hp
      · rw [e, show p - l - -1 * l = p by omega]
        exact hp
/-- the folds told -/
def folds (ns : List Int) : List Int := (backF 0 (prs [0] ns).reverse).reverse
theorem folds_len (ns : List Int) : (folds ns).length = ns.length := by
  unfold folds
  rw [List.length_reverse, backF_len, List.length_reverse, prs_len]
theorem folds_pm (ns : List Int) : ∀ s ∈ folds ns, s = 1 ∨ s = -1 := fun s hs => backF_pm _ _ s (List.mem_reverse.mp hs)
theorem dot_reverse : ∀ (a b : List Int), a.length = b.length → dot a.reverse b.reverse = dot a b
  | [], [], _ => rfl
  | x :: a, y :: b, h => by
    have hl : a.length = b.length := by simpa using h
    rw [List.reverse_cons, List.reverse_cons, dot_append _ _ _ _ (by simp [hl]), dot_reverse a b hl]
    simp only [dot, List.zipWith_cons_cons, List.sum_cons, List.zipWith_nil_left, List.sum_nil]
    omega
  | [], _ :: _, h => by simp at h
  | _ :: _, [], h => by simp at h
theorem folds_sum {ns : List Int} (h : (0 : Int) ∈ ns.foldl step [0]) : dot (folds ns) ns = 0 := by
  have h1 := back_in ns [0] 0 h
  rw [dot_rev] at h1
  have h2 : 0 - dot (backF 0 (prs [0] ns).reverse) ((prs [0] ns).reverse.map (·.2)) = 0 := by simpa using h1
  have h3 : (prs [0] ns).reverse.map (·.2) = ns.reverse := by rw [List.map_reverse, prs_snd]
  rw [h3] at h2
  have h4 := dot_reverse (backF 0 (prs [0] ns).reverse) ns.reverse (by rw [backF_len, List.length_reverse, List.length_reverse, prs_len])
  rw [List.reverse_reverse] at h4
  unfold folds
  rw [h4]
  omega
/-! ### the loop -/
abbrev bodyB : MS := (sSeq (sAsg (tName 4) (mIf (mT (m2 inD (mQ (q2 subD (pVar 5) (q2 ixD (pVar 0) (pVar 7)))) (mQ (qF (q2 ixD (pVar 1) (pVar 7)))))) (mQ (qC (.int 1))) (mQ (q1 negD (qC (.int 1))))))
 (sSeq (sApp 6 (mVar 4))
 (sAsg (tName 5) (mQ (q2 subD (pVar 5) (q2 mulD (pVar 4) (q2 ixD (pVar 0) (pVar 7))))))))
theorem isF_reps : ∀ n, isFs (reps n) = true
  | 0 => rfl
  | n + 1 => by
    show (true && isFs (reps n)) = true
    rw [isF_reps n]; rfl
theorem in_dkT (o : Bool) (ks : List Int) (x : Int) : inD (.int x) (dkT o ks) = some (.bl (inI ks x)) := by
  show (Option.map (fun k => (iks ks).any fun a => decide (a = k)) (some (Sum.inl x))).map D.bl = _
  simp only [Option.map]
  rw [any_iks]; rfl
theorem ixNat {xs : List D} {o : Bool} {d : D} {i : Nat} (h : xs[i]? = some d) : ixD (.lst o xs) (.int i) = some d ∧ ixD (.tup xs) (.int i) = some d := by
  have hl : i < xs.length := (List.getElem?_eq_some_iff.mp h).1
  have e : ixOf xs.length (i : Int) = some i := by
    unfold ixOf
    rw [if_pos (by omega), if_pos (by omega)]
    simp
  constructor
  · show (ixOf xs.length (i : Int)).bind (fun j => xs[j]?) = some d
    rw [e]; exact h
  · show (ixOf xs.length (i : Int)).bind (fun j => xs[j]?) = some d
    rw [e]; exact h
theorem turnB {ns : List Int} {RS : List D} {x2 x3 x4 : Option D} {h : Int} {fs : List D} {m : Nat} {K : List Int} {l : Int} (h1 : (ns.map D.int)[m]? = some (.int l)) (h2 : RS[m]? = some (dkT false K)) (hl : -(2 ^ 60) < l ∧ l < 2 ^ 60) (hf : fs.length < sz) :
    bodyB [some (tn ns), some (.lst true RS), x2, x3, x4, some (.int h), some (.lst true fs), some (.int m)] =
      .nx [some (tn ns), some (.lst true RS), x2, x3, some (.int (sd h (K, l))), some (.int (h - sd h (K, l) * l)), some (.lst true (fs ++ [.int (sd h (K, l))])), some (.int m)] := by
  have i1 := (ixNat (o := true) h1).2
  have i2 := (ixNat (o := true) h2).1
  have hFk : isF (dkT false K) = true := by show (!false && isFs (reps K.length)) = true; rw [isF_reps]; rfl
  have hFz : frz (dkT false K) = dkT false K := frz_of _ hFk
  have s1 : sAsg (tName 4) (mIf (mT (m2 inD (mQ (q2 subD (pVar 5) (q2 ixD (pVar 0) (pVar 7)))) (mQ (qF (q2 ixD (pVar 1) (pVar 7)))))) (mQ (qC (.int 1))) (mQ (q1 negD (qC (.int 1))))) [some (tn ns), some (.lst true RS), x2, x3, x4, some (.int h), some (.lst true fs), some (.int m)] =
      .nx [some (tn ns), some (.lst true RS), x2, x3, some (.int (sd h (K, l))), some (.int h), some (.lst true fs), some (.int m)] := by
    by_cases hi : inI K (h - l) = true
    · have e : sd h (K, l) = 1 := by unfold sd; rw [if_pos hi]
      rw [e]
      simp [sAsg, mIf, mT, m2, mQ, q2, pVar, qF, i1, i2, subD, hFk, hFz, frz, in_dkT, hi, qC, tName]
    · have e : sd h (K, l) = -1 := by unfold sd; rw [if_neg hi]
      rw [e]
      have hi' : inI K (h - l) = false := by simpa using hi
      simp [sAsg, mIf, mT, m2, mQ, q2, pVar, qF, i1, i2, subD, hFk, hFz, frz, in_dkT, hi', qC, tName, q1, negD]
  have hsd : sd h (K, l) = 1 ∨ sd h (K, l) = -1 := by
    unfold sd; split
    · exact .inl rfl
    · exact .inr rfl
  have hm : mulD (.int (sd h (K, l))) (.int l) = some (.int (sd h (K, l) * l)) := mulD_of (small_abs (by omega) (by omega)) (small_abs (by omega) (by omega))
  show (sAsg _ _ _).then _ = _
  rw [s1, OutS.then_nx]
  generalize sd h (K, l) = s at hm
  simp [sSeq, sApp, mVar, isF, hf, sAsg, mQ, q2, pVar, i1, hm, subD, tName]
theorem loopB {ns : List Int} {RS : List D} {P : List (List Int × Int)} (hP1 : P.map (·.2) = ns) (hP2 : ∀ m, m < P.length → RS[m]? = some (dkT false (P.getD m ([], 0)).1)) (hb : ∀ l ∈ ns, -(2 ^ 60) < l ∧ l < 2 ^ 60) :
    ∀ (m : Nat) (x2 x3 x4 x7 : Option D) (h : Int) (fs : List D), m ≤ P.length → fs.length + m ≤ sz → ∃ y4 y5 y7,
      forL (tName 7) bodyB (idown ((m : Int) - 1) m) [some (tn ns), some (.lst true RS), x2, x3, x4, some (.int h), some (.lst true fs), x7] =
        .nx [some (tn ns), some (.lst true RS), x2, x3, y4, y5, some (.lst true (fs ++ (backF h (P.take m).reverse).map .int)), y7]
  | 0, x2, x3, x4, x7, h, fs, _, _ => ⟨x4, some (.int h), x7, by simp [idown, forL, backF]⟩
  | m + 1, x2, x3, x4, x7, h, fs, hm, hz => by
    have hlt : m < P.length := by omega
    have e1 : idown (((m + 1 : Nat) : Int) - 1) (m + 1) = .int m :: idown ((m : Int) - 1) m := by
      unfold idown
      rw [List.range_succ_eq_map, List.map_cons, List.map_map]
      congr 1
      · congr 1; simp
      · refine List.map_congr_left fun k _ => ?_
        show D.int _ = D.int _
        congr 1
        simp
        omega
    have hl : ns[m]? = some (P.getD m ([], 0)).2 := by
      rw [← hP1, List.getElem?_map, List.getElem?_eq_getElem hlt]
      simp [List.getD_eq_getElem?_getD, List.getElem?_eq_getElem hlt]
    have h1 : (ns.map D.int)[m]? = some (.int (P.getD m ([], 0)).2) := by rw [List.getElem?_map, hl]; rfl
    have t := turnB (x2 := x2) (x3 := x3) (x4 := x4) (h := h) (fs := fs) h1 (hP2 m hlt) (hb _ (List.mem_of_getElem? hl)) (by omega)
    have e2 : (P.take (m + 1)).reverse = P.getD m ([], 0) :: (P.take m).reverse := by
      rw [List.take_succ, List.getElem?_eq_getElem hlt]
      simp [List.getD_eq_getElem?_getD, List.getElem?_eq_getElem hlt]
    obtain ⟨y4, y5, y7, ih⟩ := loopB hP1 hP2 hb m x2 x3 (some (.int (sd h (P.getD m ([], 0))))) (some (.int m)) (h - sd h (P.getD m ([], 0)) * (P.getD m ([], 0)).2) (fs ++ [.int (sd h (P.getD m ([], 0)))]) (by omega) (by simp; omega)
    refine ⟨y4, y5, y7, ?_⟩
    rw [e1]
    unfold forL
    have e3 : tName 7 (.int m) [some (tn ns), some (.lst true RS), x2, x3, x4, some (.int h), some (.lst true fs), x7] = some [some (tn ns), some (.lst true RS), x2, x3, x4, some (.int h), some (.lst true fs), some (.int m)] := rfl
    rw [e3]
    dsimp only
    rw [t]
    dsimp only
    rw [ih, e2]
    show OutS.nx [_, _, _, _, _, _, some (D.lst true _), _] = OutS.nx [_, _, _, _, _, _, some (D.lst true _), _]
    rw [List.append_assoc]
    rfl
/-! ### closes -/
structure Fit (ns : List Int) : Prop where
  good : Good ns
  few : ns.length ≤ 20
  low : ∀ n ∈ ns, n < 2 ^ 40
  room : ns.sum * ns.length ≤ 200000
theorem sum_nonneg : ∀ {ns : List Int}, (∀ n ∈ ns, 0 < n) → 0 ≤ ns.sum ∧ ∀ n ∈ ns, n ≤ ns.sum
  | [], _ => ⟨by simp, fun n h => nomatch h⟩
  | x :: ns, h => by
    obtain ⟨a, b⟩ := sum_nonneg (ns := ns) fun n hn => h n (List.mem_cons_of_mem _ hn)
    have hx := h x List.mem_cons_self
    rw [List.sum_cons]
    refine ⟨by omega, fun n hn => ?_⟩
    rcases List.mem_cons.mp hn with rfl | hn
    · omega
    · have := b n hn; omega
abbrev R1 : MS := (sFor (tName 2) (iSeq (mVar 0)) bodyR)
abbrev R2 : MS := (sFor (tName 7) (iArgs rng3 (mAll [(mQ (q2 subD (qB len1 (qCons (pVar 0) qNil)) (qC (.int 1)))), (mQ (q1 negD (qC (.int 1)))), (mQ (q1 negD (qC (.int 1))))])) bodyB)
theorem rows_get {K ns : List Int} {m : Nat} (h : m < (prs K ns).length) : (rows K ns)[m]? = some (dkT false ((prs K ns).getD m ([], 0)).1) := by
  unfold rows
  rw [List.getElem?_append_left (by simpa using h), List.getElem?_map, List.getElem?_eq_getElem h]
  simp [List.getD_eq_getElem?_getD, List.getElem?_eq_getElem h]
theorem closes_ok {ns : List Int} (h : Fit ns) : c_closes [tn ns] = .ok (if (0 : Int) ∈ ns.foldl step [0] then tn (folds ns) else .non) [] := by
  obtain ⟨sn, sm⟩ := sum_nonneg h.good.pos
  have h0 := h.good.len
  have hlen : (ns.map D.int).length = ns.length := List.length_map ..
  have hs : ns.sum ≤ 200000 := by
    have h1 := h.room
    have h2 : ns.sum * 1 ≤ ns.sum * ns.length := Int.mul_le_mul_of_nonneg_left (by omega) sn
    omega
  have hmul : mulD (.int ns.sum) (.int ns.length) = some (.int (ns.sum * ns.length)) := mulD_of (small_abs (by omega) (by omega)) (small_abs (by omega) (by have := h.few; omega))
  have hb : ∀ l ∈ ns, -(2 ^ 60) < l ∧ l < 2 ^ 60 := fun l hl => by
    have := h.good.pos l hl
    have := h.low l hl
    omega
  have hroom : ¬ (200000 < ns.sum * (ns.length : Int)) := by have := h.room; omega
  -- the statements
  have s1 : sExp (mCall c_look_at_ruler [.val (mVar 0)]) [some (tn ns), none, none, none, none, none, none, none] = .nx [some (tn ns), none, none, none, none, none, none, none] := by
    simp [sExp, mCall, mArgs, mVar, look_ok h.good, lent, backs]
  have s2 : (sIf (mT (m2 gtD (mQ (q2 mulD (qB sumD (qCons (pVar 0) qNil)) (qB len1 (qCons (pVar 0) qNil)))) (mQ (qC (.int 200000)))))
 (sRaise "Refused" ["word"] (mAll [(mQ (qC (.str "room")))]))
 sNext) [some (tn ns), none, none, none, none, none, none, none] = .nx [some (tn ns), none, none, none, none, none, none, none] := by
    simp [sIf, mT, m2, mQ, q2, qB, qCons, qNil, pVar, qC, sumD, ints?_map, len1, lenD, hmul, frz, gtD, hroom, sNext]
  have s3 : sAsg (tName 1) (mLst (mAll [(mFz (mDisp1 (mQ (qC (.int 0))) (mQ (qC (.bl true)))))])) [some (tn ns), none, none, none, none, none, none, none] = .nx [some (tn ns), some (.lst true ([] ++ [dkT false [0]])), none, none, none, none, none, none] := rfl
  obtain ⟨x', l1⟩ := loopR (R := some (tn ns)) (A := none) (B := none) (C := none) ns [] [0] none hb (by
    have : 2 ^ ns.length ≤ 2 ^ 20 := Nat.pow_le_pow_right (by decide) h.few
    simp only [List.length_cons, List.length_nil]
    unfold sz
    omega) (by have := h.few; unfold sz; simp; omega)
  have s4 : R1 [some (tn ns), some (.lst true ([] ++ [dkT false [0]])), none, none, none, none, none, none] = .nx [some (tn ns), some (.lst true (rows [0] ns)), x', none, none, none, none, none] := by
    unfold R1 sFor
    have : iSeq (mVar 0) [some (tn ns), some (.lst true ([] ++ [dkT false [0]])), none, none, none, none, none, none] = .ok (ns.map .int) [some (tn ns), some (.lst true ([] ++ [dkT false [0]])), none, none, none, none, none, none] := by
      simp [iSeq, mVar, items]
    rw [this, Out.thenS_ok, if_pos (by rw [hlen]; have := h.few; unfold sz; omega), l1]
    rfl
  have hlast : ixD (.lst true (rows [0] ns)) (.int (-1)) = some (dkT false (ns.foldl step [0])) := ix_last _ _ _
  have hFk : ∀ K : List Int, isF (dkT false K) = true := fun K => by show (!false && isFs (reps K.length)) = true; rw [isF_reps]; rfl
  have hFz : ∀ K : List Int, frz (dkT false K) = dkT false K := fun K => frz_of _ (hFk K)
  have hin : notInD (.int 0) (dkT false (ns.foldl step [0])) = some (.bl (!inI (ns.foldl step [0]) 0)) := by
    have := in_dkT false (ns.foldl step [0]) 0
    unfold inD at this
    unfold notInD
    cases e : inB (.int 0) (dkT false (ns.foldl step [0])) with
    | none => rw [e] at this; cases this
    | some b =>
      rw [e] at this
      have e2 : b = inI (ns.foldl step [0]) 0 := by simpa using this
      rw [e2]; rfl
  have s5 : (sIf (mT (m2 notInD (mQ (qC (.int 0))) (mQ (qF (q2 ixD (pVar 1) (q1 negD (qC (.int 1))))))))
 (sRet (mQ (qC .non)))
 sNext) [some (tn ns), some (.lst true (rows [0] ns)), x', none, none, none, none, none] = if inI (ns.foldl step [0]) 0 = true then .nx [some (tn ns), some (.lst true (rows [0] ns)), x', none, none, none, none, none] else .ret .non [some (tn ns), some (.lst true (rows [0] ns)), x', none, none, none, none, none] := by
    by_cases hi : inI (ns.foldl step [0]) 0 = true
    · rw [if_pos hi]
      rw [hi] at hin
      simp [sIf, mT, m2, mQ, qC, qF, q2, pVar, q1, negD, hlast, hFk, hFz, frz, hin, sNext]
    · rw [if_neg hi]
      have hi' : inI (ns.foldl step [0]) 0 = false := by simpa using hi
      rw [hi'] at hin
      simp [sIf, mT, m2, mQ, qC, qF, q2, pVar, q1, negD, hlast, hFk, hFz, frz, hin, sRet]
  have e0 : c_closes [tn ns] = (match (sExp (mCall c_look_at_ruler [.val (mVar 0)]) [some (tn ns), none, none, none, none, none, none, none]).then (fun σ => ((sIf (mT (m2 gtD (mQ (q2 mulD (qB sumD (qCons (pVar 0) qNil)) (qB len1 (qCons (pVar 0) qNil)))) (mQ (qC (.int 200000)))))
 (sRaise "Refused" ["word"] (mAll [(mQ (qC (.str "room")))]))
 sNext) σ).then fun σ => (sAsg (tName 1) (mLst (mAll [(mFz (mDisp1 (mQ (qC (.int 0))) (mQ (qC (.bl true)))))])) σ).then fun σ => (R1 σ).then fun σ => ((sIf (mT (m2 notInD (mQ (qC (.int 0))) (mQ (qF (q2 ixD (pVar 1) (q1 negD (qC (.int 1))))))))
 (sRet (mQ (qC .non)))
 sNext) σ).then fun σ => (sAsg (tName 5) (mQ (qC (.int 0))) σ).then fun σ => (sAsg (tName 6) (mLst (mAll [])) σ).then fun σ => (R2 σ).then (sRet (mB tupleD (mAll [(m1 revD (mVar 6))])))) with
      | .nx σ => endOf [] .non σ
      | .ret d σ => endOf [] d σ
      | .exc x _ => .exc x
      | _ => COut.bad) := rfl
  rw [e0, s1, OutS.then_nx, s2, OutS.then_nx, s3, OutS.then_nx, s4, OutS.then_nx, s5]
  by_cases hi : inI (ns.foldl step [0]) 0 = true
  · rw [if_pos hi, if_pos (inI_iff.mp hi), OutS.then_nx]
    have s6 : sAsg (tName 5) (mQ (qC (.int 0))) [some (tn ns), some (.lst true (rows [0] ns)), x', none, none, none, none, none] = .nx [some (tn ns), some (.lst true (rows [0] ns)), x', none, none, some (.int 0), none, none] := rfl
    have s7 : sAsg (tName 6) (mLst (mAll [])) [some (tn ns), some (.lst true (rows [0] ns)), x', none, none, some (.int 0), none, none] = .nx [some (tn ns), some (.lst true (rows [0] ns)), x', none, none, some (.int 0), some (.lst true []), none] := rfl
    have hpl := prs_len [0] ns
    obtain ⟨y4, y5, y7, l2⟩ := loopB (ns := ns) (RS := rows [0] ns) (P := prs [0] ns) (prs_snd _ _) (fun m hm => rows_get hm) hb ns.length x' none none none 0 [] (by omega) (by have := h.few; unfold sz; simp; omega)
    rw [List.take_of_length_le (by omega)] at l2
    have s8 : R2 [some (tn ns), some (.lst true (rows [0] ns)), x', none, none, some (.int 0), some (.lst true []), none] = .nx [some (tn ns), some (.lst true (rows [0] ns)), x', none, y4, y5, some (.lst true ((backF 0 (prs [0] ns).reverse).map .int)), y7] := by
      unfold R2 sFor
      have hr : -(2 ^ 62) ≤ (ns.length : Int) - 1 ∧ (ns.length : Int) - 1 < 2 ^ 62 := by have := h.few; omega
      have : iArgs rng3 (mAll [(mQ (q2 subD (qB len1 (qCons (pVar 0) qNil)) (qC (.int 1)))), (mQ (q1 negD (qC (.int 1)))), (mQ (q1 negD (qC (.int 1))))]) [some (tn ns), some (.lst true (rows [0] ns)), x', none, none, some (.int 0), some (.lst true []), none] = .ok (idown ((ns.length : Int) - 1) ns.length) [some (tn ns), some (.lst true (rows [0] ns)), x', none, none, some (.int 0), some (.lst true []), none] := by
        have e1 : ((ns.length : Int) - 1 - -1).toNat = ns.length := by omega
        have e2 : rng3 [.int ((ns.length : Int) - 1), .int (-1), .int (-1)] = some (idown ((ns.length : Int) - 1) ns.length) := by
          show (if (-1 : Int) = -1 ∧ _ then some (idown ((ns.length : Int) - 1) ((ns.length : Int) - 1 - -1).toNat) else none) = _
          rw [if_pos ⟨rfl, hr.1, hr.2, by decide, by decide⟩, e1]
        simp [iArgs, mAll, mQ, q2, qB, qCons, qNil, pVar, len1, lenD, qC, subD, q1, negD, frzs, frz, e2]
      rw [this, Out.thenS_ok, if_pos (by unfold idown; rw [List.length_map, List.length_range]; have := h.few; unfold sz; omega), l2]
      rfl
    rw [s6, OutS.then_nx, s7, OutS.then_nx, s8, OutS.then_nx]
    have hfz := frzs_ints (backF 0 (prs [0] ns).reverse)
    have hfz2 := frzs_ints (backF 0 (prs [0] ns).reverse).reverse
    rw [List.map_reverse] at hfz2
    simp [sRet, mB, mAll, m1, mVar, isF, frz, hfz, hfz2, revD, frzs, tupleD, endOf, params, folds]
  · rw [if_neg hi, if_neg (fun z => hi (inI_iff.mpr z)), OutS.then_ret]
    rfl
end K79

/-! K79f: signed sums; is_folds; the rulers that are drawn. -/
namespace K79
open PySem FS
def PM (ss : List Int) : Prop := ∀ s ∈ ss, s = 1 ∨ s = -1
theorem mem_fold : ∀ (ns K : List Int) (x : Int), x ∈ ns.foldl step K ↔ ∃ p ∈ K, ∃ ss : List Int, PM ss ∧ ss.length = ns.length ∧ x = p + dot ss ns
  | [], K, x => by
    constructor
    · intro h; exact ⟨x, h, [], (fun _ h => nomatch h), rfl, by simp [dot]⟩
    · rintro ⟨p, hp, ss, _, hl, e⟩
      have : ss = [] := List.length_eq_zero_iff.mp hl
      subst this
      rw [e]; simpa [dot] using hp
  | l :: ns, K, x => by
    rw [List.foldl_cons, mem_fold ns]
    constructor
    · rintro ⟨p, hp, ss, h1, h2, e⟩
      obtain ⟨q, hq, h⟩ := mem_step.mp hp
      rcases h with h | h
      · refine ⟨q, hq, 1 :: ss, fun s hs => ?_, by simp [h2], ?_⟩
        · rcases List.mem_cons.mp hs with rfl | hs
          · exact .inl rfl
          · exact h1 s hs
        · simp only [dot, List.zipWith_cons_cons, List.sum_cons] at e ⊢
          omega
      · refine ⟨q, hq, -1 :: ss, fun s hs => ?_, by simp [h2], ?_⟩
        · rcases List.mem_cons.mp hs with rfl | hs
          · exact .inr rfl
          · exact h1 s hs
        · simp only [dot, List.zipWith_cons_cons, List.sum_cons] at e ⊢
          omega
    · rintro ⟨p, hp, ss, h1, h2, e⟩
      cases ss with
      | nil => simp at h2
      | cons s ss =>
        simp only [dot, List.zipWith_cons_cons, List.sum_cons] at e
        refine ⟨p + s * l, mem_step.mpr ⟨p, hp, ?_⟩, ss, fun y hy => h1 y (List.mem_cons_of_mem _ hy), by simpa using h2, by simp only [dot]; omega⟩
        rcases h1 s List.mem_cons_self with rfl | rfl
        · left; omega
        · right; omega
theorem dot_bound : ∀ (ss ns : List Int), PM ss → ss.length = ns.length → (∀ n ∈ ns, 0 < n) → -ns.sum ≤ dot ss ns ∧ dot ss ns ≤ ns.sum
  | [], [], _, _, _ => by simp [dot]
  | s :: ss, l :: ns, h, hl, hp => by
    obtain ⟨a, b⟩ := dot_bound ss ns (fun y hy => h y (List.mem_cons_of_mem _ hy)) (by simpa using hl) fun n hn => hp n (List.mem_cons_of_mem _ hn)
    have h1 := hp l List.mem_cons_self
    simp only [dot, List.zipWith_cons_cons, List.sum_cons] at a b ⊢
    rcases h s List.mem_cons_self with rfl | rfl
    · omega
    · omega
  | [], _ :: _, _, h, _ => by simp at h
  | _ :: _, [], _, h, _ => by simp at h
theorem dot_low : ∀ (ss ns : List Int), PM ss → ss.length = ns.length → (∀ n ∈ ns, 0 < n) → ∀ m ∈ ns, 2 * m - ns.sum ≤ dot ss ns ∨ 2 * m - ns.sum ≤ -dot ss ns
  | [], [], _, _, _, m, hm => by cases hm
  | s :: ss, l :: ns, h, hl, hp, m, hm => by
    obtain ⟨a, b⟩ := dot_bound ss ns (fun y hy => h y (List.mem_cons_of_mem _ hy)) (by simpa using hl) fun n hn => hp n (List.mem_cons_of_mem _ hn)
    have h1 := hp l List.mem_cons_self
    have hs := h s List.mem_cons_self
    rcases List.mem_cons.mp hm with rfl | hm
    · simp only [dot, List.zipWith_cons_cons, List.sum_cons] at a b ⊢
      rcases hs with rfl | rfl
      · omega
      · omega
    · have ih := dot_low ss ns (fun y hy => h y (List.mem_cons_of_mem _ hy)) (by simpa using hl) (fun n hn => hp n (List.mem_cons_of_mem _ hn)) m hm
      simp only [dot, List.zipWith_cons_cons, List.sum_cons] at ih ⊢
      rcases hs with rfl | rfl
      · omega
      · omega
  | [], _ :: _, _, h, _, _, _ => by simp at h
  | _ :: _, [], _, h, _, _, _ => by simp at h
theorem dot_ones : ∀ ns : List Int, dot (List.replicate ns.length 1) ns = ns.sum
  | [] => rfl
  | l :: ns => by
    have := dot_ones ns
    simp only [dot, List.length_cons, List.replicate_succ, List.zipWith_cons_cons, List.sum_cons] at this ⊢
    omega
theorem dot_negs : ∀ ns : List Int, dot (List.replicate ns.length (-1)) ns = -ns.sum
  | [] => rfl
  | l :: ns => by
    have := dot_negs ns
    simp only [dot, List.length_cons, List.replicate_succ, List.zipWith_cons_cons, List.sum_cons] at this ⊢
    omega
theorem pm_rep (n : Nat) (x : Int) (h : x = 1 ∨ x = -1) : PM (List.replicate n x) := fun s hs => by rw [(List.mem_replicate.mp hs).2]; exact h
theorem sum_in (ns : List Int) : ns.sum ∈ ns.foldl step [0] := (mem_fold ns [0] _).mpr ⟨0, by simp, _, pm_rep ns.length 1 (.inl rfl), by simp, by rw [dot_ones]; omega⟩
theorem twice_in (ns : List Int) : (0 : Int) ∈ (ns ++ ns).foldl step [0] := by
  refine (mem_fold _ [0] _).mpr ⟨0, by simp, List.replicate ns.length 1 ++ List.replicate ns.length (-1), ?_, by simp, ?_⟩
  · intro s hs
    rcases List.mem_append.mp hs with hs | hs
    · exact pm_rep _ 1 (.inl rfl) s hs
    · exact pm_rep _ (-1) (.inr rfl) s hs
  · rw [dot_append _ _ _ _ (by simp), dot_ones, dot_negs]; omega
theorem in_bound {ns : List Int} (hp : ∀ n ∈ ns, 0 < n) {x : Int} (h : x ∈ ns.foldl step [0]) : x ≤ ns.sum ∧ ∀ m ∈ ns, 2 * m - ns.sum ≤ x ∨ 2 * m - ns.sum ≤ -x := by
  obtain ⟨p, hp0, ss, h1, h2, e⟩ := (mem_fold ns [0] x).mp h
  have : p = 0 := by simpa using hp0
  subst this
  have b := dot_bound ss ns h1 h2 hp
  refine ⟨by omega, fun m hm => ?_⟩
  have := dot_low ss ns h1 h2 hp m hm
  omega
/-! ### is_folds -/
theorem folds_ok {ns ss : List Int} (hl : ss.length = ns.length) (h : PM ss) (hz : ns.length ≤ sz) : c_is_folds [tn ns, tn ss] = .ok (.bl true) [] := by
  have hlen : (ns.map D.int).length = ns.length := List.length_map ..
  have hlen2 : (ss.map D.int).length = ns.length := by rw [List.length_map, hl]
  have lc : mLc [2] (tName 2) (iSeq (mVar 1)) tTrue (mAndV (mCall c_is_whole [.val (mVar 2)]) (m2 inD (mVar 2) (mTup (mAll [(mQ (qC (.int 1))), (mQ (q1 negD (qC (.int 1))))])))) [some (tn ns), some (tn ss), none] = .ok (.lst true ((ss.map fun _ => D.bl true))) [some (tn ns), some (tn ss), none] := by
    have := mLc_map (own := [2]) (t := tName 2) (src := iSeq (mVar 1)) (c := tTrue) (e := mAndV (mCall c_is_whole [.val (mVar 2)]) (m2 inD (mVar 2) (mTup (mAll [(mQ (qC (.int 1))), (mQ (q1 negD (qC (.int 1))))])))) (f := fun _ => .bl true) (p := fun _ => true) (σ := [some (tn ns), some (tn ss), none]) (σ1 := [some (tn ns), some (tn ss), none]) (xs := ss.map .int)
      (by simp [iSeq, mVar, items]) (by rw [hlen2]; exact hz) rfl (fun x hx => by
        obtain ⟨n, hn, rfl⟩ := List.mem_map.mp hx
        refine ⟨[some (tn ns), some (tn ss), some (.int n)], rfl, rfl, .inl ⟨rfl, rfl, ?_⟩⟩
        rcases h n hn with rfl | rfl <;> rfl)
    rw [this, filter_true, List.map_map]
    rfl
  have ha : bools? (List.map (fun _ => D.bl true) ss) = some (ss.map fun _ => true) := by rw [show List.map (fun _ => D.bl true) ss = (ss.map fun _ => true).map .bl by rw [List.map_map]; rfl, bools?_map]
  have hb : frzs (List.map (fun _ => D.bl true) ss) = List.map (fun _ => D.bl true) ss := by rw [show List.map (fun _ => D.bl true) ss = (ss.map fun _ => true).map .bl by rw [List.map_map]; rfl, frzs_bls]
  have hne : neD (.int (ns.length : Int)) (.int (ns.length : Int)) = some (.bl false) := by simp [neD, okd, deq]
  have s1 : (sIf (tOr' (tNot' (mT (mQ (q1 (isiQ .tuple) (pVar 1))))) (mT (m2 neD (mQ (qB len1 (qCons (pVar 1) qNil))) (mQ (qB len1 (qCons (pVar 0) qNil))))))
 (sRet (mQ (qC (.bl false))))
 sNext) [some (tn ns), some (tn ss), none] = .nx [some (tn ns), some (tn ss), none] := by
    simp [sIf, tOr', tNot', mT, mQ, q1, pVar, isiQ, tyD, Ty.nm, m2, qB, qCons, qNil, len1, lenD, hlen, hlen2, hl, frz, hne, sNext]
  have s2 : (sRet (mB allD (mAll [(mLc [2] (tName 2) (iSeq (mVar 1)) tTrue (mAndV (mCall c_is_whole [.val (mVar 2)]) (m2 inD (mVar 2) (mTup (mAll [(mQ (qC (.int 1))), (mQ (q1 negD (qC (.int 1))))])))))]))) [some (tn ns), some (tn ss), none] = .ret (.bl true) [some (tn ns), some (tn ss), none] := by
    have e : mAll [(mLc [2] (tName 2) (iSeq (mVar 1)) tTrue (mAndV (mCall c_is_whole [.val (mVar 2)]) (m2 inD (mVar 2) (mTup (mAll [(mQ (qC (.int 1))), (mQ (q1 negD (qC (.int 1))))])))))] [some (tn ns), some (tn ss), none] = .ok [.lst true ((ss.map fun _ => D.bl true))] [some (tn ns), some (tn ss), none] := by
      show (mLc _ _ _ _ _ _).then _ = _
      rw [lc]; rfl
    unfold sRet mB
    rw [e, Out.then_ok, frzs, frz, hb, show frzs [] = [] from rfl]
    show (ofOpt (Option.map _ (bools? _)) _).thenS _ = _
    rw [ha]
    simp
  show (match ((sIf _ _ _) [some (tn ns), some (tn ss), none]).then _ with
      | .nx σ => endOf [] .non σ
      | .ret d σ => endOf [] d σ
      | .exc x _ => .exc x
      | _ => COut.bad) = _
  rw [s1, OutS.then_nx, s2]
  rfl
/-! ### what is drawn -/
structure Rul (r : List Int) : Prop where
  len : 0 < r.length
  few : r.length ≤ 9
  rng : ∀ n ∈ r, 1 ≤ n ∧ n ≤ 30
theorem sum_le {b : Int} (hb : 0 ≤ b) : ∀ {r : List Int}, (∀ n ∈ r, n ≤ b) → r.sum ≤ b * r.length
  | [], _ => by simp
  | x :: r, h => by
    have ih := sum_le hb (r := r) fun n hn => h n (List.mem_cons_of_mem _ hn)
    have hx := h x List.mem_cons_self
    rw [List.sum_cons, List.length_cons, Int.natCast_succ, Int.mul_add, Int.mul_one]
    omega
theorem Rul.pos {r : List Int} (h : Rul r) : ∀ n ∈ r, 0 < n := fun n hn => by have := (h.rng n hn).1; omega
theorem Rul.sum {r : List Int} (h : Rul r) : 0 < r.sum ∧ r.sum ≤ 270 := by
  have h1 := sum_le (b := 30) (by decide) fun n hn => (h.rng n hn).2
  have h2 := h.few
  obtain ⟨h3, h4⟩ := sum_nonneg h.pos
  cases r with
  | nil => exact absurd h.len (by simp)
  | cons x r =>
    have h5 := h4 x List.mem_cons_self
    have h6 := h.pos x List.mem_cons_self
    refine ⟨by omega, ?_⟩
    omega
theorem Rul.good {r : List Int} (h : Rul r) : Good r := ⟨h.len, by have := h.few; omega, h.pos⟩
theorem Rul.fit {r : List Int} (h : Rul r) : Fit r := by
  refine ⟨h.good, by have := h.few; omega, fun n hn => by have := (h.rng n hn).2; omega, ?_⟩
  have h1 := h.sum
  have h2 := h.few
  have h3 : r.sum * r.length ≤ 270 * 9 := Int.mul_le_mul (by omega) (by omega) (by omega) (by decide)
  omega
theorem Rul.fit2 {r : List Int} (h : Rul r) : Fit (r ++ r) := by
  have hl : (r ++ r).length = r.length + r.length := List.length_append ..
  have hs : (r ++ r).sum = r.sum + r.sum := List.sum_append ..
  have hm : ∀ n ∈ r ++ r, 1 ≤ n ∧ n ≤ 30 := fun n hn => (List.mem_append.mp hn).elim (h.rng n) (h.rng n)
  have h1 := h.sum
  have h2 := h.few
  refine ⟨⟨by have := h.len; omega, by omega, fun n hn => by have := (hm n hn).1; omega⟩, by omega, fun n hn => by have := (hm n hn).2; omega, ?_⟩
  rw [hs, hl]
  have h3 : (r.sum + r.sum) * ((r.length + r.length : Nat) : Int) ≤ 540 * 18 := Int.mul_le_mul (by omega) (by omega) (by omega) (by decide)
  omega
theorem Rul.goodw {r : List Int} (h : Rul r) {w : Int} (hw : 0 < w) : Good (r ++ [w]) := by
  refine ⟨by simp, by have := h.few; simp; omega, fun n hn => ?_⟩
  rcases List.mem_append.mp hn with hn | hn
  · exact h.pos n hn
  · have : n = w := by simpa using hn
    omega
theorem maxI_append {r : List Int} (h : r ≠ []) (w : Int) : maxI (r ++ [w]) = max (maxI r) w := by
  obtain ⟨a, b⟩ := maxI_spec h
  refine (maxI_unique ?_ ?_).symm
  · by_cases hx : w ≤ maxI r
    · rw [show max (maxI r) w = maxI r by omega]
      exact List.mem_append_left _ a
    · rw [show max (maxI r) w = w by omega]
      simp
  · intro y hy
    rcases List.mem_append.mp hy with hy | hy
    · have := b y hy; omega
    · have : y = w := by simpa using hy
      omega
end K79

/-! K79g: the law's turn, its first half. -/
namespace K79
open PySem FS
abbrev L0 : MS := (sAsg (tName 3) (mB tupleD (mAll [(mLc [4] (tName 4) (FS.iRng1 (m2 addI (mQ (qC (.int 1))) (mCall c__law_draw [.ref 1, .val (mQ (qC (.int 9)))]))) tTrue (m2 addI (mQ (qC (.int 1))) (mCall c__law_draw [.ref 1, .val (m2 ixD (mLst (mAll [(mQ (qC (.int 4))), (mQ (qC (.int 12))), (mQ (qC (.int 30)))])) (mCall c__law_draw [.ref 1, .val (mQ (qC (.int 3)))]))])))])))
abbrev L1 : MS := (sAsg (tName 5) (mLst (mAll [(mQ (qC (.int 0)))])))
abbrev L2 : MS := (sFor (tName 6) (iSeq (mVar 3))
 (sAsg (tName 5) (m1 sortSetD (m2 addD (mLc [7] (tName 7) (iSeq (mVar 5)) tTrue (mQ (q2 addI (pVar 7) (pVar 6)))) (mLc [7] (tName 7) (iSeq (mVar 5)) tTrue (mQ (q2 subD (pVar 7) (pVar 6))))))))
abbrev L3 : MS := (sAsg (tName 8) (mCall c_closes [.val (mVar 3)]))
abbrev L4 : MS := (sIf (mT (m2 neD (mQ (q2 isNotD (pVar 8) (qC .non))) (mQ (q2 inD (qC (.int 0)) (pVar 5)))))
 (sRet (mQ (qC (.bl false))))
 sNext)
abbrev L5 : MS := (sIf (tAnd' (mT (m2 isNotD (mVar 8) (mQ (qC .non)))) (tOr' (mT (m2 isNotD (mCall c_is_folds [.val (mVar 3), .val (mVar 8)]) (mQ (qC (.bl true))))) (mT (m2 neD (mB sumD (mAll [(mLc [9, 6] (tTup' [(tName 9), (tName 6)]) (iArgs zipD (mAll [(mVar 8), (mVar 3)])) tTrue (mQ (q2 mulD (pVar 9) (pVar 6))))])) (mQ (qC (.int 0)))))))
 (sRet (mQ (qC (.bl false))))
 sNext)
abbrev L6 : MS := (sAsg (tName 10) (mQ (q2 subD (qB sumD (qCons (pVar 3) qNil)) (qB maxD (qCons (pVar 3) qNil)))))
abbrev L7 : MS := (sIf (tOr' (tNot' (mT (mCall c__law_same_1 [.val (mCall c_closes_in_plane [.val (mVar 3)]), .val (mQ (q2 leD (qB maxD (qCons (pVar 3) qNil)) (pVar 10)))]))) (tAnd' (mT (m2 isNotD (mVar 8) (mQ (qC .non)))) (mT (m2 isNotD (mCall c_closes_in_plane [.val (mVar 3)]) (mQ (qC (.bl true)))))))
 (sRet (mQ (qC (.bl false))))
 sNext)
abbrev L8 : MS := (sAsg (tTup' [(tName 11), (tName 12)]) (mCall c_reach_of [.val (mVar 3)]))
abbrev L9 : MS := (sIf (tOr' (mT (m2 neD (mVar 11) (mQ (qB maxD (qCons (qC (.int 0)) (qCons (q2 subD (qB maxD (qCons (pVar 3) qNil)) (pVar 10)) qNil)))))) (tOr' (mT (m2 neD (mVar 12) (mQ (qB sumD (qCons (pVar 3) qNil))))) (tOr' (mT (m2 neD (mQ (qB maxD (qCons (pVar 5) qNil))) (mVar 12))) (tOr' (mT (m2 gtD (mB len1 (mAll [(mLc [7] (tName 7) (iSeq (mVar 5)) (mT (m2 ltD (mQ (qB absD (qCons (pVar 7) qNil))) (mVar 11))) (mVar 7))])) (mQ (qC (.int 0))))) (mT (m2 neD (mQ (q2 eqD (pVar 11) (qC (.int 0)))) (mCall c_closes_in_plane [.val (mVar 3)])))))))
 (sRet (mQ (qC (.bl false))))
 sNext)
abbrev L10 : MS := (sIf (tOr' (tNot' (mT (mCall c__law_same_1 [.val (mCall c_closes_in_plane [.val (m2 addD (mVar 3) (mTup (mAll [(mVar 12)])))]), .val (mQ (qC (.bl true)))]))) (mT (m2 isD (mCall c_closes [.val (m2 addD (mVar 3) (mVar 3))]) (mQ (qC .non)))))
 (sRet (mQ (qC (.bl false))))
 sNext)
abbrev L11 : MS := (sAsg (tName 13) (mIf (mT (m2 gtD (mVar 11) (mQ (qC (.int 0))))) (m2 addD (mVar 3) (mTup (mAll [(m2 addI (mVar 11) (mCall c__law_draw [.ref 1, .val (mQ (q2 addI (q2 subD (pVar 12) (pVar 11)) (qC (.int 1))))]))]))) (mVar 3)))
abbrev L12 : MS := (sIf (tAnd' (mT (m2 isNotD (mCall c_closes_in_plane [.val (mVar 13)]) (mQ (qC (.bl true))))) (mT (m2 gtD (mVar 11) (mQ (qC (.int 0))))))
 (sRet (mQ (qC (.bl false))))
 sNext)
abbrev L13 : MS := (sFor (tName 14) (iSeq (mLst (mAll [(mTup (mAll [])), (mFz (mLst (mAll [(mQ (qC (.int 1)))]))), (mTup (mAll [(mQ (qC (.int 0)))])), (mTup (mAll [(mQ (qC (.str "x")))])), (mTup (mAll [(mQ (qC (.bl true)))])), (mQ (qC .non))])))
 (sIf (mT (m2 neD (mCall c__law_refused [.val (mVar 14)]) (mQ (qC (.str "ruler")))))
 (sRet (mQ (qC (.bl false))))
 sNext))

section
variable {ns : List Int} {S x2 x3 x4 x5 x6 x7 x8 x9 x10 x11 x12 x13 x14 : Option D}
theorem callD {t t2 : Sl} {m : M D} {p c s p1 c1 s1 l : Int} (hm : m (S :: some (dst ns p c s) :: t) = .ok (.int l) (S :: some (dst ns p1 c1 s1) :: t2)) (hd : DOk p1 s1) (hl : 0 < l) (hl2 : l < 2 ^ 60) :
    ∃ v p' c' s', mCall c__law_draw [.ref 1, .val m] (S :: some (dst ns p c s) :: t) = .ok (.int v) (S :: some (dst ns p' c' s') :: t2) ∧ 0 ≤ v ∧ v < l ∧ DOk p' s' := by
  obtain ⟨v, p', c', s', e, h1, h2, h3⟩ := draw_ok (ns := ns) (c := c1) hd hl hl2
  refine ⟨v, p', c', s', ?_, h1, h2, h3⟩
  have ea : mArgs [.ref 1, .val m] (S :: some (dst ns p c s) :: t) = .ok [dst ns p1 c1 s1, .int l] (S :: none :: t2) := by
    simp [mArgs, hm, mMov]
  unfold mCall
  rw [ea, Out.then_ok, e]
  rfl
abbrev EL : M D := (m2 addI (mQ (qC (.int 1))) (mCall c__law_draw [.ref 1, .val (m2 ixD (mLst (mAll [(mQ (qC (.int 4))), (mQ (qC (.int 12))), (mQ (qC (.int 30)))])) (mCall c__law_draw [.ref 1, .val (mQ (qC (.int 3)))]))]))
theorem elem {t : Sl} {p c s : Int} (hd : DOk p s) : ∃ v p' c' s', EL (S :: some (dst ns p c s) :: t) = .ok (.int v) (S :: some (dst ns p' c' s') :: t) ∧ 1 ≤ v ∧ v ≤ 30 ∧ DOk p' s' := by
  obtain ⟨w, p1, c1, s1, e1, h1, h2, h3⟩ := callD (ns := ns) (S := S) (t := t) (t2 := t) (m := mQ (qC (.int 3))) (p := p) (c := c) (s := s) (l := 3) rfl hd (by decide) (by decide)
  have e2 : ∃ l : Int, (m2 ixD (mLst (mAll [(mQ (qC (.int 4))), (mQ (qC (.int 12))), (mQ (qC (.int 30)))])) (mCall c__law_draw [.ref 1, .val (mQ (qC (.int 3)))])) (S :: some (dst ns p c s) :: t) = .ok (.int l) (S :: some (dst ns p1 c1 s1) :: t) ∧ 0 < l ∧ l ≤ 30 := by
    have e3 : mLst (mAll [(mQ (qC (.int 4))), (mQ (qC (.int 12))), (mQ (qC (.int 30)))]) (S :: some (dst ns p c s) :: t) = .ok (.lst true [.int 4, .int 12, .int 30]) (S :: some (dst ns p c s) :: t) := rfl
    unfold m2
    rw [e3, Out.then_ok, e1, Out.then_ok]
    have hw : w = 0 ∨ w = 1 ∨ w = 2 := by omega
    rcases hw with rfl | rfl | rfl
    · exact ⟨4, rfl, by decide, by decide⟩
    · exact ⟨12, rfl, by decide, by decide⟩
    · exact ⟨30, rfl, by decide, by decide⟩
  obtain ⟨l, e2, l0, l1⟩ := e2
  obtain ⟨v, p', c', s', e4, h4, h5, h6⟩ := callD (ns := ns) (S := S) e2 h3 l0 (by omega)
  refine ⟨1 + v, p', c', s', ?_, by omega, by omega, h6⟩
  show (mQ (qC (.int 1)) _).then _ = _
  rw [show mQ (qC (.int 1)) (S :: some (dst ns p c s) :: t) = .ok (.int 1) (S :: some (dst ns p c s) :: t) from rfl, Out.then_ok, e4]
  rfl
theorem elems {t : Sl} : ∀ (xs : List D) (p c s : Int), DOk p s → ∃ vs : List Int, ∃ p' c' s', lcL [4] (tName 4) tTrue EL xs (S :: some (dst ns p c s) :: x2 :: x3 :: none :: t) = .ok (vs.map .int) (S :: some (dst ns p' c' s') :: x2 :: x3 :: none :: t) ∧ vs.length = xs.length ∧ (∀ v ∈ vs, 1 ≤ v ∧ v ≤ 30) ∧ DOk p' s'
  | [], p, c, s, hd => ⟨[], p, c, s, rfl, rfl, (fun v h => nomatch h), hd⟩
  | x :: xs, p, c, s, hd => by
    obtain ⟨v, p1, c1, s1, e1, h1, h2, h3⟩ := elem (ns := ns) (S := S) (t := x2 :: x3 :: some x :: t) (p := p) (c := c) (s := s) hd
    obtain ⟨vs, p2, c2, s2, e2, h4, h5, h6⟩ := elems (t := t) xs p1 c1 s1 h3
    refine ⟨v :: vs, p2, c2, s2, ?_, by simp [h4], fun y hy => ?_, h6⟩
    · unfold lcL
      rw [show tName 4 x (S :: some (dst ns p c s) :: x2 :: x3 :: none :: t) = some (S :: some (dst ns p c s) :: x2 :: x3 :: some x :: t) by simp [tName]]
      dsimp only [tTrue]
      rw [e1]
      dsimp only
      rw [show wipeD (S :: some (dst ns p1 c1 s1) :: x2 :: x3 :: some x :: t) [4] = S :: some (dst ns p1 c1 s1) :: x2 :: x3 :: none :: t from rfl, e2]
      rfl
    · rcases List.mem_cons.mp hy with rfl | hy
      · exact ⟨h1, h2⟩
      · exact h5 y hy
theorem T0 {p c s : Int} (hd : DOk p s) : ∃ r p' c' s', L0 [S, some (dst ns p c s), x2, x3, x4, x5, x6, x7, x8, x9, x10, x11, x12, x13, x14] = .nx [S, some (dst ns p' c' s'), x2, some (tn r), none, x5, x6, x7, x8, x9, x10, x11, x12, x13, x14] ∧ Rul r ∧ DOk p' s' := by
  obtain ⟨w, p1, c1, s1, e1, h1, h2, h3⟩ := callD (ns := ns) (S := S) (t := [x2, x3, x4, x5, x6, x7, x8, x9, x10, x11, x12, x13, x14]) (t2 := [x2, x3, x4, x5, x6, x7, x8, x9, x10, x11, x12, x13, x14]) (m := mQ (qC (.int 9))) (p := p) (c := c) (s := s) (l := 9) rfl hd (by decide) (by decide)
  have e2 : FS.iRng1 (m2 addI (mQ (qC (.int 1))) (mCall c__law_draw [.ref 1, .val (mQ (qC (.int 9)))])) [S, some (dst ns p c s), x2, x3, x4, x5, x6, x7, x8, x9, x10, x11, x12, x13, x14] = .ok (irange 0 (1 + w).toNat) [S, some (dst ns p1 c1 s1), x2, x3, x4, x5, x6, x7, x8, x9, x10, x11, x12, x13, x14] := by
    have e3 : m2 addI (mQ (qC (.int 1))) (mCall c__law_draw [.ref 1, .val (mQ (qC (.int 9)))]) [S, some (dst ns p c s), x2, x3, x4, x5, x6, x7, x8, x9, x10, x11, x12, x13, x14] = .ok (.int (1 + w)) [S, some (dst ns p1 c1 s1), x2, x3, x4, x5, x6, x7, x8, x9, x10, x11, x12, x13, x14] := by
      show (mQ (qC (.int 1)) _).then _ = _
      rw [show mQ (qC (.int 1)) [S, some (dst ns p c s), x2, x3, x4, x5, x6, x7, x8, x9, x10, x11, x12, x13, x14] = .ok (.int 1) [S, some (dst ns p c s), x2, x3, x4, x5, x6, x7, x8, x9, x10, x11, x12, x13, x14] from rfl, Out.then_ok, e1]
      rfl
    unfold FS.iRng1
    rw [e3, Out.then_ok]
    show ofOpt (if -(2 ^ 62) ≤ (1 + w) ∧ (1 + w) < 2 ^ 62 then some (irange 0 (1 + w).toNat) else none) _ = _
    rw [if_pos (by omega)]
    rfl
  obtain ⟨vs, p2, c2, s2, e4, h4, h5, h6⟩ := elems (ns := ns) (S := S) (x2 := x2) (x3 := x3) (t := [x5, x6, x7, x8, x9, x10, x11, x12, x13, x14]) (irange 0 (1 + w).toNat) p1 c1 s1 h3
  have hl : (irange 0 (1 + w).toNat).length = (1 + w).toNat := by simp [irange]
  refine ⟨vs, p2, c2, s2, ?_, ⟨by omega, by omega, h5⟩, h6⟩
  have e5 : mLc [4] (tName 4) (FS.iRng1 (m2 addI (mQ (qC (.int 1))) (mCall c__law_draw [.ref 1, .val (mQ (qC (.int 9)))]))) tTrue EL [S, some (dst ns p c s), x2, x3, x4, x5, x6, x7, x8, x9, x10, x11, x12, x13, x14] = .ok (.lst true (vs.map .int)) [S, some (dst ns p2 c2 s2), x2, x3, none, x5, x6, x7, x8, x9, x10, x11, x12, x13, x14] := by
    unfold mLc
    rw [e2, Out.then_ok, if_pos (by rw [hl]; unfold sz; omega)]
    rw [show wipeD [S, some (dst ns p1 c1 s1), x2, x3, x4, x5, x6, x7, x8, x9, x10, x11, x12, x13, x14] [4] = [S, some (dst ns p1 c1 s1), x2, x3, none, x5, x6, x7, x8, x9, x10, x11, x12, x13, x14] from rfl, e4]
    rfl
  show (mB tupleD (mAll [mLc [4] (tName 4) _ tTrue EL]) _).thenS _ = _
  have e6 : mAll [mLc [4] (tName 4) (FS.iRng1 (m2 addI (mQ (qC (.int 1))) (mCall c__law_draw [.ref 1, .val (mQ (qC (.int 9)))]))) tTrue EL] [S, some (dst ns p c s), x2, x3, x4, x5, x6, x7, x8, x9, x10, x11, x12, x13, x14] = .ok [.lst true (vs.map .int)] [S, some (dst ns p2 c2 s2), x2, x3, none, x5, x6, x7, x8, x9, x10, x11, x12, x13, x14] := by
    show (mLc _ _ _ _ _ _).then _ = _
    rw [e5]; rfl
  unfold mB
  rw [e6, Out.then_ok, frzs, frz, frzs_ints]
  rfl
/-! ### the ends -/
def nextE (es : List Int) (l : Int) : List Int := FS.sortSet (es.map (fun x => x + l) ++ es.map fun x => x - l)
theorem mem_nextE {es : List Int} {l x : Int} : x ∈ nextE es l ↔ ∃ p ∈ es, x = p + l ∨ x = p - l := by
  unfold nextE
  rw [mem_sortSet, List.mem_append, List.mem_map, List.mem_map]
  constructor
  · rintro (⟨p, hp, rfl⟩ | ⟨p, hp, rfl⟩)
    · exact ⟨p, hp, .inl rfl⟩
    · exact ⟨p, hp, .inr rfl⟩
  · rintro ⟨p, hp, rfl | rfl⟩
    · exact .inl ⟨p, hp, rfl⟩
    · exact .inr ⟨p, hp, rfl⟩
theorem eraseDups_len : ∀ (n : Nat) (l : List Int), l.length ≤ n → l.eraseDups.length ≤ l.length
  | _, [], _ => by simp
  | 0, x :: xs, h => by simp at h
  | n + 1, x :: xs, h => by
    rw [List.eraseDups_cons]
    have h1 := List.length_filter_le (fun b => !(b == x)) xs
    have h2 := eraseDups_len n (xs.filter fun b => !(b == x)) (by simp only [List.length_cons] at h; omega)
    simp only [List.length_cons]
    omega
theorem nextE_len (es : List Int) (l : Int) : (nextE es l).length ≤ 2 * es.length := by
  unfold nextE FS.sortSet
  have h1 := eraseDups_len _ (sortI (es.map (fun x => x + l) ++ es.map fun x => x - l)) (Nat.le_refl _)
  have h2 := (sortI_perm (es.map (fun x => x + l) ++ es.map fun x => x - l)).length_eq
  simp only [List.length_append, List.length_map] at h2
  omega
theorem fold_same : ∀ (r A B : List Int), (∀ x, x ∈ A ↔ x ∈ B) → ∀ x, x ∈ r.foldl nextE A ↔ x ∈ r.foldl step B
  | [], A, B, h, x => h x
  | l :: r, A, B, h, x => fold_same r (nextE A l) (step B l) (fun y => by
    rw [mem_nextE, mem_step]
    constructor
    · rintro ⟨p, hp, e⟩; exact ⟨p, (h p).mp hp, e⟩
    · rintro ⟨p, hp, e⟩; exact ⟨p, (h p).mpr hp, e⟩) x
abbrev bodyE : MS := (sAsg (tName 5) (m1 sortSetD (m2 addD (mLc [7] (tName 7) (iSeq (mVar 5)) tTrue (mQ (q2 addI (pVar 7) (pVar 6)))) (mLc [7] (tName 7) (iSeq (mVar 5)) tTrue (mQ (q2 subD (pVar 7) (pVar 6)))))))
theorem turnE {D1 : Option D} {o : Bool} {es : List Int} {l : Int} (hz : 2 * es.length + 1 < 4096) : bodyE [S, D1, x2, x3, x4, some (.lst o (es.map .int)), some (.int l), x7, x8, x9, x10, x11, x12, x13, x14] = .nx [S, D1, x2, x3, x4, some (.lst true ((nextE es l).map .int)), some (.int l), none, x8, x9, x10, x11, x12, x13, x14] := by
  have hlen : (es.map D.int).length = es.length := List.length_map ..
  have src : ∀ (o : Bool) (y7 : Option D), iSeq (mVar 5) [S, D1, x2, x3, x4, some (.lst o (es.map .int)), some (.int l), y7, x8, x9, x10, x11, x12, x13, x14] = .ok (es.map .int) [S, D1, x2, x3, x4, some (.lst false (es.map .int)), some (.int l), y7, x8, x9, x10, x11, x12, x13, x14] := fun o y7 => by
    cases o <;> simp [iSeq, mVar, isF, isFs_ints, items, frz, frzs_ints]
  have one : ∀ (o : Bool) (y7 : Option D) (g : D → D → Option D) (k : Int → Int), (∀ a, g (.int a) (.int l) = some (.int (k a))) → mLc [7] (tName 7) (iSeq (mVar 5)) tTrue (mQ (q2 g (pVar 7) (pVar 6))) [S, D1, x2, x3, x4, some (.lst o (es.map .int)), some (.int l), y7, x8, x9, x10, x11, x12, x13, x14] = .ok (.lst true ((es.map k).map .int)) [S, D1, x2, x3, x4, some (.lst false (es.map .int)), some (.int l), none, x8, x9, x10, x11, x12, x13, x14] := fun o y7 g k hg => by
    have := mLc_map (own := [7]) (t := tName 7) (src := iSeq (mVar 5)) (c := tTrue) (e := mQ (q2 g (pVar 7) (pVar 6))) (f := fun d => match d with | .int a => .int (k a) | d => d) (p := fun _ => true) (src o y7) (by rw [hlen]; unfold sz; omega) rfl (fun x hx => by
      obtain ⟨n, hn, rfl⟩ := List.mem_map.mp hx
      refine ⟨[S, D1, x2, x3, x4, some (.lst false (es.map .int)), some (.int l), some (.int n), x8, x9, x10, x11, x12, x13, x14], rfl, rfl, .inl ⟨rfl, rfl, ?_⟩⟩
      simp [mQ, q2, pVar, hg])
    rw [this, filter_true, List.map_map, List.map_map]
    rfl
  have e1 := one o x7 addI (fun a => a + l) fun a => rfl
  have e2 := one false none subD (fun a => a - l) fun a => rfl
  have ea : addD (frz (.lst true ((es.map fun a => a + l).map .int))) (frz (.lst true ((es.map fun a => a - l).map .int))) = some (.lst true ((es.map (fun a => a + l) ++ es.map fun a => a - l).map .int)) := by
    rw [frz, frz, frzs_ints, frzs_ints]
    show (if ((es.map fun a => a + l).map D.int).length + ((es.map fun a => a - l).map D.int).length ≤ sz then some (D.lst true (((es.map fun a => a + l).map .int) ++ ((es.map fun a => a - l).map .int))) else none) = _
    rw [if_pos (by simp only [List.length_map]; unfold sz; omega), ← List.map_append]
  have e3 : m2 addD (mLc [7] (tName 7) (iSeq (mVar 5)) tTrue (mQ (q2 addI (pVar 7) (pVar 6)))) (mLc [7] (tName 7) (iSeq (mVar 5)) tTrue (mQ (q2 subD (pVar 7) (pVar 6)))) [S, D1, x2, x3, x4, some (.lst o (es.map .int)), some (.int l), x7, x8, x9, x10, x11, x12, x13, x14] = .ok (.lst true ((es.map (fun a => a + l) ++ es.map fun a => a - l).map .int)) [S, D1, x2, x3, x4, some (.lst false (es.map .int)), some (.int l), none, x8, x9, x10, x11, x12, x13, x14] := by
    show (mLc _ _ _ _ _ _).then _ = _
    rw [e1, Out.then_ok, e2, Out.then_ok, ea]
    rfl
  show (m1 sortSetD _ _).thenS _ = _
  unfold m1
  rw [e3, Out.then_ok, frz, frzs_ints]
  have e4 : sortSetD (.lst false ((es.map (fun a => a + l) ++ es.map fun a => a - l).map .int)) = some (.lst true ((nextE es l).map .int)) := by
    show ((ints? _).bind fun ns => if ns.length + 1 < 4096 then _ else none) = _
    rw [ints?_map]
    show (if (es.map (fun a => a + l) ++ es.map fun a => a - l).length + 1 < 4096 then _ else none) = _
    rw [if_pos (by simp only [List.length_append, List.length_map]; omega)]
    rfl
  rw [e4]
  rfl
theorem loopE {D1 : Option D} : ∀ (r : List Int) (o : Bool) (es : List Int) (x6 x7 : Option D), es.length * 2 ^ r.length ≤ 600 → ∃ o' y6 y7, forL (tName 6) bodyE (r.map .int) [S, D1, x2, x3, x4, some (.lst o (es.map .int)), x6, x7, x8, x9, x10, x11, x12, x13, x14] = .nx [S, D1, x2, x3, x4, some (.lst o' ((r.foldl nextE es).map .int)), y6, y7, x8, x9, x10, x11, x12, x13, x14]
  | [], o, es, x6, x7, _ => ⟨o, x6, x7, rfl⟩
  | l :: r, o, es, x6, x7, h => by
    have hp : 0 < 2 ^ r.length := Nat.two_pow_pos _
    have h1 : es.length * 2 ^ (l :: r).length = (2 * es.length) * 2 ^ r.length := by rw [List.length_cons, Nat.pow_succ, Nat.mul_comm (2 ^ r.length) 2, ← Nat.mul_assoc, Nat.mul_comm es.length 2]
    rw [h1] at h
    have h2 : 2 * es.length ≤ 600 := Nat.le_trans (Nat.le_mul_of_pos_right _ hp) h
    have h3 := nextE_len es l
    obtain ⟨o', y6, y7, ih⟩ := loopE (D1 := D1) r true (nextE es l) (some (.int l)) none (Nat.le_trans (Nat.mul_le_mul_right _ h3) h)
    refine ⟨o', y6, y7, ?_⟩
    rw [List.map_cons]
    unfold forL
    rw [show tName 6 (.int l) [S, D1, x2, x3, x4, some (.lst o (es.map .int)), x6, x7, x8, x9, x10, x11, x12, x13, x14] = some [S, D1, x2, x3, x4, some (.lst o (es.map .int)), some (.int l), x7, x8, x9, x10, x11, x12, x13, x14] from rfl]
    dsimp only
    rw [turnE (by omega)]
    dsimp only
    exact ih
theorem T2 {D1 : Option D} {r : List Int} (h : Rul r) : ∃ o' y6 y7, L2 [S, D1, x2, some (tn r), x4, some (.lst true [.int 0]), x6, x7, x8, x9, x10, x11, x12, x13, x14] = .nx [S, D1, x2, some (tn r), x4, some (.lst o' ((r.foldl nextE [0]).map .int)), y6, y7, x8, x9, x10, x11, x12, x13, x14] := by
  obtain ⟨o', y6, y7, e⟩ := loopE (S := S) (x2 := x2) (x3 := some (tn r)) (x4 := x4) (x8 := x8) (x9 := x9) (x10 := x10) (x11 := x11) (x12 := x12) (x13 := x13) (x14 := x14) (D1 := D1) r true [0] x6 x7 (by
    have : 2 ^ r.length ≤ 2 ^ 9 := Nat.pow_le_pow_right (by decide) h.few
    simp
    omega)
  refine ⟨o', y6, y7, ?_⟩
  unfold L2 sFor
  have : iSeq (mVar 3) [S, D1, x2, some (tn r), x4, some (.lst true [.int 0]), x6, x7, x8, x9, x10, x11, x12, x13, x14] = .ok (r.map .int) [S, D1, x2, some (tn r), x4, some (.lst true [.int 0]), x6, x7, x8, x9, x10, x11, x12, x13, x14] := by
    simp [iSeq, mVar, items]
  rw [this, Out.thenS_ok, if_pos (by rw [List.length_map]; have := h.few; unfold sz; omega)]
  exact e
end
end K79

/-! K79i: the law's turn, its second half. -/
namespace K79
open PySem FS
theorem neI (a b : Int) : neD (.int a) (.int b) = some (.bl (!(a == b))) := by simp [neD, okd, deq]
theorem neB (a b : Bool) : neD (.bl a) (.bl b) = some (.bl (!(a == b))) := by simp [neD, okd, deq]
theorem eqI (a b : Int) : eqD (.int a) (.int b) = some (.bl (a == b)) := by simp [eqD, okd, deq]
section
variable {S D1 x2 x4 x6 x7 x8 x9 x10 x11 x12 x13 x14 : Option D} {r : List Int} {E : List Int} {o : Bool}
abbrev told (r : List Int) : D := if (0 : Int) ∈ r.foldl step [0] then tn (folds r) else .non
theorem told_F (r : List Int) : isF (told r) = true := by
  unfold told; split
  · exact isF_tn _
  · rfl
theorem told_z (r : List Int) : frz (told r) = told r := frz_of _ (told_F r)
theorem T3 (h : Rul r) : L3 [S, D1, x2, some (tn r), x4, some (.lst o (E.map .int)), x6, x7, x8, x9, x10, x11, x12, x13, x14] = .nx [S, D1, x2, some (tn r), x4, some (.lst o (E.map .int)), x6, x7, some (told r), x9, x10, x11, x12, x13, x14] := by
  simp [L3, sAsg, mCall, mArgs, mVar, closes_ok h.fit, lent, backs, tName]
theorem in_ints {o : Bool} {E : List Int} {x : Int} : inD (.int x) (.lst o (E.map .int)) = some (.bl (decide (x ∈ E))) := by
  have h1 : okds 40 (E.map .int) = true := okds_ints 40 E
  have h2 : ((E.map D.int).any fun y => deq y (.int x)) = decide (x ∈ E) := by
    rw [List.any_map]
    by_cases h : x ∈ E
    · rw [decide_eq_true h, List.any_eq_true]
      exact ⟨x, h, by simp [deq]⟩
    · rw [decide_eq_false h, List.any_eq_false]
      intro y hy
      have : y ≠ x := fun e => h (e ▸ hy)
      simp [deq, this]
  show Option.map D.bl (if (okd 40 (.int x) && okds 40 (E.map .int)) = true then some ((E.map D.int).any fun y => deq y (.int x)) else none) = _
  rw [h1, h2]
  rfl
theorem T4 (hE : ∀ x, x ∈ E ↔ x ∈ r.foldl step [0]) : L4 [S, D1, x2, some (tn r), x4, some (.lst o (E.map .int)), x6, x7, some (told r), x9, x10, x11, x12, x13, x14] = .nx [S, D1, x2, some (tn r), x4, some (.lst o (E.map .int)), x6, x7, some (told r), x9, x10, x11, x12, x13, x14] := by
  by_cases hz : (0 : Int) ∈ r.foldl step [0]
  · have he : told r = tn (folds r) := if_pos hz
    have hin : (0 : Int) ∈ E := (hE 0).mpr hz
    rw [he]
    have h1 : isNotD (tn (folds r)) .non = some (.bl true) := rfl
    simp [L4, sIf, mT, m2, mQ, q2, pVar, qC, h1, in_ints, hin, frz, neB, sNext]
  · have he : told r = .non := if_neg hz
    have hin : ¬ (0 : Int) ∈ E := fun z => hz ((hE 0).mp z)
    rw [he]
    have h1 : isNotD .non .non = some (.bl false) := rfl
    simp [L4, sIf, mT, m2, mQ, q2, pVar, qC, h1, in_ints, hin, frz, neB, sNext]
theorem pairs_ints : ∀ (a b : List Int), pairs (a.map .int) (b.map .int) = List.zipWith (fun x y => D.tup [.int x, .int y]) a b
  | [], _ => by simp [pairs]
  | _ :: _, [] => by simp [pairs]
  | x :: a, y :: b => by
    have := pairs_ints a b
    unfold pairs at this ⊢
    simp only [List.map_cons, List.zipWith_cons_cons, this]
theorem T5 (h : Rul r) : ∃ y6 y9, L5 [S, D1, x2, some (tn r), x4, some (.lst o (E.map .int)), x6, x7, some (told r), x9, x10, x11, x12, x13, x14] = .nx [S, D1, x2, some (tn r), x4, some (.lst o (E.map .int)), y6, x7, some (told r), y9, x10, x11, x12, x13, x14] := by
  by_cases hz : (0 : Int) ∈ r.foldl step [0]
  · have he : told r = tn (folds r) := if_pos hz
    rw [he]
    have h1 : isNotD (tn (folds r)) .non = some (.bl true) := rfl
    have h2 : isNotD (.bl true) (.bl true) = some (.bl false) := rfl
    have hf := folds_ok (ns := r) (folds_len r) (folds_pm r) (by have := h.few; unfold sz; omega)
    have hl : (folds r).length = r.length := folds_len r
    have src : iArgs zipD (mAll [(mVar 8), (mVar 3)]) [S, D1, x2, some (tn r), x4, some (.lst o (E.map .int)), x6, x7, some (tn (folds r)), x9, x10, x11, x12, x13, x14] = .ok (List.zipWith (fun x y => D.tup [.int x, .int y]) (folds r) r) [S, D1, x2, some (tn r), x4, some (.lst o (E.map .int)), x6, x7, some (tn (folds r)), x9, x10, x11, x12, x13, x14] := by
      have : zipD [tn (folds r), tn r] = some (List.zipWith (fun x y => D.tup [.int x, .int y]) (folds r) r) := by
        show some (pairs _ _) = _
        rw [pairs_ints]
      simp [iArgs, mAll, mVar, frzs, this]
    have lc := mLc_map (own := [9, 6]) (t := tTup' [(tName 9), (tName 6)]) (src := iArgs zipD (mAll [(mVar 8), (mVar 3)])) (c := tTrue) (e := mQ (q2 mulD (pVar 9) (pVar 6))) (f := fun d => match d with | .tup [.int a, .int b] => .int (a * b) | d => d) (p := fun _ => true) src
      (by simp only [List.length_zipWith]; have := h.few; unfold sz; omega) rfl (fun x hx => by
        rw [List.mem_iff_getElem?] at hx
        obtain ⟨i, hi⟩ := hx
        rw [List.getElem?_zipWith] at hi
        split at hi
        · rename_i a b ha hb
          cases hi
          have ha2 := folds_pm r a (List.mem_of_getElem? ha)
          have hb2 := h.rng b (List.mem_of_getElem? hb)
          have hm := mulD_of (i := a) (j := b) (small_abs (by omega) (by omega)) (small_abs (by omega) (by omega))
          refine ⟨[S, D1, x2, some (tn r), x4, some (.lst o (E.map .int)), some (.int b), x7, some (tn (folds r)), some (.int a), x10, x11, x12, x13, x14], rfl, rfl, .inl ⟨rfl, rfl, ?_⟩⟩
          simp [mQ, q2, pVar, hm]
        · cases hi)
    have em : (List.zipWith (fun x y => D.tup [.int x, .int y]) (folds r) r).map (fun d => match d with | .tup [.int a, .int b] => .int (a * b) | d => d) = (List.zipWith (fun s l => s * l) (folds r) r).map D.int := by
      rw [List.map_zipWith, List.map_zipWith]
    rw [filter_true, em] at lc
    have hs : (List.zipWith (fun s l => s * l) (folds r) r).sum = 0 := folds_sum hz
    have e1 : mAll [mLc [9, 6] (tTup' [(tName 9), (tName 6)]) (iArgs zipD (mAll [(mVar 8), (mVar 3)])) tTrue (mQ (q2 mulD (pVar 9) (pVar 6)))] [S, D1, x2, some (tn r), x4, some (.lst o (E.map .int)), x6, x7, some (tn (folds r)), x9, x10, x11, x12, x13, x14] = .ok [.lst true ((List.zipWith (fun s l => s * l) (folds r) r).map .int)] [S, D1, x2, some (tn r), x4, some (.lst o (E.map .int)), none, x7, some (tn (folds r)), none, x10, x11, x12, x13, x14] := by
      show (mLc _ _ _ _ _ _).then _ = _
      rw [lc]; rfl
    have e2 : (mT (m2 neD (mB sumD (mAll [mLc [9, 6] (tTup' [(tName 9), (tName 6)]) (iArgs zipD (mAll [(mVar 8), (mVar 3)])) tTrue (mQ (q2 mulD (pVar 9) (pVar 6)))])) (mQ (qC (.int 0))))) [S, D1, x2, some (tn r), x4, some (.lst o (E.map .int)), x6, x7, some (tn (folds r)), x9, x10, x11, x12, x13, x14] = .ok false [S, D1, x2, some (tn r), x4, some (.lst o (E.map .int)), none, x7, some (tn (folds r)), none, x10, x11, x12, x13, x14] := by
      unfold mT m2 mB
      rw [e1, Out.then_ok, frzs, frz, frzs_ints, show frzs [] = [] from rfl]
      show ((((ofOpt (Option.map (fun ns => D.int ns.sum) (ints? ((List.zipWith (fun s l => s * l) (folds r) r).map D.int))) _).then _).then _)) = _
      rw [ints?_map]
      simp [hs, mQ, qC, frz, neI]
    have e3 : (mT (m2 isNotD (mCall c_is_folds [.val (mVar 3), .val (mVar 8)]) (mQ (qC (.bl true))))) [S, D1, x2, some (tn r), x4, some (.lst o (E.map .int)), x6, x7, some (tn (folds r)), x9, x10, x11, x12, x13, x14] = .ok false [S, D1, x2, some (tn r), x4, some (.lst o (E.map .int)), x6, x7, some (tn (folds r)), x9, x10, x11, x12, x13, x14] := by
      simp [mT, m2, mCall, mArgs, mVar, hf, lent, backs, mQ, qC, frz, h2]
    have e4 : (mT (m2 isNotD (mVar 8) (mQ (qC .non)))) [S, D1, x2, some (tn r), x4, some (.lst o (E.map .int)), x6, x7, some (tn (folds r)), x9, x10, x11, x12, x13, x14] = .ok true [S, D1, x2, some (tn r), x4, some (.lst o (E.map .int)), x6, x7, some (tn (folds r)), x9, x10, x11, x12, x13, x14] := by
      simp [mT, m2, mVar, mQ, qC, frz, frzs_ints, h1]
    refine ⟨none, none, ?_⟩
    unfold L5 sIf tAnd' tOr'
    rw [e4, Out.then_ok, if_pos rfl, e3, Out.then_ok, if_neg Bool.false_ne_true, e2]
    rfl
  · have he : told r = .non := if_neg hz
    rw [he]
    exact ⟨x6, x9, rfl⟩
theorem T6 (h : Rul r) : L6 [S, D1, x2, some (tn r), x4, some (.lst o (E.map .int)), x6, x7, x8, x9, x10, x11, x12, x13, x14] = .nx [S, D1, x2, some (tn r), x4, some (.lst o (E.map .int)), x6, x7, x8, x9, some (.int (r.sum - maxI r)), x11, x12, x13, x14] := by
  have h0 : r ≠ [] := by rintro rfl; exact absurd h.len (by simp)
  simp [L6, sAsg, mQ, q2, qB, qCons, qNil, pVar, sumD, ints?_map, maxD, h0, subD, tName]
theorem Rul.lt60 (h : Rul r) : ∀ n ∈ r, n < 2 ^ 60 := fun n hn => by have := (h.rng n hn).2; omega
theorem plane_call {σ : Sl} {m : M D} {w : List Int} {σ1 : Sl} (hm : m σ = .ok (tn w) σ1) (h : Good w) (h2 : ∀ n ∈ w, n < 2 ^ 60) : mCall c_closes_in_plane [.val m] σ = .ok (.bl (decide (2 * maxI w ≤ w.sum))) σ1 := by
  simp [mCall, mArgs, hm, plane_ok h h2, lent, backs]
theorem var3 {t : Sl} {a b c : Option D} : mVar 3 (a :: b :: c :: some (tn r) :: t) = .ok (tn r) (a :: b :: c :: some (tn r) :: t) := by simp [mVar]
theorem zero_plane (h : Rul r) (hz : (0 : Int) ∈ r.foldl step [0]) : 2 * maxI r ≤ r.sum := by
  have h0 : r ≠ [] := by rintro rfl; exact absurd h.len (by simp)
  obtain ⟨a, b⟩ := maxI_spec h0
  have := (in_bound h.pos hz).2 _ a
  omega
theorem T7 (h : Rul r) : L7 [S, D1, x2, some (tn r), x4, some (.lst o (E.map .int)), x6, x7, some (told r), x9, some (.int (r.sum - maxI r)), x11, x12, x13, x14] = .nx [S, D1, x2, some (tn r), x4, some (.lst o (E.map .int)), x6, x7, some (told r), x9, some (.int (r.sum - maxI r)), x11, x12, x13, x14] := by
  have h0 : r ≠ [] := by rintro rfl; exact absurd h.len (by simp)
  have hp := plane_ok h.good h.lt60
  have hs : (decide (2 * maxI r ≤ r.sum) == decide (maxI r ≤ r.sum - maxI r)) = true := by
    rw [beq_iff_eq, decide_eq_decide]; omega
  have e1 : (tNot' (mT (mCall c__law_same_1 [.val (mCall c_closes_in_plane [.val (mVar 3)]), .val (mQ (q2 leD (qB maxD (qCons (pVar 3) qNil)) (pVar 10)))]))) [S, D1, x2, some (tn r), x4, some (.lst o (E.map .int)), x6, x7, some (told r), x9, some (.int (r.sum - maxI r)), x11, x12, x13, x14] = .ok false [S, D1, x2, some (tn r), x4, some (.lst o (E.map .int)), x6, x7, some (told r), x9, some (.int (r.sum - maxI r)), x11, x12, x13, x14] := by
    simp [tNot', mT, mCall, mArgs, mVar, hp, lent, backs, mQ, q2, qB, qCons, qNil, pVar, maxD, ints?_map, h0, leD, same_bl, hs]
  have e2 : (tAnd' (mT (m2 isNotD (mVar 8) (mQ (qC .non)))) (mT (m2 isNotD (mCall c_closes_in_plane [.val (mVar 3)]) (mQ (qC (.bl true)))))) [S, D1, x2, some (tn r), x4, some (.lst o (E.map .int)), x6, x7, some (told r), x9, some (.int (r.sum - maxI r)), x11, x12, x13, x14] = .ok false [S, D1, x2, some (tn r), x4, some (.lst o (E.map .int)), x6, x7, some (told r), x9, some (.int (r.sum - maxI r)), x11, x12, x13, x14] := by
    by_cases hz : (0 : Int) ∈ r.foldl step [0]
    · have he : told r = tn (folds r) := if_pos hz
      rw [he]
      have h1 : isNotD (tn (folds r)) .non = some (.bl true) := rfl
      have h2 : isNotD (.bl true) (.bl true) = some (.bl false) := rfl
      have h3 : decide (2 * maxI r ≤ r.sum) = true := decide_eq_true (zero_plane h hz)
      rw [h3] at hp
      simp [tAnd', mT, m2, mVar, mQ, qC, frz, frzs_ints, h1, mCall, mArgs, hp, lent, backs, h2]
    · have he : told r = .non := if_neg hz
      rw [he]
      rfl
  unfold L7 sIf tOr'
  rw [e1, Out.then_ok, if_neg Bool.false_ne_true, e2]
  rfl
abbrev lowI (r : List Int) : Int := max 0 (2 * maxI r - r.sum)
theorem T8 (h : Rul r) : L8 [S, D1, x2, some (tn r), x4, some (.lst o (E.map .int)), x6, x7, x8, x9, x10, x11, x12, x13, x14] = .nx [S, D1, x2, some (tn r), x4, some (.lst o (E.map .int)), x6, x7, x8, x9, x10, some (.int (lowI r)), some (.int r.sum), x13, x14] := by
  simp [L8, sAsg, mCall, mArgs, mVar, reach_ok h.good h.lt60, lent, backs, tTup', tAll, tName]
end
end K79

/-! K79j: the law's turn, its last part; the law. -/
namespace K79
open PySem FS
section
variable {S D1 x2 x4 x6 x7 x8 x9 x10 x11 x12 x13 x14 : Option D} {r : List Int} {E : List Int} {o : Bool}
theorem low_cases (h : Rul r) : 0 ≤ lowI r ∧ lowI r ≤ r.sum ∧ maxI r ≤ r.sum ∧ 0 < maxI r := by
  have h0 : r ≠ [] := by rintro rfl; exact absurd h.len (by simp)
  obtain ⟨a, b⟩ := maxI_spec h0
  have h1 := h.pos _ a
  have h2 := (sum_nonneg h.pos).2 _ a
  unfold lowI
  omega
theorem T9 (h : Rul r) (hE : ∀ x, x ∈ E ↔ x ∈ r.foldl step [0]) (hz : E.length ≤ 1000) : ∃ o' y7, L9 [S, D1, x2, some (tn r), x4, some (.lst o (E.map .int)), x6, x7, x8, x9, some (.int (r.sum - maxI r)), some (.int (lowI r)), some (.int r.sum), x13, x14] = .nx [S, D1, x2, some (tn r), x4, some (.lst o' (E.map .int)), x6, y7, x8, x9, some (.int (r.sum - maxI r)), some (.int (lowI r)), some (.int r.sum), x13, x14] := by
  have h0 : r ≠ [] := by rintro rfl; exact absurd h.len (by simp)
  have hne : E ≠ [] := by
    intro e
    have := (hE r.sum).mpr (sum_in r)
    rw [e] at this; cases this
  have hmax : maxI E = r.sum := (maxI_unique ((hE _).mpr (sum_in r)) fun y hy => (in_bound h.pos ((hE y).mp hy)).1).symm
  have hp := plane_ok h.good h.lt60
  have hlow : (if maxI r - (r.sum - maxI r) > 0 then maxI r - (r.sum - maxI r) else 0) = lowI r := by unfold lowI; split <;> omega
  have e1 : (mT (m2 neD (mVar 11) (mQ (qB maxD (qCons (qC (.int 0)) (qCons (q2 subD (qB maxD (qCons (pVar 3) qNil)) (pVar 10)) qNil)))))) [S, D1, x2, some (tn r), x4, some (.lst o (E.map .int)), x6, x7, x8, x9, some (.int (r.sum - maxI r)), some (.int (lowI r)), some (.int r.sum), x13, x14] = .ok false [S, D1, x2, some (tn r), x4, some (.lst o (E.map .int)), x6, x7, x8, x9, some (.int (r.sum - maxI r)), some (.int (lowI r)), some (.int r.sum), x13, x14] := by
    have e0 : (qB maxD (qCons (qC (.int 0)) (qCons (q2 subD (qB maxD (qCons (pVar 3) qNil)) (pVar 10)) qNil))) [S, D1, x2, some (tn r), x4, some (.lst o (E.map .int)), x6, x7, x8, x9, some (.int (r.sum - maxI r)), some (.int (lowI r)), some (.int r.sum), x13, x14] = some (.int (lowI r)) := by
      have e00 : (qB maxD (qCons (pVar 3) qNil)) [S, D1, x2, some (tn r), x4, some (.lst o (E.map .int)), x6, x7, x8, x9, some (.int (r.sum - maxI r)), some (.int (lowI r)), some (.int r.sum), x13, x14] = some (.int (maxI r)) := by
        simp [qB, qCons, qNil, pVar, maxD, ints?_map, h0]
      have e01 : (q2 subD (qB maxD (qCons (pVar 3) qNil)) (pVar 10)) [S, D1, x2, some (tn r), x4, some (.lst o (E.map .int)), x6, x7, x8, x9, some (.int (r.sum - maxI r)), some (.int (lowI r)), some (.int r.sum), x13, x14] = some (.int (maxI r - (r.sum - maxI r))) := by
        unfold q2
        rw [e00]
        rfl
      have e02 : qCons (q2 subD (qB maxD (qCons (pVar 3) qNil)) (pVar 10)) qNil [S, D1, x2, some (tn r), x4, some (.lst o (E.map .int)), x6, x7, x8, x9, some (.int (r.sum - maxI r)), some (.int (lowI r)), some (.int r.sum), x13, x14] = some [.int (maxI r - (r.sum - maxI r))] := by
        show ((q2 subD (qB maxD (qCons (pVar 3) qNil)) (pVar 10)) _).bind _ = _
        rw [e01]; rfl
      have e03 : qCons (qC (.int 0)) (qCons (q2 subD (qB maxD (qCons (pVar 3) qNil)) (pVar 10)) qNil) [S, D1, x2, some (tn r), x4, some (.lst o (E.map .int)), x6, x7, x8, x9, some (.int (r.sum - maxI r)), some (.int (lowI r)), some (.int r.sum), x13, x14] = some [.int 0, .int (maxI r - (r.sum - maxI r))] := by
        show Option.map _ (qCons (q2 subD (qB maxD (qCons (pVar 3) qNil)) (pVar 10)) qNil _) = _
        rw [e02]; rfl
      show (qCons (qC (.int 0)) (qCons (q2 subD (qB maxD (qCons (pVar 3) qNil)) (pVar 10)) qNil) _).bind maxD = _
      rw [e03]
      show some (D.int (if maxI r - (r.sum - maxI r) > 0 then maxI r - (r.sum - maxI r) else 0)) = _
      rw [hlow]
    simp [mT, m2, mVar, isF, mQ, e0, frz, neI]
  have e2 : (mT (m2 neD (mVar 12) (mQ (qB sumD (qCons (pVar 3) qNil))))) [S, D1, x2, some (tn r), x4, some (.lst o (E.map .int)), x6, x7, x8, x9, some (.int (r.sum - maxI r)), some (.int (lowI r)), some (.int r.sum), x13, x14] = .ok false [S, D1, x2, some (tn r), x4, some (.lst o (E.map .int)), x6, x7, x8, x9, some (.int (r.sum - maxI r)), some (.int (lowI r)), some (.int r.sum), x13, x14] := by
    simp [mT, m2, mVar, isF, mQ, qB, qCons, qNil, pVar, sumD, ints?_map, frz, neI]
  have e3 : (mT (m2 neD (mQ (qB maxD (qCons (pVar 5) qNil))) (mVar 12))) [S, D1, x2, some (tn r), x4, some (.lst o (E.map .int)), x6, x7, x8, x9, some (.int (r.sum - maxI r)), some (.int (lowI r)), some (.int r.sum), x13, x14] = .ok false [S, D1, x2, some (tn r), x4, some (.lst o (E.map .int)), x6, x7, x8, x9, some (.int (r.sum - maxI r)), some (.int (lowI r)), some (.int r.sum), x13, x14] := by
    simp [mT, m2, mVar, isF, mQ, qB, qCons, qNil, pVar, maxD, ints?_map, hne, hmax, frz, neI]
  have src : iSeq (mVar 5) [S, D1, x2, some (tn r), x4, some (.lst o (E.map .int)), x6, x7, x8, x9, some (.int (r.sum - maxI r)), some (.int (lowI r)), some (.int r.sum), x13, x14] = .ok (E.map .int) [S, D1, x2, some (tn r), x4, some (.lst false (E.map .int)), x6, x7, x8, x9, some (.int (r.sum - maxI r)), some (.int (lowI r)), some (.int r.sum), x13, x14] := by
    cases o <;> simp [iSeq, mVar, isF, isFs_ints, items, frz, frzs_ints]
  have lc := mLc_map (own := [7]) (t := tName 7) (src := iSeq (mVar 5)) (c := mT (m2 ltD (mQ (qB absD (qCons (pVar 7) qNil))) (mVar 11))) (e := mVar 7) (f := fun d => d) (p := fun _ => false) src (by rw [List.length_map]; unfold sz; omega) rfl (fun x hx => by
    obtain ⟨n, hn, rfl⟩ := List.mem_map.mp hx
    refine ⟨[S, D1, x2, some (tn r), x4, some (.lst false (E.map .int)), x6, some (.int n), x8, x9, some (.int (r.sum - maxI r)), some (.int (lowI r)), some (.int r.sum), x13, x14], rfl, rfl, .inr ⟨rfl, ?_⟩⟩
    have hb := (in_bound h.pos ((hE n).mp hn)).2 _ (maxI_spec h0).1
    have ha : ¬ ((if n < 0 then -n else n) < lowI r) := by unfold lowI; split <;> omega
    have e : (qB absD (qCons (pVar 7) qNil)) [S, D1, x2, some (tn r), x4, some (.lst false (E.map .int)), x6, some (.int n), x8, x9, some (.int (r.sum - maxI r)), some (.int (lowI r)), some (.int r.sum), x13, x14] = some (.int (if n < 0 then -n else n)) := rfl
    generalize (if n < 0 then -n else n) = v at e ha
    simp [mT, m2, mQ, e, mVar, isF, frz, ltD, ha])
  have e4 : (mT (m2 gtD (mB len1 (mAll [(mLc [7] (tName 7) (iSeq (mVar 5)) (mT (m2 ltD (mQ (qB absD (qCons (pVar 7) qNil))) (mVar 11))) (mVar 7))])) (mQ (qC (.int 0))))) [S, D1, x2, some (tn r), x4, some (.lst o (E.map .int)), x6, x7, x8, x9, some (.int (r.sum - maxI r)), some (.int (lowI r)), some (.int r.sum), x13, x14] = .ok false [S, D1, x2, some (tn r), x4, some (.lst false (E.map .int)), x6, none, x8, x9, some (.int (r.sum - maxI r)), some (.int (lowI r)), some (.int r.sum), x13, x14] := by
    have e40 : mAll [(mLc [7] (tName 7) (iSeq (mVar 5)) (mT (m2 ltD (mQ (qB absD (qCons (pVar 7) qNil))) (mVar 11))) (mVar 7))] [S, D1, x2, some (tn r), x4, some (.lst o (E.map .int)), x6, x7, x8, x9, some (.int (r.sum - maxI r)), some (.int (lowI r)), some (.int r.sum), x13, x14] = .ok [.lst true []] [S, D1, x2, some (tn r), x4, some (.lst false (E.map .int)), x6, none, x8, x9, some (.int (r.sum - maxI r)), some (.int (lowI r)), some (.int r.sum), x13, x14] := by
      show (mLc _ _ _ _ _ _).then _ = _
      rw [lc]
      simp [wipeD, mAll]
    have e41 : mB len1 (mAll [(mLc [7] (tName 7) (iSeq (mVar 5)) (mT (m2 ltD (mQ (qB absD (qCons (pVar 7) qNil))) (mVar 11))) (mVar 7))]) [S, D1, x2, some (tn r), x4, some (.lst o (E.map .int)), x6, x7, x8, x9, some (.int (r.sum - maxI r)), some (.int (lowI r)), some (.int r.sum), x13, x14] = .ok (.int 0) [S, D1, x2, some (tn r), x4, some (.lst false (E.map .int)), x6, none, x8, x9, some (.int (r.sum - maxI r)), some (.int (lowI r)), some (.int r.sum), x13, x14] := by
      unfold mB
      rw [e40]; rfl
    show ((mB len1 (mAll [(mLc [7] (tName 7) (iSeq (mVar 5)) (mT (m2 ltD (mQ (qB absD (qCons (pVar 7) qNil))) (mVar 11))) (mVar 7))]) _).then _).then _ = _
    rw [e41]
    rfl
  have e5 : (mT (m2 neD (mQ (q2 eqD (pVar 11) (qC (.int 0)))) (mCall c_closes_in_plane [.val (mVar 3)]))) [S, D1, x2, some (tn r), x4, some (.lst false (E.map .int)), x6, none, x8, x9, some (.int (r.sum - maxI r)), some (.int (lowI r)), some (.int r.sum), x13, x14] = .ok false [S, D1, x2, some (tn r), x4, some (.lst false (E.map .int)), x6, none, x8, x9, some (.int (r.sum - maxI r)), some (.int (lowI r)), some (.int r.sum), x13, x14] := by
    have hb : (lowI r == 0) = decide (2 * maxI r ≤ r.sum) := by
      by_cases hc : 2 * maxI r ≤ r.sum
      · rw [decide_eq_true hc]; unfold lowI; simp; omega
      · rw [decide_eq_false hc]; unfold lowI; simp; omega
    generalize lowI r = lo at hb
    generalize decide (2 * maxI r ≤ r.sum) = b at hb hp
    subst hb
    simp [mT, m2, mQ, q2, pVar, qC, eqI, mCall, mArgs, mVar, hp, lent, backs, frz, neB]
  refine ⟨false, none, ?_⟩
  unfold L9 sIf tOr'
  rw [e1, Out.then_ok, if_neg Bool.false_ne_true, e2, Out.then_ok, if_neg Bool.false_ne_true, e3, Out.then_ok, if_neg Bool.false_ne_true, e4, Out.then_ok, if_neg Bool.false_ne_true, e5]
  rfl
theorem add_tn (a b : List Int) (h : a.length + b.length ≤ sz) : addD (tn a) (tn b) = some (tn (a ++ b)) := by
  show (if (a.map D.int).length + (b.map D.int).length ≤ sz then some (D.tup (a.map D.int ++ b.map D.int)) else none) = _
  rw [if_pos (by simpa using h), ← List.map_append]
theorem T10 (h : Rul r) : L10 [S, D1, x2, some (tn r), x4, some (.lst o (E.map .int)), x6, x7, x8, x9, x10, x11, some (.int r.sum), x13, x14] = .nx [S, D1, x2, some (tn r), x4, some (.lst o (E.map .int)), x6, x7, x8, x9, x10, x11, some (.int r.sum), x13, x14] := by
  have h0 : r ≠ [] := by rintro rfl; exact absurd h.len (by simp)
  have hs := h.sum
  have hl := h.few
  have hlow := low_cases h
  have m1' : (m2 addD (mVar 3) (mTup (mAll [(mVar 12)]))) [S, D1, x2, some (tn r), x4, some (.lst o (E.map .int)), x6, x7, x8, x9, x10, x11, some (.int r.sum), x13, x14] = .ok (tn (r ++ [r.sum])) [S, D1, x2, some (tn r), x4, some (.lst o (E.map .int)), x6, x7, x8, x9, x10, x11, some (.int r.sum), x13, x14] := by
    have e1 : mTup (mAll [(mVar 12)]) [S, D1, x2, some (tn r), x4, some (.lst o (E.map .int)), x6, x7, x8, x9, x10, x11, some (.int r.sum), x13, x14] = .ok (tn [r.sum]) [S, D1, x2, some (tn r), x4, some (.lst o (E.map .int)), x6, x7, x8, x9, x10, x11, some (.int r.sum), x13, x14] := rfl
    unfold m2
    rw [var3, Out.then_ok, e1, Out.then_ok, frz_tn, frz_tn, add_tn _ _ (by simp; unfold sz; omega)]
    rfl
  have hp := plane_call m1' (h.goodw hs.1) (fun n hn => by
    rcases List.mem_append.mp hn with hn | hn
    · have := (h.rng n hn).2; omega
    · have : n = r.sum := by simpa using hn
      omega)
  have hm : maxI (r ++ [r.sum]) = r.sum := by rw [maxI_append h0]; omega
  have hs2 : (r ++ [r.sum]).sum = r.sum + r.sum := by rw [List.sum_append]; simp
  have hd : decide (2 * maxI (r ++ [r.sum]) ≤ (r ++ [r.sum]).sum) = true := decide_eq_true (by rw [hm, hs2]; omega)
  rw [hd] at hp
  have e1 : (tNot' (mT (mCall c__law_same_1 [.val (mCall c_closes_in_plane [.val (m2 addD (mVar 3) (mTup (mAll [(mVar 12)])))]), .val (mQ (qC (.bl true)))]))) [S, D1, x2, some (tn r), x4, some (.lst o (E.map .int)), x6, x7, x8, x9, x10, x11, some (.int r.sum), x13, x14] = .ok false [S, D1, x2, some (tn r), x4, some (.lst o (E.map .int)), x6, x7, x8, x9, x10, x11, some (.int r.sum), x13, x14] := by
    have ea : mArgs [.val (mCall c_closes_in_plane [.val (m2 addD (mVar 3) (mTup (mAll [(mVar 12)])))]), .val (mQ (qC (.bl true)))] [S, D1, x2, some (tn r), x4, some (.lst o (E.map .int)), x6, x7, x8, x9, x10, x11, some (.int r.sum), x13, x14] = .ok [.bl true, .bl true] [S, D1, x2, some (tn r), x4, some (.lst o (E.map .int)), x6, x7, x8, x9, x10, x11, some (.int r.sum), x13, x14] := by
      show (mCall c_closes_in_plane _ _).then _ = _
      rw [hp]; rfl
    exact tNot_ok (b := true) (mT_ok (mCall_ok ea (same_bl true true) rfl))
  have m2' : (m2 addD (mVar 3) (mVar 3)) [S, D1, x2, some (tn r), x4, some (.lst o (E.map .int)), x6, x7, x8, x9, x10, x11, some (.int r.sum), x13, x14] = .ok (tn (r ++ r)) [S, D1, x2, some (tn r), x4, some (.lst o (E.map .int)), x6, x7, x8, x9, x10, x11, some (.int r.sum), x13, x14] := by
    unfold m2
    rw [var3, Out.then_ok, var3, Out.then_ok, frz_tn, add_tn _ _ (by unfold sz; omega)]
    rfl
  have hc : c_closes [tn (r ++ r)] = .ok (tn (folds (r ++ r))) [] := by rw [closes_ok h.fit2, if_pos (twice_in r)]
  have e2 : (mT (m2 isD (mCall c_closes [.val (m2 addD (mVar 3) (mVar 3))]) (mQ (qC .non)))) [S, D1, x2, some (tn r), x4, some (.lst o (E.map .int)), x6, x7, x8, x9, x10, x11, some (.int r.sum), x13, x14] = .ok false [S, D1, x2, some (tn r), x4, some (.lst o (E.map .int)), x6, x7, x8, x9, x10, x11, some (.int r.sum), x13, x14] := by
    have ea : mArgs [.val (m2 addD (mVar 3) (mVar 3))] [S, D1, x2, some (tn r), x4, some (.lst o (E.map .int)), x6, x7, x8, x9, x10, x11, some (.int r.sum), x13, x14] = .ok [tn (r ++ r)] [S, D1, x2, some (tn r), x4, some (.lst o (E.map .int)), x6, x7, x8, x9, x10, x11, some (.int r.sum), x13, x14] := by
      show (m2 addD (mVar 3) (mVar 3) _).then _ = _
      rw [m2']; rfl
    exact mT_ok (m2_ok (mCall_ok ea hc rfl) (show mQ (qC .non) _ = .ok .non _ from rfl) rfl)
  unfold L10 sIf tOr'
  rw [e1, Out.then_ok, if_neg Bool.false_ne_true, e2]
  rfl
/-- the wider ruler -/
theorem T11 {ns : List Int} {p c s : Int} (h : Rul r) (hd : DOk p s) : ∃ w p' c' s', L11 [S, some (dst ns p c s), x2, some (tn r), x4, some (.lst o (E.map .int)), x6, x7, x8, x9, x10, some (.int (lowI r)), some (.int r.sum), x13, x14] = .nx [S, some (dst ns p' c' s'), x2, some (tn r), x4, some (.lst o (E.map .int)), x6, x7, x8, x9, x10, some (.int (lowI r)), some (.int r.sum), some (tn w), x14] ∧ DOk p' s' ∧ ((lowI r = 0 ∧ w = r) ∨ (0 < lowI r ∧ ∃ v, w = r ++ [v] ∧ lowI r ≤ v ∧ v ≤ r.sum)) := by
  have hlow := low_cases h
  have hs := h.sum
  have hl := h.few
  by_cases hc : 0 < lowI r
  · obtain ⟨v, p', c', s', e, h1, h2, h3⟩ := callD (ns := ns) (S := S) (t := [x2, some (tn r), x4, some (.lst o (E.map .int)), x6, x7, x8, x9, x10, some (.int (lowI r)), some (.int r.sum), x13, x14]) (t2 := [x2, some (tn r), x4, some (.lst o (E.map .int)), x6, x7, x8, x9, x10, some (.int (lowI r)), some (.int r.sum), x13, x14]) (m := mQ (q2 addI (q2 subD (pVar 12) (pVar 11)) (qC (.int 1)))) (p := p) (c := c) (s := s) (l := r.sum - lowI r + 1) rfl hd (by omega) (by omega)
    refine ⟨r ++ [lowI r + v], p', c', s', ?_, h3, .inr ⟨hc, lowI r + v, rfl, by omega, by omega⟩⟩
    have e1 : mTup (mAll [(m2 addI (mVar 11) (mCall c__law_draw [.ref 1, .val (mQ (q2 addI (q2 subD (pVar 12) (pVar 11)) (qC (.int 1))))]))]) [S, some (dst ns p c s), x2, some (tn r), x4, some (.lst o (E.map .int)), x6, x7, x8, x9, x10, some (.int (lowI r)), some (.int r.sum), x13, x14] = .ok (tn [lowI r + v]) [S, some (dst ns p' c' s'), x2, some (tn r), x4, some (.lst o (E.map .int)), x6, x7, x8, x9, x10, some (.int (lowI r)), some (.int r.sum), x13, x14] := by
      have e2 : m2 addI (mVar 11) (mCall c__law_draw [.ref 1, .val (mQ (q2 addI (q2 subD (pVar 12) (pVar 11)) (qC (.int 1))))]) [S, some (dst ns p c s), x2, some (tn r), x4, some (.lst o (E.map .int)), x6, x7, x8, x9, x10, some (.int (lowI r)), some (.int r.sum), x13, x14] = .ok (.int (lowI r + v)) [S, some (dst ns p' c' s'), x2, some (tn r), x4, some (.lst o (E.map .int)), x6, x7, x8, x9, x10, some (.int (lowI r)), some (.int r.sum), x13, x14] := by
        show (mVar 11 _).then _ = _
        rw [show mVar 11 [S, some (dst ns p c s), x2, some (tn r), x4, some (.lst o (E.map .int)), x6, x7, x8, x9, x10, some (.int (lowI r)), some (.int r.sum), x13, x14] = .ok (.int (lowI r)) [S, some (dst ns p c s), x2, some (tn r), x4, some (.lst o (E.map .int)), x6, x7, x8, x9, x10, some (.int (lowI r)), some (.int r.sum), x13, x14] from rfl, Out.then_ok, e]
        rfl
      unfold mTup mAll
      rw [e2]
      rfl
    have e3 : mT (m2 gtD (mVar 11) (mQ (qC (.int 0)))) [S, some (dst ns p c s), x2, some (tn r), x4, some (.lst o (E.map .int)), x6, x7, x8, x9, x10, some (.int (lowI r)), some (.int r.sum), x13, x14] = .ok true [S, some (dst ns p c s), x2, some (tn r), x4, some (.lst o (E.map .int)), x6, x7, x8, x9, x10, some (.int (lowI r)), some (.int r.sum), x13, x14] := by
      generalize lowI r = lo at hc
      simp [mT, m2, mVar, isF, mQ, qC, frz, gtD, hc]
    show (mIf _ _ _ _).thenS _ = _
    unfold mIf
    rw [e3, Out.then_ok, if_pos rfl]
    unfold m2
    rw [var3, Out.then_ok, show mTup (mAll [(fun σ => (mVar 11 σ).then fun x σ1 => (mCall c__law_draw [.ref 1, .val (mQ (q2 addI (q2 subD (pVar 12) (pVar 11)) (qC (.int 1))))] σ1).then fun y σ2 => ofOpt (addI (frz x) (frz y)) σ2)]) [S, some (dst ns p c s), x2, some (tn r), x4, some (.lst o (E.map .int)), x6, x7, x8, x9, x10, some (.int (lowI r)), some (.int r.sum), x13, x14] = .ok (tn [lowI r + v]) [S, some (dst ns p' c' s'), x2, some (tn r), x4, some (.lst o (E.map .int)), x6, x7, x8, x9, x10, some (.int (lowI r)), some (.int r.sum), x13, x14] from e1, Out.then_ok, frz_tn, frz_tn, add_tn _ _ (by simp; unfold sz; omega)]
    rfl
  · have h00 : lowI r = 0 := by omega
    refine ⟨r, p, c, s, ?_, hd, .inl ⟨h00, rfl⟩⟩
    rw [h00]
    have e3 : mT (m2 gtD (mVar 11) (mQ (qC (.int 0)))) [S, some (dst ns p c s), x2, some (tn r), x4, some (.lst o (E.map .int)), x6, x7, x8, x9, x10, some (.int 0), some (.int r.sum), x13, x14] = .ok false [S, some (dst ns p c s), x2, some (tn r), x4, some (.lst o (E.map .int)), x6, x7, x8, x9, x10, some (.int 0), some (.int r.sum), x13, x14] := rfl
    show (mIf _ _ _ _).thenS _ = _
    unfold mIf
    rw [e3, Out.then_ok, if_neg Bool.false_ne_true, var3]
    rfl
theorem T12 {w : List Int} (h : Rul r) (hw : (lowI r = 0 ∧ w = r) ∨ (0 < lowI r ∧ ∃ v, w = r ++ [v] ∧ lowI r ≤ v ∧ v ≤ r.sum)) : L12 [S, D1, x2, x4, x6, some (.lst o (E.map .int)), x7, x8, x9, x10, x11, some (.int (lowI r)), x13, some (tn w), x14] = .nx [S, D1, x2, x4, x6, some (.lst o (E.map .int)), x7, x8, x9, x10, x11, some (.int (lowI r)), x13, some (tn w), x14] := by
  have h0 : r ≠ [] := by rintro rfl; exact absurd h.len (by simp)
  have hlow := low_cases h
  have hs := h.sum
  have v13 : mVar 13 [S, D1, x2, x4, x6, some (.lst o (E.map .int)), x7, x8, x9, x10, x11, some (.int (lowI r)), x13, some (tn w), x14] = .ok (tn w) [S, D1, x2, x4, x6, some (.lst o (E.map .int)), x7, x8, x9, x10, x11, some (.int (lowI r)), x13, some (tn w), x14] := by simp [mVar]
  rcases hw with ⟨h1, rfl⟩ | ⟨h1, v, rfl, h2, h3⟩
  · have hp := plane_call v13 h.good h.lt60
    have hd : 2 * maxI w ≤ w.sum := by have : lowI w = 0 := h1; unfold lowI at this; omega
    rw [decide_eq_true hd] at hp
    unfold L12 sIf tAnd' mT m2
    rw [hp]
    rfl
  · have hp := plane_call v13 (h.goodw (by omega)) (fun n hn => by
      rcases List.mem_append.mp hn with hn | hn
      · have := (h.rng n hn).2; omega
      · have : n = v := by simpa using hn
        omega)
    have hm : maxI (r ++ [v]) = max (maxI r) v := maxI_append h0 v
    have hs2 : (r ++ [v]).sum = r.sum + v := by rw [List.sum_append]; simp
    have hd : 2 * maxI (r ++ [v]) ≤ (r ++ [v]).sum := by rw [hm, hs2]; unfold lowI at h1 h2; omega
    rw [decide_eq_true hd] at hp
    unfold L12 sIf tAnd' mT m2
    rw [hp]
    rfl
abbrev bads : List D := [.tup [], .lst false [.int 1], .tup [.int 0], .tup [.str "x"], .tup [.bl true], .non]
theorem turnX {x3 x5 : Option D} {d : D} (h : d ∈ bads) : (sIf (mT (m2 neD (mCall c__law_refused [.val (mVar 14)]) (mQ (qC (.str "ruler")))))
 (sRet (mQ (qC (.bl false))))
 sNext) [S, D1, x2, x3, x4, x5, x6, x7, x8, x9, x10, x11, x12, x13, some d] = .nx [S, D1, x2, x3, x4, x5, x6, x7, x8, x9, x10, x11, x12, x13, some d] := by
  have hf : isF d = true := by
    simp only [bads, List.mem_cons, List.not_mem_nil, or_false] at h
    rcases h with rfl | rfl | rfl | rfl | rfl | rfl <;> rfl
  have e1 : mCall c__law_refused [.val (mVar 14)] [S, D1, x2, x3, x4, x5, x6, x7, x8, x9, x10, x11, x12, x13, some d] = .ok (.str "ruler") [S, D1, x2, x3, x4, x5, x6, x7, x8, x9, x10, x11, x12, x13, some d] := by
    simp [mCall, mArgs, mVar, hf, refused_bad d h, lent, backs]
  have e2 : neD (frz (.str "ruler")) (frz (.str "ruler")) = some (.bl false) := by
    show (if (okd 40 (.str "ruler") && okd 40 (.str "ruler")) = true then some (D.bl (!deq (.str "ruler") (.str "ruler"))) else none) = _
    rw [if_pos (by decide +kernel)]
    have : deq (.str "ruler") (.str "ruler") = true := by decide +kernel
    rw [this]; rfl
  show (mT (m2 neD _ _) _).thenS _ = _
  have e3 : mT (m2 neD (mCall c__law_refused [.val (mVar 14)]) (mQ (qC (.str "ruler")))) [S, D1, x2, x3, x4, x5, x6, x7, x8, x9, x10, x11, x12, x13, some d] = .ok false [S, D1, x2, x3, x4, x5, x6, x7, x8, x9, x10, x11, x12, x13, some d] := by
    exact mT_ok (m2_ok e1 (show mQ (qC (.str "ruler")) _ = .ok (.str "ruler") _ from rfl) e2)
  rw [e3]
  rfl
theorem loopX {x3 x5 : Option D} : ∀ (xs : List D) (y : Option D), (∀ d ∈ xs, d ∈ bads) → ∃ y', forL (tName 14) (sIf (mT (m2 neD (mCall c__law_refused [.val (mVar 14)]) (mQ (qC (.str "ruler")))))
 (sRet (mQ (qC (.bl false))))
 sNext) xs [S, D1, x2, x3, x4, x5, x6, x7, x8, x9, x10, x11, x12, x13, y] = .nx [S, D1, x2, x3, x4, x5, x6, x7, x8, x9, x10, x11, x12, x13, y']
  | [], y, _ => ⟨y, rfl⟩
  | d :: xs, y, h => by
    obtain ⟨y', ih⟩ := loopX (x3 := x3) (x5 := x5) xs (some d) fun e he => h e (List.mem_cons_of_mem _ he)
    refine ⟨y', ?_⟩
    unfold forL
    rw [show tName 14 d [S, D1, x2, x3, x4, x5, x6, x7, x8, x9, x10, x11, x12, x13, y] = some [S, D1, x2, x3, x4, x5, x6, x7, x8, x9, x10, x11, x12, x13, some d] from rfl]
    dsimp only
    rw [turnX (h d List.mem_cons_self)]
    exact ih
theorem T13 {x3 x5 : Option D} : ∃ y', L13 [S, D1, x2, x3, x4, x5, x6, x7, x8, x9, x10, x11, x12, x13, x14] = .nx [S, D1, x2, x3, x4, x5, x6, x7, x8, x9, x10, x11, x12, x13, y'] := by
  obtain ⟨y', e⟩ := loopX (S := S) (D1 := D1) (x2 := x2) (x3 := x3) (x4 := x4) (x5 := x5) (x6 := x6) (x7 := x7) (x8 := x8) (x9 := x9) (x10 := x10) (x11 := x11) (x12 := x12) (x13 := x13) bads x14 fun d h => h
  exact ⟨y', e⟩
end
/-! ### the law -/
def Sh (ns : List Int) (σ : Sl) : Prop := ∃ p c s x2 x3 x4 x5 x6 x7 x8 x9 x10 x11 x12 x13 x14, σ = [some (.scr ns), some (dst ns p c s), x2, x3, x4, x5, x6, x7, x8, x9, x10, x11, x12, x13, x14] ∧ DOk p s
theorem fold_len : ∀ (r es : List Int), (r.foldl nextE es).length ≤ es.length * 2 ^ r.length
  | [], es => by simp
  | l :: r, es => by
    rw [List.foldl_cons]
    have h1 := fold_len r (nextE es l)
    have h2 := nextE_len es l
    refine Nat.le_trans h1 ?_
    rw [List.length_cons, Nat.pow_succ, Nat.mul_comm (2 ^ r.length) 2, ← Nat.mul_assoc]
    exact Nat.mul_le_mul_right _ (by omega)
abbrev bodyT : MS := sSeq L0 (sSeq L1 (sSeq L2 (sSeq L3 (sSeq L4 (sSeq L5 (sSeq L6 (sSeq L7 (sSeq L8 (sSeq L9 (sSeq L10 (sSeq L11 (sSeq L12 L13))))))))))))
theorem seq_nx {a b : MS} {σ σ1 : Sl} (h : a σ = .nx σ1) : sSeq a b σ = b σ1 := by
  show (a σ).then b = _
  rw [h]; rfl
theorem turn {ns : List Int} {σ : Sl} (h : Sh ns σ) : ∃ σ', bodyT σ = .nx σ' ∧ Sh ns σ' := by
  obtain ⟨p, c, s, x2, x3, x4, x5, x6, x7, x8, x9, x10, x11, x12, x13, x14, rfl, hd⟩ := h
  obtain ⟨r, p1, c1, s1, e0, hr, hd1⟩ := T0 (ns := ns) (S := some (.scr ns)) (x2 := x2) (x3 := x3) (x4 := x4) (x5 := x5) (x6 := x6) (x7 := x7) (x8 := x8) (x9 := x9) (x10 := x10) (x11 := x11) (x12 := x12) (x13 := x13) (x14 := x14) (c := c) hd
  unfold bodyT
  rw [seq_nx e0]
  rw [seq_nx (show L1 [some (.scr ns), some (dst ns p1 c1 s1), x2, some (tn r), none, x5, x6, x7, x8, x9, x10, x11, x12, x13, x14] = .nx [some (.scr ns), some (dst ns p1 c1 s1), x2, some (tn r), none, some (.lst true [.int 0]), x6, x7, x8, x9, x10, x11, x12, x13, x14] from rfl)]
  obtain ⟨o2, y6, y7, e2⟩ := T2 (S := some (.scr ns)) (D1 := some (dst ns p1 c1 s1)) (x2 := x2) (x4 := none) (x6 := x6) (x7 := x7) (x8 := x8) (x9 := x9) (x10 := x10) (x11 := x11) (x12 := x12) (x13 := x13) (x14 := x14) hr
  rw [seq_nx e2]
  have hE : ∀ x, x ∈ r.foldl nextE [0] ↔ x ∈ r.foldl step [0] := fold_same r [0] [0] fun _ => Iff.rfl
  have hEl : (r.foldl nextE [0]).length ≤ 1000 := by
    have h1 := fold_len r [0]
    have h2 : 2 ^ r.length ≤ 2 ^ 9 := Nat.pow_le_pow_right (by decide) hr.few
    simp only [List.length_cons, List.length_nil] at h1
    omega
  generalize r.foldl nextE [0] = E at hE hEl
  rw [seq_nx (T3 hr), seq_nx (T4 hE)]
  obtain ⟨y6', y9, e5⟩ := T5 (S := some (.scr ns)) (D1 := some (dst ns p1 c1 s1)) (x2 := x2) (x4 := none) (x6 := y6) (x7 := y7) (x9 := x9) (x10 := x10) (x11 := x11) (x12 := x12) (x13 := x13) (x14 := x14) (E := E) (o := o2) hr
  rw [seq_nx e5, seq_nx (T6 hr), seq_nx (T7 hr), seq_nx (T8 hr)]
  obtain ⟨o9, z7, e9⟩ := T9 (S := some (.scr ns)) (D1 := some (dst ns p1 c1 s1)) (x2 := x2) (x4 := none) (x6 := y6') (x7 := y7) (x8 := some (told r)) (x9 := y9) (x13 := x13) (x14 := x14) (o := o2) hr hE hEl
  rw [seq_nx e9, seq_nx (T10 hr)]
  obtain ⟨w, p2, c2, s2, e11, hd2, hw⟩ := T11 (S := some (.scr ns)) (x2 := x2) (x4 := none) (x6 := y6') (x7 := z7) (x8 := some (told r)) (x9 := y9) (x10 := some (.int (r.sum - maxI r))) (x13 := x13) (x14 := x14) (E := E) (o := o9) (ns := ns) (c := c1) hr hd1
  rw [seq_nx e11, seq_nx (T12 hr hw)]
  obtain ⟨y', e13⟩ := T13 (S := some (.scr ns)) (D1 := some (dst ns p2 c2 s2)) (x2 := x2) (x3 := some (tn r)) (x4 := none) (x5 := some (.lst o9 (E.map .int))) (x6 := y6') (x7 := z7) (x8 := some (told r)) (x9 := y9) (x10 := some (.int (r.sum - maxI r))) (x11 := some (.int (lowI r))) (x12 := some (.int r.sum)) (x13 := some (tn w)) (x14 := x14)
  rw [e13]
  exact ⟨_, rfl, _, _, _, _, _, _, _, _, _, _, _, _, _, _, _, _, rfl, hd2⟩
theorem turns {ns : List Int} : ∀ (xs : List D) (σ : Sl), Sh ns σ → ∃ σ', forL (tName 2) bodyT xs σ = .nx σ' ∧ Sh ns σ'
  | [], σ, h => ⟨σ, rfl, h⟩
  | x :: xs, σ, h => by
    have h1 : ∃ σ1, tName 2 x σ = some σ1 ∧ Sh ns σ1 := by
      obtain ⟨p, c, s, x2, x3, x4, x5, x6, x7, x8, x9, x10, x11, x12, x13, x14, rfl, hd⟩ := h
      exact ⟨_, rfl, p, c, s, some x, x3, x4, x5, x6, x7, x8, x9, x10, x11, x12, x13, x14, rfl, hd⟩
    obtain ⟨σ1, e1, h1⟩ := h1
    obtain ⟨σ2, e2, h2⟩ := turn h1
    obtain ⟨σ3, e3, h3⟩ := turns xs σ2 h2
    refine ⟨σ3, ?_, h3⟩
    unfold forL
    rw [e1]
    dsimp only
    rw [e2]
    exact e3
theorem law_true (ns : List Int) (_ : ns.length ≤ 63) : c_law [.scr ns] = .ok (.bl true) [] := by
  have e0 : m_law = sSeq (sAsg (tName 1) (mCall c__law_draws [.val (mVar 0)])) (sSeq (sFor (tName 2) (FS.iRng1 (mQ (qC (.int 5)))) bodyT) (sRet (mQ (qC (.bl true))))) := rfl
  have e1 : sAsg (tName 1) (mCall c__law_draws [.val (mVar 0)]) [some (.scr ns), none, none, none, none, none, none, none, none, none, none, none, none, none, none] = .nx [some (.scr ns), some (dst ns 0 0 1), none, none, none, none, none, none, none, none, none, none, none, none, none] := by
    simp [sAsg, mCall, mArgs, mVar, isF, draws_ok, lent, backs, tName]
  obtain ⟨σ', e2, h2⟩ := turns (ns := ns) (irange 0 5) [some (.scr ns), some (dst ns 0 0 1), none, none, none, none, none, none, none, none, none, none, none, none, none] ⟨0, 0, 1, _, _, _, _, _, _, _, _, _, _, _, _, _, rfl, ⟨by decide, by decide, by decide⟩⟩
  have e3 : sFor (tName 2) (FS.iRng1 (mQ (qC (.int 5)))) bodyT [some (.scr ns), some (dst ns 0 0 1), none, none, none, none, none, none, none, none, none, none, none, none, none] = .nx σ' := by
    unfold sFor
    rw [show FS.iRng1 (mQ (qC (.int 5))) [some (.scr ns), some (dst ns 0 0 1), none, none, none, none, none, none, none, none, none, none, none, none, none] = .ok (irange 0 5) [some (.scr ns), some (dst ns 0 0 1), none, none, none, none, none, none, none, none, none, none, none, none, none] from rfl, Out.thenS_ok, if_pos (by decide)]
    exact e2
  show (match m_law [some (.scr ns), none, none, none, none, none, none, none, none, none, none, none, none, none, none] with
      | .nx σ => endOf [] .non σ
      | .ret d σ => endOf [] d σ
      | .exc x _ => .exc x
      | _ => COut.bad) = _
  rw [e0, seq_nx e1, seq_nx e3]
  rfl
end K79

/-! K79z: the law of the rulers, whole. -/
open PySem PySem.W PyProof.Rows
set_option maxHeartbeats 0 in
theorem PySem.Challenge.cw_frameshold_k79_whole_rulers_that_close_holds : PySem.Challenge.rw_frameshold_k79_whole_rulers_that_close.Holds := by
  w_on; o_law; k_head; (case hw => w_witness2)
  k_fill
  refine L2.walk_of (l := PySem.Challenge.rw_frameshold_k79_whole_rulers_that_close) (n := 63) (k := 6) (x := "script") (CX := fun w => L2.CX PySem.Challenge.rw_frameshold_k79_whole_rulers_that_close.prog w) (sp := fun w => K79.spLaw _) rfl (by decide) rfl ⟨rfl, by decide, by decide⟩ (fun w h Y => PySem.W.kIn_of Y) ?F (fun w H a ns hl hO hS => ⟨a, ns, rfl, hl, FS.scr_of hO hS, fun _ => rfl⟩) (fun w H s e s' h => FS.noCX h)
  case F =>
    intro w mg fa h KX G hmg
    refine K79.law_fd (h := h) K79.law_true hmg ?T
    refine' K79.all_mk KX G ?a_is_whole ?l_is_whole ?c_is_whole ?k_is_whole ?a_look_at_ruler ?l_look_at_ruler ?c_look_at_ruler ?k_look_at_ruler ?a_is_folds ?l_is_folds ?c_is_folds ?k_is_folds ?a_closes ?l_closes ?c_closes ?k_closes ?a_closes_in_plane ?l_closes_in_plane ?c_closes_in_plane ?k_closes_in_plane ?a_reach_of ?l_reach_of ?c_reach_of ?k_reach_of ?a__law_draws ?l__law_draws ?c__law_draws ?k__law_draws ?a__law_draw ?l__law_draw ?c__law_draw ?k__law_draw ?a__law_same ?l__law_same ?c__law_same ?k__law_same ?a__law_refused ?l__law_refused ?c__law_refused ?k__law_refused ?a_law ?l_law ?c_law ?k_law ?z_abs ?z_all ?z_bool ?z_int ?z_isinstance ?z_len ?z_list ?z_max ?z_range ?z_set ?z_sorted ?z_str ?z_sum ?z_tuple ?z_zip ?n_MOST_WORK ?va ?vs_ ?vr ?vf ?ea_Refused ?el_Refused ?er_Refused ?es_Refused ?eb_Refused ?et_Refused ?ek_Refused ?ei_Refused ?ef_Refused ?l_Refused ?c_Refused ?k_Refused ?ew_Refused_word ?eg_Refused ?eh_Refused ?ed_Refused ?em_Refused_Refused
    (case a_is_whole => k_is); (case l_is_whole => k_is); (case c_is_whole => k_is); (case k_is_whole => k_is); (case a_look_at_ruler => k_is); (case l_look_at_ruler => k_is); (case c_look_at_ruler => k_is); (case k_look_at_ruler => k_is); (case a_is_folds => k_is); (case l_is_folds => k_is); (case c_is_folds => k_is); (case k_is_folds => k_is); (case a_closes => k_is); (case l_closes => k_is); (case c_closes => k_is); (case k_closes => k_is); (case a_closes_in_plane => k_is); (case l_closes_in_plane => k_is); (case c_closes_in_plane => k_is); (case k_closes_in_plane => k_is); (case a_reach_of => k_is); (case l_reach_of => k_is); (case c_reach_of => k_is); (case k_reach_of => k_is); (case a__law_draws => k_is); (case l__law_draws => k_is); (case c__law_draws => k_is); (case k__law_draws => k_is); (case a__law_draw => k_is); (case l__law_draw => k_is); (case c__law_draw => k_is); (case k__law_draw => k_is); (case a__law_same => k_is); (case l__law_same => k_is); (case c__law_same => k_is); (case k__law_same => k_is); (case a__law_refused => k_is); (case l__law_refused => k_is); (case c__law_refused => k_is); (case k__law_refused => k_is); (case a_law => k_is); (case l_law => k_is); (case c_law => k_is); (case k_law => k_is); (case z_abs => k_is); (case z_all => k_is); (case z_bool => k_is); (case z_int => k_is); (case z_isinstance => k_is); (case z_len => k_is); (case z_list => k_is); (case z_max => k_is); (case z_range => k_is); (case z_set => k_is); (case z_sorted => k_is); (case z_str => k_is); (case z_sum => k_is); (case z_tuple => k_is); (case z_zip => k_is); (case n_MOST_WORK => k_is); (case va => k_is); (case vs_ => k_is); (case vr => k_is); (case vf => k_is); (case ea_Refused => k_is); (case el_Refused => k_is); (case er_Refused => decide +kernel); (case es_Refused => k_is); (case eb_Refused => k_is); (case et_Refused => k_is); (case ek_Refused => k_is); (case ei_Refused => k_is); (case ef_Refused => k_is); (case l_Refused => k_is); (case c_Refused => k_is); (case k_Refused => k_is); (case ew_Refused_word => k_is); (case eg_Refused => k_is); (case eh_Refused => k_is); (case ed_Refused => k_is); (case em_Refused_Refused => k_is)

