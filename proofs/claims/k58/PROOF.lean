import PyProof.Rows.All
import KE.LtData
import KE.DataEq
import HandS.ForMost
import HandS.Wide
import HandS.Gcd
import HandS.TupAny
import HandS.TupMul
import HandS.Style
import HandS.Conv
import HandS.IsInst
import KE.DataCmp
import HandS.Walk
import HandS.Zip
import HandS.Defaults
import HandS.Head0
import HandS.Head1
import HandS.Head2
import HandS.HeadEnd
import HandS.HeadHook1
import HandS.HeadHook2
import HandS.RaiseMore
import KE.DataMinMax
import KE.SortData
import KE.DataFind
import KE.KRevSl
import HandS.Head3
import PySem.Challenge.RW_observatory_k58_whole_two_clocks
set_option autoImplicit false
set_option linter.all false
/-! PdA: Python's values as plain data, and small programs over them (value semantics). -/
namespace PD
open PySem

abbrev D := PyData

inductive Out (α : Type) where
  | no
  | ex (c : String) (fs : List D)
  | ok (a : α)

def Out.bind {α β : Type} (o : Out α) (k : α → Out β) : Out β :=
  match o with
  | .no => .no
  | .ex c fs => .ex c fs
  | .ok a => k a
@[simp] theorem Out.bind_ok {α β : Type} (a : α) (k : α → Out β) : (Out.ok a).bind k = k a := rfl
@[simp] theorem Out.bind_no {α β : Type} (k : α → Out β) : (Out.no : Out α).bind k = .no := rfl
@[simp] theorem Out.bind_ex {α β : Type} (c : String) (fs : List D) (k : α → Out β) : (Out.ex c fs : Out α).bind k = .ex c fs := rfl
theorem Out.bind_eq_ok {α β : Type} {o : Out α} {k : α → Out β} {b : β} (h : o.bind k = .ok b) : ∃ a, o = .ok a ∧ k a = .ok b := by
  cases o with
  | no => cases h
  | ex c fs => cases h
  | ok a => exact ⟨a, rfl, h⟩

abbrev Env := List (Option D)
abbrev M (α : Type) := Env → Out (α × Env)

def mPure {α : Type} (a : α) : M α := fun e => .ok (a, e)
def mBind {α β : Type} (m : M α) (k : α → M β) : M β := fun e => (m e).bind fun p => k p.1 p.2
def mLift {α : Type} (o : Out α) : M α := fun e => o.bind fun a => .ok (a, e)
theorem mBind_ok {α β : Type} {m : M α} {k : α → M β} {e e2 : Env} {b : β} (h : mBind m k e = .ok (b, e2)) : ∃ a e1, m e = .ok (a, e1) ∧ k a e1 = .ok (b, e2) := by
  obtain ⟨p, h1, h2⟩ := Out.bind_eq_ok h
  exact ⟨p.1, p.2, h1, h2⟩
theorem mLift_ok {α : Type} {o : Out α} {e e2 : Env} {b : α} (h : mLift o e = .ok (b, e2)) : o = .ok b ∧ e2 = e := by
  obtain ⟨a, h1, h2⟩ := Out.bind_eq_ok h
  cases h2
  exact ⟨h1, rfl⟩

/-! ### expressions -/
def mC (d : D) : M D := mPure d
def getV (i : Nat) (e : Env) : Out D := match e[i]? with
  | some (some d) => .ok d
  | _ => .no
def mV (i : Nat) : M D := fun e => (getV i e).bind fun d => .ok (d, e)
/-- an owned name's object handed on -/
def mMv (i : Nat) : M D := fun e => (getV i e).bind fun d => .ok (d, e.set i none)
def m1 (f : D → Out D) (a : M D) : M D := mBind a fun x => mLift (f x)
def m2 (f : D → D → Out D) (a b : M D) : M D := mBind a fun x => mBind b fun y => mLift (f x y)
/-- an owned name to the left: read behind the right side -/
def m2o (f : D → D → Out D) (i : Nat) (b : M D) : M D := mBind (mV i) fun _ => mBind b fun y => mBind (mV i) fun x => mLift (f x y)
def m3 (f : D → D → D → Out D) (a b c : M D) : M D := mBind a fun x => mBind b fun y => mBind c fun z => mLift (f x y z)
def mNil : M (List D) := mPure []
def mCons (a : M D) (r : M (List D)) : M (List D) := mBind a fun x => mBind r fun xs => mPure (x :: xs)
def mTup (r : M (List D)) : M D := mBind r fun xs => mPure (.tuple xs)
def mLst (r : M (List D)) : M D := mBind r fun xs => mPure (.list xs)
def mCB (f : List D → Out D) (r : M (List D)) : M D := mBind r fun xs => mLift (f xs)

def bOf : D → Out Bool
  | .bool b => .ok b
  | _ => .no
def truth : D → Out Bool
  | .none => .ok false
  | .bool b => .ok b
  | .int i => .ok (i != 0)
  | .str s => .ok (s.cps.size != 0)
  | .list xs => .ok (!xs.isEmpty)
  | .tuple xs => .ok (!xs.isEmpty)
  | .dict _ => .no
/-- a bool as a test; any value's truth -/
def tV (a : M D) : M Bool := mBind a fun x => mLift (bOf x)
def tT (a : M D) : M Bool := mBind a fun x => mLift (truth x)
def tAnd (a b : M Bool) : M Bool := mBind a fun c => if c then b else mPure false
def tOr (a b : M Bool) : M Bool := mBind a fun c => if c then mPure true else b
def tNot (a : M Bool) : M Bool := mBind a fun c => mPure (!c)
def mAnd (a b : M D) : M D := mBind a fun x => mBind (mLift (bOf x)) fun c => if c then b else mPure (.bool false)
def mOr (a b : M D) : M D := mBind a fun x => mBind (mLift (bOf x)) fun c => if c then mPure (.bool true) else b
def mNot (a : M D) : M D := mBind a fun x => mBind (mLift (bOf x)) fun c => mPure (.bool (!c))
def mIf (t : M Bool) (a b : M D) : M D := mBind t fun c => if c then a else b
/-- a op1 b op2 c -/
def mChain (f g : D → D → Out D) (a b c : M D) : M D := mBind a fun x => mBind b fun y => mBind (mLift (f x y)) fun z => mBind (mLift (bOf z)) fun k => if k then mBind c fun w => mLift (g y w) else mPure (.bool false)

/-! ### statements -/
inductive Fl where
  | nx (e : Env)
  | rt (d : D) (e : Env)
  | bk (e : Env)
  | ct (e : Env)
abbrev S := Env → Out Fl
abbrev Gt := D → Env → Out Env
def gN (i : Nat) : Gt := fun d e => .ok (e.set i (some d))
def gAll : List Gt → List D → Env → Out Env
  | [], [], e => .ok e
  | g :: gs, d :: ds, e => (g d e).bind fun e1 => gAll gs ds e1
  | _, _, _ => .no
def gT (gs : List Gt) : Gt := fun d e => match d with
  | .tuple ds => gAll gs ds e
  | _ => .no
def sNx : S := fun e => .ok (.nx e)
def sNo : S := fun _ => .no
def sBk : S := fun e => .ok (.bk e)
def sCt : S := fun e => .ok (.ct e)
def sSeq (a b : S) : S := fun e => (a e).bind fun f => match f with
  | .nx e1 => b e1
  | f => .ok f
def sSet (i : Nat) (m : M D) : S := fun e => (m e).bind fun p => .ok (.nx (p.2.set i (some p.1)))
def sAsg (m : M D) (g : Gt) : S := fun e => (m e).bind fun p => (g p.1 p.2).bind fun e2 => .ok (.nx e2)
/-- i, j, .. = e1, e2, .. -/
def setAll : List Nat → List D → Env → Out Env
  | [], [], e => .ok e
  | i :: is, d :: ds, e => setAll is ds (e.set i (some d))
  | _, _, _ => .no
def sPar (is : List Nat) (m : M (List D)) : S := fun e => (m e).bind fun p => (setAll is p.1 p.2).bind fun e2 => .ok (.nx e2)
def sRt (m : M D) : S := fun e => (m e).bind fun p => .ok (.rt p.1 p.2)
def sRtN : S := fun e => .ok (.rt .none e)
def sEx (m : M D) : S := fun e => (m e).bind fun p => .ok (.nx p.2)
def sIf (t : M Bool) (a b : S) : S := fun e => (t e).bind fun p => if p.1 then a p.2 else b p.2
def forL (g : Gt) (body : S) : List D → Env → Out Fl
  | [], e => .ok (.nx e)
  | d :: ds, e => (g d e).bind fun e1 => (body e1).bind fun f => match f with
    | .nx e2 => forL g body ds e2
    | .ct e2 => forL g body ds e2
    | .bk e2 => .ok (.nx e2)
    | .rt v e2 => .ok (.rt v e2)
def sFor (it : M (List D)) (g : Gt) (body : S) : S := fun e => (it e).bind fun p => forL g body p.1 p.2
def whileN (t : M Bool) (body : S) : Nat → Env → Out Fl
  | 0, _ => .no
  | n + 1, e => (t e).bind fun p => if p.1 then (body p.2).bind fun f => match f with
      | .nx e2 => whileN t body n e2
      | .ct e2 => whileN t body n e2
      | .bk e2 => .ok (.nx e2)
      | .rt v e2 => .ok (.rt v e2)
    else .ok (.nx p.2)
def wfuel : Nat := 1000000000
def sWhile (t : M Bool) (body : S) : S := whileN t body wfuel
/-- x.append(e), of an owned name; x[i] = e -/
def mutL (f : D → D → Out D) (i : Nat) (m : M D) : S := fun e => (getV i e).bind fun _ => (m e).bind fun p => (getV i p.2).bind fun x => (f x p.1).bind fun y => .ok (.nx (p.2.set i (some y)))
def mutI (f : D → D → D → Out D) (i : Nat) (m k : M D) : S := fun e => (m e).bind fun p => (getV i p.2).bind fun _ => (k p.2).bind fun q => (getV i q.2).bind fun x => (f x q.1 p.1).bind fun y => .ok (.nx (q.2.set i (some y)))

/-! ### comprehensions -/
def wipeE (e : Env) : List Nat → Env
  | [] => e
  | v :: vs => (wipeE e vs).set v none
/-- the block's names as they were ahead of it -/
def backE (vs : List Nat) (e e2 : Env) : Env := match vs with
  | [] => e2
  | v :: vs => (backE vs e e2).set v ((e[v]?).join)
def lcL (vs : List Nat) (g : Gt) (t : M Bool) (elt : M D) : List D → Env → Out (List D × Env)
  | [], e => .ok ([], wipeE e vs)
  | d :: ds, e => (g d (wipeE e vs)).bind fun e1 => (t e1).bind fun p =>
    if p.1 then (elt p.2).bind fun q => (lcL vs g t elt ds q.2).bind fun r => .ok (q.1 :: r.1, r.2) else lcL vs g t elt ds p.2
def lineN : Nat := 16777216
def mLc (vs : List Nat) (src : M (List D)) (g : Gt) (t : M Bool) (elt : M D) : M D := fun e => (src e).bind fun p => (lcL vs g t elt p.1 p.2).bind fun q =>
  if q.1.length ≤ lineN then .ok (.list q.1, backE vs p.2 q.2) else .no
/-- two clauses: vs all names of the block, us those of the second target -/
def lcL2 (vs us : List Nat) (g : Gt) (t : M Bool) (src2 : M (List D)) (g2 : Gt) (t2 : M Bool) (elt : M D) : List D → Env → Out (List D × Env)
  | [], e => .ok ([], wipeE e vs)
  | d :: ds, e => (g d (wipeE e vs)).bind fun e1 => (t e1).bind fun p =>
    if p.1 then (src2 p.2).bind fun s => (lcL us g2 t2 elt s.1 s.2).bind fun q => (lcL2 vs us g t src2 g2 t2 elt ds q.2).bind fun r => .ok (q.1 ++ r.1, r.2) else lcL2 vs us g t src2 g2 t2 elt ds p.2
def mLc2 (vs us : List Nat) (src : M (List D)) (g : Gt) (t : M Bool) (src2 : M (List D)) (g2 : Gt) (t2 : M Bool) (elt : M D) : M D := fun e => (src e).bind fun p => (lcL2 vs us g t src2 g2 t2 elt p.1 p.2).bind fun q =>
  if q.1.length ≤ lineN then .ok (.list q.1, backE vs p.2 q.2) else .no
def tYes : M Bool := mPure true

/-! ### defs -/
inductive Ar where
  | v (m : M D)
  | o (i : Nat)
abbrev Fn := List D → Out (D × List (Option D))
/-- the values of the arguments that are no owned names, from the left -/
def evA : List Ar → M (List (Option D))
  | [] => mPure []
  | .v m :: r => mBind m fun x => mBind (evA r) fun xs => mPure (some x :: xs)
  | .o i :: r => mBind (mV i) fun _ => mBind (evA r) fun xs => mPure (none :: xs)
def fillA : List Ar → List (Option D) → Env → Out (List D)
  | .v _ :: r, some x :: xs, e => (fillA r xs e).bind fun ds => .ok (x :: ds)
  | .o i :: r, _ :: xs, e => (getV i e).bind fun x => (fillA r xs e).bind fun ds => .ok (x :: ds)
  | [], [], _ => .ok []
  | _, _, _ => .no
/-- the owned names behind the call -/
def putA : List Ar → List (Option D) → Env → Env
  | .o i :: r, x :: xs, e => putA r xs (e.set i x)
  | .v _ :: r, xs, e => putA r xs e
  | _, _, e => e
def mCall (f : Fn) (as : List Ar) : M D := fun e => (evA as e).bind fun p => (fillA as p.1 p.2).bind fun ds => (f ds).bind fun r => .ok (r.1, putA as r.2 p.2)
/-- the owned parameters' values at the end -/
def outsOf : List Bool → Env → List (Option D)
  | true :: r, x :: e => x :: outsOf r e
  | false :: r, _ :: e => outsOf r e
  | _, _ => []
/-- a def of n names; io: which parameters are owned -/
def runF (n : Nat) (io : List Bool) (body : S) : Fn := fun args => (body (args.map some ++ List.replicate (n - args.length) none)).bind fun f => match f with
  | .rt d e => .ok (d, outsOf io e)
  | .nx e => .ok (.none, outsOf io e)
  | _ => .no
/-- the n-th approximation of a def that calls itself -/
def fixF (b : Fn → Fn) : Nat → Fn
  | 0 => fun _ => .no
  | k + 1 => b (fixF b k)
end PD

set_option autoImplicit false
set_option linter.all false
/-! PdO: the operations on data. -/
namespace PD
open PySem

def mulOk (a b : Int) : Prop := (-(2 ^ 64) < a ∧ a < 2 ^ 64) ∨ (-(2 ^ 64) < b ∧ b < 2 ^ 64)
instance (a b : Int) : Decidable (mulOk a b) := by unfold mulOk; infer_instance
def repL (xs : List D) (k : Int) : Out (List D) := if -(2 ^ 63) ≤ k ∧ k < 2 ^ 63 ∧ xs.length * k.toNat ≤ lineN then .ok (List.replicate k.toNat xs).flatten else .no
def dAdd : D → D → Out D
  | .int a, .int b => .ok (.int (a + b))
  | .str a, .str b => if a.length + b.length ≤ lineN then .ok (.str (a ++ b)) else .no
  | .list a, .list b => if a.length + b.length ≤ lineN then .ok (.list (a ++ b)) else .no
  | .tuple a, .tuple b => if a.length + b.length ≤ lineN then .ok (.tuple (a ++ b)) else .no
  | _, _ => .no
def dSub : D → D → Out D
  | .int a, .int b => .ok (.int (a - b))
  | _, _ => .no
def dMul : D → D → Out D
  | .int a, .int b => if mulOk a b then .ok (.int (a * b)) else .no
  | .list a, .int b => (repL a b).bind fun xs => .ok (.list xs)
  | _, _ => .no
def dDiv : D → D → Out D
  | .int a, .int b => if 0 < b ∧ b < 2 ^ 64 then .ok (.int (a / b)) else .no
  | _, _ => .no
def dMod : D → D → Out D
  | .int a, .int b => if 0 < b then .ok (.int (a % b)) else .no
  | _, _ => .no
def dPow : D → D → Out D
  | .int a, .int b => if 0 ≤ b ∧ b ≤ 1000000 ∧ a.natAbs < 2 ^ 64 then .ok (.int (a ^ b.toNat)) else .no
  | _, _ => .no
def dNeg : D → Out D
  | .int a => .ok (.int (-a))
  | _ => .no
/-- a < b of tuples, lists -/
def ltD (x y : D) : Out D := if PySem.W.alike x y = true ∧ x.plain = true ∧ y.plain = true ∧ x.depth ≤ 64 then .ok (.bool (PySem.W.dataLt x y)) else .no
def dLt : D → D → Out D
  | .int a, .int b => .ok (.bool (decide (a < b)))
  | .str a, .str b => .ok (.bool (decide (a.cps.toList < b.cps.toList)))
  | .tuple a, .tuple b => ltD (.tuple a) (.tuple b)
  | .list a, .list b => ltD (.list a) (.list b)
  | _, _ => .no
def dLe : D → D → Out D
  | .int a, .int b => .ok (.bool (decide (a ≤ b)))
  | _, _ => .no
def dGt : D → D → Out D
  | .int a, .int b => .ok (.bool (decide (b < a)))
  | _, _ => .no
def dGe : D → D → Out D
  | .int a, .int b => .ok (.bool (decide (b ≤ a)))
  | _, _ => .no
def eqOk (x y : D) : Prop := x.plain = true ∧ y.plain = true ∧ (x.depth ≤ 64 ∨ y.depth ≤ 64)
instance (x y : D) : Decidable (eqOk x y) := by unfold eqOk; infer_instance
def dEq : D → D → Out D
  | .int a, .int b => .ok (.bool (decide (a = b)))
  | .str a, .str b => .ok (.bool (decide (a = b)))
  | x, y => if eqOk x y then .ok (.bool (PyData.eqv x y)) else .no
def dNe (x y : D) : Out D := (dEq x y).bind fun d => (bOf d).bind fun b => .ok (.bool (!b))
/-- is None, is not None -/
def dIsN (x : D) : Out D := match x with
  | .none => .ok (.bool true)
  | _ => .ok (.bool false)
def dIsnN (x : D) : Out D := match x with
  | .none => .ok (.bool false)
  | _ => .ok (.bool true)
/-- .. as operations of two values, the second None -/
def dIs2 (x y : D) : Out D := match y with
  | .none => dIsN x
  | _ => .no
def dIsn2 (x y : D) : Out D := match y with
  | .none => dIsnN x
  | _ => .no
/-- is True, is False: of bools -/
def dIsB : D → D → Out D
  | .bool a, .bool b => .ok (.bool (decide (a = b)))
  | _, _ => .no
def dIsnB : D → D → Out D
  | .bool a, .bool b => .ok (.bool (!decide (a = b)))
  | _, _ => .no
def inOk (x : D) (xs : List D) : Prop := x.plain = true ∧ PyData.plainAll xs = true ∧ x.depth ≤ 64
instance (x : D) (xs : List D) : Decidable (inOk x xs) := by unfold inOk; infer_instance
def inL (x : D) (xs : List D) : Out D := if inOk x xs then .ok (.bool (xs.any fun y => PyData.eqv y x)) else .no
/-- dicts: keys are ints and texts, or tuples of these -/
def keyD : D → Option D
  | .int a => some (.int a)
  | .str a => some (.str a)
  | _ => none
def dIn : D → D → Out D
  | x, .list xs => inL x xs
  | x, .tuple xs => inL x xs
  | _, _ => .no
def dNotIn (x y : D) : Out D := (dIn x y).bind fun d => (bOf d).bind fun b => .ok (.bool (!b))

def ixN (n : Nat) (i : Int) : Option Nat := if 0 ≤ i then (if i < n then some i.toNat else none) else if -(n : Int) ≤ i then some (i + n).toNat else none
def atL {α : Type} (xs : List α) (i : Int) : Option α := (ixN xs.length i).bind fun j => xs[j]?
def oOf {α : Type} : Option α → Out α
  | some a => .ok a
  | none => .no
def dIx : D → D → Out D
  | .list xs, .int i => oOf (atL xs i)
  | .tuple xs, .int i => oOf (atL xs i)
  | .str z, .int i => if z.length ≤ lineN then (oOf (atL z.cps.toList i)).bind fun c => .ok (.str ⟨#[c]⟩) else .no
  | _, _ => .no
def sIx (n d : Nat) : Option Int → Nat
  | none => d
  | some v => if v < 0 then (v + (n : Int)).toNat else min v.toNat n
def cutL {α : Type} (xs : List α) (lo hi : Option Int) : List α := (xs.drop (sIx xs.length 0 lo)).take (sIx xs.length xs.length hi - sIx xs.length 0 lo)
/-- x[lo:hi] -/
def intOf : D → Out (Option Int)
  | .int i => .ok (some i)
  | _ => .no
def pNo : M (Option Int) := mPure none
def pAt (a : M D) : M (Option Int) := mBind a fun x => mLift (intOf x)
def dCut (x : D) (l h : Option Int) : Out D := match x with
  | .list xs => .ok (.list (cutL xs l h))
  | .tuple xs => .ok (.tuple (cutL xs l h))
  | .str z => if z.length ≤ lineN then .ok (.str ⟨(cutL z.cps.toList l h).toArray⟩) else .no
  | _ => .no
def mCut (a : M D) (lo hi : M (Option Int)) : M D := mBind a fun x => mBind lo fun l => mBind hi fun h => mLift (dCut x l h)
def dLen1 : D → Out D
  | .list xs => .ok (.int xs.length)
  | .tuple xs => .ok (.int xs.length)
  | .str z => if z.length ≤ lineN then .ok (.int z.length) else .no
  | _ => .no
def dAbs : D → Out D
  | .int i => .ok (.int (if i < 0 then -i else i))
  | _ => .no
def dMin2 : D → D → Out D
  | .int i, .int j => .ok (.int (if j < i then j else i))
  | _, _ => .no
def dMax2 : D → D → Out D
  | .int i, .int j => .ok (.int (if j > i then j else i))
  | _, _ => .no
def dGcd : D → D → Out D
  | .int a, .int b => .ok (.int ((Nat.gcd a.natAbs b.natAbs : Nat) : Int))
  | _, _ => .no
def dInt1 : D → Out D
  | .int i => .ok (.int i)
  | .bool b => .ok (.int (if b then 1 else 0))
  | _ => .no
/-- str(x) of an int or a text -/
def dStr1 : D → Out D
  | .str s => .ok (.str s)
  | .int i => if i.natAbs < 2 ^ 1919 then .ok (.str (Str.ofString (toString i))) else .no
  | _ => .no
def intsOf : List D → Out (List Int)
  | [] => .ok []
  | .int i :: r => (intsOf r).bind fun is => .ok (i :: is)
  | _ => .no
def boolsOf : List D → Out (List Bool)
  | [] => .ok []
  | .bool i :: r => (boolsOf r).bind fun is => .ok (i :: is)
  | _ => .no
def dSum1 : D → Out D
  | .list xs => (intsOf xs).bind fun is => .ok (.int is.sum)
  | _ => .no
def dAll1 : D → Out D
  | .list xs => (boolsOf xs).bind fun bs => .ok (.bool (bs.all id))
  | _ => .no
def dAny1 : D → Out D
  | .list xs => (boolsOf xs).bind fun bs => .ok (.bool (bs.any id))
  | _ => .no
def dTuple1 : D → Out D
  | .list xs => .ok (.tuple xs)
  | .tuple xs => .ok (.tuple xs)
  | _ => .no
/-- the script, as the law's argument bears it -/
def scr (xs : List D) : D := .dict [(.none, .list xs)]
def dList1 : D → Out D
  | .list xs => .ok (.list xs)
  | .tuple xs => .ok (.list xs)
  | .dict [(.none, .list xs)] => .ok (.list xs)
  | _ => .no
def isKind (k : String) : D → Out Bool
  | .none => .ok false
  | .bool _ => .ok (k == "int" || k == "bool")
  | .int _ => .ok (k == "int")
  | .str _ => .ok (k == "str")
  | .list _ => .ok (k == "list")
  | .tuple _ => .ok (k == "tuple")
  | .dict _ => .no
def dIsi (k : String) (x : D) : Out D := (isKind k x).bind fun b => .ok (.bool b)
def rgL (a : Int) (n : Nat) : List D := (List.range n).map fun (i : Nat) => .int (a + (i : Int))
/-- range(a, b) as what is walked -/
def walkOk (a b : Int) : Prop := -(2 ^ 62) ≤ a ∧ a < 2 ^ 62 ∧ -(2 ^ 62) ≤ b ∧ b < 2 ^ 62
instance (a b : Int) : Decidable (walkOk a b) := by unfold walkOk; infer_instance
def iRg : D → D → Out (List D)
  | .int a, .int b => if walkOk a b then .ok (rgL a (b - a).toNat) else .no
  | _, _ => .no
def wRg1 (b : M D) : M (List D) := mBind b fun y => mLift (iRg (.int 0) y)
def wRg2 (a b : M D) : M (List D) := mBind a fun x => mBind b fun y => mLift (iRg x y)
/-- what a for walks: a list, a tuple -/
def itemsOf : D → Out (List D)
  | .list xs => .ok xs
  | .tuple xs => .ok xs
  | _ => .no
def wIt (a : M D) : M (List D) := mBind a fun x => mLift (itemsOf x)
/-- tuple(range(a, b)), list(range(a, b)) -/
def rgBig (xs : List D) : Out (List D) := if xs.length ≤ lineN then .ok xs else .no
def tupRg (r : M (List D)) : M D := mBind r fun xs => mBind (mLift (rgBig xs)) fun ys => mPure (.tuple ys)
def lstRg (r : M (List D)) : M D := mBind r fun xs => mBind (mLift (rgBig xs)) fun ys => mPure (.list ys)
def dApp : D → D → Out D
  | .list xs, y => if xs.length < lineN then .ok (.list (xs ++ [y])) else .no
  | _, _ => .no
def dPut : D → D → D → Out D
  | .list xs, .int i, y => (oOf (ixN xs.length i)).bind fun j => .ok (.list (xs.set j y))
  | _, _, _ => .no
def dExt : D → D → Out D
  | .list xs, .list ys => if xs.length + ys.length ≤ lineN then .ok (.list (xs ++ ys)) else .no
  | _, _ => .no
/-- data that can be put in order -/
def allAl (xs : List D) : Bool := (xs.all fun x => xs.all fun y => PySem.W.alike x y) && xs.all fun x => match x with
  | .none => false
  | _ => true
def mmOk (xs : List D) : Prop := allAl xs = true ∧ PyData.plainAll xs = true ∧ PyData.depthAll xs ≤ 64
instance (xs : List D) : Decidable (mmOk xs) := by unfold mmOk; infer_instance
def mmD (f : D → List D → D) : D → Out D
  | .list (x :: xs) => if mmOk (x :: xs) then .ok (f x xs) else .no
  | .tuple (x :: xs) => if mmOk (x :: xs) then .ok (f x xs) else .no
  | _ => .no
/-- min(xs), max(xs) -/
def dMinL : D → Out D := mmD fun x xs => xs.foldl (fun a y => if PySem.W.dataLt y a then y else a) x
def dMaxL : D → Out D := mmD fun x xs => xs.foldl (fun a y => if PySem.W.dataLt a y then y else a) x
def isTu : D → Bool
  | .tuple (_ :: _) => true
  | _ => false
def isNt : D → Bool
  | .tuple _ => false
  | .none => false
  | _ => true
def srtOk (xs : List D) : Prop := allAl xs = true ∧ PyData.plainAll xs = true ∧ PyData.depthAll xs ≤ 60 ∧ (xs.all isTu = true ∨ xs.all isNt = true) ∧ xs.length ≤ lineN
instance (xs : List D) : Decidable (srtOk xs) := by unfold srtOk; infer_instance
def leD (x y : D) : Bool := !PySem.W.dataLt y x
/-- sorted(xs) -/
def dSortL : D → Out D
  | .list xs => if srtOk xs then .ok (.list (xs.mergeSort leD)) else .no
  | _ => .no
/-- zip(a, b), enumerate(a) as what is walked -/
def zipD : D → D → Out (List D)
  | .list xs, .list ys => .ok (List.zipWith (fun x y => .tuple [x, y]) xs ys)
  | .tuple xs, .tuple ys => .ok (List.zipWith (fun x y => .tuple [x, y]) xs ys)
  | _, _ => .no
def wZip (a b : M D) : M (List D) := mBind a fun x => mBind b fun y => mLift (zipD x y)
def enumL (xs : List D) : List D := List.zipWith (fun (i : Nat) x => .tuple [.int i, x]) (List.range xs.length) xs
def enD : D → Out (List D)
  | .list xs => .ok (enumL xs)
  | _ => .no
def wEn (a : M D) : M (List D) := mBind a fun x => mLift (enD x)
/-- xs[::-1] -/
def dRev : D → Out D
  | .list xs => .ok (.list xs.reverse)
  | .tuple xs => .ok (.tuple xs.reverse)
  | _ => .no
/-- xs.index(i), of ints -/
def ixOf (i : Int) : List Int → Nat → Option Nat
  | [], _ => none
  | a :: r, k => if a = i then some k else ixOf i r (k + 1)
def dIndex : D → D → Out D
  | .list xs, .int i => (intsOf xs).bind fun is => (oOf (ixOf i is 0)).bind fun j => .ok (.int (j : Nat))
  | _, _ => .no
end PD

set_option autoImplicit false
set_option linter.all false
set_option maxRecDepth 100000
set_option maxHeartbeats 4000000
/-! PdB: how data stands in the heap; expressions and statements that do what a program over data does. -/
namespace PD
open PySem PySem.Spec PyProof.Rows L2

abbrev Frg := PySem.W.Frag
mutual
/-- v bears d, in the part G of the heap that stays -/
inductive Rp (K : Frg) (G : Hp) : V → D → Prop
  | non : Rp K G .non .none
  | bl (b : Bool) : Rp K G (.bl b) (.bool b)
  | int (i : Int) : Rp K G (.int i) (.int i)
  | str (x : Str) : Rp K G (.str x) (.str x)
  | lst {a : Addr} {xs : List V} {ds : List D} : G a = some (.lst xs) → RpL K G xs ds → Rp K G (.ref a) (.list ds)
  | tup {a : Addr} {xs : List V} {ds : List D} : G a = some (.tup xs) → RpL K G xs ds → Rp K G (.ref a) (.tuple ds)
  | scr {a : Addr} {xs : List V} {ds : List D} : SqL K G a xs → RpL K G xs ds → Rp K G (.ref a) (scr ds)
inductive RpL (K : Frg) (G : Hp) : List V → List D → Prop
  | nil : RpL K G [] []
  | cons {v : V} {d : D} {vs : List V} {ds : List D} : Rp K G v d → RpL K G vs ds → RpL K G (v :: vs) (d :: ds)
end
mutual
theorem Rp.mono {K : Frg} {G G' : Hp} (s : Same G G') : ∀ {v : V} {d : D}, Rp K G v d → Rp K G' v d
  | _, _, .non => .non
  | _, _, .bl b => .bl b
  | _, _, .int i => .int i
  | _, _, .str x => .str x
  | _, _, .lst h r => .lst (s _ _ h) (RpL.mono s r)
  | _, _, .tup h r => .tup (s _ _ h) (RpL.mono s r)
  | _, _, .scr h r => .scr (s.seq h) (RpL.mono s r)
theorem RpL.mono {K : Frg} {G G' : Hp} (s : Same G G') : ∀ {vs : List V} {ds : List D}, RpL K G vs ds → RpL K G' vs ds
  | _, _, .nil => .nil
  | _, _, .cons h r => .cons (Rp.mono s h) (RpL.mono s r)
end
section
variable {K : Frg} {G : Hp}
theorem RpL.length : ∀ {vs : List V} {ds : List D}, RpL K G vs ds → vs.length = ds.length
  | _, _, .nil => rfl
  | _, _, .cons _ r => by rw [List.length_cons, List.length_cons, RpL.length r]
theorem RpL.append : ∀ {vs ws : List V} {ds es : List D}, RpL K G vs ds → RpL K G ws es → RpL K G (vs ++ ws) (ds ++ es)
  | _, _, _, _, .nil, s => s
  | _, _, _, _, .cons h r, s => .cons h (RpL.append r s)
theorem RpL.get : ∀ {vs : List V} {ds : List D} {i : Nat} {d : D}, RpL K G vs ds → ds[i]? = some d → ∃ v, vs[i]? = some v ∧ Rp K G v d
  | _, _, _, _, .nil, e => by simp at e
  | _, _, 0, _, .cons h _, e => by simp at e; subst e; exact ⟨_, rfl, h⟩
  | _, _, i + 1, d, .cons _ r, e => by
    obtain ⟨v, h1, h2⟩ := RpL.get (i := i) (d := d) r (by simpa using e)
    exact ⟨v, by simpa using h1, h2⟩
theorem RpL.getV : ∀ {vs : List V} {ds : List D} {i : Nat} {v : V}, RpL K G vs ds → vs[i]? = some v → ∃ d, ds[i]? = some d ∧ Rp K G v d
  | _, _, _, _, .nil, e => by simp at e
  | _, _, 0, _, .cons h _, e => by simp at e; subst e; exact ⟨_, rfl, h⟩
  | _, _, i + 1, d, .cons _ r, e => by
    obtain ⟨v, h1, h2⟩ := RpL.getV (i := i) (v := d) r (by simpa using e)
    exact ⟨v, by simpa using h1, h2⟩
theorem RpL.set {v : V} {d : D} (h : Rp K G v d) : ∀ {vs : List V} {ds : List D} (i : Nat), RpL K G vs ds → RpL K G (vs.set i v) (ds.set i d)
  | _, _, _, .nil => .nil
  | _, _, 0, .cons _ r => .cons h r
  | _, _, i + 1, .cons q r => .cons q (RpL.set h i r)
theorem RpL.take : ∀ {vs : List V} {ds : List D} (n : Nat), RpL K G vs ds → RpL K G (vs.take n) (ds.take n)
  | _, _, 0, _ => .nil
  | _, _, _ + 1, .nil => .nil
  | _, _, n + 1, .cons h r => .cons h (RpL.take n r)
theorem RpL.drop : ∀ {vs : List V} {ds : List D} (n : Nat), RpL K G vs ds → RpL K G (vs.drop n) (ds.drop n)
  | _, _, 0, r => r
  | _, _, _ + 1, .nil => .nil
  | _, _, n + 1, .cons _ r => RpL.drop n r
theorem RpL.rep {vs : List V} {ds : List D} (h : RpL K G vs ds) : ∀ k : Nat, RpL K G (List.replicate k vs).flatten (List.replicate k ds).flatten
  | 0 => .nil
  | k + 1 => by
    rw [List.replicate_succ, List.replicate_succ, List.flatten_cons, List.flatten_cons]
    exact h.append (RpL.rep h k)
theorem RpL.nil_iff {vs : List V} {ds : List D} (r : RpL K G vs ds) : vs = [] ↔ ds = [] := by
  cases r <;> simp
theorem RpL.ints {vs : List V} {ds : List D} (r : RpL K G vs ds) : ∀ {is : List Int}, intsOf ds = .ok is → vs = is.map V.int := by
  induction ds generalizing vs with
  | nil => intro is h; cases r; cases h; rfl
  | cons d ds ih =>
    intro is h
    cases r with
    | cons h1 r =>
      cases d with
      | int i =>
        obtain ⟨js, h2, h3⟩ := Out.bind_eq_ok (show (intsOf ds).bind _ = _ from h)
        cases h3
        cases h1
        rw [ih r h2]
        rfl
      | _ => exact nomatch h
theorem RpL.bools {vs : List V} {ds : List D} (r : RpL K G vs ds) : ∀ {is : List Bool}, boolsOf ds = .ok is → vs = is.map V.bl := by
  induction ds generalizing vs with
  | nil => intro is h; cases r; cases h; rfl
  | cons d ds ih =>
    intro is h
    cases r with
    | cons h1 r =>
      cases d with
      | bool i =>
        obtain ⟨js, h2, h3⟩ := Out.bind_eq_ok (show (boolsOf ds).bind _ = _ from h)
        cases h3
        cases h1
        rw [ih r h2]
        rfl
      | _ => exact nomatch h
end

/-- all of G stands in H (a dict that is walked: locked) -/
def Sub (G H : Hp) : Prop := ∀ a o, G a = some o → H a = some o ∨ (((∃ kvs, o = .dK kvs) ∨ (∃ kvs, o = .dT kvs)) ∧ ∃ ob, H a = some (.frz ob o))
section
variable {K : Frg} {G H G' H' : Hp} {a : Addr}
theorem Sub.lst {xs : List V} (s : Sub G H) (h : G a = some (.lst xs)) : H a = some (.lst xs) := by
  rcases s a _ h with h | ⟨⟨_, e⟩ | ⟨_, e⟩, _⟩
  · exact h
  · cases e
  · cases e
theorem Sub.tup {xs : List V} (s : Sub G H) (h : G a = some (.tup xs)) : H a = some (.tup xs) := by
  rcases s a _ h with h | ⟨⟨_, e⟩ | ⟨_, e⟩, _⟩
  · exact h
  · cases e
  · cases e
theorem Sub.frz {o : Obj} {xs : List V} (s : Sub G H) (h : G a = some (.frz o (.lst xs))) : H a = some (.frz o (.lst xs)) := by
  rcases s a _ h with h | ⟨⟨_, e⟩ | ⟨_, e⟩, _⟩
  · exact h
  · cases e
  · cases e
theorem Sub.seqL {xs : List V} (s : Sub G H) (h : SqL K G a xs) : SqL K H a xs := by
  rcases h with (h | ⟨o, h⟩) | h
  · exact .inl (.inl (s.lst h))
  · exact .inl (.inr ⟨o, s.frz h⟩)
  · exact .inr h
theorem Sub.none (s : Sub G H) (h : H a = none) : G a = none := by
  cases q : G a with
  | none => rfl
  | some o =>
    rcases s a o q with e | ⟨_, ob, e⟩
    · rw [h] at e; cases e
    · rw [h] at e; cases e
theorem Sub.trans_same (s : Sub G H) (k : Same H H') : Sub G H' := fun a o h => by
  rcases s a o h with e | ⟨z, ob, e⟩
  · exact .inl (k _ _ e)
  · exact .inr ⟨z, ob, k _ _ e⟩
end

/-- only new objects have come -/
structure Ext (G H G' H' : Hp) : Prop where
  g : Same G G'
  h : Same H H'
  n : ∀ a o, G' a = some o → G a = some o ∨ (H a = none ∧ H' a = some o)
theorem Ext.refl {G H : Hp} : Ext G H G H := ⟨Same.refl _, Same.refl _, fun _ _ h => .inl h⟩
theorem Ext.sub {G H G' H' : Hp} (x : Ext G H G' H') (s : Sub G H) : Sub G' H' := fun a o h => by
  rcases x.n a o h with e | ⟨_, e⟩
  · exact s.trans_same x.h a o e
  · exact .inl e
theorem same_upd {H : Hp} {p : Addr} {o : HO} (h : H p = none) : Same H (upd H p o) := fun b x e => by
  rw [upd_ne (ne_of_none e h)]
  exact e
theorem ext_new {G H : Hp} {p : Addr} {o : HO} (s : Sub G H) (h : H p = none) : Ext G H (upd G p o) (upd H p o) := by
  refine ⟨same_upd (s.none h), same_upd h, fun a u e => ?_⟩
  by_cases q : a = p
  · subst q
    exact .inr ⟨h, by rw [upd_same] at e ⊢; exact e⟩
  · rw [upd_ne q] at e
    exact .inl e

/-! ### states -/
structure Ow where
  ow : Nat → Bool
  fx : Nat → Bool
structure Bs where
  H : Hp
  G : Hp
  O : Addr → Prop
  σ : L2.St
/-- an object of one's own: it may be changed -/
def OwnAt (K : Frg) (H G : Hp) (a : Addr) (d : D) : Prop := G a = none ∧ ∃ xs ds, H a = some (.lst xs) ∧ RpL K G xs ds ∧ d = .list ds
def Live (e : Env) (i : Nat) : Prop := ∃ d, e[i]? = some (some d)
structure Abs (K : Frg) (W : Ow) (B : Bs) (G : Hp) (σ : L2.St) (H : Hp) (e : Env) : Prop where
  len : e.length = σ.length
  ln : σ.length = B.σ.length
  sub : Sub G H
  g0 : Same B.G G
  keep : ∀ a o, B.H a = some o → ¬ B.O a → H a = some o
  new : ∀ a, G a ≠ none → B.G a ≠ none ∨ B.H a = none ∨ B.O a
  val : ∀ i d, W.ow i = false → e[i]? = some (some d) → ∃ v, σ[i]? = some (some v) ∧ Rp K G v d
  own : ∀ i d, W.ow i = true → e[i]? = some (some d) → ∃ a, σ[i]? = some (some (.ref a)) ∧ OwnAt K H G a d ∧ (B.O a ∨ B.H a = none)
  dist : ∀ i j a, i ≠ j → W.ow i = true → W.ow j = true → Live e i → Live e j → σ[i]? = some (some (.ref a)) → σ[j]? ≠ some (some (.ref a))
  fix : ∀ i, W.fx i = true → σ[i]? = B.σ[i]?
section
variable {K : Frg} {W : Ow} {B : Bs} {G G' H H' : Hp} {σ : L2.St} {e : Env}
theorem OwnAt.ext {a : Addr} {d : D} (x : Ext G H G' H') (o : OwnAt K H G a d) : OwnAt K H' G' a d := by
  obtain ⟨n, xs, ds, h, r, rfl⟩ := o
  refine ⟨?_, xs, ds, x.h _ _ h, r.mono x.g, rfl⟩
  cases q : G' a with
  | none => rfl
  | some o =>
    rcases x.n a o q with e | ⟨e, _⟩
    · rw [n] at e; cases e
    · rw [h] at e; cases e
theorem Abs.ext (A : Abs K W B G σ H e) (x : Ext G H G' H') : Abs K W B G' σ H' e where
  len := A.len
  ln := A.ln
  sub := x.sub A.sub
  g0 := A.g0.trans x.g
  keep := fun a o h n => x.h _ _ (A.keep a o h n)
  new := fun a h => by
    cases q : G' a with
    | none => exact absurd q h
    | some o =>
      rcases x.n a o q with e1 | ⟨e1, _⟩
      · exact A.new a (by rw [e1]; simp)
      · by_cases hO : B.O a
        · exact .inr (.inr hO)
        · refine .inr (.inl ?_)
          cases z : B.H a with
          | none => rfl
          | some u =>
            have := A.keep a u z hO
            rw [e1] at this; cases this
  val := fun i d h1 h2 => by
    obtain ⟨v, h3, h4⟩ := A.val i d h1 h2
    exact ⟨v, h3, h4.mono x.g⟩
  own := fun i d h1 h2 => by
    obtain ⟨a, h3, h4, h5⟩ := A.own i d h1 h2
    exact ⟨a, h3, h4.ext x, h5⟩
  dist := A.dist
  fix := A.fix
end

inductive Kd where
  | v | o | b
def Res (K : Frg) (W : Ow) (B : Bs) (κ : Kd) (G : Hp) (σ : L2.St) (H : Hp) (e : Env) (v : V) (d : D) : Prop := match κ with
  | .v => Rp K G v d
  | .o => ∃ a, v = .ref a ∧ OwnAt K H G a d ∧ (B.O a ∨ B.H a = none) ∧ ∀ i, W.ow i = true → Live e i → σ[i]? ≠ some (some (.ref a))
  | .b => Rp K G v d ∨ ∃ a, v = .ref a ∧ OwnAt K H G a d
/-- what an operation looks at -/
def Sh (K : Frg) (H G : Hp) (v : V) (d : D) : Prop := Rp K G v d ∨ ∃ a, v = .ref a ∧ OwnAt K H G a d
theorem Sh.lst {K : Frg} {H G : Hp} {v : V} {ds : List D} (s : Sub G H) (h : Sh K H G v (.list ds)) : ∃ a xs, v = .ref a ∧ H a = some (.lst xs) ∧ RpL K G xs ds := by
  rcases h with h | ⟨a, rfl, _, xs, es, h, r, e⟩
  · cases h with
    | lst h r => exact ⟨_, _, rfl, s.lst h, r⟩
  · cases e
    exact ⟨a, xs, rfl, h, r⟩
theorem Sh.tup {K : Frg} {H G : Hp} {v : V} {ds : List D} (s : Sub G H) (h : Sh K H G v (.tuple ds)) : ∃ a xs, v = .ref a ∧ H a = some (.tup xs) ∧ G a = some (.tup xs) ∧ RpL K G xs ds := by
  rcases h with h | ⟨a, rfl, _, xs, es, h, r, e⟩
  · cases h with
    | tup h r => exact ⟨_, _, rfl, s.tup h, h, r⟩
  · cases e
theorem Sh.int {K : Frg} {H G : Hp} {v : V} {i : Int} (h : Sh K H G v (.int i)) : v = .int i := by
  rcases h with h | ⟨a, rfl, _, xs, es, h, r, e⟩
  · cases h; rfl
  · cases e
theorem Sh.bl {K : Frg} {H G : Hp} {v : V} {i : Bool} (h : Sh K H G v (.bool i)) : v = .bl i := by
  rcases h with h | ⟨a, rfl, _, xs, es, h, r, e⟩
  · cases h; rfl
  · cases e
theorem Sh.str {K : Frg} {H G : Hp} {v : V} {i : Str} (h : Sh K H G v (.str i)) : v = .str i := by
  rcases h with h | ⟨a, rfl, _, xs, es, h, r, e⟩
  · cases h; rfl
  · cases e
theorem Sh.non {K : Frg} {H G : Hp} {v : V} (h : Sh K H G v .none) : v = .non := by
  rcases h with h | ⟨a, rfl, _, xs, es, h, r, e⟩
  · cases h; rfl
  · cases e

/-! ### the judgements -/
theorem _root_.L2.PE.imp {X : Cx} {e : Expr} {t t' : TE} (h : PE X e t) (f : ∀ σ H Q, t' σ H Q → t σ H Q) : PE X e t' := ⟨fun pins s σ H Q I q => h.run pins s σ H Q I (f σ H Q q)⟩
theorem _root_.L2.PT.imp {X : Cx} {e : Expr} {t t' : TT} (h : PT X e t) (f : ∀ σ H Q, t' σ H Q → t σ H Q) : PT X e t' := ⟨fun pins s σ H Q I q => h.run pins s σ H Q I (f σ H Q q)⟩
theorem _root_.L2.PW.imp {X : Cx} {e : Expr} {t t' : TT} (h : PW X e t) (f : ∀ σ H Q, t' σ H Q → t σ H Q) : PW X e t' := ⟨fun wh pins s σ H Q I q => h.run wh pins s σ H Q I (f σ H Q q)⟩
theorem _root_.L2.PA.imp {X : Cx} {e : List Expr} {t t' : TA} (h : PA X e t) (f : ∀ σ H Q, t' σ H Q → t σ H Q) : PA X e t' := ⟨fun pos pins s σ H Q I q => h.run pos pins s σ H Q I (f σ H Q q)⟩
theorem _root_.L2.PS.imp {X : Cx} {e : Stmt} {t t' : TS} (h : PS X e t) (f : ∀ D σ H, t' D σ H → t D σ H) : PS X e t' := ⟨fun pins s σ H D I q => h.run pins s σ H D I (f D σ H q)⟩
theorem _root_.L2.PSs.imp {X : Cx} {e : List Stmt} {t t' : TS} (h : PSs X e t) (f : ∀ D σ H, t' D σ H → t D σ H) : PSs X e t' := ⟨fun pins s σ H D I q => h.run pins s σ H D I (f D σ H q)⟩
theorem _root_.L2.PI.imp {X : Cx} {tg e : Expr} {t t' : TI} (h : PI X tg e t) (f : ∀ σ H R, t' σ H R → t σ H R) : PI X tg e t' := ⟨fun pins s σ H R I q => h.run pins s σ H R I (f σ H R q)⟩
theorem _root_.L2.PG.imp {X : Cx} {e : Expr} {t t' : TG} (h : PG X e t) (f : ∀ v σ H Q, t' v σ H Q → t v σ H Q) : PG X e t' := ⟨fun pins s σ H v u Q I r q => h.run pins s σ H v u Q I r (f v σ H Q q)⟩
theorem _root_.L2.PGs.imp {X : Cx} {e : List Expr} {t t' : TGs} (h : PGs X e t) (f : ∀ v σ H Q, t' v σ H Q → t v σ H Q) : PGs X e t' := ⟨fun pins s σ H v u Q I r q => h.run pins s σ H v u Q I r (f v σ H Q q)⟩
theorem _root_.L2.PTs.imp {X : Cx} {e : List Expr} {t t' : TT} (h : PTs X e t) (f : ∀ σ H Q, t' σ H Q → t σ H Q) : PTs X e t' := ⟨fun pins s σ H Q I q => h.run pins s σ H Q I (f σ H Q q)⟩

def tM (K : Frg) (W : Ow) (κ : Kd) (m : M D) : TE := fun σ H Q => ∃ B G e, Abs K W B G σ H e ∧ ∃ d e', m e = .ok (d, e') ∧ ∀ v H' G', Same G G' → Abs K W B G' σ H' e' → Res K W B κ G' σ H' e' v d → Q v H'
def tMT (K : Frg) (W : Ow) (m : M Bool) : TT := fun σ H Q => ∃ B G e, Abs K W B G σ H e ∧ ∃ d e', m e = .ok (d, e') ∧ ∀ H' G', Same G G' → Abs K W B G' σ H' e' → Q d H'
def tML (K : Frg) (W : Ow) (m : M (List D)) : TA := fun σ H Q => ∃ B G e, Abs K W B G σ H e ∧ ∃ d e', m e = .ok (d, e') ∧ ∀ vs H' G', Same G G' → Abs K W B G' σ H' e' → RpL K G' vs d → Q vs H'
abbrev SE (X : Cx) (W : Ow) (κ : Kd) (e : Expr) (m : M D) : Prop := PE X e (tM X.K W κ m)
abbrev ST (X : Cx) (W : Ow) (e : Expr) (m : M Bool) : Prop := PT X e (tMT X.K W m)
abbrev SW (X : Cx) (W : Ow) (e : Expr) (m : M Bool) : Prop := PW X e (tMT X.K W m)
abbrev SL (X : Cx) (W : Ow) (es : List Expr) (m : M (List D)) : Prop := PA X es (tML X.K W m)
/-- a statement's end -/
def PostF (K : Frg) (W : Ow) (B : Bs) (κ : Kd) (G : Hp) (D : Ends) (f : Fl) : Prop := match f with
  | .nx e' => ∀ σ' H' G', Same G G' → Abs K W B G' σ' H' e' → D.nx σ' H'
  | .bk e' => ∀ σ' H' G', Same G G' → Abs K W B G' σ' H' e' → D.bk σ' H'
  | .ct e' => ∀ σ' H' G', Same G G' → Abs K W B G' σ' H' e' → D.ct σ' H'
  | .rt d e' => ∀ v σ' H' G', Same G G' → Abs K W B G' σ' H' e' → Res K W B κ G' σ' H' e' v d → D.rt v H'
def PostS (K : Frg) (W : Ow) (B : Bs) (κ : Kd) (G : Hp) (D : Ends) (o : Out Fl) : Prop := ∃ f, o = .ok f ∧ PostF K W B κ G D f
def tS (K : Frg) (W : Ow) (κ : Kd) (m : S) : TS := fun D σ H => ∃ B G e, Abs K W B G σ H e ∧ PostS K W B κ G D (m e)
/-- κ: how a value is handed back -/
abbrev SS (X : Cx) (W : Ow) (κ : Kd) (st : Stmt) (m : S) : Prop := PS X st (tS X.K W κ m)
abbrev SSs (X : Cx) (W : Ow) (κ : Kd) (st : List Stmt) (m : S) : Prop := PSs X st (tS X.K W κ m)

section
variable {X : Cx} {W : Ow} {K : Frg} {B : Bs} {G G' H H' : Hp} {σ : L2.St} {e : Env} {v : V} {d : D}
theorem Res.b (h : Res K W B .v G σ H e v d) : Res K W B .b G σ H e v d := .inl h
theorem getV_ok {i : Nat} {e : Env} {d : D} (h : getV i e = .ok d) : e[i]? = some (some d) := by
  unfold getV at h
  split at h
  · rename_i x q
    cases h
    exact q
  · cases h
/-- an object of one's own, given up: it stays as it is from now on -/
theorem Abs.freeze (A : Abs K W B G σ H e) (r : Res K W B .o G σ H e v d) : ∃ G', Same G G' ∧ Abs K W B G' σ H e ∧ Rp K G' v d := by
  obtain ⟨a, rfl, ⟨n, xs, ds, h, r, rfl⟩, hO, hf⟩ := r
  have s : Same G (upd G a (.lst xs)) := same_upd n
  refine ⟨upd G a (.lst xs), s, ⟨A.len, A.ln, fun b o q => ?_, A.g0.trans s, A.keep, fun b q => ?_, fun i d h1 h2 => ?_, fun i d h1 h2 => ?_, A.dist, A.fix⟩, .lst upd_same (r.mono s)⟩
  · by_cases hb : b = a
    · subst hb
      rw [upd_same] at q
      exact .inl (h.trans q)
    · rw [upd_ne hb] at q
      exact A.sub b o q
  · by_cases hb : b = a
    · subst hb
      exact .inr hO.symm
    · rw [upd_ne hb] at q
      exact A.new b q
  · obtain ⟨v, h3, h4⟩ := A.val i d h1 h2
    exact ⟨v, h3, h4.mono s⟩
  · obtain ⟨b, h3, ⟨n', ys, es, h4, h5, h6⟩, h7⟩ := A.own i d h1 h2
    have hb : b ≠ a := fun z => by
      subst z
      exact hf i h1 ⟨d, h2⟩ h3
    exact ⟨b, h3, ⟨by rw [upd_ne hb]; exact n', ys, es, h4, h5.mono s, h6⟩, h7⟩
theorem se_frz {x : Expr} {m : M D} (h : SE X W .o x m) : SE X W .v x m := h.imp fun σ H Q ⟨B, G, e, A, d, e', hm, q⟩ =>
  ⟨B, G, e, A, d, e', hm, fun v H' G' s A' r => by
    obtain ⟨G2, s2, A2, r2⟩ := A'.freeze r
    exact q v H' G2 (s.trans s2) A2 r2⟩
theorem se_b {x : Expr} {m : M D} (h : SE X W .v x m) : SE X W .b x m := h.imp fun σ H Q ⟨B, G, e, A, d, e', hm, q⟩ =>
  ⟨B, G, e, A, d, e', hm, fun v H' G' s A' r => q v H' G' s A' (.inl r)⟩

/-! ### names, constants -/
theorem se_v {i : Nat} {x : Str} {pos : Pos} (h : PE X (.Name x pos) (tVar i)) (hw : W.ow i = false) : SE X W .v (.Name x pos) (mV i) := h.imp fun σ H Q ⟨B, G, e, A, d, e', hm, q⟩ => by
  obtain ⟨d', h1, h2⟩ := Out.bind_eq_ok hm
  cases h2
  obtain ⟨v, h3, h4⟩ := A.val i _ hw (getV_ok h1)
  exact ⟨v, h3, q v H G (Same.refl _) A h4⟩
theorem se_bo {i : Nat} {x : Str} {pos : Pos} (h : PE X (.Name x pos) (tVar i)) (hw : W.ow i = true) : SE X W .b (.Name x pos) (mV i) := h.imp fun σ H Q ⟨B, G, e, A, d, e', hm, q⟩ => by
  obtain ⟨d', h1, h2⟩ := Out.bind_eq_ok hm
  cases h2
  obtain ⟨a, h3, h4, h5⟩ := A.own i _ hw (getV_ok h1)
  exact ⟨_, h3, q _ H G (Same.refl _) A (.inr ⟨a, rfl, h4⟩)⟩
theorem live_set {e : Env} {i j : Nat} (h : Live (e.set i none) j) : j ≠ i ∧ Live e j := by
  obtain ⟨d, h⟩ := h
  by_cases q : j = i
  · subst q
    rw [List.getElem?_set] at h
    simp at h
  · rw [List.getElem?_set_ne (Ne.symm q)] at h
    exact ⟨q, d, h⟩
theorem Abs.drop (A : Abs K W B G σ H e) (i : Nat) : Abs K W B G σ H (e.set i none) where
  len := by rw [List.length_set]; exact A.len
  ln := A.ln
  sub := A.sub
  g0 := A.g0
  keep := A.keep
  new := A.new
  val := fun j d h1 h2 => by
    obtain ⟨n, _⟩ := live_set ⟨d, h2⟩
    rw [List.getElem?_set_ne (Ne.symm n)] at h2
    exact A.val j d h1 h2
  own := fun j d h1 h2 => by
    obtain ⟨n, _⟩ := live_set ⟨d, h2⟩
    rw [List.getElem?_set_ne (Ne.symm n)] at h2
    exact A.own j d h1 h2
  dist := fun j k a n h1 h2 h3 h4 => A.dist j k a n h1 h2 (live_set h3).2 (live_set h4).2
  fix := A.fix
theorem se_mv {i : Nat} {x : Str} {pos : Pos} (h : PE X (.Name x pos) (tVar i)) (hw : W.ow i = true) : SE X W .o (.Name x pos) (mMv i) := h.imp fun σ H Q ⟨B, G, e, A, d, e', hm, q⟩ => by
  obtain ⟨d', h1, h2⟩ := Out.bind_eq_ok hm
  cases h2
  obtain ⟨a, h3, h4, h5⟩ := A.own i _ hw (getV_ok h1)
  refine ⟨_, h3, q _ H G (Same.refl _) (A.drop i) ⟨a, rfl, h4, h5, fun j hj hl => ?_⟩⟩
  obtain ⟨n, l⟩ := live_set hl
  exact A.dist i j a (Ne.symm n) hw hj ⟨_, getV_ok h1⟩ l h3
theorem se_c {x : Expr} {u : V} (h : PE X x (tC u)) (r : ∀ G, Rp X.K G u d) : SE X W .v x (mC d) := h.imp fun σ H Q ⟨B, G, e, A, d, e', hm, q⟩ => by
  cases hm
  exact q u H G (Same.refl _) A (r G)
theorem se_int {i : Int} {j : Nat} {pos : Pos} : SE X W .v (.Constant (.int i) j pos) (mC (.int i)) := se_c pe_int fun _ => .int i
theorem se_bl {i : Bool} {j : Nat} {pos : Pos} : SE X W .v (.Constant (.bool i) j pos) (mC (.bool i)) := se_c pe_bl fun _ => .bl i
theorem se_non {j : Nat} {pos : Pos} : SE X W .v (.Constant .none j pos) (mC .none) := se_c pe_non fun _ => .non
theorem se_str {i : Str} {j : Nat} {pos : Pos} : SE X W .v (.Constant (.str i) j pos) (mC (.str i)) := se_c pe_str fun _ => .str i

/-! ### operations -/
def Op2 (K : Frg) (r : R2) (f : D → D → Out D) : Prop := ∀ (G H : Hp) (x y : V) (d e z : D) (Q : VK), Sub G H → Sh K H G x d → Sh K H G y e → f d e = .ok z → (∀ v H' G', Ext G H G' H' → Rp K G' v z → Q v H') → r x y H Q
def Op1 (K : Frg) (r : V → Hp → VK → Prop) (f : D → Out D) : Prop := ∀ (G H : Hp) (x : V) (d z : D) (Q : VK), Sub G H → Sh K H G x d → f d = .ok z → (∀ v H' G', Ext G H G' H' → Rp K G' v z → Q v H') → r x H Q
variable {r : R2} {f g : D → D → Out D} {a b c : Expr} {ma mb mc : M D} {pos : Pos}
theorem m2_ok {e e' : Env} {z : D} (h : m2 f ma mb e = .ok (z, e')) : ∃ x e1 y, ma e = .ok (x, e1) ∧ mb e1 = .ok (y, e') ∧ f x y = .ok z := by
  obtain ⟨x, e1, h1, h2⟩ := mBind_ok h
  obtain ⟨y, e2, h3, h4⟩ := mBind_ok h2
  obtain ⟨h5, rfl⟩ := mLift_ok h4
  exact ⟨x, e1, y, h1, h3, h5⟩
/-- two values, then an operation of them -/
theorem t2 (ho : Op2 K r f) {Q : VK} (h : tM K W .v (m2 f ma mb) σ H Q) : tOp r (tM K W .v ma) (tM K W .b mb) σ H Q := by
  obtain ⟨B, G, e, A, d, e', hm, q⟩ := h
  obtain ⟨x, e1, y, h1, h2, h3⟩ := m2_ok hm
  refine ⟨B, G, e, A, x, e1, h1, fun v H1 G1 s1 A1 r1 => ⟨B, G1, e1, A1, y, e', h2, fun u H2 G2 s2 A2 r2 => ?_⟩⟩
  exact ho G2 H2 v u x y d Q A2.sub (.inl (Rp.mono s2 r1)) r2 h3 fun w H3 G3 x3 r3 => q w H3 G3 ((s1.trans s2).trans x3.g) (A2.ext x3) r3
/-- .. the left one a name of one's own -/
theorem t2o {i : Nat} (hw : W.ow i = true) (ho : Op2 K r f) {Q : VK} (h : tM K W .v (m2o f i mb) σ H Q) : tOp r (tVar i) (tM K W .b mb) σ H Q := by
  obtain ⟨B, G, e, A, d, e', hm, q⟩ := h
  obtain ⟨x0, e0, h0, hm⟩ := mBind_ok hm
  obtain ⟨x0', z1, z2⟩ := Out.bind_eq_ok h0
  cases z2
  obtain ⟨y, e1, h1, h2⟩ := mBind_ok hm
  obtain ⟨x, e2, h3, h4⟩ := mBind_ok h2
  obtain ⟨h5, rfl⟩ := mLift_ok h4
  obtain ⟨x', h6, h7⟩ := Out.bind_eq_ok h3
  cases h7
  obtain ⟨v, hv⟩ : ∃ v, σ[i]? = some (some v) := let ⟨a, z, _⟩ := A.own i _ hw (getV_ok z1); ⟨_, z⟩
  refine ⟨v, hv, B, G, e, A, y, _, h1, fun u H2 G2 s2 A2 r2 => ?_⟩
  obtain ⟨a, h8, h9, _⟩ := A2.own i _ hw (getV_ok h6)
  rw [hv] at h8
  cases h8
  exact ho G2 H2 _ u x y d Q A2.sub (.inr ⟨a, rfl, h9⟩) r2 h5 fun w H3 G3 x3 r3 => q w H3 G3 (s2.trans x3.g) (A2.ext x3) r3
end
end PD

set_option autoImplicit false
set_option linter.all false
set_option maxRecDepth 100000
set_option maxHeartbeats 4000000
/-! PdC: expressions. -/
namespace PD
open PySem PySem.Spec PyProof.Rows L2

section
variable {X : Cx} {W : Ow} {K : Frg} {B : Bs} {G G' H H' : Hp} {σ : L2.St} {e : Env} {v : V} {d : D}
variable {r : R2} {f g : D → D → Out D} {a b c : Expr} {ma mb mc : M D} {pos : Pos}

theorem lineN_eq : lineN = sizeLine := by rw [sizeLine_eq]; rfl

theorem se_op {op : Operator} (ho : OpR X (binaryOp op) r) (hf : Op2 X.K r f) (ha : SE X W .v a ma) (hb : SE X W .b b mb) : SE X W .v (.BinOp a op b pos) (m2 f ma mb) :=
  (pe_op ho ha hb).imp fun σ H Q h => t2 hf h
theorem se_opo {op : Operator} {i : Nat} {x : Str} {p : Pos} (hw : W.ow i = true) (ho : OpR X (binaryOp op) r) (hf : Op2 X.K r f) (ha : PE X (.Name x p) (tVar i)) (hb : SE X W .b b mb) : SE X W .v (.BinOp (.Name x p) op b pos) (m2o f i mb) :=
  (pe_op ho ha hb).imp fun σ H Q h => t2o hw hf h
theorem se_cmp {op : CmpOp} (ho : OpR X (compareOp op) r) (hf : Op2 X.K r f) (ha : SE X W .v a ma) (hb : SE X W .b b mb) (hm : behindInMarks op b = false) : SE X W .v (.Compare a [op] [b] pos) (m2 f ma mb) :=
  (pe_cmpR ho ha hb hm).imp fun σ H Q h => t2 hf h
theorem se_cmpo {op : CmpOp} {i : Nat} {x : Str} {p : Pos} (hw : W.ow i = true) (ho : OpR X (compareOp op) r) (hf : Op2 X.K r f) (ha : PE X (.Name x p) (tVar i)) (hb : SE X W .b b mb) (hm : behindInMarks op b = false) : SE X W .v (.Compare (.Name x p) [op] [b] pos) (m2o f i mb) :=
  (pe_cmpR ho ha hb hm).imp fun σ H Q h => t2o hw hf h
/-- a test by a value that is a bool -/
theorem tv_of {m : M D} {Q : Bool → Hp → Prop} (h : tMT K W (tV m) σ H Q) : tM K W .v m σ H fun x H' => ∃ k, x = .bl k ∧ Q k H' := by
  obtain ⟨B, G, e, A, d, e', hm, q⟩ := h
  obtain ⟨x, e1, h1, h2⟩ := mBind_ok hm
  obtain ⟨h3, rfl⟩ := mLift_ok h2
  refine ⟨B, G, e, A, x, _, h1, fun v H' G' s A' r => ?_⟩
  cases x with
  | bool k =>
    cases h3
    cases (show Rp K G' v (.bool d) from r)
    exact ⟨d, rfl, q H' G' s A'⟩
  | _ => cases h3
theorem st_cmp {op : CmpOp} (ho : OpR X (compareOp op) r) (hf : Op2 X.K r f) (ha : SE X W .v a ma) (hb : SE X W .b b mb) (hm : behindInMarks op b = false) : ST X W (.Compare a [op] [b] pos) (tV (m2 f ma mb)) :=
  (pt_cmpR ho ha hb hm).imp fun σ H Q h => t2 hf (tv_of h)
theorem st_cmpo {op : CmpOp} {i : Nat} {x : Str} {p : Pos} (hw : W.ow i = true) (ho : OpR X (compareOp op) r) (hf : Op2 X.K r f) (ha : PE X (.Name x p) (tVar i)) (hb : SE X W .b b mb) (hm : behindInMarks op b = false) : ST X W (.Compare (.Name x p) [op] [b] pos) (tV (m2o f i mb)) :=
  (pt_cmpR ho ha hb hm).imp fun σ H Q h => t2o hw hf (tv_of h)
theorem tchain {r r' : R2} {f g : D → D → Out D} {Q : VK} (hf : Op2 K r f) (hg : Op2 K r' g) (h : tM K W .v (mChain f g ma mb mc) σ H Q) : tChain r r' (tM K W .v ma) (tM K W .v mb) (tM K W .b mc) σ H Q := by
  obtain ⟨B, G, e, A, d, e', hm, q⟩ := h
  obtain ⟨x, e1, h1, hm1⟩ := mBind_ok hm
  obtain ⟨y, e2, h2, hm2⟩ := mBind_ok hm1
  obtain ⟨z, e3, h30, hm3⟩ := mBind_ok hm2
  obtain ⟨h3, e30⟩ := mLift_ok h30
  obtain ⟨k, e4, h40, hm4⟩ := mBind_ok hm3
  obtain ⟨h4, e40⟩ := mLift_ok h40
  subst e40 e30
  refine ⟨B, G, e, A, x, e1, h1, fun v H1 G1 s1 A1 r1 => ⟨B, G1, e1, A1, y, _, h2, fun u H2 G2 s2 A2 r2 => ?_⟩⟩
  refine hf G2 H2 v u x y z _ A2.sub (.inl (Rp.mono s2 r1)) (.inl r2) h3 fun w H3 G3 x3 r3 => ?_
  cases z with
  | bool kk =>
    cases h4
    cases r3
    refine ⟨k, rfl, ?_⟩
    cases k with
    | true =>
      simp only [if_true] at hm4 ⊢
      obtain ⟨w, e4, h5, hm5⟩ := mBind_ok hm4
      obtain ⟨h6, e6⟩ := mLift_ok hm5
      subst e6
      refine ⟨B, G3, _, A2.ext x3, w, _, h5, fun t H4 G4 s4 A4 r4 => ?_⟩
      refine hg G4 H4 u t y w d Q A4.sub (.inl (Rp.mono (x3.g.trans s4) r2)) r4 h6 fun w5 H5 G5 x5 r5 => ?_
      exact q w5 H5 G5 ((((s1.trans s2).trans x3.g).trans s4).trans x5.g) (A4.ext x5) r5
    | false =>
      simp only [Bool.false_eq_true, if_false] at hm4 ⊢
      cases hm4
      exact q _ H3 G3 ((s1.trans s2).trans x3.g) (A2.ext x3) (.bl false)
  | _ => cases h4
theorem se_chain {op op' : CmpOp} {r r' : R2} (ho : OpR X (compareOp op) r) (hf : Op2 X.K r f) (ho' : OpR X (compareOp op') r') (hg : Op2 X.K r' g) (ha : SE X W .v a ma) (hb : SE X W .v b mb) (hc : SE X W .b c mc)
    (hm : lastMarks [op, op'] [b, c] = false := by with_unfolding_all rfl) : SE X W .v (.Compare a [op, op'] [b, c] pos) (mChain f g ma mb mc) := (pe_chain ho ho' ha hb hc hm).imp fun σ H Q h => tchain hf hg h
theorem st_chain {op op' : CmpOp} {r r' : R2} (ho : OpR X (compareOp op) r) (hf : Op2 X.K r f) (ho' : OpR X (compareOp op') r') (hg : Op2 X.K r' g) (ha : SE X W .v a ma) (hb : SE X W .v b mb) (hc : SE X W .b c mc)
    (hm : lastMarks [op, op'] [b, c] = false := by with_unfolding_all rfl) : ST X W (.Compare a [op, op'] [b, c] pos) (tV (mChain f g ma mb mc)) := (pt_chain ho ho' ha hb hc hm).imp fun σ H Q h => tchain hf hg (tv_of h)
theorem t1 {r : V → Hp → VK → Prop} {f : D → Out D} {κ : Kd} (hκ : κ ≠ .o) (ho : Op1 K r f) {Q : VK} (h : tM K W .v (m1 f ma) σ H Q) : tM K W κ ma σ H fun x H1 => r x H1 Q := by
  obtain ⟨B, G, e, A, d, e', hm, q⟩ := h
  obtain ⟨x, e1, h1, h2⟩ := mBind_ok hm
  obtain ⟨h3, rfl⟩ := mLift_ok h2
  refine ⟨B, G, e, A, x, _, h1, fun v H1 G1 s1 A1 r1 => ho G1 H1 v x d Q A1.sub ?_ h3 fun w H3 G3 x3 r3 => q w H3 G3 (s1.trans x3.g) (A1.ext x3) r3⟩
  cases κ with
  | v => exact .inl r1
  | b => exact r1
  | o => exact absurd rfl hκ
theorem se_un {op : UnaryOp} {r : V → Hp → VK → Prop} {f : D → Out D} (ho : UnR X (unaryOp op) r) (hf : Op1 X.K r f) (ha : SE X W .v a ma) : SE X W .v (.UnaryOp op a pos) (m1 f ma) := (pe_un ho ha).imp fun σ H Q h => t1 (by simp) hf h

/-! ### tests -/
theorem st_val {m : M D} (h : SE X W .v a m) (he : ∀ whole, isTrue a X.env whole = (do let v ← whole; standAt a.pos; holding [v] (truthy v)) := by intro _; rfl) : ST X W a (tV m) := (pt_val h he).imp fun σ H Q h => tv_of h
theorem truth_of (A : Abs K W B G σ H e) {k : Bool} (r : Sh K H G v d) (h : truth d = .ok k) (hl : ∀ s, d = .str s → s.length ≤ sizeLine) : TruV K v H k := by
  cases d with
  | none => cases h; rw [r.non]; rfl
  | bool b => cases h; rw [r.bl]; rfl
  | int i => cases h; rw [r.int]; rfl
  | str s =>
    cases h
    rw [r.str]
    refine ⟨hl s rfl, ?_⟩
    show (s.cps.size != 0) = ((s.cps.size : Int) != 0)
    rw [Bool.eq_iff_iff]
    simp
  | list xs =>
    cases h
    obtain ⟨a, ys, rfl, h1, h2⟩ := r.lst A.sub
    refine .inl ⟨ys, SqL.of h1, ?_⟩
    cases h2 <;> rfl
  | tuple xs =>
    cases h
    obtain ⟨a, ys, rfl, h1, _, h2⟩ := r.tup A.sub
    refine .inr (.inl ⟨ys, SqT.of h1, ?_⟩)
    cases h2 <;> rfl
  | dict _ => cases h
theorem ps_and {t u : M Bool} {Q : Bool → Hp → Prop} (h : tMT K W (PD.tAnd t u) σ H Q) : L2.tAnd (tMT K W t) (tMT K W u) σ H Q := by
  obtain ⟨B, G, e, A, d, e', hm, q⟩ := h
  obtain ⟨c, e1, h1, h2⟩ := mBind_ok hm
  refine ⟨B, G, e, A, c, e1, h1, fun H1 G1 s1 A1 => ?_⟩
  cases c with
  | true =>
    simp only [if_true] at h2 ⊢
    exact ⟨B, G1, e1, A1, d, e', h2, fun H2 G2 s2 A2 => q H2 G2 (s1.trans s2) A2⟩
  | false =>
    simp only [Bool.false_eq_true, if_false] at h2 ⊢
    cases h2
    exact q H1 G1 s1 A1
theorem ps_or {t u : M Bool} {Q : Bool → Hp → Prop} (h : tMT K W (PD.tOr t u) σ H Q) : L2.tOr (tMT K W t) (tMT K W u) σ H Q := by
  obtain ⟨B, G, e, A, d, e', hm, q⟩ := h
  obtain ⟨c, e1, h1, h2⟩ := mBind_ok hm
  refine ⟨B, G, e, A, c, e1, h1, fun H1 G1 s1 A1 => ?_⟩
  cases c with
  | true =>
    simp only [if_true] at h2 ⊢
    cases h2
    exact q H1 G1 s1 A1
  | false =>
    simp only [Bool.false_eq_true, if_false] at h2 ⊢
    exact ⟨B, G1, e1, A1, d, e', h2, fun H2 G2 s2 A2 => q H2 G2 (s1.trans s2) A2⟩
variable {rest : List Expr} {t u : M Bool}
theorem sw_and1 (ha : ST X W a t) : SW X W (.BoolOp .And [a] pos) t := pw_and1 ha
theorem sw_or1 (ha : ST X W a t) : SW X W (.BoolOp .Or [a] pos) t := pw_or1 ha
theorem sw_and (ha : ST X W a t) (hb : SW X W (.BoolOp .And (b :: rest) pos) u) : SW X W (.BoolOp .And (a :: b :: rest) pos) (tAnd t u) := (pw_and ha hb).imp fun σ H Q h => ps_and h
theorem sw_or (ha : ST X W a t) (hb : SW X W (.BoolOp .Or (b :: rest) pos) u) : SW X W (.BoolOp .Or (a :: b :: rest) pos) (tOr t u) := (pw_or ha hb).imp fun σ H Q h => ps_or h
theorem st_w (h : SW X W a t) : ST X W a t := h.pt
theorem st_not (ha : ST X W a t) : ST X W (.UnaryOp .Not a pos) (tNot t) := (pt_not ha).imp fun σ H Q ⟨B, G, e, A, d, e', hm, q⟩ => by
  obtain ⟨c, e1, h1, h2⟩ := mBind_ok hm
  cases h2
  exact ⟨B, G, e, A, c, _, h1, fun H1 G1 s1 A1 => q H1 G1 s1 A1⟩
/-! ### and, or, not, if as values -/
theorem bl_of {m : M D} {k : Bool → M D} {κ : Kd} {Q : VK} (h : tM K W κ (mBind m fun x => mBind (mLift (bOf x)) k) σ H Q) : tM K W .v m σ H fun x H1 => ∃ c, x = .bl c ∧ tM K W κ (k c) σ H1 Q := by
  obtain ⟨B, G, e, A, d, e', hm, q⟩ := h
  obtain ⟨x, e1, h1, h2⟩ := mBind_ok hm
  obtain ⟨y, e2, h2, h3⟩ := mBind_ok h2
  obtain ⟨h2, rfl⟩ := mLift_ok h2
  refine ⟨B, G, e, A, x, _, h1, fun v H' G' s A' r => ?_⟩
  cases x with
  | bool k =>
    cases h2
    cases (show Rp K G' v (.bool y) from r)
    exact ⟨y, rfl, B, G', _, A', d, e', h3, fun v H2 G2 s2 A2 r2 => q v H2 G2 (s.trans s2) A2 r2⟩
  | _ => cases h2
theorem pure_of {κ : Kd} {Q : VK} (hr : ∀ G, Rp K G v d) (h : tM K W .v (mPure d) σ H Q) : Q v H := by
  obtain ⟨B, G, e, A, d, e', hm, q⟩ := h
  cases hm
  exact q v H G (Same.refl _) A (hr G)
theorem se_one {op : BoolOp} (ha : SE X W .v a ma) : SE X W .v (.BoolOp op [a] pos) ma := pe_one ha
theorem se_and (ha : SE X W .v a ma) (hb : SE X W .v (.BoolOp .And (b :: rest) pos) mb) : SE X W .v (.BoolOp .And (a :: b :: rest) pos) (mAnd ma mb) := (pe_and ha hb).imp fun σ H Q h => by
  obtain ⟨B, G, e, A, d, e', hm, q⟩ := bl_of h
  refine ⟨B, G, e, A, d, e', hm, fun v H1 G1 s A1 r => ?_⟩
  obtain ⟨c, rfl, h⟩ := q v H1 G1 s A1 r
  refine ⟨c, rfl, ?_⟩
  cases c with
  | true => exact h
  | false => exact pure_of (κ := .v) (fun _ => .bl false) h
theorem se_or (ha : SE X W .v a ma) (hb : SE X W .v (.BoolOp .Or (b :: rest) pos) mb) : SE X W .v (.BoolOp .Or (a :: b :: rest) pos) (mOr ma mb) := (pe_or ha hb).imp fun σ H Q h => by
  obtain ⟨B, G, e, A, d, e', hm, q⟩ := bl_of h
  refine ⟨B, G, e, A, d, e', hm, fun v H1 G1 s A1 r => ?_⟩
  obtain ⟨c, rfl, h⟩ := q v H1 G1 s A1 r
  refine ⟨c, rfl, ?_⟩
  cases c with
  | true => exact pure_of (κ := .v) (fun _ => .bl true) h
  | false => exact h
theorem se_not (ha : SE X W .v a ma) : SE X W .v (.UnaryOp .Not a pos) (mNot ma) := (pe_not ha).imp fun σ H Q h => by
  obtain ⟨B, G, e, A, d, e', hm, q⟩ := bl_of h
  refine ⟨B, G, e, A, d, e', hm, fun v H1 G1 s A1 r => ?_⟩
  obtain ⟨c, rfl, h⟩ := q v H1 G1 s A1 r
  exact ⟨c, rfl, pure_of (κ := .v) (fun _ => .bl (!c)) h⟩
theorem se_if {κ : Kd} (hc : ST X W c t) (ha : SE X W κ a ma) (hb : SE X W κ b mb) : SE X W κ (.IfExp c a b pos) (mIf t ma mb) := (pe_ifExp hc ha hb).imp fun σ H Q ⟨B, G, e, A, d, e', hm, q⟩ => by
  obtain ⟨k, e1, h1, h2⟩ := mBind_ok hm
  refine ⟨B, G, e, A, k, e1, h1, fun H1 G1 s1 A1 => ?_⟩
  cases k with
  | true =>
    simp only [if_true] at h2 ⊢
    exact ⟨B, G1, e1, A1, d, e', h2, fun v H2 G2 s2 A2 r2 => q v H2 G2 (s1.trans s2) A2 r2⟩
  | false =>
    simp only [Bool.false_eq_true, if_false] at h2 ⊢
    exact ⟨B, G1, e1, A1, d, e', h2, fun v H2 G2 s2 A2 r2 => q v H2 G2 (s1.trans s2) A2 r2⟩

/-! ### lists of expressions, displays -/
variable {es : List Expr} {ms : M (List D)}
theorem sl_nil : SL X W [] mNil := pa_nil.imp fun σ H Q ⟨B, G, e, A, d, e', hm, q⟩ => by
  cases hm
  exact q [] H G (Same.refl _) A .nil
theorem sl_cons (ha : SE X W .v a ma) (hr : SL X W es ms) (hs : starEach (a :: es) X.env = (false, eval a X.env) :: starEach es X.env := by rfl) : SL X W (a :: es) (mCons ma ms) := (pa_cons ha hr hs).imp fun σ H Q ⟨B, G, e, A, d, e', hm, q⟩ => by
  obtain ⟨x, e1, h1, h2⟩ := mBind_ok hm
  obtain ⟨xs, e2, h2, h3⟩ := mBind_ok h2
  cases h3
  refine ⟨B, G, e, A, x, e1, h1, fun v H1 G1 s1 A1 r1 => ⟨B, G1, e1, A1, xs, _, h2, fun vs H2 G2 s2 A2 r2 => ?_⟩⟩
  exact q (v :: vs) H2 G2 (s1.trans s2) A2 (.cons (Rp.mono s2 r1) r2)
/-- a display of at most so many items -/
def small (es : List Expr) : Prop := es.length ≤ 16777216
theorem se_tup {k : Nat} (h : SL X W es ms) (hn : ∀ e d e', ms e = .ok (d, e') → d.length ≤ sizeLine) : SE X W .v (.Tuple es k pos) (mTup ms) := (pe_tup h).imp fun σ H Q ⟨B, G, e, A, d, e', hm, q⟩ => by
  obtain ⟨xs, e1, h1, h2⟩ := mBind_ok hm
  cases h2
  refine ⟨B, G, e, A, xs, _, h1, fun vs H1 G1 s1 A1 r1 => ⟨by rw [r1.length]; exact hn _ _ _ h1, fun p np => ?_⟩⟩
  have x := ext_new (o := .tup vs) A1.sub np
  exact q _ _ _ (s1.trans x.g) (A1.ext x) (.tup upd_same (r1.mono x.g))
/-- a new list is one's own -/
theorem new_own {vs : List V} {p : Addr} (A : Abs K W B G σ H e) {ds : List D} (r : RpL K G vs ds) (np : H p = none) :
    Abs K W B G σ (upd H p (.lst vs)) e ∧ Res K W B .o G σ (upd H p (.lst vs)) e (.ref p) (.list ds) := by
  have nG : G p = none := A.sub.none np
  have s : Same H (upd H p (.lst vs)) := same_upd np
  have x : Ext G H G (upd H p (.lst vs)) := ⟨Same.refl _, s, fun _ _ h => .inl h⟩
  refine ⟨A.ext x, p, rfl, ⟨nG, vs, ds, upd_same, r, rfl⟩, ?_, fun i hi ⟨d, hl⟩ z => ?_⟩
  · by_cases hO : B.O p
    · exact .inl hO
    · refine .inr ?_
      cases q : B.H p with
      | none => rfl
      | some o =>
        have := A.keep p o q hO
        rw [np] at this; cases this
  · obtain ⟨a, h1, ⟨_, ys, es, h2, _⟩, _⟩ := A.own i d hi hl
    rw [z] at h1
    cases h1
    rw [np] at h2; cases h2
theorem se_lst (h : SL X W es ms) (hn : ∀ e d e', ms e = .ok (d, e') → d.length ≤ sizeLine) : SE X W .o (.List es pos) (mLst ms) := (pe_lst h).imp fun σ H Q ⟨B, G, e, A, d, e', hm, q⟩ => by
  obtain ⟨xs, e1, h1, h2⟩ := mBind_ok hm
  cases h2
  refine ⟨B, G, e, A, xs, _, h1, fun vs H1 G1 s1 A1 r1 => ⟨by rw [r1.length]; exact hn _ _ _ h1, fun p np => ?_⟩⟩
  obtain ⟨A2, r2⟩ := new_own A1 r1 np
  exact q _ _ _ s1 A2 r2
theorem len_nil : ∀ e d e', mNil e = .ok (d, e') → d.length ≤ sizeLine := fun e d e' h => by cases h; exact Nat.zero_le _
def lenIs (ms : M (List D)) (n : Nat) : Prop := ∀ e d e', ms e = .ok (d, e') → d.length = n
theorem lenIs_nil : lenIs mNil 0 := fun e d e' h => by cases h; rfl
theorem lenIs_cons {n : Nat} (h : lenIs ms n) : lenIs (mCons ma ms) (n + 1) := fun e d e' hm => by
  obtain ⟨x, e1, h1, h2⟩ := mBind_ok hm
  obtain ⟨xs, e2, h2, h3⟩ := mBind_ok h2
  cases h3
  rw [List.length_cons, h _ _ _ h2]
theorem lenIs.le {n : Nat} (h : lenIs ms n) (hn : Nat.ble n 16777216 = true) : ∀ e d e', ms e = .ok (d, e') → d.length ≤ sizeLine := fun e d e' hm => by
  rw [h e d e' hm, sizeLine_eq]
  exact Nat.le_of_ble_eq_true hn

/-! ### built-in functions -/
variable {x : Str} {p : Pos} {id T : String} {rs : List V → Hp → VK → Prop} {f1 : D → Out D}
def OpC1 (K : Frg) (rs : List V → Hp → VK → Prop) (f : D → Out D) : Prop := Op1 K (fun x H Q => rs [x] H Q) f
def OpC2 (K : Frg) (rs : List V → Hp → VK → Prop) (f : D → D → Out D) : Prop := Op2 K (fun x y H Q => rs [x, y] H Q) f
theorem se_b1 (hc : CallR X (.builtin id) rs) (ho : OpC1 X.K rs f1) (hg : Gl X x) (hm : X.mg x = none) (hv : bootBuiltins x = some (.builtin id)) (ha : SE X W .b a ma) (hn : x ≠ "__name__" := by decide) (hdb : (x == ("__debug__" : Str)) = false := by decide)
    (he : starEach [a] X.env = (false, eval a X.env) :: starEach [] X.env := by rfl) : SE X W .v (.Call (.Name x p) [a] [] pos) (m1 f1 ma) :=
  (pe_callB hc hg hm hv (pa_cons ha pa_nil he) hn hdb he rfl).imp fun σ H Q h => t1 (κ := .b) (by simp) (r := fun x H Q => rs [x] H Q) ho h
theorem se_ty1 (hc : CallR X (.type T) rs) (ho : OpC1 X.K rs f1) (hg : Gl X x) (hm : X.mg x = none) (hv : bootBuiltins x = some (.type T)) (ha : SE X W .b a ma) (hn : x ≠ "__name__" := by decide) (hdb : (x == ("__debug__" : Str)) = false := by decide)
    (he : starEach [a] X.env = (false, eval a X.env) :: starEach [] X.env := by rfl) : SE X W .v (.Call (.Name x p) [a] [] pos) (m1 f1 ma) :=
  (pe_callTy hc hg hm hv (pa_cons ha pa_nil he) hn hdb he rfl).imp fun σ H Q h => t1 (κ := .b) (by simp) (r := fun x H Q => rs [x] H Q) ho h
theorem se_b2 (hc : CallR X (.builtin id) rs) (ho : OpC2 X.K rs f) (hg : Gl X x) (hm : X.mg x = none) (hv : bootBuiltins x = some (.builtin id)) (ha : SE X W .v a ma) (hb : SE X W .b b mb) (hn : x ≠ "__name__" := by decide) (hdb : (x == ("__debug__" : Str)) = false := by decide)
    (he : starEach [a, b] X.env = (false, eval a X.env) :: starEach [b] X.env := by rfl) (he2 : starEach [b] X.env = (false, eval b X.env) :: starEach [] X.env := by rfl) (hpl : (backTo pos (starEach [b] X.env)).any (·.1) = false := by rfl) : SE X W .v (.Call (.Name x p) [a, b] [] pos) (m2 f ma mb) :=
  (pe_callB hc hg hm hv (pa_cons ha (pa_cons hb pa_nil he2) he) hn hdb he hpl).imp fun σ H Q h => t2 (r := fun x y H Q => rs [x, y] H Q) ho h
/-- .. by a module's name (gcd) -/
theorem se_g2 (hc : CallR X (.builtin id) rs) (ho : OpC2 X.K rs f) (hg : Gl X x) (hm : X.mg x = some (.builtin id)) (ha : SE X W .v a ma) (hb : SE X W .b b mb) (hdb : (x == ("__debug__" : Str)) = false := by decide)
    (he : starEach [a, b] X.env = (false, eval a X.env) :: starEach [b] X.env := by rfl) (he2 : starEach [b] X.env = (false, eval b X.env) :: starEach [] X.env := by rfl) (hpl : (backTo pos (starEach [b] X.env)).any (·.1) = false := by rfl) : SE X W .v (.Call (.Name x p) [a, b] [] pos) (m2 f ma mb) :=
  (pe_callBfun hc hg hm (pa_cons ha (pa_cons hb pa_nil he2) he) hdb he hpl).imp fun σ H Q h => t2 (r := fun x y H Q => rs [x, y] H Q) ho h

/-! ### subscripts -/
theorem se_ix (hr : IxR X r) (hf : Op2 X.K r f) (ha : SE X W .v a ma) (hb : SE X W .v b mb) (hs : PlainIx b) : SE X W .v (.Subscript a b pos) (m2 f ma mb) := (pe_ix hr ha (se_b hb) hs).imp fun σ H Q h => t2 hf h
theorem se_ixo {i : Nat} {x : Str} {p : Pos} (hw : W.ow i = true) (hr : IxR X r) (hf : Op2 X.K r f) (ha : PE X (.Name x p) (tVar i)) (hb : SE X W .v b mb) (hs : PlainIx b) : SE X W .v (.Subscript (.Name x p) b pos) (m2o f i mb) := (pe_ix hr ha (se_b hb) hs).imp fun σ H Q h => t2o hw hf h
/-- a part of a slice -/
def tMO (K : Frg) (W : Ow) (m : M (Option Int)) : TO := fun σ H Q => ∃ B G e, Abs K W B G σ H e ∧ ∃ d e', m e = .ok (d, e') ∧ ∀ H' G', Same G G' → Abs K W B G' σ H' e' → Q d H'
abbrev SO (X : Cx) (W : Ow) (e : Option Expr) (m : M (Option Int)) : Prop := PO X e (tMO X.K W m)
theorem po_imp {X : Cx} {e : Option Expr} {t t' : TO} (h : PO X e t) (f : ∀ σ H Q, t' σ H Q → t σ H Q) : PO X e t' := ⟨fun pins s σ H Q I q => h.run pins s σ H Q I (f σ H Q q)⟩
theorem so_none : SO X W none pNo := po_imp po_none fun σ H Q ⟨B, G, e, A, d, e', hm, q⟩ => by
  cases hm
  exact q H G (Same.refl _) A
theorem so_some (ha : SE X W .v a ma) : SO X W (some a) (pAt ma) := po_imp (po_some ha) fun σ H Q ⟨B, G, e, A, d, e', hm, q⟩ => by
  obtain ⟨x, e1, h1, h2⟩ := mBind_ok hm
  obtain ⟨h3, e2⟩ := mLift_ok h2
  subst e2
  refine ⟨B, G, e, A, x, _, h1, fun v H' G' s A' r => ?_⟩
  cases x with
  | int i =>
    cases h3
    cases (show Rp X.K G' v (.int i) from r)
    exact ⟨i, rfl, q H' G' s A'⟩
  | _ => cases h3
def OpS (K : Frg) (r : V → Option Int → Option Int → Hp → VK → Prop) : Prop := ∀ (G H : Hp) (x : V) (d z : D) (l h : Option Int) (Q : VK), Sub G H → Rp K G x d → dCut d l h = .ok z → (∀ v H' G', Ext G H G' H' → Rp K G' v z → Q v H') → r x l h H Q
theorem se_cut {r : V → Option Int → Option Int → Hp → VK → Prop} {lo hi : Option Expr} {ml mh : M (Option Int)} {p2 : Pos} (hr : SlR X r) (hf : OpS X.K r) (ha : SE X W .v a ma) (hl : SO X W lo ml) (hh : SO X W hi mh) : SE X W .v (.Subscript a (.Slice lo hi none p2) pos) (mCut ma ml mh) :=
  (pe_slice hr ha hl hh).imp fun σ H Q ⟨B, G, e, A, d, e', hm, q⟩ => by
    obtain ⟨x, e1, h1, hm⟩ := mBind_ok hm
    obtain ⟨l, e2, h2, hm⟩ := mBind_ok hm
    obtain ⟨h, e3, h3, hm⟩ := mBind_ok hm
    obtain ⟨h4, e4⟩ := mLift_ok hm
    subst e4
    refine ⟨B, G, e, A, x, e1, h1, fun v H1 G1 s1 A1 r1 => ⟨B, G1, e1, A1, l, e2, h2, fun H2 G2 s2 A2 => ⟨B, G2, e2, A2, h, _, h3, fun H3 G3 s3 A3 => ?_⟩⟩⟩
    exact hf G3 H3 v x d l h Q A3.sub (Rp.mono (s2.trans s3) r1) h4 fun w H4 G4 x4 r4 => q w H4 G4 (((s1.trans s2).trans s3).trans x4.g) (A3.ext x4) r4
end
end PD

set_option autoImplicit false
set_option linter.all false
set_option maxRecDepth 100000
set_option maxHeartbeats 4000000
/-! PdD: statements, calls, defs. -/
namespace PD
open PySem PySem.Spec PyProof.Rows L2

section
variable {X : Cx} {W : Ow} {K : Frg} {B : Bs} {G G' H H' : Hp} {σ : L2.St} {e : Env} {v : V} {d : D} {κ : Kd}
variable {a b c : Expr} {ma mb mc : M D} {pos : Pos}

/-! ### slots -/
theorem get_set {α : Type} {l : List α} {i j : Nat} {x : α} (y : α) (h : (l.set i x)[j]? = some y) : (j = i ∧ y = x ∧ i < l.length) ∨ (j ≠ i ∧ l[j]? = some y) := by
  by_cases q : j = i
  · subst q
    by_cases hl : j < l.length
    · rw [List.getElem?_set_self hl] at h
      cases h
      exact .inl ⟨rfl, rfl, hl⟩
    · rw [List.getElem?_eq_none (by rw [List.length_set]; omega)] at h
      cases h
  · rw [List.getElem?_set_ne (Ne.symm q)] at h
    exact .inr ⟨q, h⟩
theorem Abs.setV {i : Nat} (A : Abs K W B G σ H e) (hw : W.ow i = false) (hx : W.fx i = false) (r : Rp K G v d) : Abs K W B G (σ.set i (some v)) H (e.set i (some d)) where
  len := by rw [List.length_set, List.length_set]; exact A.len
  ln := by rw [List.length_set]; exact A.ln
  sub := A.sub
  g0 := A.g0
  keep := A.keep
  new := A.new
  val := fun j d' h1 h2 => by
    rcases get_set _ h2 with ⟨rfl, h3, h4⟩ | ⟨h3, h4⟩
    · cases h3
      exact ⟨v, by rw [List.getElem?_set_self (by rw [← A.len]; exact h4)], r⟩
    · rw [List.getElem?_set_ne (Ne.symm h3)]
      exact A.val j d' h1 h4
  own := fun j d' h1 h2 => by
    rcases get_set _ h2 with ⟨rfl, h3, h4⟩ | ⟨h3, h4⟩
    · rw [hw] at h1; cases h1
    · rw [List.getElem?_set_ne (Ne.symm h3)]
      exact A.own j d' h1 h4
  dist := fun j k a n h1 h2 h3 h4 h5 => by
    have hj : j ≠ i := fun z => by rw [z, hw] at h1; cases h1
    have hk : k ≠ i := fun z => by rw [z, hw] at h2; cases h2
    obtain ⟨dj, h3⟩ := h3
    obtain ⟨dk, h4⟩ := h4
    rw [List.getElem?_set_ne (Ne.symm hj)] at h3 h5
    rw [List.getElem?_set_ne (Ne.symm hk)] at h4 ⊢
    exact A.dist j k a n h1 h2 ⟨dj, h3⟩ ⟨dk, h4⟩ h5
  fix := fun j h => by
    have hj : j ≠ i := fun z => by rw [z, hx] at h; cases h
    rw [List.getElem?_set_ne (Ne.symm hj)]
    exact A.fix j h
theorem Abs.setO {i : Nat} (A : Abs K W B G σ H e) (hw : W.ow i = true) (hx : W.fx i = false) (r : Res K W B .o G σ H e v d) : Abs K W B G (σ.set i (some v)) H (e.set i (some d)) where
  len := by rw [List.length_set, List.length_set]; exact A.len
  ln := by rw [List.length_set]; exact A.ln
  sub := A.sub
  g0 := A.g0
  keep := A.keep
  new := A.new
  val := fun j d' h1 h2 => by
    rcases get_set _ h2 with ⟨rfl, h3, h4⟩ | ⟨h3, h4⟩
    · rw [hw] at h1; cases h1
    · rw [List.getElem?_set_ne (Ne.symm h3)]
      exact A.val j d' h1 h4
  own := fun j d' h1 h2 => by
    rcases get_set _ h2 with ⟨rfl, h3, h4⟩ | ⟨h3, h4⟩
    · cases h3
      obtain ⟨a, rfl, h5, h6, _⟩ := r
      exact ⟨a, by rw [List.getElem?_set_self (by rw [← A.len]; exact h4)], h5, h6⟩
    · rw [List.getElem?_set_ne (Ne.symm h3)]
      exact A.own j d' h1 h4
  dist := fun j k a n h1 h2 h3 h4 h5 => by
    obtain ⟨b, rfl, _, _, hf⟩ := r
    obtain ⟨dj, h3⟩ := h3
    obtain ⟨dk, h4⟩ := h4
    rcases get_set _ h3 with ⟨rfl, h6, h7⟩ | ⟨h6, h7⟩
    · rcases get_set _ h4 with ⟨rfl, h8, h9⟩ | ⟨h8, h9⟩
      · exact absurd rfl n
      · rw [List.getElem?_set_self (by rw [← A.len]; exact h7)] at h5
        cases h5
        rw [List.getElem?_set_ne (Ne.symm h8)]
        exact hf k h2 ⟨dk, h9⟩
    · rw [List.getElem?_set_ne (Ne.symm h6)] at h5
      rcases get_set _ h4 with ⟨rfl, h8, h9⟩ | ⟨h8, h9⟩
      · rw [List.getElem?_set_self (by rw [← A.len]; exact h9)]
        intro z
        cases z
        exact hf j h1 ⟨dj, h7⟩ h5
      · rw [List.getElem?_set_ne (Ne.symm h8)]
        exact A.dist j k a n h1 h2 ⟨dj, h7⟩ ⟨dk, h9⟩ h5
  fix := fun j h => by
    have hj : j ≠ i := fun z => by rw [z, hx] at h; cases h
    rw [List.getElem?_set_ne (Ne.symm hj)]
    exact A.fix j h
/-- the object of an owned name changed -/
theorem Abs.mut {i : Nat} {a : Addr} {xs : List V} {ds es : List D} (A : Abs K W B G σ H e) (hw : W.ow i = true) (hl : e[i]? = some (some (.list es))) (hs : σ[i]? = some (some (.ref a))) (r : RpL K G xs ds) :
    Abs K W B G σ (upd H a (.lst xs)) (e.set i (some (.list ds))) := by
  obtain ⟨a', h1, ⟨n, ys, es', h2, h3, h4⟩, hO⟩ := A.own i _ hw hl
  rw [hs] at h1
  cases h1
  have nd : ∀ j, W.ow j = true → j ≠ i → Live e j → σ[j]? ≠ some (some (.ref a)) := fun j hj hn l => A.dist i j a (Ne.symm hn) hw hj ⟨_, hl⟩ l hs
  refine ⟨by rw [List.length_set]; exact A.len, A.ln, fun b o q => ?_, A.g0, fun b o q nO => ?_, A.new, fun j d' h5 h6 => ?_, fun j d' h5 h6 => ?_, fun j k c n' h5 h6 h7 h8 h9 => ?_, A.fix⟩
  · have hb : b ≠ a := fun z => by rw [z, n] at q; cases q
    rw [upd_ne hb]
    exact A.sub b o q
  · have hb : b ≠ a := fun z => by
      subst z
      rcases hO with z | z
      · exact nO z
      · rw [q] at z; cases z
    rw [upd_ne hb]
    exact A.keep b o q nO
  · have hj : j ≠ i := fun z => by rw [z, hw] at h5; cases h5
    rw [List.getElem?_set_ne (Ne.symm hj)] at h6
    exact A.val j d' h5 h6
  · rcases get_set _ h6 with ⟨rfl, h7, h8⟩ | ⟨h7, h8⟩
    · cases h7
      exact ⟨a, hs, ⟨n, xs, ds, upd_same, r, rfl⟩, hO⟩
    · obtain ⟨b, h9, ⟨n', zs, fs, h10, h11, h12⟩, hO'⟩ := A.own j d' h5 h8
      have hb : b ≠ a := fun z => nd j h5 h7 ⟨_, h8⟩ (by rw [← z]; exact h9)
      exact ⟨b, h9, ⟨n', zs, fs, by rw [upd_ne hb]; exact h10, h11, h12⟩, hO'⟩
  · have lv : ∀ j, Live (e.set i (some (.list ds))) j → Live e j := fun j ⟨dj, hj⟩ => by
      rcases get_set _ hj with ⟨rfl, _, _⟩ | ⟨_, q⟩
      · exact ⟨_, hl⟩
      · exact ⟨dj, q⟩
    exact A.dist j k c n' h5 h6 (lv j h7) (lv k h8) h9

/-! ### blocks -/
theorem ss_nil : SSs X W κ [] sNx := pss_nil.imp fun D σ H ⟨B, G, e, A, f, hf, p⟩ => by
  cases hf
  exact p σ H G (Same.refl _) A
theorem PostF.up {D : Ends} {f : Fl} (s : Same G G') (p : PostF K W B κ G D f) : PostF K W B κ G' D f := by
  cases f with
  | nx e' => exact fun σ' H' G2 s2 A => p σ' H' G2 (s.trans s2) A
  | bk e' => exact fun σ' H' G2 s2 A => p σ' H' G2 (s.trans s2) A
  | ct e' => exact fun σ' H' G2 s2 A => p σ' H' G2 (s.trans s2) A
  | rt d e' => exact fun v σ' H' G2 s2 A r => p v σ' H' G2 (s.trans s2) A r
theorem PostS.up {D : Ends} {o : Out Fl} (s : Same G G') (p : PostS K W B κ G D o) : PostS K W B κ G' D o := let ⟨f, h, p⟩ := p; ⟨f, h, p.up s⟩
variable {st : Stmt} {sts : List Stmt} {m n : S}
theorem ss_cons (h1 : SS X W κ st m) (h2 : SSs X W κ sts n) : SSs X W κ (st :: sts) (sSeq m n) := (pss_cons h1 h2).imp fun D σ H ⟨B, G, e, A, f, hf, p⟩ => by
  obtain ⟨f1, h3, h4⟩ := Out.bind_eq_ok hf
  refine ⟨B, G, e, A, f1, h3, ?_⟩
  cases f1 with
  | nx e1 => exact fun σ' H' G' s A' => ⟨B, G', e1, A', f, h4, p.up s⟩
  | bk e1 => cases h4; exact p
  | ct e1 => cases h4; exact p
  | rt d e1 => cases h4; exact p
theorem ss_one (h1 : SS X W κ st m) : SSs X W κ [st] m := pss_one h1
theorem ss_pass : SS X W κ (.Pass pos) sNx := ps_pass.imp fun D σ H ⟨B, G, e, A, f, hf, p⟩ => by
  cases hf
  exact p σ H G (Same.refl _) A
theorem ss_break : SS X W κ (.Break pos) sBk := ps_break.imp fun D σ H ⟨B, G, e, A, f, hf, p⟩ => by
  cases hf
  exact p σ H G (Same.refl _) A
theorem ss_continue : SS X W κ (.Continue pos) sCt := ps_continue.imp fun D σ H ⟨B, G, e, A, f, hf, p⟩ => by
  cases hf
  exact p σ H G (Same.refl _) A
/-- what no way comes to -/
theorem ss_no : SS X W κ st sNo := ps_never.imp fun D σ H ⟨B, G, e, A, f, hf, p⟩ => by cases hf
theorem ss_expr (he : SE X W .v a ma) (hs : swapsWith a none pos.line X.env = pure false := by rfl) : SS X W κ (.Expr a pos) (sEx ma) := (ps_expr he hs).imp fun D σ H ⟨B, G, e, A, f, hf, p⟩ => by
  obtain ⟨q, h1, h2⟩ := Out.bind_eq_ok hf
  cases h2
  exact ⟨B, G, e, A, q.1, q.2, h1, fun v H' G' s A' r => p σ H' G' s A'⟩
theorem ss_ret (he : SE X W κ a ma) : SS X W κ (.Return (some a) pos) (sRt ma) := (ps_ret he).imp fun D σ H ⟨B, G, e, A, f, hf, p⟩ => by
  obtain ⟨q, h1, h2⟩ := Out.bind_eq_ok hf
  cases h2
  exact ⟨B, G, e, A, q.1, q.2, h1, fun v H' G' s A' r => p v σ H' G' s A' r⟩
theorem ss_retN : SS X W .v (.Return none pos) sRtN := ps_retN.imp fun D σ H ⟨B, G, e, A, f, hf, p⟩ => by
  cases hf
  exact p .non σ H G (Same.refl _) A .non
theorem ss_if {t : M Bool} {as bs : List Stmt} (hc : ST X W c t) (ha : SSs X W κ as m) (hb : SSs X W κ bs n) : SS X W κ (.If c as bs pos) (sIf t m n) := (ps_if hc ha hb).imp fun D σ H ⟨B, G, e, A, f, hf, p⟩ => by
  obtain ⟨q, h1, h2⟩ := Out.bind_eq_ok hf
  refine ⟨B, G, e, A, q.1, q.2, h1, fun H' G' s A' => ?_⟩
  cases hq : q.1 with
  | true =>
    rw [hq] at h2
    simp only [if_true] at h2 ⊢
    exact ⟨B, G', q.2, A', f, h2, p.up s⟩
  | false =>
    rw [hq] at h2
    simp only [Bool.false_eq_true, if_false] at h2 ⊢
    exact ⟨B, G', q.2, A', f, h2, p.up s⟩

/-! ### stores -/
theorem ss_asgN {te : TE} {i : Nat} (h : PS X st (tAsg te (gName i))) (ht : ∀ σ H Q, tM X.K W .v ma σ H Q → te σ H Q) (hw : W.ow i = false) (hx : W.fx i = false) : SS X W κ st (sSet i ma) := h.imp fun D σ H ⟨B, G, e, A, f, hf, p⟩ => by
  obtain ⟨q, h1, h2⟩ := Out.bind_eq_ok hf
  cases h2
  exact ht _ _ _ ⟨B, G, e, A, q.1, q.2, h1, fun v H' G' s A' r => p _ H' G' s (A'.setV hw hx r)⟩
theorem ss_asgO {te : TE} {i : Nat} (h : PS X st (tAsg te (gName i))) (ht : ∀ σ H Q, tM X.K W .o ma σ H Q → te σ H Q) (hw : W.ow i = true) (hx : W.fx i = false) : SS X W κ st (sSet i ma) := h.imp fun D σ H ⟨B, G, e, A, f, hf, p⟩ => by
  obtain ⟨q, h1, h2⟩ := Out.bind_eq_ok hf
  cases h2
  exact ht _ _ _ ⟨B, G, e, A, q.1, q.2, h1, fun v H' G' s A' r => p _ H' G' s (A'.setO hw hx r)⟩
theorem ss_set {i : Nat} {x : Str} {p : Pos} (hN : X.N.Nodup) (hi : X.N[i]? = some x) (hx : Loc X.env.scope x) (he : SE X W .v a ma) (hw : W.ow i = false) (hf : W.fx i = false) (hs : swapsWith a (some (.Name x p)) pos.line X.env = pure false := by rfl)
    (hfn : X.fn x = true ∨ X.env.scope.names.lookup x = some .local := by first | exact .inl rfl | exact .inr rfl | assumption) : SS X W κ (.Assign [.Name x p] a pos) (sSet i ma) := ss_asgN (ps_set hN hi hx he hs hfn) (fun _ _ _ h => h) hw hf
theorem ss_setO {i : Nat} {x : Str} {p : Pos} (hN : X.N.Nodup) (hi : X.N[i]? = some x) (hx : Loc X.env.scope x) (he : SE X W .o a ma) (hw : W.ow i = true) (hf : W.fx i = false) (hs : swapsWith a (some (.Name x p)) pos.line X.env = pure false := by rfl)
    (hfn : X.fn x = true ∨ X.env.scope.names.lookup x = some .local := by first | exact .inl rfl | exact .inr rfl | assumption) : SS X W κ (.Assign [.Name x p] a pos) (sSet i ma) := ss_asgO (ps_set hN hi hx he hs hfn) (fun _ _ _ h => h) hw hf
/-- a target: is, the slots that it stores -/
def tG (K : Frg) (W : Ow) (is : List Nat) (g : Gt) : TG := fun v σ H Q => ∃ B G e d, Abs K W B G σ H e ∧ Rp K G v d ∧ ∃ e', g d e = .ok e' ∧ ∀ σ', σ'.length = σ.length → (∀ j, j ∉ is → σ'[j]? = σ[j]?) → Abs K W B G σ' H e' → Q σ' H
def tGs (K : Frg) (W : Ow) (is : List Nat) (gs : List Gt) : TGs := fun vs σ H Q => ∃ B G e ds, Abs K W B G σ H e ∧ RpL K G vs ds ∧ ∃ e', gAll gs ds e = .ok e' ∧ ∀ σ', σ'.length = σ.length → (∀ j, j ∉ is → σ'[j]? = σ[j]?) → Abs K W B G σ' H e' → Q σ' H
abbrev SG (X : Cx) (W : Ow) (tg : Expr) (is : List Nat) (g : Gt) : Prop := PG X tg (tG X.K W is g)
abbrev SGs (X : Cx) (W : Ow) (tg : List Expr) (is : List Nat) (g : List Gt) : Prop := PGs X tg (tGs X.K W is g)
theorem sg_n {i : Nat} {x : Str} (hN : X.N.Nodup) (hi : X.N[i]? = some x) (hl : Loc X.env.scope x) (hw : W.ow i = false) (hx : W.fx i = false)
    (hfn : X.fn x = true ∨ X.env.scope.names.lookup x = some .local := by first | exact .inl rfl | exact .inr rfl | assumption) : SG X W (.Name x pos) [i] (gN i) := (pg_name hN hi hl hfn).imp fun v σ H Q ⟨B, G, e, d, A, r, e', hg, q⟩ => by
  cases hg
  exact q _ (List.length_set ..) (fun j hj => List.getElem?_set_ne (by simpa using Ne.symm (by simpa using hj))) (A.setV hw hx r)
theorem sgs_nil : SGs X W [] [] [] := pgs_nil.imp fun v σ H Q ⟨B, G, e, d, A, r, e', hg, q⟩ => by
  cases r with
  | nil =>
    cases hg
    exact ⟨rfl, q σ rfl (fun _ _ => rfl) A⟩
  | cons _ _ => cases hg
theorem sgs_cons {tg : Expr} {tgs : List Expr} {is js : List Nat} {g : Gt} {gs : List Gt} (h1 : SG X W tg is g) (h2 : SGs X W tgs js gs) (hs : (assignEach (tg :: tgs) X.env).map (·.2) = assign tg X.env :: (assignEach tgs X.env).map (·.2) := by rfl) :
    SGs X W (tg :: tgs) (is ++ js) (g :: gs) := (pgs_cons h1 h2 hs).imp fun v σ H Q ⟨B, G, e, d, A, r, e', hg, q⟩ => by
  cases r with
  | nil => cases hg
  | cons r1 r2 =>
    obtain ⟨e1, h3, h4⟩ := Out.bind_eq_ok hg
    refine ⟨_, _, rfl, B, G, e, _, A, r1, e1, h3, fun σ1 l1 k1 A1 => ⟨B, G, e1, _, A1, r2, e', h4, fun σ2 l2 k2 A2 => q σ2 (l2.trans l1) (fun j hj => ?_) A2⟩⟩
    rw [k2 j (fun z => hj (List.mem_append_right _ z)), k1 j (fun z => hj (List.mem_append_left _ z))]
theorem gAll_len : ∀ {gs : List Gt} {ds : List D} {e e' : Env}, gAll gs ds e = .ok e' → ds.length = gs.length
  | [], [], _, _, _ => rfl
  | g :: gs, d :: ds, e, e', h => by
    obtain ⟨e1, _, h2⟩ := Out.bind_eq_ok (show (g d e).bind _ = _ from h)
    rw [List.length_cons, List.length_cons, gAll_len h2]
  | [], _ :: _, _, _, h => nomatch h
  | _ :: _, [], _, _, h => nomatch h
theorem sg_t {tgs : List Expr} {is : List Nat} {gs : List Gt} {k : Nat} (hc : X.calm = true) (h : SGs X W tgs is gs) (hn : (assignEach tgs X.env).length = gs.length := by rfl) (hst : (assignEach tgs X.env).findIdx? (·.1) = none := by rfl) :
    SG X W (.Tuple tgs k pos) is (gT gs) := (pg_tup hc h hn hst).imp fun v σ H Q ⟨B, G, e, d, A, r, e', hg, q⟩ => by
  cases d with
  | tuple ds =>
    cases r with
    | tup h1 r =>
      exact ⟨_, _, rfl, SqT.of (A.sub.tup h1), by rw [r.length]; exact gAll_len hg, B, G, e, ds, A, r, e', hg, q⟩
  | _ => cases hg
theorem ss_asg {tg : Expr} {is : List Nat} {g : Gt} (he : SE X W .v a ma) (hg : SG X W tg is g) (hs : swapsWithSole [tg] a pos.line X.env = pure false := by rfl) (hw : swappedStores [tg] a X.env = pure none := by rfl)
    (h1 : (assignEach [tg] X.env).map (·.2) = [assign tg X.env] := by rfl) : SS X W κ (.Assign [tg] a pos) (sAsg ma g) := (ps_asg he hg hs hw h1).imp fun D σ H ⟨B, G, e, A, f, hf, p⟩ => by
  obtain ⟨q, h1, h2⟩ := Out.bind_eq_ok hf
  obtain ⟨e2, h3, h4⟩ := Out.bind_eq_ok h2
  cases h4
  exact ⟨B, G, e, A, q.1, q.2, h1, fun v H' G' s A' r => ⟨B, G', q.2, q.1, A', r, e2, h3, fun σ' _ _ A2 => p σ' H' G' s A2⟩⟩
end
end PD

set_option autoImplicit false
set_option linter.all false
set_option maxRecDepth 100000
set_option maxHeartbeats 4000000
/-! PdE: calls of defs, defs by their bodies. -/
namespace PD
open PySem PySem.Spec PyProof.Rows L2

section
variable {X : Cx} {W : Ow} {K : Frg} {B : Bs} {G G' H H' : Hp} {σ σ' : L2.St} {e e' : Env} {v : V} {d : D} {κ : Kd}
variable {a b c : Expr} {ma mb mc : M D} {pos : Pos}

/-! ### another base -/
def Bs.of (W : Ow) (G : Hp) (σ : L2.St) (H : Hp) (e : Env) : Bs := ⟨H, G, fun a => ∃ i, W.ow i = true ∧ Live e i ∧ σ[i]? = some (some (.ref a)), σ⟩
theorem Abs.re (A : Abs K W B G σ H e) : Abs K W (Bs.of W G σ H e) G σ H e where
  len := A.len
  ln := rfl
  sub := A.sub
  g0 := Same.refl _
  keep := fun a o h _ => h
  new := fun a h => .inl h
  val := A.val
  own := fun i d h1 h2 => by
    obtain ⟨a, h3, h4, _⟩ := A.own i d h1 h2
    exact ⟨a, h3, h4, .inl ⟨i, h1, ⟨d, h2⟩, h3⟩⟩
  dist := A.dist
  fix := fun _ _ => rfl
/-- what is owned or new for the inner base is so for the outer one -/
theorem Abs.mine (A : Abs K W B G σ H e) {a : Addr} (h : (Bs.of W G σ H e).O a ∨ (Bs.of W G σ H e).H a = none) : B.O a ∨ B.H a = none := by
  rcases h with ⟨i, h1, ⟨d, h2⟩, h3⟩ | h
  · obtain ⟨a', h4, _, h5⟩ := A.own i d h1 h2
    rw [h3] at h4
    cases h4
    exact h5
  · by_cases hO : B.O a
    · exact .inl hO
    · refine .inr ?_
      cases q : B.H a with
      | none => rfl
      | some o =>
        have h6 := A.keep a o q hO
        have h7 : H a = none := h
        rw [h7] at h6; cases h6
theorem Abs.un (A : Abs K W B G σ H e) (A' : Abs K W (Bs.of W G σ H e) G' σ' H' e') : Abs K W B G' σ' H' e' where
  len := A'.len
  ln := A'.ln.trans A.ln
  sub := A'.sub
  g0 := A.g0.trans A'.g0
  keep := fun a o h n => A'.keep a o (A.keep a o h n) fun hO => by
    rcases A.mine (.inl hO) with z | z
    · exact n z
    · rw [h] at z; cases z
  new := fun a h => by
    rcases A'.new a h with z | z | z
    · exact A.new a z
    · exact .inr (A.mine (.inr z)).symm
    · exact .inr (A.mine (.inl z)).symm
  val := A'.val
  own := fun i d h1 h2 => by
    obtain ⟨a, h3, h4, h5⟩ := A'.own i d h1 h2
    exact ⟨a, h3, h4, A.mine h5⟩
  dist := A'.dist
  fix := fun i h => (A'.fix i h).trans (A.fix i h)
theorem Res.un (A : Abs K W B G σ H e) (r : Res K W (Bs.of W G σ H e) κ G' σ' H' e' v d) : Res K W B κ G' σ' H' e' v d := by
  cases κ with
  | v => exact r
  | b => exact r
  | o =>
    obtain ⟨a, h1, h2, h3, h4⟩ := r
    exact ⟨a, h1, h2, A.mine h3, h4⟩
/-- a new object of one's own, kept through what comes then -/
theorem Res.stay (r : Res K W B .o G σ H e v d) (A' : Abs K W (Bs.of W G σ H e) G' σ H' e') : Res K W B .o G' σ H' e' v d ∧ ∀ a, v = .ref a → ¬ (Bs.of W G σ H e).O a ∧ H a ≠ none := by
  obtain ⟨a, rfl, ⟨n, xs, ds, h1, h2, rfl⟩, h3, h4⟩ := r
  have nO : ¬ (Bs.of W G σ H e).O a := fun ⟨i, z1, z2, z3⟩ => h4 i z1 z2 z3
  refine ⟨⟨a, rfl, ⟨?_, xs, ds, A'.keep a _ h1 nO, h2.mono A'.g0, rfl⟩, h3, fun i hi ⟨d, hl⟩ z => ?_⟩, fun a' ea => ?_⟩
  · cases q : G' a with
    | none => rfl
    | some o =>
      rcases A'.new a (by rw [q]; simp) with z | z | z
      · exact absurd n z
      · have z' : H a = none := z
        rw [h1] at z'; cases z'
      · exact absurd z nO
  · obtain ⟨b, h5, _, h6⟩ := A'.own i d hi hl
    rw [z] at h5
    cases h5
    rcases h6 with z | z
    · exact nO z
    · have z' : H a = none := z
      rw [h1] at z'; cases z'
  · cases ea
    exact ⟨nO, by rw [h1]; simp⟩

/-! ### several values, some of them one's own -/
def ownVs : List Kd → List V → List V
  | .o :: ks, v :: vs => v :: ownVs ks vs
  | _ :: ks, _ :: vs => ownVs ks vs
  | _, _ => []
def ResK (K : Frg) (W : Ow) (B : Bs) (G : Hp) (σ : L2.St) (H : Hp) (e : Env) : List Kd → List V → List D → Prop
  | [], [], [] => True
  | .v :: ks, v :: vs, d :: ds => Rp K G v d ∧ ResK K W B G σ H e ks vs ds
  | .o :: ks, v :: vs, d :: ds => Res K W B .o G σ H e v d ∧ v ∉ ownVs ks vs ∧ ResK K W B G σ H e ks vs ds
  | _, _, _ => False
theorem ResK.un (A : Abs K W B G σ H e) : ∀ {ks : List Kd} {vs : List V} {ds : List D}, ResK K W (Bs.of W G σ H e) G' σ' H' e' ks vs ds → ResK K W B G' σ' H' e' ks vs ds
  | [], [], [], _ => trivial
  | .v :: ks, v :: vs, d :: ds, h => ⟨h.1, ResK.un A h.2⟩
  | .o :: ks, v :: vs, d :: ds, h => ⟨Res.un A h.1, h.2.1, ResK.un A h.2.2⟩
  | [], [], _ :: _, h => h.elim
  | [], _ :: _, _, h => h.elim
  | .v :: _, [], _, h => h.elim
  | .o :: _, [], _, h => h.elim
  | .b :: _, [], _, h => h.elim
  | .v :: _, _ :: _, [], h => h.elim
  | .o :: _, _ :: _, [], h => h.elim
  | .b :: _, _ :: _, _, h => h.elim
theorem ResK.owns : ∀ {ks : List Kd} {vs : List V} {ds : List D}, ResK K W B G σ H e ks vs ds → ∀ v ∈ ownVs ks vs, ∃ a, v = .ref a ∧ (B.O a ∨ B.H a = none)
  | [], [], [], _, v, hv => absurd hv (by simp [ownVs])
  | .v :: ks, v :: vs, d :: ds, h, w, hw => ResK.owns h.2 w hw
  | .o :: ks, v :: vs, d :: ds, h, w, hw => by
    rcases List.mem_cons.mp hw with rfl | hw
    · obtain ⟨a, h1, _, h3, _⟩ := h.1
      exact ⟨a, h1, h3⟩
    · exact ResK.owns h.2.2 w hw
  | [], [], _ :: _, h, _, _ => h.elim
  | [], _ :: _, _, h, _, _ => h.elim
  | .v :: _, [], _, h, _, _ => h.elim
  | .o :: _, [], _, h, _, _ => h.elim
  | .b :: _, [], _, h, _, _ => h.elim
  | .v :: _, _ :: _, [], h, _, _ => h.elim
  | .o :: _, _ :: _, [], h, _, _ => h.elim
  | .b :: _, _ :: _, _, h, _, _ => h.elim
def tMK (K : Frg) (W : Ow) (ks : List Kd) (m : M (List D)) : TA := fun σ H Q => ∃ B G e, Abs K W B G σ H e ∧ ∃ d e', m e = .ok (d, e') ∧ ∀ vs H' G', Same G G' → Abs K W B G' σ H' e' → ResK K W B G' σ H' e' ks vs d → Q vs H'
abbrev SK (X : Cx) (W : Ow) (ks : List Kd) (es : List Expr) (m : M (List D)) : Prop := PA X es (tMK X.K W ks m)
variable {es : List Expr} {ms : M (List D)} {ks : List Kd}
theorem sk_nil : SK X W [] [] mNil := pa_nil.imp fun σ H Q ⟨B, G, e, A, d, e', hm, q⟩ => by
  cases hm
  exact q [] H G (Same.refl _) A trivial
theorem sk_v (ha : SE X W .v a ma) (hr : SK X W ks es ms) (hs : starEach (a :: es) X.env = (false, eval a X.env) :: starEach es X.env := by rfl) : SK X W (.v :: ks) (a :: es) (mCons ma ms) := (pa_cons ha hr hs).imp fun σ H Q ⟨B, G, e, A, d, e', hm, q⟩ => by
  obtain ⟨x, e1, h1, h2⟩ := mBind_ok hm
  obtain ⟨xs, e2, h2, h3⟩ := mBind_ok h2
  cases h3
  refine ⟨B, G, e, A, x, e1, h1, fun v H1 G1 s1 A1 r1 => ⟨B, G1, e1, A1, xs, _, h2, fun vs H2 G2 s2 A2 r2 => ?_⟩⟩
  exact q (v :: vs) H2 G2 (s1.trans s2) A2 ⟨Rp.mono s2 r1, r2⟩
theorem sk_o (ha : SE X W .o a ma) (hr : SK X W ks es ms) (hs : starEach (a :: es) X.env = (false, eval a X.env) :: starEach es X.env := by rfl) : SK X W (.o :: ks) (a :: es) (mCons ma ms) := (pa_cons ha hr hs).imp fun σ H Q ⟨B, G, e, A, d, e', hm, q⟩ => by
  obtain ⟨x, e1, h1, h2⟩ := mBind_ok hm
  obtain ⟨xs, e2, h2, h3⟩ := mBind_ok h2
  cases h3
  refine ⟨B, G, e, A, x, e1, h1, fun v H1 G1 s1 A1 r1 => ⟨_, G1, e1, A1.re, xs, _, h2, fun vs H2 G2 s2 A2 r2 => ?_⟩⟩
  obtain ⟨r3, r4⟩ := Res.stay r1 A2
  refine q (v :: vs) H2 G2 (s1.trans s2) (A1.un A2) ⟨r3, fun hv => ?_, ResK.un A1 r2⟩
  obtain ⟨b, eb, h5⟩ := ResK.owns r2 v hv
  obtain ⟨h6, h7⟩ := r4 b eb
  rcases h5 with z | z
  · exact h6 z
  · exact h7 z
/-- slots set one after another -/
def setS : List Nat → List V → L2.St → L2.St
  | i :: is, v :: vs, σ => setS is vs (σ.set i (some v))
  | _, _, σ => σ
def kdOk (W : Ow) : List Nat → List Kd → Bool
  | [], [] => true
  | i :: is, .v :: ks => !W.ow i && !W.fx i && kdOk W is ks
  | i :: is, .o :: ks => W.ow i && !W.fx i && kdOk W is ks
  | _, _ => false
theorem Res.other {w : V} {dw : D} {i : Nat} (A : Abs K W B G σ H e) (r : Res K W B .o G σ H e v d) (n : v ≠ w) : Res K W B .o G (σ.set i (some w)) H (e.set i (some dw)) v d := by
  obtain ⟨a, rfl, h2, h3, h4⟩ := r
  refine ⟨a, rfl, h2, h3, fun j hj ⟨dj, hl⟩ => ?_⟩
  rcases get_set _ hl with ⟨rfl, h5, h6⟩ | ⟨h5, h6⟩
  · rw [List.getElem?_set_self (by rw [← A.len]; exact h6)]
    intro z
    cases z
    exact n rfl
  · rw [List.getElem?_set_ne (Ne.symm h5)]
    exact h4 j hj ⟨dj, h6⟩
theorem ResK.other {w : V} {dw : D} {i : Nat} (A : Abs K W B G σ H e) : ∀ {ks : List Kd} {vs : List V} {ds : List D}, ResK K W B G σ H e ks vs ds → w ∉ ownVs ks vs → ResK K W B G (σ.set i (some w)) H (e.set i (some dw)) ks vs ds
  | [], [], [], _, _ => trivial
  | .v :: ks, v :: vs, d :: ds, h, n => ⟨h.1, ResK.other A h.2 n⟩
  | .o :: ks, v :: vs, d :: ds, h, n => ⟨Res.other A h.1 (fun z => n (by rw [← z]; exact List.mem_cons_self)), h.2.1, ResK.other A h.2.2 fun z => n (List.mem_cons_of_mem _ z)⟩
  | [], [], _ :: _, h, _ => h.elim
  | [], _ :: _, _, h, _ => h.elim
  | .v :: _, [], _, h, _ => h.elim
  | .o :: _, [], _, h, _ => h.elim
  | .b :: _, [], _, h, _ => h.elim
  | .v :: _, _ :: _, [], h, _ => h.elim
  | .o :: _, _ :: _, [], h, _ => h.elim
  | .b :: _, _ :: _, _, h, _ => h.elim
theorem Res.otherV {w : V} {dw : D} {i : Nat} (hw : W.ow i = false) (r : Res K W B .o G σ H e v d) : Res K W B .o G (σ.set i (some w)) H (e.set i (some dw)) v d := by
  obtain ⟨a, rfl, h2, h3, h4⟩ := r
  refine ⟨a, rfl, h2, h3, fun j hj ⟨dj, hl⟩ => ?_⟩
  have n : j ≠ i := fun z => by rw [z, hw] at hj; cases hj
  rw [List.getElem?_set_ne (Ne.symm n)] at hl ⊢
  exact h4 j hj ⟨dj, hl⟩
theorem ResK.otherV {w : V} {dw : D} {i : Nat} (hw : W.ow i = false) : ∀ {ks : List Kd} {vs : List V} {ds : List D}, ResK K W B G σ H e ks vs ds → ResK K W B G (σ.set i (some w)) H (e.set i (some dw)) ks vs ds
  | [], [], [], _ => trivial
  | .v :: ks, v :: vs, d :: ds, h => ⟨h.1, ResK.otherV hw h.2⟩
  | .o :: ks, v :: vs, d :: ds, h => ⟨Res.otherV hw h.1, h.2.1, ResK.otherV hw h.2.2⟩
  | [], [], _ :: _, h => h.elim
  | [], _ :: _, _, h => h.elim
  | .v :: _, [], _, h => h.elim
  | .o :: _, [], _, h => h.elim
  | .b :: _, [], _, h => h.elim
  | .v :: _, _ :: _, [], h => h.elim
  | .o :: _, _ :: _, [], h => h.elim
  | .b :: _, _ :: _, _, h => h.elim
theorem set_all : ∀ {is : List Nat} {ks : List Kd} {vs : List V} {ds : List D} {σ : L2.St} {e e2 : Env}, kdOk W is ks = true → Abs K W B G σ H e → ResK K W B G σ H e ks vs ds → setAll is ds e = .ok e2 → Abs K W B G (setS is vs σ) H e2
  | [], [], [], [], σ, e, e2, _, A, _, h => by cases h; exact A
  | i :: is, .v :: ks, v :: vs, d :: ds, σ, e, e2, hk, A, r, h => by
    obtain ⟨h12, h3⟩ := Bool.and_eq_true_iff.mp (show (!W.ow i && !W.fx i && kdOk W is ks) = true from hk)
    obtain ⟨h1, h2⟩ := Bool.and_eq_true_iff.mp h12
    have hw : W.ow i = false := by simpa using h1
    have hx : W.fx i = false := by simpa using h2
    exact (show Abs K W B G (setS is vs (σ.set i (some v))) H e2 from set_all h3 (A.setV hw hx r.1) (ResK.otherV hw r.2) (show setAll is ds (e.set i (some d)) = .ok e2 from h))
  | i :: is, .o :: ks, v :: vs, d :: ds, σ, e, e2, hk, A, r, h => by
    obtain ⟨h12, h3⟩ := Bool.and_eq_true_iff.mp (show (W.ow i && !W.fx i && kdOk W is ks) = true from hk)
    obtain ⟨hw, h2⟩ := Bool.and_eq_true_iff.mp h12
    have hx : W.fx i = false := by simpa using h2
    exact (show Abs K W B G (setS is vs (σ.set i (some v))) H e2 from set_all h3 (A.setO hw hx r.1) (ResK.other A r.2.2 r.2.1) (show setAll is ds (e.set i (some d)) = .ok e2 from h))
  | [], [], [], _ :: _, _, _, _, _, _, r, _ => r.elim
  | [], [], _ :: _, _, _, _, _, _, _, r, _ => r.elim
  | [], _ :: _, _, _, _, _, _, hk, _, _, _ => nomatch hk
  | _ :: _, [], _, _, _, _, _, hk, _, _, _ => nomatch hk
  | _ :: _, .b :: _, _, _, _, _, _, hk, _, _, _ => nomatch hk
  | _ :: _, .v :: _, [], _, _, _, _, _, _, r, _ => r.elim
  | _ :: _, .o :: _, [], _, _, _, _, _, _, r, _ => r.elim
  | _ :: _, .v :: _, _ :: _, [], _, _, _, _, _, r, _ => r.elim
  | _ :: _, .o :: _, _ :: _, [], _, _, _, _, _, r, _ => r.elim
theorem ResK.len : ∀ {ks : List Kd} {vs : List V} {ds : List D}, ResK K W B G σ H e ks vs ds → vs.length = ks.length ∧ ds.length = ks.length
  | [], [], [], _ => ⟨rfl, rfl⟩
  | .v :: ks, v :: vs, d :: ds, h => by
    obtain ⟨h1, h2⟩ := ResK.len h.2
    exact ⟨by rw [List.length_cons, List.length_cons, h1], by rw [List.length_cons, List.length_cons, h2]⟩
  | .o :: ks, v :: vs, d :: ds, h => by
    obtain ⟨h1, h2⟩ := ResK.len h.2.2
    exact ⟨by rw [List.length_cons, List.length_cons, h1], by rw [List.length_cons, List.length_cons, h2]⟩
  | [], [], _ :: _, h => h.elim
  | [], _ :: _, _, h => h.elim
  | .v :: _, [], _, h => h.elim
  | .o :: _, [], _, h => h.elim
  | .b :: _, [], _, h => h.elim
  | .v :: _, _ :: _, [], h => h.elim
  | .o :: _, _ :: _, [], h => h.elim
  | .b :: _, _ :: _, _, h => h.elim
variable {κ : Kd}
/-- x, y = e1, e2: stored from the right -/
theorem ss_par2 {i j : Nat} {x y : Str} {k1 k2 : Kd} {px py pt : Pos} {kt kn : Nat} {pt2 : Pos} (hc : X.calm = true) (hN : X.N.Nodup) (hi : X.N[i]? = some x) (hj : X.N[j]? = some y) (hij : i ≠ j)
    (hx : X.env.scope.names.lookup x = some .local) (hy : X.env.scope.names.lookup y = some .local) (ha : SK X W [k1, k2] [a, b] ms) (hk : kdOk W [i, j] [k1, k2] = true)
    (hw : swappedStores [.Tuple [.Name x px, .Name y py] kt pt] (.Tuple [a, b] kn pt2) X.env = pure (some [x, y]) := by rfl)
    (hs : swapsWithSole [.Tuple [.Name x px, .Name y py] kt pt] (.Tuple [a, b] kn pt2) pos.line X.env = pure false := by rfl) :
    SS X W κ (.Assign [.Tuple [.Name x px, .Name y py] kt pt] (.Tuple [a, b] kn pt2) pos) (sPar [i, j] ms) := (ps_par hc hN hi hj hij hx hy ha hw hs).imp fun D σ H ⟨B, G, e, A, f, hf, p⟩ => by
  obtain ⟨q, h1, h2⟩ := Out.bind_eq_ok hf
  obtain ⟨e2, h3, h4⟩ := Out.bind_eq_ok h2
  cases h4
  refine ⟨B, G, e, A, q.1, q.2, h1, fun vs H' G' s A' r => ?_⟩
  match vs, r.len.1 with
  | [v, w], _ => exact ⟨v, w, rfl, p _ H' G' s (set_all hk A' r h3)⟩
theorem ss_par3 {i j l : Nat} {x y z : Str} {k1 k2 k3 : Kd} {px py pz pt : Pos} {kt kn : Nat} {pt2 : Pos} (hc : X.calm = true) (hN : X.N.Nodup) (hi : X.N[i]? = some x) (hj : X.N[j]? = some y) (hl : X.N[l]? = some z) (hij : i ≠ j) (hil : i ≠ l) (hjl : j ≠ l)
    (hx : X.env.scope.names.lookup x = some .local) (hy : X.env.scope.names.lookup y = some .local) (hz : X.env.scope.names.lookup z = some .local) (ha : SK X W [k1, k2, k3] [a, b, c] ms) (hk : kdOk W [i, j, l] [k1, k2, k3] = true)
    (hw : swappedStores [.Tuple [.Name x px, .Name y py, .Name z pz] kt pt] (.Tuple [a, b, c] kn pt2) X.env = pure (some [x, y, z]) := by rfl)
    (hs : swapsWithSole [.Tuple [.Name x px, .Name y py, .Name z pz] kt pt] (.Tuple [a, b, c] kn pt2) pos.line X.env = pure false := by rfl) :
    SS X W κ (.Assign [.Tuple [.Name x px, .Name y py, .Name z pz] kt pt] (.Tuple [a, b, c] kn pt2) pos) (sPar [i, j, l] ms) := (ps_par3 hc hN hi hj hl hij hil hjl hx hy hz ha hw hs).imp fun D σ H ⟨B, G, e, A, f, hf, p⟩ => by
  obtain ⟨q, h1, h2⟩ := Out.bind_eq_ok hf
  obtain ⟨e2, h3, h4⟩ := Out.bind_eq_ok h2
  cases h4
  refine ⟨B, G, e, A, q.1, q.2, h1, fun vs H' G' s A' r => ?_⟩
  match vs, r.len.1 with
  | [v, w, u], _ => exact ⟨v, w, u, rfl, p _ H' G' s (set_all hk A' r h3)⟩
/-- x, y, .. = e1, e2, ..: by a tuple -/
def gcs : List Nat → TGs
  | [] => gNil
  | i :: is => gCons (gName i) (gcs is)
theorem gcs_ok : ∀ {is : List Nat} {vs : List V} {σ : L2.St} {H : Hp} {Q : L2.St → Hp → Prop}, vs.length = is.length → Q (setS is vs σ) H → gcs is vs σ H Q
  | [], [], σ, H, Q, _, h => ⟨rfl, h⟩
  | i :: is, v :: vs, σ, H, Q, hl, h => ⟨v, vs, rfl, gcs_ok (by simpa using hl) h⟩
  | [], _ :: _, _, _, _, hl, _ => nomatch hl
  | _ :: _, [], _, _, _, hl, _ => nomatch hl
theorem ResK.ext (x : Ext G H G H') : ∀ {ks : List Kd} {vs : List V} {ds : List D}, ResK K W B G σ H e ks vs ds → ResK K W B G σ H' e ks vs ds
  | [], [], [], _ => trivial
  | .v :: ks, v :: vs, d :: ds, h => ⟨h.1, ResK.ext x h.2⟩
  | .o :: ks, v :: vs, d :: ds, h => ⟨let ⟨a, h1, h2, h3⟩ := h.1; ⟨a, h1, h2.ext x, h3⟩, h.2.1, ResK.ext x h.2.2⟩
  | [], [], _ :: _, h => h.elim
  | [], _ :: _, _, h => h.elim
  | .v :: _, [], _, h => h.elim
  | .o :: _, [], _, h => h.elim
  | .b :: _, [], _, h => h.elim
  | .v :: _, _ :: _, [], h => h.elim
  | .o :: _, _ :: _, [], h => h.elim
  | .b :: _, _ :: _, _, h => h.elim
theorem ss_parT {is : List Nat} {tgs : List Expr} {kt kn : Nat} {pt pt2 : Pos} (hc : X.calm = true) (ha : SK X W ks es ms) (hg : PGs X tgs (gcs is)) (hk : kdOk W is ks = true) (hle : Nat.ble ks.length 16777216 = true) (hn : (assignEach tgs X.env).length = ks.length := by rfl) (hli : ks.length = is.length := by rfl) (hst : (assignEach tgs X.env).findIdx? (·.1) = none := by rfl)
    (hs : swapsWithSole [.Tuple tgs kt pt] (.Tuple es kn pt2) pos.line X.env = pure false := by rfl) (hw : swappedStores [.Tuple tgs kt pt] (.Tuple es kn pt2) X.env = pure none := by rfl)
    (h1 : (assignEach [.Tuple tgs kt pt] X.env).map (·.2) = [assign (.Tuple tgs kt pt) X.env] := by rfl) :
    SS X W κ (.Assign [.Tuple tgs kt pt] (.Tuple es kn pt2) pos) (sPar is ms) := (ps_asg (pe_tup ha) (pg_tup hc hg hn hst) hs hw h1).imp fun D σ H ⟨B, G, e, A, f, hf, p⟩ => by
  obtain ⟨q, h1, h2⟩ := Out.bind_eq_ok hf
  obtain ⟨e2, h3, h4⟩ := Out.bind_eq_ok h2
  cases h4
  refine ⟨B, G, e, A, q.1, q.2, h1, fun vs H' G' s A' r => ⟨by rw [r.len.1, sizeLine_eq]; exact Nat.le_of_ble_eq_true hle, fun p' np => ?_⟩⟩
  have x : Ext G' H' G' (upd H' p' (.tup vs)) := ⟨Same.refl _, same_upd np, fun _ _ h => .inl h⟩
  refine ⟨p', vs, rfl, SqT.of upd_same, r.len.1, gcs_ok (by rw [r.len.1, hli]) ?_⟩
  exact p _ _ G' s (set_all hk (A'.ext x) (ResK.ext x r) h3)

/-! ### what changes an object of one's own -/
theorem dApp_ok {x y z : D} (h : dApp x y = .ok z) : ∃ es, x = .list es ∧ es.length < sizeLine ∧ z = .list (es ++ [y]) := by
  cases x with
  | list es =>
    have h : (if es.length < lineN then Out.ok (PyData.list (es ++ [y])) else .no) = .ok z := h
    by_cases q : es.length < lineN
    · rw [if_pos q] at h
      cases h
      exact ⟨es, rfl, by rw [← lineN_eq]; exact q, rfl⟩
    · rw [if_neg q] at h; cases h
  | _ => cases h
theorem ss_app {i : Nat} {x : Str} {p apos cpos : Pos} (hw : W.ow i = true) (hv : PE X (.Name x p) (tVar i)) (ha : SE X W .v a ma) (hbase : attributeBase (.Name x p) "append" X.env (eval (.Name x p) X.env) = eval (.Name x p) X.env := by rfl)
    (hfew : ((backTo cpos (starEach [a] X.env)).all (fun x => !x.1) && (backToKw cpos (keywordEach [] X.env)).all (fun x => x.1.isSome)
      && decide ([a].length + ([] : List Keyword).length + (if ([] : List Keyword).isEmpty then 0 else 1) < 30)) = true := by rfl)
    (hline : (apos.endLine == cpos.line) = true := by rfl) (hs : starEach [a] X.env = (false, eval a X.env) :: starEach [] X.env := by rfl) (hsw : swapsWith (.Call (.Attribute (.Name x p) "append" apos) [a] [] cpos) none pos.line X.env = pure false := by rfl) :
    SS X W κ (.Expr (.Call (.Attribute (.Name x p) "append" apos) [a] [] cpos) pos) (mutL dApp i ma) :=
  (ps_expr (pe_bm PySem.F.plainAttrs_list PySem.F.slot_list_append PySem.F.type_list_append (show MtR X _ _ from mt_append) hv (pa_cons ha pa_nil hs) hbase hfew hline hs) hsw).imp fun D σ H ⟨B, G, e, A, f, hf, p⟩ => by
    obtain ⟨d0, h0, hf⟩ := Out.bind_eq_ok hf
    obtain ⟨q, h1, hf⟩ := Out.bind_eq_ok hf
    obtain ⟨d1, h2, hf⟩ := Out.bind_eq_ok hf
    obtain ⟨d2, h3, hf⟩ := Out.bind_eq_ok hf
    cases hf
    obtain ⟨a0, h4, ⟨_, xs0, es0, h5, _⟩, _⟩ := A.own i _ hw (getV_ok h0)
    refine ⟨_, h4, .inl ⟨rfl, xs0, SqL.of h5⟩, B, G, e, A, q.1, q.2, h1, fun v H' G' s A' r => ?_⟩
    obtain ⟨es, rfl, hlt, rfl⟩ := dApp_ok h3
    obtain ⟨a1, h6, ⟨n, xs, es', h7, h8, h9⟩, _⟩ := A'.own i _ hw (getV_ok h2)
    cases h9
    rw [h4] at h6
    cases h6
    refine ⟨a0, xs, v, rfl, rfl, h7, by rw [h8.length]; exact hlt, ?_⟩
    exact p _ _ G' s (A'.mut hw (getV_ok h2) h4 (h8.append (.cons r .nil)))
theorem ixN_same (n : Nat) (i : Int) : PD.ixN n i = L2.ixN n i := rfl
theorem dPut_ok {x y k z : D} (h : dPut x k y = .ok z) : ∃ es i j, x = .list es ∧ k = .int i ∧ L2.ixN es.length i = some j ∧ z = .list (es.set j y) := by
  cases x with
  | list es =>
    cases k with
    | int i =>
      obtain ⟨j, h1, h2⟩ := Out.bind_eq_ok (show (oOf (PD.ixN es.length i)).bind _ = _ from h)
      cases h2
      refine ⟨es, i, j, rfl, rfl, ?_, rfl⟩
      rw [← ixN_same]
      cases q : PD.ixN es.length i with
      | none => rw [q] at h1; cases h1
      | some j' => rw [q] at h1; cases h1; rfl
    | _ => cases h
  | _ => cases h
/-- x[k] = e -/
theorem ss_put {i : Nat} {x : Str} {p spos : Pos} (hw : W.ow i = true) (hv : PE X (.Name x p) (tVar i)) (ha : SE X W .v a ma) (hb : SE X W .v b mb)
    (hs : swapsWithSole [.Subscript (.Name x p) b spos] a pos.line X.env = pure false := by rfl) (hsw : swappedStores [.Subscript (.Name x p) b spos] a X.env = pure none := by rfl)
    (h1 : (assignEach [.Subscript (.Name x p) b spos] X.env).map (·.2) = [assign (.Subscript (.Name x p) b spos) X.env] := by rfl)
    (hsub : ∀ v, assign (.Subscript (.Name x p) b spos) X.env v = (do
      let ov ← holding [v] (eval (.Name x p) X.env)
      let iv ← holding [v, ov] (eval b X.env)
      standAt spos
      holding [v, ov, iv] (setItem ov iv v)
      release [v, ov, iv] []) := by intro _; rfl) :
    SS X W κ (.Assign [.Subscript (.Name x p) b spos] a pos) (mutI dPut i ma mb) :=
  (ps_asg ha (pg_sub hv hb set_list hsub) hs hsw h1).imp fun D σ H ⟨B, G, e, A, f, hf, p⟩ => by
    obtain ⟨q, h2, hf⟩ := Out.bind_eq_ok hf
    obtain ⟨d0, h3, hf⟩ := Out.bind_eq_ok hf
    obtain ⟨k, h4, hf⟩ := Out.bind_eq_ok hf
    obtain ⟨d1, h5, hf⟩ := Out.bind_eq_ok hf
    obtain ⟨d2, h6, hf⟩ := Out.bind_eq_ok hf
    cases hf
    refine ⟨B, G, e, A, q.1, q.2, h2, fun v H' G' s A' r => ?_⟩
    obtain ⟨a0, h7, _⟩ := A'.own i _ hw (getV_ok h3)
    refine ⟨_, h7, B, G', q.2, A', k.1, k.2, h4, fun u H2 G2 s2 A2 r2 => ?_⟩
    obtain ⟨es, z, j, rfl, hk, h8, rfl⟩ := dPut_ok h6
    obtain ⟨a1, h9, ⟨n, xs, es', h10, h11, h12⟩, _⟩ := A2.own i _ hw (getV_ok h5)
    cases h12
    rw [h7] at h9
    cases h9
    rw [hk] at r2
    cases (show Rp X.K G2 u (.int z) from r2)
    refine ⟨a0, xs, z, j, rfl, rfl, h10, by rw [h11.length]; exact h8, ?_⟩
    exact p _ _ G2 (s.trans s2) (A2.mut hw (getV_ok h5) h7 (RpL.set (Rp.mono s2 r) j h11))
end
end PD

set_option autoImplicit false
set_option linter.all false
set_option maxRecDepth 100000
set_option maxHeartbeats 4000000
/-! PdF: calls of defs, defs by their bodies. -/
namespace PD
open PySem PySem.Spec PyProof.Rows L2

/-! ### what is handed over -/
def Ar.isO : Ar → Bool
  | .v _ => false
  | .o _ => true
def slotsA : List Ar → List Nat
  | .o i :: r => i :: slotsA r
  | .v _ :: r => slotsA r
  | [] => []
def addrOf : V → List Addr
  | .ref a => [a]
  | _ => []
def ownA : List Bool → List V → List Addr
  | true :: r, v :: vs => addrOf v ++ ownA r vs
  | false :: r, _ :: vs => ownA r vs
  | _, _ => []
def liveA : List Bool → List V → List (Option D) → List Addr
  | true :: r, v :: vs, some _ :: os => addrOf v ++ liveA r vs os
  | true :: r, _ :: vs, none :: os => liveA r vs os
  | false :: r, _ :: vs, os => liveA r vs os
  | _, _, _ => []
def Pass (K : Frg) (H G : Hp) : List Bool → List V → List D → Prop
  | [], [], [] => True
  | false :: r, v :: vs, d :: ds => Rp K G v d ∧ Pass K H G r vs ds
  | true :: r, v :: vs, d :: ds => (∃ a, v = .ref a ∧ OwnAt K H G a d) ∧ Pass K H G r vs ds
  | _, _, _ => False
def Back (K : Frg) (H G : Hp) : List Bool → List V → List (Option D) → Prop
  | [], [], _ => True
  | false :: r, _ :: vs, os => Back K H G r vs os
  | true :: r, v :: vs, o :: os => (∀ d, o = some d → ∃ a, v = .ref a ∧ OwnAt K H G a d) ∧ Back K H G r vs os
  | _, _, _ => False
/-- what a call hands back -/
structure Ret (K : Frg) (κ : Kd) (io : List Bool) (vs : List V) (G H G' H' : Hp) (outs : List (Option D)) (v : V) (r : D) : Prop where
  g : Same G G'
  s : Sub G' H'
  k : ∀ a o, H a = some o → a ∉ ownA io vs → H' a = some o
  n : ∀ a, G' a ≠ none → G a ≠ none ∨ H a = none ∨ a ∈ ownA io vs
  b : Back K H' G' io vs outs
  r : match κ with
    | .o => ∃ a, v = .ref a ∧ OwnAt K H' G' a r ∧ (a ∈ ownA io vs ∨ H a = none) ∧ a ∉ liveA io vs outs
    | _ => Rp K G' v r
/-- a def's promise, by a program over data -/
def spD (K : Frg) (κ : Kd) (io : List Bool) (f : Fn) : Sp := fun vs H Q _ => vs.length = io.length ∧ ∃ G ds r outs, Sub G H ∧ Pass K H G io vs ds ∧ (ownA io vs).Nodup ∧ f ds = .ok (r, outs) ∧ ∀ v H' G', Ret K κ io vs G H G' H' outs v r → Q v H'

section
variable {X : Cx} {W : Ow} {K : Frg} {B : Bs} {G G' H H' : Hp} {σ σ' : L2.St} {e e' : Env} {v : V} {d : D} {κ : Kd}
variable {a b c : Expr} {ma mb mc : M D} {pos : Pos}
inductive ArR (K : Frg) (G : Hp) (σ : L2.St) : List Ar → List (Option D) → List V → Prop
  | nil : ArR K G σ [] [] []
  | v {m : M D} {d : D} {v : V} {r : List Ar} {xs : List (Option D)} {vs : List V} : Rp K G v d → ArR K G σ r xs vs → ArR K G σ (.v m :: r) (some d :: xs) (v :: vs)
  | o {i : Nat} {v : V} {r : List Ar} {xs : List (Option D)} {vs : List V} : σ[i]? = some (some v) → ArR K G σ r xs vs → ArR K G σ (.o i :: r) (none :: xs) (v :: vs)
def tAr (K : Frg) (W : Ow) (as : List Ar) : TA := fun σ H Q => ∃ B G e, Abs K W B G σ H e ∧ ∃ xs e', evA as e = .ok (xs, e') ∧ ∀ vs H' G', Same G G' → Abs K W B G' σ H' e' → ArR K G' σ as xs vs → Q vs H'
abbrev SA (X : Cx) (W : Ow) (es : List Expr) (as : List Ar) : Prop := PA X es (tAr X.K W as)
variable {es : List Expr} {as : List Ar}
theorem sa_nil : SA X W [] [] := pa_nil.imp fun σ H Q ⟨B, G, e, A, xs, e', hm, q⟩ => by
  cases hm
  exact q [] H G (Same.refl _) A .nil
theorem sa_v (ha : SE X W .v a ma) (hr : SA X W es as) (hs : starEach (a :: es) X.env = (false, eval a X.env) :: starEach es X.env := by rfl) : SA X W (a :: es) (.v ma :: as) := (pa_cons ha hr hs).imp fun σ H Q ⟨B, G, e, A, xs, e', hm, q⟩ => by
  obtain ⟨x, e1, h1, h2⟩ := mBind_ok hm
  obtain ⟨ys, e2, h2, h3⟩ := mBind_ok h2
  cases h3
  exact ⟨B, G, e, A, x, e1, h1, fun v H1 G1 s1 A1 r1 => ⟨B, G1, e1, A1, ys, _, h2, fun vs H2 G2 s2 A2 r2 => q (v :: vs) H2 G2 (s1.trans s2) A2 (.v (Rp.mono s2 r1) r2)⟩⟩
theorem sa_o {i : Nat} {x : Str} {p : Pos} (hw : W.ow i = true) (hv : PE X (.Name x p) (tVar i)) (hr : SA X W es as) (hs : starEach (.Name x p :: es) X.env = (false, eval (.Name x p) X.env) :: starEach es X.env := by rfl) : SA X W (.Name x p :: es) (.o i :: as) :=
  (pa_cons hv hr hs).imp fun σ H Q ⟨B, G, e, A, xs, e', hm, q⟩ => by
    obtain ⟨x, e1, h1, h2⟩ := mBind_ok hm
    obtain ⟨d0, h3, h4⟩ := Out.bind_eq_ok h1
    cases h4
    obtain ⟨ys, e2, h2, h3'⟩ := mBind_ok h2
    cases h3'
    obtain ⟨a, h5, _⟩ := A.own i _ hw (getV_ok h3)
    exact ⟨_, h5, B, G, _, A, ys, _, h2, fun vs H2 G2 s2 A2 r2 => q (_ :: vs) H2 G2 s2 A2 (.o h5 r2)⟩

theorem fill_pass {as : List Ar} {xs : List (Option D)} {vs : List V} (ar : ArR K G σ as xs vs) (A : Abs K W B G σ H e) : ∀ {ds : List D}, (∀ i ∈ slotsA as, W.ow i = true) → fillA as xs e = .ok ds → Pass K H G (as.map Ar.isO) vs ds := by
  induction ar with
  | nil => intro ds hw h; cases h; exact trivial
  | v r rr ih =>
    intro ds hw h
    obtain ⟨ds, h1, h2⟩ := Out.bind_eq_ok h
    cases h2
    exact ⟨r, ih hw h1⟩
  | @o i v r xs vs hs rr ih =>
    intro ds hw h
    obtain ⟨x, h0, h⟩ := Out.bind_eq_ok h
    obtain ⟨ds, h1, h2⟩ := Out.bind_eq_ok h
    cases h2
    obtain ⟨a, h3, h4, _⟩ := A.own i _ (hw i List.mem_cons_self) (getV_ok h0)
    rw [hs] at h3
    cases h3
    exact ⟨⟨a, rfl, h4⟩, ih (fun j hj => hw j (List.mem_cons_of_mem _ hj)) h1⟩
/-- the addresses handed over are those of the owned names -/
theorem own_slots {as : List Ar} {xs : List (Option D)} {vs : List V} {b : Addr} (ar : ArR K G σ as xs vs) : ∀ {ds : List D}, fillA as xs e = .ok ds → b ∈ ownA (as.map Ar.isO) vs → ∃ i ∈ slotsA as, Live e i ∧ σ[i]? = some (some (.ref b)) := by
  induction ar with
  | nil => intro ds _ hb; exact absurd hb (by simp [ownA])
  | v r rr ih =>
    intro ds h hb
    obtain ⟨ds, h1, h2⟩ := Out.bind_eq_ok h
    exact ih h1 hb
  | @o i v r xs vs hs rr ih =>
    intro ds h hb
    obtain ⟨x, h0, h⟩ := Out.bind_eq_ok h
    obtain ⟨ds, h1, h2⟩ := Out.bind_eq_ok h
    rcases List.mem_append.mp hb with z | z
    · cases v with
      | ref a =>
        have e : b = a := by simpa [addrOf] using z
        subst e
        exact ⟨i, List.mem_cons_self, ⟨x, getV_ok h0⟩, hs⟩
      | _ => simp [addrOf] at z
    · obtain ⟨j, h3, h4⟩ := ih h1 z
      exact ⟨j, List.mem_cons_of_mem _ h3, h4⟩
theorem own_nodup {as : List Ar} {xs : List (Option D)} {vs : List V} (ar : ArR K G σ as xs vs) (A : Abs K W B G σ H e) : ∀ {ds : List D}, (∀ i ∈ slotsA as, W.ow i = true) → (slotsA as).Nodup → fillA as xs e = .ok ds → (ownA (as.map Ar.isO) vs).Nodup := by
  induction ar with
  | nil => intro ds hw hn h; simp [ownA]
  | v r rr ih =>
    intro ds hw hn h
    obtain ⟨ds, h1, h2⟩ := Out.bind_eq_ok h
    exact ih hw hn h1
  | @o i v r xs vs hs rr ih =>
    intro ds hw hn h
    obtain ⟨x, h0, h⟩ := Out.bind_eq_ok h
    obtain ⟨ds, h1, h2⟩ := Out.bind_eq_ok h
    obtain ⟨n1, n2⟩ := List.nodup_cons.mp hn
    have ih := ih (fun j hj => hw j (List.mem_cons_of_mem _ hj)) n2 h1
    obtain ⟨a, h3, _⟩ := A.own i _ (hw i List.mem_cons_self) (getV_ok h0)
    rw [hs] at h3
    cases h3
    refine List.nodup_cons.mpr ⟨fun z => ?_, ih⟩
    obtain ⟨j, h4, h5, h6⟩ := own_slots rr h1 z
    have nij : i ≠ j := fun q => n1 (by rw [q]; exact h4)
    exact A.dist i j a nij (hw i List.mem_cons_self) (hw j (List.mem_cons_of_mem _ h4)) ⟨x, getV_ok h0⟩ h5 hs h6
theorem put_out : ∀ {as : List Ar} {outs : List (Option D)} {e : Env} {j : Nat}, j ∉ slotsA as → (putA as outs e)[j]? = e[j]?
  | [], _, _, _, _ => rfl
  | .v _ :: r, outs, e, j, h => put_out (as := r) h
  | .o i :: r, [], e, j, h => rfl
  | .o i :: r, x :: outs, e, j, h => by
    have h1 : j ≠ i := fun z => h (by rw [z]; exact List.mem_cons_self)
    have h2 : j ∉ slotsA r := fun z => h (List.mem_cons_of_mem _ z)
    show (putA r outs (e.set i x))[j]? = _
    rw [put_out h2, List.getElem?_set_ne (Ne.symm h1)]
theorem put_len : ∀ {as : List Ar} {outs : List (Option D)} {e : Env}, (putA as outs e).length = e.length
  | [], _, _ => rfl
  | .v _ :: r, outs, e => put_len (as := r)
  | .o i :: r, [], e => rfl
  | .o i :: r, x :: outs, e => by
    show (putA r outs (e.set i x)).length = _
    rw [put_len, List.length_set]
/-- an owned name behind the call -/
theorem put_in {as : List Ar} {xs : List (Option D)} {vs : List V} {j : Nat} {d : D} (ar : ArR K G σ as xs vs) : ∀ {outs : List (Option D)} {e : Env}, (slotsA as).Nodup → Back K H' G' (as.map Ar.isO) vs outs → j ∈ slotsA as → (putA as outs e)[j]? = some (some d) →
    ∃ a, σ[j]? = some (some (.ref a)) ∧ OwnAt K H' G' a d ∧ a ∈ liveA (as.map Ar.isO) vs outs := by
  induction ar with
  | nil => intro outs e hn hb hj h; exact absurd hj (by simp [slotsA])
  | v r rr ih => intro outs e hn hb hj h; exact ih hn hb hj h
  | @o i v r xs vs hs rr ih =>
    intro outs e hn hb hj h
    cases outs with
    | nil => exact hb.elim
    | cons x outs =>
      obtain ⟨n1, n2⟩ := List.nodup_cons.mp hn
      have h : (putA r outs (e.set i x))[j]? = some (some d) := h
      by_cases q : j = i
      · subst q
        rw [put_out n1] at h
        rcases get_set _ h with ⟨_, z, _⟩ | ⟨z, _⟩
        · obtain ⟨a, rfl, h2⟩ := hb.1 d z.symm
          subst z
          exact ⟨a, hs, h2, List.mem_append_left _ (by simp [addrOf])⟩
        · exact absurd rfl z
      · have hj2 : j ∈ slotsA r := (List.mem_cons.mp hj).resolve_left q
        obtain ⟨a, h3, h4, h5⟩ := ih n2 hb.2 hj2 h
        refine ⟨a, h3, h4, ?_⟩
        cases x with
        | none => exact h5
        | some y => exact List.mem_append_right _ h5
/-- the state behind a call -/
theorem call_abs {as : List Ar} {xs : List (Option D)} {vs : List V} {ds : List D} {outs : List (Option D)} {r : D} (hw : ∀ i ∈ slotsA as, W.ow i = true) (hn : (slotsA as).Nodup) (A : Abs K W B G σ H e) (ar : ArR K G σ as xs vs) (hf : fillA as xs e = .ok ds)
    (rt : Ret K κ (as.map Ar.isO) vs G H G' H' outs v r) : Abs K W B G' σ H' (putA as outs e) := by
  have mine : ∀ b, b ∈ ownA (as.map Ar.isO) vs → B.O b ∨ B.H b = none := fun b hb => by
    obtain ⟨i, h1, ⟨d, h2⟩, h3⟩ := own_slots ar hf hb
    obtain ⟨a, h4, _, h5⟩ := A.own i d (hw i h1) h2
    rw [h3] at h4; cases h4
    exact h5
  have liv : ∀ j, Live (putA as outs e) j → Live e j ∨ j ∈ slotsA as := fun j ⟨d, h⟩ => by
    by_cases q : j ∈ slotsA as
    · exact .inr q
    · rw [put_out q] at h
      exact .inl ⟨d, h⟩
  have live_slot : ∀ {as : List Ar} {xs : List (Option D)} {vs : List V} {ds : List D} {j : Nat}, ArR K G σ as xs vs → fillA as xs e = .ok ds → j ∈ slotsA as → Live e j := by
    intro as xs vs ds j ar
    induction ar generalizing ds with
    | nil => intro _ hj; exact absurd hj (by simp [slotsA])
    | v r rr ih =>
      intro h hj
      obtain ⟨ds, h1, h2⟩ := Out.bind_eq_ok h
      exact ih h1 hj
    | o hs rr ih =>
      intro h hj
      obtain ⟨x, h0, h⟩ := Out.bind_eq_ok h
      obtain ⟨ds, h1, h2⟩ := Out.bind_eq_ok h
      rcases List.mem_cons.mp hj with rfl | hj
      · exact ⟨x, getV_ok h0⟩
      · exact ih h1 hj
  have liv' : ∀ j, Live (putA as outs e) j → Live e j := fun j h => (liv j h).elim id fun z => live_slot ar hf z
  refine ⟨by rw [put_len]; exact A.len, A.ln, rt.s, A.g0.trans rt.g, fun b o h1 h2 => ?_, fun b h1 => ?_, fun j d h1 h2 => ?_, fun j d h1 h2 => ?_, fun j k c n h1 h2 h3 h4 => A.dist j k c n h1 h2 (liv' j h3) (liv' k h4), A.fix⟩
  · refine rt.k b o (A.keep b o h1 h2) fun z => ?_
    rcases mine b z with q | q
    · exact h2 q
    · rw [h1] at q; cases q
  · rcases rt.n b h1 with z | z | z
    · exact A.new b z
    · by_cases hO : B.O b
      · exact .inr (.inr hO)
      · refine .inr (.inl ?_)
        cases q : B.H b with
        | none => rfl
        | some o =>
          have := A.keep b o q hO
          rw [z] at this; cases this
    · exact .inr (mine b z).symm
  · have hj : j ∉ slotsA as := fun z => by
      rw [hw j z] at h1; cases h1
    rw [put_out hj] at h2
    obtain ⟨w, h3, h4⟩ := A.val j d h1 h2
    exact ⟨w, h3, h4.mono rt.g⟩
  · by_cases hj : j ∈ slotsA as
    · obtain ⟨a, h3, h4, _⟩ := put_in ar hn rt.b hj h2
      refine ⟨a, h3, h4, ?_⟩
      obtain ⟨dj, hl⟩ := live_slot ar hf hj
      obtain ⟨a', h5, _, h6⟩ := A.own j dj h1 hl
      rw [h3] at h5; cases h5
      exact h6
    · rw [put_out hj] at h2
      obtain ⟨a, h3, ⟨n1, xs', es', h4, h5, h6⟩, h7⟩ := A.own j d h1 h2
      have hno : a ∉ ownA (as.map Ar.isO) vs := fun z => by
        obtain ⟨i, z1, z2, z3⟩ := own_slots ar hf z
        have nij : j ≠ i := fun q => hj (by rw [q]; exact z1)
        exact A.dist j i a nij h1 (hw i z1) ⟨d, h2⟩ z2 h3 z3
      refine ⟨a, h3, ⟨?_, xs', es', rt.k a _ h4 hno, h5.mono rt.g, h6⟩, h7⟩
      cases q : G' a with
      | none => rfl
      | some o =>
        rcases rt.n a (by rw [q]; simp) with z | z | z
        · exact absurd n1 z
        · rw [h4] at z; cases z
        · exact absurd z hno
theorem se_call {CX : CXT} {k : Nat} {f : Addr} {fd : FuncData} {ps : List Str} {fn : Fn} {E : XK} {x : Str} {p : Pos} (F : FnOk X.prog X.w X.K X.mg X.base CX k f fd ps (spD X.K κ ((as.map Ar.isO)) fn)) (hb : κ ≠ .b) (hr : Room k X.A) (hg : Gl X x) (hm : X.mg x = some (.ref f)) (hk : PySem.W.keepIn X.K (.ref f) = true) (hbi : Binds X.K fd ps []) (hx : Passes CX X E)
    (ha : SA X W (a :: es) as) (hw : ∀ i ∈ slotsA as, W.ow i = true) (hn : (slotsA as).Nodup) (hdb : (x == ("__debug__" : Str)) = false := by decide) (he : starEach (a :: es) X.env = (false, eval a X.env) :: starEach es X.env := by rfl) (hpl : (backTo pos (starEach es X.env)).any (·.1) = false := by rfl) :
    SE X W κ (.Call (.Name x p) (a :: es) [] pos) (mCall fn as) := (pe_call F hr hg hm hk hbi .nil hx ha hdb he hpl).imp fun σ H Q ⟨B, G, e, A, d, e', h, q⟩ => by
  obtain ⟨p1, h1, h⟩ := Out.bind_eq_ok h
  obtain ⟨ds, h2, h⟩ := Out.bind_eq_ok h
  obtain ⟨p2, h3, h⟩ := Out.bind_eq_ok h
  cases h
  refine ⟨B, G, e, A, p1.1, p1.2, h1, fun vs H1 G1 s1 A1 ar => ?_⟩
  have hps := fill_pass ar A1 hw h2
  have hlen : (vs ++ []).length = (as.map Ar.isO).length := by
    rw [List.append_nil]
    have key : ∀ {as : List Ar} {xs : List (Option D)} {vs : List V}, ArR X.K G1 σ as xs vs → vs.length = (as.map Ar.isO).length := by
      intro as xs vs ar
      induction ar with
      | nil => rfl
      | v _ _ ih => simpa using ih
      | o _ _ ih => simpa using ih
    exact key ar
  refine ⟨hlen, G1, ds, p2.1, p2.2, A1.sub, by rw [List.append_nil]; exact hps, by rw [List.append_nil]; exact own_nodup ar A1 hw hn h2, h3, fun v H' G' rt => ?_⟩
  rw [List.append_nil] at rt
  refine q v H' G' (s1.trans rt.g) (call_abs hw hn A1 ar h2 rt) ?_
  cases κ with
  | v => exact rt.r
  | b => exact absurd rfl hb
  | o =>
    obtain ⟨a1, ea, ho, hc, hl⟩ := rt.r
    refine ⟨a1, ea, ho, ?_, fun i hi ⟨di, hli⟩ z => ?_⟩
    · rcases hc with z | z
      · obtain ⟨i, z1, ⟨di, z2⟩, z3⟩ := own_slots ar h2 z
        obtain ⟨a', h4, _, h5⟩ := A1.own i di (hw i z1) z2
        rw [z3] at h4; cases h4
        exact h5
      · by_cases hO : B.O a1
        · exact .inl hO
        · refine .inr ?_
          cases qq : B.H a1 with
          | none => rfl
          | some o =>
            have := A1.keep a1 o qq hO
            rw [z] at this; cases this
    · by_cases hj : i ∈ slotsA as
      · obtain ⟨a2, h4, _, h5⟩ := put_in ar hn rt.b hj hli
        rw [z] at h4; cases h4
        exact hl h5
      · rw [put_out hj] at hli
        obtain ⟨a2, h4, ⟨_, ys, es', h5, _⟩, _⟩ := A1.own i di hi hli
        rw [z] at h4; cases h4
        rcases hc with w | w
        · obtain ⟨j, z1, z2, z3⟩ := own_slots ar h2 w
          have nij : i ≠ j := fun qq => hj (by rw [qq]; exact z1)
          exact A1.dist i j a1 nij hi (hw j z1) ⟨di, hli⟩ z2 z z3
        · rw [w] at h5; cases h5

/-! ### a def by its body -/
theorem pass_len : ∀ {io : List Bool} {vs : List V} {ds : List D}, Pass K H G io vs ds → vs.length = io.length ∧ ds.length = io.length
  | [], [], [], _ => ⟨rfl, rfl⟩
  | false :: r, v :: vs, d :: ds, h => by
    obtain ⟨h1, h2⟩ := pass_len h.2
    exact ⟨by rw [List.length_cons, List.length_cons, h1], by rw [List.length_cons, List.length_cons, h2]⟩
  | true :: r, v :: vs, d :: ds, h => by
    obtain ⟨h1, h2⟩ := pass_len h.2
    exact ⟨by rw [List.length_cons, List.length_cons, h1], by rw [List.length_cons, List.length_cons, h2]⟩
  | [], [], _ :: _, h => h.elim
  | [], _ :: _, _, h => h.elim
  | false :: _, [], _, h => h.elim
  | true :: _, [], _, h => h.elim
  | false :: _, _ :: _, [], h => h.elim
  | true :: _, _ :: _, [], h => h.elim
theorem pass_at : ∀ {io : List Bool} {vs : List V} {ds : List D} {i : Nat} {d : D}, Pass K H G io vs ds → ds[i]? = some d → (io[i]? = some false ∧ ∃ v, vs[i]? = some v ∧ Rp K G v d) ∨ (io[i]? = some true ∧ ∃ a, vs[i]? = some (.ref a) ∧ OwnAt K H G a d ∧ a ∈ ownA io vs)
  | [], [], [], i, d, _, e => by simp at e
  | false :: r, v :: vs, x :: ds, 0, d, h, e => by simp at e; subst e; exact .inl ⟨rfl, v, rfl, h.1⟩
  | true :: r, v :: vs, x :: ds, 0, d, h, e => by
    simp at e; subst e
    obtain ⟨a, rfl, h1⟩ := h.1
    exact .inr ⟨rfl, a, rfl, h1, List.mem_append_left _ (by simp [addrOf])⟩
  | false :: r, v :: vs, x :: ds, i + 1, d, h, e => by
    rcases pass_at (i := i) h.2 (by simpa using e) with ⟨h1, w, h2, h3⟩ | ⟨h1, a, h2, h3, h4⟩
    · exact .inl ⟨by simpa using h1, w, by simpa using h2, h3⟩
    · exact .inr ⟨by simpa using h1, a, by simpa using h2, h3, h4⟩
  | true :: r, v :: vs, x :: ds, i + 1, d, h, e => by
    rcases pass_at (i := i) h.2 (by simpa using e) with ⟨h1, w, h2, h3⟩ | ⟨h1, a, h2, h3, h4⟩
    · exact .inl ⟨by simpa using h1, w, by simpa using h2, h3⟩
    · exact .inr ⟨by simpa using h1, a, by simpa using h2, h3, List.mem_append_right _ h4⟩
  | [], [], _ :: _, _, _, h, _ => h.elim
  | [], _ :: _, _, _, _, h, _ => h.elim
  | false :: _, [], _, _, _, h, _ => h.elim
  | true :: _, [], _, _, _, h, _ => h.elim
  | false :: _, _ :: _, [], _, _, h, _ => h.elim
  | true :: _, _ :: _, [], _, _, h, _ => h.elim
theorem own_at : ∀ {io : List Bool} {vs : List V} {i : Nat} {a : Addr}, io[i]? = some true → vs[i]? = some (.ref a) → a ∈ ownA io vs
  | true :: r, v :: vs, 0, a, h1, h2 => by
    simp at h2; subst h2
    exact List.mem_append_left _ (by simp [addrOf])
  | false :: r, v :: vs, 0, a, h1, _ => by simp at h1
  | true :: r, v :: vs, i + 1, a, h1, h2 => List.mem_append_right _ (own_at (i := i) (by simpa using h1) (by simpa using h2))
  | false :: r, v :: vs, i + 1, a, h1, h2 => own_at (io := r) (i := i) (by simpa using h1) (by simpa using h2)
  | [], _, _, _, h1, _ => by simp at h1
  | _ :: _, [], _, _, _, h2 => by simp at h2
/-- two owned parameters are two objects -/
theorem own_two : ∀ {io : List Bool} {vs : List V} {i j : Nat} {a : Addr}, (ownA io vs).Nodup → i ≠ j → io[i]? = some true → io[j]? = some true → vs[i]? = some (.ref a) → vs[j]? ≠ some (.ref a)
  | [], _, _, _, _, _, _, h1, _, _ => by simp at h1
  | _ :: _, [], _, _, _, _, _, _, _, h3 => by simp at h3
  | b :: r, v :: vs, 0, 0, a, hn, n, _, _, _ => absurd rfl n
  | b :: r, v :: vs, 0, j + 1, a, hn, n, h1, h2, h3 => by
    have hb : b = true := by simpa using h1
    subst hb
    have hv : v = .ref a := by simpa using h3
    subst hv
    intro z
    have z1 : a ∈ ownA r vs := own_at (i := j) (by simpa using h2) (by simpa using z)
    exact (List.nodup_cons.mp (show (a :: ownA r vs).Nodup from hn)).1 z1
  | b :: r, v :: vs, i + 1, 0, a, hn, n, h1, h2, h3 => by
    have hb : b = true := by simpa using h2
    subst hb
    intro z
    have hv : v = .ref a := by simpa using z
    subst hv
    have z1 : a ∈ ownA r vs := own_at (i := i) (by simpa using h1) (by simpa using h3)
    exact (List.nodup_cons.mp (show (a :: ownA r vs).Nodup from hn)).1 z1
  | true :: r, v :: vs, i + 1, j + 1, a, hn, n, h1, h2, h3 => by
    have hn' : (ownA r vs).Nodup := (List.nodup_append.mp (show (addrOf v ++ ownA r vs).Nodup from hn)).2.1
    intro z
    exact own_two (i := i) (j := j) (a := a) hn' (fun q => n (congrArg (· + 1) q)) (by simpa using h1) (by simpa using h2) (by simpa using h3) (by simpa using z)
  | false :: r, v :: vs, i + 1, j + 1, a, hn, n, h1, h2, h3 => by
    intro z
    exact own_two (i := i) (j := j) (a := a) (show (ownA r vs).Nodup from hn) (fun q => n (congrArg (· + 1) q)) (by simpa using h1) (by simpa using h2) (by simpa using h3) (by simpa using z)
theorem back_of : ∀ {io : List Bool} {vs : List V} {e : Env}, vs.length = io.length → io.length ≤ e.length → (∀ (i : Nat) (d : D), io[i]? = some true → e[i]? = some (some d) → ∃ a, vs[i]? = some (V.ref a) ∧ OwnAt K H G a d) → Back K H G io vs (outsOf io e)
  | [], [], e, _, _, _ => by unfold Back; trivial
  | false :: r, v :: vs, x :: e, h1, h2, h => back_of (io := r) (vs := vs) (e := e) (by simpa using h1) (by simpa using h2) fun i d hi he => by
    obtain ⟨a, h3, h4⟩ := h (i + 1) d (by simpa using hi) (by simpa using he)
    exact ⟨a, by simpa using h3, h4⟩
  | true :: r, v :: vs, x :: e, h1, h2, h => ⟨fun d hd => by
      obtain ⟨a, h3, h4⟩ := h 0 d rfl (by simp [hd])
      exact ⟨a, by simpa using h3, h4⟩, back_of (io := r) (vs := vs) (e := e) (by simpa using h1) (by simpa using h2) fun i d hi he => by
    obtain ⟨a, h3, h4⟩ := h (i + 1) d (by simpa using hi) (by simpa using he)
    exact ⟨a, by simpa using h3, h4⟩⟩
  | [], _ :: _, _, h1, _, _ => nomatch h1
  | _ :: _, [], _, h1, _, _ => nomatch h1
  | _ :: _, _ :: _, [], _, h2, _ => by simp at h2
theorem live_of : ∀ {io : List Bool} {vs : List V} {e : Env} {a : Addr}, a ∈ liveA io vs (outsOf io e) → ∃ i, io[i]? = some true ∧ vs[i]? = some (.ref a) ∧ Live e i
  | [], vs, e, a, h => by simp [outsOf, liveA] at h
  | _ :: _, [], e, a, h => by simp [liveA] at h
  | true :: r, v :: vs, [], a, h => by simp [outsOf, liveA] at h
  | false :: r, v :: vs, [], a, h => by
    have h : a ∈ liveA r vs [] := h
    cases r with
    | nil => simp [liveA] at h
    | cons b r =>
      have z := live_of (io := b :: r) (vs := vs) (e := []) (a := a) (by
        have : outsOf (b :: r) [] = [] := by cases b <;> rfl
        rw [this]; exact h)
      obtain ⟨i, h1, h2, d, h3⟩ := z
      simp at h3
  | false :: r, v :: vs, x :: e, a, h => by
    obtain ⟨i, h1, h2, d, h3⟩ := live_of (io := r) (vs := vs) (e := e) (a := a) h
    exact ⟨i + 1, by simpa using h1, by simpa using h2, d, by simpa using h3⟩
  | true :: r, v :: vs, none :: e, a, h => by
    obtain ⟨i, h1, h2, d, h3⟩ := live_of (io := r) (vs := vs) (e := e) (a := a) h
    exact ⟨i + 1, by simpa using h1, by simpa using h2, d, by simpa using h3⟩
  | true :: r, v :: vs, some y :: e, a, h => by
    rcases List.mem_append.mp (show a ∈ addrOf v ++ liveA r vs (outsOf r e) from h) with z | z
    · cases v with
      | ref b =>
        have q : a = b := by simpa [addrOf] using z
        subst q
        exact ⟨0, rfl, rfl, y, rfl⟩
      | _ => simp [addrOf] at z
    · obtain ⟨i, h1, h2, d, h3⟩ := live_of (io := r) (vs := vs) (e := e) (a := a) z
      exact ⟨i + 1, by simpa using h1, by simpa using h2, d, by simpa using h3⟩
/-- the parameters: which of them are owned -/
def ioOk (W : Ow) (io : List Bool) : Bool := (List.range io.length).all fun i => (W.ow i == io.getD i false) && (!io.getD i false || W.fx i)
theorem ioOk_ow {io : List Bool} (h : ioOk W io = true) {i : Nat} {b : Bool} (hi : io[i]? = some b) : W.ow i = b := by
  have hl : i < io.length := (List.getElem?_eq_some_iff.mp hi).1
  have := List.all_eq_true.mp h i (List.mem_range.mpr hl)
  rw [List.getD_eq_getElem?_getD, hi] at this
  have := (Bool.and_eq_true_iff.mp this).1
  simpa using this
theorem ioOk_fx {io : List Bool} (h : ioOk W io = true) {i : Nat} (hi : io[i]? = some true) : W.fx i = true := by
  have hl : i < io.length := (List.getElem?_eq_some_iff.mp hi).1
  have := List.all_eq_true.mp h i (List.mem_range.mpr hl)
  rw [List.getD_eq_getElem?_getD, hi] at this
  have := (Bool.and_eq_true_iff.mp this).2
  simpa using this
theorem start_at {vs : List V} {N : List Str} {i : Nat} (h : i < vs.length) : (L2.start N vs)[i]? = (vs[i]?).map some := by
  unfold L2.start
  rw [List.getElem?_append_left (by simpa using h), List.getElem?_map]
theorem abs_start {io : List Bool} {vs : List V} {ds : List D} {N : List Str} (hl : io.length ≤ N.length) (hio : ioOk W io = true) (s : Sub G H) (p : Pass K H G io vs ds) (hn : (ownA io vs).Nodup) :
    Abs K W ⟨H, G, fun a => a ∈ ownA io vs, L2.start N vs⟩ G (L2.start N vs) H (ds.map some ++ List.replicate (N.length - ds.length) none) := by
  obtain ⟨l1, l2⟩ := pass_len p
  have env : ∀ i d, (ds.map some ++ List.replicate (N.length - ds.length) none)[i]? = some (some d) → ds[i]? = some d := fun i d h => by
    by_cases hi : i < ds.length
    · rw [List.getElem?_append_left (by simpa using hi), List.getElem?_map] at h
      cases q : ds[i]? with
      | none => rw [q] at h; cases h
      | some x => rw [q] at h; cases h; rfl
    · rw [List.getElem?_append_right (by simpa using hi), List.getElem?_replicate] at h
      split at h <;> cases h
  refine ⟨?_, rfl, s, Same.refl _, fun a o h _ => h, fun a h => .inl h, fun i d h1 h2 => ?_, fun i d h1 h2 => ?_, fun i j a n h1 h2 h3 h4 h5 => ?_, fun _ _ => rfl⟩
  · unfold L2.start
    rw [List.length_append, List.length_append, List.length_map, List.length_map, List.length_replicate, List.length_replicate, l1, l2]
  · rcases pass_at p (env i d h2) with ⟨h3, v, h4, h5⟩ | ⟨h3, _⟩
    · exact ⟨v, by rw [start_at (List.getElem?_eq_some_iff.mp h4).1, h4]; rfl, h5⟩
    · rw [ioOk_ow hio h3] at h1; cases h1
  · rcases pass_at p (env i d h2) with ⟨h3, _⟩ | ⟨h3, a, h4, h5, h6⟩
    · rw [ioOk_ow hio h3] at h1; cases h1
    · exact ⟨a, by rw [start_at (List.getElem?_eq_some_iff.mp h4).1, h4]; rfl, h5, .inl h6⟩
  · obtain ⟨di, h3⟩ := h3
    obtain ⟨dj, h4⟩ := h4
    rcases pass_at p (env i di h3) with ⟨q, _⟩ | ⟨q3, b, q4, _⟩
    · rw [ioOk_ow hio q] at h1; cases h1
    · rcases pass_at p (env j dj h4) with ⟨q, _⟩ | ⟨r3, c, r4, _⟩
      · rw [ioOk_ow hio q] at h2; cases h2
      · rw [start_at (List.getElem?_eq_some_iff.mp q4).1, q4] at h5
        have h5 : b = a := by simpa using h5
        subst h5
        rw [start_at (List.getElem?_eq_some_iff.mp r4).1]
        intro z
        have z : vs[j]? = some (.ref b) := by
          cases q : vs[j]? with
          | none => rw [q] at z; cases z
          | some y => rw [q] at z; have : y = .ref b := by simpa using z
                      rw [this]
        exact own_two hn n q3 r3 q4 z
theorem ret_of {io : List Bool} {vs : List V} {N : List Str} {B : Bs} (hl : io.length ≤ N.length) (hv : vs.length = io.length) (hio : ioOk W io = true) (hB : B = ⟨H, G, fun a => a ∈ ownA io vs, L2.start N vs⟩) (hle : io.length ≤ e.length)
    (A : Abs K W B G' σ H' e) (r : Res K W B κ G' σ H' e v d) (hb : κ ≠ .b) : Ret K κ io vs G H G' H' (outsOf io e) v d := by
  subst hB
  have slot : ∀ i w, io[i]? = some true → vs[i]? = some w → σ[i]? = some (some w) := fun i w h1 h2 => by
    have := A.fix i (ioOk_fx hio h1)
    rw [this]
    show (L2.start N vs)[i]? = _
    rw [start_at (List.getElem?_eq_some_iff.mp h2).1, h2]; rfl
  refine ⟨A.g0, A.sub, A.keep, A.new, back_of hv hle fun i d h1 h2 => ?_, ?_⟩
  · obtain ⟨a, h3, h4, _⟩ := A.own i d (ioOk_ow hio h1) h2
    have hi : i < vs.length := by rw [hv]; exact (List.getElem?_eq_some_iff.mp h1).1
    obtain ⟨w, hw⟩ : ∃ w, vs[i]? = some w := ⟨vs[i], List.getElem?_eq_getElem hi⟩
    have := slot i w h1 hw
    rw [h3] at this
    cases this
    exact ⟨a, hw, h4⟩
  · cases κ with
    | v => exact r
    | b => exact absurd rfl hb
    | o =>
      obtain ⟨a, rfl, h2, h3, h4⟩ := r
      refine ⟨a, rfl, h2, h3, fun z => ?_⟩
      obtain ⟨i, h5, h6, h7⟩ := live_of z
      exact h4 i (ioOk_ow hio h5) h7 (slot i _ h5 h6)
/-- THE RULE for a def -/
theorem fnD {P : Program} {w : World} {mg : Str → Option Value} {base : Heap} {x qual : Str} {st : Stmt} {f : Addr} {fd : FuncData} {N ps : List Str} {k : Nat} {io : List Bool} {m : PD.S} (F : Fun K x qual st f fd) (S : FnScope N ps (defScope st)) (hp : io.length = ps.length) (hl : Nat.ble io.length N.length = true) (hio : ioOk W io = true) (hb : κ ≠ .b)
    (hbody : ∀ (cdv : Value) (A : Around) (outer : List PySem.Env) (s : Shared) (H : Hp) (E : XK), Room k (A.deeper (envOfC qual (defScope st) s.heap.objs.size f cdv)) →
      SSs (cxOf CX0 P w K mg base N qual (defScope st) f cdv A outer s H E).nox W κ (defBody st) m)
    (hnx : κ = .o → ∀ ds e, m ds ≠ .ok (.nx e)) : FnOk P w K mg base CX0 (k + 1) f fd ps (spD K κ io (runF N.length io m)) := by
  have hl := Nat.le_of_ble_eq_true hl
  refine F.ok S (fun vs H Q E h => h.1.trans hp) (fun cdv A outer s H vs Q E hr h => ?_)
  obtain ⟨hv, G, ds, r, outs, hs, hps, hnd, hf, q⟩ := h
  refine ⟨_, hbody cdv A outer s H E hr, ?_⟩
  obtain ⟨fl, h1, h2⟩ := Out.bind_eq_ok (show (m (ds.map some ++ List.replicate (N.length - ds.length) none)).bind _ = _ from hf)
  have A0 := abs_start (N := N) hl hio hs hps hnd
  have len0 : (ds.map some ++ List.replicate (N.length - ds.length) none).length = N.length := by
    rw [List.length_append, List.length_map, List.length_replicate, (pass_len hps).2]
    omega
  refine ⟨_, G, _, A0, fl, h1, ?_⟩
  cases fl with
  | rt d e =>
    cases h2
    intro v σ' H' G' s' A' r'
    have hle : io.length ≤ e.length := by
      rw [A'.len, A'.ln]
      show io.length ≤ (L2.start N vs).length
      unfold L2.start
      rw [List.length_append, List.length_map, List.length_replicate, hv]
      omega
    exact q v H' G' (ret_of hl hv hio rfl hle A' r' hb)
  | nx e =>
    cases h2
    intro σ' H' G' s' A'
    have hle : io.length ≤ e.length := by
      rw [A'.len, A'.ln]
      show io.length ≤ (L2.start N vs).length
      unfold L2.start
      rw [List.length_append, List.length_map, List.length_replicate, hv]
      omega
    cases κ with
    | v => exact q .non H' G' (ret_of (κ := .v) hl hv hio rfl hle A' .non (by simp))
    | b => exact absurd rfl hb
    | o => exact absurd h1 (hnx rfl _ _)
  | bk e => cases h2
  | ct e => cases h2
end
end PD

set_option autoImplicit false
set_option linter.all false
set_option maxRecDepth 100000
set_option maxHeartbeats 4000000
/-! PdG: what is walked; for, while, comprehensions. -/
namespace PD
open PySem PySem.Spec PyProof.Rows L2

section
variable {X : Cx} {W : Ow} {K : Frg} {B : Bs} {G G' H H' : Hp} {σ σ' : L2.St} {e e' : PD.Env} {v : V} {d : D} {κ : Kd}
variable {a b c tg : Expr} {ma mb mc : M D} {ml : M (List D)} {pos : Pos}

/-! ### what is walked -/
/-- the iterator J gives the data ds, while G stands -/
def JOk (K : Frg) (G : Hp) (ds : List D) (J : It) : Prop := ∀ (i : Nat) (G1 H1 : Hp), Same G G1 → Sub G1 H1 →
  (∀ d, ds[i]? = some d → J.go i H1 ∧ ∀ x H2, J.yld i H1 x H2 → ∃ G2, Ext G1 H1 G2 H2 ∧ Rp K G2 x d) ∧ (i = ds.length → J.stop i H1)
def tI (K : Frg) (W : Ow) (m : M (List D)) : TI := fun σ H R => ∃ B G e, Abs K W B G σ H e ∧ ∃ ds e', m e = .ok (ds, e') ∧ ∀ J H' G', Same G G' → Abs K W B G' σ H' e' → JOk K G' ds J → R J H'
abbrev SI (X : Cx) (W : Ow) (tg e : Expr) (m : M (List D)) : Prop := PI X tg e (tI X.K W m)
theorem jok_of {Gd : Hp → Prop} {Y : Nat → Hp → V → Hp → Prop} {ds : List D} {J : It} {n : Nat} (w : Walk J n Gd Y) (hn : n = ds.length) (hg : ∀ G1 H1, Same G G1 → Sub G1 H1 → Gd H1)
    (hy : ∀ i G1 H1 x H2 d, Same G G1 → Sub G1 H1 → ds[i]? = some d → Y i H1 x H2 → ∃ G2, Ext G1 H1 G2 H2 ∧ Rp K G2 x d) : JOk K G ds J := fun i G1 H1 s b => by
  refine ⟨fun d hd => ?_, fun hi => ?_⟩
  · have hlt : i < n := by rw [hn]; exact (List.getElem?_eq_some_iff.mp hd).1
    exact ⟨w.goes i H1 hlt (hg G1 H1 s b), fun x H2 y => hy i G1 H1 x H2 d s b hd (w.yields i H1 x H2 hlt (hg G1 H1 s b) y)⟩
  · rw [hi, ← hn]
    exact w.stops H1 (hg G1 H1 s b)
theorem jok_list {a : Addr} {xs : List V} {ds : List D} (h : G a = some (.lst xs)) (r : RpL K G xs ds) : JOk K G ds (Itl K a) :=
  jok_of (walk_list (xs := xs)) r.length (fun G1 H1 s b => SqL.of (b.lst (s _ _ h))) fun i G1 H1 x H2 d s b hd ⟨e1, e2⟩ => by
    subst e1
    obtain ⟨w, h1, h2⟩ := (r.mono s).get hd
    rw [e2] at h1
    cases h1
    exact ⟨G1, Ext.refl, h2⟩
theorem jok_tup {a : Addr} {xs : List V} {ds : List D} (h : G a = some (.tup xs)) (r : RpL K G xs ds) : JOk K G ds (Itt K a) :=
  jok_of (walk_tup (xs := xs)) r.length (fun G1 H1 s b => SqT.of (b.tup (s _ _ h))) fun i G1 H1 x H2 d s b hd ⟨e1, e2⟩ => by
    subst e1
    obtain ⟨w, h1, h2⟩ := (r.mono s).get hd
    rw [e2] at h1
    cases h1
    exact ⟨G1, Ext.refl, h2⟩
theorem jok_range {lo : Int} {n : Nat} : JOk K G (rgL lo n) (Itr lo n) :=
  jok_of walk_range (by simp [rgL]) (fun _ _ _ _ => trivial) fun i G1 H1 x H2 d s b hd ⟨e1, e2⟩ => by
    subst e1 e2
    refine ⟨G1, Ext.refl, ?_⟩
    unfold rgL at hd
    rw [List.getElem?_map] at hd
    cases q : (List.range n)[i]? with
    | none => rw [q] at hd; cases hd
    | some j =>
      rw [q] at hd
      cases hd
      have : j = i := by
        have := (List.getElem?_eq_some_iff.mp q)
        obtain ⟨h1, h2⟩ := this
        rw [List.getElem_range] at h2
        exact h2.symm
      subst this
      exact .int _
/-- a list or a tuple -/
def iAny (K : Frg) (t : TE) : TI := fun σ H R => t σ H fun x H1 => ∃ a, x = .ref a ∧ ((∃ xs, SqL K H1 a xs ∧ R (Itl K a) H1) ∨ ∃ xs, SqT K H1 a xs ∧ R (Itt K a) H1)
theorem pi_any {t : TE} (h : PE X a t) : PI X tg a (iAny X.K t) := by
  refine ⟨fun pins s σ H R I hq => thn (h.run pins s σ H _ I hq) fun u s1 ⟨x, H1, I1, r1, p, ex, q⟩ => ?_⟩
  subst ex
  obtain rfl : u = Value.ref p := r1
  rcases q with ⟨xs, hl, q⟩ | ⟨xs, hl, q⟩
  · obtain ⟨its, _, pl, _⟩ := I1.list hl
    refine wpAny_pyIter_list pl.isList ?_
    exact pi_one (tk := s1.toks) I1 _ (turn_list p _) ⟨_, Heap.get?_push_size _ rfl, rfl, rfl⟩ q
  · obtain ⟨its, _, pl, _⟩ := I1.tuple hl
    refine wpAny_pyIter_tuple (show s1.heap.IsTuple p its.toArray from pl) ?_
    exact pi_one (tk := s1.toks) I1 _ (turn_tuple p _) ⟨_, Heap.get?_push_size _ rfl, rfl, rfl⟩ q
theorem si_it (h : SE X W .v a ma) : SI X W tg a (wIt ma) := (pi_any h).imp fun σ H R ⟨B, G, e, A, ds, e', hm, q⟩ => by
  obtain ⟨x, e1, h1, h2⟩ := mBind_ok hm
  obtain ⟨h3, e3⟩ := mLift_ok h2
  subst e3
  refine ⟨B, G, e, A, x, _, h1, fun w H1 G1 s1 A1 r1 => ?_⟩
  cases x with
  | list xs =>
    cases h3
    cases (show Rp X.K G1 w (.list ds) from r1) with
    | lst h4 h5 => exact ⟨_, rfl, .inl ⟨_, SqL.of (A1.sub.lst h4), q _ _ G1 s1 A1 (jok_list h4 h5)⟩⟩
  | tuple xs =>
    cases h3
    cases (show Rp X.K G1 w (.tuple ds) from r1) with
    | tup h4 h5 => exact ⟨_, rfl, .inr ⟨_, SqT.of (A1.sub.tup h4), q _ _ G1 s1 A1 (jok_tup h4 h5)⟩⟩
  | _ => cases h3
theorem iRg_ok {x y : D} {ds : List D} (h : iRg x y = .ok ds) : ∃ i j, x = .int i ∧ y = .int j ∧ walkOk i j ∧ ds = rgL i (j - i).toNat := by
  cases x with
  | int i =>
    cases y with
    | int j =>
      have h : (if walkOk i j then Out.ok (rgL i (j - i).toNat) else .no) = .ok ds := h
      by_cases q : walkOk i j
      · rw [if_pos q] at h
        cases h
        exact ⟨i, j, rfl, rfl, q, rfl⟩
      · rw [if_neg q] at h; cases h
    | _ => cases h
  | _ => cases h
theorem si_rg1 {p : Pos} (hg : Gl X "range") (hm : X.mg "range" = none) (ha : SE X W .v a ma) (hs : starEach [a] X.env = [(false, eval a X.env)] := by rfl) (hs2 : starEach [a] X.env = (false, eval a X.env) :: starEach [] X.env := by rfl) : SI X W tg (.Call (.Name "range" p) [a] [] pos) (wRg1 ma) :=
  (pi_range1 hg hm (pa_cons ha pa_nil hs2) hs).imp fun σ H R ⟨B, G, e, A, ds, e', hm, q⟩ => by
    obtain ⟨x, e1, h1, h2⟩ := mBind_ok hm
    obtain ⟨h3, e3⟩ := mLift_ok h2
    subst e3
    obtain ⟨i, j, e4, rfl, ⟨w1, w2, w3, w4⟩, rfl⟩ := iRg_ok h3
    cases e4
    refine ⟨B, G, e, A, _, _, h1, fun w H1 G1 s1 A1 r1 => ?_⟩
    cases (show Rp X.K G1 w (.int j) from r1)
    refine ⟨j, rfl, w3, w4, q _ _ G1 s1 A1 ?_⟩
    rw [Int.sub_zero]
    exact jok_range
theorem si_rg2 {p : Pos} (hg : Gl X "range") (hm : X.mg "range" = none) (ha : SE X W .v a ma) (hb : SE X W .v b mb) (hs : starEach [a, b] X.env = [(false, eval a X.env), (false, eval b X.env)] := by rfl) (hs2 : starEach [b] X.env = [(false, eval b X.env)] := by rfl) (hs3 : starEach [a, b] X.env = (false, eval a X.env) :: starEach [b] X.env := by rfl) :
    SI X W tg (.Call (.Name "range" p) [a, b] [] pos) (wRg2 ma mb) :=
  (pi_range2 hg hm (pa_cons ha (pa_cons hb pa_nil hs2) hs3) hs hs2).imp fun σ H R ⟨B, G, e, A, ds, e', hm, q⟩ => by
    obtain ⟨x, e1, h1, h20⟩ := mBind_ok hm
    obtain ⟨y, e2, h2, h3⟩ := mBind_ok h20
    obtain ⟨h4, e4⟩ := mLift_ok h3
    subst e4
    obtain ⟨i, j, rfl, rfl, w, rfl⟩ := iRg_ok h4
    refine ⟨B, G, e, A, _, _, h1, fun w1 H1 G1 s1 A1 r1 => ⟨B, G1, _, A1, _, _, h2, fun w2 H2 G2 s2 A2 r2 => ?_⟩⟩
    cases (show Rp X.K G1 w1 (.int i) from r1)
    cases (show Rp X.K G2 w2 (.int j) from r2)
    exact ⟨i, j, rfl, w, q _ _ G2 (s1.trans s2) A2 jok_range⟩

/-! ### for, while -/
variable {g : Gt} {body : PD.S} {sts : List Stmt} {is : List Nat}
theorem ss_for {iter : Expr} (hp : PassesOwn (model X.prog X.w) X.A X.env X.xe) (hc : X.calm = true) (hi : SI X W tg iter ml) (hg : SG X W tg is g) (hb : SSs X W κ sts body) (hs : ∀ x, foldedSetIterable iter X.env x = pure x := by intro _; rfl) :
    SS X W κ (.For tg iter sts [] pos) (sFor ml g body) := (ps_for hp hc hi hg hb hs).imp fun D σ H ⟨B, G, e, A, f, hf, pf⟩ => by
  obtain ⟨q, h1, h2⟩ := Out.bind_eq_ok hf
  refine ⟨B, G, e, A, q.1, q.2, h1, fun J H1 G1 s1 A1 jk => ?_⟩
  refine ⟨fun i m σ H => i ≤ q.1.length ∧ m = q.1.length - i ∧ ∃ G2 e2, Same G1 G2 ∧ Abs X.K W B G2 σ H e2 ∧ PostS X.K W B κ G2 D (forL g body (q.1.drop i) e2), ⟨q.1.length, Nat.zero_le _, rfl, G1, q.2, Same.refl _, A1, f, h2, pf.up s1⟩, ?_⟩
  rintro i m σ H ⟨hi1, rfl, G2, e2, s2, A2, f2, hf2, pf2⟩
  obtain ⟨jy, js⟩ := jk i G2 H s2 A2.sub
  by_cases hlt : i < q.1.length
  · have hd : q.1[i]? = some q.1[i] := List.getElem?_eq_getElem hlt
    obtain ⟨go, yl⟩ := jy _ hd
    refine .inr ⟨go, fun σ' H' => i + 1 ≤ q.1.length ∧ ∃ G2 e2, Same G1 G2 ∧ Abs X.K W B G2 σ' H' e2 ∧ PostS X.K W B κ G2 D (forL g body (q.1.drop (i + 1)) e2), fun σ' H' ⟨l, w⟩ => ⟨_, by omega, l, rfl, w⟩, fun x H3 y => ?_⟩
    obtain ⟨G3, x3, r3⟩ := yl x H3 y
    rw [List.drop_eq_getElem_cons hlt] at hf2
    obtain ⟨e3, h3, h4⟩ := Out.bind_eq_ok (show (g q.1[i] e2).bind _ = _ from hf2)
    obtain ⟨f4, h5, h6⟩ := Out.bind_eq_ok h4
    refine ⟨B, G3, e2, _, A2.ext x3, r3, e3, h3, fun σ4 _ _ A4 => ⟨B, G3, e3, A4, f4, h5, ?_⟩⟩
    have s3 : Same G1 G3 := s2.trans x3.g
    cases f4 with
    | nx e5 => exact fun σ' H' G' s5 A5 => ⟨hlt, G', e5, s3.trans s5, A5, f2, h6, pf2.up (x3.g.trans s5)⟩
    | ct e5 => exact fun σ' H' G' s5 A5 => ⟨hlt, G', e5, s3.trans s5, A5, f2, h6, pf2.up (x3.g.trans s5)⟩
    | bk e5 =>
      cases h6
      exact fun σ' H' G' s5 A5 => pf2 σ' H' G' (x3.g.trans s5) A5
    | rt d5 e5 =>
      cases h6
      exact fun v σ' H' G' s5 A5 r5 => pf2 v σ' H' G' (x3.g.trans s5) A5 r5
  · have he : i = q.1.length := by omega
    refine .inl ⟨js he, ?_⟩
    rw [he, List.drop_length] at hf2
    cases hf2
    exact pf2 σ H G2 (Same.refl _) A2
theorem ss_while {t : M Bool} (hp : PassesOwn (model X.prog X.w) X.A X.env X.xe) (hc : ST X W c t) (hb : SSs X W κ sts body) : SS X W κ (.While c sts [] pos) (sWhile t body) := (ps_while hp hc hb).imp fun D σ H ⟨B, G, e, A, f, hf, pf⟩ => by
  refine ⟨fun m σ H => ∃ G2 e2, Same G G2 ∧ Abs X.K W B G2 σ H e2 ∧ PostS X.K W B κ G2 D (whileN t body m e2), ⟨wfuel, G, e, Same.refl _, A, f, hf, pf⟩, ?_⟩
  rintro m σ H ⟨G2, e2, s2, A2, f2, hf2, pf2⟩
  cases m with
  | zero => cases hf2
  | succ m =>
    obtain ⟨q, h1, h2⟩ := Out.bind_eq_ok (show (t e2).bind _ = _ from hf2)
    refine ⟨B, G2, e2, A2, q.1, q.2, h1, fun H3 G3 s3 A3 => ?_⟩
    cases hq : q.1 with
    | false =>
      rw [hq] at h2
      simp only [Bool.false_eq_true, if_false] at h2 ⊢
      cases h2
      exact pf2 σ H3 G3 s3 A3
    | true =>
      rw [hq] at h2
      simp only [if_true] at h2 ⊢
      obtain ⟨f4, h5, h6⟩ := Out.bind_eq_ok h2
      refine ⟨fun σ' H' => ∃ G2 e2, Same G G2 ∧ Abs X.K W B G2 σ' H' e2 ∧ PostS X.K W B κ G2 D (whileN t body m e2), fun σ' H' w => ⟨m, Nat.lt_succ_self _, w⟩, B, G3, q.2, A3, f4, h5, ?_⟩
      cases f4 with
      | nx e5 => exact fun σ' H' G' s5 A5 => ⟨G', e5, (s2.trans s3).trans s5, A5, f2, h6, pf2.up (s3.trans s5)⟩
      | ct e5 => exact fun σ' H' G' s5 A5 => ⟨G', e5, (s2.trans s3).trans s5, A5, f2, h6, pf2.up (s3.trans s5)⟩
      | bk e5 =>
        cases h6
        exact fun σ' H' G' s5 A5 => pf2 σ' H' G' (s3.trans s5) A5
      | rt d5 e5 =>
        cases h6
        exact fun v σ' H' G' s5 A5 r5 => pf2 v σ' H' G' (s3.trans s5) A5 r5
end
end PD

set_option autoImplicit false
set_option linter.all false
set_option maxRecDepth 100000
set_option maxHeartbeats 4000000
/-! PdH: comprehensions. -/
namespace PD
open PySem PySem.Spec PyProof.Rows L2

section
variable {X : Cx} {W : Ow} {K : Frg} {B : Bs} {G G' H H' : Hp} {σ σ' : L2.St} {e e' : PD.Env} {v : V} {d : D} {κ : Kd}
variable {a b c tg : Expr} {ma mb mc : M D} {ml : M (List D)} {pos : Pos}

theorem wipeE_len : ∀ {vs : List Nat} {e : PD.Env}, (wipeE e vs).length = e.length
  | [], _ => rfl
  | v :: vs, e => by unfold wipeE; rw [List.length_set, wipeE_len]
theorem wipeE_out {j : Nat} {e : PD.Env} : ∀ {vs : List Nat}, j ∉ vs → (wipeE e vs)[j]? = e[j]?
  | [], _ => rfl
  | v :: vs, h => by
    unfold wipeE
    rw [List.getElem?_set_ne (fun z => h (by rw [← z]; exact List.mem_cons_self)), wipeE_out fun z => h (List.mem_cons_of_mem _ z)]
theorem wipeE_in {j : Nat} {e : PD.Env} : ∀ {vs : List Nat}, j ∈ vs → (wipeE e vs)[j]? = if j < e.length then some none else none
  | v :: vs, h => by
    unfold wipeE
    by_cases q : v = j
    · subst q
      by_cases hl : v < e.length
      · rw [List.getElem?_set_self (by rw [wipeE_len]; exact hl), if_pos hl]
      · rw [List.getElem?_eq_none (by rw [List.length_set, wipeE_len]; omega), if_neg hl]
    · rw [List.getElem?_set_ne q]
      exact wipeE_in ((List.mem_cons.mp h).resolve_left fun z => q z.symm)
theorem wipeE_dead {j : Nat} {e : PD.Env} {vs : List Nat} (h : j ∈ vs) : ¬ Live (wipeE e vs) j := fun ⟨d, hd⟩ => by
  rw [wipeE_in h] at hd
  split at hd <;> cases hd
theorem wipeE_idem {vs : List Nat} {e : PD.Env} : wipeE (wipeE e vs) vs = wipeE e vs := by
  apply List.ext_getElem?
  intro j
  by_cases h : j ∈ vs
  · rw [wipeE_in h, wipeE_in h, wipeE_len]
  · rw [wipeE_out h]
theorem wipe_agree {vs : List Nat} {σ σ' : L2.St} (hl : σ'.length = σ.length) (h : ∀ j, j ∉ vs → σ'[j]? = σ[j]?) : wipe σ' vs = wipe σ vs := by
  apply List.ext_getElem?
  intro j
  by_cases q : j ∈ vs
  · have key : ∀ (τ : L2.St), (wipe τ vs)[j]? = if j < τ.length then some none else none := by
      intro τ
      induction vs with
      | nil => exact absurd q (by simp)
      | cons u us ih =>
        unfold wipe
        by_cases z : u = j
        · subst z
          by_cases hj : u < τ.length
          · rw [List.getElem?_set_self (by rw [wipe_length]; exact hj), if_pos hj]
          · rw [List.getElem?_eq_none (by rw [List.length_set, wipe_length]; omega), if_neg hj]
        · rw [List.getElem?_set_ne z]
          have q' : j ∈ us := (List.mem_cons.mp q).resolve_left fun w => z w.symm
          clear ih h
          induction us with
          | nil => exact absurd q' (by simp)
          | cons u2 us ih =>
            unfold wipe
            by_cases z2 : u2 = j
            · subst z2
              by_cases hj : u2 < τ.length
              · rw [List.getElem?_set_self (by rw [wipe_length]; exact hj), if_pos hj]
              · rw [List.getElem?_eq_none (by rw [List.length_set, wipe_length]; omega), if_neg hj]
            · rw [List.getElem?_set_ne z2]
              have q2 : j ∈ us := (List.mem_cons.mp q').resolve_left fun w => z2 w.symm
              exact ih (List.mem_cons_of_mem _ q2) q2
    rw [key, key, hl]
  · rw [wipe_out q, wipe_out q, h j q]
/-- names of a block: none of them one's own -/
def vsOk (W : Ow) (vs : List Nat) : Bool := vs.all fun i => !W.ow i && !W.fx i
theorem vsOk_ow {vs : List Nat} (h : vsOk W vs = true) {i : Nat} (hi : i ∈ vs) : W.ow i = false ∧ W.fx i = false := by
  have := List.all_eq_true.mp h i hi
  obtain ⟨h1, h2⟩ := Bool.and_eq_true_iff.mp this
  exact ⟨by simpa using h1, by simpa using h2⟩
theorem live_wipe {vs : List Nat} {e : PD.Env} {j : Nat} (h : Live (wipeE e vs) j) : j ∉ vs ∧ Live e j := by
  by_cases q : j ∈ vs
  · exact absurd h (wipeE_dead q)
  · obtain ⟨d, hd⟩ := h
    rw [wipeE_out q] at hd
    exact ⟨q, d, hd⟩
theorem Abs.wipe {vs : List Nat} (A : Abs K W B G σ H e) (hv : vsOk W vs = true) : Abs K W B G (L2.wipe σ vs) H (wipeE e vs) where
  len := by rw [wipeE_len, wipe_length]; exact A.len
  ln := by rw [wipe_length]; exact A.ln
  sub := A.sub
  g0 := A.g0
  keep := A.keep
  new := A.new
  val := fun i d h1 h2 => by
    obtain ⟨n, _⟩ := live_wipe ⟨d, h2⟩
    rw [wipeE_out n] at h2
    rw [wipe_out n]
    exact A.val i d h1 h2
  own := fun i d h1 h2 => by
    obtain ⟨n, _⟩ := live_wipe ⟨d, h2⟩
    rw [wipeE_out n] at h2
    rw [wipe_out n]
    exact A.own i d h1 h2
  dist := fun i j a n h1 h2 h3 h4 h5 => by
    obtain ⟨n1, l1⟩ := live_wipe h3
    obtain ⟨n2, l2⟩ := live_wipe h4
    rw [wipe_out n1] at h5
    rw [wipe_out n2]
    exact A.dist i j a n h1 h2 l1 l2 h5
  fix := fun i h => by
    have n : i ∉ vs := fun z => by rw [(vsOk_ow hv z).2] at h; cases h
    rw [wipe_out n]
    exact A.fix i h
theorem Res.wipe {vs : List Nat} (r : Res K W B .o G σ H e v d) : Res K W B .o G (L2.wipe σ vs) H (wipeE e vs) v d := by
  obtain ⟨a, h1, h2, h3, h4⟩ := r
  refine ⟨a, h1, h2, h3, fun i hi hl => ?_⟩
  obtain ⟨n, l⟩ := live_wipe hl
  rw [wipe_out n]
  exact h4 i hi l
theorem backE_len : ∀ {vs : List Nat} {e e2 : PD.Env}, (backE vs e e2).length = e2.length
  | [], _, _ => rfl
  | v :: vs, e, e2 => by unfold backE; rw [List.length_set, backE_len]
theorem backE_out {j : Nat} {e e2 : PD.Env} : ∀ {vs : List Nat}, j ∉ vs → (backE vs e e2)[j]? = e2[j]?
  | [], _ => rfl
  | v :: vs, h => by
    unfold backE
    rw [List.getElem?_set_ne (fun z => h (by rw [← z]; exact List.mem_cons_self)), backE_out fun z => h (List.mem_cons_of_mem _ z)]
theorem backE_in {j : Nat} {e e2 : PD.Env} {d : D} : ∀ {vs : List Nat}, j ∈ vs → (backE vs e e2)[j]? = some (some d) → e[j]? = some (some d)
  | v :: vs, h, hd => by
    unfold backE at hd
    by_cases q : v = j
    · subst q
      rcases get_set _ hd with ⟨_, z, _⟩ | ⟨z, _⟩
      · cases w : e[v]? with
        | none => rw [w] at z; cases z
        | some o => rw [w] at z; cases z; rfl
      · exact absurd rfl z
    · rw [List.getElem?_set_ne q] at hd
      exact backE_in ((List.mem_cons.mp h).resolve_left fun z => q z.symm) hd
/-- back in the def's own slots -/
theorem Abs.back {vs : List Nat} {G1 H1 : Hp} {e1 : PD.Env} (A1 : Abs K W B G1 σ H1 e1) (hv : vsOk W vs = true) (s : Same G1 G) (A : Abs K W B G (L2.wipe σ vs) H (wipeE e vs)) : Abs K W B G σ H (backE vs e1 (wipeE e vs)) where
  len := by
    rw [backE_len, A.len, wipe_length]
  ln := A1.ln
  sub := A.sub
  g0 := A.g0
  keep := A.keep
  new := A.new
  val := fun i d h1 h2 => by
    by_cases q : i ∈ vs
    · obtain ⟨w, h3, h4⟩ := A1.val i d h1 (backE_in q h2)
      exact ⟨w, h3, h4.mono s⟩
    · rw [backE_out q] at h2
      obtain ⟨w, h3, h4⟩ := A.val i d h1 h2
      rw [wipe_out q] at h3
      exact ⟨w, h3, h4⟩
  own := fun i d h1 h2 => by
    have q : i ∉ vs := fun z => by rw [(vsOk_ow hv z).1] at h1; cases h1
    rw [backE_out q] at h2
    obtain ⟨a, h3, h4⟩ := A.own i d h1 h2
    rw [wipe_out q] at h3
    exact ⟨a, h3, h4⟩
  dist := fun i j a n h1 h2 h3 h4 h5 => by
    have qi : i ∉ vs := fun z => by rw [(vsOk_ow hv z).1] at h1; cases h1
    have qj : j ∉ vs := fun z => by rw [(vsOk_ow hv z).1] at h2; cases h2
    obtain ⟨di, h3⟩ := h3
    obtain ⟨dj, h4⟩ := h4
    rw [backE_out qi] at h3
    rw [backE_out qj] at h4
    rw [← wipe_out (σ := σ) qi] at h5
    rw [← wipe_out (σ := σ) qj]
    exact A.dist i j a n h1 h2 ⟨di, h3⟩ ⟨dj, h4⟩ h5
  fix := A1.fix
theorem Res.back {vs : List Nat} {e1 : PD.Env} (hv : vsOk W vs = true) (r : Res K W B .o G (L2.wipe σ vs) H (wipeE e vs) v d) : Res K W B .o G σ H (backE vs e1 (wipeE e vs)) v d := by
  obtain ⟨a, h1, h2, h3, h4⟩ := r
  refine ⟨a, h1, h2, h3, fun i hi ⟨di, hl⟩ => ?_⟩
  have q : i ∉ vs := fun z => by rw [(vsOk_ow hv z).1] at hi; cases hi
  rw [backE_out q] at hl
  rw [← wipe_out (σ := σ) q]
  exact h4 i hi ⟨di, hl⟩
/-- a temporary object of one's own, kept through any state behind -/
theorem Res.stay2 (r : Res K W B .o G σ H e v d) (A' : Abs K W (Bs.of W G σ H e) G' σ' H' e') : Res K W B .o G' σ' H' e' v d := by
  obtain ⟨a, rfl, ⟨n, xs, ds, h1, h2, rfl⟩, h3, h4⟩ := r
  have nO : ¬ (Bs.of W G σ H e).O a := fun ⟨i, z1, z2, z3⟩ => h4 i z1 z2 z3
  refine ⟨a, rfl, ⟨?_, xs, ds, A'.keep a _ h1 nO, h2.mono A'.g0, rfl⟩, h3, fun i hi ⟨d, hl⟩ z => ?_⟩
  · cases q : G' a with
    | none => rfl
    | some o =>
      rcases A'.new a (by rw [q]; simp) with z | z | z
      · exact absurd n z
      · have z' : H a = none := z
        rw [h1] at z'; cases z'
      · exact absurd z nO
  · obtain ⟨b, h5, _, h6⟩ := A'.own i d hi hl
    rw [z] at h5
    cases h5
    rcases h6 with z | z
    · exact nO z
    · have z' : H a = none := z
      rw [h1] at z'; cases z'
/-- the temporary list grows -/
theorem tmp_app {D : Addr} {ds : List PyData} {y : PyData} {w : V} (A : Abs K W B G σ H e) (r : Res K W B .o G σ H e (.ref D) (.list ds)) (rw' : Rp K G w y) :
    ∃ xs, H D = some (.lst xs) ∧ xs.length = ds.length ∧ Abs K W B G σ (upd H D (.lst (xs ++ [w]))) e ∧ Res K W B .o G σ (upd H D (.lst (xs ++ [w]))) e (.ref D) (.list (ds ++ [y])) := by
  obtain ⟨a, ea, ⟨n, xs, es, h1, h2, h3⟩, h4, h5⟩ := r
  cases ea
  cases h3
  refine ⟨xs, h1, h2.length, ⟨A.len, A.ln, fun b o q => ?_, A.g0, fun b o q nO => ?_, A.new, A.val, fun i d h6 h7 => ?_, A.dist, A.fix⟩, D, rfl, ⟨n, _, _, upd_same, h2.append (.cons rw' .nil), rfl⟩, h4, h5⟩
  · have hb : b ≠ D := fun z => by rw [z, n] at q; cases q
    rw [upd_ne hb]
    exact A.sub b o q
  · have hb : b ≠ D := fun z => by
      subst z
      rcases h4 with z | z
      · exact nO z
      · rw [q] at z; cases z
    rw [upd_ne hb]
    exact A.keep b o q nO
  · obtain ⟨b, h8, ⟨n', zs, fs, h9, h10, h11⟩, hO⟩ := A.own i d h6 h7
    have hb : b ≠ D := fun z => h5 i h6 ⟨d, h7⟩ (by rw [← z]; exact h8)
    exact ⟨b, h8, ⟨n', zs, fs, by rw [upd_ne hb]; exact h9, h10, h11⟩, hO⟩

theorem lcL_wipe {vs : List Nat} {g : Gt} {t : M Bool} {elt : M D} : ∀ {ds : List D} {e : PD.Env}, lcL vs g t elt ds (wipeE e vs) = lcL vs g t elt ds e
  | [], e => by unfold lcL; rw [wipeE_idem]
  | d :: ds, e => by unfold lcL; rw [wipeE_idem]
theorem lcL_end {vs : List Nat} {g : Gt} {t : M Bool} {elt : M D} : ∀ {ds : List D} {e e2 : PD.Env} {xs : List D}, lcL vs g t elt ds e = .ok (xs, e2) → wipeE e2 vs = e2
  | [], e, e2, xs, h => by cases h; exact wipeE_idem
  | d :: ds, e, e2, xs, h => by
    obtain ⟨e3, h1, h2⟩ := Out.bind_eq_ok (show (g d (wipeE e vs)).bind _ = _ from h)
    obtain ⟨p, h3, h4⟩ := Out.bind_eq_ok h2
    by_cases q : p.1 = true
    · rw [if_pos q] at h4
      obtain ⟨p2, h5, h6⟩ := Out.bind_eq_ok h4
      obtain ⟨p3, h7, h8⟩ := Out.bind_eq_ok h6
      cases h8
      exact lcL_end h7
    · rw [if_neg q] at h4
      exact lcL_end h4
variable {g : Gt} {t : M Bool} {is vs : List Nat}
/-- the reading of a comprehension -/
theorem lc_of (hv : vsOk W vs = true) (his : ∀ i ∈ is, i ∈ vs) {Q : VK} (h : tM K W .o (mLc vs ml g t ma) σ H Q) : tLc (tI K W ml) (tG K W is g) (tMT K W t) (tM K W .v ma) vs σ H Q := by
  obtain ⟨B, G, e, A, d, e', hm, q⟩ := h
  obtain ⟨p, h1, h2⟩ := Out.bind_eq_ok hm
  obtain ⟨r, h3, h4⟩ := Out.bind_eq_ok h2
  by_cases hle : r.1.length ≤ lineN
  case neg => rw [if_neg hle] at h4; cases h4
  rw [if_pos hle] at h4
  cases h4
  refine ⟨B, G, e, A, p.1, p.2, h1, fun J H1 G1 s1 A1 jk D nD => ?_⟩
  obtain ⟨A2, r2⟩ := new_own A1 .nil nD
  refine ⟨fun i m H => i ≤ p.1.length ∧ m = p.1.length - i ∧ ∃ G2 e2 acc rest, Same G1 G2 ∧ Abs K W B G2 (wipe σ vs) H (wipeE e2 vs) ∧ Res K W B .o G2 (wipe σ vs) H (wipeE e2 vs) (.ref D) (.list acc) ∧
      lcL vs g t ma (p.1.drop i) e2 = .ok (rest, r.2) ∧ r.1 = acc ++ rest, ⟨p.1.length, Nat.zero_le _, rfl, G1, p.2, [], r.1, Same.refl _, A2.wipe hv, r2.wipe, h3, rfl⟩, ?_⟩
  rintro i m H ⟨hi, rfl, G2, e2, acc, rest, s2, A3, r3, hl, hr⟩
  obtain ⟨jy, js⟩ := jk i G2 H s2 A3.sub
  by_cases hlt : i < p.1.length
  · have hd : p.1[i]? = some p.1[i] := List.getElem?_eq_getElem hlt
    obtain ⟨go, yl⟩ := jy _ hd
    refine .inr ⟨go, fun H => i + 1 ≤ p.1.length ∧ ∃ G2 e2 acc rest, Same G1 G2 ∧ Abs K W B G2 (wipe σ vs) H (wipeE e2 vs) ∧ Res K W B .o G2 (wipe σ vs) H (wipeE e2 vs) (.ref D) (.list acc) ∧
      lcL vs g t ma (p.1.drop (i + 1)) e2 = .ok (rest, r.2) ∧ r.1 = acc ++ rest, fun H' ⟨l, w⟩ => ⟨_, by omega, l, rfl, w⟩, fun x H3 y => ?_⟩
    obtain ⟨G3, x3, rx⟩ := yl x H3 y
    have A4 := A3.ext x3
    have r4 : Res K W B .o G3 (wipe σ vs) H3 (wipeE e2 vs) (.ref D) (.list acc) := let ⟨a, z1, z2, z3⟩ := r3; ⟨a, z1, z2.ext x3, z3⟩
    rw [List.drop_eq_getElem_cons hlt] at hl
    obtain ⟨e3, h5, hl1⟩ := Out.bind_eq_ok (show (g p.1[i] (wipeE e2 vs)).bind _ = _ from hl)
    obtain ⟨pt, h6, hl2⟩ := Out.bind_eq_ok hl1
    refine ⟨_, G3, wipeE e2 vs, _, A4.re, rx, e3, h5, fun σ4 l4 k4 A5 => ⟨?_, _, G3, e3, A5, pt.1, pt.2, h6, fun H5 G5 s5 A6 => ?_⟩⟩
    · have : wipe σ4 vs = wipe (wipe σ vs) vs := wipe_agree l4 fun j hj => k4 j fun z => hj (his j z)
      rw [this]
      exact wipe_agree (wipe_length _ _) fun j hj => wipe_out hj
    have hw4 : wipe σ4 vs = wipe σ vs := by
      have : wipe σ4 vs = wipe (wipe σ vs) vs := wipe_agree l4 fun j hj => k4 j fun z => hj (his j z)
      rw [this]
      exact wipe_agree (wipe_length _ _) fun j hj => wipe_out hj
    cases hq : pt.1 with
    | false =>
      rw [hq] at hl2
      simp only [Bool.false_eq_true, if_false] at hl2 ⊢
      have A7 := A4.un A6
      have r7 := r4.stay2 A6
      refine ⟨hlt, G5, pt.2, acc, rest, s2.trans (x3.g.trans s5), ?_, ?_, hl2, hr⟩
      · rw [← hw4]; exact A7.wipe hv
      · rw [← hw4]; exact r7.wipe
    | true =>
      rw [hq] at hl2
      simp only [if_true] at hl2 ⊢
      obtain ⟨pe, h7, hl3⟩ := Out.bind_eq_ok hl2
      obtain ⟨pr, h8, hl4⟩ := Out.bind_eq_ok hl3
      injection hl4 with hl5
      injection hl5 with h9 h10
      subst h9
      refine ⟨_, G5, pt.2, A6, pe.1, pe.2, h7, fun w H7 G7 s7 A8 r8 => ?_⟩
      have A9 := A4.un A8
      have r9 := r4.stay2 A8
      obtain ⟨xs, hD, hlen, A10, r10⟩ := tmp_app A9 r9 (show Rp K G7 w pe.1 from r8)
      refine ⟨xs, hD, ?_, hlt, G7, pe.2, acc ++ [pe.1], pr.1, s2.trans (x3.g.trans (s5.trans s7)), ?_, ?_, ?_, ?_⟩
      · rw [hlen, ← lineN_eq]
        have := hle
        rw [hr] at this
        rw [List.length_append, List.length_cons] at this
        omega
      · rw [← hw4]; exact A10.wipe hv
      · rw [← hw4]; exact r10.wipe
      · rw [← h10]; exact h8
      · rw [hr, List.append_assoc]; rfl
  · have he : i = p.1.length := by omega
    refine .inl ⟨js he, ?_⟩
    rw [he, List.drop_length] at hl
    injection hl with hl5
    injection hl5 with h9 h10
    subst h9
    rw [List.append_nil] at hr
    refine q _ H G2 (s1.trans s2) ?_ ?_
    · rw [← h10]; exact A1.back hv s2 A3
    · rw [hr, ← h10]
      exact Res.back hv r3
variable {iter : Expr} {ifs : List Expr} {scope : Scope} {own : List (Str × Nat)} {elt : Expr}
abbrev STs (X : Cx) (W : Ow) (ifs : List Expr) (t : M Bool) : Prop := PTs X ifs (tMT X.K W t)
theorem sts_nil : STs X W [] PD.tYes := pts_nil.imp fun σ H Q ⟨B, G, e, A, d, e', hm, q⟩ => by
  cases hm
  exact q H G (Same.refl _) A
theorem sts_one (h : ST X W c t) : STs X W [c] t := pts_one h
theorem se_lc (hc : X.calm = true) (hN : X.N.Nodup) (hi : SI X W tg iter ml) (ok : BlkOk X.N X.env.scope scope own) (hv : vsOk W (own.map (·.2)) = true) (his : ∀ i ∈ is, i ∈ own.map (·.2))
    (hg : ∀ (s : Shared) (H : Hp) (C : Addr) (cl : List (Str × Addr)) (fp : List Addr), SG (X.blk s H scope (compEnvC scope cl C X.env) fp) W tg is g)
    (ht : ∀ (s : Shared) (H : Hp) (C : Addr) (cl : List (Str × Addr)) (fp : List Addr), STs (X.blk s H scope (compEnvC scope cl C X.env) fp) W ifs t)
    (he : ∀ (s : Shared) (H : Hp) (C : Addr) (cl : List (Str × Addr)) (fp : List Addr), SE (X.blk s H scope (compEnvC scope cl C X.env) fp) W .v elt ma) (hs : ∀ x, foldedSetIterable iter X.env x = pure x := by intro _; rfl) :
    SE X W .o (.ListComp elt [⟨tg, iter, ifs, 0⟩] scope pos) (mLc (own.map (·.2)) ml g t ma) := (pe_lc hc hN hi ok hg ht he hs).imp fun σ H Q h => lc_of hv his h
/-- y = [..] -/
theorem ss_lc {i : Nat} {y : Str} {py spos : Pos} (hc : X.calm = true) (hN : X.N.Nodup) (hy : X.N[i]? = some y) (hyl : X.env.scope.names.lookup y = some .local)
    (hsw : swapsWith (.ListComp elt [⟨tg, iter, ifs, 0⟩] scope pos) (some (.Name y py)) spos.line X.env = pure true) (hi : SI X W tg iter ml) (ok : BlkOk X.N X.env.scope scope own) (hv : vsOk W (own.map (·.2)) = true) (his : ∀ i ∈ is, i ∈ own.map (·.2))
    (hg : ∀ (s : Shared) (H : Hp) (C : Addr) (cl : List (Str × Addr)) (fp : List Addr), SG (X.blk s H scope (compEnvC scope cl C X.env) fp) W tg is g)
    (ht : ∀ (s : Shared) (H : Hp) (C : Addr) (cl : List (Str × Addr)) (fp : List Addr), STs (X.blk s H scope (compEnvC scope cl C X.env) fp) W ifs t)
    (he : ∀ (s : Shared) (H : Hp) (C : Addr) (cl : List (Str × Addr)) (fp : List Addr), SE (X.blk s H scope (compEnvC scope cl C X.env) fp) W .v elt ma) (hw : W.ow i = false) (hf : W.fx i = false) (hs : ∀ x, foldedSetIterable iter X.env x = pure x := by intro _; rfl) :
    SS X W κ (.Assign [.Name y py] (.ListComp elt [⟨tg, iter, ifs, 0⟩] scope pos) spos) (sSet i (mLc (own.map (·.2)) ml g t ma)) :=
  ss_asgN (ps_setLc hc hN hy hyl hsw hi ok hg ht he hs) (fun σ H Q h => lc_of hv his (by
    obtain ⟨B, G, e, A, d, e', hm, q⟩ := h
    refine ⟨B, G, e, A, d, e', hm, fun v H' G' s A' r => ?_⟩
    obtain ⟨G2, s2, A2, r2⟩ := A'.freeze r
    exact q v H' G2 (s.trans s2) A2 r2)) hw hf
theorem ss_lcO {i : Nat} {y : Str} {py spos : Pos} (hc : X.calm = true) (hN : X.N.Nodup) (hy : X.N[i]? = some y) (hyl : X.env.scope.names.lookup y = some .local)
    (hsw : swapsWith (.ListComp elt [⟨tg, iter, ifs, 0⟩] scope pos) (some (.Name y py)) spos.line X.env = pure true) (hi : SI X W tg iter ml) (ok : BlkOk X.N X.env.scope scope own) (hv : vsOk W (own.map (·.2)) = true) (his : ∀ i ∈ is, i ∈ own.map (·.2))
    (hg : ∀ (s : Shared) (H : Hp) (C : Addr) (cl : List (Str × Addr)) (fp : List Addr), SG (X.blk s H scope (compEnvC scope cl C X.env) fp) W tg is g)
    (ht : ∀ (s : Shared) (H : Hp) (C : Addr) (cl : List (Str × Addr)) (fp : List Addr), STs (X.blk s H scope (compEnvC scope cl C X.env) fp) W ifs t)
    (he : ∀ (s : Shared) (H : Hp) (C : Addr) (cl : List (Str × Addr)) (fp : List Addr), SE (X.blk s H scope (compEnvC scope cl C X.env) fp) W .v elt ma) (hw : W.ow i = true) (hf : W.fx i = false) (hs : ∀ x, foldedSetIterable iter X.env x = pure x := by intro _; rfl) :
    SS X W κ (.Assign [.Name y py] (.ListComp elt [⟨tg, iter, ifs, 0⟩] scope pos) spos) (sSet i (mLc (own.map (·.2)) ml g t ma)) :=
  ss_asgO (ps_setLc hc hN hy hyl hsw hi ok hg ht he hs) (fun σ H Q h => lc_of hv his h) hw hf
end
end PD

set_option autoImplicit false
set_option linter.all false
set_option maxRecDepth 100000
set_option maxHeartbeats 4000000
/-! PdP: the operations of the model do what the operations on data do. -/
namespace PD
open PySem PySem.Spec PyProof.Rows L2

section
variable {X : Cx} {W : Ow} {K : Frg} {G H : Hp}
/-! ### arithmetic -/
abbrev rStrAdd : R2 := fun x y H Q => ∃ i j, x = .str i ∧ y = .str j ∧ i.length + j.length ≤ sizeLine ∧ Q (.str (i ++ j)) H
abbrev rAddU (K : Frg) : R2 := fun x y H Q => rI0 (fun i j => .int (i + j)) x y H Q ∨ (rStrAdd x y H Q ∨ (rCat x y H Q ∨ rCatA K x y H Q))
theorem u_add : OpR X (binaryOp .Add) (rAddU X.K) := op_add.or (op_add_str.or (op_cat.or op_catA))
theorem if_ok {α : Type} {c : Prop} [Decidable c] {x z : α} (h : (if c then Out.ok x else .no) = .ok z) : c ∧ z = x := by
  by_cases q : c
  · rw [if_pos q] at h
    cases h
    exact ⟨q, rfl⟩
  · rw [if_neg q] at h; cases h
theorem d_add : Op2 K (rAddU K) dAdd := fun G H x y d e z Q s hx hy hf q => by
  cases d with
  | int i =>
    cases e with
    | int j =>
      cases hf
      rw [hx.int, hy.int]
      exact .inl ⟨i, j, rfl, rfl, q _ H G Ext.refl (.int _)⟩
    | _ => cases hf
  | str i =>
    cases e with
    | str j =>
      obtain ⟨h1, rfl⟩ := if_ok hf
      rw [hx.str, hy.str]
      exact .inr (.inl ⟨i, j, rfl, rfl, by rw [← lineN_eq]; exact h1, q _ H G Ext.refl (.str _)⟩)
    | _ => cases hf
  | list i =>
    cases e with
    | list j =>
      obtain ⟨h1, rfl⟩ := if_ok hf
      obtain ⟨a, xs, rfl, h2, h3⟩ := hx.lst s
      obtain ⟨b, ys, rfl, h4, h5⟩ := hy.lst s
      refine .inr (.inr (.inl ⟨a, b, xs, ys, rfl, rfl, h2, h4, by rw [← lineN_eq, h3.length, h5.length]; exact h1, fun p np => ?_⟩))
      have x := ext_new (o := .lst (xs ++ ys)) s np
      exact q _ _ _ x (.lst upd_same ((h3.append h5).mono x.g))
    | _ => cases hf
  | tuple i =>
    cases e with
    | tuple j =>
      obtain ⟨h1, rfl⟩ := if_ok hf
      obtain ⟨a, xs, rfl, h2, g2, h3⟩ := hx.tup s
      obtain ⟨b, ys, rfl, h4, g4, h5⟩ := hy.tup s
      refine .inr (.inr (.inr ⟨a, b, xs, ys, rfl, rfl, SqT.of h2, SqT.of h4, by rw [← lineN_eq, h3.length, h5.length]; exact h1, fun e => ?_, fun e1 e2 => ?_, fun e1 e2 p np => ?_⟩))
      · have : i = [] := h3.nil_iff.mp e
        subst this
        exact q _ H G Ext.refl (.tup g4 h5)
      · have : j = [] := h5.nil_iff.mp e2
        subst this
        rw [List.append_nil] at *
        exact q _ H G Ext.refl (.tup g2 h3)
      · have x := ext_new (o := .tup (xs ++ ys)) s np
        exact q _ _ _ x (.tup upd_same ((h3.append h5).mono x.g))
    | _ => cases hf
  | _ => cases hf
theorem ints2 {f : Int → Int → Out D} {g : D → D → Out D} (hg : ∀ i j, g (.int i) (.int j) = f i j) (hn : ∀ x y z, g x y = .ok z → ∃ i j, x = .int i ∧ y = .int j) {x y z : D} (h : g x y = .ok z) : ∃ i j, x = .int i ∧ y = .int j ∧ f i j = .ok z := by
  obtain ⟨i, j, rfl, rfl⟩ := hn x y z h
  exact ⟨i, j, rfl, rfl, by rw [← hg]; exact h⟩
theorem d_sub : Op2 K (rI0 fun i j => .int (i - j)) dSub := fun G H x y d e z Q s hx hy hf q => by
  cases d with
  | int i =>
    cases e with
    | int j =>
      cases hf
      rw [hx.int, hy.int]
      exact ⟨i, j, rfl, rfl, q _ H G Ext.refl (.int _)⟩
    | _ => cases hf
  | _ => cases hf
abbrev rMulU (K : Frg) : R2 := fun x y H Q => rI CMul (fun i j => .int (i * j)) x y H Q ∨ rRep x y H Q
theorem u_mul : OpR X (binaryOp .Mult) (rMulU X.K) := op_mul.or op_rep
theorem d_mul : Op2 K (rMulU K) dMul := fun G H x y d e z Q s hx hy hf q => by
  cases d with
  | int i =>
    cases e with
    | int j =>
      obtain ⟨h1, rfl⟩ := if_ok hf
      rw [hx.int, hy.int]
      exact .inl ⟨i, j, rfl, rfl, h1, q _ H G Ext.refl (.int _)⟩
    | _ => cases hf
  | list i =>
    cases e with
    | int j =>
      obtain ⟨ys, h1, h2⟩ := Out.bind_eq_ok (show (repL i j).bind _ = _ from hf)
      cases h2
      obtain ⟨⟨k1, k2, k3⟩, rfl⟩ := if_ok h1
      obtain ⟨a, xs, rfl, h2, h3⟩ := hx.lst s
      rw [hy.int]
      refine .inr ⟨a, j, xs, rfl, rfl, h2, k1, k2, by rw [← lineN_eq, h3.length]; exact k3, fun p np => ?_⟩
      have x := ext_new (o := .lst (List.replicate j.toNat xs).flatten) s np
      exact q _ _ _ x (.lst upd_same ((h3.rep _).mono x.g))
    | _ => cases hf
  | _ => cases hf
theorem d_div : Op2 K (rI CDivW fun i j => .int (i / j)) dDiv := fun G H x y d e z Q s hx hy hf q => by
  cases d with
  | int i =>
    cases e with
    | int j =>
      obtain ⟨⟨h1, h2⟩, rfl⟩ := if_ok hf
      rw [hx.int, hy.int]
      refine ⟨i, j, rfl, rfl, wide_div (b := 64) h1 ?_ (by decide) (by decide), q _ H G Ext.refl (.int _)⟩
      have e : (2 : Int) ^ 64 = 18446744073709551616 := by decide
      have e2 : (2 : Nat) ^ 64 = 18446744073709551616 := by decide
      omega
    | _ => cases hf
  | _ => cases hf
theorem d_mod : Op2 K (rI (fun _ j => 0 < j) fun i j => .int (i % j)) dMod := fun G H x y d e z Q s hx hy hf q => by
  cases d with
  | int i =>
    cases e with
    | int j =>
      obtain ⟨h1, rfl⟩ := if_ok hf
      rw [hx.int, hy.int]
      exact ⟨i, j, rfl, rfl, h1, q _ H G Ext.refl (.int _)⟩
    | _ => cases hf
  | _ => cases hf
theorem d_pow : Op2 K (rI CPow fun i j => .int (i ^ j.toNat)) dPow := fun G H x y d e z Q s hx hy hf q => by
  cases d with
  | int i =>
    cases e with
    | int j =>
      obtain ⟨h1, rfl⟩ := if_ok hf
      rw [hx.int, hy.int]
      exact ⟨i, j, rfl, rfl, h1, q _ H G Ext.refl (.int _)⟩
    | _ => cases hf
  | _ => cases hf
theorem d_neg : Op1 K (rU fun i => .int (-i)) dNeg := fun G H x d z Q s hx hf q => by
  cases d with
  | int i =>
    cases hf
    rw [hx.int]
    exact ⟨i, rfl, q _ H G Ext.refl (.int _)⟩
  | _ => cases hf

/-! ### comparisons of ints, texts -/
abbrev rLtS : R2 := fun x y H Q => ∃ i j, x = .str i ∧ y = .str j ∧ Q (.bl (decide (i.cps.toList < j.cps.toList))) H
theorem d_gt : Op2 K (rI0 fun i j => .bl (decide (j < i))) dGt := fun G H x y d e z Q s hx hy hf q => by
  cases d with
  | int i =>
    cases e with
    | int j =>
      cases hf
      rw [hx.int, hy.int]
      exact ⟨i, j, rfl, rfl, q _ H G Ext.refl (.bl _)⟩
    | _ => cases hf
  | _ => cases hf
theorem d_ge : Op2 K (rI0 fun i j => .bl (decide (j ≤ i))) dGe := fun G H x y d e z Q s hx hy hf q => by
  cases d with
  | int i =>
    cases e with
    | int j =>
      cases hf
      rw [hx.int, hy.int]
      exact ⟨i, j, rfl, rfl, q _ H G Ext.refl (.bl _)⟩
    | _ => cases hf
  | _ => cases hf
/-! ### data as a whole -/
mutual
theorem Rp.dp {G H : Hp} (s : Sub G H) : ∀ {v : V} {d : D}, Rp K G v d → d.plain = true → Dp K H v d
  | _, _, .non, _ => .non
  | _, _, .bl b, _ => .bl b
  | _, _, .int i, _ => .int i
  | _, _, .str x, _ => .str x
  | _, _, .lst h r, p => .lst (SqL.of (s.lst h)) (RpL.dp s r (by simpa [PyData.plain] using p))
  | _, _, .tup h r, p => .tup (SqT.of (s.tup h)) (RpL.dp s r (by simpa [PyData.plain] using p))
  | _, _, .scr h r, p => by simp [scr, PyData.plain] at p
theorem RpL.dp {G H : Hp} (s : Sub G H) : ∀ {vs : List V} {ds : List D}, RpL K G vs ds → PyData.plainAll ds = true → DpAll K H vs ds
  | _, _, .nil, _ => .nil
  | _, _, .cons h r, p => by
    obtain ⟨p1, p2⟩ := Bool.and_eq_true_iff.mp (by simpa only [PyData.plainAll] using p)
    exact .cons (Rp.dp s h p1) (RpL.dp s r p2)
end
theorem Sh.dp {v : V} {d : D} (s : Sub G H) (h : Sh K H G v d) (p : d.plain = true) : Dp K H v d := by
  rcases h with h | ⟨a, rfl, _, xs, ds, h1, h2, rfl⟩
  · exact h.dp s p
  · exact .lst (SqL.of h1) (h2.dp s (by simpa [PyData.plain] using p))
def rEqP (K : Frg) : R2 := fun x y H Q => ∃ d e, Dp K H x d ∧ Dp K H y e ∧ eqOk d e ∧ Q (.bl (PyData.eqv d e)) H
def rNeP (K : Frg) : R2 := fun x y H Q => ∃ d e, Dp K H x d ∧ Dp K H y e ∧ eqOk d e ∧ Q (.bl (!PyData.eqv d e)) H
theorem room_min {A : Around} {d e : D} (hu : A.units + 66 < cLine) (h : d.depth ≤ 64 ∨ e.depth ≤ 64) : A.units + min d.depth e.depth < cLine := by
  have h1 : min d.depth e.depth ≤ d.depth := Nat.min_le_left _ _
  have h2 : min d.depth e.depth ≤ e.depth := Nat.min_le_right _ _
  rcases h with h | h <;> omega
theorem o_eqP (hu : X.A.units + 66 < cLine) : OpR X (compareOp .Eq) (rEqP X.K) := fun pins s σ H x y v u Q I rx ry ⟨d, e, hd, he, ⟨p1, p2, dp⟩, q⟩ => by
  obtain ⟨as, r1⟩ := Dp.reads I d x v hd rx
  obtain ⟨bs, r2⟩ := Dp.reads I e y u he ry
  exact PySem.SeqAt.eq_plain r1 r2 p1 p2 (room_min hu dp) ⟨.bl _, H, I, rfl, q⟩
theorem o_neP (hu : X.A.units + 66 < cLine) : OpR X (compareOp .NotEq) (rNeP X.K) := fun pins s σ H x y v u Q I rx ry ⟨d, e, hd, he, ⟨p1, p2, dp⟩, q⟩ => by
  obtain ⟨as, r1⟩ := Dp.reads I d x v hd rx
  obtain ⟨bs, r2⟩ := Dp.reads I e y u he ry
  exact PySem.SeqAt.ne_plain r1 r2 p1 p2 (room_min hu dp) ⟨.bl _, H, I, rfl, q⟩
theorem room66 {k : Nat} (hr : Room k X.A) : X.A.units + 66 < cLine := by
  have := hr.un
  omega
/-- == as eqv -/
theorem dEq_is {d e z : D} (h : dEq d e = .ok z) : eqOk d e ∧ z = .bool (PyData.eqv d e) := by
  have gen : (if eqOk d e then Out.ok (PyData.bool (PyData.eqv d e)) else .no) = .ok z → eqOk d e ∧ z = .bool (PyData.eqv d e) := fun h => if_ok h
  cases d with
  | int i =>
    cases e with
    | int j =>
      cases h
      refine ⟨⟨rfl, rfl, .inl (Nat.zero_le _)⟩, ?_⟩
      simp [PyData.eqv, Bool.beq_eq_decide_eq]
    | _ => exact gen h
  | str i =>
    cases e with
    | str j =>
      cases h
      refine ⟨⟨rfl, rfl, .inl (Nat.zero_le _)⟩, ?_⟩
      simp [PyData.eqv, Bool.beq_eq_decide_eq]
    | _ => exact gen h
  | _ => exact gen h
theorem d_eq : Op2 K (rEqP K) dEq := fun G H x y d e z Q s hx hy hf q => by
  obtain ⟨h1, rfl⟩ := dEq_is hf
  exact ⟨d, e, hx.dp s h1.1, hy.dp s h1.2.1, h1, q _ H G Ext.refl (.bl _)⟩
theorem d_ne : Op2 K (rNeP K) dNe := fun G H x y d e z Q s hx hy hf q => by
  obtain ⟨w, h1, h2⟩ := Out.bind_eq_ok (show (dEq d e).bind _ = _ from hf)
  obtain ⟨h3, rfl⟩ := dEq_is h1
  obtain ⟨b, h4, h5⟩ := Out.bind_eq_ok h2
  cases h4
  cases h5
  exact ⟨d, e, hx.dp s h3.1, hy.dp s h3.2.1, h3, q _ H G Ext.refl (.bl _)⟩
def rInP (K : Frg) (neg : Bool) : R2 := fun x y H Q => ∃ d es, Dp K H x d ∧ (Dp K H y (.list es) ∨ Dp K H y (.tuple es)) ∧ inOk d es ∧ Q (.bl (if neg then !(es.any fun y => PyData.eqv y d) else es.any fun y => PyData.eqv y d)) H
theorem room_in {A : Around} {d : D} {es : List D} (hu : A.units + 66 < cLine) (h : d.depth ≤ 64) : A.units + 1 + min (PyData.depthAll es) d.depth < cLine := by
  have h2 : min (PyData.depthAll es) d.depth ≤ d.depth := Nat.min_le_right _ _
  omega
theorem o_inP (hu : X.A.units + 66 < cLine) : OpR X (compareOp .In) (rInP X.K false) := fun pins s σ H x y v u Q I rx ry ⟨d, es, hd, hy, ⟨p1, p2, dp⟩, q⟩ => by
  obtain ⟨as, r1⟩ := Dp.reads I d x v hd rx
  rcases hy with hy | hy
  · obtain ⟨bs, r2⟩ := Dp.reads I _ y u hy ry
    exact PySem.SeqAt.in_list_data r2 r1 p2 p1 (room_in hu dp) ⟨.bl _, H, I, rfl, q⟩
  · obtain ⟨bs, r2⟩ := Dp.reads I _ y u hy ry
    exact PySem.SeqAt.in_tuple_data r2 r1 p2 p1 (room_in hu dp) ⟨.bl _, H, I, rfl, q⟩
theorem o_ninP (hu : X.A.units + 66 < cLine) : OpR X (compareOp .NotIn) (rInP X.K true) := fun pins s σ H x y v u Q I rx ry ⟨d, es, hd, hy, ⟨p1, p2, dp⟩, q⟩ => by
  obtain ⟨as, r1⟩ := Dp.reads I d x v hd rx
  rcases hy with hy | hy
  · obtain ⟨bs, r2⟩ := Dp.reads I _ y u hy ry
    exact PySem.SeqAt.notIn_list_data r2 r1 p2 p1 (room_in hu dp) ⟨.bl _, H, I, rfl, q⟩
  · obtain ⟨bs, r2⟩ := Dp.reads I _ y u hy ry
    exact PySem.SeqAt.notIn_tuple_data r2 r1 p2 p1 (room_in hu dp) ⟨.bl _, H, I, rfl, q⟩
theorem inL_is {d z : D} {es : List D} (h : inL d es = .ok z) : inOk d es ∧ z = .bool (es.any fun y => PyData.eqv y d) := if_ok h
theorem d_in : Op2 K (rInP K false) dIn := fun G H x y d e z Q s hx hy hf q => by
  cases e with
  | list es =>
    obtain ⟨h1, rfl⟩ := inL_is hf
    exact ⟨d, es, hx.dp s h1.1, .inl (hy.dp s (by simpa [PyData.plain] using h1.2.1)), h1, q _ H G Ext.refl (.bl _)⟩
  | tuple es =>
    obtain ⟨h1, rfl⟩ := inL_is hf
    exact ⟨d, es, hx.dp s h1.1, .inr (hy.dp s (by simpa [PyData.plain] using h1.2.1)), h1, q _ H G Ext.refl (.bl _)⟩
  | _ => cases hf
theorem d_nin : Op2 K (rInP K true) dNotIn := fun G H x y d e z Q s hx hy hf q => by
  obtain ⟨w, h1, h2⟩ := Out.bind_eq_ok (show (dIn d e).bind _ = _ from hf)
  obtain ⟨b, h4, h5⟩ := Out.bind_eq_ok h2
  cases h5
  cases e with
  | list es =>
    obtain ⟨h6, rfl⟩ := inL_is h1
    cases h4
    exact ⟨d, es, hx.dp s h6.1, .inl (hy.dp s (by simpa [PyData.plain] using h6.2.1)), h6, q _ H G Ext.refl (.bl _)⟩
  | tuple es =>
    obtain ⟨h6, rfl⟩ := inL_is h1
    cases h4
    exact ⟨d, es, hx.dp s h6.1, .inr (hy.dp s (by simpa [PyData.plain] using h6.2.1)), h6, q _ H G Ext.refl (.bl _)⟩
  | _ => cases h1
/-! < of ints, texts, tuples, lists -/
def rLtP (K : Frg) : R2 := fun x y H Q => ∃ d e, Dp K H x d ∧ Dp K H y e ∧ PySem.W.alike d e = true ∧ d ≠ .none ∧ d.depth ≤ 64 ∧ Q (.bl (PySem.W.dataLt d e)) H
theorem o_ltP (hu : X.A.units + 66 < cLine) : OpR X (compareOp .Lt) (rLtP X.K) := fun pins s σ H x y v u Q I rx ry ⟨d, e, hd, he, h1, h2, h3, q⟩ => by
  obtain ⟨as, r1⟩ := Dp.reads I d x v hd rx
  obtain ⟨bs, r2⟩ := Dp.reads I e y u he ry
  exact PySem.W.lt_data r1 r2 h1 h2 (room_min hu (.inl h3)) ⟨.bl _, H, I, rfl, q⟩
abbrev rLtU (K : Frg) : R2 := fun x y H Q => rI0 (fun i j => .bl (decide (i < j))) x y H Q ∨ (rLtS x y H Q ∨ rLtP K x y H Q)
theorem u_lt (hu : X.A.units + 66 < cLine) : OpR X (compareOp .Lt) (rLtU X.K) := op_lt.or (op_lt_str.or (o_ltP hu))
theorem d_lt : Op2 K (rLtU K) dLt := fun G H x y d e z Q s hx hy hf q => by
  cases d with
  | int i =>
    cases e with
    | int j =>
      cases hf
      rw [hx.int, hy.int]
      exact .inl ⟨i, j, rfl, rfl, q _ H G Ext.refl (.bl _)⟩
    | _ => cases hf
  | str i =>
    cases e with
    | str j =>
      cases hf
      rw [hx.str, hy.str]
      exact .inr (.inl ⟨i, j, rfl, rfl, q _ H G Ext.refl (.bl _)⟩)
    | _ => cases hf
  | list i =>
    cases e with
    | list j =>
      obtain ⟨⟨h1, h2, h3, h4⟩, rfl⟩ := if_ok (show ltD _ _ = _ from hf)
      exact .inr (.inr ⟨_, _, hx.dp s h2, hy.dp s h3, h1, (fun z => nomatch z), h4, q _ H G Ext.refl (.bl _)⟩)
    | _ => cases hf
  | tuple i =>
    cases e with
    | tuple j =>
      obtain ⟨⟨h1, h2, h3, h4⟩, rfl⟩ := if_ok (show ltD _ _ = _ from hf)
      exact .inr (.inr ⟨_, _, hx.dp s h2, hy.dp s h3, h1, (fun z => nomatch z), h4, q _ H G Ext.refl (.bl _)⟩)
    | _ => cases hf
  | _ => cases hf
abbrev rLeS : R2 := fun x y H Q => ∃ i j, x = .str i ∧ y = .str j ∧ Q (.bl (!decide (j.cps.toList < i.cps.toList))) H
theorem d_le : Op2 K (rI0 fun i j => .bl (decide (i ≤ j))) dLe := fun G H x y d e z Q s hx hy hf q => by
  cases d with
  | int i =>
    cases e with
    | int j =>
      cases hf
      rw [hx.int, hy.int]
      exact ⟨i, j, rfl, rfl, q _ H G Ext.refl (.bl _)⟩
    | _ => cases hf
  | _ => cases hf

/-! ### is -/
theorem d_isN : Op2 K (fun x y H Q => y = .non ∧ Q (.bl (decide (x = .non))) H) dIs2 := fun G H x y d e z Q s hx hy hf q => by
  cases e with
  | none =>
    refine ⟨hy.non, ?_⟩
    have : z = .bool (decide (x = .non)) := by
      cases d with
      | none => cases hf; rw [hx.non]; rfl
      | bool b => cases hf; rw [hx.bl]; rfl
      | int b => cases hf; rw [hx.int]; rfl
      | str b => cases hf; rw [hx.str]; rfl
      | list b => cases hf; obtain ⟨a, _, rfl, _⟩ := hx.lst s; rfl
      | tuple b => cases hf; obtain ⟨a, _, rfl, _⟩ := hx.tup s; rfl
      | dict b =>
        cases hf
        have : x ≠ .non := by
          rintro rfl
          rcases hx with hx | ⟨a, e, _⟩
          · cases hx
          · cases e
        rw [decide_eq_false this]
    rw [this] at q
    exact q _ H G Ext.refl (.bl _)
  | _ => cases hf
theorem d_isnN : Op2 K (fun x y H Q => y = .non ∧ Q (.bl (!decide (x = .non))) H) dIsn2 := fun G H x y d e z Q s hx hy hf q => by
  cases e with
  | none =>
    refine ⟨hy.non, ?_⟩
    have : z = .bool (!decide (x = .non)) := by
      cases d with
      | none => cases hf; rw [hx.non]; rfl
      | bool b => cases hf; rw [hx.bl]; rfl
      | int b => cases hf; rw [hx.int]; rfl
      | str b => cases hf; rw [hx.str]; rfl
      | list b => cases hf; obtain ⟨a, _, rfl, _⟩ := hx.lst s; rfl
      | tuple b => cases hf; obtain ⟨a, _, rfl, _⟩ := hx.tup s; rfl
      | dict b =>
        cases hf
        have : x ≠ .non := by
          rintro rfl
          rcases hx with hx | ⟨a, e, _⟩
          · cases hx
          · cases e
        rw [decide_eq_false this]; rfl
    rw [this] at q
    exact q _ H G Ext.refl (.bl _)
  | _ => cases hf
theorem d_isB : Op2 K rIsB dIsB := fun G H x y d e z Q s hx hy hf q => by
  cases d with
  | bool i =>
    cases e with
    | bool j =>
      cases hf
      rw [hx.bl, hy.bl]
      exact ⟨i, j, rfl, rfl, q _ H G Ext.refl (.bl _)⟩
    | _ => cases hf
  | _ => cases hf
theorem d_isnB : Op2 K rNotB dIsnB := fun G H x y d e z Q s hx hy hf q => by
  cases d with
  | bool i =>
    cases e with
    | bool j =>
      cases hf
      rw [hx.bl, hy.bl]
      exact ⟨i, j, rfl, rfl, q _ H G Ext.refl (.bl _)⟩
    | _ => cases hf
  | _ => cases hf

/-! ### subscripts -/
theorem atL_same {α : Type} (xs : List α) (i : Int) : atL xs i = L2.atI xs i := rfl
theorem oOf_ok {α : Type} {o : Option α} {x : α} (h : oOf o = .ok x) : o = some x := by
  cases o with
  | none => cases h
  | some y => cases h; rfl
theorem RpL.atI {xs : List V} {ds : List D} (r : RpL K G xs ds) {i : Int} {d : D} (h : atL ds i = some d) : ∃ v, L2.atI xs i = some v ∧ Rp K G v d := by
  rw [atL_same] at h
  unfold L2.atI at h ⊢
  rw [r.length]
  cases q : L2.ixN ds.length i with
  | none => rw [q] at h; cases h
  | some j =>
    rw [q] at h
    obtain ⟨v, h1, h2⟩ := r.get (i := j) h
    exact ⟨v, h1, h2⟩
theorem d_ix : Op2 K (rIx K) dIx := fun G H x y d e z Q s hx hy hf q => by
  cases d with
  | list ds =>
    cases e with
    | int i =>
      obtain ⟨a, xs, rfl, h1, h2⟩ := hx.lst s
      obtain ⟨v, h3, h4⟩ := h2.atI (oOf_ok hf)
      rw [hy.int]
      exact .inl ⟨a, xs, i, v, rfl, rfl, SqL.of h1, h3, q _ H G Ext.refl h4⟩
    | _ => cases hf
  | tuple ds =>
    cases e with
    | int i =>
      obtain ⟨a, xs, rfl, h1, _, h2⟩ := hx.tup s
      obtain ⟨v, h3, h4⟩ := h2.atI (oOf_ok hf)
      rw [hy.int]
      exact .inr (.inl ⟨a, xs, i, v, rfl, rfl, SqT.of h1, h3, q _ H G Ext.refl h4⟩)
    | _ => cases hf
  | str w =>
    cases e with
    | int i =>
      have hf : (if w.length ≤ lineN then (oOf (atL w.cps.toList i)).bind fun c => Out.ok (PyData.str ⟨#[c]⟩) else .no) = .ok z := hf
      by_cases h1 : w.length ≤ lineN
      · rw [if_pos h1] at hf
        obtain ⟨c, h2, h3⟩ := Out.bind_eq_ok hf
        cases h3
        rw [hx.str, hy.int]
        exact .inr (.inr ⟨w, i, c, rfl, rfl, by rw [← lineN_eq]; exact h1, oOf_ok h2, q _ H G Ext.refl (.str _)⟩)
      · rw [if_neg h1] at hf; cases hf
    | _ => cases hf
  | _ => cases hf
theorem sIx_same (n d : Nat) (o : Option Int) : PD.sIx n d o = HT.sIx n d o := by
  cases o with
  | none => rfl
  | some v => rfl
theorem cut_same (xs : List V) (lo hi : Option Int) : cutL xs lo hi = cutV xs lo hi := by
  unfold cutL cutV
  rw [sIx_same, sIx_same]
theorem RpL.cut {xs : List V} {ds : List D} (r : RpL K G xs ds) (lo hi : Option Int) : RpL K G (cutV xs lo hi) (cutL ds lo hi) := by
  rw [← cut_same]
  unfold cutL
  rw [r.length]
  exact (r.drop _).take _
abbrev rSlU (K : Frg) : V → Option Int → Option Int → Hp → VK → Prop := fun x lo hi H Q => rSlL K x lo hi H Q ∨ (rSlA K x lo hi H Q ∨ rSlS x lo hi H Q)
theorem u_cut : SlR X (rSlU X.K) := sl_list.or (sl_tupA.or sl_str)
theorem d_cut : OpS K (rSlU K) := fun G H x d z l h Q s hx hf q => by
  cases d with
  | list ds =>
    cases hf
    cases hx with
    | @lst b xs _ h1 h2 =>
      refine .inl ⟨_, _, rfl, SqL.of (s.lst h1), fun p np => ?_⟩
      have x := ext_new (o := .lst (cutV xs l h)) s np
      exact q _ _ _ x (.lst upd_same ((h2.cut l h).mono x.g))
  | tuple ds =>
    cases hf
    cases hx with
    | @tup b xs _ h1 h2 =>
      refine .inr (.inl ⟨_, _, rfl, SqT.of (s.tup h1), fun e => ?_, fun e p np => ?_⟩)
      · have : cutL ds l h = ds := by
          unfold cutL
          rw [← h2.length, sIx_same, sIx_same, e.1, e.2, List.drop_zero, Nat.sub_zero, h2.length, List.take_length]
        rw [this] at q
        exact q _ H G Ext.refl (.tup h1 h2)
      · have x := ext_new (o := .tup (cutV xs l h)) s np
        exact q _ _ _ x (.tup upd_same ((h2.cut l h).mono x.g))
  | str w =>
    obtain ⟨h1, rfl⟩ := if_ok (show (if w.length ≤ lineN then Out.ok (PyData.str ⟨(cutL w.cps.toList l h).toArray⟩) else .no) = .ok z from hf)
    cases hx
    refine .inr (.inr ⟨w, rfl, by rw [← lineN_eq]; exact h1, q _ H G Ext.refl ?_⟩)
    have : (⟨(cutL w.cps.toList l h).toArray⟩ : Str) = cutS w l h := by
      unfold cutL cutS
      rw [sIx_same, sIx_same]
      rfl
    rw [this]
    exact .str _
  | _ => cases hf

/-! ### built-in functions -/
abbrev rLenU (K : Frg) : List V → Hp → VK → Prop := fun xs H Q => ∃ x n, xs = [x] ∧ LenV K x H n ∧ Q (.int n) H
theorem d_len : OpC1 K (rLenU K) dLen1 := fun G H x d z Q s hx hf q => by
  cases d with
  | list ds =>
    cases hf
    obtain ⟨a, xs, rfl, h1, h2⟩ := hx.lst s
    refine ⟨_, xs.length, rfl, .inl ⟨xs, SqL.of h1, rfl⟩, ?_⟩
    rw [h2.length]
    exact q _ H G Ext.refl (.int _)
  | tuple ds =>
    cases hf
    obtain ⟨a, xs, rfl, h1, _, h2⟩ := hx.tup s
    refine ⟨_, xs.length, rfl, .inr ⟨xs, SqT.of h1, rfl⟩, ?_⟩
    rw [h2.length]
    exact q _ H G Ext.refl (.int _)
  | str w =>
    obtain ⟨h1, rfl⟩ := if_ok (show (if w.length ≤ lineN then Out.ok (PyData.int w.length) else .no) = .ok z from hf)
    rw [hx.str]
    exact ⟨_, w.length, rfl, ⟨by rw [← lineN_eq]; exact h1, rfl⟩, q _ H G Ext.refl (.int _)⟩
  | _ => cases hf
theorem d_abs : OpC1 K (fun xs H Q => ∃ i, xs = [.int i] ∧ Q (.int (if i < 0 then -i else i)) H) dAbs := fun G H x d z Q s hx hf q => by
  cases d with
  | int i =>
    cases hf
    rw [hx.int]
    exact ⟨i, rfl, q _ H G Ext.refl (.int _)⟩
  | _ => cases hf
theorem d_max2 : OpC2 K (fun xs H Q => ∃ i j, xs = [.int i, .int j] ∧ Q (.int (if j > i then j else i)) H) dMax2 := fun G H x y d e z Q s hx hy hf q => by
  cases d with
  | int i =>
    cases e with
    | int j =>
      cases hf
      rw [hx.int, hy.int]
      exact ⟨i, j, rfl, q _ H G Ext.refl (.int _)⟩
    | _ => cases hf
  | _ => cases hf
theorem d_min2 : OpC2 K (fun xs H Q => ∃ i j, xs = [.int i, .int j] ∧ Q (.int (if j < i then j else i)) H) dMin2 := fun G H x y d e z Q s hx hy hf q => by
  cases d with
  | int i =>
    cases e with
    | int j =>
      cases hf
      rw [hx.int, hy.int]
      exact ⟨i, j, rfl, q _ H G Ext.refl (.int _)⟩
    | _ => cases hf
  | _ => cases hf
theorem d_gcd : OpC2 K rGcd dGcd := fun G H x y d e z Q s hx hy hf q => by
  cases d with
  | int i =>
    cases e with
    | int j =>
      cases hf
      rw [hx.int, hy.int]
      exact ⟨i, j, rfl, q _ H G Ext.refl (.int _)⟩
    | _ => cases hf
  | _ => cases hf
theorem d_int1 : OpC1 K (fun xs H Q => (∃ i, xs = [.int i] ∧ Q (.int i) H) ∨ ∃ k, xs = [.bl k] ∧ Q (.int (if k then 1 else 0)) H) dInt1 := fun G H x d z Q s hx hf q => by
  cases d with
  | int i =>
    cases hf
    rw [hx.int]
    exact .inl ⟨i, rfl, q _ H G Ext.refl (.int _)⟩
  | bool i =>
    cases hf
    rw [hx.bl]
    exact .inr ⟨i, rfl, q _ H G Ext.refl (.int _)⟩
  | _ => cases hf
theorem d_sum : OpC1 K (rSum K) dSum1 := fun G H x d z Q s hx hf q => by
  cases d with
  | list ds =>
    obtain ⟨is, h1, h2⟩ := Out.bind_eq_ok (show (intsOf ds).bind _ = _ from hf)
    cases h2
    obtain ⟨a, xs, rfl, h3, h4⟩ := hx.lst s
    exact ⟨a, is, rfl, by rw [← h4.ints h1]; exact SqL.of h3, q _ H G Ext.refl (.int _)⟩
  | _ => cases hf
theorem d_all : OpC1 K (rAll K) dAll1 := fun G H x d z Q s hx hf q => by
  cases d with
  | list ds =>
    obtain ⟨is, h1, h2⟩ := Out.bind_eq_ok (show (boolsOf ds).bind _ = _ from hf)
    cases h2
    obtain ⟨a, xs, rfl, h3, h4⟩ := hx.lst s
    exact ⟨a, is, rfl, by rw [← h4.bools h1]; exact SqL.of h3, q _ H G Ext.refl (.bl _)⟩
  | _ => cases hf
theorem d_any : OpC1 K (rAny K) dAny1 := fun G H x d z Q s hx hf q => by
  cases d with
  | list ds =>
    obtain ⟨is, h1, h2⟩ := Out.bind_eq_ok (show (boolsOf ds).bind _ = _ from hf)
    cases h2
    obtain ⟨a, xs, rfl, h3, h4⟩ := hx.lst s
    exact ⟨a, is, rfl, by rw [← h4.bools h1]; exact SqL.of h3, q _ H G Ext.refl (.bl _)⟩
  | _ => cases hf
abbrev rTupU (K : Frg) : List V → Hp → VK → Prop := fun xs H Q => ∃ p ys, xs = [.ref p] ∧ ((SqL K H p ys ∧ ∀ l, H l = none → Q (.ref l) (upd H l (.tup ys))) ∨ (SqT K H p ys ∧ Q (.ref p) H))
theorem d_tuple : OpC1 K (rTupU K) dTuple1 := fun G H x d z Q s hx hf q => by
  cases d with
  | list ds =>
    cases hf
    obtain ⟨a, xs, rfl, h1, h2⟩ := hx.lst s
    refine ⟨a, xs, rfl, .inl ⟨SqL.of h1, fun p np => ?_⟩⟩
    have x := ext_new (o := .tup xs) s np
    exact q _ _ _ x (.tup upd_same (h2.mono x.g))
  | tuple ds =>
    cases hf
    obtain ⟨a, xs, rfl, h1, g1, h2⟩ := hx.tup s
    exact ⟨a, xs, rfl, .inr ⟨SqT.of h1, q _ H G Ext.refl (.tup g1 h2)⟩⟩
  | _ => cases hf
abbrev rListU (K : Frg) : List V → Hp → VK → Prop := fun xs H Q => ∃ p ys, xs = [.ref p] ∧ (SqL K H p ys ∨ SqT K H p ys) ∧ ∀ l, H l = none → Q (.ref l) (upd H l (.lst ys))
theorem d_list : OpC1 K (rListU K) dList1 := fun G H x d z Q s hx hf q => by
  cases d with
  | list ds =>
    cases hf
    obtain ⟨a, xs, rfl, h1, h2⟩ := hx.lst s
    refine ⟨a, xs, rfl, .inl (SqL.of h1), fun p np => ?_⟩
    have x := ext_new (o := .lst xs) s np
    exact q _ _ _ x (.lst upd_same (h2.mono x.g))
  | tuple ds =>
    cases hf
    obtain ⟨a, xs, rfl, h1, g1, h2⟩ := hx.tup s
    refine ⟨a, xs, rfl, .inr (SqT.of h1), fun p np => ?_⟩
    have x := ext_new (o := .lst xs) s np
    exact q _ _ _ x (.lst upd_same (h2.mono x.g))
  | dict kvs =>
    rcases hx with hx | ⟨_, _, _, _, _, _, _, e⟩
    · cases hx with
      | @scr b xs _ h1 h2 =>
        cases hf
        refine ⟨_, _, rfl, .inl (s.seqL h1), fun p np => ?_⟩
        have x := ext_new (o := .lst xs) s np
        exact q _ _ _ x (.lst upd_same (h2.mono x.g))
    · cases e
  | _ => cases hf

/-! ### isinstance -/
def tyD : D → String
  | .none => "NoneType"
  | .bool _ => "bool"
  | .int _ => "int"
  | .str _ => "str"
  | .list _ => "list"
  | .tuple _ => "tuple"
  | .dict _ => "dict"
/-- which kinds a built-in type takes -/
structure KitT (K : Frg) (T : String) : Prop where
  non : PySem.W.kitOne K (.type "NoneType") (.type T) = some false
  bl : PySem.W.kitOne K (.type "bool") (.type T) = some (T == "int" || T == "bool")
  int : PySem.W.kitOne K (.type "int") (.type T) = some (T == "int")
  str : PySem.W.kitOne K (.type "str") (.type T) = some (T == "str")
  lst : PySem.W.kitOne K (.type "list") (.type T) = some (T == "list")
  tup : PySem.W.kitOne K (.type "tuple") (.type T) = some (T == "tuple")
theorem kit_int : KitT K "int" := ⟨kit_ty (by decide +kernel), kit_ty (by decide +kernel), kit_ty (by decide +kernel), kit_ty (by decide +kernel), kit_ty (by decide +kernel), kit_ty (by decide +kernel)⟩
theorem kit_bool : KitT K "bool" := ⟨kit_ty (by decide +kernel), kit_ty (by decide +kernel), kit_ty (by decide +kernel), kit_ty (by decide +kernel), kit_ty (by decide +kernel), kit_ty (by decide +kernel)⟩
theorem kit_str : KitT K "str" := ⟨kit_ty (by decide +kernel), kit_ty (by decide +kernel), kit_ty (by decide +kernel), kit_ty (by decide +kernel), kit_ty (by decide +kernel), kit_ty (by decide +kernel)⟩
theorem kit_tuple : KitT K "tuple" := ⟨kit_ty (by decide +kernel), kit_ty (by decide +kernel), kit_ty (by decide +kernel), kit_ty (by decide +kernel), kit_ty (by decide +kernel), kit_ty (by decide +kernel)⟩
theorem kit_list : KitT K "list" := ⟨kit_ty (by decide +kernel), kit_ty (by decide +kernel), kit_ty (by decide +kernel), kit_ty (by decide +kernel), kit_ty (by decide +kernel), kit_ty (by decide +kernel)⟩
variable {a : Expr} {ma : M D} {pos p p2 : Pos}
theorem se_isi {T : String} {y : Str} (kt : KitT X.K T) (hg : Gl X "isinstance") (hm : X.mg "isinstance" = none) (hg2 : Gl X y) (hm2 : X.mg y = none) (hv2 : bootBuiltins y = some (.type T)) (ha : SE X W .v a ma) (hn2 : y ≠ "__name__" := by decide) (hd2 : (y == ("__debug__" : Str)) = false := by decide)
    (he : starEach [a, .Name y p2] X.env = (false, eval a X.env) :: starEach [.Name y p2] X.env := by rfl) (hpl : (backTo pos (starEach [.Name y p2] X.env)).any (·.1) = false := by rfl) : SE X W .v (.Call (.Name "isinstance" p) [a, .Name y p2] [] pos) (m1 (dIsi T) ma) :=
  (pe_callB call_isi hg hm (by decide +kernel) (pa_cons ha (pa_cons (pe_bltn (v := .ty T) hg2 hm2 hv2 rfl hn2 hd2) pa_nil rfl) he) (by decide) (by decide) he hpl).imp fun σ H Q ⟨B, G, e, A, d, e', hm, q⟩ => by
    obtain ⟨x, e1, h1, h2⟩ := mBind_ok hm
    obtain ⟨h3, e3⟩ := mLift_ok h2
    subst e3
    obtain ⟨b, h4, h5⟩ := Out.bind_eq_ok (show (isKind T x).bind _ = _ from h3)
    cases h5
    refine ⟨B, G, e, A, x, _, h1, fun v H1 G1 s1 A1 r1 => ?_⟩
    have fin : ∀ (t : Value), TyX X.K H1 v t → PySem.W.kitOne X.K t (.type T) = some b → rIsi X.K [v, .ty T] H1 Q := fun t h6 h7 => ⟨v, .ty T, t, .type T, b, rfl, .ty T, h6, h7, q _ H1 G1 s1 A1 (.bl b)⟩
    cases x with
    | none => cases h4; cases (show Rp X.K G1 v .none from r1); exact fin _ (.base .non) kt.non
    | bool i => cases h4; cases (show Rp X.K G1 v (.bool i) from r1); exact fin _ (.base (.bl i)) kt.bl
    | int i => cases h4; cases (show Rp X.K G1 v (.int i) from r1); exact fin _ (.base (.int i)) kt.int
    | str i => cases h4; cases (show Rp X.K G1 v (.str i) from r1); exact fin _ (.base (.str i)) kt.str
    | list i =>
      cases h4
      cases (show Rp X.K G1 v (.list i) from r1) with
      | lst h6 h7 => exact fin _ (.base (.lst (A1.sub.lst h6))) kt.lst
    | tuple i =>
      cases h4
      cases (show Rp X.K G1 v (.tuple i) from r1) with
      | tup h6 h7 => exact fin _ (.base (.tup (A1.sub.tup h6))) kt.tup
    | dict i => cases h4
/-! ### a module's constant -/
theorem se_gint {x : Str} {i : Int} {t : Tok} (hg : Gl X x) (hm : X.mg x = some (.int i t)) (hd : (x == ("__debug__" : Str)) = false := by decide) : SE X W .v (.Name x pos) (mC (.int i)) := se_c (pe_glob (v := .int i) hg hm ⟨t, rfl⟩ hd) fun _ => .int i
theorem se_gstr {x z : Str} {t : Tok} (hg : Gl X x) (hm : X.mg x = some (.str z t)) (hd : (x == ("__debug__" : Str)) = false := by decide) : SE X W .v (.Name x pos) (mC (.str z)) := se_c (pe_glob (v := .str z) hg hm ⟨t, rfl⟩ hd) fun _ => .str z
end
end PD

set_option autoImplicit false
set_option linter.all false
set_option maxRecDepth 100000
set_option maxHeartbeats 4000000
/-! PdQ: a def as a datum of its own, the head's facts, a law's end. -/
namespace PD
open PySem PySem.Spec PyProof.Rows L2

/-! ### tuple(range(..)), list(range(..)) -/
section
variable {X : Cx} {W : Ow} {a b : Expr} {ma mb : M D} {pos p pos2 p2 : Pos}
theorem rpl_rg {K : Frg} {G : Hp} (i j : Int) : RpL K G (rgV i j) (rgL i (j - i).toNat) := by
  unfold rgV rgL
  generalize List.range (j - i).toNat = l
  induction l with
  | nil => exact .nil
  | cons x r ih => exact .cons (.int _) ih
theorem rgL_len (i : Int) (n : Nat) : (rgL i n).length = n := by unfold rgL; rw [List.length_map, List.length_range]
theorem rgBig_ok {xs ys : List D} (h : rgBig xs = .ok ys) : ys = xs ∧ xs.length ≤ lineN := by
  have h : (if xs.length ≤ lineN then Out.ok xs else .no) = .ok ys := h
  obtain ⟨h1, h2⟩ := if_ok h
  exact ⟨h2, h1⟩
theorem rgOk_of {i j : Int} (w : walkOk i j) (h : (rgL i (j - i).toNat).length ≤ lineN) : RgOk i j := by
  rw [rgL_len] at h
  obtain ⟨h1, h2, h3, h4⟩ := w
  have e : lineN = 2 ^ 24 := by decide
  exact ⟨h1, h2, h3, h4, by omega⟩
def tR (K : Frg) (W : Ow) (m : M (List D)) : L2.St → Hp → (Int → Int → Hp → Prop) → Prop := fun σ H Q => ∃ B G e, Abs K W B G σ H e ∧ ∃ ds e', m e = .ok (ds, e') ∧ ∀ i j H' G', Same G G' → Abs K W B G' σ H' e' → walkOk i j → ds = rgL i (j - i).toNat → Q i j H'
theorem pr_imp {e : Expr} {t t' : L2.St → Hp → (Int → Int → Hp → Prop) → Prop} (h : PRg X e t) (f : ∀ σ H Q, t' σ H Q → t σ H Q) : PRg X e t' := by
  intro s pins σ H Q I q
  exact h s pins σ H Q I (f _ _ _ q)
theorem sr_1 (hg : Gl X "range") (hm : X.mg "range" = none) (ha : SE X W .v a ma) (na : starEach [a] X.env = (false, eval a X.env) :: starEach [] X.env := by rfl) : PRg X (.Call (.Name "range" p) [a] [] pos) (tR X.K W (wRg1 ma)) :=
  pr_imp (prg_1 hg hm ha na) fun σ H Q ⟨B, G, e, A, ds, e', hm, q⟩ => by
    obtain ⟨x, e1, h1, h2⟩ := mBind_ok hm
    obtain ⟨h3, e3⟩ := mLift_ok h2
    subst e3
    obtain ⟨i, j, e4, rfl, w, rfl⟩ := iRg_ok h3
    cases e4
    refine ⟨B, G, e, A, _, _, h1, fun w1 H1 G1 s1 A1 r1 => ?_⟩
    cases (show Rp X.K G1 w1 (.int j) from r1)
    exact ⟨j, rfl, q 0 j H1 G1 s1 A1 w rfl⟩
theorem sr_2 (hg : Gl X "range") (hm : X.mg "range" = none) (ha : SE X W .v a ma) (hb : SE X W .v b mb) (na : starEach [a, b] X.env = (false, eval a X.env) :: starEach [b] X.env := by rfl) (nb : starEach [b] X.env = (false, eval b X.env) :: starEach [] X.env := by rfl) (hpl : (backTo pos (starEach [b] X.env)).any (·.1) = false := by rfl) : PRg X (.Call (.Name "range" p) [a, b] [] pos) (tR X.K W (wRg2 ma mb)) :=
  pr_imp (prg_2 hg hm ha hb na nb hpl) fun σ H Q ⟨B, G, e, A, ds, e', hm, q⟩ => by
    obtain ⟨x, e1, h1, h20⟩ := mBind_ok hm
    obtain ⟨y, e2, h2, h3⟩ := mBind_ok h20
    obtain ⟨h4, e4⟩ := mLift_ok h3
    subst e4
    obtain ⟨i, j, rfl, rfl, w, rfl⟩ := iRg_ok h4
    refine ⟨B, G, e, A, _, _, h1, fun w1 H1 G1 s1 A1 r1 => ⟨B, G1, _, A1, _, _, h2, fun w2 H2 G2 s2 A2 r2 => ?_⟩⟩
    cases (show Rp X.K G1 w1 (.int i) from r1)
    cases (show Rp X.K G2 w2 (.int j) from r2)
    exact ⟨i, j, rfl, rfl, q i j H2 G2 (s1.trans s2) A2 w rfl⟩
variable {e : Expr} {m : M (List D)}
theorem se_tupRg (hc : X.calm = true) (hg : Gl X "tuple") (hm : X.mg "tuple" = none) (he : PRg X e (tR X.K W m)) (na : starEach [e] X.env = (false, eval e X.env) :: starEach [] X.env := by rfl) : SE X W .v (.Call (.Name "tuple" p) [e] [] pos) (tupRg m) :=
  (pe_tupRg hc hg hm he na).imp fun σ H Q ⟨B, G, e, A, d, e', hm, q⟩ => by
    obtain ⟨ds, e1, h1, h2⟩ := mBind_ok hm
    obtain ⟨ys, e2, h2, h3⟩ := mBind_ok h2
    cases h3
    obtain ⟨h4, e4⟩ := mLift_ok h2
    subst e4
    obtain ⟨rfl, h5⟩ := rgBig_ok h4
    refine ⟨B, G, e, A, _, _, h1, fun i j H1 G1 s1 A1 w ed => ⟨rgOk_of w (by rw [← ed]; exact h5), fun p np => ?_⟩⟩
    have x := ext_new (o := .tup (rgV i j)) A1.sub np
    subst ed
    exact q _ _ _ (s1.trans x.g) (A1.ext x) (.tup upd_same ((rpl_rg i j).mono x.g))
theorem se_lstRg (hc : X.calm = true) (hg : Gl X "list") (hm : X.mg "list" = none) (he : PRg X e (tR X.K W m)) (na : starEach [e] X.env = (false, eval e X.env) :: starEach [] X.env := by rfl) : SE X W .o (.Call (.Name "list" p) [e] [] pos) (lstRg m) :=
  (pe_listRg hc hg hm he na).imp fun σ H Q ⟨B, G, e, A, d, e', hm, q⟩ => by
    obtain ⟨ds, e1, h1, h2⟩ := mBind_ok hm
    obtain ⟨ys, e2, h2, h3⟩ := mBind_ok h2
    cases h3
    obtain ⟨h4, e4⟩ := mLift_ok h2
    subst e4
    obtain ⟨rfl, h5⟩ := rgBig_ok h4
    refine ⟨B, G, e, A, _, _, h1, fun i j H1 G1 s1 A1 w ed => ⟨rgOk_of w (by rw [← ed]; exact h5), fun p np => ?_⟩⟩
    subst ed
    obtain ⟨A2, r2⟩ := new_own A1 (rpl_rg i j) np
    exact q _ _ _ s1 A2 r2
end

/-! ### a def -/
section
variable {P : Program} {w : World} {K : Frg} {mg : Str → Option Value} {base : Heap}
/-- the module's name x is a def that does what fn does, by calls of at most k levels -/
structure Def (P : Program) (w : World) (K : Frg) (mg : Str → Option Value) (base : Heap) (x : Str) (k : Nat) (κ : Kd) (io : List Bool) (fn : Fn) : Prop where
  ex : ∃ (f : Addr) (fd : FuncData) (ps : List Str), FnOk P w K mg base CX0 k f fd ps (spD K κ io fn) ∧ mg x = some (.ref f) ∧ PySem.W.keepIn K (.ref f) = true ∧ Binds K fd ps []
theorem Def.mono {x : Str} {j k : Nat} {κ : Kd} {io : List Bool} {fn : Fn} (D : Def P w K mg base x j κ io fn) (h : Nat.ble j k = true) : Def P w K mg base x k κ io fn :=
  let ⟨f, fd, ps, F, r⟩ := D.ex
  ⟨f, fd, ps, F.mono (Nat.le_of_ble_eq_true h), r⟩
/-- where a def of the text stands -/
structure At (K : Frg) (mg : Str → Option Value) (x : Str) (st : Stmt) (ps : List Str) : Prop where
  ex : ∃ (f : Addr) (fd : FuncData), FunD K x x (defArgs st) (defBody st) (defScope st) [] [] f fd ∧ mg x = some (.ref f) ∧ Binds K fd ps [] ∧ ∀ (s : Shared) (us : List Value), us.length = ps.length → BindsTo s fd ⟨us, []⟩ (ps.zip us)
theorem fnO {x : Str} {st : Stmt} {f : Addr} {fd : FuncData} {N ps : List Str} {k : Nat} {io : List Bool} {m : PD.S} {κ : Kd} {W : Ow} (F : FunD K x x (defArgs st) (defBody st) (defScope st) [] [] f fd) (S : FnScope N ps (defScope st)) (hp : io.length = ps.length) (hl : Nat.ble io.length N.length = true) (hio : ioOk W io = true) (hb : κ ≠ .b)
    (hbody : ∀ (cdv : Value) (A : Around) (outer : List PySem.Env) (s : Shared) (H : Hp) (E : XK), Room k (A.deeper (envOfC x (defScope st) s.heap.objs.size f cdv)) →
      SSs (cxOf CX0 P w K mg base N x (defScope st) f cdv A outer s H E).nox W κ (defBody st) m)
    (hnx : κ = .o → ∀ ds e, m ds ≠ .ok (.nx e)) : FnOk P w K mg base CX0 (k + 1) f fd ps (spD K κ io (runF N.length io m)) := by
  have hl := Nat.le_of_ble_eq_true hl
  refine F.ok S (fun vs H Q E h => h.1.trans hp) (fun cdv A outer s H vs Q E hr h => ?_)
  obtain ⟨hv, G, ds, r, outs, hs, hps, hnd, hf, q⟩ := h
  refine ⟨_, (hbody cdv A outer s H E hr).nox, ?_⟩
  obtain ⟨fl, h1, h2⟩ := Out.bind_eq_ok (show (m (ds.map some ++ List.replicate (N.length - ds.length) none)).bind _ = _ from hf)
  have A0 := abs_start (N := N) hl hio hs hps hnd
  refine ⟨_, G, _, A0, fl, h1, ?_⟩
  have le : ∀ {σ' : L2.St} {H' G' : Hp} {e : PD.Env}, Abs K W ⟨H, G, fun a => a ∈ ownA io vs, L2.start N vs⟩ G' σ' H' e → io.length ≤ e.length := fun {σ' H' G' e} A' => by
    rw [A'.len, A'.ln]
    show io.length ≤ (L2.start N vs).length
    unfold L2.start
    rw [List.length_append, List.length_map, List.length_replicate, hv]
    omega
  cases fl with
  | rt d e =>
    cases h2
    intro v σ' H' G' s' A' r'
    exact q v H' G' (ret_of hl hv hio rfl (le A') A' r' hb)
  | nx e =>
    cases h2
    intro σ' H' G' s' A'
    cases κ with
    | v => exact q .non H' G' (ret_of (κ := .v) hl hv hio rfl (le A') A' .non (by simp))
    | b => exact absurd rfl hb
    | o => exact absurd h1 (hnx rfl _ _)
  | bk e => cases h2
  | ct e => cases h2
/-- THE RULE: a def by its body's program -/
theorem defD {x : Str} {st : Stmt} {N ps : List Str} {k : Nat} {io : List Bool} {m : PD.S} {κ : Kd} {W : Ow} (T : At K mg x st ps) (S : FnScope N ps (defScope st)) (hp : io.length = ps.length) (hl : Nat.ble io.length N.length = true) (hio : ioOk W io = true) (hb : κ ≠ .b)
    (hbody : ∀ (f : Addr) (cdv : Value) (A : Around) (outer : List PySem.Env) (s : Shared) (H : Hp) (E : XK), Room k (A.deeper (envOfC x (defScope st) s.heap.objs.size f cdv)) →
      SSs (cxOf CX0 P w K mg base N x (defScope st) f cdv A outer s H E).nox W κ (defBody st) m)
    (hnx : κ = .o → ∀ ds e, m ds ≠ .ok (.nx e)) : Def P w K mg base x (k + 1) κ io (runF N.length io m) := by
  obtain ⟨f, fd, F, h1, h2, _⟩ := T.ex
  exact ⟨f, fd, ps, fnO F S hp hl hio hb (hbody f) hnx, h1, F.kp, h2⟩
/-- nothing is promised of a def whose program gives nothing -/
theorem defNo {x : Str} {st : Stmt} {ps : List Str} {k : Nat} {io : List Bool} {κ : Kd} (T : At K mg x st ps) (hp : io.length = ps.length) : Def P w K mg base x k κ io (fun _ => .no) := by
  obtain ⟨f, fd, F, h1, h2, _⟩ := T.ex
  refine ⟨f, fd, ps, ⟨fun vs H Q E h => h.1.trans hp, fun A outer s H args us vs Q E _ _ _ _ h => ?_⟩, h1, F.kp, h2⟩
  obtain ⟨_, _, _, _, _, _, _, _, h, _⟩ := h
  cases h
/-- a def that calls itself -/
theorem defFix {x : Str} {st : Stmt} {ps : List Str} {j : Nat} {io : List Bool} {κ : Kd} {b : Fn → Fn} (T : At K mg x st ps) (hp : io.length = ps.length)
    (step : ∀ (k : Nat) (fn : Fn), j ≤ k → Def P w K mg base x k κ io fn → Def P w K mg base x (k + 1) κ io (b fn)) : ∀ n, Def P w K mg base x (j + n) κ io (fixF b n)
  | 0 => defNo T hp
  | n + 1 => step (j + n) _ (Nat.le_add_right _ _) (defFix T hp step n)
end
section
variable {X : Cx} {W : Ow} {κ : Kd} {k : Nat} {fn : Fn} {x : Str} {p pos : Pos} {a : Expr} {es : List Expr} {as : List Ar}
theorem se_callD {io : List Bool} (D : Def X.prog X.w X.K X.mg X.base x k κ io fn) (hio : as.map Ar.isO = io) (hb : κ ≠ .b) (hr : Room k X.A) (hg : Gl X x) (ha : SA X W (a :: es) as) (hw : (slotsA as).all W.ow = true) (hn : (slotsA as).Nodup) (hdb : (x == ("__debug__" : Str)) = false := by decide)
    (he : starEach (a :: es) X.env = (false, eval a X.env) :: starEach es X.env := by rfl) (hpl : (backTo pos (starEach es X.env)).any (·.1) = false := by rfl) : SE X W κ (.Call (.Name x p) (a :: es) [] pos) (mCall fn as) := by
  subst hio
  obtain ⟨f, fd, ps, F, h1, h2, h3⟩ := D.ex
  exact se_call (E := E0) F hb hr hg h1 h2 h3 pass0 ha (fun i hi => List.all_eq_true.mp hw i hi) hn hdb he hpl
/-- f() -/
theorem se_callD0 (D : Def X.prog X.w X.K X.mg X.base x k κ [] fn) (hb : κ ≠ .b) (hr : Room k X.A) (hg : Gl X x) (hdb : (x == ("__debug__" : Str)) = false := by decide) : SE X W κ (.Call (.Name x p) [] [] pos) (mCall fn []) := by
  obtain ⟨f, fd, ps, F, h1, h2, h3⟩ := D.ex
  refine (pe_call0 (E := E0) F hr hg h1 h2 h3 .nil pass0 hdb).imp fun σ H Q ⟨B, G, e, A, d, e', h, q⟩ => ?_
  obtain ⟨p1, h1, h⟩ := Out.bind_eq_ok h
  cases h1
  obtain ⟨ds, h2, h⟩ := Out.bind_eq_ok h
  cases h2
  obtain ⟨p2, h3, h⟩ := Out.bind_eq_ok h
  cases h
  refine ⟨rfl, G, [], p2.1, p2.2, A.sub, trivial, List.nodup_nil, h3, fun v H' G' rt => ?_⟩
  refine q v H' G' rt.g (call_abs (as := []) (xs := []) (vs := []) (ds := []) (fun i hi => absurd hi (by simp [slotsA])) List.nodup_nil A .nil rfl rt) ?_
  cases κ with
  | v => exact rt.r
  | b => exact absurd rfl hb
  | o =>
    obtain ⟨a1, ea, ho, hc, hl⟩ := rt.r
    have hn : H a1 = none := hc.resolve_left (by simp [ownA])
    refine ⟨a1, ea, ho, ?_, fun i hi ⟨di, hli⟩ z => ?_⟩
    · by_cases hO : B.O a1
      · exact .inl hO
      · refine .inr ?_
        cases qq : B.H a1 with
        | none => rfl
        | some o =>
          have := A.keep a1 o qq hO
          rw [hn] at this; cases this
    · obtain ⟨a2, h4, ⟨_, ys, es', h5, _⟩, _⟩ := A.own i di hi hli
      rw [z] at h4; cases h4
      rw [hn] at h5; cases h5
end

/-! ### the head's facts -/
/-- names of the module that stand for built-in functions -/
abbrev Bf := Str × String
def bfB (K : Frg) (bs : List Bf) : Bool := bs.all fun p => He.eqO (PySem.W.nsIn K mainGlobals p.1) (some (some (.builtin p.2)))
abbrev AlE : Type := He.AlD × Bool
def obsE (fa : List He.Fa) (fn : List He.DefD) (bs : List Bf) (K : Frg) : AlE := (He.obsD fa fn K, bfB K bs)
def SaysE (fa : List He.Fa) (fn : List He.DefD) (bs : List Bf) (K : Frg) : Prop := obsE fa fn bs K = (He.valD fn, true)
def obsEG (n : Nat) (fa : List He.Fa) (fn : List He.DefD) (bs : List Bf) (g : Addr → Option Obj) : AlE := obsE fa fn bs (He.frG g (He.asD g n))
def hookE (n : Nat) (fa : List He.Fa) (fn : List He.DefD) (bs : List Bf) : PySem.W.Hook where
  α := AlE
  obs := fun s => obsEG n fa fn bs s.heap.get?
  val := fun _ => (He.valD fn, true)
  says := fun _ h => ∃ K : Frg, K.In h ∧ SaysE fa fn bs K
  of := fun _ _ e => ⟨_, He.frG_in, e⟩
  keeps := fun _ _ _ ⟨K, hK, c⟩ k => ⟨K, PySem.W.Frag.In.keeps hK k, c⟩
theorem obsEG_eq {n : Nat} {fa : List He.Fa} {fn : List He.DefD} {bs : List Bf} {g : Addr → Option Obj} {s : Shared} (h : ∀ a, g a = s.heap.get? a) : obsEG n fa fn bs g = (hookE n fa fn bs).obs s := by
  have e : g = s.heap.get? := funext h
  rw [e]
  rfl
section
variable {fa : List He.Fa} {fn : List He.DefD} {bs : List Bf} {K : Frg} {h : Heap} {mg : Str → Option Value}
theorem SaysE.d (c : SaysE fa fn bs K) : He.SaysD fa fn K := congrArg (fun z : AlE => z.1) c
theorem SaysE.bf (c : SaysE fa fn bs K) (X : K.In h) (G : h.Ns mainGlobals mg) (i : Nat) {p : Bf} (hp : bs[i]? = some p := by rfl) : mg p.1 = some (.builtin p.2) := by
  have c1 : bfB K bs = true := congrArg (fun z : AlE => z.2) c
  exact PySem.W.mg_of X G (He.eqO_ok (List.all_eq_true.mp c1 p (List.mem_of_getElem? hp)))
/-- one def's place from the head -/
theorem at_of {x : Str} {st : Stmt} {ps : List Str} {f : Addr} {fd : FuncData} (X : K.In h) (G : h.Ns mainGlobals mg) (hf : f = He.ga K x) (F : FunD K x x (defArgs st) (defBody st) (defScope st) [] [] f fd) (g : (He.Fa.glo x).ok K = true)
    (hb : ∀ (kV doc pm : Value) (an : Option Addr) (cdv ct : Value) (us : List Value), us.length = ps.length → bindArgs (PySem.W.fnOf x x (defArgs st) (defBody st) (defScope st) .none kV doc pm an cdv ct) ⟨us, []⟩ = pure (ps.zip us)) : At K mg x st ps := by
  subst hf
  exact ⟨_, fd, F, He.glo_ok X G g, F.bindsN hb, fun s us hl => F.bindsA hb s us hl⟩
end

/-! ### a law's end -/
theorem rpl_ints {K : Frg} {G : Hp} : ∀ ns : List Int, RpL K G (ns.map V.int) (ns.map PyData.int)
  | [] => .nil
  | n :: ns => .cons (.int n) (rpl_ints ns)
theorem law_end {P : Program} {w : World} {K : Frg} {mg : Str → Option Value} {st : Stmt} {N : List Str} {m : PD.S} {W : Ow} {k : Nat} {fa : Addr} {h : Heap} (X : K.In h) (T : At K mg "law" st ["script"]) (hfa : mg "law" = some (.ref fa)) (S : FnScope N ["script"] (defScope st)) (hN : Nat.ble 1 N.length = true) (hio : ioOk W [false] = true)
    (hbody : ∀ (base : Heap) (f : Addr) (cdv : Value) (A : Around) (outer : List PySem.Env) (s : Shared) (H : Hp) (E : XK), Room k (A.deeper (envOfC "law" (defScope st) s.heap.objs.size f cdv)) →
      SSs (cxOf CX0 P w K mg base N "law" (defScope st) f cdv A outer s H E).nox W .v (defBody st) m)
    (hl : ∀ ns : List Int, ns.length ≤ 63 → ∃ outs, runF N.length [false] m [scr (ns.map PyData.int)] = .ok (.bool true, outs)) :
    ∃ (K : Frg) (fd : FuncData) (sp : Sp), K.In h ∧ (∀ (s : Shared) (u : Value), BindsTo s fd ⟨[u], []⟩ [("script", u)]) ∧ (∀ (H : Hp) (a : Addr) (ns : List Int), ns.length ≤ 63 → Only H → SqL K H a (ns.map V.int) → sp [.ref a] H (fun v _ => v = .bl true) fun _ _ _ => False) ∧
      ∀ base : Heap, K.In base → base.Ns mainGlobals mg → FnOk P w K mg base CX0 (k + 1) fa fd ["script"] sp := by
  obtain ⟨f, fd, F, h1, h2, h3⟩ := T.ex
  rw [h1] at hfa
  cases hfa
  refine ⟨K, fd, spD K .v [false] (runF N.length [false] m), X, fun s u => h3 s [u] rfl, fun H a ns hle _ hS => ?_, fun base _ _ => fnO F S rfl hN hio (by simp) (hbody base _) (fun z => nomatch z)⟩
  obtain ⟨outs, ho⟩ := hl ns hle
  refine ⟨rfl, H, [scr (ns.map PyData.int)], .bool true, outs, fun b o e => .inl e, ⟨.scr hS (rpl_ints ns), trivial⟩, by simp [ownA], ho, fun v H' G' rt => ?_⟩
  cases (show Rp K G' v (.bool true) from rt.r)
  rfl
end PD

set_option autoImplicit false
set_option linter.all false
/-! PdR: odds and ends of the data layer. -/
namespace PD
open PySem PySem.Spec PyProof.Rows L2

theorem call_strU {X : Cx} : CallR X (.type "str") (fun xs H Q => (∃ a, xs = [.str a] ∧ Q (.str a) H) ∨ ∃ i, xs = [.int i] ∧ i.natAbs.log2 < 1920 ∧ Q (.str (toString i)) H) := CallR.or SkE.call_str_str call_str_int
theorem d_str {K : Frg} : OpC1 K (fun xs H Q => (∃ a, xs = [.str a] ∧ Q (.str a) H) ∨ ∃ i, xs = [.int i] ∧ i.natAbs.log2 < 1920 ∧ Q (.str (toString i)) H) dStr1 := fun G H x d z Q s hx hf q => by
  cases d with
  | str a =>
    rw [hx.str]
    cases hf
    exact .inl ⟨a, rfl, q _ H G Ext.refl (.str _)⟩
  | int i =>
    rw [hx.int]
    simp only [dStr1] at hf
    split at hf
    · rename_i hz
      cases hf
      refine .inr ⟨i, rfl, ?_, q _ H G Ext.refl (.str _)⟩
      by_cases h0 : i.natAbs = 0
      · rw [h0]; decide
      · exact Nat.lt_succ_of_lt ((Nat.log2_lt h0).2 hz)
    · cases hf
  | _ => cases hf
theorem nodup1 (i : Nat) : [i].Nodup := by simp

/-! a block that never falls through -/
theorem rt_nonx {m : M D} (ds e : Env) : sRt m ds ≠ .ok (.nx e) := fun h => by
  obtain ⟨p, h1, h2⟩ := Out.bind_eq_ok h
  cases h2
theorem no_nonx (ds e : Env) : sNo ds ≠ .ok (.nx e) := fun h => by cases h
theorem seq_nonx {a b : S} (hb : ∀ ds e, b ds ≠ .ok (.nx e)) (ds e : Env) : sSeq a b ds ≠ .ok (.nx e) := fun h => by
  obtain ⟨f, h1, h2⟩ := Out.bind_eq_ok h
  cases f with
  | nx e1 => exact hb _ _ h2
  | rt d e1 => cases h2
  | bk e1 => cases h2
  | ct e1 => cases h2
theorem if_nonx {t : M Bool} {a b : S} (ha : ∀ ds e, a ds ≠ .ok (.nx e)) (hb : ∀ ds e, b ds ≠ .ok (.nx e)) (ds e : Env) : sIf t a b ds ≠ .ok (.nx e) := fun h => by
  obtain ⟨f, h1, h2⟩ := Out.bind_eq_ok h
  split at h2
  · exact ha _ _ h2
  · exact hb _ _ h2
end PD

set_option autoImplicit false
set_option linter.all false
set_option maxRecDepth 100000
set_option maxHeartbeats 4000000
/-! PdS: more operations: min, max, sorted of data. -/
namespace PD
open PySem PySem.Spec PyProof.Rows L2 RZ

section
variable {X : Cx} {W : Ow} {K : Frg} {G H : Hp}
theorem allAl_ok {xs : List D} (h : allAl xs = true) : PySem.W.AlikeAll xs := by
  unfold allAl at h
  obtain ⟨h1, h2⟩ := Bool.and_eq_true_iff.mp h
  refine ⟨fun x hx y hy => List.all_eq_true.mp (List.all_eq_true.mp h1 x hx) y hy, fun x hx e => ?_⟩
  have := List.all_eq_true.mp h2 x hx
  rw [e] at this
  cases this
theorem minD_mem (x : D) (xs : List D) : PySem.W.minD x xs ∈ x :: xs := by
  unfold PySem.W.minD
  induction xs generalizing x with
  | nil => simp
  | cons y r ih =>
    rw [List.foldl_cons]
    have := ih (if PySem.W.dataLt y x = true then y else x)
    split at this
    · rename_i h
      rw [if_pos h]
      rcases List.mem_cons.mp this with e | e
      · rw [e]; simp
      · simp [e]
    · rename_i h
      rw [if_neg h]
      rcases List.mem_cons.mp this with e | e
      · rw [e]; simp
      · simp [e]
theorem maxD_mem (x : D) (xs : List D) : PySem.W.maxD x xs ∈ x :: xs := by
  unfold PySem.W.maxD
  induction xs generalizing x with
  | nil => simp
  | cons y r ih =>
    rw [List.foldl_cons]
    have := ih (if PySem.W.dataLt x y = true then y else x)
    split at this
    · rename_i h
      rw [if_pos h]
      rcases List.mem_cons.mp this with e | e
      · rw [e]; simp
      · simp [e]
    · rename_i h
      rw [if_neg h]
      rcases List.mem_cons.mp this with e | e
      · rw [e]; simp
      · simp [e]
theorem vals_at {xs : List V} {us : List Value} (r : Vals xs us) : ∀ {i : Nat} {u : Value}, us[i]? = some u → ∃ x, xs[i]? = some x ∧ RelV x u := by
  induction r with
  | nil => intro i u h; simp at h
  | cons h1 _ ih =>
    intro i u h
    cases i with
    | zero =>
      cases h
      exact ⟨_, rfl, h1⟩
    | succ i => exact ih h
def rMM (K : Frg) (f : D → List D → D) : List V → Hp → VK → Prop := fun vs H Q => ∃ a ys d ds, vs = [V.ref a] ∧ (SqL K H a ys ∨ SqT K H a ys) ∧ DpAll K H ys (d :: ds) ∧ mmOk (d :: ds) ∧ ∀ (i : Nat) v, ys[i]? = some v → (d :: ds)[i]? = some (f d ds) → Q v H
theorem mm_end {pins : List (Addr × Obj)} {s : Shared} {σ : L2.St} {Q : VK} {ys : List V} {its : List Value} {d m : D} {ds : List D} {as : List Addr} (I : Inv X pins σ H s) (rv : Vals ys its) (hr : ReadsAll s.heap its (d :: ds) as) (ha : PySem.W.AlikeAll (d :: ds)) (hm : m ∈ d :: ds)
    (q : ∀ (i : Nat) v, ys[i]? = some v → (d :: ds)[i]? = some m → Q v H) (i : Nat) (v : Value) (h' : Heap) (tk : Nat) (bs : List Addr) (hv : its.toArray[i]? = some v) (r : Reads h' v m bs) (k : ∀ b o, s.heap.get? b = some o → h'.get? b = some o) : EP X pins σ Q v { s with heap := h', toks := tk } := by
  have hv2 : its[i]? = some v := by simpa using hv
  obtain ⟨x, h1, h2⟩ := vals_at rv hv2
  obtain ⟨bs', h3, h4, h5, _⟩ := PySem.W.readsAll_at hr i v hv2
  have e := PySem.W.alike_unique _ _ _ _ _ (ha.1 _ h5 _ hm) (PySem.W.reads_keeps k h3) r
  refine ⟨x, H, I.kept k, h2, q i x h1 ?_⟩
  rw [← e, List.getD_eq_getElem?_getD, List.getElem?_eq_getElem h4]
  rfl
theorem cr_minP (hc : X.calm = true) (hu : X.A.units + 66 < cLine) : CallR X (.builtin "min") (rMM X.K PySem.W.minD) := by
  intro pins s σ H vs us Q I r ⟨a, ys, d, ds, e, hs, hd, ⟨h1, h2, h3⟩, q⟩
  subst e
  have ha := allAl_ok h1
  have hu2 : X.A.units + 1 + PyData.depthAll (d :: ds) < cLine := by omega
  rcases hs with hs | hs
  · obtain ⟨its, rv, hl, _⟩ := I.list hs
    rw [Vals.ref1 r]
    obtain ⟨as, hr⟩ := Dp.readsAll I _ _ _ hd rv
    exact PySem.W.min_list_data (I.ok.hd hc) hl.isList (by simpa using hr) ha hu2 fun i v h' tk bs hv hr2 k => mm_end I rv hr ha (minD_mem d ds) q i v h' tk bs hv hr2 k
  · obtain ⟨its, rv, hl, _⟩ := I.tuple hs
    rw [Vals.ref1 r]
    obtain ⟨as, hr⟩ := Dp.readsAll I _ _ _ hd rv
    obtain ⟨o, o1, o2, n, o3⟩ := hl
    exact PySem.W.min_tuple_data (I.ok.hd hc) ⟨o, o1, o2, n, o3⟩ (by simpa using hr) ha hu2 fun i v h' tk bs hv hr2 k => mm_end I rv hr ha (minD_mem d ds) q i v h' tk bs hv hr2 k
theorem cr_maxP (hc : X.calm = true) (hu : X.A.units + 66 < cLine) : CallR X (.builtin "max") (rMM X.K PySem.W.maxD) := by
  intro pins s σ H vs us Q I r ⟨a, ys, d, ds, e, hs, hd, ⟨h1, h2, h3⟩, q⟩
  subst e
  have ha := allAl_ok h1
  have hu2 : X.A.units + 1 + PyData.depthAll (d :: ds) < cLine := by omega
  rcases hs with hs | hs
  · obtain ⟨its, rv, hl, _⟩ := I.list hs
    rw [Vals.ref1 r]
    obtain ⟨as, hr⟩ := Dp.readsAll I _ _ _ hd rv
    exact PySem.W.max_list_data (I.ok.hd hc) hl.isList (by simpa using hr) ha hu2 fun i v h' tk bs hv hr2 k => mm_end I rv hr ha (maxD_mem d ds) q i v h' tk bs hv hr2 k
  · obtain ⟨its, rv, hl, _⟩ := I.tuple hs
    rw [Vals.ref1 r]
    obtain ⟨as, hr⟩ := Dp.readsAll I _ _ _ hd rv
    obtain ⟨o, o1, o2, n, o3⟩ := hl
    exact PySem.W.max_tuple_data (I.ok.hd hc) ⟨o, o1, o2, n, o3⟩ (by simpa using hr) ha hu2 fun i v h' tk bs hv hr2 k => mm_end I rv hr ha (maxD_mem d ds) q i v h' tk bs hv hr2 k
theorem rpl_at {xs : List V} {ds : List D} (r : RpL K G xs ds) : ∀ {i : Nat} {v : V} {d : D}, xs[i]? = some v → ds[i]? = some d → Rp K G v d := by
  intro i v d h1 h2
  induction i generalizing xs ds with
  | zero =>
    cases r with
    | nil => simp at h1
    | cons r1 _ =>
      cases h1
      cases h2
      exact r1
  | succ i ih =>
    cases r with
    | nil => simp at h1
    | cons _ r2 => exact ih r2 h1 h2
theorem d_mm {f : D → List D → D} : OpC1 K (rMM K f) (mmD f) := fun G H x d z Q s hx hf q => by
  cases d with
  | list ds =>
    cases ds with
    | nil => cases hf
    | cons d ds =>
      obtain ⟨h1, rfl⟩ := if_ok hf
      obtain ⟨a, xs, rfl, h3, h4⟩ := hx.lst s
      exact ⟨a, xs, d, ds, rfl, .inl (SqL.of h3), h4.dp s h1.2.1, h1, fun i v k1 k2 => q _ H G Ext.refl (rpl_at h4 k1 k2)⟩
  | tuple ds =>
    cases ds with
    | nil => cases hf
    | cons d ds =>
      obtain ⟨h1, rfl⟩ := if_ok hf
      obtain ⟨a, xs, rfl, h3, g3, h4⟩ := hx.tup s
      exact ⟨a, xs, d, ds, rfl, .inr (SqT.of h3), h4.dp s h1.2.1, h1, fun i v k1 k2 => q _ H G Ext.refl (rpl_at h4 k1 k2)⟩
  | _ => cases hf
theorem d_minL : OpC1 K (rMM K PySem.W.minD) dMinL := d_mm
theorem d_maxL : OpC1 K (rMM K PySem.W.maxD) dMaxL := d_mm

/-! ### sorted -/
def rSortD (K : Frg) : List V → Hp → VK → Prop := fun vs H Q => ∃ a ys ds, vs = [V.ref a] ∧ SqL K H a ys ∧ DpAll K H ys ds ∧ srtOk ds ∧ ∀ p, H p = none → Q (.ref p) (upd H p (.lst (((ys.zip ds).mergeSort fun x y => leD x.2 y.2).map (·.1))))
theorem dp_len {ys : List V} {ds : List D} (h : DpAll K H ys ds) : ys.length = ds.length := by
  induction ds generalizing ys with
  | nil => cases h; rfl
  | cons d ds ih =>
    cases h with
    | cons _ r => rw [List.length_cons, List.length_cons, ih r]
theorem reads_each {h : Heap} : ∀ {us : List Value} {ys : List V} {ds : List D} {as : List Addr}, ReadsAll h us ds as → Vals ys us → PySem.W.EachIs (fun u (b : V × D) => RelV b.1 u) us (ys.zip ds) ∧ PySem.W.EachIs (fun u (b : V × D) => ∃ as, Reads h u b.2 as) us (ys.zip ds)
  | _, _, _, _, .nil, .nil => ⟨.nil, .nil⟩
  | _, _, _, _, .cons r rs, .cons v vs => by
    obtain ⟨h1, h2⟩ := reads_each rs vs
    exact ⟨.cons v h1, .cons ⟨_, r⟩ h2⟩
theorem each_vals : ∀ {us : List Value} {bs : List (V × D)}, PySem.W.EachIs (fun u (b : V × D) => RelV b.1 u) us bs → Vals (bs.map (·.1)) us
  | _, _, .nil => .nil
  | _, _, .cons h t => .cons h (each_vals t)
theorem depth_mem : ∀ {ds : List D} {d : D}, d ∈ ds → d.depth ≤ PyData.depthAll ds
  | x :: xs, d, h => by
    rw [PyData.depthAll]
    rcases List.mem_cons.mp h with rfl | h
    · exact Nat.le_max_left _ _
    · exact Nat.le_trans (depth_mem h) (Nat.le_max_right _ _)
theorem cr_sortD (hu : X.A.units + 66 < cLine) : CallR X (.builtin "sorted") (rSortD X.K) := by
  intro pins s σ H vs us Q I r ⟨a, ys, ds, e, hs, hd, ⟨h1, h2, h3, h4, h5⟩, q⟩
  subst e
  have ha := allAl_ok h1
  obtain ⟨its, rv, hl, hz⟩ := I.list hs
  rw [Vals.ref1 r]
  obtain ⟨as, hr⟩ := Dp.readsAll I _ _ _ hd rv
  obtain ⟨e1, e2⟩ := reads_each hr rv
  have len := dp_len hd
  have snd : (ys.zip ds).map Prod.snd = ds := List.map_snd_zip (by omega)
  refine PySem.W.sorted_data (bs := ys.zip ds) (enc := Prod.snd) hl.isList e1 e2 (by rw [snd]; exact fun x hx y hy => ha.1 x hx y hy) (by
    rw [snd]
    rcases h4 with h4 | h4
    · refine .inl fun d hd => ?_
      have := List.all_eq_true.mp h4 d hd
      cases d with
      | tuple xs =>
        cases xs with
        | nil => cases this
        | cons x r => exact ⟨x, r, rfl⟩
      | _ => cases this
    · refine .inr fun d hd => ?_
      have := List.all_eq_true.mp h4 d hd
      refine ⟨fun e => ?_, fun xs e => ?_⟩
      · rw [e] at this; cases this
      · rw [e] at this; cases this) (by rw [List.length_zip, lineN_eq] at *; omega) (fun b hb => ?_) fun out ho he => ?_
  · have : b.2 ∈ ds := by rw [← snd]; exact List.mem_map_of_mem hb
    have := depth_mem this
    omega
  · obtain ⟨ep, he'⟩ := PyProof.Rows.sortedAll_at s.heap its out.toArray
    have hlen : (((ys.zip ds).mergeSort fun x y => leD x.2 y.2).map (·.1)).length ≤ sizeLine := by
      rw [List.length_map, List.length_mergeSort, List.length_zip, ← lineN_eq]
      omega
    exact ⟨.ref _, upd H (s.heap.objs.size + 1) (.lst (((ys.zip ds).mergeSort fun x y => leD x.2 y.2).map (·.1))), I.laid (t' := s.toks) (fun _ _ => PyProof.Rows.sortedAll_old) (Nat.le_succ _) ⟨hlen, out, ep, each_vals he, he'⟩, rfl, q _ (I.hok.fresh (Nat.le_succ _))⟩
theorem rpl_zip : ∀ {ys : List V} {ds : List D}, RpL K G ys ds → ∀ b ∈ ys.zip ds, Rp K G b.1 b.2
  | _, _, .nil, b, hb => by simp at hb
  | _, _, .cons r rs, b, hb => by
    rw [List.zip_cons_cons] at hb
    rcases List.mem_cons.mp hb with rfl | hb
    · exact r
    · exact rpl_zip rs b hb
theorem rpl_of : ∀ {bs : List (V × D)}, (∀ b ∈ bs, Rp K G b.1 b.2) → RpL K G (bs.map (·.1)) (bs.map (·.2))
  | [], _ => .nil
  | b :: bs, h => .cons (h b (by simp)) (rpl_of fun c hc => h c (by simp [hc]))
theorem d_sortL : OpC1 K (rSortD K) dSortL := fun G H x d z Q s hx hf q => by
  cases d with
  | list ds =>
    obtain ⟨h1, rfl⟩ := if_ok hf
    obtain ⟨a, xs, rfl, h3, h4⟩ := hx.lst s
    refine ⟨a, xs, ds, rfl, SqL.of h3, h4.dp s h1.2.1, h1, fun p np => ?_⟩
    have x := ext_new (o := .lst (((xs.zip ds).mergeSort fun x y => leD x.2 y.2).map (·.1))) s np
    refine q _ _ _ x (.lst upd_same ?_)
    have e : ds.mergeSort leD = ((xs.zip ds).mergeSort fun x y => leD x.2 y.2).map (·.2) := by
      rw [List.map_mergeSort (s := leD) (fun _ _ _ _ => rfl), List.map_snd_zip (by rw [h4.length]; exact Nat.le_refl _)]
    rw [e]
    refine rpl_of fun b hb => Rp.mono x.g (rpl_zip h4 b ?_)
    exact (List.mergeSort_perm _ _).mem_iff.mp hb
  | _ => cases hf

/-! ### zip, enumerate -/
theorem zw_at {xs ys : List D} {i : Nat} {d : D} (h : (List.zipWith (fun x y => PyData.tuple [x, y]) xs ys)[i]? = some d) : ∃ x y, xs[i]? = some x ∧ ys[i]? = some y ∧ d = .tuple [x, y] := by
  rw [List.getElem?_zipWith] at h
  cases h1 : xs[i]? with
  | none => rw [h1] at h; cases h
  | some x =>
    cases h2 : ys[i]? with
    | none => rw [h1, h2] at h; cases h
    | some y =>
      rw [h1, h2] at h
      cases h
      exact ⟨x, y, rfl, rfl, rfl⟩
theorem jok_zip {a b : Addr} {xs ys : List V} {ds es : List D} (h1 : G a = some (.lst xs)) (r1 : RpL K G xs ds) (h2 : G b = some (.lst ys)) (r2 : RpL K G ys es) : JOk K G (List.zipWith (fun x y => .tuple [x, y]) ds es) (Itz K a b) := fun i G1 H1 s b => by
  have q1 := SqL.of (K := K) (b.lst (s _ _ h1))
  have q2 := SqL.of (K := K) (b.lst (s _ _ h2))
  refine ⟨fun d hd => ?_, fun hi => ?_⟩
  · obtain ⟨x, y, e1, e2, rfl⟩ := zw_at hd
    obtain ⟨w1, k1, p1⟩ := (r1.mono s).get e1
    obtain ⟨w2, k2, p2⟩ := (r2.mono s).get e2
    refine ⟨⟨xs, ys, w1, w2, q1, q2, k1, k2⟩, fun x H2 ⟨T, u, v, e3, np, e4, e5, e6⟩ => ?_⟩
    have := e5 xs q1
    rw [k1] at this
    cases this
    have := e6 ys q2
    rw [k2] at this
    cases this
    subst e3 e4
    have z := ext_new (o := .tup [w1, w2]) b np
    exact ⟨_, z, .tup upd_same (.cons (Rp.mono z.g p1) (.cons (Rp.mono z.g p2) .nil))⟩
  · refine ⟨xs, ys, q1, q2, ?_⟩
    rw [List.length_zipWith, ← r1.length, ← r2.length] at hi
    omega
theorem jok_zipT {a b : Addr} {xs ys : List V} {ds es : List D} (h1 : G a = some (.tup xs)) (r1 : RpL K G xs ds) (h2 : G b = some (.tup ys)) (r2 : RpL K G ys es) : JOk K G (List.zipWith (fun x y => .tuple [x, y]) ds es) (ItzT K a b) := fun i G1 H1 s b => by
  have q1 := SqT.of (K := K) (b.tup (s _ _ h1))
  have q2 := SqT.of (K := K) (b.tup (s _ _ h2))
  refine ⟨fun d hd => ?_, fun hi => ?_⟩
  · obtain ⟨x, y, e1, e2, rfl⟩ := zw_at hd
    obtain ⟨w1, k1, p1⟩ := (r1.mono s).get e1
    obtain ⟨w2, k2, p2⟩ := (r2.mono s).get e2
    refine ⟨⟨xs, ys, w1, w2, q1, q2, k1, k2⟩, fun x H2 ⟨T, u, v, e3, np, e4, e5, e6⟩ => ?_⟩
    have := e5 xs q1
    rw [k1] at this
    cases this
    have := e6 ys q2
    rw [k2] at this
    cases this
    subst e3 e4
    have z := ext_new (o := .tup [w1, w2]) b np
    exact ⟨_, z, .tup upd_same (.cons (Rp.mono z.g p1) (.cons (Rp.mono z.g p2) .nil))⟩
  · refine ⟨xs, ys, q1, q2, ?_⟩
    rw [List.length_zipWith, ← r1.length, ← r2.length] at hi
    omega
theorem jok_enum {a : Addr} {xs : List V} {ds : List D} (h1 : G a = some (.lst xs)) (r1 : RpL K G xs ds) : JOk K G (enumL ds) (Ite K a) := fun i G1 H1 s b => by
  have q1 := SqL.of (K := K) (b.lst (s _ _ h1))
  refine ⟨fun d hd => ?_, fun hi => ?_⟩
  · unfold enumL at hd
    rw [List.getElem?_zipWith] at hd
    cases e2 : ds[i]? with
    | none =>
      rw [e2] at hd
      cases h : (List.range ds.length)[i]? <;> rw [h] at hd <;> cases hd
    | some y =>
      have hlt := (List.getElem?_eq_some_iff.mp e2).1
      rw [e2, List.getElem?_range hlt] at hd
      cases hd
      obtain ⟨w2, k2, p2⟩ := (r1.mono s).get e2
      refine ⟨⟨xs, w2, q1, k2⟩, fun x H2 ⟨T, v, e3, np, e4, e5⟩ => ?_⟩
      have := e5 xs q1
      rw [k2] at this
      cases this
      subst e3 e4
      have z := ext_new (o := .tup [.int (i : Nat), w2]) b np
      exact ⟨_, z, .tup upd_same (.cons (.int _) (.cons (Rp.mono z.g p2) .nil))⟩
  · refine ⟨xs, q1, ?_⟩
    unfold enumL at hi
    rw [List.length_zipWith, List.length_range, ← r1.length] at hi
    omega
variable {a b : Expr} {ma mb : M D} {pos p tpos : Pos} {elts : List Expr} {kk : Nat}
theorem si_zip (hg : Gl X "zip") (hm : X.mg "zip" = none) (ha : SE X W .v a ma) (hb : SE X W .v b mb) (hs : starEach [a, b] X.env = (false, eval a X.env) :: starEach [b] X.env := by rfl) (hs2 : starEach [b] X.env = (false, eval b X.env) :: starEach [] X.env := by rfl) (hpl : (backTo pos (starEach [b] X.env)).any (·.1) = false := by rfl) :
    SI X W (.Tuple elts kk tpos) (.Call (.Name "zip" p) [a, b] [] pos) (wZip ma mb) :=
  (pi_zipA hg hm (pa_cons ha (pa_cons hb pa_nil hs2) hs) hs hpl).imp fun σ H R ⟨B, G, e, A, ds, e', hm, q⟩ => by
    obtain ⟨x, e1, h1, h20⟩ := mBind_ok hm
    obtain ⟨y, e2, h2, h3⟩ := mBind_ok h20
    obtain ⟨h4, e4⟩ := mLift_ok h3
    subst e4
    refine ⟨B, G, e, A, _, _, h1, fun w1 H1 G1 s1 A1 r1 => ⟨B, G1, _, A1, _, _, h2, fun w2 H2 G2 s2 A2 r2 => ?_⟩⟩
    cases x with
    | list xs =>
      cases y with
      | list ys =>
        cases h4
        cases (show Rp X.K G1 w1 (.list xs) from r1) with
        | lst h5 h6 =>
          cases (show Rp X.K G2 w2 (.list ys) from r2) with
          | lst h7 h8 => exact ⟨_, _, _, _, rfl, .inl ⟨SqL.of (A2.sub.lst (s2 _ _ h5)), SqL.of (A2.sub.lst h7), q _ _ G2 (s1.trans s2) A2 (jok_zip (s2 _ _ h5) (h6.mono s2) h7 h8)⟩⟩
      | _ => cases h4
    | tuple xs =>
      cases y with
      | tuple ys =>
        cases h4
        cases (show Rp X.K G1 w1 (.tuple xs) from r1) with
        | tup h5 h6 =>
          cases (show Rp X.K G2 w2 (.tuple ys) from r2) with
          | tup h7 h8 => exact ⟨_, _, _, _, rfl, .inr ⟨SqT.of (A2.sub.tup (s2 _ _ h5)), SqT.of (A2.sub.tup h7), q _ _ G2 (s1.trans s2) A2 (jok_zipT (s2 _ _ h5) (h6.mono s2) h7 h8)⟩⟩
      | _ => cases h4
    | _ => cases h4
theorem si_enum (hg : Gl X "enumerate") (hm : X.mg "enumerate" = none) (ha : SE X W .v a ma) (hs : starEach [a] X.env = [(false, eval a X.env)] := by rfl) (hs2 : starEach [a] X.env = (false, eval a X.env) :: starEach [] X.env := by rfl) :
    SI X W (.Tuple elts kk tpos) (.Call (.Name "enumerate" p) [a] [] pos) (wEn ma) :=
  (pi_enum hg hm (pa_cons ha pa_nil hs2) hs).imp fun σ H R ⟨B, G, e, A, ds, e', hm, q⟩ => by
    obtain ⟨x, e1, h1, h3⟩ := mBind_ok hm
    obtain ⟨h4, e4⟩ := mLift_ok h3
    subst e4
    refine ⟨B, G, e, A, _, _, h1, fun w1 H1 G1 s1 A1 r1 => ?_⟩
    cases x with
    | list xs =>
      cases h4
      cases (show Rp X.K G1 w1 (.list xs) from r1) with
      | lst h5 h6 => exact ⟨_, _, rfl, SqL.of (A1.sub.lst h5), q _ _ G1 s1 A1 (jok_enum h5 h6)⟩
    | _ => cases h4
end
end PD

set_option autoImplicit false
set_option linter.all false
set_option maxRecDepth 100000
set_option maxHeartbeats 4000000
/-! PdT: xs[::-1]; xs += ys; xs.index(x). -/
namespace HT
open PySem PySem.Spec PyProof.Rows L2
section
variable {prog : Program} {w : World} {A : Around} {E : Value → Shared → Prop} {s : Shared}
theorem adjust_rev (n : Nat) : Builtin.Slice.sliceAdjust none none (-1) (n : Int) = ((n : Int) - 1, -1) := rfl
theorem places_rev (n : Nat) : Builtin.Slice.slicePlaces ((n : Int) - 1) (-1) (-1) = n := by
  unfold Builtin.Slice.slicePlaces
  have h1 : ¬ ((-1 : Int) > 0) := by omega
  simp only [h1, if_false]
  split
  · simp
  · omega
theorem applied_rev {sl : Addr} {vs : Value} {n : Nat} {Q : Int × Int × Nat → Shared → Prop} (hs : s.heap.IsSliceOf sl .none .none vs) (ps : IsPart vs (some (-1))) (h : Q ((n : Int) - 1, -1, n) s) : wpAny (model prog w) A (Builtin.Slice.sliceApplied (.ref sl) (pure (n : Int))) Q E s := by
  obtain ⟨os, k1, k2, k3⟩ := id hs
  unfold Builtin.Slice.sliceApplied Builtin.Slice.sliceFields
  refine wpAny_bind (wpAny_bind (wpAny_field k1 k3 (x := .none) rfl (wpAny_bind (wpAny_field k1 k3 (x := .none) rfl (wpAny_bind (wpAny_field k1 k3 (x := vs) rfl (wpAny_pure ?_)))))))
  refine wpAny_bind (slicePart_ ps ?_)
  show wpAny _ _ (if ((-1 : Int) == 0) = true then _ else _) _ _ s
  rw [if_neg (by decide)]
  refine wpAny_bind (slicePart_none (wpAny_bind (slicePart_none (wpAny_bind (wpAny_pure ?_)))))
  show wpAny _ _ (match Builtin.Slice.sliceAdjust none none (-1) (n : Int) with | (lo, hi) => pure (lo, (-1 : Int), Builtin.Slice.slicePlaces lo hi (-1))) _ _ s
  rw [adjust_rev n]
  show wpAny _ _ (pure ((n : Int) - 1, (-1 : Int), Builtin.Slice.slicePlaces ((n : Int) - 1) (-1) (-1))) _ _ s
  rw [places_rev]
  exact wpAny_pure h
theorem fm_eq_map {α β : Type} (f : α → Option β) (g : α → β) : ∀ {l : List α}, (∀ x ∈ l, f x = some (g x)) → l.filterMap f = l.map g
  | [], _ => rfl
  | x :: xs, h => by
    rw [List.filterMap_cons, h x (by simp), List.map_cons, fm_eq_map f g fun y hy => h y (by simp [hy])]
theorem pick_rev (xs : Array Value) : ((List.range xs.size).filterMap fun (m : Nat) => xs[((xs.size : Int) - 1 + (m : Int) * (-1)).toNat]?).toArray = xs.toList.reverse.toArray := by
  congr 1
  have e : (List.range xs.size).filterMap (fun (m : Nat) => xs[((xs.size : Int) - 1 + (m : Int) * (-1)).toNat]?) = (List.range xs.size).map fun (m : Nat) => xs.getD (xs.size - 1 - m) .none := by
    refine fm_eq_map _ _ fun m hm => ?_
    rw [List.mem_range] at hm
    have h1 : ((xs.size : Int) - 1 + (m : Int) * (-1)).toNat = xs.size - 1 - m := by omega
    rw [h1, Array.getElem?_eq_getElem (by omega)]
    simp [Array.getD, show xs.size - 1 - m < xs.size by omega]
  rw [e]
  apply List.ext_getElem?
  intro i
  by_cases hi : i < xs.size
  · rw [List.getElem?_map, List.getElem?_range hi, List.getElem?_reverse (by simpa using hi)]
    simp [Array.getD, show xs.size - 1 - i < xs.size by omega]
  · rw [List.getElem?_eq_none (by simp; omega), List.getElem?_eq_none (by simp; omega)]
theorem getItem_tuple_rev {t sl : Addr} {items : Array Value} {vs : Value} {Q : Value → Shared → Prop} (ht : IsTup s.heap t items) (hs : s.heap.IsSliceOf sl .none .none vs) (ps : IsPart vs (some (-1)))
    (h : Q (.ref s.heap.objs.size) { s with heap := s.heap.push { cls := .type "tuple", data := .seq items.toList.reverse.toArray } })
    (hsz : items.size ≤ sizeLine) : wpAny (model prog w) A (getItem (.ref t) (.ref sl)) Q E s := by
  have room : sizeOk (.seq items.toList.reverse.toArray) := by
    show items.toList.reverse.toArray.size ≤ sizeLine
    rw [List.size_toArray, List.length_reverse, Array.length_toList]
    exact hsz
  obtain ⟨os, k1, k2, k3⟩ := id hs
  have tys : s.TypeIs (.ref sl) "slice" := ⟨os, k1, k2⟩
  unfold getItem
  try with_reducible refine wpAny_holding ?_
  first | refine wpAny_bind (wpAny_pure ?_) | skip
  refine wpAny_bind (wpAny_sequenceKey ht.typeIs (by decide) ?_)
  refine wpAny_bind (wpAny_callSpecial?_slot (name := Str.ofString "__getitem__") ht.typeIs PyProof.Rows.slot_tuple_getitem (wpAny_call_entry PyProof.Rows.slot_tuple_getitem ht.typeIs entry_tuple_getitem ?_ (args_tuple_getitem _ _)))
  show wpAny _ _ (Builtin.Tuple.tupleItemsOf (.ref t) >>= _) _ _ s
  refine wpAny_bind (tupleItemsOf_ ht ?_)
  refine wpAny_bind (wpAny_typeOf tys ?_)
  rw [if_pos (by decide)]
  refine wpAny_bind (applied_rev hs ps ?_)
  have hno : ¬ ((((items.size : Int) - 1) == 0 && (-1 : Int) == 1 && items.size == items.size) = true) := by
    have : ((-1 : Int) == 1) = false := by decide
    rw [this, Bool.and_false, Bool.false_and]
    exact Bool.false_ne_true
  show wpAny _ _ (if (((items.size : Int) - 1) == 0 && (-1 : Int) == 1 && items.size == items.size) = true then _ else _) _ _ s
  rw [if_neg hno, pick_rev]
  first
    | exact wpAny_bind (m := Builtin.Tuple.tupleExact _) (wpAny_newObj_type (wpAny_pure ⟨_, rfl, wpAny_pure h⟩) room)
    | exact wpAny_bind (m := Builtin.Tuple.tupleExact _) (wpAny_newObj_type (wpAny_bind (wpAny_pure (wpAny_pure ⟨_, rfl, wpAny_pure h⟩))) room)
    | exact wpAny_bind (wpAny_bind (m := Builtin.Tuple.tupleExact _) (wpAny_newObj_type (wpAny_pure (wpAny_pure ⟨_, rfl, wpAny_pure h⟩)) room))
    | exact wpAny_bind (wpAny_bind (m := Builtin.Tuple.tupleExact _) (wpAny_newObj_type (wpAny_pure ⟨_, rfl, wpAny_pure h⟩) room))
end
end HT

namespace PD
open PySem PySem.Spec PyProof.Rows L2
section
variable {X : Cx} {W : Ow} {K : Frg} {G H : Hp} {a b : Expr} {ma mb : M D} {pos : Pos} {κ : Kd}
/-! ### x[::-1] -/
def tRevU (K : Frg) (te : TE) : TE := fun σ H Q => te σ H fun x H1 => ∃ a xs, x = .ref a ∧ ((SqL K H1 a xs ∧ ∀ p, H1 p = none → Q (.ref p) (upd H1 p (.lst xs.reverse))) ∨ (SqT K H1 a xs ∧ ∀ p, H1 p = none → Q (.ref p) (upd H1 p (.tup xs.reverse))))
theorem pe_revU {te : TE} {k : Nat} {p1 p2 p3 : Pos} (he : PE X a te) : PE X (.Subscript a (.Slice none none (some (.UnaryOp .USub (.Constant (.int 1) k p1) p2)) p3) pos) (tRevU X.K te) := by
  refine ⟨fun pins s σ H Q I h => Subscript_ (thn (he.run pins s σ H _ I h) fun v s1 ⟨x, H1, I1, r1, b, xs, ex, q⟩ => ?_)⟩
  subst ex
  cases r1
  have one : PO X (some (.UnaryOp .USub (.Constant (.int 1) k p1) p2)) (tPart (tUn (rU fun i => .int (-i)) (tC (.int 1)))) := po_some (pe_un un_neg pe_int)
  refine wpAny_Slice (thn (po_none.run pins s1 σ H1 (fun o G => o = none ∧ G = H1) I1 ⟨rfl, rfl⟩) fun vl s2 ⟨l, H2, I2, pl, z1, z2⟩ => ?_)
  subst z1 z2
  refine thn (po_none.run pins s2 σ H2 (fun o G => o = none ∧ G = H2) I2 ⟨rfl, rfl⟩) fun vu s3 ⟨u, H3, I3, pu, z3, z4⟩ => ?_
  subst z3 z4
  refine thn (one.run pins s3 σ H3 (fun o G => o = some (-1) ∧ G = H3) I3 ⟨1, rfl, -1, rfl, rfl, rfl⟩) fun vs s4 ⟨o, H4, I4, ps, z5, z6⟩ => ?_
  subst z5 z6
  have J : Inv X pins σ H4 { s4 with heap := s4.heap.push { cls := .type "slice", data := .fields #[vl, vu, vs] } } := I4.kept (t' := s4.toks) fun c ob y => Heap.get?_push_of_some _ y
  show wpAny (model X.prog X.w) X.A (subscriptTail a _ (.ref b) (.ref s4.heap.objs.size)) (EP X pins σ Q) X.xe _
  rcases q with ⟨hx, q⟩ | ⟨hx, q⟩
  · obtain ⟨its, r, ht, hz⟩ := J.list hx
    have ln := r.length
    refine tail_any (ops := [.ref b, .ref s4.heap.objs.size]) ht.isList.typeIs PySem.slot_list_getitem.lookup ?_ (by with_unfolding_all rfl)
    refine wpAny_getItem_list_slice ht.isList (Heap.IsSliceOf.new _ vl vu vs) pl pu ps (by decide) ?_ (by rw [List.size_toArray]; omega)
    rw [PySem.W.krv_pick]
    exact ⟨.ref _, _, J.laid (t' := s4.toks) (o := .lst xs.reverse) (fun c ob y => Heap.get?_push_of_some _ y) (Nat.le_refl _) ⟨by rw [List.length_reverse]; exact hz, _, 0, r.reverse, Heap.get?_push_size _ rfl⟩, rfl, q _ (J.hok.fresh (Nat.le_refl _))⟩
  · obtain ⟨its, r, ht, hz⟩ := J.tuple hx
    have ln := r.length
    cases pl
    cases pu
    refine tail_any (ops := [.ref b, .ref s4.heap.objs.size]) ht.typeIs PyProof.Rows.slot_tuple_getitem.lookup ?_ (by with_unfolding_all rfl)
    refine HT.getItem_tuple_rev ht (Heap.IsSliceOf.new _ .none .none vs) ps ?_ (by rw [List.size_toArray]; omega)
    exact ⟨.ref _, _, J.laid (t' := s4.toks) (o := .tup xs.reverse) (fun c ob y => Heap.get?_push_of_some _ y) (Nat.le_refl _) ⟨by rw [List.length_reverse]; exact hz, _, r.reverse, IsTup.new _ _⟩, rfl, q _ (J.hok.fresh (Nat.le_refl _))⟩
theorem rpl_rev : ∀ {xs : List V} {ds : List D}, RpL K G xs ds → RpL K G xs.reverse ds.reverse
  | _, _, .nil => .nil
  | _, _, .cons r rs => by
    rw [List.reverse_cons, List.reverse_cons]
    exact (rpl_rev rs).append (.cons r .nil)
theorem se_rev {k : Nat} {p1 p2 p3 : Pos} (ha : SE X W .v a ma) : SE X W .v (.Subscript a (.Slice none none (some (.UnaryOp .USub (.Constant (.int 1) k p1) p2)) p3) pos) (m1 dRev ma) := (pe_revU ha).imp fun σ H Q ⟨B, G, e, A, d, e', hm, q⟩ => by
  obtain ⟨x, e1, h1, h2⟩ := mBind_ok hm
  obtain ⟨h3, e3⟩ := mLift_ok h2
  subst e3
  refine ⟨B, G, e, A, x, _, h1, fun v H1 G1 s1 A1 r1 => ?_⟩
  cases x with
  | list xs =>
    cases h3
    cases (show Rp X.K G1 v (.list xs) from r1) with
    | lst h5 h6 =>
      rename_i b0 ys0
      refine ⟨_, _, rfl, .inl ⟨SqL.of (A1.sub.lst h5), fun p np => ?_⟩⟩
      have z := ext_new (o := .lst ys0.reverse) A1.sub np
      exact q _ _ _ (s1.trans z.g) (A1.ext z) (.lst upd_same ((rpl_rev h6).mono z.g))
  | tuple xs =>
    cases h3
    cases (show Rp X.K G1 v (.tuple xs) from r1) with
    | tup h5 h6 =>
      rename_i b0 ys0
      refine ⟨_, _, rfl, .inr ⟨SqT.of (A1.sub.tup h5), fun p np => ?_⟩⟩
      have z := ext_new (o := .tup ys0.reverse) A1.sub np
      exact q _ _ _ (s1.trans z.g) (A1.ext z) (.tup upd_same ((rpl_rev h6).mono z.g))
  | _ => cases h3
/-! ### x += e, x a list of one's own -/
theorem dExt_ok {x y z : D} (h : dExt x y = .ok z) : ∃ es fs, x = .list es ∧ y = .list fs ∧ es.length + fs.length ≤ sizeLine ∧ z = .list (es ++ fs) := by
  cases x with
  | list es =>
    cases y with
    | list fs =>
      obtain ⟨h1, rfl⟩ := if_ok (show (if es.length + fs.length ≤ lineN then Out.ok (PyData.list (es ++ fs)) else .no) = .ok z from h)
      exact ⟨es, fs, rfl, rfl, by rw [← lineN_eq]; exact h1, rfl⟩
    | _ => cases h
  | _ => cases h
theorem ss_ext {i : Nat} {x : Str} {p : Pos} (hc : X.N.Nodup) (hi : X.N[i]? = some x) (hl : Loc X.env.scope x) (hw : W.ow i = true) (ha : SE X W .v a ma) (hf : X.fn x = true ∨ X.env.scope.names.lookup x = some .local := by first | exact .inl rfl | exact .inr rfl | assumption) :
    SS X W κ (.AugAssign (.Name x p) .Add a pos) (mutL dExt i ma) := (ps_aug hc hi hl ha (show PIp X .Add _ from iop_ext) hf).imp fun D σ H ⟨B, G, e, A, f, hf, q⟩ => by
  obtain ⟨d0, h0, hf⟩ := Out.bind_eq_ok hf
  obtain ⟨r, h1, hf⟩ := Out.bind_eq_ok hf
  obtain ⟨d1, h2, hf⟩ := Out.bind_eq_ok hf
  obtain ⟨d2, h3, hf⟩ := Out.bind_eq_ok hf
  cases hf
  obtain ⟨a0, h4, _⟩ := A.own i _ hw (getV_ok h0)
  refine ⟨_, h4, B, G, e, A, r.1, r.2, h1, fun v H' G' s A' rv => ?_⟩
  obtain ⟨es, fs, rfl, hy, hle, rfl⟩ := dExt_ok h3
  obtain ⟨a1, h6, ⟨n, xs, es', h7, h8, h9⟩, _⟩ := A'.own i _ hw (getV_ok h2)
  cases h9
  have same : ∃ b zs, v = .ref b ∧ H' b = some (.lst zs) ∧ RpL X.K G' zs fs := by
    rw [hy] at rv
    cases (show Rp X.K G' v (.list fs) from rv) with
    | lst k1 k2 => exact ⟨_, _, rfl, A'.sub.lst k1, k2⟩
  obtain ⟨b, zs, rfl, k3, k4⟩ := same
  rw [h4] at h6
  cases h6
  refine ⟨a0, b, xs, zs, rfl, rfl, h7, k3, by rw [h8.length, k4.length]; exact hle, ?_⟩
  have back : σ.set i (some (.ref a0)) = σ := by
    apply List.ext_getElem?
    intro j
    rw [List.getElem?_set]
    split
    · rename_i hij
      subst hij
      split
      · exact h4.symm
      · rename_i hn
        rw [List.getElem?_eq_none (by omega)] at h4
        cases h4
    · rfl
  show D.nx (σ.set i (some (.ref a0))) _
  rw [back]
  exact q _ _ G' s (A'.mut hw (getV_ok h2) h4 (h8.append k4))
/-! ### x.index(i) -/
theorem ints_of : ∀ {ds : List D} {is : List Int}, intsOf ds = .ok is → ds = is.map PyData.int
  | [], is, h => by cases h; rfl
  | d :: ds, is, h => by
    cases d with
    | int i =>
      obtain ⟨js, h1, h2⟩ := Out.bind_eq_ok (show (intsOf ds).bind _ = _ from h)
      cases h2
      rw [ints_of h1]
      rfl
    | _ => cases h
theorem ixOf_ok {i : Int} : ∀ {is : List Int} {k j : Nat}, ixOf i is k = some j → k ≤ j ∧ is[j - k]? = some i ∧ ∀ m, m < j - k → is[m]? ≠ some i
  | [], k, j, h => by cases h
  | a :: r, k, j, h => by
    have h : (if a = i then some k else ixOf i r (k + 1)) = some j := h
    by_cases q : a = i
    · rw [if_pos q] at h
      cases h
      subst q
      exact ⟨Nat.le_refl _, by simp, fun m hm => by omega⟩
    · rw [if_neg q] at h
      obtain ⟨h1, h2, h3⟩ := ixOf_ok h
      have e : j - k = (j - (k + 1)) + 1 := by omega
      refine ⟨by omega, by rw [e]; exact h2, fun m hm => ?_⟩
      cases m with
      | zero =>
        intro z
        cases z
        exact q rfl
      | succ m => exact h3 m (by omega)
theorem se_index {p1 p2 : Pos} (ha : SE X W .v a ma) (hb : SE X W .v b mb) (hbase : attributeBase a "index" X.env (eval a X.env) = eval a X.env := by rfl)
    (hfew : ((backTo p2 (starEach [b] X.env)).all (fun x => !x.1) && (backToKw p2 (keywordEach [] X.env)).all (fun x => x.1.isSome)
      && decide ([b].length + ([] : List Keyword).length + (if ([] : List Keyword).isEmpty then 0 else 1) < 30)) = true := by rfl)
    (hline : (p1.endLine == p2.line) = true := by rfl) (hs : starEach [b] X.env = (false, eval b X.env) :: starEach [] X.env := by rfl) : SE X W .v (.Call (.Attribute a "index" p1) [b] [] p2) (m2 dIndex ma mb) :=
  (pe_bm PySem.F.plainAttrs_list PySem.F.slot_list_index PySem.F.type_list_index (show MtR X _ _ from mt_index) ha (pa_cons hb pa_nil hs) hbase hfew hline hs).imp fun σ H Q ⟨B, G, e, A, d, e', hm, q⟩ => by
    obtain ⟨x, e1, h1, hm⟩ := mBind_ok hm
    obtain ⟨y, e2, h2, hm⟩ := mBind_ok hm
    obtain ⟨h3, e3⟩ := mLift_ok hm
    subst e3
    refine ⟨B, G, e, A, x, _, h1, fun v H1 G1 s1 A1 r1 => ?_⟩
    cases x with
    | list xs =>
      cases y with
      | int i =>
        obtain ⟨is, h4, h5⟩ := Out.bind_eq_ok (show (intsOf xs).bind _ = _ from h3)
        obtain ⟨j, h6, h7⟩ := Out.bind_eq_ok h5
        cases h7
        have h6 : ixOf i is 0 = some j := by
          cases k : ixOf i is 0 with
          | none => rw [k] at h6; cases h6
          | some j' => rw [k] at h6; cases h6; rfl
        obtain ⟨_, k1, k2⟩ := ixOf_ok h6
        rw [Nat.sub_zero] at k1 k2
        cases (show Rp X.K G1 v (.list xs) from r1) with
        | lst k3 k4 =>
          rename_i b0 ys0
          have e4 : ys0 = is.map V.int := k4.ints h4
          refine ⟨.inl ⟨rfl, ys0, SqL.of (A1.sub.lst k3)⟩, B, G1, _, A1, _, _, h2, fun w H2 G2 s2 A2 r2 => ?_⟩
          cases (show Rp X.K G2 w (.int i) from r2)
          subst e4
          refine ⟨b0, is.map V.int, .int i, j, .int i, rfl, rfl, SqL.of (A2.sub.lst (s2 _ _ k3)), rfl, ?_, ?_, ?_, fun m z hm hz => ?_, q _ H2 G2 (s1.trans s2) A2 (.int _)⟩
          · simp [flatV]
          · rw [List.getElem?_map, k1]; rfl
          · simp [eqV]
          · rw [List.getElem?_map] at hz
            cases k : is[m]? with
            | none => rw [k] at hz; cases hz
            | some c =>
              rw [k] at hz
              cases hz
              have := k2 m hm
              rw [k] at this
              simp [eqV]
              intro z
              exact this (by rw [z])
      | _ => cases h3
    | _ => cases h3
end
end PD

set_option autoImplicit false
set_option linter.all false
set_option maxRecDepth 100000
set_option maxHeartbeats 4000000
/-! PdU: comprehensions of two clauses. -/
namespace PD
open PySem PySem.Spec PyProof.Rows L2
section
variable {X : Cx} {W : Ow} {K : Frg} {B : Bs} {G G' H H' : Hp} {σ σ' : L2.St} {e e' : PD.Env} {v : V} {d : D} {κ : Kd}
variable {a b c tg tg2 : Expr} {ma mb mc : M D} {ml ml2 : M (List D)} {pos : Pos} {g g2 : Gt} {t t2 : M Bool} {is is2 vs us : List Nat}
/-- a second clause's own loop -/
theorem lc_in (hv : vsOk W us = true) (his : ∀ i ∈ is, i ∈ us) {J : It} {Nx : Hp → Prop} {D : Addr} {ds acc0 : List PyData} {r : List PyData × PD.Env} (A1 : Abs K W B G σ H e) (r1 : Res K W B .o G σ H e (.ref D) (.list acc0)) (jk : JOk K G ds J) (h3 : lcL us g t ma ds e = .ok r) (hle : acc0.length + r.1.length ≤ lineN)
    (fin : ∀ H2 G2, Same G G2 → Abs K W B G2 (wipe σ us) H2 r.2 → Res K W B .o G2 (wipe σ us) H2 r.2 (.ref D) (.list (acc0 ++ r.1)) → Nx H2) :
    ∃ W1 : Nat → Nat → Hp → Prop, (∃ m, W1 0 m H) ∧ ∀ j k H, W1 j k H → (J.stop j H ∧ Nx H) ∨ (J.go j H ∧ ∃ Nx1 : Hp → Prop, (∀ H', Nx1 H' → ∃ k', k' < k ∧ W1 (j + 1) k' H') ∧ ∀ x H', J.yld j H x H' → (tG K W is g) x (wipe σ us) H' fun σ3 H5 => wipe σ3 us = wipe σ us ∧ (tMT K W t) σ3 H5 fun b H6 =>
      if b = true then (tM K W .v ma) σ3 H6 fun y H7 => ∃ acc, H7 D = some (.lst acc) ∧ acc.length < sizeLine ∧ Nx1 (upd H7 D (.lst (acc ++ [y]))) else Nx1 H6) := by
  have r1w : Res K W B .o G (wipe σ us) H (wipeE e us) (.ref D) (.list acc0) := r1.wipe
  refine ⟨fun i m H => i ≤ ds.length ∧ m = ds.length - i ∧ ∃ G2 e2 acc rest, Same G G2 ∧ Abs K W B G2 (wipe σ us) H (wipeE e2 us) ∧ Res K W B .o G2 (wipe σ us) H (wipeE e2 us) (.ref D) (.list (acc0 ++ acc)) ∧
      lcL us g t ma (ds.drop i) e2 = .ok (rest, r.2) ∧ r.1 = acc ++ rest, ⟨ds.length, Nat.zero_le _, rfl, G, e, [], r.1, Same.refl _, A1.wipe hv, by rw [List.append_nil]; exact r1w, h3, rfl⟩, ?_⟩
  rintro i m H ⟨hi, rfl, G2, e2, acc, rest, s2, A3, r3, hl, hr⟩
  obtain ⟨jy, js⟩ := jk i G2 H s2 A3.sub
  by_cases hlt : i < ds.length
  · have hd : ds[i]? = some ds[i] := List.getElem?_eq_getElem hlt
    obtain ⟨go, yl⟩ := jy _ hd
    refine .inr ⟨go, fun H => i + 1 ≤ ds.length ∧ ∃ G2 e2 acc rest, Same G G2 ∧ Abs K W B G2 (wipe σ us) H (wipeE e2 us) ∧ Res K W B .o G2 (wipe σ us) H (wipeE e2 us) (.ref D) (.list (acc0 ++ acc)) ∧
      lcL us g t ma (ds.drop (i + 1)) e2 = .ok (rest, r.2) ∧ r.1 = acc ++ rest, fun H' ⟨l, w⟩ => ⟨_, by omega, l, rfl, w⟩, fun x H3 y => ?_⟩
    obtain ⟨G3, x3, rx⟩ := yl x H3 y
    have A4 := A3.ext x3
    have r4 : Res K W B .o G3 (wipe σ us) H3 (wipeE e2 us) (.ref D) (.list (acc0 ++ acc)) := let ⟨a, z1, z2, z3⟩ := r3; ⟨a, z1, z2.ext x3, z3⟩
    rw [List.drop_eq_getElem_cons hlt] at hl
    obtain ⟨e3, h5, hl1⟩ := Out.bind_eq_ok (show (g ds[i] (wipeE e2 us)).bind _ = _ from hl)
    obtain ⟨pt, h6, hl2⟩ := Out.bind_eq_ok hl1
    have same : ∀ {σ4 : L2.St}, σ4.length = (wipe σ us).length → (∀ j, j ∉ is → σ4[j]? = (wipe σ us)[j]?) → wipe σ4 us = wipe σ us := fun l4 k4 => by
      rw [wipe_agree (vs := us) l4 fun j hj => k4 j fun z => hj (his j z)]
      exact wipe_agree (wipe_length _ _) fun j hj => wipe_out hj
    refine ⟨_, G3, wipeE e2 us, _, A4.re, rx, e3, h5, fun σ4 l4 k4 A5 => ⟨same l4 k4, _, G3, e3, A5, pt.1, pt.2, h6, fun H5 G5 s5 A6 => ?_⟩⟩
    have hw4 : wipe σ4 us = wipe σ us := same l4 k4
    cases hq : pt.1 with
    | false =>
      rw [hq] at hl2
      simp only [Bool.false_eq_true, if_false] at hl2 ⊢
      have A7 := A4.un A6
      have r7 := r4.stay2 A6
      refine ⟨hlt, G5, pt.2, acc, rest, s2.trans (x3.g.trans s5), ?_, ?_, hl2, hr⟩
      · rw [← hw4]; exact A7.wipe hv
      · rw [← hw4]; exact r7.wipe
    | true =>
      rw [hq] at hl2
      simp only [if_true] at hl2 ⊢
      obtain ⟨pe, h7, hl3⟩ := Out.bind_eq_ok hl2
      obtain ⟨pr, h8, hl4⟩ := Out.bind_eq_ok hl3
      injection hl4 with hl5
      injection hl5 with h9 h10
      subst h9
      refine ⟨_, G5, pt.2, A6, pe.1, pe.2, h7, fun w H7 G7 s7 A8 r8 => ?_⟩
      have A9 := A4.un A8
      have r9 := r4.stay2 A8
      obtain ⟨xs, hD, hlen, A10, r10⟩ := tmp_app A9 r9 (show Rp K G7 w pe.1 from r8)
      refine ⟨xs, hD, ?_, hlt, G7, pe.2, acc ++ [pe.1], pr.1, s2.trans (x3.g.trans (s5.trans s7)), ?_, ?_, ?_, ?_⟩
      · rw [hlen, ← lineN_eq]
        have := hle
        rw [hr] at this
        rw [List.length_append, List.length_cons] at this
        rw [List.length_append]
        omega
      · rw [← hw4]; exact A10.wipe hv
      · rw [← hw4, ← List.append_assoc]; exact r10.wipe
      · rw [← h10]; exact h8
      · rw [hr, List.append_assoc]; rfl
  · have he : i = ds.length := by omega
    refine .inl ⟨js he, ?_⟩
    rw [he, List.drop_length] at hl
    injection hl with hl5
    injection hl5 with h9 h10
    subst h9
    rw [List.append_nil] at hr
    refine fin H G2 s2 ?_ ?_
    · rw [← h10]; exact A3
    · rw [hr, ← h10]; exact r3
/-- the reading of a comprehension of two clauses -/
theorem lc2_of (hv : vsOk W vs = true) (hu : vsOk W us = true) (his : ∀ i ∈ is, i ∈ vs) (his2 : ∀ i ∈ is2, i ∈ us) (hus : ∀ i ∈ us, i ∈ vs) {Q : VK} (h : tM K W .o (mLc2 vs us ml g t ml2 g2 t2 ma) σ H Q) : tLc2 (tI K W ml) (tG K W is g) (tMT K W t) (tI K W ml2) (tG K W is2 g2) (tMT K W t2) (tM K W .v ma) vs us σ H Q := by
  obtain ⟨B, G, e, A, d, e', hm, q⟩ := h
  obtain ⟨p, h1, h2⟩ := Out.bind_eq_ok hm
  obtain ⟨r, h3, h4⟩ := Out.bind_eq_ok h2
  by_cases hle : r.1.length ≤ lineN
  case neg => rw [if_neg hle] at h4; cases h4
  rw [if_pos hle] at h4
  cases h4
  refine ⟨B, G, e, A, p.1, p.2, h1, fun J H1 G1 s1 A1 jk D nD => ?_⟩
  obtain ⟨A2, r2⟩ := new_own A1 .nil nD
  refine ⟨fun i m H => i ≤ p.1.length ∧ m = p.1.length - i ∧ ∃ G2 e2 acc rest, Same G1 G2 ∧ Abs K W B G2 (wipe σ vs) H (wipeE e2 vs) ∧ Res K W B .o G2 (wipe σ vs) H (wipeE e2 vs) (.ref D) (.list acc) ∧
      lcL2 vs us g t ml2 g2 t2 ma (p.1.drop i) e2 = .ok (rest, r.2) ∧ r.1 = acc ++ rest, ⟨p.1.length, Nat.zero_le _, rfl, G1, p.2, [], r.1, Same.refl _, A2.wipe hv, r2.wipe, h3, rfl⟩, ?_⟩
  rintro i m H ⟨hi, rfl, G2, e2, acc, rest, s2, A3, r3, hl, hr⟩
  obtain ⟨jy, js⟩ := jk i G2 H s2 A3.sub
  by_cases hlt : i < p.1.length
  · have hd : p.1[i]? = some p.1[i] := List.getElem?_eq_getElem hlt
    obtain ⟨go, yl⟩ := jy _ hd
    refine .inr ⟨go, fun H => i + 1 ≤ p.1.length ∧ ∃ G2 e2 acc rest, Same G1 G2 ∧ Abs K W B G2 (wipe σ vs) H (wipeE e2 vs) ∧ Res K W B .o G2 (wipe σ vs) H (wipeE e2 vs) (.ref D) (.list acc) ∧
      lcL2 vs us g t ml2 g2 t2 ma (p.1.drop (i + 1)) e2 = .ok (rest, r.2) ∧ r.1 = acc ++ rest, fun H' ⟨l, w⟩ => ⟨_, by omega, l, rfl, w⟩, fun x H3 y => ?_⟩
    obtain ⟨G3, x3, rx⟩ := yl x H3 y
    have A4 := A3.ext x3
    have r4 : Res K W B .o G3 (wipe σ vs) H3 (wipeE e2 vs) (.ref D) (.list acc) := let ⟨a, z1, z2, z3⟩ := r3; ⟨a, z1, z2.ext x3, z3⟩
    rw [List.drop_eq_getElem_cons hlt] at hl
    obtain ⟨e3, h5, hl1⟩ := Out.bind_eq_ok (show (g p.1[i] (wipeE e2 vs)).bind _ = _ from hl)
    obtain ⟨pt, h6, hl2⟩ := Out.bind_eq_ok hl1
    have same : ∀ {σ4 : L2.St}, σ4.length = (wipe σ vs).length → (∀ j, j ∉ is → σ4[j]? = (wipe σ vs)[j]?) → wipe σ4 vs = wipe σ vs := fun l4 k4 => by
      rw [wipe_agree (vs := vs) l4 fun j hj => k4 j fun z => hj (his j z)]
      exact wipe_agree (wipe_length _ _) fun j hj => wipe_out hj
    refine ⟨_, G3, wipeE e2 vs, _, A4.re, rx, e3, h5, fun σ4 l4 k4 A5 => ⟨same l4 k4, _, G3, e3, A5, pt.1, pt.2, h6, fun H5 G5 s5 A6 => ?_⟩⟩
    have hw4 : wipe σ4 vs = wipe σ vs := same l4 k4
    cases hq : pt.1 with
    | false =>
      rw [hq] at hl2
      simp only [Bool.false_eq_true, if_false] at hl2 ⊢
      have A7 := A4.un A6
      have r7 := r4.stay2 A6
      refine ⟨hlt, G5, pt.2, acc, rest, s2.trans (x3.g.trans s5), ?_, ?_, hl2, hr⟩
      · rw [← hw4]; exact A7.wipe hv
      · rw [← hw4]; exact r7.wipe
    | true =>
      rw [hq] at hl2
      simp only [if_true] at hl2 ⊢
      obtain ⟨ps, h7, hl3⟩ := Out.bind_eq_ok hl2
      obtain ⟨pq, h8, hl4⟩ := Out.bind_eq_ok hl3
      obtain ⟨pr, h9, hl5⟩ := Out.bind_eq_ok hl4
      injection hl5 with hl6
      injection hl6 with h10 h11
      subst h10
      refine ⟨_, G5, pt.2, A6, ps.1, ps.2, h7, fun J1 H7 G7 s7 A8 jk1 => ?_⟩
      have A9 := A4.un A8
      have r9 := r4.stay2 A8
      refine lc_in hu his2 A9 r9 jk1 h8 (by rw [hr] at hle; rw [List.length_append, List.length_append] at hle; omega) fun H8 G8 s8 A10 r10 => ?_
      have hw5 : wipe (wipe σ4 us) vs = wipe σ vs := by
        rw [← hw4]
        exact wipe_agree (wipe_length _ _) fun j hj => wipe_out fun z => hj (hus j z)
      refine ⟨hlt, G8, pq.2, acc ++ pq.1, pr.1, s2.trans (x3.g.trans (s5.trans (s7.trans s8))), ?_, ?_, ?_, ?_⟩
      · rw [← hw5]; exact A10.wipe hv
      · rw [← hw5]; exact r10.wipe
      · rw [← h11]; exact h9
      · rw [hr, List.append_assoc]
  · have he : i = p.1.length := by omega
    refine .inl ⟨js he, ?_⟩
    rw [he, List.drop_length] at hl
    injection hl with hl5
    injection hl5 with h9 h10
    subst h9
    rw [List.append_nil] at hr
    refine q _ H G2 (s1.trans s2) ?_ ?_
    · rw [← h10]; exact A1.back hv s2 A3
    · rw [hr, ← h10]
      exact Res.back hv r3
variable {iter iter2 : Expr} {ifs ifs2 : List Expr} {scope : Scope} {own : List (Str × Nat)} {elt : Expr}
theorem se_lc2 (hc : X.calm = true) (hN : X.N.Nodup) (hi : SI X W tg iter ml) (ok : BlkOk X.N X.env.scope scope own) (hv : vsOk W (own.map (·.2)) = true) (hu : vsOk W us = true) (his : ∀ i ∈ is, i ∈ own.map (·.2)) (his2 : ∀ i ∈ is2, i ∈ us) (hus : ∀ i ∈ us, i ∈ own.map (·.2))
    (hg : ∀ (s : Shared) (H : Hp) (C : Addr) (cl : List (Str × Addr)) (fp : List Addr), SG (X.blk s H scope (compEnvC scope cl C X.env) fp) W tg is g)
    (ht : ∀ (s : Shared) (H : Hp) (C : Addr) (cl : List (Str × Addr)) (fp : List Addr), STs (X.blk s H scope (compEnvC scope cl C X.env) fp) W ifs t)
    (hi2 : ∀ (s : Shared) (H : Hp) (C : Addr) (cl : List (Str × Addr)) (fp : List Addr), SI (X.blk s H scope (compEnvC scope cl C X.env) fp) W tg2 iter2 ml2)
    (hg2 : ∀ (s : Shared) (H : Hp) (C : Addr) (cl : List (Str × Addr)) (fp : List Addr), SG (X.blk s H scope (compEnvC scope cl C X.env) fp) W tg2 is2 g2)
    (ht2 : ∀ (s : Shared) (H : Hp) (C : Addr) (cl : List (Str × Addr)) (fp : List Addr), STs (X.blk s H scope (compEnvC scope cl C X.env) fp) W ifs2 t2)
    (he : ∀ (s : Shared) (H : Hp) (C : Addr) (cl : List (Str × Addr)) (fp : List Addr), SE (X.blk s H scope (compEnvC scope cl C X.env) fp) W .v elt ma) (hs : ∀ x, foldedSetIterable iter X.env x = pure x := by intro _; rfl) (hs2 : ∀ env x, foldedSetIterable iter2 env x = pure x := by intro _ _; rfl) :
    SE X W .o (.ListComp elt [⟨tg, iter, ifs, 0⟩, ⟨tg2, iter2, ifs2, 0⟩] scope pos) (mLc2 (own.map (·.2)) us ml g t ml2 g2 t2 ma) := (pe_lc2 hc hN hi ok hus hg ht hi2 hg2 ht2 he hs hs2).imp fun σ H Q h => lc2_of hv hu his his2 hus h
theorem ss_lc2 {i : Nat} {y : Str} {py spos : Pos} (hc : X.calm = true) (hN : X.N.Nodup) (hy : X.N[i]? = some y) (hyl : X.env.scope.names.lookup y = some .local)
    (hsw : swapsWith (.ListComp elt [⟨tg, iter, ifs, 0⟩, ⟨tg2, iter2, ifs2, 0⟩] scope pos) (some (.Name y py)) spos.line X.env = pure true) (hi : SI X W tg iter ml) (ok : BlkOk X.N X.env.scope scope own) (hv : vsOk W (own.map (·.2)) = true) (hu : vsOk W us = true) (his : ∀ i ∈ is, i ∈ own.map (·.2)) (his2 : ∀ i ∈ is2, i ∈ us) (hus : ∀ i ∈ us, i ∈ own.map (·.2))
    (hg : ∀ (s : Shared) (H : Hp) (C : Addr) (cl : List (Str × Addr)) (fp : List Addr), SG (X.blk s H scope (compEnvC scope cl C X.env) fp) W tg is g)
    (ht : ∀ (s : Shared) (H : Hp) (C : Addr) (cl : List (Str × Addr)) (fp : List Addr), STs (X.blk s H scope (compEnvC scope cl C X.env) fp) W ifs t)
    (hi2 : ∀ (s : Shared) (H : Hp) (C : Addr) (cl : List (Str × Addr)) (fp : List Addr), SI (X.blk s H scope (compEnvC scope cl C X.env) fp) W tg2 iter2 ml2)
    (hg2 : ∀ (s : Shared) (H : Hp) (C : Addr) (cl : List (Str × Addr)) (fp : List Addr), SG (X.blk s H scope (compEnvC scope cl C X.env) fp) W tg2 is2 g2)
    (ht2 : ∀ (s : Shared) (H : Hp) (C : Addr) (cl : List (Str × Addr)) (fp : List Addr), STs (X.blk s H scope (compEnvC scope cl C X.env) fp) W ifs2 t2)
    (he : ∀ (s : Shared) (H : Hp) (C : Addr) (cl : List (Str × Addr)) (fp : List Addr), SE (X.blk s H scope (compEnvC scope cl C X.env) fp) W .v elt ma) (hw : W.ow i = false) (hf : W.fx i = false) (hs : ∀ x, foldedSetIterable iter X.env x = pure x := by intro _; rfl) (hs2 : ∀ env x, foldedSetIterable iter2 env x = pure x := by intro _ _; rfl) :
    SS X W κ (.Assign [.Name y py] (.ListComp elt [⟨tg, iter, ifs, 0⟩, ⟨tg2, iter2, ifs2, 0⟩] scope pos) spos) (sSet i (mLc2 (own.map (·.2)) us ml g t ml2 g2 t2 ma)) :=
  ss_asgN (ps_setLc2 hc hN hy hyl hsw hi ok hus hg ht hi2 hg2 ht2 he hs hs2) (fun σ H Q h => lc2_of hv hu his his2 hus (by
    obtain ⟨B, G, e, A, d, e', hm, q⟩ := h
    refine ⟨B, G, e, A, d, e', hm, fun v H' G' s A' r => ?_⟩
    obtain ⟨G2, s2, A2, r2⟩ := A'.freeze r
    exact q v H' G2 (s.trans s2) A2 r2)) hw hf
theorem ss_lc2O {i : Nat} {y : Str} {py spos : Pos} (hc : X.calm = true) (hN : X.N.Nodup) (hy : X.N[i]? = some y) (hyl : X.env.scope.names.lookup y = some .local)
    (hsw : swapsWith (.ListComp elt [⟨tg, iter, ifs, 0⟩, ⟨tg2, iter2, ifs2, 0⟩] scope pos) (some (.Name y py)) spos.line X.env = pure true) (hi : SI X W tg iter ml) (ok : BlkOk X.N X.env.scope scope own) (hv : vsOk W (own.map (·.2)) = true) (hu : vsOk W us = true) (his : ∀ i ∈ is, i ∈ own.map (·.2)) (his2 : ∀ i ∈ is2, i ∈ us) (hus : ∀ i ∈ us, i ∈ own.map (·.2))
    (hg : ∀ (s : Shared) (H : Hp) (C : Addr) (cl : List (Str × Addr)) (fp : List Addr), SG (X.blk s H scope (compEnvC scope cl C X.env) fp) W tg is g)
    (ht : ∀ (s : Shared) (H : Hp) (C : Addr) (cl : List (Str × Addr)) (fp : List Addr), STs (X.blk s H scope (compEnvC scope cl C X.env) fp) W ifs t)
    (hi2 : ∀ (s : Shared) (H : Hp) (C : Addr) (cl : List (Str × Addr)) (fp : List Addr), SI (X.blk s H scope (compEnvC scope cl C X.env) fp) W tg2 iter2 ml2)
    (hg2 : ∀ (s : Shared) (H : Hp) (C : Addr) (cl : List (Str × Addr)) (fp : List Addr), SG (X.blk s H scope (compEnvC scope cl C X.env) fp) W tg2 is2 g2)
    (ht2 : ∀ (s : Shared) (H : Hp) (C : Addr) (cl : List (Str × Addr)) (fp : List Addr), STs (X.blk s H scope (compEnvC scope cl C X.env) fp) W ifs2 t2)
    (he : ∀ (s : Shared) (H : Hp) (C : Addr) (cl : List (Str × Addr)) (fp : List Addr), SE (X.blk s H scope (compEnvC scope cl C X.env) fp) W .v elt ma) (hw : W.ow i = true) (hf : W.fx i = false) (hs : ∀ x, foldedSetIterable iter X.env x = pure x := by intro _; rfl) (hs2 : ∀ env x, foldedSetIterable iter2 env x = pure x := by intro _ _; rfl) :
    SS X W κ (.Assign [.Name y py] (.ListComp elt [⟨tg, iter, ifs, 0⟩, ⟨tg2, iter2, ifs2, 0⟩] scope pos) spos) (sSet i (mLc2 (own.map (·.2)) us ml g t ml2 g2 t2 ma)) :=
  ss_asgO (ps_setLc2 hc hN hy hyl hsw hi ok hus hg ht hi2 hg2 ht2 he hs hs2) (fun σ H Q h => lc2_of hv hu his his2 hus h) hw hf
end
end PD

set_option autoImplicit false
set_option linter.all false
/-! PdV: where a comprehension's scope lies in a def's body. -/
namespace PD
open PySem
/-- the scopes of an expression's comprehensions, from the outside, from the left -/
def scE : Nat → Expr → List Scope
  | 0, _ => []
  | n + 1, e => match e with
    | .ListComp elt gens sc _ => sc :: (gens.flatMap (fun g => scE n g.iter ++ g.ifs.flatMap (scE n)) ++ scE n elt)
    | .BinOp a _ b _ => scE n a ++ scE n b
    | .UnaryOp _ a _ => scE n a
    | .BoolOp _ vs _ => vs.flatMap (scE n)
    | .Compare a _ bs _ => scE n a ++ bs.flatMap (scE n)
    | .Call f as _ _ => scE n f ++ as.flatMap (scE n)
    | .IfExp t a b _ => scE n t ++ (scE n a ++ scE n b)
    | .Subscript a b _ => scE n a ++ scE n b
    | .Tuple es _ _ => es.flatMap (scE n)
    | .List es _ => es.flatMap (scE n)
    | .Attribute a _ _ => scE n a
    | .Slice a b _ _ => a.toList.flatMap (scE n) ++ b.toList.flatMap (scE n)
    | _ => []
def scS : Nat → Stmt → List Scope
  | 0, _ => []
  | n + 1, s => match s with
    | .Assign _ v _ => scE n v
    | .AugAssign _ _ v _ => scE n v
    | .Return v _ => v.toList.flatMap (scE n)
    | .Expr v _ => scE n v
    | .If t a b _ => scE n t ++ (a.flatMap (scS n) ++ b.flatMap (scS n))
    | .For _ i a _ _ => scE n i ++ a.flatMap (scS n)
    | .While t a _ _ => scE n t ++ a.flatMap (scS n)
    | _ => []
def scSs (n : Nat) (b : List Stmt) : List Scope := b.flatMap (scS n)
end PD

set_option autoImplicit false
set_option linter.all false
/-! PdX: programs over data, evaluated: rules to be used from the outside (what stands behind is a function K). -/
namespace PD
open PySem

def Out.b2 {α β γ : Type} (o : Out (α × β)) (k : α → β → Out γ) : Out γ := o.bind fun p => k p.1 p.2
def setK {β : Type} (e : Env) (i : Nat) (x : Option D) (K : Env → β) : β := K (e.set i x)
def putK {β : Type} (as : List Ar) (xs : List (Option D)) (e : Env) (K : Env → β) : β := K (putA as xs e)
section
variable {α β γ : Type} {e : Env} {m a b c : M D} {r : M (List D)} {t s : M Bool} {i : Nat} {d : D} {p q : S}
@[simp ↓] theorem c_ok (x : α) (K : α → Out γ) : (Out.ok x).bind K = K x := rfl
@[simp ↓] theorem c_no (K : α → Out γ) : (Out.no).bind K = .no := rfl
@[simp ↓] theorem c_ok2 (x : α) (y : β) (K : α → β → Out γ) : (Out.ok (x, y)).b2 K = K x y := rfl
@[simp ↓] theorem c_no2 (K : α → β → Out γ) : (Out.no).b2 K = .no := rfl
@[simp ↓] theorem c_assoc (o : Out α) (k : α → Out β) (K : β → Out γ) : (o.bind k).bind K = o.bind fun a => (k a).bind K := by cases o <;> rfl
@[simp ↓] theorem c_ite {c : Prop} [Decidable c] (x y : Out α) (K : α → Out γ) : (if c then x else y).bind K = if c then x.bind K else y.bind K := by split <;> rfl
@[simp ↓] theorem c_ite2 {c : Prop} [Decidable c] (x y : Out (α × β)) (K : α → β → Out γ) : (if c then x else y).b2 K = if c then x.b2 K else y.b2 K := by split <;> rfl
@[simp ↓] theorem c_dec {p : Prop} [Decidable p] (x y : α) : (if decide p = true then x else y) = if p then x else y := by simp
@[simp ↓] theorem c_ndec {p : Prop} [Decidable p] (x y : α) : (if (!decide p) = true then x else y) = if p then y else x := by by_cases h : p <;> simp [h]
@[simp ↓] theorem set_z (y x : Option D) (K : Env → β) : setK (y :: e) 0 x K = K (x :: e) := rfl
@[simp ↓] theorem set_s (y x : Option D) (K : Env → β) : setK (y :: e) (i + 1) x K = setK e i x fun e => K (y :: e) := rfl
@[simp ↓] theorem get_z (K : D → Out γ) : (getV 0 (some d :: e)).bind K = K d := rfl
@[simp ↓] theorem get_s (x : Option D) (K : D → Out γ) : (getV (i + 1) (x :: e)).bind K = (getV i e).bind K := rfl
@[simp ↓] theorem c_pure (x : α) (K : α → Env → Out γ) : (mPure x e).b2 K = K x e := rfl
@[simp ↓] theorem c_C (K : D → Env → Out γ) : (mC d e).b2 K = K d e := rfl
theorem b2_bind (o : Out α) (k : α → Out (β × Env)) (K : β → Env → Out γ) : (o.bind k).b2 K = o.bind fun a => (k a).b2 K := by cases o <;> rfl
@[simp ↓] theorem c_V (K : D → Env → Out γ) : (mV i e).b2 K = (getV i e).bind fun d => K d e := b2_bind _ _ _
@[simp ↓] theorem c_Mv (K : D → Env → Out γ) : (mMv i e).b2 K = (getV i e).bind fun d => setK e i none fun e => K d e := b2_bind _ _ _
theorem b2_mBind (x : M α) (k : α → M β) (K : β → Env → Out γ) : (mBind x k e).b2 K = (x e).b2 fun a e => (k a e).b2 K := b2_bind _ _ _
theorem b2_lift (o : Out α) (K : α → Env → Out γ) : (mLift o e).b2 K = o.bind fun a => K a e := b2_bind _ _ _
@[simp ↓] theorem c_1 (f : D → Out D) (K : D → Env → Out γ) : (m1 f a e).b2 K = (a e).b2 fun x e => (f x).bind fun d => K d e := by
  simp only [m1, b2_mBind, b2_lift]
@[simp ↓] theorem c_2 (f : D → D → Out D) (K : D → Env → Out γ) : (m2 f a b e).b2 K = (a e).b2 fun x e => (b e).b2 fun y e => (f x y).bind fun d => K d e := by
  simp only [m2, b2_mBind, b2_lift]
@[simp ↓] theorem c_2o (f : D → D → Out D) (K : D → Env → Out γ) : (m2o f i b e).b2 K = (getV i e).bind fun _ => (b e).b2 fun y e => (getV i e).bind fun x => (f x y).bind fun d => K d e := by
  simp only [m2o, b2_mBind, b2_lift, c_V]
@[simp ↓] theorem c_nil (K : List D → Env → Out γ) : (mNil e).b2 K = K [] e := rfl
@[simp ↓] theorem c_cons (K : List D → Env → Out γ) : (mCons a r e).b2 K = (a e).b2 fun x e => (r e).b2 fun xs e => K (x :: xs) e := by
  simp only [mCons, b2_mBind, c_pure]
@[simp ↓] theorem c_tup (K : D → Env → Out γ) : (mTup r e).b2 K = (r e).b2 fun xs e => K (.tuple xs) e := by
  simp only [mTup, b2_mBind, c_pure]
@[simp ↓] theorem c_lst (K : D → Env → Out γ) : (mLst r e).b2 K = (r e).b2 fun xs e => K (.list xs) e := by
  simp only [mLst, b2_mBind, c_pure]
@[simp ↓] theorem c_CB (f : List D → Out D) (K : D → Env → Out γ) : (mCB f r e).b2 K = (r e).b2 fun xs e => (f xs).bind fun d => K d e := by
  simp only [mCB, b2_mBind, b2_lift]
@[simp ↓] theorem c_bOf (k : Bool) (K : Bool → Out γ) : (bOf (.bool k)).bind K = K k := rfl
@[simp ↓] theorem c_tV (K : Bool → Env → Out γ) : (tV a e).b2 K = (a e).b2 fun x e => (bOf x).bind fun k => K k e := by
  simp only [tV, b2_mBind, b2_lift]
theorem b2_ifB (k : Bool) (x y : M α) (K : α → Env → Out γ) : ((if k then x else y) e).b2 K = if k then (x e).b2 K else (y e).b2 K := by cases k <;> rfl
@[simp ↓] theorem c_tAnd (K : Bool → Env → Out γ) : (tAnd t s e).b2 K = (t e).b2 fun k e => if k then (s e).b2 K else K false e := by
  simp only [tAnd, b2_mBind, b2_ifB, c_pure]
@[simp ↓] theorem c_tOr (K : Bool → Env → Out γ) : (tOr t s e).b2 K = (t e).b2 fun k e => if k then K true e else (s e).b2 K := by
  simp only [tOr, b2_mBind, b2_ifB, c_pure]
@[simp ↓] theorem c_tNot (K : Bool → Env → Out γ) : (tNot t e).b2 K = (t e).b2 fun k e => K (!k) e := by
  simp only [tNot, b2_mBind, c_pure]
@[simp ↓] theorem c_tYes (K : Bool → Env → Out γ) : (tYes e).b2 K = K true e := rfl
@[simp ↓] theorem c_And (K : D → Env → Out γ) : (mAnd a b e).b2 K = (a e).b2 fun x e => (bOf x).bind fun k => if k then (b e).b2 K else K (.bool false) e := by
  simp only [mAnd, b2_mBind, b2_lift, b2_ifB, c_pure]
@[simp ↓] theorem c_Or (K : D → Env → Out γ) : (mOr a b e).b2 K = (a e).b2 fun x e => (bOf x).bind fun k => if k then K (.bool true) e else (b e).b2 K := by
  simp only [mOr, b2_mBind, b2_lift, b2_ifB, c_pure]
@[simp ↓] theorem c_Not (K : D → Env → Out γ) : (mNot a e).b2 K = (a e).b2 fun x e => (bOf x).bind fun k => K (.bool (!k)) e := by
  simp only [mNot, b2_mBind, b2_lift, c_pure]
@[simp ↓] theorem c_If (K : D → Env → Out γ) : (mIf t a b e).b2 K = (t e).b2 fun k e => if k then (a e).b2 K else (b e).b2 K := by
  simp only [mIf, b2_mBind, b2_ifB]
@[simp ↓] theorem c_Chain (f g : D → D → Out D) (K : D → Env → Out γ) : (mChain f g a b c e).b2 K = (a e).b2 fun x e => (b e).b2 fun y e => (f x y).bind fun z => (bOf z).bind fun k => if k then (c e).b2 fun w e => (g y w).bind fun d => K d e else K (.bool false) e := by
  simp only [mChain, b2_mBind, b2_lift, b2_ifB, c_pure]
@[simp ↓] theorem c_pNo (K : Option Int → Env → Out γ) : (pNo e).b2 K = K none e := rfl
@[simp ↓] theorem c_pAt (K : Option Int → Env → Out γ) : (pAt a e).b2 K = (a e).b2 fun x e => (intOf x).bind fun i => K i e := by
  simp only [pAt, b2_mBind, b2_lift]
@[simp ↓] theorem c_intOf (i : Int) (K : Option Int → Out γ) : (intOf (.int i)).bind K = K (some i) := rfl
@[simp ↓] theorem c_Cut (l h : M (Option Int)) (K : D → Env → Out γ) : (mCut a l h e).b2 K = (a e).b2 fun x e => (l e).b2 fun u e => (h e).b2 fun v e => (dCut x u v).bind fun d => K d e := by
  simp only [mCut, b2_mBind, b2_lift]
/-! statements -/
@[simp ↓] theorem c_N (K : Env → Out γ) : (gN i d e).bind K = setK e i (some d) K := rfl
@[simp ↓] theorem c_T (gs : List Gt) (ds : List D) (K : Env → Out γ) : (gT gs (.tuple ds) e).bind K = (gAll gs ds e).bind K := rfl
@[simp ↓] theorem c_All0 (K : Env → Out γ) : (gAll [] [] e).bind K = K e := rfl
@[simp ↓] theorem c_All1 (g : Gt) (gs : List Gt) (ds : List D) (K : Env → Out γ) : (gAll (g :: gs) (d :: ds) e).bind K = (g d e).bind fun e => (gAll gs ds e).bind K := c_assoc _ _ _
@[simp ↓] theorem c_sNx (K : Fl → Out γ) : (sNx e).bind K = K (.nx e) := rfl
@[simp ↓] theorem c_sBk (K : Fl → Out γ) : (sBk e).bind K = K (.bk e) := rfl
@[simp ↓] theorem c_sCt (K : Fl → Out γ) : (sCt e).bind K = K (.ct e) := rfl
/-- what stands behind a statement -/
def thn (b : S) (K : Fl → Out γ) (f : Fl) : Out γ := match f with
  | .nx e1 => (b e1).bind K
  | f => K f
@[simp ↓] theorem c_Seq (K : Fl → Out γ) : (sSeq p q e).bind K = (p e).bind (thn q K) := by
  unfold sSeq
  rw [c_assoc]
  congr 1
  funext f
  cases f <;> rfl
theorem thn_nx (K : Fl → Out γ) : thn q K (.nx e) = (q e).bind K := rfl
@[simp ↓] theorem thn_nxc (x : Option D) (K : Fl → Out γ) : thn q K (.nx (x :: e)) = (q (x :: e)).bind K := rfl
@[simp ↓] theorem thn_nx0 (K : Fl → Out γ) : thn q K (.nx []) = (q []).bind K := rfl
@[simp ↓] theorem thn_rt (K : Fl → Out γ) : thn q K (.rt d e) = K (.rt d e) := rfl
@[simp ↓] theorem thn_bk (K : Fl → Out γ) : thn q K (.bk e) = K (.bk e) := rfl
@[simp ↓] theorem thn_ct (K : Fl → Out γ) : thn q K (.ct e) = K (.ct e) := rfl
theorem bind_b2 (o : Out (α × Env)) (k : α → Env → Out β) (K : β → Out γ) : (o.bind fun p => k p.1 p.2).bind K = o.b2 fun a e => (k a e).bind K := by cases o <;> rfl
@[simp ↓] theorem c_Set (K : Fl → Out γ) : (sSet i m e).bind K = (m e).b2 fun d e => setK e i (some d) fun e => K (.nx e) := by
  unfold sSet
  cases m e <;> rfl
@[simp ↓] theorem c_Asg (g : Gt) (K : Fl → Out γ) : (sAsg m g e).bind K = (m e).b2 fun d e => (g d e).bind fun e => K (.nx e) := by
  unfold sAsg
  cases m e with
  | ok p => exact c_assoc (g p.1 p.2) _ _
  | _ => rfl
/-- stores, one by one -/
def setAllK (is : List Nat) (ds : List D) (e : Env) (K : Env → Out γ) : Out γ := (setAll is ds e).bind K
@[simp ↓] theorem c_setAll0 (K : Env → Out γ) : setAllK [] [] e K = K e := rfl
@[simp ↓] theorem c_setAll1 (is : List Nat) (ds : List D) (K : Env → Out γ) : setAllK (i :: is) (d :: ds) e K = setK e i (some d) fun e => setAllK is ds e K := rfl
@[simp ↓] theorem c_Par (is : List Nat) (K : Fl → Out γ) : (sPar is r e).bind K = (r e).b2 fun ds e => setAllK is ds e fun e => K (.nx e) := by
  unfold sPar
  cases r e with
  | ok p => exact c_assoc (setAll is p.1 p.2) _ _
  | _ => rfl
@[simp ↓] theorem c_Rt (K : Fl → Out γ) : (sRt m e).bind K = (m e).b2 fun d e => K (.rt d e) := by
  unfold sRt
  cases m e <;> rfl
@[simp ↓] theorem c_RtN (K : Fl → Out γ) : (sRtN e).bind K = K (.rt .none e) := rfl
@[simp ↓] theorem c_Ex (K : Fl → Out γ) : (sEx m e).bind K = (m e).b2 fun d e => K (.nx e) := by
  unfold sEx
  cases m e <;> rfl
@[simp ↓] theorem c_sIf (K : Fl → Out γ) : (sIf t p q e).bind K = (t e).b2 fun k e => if k then (p e).bind K else (q e).bind K := by
  unfold sIf
  cases t e with
  | ok z =>
    obtain ⟨k, e⟩ := z
    cases k <;> rfl
  | _ => rfl
/-- what stands behind a loop's body -/
def lp (k : Env → Out γ) (K : Fl → Out γ) (f : Fl) : Out γ := match f with
  | .nx e2 => k e2
  | .ct e2 => k e2
  | .bk e2 => K (.nx e2)
  | .rt v e2 => K (.rt v e2)
theorem forL_nil (g : Gt) (body : S) (K : Fl → Out γ) : (forL g body [] e).bind K = K (.nx e) := rfl
theorem forL_cons (g : Gt) (body : S) (ds : List D) (K : Fl → Out γ) : (forL g body (d :: ds) e).bind K = (g d e).bind fun e1 => (body e1).bind (lp (fun e => (forL g body ds e).bind K) K) := by
  show (((g d e).bind _).bind K) = _
  rw [c_assoc]
  congr 1
  funext e1
  rw [c_assoc]
  congr 1
  funext f
  cases f <;> rfl
theorem lp_nx (k : Env → Out γ) (K : Fl → Out γ) : lp k K (.nx e) = k e := rfl
@[simp ↓] theorem lp_nxc (x : Option D) (k : Env → Out γ) (K : Fl → Out γ) : lp k K (.nx (x :: e)) = k (x :: e) := rfl
@[simp ↓] theorem lp_ct (k : Env → Out γ) (K : Fl → Out γ) : lp k K (.ct e) = k e := rfl
@[simp ↓] theorem lp_bk (k : Env → Out γ) (K : Fl → Out γ) : lp k K (.bk e) = K (.nx e) := rfl
@[simp ↓] theorem lp_rt (k : Env → Out γ) (K : Fl → Out γ) : lp k K (.rt d e) = K (.rt d e) := rfl
@[simp ↓] theorem c_For (it : M (List D)) (g : Gt) (body : S) (K : Fl → Out γ) : (sFor it g body e).bind K = (it e).b2 fun xs e => (forL g body xs e).bind K := bind_b2 _ (fun xs e => forL g body xs e) _
theorem whileN_s (n : Nat) (body : S) (K : Fl → Out γ) : (whileN t body (n + 1) e).bind K = (t e).b2 fun k e => if k then (body e).bind (lp (fun e => (whileN t body n e).bind K) K) else K (.nx e) := by
  show (((t e).bind _).bind K) = _
  cases t e with
  | ok z =>
    obtain ⟨k, e⟩ := z
    cases k with
    | true =>
      show ((body e).bind _).bind K = (body e).bind _
      rw [c_assoc]
      congr 1
      funext f
      cases f <;> rfl
    | false => rfl
  | _ => rfl
@[simp ↓] theorem c_mutL (f : D → D → Out D) (K : Fl → Out γ) : (mutL f i m e).bind K = (getV i e).bind fun _ => (m e).b2 fun y e => (getV i e).bind fun x => (f x y).bind fun z => setK e i (some z) fun e => K (.nx e) := by
  unfold mutL
  simp only [c_assoc]
  rfl
@[simp ↓] theorem c_mutI (f : D → D → D → Out D) (k : M D) (K : Fl → Out γ) : (mutI f i m k e).bind K = (m e).b2 fun y e => (getV i e).bind fun _ => (k e).b2 fun j e => (getV i e).bind fun x => (f x j y).bind fun z => setK e i (some z) fun e => K (.nx e) := by
  unfold mutI
  simp only [c_assoc]
  rfl
/-! calls -/
@[simp ↓] theorem c_A0 (K : List (Option D) → Env → Out γ) : (evA [] e).b2 K = K [] e := rfl
@[simp ↓] theorem c_Av (as : List Ar) (K : List (Option D) → Env → Out γ) : (evA (.v m :: as) e).b2 K = (m e).b2 fun x e => (evA as e).b2 fun xs e => K (some x :: xs) e := by
  simp only [evA, b2_mBind, c_pure]
@[simp ↓] theorem c_Ao (as : List Ar) (K : List (Option D) → Env → Out γ) : (evA (.o i :: as) e).b2 K = (getV i e).bind fun _ => (evA as e).b2 fun xs e => K (none :: xs) e := by
  simp only [evA, b2_mBind, c_pure, c_V]
@[simp ↓] theorem fill_v (as : List Ar) (xs : List (Option D)) (K : List D → Out γ) : (fillA (.v m :: as) (some d :: xs) e).bind K = (fillA as xs e).bind fun ds => K (d :: ds) := c_assoc _ _ _
@[simp ↓] theorem fill_o (as : List Ar) (x : Option D) (xs : List (Option D)) (K : List D → Out γ) : (fillA (.o i :: as) (x :: xs) e).bind K = (getV i e).bind fun y => (fillA as xs e).bind fun ds => K (y :: ds) := by
  show (((getV i e).bind _).bind K) = _
  rw [c_assoc]
  congr 1
  funext y
  exact c_assoc _ _ _
@[simp ↓] theorem fill_0 (K : List D → Out γ) : (fillA [] [] e).bind K = K [] := rfl
@[simp ↓] theorem put_o (as : List Ar) (x : Option D) (xs : List (Option D)) (K : Env → β) : putK (.o i :: as) (x :: xs) e K = setK e i x fun e => putK as xs e K := rfl
@[simp ↓] theorem put_v (as : List Ar) (xs : List (Option D)) (K : Env → β) : putK (.v m :: as) xs e K = putK as xs e K := rfl
@[simp ↓] theorem put_0 (xs : List (Option D)) (K : Env → β) : putK [] xs e K = K e := rfl
@[simp ↓] theorem c_Call (f : Fn) (as : List Ar) (K : D → Env → Out γ) : (mCall f as e).b2 K = (evA as e).b2 fun vs e => (fillA as vs e).bind fun ds => (f ds).b2 fun d outs => putK as outs e fun e => K d e := by
  unfold mCall
  cases evA as e with
  | ok p =>
    show ((fillA as p.1 p.2).bind _).b2 K = (fillA as p.1 p.2).bind _
    rw [b2_bind]
    congr 1
    funext ds
    rw [b2_bind]
    rfl
  | _ => rfl
/-- a def's end -/
def fin (io : List Bool) (f : Fl) : Out (D × List (Option D)) := match f with
  | .rt d e => .ok (d, outsOf io e)
  | .nx e => .ok (.none, outsOf io e)
  | _ => .no
@[simp ↓] theorem fin_rt (io : List Bool) : fin io (.rt d e) = .ok (d, outsOf io e) := rfl
@[simp ↓] theorem fin_nx (io : List Bool) : fin io (.nx e) = .ok (.none, outsOf io e) := rfl
theorem runF_eq (n : Nat) (io : List Bool) (body : S) (args : List D) : runF n io body args = (body (args.map some ++ List.replicate (n - args.length) none)).bind (fin io) := rfl
@[simp] theorem outs_t (io : List Bool) (x : Option D) : outsOf (true :: io) (x :: e) = x :: outsOf io e := rfl
@[simp] theorem outs_f (io : List Bool) (x : Option D) : outsOf (false :: io) (x :: e) = outsOf io e := rfl
@[simp] theorem outs_0 : outsOf [] e = [] := by cases e <;> rfl
/-! operations -/
section
variable (K : D → Out γ)
@[simp ↓] theorem dAdd_i (a b : Int) : (dAdd (.int a) (.int b)).bind K = K (.int (a + b)) := rfl
@[simp ↓] theorem dAdd_l (a b : List D) (h : a.length + b.length ≤ 16777216) : (dAdd (.list a) (.list b)).bind K = K (.list (a ++ b)) := by simp only [dAdd, if_pos (show a.length + b.length ≤ lineN from h), c_ok]
@[simp ↓] theorem dAdd_t (a b : List D) (h : a.length + b.length ≤ 16777216) : (dAdd (.tuple a) (.tuple b)).bind K = K (.tuple (a ++ b)) := by simp only [dAdd, if_pos (show a.length + b.length ≤ lineN from h), c_ok]
@[simp ↓] theorem dSub_i (a b : Int) : (dSub (.int a) (.int b)).bind K = K (.int (a - b)) := rfl
theorem dMul_i (a b : Int) (h : mulOk a b) : (dMul (.int a) (.int b)).bind K = K (.int (a * b)) := by simp only [dMul, if_pos h, c_ok]
@[simp ↓] theorem dMul_r (a b : Int) (h0 : -18446744073709551616 < b) (h1 : b < 18446744073709551616) : (dMul (.int a) (.int b)).bind K = K (.int (a * b)) := dMul_i K a b (.inr ⟨by omega, by omega⟩)
@[simp ↓] theorem dMul_a (a b : Int) (h0 : -18446744073709551616 < a) (h1 : a < 18446744073709551616) : (dMul (.int a) (.int b)).bind K = K (.int (a * b)) := dMul_i K a b (.inl ⟨by omega, by omega⟩)
@[simp ↓] theorem dDiv_i (a b : Int) (h0 : 0 < b) (h1 : b < 18446744073709551616) : (dDiv (.int a) (.int b)).bind K = K (.int (a / b)) := by
  simp only [dDiv, if_pos (show 0 < b ∧ b < 2 ^ 64 from ⟨h0, by omega⟩), c_ok]
@[simp ↓] theorem dMod_i (a b : Int) (h0 : 0 < b) : (dMod (.int a) (.int b)).bind K = K (.int (a % b)) := by simp only [dMod, if_pos h0, c_ok]
@[simp ↓] theorem dPow_i (a b : Int) (h0 : 0 ≤ b) (h1 : b ≤ 1000000) (h2 : -18446744073709551616 < a) (h3 : a < 18446744073709551616) : (dPow (.int a) (.int b)).bind K = K (.int (a ^ b.toNat)) := by
  simp only [dPow, if_pos (show 0 ≤ b ∧ b ≤ 1000000 ∧ a.natAbs < 2 ^ 64 from ⟨h0, h1, by omega⟩), c_ok]
@[simp ↓] theorem dNeg_i (a : Int) : (dNeg (.int a)).bind K = K (.int (-a)) := rfl
@[simp ↓] theorem dLt_i (a b : Int) : (dLt (.int a) (.int b)).bind K = K (.bool (decide (a < b))) := rfl
@[simp ↓] theorem dLe_i (a b : Int) : (dLe (.int a) (.int b)).bind K = K (.bool (decide (a ≤ b))) := rfl
@[simp ↓] theorem dGt_i (a b : Int) : (dGt (.int a) (.int b)).bind K = K (.bool (decide (b < a))) := rfl
@[simp ↓] theorem dGe_i (a b : Int) : (dGe (.int a) (.int b)).bind K = K (.bool (decide (b ≤ a))) := rfl
@[simp ↓] theorem dEq_i (a b : Int) : (dEq (.int a) (.int b)).bind K = K (.bool (decide (a = b))) := rfl
@[simp ↓] theorem dNe_i (a b : Int) : (dNe (.int a) (.int b)).bind K = K (.bool (!decide (a = b))) := rfl
@[simp ↓] theorem dIs2_n : (dIs2 d .none).bind K = (dIsN d).bind K := rfl
@[simp ↓] theorem dIsn2_n : (dIsn2 d .none).bind K = (dIsnN d).bind K := rfl
@[simp ↓] theorem dIsN_i (i : Int) : (dIsN (.int i)).bind K = K (.bool false) := rfl
@[simp ↓] theorem dIsN_t (i : List D) : (dIsN (.tuple i)).bind K = K (.bool false) := rfl
@[simp ↓] theorem dIsN_l (i : List D) : (dIsN (.list i)).bind K = K (.bool false) := rfl
@[simp ↓] theorem dIsN_b (i : Bool) : (dIsN (.bool i)).bind K = K (.bool false) := rfl
@[simp ↓] theorem dIsN_s (i : Str) : (dIsN (.str i)).bind K = K (.bool false) := rfl
@[simp ↓] theorem dIsN_n : (dIsN .none).bind K = K (.bool true) := rfl
@[simp ↓] theorem dIsnN_i (i : Int) : (dIsnN (.int i)).bind K = K (.bool true) := rfl
@[simp ↓] theorem dIsnN_t (i : List D) : (dIsnN (.tuple i)).bind K = K (.bool true) := rfl
@[simp ↓] theorem dIsnN_l (i : List D) : (dIsnN (.list i)).bind K = K (.bool true) := rfl
@[simp ↓] theorem dIsnN_b (i : Bool) : (dIsnN (.bool i)).bind K = K (.bool true) := rfl
@[simp ↓] theorem dIsnN_n : (dIsnN .none).bind K = K (.bool false) := rfl
@[simp ↓] theorem dIsB_b (a b : Bool) : (dIsB (.bool a) (.bool b)).bind K = K (.bool (decide (a = b))) := rfl
@[simp ↓] theorem dIsnB_b (a b : Bool) : (dIsnB (.bool a) (.bool b)).bind K = K (.bool (!decide (a = b))) := rfl
@[simp ↓] theorem dIx_l (xs : List D) (i : Int) : (dIx (.list xs) (.int i)).bind K = (oOf (atL xs i)).bind K := rfl
@[simp ↓] theorem dIx_t (xs : List D) (i : Int) : (dIx (.tuple xs) (.int i)).bind K = (oOf (atL xs i)).bind K := rfl
@[simp ↓] theorem dLen_l (xs : List D) : (dLen1 (.list xs)).bind K = K (.int xs.length) := rfl
@[simp ↓] theorem dLen_t (xs : List D) : (dLen1 (.tuple xs)).bind K = K (.int xs.length) := rfl
@[simp ↓] theorem dAbs_i (i : Int) : (dAbs (.int i)).bind K = K (.int (if i < 0 then -i else i)) := rfl
@[simp ↓] theorem dMin_i (i j : Int) : (dMin2 (.int i) (.int j)).bind K = K (.int (if j < i then j else i)) := rfl
@[simp ↓] theorem dMax_i (i j : Int) : (dMax2 (.int i) (.int j)).bind K = K (.int (if j > i then j else i)) := rfl
@[simp ↓] theorem dGcd_i (a b : Int) : (dGcd (.int a) (.int b)).bind K = K (.int ((Nat.gcd a.natAbs b.natAbs : Nat) : Int)) := rfl
@[simp ↓] theorem dInt_i (i : Int) : (dInt1 (.int i)).bind K = K (.int i) := rfl
@[simp ↓] theorem dInt_b (k : Bool) : (dInt1 (.bool k)).bind K = K (.int (if k then 1 else 0)) := rfl
@[simp ↓] theorem dTup_l (xs : List D) : (dTuple1 (.list xs)).bind K = K (.tuple xs) := rfl
@[simp ↓] theorem dTup_t (xs : List D) : (dTuple1 (.tuple xs)).bind K = K (.tuple xs) := rfl
@[simp ↓] theorem dList_l (xs : List D) : (dList1 (.list xs)).bind K = K (.list xs) := rfl
@[simp ↓] theorem dList_t (xs : List D) : (dList1 (.tuple xs)).bind K = K (.list xs) := rfl
@[simp ↓] theorem dList_s (xs : List D) : (dList1 (scr xs)).bind K = K (.list xs) := rfl
@[simp ↓] theorem dSum_l (xs : List D) : (dSum1 (.list xs)).bind K = (intsOf xs).bind fun is => K (.int is.sum) := c_assoc _ _ _
@[simp ↓] theorem dAll_l (xs : List D) : (dAll1 (.list xs)).bind K = (boolsOf xs).bind fun is => K (.bool (is.all id)) := c_assoc _ _ _
@[simp ↓] theorem dAny_l (xs : List D) : (dAny1 (.list xs)).bind K = (boolsOf xs).bind fun is => K (.bool (is.any id)) := c_assoc _ _ _
@[simp ↓] theorem dIsi_i (k : String) (i : Int) : (dIsi k (.int i)).bind K = K (.bool (k == "int")) := rfl
@[simp ↓] theorem dIsi_b (k : String) (i : Bool) : (dIsi k (.bool i)).bind K = K (.bool (k == "int" || k == "bool")) := rfl
@[simp ↓] theorem dIsi_s (k : String) (i : Str) : (dIsi k (.str i)).bind K = K (.bool (k == "str")) := rfl
@[simp ↓] theorem dIsi_l (k : String) (i : List D) : (dIsi k (.list i)).bind K = K (.bool (k == "list")) := rfl
@[simp ↓] theorem dIsi_t (k : String) (i : List D) : (dIsi k (.tuple i)).bind K = K (.bool (k == "tuple")) := rfl
@[simp ↓] theorem dIsi_n (k : String) : (dIsi k .none).bind K = K (.bool false) := rfl
@[simp ↓] theorem dApp_l (xs : List D) (h : xs.length < 16777216) : (dApp (.list xs) d).bind K = K (.list (xs ++ [d])) := by simp only [dApp, if_pos (show xs.length < lineN from h), c_ok]
@[simp ↓] theorem dPut_l (xs : List D) (i : Int) : (dPut (.list xs) (.int i) d).bind K = (oOf (ixN xs.length i)).bind fun j => K (.list (xs.set j d)) := c_assoc _ _ _
@[simp ↓] theorem dRev_l (xs : List D) : (dRev (.list xs)).bind K = K (.list xs.reverse) := rfl
@[simp ↓] theorem dRev_t (xs : List D) : (dRev (.tuple xs)).bind K = K (.tuple xs.reverse) := rfl
@[simp ↓] theorem dExt_l (xs ys : List D) (h : xs.length + ys.length ≤ 16777216) : (dExt (.list xs) (.list ys)).bind K = K (.list (xs ++ ys)) := by simp only [dExt, if_pos (show xs.length + ys.length ≤ lineN from h), c_ok]
theorem dMinL_l (x : D) (xs : List D) (h : mmOk (x :: xs)) : (dMinL (.list (x :: xs))).bind K = K (PySem.W.minD x xs) := by
  unfold dMinL mmD
  simp only [if_pos h, c_ok]
  rfl
theorem dMaxL_l (x : D) (xs : List D) (h : mmOk (x :: xs)) : (dMaxL (.list (x :: xs))).bind K = K (PySem.W.maxD x xs) := by
  unfold dMaxL mmD
  simp only [if_pos h, c_ok]
  rfl
theorem dSortL_l (xs : List D) (h : srtOk xs) : (dSortL (.list xs)).bind K = K (.list (xs.mergeSort leD)) := by
  unfold dSortL
  simp only [if_pos h, c_ok]
@[simp ↓] theorem dCut_l (xs : List D) (l h : Option Int) : (dCut (.list xs) l h).bind K = K (.list (cutL xs l h)) := rfl
@[simp ↓] theorem dCut_t (xs : List D) (l h : Option Int) : (dCut (.tuple xs) l h).bind K = K (.tuple (cutL xs l h)) := rfl
end
@[simp ↓] theorem oOf_some (x : α) (K : α → Out γ) : (oOf (some x)).bind K = K x := rfl
theorem walkOk_of {a b : Int} (h0 : -4611686018427387904 ≤ a) (h1 : a < 4611686018427387904) (h2 : -4611686018427387904 ≤ b) (h3 : b < 4611686018427387904) : walkOk a b := ⟨by omega, by omega, by omega, by omega⟩
theorem iRg_i (a b : Int) (K : List D → Out γ) (h0 : -4611686018427387904 ≤ a) (h1 : a < 4611686018427387904) (h2 : -4611686018427387904 ≤ b) (h3 : b < 4611686018427387904) : (iRg (.int a) (.int b)).bind K = K (rgL a (b - a).toNat) := by
  simp only [iRg, if_pos (walkOk_of h0 h1 h2 h3), c_ok]
@[simp ↓] theorem iRg_0 (b : Int) (K : List D → Out γ) (h2 : -1000 < b) (h3 : b < 4611686018427387904) : (iRg (.int 0) (.int b)).bind K = K (rgL 0 b.toNat) := by
  rw [iRg_i 0 b K (by omega) (by omega) (by omega) h3, Int.sub_zero]
@[simp ↓] theorem iRg_a (a b : Int) (K : List D → Out γ) (h0 : -1000 < a) (h1 : a < 4611686018427387904) (h2 : -1000 < b) (h3 : b < 4611686018427387904) : (iRg (.int a) (.int b)).bind K = K (rgL a (b - a).toNat) := iRg_i a b K (by omega) h1 (by omega) h3
@[simp ↓] theorem c_wRg1 (K : List D → Env → Out γ) : (wRg1 b e).b2 K = (b e).b2 fun y e => (iRg (.int 0) y).bind fun xs => K xs e := by
  simp only [wRg1, b2_mBind, b2_lift]
@[simp ↓] theorem c_wRg2 (K : List D → Env → Out γ) : (wRg2 a b e).b2 K = (a e).b2 fun x e => (b e).b2 fun y e => (iRg x y).bind fun xs => K xs e := by
  simp only [wRg2, b2_mBind, b2_lift]
@[simp ↓] theorem zipD_l (xs ys : List D) (K : List D → Out γ) : (zipD (.list xs) (.list ys)).bind K = K (List.zipWith (fun x y => .tuple [x, y]) xs ys) := rfl
@[simp ↓] theorem zipD_t (xs ys : List D) (K : List D → Out γ) : (zipD (.tuple xs) (.tuple ys)).bind K = K (List.zipWith (fun x y => .tuple [x, y]) xs ys) := rfl
@[simp ↓] theorem enD_l (xs : List D) (K : List D → Out γ) : (enD (.list xs)).bind K = K (enumL xs) := rfl
@[simp ↓] theorem c_wZip (K : List D → Env → Out γ) : (wZip a b e).b2 K = (a e).b2 fun x e => (b e).b2 fun y e => (zipD x y).bind fun xs => K xs e := by
  simp only [wZip, b2_mBind, b2_lift]
@[simp ↓] theorem c_wEn (K : List D → Env → Out γ) : (wEn a e).b2 K = (a e).b2 fun x e => (enD x).bind fun xs => K xs e := by
  simp only [wEn, b2_mBind, b2_lift]
@[simp ↓] theorem items_l (xs : List D) (K : List D → Out γ) : (itemsOf (.list xs)).bind K = K xs := rfl
@[simp ↓] theorem items_t (xs : List D) (K : List D → Out γ) : (itemsOf (.tuple xs)).bind K = K xs := rfl
@[simp ↓] theorem c_wIt (K : List D → Env → Out γ) : (wIt a e).b2 K = (a e).b2 fun x e => (itemsOf x).bind fun xs => K xs e := by
  simp only [wIt, b2_mBind, b2_lift]
@[simp ↓] theorem rgBig_ok' (xs : List D) (h : xs.length ≤ 16777216) (K : List D → Out γ) : (rgBig xs).bind K = K xs := by simp only [rgBig, if_pos (show xs.length ≤ lineN from h), c_ok]
@[simp ↓] theorem c_tupRg (K : D → Env → Out γ) : (tupRg r e).b2 K = (r e).b2 fun xs e => (rgBig xs).bind fun ys => K (.tuple ys) e := by
  simp only [tupRg, b2_mBind, b2_lift, c_pure]
@[simp ↓] theorem c_lstRg (K : D → Env → Out γ) : (lstRg r e).b2 K = (r e).b2 fun xs e => (rgBig xs).bind fun ys => K (.list ys) e := by
  simp only [lstRg, b2_mBind, b2_lift, c_pure]
end
/-- a def's first env, its end in what stands behind -/
def envK {γ : Type} (as : List D) (n : Nat) (K : Env → γ) : γ := K (as.map some ++ List.replicate (n - as.length) none)
def fin2 {γ : Type} (io : List Bool) (K : D → List (Option D) → Out γ) (f : Fl) : Out γ := match f with
  | .rt d e => K d (outsOf io e)
  | .nx e => K .none (outsOf io e)
  | _ => .no
section
variable {γ : Type} {e : Env} {d : D}
@[simp ↓] theorem fin2_rt (io : List Bool) (K : D → List (Option D) → Out γ) : fin2 io K (.rt d e) = K d (outsOf io e) := rfl
@[simp ↓] theorem fin2_nx (io : List Bool) (K : D → List (Option D) → Out γ) : fin2 io K (.nx e) = K .none (outsOf io e) := rfl
@[simp ↓] theorem envK_a (a : D) (as : List D) (n : Nat) (K : Env → γ) : envK (a :: as) (n + 1) K = envK as n fun e => K (some a :: e) := by
  unfold envK
  rw [List.length_cons, show n + 1 - (as.length + 1) = n - as.length by omega]
  rfl
@[simp ↓] theorem envK_n (n : Nat) (K : Env → γ) : envK [] (n + 1) K = envK [] n fun e => K (none :: e) := by
  unfold envK
  rfl
@[simp ↓] theorem envK_0 (K : Env → γ) : envK [] 0 K = K [] := rfl
theorem c_run (n : Nat) (io : List Bool) (body : S) (as : List D) (K : D → List (Option D) → Out γ) : (runF n io body as).b2 K = envK as n fun e => (body e).bind (fin2 io K) := by
  unfold runF
  show Out.b2 (Out.bind (body (as.map some ++ List.replicate (n - as.length) none)) _) K = (body (as.map some ++ List.replicate (n - as.length) none)).bind (fin2 io K)
  cases body (as.map some ++ List.replicate (n - as.length) none) with
  | ok f => cases f <;> rfl
  | _ => rfl
theorem run_b2 {α β : Type} (o : Out (α × β)) : o = o.b2 fun a b => .ok (a, b) := by
  cases o with
  | ok a => obtain ⟨x, y⟩ := a; rfl
  | _ => rfl
end
/-! ### positions -/
theorem atL_nn {α : Type} {xs : List α} {i : Int} (h0 : 0 ≤ i) (h1 : i < xs.length) : atL xs i = xs[i.toNat]? := by
  unfold atL ixN
  rw [if_pos h0, if_pos h1]
  rfl
theorem atL_nat {α : Type} (xs : List α) (n : Nat) : atL xs (n : Int) = xs[n]? := by
  by_cases h : n < xs.length
  · rw [atL_nn (by omega) (by omega)]
    rfl
  · unfold atL ixN
    rw [if_pos (by omega), if_neg (by omega)]
    simp at h
    simp [h]
section
variable {α γ : Type} (x : α) (xs : List α) (K : α → Out γ)
@[simp ↓] theorem at_0 : (oOf (atL (x :: xs) 0)).bind K = K x := by
  rw [show (0 : Int) = ((0 : Nat) : Int) from rfl, atL_nat]
  rfl
@[simp ↓] theorem at_1 (x0 : α) : (oOf (atL (x0 :: x :: xs) 1)).bind K = K x := by
  rw [show (1 : Int) = ((1 : Nat) : Int) from rfl, atL_nat]
  rfl
@[simp ↓] theorem at_2 (x0 x1 : α) : (oOf (atL (x0 :: x1 :: x :: xs) 2)).bind K = K x := by
  rw [show (2 : Int) = ((2 : Nat) : Int) from rfl, atL_nat]
  rfl
@[simp ↓] theorem at_3 (x0 x1 x2 : α) : (oOf (atL (x0 :: x1 :: x2 :: x :: xs) 3)).bind K = K x := by
  rw [show (3 : Int) = ((3 : Nat) : Int) from rfl, atL_nat]
  rfl
@[simp ↓] theorem at_4 (x0 x1 x2 x3 : α) : (oOf (atL (x0 :: x1 :: x2 :: x3 :: x :: xs) 4)).bind K = K x := by
  rw [show (4 : Int) = ((4 : Nat) : Int) from rfl, atL_nat]
  rfl
@[simp ↓] theorem at_5 (x0 x1 x2 x3 x4 : α) : (oOf (atL (x0 :: x1 :: x2 :: x3 :: x4 :: x :: xs) 5)).bind K = K x := by
  rw [show (5 : Int) = ((5 : Nat) : Int) from rfl, atL_nat]
  rfl
@[simp ↓] theorem at_6 (x0 x1 x2 x3 x4 x5 : α) : (oOf (atL (x0 :: x1 :: x2 :: x3 :: x4 :: x5 :: x :: xs) 6)).bind K = K x := by
  rw [show (6 : Int) = ((6 : Nat) : Int) from rfl, atL_nat]
  rfl
@[simp ↓] theorem at_7 (x0 x1 x2 x3 x4 x5 x6 : α) : (oOf (atL (x0 :: x1 :: x2 :: x3 :: x4 :: x5 :: x6 :: x :: xs) 7)).bind K = K x := by
  rw [show (7 : Int) = ((7 : Nat) : Int) from rfl, atL_nat]
  rfl
@[simp ↓] theorem at_8 (x0 x1 x2 x3 x4 x5 x6 x7 : α) : (oOf (atL (x0 :: x1 :: x2 :: x3 :: x4 :: x5 :: x6 :: x7 :: x :: xs) 8)).bind K = K x := by
  rw [show (8 : Int) = ((8 : Nat) : Int) from rfl, atL_nat]
  rfl
@[simp ↓] theorem at_9 (x0 x1 x2 x3 x4 x5 x6 x7 x8 : α) : (oOf (atL (x0 :: x1 :: x2 :: x3 :: x4 :: x5 :: x6 :: x7 :: x8 :: x :: xs) 9)).bind K = K x := by
  rw [show (9 : Int) = ((9 : Nat) : Int) from rfl, atL_nat]
  rfl
end
/-- a known result, to be used from the outside -/
theorem Out.cE {α γ : Type} {o : Out α} {a : α} (h : o = .ok a) (K : α → Out γ) : o.bind K = K a := by rw [h]; rfl
theorem Out.cE2 {α β γ : Type} {o : Out (α × β)} {a : α} {b : β} (h : o = .ok (a, b)) (K : α → β → Out γ) : o.b2 K = K a b := by rw [h]; rfl
end PD

set_option autoImplicit false
set_option linter.all false
/-! PdY: loops and comprehensions of programs over data. -/
namespace PD
open PySem

theorem b2_eta {α β : Type} (o : Out (α × β)) : o.b2 (fun a b => .ok (a, b)) = o := by
  cases o with
  | ok a => obtain ⟨x, y⟩ := a; rfl
  | _ => rfl
theorem bind_eta {α : Type} (o : Out α) : o.bind .ok = o := by cases o <;> rfl
theorem get_rgL {a : Int} {n i : Nat} {d : D} (h : (rgL a n)[i]? = some d) : i < n ∧ d = .int (a + i) := by
  unfold rgL at h
  rw [List.getElem?_map] at h
  cases e : (List.range n)[i]? with
  | none => rw [e] at h; cases h
  | some j =>
    rw [e] at h
    cases h
    rw [List.getElem?_eq_some_iff] at e
    obtain ⟨h1, h2⟩ := e
    rw [List.getElem_range] at h2
    subst h2
    exact ⟨by simpa using h1, rfl⟩
theorem rgL_ln (a : Int) (n : Nat) : (rgL a n).length = n := by simp [rgL]
/-! ### for -/
section
variable {g : Gt} {body : S} {γ : Type}
theorem forI (I : Nat → Env → Prop) : ∀ (xs : List D) (j : Nat) (e : Env), I j e → (∀ i d e, xs[i]? = some d → I (j + i) e → ∃ e', (g d e).bind (fun e1 => (body e1).bind .ok) = .ok (.nx e') ∧ I (j + i + 1) e') → ∃ e', forL g body xs e = .ok (.nx e') ∧ I (j + xs.length) e'
  | [], j, e, h, hs => ⟨e, rfl, h⟩
  | d :: ds, j, e, h, hs => by
    obtain ⟨e1, h1, h2⟩ := hs 0 d e rfl h
    obtain ⟨e2, h3, h4⟩ := forI I ds (j + 1) e1 h2 fun i d' e' hd hi => by
      have := hs (i + 1) d' e' (by simpa using hd) (by rw [show j + (i + 1) = j + 1 + i by omega]; exact hi)
      rw [show j + (i + 1) + 1 = j + 1 + i + 1 by omega] at this
      exact this
    refine ⟨e2, ?_, by rw [List.length_cons, show j + (ds.length + 1) = j + 1 + ds.length by omega]; exact h4⟩
    rw [← bind_eta (forL g body (d :: ds) e), forL_cons]
    obtain ⟨e0, q1, q2⟩ := Out.bind_eq_ok h1
    rw [bind_eta] at q2
    rw [q1]
    show (body e0).bind _ = _
    rw [q2]
    show (forL g body ds e1).bind _ = _
    rw [bind_eta, h3]
/-- over a range -/
theorem forR (I : Nat → Env → Prop) {a : Int} {n : Nat} {e : Env} (h0 : I 0 e) (hs : ∀ i e, i < n → I i e → ∃ e', (g (.int (a + i)) e).bind (fun e1 => (body e1).bind .ok) = .ok (.nx e') ∧ I (i + 1) e') : ∃ e', forL g body (rgL a n) e = .ok (.nx e') ∧ I n e' := by
  obtain ⟨e', h1, h2⟩ := forI I (rgL a n) 0 e h0 fun i d e hd hi => by
    obtain ⟨h1, rfl⟩ := get_rgL hd
    rw [Nat.zero_add] at hi ⊢
    exact hs i e h1 hi
  rw [rgL_ln, Nat.zero_add] at h2
  exact ⟨e', h1, h2⟩
/-- .. left in its k-th turn -/
theorem forX (I : Nat → Env → Prop) (v : D) (P : Env → Prop) (k : Nat) : ∀ (xs : List D) (j : Nat) (e : Env), I j e → k < xs.length → (∀ i d e, i < k → xs[i]? = some d → I (j + i) e → ∃ e', (g d e).bind (fun e1 => (body e1).bind .ok) = .ok (.nx e') ∧ I (j + i + 1) e') →
    (∀ d e, xs[k]? = some d → I (j + k) e → ∃ e', (g d e).bind (fun e1 => (body e1).bind .ok) = .ok (.rt v e') ∧ P e') → ∃ e', forL g body xs e = .ok (.rt v e') ∧ P e' := by
  induction k with
  | zero =>
    intro xs j e h hl _ hk
    cases xs with
    | nil => simp at hl
    | cons d ds =>
      obtain ⟨e', h1, h2⟩ := hk d e rfl h
      refine ⟨e', ?_, h2⟩
      rw [← bind_eta (forL g body (d :: ds) e), forL_cons]
      obtain ⟨e0, q1, q2⟩ := Out.bind_eq_ok h1
      rw [bind_eta] at q2
      rw [q1]
      show (body e0).bind _ = _
      rw [q2]
      rfl
  | succ k ih =>
    intro xs j e h hl hs hk
    cases xs with
    | nil => simp at hl
    | cons d ds =>
      obtain ⟨e1, h1, h2⟩ := hs 0 d e (by omega) rfl h
      obtain ⟨e', h3, h4⟩ := ih ds (j + 1) e1 h2 (by simpa using hl) (fun i d' e' hi hd hI => by
        have := hs (i + 1) d' e' (by omega) (by simpa using hd) (by rw [show j + (i + 1) = j + 1 + i by omega]; exact hI)
        rw [show j + (i + 1) + 1 = j + 1 + i + 1 by omega] at this
        exact this) (fun d' e' hd hI => hk d' e' (by simpa using hd) (by rw [show j + (k + 1) = j + 1 + k by omega]; exact hI))
      refine ⟨e', ?_, h4⟩
      rw [← bind_eta (forL g body (d :: ds) e), forL_cons]
      obtain ⟨e0, q1, q2⟩ := Out.bind_eq_ok h1
      rw [bind_eta] at q2
      rw [q1]
      show (body e0).bind _ = _
      rw [q2]
      show (forL g body ds e1).bind _ = _
      rw [bind_eta, h3]
theorem forRX (I : Nat → Env → Prop) (v : D) (P : Env → Prop) (k : Nat) {a : Int} {n : Nat} {e : Env} (h0 : I 0 e) (hk : k < n) (hs : ∀ i e, i < k → I i e → ∃ e', (g (.int (a + i)) e).bind (fun e1 => (body e1).bind .ok) = .ok (.nx e') ∧ I (i + 1) e')
    (hx : ∀ e, I k e → ∃ e', (g (.int (a + k)) e).bind (fun e1 => (body e1).bind .ok) = .ok (.rt v e') ∧ P e') : ∃ e', forL g body (rgL a n) e = .ok (.rt v e') ∧ P e' := by
  refine forX I v P k (rgL a n) 0 e h0 (by rw [rgL_ln]; exact hk) (fun i d e hi hd hI => ?_) fun d e hd hI => ?_
  · obtain ⟨h1, rfl⟩ := get_rgL hd
    rw [Nat.zero_add] at hI ⊢
    exact hs i e hi hI
  · obtain ⟨h1, rfl⟩ := get_rgL hd
    rw [Nat.zero_add] at hI
    exact hx e hI
/-- while, by what is left -/
theorem whI {t : M Bool} {body : S} (I : Nat → Env → Prop) (hs : ∀ n e, I (n + 1) e → ∃ e1 e', (t e).b2 (fun k e => .ok (k, e)) = .ok (true, e1) ∧ (body e1).bind .ok = .ok (.nx e') ∧ I n e') (h0 : ∀ e, I 0 e → ∃ e', (t e).b2 (fun k e => .ok (k, e)) = .ok (false, e') ∧ I 0 e') :
    ∀ (n m : Nat) (e : Env), I n e → n < m → ∃ e', whileN t body m e = .ok (.nx e') ∧ I 0 e'
  | 0, m + 1, e, h, hm => by
    obtain ⟨e', h1, h2⟩ := h0 e h
    refine ⟨e', ?_, h2⟩
    rw [b2_eta] at h1
    rw [← bind_eta (whileN t body (m + 1) e), whileN_s, h1]
    rfl
  | n + 1, m + 1, e, h, hm => by
    obtain ⟨e1, e2, h1, h2, h3⟩ := hs n e h
    obtain ⟨e', h4, h5⟩ := whI I hs h0 n m e2 h3 (by omega)
    refine ⟨e', ?_, h5⟩
    rw [b2_eta] at h1
    rw [bind_eta] at h2
    rw [← bind_eta (whileN t body (m + 1) e), whileN_s, h1]
    show (body e1).bind _ = _
    rw [h2]
    show (whileN t body m e2).bind _ = _
    rw [bind_eta, h4]
  | n, 0, e, h, hm => by omega
theorem whK {t : M Bool} {body : S} (I : Nat → Env → Prop) (n : Nat) (e : Env) (h : I n e) (hn : n < 1000000000) (hs : ∀ n e, I (n + 1) e → ∃ e1 e', (t e).b2 (fun k e => .ok (k, e)) = .ok (true, e1) ∧ (body e1).bind .ok = .ok (.nx e') ∧ I n e') (h0 : ∀ e, I 0 e → ∃ e', (t e).b2 (fun k e => .ok (k, e)) = .ok (false, e') ∧ I 0 e') :
    ∃ e', sWhile t body e = .ok (.nx e') ∧ I 0 e' := whI I hs h0 n wfuel e h (by unfold wfuel; exact hn)
end
/-! .. used on a goal -/
section
variable {g : Gt} {body : S} {γ : Type} {K : Fl → Out γ} {R : Out γ} {e : Env}
theorem c_forR (I : Nat → Env → Prop) {a : Int} {n : Nat} (h0 : I 0 e) (hs : ∀ i e, i < n → I i e → ∃ e', (g (.int (a + i)) e).bind (fun e1 => (body e1).bind .ok) = .ok (.nx e') ∧ I (i + 1) e') (hk : ∀ e', I n e' → K (.nx e') = R) : (forL g body (rgL a n) e).bind K = R := by
  obtain ⟨e', h1, h2⟩ := forR I h0 hs
  rw [h1]
  exact hk e' h2
theorem c_forI (I : Nat → Env → Prop) {xs : List D} (h0 : I 0 e) (hs : ∀ i d e, xs[i]? = some d → I i e → ∃ e', (g d e).bind (fun e1 => (body e1).bind .ok) = .ok (.nx e') ∧ I (i + 1) e') (hk : ∀ e', I xs.length e' → K (.nx e') = R) : (forL g body xs e).bind K = R := by
  obtain ⟨e', h1, h2⟩ := forI (g := g) (body := body) I xs 0 e h0 fun i d e hd hi => by
    rw [Nat.zero_add] at hi ⊢
    exact hs i d e hd hi
  rw [h1]
  rw [Nat.zero_add] at h2
  exact hk e' h2
theorem c_forRX (I : Nat → Env → Prop) (k : Nat) {a : Int} {n : Nat} (h0 : I 0 e) (hn : k < n) (hs : ∀ i e, i < k → I i e → ∃ e', (g (.int (a + i)) e).bind (fun e1 => (body e1).bind .ok) = .ok (.nx e') ∧ I (i + 1) e')
    (v : D) (hx : ∀ e, I k e → ∃ e', (g (.int (a + k)) e).bind (fun e1 => (body e1).bind .ok) = .ok (.rt v e') ∧ K (.rt v e') = R) : (forL g body (rgL a n) e).bind K = R := by
  obtain ⟨e', h1, h2⟩ := forRX (g := g) (body := body) I v (fun e' => K (.rt v e') = R) k h0 hn hs hx
  rw [h1]
  exact h2
theorem c_wh {t : M Bool} (I : Nat → Env → Prop) (n : Nat) (h : I n e) (hn : n < 1000000000) (hs : ∀ n e, I (n + 1) e → ∃ e1 e', (t e).b2 (fun k e => .ok (k, e)) = .ok (true, e1) ∧ (body e1).bind .ok = .ok (.nx e') ∧ I n e') (h0 : ∀ e, I 0 e → ∃ e', (t e).b2 (fun k e => .ok (k, e)) = .ok (false, e') ∧ I 0 e')
    (hk : ∀ e', I 0 e' → K (.nx e') = R) : (sWhile t body e).bind K = R := by
  obtain ⟨e', h1, h2⟩ := whK (t := t) (body := body) I n e h hn hs h0
  rw [h1]
  exact hk e' h2
end
/-! .. on a goal that says something else of what comes out -/
section
variable {g : Gt} {body : S} {γ : Type} {K : Fl → Out γ} {R : Out γ → Prop} {e : Env}
theorem g_forR (I : Nat → Env → Prop) {a : Int} {n : Nat} (h0 : I 0 e) (hs : ∀ i e, i < n → I i e → ∃ e', (g (.int (a + i)) e).bind (fun e1 => (body e1).bind .ok) = .ok (.nx e') ∧ I (i + 1) e') (hk : ∀ e', I n e' → R (K (.nx e'))) : R ((forL g body (rgL a n) e).bind K) := by
  obtain ⟨e', h1, h2⟩ := forR I h0 hs
  rw [h1]
  exact hk e' h2
theorem g_forI (I : Nat → Env → Prop) {xs : List D} (h0 : I 0 e) (hs : ∀ i d e, xs[i]? = some d → I i e → ∃ e', (g d e).bind (fun e1 => (body e1).bind .ok) = .ok (.nx e') ∧ I (i + 1) e') (hk : ∀ e', I xs.length e' → R (K (.nx e'))) : R ((forL g body xs e).bind K) := by
  obtain ⟨e', h1, h2⟩ := forI (g := g) (body := body) I xs 0 e h0 fun i d e hd hi => by
    rw [Nat.zero_add] at hi ⊢
    exact hs i d e hd hi
  rw [h1]
  rw [Nat.zero_add] at h2
  exact hk e' h2
theorem g_forRX (I : Nat → Env → Prop) (k : Nat) {a : Int} {n : Nat} (h0 : I 0 e) (hn : k < n) (hs : ∀ i e, i < k → I i e → ∃ e', (g (.int (a + i)) e).bind (fun e1 => (body e1).bind .ok) = .ok (.nx e') ∧ I (i + 1) e')
    (v : D) (hx : ∀ e, I k e → ∃ e', (g (.int (a + k)) e).bind (fun e1 => (body e1).bind .ok) = .ok (.rt v e') ∧ R (K (.rt v e'))) : R ((forL g body (rgL a n) e).bind K) := by
  obtain ⟨e', h1, h2⟩ := forRX (g := g) (body := body) I v (fun e' => R (K (.rt v e'))) k h0 hn hs hx
  rw [h1]
  exact h2
theorem g_wh {t : M Bool} (I : Nat → Env → Prop) (n : Nat) (h : I n e) (hn : n < 1000000000) (hs : ∀ n e, I (n + 1) e → ∃ e1 e', (t e).b2 (fun k e => .ok (k, e)) = .ok (true, e1) ∧ (body e1).bind .ok = .ok (.nx e') ∧ I n e') (h0 : ∀ e, I 0 e → ∃ e', (t e).b2 (fun k e => .ok (k, e)) = .ok (false, e') ∧ I 0 e')
    (hk : ∀ e', I 0 e' → R (K (.nx e'))) : R ((sWhile t body e).bind K) := by
  obtain ⟨e', h1, h2⟩ := whK (t := t) (body := body) I n e h hn hs h0
  rw [h1]
  exact hk e' h2
end
/-- it falls through, and I holds behind it -/
def NxI (I : Env → Prop) (o : Out Fl) : Prop := ∃ e', o = .ok (.nx e') ∧ I e'
/-! ### comprehensions that draw nothing -/
section
variable {vs : List Nat} {src : M (List D)} {g : Gt} {t : M Bool} {elt : M D} {γ : Type}
/-- one turn -/
def lcStep (g : Gt) (t : M Bool) (elt : M D) (d : D) (e : Env) : Out (Option D × Env) := (g d e).bind fun e1 => (t e1).b2 fun k e2 => if k then (elt e2).b2 fun y e3 => .ok (some y, e3) else .ok (none, e2)
theorem lcL_step (d : D) (ds : List D) (e : Env) : lcL vs g t elt (d :: ds) e = (lcStep g t elt d (wipeE e vs)).b2 fun y e => (lcL vs g t elt ds e).b2 fun ys e => .ok ((match y with | some y => y :: ys | none => ys), e) := by
  show (g d (wipeE e vs)).bind _ = _
  unfold lcStep
  cases g d (wipeE e vs) with
  | ok e1 =>
    simp only [c_ok]
    cases t e1 with
    | ok p =>
      obtain ⟨k, e2⟩ := p
      cases k with
      | true =>
        simp only [c_ok, c_ok2, if_true]
        cases elt e2 with
        | ok q => rfl
        | _ => rfl
      | false =>
        simp only [c_ok, c_ok2, if_true]
        exact (b2_eta (lcL vs g t elt ds e2)).symm
    | _ => rfl
  | _ => rfl
theorem lcL_pure (f : Nat → Option D) : ∀ (xs : List D) (j : Nat) (e e0 : Env), wipeE e vs = wipeE e0 vs → (∀ i d, xs[i]? = some d → ∃ e', lcStep g t elt d (wipeE e0 vs) = .ok (f (j + i), e') ∧ wipeE e' vs = wipeE e0 vs) → lcL vs g t elt xs e = .ok ((List.range xs.length).filterMap (fun i => f (j + i)), wipeE e0 vs)
  | [], j, e, e0, h, _ => by
    show Out.ok ([], wipeE e vs) = _
    rw [h]
    rfl
  | d :: ds, j, e, e0, h, hs => by
    obtain ⟨e', h1, h2⟩ := hs 0 d rfl
    rw [lcL_step, h, h1]
    simp only [c_ok2]
    rw [lcL_pure f ds (j + 1) e' e0 h2 fun i d' hd => by
      have := hs (i + 1) d' (by simpa using hd)
      rw [show j + (i + 1) = j + 1 + i by omega] at this
      exact this]
    show Out.ok (_, _) = _
    rw [List.length_cons, List.range_succ_eq_map, List.filterMap_cons]
    have e3 : List.filterMap (fun i => f (j + i)) (List.map Nat.succ (List.range ds.length)) = List.filterMap (fun i => f (j + 1 + i)) (List.range ds.length) := by
      rw [List.filterMap_map]
      congr 1
      funext i
      show f (j + (i + 1)) = _
      congr 1
      omega
    rw [e3]
    cases f (j + 0) <;> rfl
theorem len_fm {α β : Type} (f : α → Option β) : ∀ xs : List α, (xs.filterMap f).length ≤ xs.length := fun xs => List.length_filterMap_le f xs
theorem c_lc {e0 : Env} (K : D → Env → Out γ) (xs : List D) (e : Env) (f : Nat → Option D) (hsrc : (src e0).b2 (fun xs e => Out.ok (xs, e)) = .ok (xs, e)) (hw : backE vs e (wipeE e vs) = e) (hlen : xs.length ≤ 16777216)
    (hs : ∀ i d, xs[i]? = some d → ∃ e', lcStep g t elt d (wipeE e vs) = .ok (f i, e') ∧ wipeE e' vs = wipeE e vs) : (mLc vs src g t elt e0).b2 K = K (.list ((List.range xs.length).filterMap f)) e := by
  rw [b2_eta] at hsrc
  unfold mLc
  rw [hsrc]
  show ((lcL vs g t elt xs e).bind _).b2 K = _
  rw [lcL_pure f xs 0 e e rfl fun i d hd => by rw [Nat.zero_add]; exact hs i d hd]
  show (if _ ≤ lineN then _ else _ : Out _).b2 K = _
  have q : ((List.range xs.length).filterMap f).length ≤ lineN := Nat.le_trans (len_fm _ _) (by rw [List.length_range]; exact hlen)
  simp only [Nat.zero_add]
  rw [if_pos q]
  show K _ (backE vs e (wipeE e vs)) = _
  rw [hw]
theorem lcL_mem (f : D → Option D) : ∀ (xs : List D) (e e0 : Env), wipeE e vs = wipeE e0 vs → (∀ d ∈ xs, ∃ e', lcStep g t elt d (wipeE e0 vs) = .ok (f d, e') ∧ wipeE e' vs = wipeE e0 vs) → lcL vs g t elt xs e = .ok (xs.filterMap f, wipeE e0 vs)
  | [], e, e0, h, _ => by
    show Out.ok ([], wipeE e vs) = _
    rw [h]
    rfl
  | d :: ds, e, e0, h, hs => by
    obtain ⟨e', h1, h2⟩ := hs d (by simp)
    rw [lcL_step, h, h1]
    simp only [c_ok2]
    rw [lcL_mem f ds e' e0 h2 fun d' hd => hs d' (by simp [hd])]
    show Out.ok (_, _) = _
    rw [List.filterMap_cons]
    cases f d <;> rfl
/-- .. over a list, by its members -/
theorem c_lcM {e0 : Env} (K : D → Env → Out γ) (xs : List D) (e : Env) (f : D → Option D) (hsrc : (src e0).b2 (fun xs e => Out.ok (xs, e)) = .ok (xs, e)) (hw : backE vs e (wipeE e vs) = e) (hlen : xs.length ≤ 16777216)
    (hs : ∀ d ∈ xs, ∃ e', lcStep g t elt d (wipeE e vs) = .ok (f d, e') ∧ wipeE e' vs = wipeE e vs) : (mLc vs src g t elt e0).b2 K = K (.list (xs.filterMap f)) e := by
  rw [b2_eta] at hsrc
  unfold mLc
  rw [hsrc]
  show ((lcL vs g t elt xs e).bind _).b2 K = _
  rw [lcL_mem f xs e e rfl hs]
  show (if _ ≤ lineN then _ else _ : Out _).b2 K = _
  have q : (xs.filterMap f).length ≤ lineN := Nat.le_trans (len_fm _ _) hlen
  simp only
  rw [if_pos q]
  show K _ (backE vs e (wipeE e vs)) = _
  rw [hw]
/-- over a range -/
theorem c_lcR {e0 : Env} (K : D → Env → Out γ) (a : Int) (n : Nat) (e : Env) (f : Nat → Option D) (hsrc : (src e0).b2 (fun xs e => Out.ok (xs, e)) = .ok (rgL a n, e)) (hw : backE vs e (wipeE e vs) = e) (hlen : n ≤ 16777216)
    (hs : ∀ i : Nat, i < n → ∃ e', lcStep g t elt (.int (a + i)) (wipeE e vs) = .ok (f i, e') ∧ wipeE e' vs = wipeE e vs) : (mLc vs src g t elt e0).b2 K = K (.list ((List.range n).filterMap f)) e := by
  have := c_lc (vs := vs) (src := src) (g := g) (t := t) (elt := elt) K (rgL a n) e f hsrc hw (by rw [rgL_ln]; exact hlen) fun i d hd => by
    obtain ⟨h1, rfl⟩ := get_rgL hd
    exact hs i h1
  rw [rgL_ln] at this
  exact this
end
theorem boolsOf_all : ∀ (n : Nat), boolsOf (List.replicate n (.bool true)) = .ok (List.replicate n true)
  | 0 => rfl
  | n + 1 => by
    rw [List.replicate_succ]
    show (boolsOf _).bind _ = _
    rw [boolsOf_all n]
    rfl
theorem fm_const {α β : Type} (b : β) : ∀ xs : List α, xs.filterMap (fun _ => some b) = List.replicate xs.length b
  | [] => rfl
  | x :: xs => by
    rw [List.filterMap_cons]
    show b :: _ = _
    rw [fm_const b xs]
    rfl
theorem all_rep : ∀ n : Nat, (List.replicate n true).all id = true := fun n => by simp
end PD

set_option autoImplicit false
set_option linter.all false
/-! PdZ: the drawing defs that every law's text has, and the def that compares. -/
namespace PD
open PySem

/-! ### the cup: its first draws, its draws -/
abbrev cupD (c : Int × Int) : D := .list [.int c.1, .int c.2]
/-- the numbers of a law's _law_cup -/
structure CN where
  (a b c d e : Int)
def cupB (n : CN) : PD.S := sSeq (sSet 1 (m1 dAbs (m2 dIx (m2 dAdd (m1 dList1 (mV 0)) (mLst (mCons (mC (.int 0)) (mNil)))) (mC (.int 0))))) (sRt (mLst (mCons (mIf (tV (m2 dGe (mV 1) (m2 dPow (mC (.int 10)) (mC (.int 18))))) (m2 dDiv (mV 1) (mC (.int n.a))) (mC (.int 0))) (mCons (m2 dAdd (m2 dMod (m1 dInt1 (m2 dAdd (m2 dMul (mV 1) (mC (.int n.b))) (mC (.int n.c)))) (mC (.int n.d))) (mC (.int n.e))) (mNil)))))
def CN.ok (n : CN) : Prop := 0 < n.a ∧ n.a < 18446744073709551616 ∧ 0 < n.b ∧ n.b < 18446744073709551616 ∧ 0 < n.d
theorem cup_eq {n : CN} (hn : n.ok) (ns : List Int) (hl : ns.length ≤ 63) : ∃ c, runF 2 [false] (cupB n) [scr (ns.map PyData.int)] = .ok (cupD c, []) := by
  obtain ⟨h1, h2, h3, h4, h5⟩ := hn
  have key : ∀ (i : Int) (r : List D), r.length ≤ 70 → ∃ c, ((sSeq (sSet 1 (m1 dAbs (m2 dIx (mC (.list (.int i :: r))) (mC (.int 0))))) (sRt (mLst (mCons (mIf (tV (m2 dGe (mV 1) (m2 dPow (mC (.int 10)) (mC (.int 18))))) (m2 dDiv (mV 1) (mC (.int n.a))) (mC (.int 0))) (mCons (m2 dAdd (m2 dMod (m1 dInt1 (m2 dAdd (m2 dMul (mV 1) (mC (.int n.b))) (mC (.int n.c)))) (mC (.int n.d))) (mC (.int n.e))) (mNil)))))) [some (scr (ns.map PyData.int)), none]).bind (fin [false]) = .ok (cupD c, []) := fun i r hr => by
    generalize hx : (if i < 0 then -i else i) = x
    by_cases h : (1000000000000000000 : Int) ≤ x
    · exact ⟨(x / n.a, (x * n.b + n.c) % n.d + n.e), by simp -implicitDefEqProofs (disch := omega) [hx, h]⟩
    · exact ⟨(0, (x * n.b + n.c) % n.d + n.e), by simp -implicitDefEqProofs (disch := omega) [hx, h]⟩
  cases ns with
  | nil =>
    obtain ⟨c, h⟩ := key 0 [] (by simp)
    refine ⟨c, ?_⟩
    rw [← h]
    show ((cupB n [some (scr []), none]).bind (fin [false])) = _
    unfold cupB
    simp -implicitDefEqProofs (disch := simp)
  | cons i r =>
    obtain ⟨c, h⟩ := key i (r.map PyData.int ++ [.int 0]) (by simp at hl ⊢; omega)
    refine ⟨c, ?_⟩
    rw [← h]
    show ((cupB n [some (scr ((i :: r).map PyData.int)), none]).bind (fin [false])) = _
    unfold cupB
    have hl' : (PyData.int i :: r.map PyData.int).length + [PyData.int 0].length ≤ 16777216 := by simp at hl ⊢; omega
    simp -implicitDefEqProofs (disch := first | omega | exact hl')
/-- the numbers of a law's _law_roll -/
structure RN where
  (a b c d e f : Int)
def rollB (r : RN) : PD.S := sSeq (sIf (tV (m2 dGt (m2o dIx 0 (mC (.int 0))) (mC (.int 0)))) (sSeq (sSet 2 (m2 dMod (m1 dInt1 (m2o dIx 0 (mC (.int 0)))) (mV 1))) (sSeq (mutI dPut 0 (m2 dDiv (m2o dIx 0 (mC (.int 0))) (mV 1)) (mC (.int 0))) (sRt (mV 2)))) (sNx)) (sSeq (mutI dPut 0 (m2 dMod (m1 dInt1 (m2 dAdd (m2 dMul (m2o dIx 0 (mC (.int 1))) (mC (.int r.a))) (mC (.int r.b)))) (mC (.int r.c))) (mC (.int 1))) (sSeq (sSet 3 (m2 dMod (m1 dInt1 (m2 dMul (m2o dIx 0 (mC (.int 1))) (m2 dAdd (m2o dIx 0 (mC (.int 1))) (mC (.int r.d))))) (mC (.int r.e)))) (sRt (m2 dMod (m1 dInt1 (m2 dDiv (mV 3) (mC (.int r.f)))) (mV 1)))))
def nextC (r : RN) (c : Int × Int) : Int := (c.2 * r.a + r.b) % r.c
def rollV (r : RN) (c : Int × Int) (n : Int) : Int := if 0 < c.1 then c.1 % n else (nextC r c * (nextC r c + r.d) % r.e / r.f) % n
def rollC (r : RN) (c : Int × Int) (n : Int) : Int × Int := if 0 < c.1 then (c.1 / n, c.2) else (c.1, nextC r c)
theorem rollV_nn (r : RN) (c : Int × Int) {n : Int} (h : 0 < n) : 0 ≤ rollV r c n := by
  unfold rollV
  split <;> exact Int.emod_nonneg _ (by omega)
theorem rollV_lt (r : RN) (c : Int × Int) {n : Int} (h : 0 < n) : rollV r c n < n := by
  unfold rollV
  split <;> exact Int.emod_lt_of_pos _ h
def RN.ok (r : RN) : Prop := 0 < r.a ∧ r.a < 18446744073709551616 ∧ 0 < r.c ∧ r.c < 18446744073709551616 ∧ 0 < r.e ∧ 0 < r.f ∧ r.f < 18446744073709551616
theorem roll_eq {r : RN} (hr : r.ok) (c : Int × Int) (n : Int) (h : 0 < n) (h2 : n < 18446744073709551616) : runF 4 [true, false] (rollB r) [cupD c, .int n] = .ok (.int (rollV r c n), [some (cupD (rollC r c n))]) := by
  obtain ⟨q1, q2, q3, q4, q5, q6, q7⟩ := hr
  show ((rollB r [some (cupD c), some (.int n), none, none]).bind (fin [true, false])) = _
  unfold rollB rollV rollC nextC cupD
  by_cases h0 : 0 < c.1
  · simp -implicitDefEqProofs (disch := omega) [h0, ixN]
  · have a1 := Int.emod_nonneg (c.2 * r.a + r.b) (show r.c ≠ 0 by omega)
    have a2 := Int.emod_lt_of_pos (c.2 * r.a + r.b) q3
    simp -implicitDefEqProofs (disch := omega) [h0, ixN]
/-- one of the things -/
def pick (r : RN) (c : Int × Int) (xs : List D) : D := xs.getD (rollV r c xs.length).toNat .none
theorem pick_mem (r : RN) (c : Int × Int) {xs : List D} (h : 0 < xs.length) : pick r c xs ∈ xs := by
  have h1 := rollV_nn r c (n := xs.length) (by omega)
  have h2 := rollV_lt r c (n := xs.length) (by omega)
  unfold pick
  rw [List.getD_eq_getElem?_getD, List.getElem?_eq_getElem (by omega)]
  exact List.getElem_mem _
theorem some_eq {r : RN} {roll : Fn} (hr : ∀ (c : Int × Int) (n : Int), 0 < n → n < 18446744073709551616 → roll [cupD c, .int n] = .ok (.int (rollV r c n), [some (cupD (rollC r c n))])) (c : Int × Int) (xs : List D) (h : 0 < xs.length) (h2 : xs.length < 1000000) :
    runF 2 [true, false] (sRt (m2 dIx (mV 1) (mCall roll [.o 0, .v (m1 dLen1 (mV 1))]))) [cupD c, .list xs] = .ok (pick r c xs, [some (cupD (rollC r c xs.length))]) := by
  have h1 := rollV_nn r c (n := xs.length) (by omega)
  have h3 := rollV_lt r c (n := xs.length) (by omega)
  have e : oOf (atL xs (rollV r c xs.length)) = .ok (pick r c xs) := by
    rw [atL_nn h1 h3]
    unfold pick
    rw [List.getD_eq_getElem?_getD, List.getElem?_eq_getElem (by omega)]
    rfl
  show ((sRt (m2 dIx (mV 1) (mCall roll [.o 0, .v (m1 dLen1 (mV 1))]))) [some (cupD c), some (.list xs)]).bind (fin [true, false]) = _
  simp -implicitDefEqProofs (disch := omega) [↓Out.cE2 (hr c xs.length (by omega) (by omega)), ↓Out.cE e]

/-! ### _law_same -/
def sameB (fn : Fn) : PD.S := sSeq (sIf (tV (m1 (dIsi "tuple") (mV 1))) (sSeq (sIf (tOr (tNot (tV (m1 (dIsi "tuple") (mV 0)))) (tV (m2 dNe (m1 dLen1 (mV 0)) (m1 dLen1 (mV 1))))) (sRt (mC (.bool false))) (sNx)) (sRt (m1 dAll1 (mLc [2] (wRg1 (m1 dLen1 (mV 1))) (gN 2) (tYes) (mCall fn [.v (m2 dIx (mV 0) (mV 2)), .v (m2 dIx (mV 1) (mV 2))]))))) (sNx)) (sSeq (sIf (tV (m2 dIs2 (mV 1) (mC .none))) (sRt (m2 dIs2 (mV 0) (mC .none))) (sNx)) (sSeq (sIf (tV (m1 (dIsi "bool") (mV 1))) (sRt (mIf (tV (mV 1)) (m2 dIsB (mV 0) (mC (.bool true))) (m2 dIsB (mV 0) (mC (.bool false))))) (sNx)) (sSeq (sIf (tV (m1 (dIsi "int") (mV 1))) (sRt (mAnd (m1 (dIsi "int") (mV 0)) (mAnd (mNot (m1 (dIsi "bool") (mV 0))) (m2 dEq (m1 dInt1 (mV 0)) (mV 1))))) (sNx)) (sRt (mAnd (m1 (dIsi "str") (mV 0)) (m2 dEq (m1 dStr1 (mV 0)) (mV 1)))))))
def sameF : Nat → Fn := fixF fun fn => runF 3 [false, false] (sameB fn)
/-- what it may be asked of, to so deep -/
inductive Sm : Nat → D → Prop
  | non (n : Nat) : Sm (n + 1) .none
  | bl (n : Nat) (b : Bool) : Sm (n + 1) (.bool b)
  | int (n : Nat) (i : Int) : Sm (n + 1) (.int i)
  | str (n : Nat) (s : Str) : Sm (n + 1) (.str s)
  | tup (n : Nat) (xs : List D) : xs.length ≤ 16777216 → (∀ x ∈ xs, Sm n x) → Sm (n + 1) (.tuple xs)
theorem sm1 (f : Fn) : ((sameB f [some .none, some .none, none]).bind (fin [false, false])) = .ok (.bool true, []) := by
  unfold sameB
  simp -implicitDefEqProofs
theorem sm2 (f : Fn) (b : Bool) : ((sameB f [some (.bool b), some (.bool b), none]).bind (fin [false, false])) = .ok (.bool true, []) := by
  unfold sameB
  cases b <;> simp -implicitDefEqProofs
theorem sm3 (f : Fn) (b : Int) : ((sameB f [some (.int b), some (.int b), none]).bind (fin [false, false])) = .ok (.bool true, []) := by
  unfold sameB
  simp -implicitDefEqProofs
theorem sm4 (f : Fn) (b : Str) : ((sameB f [some (.str b), some (.str b), none]).bind (fin [false, false])) = .ok (.bool true, []) := by
  unfold sameB
  simp [dIs2, dIsN, dStr1, dEq]
theorem sm5 (f : Fn) (xs : List D) (hl : xs.length ≤ 16777216) (h : ∀ x ∈ xs, f [x, x] = .ok (.bool true, [])) : ((sameB f [some (.tuple xs), some (.tuple xs), none]).bind (fin [false, false])) = .ok (.bool true, []) := by
  unfold sameB
  simp -implicitDefEqProofs
  rw [c_lcR _ 0 xs.length [some (.tuple xs), some (.tuple xs), none] (fun _ => some (.bool true)) (by simp -implicitDefEqProofs (disch := omega)) rfl hl fun i hi => ?_]
  · rw [fm_const, List.length_range]
    simp -implicitDefEqProofs [boolsOf_all]
  · refine ⟨[some (.tuple xs), some (.tuple xs), some (.int (0 + (i : Int)))], ?_, rfl⟩
    have e : oOf (atL xs (0 + (i : Int))) = .ok xs[i] := by
      rw [Int.zero_add, atL_nat, List.getElem?_eq_getElem hi]
      rfl
    have q := h xs[i] (List.getElem_mem hi)
    unfold lcStep
    show (gN 2 _ [some (.tuple xs), some (.tuple xs), none]).bind _ = _
    simp -implicitDefEqProofs [↓Out.cE e, ↓Out.cE2 q]
theorem same_refl (n : Nat) : ∀ (x : D), Sm n x → sameF n [x, x] = .ok (.bool true, []) := by
  induction n with
  | zero =>
    intro x h
    cases h
  | succ n ih =>
    intro x h
    show ((sameB (sameF n) [some x, some x, none]).bind (fin [false, false])) = _
    cases h with
    | non => exact sm1 _
    | bl _ b => exact sm2 _ b
    | int _ i => exact sm3 _ i
    | str _ i => exact sm4 _ i
    | tup _ xs hl h => exact sm5 _ xs hl fun x hx => ih x (h x hx)
end PD

set_option autoImplicit false
set_option linter.all false
/-! PdN: lists of ints and of pairs as data. -/
namespace PD
open PySem

abbrev iL (ns : List Int) : List D := ns.map .int
theorem eqv_ii (a b : Int) : PyData.eqv (.int a) (.int b) = decide (a = b) := by
  simp [PyData.eqv, Bool.beq_eq_decide_eq]
theorem plainAll_iL : ∀ ns : List Int, PyData.plainAll (iL ns) = true
  | [] => rfl
  | n :: ns => by
    show PyData.plainAll (.int n :: iL ns) = true
    rw [PyData.plainAll, plainAll_iL ns]
    rfl
theorem depthAll_iL : ∀ ns : List Int, PyData.depthAll (iL ns) = 0
  | [] => rfl
  | n :: ns => by
    show PyData.depthAll (.int n :: iL ns) = 0
    rw [PyData.depthAll, depthAll_iL ns]
    rfl
theorem eqvAll_iL : ∀ ns : List Int, PyData.eqvAll (iL ns) (iL ns) = true
  | [] => rfl
  | n :: ns => by
    show PyData.eqvAll (.int n :: iL ns) (.int n :: iL ns) = true
    rw [PyData.eqvAll, eqvAll_iL ns, eqv_ii]
    simp
theorem any_iL (i : Int) : ∀ ns : List Int, ((iL ns).any fun y => PyData.eqv y (.int i)) = decide (i ∈ ns)
  | [] => by simp
  | n :: ns => by
    show (PyData.eqv (.int n) (.int i) || (iL ns).any fun y => PyData.eqv y (.int i)) = _
    rw [any_iL i ns, eqv_ii]
    by_cases h : n = i
    · simp [h]
    · have h2 : ¬ i = n := fun z => h z.symm
      simp [h, h2]
theorem inL_iL (i : Int) (ns : List Int) : inL (.int i) (iL ns) = .ok (.bool (decide (i ∈ ns))) := by
  unfold inL
  rw [if_pos ⟨rfl, plainAll_iL ns, Nat.zero_le _⟩, any_iL]
section
variable {γ : Type} (K : D → Out γ)
@[simp ↓] theorem dIn_t (i : Int) (ns : List Int) : (dIn (.int i) (.tuple (iL ns))).bind K = K (.bool (decide (i ∈ ns))) := by
  show (inL (.int i) (iL ns)).bind K = _
  rw [inL_iL]
  rfl
@[simp ↓] theorem dIn_l (i : Int) (ns : List Int) : (dIn (.int i) (.list (iL ns))).bind K = K (.bool (decide (i ∈ ns))) := by
  show (inL (.int i) (iL ns)).bind K = _
  rw [inL_iL]
  rfl
@[simp ↓] theorem dNotIn_t (i : Int) (ns : List Int) : (dNotIn (.int i) (.tuple (iL ns))).bind K = K (.bool (!decide (i ∈ ns))) := by
  show (((inL (.int i) (iL ns)).bind _).bind K) = _
  rw [inL_iL]
  rfl
end
/-- a comprehension over a list of ints -/
theorem c_lcI {vs : List Nat} {src : M (List D)} {g : Gt} {t : M Bool} {elt : M D} {γ : Type} {e0 : Env} (K : D → Env → Out γ) (ns : List Int) (e : Env) (f : Int → Option D) (hsrc : (src e0).b2 (fun xs e => Out.ok (xs, e)) = .ok (iL ns, e)) (hw : backE vs e (wipeE e vs) = e) (hlen : ns.length ≤ 16777216)
    (hs : ∀ i ∈ ns, ∃ e', lcStep g t elt (.int i) (wipeE e vs) = .ok (f i, e') ∧ wipeE e' vs = wipeE e vs) : (mLc vs src g t elt e0).b2 K = K (.list (ns.filterMap f)) e := by
  rw [c_lcM K (iL ns) e (fun d => match d with | .int i => f i | _ => none) hsrc hw (by rw [List.length_map]; exact hlen) fun d hd => ?_]
  · rw [List.filterMap_map]
    rfl
  · rw [List.mem_map] at hd
    obtain ⟨i, hi, rfl⟩ := hd
    exact hs i hi
theorem fm_if (p : Int → Bool) : ∀ ns : List Int, ns.filterMap (fun i => if p i then some (PyData.int i) else none) = iL (ns.filter p)
  | [] => rfl
  | n :: ns => by
    rw [List.filterMap_cons, List.filter_cons, fm_if p ns]
    cases p n <;> rfl
theorem fm_ifN (p : Nat → Bool) : ∀ ns : List Nat, ns.filterMap (fun (i : Nat) => if p i then some (PyData.int i) else none) = iL ((ns.filter p).map fun (i : Nat) => (i : Int))
  | [] => rfl
  | n :: ns => by
    rw [List.filterMap_cons, List.filter_cons, fm_ifN p ns]
    cases p n <;> rfl
theorem boolsOf_map : ∀ {α : Type} (f : α → Bool) (xs : List α), boolsOf (xs.map fun x => .bool (f x)) = .ok (xs.map f)
  | _, f, [] => rfl
  | _, f, x :: xs => by
    show (boolsOf _).bind _ = _
    rw [boolsOf_map f xs]
    rfl
theorem fm_some {α β : Type} (f : α → β) : ∀ xs : List α, xs.filterMap (fun x => some (f x)) = xs.map f
  | [] => rfl
  | x :: xs => by rw [List.filterMap_cons, List.map_cons, fm_some f xs]
theorem sm_iL (n : Nat) (ns : List Int) (h : ns.length ≤ 16777216) : Sm (n + 2) (.tuple (iL ns)) := .tup _ _ (by rw [List.length_map]; exact h) fun x hx => by
  rw [List.mem_map] at hx
  obtain ⟨i, _, rfl⟩ := hx
  exact .int _ i
theorem intsOf_iL : ∀ ns : List Int, intsOf (iL ns) = .ok ns
  | [] => rfl
  | n :: ns => by
    show (intsOf (iL ns)).bind _ = _
    rw [intsOf_iL ns]
    rfl
/-! ### least and greatest -/
theorem allAl_iL (ns : List Int) : allAl (iL ns) = true := by
  unfold allAl
  rw [Bool.and_eq_true]
  constructor
  · rw [List.all_eq_true]
    intro x hx
    rw [List.mem_map] at hx
    obtain ⟨i, _, rfl⟩ := hx
    rw [List.all_eq_true]
    intro y hy
    rw [List.mem_map] at hy
    obtain ⟨j, _, rfl⟩ := hy
    rfl
  · rw [List.all_eq_true]
    intro x hx
    rw [List.mem_map] at hx
    obtain ⟨i, _, rfl⟩ := hx
    rfl
theorem mmOk_iL (ns : List Int) : mmOk (iL ns) := ⟨allAl_iL ns, plainAll_iL ns, by rw [depthAll_iL]; omega⟩
/-- the first of the least, the first of the greatest -/
def minI (n : Int) (ns : List Int) : Int := ns.foldl min n
def maxI (n : Int) (ns : List Int) : Int := ns.foldl max n
section
variable {γ : Type} (K : D → Out γ)
@[simp ↓] theorem dMax_iL (n : Int) (ns : List Int) : (dMaxL (.list (iL (n :: ns)))).bind K = K (.int (maxI n ns)) := by
  rw [show iL (n :: ns) = .int n :: iL ns from rfl, dMaxL_l K _ _ (mmOk_iL (n :: ns)), PySem.W.maxD_ints]
  rfl
@[simp ↓] theorem dMin_iL (n : Int) (ns : List Int) : (dMinL (.list (iL (n :: ns)))).bind K = K (.int (minI n ns)) := by
  rw [show iL (n :: ns) = .int n :: iL ns from rfl, dMinL_l K _ _ (mmOk_iL (n :: ns)), PySem.W.minD_ints]
  rfl
end
theorem maxI_spec (ns : List Int) : ∀ n : Int, maxI n ns ∈ n :: ns ∧ ∀ x ∈ n :: ns, x ≤ maxI n ns := by
  unfold maxI
  induction ns with
  | nil => intro n; simp
  | cons m r ih =>
    intro n
    rw [List.foldl_cons]
    obtain ⟨h1, h2⟩ := ih (max n m)
    constructor
    · rcases List.mem_cons.mp h1 with h | h
      · rw [h]
        by_cases q : n ≤ m
        · rw [show max n m = m by omega]; simp
        · rw [show max n m = n by omega]; simp
      · simp [h]
    · intro x hx
      have b := h2 (max n m) (by simp)
      simp only [List.mem_cons] at hx
      rcases hx with rfl | rfl | hx
      · omega
      · omega
      · exact h2 x (by simp [hx])
theorem minI_spec (ns : List Int) : ∀ n : Int, minI n ns ∈ n :: ns ∧ ∀ x ∈ n :: ns, minI n ns ≤ x := by
  unfold minI
  induction ns with
  | nil => intro n; simp
  | cons m r ih =>
    intro n
    rw [List.foldl_cons]
    obtain ⟨h1, h2⟩ := ih (min n m)
    constructor
    · rcases List.mem_cons.mp h1 with h | h
      · rw [h]
        by_cases q : n ≤ m
        · rw [show min n m = n by omega]; simp
        · rw [show min n m = m by omega]; simp
      · simp [h]
    · intro x hx
      have b := h2 (min n m) (by simp)
      simp only [List.mem_cons] at hx
      rcases hx with rfl | rfl | hx
      · omega
      · omega
      · exact h2 x (by simp [hx])
/-! ### pairs -/
abbrev pD (p : Int × Int) : D := .tuple [.int p.1, .int p.2]
abbrev pL (ps : List (Int × Int)) : List D := ps.map pD
theorem plainAll_pL : ∀ ps : List (Int × Int), PyData.plainAll (pL ps) = true
  | [] => rfl
  | p :: ps => by
    show PyData.plainAll (pD p :: pL ps) = true
    rw [PyData.plainAll, plainAll_pL ps]
    rfl
theorem depthAll_pL : ∀ ps : List (Int × Int), PyData.depthAll (pL ps) ≤ 1
  | [] => Nat.zero_le _
  | p :: ps => by
    show PyData.depthAll (pD p :: pL ps) ≤ 1
    rw [PyData.depthAll]
    have := depthAll_pL ps
    have e : (pD p).depth = 1 := rfl
    omega
theorem allAl_pL (ps : List (Int × Int)) : allAl (pL ps) = true := by
  unfold allAl
  rw [Bool.and_eq_true]
  constructor
  · rw [List.all_eq_true]
    intro x hx
    rw [List.mem_map] at hx
    obtain ⟨i, _, rfl⟩ := hx
    rw [List.all_eq_true]
    intro y hy
    rw [List.mem_map] at hy
    obtain ⟨j, _, rfl⟩ := hy
    rfl
  · rw [List.all_eq_true]
    intro x hx
    rw [List.mem_map] at hx
    obtain ⟨i, _, rfl⟩ := hx
    rfl
theorem mmOk_pL (ps : List (Int × Int)) : mmOk (pL ps) := ⟨allAl_pL ps, plainAll_pL ps, by have := depthAll_pL ps; omega⟩
def ltP (p q : Int × Int) : Prop := p.1 < q.1 ∨ (p.1 = q.1 ∧ p.2 < q.2)
instance (p q : Int × Int) : Decidable (ltP p q) := by unfold ltP; infer_instance
def minP (p : Int × Int) (ps : List (Int × Int)) : Int × Int := ps.foldl (fun a y => if ltP y a then y else a) p
theorem minD_pL (ps : List (Int × Int)) : ∀ p, PySem.W.minD (pD p) (pL ps) = pD (minP p ps) := by
  unfold PySem.W.minD minP
  induction ps with
  | nil => intro p; rfl
  | cons q r ih =>
    intro p
    show List.foldl _ (if PySem.W.dataLt (pD q) (pD p) = true then pD q else pD p) (pL r) = _
    rw [List.foldl_cons, PySem.W.dataLt_ii]
    by_cases h : ltP q p
    · rw [if_pos (by simpa [ltP] using h), if_pos h, ih]
    · rw [if_neg (by simpa [ltP] using h), if_neg h, ih]
section
variable {γ : Type} (K : D → Out γ)
theorem dMin_pL (p : Int × Int) (ps : List (Int × Int)) : (dMinL (.list (pD p :: pL ps))).bind K = K (pD (minP p ps)) := by
  rw [dMinL_l K _ _ (mmOk_pL (p :: ps)), minD_pL]
end
theorem minP_spec (ps : List (Int × Int)) : ∀ p, minP p ps ∈ p :: ps ∧ ∀ q ∈ p :: ps, ¬ ltP q (minP p ps) := by
  unfold minP
  induction ps with
  | nil =>
    intro p
    refine ⟨by simp, fun q hq => ?_⟩
    simp only [List.mem_cons, List.not_mem_nil, or_false] at hq
    subst hq
    show ¬ ltP q q
    unfold ltP
    omega
  | cons m r ih =>
    intro p
    rw [List.foldl_cons]
    obtain ⟨h1, h2⟩ := ih (if ltP m p then m else p)
    generalize hm : r.foldl (fun a y => if ltP y a then y else a) (if ltP m p then m else p) = z at *
    have b := h2 (if ltP m p then m else p) (by simp)
    constructor
    · rcases List.mem_cons.mp h1 with h | h
      · rw [h]
        split <;> simp
      · simp [h]
    · intro q hq
      simp only [List.mem_cons] at hq
      rcases hq with rfl | rfl | hq
      · by_cases c : ltP m q
        · rw [if_pos c] at b
          unfold ltP at *
          omega
        · rw [if_neg c] at b
          exact b
      · by_cases c : ltP q p
        · rw [if_pos c] at b
          exact b
        · rw [if_neg c] at b
          unfold ltP at *
          omega
      · exact h2 q (by simp [hq])
theorem dEq_tt (xs ys : List D) : dEq (.tuple xs) (.tuple ys) = if eqOk (.tuple xs) (.tuple ys) then .ok (.bool (PyData.eqv (.tuple xs) (.tuple ys))) else .no := rfl
theorem dEq_ll (xs ys : List D) : dEq (.list xs) (.list ys) = if eqOk (.list xs) (.list ys) then .ok (.bool (PyData.eqv (.list xs) (.list ys))) else .no := rfl
theorem eqvAll_ii : ∀ xs ys : List Int, PyData.eqvAll (iL xs) (iL ys) = decide (xs = ys)
  | [], [] => by simp [PyData.eqvAll]
  | [], y :: ys => by simp [PyData.eqvAll]
  | x :: xs, [] => by simp [PyData.eqvAll]
  | x :: xs, y :: ys => by
    show PyData.eqvAll (.int x :: iL xs) (.int y :: iL ys) = _
    rw [PyData.eqvAll, eqvAll_ii xs ys, eqv_ii]
    by_cases h1 : x = y <;> by_cases h2 : xs = ys <;> simp [h1, h2]
/-- == of tuples of ints -/
theorem dEq_iT (xs ys : List Int) : dEq (.tuple (iL xs)) (.tuple (iL ys)) = .ok (.bool (decide (xs = ys))) := by
  have d : ∀ zs : List Int, PyData.depth (.tuple (iL zs)) = 1 := fun zs => by rw [PyData.depth, depthAll_iL]
  rw [dEq_tt, if_pos ⟨by rw [PyData.plain]; exact plainAll_iL _, by rw [PyData.plain]; exact plainAll_iL _, .inl (by rw [d]; omega)⟩, PyData.eqv, eqvAll_ii]
theorem dEq_iLs (xs ys : List Int) : dEq (.list (iL xs)) (.list (iL ys)) = .ok (.bool (decide (xs = ys))) := by
  have d : ∀ zs : List Int, PyData.depth (.list (iL zs)) = 1 := fun zs => by rw [PyData.depth, depthAll_iL]
  rw [dEq_ll, if_pos ⟨by rw [PyData.plain]; exact plainAll_iL _, by rw [PyData.plain]; exact plainAll_iL _, .inl (by rw [d]; omega)⟩, PyData.eqv, eqvAll_ii]
/-! ### sorted -/
theorem leD_ii (a b : Int) : leD (.int a) (.int b) = decide (a ≤ b) := by
  unfold leD
  rw [PySem.W.dataLt_int]
  by_cases h : a ≤ b
  · simp [h]
  · simp [h]; omega
theorem srtOk_iL {ns : List Int} (h : ns.length ≤ 16777216) : srtOk (iL ns) := ⟨allAl_iL ns, plainAll_iL ns, by rw [depthAll_iL]; omega, .inr (by
  rw [List.all_eq_true]
  intro x hx
  rw [List.mem_map] at hx
  obtain ⟨i, _, rfl⟩ := hx
  rfl), by rw [List.length_map]; exact h⟩
def srtI (ns : List Int) : List Int := ns.mergeSort fun a b => decide (a ≤ b)
theorem dSort_iL {ns : List Int} (h : ns.length ≤ 16777216) {γ : Type} (K : D → Out γ) : (dSortL (.list (iL ns))).bind K = K (.list (iL (srtI ns))) := by
  rw [dSortL_l K _ (srtOk_iL h)]
  congr 2
  unfold srtI
  exact (List.map_mergeSort (f := PyData.int) (fun a _ b _ => (leD_ii a b).symm)).symm
theorem srt_eq {xs ys : List Int} (hx : xs.Nodup) (hy : ys.Pairwise (· < ·)) (h : ∀ a, a ∈ xs ↔ a ∈ ys) : srtI xs = ys := by
  unfold srtI
  refine List.Perm.eq_of_pairwise (le := fun a b => a ≤ b) (fun a b _ _ h1 h2 => by omega) ?_ (hy.imp fun h => by omega) ?_
  · refine (List.pairwise_mergeSort (le := fun a b => decide (a ≤ b)) (fun a b c h1 h2 => ?_) (fun a b => ?_) xs).imp fun h => by simpa using h
    · simp only [decide_eq_true_eq] at *
      omega
    · simp only [Bool.or_eq_true, decide_eq_true_eq]
      omega
  · exact (List.mergeSort_perm _ _).trans ((List.perm_ext_iff_of_nodup hx (hy.imp fun h => by omega)).mpr h)
/-- x[0] if x != [] else None -/
def hd0 : List Int → D
  | [] => .none
  | n :: _ => .int n
def hdD (d : D) : Out D := (dNe d (.list [])).bind fun z => (bOf z).bind fun k => if k then dIx d (.int 0) else .ok .none
@[simp ↓ high] theorem c_hdIf {i : Nat} {e : Env} {γ : Type} (K : D → Env → Out γ) : (mIf (tV (m2 dNe (mV i) (mLst mNil))) (m2 dIx (mV i) (mC (.int 0))) (mC .none) e).b2 K = (getV i e).bind fun d => (hdD d).bind fun x => K x e := by
  rw [c_If, c_tV, c_2, c_V]
  cases h : getV i e with
  | ok d =>
    simp only [c_ok]
    rw [c_lst, c_nil]
    unfold hdD
    rw [c_assoc]
    congr 1
    funext z
    rw [c_assoc]
    congr 1
    funext k
    cases k with
    | false => rfl
    | true =>
      simp only [if_true]
      rw [c_2, c_V, h]
      rfl
  | _ => rfl
theorem dNe_iL0 (ns : List Int) {γ : Type} (K : D → Out γ) : (dNe (.list (iL ns)) (.list [])).bind K = K (.bool (!decide (ns = []))) := by
  have := dEq_iLs ns []
  show (((dEq (.list (iL ns)) (.list [])).bind _).bind K) = _
  rw [show (PyData.list [] : D) = .list (iL []) from rfl, this]
  rfl
theorem hdD_iL (ns : List Int) {γ : Type} (K : D → Out γ) : (hdD (.list (iL ns))).bind K = K (hd0 ns) := by
  unfold hdD
  rw [c_assoc, dNe_iL0]
  cases ns with
  | nil => rfl
  | cons n r =>
    show (dIx (.list (.int n :: iL r)) (.int 0)).bind K = _
    rw [dIx_l, at_0]
    rfl
/-! ### a comprehension that draws -/
section
variable {vs : List Nat} {src : M (List D)} {g : Gt} {t : M Bool} {elt : M D} {γ : Type}
theorem lcL_inv (I : Env → Prop) (Y : Nat → Option D → Prop) : ∀ (xs : List D) (j : Nat) (e : Env), I (wipeE e vs) → (∀ i d e, xs[i]? = some d → I e → ∃ y e', lcStep g t elt d e = .ok (y, e') ∧ Y (j + i) y ∧ I (wipeE e' vs)) →
    ∃ (f : Nat → Option D) (e' : Env), lcL vs g t elt xs e = .ok ((List.range xs.length).filterMap (fun i => f (j + i)), e') ∧ (∀ i, i < xs.length → Y (j + i) (f (j + i))) ∧ I e'
  | [], j, e, h, _ => ⟨fun _ => none, wipeE e vs, rfl, fun i hi => by simp at hi, h⟩
  | d :: ds, j, e, h, hs => by
    obtain ⟨y, e1, h1, h2, h3⟩ := hs 0 d _ rfl h
    obtain ⟨f, e2, h4, h5, h6⟩ := lcL_inv I Y ds (j + 1) e1 h3 fun i d' e' hd hi => by
      have := hs (i + 1) d' e' (by simpa using hd) hi
      rw [show j + (i + 1) = j + 1 + i by omega] at this
      exact this
    refine ⟨fun k => if k = j then y else f k, e2, ?_, fun i hi => ?_, h6⟩
    · rw [lcL_step, h1]
      simp only [c_ok2]
      rw [h4]
      show Out.ok (_, _) = _
      rw [List.length_cons, List.range_succ_eq_map, List.filterMap_cons, List.filterMap_map]
      have e3 : ((fun i => if j + i = j then y else f (j + i)) ∘ Nat.succ) = fun i => f (j + 1 + i) := by
        funext i
        show (if j + (i + 1) = j then y else f (j + (i + 1))) = _
        rw [if_neg (by omega), show j + (i + 1) = j + 1 + i by omega]
      rw [e3]
      simp only [Nat.add_zero, if_pos]
      cases y <;> rfl
    · by_cases q : i = 0
      · subst q
        simp only [Nat.add_zero, if_pos]
        exact h2
      · show Y (j + i) (if j + i = j then y else f (j + i))
        rw [if_neg (by omega)]
        have := h5 (i - 1) (by rw [List.length_cons] at hi; omega)
        rw [show j + 1 + (i - 1) = j + i by omega] at this
        exact this
theorem g_lcR {e0 : Env} {R : Out γ → Prop} {K : D → Env → Out γ} (I : Env → Prop) (Y : Nat → Option D → Prop) (a : Int) (n : Nat) (e : Env) (hsrc : (src e0).b2 (fun xs e => Out.ok (xs, e)) = .ok (rgL a n, e)) (hlen : n ≤ 16777216) (h0 : I (wipeE e vs))
    (hs : ∀ (i : Nat) e, i < n → I e → ∃ y e', lcStep g t elt (.int (a + i)) e = .ok (y, e') ∧ Y i y ∧ I (wipeE e' vs)) (fin : ∀ f e', (∀ i, i < n → Y i (f i)) → I e' → R (K (.list ((List.range n).filterMap f)) (backE vs e e'))) : R ((mLc vs src g t elt e0).b2 K) := by
  rw [b2_eta] at hsrc
  obtain ⟨f, e', h1, h2, h3⟩ := lcL_inv (vs := vs) (g := g) (t := t) (elt := elt) I Y (rgL a n) 0 e h0 fun i d e hd hi => by
    obtain ⟨q1, rfl⟩ := get_rgL hd
    rw [Nat.zero_add]
    exact hs i e q1 hi
  unfold mLc
  rw [hsrc]
  show R (((lcL vs g t elt (rgL a n) e).bind _).b2 K)
  rw [h1]
  simp only [Nat.zero_add, rgL_ln] at *
  have q : ((List.range n).filterMap f).length ≤ lineN := Nat.le_trans (len_fm _ _) (by rw [List.length_range]; exact hlen)
  simp only [c_ok, if_pos q, c_ok2]
  exact fin f e' h2 h3
end
end PD

set_option autoImplicit false
set_option linter.all false
/-! GP: the programs of the defs of observatory_k58_whole_two_clocks, printed by gen.py. -/
namespace GP
open PySem PD
def b_law_cup : PD.S :=
  sSeq (sSet 1 (m1 dAbs (m2 dIx (m2 dAdd (m1 dList1 (mV 0)) (mLst (mCons (mC (.int 0)) (mNil)))) (mC (.int 0))))) (sRt (mLst (mCons (mIf (tV (m2 dGe (mV 1) (m2 dPow (mC (.int 10)) (mC (.int 18))))) (m2 dDiv (mV 1) (mC (.int 197))) (mC (.int 0))) (mCons (m2 dAdd (m2 dMod (m1 dInt1 (m2 dAdd (m2 dMul (mV 1) (mC (.int 449))) (mC (.int 4219)))) (mC (.int 2077503697))) (mC (.int 277))) (mNil)))))
def f_law_cup : Fn := runF 2 [false] b_law_cup
theorem u_law_cup {γ : Type} (as : List D) (K : D → List (Option D) → Out γ) : (f_law_cup as).b2 K = envK as 2 fun e => ((
  sSeq (sSet 1 (m1 dAbs (m2 dIx (m2 dAdd (m1 dList1 (mV 0)) (mLst (mCons (mC (.int 0)) (mNil)))) (mC (.int 0))))) (sRt (mLst (mCons (mIf (tV (m2 dGe (mV 1) (m2 dPow (mC (.int 10)) (mC (.int 18))))) (m2 dDiv (mV 1) (mC (.int 197))) (mC (.int 0))) (mCons (m2 dAdd (m2 dMod (m1 dInt1 (m2 dAdd (m2 dMul (mV 1) (mC (.int 449))) (mC (.int 4219)))) (mC (.int 2077503697))) (mC (.int 277))) (mNil)))))) e).bind (fin2 [false] K) := c_run _ _ _ as K
def b_is_whole : PD.S :=
  sRt (mAnd (m1 (dIsi "int") (mV 0)) (mAnd (mNot (m1 (dIsi "bool") (mV 0))) (mChain dLe dLe (mV 1) (mV 0) (mV 2))))
def f_is_whole : Fn := runF 3 [false, false, false] b_is_whole
theorem u_is_whole {γ : Type} (as : List D) (K : D → List (Option D) → Out γ) : (f_is_whole as).b2 K = envK as 3 fun e => ((
  sRt (mAnd (m1 (dIsi "int") (mV 0)) (mAnd (mNot (m1 (dIsi "bool") (mV 0))) (mChain dLe dLe (mV 1) (mV 0) (mV 2))))) e).bind (fin2 [false, false, false] K) := c_run _ _ _ as K
def b_is_tuple_of : PD.S :=
  sRt (mAnd (m1 (dIsi "tuple") (mV 0)) (mChain dLe dLe (mV 1) (m1 dLen1 (mV 0)) (mV 2)))
def f_is_tuple_of : Fn := runF 3 [false, false, false] b_is_tuple_of
theorem u_is_tuple_of {γ : Type} (as : List D) (K : D → List (Option D) → Out γ) : (f_is_tuple_of as).b2 K = envK as 3 fun e => ((
  sRt (mAnd (m1 (dIsi "tuple") (mV 0)) (mChain dLe dLe (mV 1) (m1 dLen1 (mV 0)) (mV 2)))) e).bind (fin2 [false, false, false] K) := c_run _ _ _ as K
def b_fits_clock : PD.S :=
  sSeq (sIf (tOr (tNot (tV (mCall f_is_tuple_of [.v (mV 0), .v (mC (.int 4)), .v (mC (.int 4))]))) (tOr (tNot (tV (mCall f_is_whole [.v (m2 dIx (mV 0) (mC (.int 0))), .v (mC (.int 1)), .v (mC (.int 60))]))) (tNot (tV (mCall f_is_whole [.v (m2 dIx (mV 0) (mC (.int 1))), .v (mC (.int 1)), .v (mC (.int 12))]))))) (sRt (mC (.bool false))) (sNx)) (sRt (mAnd (mCall f_is_whole [.v (m2 dIx (mV 0) (mC (.int 2))), .v (mC (.int 1)), .v (mC (.int 12))]) (mCall f_is_whole [.v (m2 dIx (mV 0) (mC (.int 3))), .v (mC (.int 0)), .v (m2 dSub (m2 dIx (mV 0) (mC (.int 0))) (mC (.int 1)))])))
def f_fits_clock : Fn := runF 1 [false] b_fits_clock
theorem u_fits_clock {γ : Type} (as : List D) (K : D → List (Option D) → Out γ) : (f_fits_clock as).b2 K = envK as 1 fun e => ((
  sSeq (sIf (tOr (tNot (tV (mCall f_is_tuple_of [.v (mV 0), .v (mC (.int 4)), .v (mC (.int 4))]))) (tOr (tNot (tV (mCall f_is_whole [.v (m2 dIx (mV 0) (mC (.int 0))), .v (mC (.int 1)), .v (mC (.int 60))]))) (tNot (tV (mCall f_is_whole [.v (m2 dIx (mV 0) (mC (.int 1))), .v (mC (.int 1)), .v (mC (.int 12))]))))) (sRt (mC (.bool false))) (sNx)) (sRt (mAnd (mCall f_is_whole [.v (m2 dIx (mV 0) (mC (.int 2))), .v (mC (.int 1)), .v (mC (.int 12))]) (mCall f_is_whole [.v (m2 dIx (mV 0) (mC (.int 3))), .v (mC (.int 0)), .v (m2 dSub (m2 dIx (mV 0) (mC (.int 0))) (mC (.int 1)))])))) e).bind (fin2 [false] K) := c_run _ _ _ as K
def b_need_clock : PD.S :=
  sIf (tNot (tV (mCall f_fits_clock [.v (mV 0)]))) (sNo) (sNx)
def f_need_clock : Fn := runF 1 [false] b_need_clock
theorem u_need_clock {γ : Type} (as : List D) (K : D → List (Option D) → Out γ) : (f_need_clock as).b2 K = envK as 1 fun e => ((
  sIf (tNot (tV (mCall f_fits_clock [.v (mV 0)]))) (sNo) (sNx)) e).bind (fin2 [false] K) := c_run _ _ _ as K
def b_need_clocks : PD.S :=
  sSeq (sEx (mCall f_need_clock [.v (mV 0)])) (sEx (mCall f_need_clock [.v (mV 1)]))
def f_need_clocks : Fn := runF 2 [false, false] b_need_clocks
theorem u_need_clocks {γ : Type} (as : List D) (K : D → List (Option D) → Out γ) : (f_need_clocks as).b2 K = envK as 2 fun e => ((
  sSeq (sEx (mCall f_need_clock [.v (mV 0)])) (sEx (mCall f_need_clock [.v (mV 1)]))) e).bind (fin2 [false, false] K) := c_run _ _ _ as K
def b_need_minutes : PD.S :=
  sSeq (sEx (mCall f_need_clocks [.v (mV 0), .v (mV 1)])) (sSeq (sIf (tOr (tNot (tV (mCall f_is_tuple_of [.v (mV 2), .v (mC (.int 2)), .v (mC (.int 2))]))) (tNot (tV (mCall f_is_whole [.v (m2 dIx (mV 2) (mC (.int 0))), .v (mC (.int 0)), .v (m2 dSub (m2 dIx (mV 0) (mC (.int 0))) (mC (.int 1)))])))) (sNo) (sNx)) (sIf (tNot (tV (mCall f_is_whole [.v (m2 dIx (mV 2) (mC (.int 1))), .v (mC (.int 0)), .v (m2 dSub (m2 dIx (mV 1) (mC (.int 0))) (mC (.int 1)))]))) (sNo) (sNx)))
def f_need_minutes : Fn := runF 3 [false, false, false] b_need_minutes
theorem u_need_minutes {γ : Type} (as : List D) (K : D → List (Option D) → Out γ) : (f_need_minutes as).b2 K = envK as 3 fun e => ((
  sSeq (sEx (mCall f_need_clocks [.v (mV 0), .v (mV 1)])) (sSeq (sIf (tOr (tNot (tV (mCall f_is_tuple_of [.v (mV 2), .v (mC (.int 2)), .v (mC (.int 2))]))) (tNot (tV (mCall f_is_whole [.v (m2 dIx (mV 2) (mC (.int 0))), .v (mC (.int 0)), .v (m2 dSub (m2 dIx (mV 0) (mC (.int 0))) (mC (.int 1)))])))) (sNo) (sNx)) (sIf (tNot (tV (mCall f_is_whole [.v (m2 dIx (mV 2) (mC (.int 1))), .v (mC (.int 0)), .v (m2 dSub (m2 dIx (mV 1) (mC (.int 0))) (mC (.int 1)))]))) (sNo) (sNx)))) e).bind (fin2 [false, false, false] K) := c_run _ _ _ as K
def b_round_of : PD.S :=
  sSeq (sAsg (mV 0) (gT [gN 1, gN 2, gN 3, gN 4])) (sRt (m2 dDiv (m2 dMul (mV 1) (mV 3)) (m2 dGcd (m2 dMul (mV 1) (mV 3)) (mV 2))))
def f_round_of : Fn := runF 5 [false] b_round_of
theorem u_round_of {γ : Type} (as : List D) (K : D → List (Option D) → Out γ) : (f_round_of as).b2 K = envK as 5 fun e => ((
  sSeq (sAsg (mV 0) (gT [gN 1, gN 2, gN 3, gN 4])) (sRt (m2 dDiv (m2 dMul (mV 1) (mV 3)) (m2 dGcd (m2 dMul (mV 1) (mV 3)) (mV 2))))) e).bind (fin2 [false] K) := c_run _ _ _ as K
def b_shows_in : PD.S :=
  sSeq (sAsg (mV 0) (gT [gN 2, gN 3, gN 4, gN 5])) (sRt (m2 dMod (m2 dAdd (mV 5) (m2 dDiv (m2 dMul (mV 1) (mV 3)) (mV 4))) (mV 2)))
def f_shows_in : Fn := runF 6 [false, false] b_shows_in
theorem u_shows_in {γ : Type} (as : List D) (K : D → List (Option D) → Out γ) : (f_shows_in as).b2 K = envK as 6 fun e => ((
  sSeq (sAsg (mV 0) (gT [gN 2, gN 3, gN 4, gN 5])) (sRt (m2 dMod (m2 dAdd (mV 5) (m2 dDiv (m2 dMul (mV 1) (mV 3)) (mV 4))) (mV 2)))) e).bind (fin2 [false, false] K) := c_run _ _ _ as K
def b_steps_in : PD.S :=
  sRt (mLc [2] (wRg1 (mCall f_round_of [.v (mV 0)])) (gN 2) (tV (m2 dEq (mCall f_shows_in [.v (mV 0), .v (mV 2)]) (mV 1))) (mV 2))
def f_steps_in : Fn := runF 3 [false, false] b_steps_in
theorem u_steps_in {γ : Type} (as : List D) (K : D → List (Option D) → Out γ) : (f_steps_in as).b2 K = envK as 3 fun e => ((
  sRt (mLc [2] (wRg1 (mCall f_round_of [.v (mV 0)])) (gN 2) (tV (m2 dEq (mCall f_shows_in [.v (mV 0), .v (mV 2)]) (mV 1))) (mV 2))) e).bind (fin2 [false, false] K) := c_run _ _ _ as K
def b_turn_of : PD.S :=
  sSeq (sSet 2 (mLc [3] (wRg1 (mV 1)) (gN 3) (tV (m2 dEq (m2 dMod (m2 dSub (m2 dMul (mV 3) (mV 0)) (mC (.int 1))) (mV 1)) (mC (.int 0)))) (mV 3))) (sRt (mIf (tV (m2 dNe (mV 2) (mLst (mNil)))) (m2 dIx (mV 2) (mC (.int 0))) (mC (.int 0))))
def f_turn_of : Fn := runF 4 [false, false] b_turn_of
theorem u_turn_of {γ : Type} (as : List D) (K : D → List (Option D) → Out γ) : (f_turn_of as).b2 K = envK as 4 fun e => ((
  sSeq (sSet 2 (mLc [3] (wRg1 (mV 1)) (gN 3) (tV (m2 dEq (m2 dMod (m2 dSub (m2 dMul (mV 3) (mV 0)) (mC (.int 1))) (mV 1)) (mC (.int 0)))) (mV 3))) (sRt (mIf (tV (m2 dNe (mV 2) (mLst (mNil)))) (m2 dIx (mV 2) (mC (.int 0))) (mC (.int 0))))) e).bind (fin2 [false, false] K) := c_run _ _ _ as K
def b_common_of : PD.S :=
  sSeq (sPar [2, 3] (mCons (mCall f_round_of [.v (mV 0)]) (mCons (mCall f_round_of [.v (mV 1)]) (mNil)))) (sRt (m2 dDiv (m2 dMul (mV 2) (mV 3)) (m2 dGcd (mV 2) (mV 3))))
def f_common_of : Fn := runF 4 [false, false] b_common_of
theorem u_common_of {γ : Type} (as : List D) (K : D → List (Option D) → Out γ) : (f_common_of as).b2 K = envK as 4 fun e => ((
  sSeq (sPar [2, 3] (mCons (mCall f_round_of [.v (mV 0)]) (mCons (mCall f_round_of [.v (mV 1)]) (mNil)))) (sRt (m2 dDiv (m2 dMul (mV 2) (mV 3)) (m2 dGcd (mV 2) (mV 3))))) e).bind (fin2 [false, false] K) := c_run _ _ _ as K
def b_joined : PD.S :=
  sSeq (sPar [3, 4] (mCons (mCall f_round_of [.v (mV 0)]) (mCons (mCall f_round_of [.v (mV 1)]) (mNil)))) (sSeq (sSet 5 (m2 dGcd (mV 3) (mV 4))) (sSeq (sPar [6, 7, 8] (mCons (mCall f_turn_of [.v (m2 dDiv (mV 3) (mV 5)), .v (m2 dDiv (mV 4) (mV 5))]) (mCons (mCall f_common_of [.v (mV 0), .v (mV 1)]) (mCons (mLst (mNil)) (mNil))))) (sSeq (sFor (wIt (mCall f_steps_in [.v (mV 0), .v (m2 dIx (mV 2) (mC (.int 0)))])) (gN 9) (sFor (wIt (mCall f_steps_in [.v (mV 1), .v (m2 dIx (mV 2) (mC (.int 1)))])) (gN 10) (sIf (tV (m2 dEq (m2 dMod (m2 dSub (mV 10) (mV 9)) (mV 5)) (mC (.int 0)))) (mutL dApp 8 (m2 dMod (m2 dAdd (mV 9) (m2 dMul (mV 3) (m2 dMod (m2 dMul (m2 dDiv (m2 dSub (mV 10) (mV 9)) (mV 5)) (mV 6)) (m2 dDiv (mV 4) (mV 5))))) (mV 7))) (sNx)))) (sRt (m1 dSortL (mV 8))))))
def f_joined : Fn := runF 11 [false, false, false] b_joined
theorem u_joined {γ : Type} (as : List D) (K : D → List (Option D) → Out γ) : (f_joined as).b2 K = envK as 11 fun e => ((
  sSeq (sPar [3, 4] (mCons (mCall f_round_of [.v (mV 0)]) (mCons (mCall f_round_of [.v (mV 1)]) (mNil)))) (sSeq (sSet 5 (m2 dGcd (mV 3) (mV 4))) (sSeq (sPar [6, 7, 8] (mCons (mCall f_turn_of [.v (m2 dDiv (mV 3) (mV 5)), .v (m2 dDiv (mV 4) (mV 5))]) (mCons (mCall f_common_of [.v (mV 0), .v (mV 1)]) (mCons (mLst (mNil)) (mNil))))) (sSeq (sFor (wIt (mCall f_steps_in [.v (mV 0), .v (m2 dIx (mV 2) (mC (.int 0)))])) (gN 9) (sFor (wIt (mCall f_steps_in [.v (mV 1), .v (m2 dIx (mV 2) (mC (.int 1)))])) (gN 10) (sIf (tV (m2 dEq (m2 dMod (m2 dSub (mV 10) (mV 9)) (mV 5)) (mC (.int 0)))) (mutL dApp 8 (m2 dMod (m2 dAdd (mV 9) (m2 dMul (mV 3) (m2 dMod (m2 dMul (m2 dDiv (m2 dSub (mV 10) (mV 9)) (mV 5)) (mV 6)) (m2 dDiv (mV 4) (mV 5))))) (mV 7))) (sNx)))) (sRt (m1 dSortL (mV 8))))))) e).bind (fin2 [false, false, false] K) := c_run _ _ _ as K
def b_first_shown : PD.S :=
  sSeq (sEx (mCall f_need_minutes [.v (mV 0), .v (mV 1), .v (mV 2)])) (sSeq (sSet 3 (mCall f_joined [.v (mV 0), .v (mV 1), .v (mV 2)])) (sRt (mIf (tV (m2 dNe (mV 3) (mLst (mNil)))) (m2 dIx (mV 3) (mC (.int 0))) (mC .none))))
def f_first_shown : Fn := runF 4 [false, false, false] b_first_shown
theorem u_first_shown {γ : Type} (as : List D) (K : D → List (Option D) → Out γ) : (f_first_shown as).b2 K = envK as 4 fun e => ((
  sSeq (sEx (mCall f_need_minutes [.v (mV 0), .v (mV 1), .v (mV 2)])) (sSeq (sSet 3 (mCall f_joined [.v (mV 0), .v (mV 1), .v (mV 2)])) (sRt (mIf (tV (m2 dNe (mV 3) (mLst (mNil)))) (m2 dIx (mV 3) (mC (.int 0))) (mC .none))))) e).bind (fin2 [false, false, false] K) := c_run _ _ _ as K
def b_law_same (fn : Fn) : PD.S :=
  sSeq (sIf (tV (m1 (dIsi "tuple") (mV 1))) (sSeq (sIf (tOr (tNot (tV (m1 (dIsi "tuple") (mV 0)))) (tV (m2 dNe (m1 dLen1 (mV 0)) (m1 dLen1 (mV 1))))) (sRt (mC (.bool false))) (sNx)) (sRt (m1 dAll1 (mLc [2] (wRg1 (m1 dLen1 (mV 1))) (gN 2) (tYes) (mCall fn [.v (m2 dIx (mV 0) (mV 2)), .v (m2 dIx (mV 1) (mV 2))]))))) (sNx)) (sSeq (sIf (tV (m2 dIs2 (mV 1) (mC .none))) (sRt (m2 dIs2 (mV 0) (mC .none))) (sNx)) (sSeq (sIf (tV (m1 (dIsi "bool") (mV 1))) (sRt (mIf (tV (mV 1)) (m2 dIsB (mV 0) (mC (.bool true))) (m2 dIsB (mV 0) (mC (.bool false))))) (sNx)) (sSeq (sIf (tV (m1 (dIsi "int") (mV 1))) (sRt (mAnd (m1 (dIsi "int") (mV 0)) (mAnd (mNot (m1 (dIsi "bool") (mV 0))) (m2 dEq (m1 dInt1 (mV 0)) (mV 1))))) (sNx)) (sRt (mAnd (m1 (dIsi "str") (mV 0)) (m2 dEq (m1 dStr1 (mV 0)) (mV 1)))))))
def r_law_same (fn : Fn) : Fn := runF 3 [false, false] (b_law_same fn)
def f_law_same : Fn := fixF r_law_same 12
def b_law_roll : PD.S :=
  sSeq (sIf (tV (m2 dGt (m2o dIx 0 (mC (.int 0))) (mC (.int 0)))) (sSeq (sSet 2 (m2 dMod (m1 dInt1 (m2o dIx 0 (mC (.int 0)))) (mV 1))) (sSeq (mutI dPut 0 (m2 dDiv (m2o dIx 0 (mC (.int 0))) (mV 1)) (mC (.int 0))) (sRt (mV 2)))) (sNx)) (sSeq (mutI dPut 0 (m2 dMod (m1 dInt1 (m2 dAdd (m2 dMul (m2o dIx 0 (mC (.int 1))) (mC (.int 31139))) (mC (.int 8101)))) (mC (.int 2147483399))) (mC (.int 1))) (sSeq (sSet 3 (m2 dMod (m1 dInt1 (m2 dMul (m2o dIx 0 (mC (.int 1))) (m2 dAdd (m2o dIx 0 (mC (.int 1))) (mC (.int 367))))) (mC (.int 2147483563)))) (sRt (m2 dMod (m1 dInt1 (m2 dDiv (mV 3) (mC (.int 971)))) (mV 1)))))
def f_law_roll : Fn := runF 4 [true, false] b_law_roll
theorem u_law_roll {γ : Type} (as : List D) (K : D → List (Option D) → Out γ) : (f_law_roll as).b2 K = envK as 4 fun e => ((
  sSeq (sIf (tV (m2 dGt (m2o dIx 0 (mC (.int 0))) (mC (.int 0)))) (sSeq (sSet 2 (m2 dMod (m1 dInt1 (m2o dIx 0 (mC (.int 0)))) (mV 1))) (sSeq (mutI dPut 0 (m2 dDiv (m2o dIx 0 (mC (.int 0))) (mV 1)) (mC (.int 0))) (sRt (mV 2)))) (sNx)) (sSeq (mutI dPut 0 (m2 dMod (m1 dInt1 (m2 dAdd (m2 dMul (m2o dIx 0 (mC (.int 1))) (mC (.int 31139))) (mC (.int 8101)))) (mC (.int 2147483399))) (mC (.int 1))) (sSeq (sSet 3 (m2 dMod (m1 dInt1 (m2 dMul (m2o dIx 0 (mC (.int 1))) (m2 dAdd (m2o dIx 0 (mC (.int 1))) (mC (.int 367))))) (mC (.int 2147483563)))) (sRt (m2 dMod (m1 dInt1 (m2 dDiv (mV 3) (mC (.int 971)))) (mV 1)))))) e).bind (fin2 [true, false] K) := c_run _ _ _ as K
def b_common_round : PD.S :=
  sSeq (sEx (mCall f_need_clocks [.v (mV 0), .v (mV 1)])) (sRt (mCall f_common_of [.v (mV 0), .v (mV 1)]))
def f_common_round : Fn := runF 2 [false, false] b_common_round
theorem u_common_round {γ : Type} (as : List D) (K : D → List (Option D) → Out γ) : (f_common_round as).b2 K = envK as 2 fun e => ((
  sSeq (sEx (mCall f_need_clocks [.v (mV 0), .v (mV 1)])) (sRt (mCall f_common_of [.v (mV 0), .v (mV 1)]))) e).bind (fin2 [false, false] K) := c_run _ _ _ as K
def b_count_shown : PD.S :=
  sSeq (sEx (mCall f_need_minutes [.v (mV 0), .v (mV 1), .v (mV 2)])) (sRt (m1 dLen1 (mCall f_joined [.v (mV 0), .v (mV 1), .v (mV 2)])))
def f_count_shown : Fn := runF 3 [false, false, false] b_count_shown
theorem u_count_shown {γ : Type} (as : List D) (K : D → List (Option D) → Out γ) : (f_count_shown as).b2 K = envK as 3 fun e => ((
  sSeq (sEx (mCall f_need_minutes [.v (mV 0), .v (mV 1), .v (mV 2)])) (sRt (m1 dLen1 (mCall f_joined [.v (mV 0), .v (mV 1), .v (mV 2)])))) e).bind (fin2 [false, false, false] K) := c_run _ _ _ as K
def b_need_step : PD.S :=
  sIf (tNot (tV (mCall f_is_whole [.v (mV 0), .v (mC (.int 0)), .v (mC (.int 1000000000000))]))) (sNo) (sNx)
def f_need_step : Fn := runF 1 [false] b_need_step
theorem u_need_step {γ : Type} (as : List D) (K : D → List (Option D) → Out γ) : (f_need_step as).b2 K = envK as 1 fun e => ((
  sIf (tNot (tV (mCall f_is_whole [.v (mV 0), .v (mC (.int 0)), .v (mC (.int 1000000000000))]))) (sNo) (sNx)) e).bind (fin2 [false] K) := c_run _ _ _ as K
def b_shows : PD.S :=
  sSeq (sEx (mCall f_need_clock [.v (mV 0)])) (sSeq (sEx (mCall f_need_step [.v (mV 1)])) (sRt (mCall f_shows_in [.v (mV 0), .v (mV 1)])))
def f_shows : Fn := runF 2 [false, false] b_shows
theorem u_shows {γ : Type} (as : List D) (K : D → List (Option D) → Out γ) : (f_shows as).b2 K = envK as 2 fun e => ((
  sSeq (sEx (mCall f_need_clock [.v (mV 0)])) (sSeq (sEx (mCall f_need_step [.v (mV 1)])) (sRt (mCall f_shows_in [.v (mV 0), .v (mV 1)])))) e).bind (fin2 [false, false] K) := c_run _ _ _ as K
def b_alike : PD.S :=
  sSeq (sEx (mCall f_need_clocks [.v (mV 0), .v (mV 1)])) (sSeq (sSet 2 (mLst (mNil))) (sSeq (sFor (wRg1 (m2 dMin2 (m2 dIx (mV 0) (mC (.int 0))) (m2 dIx (mV 1) (mC (.int 0))))) (gN 3) (mutL dExt 2 (mCall f_joined [.v (mV 0), .v (mV 1), .v (mTup (mCons (mV 3) (mCons (mV 3) (mNil))))]))) (sRt (mIf (tV (m2o dNe 2 (mLst (mNil)))) (mTup (mCons (m1 dMinL (mV 2)) (mCons (m1 dLen1 (mV 2)) (mNil)))) (mTup (mCons (mC .none) (mCons (mC (.int 0)) (mNil))))))))
def f_alike : Fn := runF 4 [false, false] b_alike
theorem u_alike {γ : Type} (as : List D) (K : D → List (Option D) → Out γ) : (f_alike as).b2 K = envK as 4 fun e => ((
  sSeq (sEx (mCall f_need_clocks [.v (mV 0), .v (mV 1)])) (sSeq (sSet 2 (mLst (mNil))) (sSeq (sFor (wRg1 (m2 dMin2 (m2 dIx (mV 0) (mC (.int 0))) (m2 dIx (mV 1) (mC (.int 0))))) (gN 3) (mutL dExt 2 (mCall f_joined [.v (mV 0), .v (mV 1), .v (mTup (mCons (mV 3) (mCons (mV 3) (mNil))))]))) (sRt (mIf (tV (m2o dNe 2 (mLst (mNil)))) (mTup (mCons (m1 dMinL (mV 2)) (mCons (m1 dLen1 (mV 2)) (mNil)))) (mTup (mCons (mC .none) (mCons (mC (.int 0)) (mNil))))))))) e).bind (fin2 [false, false] K) := c_run _ _ _ as K
def b_law_clock : PD.S :=
  sSeq (sSet 3 (m2 dAdd (mC (.int 1)) (mCall f_law_roll [.o 0, .v (mV 1)]))) (sRt (mTup (mCons (mV 3) (mCons (m2 dAdd (mC (.int 1)) (mCall f_law_roll [.o 0, .v (mV 2)])) (mCons (m2 dAdd (mC (.int 1)) (mCall f_law_roll [.o 0, .v (mV 2)])) (mCons (mCall f_law_roll [.o 0, .v (mV 3)]) (mNil)))))))
def f_law_clock : Fn := runF 4 [true, false, false] b_law_clock
theorem u_law_clock {γ : Type} (as : List D) (K : D → List (Option D) → Out γ) : (f_law_clock as).b2 K = envK as 4 fun e => ((
  sSeq (sSet 3 (m2 dAdd (mC (.int 1)) (mCall f_law_roll [.o 0, .v (mV 1)]))) (sRt (mTup (mCons (mV 3) (mCons (m2 dAdd (mC (.int 1)) (mCall f_law_roll [.o 0, .v (mV 2)])) (mCons (m2 dAdd (mC (.int 1)) (mCall f_law_roll [.o 0, .v (mV 2)])) (mCons (mCall f_law_roll [.o 0, .v (mV 3)]) (mNil)))))))) e).bind (fin2 [true, false, false] K) := c_run _ _ _ as K
def b_law_round : PD.S :=
  sSeq (sFor (wRg2 (mC (.int 1)) (mC (.int 721))) (gN 1) (sIf (tV (m2 dEq (m2 dMod (m1 dInt1 (m2 dMul (mV 1) (m2 dIx (mV 0) (mC (.int 1))))) (m2 dMul (m2 dIx (mV 0) (mC (.int 0))) (m2 dIx (mV 0) (mC (.int 2))))) (mC (.int 0)))) (sRt (mV 1)) (sNx))) (sRt (mC (.int 0)))
def f_law_round : Fn := runF 2 [false] b_law_round
theorem u_law_round {γ : Type} (as : List D) (K : D → List (Option D) → Out γ) : (f_law_round as).b2 K = envK as 2 fun e => ((
  sSeq (sFor (wRg2 (mC (.int 1)) (mC (.int 721))) (gN 1) (sIf (tV (m2 dEq (m2 dMod (m1 dInt1 (m2 dMul (mV 1) (m2 dIx (mV 0) (mC (.int 1))))) (m2 dMul (m2 dIx (mV 0) (mC (.int 0))) (m2 dIx (mV 0) (mC (.int 2))))) (mC (.int 0)))) (sRt (mV 1)) (sNx))) (sRt (mC (.int 0)))) e).bind (fin2 [false] K) := c_run _ _ _ as K
def b_law_shown : PD.S :=
  sSeq (sPar [2, 3, 4] (mCons (mLst (mNil)) (mCons (m2 dIx (mV 0) (mC (.int 3))) (mCons (mC (.int 0)) (mNil))))) (sSeq (sFor (wRg1 (mV 1)) (gN 5) (sSeq (mutL dApp 2 (mV 3)) (sSeq (sSet 4 (m2 dAdd (mV 4) (m2 dIx (mV 0) (mC (.int 1))))) (sWhile (tV (m2 dGe (mV 4) (m2 dIx (mV 0) (mC (.int 2))))) (sPar [4, 3] (mCons (m2 dSub (mV 4) (m2 dIx (mV 0) (mC (.int 2)))) (mCons (mIf (tV (m2 dLt (m2 dAdd (mV 3) (mC (.int 1))) (m2 dIx (mV 0) (mC (.int 0))))) (m2 dAdd (mV 3) (mC (.int 1))) (mC (.int 0))) (mNil)))))))) (sRt (mMv 2)))
def f_law_shown : Fn := runF 6 [false, false] b_law_shown
theorem u_law_shown {γ : Type} (as : List D) (K : D → List (Option D) → Out γ) : (f_law_shown as).b2 K = envK as 6 fun e => ((
  sSeq (sPar [2, 3, 4] (mCons (mLst (mNil)) (mCons (m2 dIx (mV 0) (mC (.int 3))) (mCons (mC (.int 0)) (mNil))))) (sSeq (sFor (wRg1 (mV 1)) (gN 5) (sSeq (mutL dApp 2 (mV 3)) (sSeq (sSet 4 (m2 dAdd (mV 4) (m2 dIx (mV 0) (mC (.int 1))))) (sWhile (tV (m2 dGe (mV 4) (m2 dIx (mV 0) (mC (.int 2))))) (sPar [4, 3] (mCons (m2 dSub (mV 4) (m2 dIx (mV 0) (mC (.int 2)))) (mCons (mIf (tV (m2 dLt (m2 dAdd (mV 3) (mC (.int 1))) (m2 dIx (mV 0) (mC (.int 0))))) (m2 dAdd (mV 3) (mC (.int 1))) (mC (.int 0))) (mNil)))))))) (sRt (mMv 2)))) e).bind (fin2 [false, false] K) := c_run _ _ _ as K
def b_law_some : PD.S :=
  sRt (m2 dIx (mV 1) (mCall f_law_roll [.o 0, .v (m1 dLen1 (mV 1))]))
def f_law_some : Fn := runF 2 [true, false] b_law_some
theorem u_law_some {γ : Type} (as : List D) (K : D → List (Option D) → Out γ) : (f_law_some as).b2 K = envK as 2 fun e => ((
  sRt (m2 dIx (mV 1) (mCall f_law_roll [.o 0, .v (m1 dLen1 (mV 1))]))) e).bind (fin2 [true, false] K) := c_run _ _ _ as K
def b_next_shown : PD.S :=
  sSeq (sEx (mCall f_need_minutes [.v (mV 0), .v (mV 1), .v (mV 2)])) (sSeq (sEx (mCall f_need_step [.v (mV 3)])) (sSeq (sSet 4 (mCall f_common_of [.v (mV 0), .v (mV 1)])) (sSeq (sSet 5 (mLc [6] (wIt (mCall f_joined [.v (mV 0), .v (mV 1), .v (mV 2)])) (gN 6) (tYes) (m2 dAdd (mV 3) (m2 dMod (m2 dSub (mV 6) (mV 3)) (mV 4))))) (sRt (mIf (tV (m2 dNe (mV 5) (mLst (mNil)))) (m1 dMinL (mV 5)) (mC .none))))))
def f_next_shown : Fn := runF 7 [false, false, false, false] b_next_shown
theorem u_next_shown {γ : Type} (as : List D) (K : D → List (Option D) → Out γ) : (f_next_shown as).b2 K = envK as 7 fun e => ((
  sSeq (sEx (mCall f_need_minutes [.v (mV 0), .v (mV 1), .v (mV 2)])) (sSeq (sEx (mCall f_need_step [.v (mV 3)])) (sSeq (sSet 4 (mCall f_common_of [.v (mV 0), .v (mV 1)])) (sSeq (sSet 5 (mLc [6] (wIt (mCall f_joined [.v (mV 0), .v (mV 1), .v (mV 2)])) (gN 6) (tYes) (m2 dAdd (mV 3) (m2 dMod (m2 dSub (mV 6) (mV 3)) (mV 4))))) (sRt (mIf (tV (m2 dNe (mV 5) (mLst (mNil)))) (m1 dMinL (mV 5)) (mC .none))))))) e).bind (fin2 [false, false, false, false] K) := c_run _ _ _ as K
def b_law_right : PD.S :=
  sSeq (sPar [1, 2] (mCons (mCall f_law_clock [.o 0, .v (mC (.int 12)), .v (mC (.int 4))]) (mCons (mCall f_law_clock [.o 0, .v (mC (.int 12)), .v (mC (.int 4))]) (mNil)))) (sSeq (sPar [3, 4] (mCons (mCall f_law_round [.v (mV 1)]) (mCons (mCall f_law_round [.v (mV 2)]) (mNil)))) (sSeq (sSet 5 (mV 3)) (sSeq (sWhile (tV (m2 dNe (m2 dMod (m1 dInt1 (mV 5)) (mV 4)) (mC (.int 0)))) (sSet 5 (m2 dAdd (mV 5) (mV 3)))) (sSeq (sPar [6, 7] (mCons (mCall f_law_shown [.v (mV 1), .v (mV 5)]) (mCons (mCall f_law_shown [.v (mV 2), .v (mV 5)]) (mNil)))) (sSeq (sIf (tNot (tV (mCall f_law_same [.v (mTup (mCons (mCall f_common_round [.v (mV 1), .v (mV 2)]) (mCons (mCall f_common_round [.v (mV 2), .v (mV 1)]) (mNil)))), .v (mTup (mCons (mV 5) (mCons (mV 5) (mNil))))]))) (sRt (mC (.bool false))) (sNx)) (sSeq (sSet 8 (mLc [14] (wRg1 (mV 5)) (gN 14) (tV (m2 dEq (m2 dIx (mV 6) (mV 14)) (m2 dIx (mV 7) (mV 14)))) (mV 14))) (sSeq (sIf (tNot (tV (mCall f_law_same [.v (mCall f_alike [.v (mV 1), .v (mV 2)]), .v (mTup (mCons (mIf (tV (m2 dNe (mV 8) (mLst (mNil)))) (m2 dIx (mV 8) (mC (.int 0))) (mC .none)) (mCons (m1 dLen1 (mV 8)) (mNil))))]))) (sRt (mC (.bool false))) (sNx)) (sSeq (sFor (wRg1 (mC (.int 5))) (gN 9) (sSeq (sSet 10 (mCall f_law_roll [.o 0, .v (mV 5)])) (sSeq (sSet 11 (mCall f_law_some [.o 0, .v (mLst (mCons (mTup (mCons (m2 dIx (mV 6) (mV 10)) (mCons (m2 dIx (mV 7) (mV 10)) (mNil)))) (mCons (mTup (mCons (mCall f_law_roll [.o 0, .v (m2 dIx (mV 1) (mC (.int 0)))]) (mCons (mCall f_law_roll [.o 0, .v (m2 dIx (mV 2) (mC (.int 0)))]) (mNil)))) (mNil))))])) (sSeq (sSet 12 (mLc [14] (wRg1 (mV 5)) (gN 14) (tV (m2 dEq (mTup (mCons (m2 dIx (mV 6) (mV 14)) (mCons (m2 dIx (mV 7) (mV 14)) (mNil)))) (mV 11))) (mV 14))) (sSeq (sSet 13 (mTup (mCons (mCall f_first_shown [.v (mV 1), .v (mV 2), .v (mV 11)]) (mCons (mCall f_count_shown [.v (mV 1), .v (mV 2), .v (mV 11)]) (mCons (mCall f_first_shown [.v (mV 2), .v (mV 1), .v (m1 dRev (mV 11))]) (mNil)))))) (sSeq (sIf (tNot (tV (mCall f_law_same [.v (mV 13), .v (mTup (mCons (mIf (tV (m2 dNe (mV 12) (mLst (mNil)))) (m2 dIx (mV 12) (mC (.int 0))) (mC .none)) (mCons (m1 dLen1 (mV 12)) (mCons (mIf (tV (m2 dNe (mV 12) (mLst (mNil)))) (m2 dIx (mV 12) (mC (.int 0))) (mC .none)) (mNil)))))]))) (sRt (mC (.bool false))) (sNx)) (sSeq (sSet 14 (mCall f_law_some [.o 0, .v (mLst (mCons (mV 10) (mCons (mCall f_law_roll [.o 0, .v (m2 dPow (mC (.int 10)) (mC (.int 12)))]) (mCons (m2 dPow (mC (.int 10)) (mC (.int 12))) (mNil)))))])) (sSeq (sSet 15 (mC .none)) (sSeq (sIf (tV (m2 dNe (mV 12) (mLst (mNil)))) (sSeq (sPar [16, 17] (mCons (m2 dSub (mV 14) (m2 dMod (m1 dInt1 (mV 14)) (mV 5))) (mCons (m2 dMod (m1 dInt1 (mV 14)) (mV 5)) (mNil)))) (sSet 15 (m1 dMinL (m2 dAdd (mLc [18] (wIt (mV 12)) (gN 18) (tV (m2 dGe (mV 18) (mV 17))) (m2 dAdd (mV 16) (mV 18))) (mLst (mCons (m2 dAdd (m2 dAdd (mV 16) (mV 5)) (m2 dIx (mV 12) (mC (.int 0)))) (mNil))))))) (sNx)) (sSeq (sIf (tNot (tV (mCall f_law_same [.v (mCall f_next_shown [.v (mV 1), .v (mV 2), .v (mV 11), .v (mV 14)]), .v (mV 15)]))) (sRt (mC (.bool false))) (sNx)) (sIf (tAnd (tV (m2 dIsn2 (mV 15) (mC .none))) (tAnd (tV (m2 dLe (mV 15) (m2 dPow (mC (.int 10)) (mC (.int 12))))) (tV (m2 dNe (mTup (mCons (mCall f_shows [.v (mV 1), .v (mV 15)]) (mCons (mCall f_shows [.v (mV 2), .v (mV 15)]) (mNil)))) (mV 11))))) (sRt (mC (.bool false))) (sNx)))))))))))) (sRt (mC (.bool true)))))))))))
def f_law_right : Fn := runF 19 [true] b_law_right
theorem u_law_right {γ : Type} (as : List D) (K : D → List (Option D) → Out γ) : (f_law_right as).b2 K = envK as 19 fun e => ((
  sSeq (sPar [1, 2] (mCons (mCall f_law_clock [.o 0, .v (mC (.int 12)), .v (mC (.int 4))]) (mCons (mCall f_law_clock [.o 0, .v (mC (.int 12)), .v (mC (.int 4))]) (mNil)))) (sSeq (sPar [3, 4] (mCons (mCall f_law_round [.v (mV 1)]) (mCons (mCall f_law_round [.v (mV 2)]) (mNil)))) (sSeq (sSet 5 (mV 3)) (sSeq (sWhile (tV (m2 dNe (m2 dMod (m1 dInt1 (mV 5)) (mV 4)) (mC (.int 0)))) (sSet 5 (m2 dAdd (mV 5) (mV 3)))) (sSeq (sPar [6, 7] (mCons (mCall f_law_shown [.v (mV 1), .v (mV 5)]) (mCons (mCall f_law_shown [.v (mV 2), .v (mV 5)]) (mNil)))) (sSeq (sIf (tNot (tV (mCall f_law_same [.v (mTup (mCons (mCall f_common_round [.v (mV 1), .v (mV 2)]) (mCons (mCall f_common_round [.v (mV 2), .v (mV 1)]) (mNil)))), .v (mTup (mCons (mV 5) (mCons (mV 5) (mNil))))]))) (sRt (mC (.bool false))) (sNx)) (sSeq (sSet 8 (mLc [14] (wRg1 (mV 5)) (gN 14) (tV (m2 dEq (m2 dIx (mV 6) (mV 14)) (m2 dIx (mV 7) (mV 14)))) (mV 14))) (sSeq (sIf (tNot (tV (mCall f_law_same [.v (mCall f_alike [.v (mV 1), .v (mV 2)]), .v (mTup (mCons (mIf (tV (m2 dNe (mV 8) (mLst (mNil)))) (m2 dIx (mV 8) (mC (.int 0))) (mC .none)) (mCons (m1 dLen1 (mV 8)) (mNil))))]))) (sRt (mC (.bool false))) (sNx)) (sSeq (sFor (wRg1 (mC (.int 5))) (gN 9) (sSeq (sSet 10 (mCall f_law_roll [.o 0, .v (mV 5)])) (sSeq (sSet 11 (mCall f_law_some [.o 0, .v (mLst (mCons (mTup (mCons (m2 dIx (mV 6) (mV 10)) (mCons (m2 dIx (mV 7) (mV 10)) (mNil)))) (mCons (mTup (mCons (mCall f_law_roll [.o 0, .v (m2 dIx (mV 1) (mC (.int 0)))]) (mCons (mCall f_law_roll [.o 0, .v (m2 dIx (mV 2) (mC (.int 0)))]) (mNil)))) (mNil))))])) (sSeq (sSet 12 (mLc [14] (wRg1 (mV 5)) (gN 14) (tV (m2 dEq (mTup (mCons (m2 dIx (mV 6) (mV 14)) (mCons (m2 dIx (mV 7) (mV 14)) (mNil)))) (mV 11))) (mV 14))) (sSeq (sSet 13 (mTup (mCons (mCall f_first_shown [.v (mV 1), .v (mV 2), .v (mV 11)]) (mCons (mCall f_count_shown [.v (mV 1), .v (mV 2), .v (mV 11)]) (mCons (mCall f_first_shown [.v (mV 2), .v (mV 1), .v (m1 dRev (mV 11))]) (mNil)))))) (sSeq (sIf (tNot (tV (mCall f_law_same [.v (mV 13), .v (mTup (mCons (mIf (tV (m2 dNe (mV 12) (mLst (mNil)))) (m2 dIx (mV 12) (mC (.int 0))) (mC .none)) (mCons (m1 dLen1 (mV 12)) (mCons (mIf (tV (m2 dNe (mV 12) (mLst (mNil)))) (m2 dIx (mV 12) (mC (.int 0))) (mC .none)) (mNil)))))]))) (sRt (mC (.bool false))) (sNx)) (sSeq (sSet 14 (mCall f_law_some [.o 0, .v (mLst (mCons (mV 10) (mCons (mCall f_law_roll [.o 0, .v (m2 dPow (mC (.int 10)) (mC (.int 12)))]) (mCons (m2 dPow (mC (.int 10)) (mC (.int 12))) (mNil)))))])) (sSeq (sSet 15 (mC .none)) (sSeq (sIf (tV (m2 dNe (mV 12) (mLst (mNil)))) (sSeq (sPar [16, 17] (mCons (m2 dSub (mV 14) (m2 dMod (m1 dInt1 (mV 14)) (mV 5))) (mCons (m2 dMod (m1 dInt1 (mV 14)) (mV 5)) (mNil)))) (sSet 15 (m1 dMinL (m2 dAdd (mLc [18] (wIt (mV 12)) (gN 18) (tV (m2 dGe (mV 18) (mV 17))) (m2 dAdd (mV 16) (mV 18))) (mLst (mCons (m2 dAdd (m2 dAdd (mV 16) (mV 5)) (m2 dIx (mV 12) (mC (.int 0)))) (mNil))))))) (sNx)) (sSeq (sIf (tNot (tV (mCall f_law_same [.v (mCall f_next_shown [.v (mV 1), .v (mV 2), .v (mV 11), .v (mV 14)]), .v (mV 15)]))) (sRt (mC (.bool false))) (sNx)) (sIf (tAnd (tV (m2 dIsn2 (mV 15) (mC .none))) (tAnd (tV (m2 dLe (mV 15) (m2 dPow (mC (.int 10)) (mC (.int 12))))) (tV (m2 dNe (mTup (mCons (mCall f_shows [.v (mV 1), .v (mV 15)]) (mCons (mCall f_shows [.v (mV 2), .v (mV 15)]) (mNil)))) (mV 11))))) (sRt (mC (.bool false))) (sNx)))))))))))) (sRt (mC (.bool true)))))))))))) e).bind (fin2 [true] K) := c_run _ _ _ as K
def b_law : PD.S :=
  sSeq (sSet 1 (mCall f_law_cup [.v (mV 0)])) (sSeq (sFor (wRg1 (mC (.int 3))) (gN 2) (sIf (tNot (tV (mCall f_law_right [.o 1]))) (sRt (mC (.bool false))) (sNx))) (sSeq (sSet 3 (m2 dAdd (mC (.int 1)) (mCall f_law_roll [.o 1, .v (mC (.int 59))]))) (sSeq (sPar [4, 5] (mCons (mTup (mCons (mV 3) (mCons (mC (.int 1)) (mCons (mC (.int 1)) (mCons (mC (.int 0)) (mNil)))))) (mCons (mTup (mCons (m2 dAdd (mV 3) (mC (.int 1))) (mCons (mC (.int 1)) (mCons (mC (.int 1)) (mCons (mC (.int 0)) (mNil)))))) (mNil)))) (sSeq (sSet 6 (mTup (mCons (mCall f_law_roll [.o 1, .v (mV 3)]) (mCons (mCall f_law_roll [.o 1, .v (m2 dAdd (mV 3) (mC (.int 1)))]) (mNil))))) (sSeq (sSet 7 (mCall f_first_shown [.v (mV 4), .v (mV 5), .v (mV 6)])) (sSeq (sSet 8 (mTup (mCons (mCall f_common_round [.v (mV 4), .v (mV 5)]) (mCons (mCall f_count_shown [.v (mV 4), .v (mV 5), .v (mV 6)]) (mCons (mCall f_shows [.v (mV 4), .v (mV 7)]) (mCons (mCall f_shows [.v (mV 5), .v (mV 7)]) (mCons (mCall f_alike [.v (mV 4), .v (mV 5)]) (mNil)))))))) (sRt (mCall f_law_same [.v (mV 8), .v (m2 dAdd (m2 dAdd (mTup (mCons (m2 dMul (mV 3) (m2 dAdd (mV 3) (mC (.int 1)))) (mCons (mC (.int 1)) (mNil)))) (mV 6)) (mTup (mCons (mTup (mCons (mC (.int 0)) (mCons (mV 3) (mNil)))) (mNil))))]))))))))
def f_law : Fn := runF 9 [false] b_law
theorem u_law {γ : Type} (as : List D) (K : D → List (Option D) → Out γ) : (f_law as).b2 K = envK as 9 fun e => ((
  sSeq (sSet 1 (mCall f_law_cup [.v (mV 0)])) (sSeq (sFor (wRg1 (mC (.int 3))) (gN 2) (sIf (tNot (tV (mCall f_law_right [.o 1]))) (sRt (mC (.bool false))) (sNx))) (sSeq (sSet 3 (m2 dAdd (mC (.int 1)) (mCall f_law_roll [.o 1, .v (mC (.int 59))]))) (sSeq (sPar [4, 5] (mCons (mTup (mCons (mV 3) (mCons (mC (.int 1)) (mCons (mC (.int 1)) (mCons (mC (.int 0)) (mNil)))))) (mCons (mTup (mCons (m2 dAdd (mV 3) (mC (.int 1))) (mCons (mC (.int 1)) (mCons (mC (.int 1)) (mCons (mC (.int 0)) (mNil)))))) (mNil)))) (sSeq (sSet 6 (mTup (mCons (mCall f_law_roll [.o 1, .v (mV 3)]) (mCons (mCall f_law_roll [.o 1, .v (m2 dAdd (mV 3) (mC (.int 1)))]) (mNil))))) (sSeq (sSet 7 (mCall f_first_shown [.v (mV 4), .v (mV 5), .v (mV 6)])) (sSeq (sSet 8 (mTup (mCons (mCall f_common_round [.v (mV 4), .v (mV 5)]) (mCons (mCall f_count_shown [.v (mV 4), .v (mV 5), .v (mV 6)]) (mCons (mCall f_shows [.v (mV 4), .v (mV 7)]) (mCons (mCall f_shows [.v (mV 5), .v (mV 7)]) (mCons (mCall f_alike [.v (mV 4), .v (mV 5)]) (mNil)))))))) (sRt (mCall f_law_same [.v (mV 8), .v (m2 dAdd (m2 dAdd (mTup (mCons (m2 dMul (mV 3) (m2 dAdd (mV 3) (mC (.int 1)))) (mCons (mC (.int 1)) (mNil)))) (mV 6)) (mTup (mCons (mTup (mCons (mC (.int 0)) (mCons (mV 3) (mNil)))) (mNil))))]))))))))) e).bind (fin2 [false] K) := c_run _ _ _ as K
end GP

set_option autoImplicit false
set_option linter.all false
/-! ClkM: what a clock shows, in plain Lean. -/
namespace Clk
def rd (d m s : Int) : Int := d * s / ((Nat.gcd (d * s).natAbs m.natAbs : Nat) : Int)
def sh (d m s f i : Int) : Int := (f + i * m / s) % d
theorem rd_nat {d m s : Int} (hd : 0 < d) (hs : 0 < s) (hm : 0 < m) : ∃ D M : Nat, d * s = D ∧ m = M ∧ 0 < D ∧ 0 < M ∧ rd d m s = ((D / Nat.gcd D M : Nat) : Int) := by
  have h := Int.mul_pos hd hs
  refine ⟨(d * s).natAbs, m.natAbs, by omega, by omega, by omega, by omega, ?_⟩
  unfold rd
  rw [Int.natCast_ediv]
  congr 1
  omega
theorem rd_pos {d m s : Int} (hd : 0 < d) (hs : 0 < s) (hm : 0 < m) : 0 < rd d m s := by
  obtain ⟨D, M, h1, h2, h3, h4, h5⟩ := rd_nat hd hs hm
  rw [h5]
  have : 0 < D / Nat.gcd D M := Nat.div_pos (Nat.le_of_dvd h3 (Nat.gcd_dvd_left D M)) (Nat.gcd_pos_of_pos_left M h3)
  omega
theorem rd_le {d m s : Int} (hd : 0 < d) (hs : 0 < s) (hm : 0 < m) : rd d m s ≤ d * s := by
  obtain ⟨D, M, h1, h2, h3, h4, h5⟩ := rd_nat hd hs hm
  rw [h5, h1]
  have := Nat.div_le_self D (Nat.gcd D M)
  omega
/-- so many steps bring the clock round -/
theorem rd_dvd {d m s : Int} (hd : 0 < d) (hs : 0 < s) (hm : 0 < m) (k : Int) : d * s ∣ k * m ↔ rd d m s ∣ k := by
  obtain ⟨D, M, h1, h2, h3, h4, h5⟩ := rd_nat hd hs hm
  rw [h5, h1, h2]
  have hg : 0 < Nat.gcd D M := Nat.gcd_pos_of_pos_left M h3
  have e1 : D / Nat.gcd D M * Nat.gcd D M = D := Nat.div_mul_cancel (Nat.gcd_dvd_left D M)
  have e2 : M / Nat.gcd D M * Nat.gcd D M = M := Nat.div_mul_cancel (Nat.gcd_dvd_right D M)
  have nat : ∀ n : Nat, D ∣ n * M ↔ D / Nat.gcd D M ∣ n := fun n => by
    constructor
    · intro h
      have h' : D / Nat.gcd D M * Nat.gcd D M ∣ (n * (M / Nat.gcd D M)) * Nat.gcd D M := by
        rw [e1, Nat.mul_assoc, e2]
        exact h
      exact Nat.Coprime.dvd_of_dvd_mul_right (Nat.coprime_div_gcd_div_gcd hg) (Nat.dvd_of_mul_dvd_mul_right hg h')
    · rintro ⟨q, rfl⟩
      refine ⟨q * (M / Nat.gcd D M), ?_⟩
      calc D / Nat.gcd D M * q * M = D / Nat.gcd D M * q * (M / Nat.gcd D M * Nat.gcd D M) := by rw [e2]
        _ = (D / Nat.gcd D M * Nat.gcd D M) * (q * (M / Nat.gcd D M)) := by ac_rfl
        _ = D * (q * (M / Nat.gcd D M)) := by rw [e1]
  rw [← Int.natAbs_dvd_natAbs, ← Int.natAbs_dvd_natAbs, Int.natAbs_mul]
  exact nat k.natAbs
theorem rd_zero {d m s : Int} (hd : 0 < d) (hs : 0 < s) (hm : 0 < m) (k : Int) (h0 : 0 < k) (h1 : k < rd d m s) : k * m % (d * s) ≠ 0 := fun h => by
  have := (rd_dvd hd hs hm k).1 (Int.dvd_of_emod_eq_zero h)
  have := Int.le_of_dvd h0 this
  omega
theorem rd_full {d m s : Int} (hd : 0 < d) (hs : 0 < s) (hm : 0 < m) : rd d m s * m % (d * s) = 0 := Int.emod_eq_zero_of_dvd ((rd_dvd hd hs hm _).2 (Int.dvd_refl _))
theorem sh_nn {d m s f i : Int} (hd : 0 < d) : 0 ≤ sh d m s f i := Int.emod_nonneg _ (by omega)
theorem sh_lt {d m s f i : Int} (hd : 0 < d) : sh d m s f i < d := Int.emod_lt_of_pos _ hd
theorem sh_per {d m s f : Int} (hd : 0 < d) (hs : 0 < s) (hm : 0 < m) (i : Int) : sh d m s f (i % rd d m s) = sh d m s f i := by
  obtain ⟨t, ht⟩ := (rd_dvd hd hs hm (rd d m s)).2 (Int.dvd_refl _)
  have e := Int.mul_ediv_add_emod i (rd d m s)
  unfold sh
  generalize hr : i % rd d m s = r at e
  generalize hq : i / rd d m s = q at e
  have e2 : i * m = r * m + (d * t * q) * s := by
    rw [← e]
    calc (rd d m s * q + r) * m = r * m + (rd d m s * m) * q := by rw [Int.add_mul]; ac_rfl
      _ = r * m + (d * s * t) * q := by rw [ht]
      _ = r * m + (d * t * q) * s := by congr 1; ac_rfl
  rw [e2, Int.add_mul_ediv_right _ _ (by omega), ← Int.add_assoc, Int.mul_assoc, Int.add_mul_emod_self_left]
/-- the next step's minute -/
theorem sh_step {m s : Int} (hs : 0 < s) (i : Int) : (i + 1) * m / s = i * m / s + (i * m % s + m) / s ∧ (i + 1) * m % s = (i * m % s + m) % s := by
  have e := Int.mul_ediv_add_emod (i * m) s
  have e2 : (i + 1) * m = (i * m % s + m) + (i * m / s) * s := by
    rw [Int.add_mul, Int.one_mul]
    have : i * m / s * s = s * (i * m / s) := Int.mul_comm _ _
    omega
  rw [e2, Int.add_mul_ediv_right _ _ (by omega), Int.add_mul_emod_self_right]
  exact ⟨by omega, rfl⟩
theorem sh_shift {d m s f i b : Int} (hd : 0 < d) : sh d m s ((f + b) % d) i = (sh d m s f i + b) % d := by
  unfold sh
  rw [Int.emod_add_emod, Int.emod_add_emod]
  congr 1
  omega
/-- every step shows one minute -/
theorem count_all (g : Nat → Int) (d : Nat) : ∀ n : Nat, (∀ i, i < n → 0 ≤ g i ∧ g i < d) → ((List.range d).map fun (v : Nat) => (((List.range n).filterMap fun (i : Nat) => if g i = (v : Int) then some (PySem.PyData.int i) else none).length : Int)).sum = n
  | 0, _ => by
    have : (List.range d).map (fun (v : Nat) => (((List.range 0).filterMap fun (i : Nat) => if g i = (v : Int) then some (PySem.PyData.int i) else none).length : Int)) = List.replicate d 0 := by
      rw [List.eq_replicate_iff]
      simp
    rw [this]
    induction d with
    | zero => rfl
    | succ d ih => simp
  | n + 1, h => by
    have ih := count_all g d n fun i hi => h i (by omega)
    obtain ⟨h1, h2⟩ := h n (by omega)
    have e : (List.range d).map (fun (v : Nat) => (((List.range (n + 1)).filterMap fun (i : Nat) => if g i = (v : Int) then some (PySem.PyData.int i) else none).length : Int)) =
        (List.range d).map (fun (v : Nat) => (((List.range n).filterMap fun (i : Nat) => if g i = (v : Int) then some (PySem.PyData.int i) else none).length : Int) + if g n = (v : Int) then 1 else 0) := by
      congr 1
      funext v
      rw [List.range_succ, List.filterMap_append, List.length_append]
      by_cases hv : g n = (v : Int) <;> simp [hv]
    rw [e]
    have s1 : ∀ (l : List Nat) (a b : Nat → Int), (l.map fun v => a v + b v).sum = (l.map a).sum + (l.map b).sum := by
      intro l a b
      induction l with
      | nil => rfl
      | cons x l ihl =>
        simp only [List.map_cons, List.sum_cons]
        omega
    rw [s1, ih]
    have s2 : ∀ k : Nat, ((List.range k).map fun (v : Nat) => if g n = (v : Int) then (1 : Int) else 0).sum = if g n < k then 1 else 0 := by
      intro k
      induction k with
      | zero => simp; omega
      | succ k ihk =>
        rw [List.range_succ, List.map_append, List.sum_append, ihk]
        by_cases q1 : g n = (k : Int)
        · simp [q1]; omega
        · by_cases q2 : g n < (k : Int)
          · simp [q1, q2]; omega
          · simp [q1, q2]; omega
    rw [s2 d, if_pos h2]
    omega
end Clk

set_option autoImplicit false
set_option linter.all false
/-! ClkJ: steps common to two rounds, in plain Lean. -/
namespace Clk
theorem bez (a b : Nat) : ∃ x y : Int, (a : Int) * x + (b : Int) * y = (Nat.gcd a b : Nat) := by
  induction a, b using Nat.gcd.induction with
  | H0 n => exact ⟨0, 1, by simp⟩
  | H1 m n _ ih =>
    obtain ⟨x, y, h⟩ := ih
    rw [Nat.gcd_rec]
    refine ⟨y - (n / m : Nat) * x, x, ?_⟩
    rw [← h]
    have e : (n : Int) = (m : Int) * ((n / m : Nat) : Int) + ((n % m : Nat) : Int) := by
      have := Nat.div_add_mod n m
      exact_mod_cast this.symm
    have e2 : (n : Int) * x = (m : Int) * (((n / m : Nat) : Int) * x) + ((n % m : Nat) : Int) * x := by
      rw [← Int.mul_assoc, ← Int.add_mul, ← e]
    rw [Int.mul_sub, e2]
    omega
/-- two rounds and what they share -/
structure Two (M Y g a b L : Int) : Prop where
  m : 0 < M
  y : 0 < Y
  g0 : 0 < g
  a0 : 0 < a
  b0 : 0 < b
  ma : M = a * g
  yb : Y = b * g
  l : L = M * b
  co : ∀ k, b ∣ a * k → b ∣ k
  inv : ∃ u, 0 ≤ u ∧ u < b ∧ b ∣ u * a - 1
theorem two_of {M Y : Int} (hM : 0 < M) (hY : 0 < Y) : Two M Y ((Nat.gcd M.natAbs Y.natAbs : Nat) : Int) (M / ((Nat.gcd M.natAbs Y.natAbs : Nat) : Int)) (Y / ((Nat.gcd M.natAbs Y.natAbs : Nat) : Int)) (M * Y / ((Nat.gcd M.natAbs Y.natAbs : Nat) : Int)) := by
  obtain ⟨m, rfl⟩ : ∃ m : Nat, M = m := ⟨M.toNat, by omega⟩
  obtain ⟨y, rfl⟩ : ∃ y : Nat, Y = y := ⟨Y.toNat, by omega⟩
  rw [Int.natAbs_natCast, Int.natAbs_natCast]
  have hg : 0 < Nat.gcd m y := Nat.gcd_pos_of_pos_left y (by omega)
  obtain ⟨a, ha⟩ := Nat.gcd_dvd_left m y
  obtain ⟨b, hb⟩ := Nat.gcd_dvd_right m y
  generalize hgg : Nat.gcd m y = g at *
  have g1 : (0 : Int) < g := by omega
  have ea : ((m : Int) / (g : Int)) = a := by
    rw [show (m : Int) = (a : Int) * g by rw [ha]; simp [Int.mul_comm]]
    exact Int.mul_ediv_cancel _ (by omega)
  have eb : ((y : Int) / (g : Int)) = b := by
    rw [show (y : Int) = (b : Int) * g by rw [hb]; simp [Int.mul_comm]]
    exact Int.mul_ediv_cancel _ (by omega)
  have cop : Nat.Coprime a b := by
    have := Nat.coprime_div_gcd_div_gcd (m := m) (n := y) (by rw [hgg]; exact hg)
    rw [hgg, show m / g = a by rw [ha]; exact Nat.mul_div_cancel_left _ hg, show y / g = b by rw [hb]; exact Nat.mul_div_cancel_left _ hg] at this
    exact this
  have a1 : 0 < a := by
    rcases Nat.eq_zero_or_pos a with z | z
    · subst z; rw [Nat.mul_zero] at ha; omega
    · exact z
  have b1 : 0 < b := by
    rcases Nat.eq_zero_or_pos b with z | z
    · subst z; rw [Nat.mul_zero] at hb; omega
    · exact z
  rw [ea, eb]
  refine ⟨hM, hY, g1, by omega, by omega, by rw [ha]; simp [Int.mul_comm], by rw [hb]; simp [Int.mul_comm], ?_, fun k h => ?_, ?_⟩
  · rw [show (y : Int) = (b : Int) * g by rw [hb]; simp [Int.mul_comm], ← Int.mul_assoc]
    exact Int.mul_ediv_cancel _ (by omega)
  · rw [← Int.natAbs_dvd_natAbs] at h ⊢
    rw [Int.natAbs_mul] at h
    exact Nat.Coprime.dvd_of_dvd_mul_left cop.symm h
  · obtain ⟨x, z, h⟩ := bez a b
    rw [show Nat.gcd a b = 1 from cop] at h
    refine ⟨x % b, Int.emod_nonneg _ (by omega), Int.emod_lt_of_pos _ (by omega), ?_⟩
    have e := Int.mul_ediv_add_emod x b
    refine ⟨-(z + x / b * a), ?_⟩
    have e2 : x % b * a = a * x - b * (x / b * a) := by
      have : (b * (x / b) + x % b) * a = x * a := by rw [e]
      rw [Int.add_mul, Int.mul_assoc] at this
      rw [Int.mul_comm (a : Int) x]
      omega
    rw [e2, Int.mul_neg, Int.mul_add]
    have h' : (a : Int) * x + b * z = 1 := h
    omega
section
variable {M Y g a b L : Int} (T : Two M Y g a b L)
include T
theorem Two.lpos : 0 < L := by rw [T.l]; exact Int.mul_pos T.m T.b0
theorem Two.lm : M ∣ L := ⟨b, T.l⟩
theorem Two.ly : Y ∣ L := ⟨a, by rw [T.l, T.ma, T.yb]; rw [Int.mul_assoc, Int.mul_comm g b, Int.mul_comm a]⟩
/-- what both rounds divide, their common round divides -/
theorem Two.both {k : Int} (h1 : M ∣ k) (h2 : Y ∣ k) : L ∣ k := by
  obtain ⟨m, rfl⟩ := h1
  have : b ∣ a * m := by
    rw [T.yb, T.ma] at h2
    have e : a * g * m = (a * m) * g := by rw [Int.mul_assoc, Int.mul_comm g m, ← Int.mul_assoc]
    rw [e] at h2
    obtain ⟨z, hz⟩ := h2
    refine ⟨z, Int.eq_of_mul_eq_mul_right (show g ≠ 0 from fun q => by have := T.g0; omega) ?_⟩
    rw [hz, Int.mul_assoc, Int.mul_assoc, Int.mul_comm g z]
  obtain ⟨n, rfl⟩ := T.co m this
  exact ⟨n, by rw [T.l, Int.mul_assoc]⟩
theorem Two.uniq {s t : Int} (s0 : 0 ≤ s) (s1 : s < L) (t0 : 0 ≤ t) (t1 : t < L) (h1 : s % M = t % M) (h2 : s % Y = t % Y) : s = t := by
  have d1 : M ∣ s - t := Int.dvd_of_emod_eq_zero (by rw [Int.sub_emod, h1, Int.sub_self]; exact Int.zero_emod _)
  have d2 : Y ∣ s - t := Int.dvd_of_emod_eq_zero (by rw [Int.sub_emod, h2, Int.sub_self]; exact Int.zero_emod _)
  obtain ⟨k, hk⟩ := T.both d1 d2
  have lp := T.lpos
  have k0 : k = 0 := by
    rcases Int.lt_trichotomy k 0 with q | q | q
    · have : L * k ≤ L * (-1) := Int.mul_le_mul_of_nonneg_left (by omega) (by omega)
      omega
    · exact q
    · have : L * 1 ≤ L * k := Int.mul_le_mul_of_nonneg_left (by omega) (by omega)
      omega
  rw [k0, Int.mul_zero] at hk
  omega
/-- the common step of two steps -/
def jn (M g b L u s f : Int) : Int := (s + M * ((f - s) / g * u % b)) % L
theorem Two.jn_b (u s f : Int) : 0 ≤ jn M g b L u s f ∧ jn M g b L u s f < L := ⟨Int.emod_nonneg _ (by have := T.lpos; omega), Int.emod_lt_of_pos _ T.lpos⟩
theorem Two.jn_m {u s f : Int} : jn M g b L u s f % M = s % M := by
  unfold jn
  rw [Int.emod_emod_of_dvd _ T.lm, Int.add_mul_emod_self_left]
theorem Two.jn_y {u s f : Int} (hu : b ∣ u * a - 1) (hg : g ∣ f - s) : jn M g b L u s f % Y = f % Y := by
  unfold jn
  rw [Int.emod_emod_of_dvd _ T.ly]
  obtain ⟨q, hq⟩ := hg
  have e1 : (f - s) / g = q := by rw [hq]; exact Int.mul_ediv_cancel_left _ (by have := T.g0; omega)
  rw [e1]
  have e := Int.mul_ediv_add_emod (q * u) b
  generalize q * u % b = k at *
  generalize q * u / b = j at *
  obtain ⟨z, hz⟩ := hu
  have e2 : s + M * k = f + Y * (q * z - a * j) := by
    have e3 : M * k = g * (a * k) := by rw [T.ma, Int.mul_comm a g, Int.mul_assoc]
    have e4 : a * k = q + b * (q * z) - b * (a * j) := by
      have h1 : k = q * u - b * j := by omega
      have h2 : a * (q * u) = q * (u * a) := by rw [Int.mul_left_comm, Int.mul_comm a u]
      have h3 : u * a = 1 + b * z := by omega
      rw [h1, Int.mul_sub, h2, h3, Int.mul_add, Int.mul_one, Int.mul_left_comm q b z, Int.mul_left_comm a b j]
    have e5 : Y * (q * z - a * j) = g * (b * (q * z) - b * (a * j)) := by
      rw [T.yb, Int.mul_comm b g, Int.mul_assoc, Int.mul_sub]
    rw [e3, e4, e5]
    have e6 : g * (q + b * (q * z) - b * (a * j)) = g * q + g * (b * (q * z) - b * (a * j)) := by
      rw [← Int.mul_add]
      congr 1
      omega
    rw [e6]
    omega
  rw [e2, Int.add_mul_emod_self_left]
theorem Two.share (t : Int) : g ∣ t % Y - t % M := by
  have e1 := Int.mul_ediv_add_emod t M
  have e2 := Int.mul_ediv_add_emod t Y
  refine ⟨a * (t / M) - b * (t / Y), ?_⟩
  rw [Int.mul_sub, ← Int.mul_assoc, ← Int.mul_assoc, Int.mul_comm g a, Int.mul_comm g b, ← T.ma, ← T.yb]
  omega
end
/-- the places below n at which h is v -/
def sI (h : Int → Int) (v : Int) (n : Nat) : List Int := ((List.range n).filter fun (i : Nat) => decide (h i = v)).map fun (i : Nat) => (i : Int)
theorem sI_mem {h : Int → Int} {v : Int} {n : Nat} {s : Int} : s ∈ sI h v n ↔ (0 ≤ s ∧ s < n) ∧ h s = v := by
  unfold sI
  simp only [List.mem_map, List.mem_filter, List.mem_range, decide_eq_true_eq]
  constructor
  · rintro ⟨k, ⟨h1, h2⟩, rfl⟩
    exact ⟨by omega, h2⟩
  · rintro ⟨⟨h1, h2⟩, h3⟩
    refine ⟨s.toNat, ⟨by omega, ?_⟩, by omega⟩
    rw [show ((s.toNat : Nat) : Int) = s by omega]
    exact h3
theorem sI_rise (h : Int → Int) (v : Int) (n : Nat) : (sI h v n).Pairwise (· < ·) := by
  unfold sI
  rw [List.pairwise_map]
  refine List.Pairwise.imp (R := (· < ·)) (fun h => by omega) ?_
  exact List.Pairwise.sublist List.filter_sublist List.pairwise_lt_range
theorem sI_len (h : Int → Int) (v : Int) (n : Nat) : (sI h v n).length ≤ n := by
  unfold sI
  rw [List.length_map]
  exact Nat.le_trans (List.length_filter_le _ _) (by rw [List.length_range]; exact Nat.le_refl _)
/-- the common steps, as two loops find them -/
def jR (M g b L u : Int) (S2 : List Int) (s : Int) : List Int := (S2.filter fun f => decide ((f - s) % g = 0)).map (jn M g b L u s)
def jL (M g b L u : Int) (S1 S2 : List Int) : List Int := S1.flatMap (jR M g b L u S2)
theorem jL_len (M g b L u : Int) (S2 : List Int) : ∀ S1 : List Int, (jL M g b L u S1 S2).length ≤ S1.length * S2.length
  | [] => Nat.zero_le _
  | s :: r => by
    have := jL_len M g b L u S2 r
    show ((jR M g b L u S2 s) ++ jL M g b L u r S2).length ≤ _
    rw [List.length_append, List.length_cons, Nat.succ_mul]
    have e : (jR M g b L u S2 s).length ≤ S2.length := by
      unfold jR
      rw [List.length_map]
      exact List.length_filter_le _ _
    omega
section
variable {M Y g a b L : Int} (T : Two M Y g a b L)
include T
theorem Two.jL_mem {u : Int} (hu : b ∣ u * a - 1) {h1 h2 : Int → Int} (p1 : ∀ t, h1 (t % M) = h1 t) (p2 : ∀ t, h2 (t % Y) = h2 t) {v w t : Int} :
    t ∈ jL M g b L u (sI h1 v M.toNat) (sI h2 w Y.toNat) ↔ (0 ≤ t ∧ t < L) ∧ h1 t = v ∧ h2 t = w := by
  have m0 := T.m
  have y0 := T.y
  unfold jL jR
  simp only [List.mem_flatMap, List.mem_map, List.mem_filter, sI_mem, decide_eq_true_eq]
  constructor
  · rintro ⟨s, ⟨⟨s0, s1⟩, s2⟩, f, ⟨⟨⟨f0, f1⟩, f2⟩, f3⟩, rfl⟩
    have e1 := T.jn_m (u := u) (s := s) (f := f)
    have e2 := T.jn_y hu (Int.dvd_of_emod_eq_zero f3)
    refine ⟨T.jn_b u s f, ?_, ?_⟩
    · rw [← p1, e1, p1, s2]
    · rw [← p2, e2, p2, f2]
  · rintro ⟨⟨t0, t1⟩, e1, e2⟩
    have a1 := Int.emod_nonneg t (show M ≠ 0 by omega)
    have a2 := Int.emod_lt_of_pos t m0
    have a3 := Int.emod_nonneg t (show Y ≠ 0 by omega)
    have a4 := Int.emod_lt_of_pos t y0
    refine ⟨t % M, ⟨⟨a1, by omega⟩, by rw [p1, e1]⟩, t % Y, ⟨⟨⟨a3, by omega⟩, by rw [p2, e2]⟩, Int.emod_eq_zero_of_dvd (T.share t)⟩, ?_⟩
    obtain ⟨b1, b2⟩ := T.jn_b u (t % M) (t % Y)
    exact T.uniq b1 b2 t0 t1 (by rw [T.jn_m, Int.emod_emod]) (by rw [T.jn_y hu (T.share t), Int.emod_emod])
theorem Two.jL_nodup {u : Int} (hu : b ∣ u * a - 1) {h1 h2 : Int → Int} {v w : Int} : (jL M g b L u (sI h1 v M.toNat) (sI h2 w Y.toNat)).Nodup := by
  have m0 := T.m
  have y0 := T.y
  unfold jL
  show List.Pairwise (· ≠ ·) _
  rw [List.pairwise_flatMap]
  constructor
  · intro s hs
    unfold jR
    rw [List.pairwise_map]
    have q := List.Pairwise.sublist (List.filter_sublist (p := fun f => decide ((f - s) % g = 0))) (sI_rise h2 w Y.toNat)
    refine List.Pairwise.imp_of_mem (R := (· < ·)) (fun {f k} hf hk hlt e => ?_) q
    rw [List.mem_filter, sI_mem, decide_eq_true_eq] at hf hk
    have e1 := T.jn_y hu (s := s) (Int.dvd_of_emod_eq_zero hf.2)
    have e2 := T.jn_y hu (s := s) (Int.dvd_of_emod_eq_zero hk.2)
    rw [e, e2, Int.emod_eq_of_lt hk.1.1.1 (by have := hk.1.1.2; omega), Int.emod_eq_of_lt hf.1.1.1 (by have := hf.1.1.2; omega)] at e1
    omega
  · refine List.Pairwise.imp_of_mem (R := (· < ·)) (fun {s k} hs hk hlt x hx y hy e => ?_) (sI_rise h1 v M.toNat)
    rw [sI_mem] at hs hk
    unfold jR at hx hy
    rw [List.mem_map] at hx hy
    obtain ⟨f, _, rfl⟩ := hx
    obtain ⟨f', _, rfl⟩ := hy
    have e1 := T.jn_m (u := u) (s := s) (f := f)
    have e2 := T.jn_m (u := u) (s := k) (f := f')
    rw [e, e2, Int.emod_eq_of_lt hk.1.1 (by have := hk.1.2; omega), Int.emod_eq_of_lt hs.1.1 (by have := hs.1.2; omega)] at e1
    omega
end
end Clk

set_option autoImplicit false
set_option linter.all false
set_option maxRecDepth 100000
/-! K58b: the clocks' defs over data. -/
namespace K58
open PySem PD GP Clk
abbrev ck (d m s f : Int) : D := .tuple [.int d, .int m, .int s, .int f]
structure Ck (d m s f : Int) : Prop where
  d0 : 1 ≤ d
  d1 : d ≤ 60
  m0 : 1 ≤ m
  m1 : m ≤ 12
  s0 : 1 ≤ s
  s1 : s ≤ 12
  f0 : 0 ≤ f
  f1 : f ≤ d - 1
theorem whole_t {v lo hi : Int} (h1 : lo ≤ v) (h2 : v ≤ hi) : f_is_whole [.int v, .int lo, .int hi] = .ok (.bool true, []) := by
  show ((b_is_whole [some (.int v), some (.int lo), some (.int hi)]).bind (fin [false, false, false])) = _
  unfold b_is_whole
  simp -implicitDefEqProofs (disch := omega) [h1, h2]
theorem tuple4 (xs : List D) (h : xs.length = 4) : f_is_tuple_of [.tuple xs, .int 4, .int 4] = .ok (.bool true, []) := by
  show ((b_is_tuple_of [some (.tuple xs), some (.int 4), some (.int 4)]).bind (fin [false, false, false])) = _
  unfold b_is_tuple_of
  simp -implicitDefEqProofs (disch := omega) [h]
variable {d m s f : Int}
theorem fits (c : Ck d m s f) : f_fits_clock [ck d m s f] = .ok (.bool true, []) := by
  show ((b_fits_clock [some (ck d m s f)]).bind (fin [false])) = _
  unfold b_fits_clock
  simp -implicitDefEqProofs (disch := omega) [↓Out.cE2 (tuple4 [.int d, .int m, .int s, .int f] rfl), ↓Out.cE2 (whole_t c.d0 c.d1), ↓Out.cE2 (whole_t c.m0 c.m1), ↓Out.cE2 (whole_t c.s0 c.s1), ↓Out.cE2 (whole_t c.f0 c.f1)]
theorem needc (c : Ck d m s f) : f_need_clock [ck d m s f] = .ok (.none, []) := by
  show ((b_need_clock [some (ck d m s f)]).bind (fin [false])) = _
  unfold b_need_clock
  simp -implicitDefEqProofs [↓Out.cE2 (fits c)]
theorem needs {i : Int} (h0 : 0 ≤ i) (h1 : i ≤ 1000000000000) : f_need_step [.int i] = .ok (.none, []) := by
  show ((b_need_step [some (.int i)]).bind (fin [false])) = _
  unfold b_need_step
  simp -implicitDefEqProofs [↓Out.cE2 (whole_t h0 h1)]
theorem Ck.gpos (c : Ck d m s f) : 0 < Nat.gcd (d * s).natAbs m.natAbs ∧ Nat.gcd (d * s).natAbs m.natAbs ≤ 12 := by
  have := c.m0
  have := c.m1
  refine ⟨Nat.gcd_pos_of_pos_right _ (by omega), Nat.le_trans (Nat.le_of_dvd (by omega) (Nat.gcd_dvd_right _ _)) (by omega)⟩
theorem roundof (c : Ck d m s f) : f_round_of [ck d m s f] = .ok (.int (rd d m s), []) := by
  show ((b_round_of [some (ck d m s f), none, none, none, none]).bind (fin [false])) = _
  unfold b_round_of rd
  obtain ⟨h1, h2⟩ := c.gpos
  have := c.s0
  have := c.s1
  simp -implicitDefEqProofs (disch := omega)
theorem showsin (c : Ck d m s f) (i : Int) : f_shows_in [ck d m s f, .int i] = .ok (.int (sh d m s f i), []) := by
  show ((b_shows_in [some (ck d m s f), some (.int i), none, none, none, none]).bind (fin [false, false])) = _
  unfold b_shows_in sh
  have := c.s0
  have := c.s1
  have := c.m0
  have := c.m1
  have := c.d0
  simp -implicitDefEqProofs (disch := omega)
theorem shows (c : Ck d m s f) {i : Int} (h0 : 0 ≤ i) (h1 : i ≤ 1000000000000) : f_shows [ck d m s f, .int i] = .ok (.int (sh d m s f i), []) := by
  show ((b_shows [some (ck d m s f), some (.int i)]).bind (fin [false, false])) = _
  unfold b_shows
  simp -implicitDefEqProofs [↓Out.cE2 (needc c), ↓Out.cE2 (needs h0 h1), ↓Out.cE2 (showsin c i)]
theorem Ck.rd (c : Ck d m s f) : 1 ≤ rd d m s ∧ rd d m s ≤ 720 := by
  have h1 := rd_pos (d := d) (m := m) (s := s) (by have := c.d0; omega) (by have := c.s0; omega) (by have := c.m0; omega)
  have h2 := rd_le (d := d) (m := m) (s := s) (by have := c.d0; omega) (by have := c.s0; omega) (by have := c.m0; omega)
  refine ⟨by omega, Int.le_trans h2 ?_⟩
  have := Int.mul_le_mul c.d1 c.s1 (by have := c.s0; omega) (by omega)
  omega
/-- the steps of a round at which a minute is shown -/
def stp (d m s f v : Int) : List D := (List.range (rd d m s).toNat).filterMap fun (i : Nat) => if sh d m s f i = v then some (.int i) else none
theorem stepsin (c : Ck d m s f) (v : Int) : f_steps_in [ck d m s f, .int v] = .ok (.list (stp d m s f v), []) := by
  show ((b_steps_in [some (ck d m s f), some (.int v), none]).bind (fin [false, false])) = _
  unfold b_steps_in
  obtain ⟨h1, h2⟩ := c.rd
  simp -implicitDefEqProofs only [c_Rt]
  rw [c_lcR _ 0 (rd d m s).toNat [some (ck d m s f), some (.int v), none] (fun i => if sh d m s f i = v then some (.int i) else none) (by simp -implicitDefEqProofs (disch := omega) [↓Out.cE2 (roundof c)]) rfl (by omega) fun i hi => ?_]
  · simp -implicitDefEqProofs
    rfl
  · refine ⟨[some (ck d m s f), some (.int v), some (.int (0 + (i : Int)))], ?_, rfl⟩
    show (gN 2 _ [some (ck d m s f), some (.int v), none]).bind _ = _
    rw [Int.zero_add]
    by_cases hv : sh d m s f i = v <;> simp -implicitDefEqProofs [↓Out.cE2 (showsin c i), hv]
end K58

set_option autoImplicit false
set_option linter.all false
set_option maxRecDepth 100000
/-! K58c: the law's own defs. -/
namespace K58
open PySem PD GP Clk
def rn : RN := ⟨31139, 8101, 2147483399, 367, 2147483563, 971⟩
def cn : CN := ⟨197, 449, 4219, 2077503697, 277⟩
theorem rn_ok : rn.ok := by unfold RN.ok rn; decide
theorem cn_ok : cn.ok := by unfold CN.ok cn; decide
theorem cup (ns : List Int) (h : ns.length ≤ 63) : ∃ c, f_law_cup [scr (ns.map PyData.int)] = .ok (cupD c, []) := cup_eq cn_ok ns h
theorem roll (c : Int × Int) (n : Int) (h : 0 < n) (h2 : n < 18446744073709551616) : f_law_roll [cupD c, .int n] = .ok (.int (rollV rn c n), [some (cupD (rollC rn c n))]) := roll_eq rn_ok c n h h2
theorem some' (c : Int × Int) (xs : List D) (h : 0 < xs.length) (h2 : xs.length < 1000000) : f_law_some [cupD c, .list xs] = .ok (pick rn c xs, [some (cupD (rollC rn c xs.length))]) := some_eq roll c xs h h2
theorem same (n : Nat) (h : n ≤ 12) (x : D) (hx : Sm 12 x) : f_law_same [x, x] = .ok (.bool true, []) := same_refl 12 x hx
/-- a drawn clock -/
theorem clock (c : Int × Int) {a b : Int} (ha : 1 ≤ a) (ha2 : a ≤ 60) (hb : 1 ≤ b) (hb2 : b ≤ 12) : ∃ d m s f c', Ck d m s f ∧ d ≤ a ∧ f_law_clock [cupD c, .int a, .int b] = .ok (ck d m s f, [some (cupD c')]) := by
  have e1 := rollV_nn rn c (n := a) (by omega)
  have e2 := rollV_lt rn c (n := a) (by omega)
  generalize hc1 : rollC rn c a = c1
  generalize hv1 : rollV rn c a = v1 at e1 e2
  have e3 := rollV_nn rn c1 (n := b) (by omega)
  have e4 := rollV_lt rn c1 (n := b) (by omega)
  generalize hc2 : rollC rn c1 b = c2
  generalize hv2 : rollV rn c1 b = v2 at e3 e4
  have e5 := rollV_nn rn c2 (n := b) (by omega)
  have e6 := rollV_lt rn c2 (n := b) (by omega)
  generalize hc3 : rollC rn c2 b = c3
  generalize hv3 : rollV rn c2 b = v3 at e5 e6
  have e7 := rollV_nn rn c3 (n := 1 + v1) (by omega)
  have e8 := rollV_lt rn c3 (n := 1 + v1) (by omega)
  generalize hc4 : rollC rn c3 (1 + v1) = c4
  generalize hv4 : rollV rn c3 (1 + v1) = v4 at e7 e8
  refine ⟨1 + v1, 1 + v2, 1 + v3, v4, c4, ⟨by omega, by omega, by omega, by omega, by omega, by omega, by omega, by omega⟩, by omega, ?_⟩
  have r1 := roll c a (by omega) (by omega)
  have r2 := roll c1 b (by omega) (by omega)
  have r3 := roll c2 b (by omega) (by omega)
  have r4 := roll c3 (1 + v1) (by omega) (by omega)
  rw [hv1, hc1] at r1
  rw [hv2, hc2] at r2
  rw [hv3, hc3] at r3
  rw [hv4, hc4] at r4
  show ((b_law_clock [some (cupD c), some (.int a), some (.int b), none]).bind (fin [true, false, false])) = _
  unfold b_law_clock
  simp -implicitDefEqProofs (disch := omega) [↓Out.cE2 r1, ↓Out.cE2 r2, ↓Out.cE2 r3, ↓Out.cE2 r4]
variable {d m s f : Int}
/-- the round, counted -/
theorem lround (c : Ck d m s f) : f_law_round [ck d m s f] = .ok (.int (rd d m s), []) := by
  show ((b_law_round [some (ck d m s f), none]).bind (fin [false])) = _
  unfold b_law_round
  obtain ⟨h1, h2⟩ := c.rd
  have d0 : 0 < d := by have := c.d0; omega
  have s0 : 0 < s := by have := c.s0; omega
  have m0 : 0 < m := by have := c.m0; omega
  have ds := Int.mul_pos d0 s0
  have q1 := c.m1
  have q2 := c.s1
  simp -implicitDefEqProofs (disch := omega)
  refine c_forRX (fun _ e => ∃ x, e = [some (ck d m s f), x]) (rd d m s - 1).toNat ⟨none, rfl⟩ (by omega) (fun i e hi ⟨x, he⟩ => ?_) (.int (rd d m s)) fun e ⟨x, he⟩ => ?_
  · subst he
    have z := rd_zero d0 s0 m0 (1 + (i : Int)) (by omega) (by omega)
    refine ⟨[some (ck d m s f), some (.int (1 + i))], ?_, ⟨_, rfl⟩⟩
    simp -implicitDefEqProofs (disch := omega) [z]
  · subst he
    have z := rd_full d0 s0 m0
    have e1 : 1 + (((rd d m s - 1).toNat : Nat) : Int) = rd d m s := by omega
    rw [e1]
    exact ⟨[some (ck d m s f), some (.int (rd d m s))], by simp -implicitDefEqProofs (disch := omega) [z], rfl⟩
/-- the rows -/
def row (d m s f : Int) (n : Nat) : List D := (List.range n).map fun (i : Nat) => .int (sh d m s f i)
theorem row_succ (n : Nat) : row d m s f (n + 1) = row d m s f n ++ [.int (sh d m s f n)] := by
  unfold row
  rw [List.range_succ, List.map_append]
  rfl
theorem row_len (n : Nat) : (row d m s f n).length = n := by simp [row]
theorem row_at {n : Nat} {i : Int} (h0 : 0 ≤ i) (h1 : i < n) : oOf (atL (row d m s f n) i) = .ok (.int (sh d m s f i)) := by
  rw [atL_nn h0 (by rw [row_len]; exact h1)]
  unfold row
  rw [List.getElem?_map, List.getElem?_range (by omega)]
  show Out.ok (PyData.int (sh d m s f ((i.toNat : Nat) : Int))) = _
  rw [show ((i.toNat : Nat) : Int) = i by omega]
theorem shown (c : Ck d m s f) (n : Nat) (hn : n < 1000000) : f_law_shown [ck d m s f, .int n] = .ok (.list (row d m s f n), []) := by
  show ((b_law_shown [some (ck d m s f), some (.int n), none, none, none, none]).bind (fin [false, false])) = _
  unfold b_law_shown
  have d0 : 0 < d := by have := c.d0; omega
  have s0 : 0 < s := by have := c.s0; omega
  have m0 : 0 < m := by have := c.m0; omega
  have hm := c.m1
  have hsh : sh d m s f 0 = f := by
    unfold sh
    rw [Int.zero_mul, Int.zero_ediv, Int.add_zero]
    exact Int.emod_eq_of_lt c.f0 (by have := c.f1; omega)
  simp -implicitDefEqProofs (disch := omega)
  refine c_forR (fun i e => ∃ x, e = [some (ck d m s f), some (.int n), some (.list (row d m s f i)), some (.int (sh d m s f i)), some (.int ((i : Int) * m % s)), x]) ⟨none, ?_⟩ (fun i e hi ⟨x, he⟩ => ?_) fun e ⟨x, he⟩ => ?_
  · simp [hsh, row]
  · subst he
    have r0 := Int.emod_nonneg ((i : Int) * m) (show s ≠ 0 by omega)
    have r1 := Int.emod_lt_of_pos ((i : Int) * m) s0
    obtain ⟨t1, t2⟩ := sh_step (m := m) s0 (i : Int)
    have hsh' : sh d m s f (i + 1) = (sh d m s f i + ((i : Int) * m % s + m) / s) % d := by
      unfold sh
      rw [Int.emod_add_emod, t1]
      congr 1
      omega
    have pb : (i : Int) * m % s + m < 1000 := by have := c.s1; omega
    generalize hp : (i : Int) * m % s + m = p at *
    have p0 : 0 ≤ p := by omega
    have q0 : 0 ≤ p / s := Int.ediv_nonneg p0 (by omega)
    have pd := Int.mul_ediv_add_emod p s
    have pl := Int.emod_lt_of_pos p s0
    have pn := Int.emod_nonneg p (show s ≠ 0 by omega)
    have q1 : p / s ≤ p := Int.ediv_le_self _ p0
    have m1 := sh_nn (d := d) (m := m) (s := s) (f := f) (i := i) d0
    have m2 := sh_lt (d := d) (m := m) (s := s) (f := f) (i := i) d0
    refine ⟨[some (ck d m s f), some (.int n), some (.list (row d m s f (i + 1))), some (.int (sh d m s f (i + 1))), some (.int (p % s)), some (.int (0 + (i : Int)))], ?_, ⟨_, by rw [show (((i + 1 : Nat) : Int)) = (i : Int) + 1 by omega, t2]⟩⟩
    simp -implicitDefEqProofs (disch := first | omega | (rw [row_len]; omega)) [hp]
    rw [← row_succ]
    refine c_wh (fun k e => ∃ mi : Int, 0 ≤ mi ∧ mi < d ∧ (mi + k) % d = sh d m s f (i + 1) ∧ e = [some (ck d m s f), some (.int n), some (.list (row d m s f (i + 1))), some (.int mi), some (.int (p % s + k * s)), some (.int (i : Int))]) (p / s).toNat ⟨sh d m s f i, m1, m2, ?_, ?_⟩ (by omega) (fun k e ⟨mi, a1, a2, a3, he⟩ => ?_) (fun e ⟨mi, a1, a2, a3, he⟩ => ?_) fun e ⟨mi, a1, a2, a3, he⟩ => ?_
    · rw [hsh', show (((p / s).toNat : Nat) : Int) = p / s by omega]
    · have : p % s + (((p / s).toNat : Nat) : Int) * s = p := by
        rw [show (((p / s).toNat : Nat) : Int) = p / s by omega, Int.mul_comm]
        omega
      rw [this]
    · subst he
      have z : p % s + ((k + 1 : Nat) : Int) * s = p % s + (k : Int) * s + s := by
        rw [Int.natCast_add, Int.add_mul]
        omega
      have z2 : 0 ≤ (k : Int) * s := Int.mul_nonneg (by omega) (by omega)
      rw [z]
      refine ⟨[some (ck d m s f), some (.int n), some (.list (row d m s f (i + 1))), some (.int mi), some (.int (p % s + (k : Int) * s + s)), some (.int (i : Int))], [some (ck d m s f), some (.int n), some (.list (row d m s f (i + 1))), some (.int (if mi + 1 < d then mi + 1 else 0)), some (.int (p % s + k * s)), some (.int (i : Int))], ?_, ?_, ⟨if mi + 1 < d then mi + 1 else 0, ?_, ?_, ?_, rfl⟩⟩
      · simp -implicitDefEqProofs (disch := omega)
        omega
      · by_cases hmi : mi + 1 < d <;> simp -implicitDefEqProofs (disch := omega) [hmi]
      · split <;> omega
      · split <;> omega
      · rw [← a3]
        split
        · congr 1
          omega
        · have : mi + ((k + 1 : Nat) : Int) = 0 + k + d := by omega
          rw [this, Int.add_emod_right]
    · subst he
      refine ⟨_, ?_, ⟨mi, a1, a2, a3, rfl⟩⟩
      simp -implicitDefEqProofs (disch := omega)
      omega
    · subst he
      rw [← a3]
      simp -implicitDefEqProofs
      exact (Int.emod_eq_of_lt a1 a2).symm
  · subst he
    simp -implicitDefEqProofs
end K58

set_option autoImplicit false
set_option linter.all false
set_option maxRecDepth 100000
/-! K58d: two clocks' defs over data. -/
namespace K58
open PySem PD GP Clk
theorem stp_iL (d m s f v : Int) : stp d m s f v = iL (sI (sh d m s f) v (rd d m s).toNat) := by
  unfold stp sI
  refine Eq.trans ?_ (fm_ifN (fun i => decide (sh d m s f i = v)) _)
  congr 1
  funext i
  by_cases h : sh d m s f i = v <;> simp [h]
theorem dNe_n (ns : List Int) {γ : Type} (K : D → Out γ) : (dNe (.list (iL ns)) (.list [])).bind K = K (.bool (!decide (ns = []))) := by
  have := dEq_iLs ns []
  show (((dEq (.list (iL ns)) (.list [])).bind _).bind K) = _
  rw [show (PyData.list [] : D) = .list (iL []) from rfl, this]
  rfl
/-- the common round -/
def cL (M Y : Int) : Int := M * Y / ((Nat.gcd M.natAbs Y.natAbs : Nat) : Int)
def cg (M Y : Int) : Int := ((Nat.gcd M.natAbs Y.natAbs : Nat) : Int)
section
variable {d m s f d' m' s' f' : Int}
theorem gcd_b {M Y : Int} (h0 : 1 ≤ M) (h1 : M ≤ 720) : 0 < cg M Y ∧ cg M Y ≤ 720 := by
  unfold cg
  have a := Nat.gcd_pos_of_pos_left Y.natAbs (show 0 < M.natAbs by omega)
  have b := Nat.le_of_dvd (show 0 < M.natAbs by omega) (Nat.gcd_dvd_left M.natAbs Y.natAbs)
  omega
theorem commonof (c : Ck d m s f) (c' : Ck d' m' s' f') : f_common_of [ck d m s f, ck d' m' s' f'] = .ok (.int (cL (rd d m s) (rd d' m' s')), []) := by
  obtain ⟨h1, h2⟩ := c.rd
  obtain ⟨h3, h4⟩ := c'.rd
  obtain ⟨g1, g2⟩ := gcd_b (Y := rd d' m' s') h1 h2
  unfold cg at g1 g2
  rw [run_b2 (f_common_of _), u_common_of]
  simp -implicitDefEqProofs (disch := omega) [↓Out.cE2 (roundof c), ↓Out.cE2 (roundof c')]
  rfl
theorem turnof {a b : Int} (a0 : 0 < a) (a1 : a ≤ 720) (b0 : 0 < b) (b1 : b ≤ 720) (h : ∃ u, 0 ≤ u ∧ u < b ∧ b ∣ u * a - 1) : ∃ u, b ∣ u * a - 1 ∧ f_turn_of [.int a, .int b] = .ok (.int u, []) ∧ 0 ≤ u ∧ u < b := by
  obtain ⟨ns, hn⟩ : ∃ ns, ns = ((List.range b.toNat).filter fun (i : Nat) => decide (((i : Int) * a - 1) % b = 0)).map fun (i : Nat) => (i : Int) := ⟨_, rfl⟩
  have mem : ∀ u ∈ ns, b ∣ u * a - 1 ∧ 0 ≤ u ∧ u < b := fun u hu => by
    rw [hn] at hu
    simp only [List.mem_map, List.mem_filter, List.mem_range, decide_eq_true_eq] at hu
    obtain ⟨k, ⟨k1, k2⟩, rfl⟩ := hu
    exact ⟨Int.dvd_of_emod_eq_zero k2, by omega, by omega⟩
  have ne : ns ≠ [] := fun z => by
    obtain ⟨u, u0, u1, u2⟩ := h
    have : u ∈ ns := by
      rw [hn]
      simp only [List.mem_map, List.mem_filter, List.mem_range, decide_eq_true_eq]
      refine ⟨u.toNat, ⟨by omega, ?_⟩, by omega⟩
      rw [show ((u.toNat : Nat) : Int) = u by omega]
      exact Int.emod_eq_zero_of_dvd u2
    rw [z] at this
    simp at this
  cases hu : ns with
  | nil => exact absurd hu ne
  | cons u r =>
    obtain ⟨q1, q2, q3⟩ := mem u (by rw [hu]; simp)
    refine ⟨u, q1, ?_, q2, q3⟩
    rw [run_b2 (f_turn_of _), u_turn_of]
    simp -implicitDefEqProofs (disch := omega)
    rw [c_lcR _ 0 b.toNat [some (.int a), some (.int b), none, none] (fun i => if decide (((i : Int) * a - 1) % b = 0) then some (.int i) else none) (by simp -implicitDefEqProofs (disch := omega)) rfl (by omega) fun i hi => ?_]
    · rw [fm_ifN (fun i => decide (((i : Int) * a - 1) % b = 0)), ← hn, hu]
      have q := fun K => dNe_n (u :: r) (γ := D × List (Option D)) K
      rw [show iL (u :: r) = .int u :: iL r from rfl] at q ⊢
      simp -implicitDefEqProofs [↓q]
    · refine ⟨[some (.int a), some (.int b), none, some (.int (0 + (i : Int)))], ?_, rfl⟩
      unfold lcStep
      show (gN 3 _ [some (.int a), some (.int b), none, none]).bind _ = _
      rw [Int.zero_add]
      by_cases q : ((i : Int) * a - 1) % b = 0 <;> simp -implicitDefEqProofs (disch := omega) [q]
/-- the common steps at which two minutes are shown -/
def cm (M Y : Int) (h1 h2 : Int → Int) (v w : Int) : List Int := ((List.range (cL M Y).toNat).filter fun (t : Nat) => decide (h1 t = v ∧ h2 t = w)).map fun (t : Nat) => (t : Int)
theorem cm_mem {M Y : Int} {h1 h2 : Int → Int} {v w t : Int} : t ∈ cm M Y h1 h2 v w ↔ (0 ≤ t ∧ t < cL M Y) ∧ h1 t = v ∧ h2 t = w := by
  unfold cm
  simp only [List.mem_map, List.mem_filter, List.mem_range, decide_eq_true_eq]
  constructor
  · rintro ⟨k, ⟨k1, k2⟩, rfl⟩
    exact ⟨by omega, k2⟩
  · rintro ⟨⟨t0, t1⟩, t2⟩
    refine ⟨t.toNat, ⟨by omega, ?_⟩, by omega⟩
    rw [show ((t.toNat : Nat) : Int) = t by omega]
    exact t2
theorem cm_rise (M Y : Int) (h1 h2 : Int → Int) (v w : Int) : (cm M Y h1 h2 v w).Pairwise (· < ·) := by
  unfold cm
  rw [List.pairwise_map]
  refine List.Pairwise.imp (R := (· < ·)) (fun h => by omega) ?_
  exact List.Pairwise.sublist List.filter_sublist List.pairwise_lt_range
theorem get_iL {ns : List Int} {i : Nat} {d : D} (h : (iL ns)[i]? = some d) : ∃ n, ns[i]? = some n ∧ d = .int n := by
  rw [List.getElem?_map] at h
  cases q : ns[i]? with
  | none => rw [q] at h; cases h
  | some n => rw [q] at h; exact ⟨n, rfl, (Option.some.inj h).symm⟩
theorem take_s {α : Type} {xs : List α} {i : Nat} {x : α} (h : xs[i]? = some x) : xs.take (i + 1) = xs.take i ++ [x] := by
  obtain ⟨h1, h2⟩ := List.getElem?_eq_some_iff.mp h
  rw [List.take_succ, h]
  rfl
theorem joined (c : Ck d m s f) (c' : Ck d' m' s' f') (v w : Int) : f_joined [ck d m s f, ck d' m' s' f', .tuple [.int v, .int w]] = .ok (.list (iL (cm (rd d m s) (rd d' m' s') (sh d m s f) (sh d' m' s' f') v w)), []) := by
  obtain ⟨h1, h2⟩ := c.rd
  obtain ⟨h3, h4⟩ := c'.rd
  obtain ⟨g1, g2⟩ := gcd_b (Y := rd d' m' s') h1 h2
  have T := two_of (M := rd d m s) (Y := rd d' m' s') (by omega) (by omega)
  have d0 := c.d0
  have s0 := c.s0
  have m0 := c.m0
  have d0' := c'.d0
  have s0' := c'.s0
  have m0' := c'.m0
  have p1 := sh_per (d := d) (m := m) (s := s) (f := f) (by omega) (by omega) (by omega)
  have p2 := sh_per (d := d') (m := m') (s := s') (f := f') (by omega) (by omega) (by omega)
  have e0 := commonof c c'
  have e1 := roundof c
  have e2 := roundof c'
  have e3 := stepsin c v
  have e4 := stepsin c' w
  rw [stp_iL] at e3 e4
  unfold cL at e0
  generalize hM : rd d m s = M at *
  generalize hY : rd d' m' s' = Y at *
  change Two M Y (cg M Y) (M / cg M Y) (Y / cg M Y) (cL M Y) at T
  change f_common_of [ck d m s f, ck d' m' s' f'] = .ok (.int (cL M Y), []) at e0
  have ha : M / cg M Y ≤ 720 := Int.le_trans (Int.ediv_le_self _ (by omega)) h2
  have hb : Y / cg M Y ≤ 720 := Int.le_trans (Int.ediv_le_self _ (by omega)) h4
  obtain ⟨u, hu, e5, u0, u1⟩ := turnof T.a0 ha T.b0 hb T.inv
  have lp := T.lpos
  have jm := fun t => T.jL_mem (t := t) hu p1 p2 (v := v) (w := w)
  have jn' := T.jL_nodup hu (h1 := sh d m s f) (h2 := sh d' m' s' f') (v := v) (w := w)
  have n1 := sI_len (sh d m s f) v M.toNat
  have n2 := sI_len (sh d' m' s' f') w Y.toNat
  have a0 := T.a0
  have b0 := T.b0
  generalize hA : M / cg M Y = A at *
  generalize hB : Y / cg M Y = B at *
  generalize hL : cL M Y = L at *
  have hg : cg M Y = ((Nat.gcd M.natAbs Y.natAbs : Nat) : Int) := rfl
  generalize hS1 : sI (sh d m s f) v M.toNat = S1 at *
  generalize hS2 : sI (sh d' m' s' f') w Y.toNat = S2 at *
  rw [run_b2 (f_joined _), u_joined]
  simp -implicitDefEqProofs (disch := omega) [↓Out.cE2 e1, ↓Out.cE2 e2, ← hg, hA, hB, ↓Out.cE2 e5, ↓Out.cE2 e0, ↓Out.cE2 e3]
  have big : ∀ i j : Nat, i ≤ S1.length → j ≤ S2.length → i * S2.length + j ≤ 519120 := fun i j hi hj => by
    have := Nat.mul_le_mul (show i ≤ 720 by omega) (show S2.length ≤ 720 by omega)
    omega
  refine c_forI (fun i e => ∃ x9 x10, e = [some (ck d m s f), some (ck d' m' s' f'), some (.tuple [.int v, .int w]), some (.int M), some (.int Y), some (.int (cg M Y)), some (.int u), some (.int L), some (.list (iL (jL M (cg M Y) B L u (S1.take i) S2))), x9, x10]) ⟨none, none, rfl⟩ (fun i dd e hd ⟨x9, x10, he⟩ => ?_) fun e ⟨x9, x10, he⟩ => ?_
  · subst he
    obtain ⟨st, h5, rfl⟩ := get_iL hd
    have hi := (List.getElem?_eq_some_iff.mp h5).1
    have tk : jL M (cg M Y) B L u (S1.take (i + 1)) S2 = jL M (cg M Y) B L u (S1.take i) S2 ++ jR M (cg M Y) B L u S2 st := by
      unfold jL
      rw [take_s h5, List.flatMap_append]
      simp
    have bl : (jL M (cg M Y) B L u (S1.take i) S2).length ≤ i * S2.length := by
      refine Nat.le_trans (jL_len _ _ _ _ _ _ _) (Nat.mul_le_mul_right _ ?_)
      rw [List.length_take]
      omega
    rw [tk]
    generalize hacc : jL M (cg M Y) B L u (S1.take i) S2 = acc at *
    have fin : ∃ x10', ((forL (gN 10) (sIf (tV (m2 dEq (m2 dMod (m2 dSub (mV 10) (mV 9)) (mV 5)) (mC (.int 0)))) (mutL dApp 8 (m2 dMod (m2 dAdd (mV 9) (m2 dMul (mV 3) (m2 dMod (m2 dMul (m2 dDiv (m2 dSub (mV 10) (mV 9)) (mV 5)) (mV 6)) (m2 dDiv (mV 4) (mV 5))))) (mV 7))) (sNx)) (iL S2) [some (ck d m s f), some (ck d' m' s' f'), some (.tuple [.int v, .int w]), some (.int M), some (.int Y), some (.int (cg M Y)), some (.int u), some (.int L), some (.list (iL acc)), some (.int st), x10]).bind Out.ok) = .ok (.nx [some (ck d m s f), some (ck d' m' s' f'), some (.tuple [.int v, .int w]), some (.int M), some (.int Y), some (.int (cg M Y)), some (.int u), some (.int L), some (.list (iL (acc ++ jR M (cg M Y) B L u S2 st))), some (.int st), x10']) := by
      refine g_forI (R := fun (o : Out Fl) => ∃ x10', o = .ok (.nx [some (ck d m s f), some (ck d' m' s' f'), some (.tuple [.int v, .int w]), some (.int M), some (.int Y), some (.int (cg M Y)), some (.int u), some (.int L), some (.list (iL (acc ++ jR M (cg M Y) B L u S2 st))), some (.int st), x10'])) (fun j e => ∃ x10, e = [some (ck d m s f), some (ck d' m' s' f'), some (.tuple [.int v, .int w]), some (.int M), some (.int Y), some (.int (cg M Y)), some (.int u), some (.int L), some (.list (iL (acc ++ jR M (cg M Y) B L u (S2.take j) st))), some (.int st), x10]) ⟨x10, ?_⟩ (fun j dd e hd ⟨x10, he⟩ => ?_) fun e ⟨x10, he⟩ => ?_
      · simp [jR]
      · subst he
        obtain ⟨fr, h6, rfl⟩ := get_iL hd
        have hj := (List.getElem?_eq_some_iff.mp h6).1
        refine ⟨[some (ck d m s f), some (ck d' m' s' f'), some (.tuple [.int v, .int w]), some (.int M), some (.int Y), some (.int (cg M Y)), some (.int u), some (.int L), some (.list (iL (acc ++ jR M (cg M Y) B L u (S2.take (j + 1)) st))), some (.int st), some (.int fr)], ?_, ⟨_, rfl⟩⟩
        have rl : (jR M (cg M Y) B L u (S2.take j) st).length ≤ j := by
          unfold jR
          rw [List.length_map]
          refine Nat.le_trans (List.length_filter_le _ _) ?_
          rw [List.length_take]
          omega
        have bb := big i j (by omega) (by omega)
        have tk2 : jR M (cg M Y) B L u (S2.take (j + 1)) st = jR M (cg M Y) B L u (S2.take j) st ++ if (fr - st) % cg M Y = 0 then [jn M (cg M Y) B L u st fr] else [] := by
          unfold jR
          rw [take_s h6, List.filter_append, List.map_append]
          by_cases q : (fr - st) % cg M Y = 0 <;> simp [q]
        rw [tk2, ← List.append_assoc]
        generalize hac : acc ++ jR M (cg M Y) B L u (S2.take j) st = ac
        have al : (iL ac).length < 16777216 := by
          rw [← hac, List.length_map, List.length_append]
          omega
        have je : (st + M * ((fr - st) / cg M Y * u % B)) % L = jn M (cg M Y) B L u st fr := rfl
        generalize hI : iL ac = I at *
        by_cases q : (fr - st) % cg M Y = 0
        · simp -implicitDefEqProofs (disch := omega) [q, hB, je]
          rw [← hI]
        · simp -implicitDefEqProofs (disch := omega) [q]
          rw [← hI]
      · subst he
        refine ⟨x10, ?_⟩
        rw [show (iL S2).length = S2.length by rw [List.length_map], List.take_length]
    obtain ⟨x10', fin⟩ := fin
    refine ⟨_, ?_, ⟨some (.int st), x10', rfl⟩⟩
    rw [← fin]
    simp -implicitDefEqProofs (disch := omega) [↓Out.cE2 e4]
  · subst he
    rw [show (iL S1).length = S1.length by rw [List.length_map], List.take_length]
    have bl : (jL M (cg M Y) B L u S1 S2).length ≤ 16777216 := by
      have := jL_len M (cg M Y) B L u S2 S1
      have := big S1.length 0 (by omega) (by omega)
      omega
    have fin : srtI (jL M (cg M Y) B L u S1 S2) = cm M Y (sh d m s f) (sh d' m' s' f') v w := by
      refine srt_eq jn' (cm_rise _ _ _ _ _ _) fun a => ?_
      rw [jm, cm_mem, hL]
    simp -implicitDefEqProofs (disch := omega) [↓dSort_iL bl, fin]
end
end K58

set_option autoImplicit false
set_option linter.all false
set_option maxRecDepth 100000
/-! K58e: what is asked of two clocks. -/
namespace K58
open PySem PD GP Clk
section
variable {d m s f d' m' s' f' : Int}
theorem needcs (c : Ck d m s f) (c' : Ck d' m' s' f') : f_need_clocks [ck d m s f, ck d' m' s' f'] = .ok (.none, []) := by
  rw [run_b2 (f_need_clocks _), u_need_clocks]
  simp -implicitDefEqProofs [↓Out.cE2 (needc c), ↓Out.cE2 (needc c')]
theorem tuple2 (a b : D) : f_is_tuple_of [.tuple [a, b], .int 2, .int 2] = .ok (.bool true, []) := by
  rw [run_b2 (f_is_tuple_of _), u_is_tuple_of]
  simp -implicitDefEqProofs (disch := omega)
theorem needm (c : Ck d m s f) (c' : Ck d' m' s' f') {v w : Int} (v0 : 0 ≤ v) (v1 : v ≤ d - 1) (w0 : 0 ≤ w) (w1 : w ≤ d' - 1) : f_need_minutes [ck d m s f, ck d' m' s' f', .tuple [.int v, .int w]] = .ok (.none, []) := by
  rw [run_b2 (f_need_minutes _), u_need_minutes]
  simp -implicitDefEqProofs [↓Out.cE2 (needcs c c'), ↓Out.cE2 (tuple2 _ _), ↓Out.cE2 (whole_t v0 v1), ↓Out.cE2 (whole_t w0 w1)]
theorem commonround (c : Ck d m s f) (c' : Ck d' m' s' f') : f_common_round [ck d m s f, ck d' m' s' f'] = .ok (.int (cL (rd d m s) (rd d' m' s')), []) := by
  rw [run_b2 (f_common_round _), u_common_round]
  simp -implicitDefEqProofs [↓Out.cE2 (needcs c c'), ↓Out.cE2 (commonof c c')]
theorem firstshown (c : Ck d m s f) (c' : Ck d' m' s' f') {v w : Int} (v0 : 0 ≤ v) (v1 : v ≤ d - 1) (w0 : 0 ≤ w) (w1 : w ≤ d' - 1) : f_first_shown [ck d m s f, ck d' m' s' f', .tuple [.int v, .int w]] = .ok (hd0 (cm (rd d m s) (rd d' m' s') (sh d m s f) (sh d' m' s' f') v w), []) := by
  have e1 := joined c c' v w
  generalize cm (rd d m s) (rd d' m' s') (sh d m s f) (sh d' m' s' f') v w = ns at *
  rw [run_b2 (f_first_shown _), u_first_shown]
  simp -implicitDefEqProofs [↓Out.cE2 (needm c c' v0 v1 w0 w1), ↓Out.cE2 e1, ↓hdD_iL]
theorem countshown (c : Ck d m s f) (c' : Ck d' m' s' f') {v w : Int} (v0 : 0 ≤ v) (v1 : v ≤ d - 1) (w0 : 0 ≤ w) (w1 : w ≤ d' - 1) : f_count_shown [ck d m s f, ck d' m' s' f', .tuple [.int v, .int w]] = .ok (.int ((cm (rd d m s) (rd d' m' s') (sh d m s f) (sh d' m' s' f') v w).length : Int), []) := by
  have e1 := joined c c' v w
  rw [run_b2 (f_count_shown _), u_count_shown]
  simp -implicitDefEqProofs [↓Out.cE2 (needm c c' v0 v1 w0 w1), ↓Out.cE2 e1]
theorem cL_b (c : Ck d m s f) (c' : Ck d' m' s' f') : 1 ≤ cL (rd d m s) (rd d' m' s') ∧ cL (rd d m s) (rd d' m' s') ≤ 518400 := by
  obtain ⟨h1, h2⟩ := c.rd
  obtain ⟨h3, h4⟩ := c'.rd
  have T := two_of (M := rd d m s) (Y := rd d' m' s') (by omega) (by omega)
  obtain ⟨g1, g2⟩ := gcd_b (Y := rd d' m' s') h1 h2
  have lp := T.lpos
  have := Int.mul_le_mul h2 h4 (by omega) (by omega)
  have p := Int.mul_pos (show 0 < rd d m s by omega) (show 0 < rd d' m' s' by omega)
  have q := Int.ediv_le_self (a := rd d m s * rd d' m' s') (((Nat.gcd (rd d m s).natAbs (rd d' m' s').natAbs : Nat) : Int)) (by omega)
  unfold cL
  omega
def nxs (L i : Int) (ns : List Int) : List Int := ns.map fun own => i + (own - i) % L
def mn0 : List Int → D
  | [] => .none
  | n :: r => .int (minI n r)
theorem nextshown (c : Ck d m s f) (c' : Ck d' m' s' f') {v w i : Int} (v0 : 0 ≤ v) (v1 : v ≤ d - 1) (w0 : 0 ≤ w) (w1 : w ≤ d' - 1) (i0 : 0 ≤ i) (i1 : i ≤ 1000000000000) : f_next_shown [ck d m s f, ck d' m' s' f', .tuple [.int v, .int w], .int i] = .ok (mn0 (nxs (cL (rd d m s) (rd d' m' s')) i (cm (rd d m s) (rd d' m' s') (sh d m s f) (sh d' m' s' f') v w)), []) := by
  have e1 := joined c c' v w
  have e2 := commonof c c'
  obtain ⟨l0, l1⟩ := cL_b c c'
  have len : (cm (rd d m s) (rd d' m' s') (sh d m s f) (sh d' m' s' f') v w).length ≤ 518400 := by
    unfold cm
    rw [List.length_map]
    refine Nat.le_trans (List.length_filter_le _ _) ?_
    rw [List.length_range]
    omega
  generalize cm (rd d m s) (rd d' m' s') (sh d m s f) (sh d' m' s' f') v w = ns at *
  generalize cL (rd d m s) (rd d' m' s') = L at *
  rw [run_b2 (f_next_shown _), u_next_shown]
  simp -implicitDefEqProofs [↓Out.cE2 (needm c c' v0 v1 w0 w1), ↓Out.cE2 (needs i0 i1), ↓Out.cE2 e2]
  rw [c_lcI _ ns [some (ck d m s f), some (ck d' m' s' f'), some (.tuple [.int v, .int w]), some (.int i), some (.int L), none, none] (fun own => some (.int (i + (own - i) % L))) (by simp -implicitDefEqProofs [↓Out.cE2 e1]) rfl (by omega) fun own ho => ?_]
  · have e3 : ns.filterMap (fun own => some (PyData.int (i + (own - i) % L))) = iL (nxs L i ns) := by
      rw [fm_some]
      unfold nxs
      rw [show iL _ = List.map PyData.int _ from rfl, List.map_map]
      rfl
    rw [e3]
    generalize nxs L i ns = zs
    have q := fun K => dNe_n zs (γ := D × List (Option D)) K
    simp -implicitDefEqProofs only [set_s, set_z, ↓c_Rt, ↓c_If, ↓c_tV, ↓c_2, ↓c_V, ↓get_s, ↓get_z, ↓c_lst, ↓c_nil, ↓q, ↓c_bOf, ↓c_1, ↓c_C, thn_nx]
    cases zs with
    | nil => simp [mn0]
    | cons n r => simp -implicitDefEqProofs [mn0]
  · refine ⟨[some (ck d m s f), some (ck d' m' s' f'), some (.tuple [.int v, .int w]), some (.int i), some (.int L), none, some (.int own)], ?_, rfl⟩
    unfold lcStep
    show (gN 6 _ [some (ck d m s f), some (ck d' m' s' f'), some (.tuple [.int v, .int w]), some (.int i), some (.int L), none, none]).bind _ = _
    simp -implicitDefEqProofs (disch := omega)
/-- the steps at which both show one minute, minute by minute -/
def alR (M Y : Int) (h1 h2 : Int → Int) (n : Nat) : List Int := (List.range n).flatMap fun (k : Nat) => cm M Y h1 h2 k k
def al0 : List Int → D
  | [] => .tuple [.none, .int 0]
  | n :: r => .tuple [.int (minI n r), .int ((n :: r).length : Int)]
theorem dNe_o (ns : List Int) {γ : Type} (K : D → Out γ) : (dNe (.list (iL ns)) (.list [])).bind K = K (.bool (!decide (ns = []))) := dNe_n ns K
theorem alR_s (M Y : Int) (h1 h2 : Int → Int) (n : Nat) : alR M Y h1 h2 (n + 1) = alR M Y h1 h2 n ++ cm M Y h1 h2 n n := by
  unfold alR
  rw [List.range_succ, List.flatMap_append]
  simp
theorem cm_len (M Y : Int) (h1 h2 : Int → Int) (v w : Int) : (cm M Y h1 h2 v w).length ≤ (cL M Y).toNat := by
  unfold cm
  rw [List.length_map]
  refine Nat.le_trans (List.length_filter_le _ _) ?_
  rw [List.length_range]
  exact Nat.le_refl _
theorem alR_len (M Y : Int) (h1 h2 : Int → Int) : ∀ n : Nat, (alR M Y h1 h2 n).length ≤ n * (cL M Y).toNat
  | 0 => Nat.zero_le _
  | n + 1 => by
    rw [alR_s, List.length_append, Nat.succ_mul]
    have := alR_len M Y h1 h2 n
    have := cm_len M Y h1 h2 n n
    omega
theorem alike (c : Ck d m s f) (c' : Ck d' m' s' f') (hb : (if d' < d then d' else d).toNat * (cL (rd d m s) (rd d' m' s')).toNat ≤ 16777216) : f_alike [ck d m s f, ck d' m' s' f'] = .ok (al0 (alR (rd d m s) (rd d' m' s') (sh d m s f) (sh d' m' s' f') (if d' < d then d' else d).toNat), []) := by
  have a1 := c.d0
  have a2 := c.d1
  have a3 := c'.d0
  have a4 := c'.d1
  generalize hn : (if d' < d then d' else d) = n at *
  have n0 : 0 ≤ n ∧ n ≤ 60 := by
    rw [← hn]
    split <;> omega
  have e1 := needcs c c'
  have e2 := fun v w => joined c c' v w
  have len := fun v w => cm_len (rd d m s) (rd d' m' s') (sh d m s f) (sh d' m' s' f') v w
  have lal := fun k => alR_len (rd d m s) (rd d' m' s') (sh d m s f) (sh d' m' s' f') k
  have sal := fun k => alR_s (rd d m s) (rd d' m' s') (sh d m s f) (sh d' m' s' f') k
  have zal : alR (rd d m s) (rd d' m' s') (sh d m s f) (sh d' m' s' f') 0 = [] := rfl
  generalize hR : alR (rd d m s) (rd d' m' s') (sh d m s f) (sh d' m' s' f') = R at *
  generalize hC : cm (rd d m s) (rd d' m' s') (sh d m s f) (sh d' m' s' f') = C at *
  generalize (cL (rd d m s) (rd d' m' s')).toNat = l at *
  rw [run_b2 (f_alike _), u_alike]
  simp -implicitDefEqProofs (disch := omega) [↓Out.cE2 e1, hn]
  refine c_forR (fun i e => ∃ x, e = [some (ck d m s f), some (ck d' m' s' f'), some (.list (iL (R i))), x]) ⟨none, by rw [zal]; rfl⟩ (fun i e hi ⟨x, he⟩ => ?_) fun e ⟨x, he⟩ => ?_
  · subst he
    refine ⟨[some (ck d m s f), some (ck d' m' s' f'), some (.list (iL (R (i + 1)))), some (.int (0 + (i : Int)))], ?_, ⟨_, rfl⟩⟩
    rw [Int.zero_add, sal i]
    have b : (iL (R i)).length + (iL (C i i)).length ≤ 16777216 := by
      rw [List.length_map, List.length_map]
      have := lal i
      have := len i i
      have : (i + 1) * l ≤ n.toNat * l := Nat.mul_le_mul_right _ (by omega)
      rw [Nat.succ_mul] at this
      omega
    rw [show iL (R i ++ C i i) = iL (R i) ++ iL (C i i) by simp]
    generalize hI : iL (R i) = I at *
    have e3 := e2 i i
    generalize hJ : iL (C i i) = J at *
    simp -implicitDefEqProofs (disch := omega) [↓Out.cE2 e3]
  · subst he
    generalize R n.toNat = zs
    have q := fun K => dNe_n zs (γ := D × List (Option D)) K
    cases zs with
    | nil => simp -implicitDefEqProofs [↓q, al0]
    | cons n r =>
      rw [show iL (n :: r) = .int n :: iL r from rfl] at q
      have q2 := fun K => dMin_iL K n r (γ := D × List (Option D))
      rw [show iL (n :: r) = .int n :: iL r from rfl] at q2 ⊢
      simp -implicitDefEqProofs [↓q, ↓q2, al0]
end
end K58

set_option autoImplicit false
set_option linter.all false
set_option maxRecDepth 100000
/-! K58f: what the law's own ways of finding come to. -/
namespace K58
open PySem PD GP Clk
theorem min_same {a b : Int} {as bs : List Int} (h1 : ∀ x ∈ a :: as, ∃ y ∈ b :: bs, y ≤ x) (h2 : ∀ y ∈ b :: bs, ∃ x ∈ a :: as, x ≤ y) : minI a as = minI b bs := by
  obtain ⟨p1, p2⟩ := minI_spec as a
  obtain ⟨q1, q2⟩ := minI_spec bs b
  obtain ⟨y, y1, y2⟩ := h1 _ p1
  obtain ⟨x, x1, x2⟩ := h2 _ q1
  have := q2 y y1
  have := p2 x x1
  omega
theorem al_eq {R S : List Int} (hR : R.Nodup) (hS : S.Pairwise (· < ·)) (h : ∀ a, a ∈ R ↔ a ∈ S) : al0 R = .tuple [hd0 S, .int (S.length : Int)] := by
  have len : R.length = S.length := ((List.perm_ext_iff_of_nodup hR (hS.imp fun h => by omega)).mpr h).length_eq
  cases R with
  | nil =>
    cases S with
    | nil => rfl
    | cons b r => exact absurd ((h b).2 (by simp)) (by simp)
  | cons n r =>
    cases S with
    | nil => exact absurd ((h n).1 (by simp)) (by simp)
    | cons b t =>
      show PyData.tuple [.int (minI n r), .int ((n :: r).length : Int)] = .tuple [.int b, .int ((b :: t).length : Int)]
      rw [len]
      have e : minI n r = b := by
        obtain ⟨p1, p2⟩ := minI_spec r n
        have q1 := p2 b ((h b).2 (by simp))
        have q2 := (h _).1 p1
        rcases List.mem_cons.mp q2 with z | z
        · exact z
        · have := (List.pairwise_cons.mp hS).1 _ z
          omega
      rw [e]
/-- the law's list of what comes next -/
def lws (L i : Int) (G : List Int) : List Int := (G.filter fun far => decide (i % L ≤ far)).map (fun far => (i - i % L) + far) ++ [(i - i % L) + L + G.headD 0]
theorem nx_mod {L i own : Int} (hL : 0 < L) (o0 : 0 ≤ own) (o1 : own < L) : i + (own - i) % L = (i - i % L) + own + (if i % L ≤ own then 0 else L) := by
  have e := Int.mul_ediv_add_emod i L
  have a := Int.emod_nonneg i (show L ≠ 0 by omega)
  have b := Int.emod_lt_of_pos i hL
  generalize hr : i % L = r at *
  generalize hq : i / L = q at *
  by_cases h : r ≤ own
  · have : (own - i) % L = own - r := by
      rw [show own - i = (own - r) + L * (-q) by rw [Int.mul_neg]; omega, Int.add_mul_emod_self_left]
      exact Int.emod_eq_of_lt (by omega) (by omega)
    rw [this, if_pos h]
    omega
  · have : (own - i) % L = own - r + L := by
      rw [show own - i = (own - r + L) + L * (-q - 1) by rw [Int.mul_sub, Int.mul_neg]; omega, Int.add_mul_emod_self_left]
      exact Int.emod_eq_of_lt (by omega) (by omega)
    rw [this, if_neg h]
    omega
theorem nx_eq {L i : Int} (hL : 0 < L) {g : Int} {G : List Int} (hG : (g :: G).Pairwise (· < ·)) (hb : ∀ x ∈ g :: G, 0 ≤ x ∧ x < L) : ∃ b bs, lws L i (g :: G) = b :: bs ∧ mn0 (nxs L i (g :: G)) = .int (minI b bs) := by
  obtain ⟨b, bs, hB⟩ : ∃ b bs, lws L i (g :: G) = b :: bs := by
    cases q : lws L i (g :: G) with
    | nil =>
      unfold lws at q
      simp at q
    | cons b bs => exact ⟨b, bs, rfl⟩
  refine ⟨b, bs, hB, ?_⟩
  show PyData.int (minI (i + (g - i) % L) (G.map fun own => i + (own - i) % L)) = _
  congr 1
  have low : ∀ x ∈ g :: G, g ≤ x := fun x hx => by
    rcases List.mem_cons.mp hx with rfl | hx
    · omega
    · have := (List.pairwise_cons.mp hG).1 x hx
      omega
  refine min_same (fun x hx => ?_) fun y hy => ?_
  · have hx : x ∈ (g :: G).map fun own => i + (own - i) % L := hx
    rw [List.mem_map] at hx
    obtain ⟨own, ho, rfl⟩ := hx
    obtain ⟨o0, o1⟩ := hb own ho
    rw [← hB, nx_mod hL o0 o1]
    unfold lws
    by_cases h : i % L ≤ own
    · refine ⟨(i - i % L) + own, List.mem_append_left _ (List.mem_map.mpr ⟨own, List.mem_filter.mpr ⟨ho, by simpa using h⟩, rfl⟩), ?_⟩
      rw [if_pos h]
      omega
    · refine ⟨(i - i % L) + L + g, List.mem_append_right _ (by simp), ?_⟩
      rw [if_neg h]
      have := low own ho
      omega
  · rw [← hB] at hy
    unfold lws at hy
    have mem : ∀ own ∈ g :: G, i + (own - i) % L ∈ (i + (g - i) % L) :: G.map fun own => i + (own - i) % L := fun own ho => by
      show _ ∈ (g :: G).map fun own => i + (own - i) % L
      exact List.mem_map.mpr ⟨own, ho, rfl⟩
    rcases List.mem_append.mp hy with hy | hy
    · rw [List.mem_map] at hy
      obtain ⟨own, ho, rfl⟩ := hy
      rw [List.mem_filter, decide_eq_true_eq] at ho
      obtain ⟨o0, o1⟩ := hb own ho.1
      refine ⟨_, mem own ho.1, ?_⟩
      rw [nx_mod hL o0 o1, if_pos ho.2]
      omega
    · simp only [List.mem_cons, List.not_mem_nil, or_false] at hy
      subst hy
      obtain ⟨o0, o1⟩ := hb g (by simp)
      refine ⟨_, mem g (by simp), ?_⟩
      rw [nx_mod hL o0 o1]
      show _ ≤ (i - i % L) + L + g
      split <;> omega
/-- what comes next shows the minutes -/
theorem nx_at {M Y g' a b L i : Int} (T : Two M Y g' a b L) {h1 h2 : Int → Int} (p1 : ∀ t, h1 (t % M) = h1 t) (p2 : ∀ t, h2 (t % Y) = h2 t) {v w : Int} {G : List Int} (hG : ∀ t ∈ G, h1 t = v ∧ h2 t = w) {z : Int} (hz : z ∈ nxs L i G) : i ≤ z ∧ h1 z = v ∧ h2 z = w := by
  unfold nxs at hz
  rw [List.mem_map] at hz
  obtain ⟨own, ho, rfl⟩ := hz
  obtain ⟨q1, q2⟩ := hG own ho
  have lp := T.lpos
  have e : (i + (own - i) % L) % L = own % L := by
    rw [Int.add_emod_emod]
    congr 1
    omega
  refine ⟨by have := Int.emod_nonneg (own - i) (show L ≠ 0 by omega); omega, ?_, ?_⟩
  · rw [← p1, ← Int.emod_emod_of_dvd _ T.lm, e, Int.emod_emod_of_dvd _ T.lm, p1, q1]
  · rw [← p2, ← Int.emod_emod_of_dvd _ T.ly, e, Int.emod_emod_of_dvd _ T.ly, p2, q2]
/-- both show one minute -/
theorem alR_mem {M Y : Int} {h1 h2 : Int → Int} {n : Nat} {t : Int} : t ∈ alR M Y h1 h2 n ↔ (0 ≤ t ∧ t < cL M Y) ∧ ∃ k : Nat, k < n ∧ h1 t = k ∧ h2 t = k := by
  unfold alR
  simp only [List.mem_flatMap, List.mem_range, cm_mem]
  constructor
  · rintro ⟨k, k1, k2, k3, k4⟩
    exact ⟨k2, k, k1, k3, k4⟩
  · rintro ⟨k2, k, k1, k3, k4⟩
    exact ⟨k, k1, k2, k3, k4⟩
theorem alR_nodup {M Y : Int} {h1 h2 : Int → Int} {n : Nat} : (alR M Y h1 h2 n).Nodup := by
  unfold alR
  show List.Pairwise (· ≠ ·) _
  rw [List.pairwise_flatMap]
  refine ⟨fun k _ => (cm_rise M Y h1 h2 k k).imp fun h => by omega, ?_⟩
  refine (List.pairwise_lt_range (n := n)).imp fun {j k} hjk x hx y hy e => ?_
  subst e
  rw [cm_mem] at hx hy
  have := hx.2.1
  have := hy.2.1
  omega
/-- the law's own list of them -/
def sa (L : Int) (h1 h2 : Int → Int) : List Int := ((List.range L.toNat).filter fun (t : Nat) => decide (h1 t = h2 t)).map fun (t : Nat) => (t : Int)
theorem sa_mem {L : Int} {h1 h2 : Int → Int} {t : Int} : t ∈ sa L h1 h2 ↔ (0 ≤ t ∧ t < L) ∧ h1 t = h2 t := by
  unfold sa
  simp only [List.mem_map, List.mem_filter, List.mem_range, decide_eq_true_eq]
  constructor
  · rintro ⟨k, ⟨k1, k2⟩, rfl⟩
    exact ⟨by omega, k2⟩
  · rintro ⟨⟨t0, t1⟩, t2⟩
    refine ⟨t.toNat, ⟨by omega, ?_⟩, by omega⟩
    rw [show ((t.toNat : Nat) : Int) = t by omega]
    exact t2
theorem sa_rise (L : Int) (h1 h2 : Int → Int) : (sa L h1 h2).Pairwise (· < ·) := by
  unfold sa
  rw [List.pairwise_map]
  refine List.Pairwise.imp (R := (· < ·)) (fun h => by omega) ?_
  exact List.Pairwise.sublist List.filter_sublist List.pairwise_lt_range
theorem al_same {M Y d d' : Int} {h1 h2 : Int → Int} (b1 : ∀ t, 0 ≤ h1 t ∧ h1 t < d) (b2 : ∀ t, 0 ≤ h2 t ∧ h2 t < d') : al0 (alR M Y h1 h2 (if d' < d then d' else d).toNat) = .tuple [hd0 (sa (cL M Y) h1 h2), .int ((sa (cL M Y) h1 h2).length : Int)] := by
  refine al_eq alR_nodup (sa_rise _ _ _) fun t => ?_
  rw [alR_mem, sa_mem]
  obtain ⟨x1, x2⟩ := b1 t
  obtain ⟨y1, y2⟩ := b2 t
  constructor
  · rintro ⟨h, k, k1, k2, k3⟩
    exact ⟨h, by rw [k2, k3]⟩
  · rintro ⟨h, e⟩
    refine ⟨h, (h1 t).toNat, ?_, by omega, by omega⟩
    split <;> omega
end K58

set_option autoImplicit false
set_option linter.all false
set_option maxRecDepth 100000
/-! K58g: a turn of the law. -/
namespace K58
open PySem PD GP Clk
theorem rollE (c : Int × Int) (n : Int) (h : 0 < n) (h2 : n < 18446744073709551616) : ∃ v c', 0 ≤ v ∧ v < n ∧ f_law_roll [cupD c, .int n] = .ok (.int v, [some (cupD c')]) := ⟨_, _, rollV_nn rn c h, rollV_lt rn c h, roll c n h h2⟩
theorem some2t (c : Int × Int) (x y x' y' : Int) : ∃ v w c', ((v = x ∧ w = y) ∨ (v = x' ∧ w = y')) ∧ f_law_some [cupD c, .list [.tuple [.int x, .int y], .tuple [.int x', .int y']]] = .ok (.tuple [.int v, .int w], [some (cupD c')]) := by
  have h := some' c [.tuple [.int x, .int y], .tuple [.int x', .int y']] (by simp) (by simp)
  have q := pick_mem rn c (xs := [.tuple [.int x, .int y], .tuple [.int x', .int y']]) (by simp)
  simp only [List.mem_cons, List.not_mem_nil, or_false] at q
  rcases q with q | q
  · exact ⟨x, y, _, .inl ⟨rfl, rfl⟩, by rw [h, q]⟩
  · exact ⟨x', y', _, .inr ⟨rfl, rfl⟩, by rw [h, q]⟩
theorem some3 (c : Int × Int) (x y z : Int) : ∃ v c', (v = x ∨ v = y ∨ v = z) ∧ f_law_some [cupD c, .list [.int x, .int y, .int z]] = .ok (.int v, [some (cupD c')]) := by
  have h := some' c [.int x, .int y, .int z] (by simp) (by simp)
  have q := pick_mem rn c (xs := [.int x, .int y, .int z]) (by simp)
  simp only [List.mem_cons, List.not_mem_nil, or_false] at q
  rcases q with q | q | q
  · exact ⟨x, _, .inl rfl, by rw [h, q]⟩
  · exact ⟨y, _, .inr (.inl rfl), by rw [h, q]⟩
  · exact ⟨z, _, .inr (.inr rfl), by rw [h, q]⟩
theorem sm_hd (n : Nat) (ns : List Int) : Sm (n + 1) (hd0 ns) := by
  cases ns with
  | nil => exact .non _
  | cons a r => exact .int _ _
theorem same2 (ns : List Int) (l : Int) : f_law_same [.tuple [hd0 ns, .int l], .tuple [hd0 ns, .int l]] = .ok (.bool true, []) := same 12 (by omega) _ (.tup _ _ (by simp) (by
  intro x hx
  simp only [List.mem_cons, List.not_mem_nil, or_false] at hx
  rcases hx with rfl | rfl
  · exact sm_hd _ _
  · exact .int _ _))
theorem same3 (ns : List Int) (l : Int) : f_law_same [.tuple [hd0 ns, .int l, hd0 ns], .tuple [hd0 ns, .int l, hd0 ns]] = .ok (.bool true, []) := same 12 (by omega) _ (.tup _ _ (by simp) (by
  intro x hx
  simp only [List.mem_cons, List.not_mem_nil, or_false] at hx
  rcases hx with rfl | rfl | rfl
  · exact sm_hd _ _
  · exact .int _ _
  · exact sm_hd _ _))
theorem cL_comm (M Y : Int) : cL M Y = cL Y M := by
  unfold cL
  rw [Int.mul_comm, Nat.gcd_comm]
theorem cm_comm (M Y : Int) (h1 h2 : Int → Int) (v w : Int) : cm M Y h1 h2 v w = cm Y M h2 h1 w v := by
  unfold cm
  rw [cL_comm]
  congr 2
  funext t
  simp [and_comm]
def Good (o : Out (D × List (Option D))) : Prop := ∃ c', o = .ok (.bool true, [some (cupD c')])
theorem right (c : Int × Int) : Good (f_law_right [cupD c]) := by
  obtain ⟨d, m, s, f, c1, k1, dm, r1⟩ := clock c (a := 12) (b := 4) (by omega) (by omega) (by omega) (by omega)
  obtain ⟨d', m', s', f', c2, k2, dm', r2⟩ := clock c1 (a := 12) (b := 4) (by omega) (by omega) (by omega) (by omega)
  obtain ⟨h1, h2⟩ := k1.rd
  obtain ⟨h3, h4⟩ := k2.rd
  have T := two_of (M := rd d m s) (Y := rd d' m' s') (by omega) (by omega)
  obtain ⟨l0, l1⟩ := cL_b k1 k2
  have d0 := k1.d0
  have s0 := k1.s0
  have m0 := k1.m0
  have d0' := k2.d0
  have s0' := k2.s0
  have m0' := k2.m0
  have p1 := sh_per (d := d) (m := m) (s := s) (f := f) (by omega) (by omega) (by omega)
  have p2 := sh_per (d := d') (m := m') (s := s') (f := f') (by omega) (by omega) (by omega)
  have hb : (if d' < d then d' else d).toNat * (cL (rd d m s) (rd d' m' s')).toNat ≤ 16777216 := by
    have : (if d' < d then d' else d).toNat ≤ 12 := by split <;> omega
    have := Nat.mul_le_mul this (show (cL (rd d m s) (rd d' m' s')).toNat ≤ 518400 by omega)
    omega
  have e0 := alike k1 k2 hb
  rw [al_same (fun t => ⟨sh_nn (by have := k1.d0; omega), sh_lt (by have := k1.d0; omega)⟩) (fun t => ⟨sh_nn (by have := k2.d0; omega), sh_lt (by have := k2.d0; omega)⟩)] at e0
  have e1 := lround k1
  have e2 := lround k2
  have e3 := commonround k1 k2
  have e4 := commonround k2 k1
  rw [cL_comm] at e4
  have e5 := shown k1 (cL (rd d m s) (rd d' m' s')).toNat (by omega)
  have e6 := shown k2 (cL (rd d m s) (rd d' m' s')).toNat (by omega)
  have cmb := fun v w t (h : t ∈ cm (rd d m s) (rd d' m' s') (sh d m s f) (sh d' m' s' f') v w) => cm_mem.mp h
  have b1 : ∀ t, 0 ≤ sh d m s f t ∧ sh d m s f t < d := fun t => ⟨sh_nn (by omega), sh_lt (by omega)⟩
  have b2 : ∀ t, 0 ≤ sh d' m' s' f' t ∧ sh d' m' s' f' t < d' := fun t => ⟨sh_nn (by omega), sh_lt (by omega)⟩
  change Two (rd d m s) (rd d' m' s') (cg (rd d m s) (rd d' m' s')) (rd d m s / cg (rd d m s) (rd d' m' s')) (rd d' m' s' / cg (rd d m s) (rd d' m' s')) (cL (rd d m s) (rd d' m' s')) at T
  show Good ((b_law_right [some (cupD c), none, none, none, none, none, none, none, none, none, none, none, none, none, none, none, none, none, none]).bind (fin [true]))
  unfold b_law_right
  simp -implicitDefEqProofs (disch := omega) [↓Out.cE2 r1, ↓Out.cE2 r2, ↓Out.cE2 e1, ↓Out.cE2 e2]
  generalize hM : rd d m s = M at *
  generalize hY : rd d' m' s' = Y at *
  generalize hL : cL M Y = L at *
  refine g_wh (fun n e => ∃ k : Nat, 1 ≤ k ∧ (k : Int) + n = Y / cg M Y ∧ e = [some (cupD c2), some (ck d m s f), some (ck d' m' s' f'), some (.int M), some (.int Y), some (.int (M * k)), none, none, none, none, none, none, none, none, none, none, none, none, none]) ((Y / cg M Y).toNat - 1) ⟨1, by omega, ?_, by simp⟩ ?_ (fun n e ⟨k, q1, q2, he⟩ => ?_) (fun e ⟨k, q1, q2, he⟩ => ?_) fun e ⟨k, q1, q2, he⟩ => ?_
  · have := T.b0
    omega
  · have : Y / cg M Y ≤ Y := Int.ediv_le_self _ (by omega)
    omega
  · subst he
    have ne : ¬ M * (k : Int) % Y = 0 := fun z => by
      have := T.both (Int.dvd_mul_right M k) (Int.dvd_of_emod_eq_zero z)
      rw [T.l] at this
      obtain ⟨j, hj⟩ := this
      have : (k : Int) = Y / cg M Y * j := Int.eq_of_mul_eq_mul_left (show M ≠ 0 by omega) (by rw [hj, Int.mul_assoc])
      have b0 := T.b0
      have : 1 ≤ j := by
        rcases Int.lt_or_le 0 j with z | z
        · omega
        · have : Y / cg M Y * j ≤ 0 := Int.mul_nonpos_of_nonneg_of_nonpos (by omega) z
          omega
      have : Y / cg M Y * 1 ≤ Y / cg M Y * j := Int.mul_le_mul_of_nonneg_left (by omega) (by omega)
      omega
    refine ⟨[some (cupD c2), some (ck d m s f), some (ck d' m' s' f'), some (.int M), some (.int Y), some (.int (M * k)), none, none, none, none, none, none, none, none, none, none, none, none, none], [some (cupD c2), some (ck d m s f), some (ck d' m' s' f'), some (.int M), some (.int Y), some (.int (M * (k + 1 : Nat))), none, none, none, none, none, none, none, none, none, none, none, none, none], ?_, ?_, ⟨k + 1, by omega, by omega, rfl⟩⟩
    · simp -implicitDefEqProofs (disch := omega) [ne]
    · have e : M * ((k + 1 : Nat) : Int) = M * k + M := by rw [Int.natCast_add, Int.mul_add]; omega
      rw [e]
      simp -implicitDefEqProofs (disch := omega)
  · subst he
    have e : M * (k : Int) = L := by
      have : (k : Int) = Y / cg M Y := by omega
      rw [T.l, this]
    have z : L % Y = 0 := Int.emod_eq_zero_of_dvd T.ly
    rw [e]
    refine ⟨_, ?_, ⟨k, q1, q2, by rw [e]⟩⟩
    simp -implicitDefEqProofs (disch := omega) [z]
  · subst he
    have e : M * (k : Int) = L := by
      have : (k : Int) = Y / cg M Y := by omega
      rw [T.l, this]
    rw [e]
    rw [show ((L.toNat : Nat) : Int) = L by omega] at e5 e6
    have e7 := same 12 (by omega) (.tuple [.int L, .int L]) (.tup _ _ (by simp) (by
      intro x hx
      simp only [List.mem_cons, List.not_mem_nil, or_false] at hx
      rcases hx with rfl | rfl
      · exact .int _ _
      · exact .int _ _))
    simp -implicitDefEqProofs (disch := omega) [↓Out.cE2 e5, ↓Out.cE2 e6, ↓Out.cE2 e3, ↓Out.cE2 e4, ↓Out.cE2 e7]
    rw [c_lcR _ 0 L.toNat [some (cupD c2), some (ck d m s f), some (ck d' m' s' f'), some (.int M), some (.int Y), some (.int L), some (.list (row d m s f L.toNat)), some (.list (row d' m' s' f' L.toNat)), none, none, none, none, none, none, none, none, none, none, none] (fun i => if decide (sh d m s f i = sh d' m' s' f' i) then some (.int i) else none) (by simp -implicitDefEqProofs (disch := omega)) rfl (by omega) fun i hi => ?_]
    · rw [fm_ifN (fun i => decide (sh d m s f i = sh d' m' s' f' i)), show iL (((List.range L.toNat).filter fun (i : Nat) => decide (sh d m s f i = sh d' m' s' f' i)).map fun (i : Nat) => (i : Int)) = iL (sa L (sh d m s f) (sh d' m' s' f')) from rfl]
      generalize sa L (sh d m s f) (sh d' m' s' f') = S at *
      have q := fun K => dNe_n S (γ := D × List (Option D)) K
      have e8 := same2 S (S.length : Int)
      have hdq := fun K => hdD_iL S (γ := D × List (Option D)) K
      have len : (iL S).length = S.length := by rw [List.length_map]
      generalize hI : iL S = I at *
      simp -implicitDefEqProofs (disch := omega) [↓Out.cE2 e0, ↓hdq, len, ↓Out.cE2 e8]
      refine g_forR (fun _ e => ∃ c x9 x10 x11 x12 x13 x14 x15 x16 x17, e = [some (cupD c), some (ck d m s f), some (ck d' m' s' f'), some (.int M), some (.int Y), some (.int L), some (.list (row d m s f L.toNat)), some (.list (row d' m' s' f' L.toNat)), some (.list I), x9, x10, x11, x12, x13, x14, x15, x16, x17, none]) ⟨_, _, _, _, _, _, _, _, _, _, rfl⟩ (fun i e hi ⟨c, x9, x10, x11, x12, x13, x14, x15, x16, x17, he⟩ => ?_) fun e ⟨c, x9, x10, x11, x12, x13, x14, x15, x16, x17, he⟩ => ?_
      · subst he
        obtain ⟨at', c1, t1, t2, r1⟩ := rollE c L (by omega) (by omega)
        have w1 := row_at (d := d) (m := m) (s := s) (f := f) (n := L.toNat) (i := at') (by omega) (by omega)
        have w2 := row_at (d := d') (m := m') (s := s') (f := f') (n := L.toNat) (i := at') (by omega) (by omega)
        obtain ⟨v0, c2, t3, t4, r2⟩ := rollE c1 d (by omega) (by omega)
        obtain ⟨w0, c3, t5, t6, r3⟩ := rollE c2 d' (by omega) (by omega)
        obtain ⟨v, w, c4, t7, r4⟩ := some2t c3 (sh d m s f at') (sh d' m' s' f' at') v0 w0
        have vb : 0 ≤ v ∧ v ≤ d - 1 ∧ 0 ≤ w ∧ w ≤ d' - 1 := by
          have := b1 at'
          have := b2 at'
          omega
        obtain ⟨vb1, vb2, vb3, vb4⟩ := vb
        have e9 := firstshown k1 k2 vb1 vb2 vb3 vb4
        have e10 := countshown k1 k2 vb1 vb2 vb3 vb4
        have e11 := firstshown k2 k1 vb3 vb4 vb1 vb2
        rw [← cm_comm] at e11
        obtain ⟨v1, c5, t8, t9, r5⟩ := rollE c4 1000000000000 (by omega) (by omega)
        obtain ⟨st, c6, t10, r6⟩ := some3 c5 at' v1 1000000000000
        have e12 := nextshown k1 k2 (i := st) vb1 vb2 vb3 vb4 (by omega) (by omega)
        rw [hM, hY] at e9 e10 e11 e12
        rw [hL] at e12
        have gr := cm_rise M Y (sh d m s f) (sh d' m' s' f') v w
        have gm := cmb v w
        have gl := cm_len M Y (sh d m s f) (sh d' m' s' f') v w
        rw [hL] at gl
        have lst : (List.range L.toNat).filterMap (fun (t : Nat) => if decide (sh d m s f t = v ∧ sh d' m' s' f' t = w) then some (PyData.int t) else none) = iL (cm M Y (sh d m s f) (sh d' m' s' f') v w) := by
          rw [fm_ifN (fun (t : Nat) => decide (sh d m s f t = v ∧ sh d' m' s' f' t = w))]
          unfold cm
          rw [hL]
        generalize cm M Y (sh d m s f) (sh d' m' s' f') v w = Gd at *
        have e13 := same3 Gd (Gd.length : Int)
        have hdg := fun K => hdD_iL Gd (γ := Fl) K
        have neg := fun K => dNe_iL0 Gd (γ := Fl) K
        have leng : (iL Gd).length = Gd.length := by rw [List.length_map]
        have hl : ∀ K : D → PD.Env → Out Fl, (mLc [14] (wRg1 (mV 5)) (gN 14) (tV (m2 dEq (mTup (mCons (m2 dIx (mV 6) (mV 14)) (mCons (m2 dIx (mV 7) (mV 14)) mNil))) (mV 11))) (mV 14) [some (cupD c4), some (ck d m s f), some (ck d' m' s' f'), some (.int M), some (.int Y), some (.int L), some (.list (row d m s f L.toNat)), some (.list (row d' m' s' f' L.toNat)), some (.list I), some (.int i), some (.int at'), some (.tuple [.int v, .int w]), x12, x13, x14, x15, x16, x17, none]).b2 K = K (.list (iL Gd)) [some (cupD c4), some (ck d m s f), some (ck d' m' s' f'), some (.int M), some (.int Y), some (.int L), some (.list (row d m s f L.toNat)), some (.list (row d' m' s' f' L.toNat)), some (.list I), some (.int i), some (.int at'), some (.tuple [.int v, .int w]), x12, x13, x14, x15, x16, x17, none] := fun K => by
          rw [c_lcR K 0 L.toNat [some (cupD c4), some (ck d m s f), some (ck d' m' s' f'), some (.int M), some (.int Y), some (.int L), some (.list (row d m s f L.toNat)), some (.list (row d' m' s' f' L.toNat)), some (.list I), some (.int i), some (.int at'), some (.tuple [.int v, .int w]), x12, x13, x14, x15, x16, x17, none] (fun t => if decide (sh d m s f t = v ∧ sh d' m' s' f' t = w) then some (.int t) else none) (by simp -implicitDefEqProofs (disch := omega)) rfl (by omega) fun t ht => ?_, lst]
          refine ⟨[some (cupD c4), some (ck d m s f), some (ck d' m' s' f'), some (.int M), some (.int Y), some (.int L), some (.list (row d m s f L.toNat)), some (.list (row d' m' s' f' L.toNat)), some (.list I), some (.int i), some (.int at'), some (.tuple [.int v, .int w]), x12, x13, some (.int (0 + (t : Int))), x15, x16, x17, none], ?_, rfl⟩
          have w3 := row_at (d := d) (m := m) (s := s) (f := f) (n := L.toNat) (i := (t : Int)) (by omega) (by omega)
          have w4 := row_at (d := d') (m := m') (s := s') (f := f') (n := L.toNat) (i := (t : Int)) (by omega) (by omega)
          unfold lcStep
          show (gN 14 _ [some (cupD c4), some (ck d m s f), some (ck d' m' s' f'), some (.int M), some (.int Y), some (.int L), some (.list (row d m s f L.toNat)), some (.list (row d' m' s' f' L.toNat)), some (.list I), some (.int i), some (.int at'), some (.tuple [.int v, .int w]), x12, x13, none, x15, x16, x17, none]).bind _ = _
          rw [Int.zero_add]
          have eq : dEq (.tuple [.int (sh d m s f t), .int (sh d' m' s' f' t)]) (.tuple [.int v, .int w]) = .ok (.bool (decide (sh d m s f t = v ∧ sh d' m' s' f' t = w))) := (dEq_iT [sh d m s f t, sh d' m' s' f' t] [v, w]).trans (by simp)
          by_cases z : sh d m s f t = v ∧ sh d' m' s' f' t = w <;> simp -implicitDefEqProofs [↓Out.cE w3, ↓Out.cE w4, ↓Out.cE eq, z]
        have nz := fun z => nx_at (i := st) T p1 p2 (G := Gd) (fun t ht => (gm t ht).2) (z := z)
        show NxI (fun e => ∃ c x9 x10 x11 x12 x13 x14 x15 x16 x17, e = [some (cupD c), some (ck d m s f), some (ck d' m' s' f'), some (.int M), some (.int Y), some (.int L), some (.list (row d m s f L.toNat)), some (.list (row d' m' s' f' L.toNat)), some (.list I), x9, x10, x11, x12, x13, x14, x15, x16, x17, none]) _
        rw [Int.zero_add]
        by_cases hz : Gd = []
        · have e14 := same 12 (by omega) .none (.non _)
          have e12 : f_next_shown [ck d m s f, ck d' m' s' f', .tuple [.int v, .int w], .int st] = .ok (.none, []) := by
            rw [e12, hz]
            rfl
          generalize hJ : iL Gd = J at *
          simp -implicitDefEqProofs (disch := omega) [↓Out.cE2 r1, ↓Out.cE w1, ↓Out.cE w2, ↓Out.cE2 r2, ↓Out.cE2 r3, ↓Out.cE2 r4, ↓hl, ↓Out.cE2 e9, ↓Out.cE2 e10, ↓Out.cE2 e11, ↓hdg, leng, ↓Out.cE2 e13, ↓Out.cE2 r5, ↓Out.cE2 r6, ↓neg, ↓if_pos hz, ↓Out.cE2 e12, ↓Out.cE2 e14]
          exact ⟨_, rfl, ⟨_, _, _, _, _, _, _, _, _, _, _, rfl⟩⟩
        · obtain ⟨g0, Gr, hg⟩ : ∃ g0 Gr, Gd = g0 :: Gr := by
            cases Gd with
            | nil => exact absurd rfl hz
            | cons a b => exact ⟨a, b, rfl⟩
          obtain ⟨b, bs, hlw, hmn⟩ := nx_eq (L := L) (i := st) (by omega) (g := g0) (G := Gr) (by rw [← hg]; exact gr) (fun x hx => (gm x (by rw [hg]; exact hx)).1)
          rw [← hg] at hlw hmn
          generalize hzz : minI b bs = z at *
          have e12 : f_next_shown [ck d m s f, ck d' m' s' f', .tuple [.int v, .int w], .int st] = .ok (.int z, []) := by
            rw [e12, hmn]
          have zm : z ∈ nxs L st Gd := by
            rw [hg] at hmn ⊢
            have h : PyData.int (minI (st + (g0 - st) % L) (Gr.map fun own => st + (own - st) % L)) = .int z := hmn
            injection h with h
            rw [← h]
            exact (minI_spec _ _).1
          obtain ⟨z1, z2, z3⟩ := nz z zm
          have e14 := same 12 (by omega) (.int z) (.int _ _)
          have hx : oOf (atL (iL Gd) 0) = .ok (.int g0) := by
            rw [hg, show iL (g0 :: Gr) = .int g0 :: iL Gr from rfl, show (0 : Int) = ((0 : Nat) : Int) from rfl, atL_nat]
            rfl
          have ft : ∀ zs : List Int, zs.filterMap (fun far => if decide (st % L ≤ far) then some (PyData.int ((st - st % L) + far)) else none) = iL ((zs.filter fun far => decide (st % L ≤ far)).map fun far => (st - st % L) + far) := by
            intro zs
            induction zs with
            | nil => rfl
            | cons y r ih =>
              rw [List.filterMap_cons, List.filter_cons, ih]
              by_cases q : st % L ≤ y <;> simp [q]
          have hf : iL ((Gd.filter fun far => decide (st % L ≤ far)).map fun far => (st - st % L) + far) ++ [PyData.int ((st - st % L) + L + g0)] = iL (b :: bs) := by
            rw [← hlw]
            unfold lws
            rw [hg]
            simp
          have fl : (iL ((Gd.filter fun far => decide (st % L ≤ far)).map fun far => (st - st % L) + far)).length ≤ 1000000 := by
            rw [List.length_map, List.length_map]
            have := List.length_filter_le (fun far => decide (st % L ≤ far)) Gd
            omega
          have lenJ : Gd.length ≤ 1000000 := by omega
          generalize hF : iL ((Gd.filter fun far => decide (st % L ≤ far)).map fun far => (st - st % L) + far) = F at *
          have hm : ∀ K : D → Out Fl, (dMinL (.list (F ++ [PyData.int ((st - st % L) + L + g0)]))).bind K = K (.int z) := fun K => by
            rw [hf, dMin_iL, hzz]
          have srcJ : ∀ J, iL Gd = J → itemsOf (.list J) = .ok (iL Gd) := fun J h => by rw [← h]; rfl
          generalize hJ : iL Gd = J at *
          have hl2 : ∀ K : D → PD.Env → Out Fl, (mLc [18] (wIt (mV 12)) (gN 18) (tV (m2 dGe (mV 18) (mV 17))) (m2 dAdd (mV 16) (mV 18)) [some (cupD c6), some (ck d m s f), some (ck d' m' s' f'), some (.int M), some (.int Y), some (.int L), some (.list (row d m s f L.toNat)), some (.list (row d' m' s' f' L.toNat)), some (.list I), some (.int i), some (.int at'), some (.tuple [.int v, .int w]), some (.list J), some (.tuple [hd0 Gd, .int (Gd.length : Int), hd0 Gd]), some (.int st), some .none, some (.int (st - st % L)), some (.int (st % L)), none]).b2 K = K (.list F) [some (cupD c6), some (ck d m s f), some (ck d' m' s' f'), some (.int M), some (.int Y), some (.int L), some (.list (row d m s f L.toNat)), some (.list (row d' m' s' f' L.toNat)), some (.list I), some (.int i), some (.int at'), some (.tuple [.int v, .int w]), some (.list J), some (.tuple [hd0 Gd, .int (Gd.length : Int), hd0 Gd]), some (.int st), some .none, some (.int (st - st % L)), some (.int (st % L)), none] := fun K => by
            rw [c_lcI K Gd [some (cupD c6), some (ck d m s f), some (ck d' m' s' f'), some (.int M), some (.int Y), some (.int L), some (.list (row d m s f L.toNat)), some (.list (row d' m' s' f' L.toNat)), some (.list I), some (.int i), some (.int at'), some (.tuple [.int v, .int w]), some (.list J), some (.tuple [hd0 Gd, .int (Gd.length : Int), hd0 Gd]), some (.int st), some .none, some (.int (st - st % L)), some (.int (st % L)), none] (fun far => if decide (st % L ≤ far) then some (.int ((st - st % L) + far)) else none) (by rw [hJ]; simp -implicitDefEqProofs) rfl (by omega) fun far hfar => ?_, ft, hF]
            refine ⟨[some (cupD c6), some (ck d m s f), some (ck d' m' s' f'), some (.int M), some (.int Y), some (.int L), some (.list (row d m s f L.toNat)), some (.list (row d' m' s' f' L.toNat)), some (.list I), some (.int i), some (.int at'), some (.tuple [.int v, .int w]), some (.list J), some (.tuple [hd0 Gd, .int (Gd.length : Int), hd0 Gd]), some (.int st), some .none, some (.int (st - st % L)), some (.int (st % L)), some (.int far)], ?_, rfl⟩
            unfold lcStep
            show (gN 18 _ [some (cupD c6), some (ck d m s f), some (ck d' m' s' f'), some (.int M), some (.int Y), some (.int L), some (.list (row d m s f L.toNat)), some (.list (row d' m' s' f' L.toNat)), some (.list I), some (.int i), some (.int at'), some (.tuple [.int v, .int w]), some (.list J), some (.tuple [hd0 Gd, .int (Gd.length : Int), hd0 Gd]), some (.int st), some .none, some (.int (st - st % L)), some (.int (st % L)), none]).bind _ = _
            by_cases q : st % L ≤ far <;> simp -implicitDefEqProofs [q]
          have ne : (dNe (.tuple [.int v, .int w]) (.tuple [.int v, .int w])) = .ok (.bool false) := by
            have := dEq_iT [v, w] [v, w]
            show (dEq (.tuple (iL [v, w])) (.tuple (iL [v, w]))).bind _ = _
            rw [this]
            simp
          by_cases zb : z ≤ 1000000000000
          · have e15 := shows k1 (i := z) (by omega) zb
            have e16 := shows k2 (i := z) (by omega) zb
            rw [z2] at e15
            rw [z3] at e16
            simp -implicitDefEqProofs (disch := first | omega | (simp; omega)) [↓Out.cE2 r1, ↓Out.cE w1, ↓Out.cE w2, ↓Out.cE2 r2, ↓Out.cE2 r3, ↓Out.cE2 r4, ↓hl, ↓Out.cE2 e9, ↓Out.cE2 e10, ↓Out.cE2 e11, ↓hdg, leng, ↓Out.cE2 e13, ↓Out.cE2 r5, ↓Out.cE2 r6, ↓neg, ↓if_neg hz, ↓hl2, ↓Out.cE hx, ↓hm, ↓Out.cE2 e12, ↓Out.cE2 e14, zb, ↓Out.cE2 e15, ↓Out.cE2 e16, ↓Out.cE ne]
            exact ⟨_, rfl, ⟨_, _, _, _, _, _, _, _, _, _, _, rfl⟩⟩
          · simp -implicitDefEqProofs (disch := first | omega | (simp; omega)) [↓Out.cE2 r1, ↓Out.cE w1, ↓Out.cE w2, ↓Out.cE2 r2, ↓Out.cE2 r3, ↓Out.cE2 r4, ↓hl, ↓Out.cE2 e9, ↓Out.cE2 e10, ↓Out.cE2 e11, ↓hdg, leng, ↓Out.cE2 e13, ↓Out.cE2 r5, ↓Out.cE2 r6, ↓neg, ↓if_neg hz, ↓hl2, ↓Out.cE hx, ↓hm, ↓Out.cE2 e12, ↓Out.cE2 e14, zb]
            exact ⟨_, rfl, ⟨_, _, _, _, _, _, _, _, _, _, _, rfl⟩⟩
      · subst he
        simp -implicitDefEqProofs
        exact ⟨_, rfl⟩
    · refine ⟨[some (cupD c2), some (ck d m s f), some (ck d' m' s' f'), some (.int M), some (.int Y), some (.int L), some (.list (row d m s f L.toNat)), some (.list (row d' m' s' f' L.toNat)), none, none, none, none, none, none, some (.int (0 + (i : Int))), none, none, none, none], ?_, rfl⟩
      have w1 := row_at (d := d) (m := m) (s := s) (f := f) (n := L.toNat) (i := (i : Int)) (by omega) (by omega)
      have w2 := row_at (d := d') (m := m') (s := s') (f := f') (n := L.toNat) (i := (i : Int)) (by omega) (by omega)
      unfold lcStep
      show (gN 14 _ [some (cupD c2), some (ck d m s f), some (ck d' m' s' f'), some (.int M), some (.int Y), some (.int L), some (.list (row d m s f L.toNat)), some (.list (row d' m' s' f' L.toNat)), none, none, none, none, none, none, none, none, none, none, none]).bind _ = _
      rw [Int.zero_add]
      by_cases z : sh d m s f i = sh d' m' s' f' i <;> simp -implicitDefEqProofs [↓Out.cE w1, ↓Out.cE w2, z]
end K58

set_option autoImplicit false
set_option linter.all false
set_option maxRecDepth 100000
/-! K58h: the law. -/
namespace K58
open PySem PD GP Clk
theorem rd1 (x : Int) : rd x 1 1 = x := by
  unfold rd
  simp
theorem cgc (x : Int) (h : 1 ≤ x) : Nat.gcd x.natAbs (x + 1).natAbs = 1 := by
  obtain ⟨n, rfl⟩ : ∃ n : Nat, x = n := ⟨x.toNat, by omega⟩
  rw [show ((n : Int) + 1).natAbs = n + 1 by omega, Int.natAbs_natCast]
  simp
theorem cL1 (x : Int) (h : 1 ≤ x) : cL x (x + 1) = x * (x + 1) := by
  unfold cL
  rw [cgc x h]
  simp
theorem law_true (ns : List Int) (h : ns.length ≤ 63) : ∃ outs, f_law [scr (ns.map PyData.int)] = .ok (.bool true, outs) := by
  obtain ⟨c, hc⟩ := cup ns h
  refine ⟨[], ?_⟩
  show ((b_law [some (scr (ns.map PyData.int)), none, none, none, none, none, none, none, none]).bind (fin [false])) = _
  unfold b_law
  simp -implicitDefEqProofs (disch := omega) [↓Out.cE2 hc]
  refine c_forR (fun _ e => ∃ c x, e = [some (scr (ns.map PyData.int)), some (cupD c), x, none, none, none, none, none, none]) ⟨c, none, rfl⟩ (fun i e hi ⟨c, x, he⟩ => ?_) fun e ⟨c, x, he⟩ => ?_
  · subst he
    obtain ⟨c1, r⟩ := right c
    exact ⟨[some (scr (ns.map PyData.int)), some (cupD c1), some (.int (0 + (i : Int))), none, none, none, none, none, none], by simp -implicitDefEqProofs [↓Out.cE2 r], ⟨_, _, rfl⟩⟩
  · subst he
    obtain ⟨v0, c1, p1, p2, r1⟩ := rollE c 59 (by omega) (by omega)
    generalize hd : 1 + v0 = d
    have d0 : 1 ≤ d := by omega
    have d1 : d ≤ 59 := by omega
    obtain ⟨v, c2, p3, p4, r2⟩ := rollE c1 d (by omega) (by omega)
    obtain ⟨w, c3, p5, p6, r3⟩ := rollE c2 (d + 1) (by omega) (by omega)
    have k1 : Ck d 1 1 0 := ⟨d0, by omega, by omega, by omega, by omega, by omega, by omega, by omega⟩
    have k2 : Ck (d + 1) 1 1 0 := ⟨by omega, by omega, by omega, by omega, by omega, by omega, by omega, by omega⟩
    have T := two_of (M := d) (Y := d + 1) (by omega) (by omega)
    change Two d (d + 1) _ _ _ (cL d (d + 1)) at T
    have hL := cL1 d d0
    have Lb : cL d (d + 1) ≤ 3540 := by
      rw [hL]
      have := Int.mul_le_mul d1 (show d + 1 ≤ 60 by omega) (by omega) (by omega)
      omega
    have s1 : ∀ t, sh d 1 1 0 t = t % d := fun t => by unfold sh; simp
    have s2 : ∀ t, sh (d + 1) 1 1 0 t = t % (d + 1) := fun t => by unfold sh; simp
    have one : ∀ v w, 0 ≤ v → v < d → 0 ≤ w → w < d + 1 → ∃ t, cm d (d + 1) (sh d 1 1 0) (sh (d + 1) 1 1 0) v w = [t] ∧ 0 ≤ t ∧ t < cL d (d + 1) ∧ t % d = v ∧ t % (d + 1) = w := fun v w v0 v1 w0 w1 => by
      obtain ⟨u, u0, u1, u2⟩ := T.inv
      have g1 : (((Nat.gcd d.natAbs (d + 1).natAbs : Nat) : Int)) ∣ w - v := by
        rw [cgc d d0]
        exact Int.one_dvd _
      have t1 := T.jn_b u v w
      have t2 := T.jn_m (u := u) (s := v) (f := w)
      have t3 := T.jn_y u2 g1
      rw [Int.emod_eq_of_lt v0 v1] at t2
      rw [Int.emod_eq_of_lt w0 w1] at t3
      generalize jn _ _ _ _ u v w = t at *
      have tm : t ∈ cm d (d + 1) (sh d 1 1 0) (sh (d + 1) 1 1 0) v w := cm_mem.mpr ⟨t1, by rw [s1]; exact t2, by rw [s2]; exact t3⟩
      have un : ∀ y ∈ cm d (d + 1) (sh d 1 1 0) (sh (d + 1) 1 1 0) v w, y = t := fun y hy => by
        obtain ⟨⟨y0, y1⟩, y2, y3⟩ := cm_mem.mp hy
        rw [s1] at y2
        rw [s2] at y3
        exact T.uniq y0 y1 t1.1 t1.2 (by rw [y2, t2]) (by rw [y3, t3])
      have rise := cm_rise d (d + 1) (sh d 1 1 0) (sh (d + 1) 1 1 0) v w
      refine ⟨t, ?_, t1.1, t1.2, t2, t3⟩
      generalize cm d (d + 1) (sh d 1 1 0) (sh (d + 1) 1 1 0) v w = zs at *
      match zs, tm, un, rise with
      | [x], _, un, _ => rw [un x (by simp)]
      | x :: y :: r, _, un, rise =>
        have a := un x (by simp)
        have b := un y (by simp)
        have := (List.pairwise_cons.mp rise).1 y (by simp)
        omega
    obtain ⟨t, t0, t1, t2, t3, t4⟩ := one v w p3 p4 p5 p6
    have e1 := firstshown k1 k2 p3 (by omega : v ≤ d - 1) p5 (by omega : w ≤ d + 1 - 1)
    have e2 := countshown k1 k2 p3 (by omega : v ≤ d - 1) p5 (by omega : w ≤ d + 1 - 1)
    have e3 := commonround k1 k2
    have e4 := shows k1 (i := t) t1 (by omega)
    have e5 := shows k2 (i := t) t1 (by omega)
    rw [rd1, rd1] at e1 e2 e3
    rw [t0] at e1 e2
    rw [s1, t3] at e4
    rw [s2, t4] at e5
    rw [hL] at e3
    have e6 := alike k1 k2 (by
      rw [rd1, rd1]
      have := Nat.mul_le_mul (show (if d + 1 < d then d + 1 else d).toNat ≤ 60 by split <;> omega) (show (cL d (d + 1)).toNat ≤ 3540 by omega)
      omega)
    rw [rd1, rd1, if_neg (by omega)] at e6
    have lenR : ∀ n : Nat, (n : Int) ≤ d → (alR d (d + 1) (sh d 1 1 0) (sh (d + 1) 1 1 0) n).length = n := fun n => by
      induction n with
      | zero => intro _; rfl
      | succ n ih =>
        intro hn
        obtain ⟨t, q, _⟩ := one n n (by omega) (by omega) (by omega) (by omega)
        rw [alR_s, List.length_append, ih (by omega), q]
        rfl
    have hal : al0 (alR d (d + 1) (sh d 1 1 0) (sh (d + 1) 1 1 0) d.toNat) = .tuple [.int 0, .int d] := by
      have l := lenR d.toNat (by omega)
      have z0 : (0 : Int) ∈ alR d (d + 1) (sh d 1 1 0) (sh (d + 1) 1 1 0) d.toNat := alR_mem.mpr ⟨⟨Int.le_refl _, T.lpos⟩, 0, by omega, by rw [s1]; simp, by rw [s2]; simp⟩
      have nn : ∀ y ∈ alR d (d + 1) (sh d 1 1 0) (sh (d + 1) 1 1 0) d.toNat, 0 ≤ y := fun y hy => (alR_mem.mp hy).1.1
      generalize alR d (d + 1) (sh d 1 1 0) (sh (d + 1) 1 1 0) d.toNat = R at *
      cases R with
      | nil => simp at z0
      | cons a r =>
        show PyData.tuple [.int (minI a r), .int ((a :: r).length : Int)] = _
        obtain ⟨m1, m2⟩ := minI_spec r a
        have := m2 0 z0
        have := nn _ m1
        rw [l, show minI a r = 0 by omega, show ((d.toNat : Nat) : Int) = d by omega]
    rw [hal] at e6
    have e7 := same 12 (by omega) (.tuple [.int (d * (d + 1)), .int 1, .int v, .int w, .tuple [.int 0, .int d]]) (.tup _ _ (by simp) (by
      intro x hx
      simp only [List.mem_cons, List.not_mem_nil, or_false] at hx
      rcases hx with rfl | rfl | rfl | rfl | rfl
      · exact .int _ _
      · exact .int _ _
      · exact .int _ _
      · exact .int _ _
      · refine .tup _ _ (by simp) fun x hx => ?_
        simp only [List.mem_cons, List.not_mem_nil, or_false] at hx
        rcases hx with rfl | rfl
        · exact .int _ _
        · exact .int _ _))
    have e1 : f_first_shown [ck d 1 1 0, ck (d + 1) 1 1 0, .tuple [.int v, .int w]] = .ok (.int t, []) := e1
    simp -implicitDefEqProofs (disch := first | omega | (simp <;> omega)) [↓Out.cE2 r1, hd, ↓Out.cE2 r2, ↓Out.cE2 r3, ↓Out.cE2 e1, ↓Out.cE2 e2, ↓Out.cE2 e3, ↓Out.cE2 e4, ↓Out.cE2 e5, ↓Out.cE2 e6, ↓Out.cE2 e7]
end K58

set_option autoImplicit false
set_option linter.all false
set_option Elab.async false
set_option maxRecDepth 100000
set_option maxHeartbeats 4000000
/-! GW: the walks of the defs of observatory_k58_whole_two_clocks, printed by gen.py. -/
namespace GW
open PySem PySem.Spec PyProof.Rows L2 PD GP
def top (i : Nat) : Stmt := PySem.Challenge.pw_observatory_k58_whole_two_clocks.main.body.getD i (.Pass ⟨0, 0, 0, 0⟩)
abbrev s_law_cup : Stmt := top 30
abbrev N_law_cup : List Str := ["script", "cell"]
abbrev W_law_cup : Ow := ⟨fun i => false, fun i => false⟩
abbrev s_is_whole : Stmt := top 6
abbrev N_is_whole : List Str := ["value", "low", "high"]
abbrev W_is_whole : Ow := ⟨fun i => false, fun i => false⟩
abbrev s_is_tuple_of : Stmt := top 7
abbrev N_is_tuple_of : List Str := ["value", "low", "high"]
abbrev W_is_tuple_of : Ow := ⟨fun i => false, fun i => false⟩
abbrev s_fits_clock : Stmt := top 12
abbrev N_fits_clock : List Str := ["value"]
abbrev W_fits_clock : Ow := ⟨fun i => false, fun i => false⟩
abbrev s_need_clock : Stmt := top 13
abbrev N_need_clock : List Str := ["clock"]
abbrev W_need_clock : Ow := ⟨fun i => false, fun i => false⟩
abbrev s_need_clocks : Stmt := top 14
abbrev N_need_clocks : List Str := ["one", "other"]
abbrev W_need_clocks : Ow := ⟨fun i => false, fun i => false⟩
abbrev s_need_minutes : Stmt := top 22
abbrev N_need_minutes : List Str := ["one", "other", "minutes"]
abbrev W_need_minutes : Ow := ⟨fun i => false, fun i => false⟩
abbrev s_round_of : Stmt := top 17
abbrev N_round_of : List Str := ["clock", "dial", "minutes", "steps", "first"]
abbrev W_round_of : Ow := ⟨fun i => false, fun i => false⟩
abbrev s_shows_in : Stmt := top 16
abbrev N_shows_in : List Str := ["clock", "step", "dial", "minutes", "steps", "first"]
abbrev W_shows_in : Ow := ⟨fun i => false, fun i => false⟩
abbrev s_steps_in : Stmt := top 18
abbrev N_steps_in : List Str := ["clock", "minute", "step"]
abbrev W_steps_in : Ow := ⟨fun i => false, fun i => false⟩
abbrev s_turn_of : Stmt := top 20
abbrev N_turn_of : List Str := ["many", "size", "good", "by"]
abbrev W_turn_of : Ow := ⟨fun i => false, fun i => false⟩
abbrev s_common_of : Stmt := top 19
abbrev N_common_of : List Str := ["one", "other", "mine", "yours"]
abbrev W_common_of : Ow := ⟨fun i => false, fun i => false⟩
abbrev s_joined : Stmt := top 21
abbrev N_joined : List Str := ["one", "other", "minutes", "mine", "yours", "share", "turn", "whole", "found", "step", "far"]
abbrev W_joined : Ow := ⟨fun i => Nat.beq i 8, fun i => false⟩
abbrev s_first_shown : Stmt := top 25
abbrev N_first_shown : List Str := ["one", "other", "minutes", "found"]
abbrev W_first_shown : Ow := ⟨fun i => false, fun i => false⟩
abbrev s_law_same : Stmt := top 33
abbrev N_law_same : List Str := ["told", "due", "at"]
abbrev W_law_same : Ow := ⟨fun i => false, fun i => false⟩
abbrev s_law_roll : Stmt := top 31
abbrev N_law_roll : List Str := ["cup", "many", "found", "deep"]
abbrev W_law_roll : Ow := ⟨fun i => Nat.beq i 0, fun i => Nat.beq i 0⟩
abbrev s_common_round : Stmt := top 24
abbrev N_common_round : List Str := ["one", "other"]
abbrev W_common_round : Ow := ⟨fun i => false, fun i => false⟩
abbrev s_count_shown : Stmt := top 26
abbrev N_count_shown : List Str := ["one", "other", "minutes"]
abbrev W_count_shown : Ow := ⟨fun i => false, fun i => false⟩
abbrev s_need_step : Stmt := top 15
abbrev N_need_step : List Str := ["step"]
abbrev W_need_step : Ow := ⟨fun i => false, fun i => false⟩
abbrev s_shows : Stmt := top 23
abbrev N_shows : List Str := ["clock", "step"]
abbrev W_shows : Ow := ⟨fun i => false, fun i => false⟩
abbrev s_alike : Stmt := top 28
abbrev N_alike : List Str := ["one", "other", "rows", "minute"]
abbrev W_alike : Ow := ⟨fun i => Nat.beq i 2, fun i => false⟩
abbrev s_law_clock : Stmt := top 34
abbrev N_law_clock : List Str := ["cup", "dial", "rate", "size"]
abbrev W_law_clock : Ow := ⟨fun i => Nat.beq i 0, fun i => Nat.beq i 0⟩
abbrev s_law_round : Stmt := top 36
abbrev N_law_round : List Str := ["clock", "step"]
abbrev W_law_round : Ow := ⟨fun i => false, fun i => false⟩
abbrev s_law_shown : Stmt := top 35
abbrev N_law_shown : List Str := ["clock", "many", "found", "minute", "parts", "step"]
abbrev W_law_shown : Ow := ⟨fun i => Nat.beq i 2, fun i => false⟩
abbrev s_law_some : Stmt := top 32
abbrev N_law_some : List Str := ["cup", "things"]
abbrev W_law_some : Ow := ⟨fun i => Nat.beq i 0, fun i => Nat.beq i 0⟩
abbrev s_next_shown : Stmt := top 27
abbrev N_next_shown : List Str := ["one", "other", "minutes", "step", "whole", "rows", "own"]
abbrev W_next_shown : Ow := ⟨fun i => false, fun i => false⟩
abbrev s_law_right : Stmt := top 37
abbrev N_law_right : List Str := ["cup", "one", "other", "mine", "yours", "whole", "rows", "there", "same", "turn", "at", "minutes", "good", "told", "step", "due", "base", "rest", "far"]
abbrev W_law_right : Ow := ⟨fun i => Nat.beq i 0, fun i => Nat.beq i 0⟩
abbrev s_law : Stmt := top 38
abbrev N_law : List Str := ["script", "cup", "turn", "dial", "one", "other", "minutes", "step", "told"]
abbrev W_law : Ow := ⟨fun i => Nat.beq i 1, fun i => false⟩
theorem sc_law_cup : FnScope N_law_cup ["script"] (defScope s_law_cup) := ⟨rfl, rfl, rfl, by decide +kernel, rfl, by decide +kernel, by decide +kernel⟩
theorem sc_is_whole : FnScope N_is_whole ["value", "low", "high"] (defScope s_is_whole) := ⟨rfl, rfl, rfl, by decide +kernel, rfl, by decide +kernel, by decide +kernel⟩
theorem sc_is_tuple_of : FnScope N_is_tuple_of ["value", "low", "high"] (defScope s_is_tuple_of) := ⟨rfl, rfl, rfl, by decide +kernel, rfl, by decide +kernel, by decide +kernel⟩
theorem sc_fits_clock : FnScope N_fits_clock ["value"] (defScope s_fits_clock) := ⟨rfl, rfl, rfl, by decide +kernel, rfl, by decide +kernel, by decide +kernel⟩
theorem sc_need_clock : FnScope N_need_clock ["clock"] (defScope s_need_clock) := ⟨rfl, rfl, rfl, by decide +kernel, rfl, by decide +kernel, by decide +kernel⟩
theorem sc_need_clocks : FnScope N_need_clocks ["one", "other"] (defScope s_need_clocks) := ⟨rfl, rfl, rfl, by decide +kernel, rfl, by decide +kernel, by decide +kernel⟩
theorem sc_need_minutes : FnScope N_need_minutes ["one", "other", "minutes"] (defScope s_need_minutes) := ⟨rfl, rfl, rfl, by decide +kernel, rfl, by decide +kernel, by decide +kernel⟩
theorem sc_round_of : FnScope N_round_of ["clock"] (defScope s_round_of) := ⟨rfl, rfl, rfl, by decide +kernel, rfl, by decide +kernel, by decide +kernel⟩
theorem sc_shows_in : FnScope N_shows_in ["clock", "step"] (defScope s_shows_in) := ⟨rfl, rfl, rfl, by decide +kernel, rfl, by decide +kernel, by decide +kernel⟩
theorem sc_steps_in : FnScope N_steps_in ["clock", "minute"] (defScope s_steps_in) := ⟨rfl, rfl, rfl, by decide +kernel, rfl, by decide +kernel, by decide +kernel⟩
theorem sc_turn_of : FnScope N_turn_of ["many", "size"] (defScope s_turn_of) := ⟨rfl, rfl, rfl, by decide +kernel, rfl, by decide +kernel, by decide +kernel⟩
theorem sc_common_of : FnScope N_common_of ["one", "other"] (defScope s_common_of) := ⟨rfl, rfl, rfl, by decide +kernel, rfl, by decide +kernel, by decide +kernel⟩
theorem sc_joined : FnScope N_joined ["one", "other", "minutes"] (defScope s_joined) := ⟨rfl, rfl, rfl, by decide +kernel, rfl, by decide +kernel, by decide +kernel⟩
theorem sc_first_shown : FnScope N_first_shown ["one", "other", "minutes"] (defScope s_first_shown) := ⟨rfl, rfl, rfl, by decide +kernel, rfl, by decide +kernel, by decide +kernel⟩
theorem sc_law_same : FnScope N_law_same ["told", "due"] (defScope s_law_same) := ⟨rfl, rfl, rfl, by decide +kernel, rfl, by decide +kernel, by decide +kernel⟩
theorem sc_law_roll : FnScope N_law_roll ["cup", "many"] (defScope s_law_roll) := ⟨rfl, rfl, rfl, by decide +kernel, rfl, by decide +kernel, by decide +kernel⟩
theorem sc_common_round : FnScope N_common_round ["one", "other"] (defScope s_common_round) := ⟨rfl, rfl, rfl, by decide +kernel, rfl, by decide +kernel, by decide +kernel⟩
theorem sc_count_shown : FnScope N_count_shown ["one", "other", "minutes"] (defScope s_count_shown) := ⟨rfl, rfl, rfl, by decide +kernel, rfl, by decide +kernel, by decide +kernel⟩
theorem sc_need_step : FnScope N_need_step ["step"] (defScope s_need_step) := ⟨rfl, rfl, rfl, by decide +kernel, rfl, by decide +kernel, by decide +kernel⟩
theorem sc_shows : FnScope N_shows ["clock", "step"] (defScope s_shows) := ⟨rfl, rfl, rfl, by decide +kernel, rfl, by decide +kernel, by decide +kernel⟩
theorem sc_alike : FnScope N_alike ["one", "other"] (defScope s_alike) := ⟨rfl, rfl, rfl, by decide +kernel, rfl, by decide +kernel, by decide +kernel⟩
theorem sc_law_clock : FnScope N_law_clock ["cup", "dial", "rate"] (defScope s_law_clock) := ⟨rfl, rfl, rfl, by decide +kernel, rfl, by decide +kernel, by decide +kernel⟩
theorem sc_law_round : FnScope N_law_round ["clock"] (defScope s_law_round) := ⟨rfl, rfl, rfl, by decide +kernel, rfl, by decide +kernel, by decide +kernel⟩
theorem sc_law_shown : FnScope N_law_shown ["clock", "many"] (defScope s_law_shown) := ⟨rfl, rfl, rfl, by decide +kernel, rfl, by decide +kernel, by decide +kernel⟩
theorem sc_law_some : FnScope N_law_some ["cup", "things"] (defScope s_law_some) := ⟨rfl, rfl, rfl, by decide +kernel, rfl, by decide +kernel, by decide +kernel⟩
theorem sc_next_shown : FnScope N_next_shown ["one", "other", "minutes", "step"] (defScope s_next_shown) := ⟨rfl, rfl, rfl, by decide +kernel, rfl, by decide +kernel, by decide +kernel⟩
theorem sc_law_right : FnScope N_law_right ["cup"] (defScope s_law_right) := ⟨rfl, rfl, rfl, by decide +kernel, rfl, by decide +kernel, by decide +kernel⟩
theorem sc_law : FnScope N_law ["script"] (defScope s_law) := ⟨rfl, rfl, rfl, by decide +kernel, rfl, by decide +kernel, by decide +kernel⟩
structure TopF (K : Frg) (mg : Str → Option Value) : Prop where
  m_abs : mg "abs" = none
  m_all : mg "all" = none
  m_bool : mg "bool" = none
  m_int : mg "int" = none
  m_isinstance : mg "isinstance" = none
  m_len : mg "len" = none
  m_list : mg "list" = none
  m_min : mg "min" = none
  m_range : mg "range" = none
  m_sorted : mg "sorted" = none
  m_str : mg "str" = none
  m_tuple : mg "tuple" = none
  c_DIAL : ∃ t, mg "DIAL" = some (.int 60 t)
  c_FAR : ∃ t, mg "FAR" = some (.int 1000000000000 t)
  c_RATE : ∃ t, mg "RATE" = some (.int 12 t)
  b_gcd : mg "gcd" = some (.builtin "math.gcd")
  a_law_cup : At K mg "_law_cup" s_law_cup ["script"]
  a_is_whole : At K mg "is_whole" s_is_whole ["value", "low", "high"]
  a_is_tuple_of : At K mg "is_tuple_of" s_is_tuple_of ["value", "low", "high"]
  a_fits_clock : At K mg "fits_clock" s_fits_clock ["value"]
  a_need_clock : At K mg "need_clock" s_need_clock ["clock"]
  a_need_clocks : At K mg "need_clocks" s_need_clocks ["one", "other"]
  a_need_minutes : At K mg "need_minutes" s_need_minutes ["one", "other", "minutes"]
  a_round_of : At K mg "round_of" s_round_of ["clock"]
  a_shows_in : At K mg "shows_in" s_shows_in ["clock", "step"]
  a_steps_in : At K mg "steps_in" s_steps_in ["clock", "minute"]
  a_turn_of : At K mg "turn_of" s_turn_of ["many", "size"]
  a_common_of : At K mg "common_of" s_common_of ["one", "other"]
  a_joined : At K mg "joined" s_joined ["one", "other", "minutes"]
  a_first_shown : At K mg "first_shown" s_first_shown ["one", "other", "minutes"]
  a_law_same : At K mg "_law_same" s_law_same ["told", "due"]
  a_law_roll : At K mg "_law_roll" s_law_roll ["cup", "many"]
  a_common_round : At K mg "common_round" s_common_round ["one", "other"]
  a_count_shown : At K mg "count_shown" s_count_shown ["one", "other", "minutes"]
  a_need_step : At K mg "need_step" s_need_step ["step"]
  a_shows : At K mg "shows" s_shows ["clock", "step"]
  a_alike : At K mg "alike" s_alike ["one", "other"]
  a_law_clock : At K mg "_law_clock" s_law_clock ["cup", "dial", "rate"]
  a_law_round : At K mg "_law_round" s_law_round ["clock"]
  a_law_shown : At K mg "_law_shown" s_law_shown ["clock", "many"]
  a_law_some : At K mg "_law_some" s_law_some ["cup", "things"]
  a_next_shown : At K mg "next_shown" s_next_shown ["one", "other", "minutes", "step"]
  a_law_right : At K mg "_law_right" s_law_right ["cup"]
  a_law : At K mg "law" s_law ["script"]
section
variable {P : Program} {w : World} {K : Frg} {mg : Str → Option Value} {base : Heap} {k : Nat} (T : TopF K mg)
include T
theorem walk_law_cup  (f : Addr) (cdv : Value) (A : Around) (outer : List PySem.Env) (s : Shared) (H : Hp) (E : XK) (hr : Room k (A.deeper (envOfC "_law_cup" (defScope s_law_cup) s.heap.objs.size f cdv))) : SSs (cxOf CX0 P w K mg base N_law_cup "_law_cup" (defScope s_law_cup) f cdv A outer s H E).nox W_law_cup .o (defBody s_law_cup) (b_law_cup) := by
  have nd := sc_law_cup.nd
  have hu : (cxOf CX0 P w K mg base N_law_cup "_law_cup" (defScope s_law_cup) f cdv A outer s H E).nox.A.units + 66 < cLine := room66 (X := (cxOf CX0 P w K mg base N_law_cup "_law_cup" (defScope s_law_cup) f cdv A outer s H E).nox) hr
  exact (ss_cons (ss_set (i := 1) nd rfl (.inl rfl) (se_b1 call_abs d_abs rfl T.m_abs (by decide +kernel) (se_b (se_ix ix_seq d_ix (se_op u_add d_add (se_ty1 call_list_of d_list rfl T.m_list (by decide +kernel) (se_b (se_v (pv 0) rfl))) (se_b (se_frz (se_lst (sl_cons se_int sl_nil) (lenIs.le (lenIs_cons lenIs_nil) rfl))))) se_int (fun _ _ => rfl)))) rfl rfl)
    (ss_one (ss_ret (se_lst (sl_cons (se_if (st_cmp op_ge d_ge (se_v (pv 1) rfl) (se_b (se_op op_pow d_pow se_int (se_b se_int))) (nomark _)) (se_op op_fdivW d_div (se_v (pv 1) rfl) (se_b se_int)) se_int) (sl_cons (se_op u_add d_add (se_op op_mod d_mod (se_ty1 call_int1 d_int1 rfl T.m_int (by decide +kernel) (se_b (se_op u_add d_add (se_op u_mul d_mul (se_v (pv 1) rfl) (se_b se_int)) (se_b se_int)))) (se_b se_int)) (se_b se_int)) sl_nil)) (lenIs.le (lenIs_cons (lenIs_cons lenIs_nil)) rfl)))))
omit T in
theorem nx_law_cup (ds e : PD.Env) : b_law_cup ds ≠ .ok (.nx e) := (seq_nonx rt_nonx) ds e
theorem ok_law_cup  : Def P w K mg base "_law_cup" (k + 1) .o [false] f_law_cup := defD (W := W_law_cup) T.a_law_cup sc_law_cup rfl rfl rfl (fun h => nomatch h) (walk_law_cup T ) (fun _ ds e h => nx_law_cup ds e h)
theorem walk_is_whole  (f : Addr) (cdv : Value) (A : Around) (outer : List PySem.Env) (s : Shared) (H : Hp) (E : XK) (hr : Room k (A.deeper (envOfC "is_whole" (defScope s_is_whole) s.heap.objs.size f cdv))) : SSs (cxOf CX0 P w K mg base N_is_whole "is_whole" (defScope s_is_whole) f cdv A outer s H E).nox W_is_whole .v (defBody s_is_whole) (b_is_whole) := by
  have nd := sc_is_whole.nd
  have hu : (cxOf CX0 P w K mg base N_is_whole "is_whole" (defScope s_is_whole) f cdv A outer s H E).nox.A.units + 66 < cLine := room66 (X := (cxOf CX0 P w K mg base N_is_whole "is_whole" (defScope s_is_whole) f cdv A outer s H E).nox) hr
  exact (ss_one (ss_ret (se_and (se_isi kit_int rfl T.m_isinstance rfl T.m_int (by decide +kernel) (se_v (pv 0) rfl)) (se_and (se_not (se_isi kit_bool rfl T.m_isinstance rfl T.m_bool (by decide +kernel) (se_v (pv 0) rfl))) (se_one (se_chain op_le d_le op_le d_le (se_v (pv 1) rfl) (se_v (pv 0) rfl) (se_b (se_v (pv 2) rfl))))))))
theorem ok_is_whole  : Def P w K mg base "is_whole" (k + 1) .v [false, false, false] f_is_whole := defD (W := W_is_whole) T.a_is_whole sc_is_whole rfl rfl rfl (fun h => nomatch h) (walk_is_whole T ) (fun h => nomatch h)
theorem walk_is_tuple_of  (f : Addr) (cdv : Value) (A : Around) (outer : List PySem.Env) (s : Shared) (H : Hp) (E : XK) (hr : Room k (A.deeper (envOfC "is_tuple_of" (defScope s_is_tuple_of) s.heap.objs.size f cdv))) : SSs (cxOf CX0 P w K mg base N_is_tuple_of "is_tuple_of" (defScope s_is_tuple_of) f cdv A outer s H E).nox W_is_tuple_of .v (defBody s_is_tuple_of) (b_is_tuple_of) := by
  have nd := sc_is_tuple_of.nd
  have hu : (cxOf CX0 P w K mg base N_is_tuple_of "is_tuple_of" (defScope s_is_tuple_of) f cdv A outer s H E).nox.A.units + 66 < cLine := room66 (X := (cxOf CX0 P w K mg base N_is_tuple_of "is_tuple_of" (defScope s_is_tuple_of) f cdv A outer s H E).nox) hr
  exact (ss_one (ss_ret (se_and (se_isi kit_tuple rfl T.m_isinstance rfl T.m_tuple (by decide +kernel) (se_v (pv 0) rfl)) (se_one (se_chain op_le d_le op_le d_le (se_v (pv 1) rfl) (se_b1 call_len d_len rfl T.m_len (by decide +kernel) (se_b (se_v (pv 0) rfl))) (se_b (se_v (pv 2) rfl)))))))
theorem ok_is_tuple_of  : Def P w K mg base "is_tuple_of" (k + 1) .v [false, false, false] f_is_tuple_of := defD (W := W_is_tuple_of) T.a_is_tuple_of sc_is_tuple_of rfl rfl rfl (fun h => nomatch h) (walk_is_tuple_of T ) (fun h => nomatch h)
theorem walk_fits_clock (h_is_tuple_of : Def P w K mg base "is_tuple_of" k .v [false, false, false] f_is_tuple_of) (h_is_whole : Def P w K mg base "is_whole" k .v [false, false, false] f_is_whole) (f : Addr) (cdv : Value) (A : Around) (outer : List PySem.Env) (s : Shared) (H : Hp) (E : XK) (hr : Room k (A.deeper (envOfC "fits_clock" (defScope s_fits_clock) s.heap.objs.size f cdv))) : SSs (cxOf CX0 P w K mg base N_fits_clock "fits_clock" (defScope s_fits_clock) f cdv A outer s H E).nox W_fits_clock .v (defBody s_fits_clock) (b_fits_clock) := by
  have nd := sc_fits_clock.nd
  have hu : (cxOf CX0 P w K mg base N_fits_clock "fits_clock" (defScope s_fits_clock) f cdv A outer s H E).nox.A.units + 66 < cLine := room66 (X := (cxOf CX0 P w K mg base N_fits_clock "fits_clock" (defScope s_fits_clock) f cdv A outer s H E).nox) hr
  exact (ss_cons (ss_if (st_w (sw_or (st_not (st_val (se_callD h_is_tuple_of rfl (fun h => nomatch h) hr rfl (sa_v (se_v (pv 0) rfl) (sa_v se_int (sa_v se_int sa_nil))) rfl List.nodup_nil))) (sw_or (st_not (st_val (se_callD h_is_whole rfl (fun h => nomatch h) hr rfl (sa_v (se_ix ix_seq d_ix (se_v (pv 0) rfl) se_int (fun _ _ => rfl)) (sa_v se_int (sa_v (se_gint rfl T.c_DIAL.choose_spec) sa_nil))) rfl List.nodup_nil))) (sw_or1 (st_not (st_val (se_callD h_is_whole rfl (fun h => nomatch h) hr rfl (sa_v (se_ix ix_seq d_ix (se_v (pv 0) rfl) se_int (fun _ _ => rfl)) (sa_v se_int (sa_v (se_gint rfl T.c_RATE.choose_spec) sa_nil))) rfl List.nodup_nil))))))) (ss_one (ss_ret se_bl)) ss_nil)
    (ss_one (ss_ret (se_and (se_callD h_is_whole rfl (fun h => nomatch h) hr rfl (sa_v (se_ix ix_seq d_ix (se_v (pv 0) rfl) se_int (fun _ _ => rfl)) (sa_v se_int (sa_v (se_gint rfl T.c_RATE.choose_spec) sa_nil))) rfl List.nodup_nil) (se_one (se_callD h_is_whole rfl (fun h => nomatch h) hr rfl (sa_v (se_ix ix_seq d_ix (se_v (pv 0) rfl) se_int (fun _ _ => rfl)) (sa_v se_int (sa_v (se_op op_sub d_sub (se_ix ix_seq d_ix (se_v (pv 0) rfl) se_int (fun _ _ => rfl)) (se_b se_int)) sa_nil))) rfl List.nodup_nil))))))
theorem ok_fits_clock (h_is_tuple_of : Def P w K mg base "is_tuple_of" k .v [false, false, false] f_is_tuple_of) (h_is_whole : Def P w K mg base "is_whole" k .v [false, false, false] f_is_whole) : Def P w K mg base "fits_clock" (k + 1) .v [false] f_fits_clock := defD (W := W_fits_clock) T.a_fits_clock sc_fits_clock rfl rfl rfl (fun h => nomatch h) (walk_fits_clock T h_is_tuple_of h_is_whole) (fun h => nomatch h)
theorem walk_need_clock (h_fits_clock : Def P w K mg base "fits_clock" k .v [false] f_fits_clock) (f : Addr) (cdv : Value) (A : Around) (outer : List PySem.Env) (s : Shared) (H : Hp) (E : XK) (hr : Room k (A.deeper (envOfC "need_clock" (defScope s_need_clock) s.heap.objs.size f cdv))) : SSs (cxOf CX0 P w K mg base N_need_clock "need_clock" (defScope s_need_clock) f cdv A outer s H E).nox W_need_clock .v (defBody s_need_clock) (b_need_clock) := by
  have nd := sc_need_clock.nd
  have hu : (cxOf CX0 P w K mg base N_need_clock "need_clock" (defScope s_need_clock) f cdv A outer s H E).nox.A.units + 66 < cLine := room66 (X := (cxOf CX0 P w K mg base N_need_clock "need_clock" (defScope s_need_clock) f cdv A outer s H E).nox) hr
  exact (ss_one (ss_if (st_not (st_val (se_callD h_fits_clock rfl (fun h => nomatch h) hr rfl (sa_v (se_v (pv 0) rfl) sa_nil) rfl List.nodup_nil))) (ss_one ss_no) ss_nil))
theorem ok_need_clock (h_fits_clock : Def P w K mg base "fits_clock" k .v [false] f_fits_clock) : Def P w K mg base "need_clock" (k + 1) .v [false] f_need_clock := defD (W := W_need_clock) T.a_need_clock sc_need_clock rfl rfl rfl (fun h => nomatch h) (walk_need_clock T h_fits_clock) (fun h => nomatch h)
theorem walk_need_clocks (h_need_clock : Def P w K mg base "need_clock" k .v [false] f_need_clock) (f : Addr) (cdv : Value) (A : Around) (outer : List PySem.Env) (s : Shared) (H : Hp) (E : XK) (hr : Room k (A.deeper (envOfC "need_clocks" (defScope s_need_clocks) s.heap.objs.size f cdv))) : SSs (cxOf CX0 P w K mg base N_need_clocks "need_clocks" (defScope s_need_clocks) f cdv A outer s H E).nox W_need_clocks .v (defBody s_need_clocks) (b_need_clocks) := by
  have nd := sc_need_clocks.nd
  have hu : (cxOf CX0 P w K mg base N_need_clocks "need_clocks" (defScope s_need_clocks) f cdv A outer s H E).nox.A.units + 66 < cLine := room66 (X := (cxOf CX0 P w K mg base N_need_clocks "need_clocks" (defScope s_need_clocks) f cdv A outer s H E).nox) hr
  exact (ss_cons (ss_expr (se_callD h_need_clock rfl (fun h => nomatch h) hr rfl (sa_v (se_v (pv 0) rfl) sa_nil) rfl List.nodup_nil))
    (ss_one (ss_expr (se_callD h_need_clock rfl (fun h => nomatch h) hr rfl (sa_v (se_v (pv 1) rfl) sa_nil) rfl List.nodup_nil))))
theorem ok_need_clocks (h_need_clock : Def P w K mg base "need_clock" k .v [false] f_need_clock) : Def P w K mg base "need_clocks" (k + 1) .v [false, false] f_need_clocks := defD (W := W_need_clocks) T.a_need_clocks sc_need_clocks rfl rfl rfl (fun h => nomatch h) (walk_need_clocks T h_need_clock) (fun h => nomatch h)
theorem walk_need_minutes (h_need_clocks : Def P w K mg base "need_clocks" k .v [false, false] f_need_clocks) (h_is_tuple_of : Def P w K mg base "is_tuple_of" k .v [false, false, false] f_is_tuple_of) (h_is_whole : Def P w K mg base "is_whole" k .v [false, false, false] f_is_whole) (f : Addr) (cdv : Value) (A : Around) (outer : List PySem.Env) (s : Shared) (H : Hp) (E : XK) (hr : Room k (A.deeper (envOfC "need_minutes" (defScope s_need_minutes) s.heap.objs.size f cdv))) : SSs (cxOf CX0 P w K mg base N_need_minutes "need_minutes" (defScope s_need_minutes) f cdv A outer s H E).nox W_need_minutes .v (defBody s_need_minutes) (b_need_minutes) := by
  have nd := sc_need_minutes.nd
  have hu : (cxOf CX0 P w K mg base N_need_minutes "need_minutes" (defScope s_need_minutes) f cdv A outer s H E).nox.A.units + 66 < cLine := room66 (X := (cxOf CX0 P w K mg base N_need_minutes "need_minutes" (defScope s_need_minutes) f cdv A outer s H E).nox) hr
  exact (ss_cons (ss_expr (se_callD h_need_clocks rfl (fun h => nomatch h) hr rfl (sa_v (se_v (pv 0) rfl) (sa_v (se_v (pv 1) rfl) sa_nil)) rfl List.nodup_nil))
    (ss_cons (ss_if (st_w (sw_or (st_not (st_val (se_callD h_is_tuple_of rfl (fun h => nomatch h) hr rfl (sa_v (se_v (pv 2) rfl) (sa_v se_int (sa_v se_int sa_nil))) rfl List.nodup_nil))) (sw_or1 (st_not (st_val (se_callD h_is_whole rfl (fun h => nomatch h) hr rfl (sa_v (se_ix ix_seq d_ix (se_v (pv 2) rfl) se_int (fun _ _ => rfl)) (sa_v se_int (sa_v (se_op op_sub d_sub (se_ix ix_seq d_ix (se_v (pv 0) rfl) se_int (fun _ _ => rfl)) (se_b se_int)) sa_nil))) rfl List.nodup_nil)))))) (ss_one ss_no) ss_nil)
    (ss_one (ss_if (st_not (st_val (se_callD h_is_whole rfl (fun h => nomatch h) hr rfl (sa_v (se_ix ix_seq d_ix (se_v (pv 2) rfl) se_int (fun _ _ => rfl)) (sa_v se_int (sa_v (se_op op_sub d_sub (se_ix ix_seq d_ix (se_v (pv 1) rfl) se_int (fun _ _ => rfl)) (se_b se_int)) sa_nil))) rfl List.nodup_nil))) (ss_one ss_no) ss_nil))))
theorem ok_need_minutes (h_need_clocks : Def P w K mg base "need_clocks" k .v [false, false] f_need_clocks) (h_is_tuple_of : Def P w K mg base "is_tuple_of" k .v [false, false, false] f_is_tuple_of) (h_is_whole : Def P w K mg base "is_whole" k .v [false, false, false] f_is_whole) : Def P w K mg base "need_minutes" (k + 1) .v [false, false, false] f_need_minutes := defD (W := W_need_minutes) T.a_need_minutes sc_need_minutes rfl rfl rfl (fun h => nomatch h) (walk_need_minutes T h_need_clocks h_is_tuple_of h_is_whole) (fun h => nomatch h)
theorem walk_round_of  (f : Addr) (cdv : Value) (A : Around) (outer : List PySem.Env) (s : Shared) (H : Hp) (E : XK) (hr : Room k (A.deeper (envOfC "round_of" (defScope s_round_of) s.heap.objs.size f cdv))) : SSs (cxOf CX0 P w K mg base N_round_of "round_of" (defScope s_round_of) f cdv A outer s H E).nox W_round_of .v (defBody s_round_of) (b_round_of) := by
  have nd := sc_round_of.nd
  have hu : (cxOf CX0 P w K mg base N_round_of "round_of" (defScope s_round_of) f cdv A outer s H E).nox.A.units + 66 < cLine := room66 (X := (cxOf CX0 P w K mg base N_round_of "round_of" (defScope s_round_of) f cdv A outer s H E).nox) hr
  exact (ss_cons (ss_asg (se_v (pv 0) rfl) (sg_t rfl (sgs_cons (sg_n (i := 1) nd rfl (.inl rfl) rfl rfl) (sgs_cons (sg_n (i := 2) nd rfl (.inl rfl) rfl rfl) (sgs_cons (sg_n (i := 3) nd rfl (.inl rfl) rfl rfl) (sgs_cons (sg_n (i := 4) nd rfl (.inl rfl) rfl rfl) sgs_nil))))))
    (ss_one (ss_ret (se_op op_fdivW d_div (se_op u_mul d_mul (se_v (pv 1) rfl) (se_b (se_v (pv 3) rfl))) (se_b (se_g2 cr_gcd d_gcd rfl T.b_gcd (se_op u_mul d_mul (se_v (pv 1) rfl) (se_b (se_v (pv 3) rfl))) (se_b (se_v (pv 2) rfl))))))))
theorem ok_round_of  : Def P w K mg base "round_of" (k + 1) .v [false] f_round_of := defD (W := W_round_of) T.a_round_of sc_round_of rfl rfl rfl (fun h => nomatch h) (walk_round_of T ) (fun h => nomatch h)
theorem walk_shows_in  (f : Addr) (cdv : Value) (A : Around) (outer : List PySem.Env) (s : Shared) (H : Hp) (E : XK) (hr : Room k (A.deeper (envOfC "shows_in" (defScope s_shows_in) s.heap.objs.size f cdv))) : SSs (cxOf CX0 P w K mg base N_shows_in "shows_in" (defScope s_shows_in) f cdv A outer s H E).nox W_shows_in .v (defBody s_shows_in) (b_shows_in) := by
  have nd := sc_shows_in.nd
  have hu : (cxOf CX0 P w K mg base N_shows_in "shows_in" (defScope s_shows_in) f cdv A outer s H E).nox.A.units + 66 < cLine := room66 (X := (cxOf CX0 P w K mg base N_shows_in "shows_in" (defScope s_shows_in) f cdv A outer s H E).nox) hr
  exact (ss_cons (ss_asg (se_v (pv 0) rfl) (sg_t rfl (sgs_cons (sg_n (i := 2) nd rfl (.inl rfl) rfl rfl) (sgs_cons (sg_n (i := 3) nd rfl (.inl rfl) rfl rfl) (sgs_cons (sg_n (i := 4) nd rfl (.inl rfl) rfl rfl) (sgs_cons (sg_n (i := 5) nd rfl (.inl rfl) rfl rfl) sgs_nil))))))
    (ss_one (ss_ret (se_op op_mod d_mod (se_op u_add d_add (se_v (pv 5) rfl) (se_b (se_op op_fdivW d_div (se_op u_mul d_mul (se_v (pv 1) rfl) (se_b (se_v (pv 3) rfl))) (se_b (se_v (pv 4) rfl))))) (se_b (se_v (pv 2) rfl))))))
theorem ok_shows_in  : Def P w K mg base "shows_in" (k + 1) .v [false, false] f_shows_in := defD (W := W_shows_in) T.a_shows_in sc_shows_in rfl rfl rfl (fun h => nomatch h) (walk_shows_in T ) (fun h => nomatch h)
theorem walk_steps_in (h_round_of : Def P w K mg base "round_of" k .v [false] f_round_of) (h_shows_in : Def P w K mg base "shows_in" k .v [false, false] f_shows_in) (f : Addr) (cdv : Value) (A : Around) (outer : List PySem.Env) (s : Shared) (H : Hp) (E : XK) (hr : Room k (A.deeper (envOfC "steps_in" (defScope s_steps_in) s.heap.objs.size f cdv))) : SSs (cxOf CX0 P w K mg base N_steps_in "steps_in" (defScope s_steps_in) f cdv A outer s H E).nox W_steps_in .v (defBody s_steps_in) (b_steps_in) := by
  have nd := sc_steps_in.nd
  have hu : (cxOf CX0 P w K mg base N_steps_in "steps_in" (defScope s_steps_in) f cdv A outer s H E).nox.A.units + 66 < cLine := room66 (X := (cxOf CX0 P w K mg base N_steps_in "steps_in" (defScope s_steps_in) f cdv A outer s H E).nox) hr
  exact (ss_one (ss_ret (se_frz (se_lc (own := [("step", 2)]) rfl nd (si_rg1 rfl T.m_range (se_callD h_round_of rfl (fun h => nomatch h) hr rfl (sa_v (se_v (pv 0) rfl) sa_nil) rfl List.nodup_nil)) (blkOk_by (N := N_steps_in) (sc := (defScope s_steps_in)) (by decide +kernel)) rfl (by decide) (fun _ _ _ _ _ => (sg_n (i := 2) nd rfl (.inl rfl) rfl rfl)) (fun _ _ _ _ _ => (sts_one (st_cmp (o_eqP hu) d_eq (se_callD h_shows_in rfl (fun h => nomatch h) hr rfl (sa_v (se_v (pv 0) rfl) (sa_v (se_v (pv 2) rfl) sa_nil)) rfl List.nodup_nil) (se_b (se_v (pv 1) rfl)) (nomark _)))) (fun _ _ _ _ _ => (se_v (pv 2) rfl))))))
theorem ok_steps_in (h_round_of : Def P w K mg base "round_of" k .v [false] f_round_of) (h_shows_in : Def P w K mg base "shows_in" k .v [false, false] f_shows_in) : Def P w K mg base "steps_in" (k + 1) .v [false, false] f_steps_in := defD (W := W_steps_in) T.a_steps_in sc_steps_in rfl rfl rfl (fun h => nomatch h) (walk_steps_in T h_round_of h_shows_in) (fun h => nomatch h)
theorem walk_turn_of  (f : Addr) (cdv : Value) (A : Around) (outer : List PySem.Env) (s : Shared) (H : Hp) (E : XK) (hr : Room k (A.deeper (envOfC "turn_of" (defScope s_turn_of) s.heap.objs.size f cdv))) : SSs (cxOf CX0 P w K mg base N_turn_of "turn_of" (defScope s_turn_of) f cdv A outer s H E).nox W_turn_of .v (defBody s_turn_of) (b_turn_of) := by
  have nd := sc_turn_of.nd
  have hu : (cxOf CX0 P w K mg base N_turn_of "turn_of" (defScope s_turn_of) f cdv A outer s H E).nox.A.units + 66 < cLine := room66 (X := (cxOf CX0 P w K mg base N_turn_of "turn_of" (defScope s_turn_of) f cdv A outer s H E).nox) hr
  exact (ss_cons (ss_lc (own := [("by", 3)]) (i := 2) rfl nd rfl rfl (sw_true rfl rfl rfl (by decide +kernel)) (si_rg1 rfl T.m_range (se_v (pv 1) rfl)) (blkOk_by (N := N_turn_of) (sc := (defScope s_turn_of)) (by decide +kernel)) rfl (by decide) (fun _ _ _ _ _ => (sg_n (i := 3) nd rfl (.inl rfl) rfl rfl)) (fun _ _ _ _ _ => (sts_one (st_cmp (o_eqP hu) d_eq (se_op op_mod d_mod (se_op op_sub d_sub (se_op u_mul d_mul (se_v (pv 3) rfl) (se_b (se_v (pv 0) rfl))) (se_b se_int)) (se_b (se_v (pv 1) rfl))) (se_b se_int) (nomark _)))) (fun _ _ _ _ _ => (se_v (pv 3) rfl)) rfl rfl)
    (ss_one (ss_ret (se_if (st_cmp (o_neP hu) d_ne (se_v (pv 2) rfl) (se_b (se_frz (se_lst sl_nil (lenIs.le lenIs_nil rfl)))) (nomark _)) (se_ix ix_seq d_ix (se_v (pv 2) rfl) se_int (fun _ _ => rfl)) se_int))))
theorem ok_turn_of  : Def P w K mg base "turn_of" (k + 1) .v [false, false] f_turn_of := defD (W := W_turn_of) T.a_turn_of sc_turn_of rfl rfl rfl (fun h => nomatch h) (walk_turn_of T ) (fun h => nomatch h)
theorem walk_common_of (h_round_of : Def P w K mg base "round_of" k .v [false] f_round_of) (f : Addr) (cdv : Value) (A : Around) (outer : List PySem.Env) (s : Shared) (H : Hp) (E : XK) (hr : Room k (A.deeper (envOfC "common_of" (defScope s_common_of) s.heap.objs.size f cdv))) : SSs (cxOf CX0 P w K mg base N_common_of "common_of" (defScope s_common_of) f cdv A outer s H E).nox W_common_of .v (defBody s_common_of) (b_common_of) := by
  have nd := sc_common_of.nd
  have hu : (cxOf CX0 P w K mg base N_common_of "common_of" (defScope s_common_of) f cdv A outer s H E).nox.A.units + 66 < cLine := room66 (X := (cxOf CX0 P w K mg base N_common_of "common_of" (defScope s_common_of) f cdv A outer s H E).nox) hr
  exact (ss_cons (ss_par2 (i := 2) (j := 3) rfl nd rfl rfl (by decide) rfl rfl (sk_v (se_callD h_round_of rfl (fun h => nomatch h) hr rfl (sa_v (se_v (pv 0) rfl) sa_nil) rfl List.nodup_nil) (sk_v (se_callD h_round_of rfl (fun h => nomatch h) hr rfl (sa_v (se_v (pv 1) rfl) sa_nil) rfl List.nodup_nil) sk_nil)) rfl)
    (ss_one (ss_ret (se_op op_fdivW d_div (se_op u_mul d_mul (se_v (pv 2) rfl) (se_b (se_v (pv 3) rfl))) (se_b (se_g2 cr_gcd d_gcd rfl T.b_gcd (se_v (pv 2) rfl) (se_b (se_v (pv 3) rfl))))))))
theorem ok_common_of (h_round_of : Def P w K mg base "round_of" k .v [false] f_round_of) : Def P w K mg base "common_of" (k + 1) .v [false, false] f_common_of := defD (W := W_common_of) T.a_common_of sc_common_of rfl rfl rfl (fun h => nomatch h) (walk_common_of T h_round_of) (fun h => nomatch h)
theorem walk_joined (h_round_of : Def P w K mg base "round_of" k .v [false] f_round_of) (h_turn_of : Def P w K mg base "turn_of" k .v [false, false] f_turn_of) (h_common_of : Def P w K mg base "common_of" k .v [false, false] f_common_of) (h_steps_in : Def P w K mg base "steps_in" k .v [false, false] f_steps_in) (f : Addr) (cdv : Value) (A : Around) (outer : List PySem.Env) (s : Shared) (H : Hp) (E : XK) (hr : Room k (A.deeper (envOfC "joined" (defScope s_joined) s.heap.objs.size f cdv))) : SSs (cxOf CX0 P w K mg base N_joined "joined" (defScope s_joined) f cdv A outer s H E).nox W_joined .v (defBody s_joined) (b_joined) := by
  have nd := sc_joined.nd
  have hu : (cxOf CX0 P w K mg base N_joined "joined" (defScope s_joined) f cdv A outer s H E).nox.A.units + 66 < cLine := room66 (X := (cxOf CX0 P w K mg base N_joined "joined" (defScope s_joined) f cdv A outer s H E).nox) hr
  exact (ss_cons (ss_par2 (i := 3) (j := 4) rfl nd rfl rfl (by decide) rfl rfl (sk_v (se_callD h_round_of rfl (fun h => nomatch h) hr rfl (sa_v (se_v (pv 0) rfl) sa_nil) rfl List.nodup_nil) (sk_v (se_callD h_round_of rfl (fun h => nomatch h) hr rfl (sa_v (se_v (pv 1) rfl) sa_nil) rfl List.nodup_nil) sk_nil)) rfl)
    (ss_cons (ss_set (i := 5) nd rfl (.inl rfl) (se_g2 cr_gcd d_gcd rfl T.b_gcd (se_v (pv 3) rfl) (se_b (se_v (pv 4) rfl))) rfl rfl)
    (ss_cons (ss_par3 (i := 6) (j := 7) (l := 8) rfl nd rfl rfl rfl (by decide) (by decide) (by decide) rfl rfl rfl (sk_v (se_callD h_turn_of rfl (fun h => nomatch h) hr rfl (sa_v (se_op op_fdivW d_div (se_v (pv 3) rfl) (se_b (se_v (pv 5) rfl))) (sa_v (se_op op_fdivW d_div (se_v (pv 4) rfl) (se_b (se_v (pv 5) rfl))) sa_nil)) rfl List.nodup_nil) (sk_v (se_callD h_common_of rfl (fun h => nomatch h) hr rfl (sa_v (se_v (pv 0) rfl) (sa_v (se_v (pv 1) rfl) sa_nil)) rfl List.nodup_nil) (sk_o (se_lst sl_nil (lenIs.le lenIs_nil rfl)) sk_nil))) rfl)
    (ss_cons (ss_for PassesOwn.never rfl (si_it (se_callD h_steps_in rfl (fun h => nomatch h) hr rfl (sa_v (se_v (pv 0) rfl) (sa_v (se_ix ix_seq d_ix (se_v (pv 2) rfl) se_int (fun _ _ => rfl)) sa_nil)) rfl List.nodup_nil)) (sg_n (i := 9) nd rfl (.inl rfl) rfl rfl) (ss_one (ss_for PassesOwn.never rfl (si_it (se_callD h_steps_in rfl (fun h => nomatch h) hr rfl (sa_v (se_v (pv 1) rfl) (sa_v (se_ix ix_seq d_ix (se_v (pv 2) rfl) se_int (fun _ _ => rfl)) sa_nil)) rfl List.nodup_nil)) (sg_n (i := 10) nd rfl (.inl rfl) rfl rfl) (ss_one (ss_if (st_cmp (o_eqP hu) d_eq (se_op op_mod d_mod (se_op op_sub d_sub (se_v (pv 10) rfl) (se_b (se_v (pv 9) rfl))) (se_b (se_v (pv 5) rfl))) (se_b se_int) (nomark _)) (ss_one (ss_app rfl (pv 8) (se_op op_mod d_mod (se_op u_add d_add (se_v (pv 9) rfl) (se_b (se_op u_mul d_mul (se_v (pv 3) rfl) (se_b (se_op op_mod d_mod (se_op u_mul d_mul (se_op op_fdivW d_div (se_op op_sub d_sub (se_v (pv 10) rfl) (se_b (se_v (pv 9) rfl))) (se_b (se_v (pv 5) rfl))) (se_b (se_v (pv 6) rfl))) (se_b (se_op op_fdivW d_div (se_v (pv 4) rfl) (se_b (se_v (pv 5) rfl))))))))) (se_b (se_v (pv 7) rfl))))) ss_nil)))))
    (ss_one (ss_ret (se_b1 (cr_sortD hu) d_sortL rfl T.m_sorted (by decide +kernel) (se_bo (pv 8) rfl))))))))
theorem ok_joined (h_round_of : Def P w K mg base "round_of" k .v [false] f_round_of) (h_turn_of : Def P w K mg base "turn_of" k .v [false, false] f_turn_of) (h_common_of : Def P w K mg base "common_of" k .v [false, false] f_common_of) (h_steps_in : Def P w K mg base "steps_in" k .v [false, false] f_steps_in) : Def P w K mg base "joined" (k + 1) .v [false, false, false] f_joined := defD (W := W_joined) T.a_joined sc_joined rfl rfl rfl (fun h => nomatch h) (walk_joined T h_round_of h_turn_of h_common_of h_steps_in) (fun h => nomatch h)
theorem walk_first_shown (h_need_minutes : Def P w K mg base "need_minutes" k .v [false, false, false] f_need_minutes) (h_joined : Def P w K mg base "joined" k .v [false, false, false] f_joined) (f : Addr) (cdv : Value) (A : Around) (outer : List PySem.Env) (s : Shared) (H : Hp) (E : XK) (hr : Room k (A.deeper (envOfC "first_shown" (defScope s_first_shown) s.heap.objs.size f cdv))) : SSs (cxOf CX0 P w K mg base N_first_shown "first_shown" (defScope s_first_shown) f cdv A outer s H E).nox W_first_shown .v (defBody s_first_shown) (b_first_shown) := by
  have nd := sc_first_shown.nd
  have hu : (cxOf CX0 P w K mg base N_first_shown "first_shown" (defScope s_first_shown) f cdv A outer s H E).nox.A.units + 66 < cLine := room66 (X := (cxOf CX0 P w K mg base N_first_shown "first_shown" (defScope s_first_shown) f cdv A outer s H E).nox) hr
  exact (ss_cons (ss_expr (se_callD h_need_minutes rfl (fun h => nomatch h) hr rfl (sa_v (se_v (pv 0) rfl) (sa_v (se_v (pv 1) rfl) (sa_v (se_v (pv 2) rfl) sa_nil))) rfl List.nodup_nil))
    (ss_cons (ss_set (i := 3) nd rfl (.inl rfl) (se_callD h_joined rfl (fun h => nomatch h) hr rfl (sa_v (se_v (pv 0) rfl) (sa_v (se_v (pv 1) rfl) (sa_v (se_v (pv 2) rfl) sa_nil))) rfl List.nodup_nil) rfl rfl)
    (ss_one (ss_ret (se_if (st_cmp (o_neP hu) d_ne (se_v (pv 3) rfl) (se_b (se_frz (se_lst sl_nil (lenIs.le lenIs_nil rfl)))) (nomark _)) (se_ix ix_seq d_ix (se_v (pv 3) rfl) se_int (fun _ _ => rfl)) se_non)))))
theorem ok_first_shown (h_need_minutes : Def P w K mg base "need_minutes" k .v [false, false, false] f_need_minutes) (h_joined : Def P w K mg base "joined" k .v [false, false, false] f_joined) : Def P w K mg base "first_shown" (k + 1) .v [false, false, false] f_first_shown := defD (W := W_first_shown) T.a_first_shown sc_first_shown rfl rfl rfl (fun h => nomatch h) (walk_first_shown T h_need_minutes h_joined) (fun h => nomatch h)
theorem walk_law_same  (fn : Fn) (h_law_same : Def P w K mg base "_law_same" k .v [false, false] fn) (f : Addr) (cdv : Value) (A : Around) (outer : List PySem.Env) (s : Shared) (H : Hp) (E : XK) (hr : Room k (A.deeper (envOfC "_law_same" (defScope s_law_same) s.heap.objs.size f cdv))) : SSs (cxOf CX0 P w K mg base N_law_same "_law_same" (defScope s_law_same) f cdv A outer s H E).nox W_law_same .v (defBody s_law_same) (b_law_same fn) := by
  have nd := sc_law_same.nd
  have hu : (cxOf CX0 P w K mg base N_law_same "_law_same" (defScope s_law_same) f cdv A outer s H E).nox.A.units + 66 < cLine := room66 (X := (cxOf CX0 P w K mg base N_law_same "_law_same" (defScope s_law_same) f cdv A outer s H E).nox) hr
  exact (ss_cons (ss_if (st_val (se_isi kit_tuple rfl T.m_isinstance rfl T.m_tuple (by decide +kernel) (se_v (pv 1) rfl))) (ss_cons (ss_if (st_w (sw_or (st_not (st_val (se_isi kit_tuple rfl T.m_isinstance rfl T.m_tuple (by decide +kernel) (se_v (pv 0) rfl)))) (sw_or1 (st_cmp (o_neP hu) d_ne (se_b1 call_len d_len rfl T.m_len (by decide +kernel) (se_b (se_v (pv 0) rfl))) (se_b (se_b1 call_len d_len rfl T.m_len (by decide +kernel) (se_b (se_v (pv 1) rfl)))) (nomark _))))) (ss_one (ss_ret se_bl)) ss_nil)
    (ss_one (ss_ret (se_b1 (cr_all rfl) d_all rfl T.m_all (by decide +kernel) (se_b (se_frz (se_lc (own := [("at", 2)]) rfl nd (si_rg1 rfl T.m_range (se_b1 call_len d_len rfl T.m_len (by decide +kernel) (se_b (se_v (pv 1) rfl)))) (blkOk_by (N := N_law_same) (sc := (defScope s_law_same)) (by decide +kernel)) rfl (by decide) (fun _ _ _ _ _ => (sg_n (i := 2) nd rfl (.inl rfl) rfl rfl)) (fun _ _ _ _ _ => sts_nil) (fun _ _ _ _ _ => (se_callD h_law_same rfl (fun h => nomatch h) hr rfl (sa_v (se_ix ix_seq d_ix (se_v (pv 0) rfl) (se_v (pv 2) rfl) (fun _ _ => rfl)) (sa_v (se_ix ix_seq d_ix (se_v (pv 1) rfl) (se_v (pv 2) rfl) (fun _ _ => rfl)) sa_nil)) rfl List.nodup_nil))))))))) ss_nil)
    (ss_cons (ss_if (st_cmp op_isN d_isN (se_v (pv 1) rfl) (se_b se_non) (nomark _)) (ss_one (ss_ret (se_cmp op_isN d_isN (se_v (pv 0) rfl) (se_b se_non) (nomark _)))) ss_nil)
    (ss_cons (ss_if (st_val (se_isi kit_bool rfl T.m_isinstance rfl T.m_bool (by decide +kernel) (se_v (pv 1) rfl))) (ss_one (ss_ret (se_if (st_val (se_v (pv 1) rfl)) (se_cmp op_isBl d_isB (se_v (pv 0) rfl) (se_b se_bl) (nomark _)) (se_cmp op_isBl d_isB (se_v (pv 0) rfl) (se_b se_bl) (nomark _))))) ss_nil)
    (ss_cons (ss_if (st_val (se_isi kit_int rfl T.m_isinstance rfl T.m_int (by decide +kernel) (se_v (pv 1) rfl))) (ss_one (ss_ret (se_and (se_isi kit_int rfl T.m_isinstance rfl T.m_int (by decide +kernel) (se_v (pv 0) rfl)) (se_and (se_not (se_isi kit_bool rfl T.m_isinstance rfl T.m_bool (by decide +kernel) (se_v (pv 0) rfl))) (se_one (se_cmp (o_eqP hu) d_eq (se_ty1 call_int1 d_int1 rfl T.m_int (by decide +kernel) (se_b (se_v (pv 0) rfl))) (se_b (se_v (pv 1) rfl)) (nomark _))))))) ss_nil)
    (ss_one (ss_ret (se_and (se_isi kit_str rfl T.m_isinstance rfl T.m_str (by decide +kernel) (se_v (pv 0) rfl)) (se_one (se_cmp (o_eqP hu) d_eq (se_ty1 call_strU d_str rfl T.m_str (by decide +kernel) (se_b (se_v (pv 0) rfl))) (se_b (se_v (pv 1) rfl)) (nomark _))))))))))
theorem ok_law_same  : ∀ n, Def P w K mg base "_law_same" (k + n) .v [false, false] (fixF r_law_same n) := by
  refine defFix T.a_law_same rfl fun j fn hj h => ?_
  exact defD (W := W_law_same) T.a_law_same sc_law_same rfl rfl rfl (fun h => nomatch h) (fun f cdv A outer s H E hr => walk_law_same T  fn h f cdv A outer s H E hr) (fun h => nomatch h)
theorem walk_law_roll  (f : Addr) (cdv : Value) (A : Around) (outer : List PySem.Env) (s : Shared) (H : Hp) (E : XK) (hr : Room k (A.deeper (envOfC "_law_roll" (defScope s_law_roll) s.heap.objs.size f cdv))) : SSs (cxOf CX0 P w K mg base N_law_roll "_law_roll" (defScope s_law_roll) f cdv A outer s H E).nox W_law_roll .v (defBody s_law_roll) (b_law_roll) := by
  have nd := sc_law_roll.nd
  have hu : (cxOf CX0 P w K mg base N_law_roll "_law_roll" (defScope s_law_roll) f cdv A outer s H E).nox.A.units + 66 < cLine := room66 (X := (cxOf CX0 P w K mg base N_law_roll "_law_roll" (defScope s_law_roll) f cdv A outer s H E).nox) hr
  exact (ss_cons (ss_if (st_cmp op_gt d_gt (se_ixo rfl ix_seq d_ix (pv 0) se_int (fun _ _ => rfl)) (se_b se_int) (nomark _)) (ss_cons (ss_set (i := 2) nd rfl (.inl rfl) (se_op op_mod d_mod (se_ty1 call_int1 d_int1 rfl T.m_int (by decide +kernel) (se_b (se_ixo rfl ix_seq d_ix (pv 0) se_int (fun _ _ => rfl)))) (se_b (se_v (pv 1) rfl))) rfl rfl)
    (ss_cons (ss_put rfl (pv 0) (se_op op_fdivW d_div (se_ixo rfl ix_seq d_ix (pv 0) se_int (fun _ _ => rfl)) (se_b (se_v (pv 1) rfl))) se_int)
    (ss_one (ss_ret (se_v (pv 2) rfl))))) ss_nil)
    (ss_cons (ss_put rfl (pv 0) (se_op op_mod d_mod (se_ty1 call_int1 d_int1 rfl T.m_int (by decide +kernel) (se_b (se_op u_add d_add (se_op u_mul d_mul (se_ixo rfl ix_seq d_ix (pv 0) se_int (fun _ _ => rfl)) (se_b se_int)) (se_b se_int)))) (se_b se_int)) se_int)
    (ss_cons (ss_set (i := 3) nd rfl (.inl rfl) (se_op op_mod d_mod (se_ty1 call_int1 d_int1 rfl T.m_int (by decide +kernel) (se_b (se_op u_mul d_mul (se_ixo rfl ix_seq d_ix (pv 0) se_int (fun _ _ => rfl)) (se_b (se_op u_add d_add (se_ixo rfl ix_seq d_ix (pv 0) se_int (fun _ _ => rfl)) (se_b se_int)))))) (se_b se_int)) rfl rfl)
    (ss_one (ss_ret (se_op op_mod d_mod (se_ty1 call_int1 d_int1 rfl T.m_int (by decide +kernel) (se_b (se_op op_fdivW d_div (se_v (pv 3) rfl) (se_b se_int)))) (se_b (se_v (pv 1) rfl))))))))
theorem ok_law_roll  : Def P w K mg base "_law_roll" (k + 1) .v [true, false] f_law_roll := defD (W := W_law_roll) T.a_law_roll sc_law_roll rfl rfl rfl (fun h => nomatch h) (walk_law_roll T ) (fun h => nomatch h)
theorem walk_common_round (h_need_clocks : Def P w K mg base "need_clocks" k .v [false, false] f_need_clocks) (h_common_of : Def P w K mg base "common_of" k .v [false, false] f_common_of) (f : Addr) (cdv : Value) (A : Around) (outer : List PySem.Env) (s : Shared) (H : Hp) (E : XK) (hr : Room k (A.deeper (envOfC "common_round" (defScope s_common_round) s.heap.objs.size f cdv))) : SSs (cxOf CX0 P w K mg base N_common_round "common_round" (defScope s_common_round) f cdv A outer s H E).nox W_common_round .v (defBody s_common_round) (b_common_round) := by
  have nd := sc_common_round.nd
  have hu : (cxOf CX0 P w K mg base N_common_round "common_round" (defScope s_common_round) f cdv A outer s H E).nox.A.units + 66 < cLine := room66 (X := (cxOf CX0 P w K mg base N_common_round "common_round" (defScope s_common_round) f cdv A outer s H E).nox) hr
  exact (ss_cons (ss_expr (se_callD h_need_clocks rfl (fun h => nomatch h) hr rfl (sa_v (se_v (pv 0) rfl) (sa_v (se_v (pv 1) rfl) sa_nil)) rfl List.nodup_nil))
    (ss_one (ss_ret (se_callD h_common_of rfl (fun h => nomatch h) hr rfl (sa_v (se_v (pv 0) rfl) (sa_v (se_v (pv 1) rfl) sa_nil)) rfl List.nodup_nil))))
theorem ok_common_round (h_need_clocks : Def P w K mg base "need_clocks" k .v [false, false] f_need_clocks) (h_common_of : Def P w K mg base "common_of" k .v [false, false] f_common_of) : Def P w K mg base "common_round" (k + 1) .v [false, false] f_common_round := defD (W := W_common_round) T.a_common_round sc_common_round rfl rfl rfl (fun h => nomatch h) (walk_common_round T h_need_clocks h_common_of) (fun h => nomatch h)
theorem walk_count_shown (h_need_minutes : Def P w K mg base "need_minutes" k .v [false, false, false] f_need_minutes) (h_joined : Def P w K mg base "joined" k .v [false, false, false] f_joined) (f : Addr) (cdv : Value) (A : Around) (outer : List PySem.Env) (s : Shared) (H : Hp) (E : XK) (hr : Room k (A.deeper (envOfC "count_shown" (defScope s_count_shown) s.heap.objs.size f cdv))) : SSs (cxOf CX0 P w K mg base N_count_shown "count_shown" (defScope s_count_shown) f cdv A outer s H E).nox W_count_shown .v (defBody s_count_shown) (b_count_shown) := by
  have nd := sc_count_shown.nd
  have hu : (cxOf CX0 P w K mg base N_count_shown "count_shown" (defScope s_count_shown) f cdv A outer s H E).nox.A.units + 66 < cLine := room66 (X := (cxOf CX0 P w K mg base N_count_shown "count_shown" (defScope s_count_shown) f cdv A outer s H E).nox) hr
  exact (ss_cons (ss_expr (se_callD h_need_minutes rfl (fun h => nomatch h) hr rfl (sa_v (se_v (pv 0) rfl) (sa_v (se_v (pv 1) rfl) (sa_v (se_v (pv 2) rfl) sa_nil))) rfl List.nodup_nil))
    (ss_one (ss_ret (se_b1 call_len d_len rfl T.m_len (by decide +kernel) (se_b (se_callD h_joined rfl (fun h => nomatch h) hr rfl (sa_v (se_v (pv 0) rfl) (sa_v (se_v (pv 1) rfl) (sa_v (se_v (pv 2) rfl) sa_nil))) rfl List.nodup_nil))))))
theorem ok_count_shown (h_need_minutes : Def P w K mg base "need_minutes" k .v [false, false, false] f_need_minutes) (h_joined : Def P w K mg base "joined" k .v [false, false, false] f_joined) : Def P w K mg base "count_shown" (k + 1) .v [false, false, false] f_count_shown := defD (W := W_count_shown) T.a_count_shown sc_count_shown rfl rfl rfl (fun h => nomatch h) (walk_count_shown T h_need_minutes h_joined) (fun h => nomatch h)
theorem walk_need_step (h_is_whole : Def P w K mg base "is_whole" k .v [false, false, false] f_is_whole) (f : Addr) (cdv : Value) (A : Around) (outer : List PySem.Env) (s : Shared) (H : Hp) (E : XK) (hr : Room k (A.deeper (envOfC "need_step" (defScope s_need_step) s.heap.objs.size f cdv))) : SSs (cxOf CX0 P w K mg base N_need_step "need_step" (defScope s_need_step) f cdv A outer s H E).nox W_need_step .v (defBody s_need_step) (b_need_step) := by
  have nd := sc_need_step.nd
  have hu : (cxOf CX0 P w K mg base N_need_step "need_step" (defScope s_need_step) f cdv A outer s H E).nox.A.units + 66 < cLine := room66 (X := (cxOf CX0 P w K mg base N_need_step "need_step" (defScope s_need_step) f cdv A outer s H E).nox) hr
  exact (ss_one (ss_if (st_not (st_val (se_callD h_is_whole rfl (fun h => nomatch h) hr rfl (sa_v (se_v (pv 0) rfl) (sa_v se_int (sa_v (se_gint rfl T.c_FAR.choose_spec) sa_nil))) rfl List.nodup_nil))) (ss_one ss_no) ss_nil))
theorem ok_need_step (h_is_whole : Def P w K mg base "is_whole" k .v [false, false, false] f_is_whole) : Def P w K mg base "need_step" (k + 1) .v [false] f_need_step := defD (W := W_need_step) T.a_need_step sc_need_step rfl rfl rfl (fun h => nomatch h) (walk_need_step T h_is_whole) (fun h => nomatch h)
theorem walk_shows (h_need_clock : Def P w K mg base "need_clock" k .v [false] f_need_clock) (h_need_step : Def P w K mg base "need_step" k .v [false] f_need_step) (h_shows_in : Def P w K mg base "shows_in" k .v [false, false] f_shows_in) (f : Addr) (cdv : Value) (A : Around) (outer : List PySem.Env) (s : Shared) (H : Hp) (E : XK) (hr : Room k (A.deeper (envOfC "shows" (defScope s_shows) s.heap.objs.size f cdv))) : SSs (cxOf CX0 P w K mg base N_shows "shows" (defScope s_shows) f cdv A outer s H E).nox W_shows .v (defBody s_shows) (b_shows) := by
  have nd := sc_shows.nd
  have hu : (cxOf CX0 P w K mg base N_shows "shows" (defScope s_shows) f cdv A outer s H E).nox.A.units + 66 < cLine := room66 (X := (cxOf CX0 P w K mg base N_shows "shows" (defScope s_shows) f cdv A outer s H E).nox) hr
  exact (ss_cons (ss_expr (se_callD h_need_clock rfl (fun h => nomatch h) hr rfl (sa_v (se_v (pv 0) rfl) sa_nil) rfl List.nodup_nil))
    (ss_cons (ss_expr (se_callD h_need_step rfl (fun h => nomatch h) hr rfl (sa_v (se_v (pv 1) rfl) sa_nil) rfl List.nodup_nil))
    (ss_one (ss_ret (se_callD h_shows_in rfl (fun h => nomatch h) hr rfl (sa_v (se_v (pv 0) rfl) (sa_v (se_v (pv 1) rfl) sa_nil)) rfl List.nodup_nil)))))
theorem ok_shows (h_need_clock : Def P w K mg base "need_clock" k .v [false] f_need_clock) (h_need_step : Def P w K mg base "need_step" k .v [false] f_need_step) (h_shows_in : Def P w K mg base "shows_in" k .v [false, false] f_shows_in) : Def P w K mg base "shows" (k + 1) .v [false, false] f_shows := defD (W := W_shows) T.a_shows sc_shows rfl rfl rfl (fun h => nomatch h) (walk_shows T h_need_clock h_need_step h_shows_in) (fun h => nomatch h)
theorem walk_alike (h_need_clocks : Def P w K mg base "need_clocks" k .v [false, false] f_need_clocks) (h_joined : Def P w K mg base "joined" k .v [false, false, false] f_joined) (f : Addr) (cdv : Value) (A : Around) (outer : List PySem.Env) (s : Shared) (H : Hp) (E : XK) (hr : Room k (A.deeper (envOfC "alike" (defScope s_alike) s.heap.objs.size f cdv))) : SSs (cxOf CX0 P w K mg base N_alike "alike" (defScope s_alike) f cdv A outer s H E).nox W_alike .v (defBody s_alike) (b_alike) := by
  have nd := sc_alike.nd
  have hu : (cxOf CX0 P w K mg base N_alike "alike" (defScope s_alike) f cdv A outer s H E).nox.A.units + 66 < cLine := room66 (X := (cxOf CX0 P w K mg base N_alike "alike" (defScope s_alike) f cdv A outer s H E).nox) hr
  exact (ss_cons (ss_expr (se_callD h_need_clocks rfl (fun h => nomatch h) hr rfl (sa_v (se_v (pv 0) rfl) (sa_v (se_v (pv 1) rfl) sa_nil)) rfl List.nodup_nil))
    (ss_cons (ss_setO (i := 2) nd rfl (.inl rfl) (se_lst sl_nil (lenIs.le lenIs_nil rfl)) rfl rfl)
    (ss_cons (ss_for PassesOwn.never rfl (si_rg1 rfl T.m_range (se_b2 (call_min2 rfl) d_min2 rfl T.m_min (by decide +kernel) (se_ix ix_seq d_ix (se_v (pv 0) rfl) se_int (fun _ _ => rfl)) (se_b (se_ix ix_seq d_ix (se_v (pv 1) rfl) se_int (fun _ _ => rfl))))) (sg_n (i := 3) nd rfl (.inl rfl) rfl rfl) (ss_one (ss_ext nd rfl (.inl rfl) rfl (se_callD h_joined rfl (fun h => nomatch h) hr rfl (sa_v (se_v (pv 0) rfl) (sa_v (se_v (pv 1) rfl) (sa_v (se_tup (sl_cons (se_v (pv 3) rfl) (sl_cons (se_v (pv 3) rfl) sl_nil)) (lenIs.le (lenIs_cons (lenIs_cons lenIs_nil)) rfl)) sa_nil))) rfl List.nodup_nil))))
    (ss_one (ss_ret (se_if (st_cmpo rfl (o_neP hu) d_ne (pv 2) (se_b (se_frz (se_lst sl_nil (lenIs.le lenIs_nil rfl)))) (nomark _)) (se_tup (sl_cons (se_b1 (cr_minP rfl hu) d_minL rfl T.m_min (by decide +kernel) (se_bo (pv 2) rfl)) (sl_cons (se_b1 call_len d_len rfl T.m_len (by decide +kernel) (se_bo (pv 2) rfl)) sl_nil)) (lenIs.le (lenIs_cons (lenIs_cons lenIs_nil)) rfl)) (se_tup (sl_cons se_non (sl_cons se_int sl_nil)) (lenIs.le (lenIs_cons (lenIs_cons lenIs_nil)) rfl))))))))
theorem ok_alike (h_need_clocks : Def P w K mg base "need_clocks" k .v [false, false] f_need_clocks) (h_joined : Def P w K mg base "joined" k .v [false, false, false] f_joined) : Def P w K mg base "alike" (k + 1) .v [false, false] f_alike := defD (W := W_alike) T.a_alike sc_alike rfl rfl rfl (fun h => nomatch h) (walk_alike T h_need_clocks h_joined) (fun h => nomatch h)
theorem walk_law_clock (h_law_roll : Def P w K mg base "_law_roll" k .v [true, false] f_law_roll) (f : Addr) (cdv : Value) (A : Around) (outer : List PySem.Env) (s : Shared) (H : Hp) (E : XK) (hr : Room k (A.deeper (envOfC "_law_clock" (defScope s_law_clock) s.heap.objs.size f cdv))) : SSs (cxOf CX0 P w K mg base N_law_clock "_law_clock" (defScope s_law_clock) f cdv A outer s H E).nox W_law_clock .v (defBody s_law_clock) (b_law_clock) := by
  have nd := sc_law_clock.nd
  have hu : (cxOf CX0 P w K mg base N_law_clock "_law_clock" (defScope s_law_clock) f cdv A outer s H E).nox.A.units + 66 < cLine := room66 (X := (cxOf CX0 P w K mg base N_law_clock "_law_clock" (defScope s_law_clock) f cdv A outer s H E).nox) hr
  exact (ss_cons (ss_set (i := 3) nd rfl (.inl rfl) (se_op u_add d_add se_int (se_b (se_callD h_law_roll rfl (fun h => nomatch h) hr rfl (sa_o rfl (pv 0) (sa_v (se_v (pv 1) rfl) sa_nil)) rfl (nodup1 _)))) rfl rfl)
    (ss_one (ss_ret (se_tup (sl_cons (se_v (pv 3) rfl) (sl_cons (se_op u_add d_add se_int (se_b (se_callD h_law_roll rfl (fun h => nomatch h) hr rfl (sa_o rfl (pv 0) (sa_v (se_v (pv 2) rfl) sa_nil)) rfl (nodup1 _)))) (sl_cons (se_op u_add d_add se_int (se_b (se_callD h_law_roll rfl (fun h => nomatch h) hr rfl (sa_o rfl (pv 0) (sa_v (se_v (pv 2) rfl) sa_nil)) rfl (nodup1 _)))) (sl_cons (se_callD h_law_roll rfl (fun h => nomatch h) hr rfl (sa_o rfl (pv 0) (sa_v (se_v (pv 3) rfl) sa_nil)) rfl (nodup1 _)) sl_nil)))) (lenIs.le (lenIs_cons (lenIs_cons (lenIs_cons (lenIs_cons lenIs_nil)))) rfl)))))
theorem ok_law_clock (h_law_roll : Def P w K mg base "_law_roll" k .v [true, false] f_law_roll) : Def P w K mg base "_law_clock" (k + 1) .v [true, false, false] f_law_clock := defD (W := W_law_clock) T.a_law_clock sc_law_clock rfl rfl rfl (fun h => nomatch h) (walk_law_clock T h_law_roll) (fun h => nomatch h)
theorem walk_law_round  (f : Addr) (cdv : Value) (A : Around) (outer : List PySem.Env) (s : Shared) (H : Hp) (E : XK) (hr : Room k (A.deeper (envOfC "_law_round" (defScope s_law_round) s.heap.objs.size f cdv))) : SSs (cxOf CX0 P w K mg base N_law_round "_law_round" (defScope s_law_round) f cdv A outer s H E).nox W_law_round .v (defBody s_law_round) (b_law_round) := by
  have nd := sc_law_round.nd
  have hu : (cxOf CX0 P w K mg base N_law_round "_law_round" (defScope s_law_round) f cdv A outer s H E).nox.A.units + 66 < cLine := room66 (X := (cxOf CX0 P w K mg base N_law_round "_law_round" (defScope s_law_round) f cdv A outer s H E).nox) hr
  exact (ss_cons (ss_for PassesOwn.never rfl (si_rg2 rfl T.m_range se_int se_int) (sg_n (i := 1) nd rfl (.inl rfl) rfl rfl) (ss_one (ss_if (st_cmp (o_eqP hu) d_eq (se_op op_mod d_mod (se_ty1 call_int1 d_int1 rfl T.m_int (by decide +kernel) (se_b (se_op u_mul d_mul (se_v (pv 1) rfl) (se_b (se_ix ix_seq d_ix (se_v (pv 0) rfl) se_int (fun _ _ => rfl)))))) (se_b (se_op u_mul d_mul (se_ix ix_seq d_ix (se_v (pv 0) rfl) se_int (fun _ _ => rfl)) (se_b (se_ix ix_seq d_ix (se_v (pv 0) rfl) se_int (fun _ _ => rfl)))))) (se_b se_int) (nomark _)) (ss_one (ss_ret (se_v (pv 1) rfl))) ss_nil)))
    (ss_one (ss_ret se_int)))
theorem ok_law_round  : Def P w K mg base "_law_round" (k + 1) .v [false] f_law_round := defD (W := W_law_round) T.a_law_round sc_law_round rfl rfl rfl (fun h => nomatch h) (walk_law_round T ) (fun h => nomatch h)
theorem walk_law_shown  (f : Addr) (cdv : Value) (A : Around) (outer : List PySem.Env) (s : Shared) (H : Hp) (E : XK) (hr : Room k (A.deeper (envOfC "_law_shown" (defScope s_law_shown) s.heap.objs.size f cdv))) : SSs (cxOf CX0 P w K mg base N_law_shown "_law_shown" (defScope s_law_shown) f cdv A outer s H E).nox W_law_shown .v (defBody s_law_shown) (b_law_shown) := by
  have nd := sc_law_shown.nd
  have hu : (cxOf CX0 P w K mg base N_law_shown "_law_shown" (defScope s_law_shown) f cdv A outer s H E).nox.A.units + 66 < cLine := room66 (X := (cxOf CX0 P w K mg base N_law_shown "_law_shown" (defScope s_law_shown) f cdv A outer s H E).nox) hr
  exact (ss_cons (ss_par3 (i := 2) (j := 3) (l := 4) rfl nd rfl rfl rfl (by decide) (by decide) (by decide) rfl rfl rfl (sk_o (se_lst sl_nil (lenIs.le lenIs_nil rfl)) (sk_v (se_ix ix_seq d_ix (se_v (pv 0) rfl) se_int (fun _ _ => rfl)) (sk_v se_int sk_nil))) rfl)
    (ss_cons (ss_for PassesOwn.never rfl (si_rg1 rfl T.m_range (se_v (pv 1) rfl)) (sg_n (i := 5) nd rfl (.inl rfl) rfl rfl) (ss_cons (ss_app rfl (pv 2) (se_v (pv 3) rfl))
    (ss_cons (ss_set (i := 4) nd rfl (.inl rfl) (se_op u_add d_add (se_v (pv 4) rfl) (se_b (se_ix ix_seq d_ix (se_v (pv 0) rfl) se_int (fun _ _ => rfl)))) rfl rfl)
    (ss_one (ss_while PassesOwn.never (st_cmp op_ge d_ge (se_v (pv 4) rfl) (se_b (se_ix ix_seq d_ix (se_v (pv 0) rfl) se_int (fun _ _ => rfl))) (nomark _)) (ss_one (ss_par2 (i := 4) (j := 3) rfl nd rfl rfl (by decide) rfl rfl (sk_v (se_op op_sub d_sub (se_v (pv 4) rfl) (se_b (se_ix ix_seq d_ix (se_v (pv 0) rfl) se_int (fun _ _ => rfl)))) (sk_v (se_if (st_cmp (u_lt hu) d_lt (se_op u_add d_add (se_v (pv 3) rfl) (se_b se_int)) (se_b (se_ix ix_seq d_ix (se_v (pv 0) rfl) se_int (fun _ _ => rfl))) (nomark _)) (se_op u_add d_add (se_v (pv 3) rfl) (se_b se_int)) se_int) sk_nil)) rfl)))))))
    (ss_one (ss_ret (se_frz (se_mv (pv 2) rfl))))))
theorem ok_law_shown  : Def P w K mg base "_law_shown" (k + 1) .v [false, false] f_law_shown := defD (W := W_law_shown) T.a_law_shown sc_law_shown rfl rfl rfl (fun h => nomatch h) (walk_law_shown T ) (fun h => nomatch h)
theorem walk_law_some (h_law_roll : Def P w K mg base "_law_roll" k .v [true, false] f_law_roll) (f : Addr) (cdv : Value) (A : Around) (outer : List PySem.Env) (s : Shared) (H : Hp) (E : XK) (hr : Room k (A.deeper (envOfC "_law_some" (defScope s_law_some) s.heap.objs.size f cdv))) : SSs (cxOf CX0 P w K mg base N_law_some "_law_some" (defScope s_law_some) f cdv A outer s H E).nox W_law_some .v (defBody s_law_some) (b_law_some) := by
  have nd := sc_law_some.nd
  have hu : (cxOf CX0 P w K mg base N_law_some "_law_some" (defScope s_law_some) f cdv A outer s H E).nox.A.units + 66 < cLine := room66 (X := (cxOf CX0 P w K mg base N_law_some "_law_some" (defScope s_law_some) f cdv A outer s H E).nox) hr
  exact (ss_one (ss_ret (se_ix ix_seq d_ix (se_v (pv 1) rfl) (se_callD h_law_roll rfl (fun h => nomatch h) hr rfl (sa_o rfl (pv 0) (sa_v (se_b1 call_len d_len rfl T.m_len (by decide +kernel) (se_b (se_v (pv 1) rfl))) sa_nil)) rfl (nodup1 _)) (fun _ _ => rfl))))
theorem ok_law_some (h_law_roll : Def P w K mg base "_law_roll" k .v [true, false] f_law_roll) : Def P w K mg base "_law_some" (k + 1) .v [true, false] f_law_some := defD (W := W_law_some) T.a_law_some sc_law_some rfl rfl rfl (fun h => nomatch h) (walk_law_some T h_law_roll) (fun h => nomatch h)
theorem walk_next_shown (h_need_minutes : Def P w K mg base "need_minutes" k .v [false, false, false] f_need_minutes) (h_need_step : Def P w K mg base "need_step" k .v [false] f_need_step) (h_common_of : Def P w K mg base "common_of" k .v [false, false] f_common_of) (h_joined : Def P w K mg base "joined" k .v [false, false, false] f_joined) (f : Addr) (cdv : Value) (A : Around) (outer : List PySem.Env) (s : Shared) (H : Hp) (E : XK) (hr : Room k (A.deeper (envOfC "next_shown" (defScope s_next_shown) s.heap.objs.size f cdv))) : SSs (cxOf CX0 P w K mg base N_next_shown "next_shown" (defScope s_next_shown) f cdv A outer s H E).nox W_next_shown .v (defBody s_next_shown) (b_next_shown) := by
  have nd := sc_next_shown.nd
  have hu : (cxOf CX0 P w K mg base N_next_shown "next_shown" (defScope s_next_shown) f cdv A outer s H E).nox.A.units + 66 < cLine := room66 (X := (cxOf CX0 P w K mg base N_next_shown "next_shown" (defScope s_next_shown) f cdv A outer s H E).nox) hr
  exact (ss_cons (ss_expr (se_callD h_need_minutes rfl (fun h => nomatch h) hr rfl (sa_v (se_v (pv 0) rfl) (sa_v (se_v (pv 1) rfl) (sa_v (se_v (pv 2) rfl) sa_nil))) rfl List.nodup_nil))
    (ss_cons (ss_expr (se_callD h_need_step rfl (fun h => nomatch h) hr rfl (sa_v (se_v (pv 3) rfl) sa_nil) rfl List.nodup_nil))
    (ss_cons (ss_set (i := 4) nd rfl (.inr rfl) (se_callD h_common_of rfl (fun h => nomatch h) hr rfl (sa_v (se_v (pv 0) rfl) (sa_v (se_v (pv 1) rfl) sa_nil)) rfl List.nodup_nil) rfl rfl)
    (ss_cons (ss_lc (own := [("own", 6)]) (i := 5) rfl nd rfl rfl (sw_true rfl rfl rfl (by decide +kernel)) (si_it (se_callD h_joined rfl (fun h => nomatch h) hr rfl (sa_v (se_v (pv 0) rfl) (sa_v (se_v (pv 1) rfl) (sa_v (se_v (pv 2) rfl) sa_nil))) rfl List.nodup_nil)) (blkOk_by (N := N_next_shown) (sc := (defScope s_next_shown)) (by decide +kernel)) rfl (by decide) (fun _ _ _ _ _ => (sg_n (i := 6) nd rfl (.inl rfl) rfl rfl)) (fun _ _ _ _ _ => sts_nil) (fun _ _ _ _ _ => (se_op u_add d_add (se_v (pv 3) rfl) (se_b (se_op op_mod d_mod (se_op op_sub d_sub (se_v (pv 6) rfl) (se_b (se_v (pv 3) rfl))) (se_b (se_v (pv 4) rfl)))))) rfl rfl)
    (ss_one (ss_ret (se_if (st_cmp (o_neP hu) d_ne (se_v (pv 5) rfl) (se_b (se_frz (se_lst sl_nil (lenIs.le lenIs_nil rfl)))) (nomark _)) (se_b1 (cr_minP rfl hu) d_minL rfl T.m_min (by decide +kernel) (se_b (se_v (pv 5) rfl))) se_non)))))))
theorem ok_next_shown (h_need_minutes : Def P w K mg base "need_minutes" k .v [false, false, false] f_need_minutes) (h_need_step : Def P w K mg base "need_step" k .v [false] f_need_step) (h_common_of : Def P w K mg base "common_of" k .v [false, false] f_common_of) (h_joined : Def P w K mg base "joined" k .v [false, false, false] f_joined) : Def P w K mg base "next_shown" (k + 1) .v [false, false, false, false] f_next_shown := defD (W := W_next_shown) T.a_next_shown sc_next_shown rfl rfl rfl (fun h => nomatch h) (walk_next_shown T h_need_minutes h_need_step h_common_of h_joined) (fun h => nomatch h)
theorem walk_law_right (h_law_clock : Def P w K mg base "_law_clock" k .v [true, false, false] f_law_clock) (h_law_round : Def P w K mg base "_law_round" k .v [false] f_law_round) (h_law_shown : Def P w K mg base "_law_shown" k .v [false, false] f_law_shown) (h_law_same : Def P w K mg base "_law_same" k .v [false, false] f_law_same) (h_common_round : Def P w K mg base "common_round" k .v [false, false] f_common_round) (h_alike : Def P w K mg base "alike" k .v [false, false] f_alike) (h_law_roll : Def P w K mg base "_law_roll" k .v [true, false] f_law_roll) (h_law_some : Def P w K mg base "_law_some" k .v [true, false] f_law_some) (h_first_shown : Def P w K mg base "first_shown" k .v [false, false, false] f_first_shown) (h_count_shown : Def P w K mg base "count_shown" k .v [false, false, false] f_count_shown) (h_next_shown : Def P w K mg base "next_shown" k .v [false, false, false, false] f_next_shown) (h_shows : Def P w K mg base "shows" k .v [false, false] f_shows) (f : Addr) (cdv : Value) (A : Around) (outer : List PySem.Env) (s : Shared) (H : Hp) (E : XK) (hr : Room k (A.deeper (envOfC "_law_right" (defScope s_law_right) s.heap.objs.size f cdv))) : SSs (cxOf CX0 P w K mg base N_law_right "_law_right" (defScope s_law_right) f cdv A outer s H E).nox W_law_right .v (defBody s_law_right) (b_law_right) := by
  have nd := sc_law_right.nd
  have hu : (cxOf CX0 P w K mg base N_law_right "_law_right" (defScope s_law_right) f cdv A outer s H E).nox.A.units + 66 < cLine := room66 (X := (cxOf CX0 P w K mg base N_law_right "_law_right" (defScope s_law_right) f cdv A outer s H E).nox) hr
  exact (ss_cons (ss_par2 (i := 1) (j := 2) rfl nd rfl rfl (by decide) rfl rfl (sk_v (se_callD h_law_clock rfl (fun h => nomatch h) hr rfl (sa_o rfl (pv 0) (sa_v se_int (sa_v se_int sa_nil))) rfl (nodup1 _)) (sk_v (se_callD h_law_clock rfl (fun h => nomatch h) hr rfl (sa_o rfl (pv 0) (sa_v se_int (sa_v se_int sa_nil))) rfl (nodup1 _)) sk_nil)) rfl)
    (ss_cons (ss_par2 (i := 3) (j := 4) rfl nd rfl rfl (by decide) rfl rfl (sk_v (se_callD h_law_round rfl (fun h => nomatch h) hr rfl (sa_v (se_v (pv 1) rfl) sa_nil) rfl List.nodup_nil) (sk_v (se_callD h_law_round rfl (fun h => nomatch h) hr rfl (sa_v (se_v (pv 2) rfl) sa_nil) rfl List.nodup_nil) sk_nil)) rfl)
    (ss_cons (ss_set (i := 5) nd rfl (.inl rfl) (se_v (pv 3) rfl) rfl rfl)
    (ss_cons (ss_while PassesOwn.never (st_cmp (o_neP hu) d_ne (se_op op_mod d_mod (se_ty1 call_int1 d_int1 rfl T.m_int (by decide +kernel) (se_b (se_v (pv 5) rfl))) (se_b (se_v (pv 4) rfl))) (se_b se_int) (nomark _)) (ss_one (ss_set (i := 5) nd rfl (.inl rfl) (se_op u_add d_add (se_v (pv 5) rfl) (se_b (se_v (pv 3) rfl))) rfl rfl)))
    (ss_cons (ss_parT (is := [6, 7]) rfl (sk_v (se_callD h_law_shown rfl (fun h => nomatch h) hr rfl (sa_v (se_v (pv 1) rfl) (sa_v (se_v (pv 5) rfl) sa_nil)) rfl List.nodup_nil) (sk_v (se_callD h_law_shown rfl (fun h => nomatch h) hr rfl (sa_v (se_v (pv 2) rfl) (sa_v (se_v (pv 5) rfl) sa_nil)) rfl List.nodup_nil) sk_nil)) (pgs_cons (pg_name (i := 6) nd rfl (.inr rfl)) (pgs_cons (pg_name (i := 7) nd rfl (.inr rfl)) pgs_nil)) rfl rfl)
    (ss_cons (ss_if (st_not (st_val (se_callD h_law_same rfl (fun h => nomatch h) hr rfl (sa_v (se_tup (sl_cons (se_callD h_common_round rfl (fun h => nomatch h) hr rfl (sa_v (se_v (pv 1) rfl) (sa_v (se_v (pv 2) rfl) sa_nil)) rfl List.nodup_nil) (sl_cons (se_callD h_common_round rfl (fun h => nomatch h) hr rfl (sa_v (se_v (pv 2) rfl) (sa_v (se_v (pv 1) rfl) sa_nil)) rfl List.nodup_nil) sl_nil)) (lenIs.le (lenIs_cons (lenIs_cons lenIs_nil)) rfl)) (sa_v (se_tup (sl_cons (se_v (pv 5) rfl) (sl_cons (se_v (pv 5) rfl) sl_nil)) (lenIs.le (lenIs_cons (lenIs_cons lenIs_nil)) rfl)) sa_nil)) rfl List.nodup_nil))) (ss_one (ss_ret se_bl)) ss_nil)
    (ss_cons (ss_lc (own := [("step", 14)]) (i := 8) rfl nd rfl rfl (sw_true rfl rfl rfl (by decide +kernel)) (si_rg1 rfl T.m_range (se_v (pv 5) rfl)) (blkOk_by (N := N_law_right) (sc := (defScope s_law_right)) (by decide +kernel)) rfl (by decide) (fun _ _ _ _ _ => (sg_n (i := 14) nd rfl (.inl rfl) rfl rfl)) (fun _ _ _ _ _ => (sts_one (st_cmp (o_eqP hu) d_eq (se_ix ix_seq d_ix (se_v (pv 6) rfl) (se_v (pv 14) rfl) (fun _ _ => rfl)) (se_b (se_ix ix_seq d_ix (se_v (pv 7) rfl) (se_v (pv 14) rfl) (fun _ _ => rfl))) (nomark _)))) (fun _ _ _ _ _ => (se_v (pv 14) rfl)) rfl rfl)
    (ss_cons (ss_if (st_not (st_val (se_callD h_law_same rfl (fun h => nomatch h) hr rfl (sa_v (se_callD h_alike rfl (fun h => nomatch h) hr rfl (sa_v (se_v (pv 1) rfl) (sa_v (se_v (pv 2) rfl) sa_nil)) rfl List.nodup_nil) (sa_v (se_tup (sl_cons (se_if (st_cmp (o_neP hu) d_ne (se_v (pv 8) rfl) (se_b (se_frz (se_lst sl_nil (lenIs.le lenIs_nil rfl)))) (nomark _)) (se_ix ix_seq d_ix (se_v (pv 8) rfl) se_int (fun _ _ => rfl)) se_non) (sl_cons (se_b1 call_len d_len rfl T.m_len (by decide +kernel) (se_b (se_v (pv 8) rfl))) sl_nil)) (lenIs.le (lenIs_cons (lenIs_cons lenIs_nil)) rfl)) sa_nil)) rfl List.nodup_nil))) (ss_one (ss_ret se_bl)) ss_nil)
    (ss_cons (ss_for PassesOwn.never rfl (si_rg1 rfl T.m_range se_int) (sg_n (i := 9) nd rfl (.inl rfl) rfl rfl) (ss_cons (ss_set (i := 10) nd rfl (.inl rfl) (se_callD h_law_roll rfl (fun h => nomatch h) hr rfl (sa_o rfl (pv 0) (sa_v (se_v (pv 5) rfl) sa_nil)) rfl (nodup1 _)) rfl rfl)
    (ss_cons (ss_set (i := 11) nd rfl (.inr rfl) (se_callD h_law_some rfl (fun h => nomatch h) hr rfl (sa_o rfl (pv 0) (sa_v (se_frz (se_lst (sl_cons (se_tup (sl_cons (se_ix ix_seq d_ix (se_v (pv 6) rfl) (se_v (pv 10) rfl) (fun _ _ => rfl)) (sl_cons (se_ix ix_seq d_ix (se_v (pv 7) rfl) (se_v (pv 10) rfl) (fun _ _ => rfl)) sl_nil)) (lenIs.le (lenIs_cons (lenIs_cons lenIs_nil)) rfl)) (sl_cons (se_tup (sl_cons (se_callD h_law_roll rfl (fun h => nomatch h) hr rfl (sa_o rfl (pv 0) (sa_v (se_ix ix_seq d_ix (se_v (pv 1) rfl) se_int (fun _ _ => rfl)) sa_nil)) rfl (nodup1 _)) (sl_cons (se_callD h_law_roll rfl (fun h => nomatch h) hr rfl (sa_o rfl (pv 0) (sa_v (se_ix ix_seq d_ix (se_v (pv 2) rfl) se_int (fun _ _ => rfl)) sa_nil)) rfl (nodup1 _)) sl_nil)) (lenIs.le (lenIs_cons (lenIs_cons lenIs_nil)) rfl)) sl_nil)) (lenIs.le (lenIs_cons (lenIs_cons lenIs_nil)) rfl))) sa_nil)) rfl (nodup1 _)) rfl rfl)
    (ss_cons (ss_lc (own := [("step", 14)]) (i := 12) rfl nd rfl rfl (sw_true rfl rfl rfl (by decide +kernel)) (si_rg1 rfl T.m_range (se_v (pv 5) rfl)) (blkOk_by (N := N_law_right) (sc := (defScope s_law_right)) (by decide +kernel)) rfl (by decide) (fun _ _ _ _ _ => (sg_n (i := 14) nd rfl (.inl rfl) rfl rfl)) (fun _ _ _ _ _ => (sts_one (st_cmp (o_eqP hu) d_eq (se_tup (sl_cons (se_ix ix_seq d_ix (se_v (pv 6) rfl) (se_v (pv 14) rfl) (fun _ _ => rfl)) (sl_cons (se_ix ix_seq d_ix (se_v (pv 7) rfl) (se_v (pv 14) rfl) (fun _ _ => rfl)) sl_nil)) (lenIs.le (lenIs_cons (lenIs_cons lenIs_nil)) rfl)) (se_b (se_v (pv 11) rfl)) (nomark _)))) (fun _ _ _ _ _ => (se_v (pv 14) rfl)) rfl rfl)
    (ss_cons (ss_set (i := 13) nd rfl (.inl rfl) (se_tup (sl_cons (se_callD h_first_shown rfl (fun h => nomatch h) hr rfl (sa_v (se_v (pv 1) rfl) (sa_v (se_v (pv 2) rfl) (sa_v (se_v (pv 11) rfl) sa_nil))) rfl List.nodup_nil) (sl_cons (se_callD h_count_shown rfl (fun h => nomatch h) hr rfl (sa_v (se_v (pv 1) rfl) (sa_v (se_v (pv 2) rfl) (sa_v (se_v (pv 11) rfl) sa_nil))) rfl List.nodup_nil) (sl_cons (se_callD h_first_shown rfl (fun h => nomatch h) hr rfl (sa_v (se_v (pv 2) rfl) (sa_v (se_v (pv 1) rfl) (sa_v (se_rev (se_v (pv 11) rfl)) sa_nil))) rfl List.nodup_nil) sl_nil))) (lenIs.le (lenIs_cons (lenIs_cons (lenIs_cons lenIs_nil))) rfl)) rfl rfl)
    (ss_cons (ss_if (st_not (st_val (se_callD h_law_same rfl (fun h => nomatch h) hr rfl (sa_v (se_v (pv 13) rfl) (sa_v (se_tup (sl_cons (se_if (st_cmp (o_neP hu) d_ne (se_v (pv 12) rfl) (se_b (se_frz (se_lst sl_nil (lenIs.le lenIs_nil rfl)))) (nomark _)) (se_ix ix_seq d_ix (se_v (pv 12) rfl) se_int (fun _ _ => rfl)) se_non) (sl_cons (se_b1 call_len d_len rfl T.m_len (by decide +kernel) (se_b (se_v (pv 12) rfl))) (sl_cons (se_if (st_cmp (o_neP hu) d_ne (se_v (pv 12) rfl) (se_b (se_frz (se_lst sl_nil (lenIs.le lenIs_nil rfl)))) (nomark _)) (se_ix ix_seq d_ix (se_v (pv 12) rfl) se_int (fun _ _ => rfl)) se_non) sl_nil))) (lenIs.le (lenIs_cons (lenIs_cons (lenIs_cons lenIs_nil))) rfl)) sa_nil)) rfl List.nodup_nil))) (ss_one (ss_ret se_bl)) ss_nil)
    (ss_cons (ss_set (i := 14) nd rfl (.inl rfl) (se_callD h_law_some rfl (fun h => nomatch h) hr rfl (sa_o rfl (pv 0) (sa_v (se_frz (se_lst (sl_cons (se_v (pv 10) rfl) (sl_cons (se_callD h_law_roll rfl (fun h => nomatch h) hr rfl (sa_o rfl (pv 0) (sa_v (se_op op_pow d_pow se_int (se_b se_int)) sa_nil)) rfl (nodup1 _)) (sl_cons (se_op op_pow d_pow se_int (se_b se_int)) sl_nil))) (lenIs.le (lenIs_cons (lenIs_cons (lenIs_cons lenIs_nil))) rfl))) sa_nil)) rfl (nodup1 _)) rfl rfl)
    (ss_cons (ss_set (i := 15) nd rfl (.inl rfl) se_non rfl rfl)
    (ss_cons (ss_if (st_cmp (o_neP hu) d_ne (se_v (pv 12) rfl) (se_b (se_frz (se_lst sl_nil (lenIs.le lenIs_nil rfl)))) (nomark _)) (ss_cons (ss_parT (is := [16, 17]) rfl (sk_v (se_op op_sub d_sub (se_v (pv 14) rfl) (se_b (se_op op_mod d_mod (se_ty1 call_int1 d_int1 rfl T.m_int (by decide +kernel) (se_b (se_v (pv 14) rfl))) (se_b (se_v (pv 5) rfl))))) (sk_v (se_op op_mod d_mod (se_ty1 call_int1 d_int1 rfl T.m_int (by decide +kernel) (se_b (se_v (pv 14) rfl))) (se_b (se_v (pv 5) rfl))) sk_nil)) (pgs_cons (pg_name (i := 16) nd rfl (.inr rfl)) (pgs_cons (pg_name (i := 17) nd rfl (.inr rfl)) pgs_nil)) rfl rfl)
    (ss_one (ss_set (i := 15) nd rfl (.inl rfl) (se_b1 (cr_minP rfl hu) d_minL rfl T.m_min (by decide +kernel) (se_b (se_op u_add d_add (se_frz (se_lc (own := [("far", 18)]) rfl nd (si_it (se_v (pv 12) rfl)) (blkOk_by (N := N_law_right) (sc := (defScope s_law_right)) (by decide +kernel)) rfl (by decide) (fun _ _ _ _ _ => (sg_n (i := 18) nd rfl (.inl rfl) rfl rfl)) (fun _ _ _ _ _ => (sts_one (st_cmp op_ge d_ge (se_v (pv 18) rfl) (se_b (se_v (pv 17) rfl)) (nomark _)))) (fun _ _ _ _ _ => (se_op u_add d_add (se_v (pv 16) rfl) (se_b (se_v (pv 18) rfl)))))) (se_b (se_frz (se_lst (sl_cons (se_op u_add d_add (se_op u_add d_add (se_v (pv 16) rfl) (se_b (se_v (pv 5) rfl))) (se_b (se_ix ix_seq d_ix (se_v (pv 12) rfl) se_int (fun _ _ => rfl)))) sl_nil) (lenIs.le (lenIs_cons lenIs_nil) rfl))))))) rfl rfl))) ss_nil)
    (ss_cons (ss_if (st_not (st_val (se_callD h_law_same rfl (fun h => nomatch h) hr rfl (sa_v (se_callD h_next_shown rfl (fun h => nomatch h) hr rfl (sa_v (se_v (pv 1) rfl) (sa_v (se_v (pv 2) rfl) (sa_v (se_v (pv 11) rfl) (sa_v (se_v (pv 14) rfl) sa_nil)))) rfl List.nodup_nil) (sa_v (se_v (pv 15) rfl) sa_nil)) rfl List.nodup_nil))) (ss_one (ss_ret se_bl)) ss_nil)
    (ss_one (ss_if (st_w (sw_and (st_cmp op_notN d_isnN (se_v (pv 15) rfl) (se_b se_non) (nomark _)) (sw_and (st_cmp op_le d_le (se_v (pv 15) rfl) (se_b (se_op op_pow d_pow se_int (se_b se_int))) (nomark _)) (sw_and1 (st_cmp (o_neP hu) d_ne (se_tup (sl_cons (se_callD h_shows rfl (fun h => nomatch h) hr rfl (sa_v (se_v (pv 1) rfl) (sa_v (se_v (pv 15) rfl) sa_nil)) rfl List.nodup_nil) (sl_cons (se_callD h_shows rfl (fun h => nomatch h) hr rfl (sa_v (se_v (pv 2) rfl) (sa_v (se_v (pv 15) rfl) sa_nil)) rfl List.nodup_nil) sl_nil)) (lenIs.le (lenIs_cons (lenIs_cons lenIs_nil)) rfl)) (se_b (se_v (pv 11) rfl)) (nomark _)))))) (ss_one (ss_ret se_bl)) ss_nil))))))))))))
    (ss_one (ss_ret se_bl)))))))))))
theorem ok_law_right (h_law_clock : Def P w K mg base "_law_clock" k .v [true, false, false] f_law_clock) (h_law_round : Def P w K mg base "_law_round" k .v [false] f_law_round) (h_law_shown : Def P w K mg base "_law_shown" k .v [false, false] f_law_shown) (h_law_same : Def P w K mg base "_law_same" k .v [false, false] f_law_same) (h_common_round : Def P w K mg base "common_round" k .v [false, false] f_common_round) (h_alike : Def P w K mg base "alike" k .v [false, false] f_alike) (h_law_roll : Def P w K mg base "_law_roll" k .v [true, false] f_law_roll) (h_law_some : Def P w K mg base "_law_some" k .v [true, false] f_law_some) (h_first_shown : Def P w K mg base "first_shown" k .v [false, false, false] f_first_shown) (h_count_shown : Def P w K mg base "count_shown" k .v [false, false, false] f_count_shown) (h_next_shown : Def P w K mg base "next_shown" k .v [false, false, false, false] f_next_shown) (h_shows : Def P w K mg base "shows" k .v [false, false] f_shows) : Def P w K mg base "_law_right" (k + 1) .v [true] f_law_right := defD (W := W_law_right) T.a_law_right sc_law_right rfl rfl rfl (fun h => nomatch h) (walk_law_right T h_law_clock h_law_round h_law_shown h_law_same h_common_round h_alike h_law_roll h_law_some h_first_shown h_count_shown h_next_shown h_shows) (fun h => nomatch h)
theorem walk_law (h_law_cup : Def P w K mg base "_law_cup" k .o [false] f_law_cup) (h_law_right : Def P w K mg base "_law_right" k .v [true] f_law_right) (h_law_roll : Def P w K mg base "_law_roll" k .v [true, false] f_law_roll) (h_first_shown : Def P w K mg base "first_shown" k .v [false, false, false] f_first_shown) (h_common_round : Def P w K mg base "common_round" k .v [false, false] f_common_round) (h_count_shown : Def P w K mg base "count_shown" k .v [false, false, false] f_count_shown) (h_shows : Def P w K mg base "shows" k .v [false, false] f_shows) (h_alike : Def P w K mg base "alike" k .v [false, false] f_alike) (h_law_same : Def P w K mg base "_law_same" k .v [false, false] f_law_same) (f : Addr) (cdv : Value) (A : Around) (outer : List PySem.Env) (s : Shared) (H : Hp) (E : XK) (hr : Room k (A.deeper (envOfC "law" (defScope s_law) s.heap.objs.size f cdv))) : SSs (cxOf CX0 P w K mg base N_law "law" (defScope s_law) f cdv A outer s H E).nox W_law .v (defBody s_law) b_law := by
  have nd := sc_law.nd
  have hu : (cxOf CX0 P w K mg base N_law "law" (defScope s_law) f cdv A outer s H E).nox.A.units + 66 < cLine := room66 (X := (cxOf CX0 P w K mg base N_law "law" (defScope s_law) f cdv A outer s H E).nox) hr
  exact (ss_cons (ss_setO (i := 1) nd rfl (.inl rfl) (se_callD h_law_cup rfl (fun h => nomatch h) hr rfl (sa_v (se_v (pv 0) rfl) sa_nil) rfl List.nodup_nil) rfl rfl)
    (ss_cons (ss_for PassesOwn.never rfl (si_rg1 rfl T.m_range se_int) (sg_n (i := 2) nd rfl (.inl rfl) rfl rfl) (ss_one (ss_if (st_not (st_val (se_callD h_law_right rfl (fun h => nomatch h) hr rfl (sa_o rfl (pv 1) sa_nil) rfl (nodup1 _)))) (ss_one (ss_ret se_bl)) ss_nil)))
    (ss_cons (ss_set (i := 3) nd rfl (.inl rfl) (se_op u_add d_add se_int (se_b (se_callD h_law_roll rfl (fun h => nomatch h) hr rfl (sa_o rfl (pv 1) (sa_v se_int sa_nil)) rfl (nodup1 _)))) rfl rfl)
    (ss_cons (ss_par2 (i := 4) (j := 5) rfl nd rfl rfl (by decide) rfl rfl (sk_v (se_tup (sl_cons (se_v (pv 3) rfl) (sl_cons se_int (sl_cons se_int (sl_cons se_int sl_nil)))) (lenIs.le (lenIs_cons (lenIs_cons (lenIs_cons (lenIs_cons lenIs_nil)))) rfl)) (sk_v (se_tup (sl_cons (se_op u_add d_add (se_v (pv 3) rfl) (se_b se_int)) (sl_cons se_int (sl_cons se_int (sl_cons se_int sl_nil)))) (lenIs.le (lenIs_cons (lenIs_cons (lenIs_cons (lenIs_cons lenIs_nil)))) rfl)) sk_nil)) rfl)
    (ss_cons (ss_set (i := 6) nd rfl (.inl rfl) (se_tup (sl_cons (se_callD h_law_roll rfl (fun h => nomatch h) hr rfl (sa_o rfl (pv 1) (sa_v (se_v (pv 3) rfl) sa_nil)) rfl (nodup1 _)) (sl_cons (se_callD h_law_roll rfl (fun h => nomatch h) hr rfl (sa_o rfl (pv 1) (sa_v (se_op u_add d_add (se_v (pv 3) rfl) (se_b se_int)) sa_nil)) rfl (nodup1 _)) sl_nil)) (lenIs.le (lenIs_cons (lenIs_cons lenIs_nil)) rfl)) rfl rfl)
    (ss_cons (ss_set (i := 7) nd rfl (.inl rfl) (se_callD h_first_shown rfl (fun h => nomatch h) hr rfl (sa_v (se_v (pv 4) rfl) (sa_v (se_v (pv 5) rfl) (sa_v (se_v (pv 6) rfl) sa_nil))) rfl List.nodup_nil) rfl rfl)
    (ss_cons (ss_set (i := 8) nd rfl (.inl rfl) (se_tup (sl_cons (se_callD h_common_round rfl (fun h => nomatch h) hr rfl (sa_v (se_v (pv 4) rfl) (sa_v (se_v (pv 5) rfl) sa_nil)) rfl List.nodup_nil) (sl_cons (se_callD h_count_shown rfl (fun h => nomatch h) hr rfl (sa_v (se_v (pv 4) rfl) (sa_v (se_v (pv 5) rfl) (sa_v (se_v (pv 6) rfl) sa_nil))) rfl List.nodup_nil) (sl_cons (se_callD h_shows rfl (fun h => nomatch h) hr rfl (sa_v (se_v (pv 4) rfl) (sa_v (se_v (pv 7) rfl) sa_nil)) rfl List.nodup_nil) (sl_cons (se_callD h_shows rfl (fun h => nomatch h) hr rfl (sa_v (se_v (pv 5) rfl) (sa_v (se_v (pv 7) rfl) sa_nil)) rfl List.nodup_nil) (sl_cons (se_callD h_alike rfl (fun h => nomatch h) hr rfl (sa_v (se_v (pv 4) rfl) (sa_v (se_v (pv 5) rfl) sa_nil)) rfl List.nodup_nil) sl_nil))))) (lenIs.le (lenIs_cons (lenIs_cons (lenIs_cons (lenIs_cons (lenIs_cons lenIs_nil))))) rfl)) rfl rfl)
    (ss_one (ss_ret (se_callD h_law_same rfl (fun h => nomatch h) hr rfl (sa_v (se_v (pv 8) rfl) (sa_v (se_op u_add d_add (se_op u_add d_add (se_tup (sl_cons (se_op u_mul d_mul (se_v (pv 3) rfl) (se_b (se_op u_add d_add (se_v (pv 3) rfl) (se_b se_int)))) (sl_cons se_int sl_nil)) (lenIs.le (lenIs_cons (lenIs_cons lenIs_nil)) rfl)) (se_b (se_v (pv 6) rfl))) (se_b (se_tup (sl_cons (se_tup (sl_cons se_int (sl_cons (se_v (pv 3) rfl) sl_nil)) (lenIs.le (lenIs_cons (lenIs_cons lenIs_nil)) rfl)) sl_nil) (lenIs.le (lenIs_cons lenIs_nil) rfl)))) sa_nil)) rfl List.nodup_nil))))))))))
end
section
variable {P : Program} {w : World} {K : Frg} {mg : Str → Option Value} {base : Heap} (T : TopF K mg)
include T
theorem d_law_cup : Def P w K mg base "_law_cup" 1 .o [false] f_law_cup := ok_law_cup (k := 0) T 
theorem d_is_whole : Def P w K mg base "is_whole" 1 .v [false, false, false] f_is_whole := ok_is_whole (k := 0) T 
theorem d_is_tuple_of : Def P w K mg base "is_tuple_of" 1 .v [false, false, false] f_is_tuple_of := ok_is_tuple_of (k := 0) T 
theorem d_fits_clock : Def P w K mg base "fits_clock" 2 .v [false] f_fits_clock := ok_fits_clock (k := 1) T ((d_is_tuple_of T).mono rfl) ((d_is_whole T).mono rfl)
theorem d_need_clock : Def P w K mg base "need_clock" 3 .v [false] f_need_clock := ok_need_clock (k := 2) T ((d_fits_clock T).mono rfl)
theorem d_need_clocks : Def P w K mg base "need_clocks" 4 .v [false, false] f_need_clocks := ok_need_clocks (k := 3) T ((d_need_clock T).mono rfl)
theorem d_need_minutes : Def P w K mg base "need_minutes" 5 .v [false, false, false] f_need_minutes := ok_need_minutes (k := 4) T ((d_need_clocks T).mono rfl) ((d_is_tuple_of T).mono rfl) ((d_is_whole T).mono rfl)
theorem d_round_of : Def P w K mg base "round_of" 1 .v [false] f_round_of := ok_round_of (k := 0) T 
theorem d_shows_in : Def P w K mg base "shows_in" 1 .v [false, false] f_shows_in := ok_shows_in (k := 0) T 
theorem d_steps_in : Def P w K mg base "steps_in" 2 .v [false, false] f_steps_in := ok_steps_in (k := 1) T ((d_round_of T).mono rfl) ((d_shows_in T).mono rfl)
theorem d_turn_of : Def P w K mg base "turn_of" 1 .v [false, false] f_turn_of := ok_turn_of (k := 0) T 
theorem d_common_of : Def P w K mg base "common_of" 2 .v [false, false] f_common_of := ok_common_of (k := 1) T ((d_round_of T).mono rfl)
theorem d_joined : Def P w K mg base "joined" 3 .v [false, false, false] f_joined := ok_joined (k := 2) T ((d_round_of T).mono rfl) ((d_turn_of T).mono rfl) ((d_common_of T).mono rfl) ((d_steps_in T).mono rfl)
theorem d_first_shown : Def P w K mg base "first_shown" 6 .v [false, false, false] f_first_shown := ok_first_shown (k := 5) T ((d_need_minutes T).mono rfl) ((d_joined T).mono rfl)
theorem d_law_same : Def P w K mg base "_law_same" 12 .v [false, false] f_law_same := ok_law_same (k := 0) T  12
theorem d_law_roll : Def P w K mg base "_law_roll" 1 .v [true, false] f_law_roll := ok_law_roll (k := 0) T 
theorem d_common_round : Def P w K mg base "common_round" 5 .v [false, false] f_common_round := ok_common_round (k := 4) T ((d_need_clocks T).mono rfl) ((d_common_of T).mono rfl)
theorem d_count_shown : Def P w K mg base "count_shown" 6 .v [false, false, false] f_count_shown := ok_count_shown (k := 5) T ((d_need_minutes T).mono rfl) ((d_joined T).mono rfl)
theorem d_need_step : Def P w K mg base "need_step" 2 .v [false] f_need_step := ok_need_step (k := 1) T ((d_is_whole T).mono rfl)
theorem d_shows : Def P w K mg base "shows" 4 .v [false, false] f_shows := ok_shows (k := 3) T ((d_need_clock T).mono rfl) ((d_need_step T).mono rfl) ((d_shows_in T).mono rfl)
theorem d_alike : Def P w K mg base "alike" 5 .v [false, false] f_alike := ok_alike (k := 4) T ((d_need_clocks T).mono rfl) ((d_joined T).mono rfl)
theorem d_law_clock : Def P w K mg base "_law_clock" 2 .v [true, false, false] f_law_clock := ok_law_clock (k := 1) T ((d_law_roll T).mono rfl)
theorem d_law_round : Def P w K mg base "_law_round" 1 .v [false] f_law_round := ok_law_round (k := 0) T 
theorem d_law_shown : Def P w K mg base "_law_shown" 1 .v [false, false] f_law_shown := ok_law_shown (k := 0) T 
theorem d_law_some : Def P w K mg base "_law_some" 2 .v [true, false] f_law_some := ok_law_some (k := 1) T ((d_law_roll T).mono rfl)
theorem d_next_shown : Def P w K mg base "next_shown" 6 .v [false, false, false, false] f_next_shown := ok_next_shown (k := 5) T ((d_need_minutes T).mono rfl) ((d_need_step T).mono rfl) ((d_common_of T).mono rfl) ((d_joined T).mono rfl)
theorem d_law_right : Def P w K mg base "_law_right" 13 .v [true] f_law_right := ok_law_right (k := 12) T ((d_law_clock T).mono rfl) ((d_law_round T).mono rfl) ((d_law_shown T).mono rfl) ((d_law_same T).mono rfl) ((d_common_round T).mono rfl) ((d_alike T).mono rfl) ((d_law_roll T).mono rfl) ((d_law_some T).mono rfl) ((d_first_shown T).mono rfl) ((d_count_shown T).mono rfl) ((d_next_shown T).mono rfl) ((d_shows T).mono rfl)
end
/-! ### the head -/
def dOf (x : Str) (st : Stmt) : He.DefD := ⟨(x, none), x, x, defArgs st, defBody st, defScope st, [], []⟩
def fn : List He.DefD := [dOf "_law_cup" s_law_cup, dOf "is_whole" s_is_whole, dOf "is_tuple_of" s_is_tuple_of, dOf "fits_clock" s_fits_clock, dOf "need_clock" s_need_clock, dOf "need_clocks" s_need_clocks, dOf "need_minutes" s_need_minutes, dOf "round_of" s_round_of, dOf "shows_in" s_shows_in, dOf "steps_in" s_steps_in, dOf "turn_of" s_turn_of, dOf "common_of" s_common_of, dOf "joined" s_joined, dOf "first_shown" s_first_shown, dOf "_law_same" s_law_same, dOf "_law_roll" s_law_roll, dOf "common_round" s_common_round, dOf "count_shown" s_count_shown, dOf "need_step" s_need_step, dOf "shows" s_shows, dOf "alike" s_alike, dOf "_law_clock" s_law_clock, dOf "_law_round" s_law_round, dOf "_law_shown" s_law_shown, dOf "_law_some" s_law_some, dOf "next_shown" s_next_shown, dOf "_law_right" s_law_right, dOf "law" s_law]
def fa : List He.Fa := [.glo "_law_cup", .glo "is_whole", .glo "is_tuple_of", .glo "fits_clock", .glo "need_clock", .glo "need_clocks", .glo "need_minutes", .glo "round_of", .glo "shows_in", .glo "steps_in", .glo "turn_of", .glo "common_of", .glo "joined", .glo "first_shown", .glo "_law_same", .glo "_law_roll", .glo "common_round", .glo "count_shown", .glo "need_step", .glo "shows", .glo "alike", .glo "_law_clock", .glo "_law_round", .glo "_law_shown", .glo "_law_some", .glo "next_shown", .glo "_law_right", .glo "law", .free "abs", .free "all", .free "bool", .free "int", .free "isinstance", .free "len", .free "list", .free "min", .free "range", .free "sorted", .free "str", .free "tuple", .int "DIAL" 60, .int "FAR" 1000000000000, .int "RATE" 12]
def bf : List Bf := [("gcd", "math.gcd")]
def loose : List Str := (["SkyError", "InvalidNumber", "InvalidClock", "is_whole", "is_tuple_of", "DIAL", "RATE", "FAR", "fits_clock", "need_clock", "need_clocks", "need_step", "shows_in", "round_of", "steps_in", "common_of", "turn_of", "joined", "need_minutes", "shows", "common_round", "first_shown", "count_shown", "next_shown", "alike", "_law_cup", "_law_roll", "_law_some", "_law_same", "_law_clock"] : List Str) ++ (["_law_shown", "_law_round", "_law_right"] : List Str)
abbrev R : PySem.W.OpenRow := PySem.W.OpenLaw.row PySem.Challenge.rw_observatory_k58_whole_two_clocks
abbrev hk : PySem.W.Hook := hookE 4 fa fn bf
def ob (s : PySem.W.SharedT) : AlE := obsEG 4 fa fn bf (HandSHeadRun.getT s)
theorem ob_eq (s : PySem.W.SharedT) : ob s = hk.obs s.abs := obsEG_eq (HandSHeadRun.getT_eq s)
theorem topF {K : Frg} {mg : Str → Option Value} {h : Heap} (X : K.In h) (G : h.Ns mainGlobals mg) (c : SaysE fa fn bf K) : TopF K mg where
  m_abs := He.free_ok X G (c.d.fact 28 (f := .free "abs") rfl)
  m_all := He.free_ok X G (c.d.fact 29 (f := .free "all") rfl)
  m_bool := He.free_ok X G (c.d.fact 30 (f := .free "bool") rfl)
  m_int := He.free_ok X G (c.d.fact 31 (f := .free "int") rfl)
  m_isinstance := He.free_ok X G (c.d.fact 32 (f := .free "isinstance") rfl)
  m_len := He.free_ok X G (c.d.fact 33 (f := .free "len") rfl)
  m_list := He.free_ok X G (c.d.fact 34 (f := .free "list") rfl)
  m_min := He.free_ok X G (c.d.fact 35 (f := .free "min") rfl)
  m_range := He.free_ok X G (c.d.fact 36 (f := .free "range") rfl)
  m_sorted := He.free_ok X G (c.d.fact 37 (f := .free "sorted") rfl)
  m_str := He.free_ok X G (c.d.fact 38 (f := .free "str") rfl)
  m_tuple := He.free_ok X G (c.d.fact 39 (f := .free "tuple") rfl)
  c_DIAL := He.int_ok X G (c.d.fact 40 (f := .int "DIAL" 60) rfl)
  c_FAR := He.int_ok X G (c.d.fact 41 (f := .int "FAR" 1000000000000) rfl)
  c_RATE := He.int_ok X G (c.d.fact 42 (f := .int "RATE" 12) rfl)
  b_gcd := c.bf X G 0 (p := ("gcd", "math.gcd")) rfl
  a_law_cup := by
    obtain ⟨fd, F⟩ := c.d.def_ 0 (d := dOf "_law_cup" s_law_cup) rfl
    exact at_of X G rfl F (c.d.fact 0 (f := .glo "_law_cup") rfl) (fun _ _ _ _ _ _ us hl => match us, hl with | [_], _ => rfl)
  a_is_whole := by
    obtain ⟨fd, F⟩ := c.d.def_ 1 (d := dOf "is_whole" s_is_whole) rfl
    exact at_of X G rfl F (c.d.fact 1 (f := .glo "is_whole") rfl) (fun _ _ _ _ _ _ us hl => match us, hl with | [_, _, _], _ => rfl)
  a_is_tuple_of := by
    obtain ⟨fd, F⟩ := c.d.def_ 2 (d := dOf "is_tuple_of" s_is_tuple_of) rfl
    exact at_of X G rfl F (c.d.fact 2 (f := .glo "is_tuple_of") rfl) (fun _ _ _ _ _ _ us hl => match us, hl with | [_, _, _], _ => rfl)
  a_fits_clock := by
    obtain ⟨fd, F⟩ := c.d.def_ 3 (d := dOf "fits_clock" s_fits_clock) rfl
    exact at_of X G rfl F (c.d.fact 3 (f := .glo "fits_clock") rfl) (fun _ _ _ _ _ _ us hl => match us, hl with | [_], _ => rfl)
  a_need_clock := by
    obtain ⟨fd, F⟩ := c.d.def_ 4 (d := dOf "need_clock" s_need_clock) rfl
    exact at_of X G rfl F (c.d.fact 4 (f := .glo "need_clock") rfl) (fun _ _ _ _ _ _ us hl => match us, hl with | [_], _ => rfl)
  a_need_clocks := by
    obtain ⟨fd, F⟩ := c.d.def_ 5 (d := dOf "need_clocks" s_need_clocks) rfl
    exact at_of X G rfl F (c.d.fact 5 (f := .glo "need_clocks") rfl) (fun _ _ _ _ _ _ us hl => match us, hl with | [_, _], _ => rfl)
  a_need_minutes := by
    obtain ⟨fd, F⟩ := c.d.def_ 6 (d := dOf "need_minutes" s_need_minutes) rfl
    exact at_of X G rfl F (c.d.fact 6 (f := .glo "need_minutes") rfl) (fun _ _ _ _ _ _ us hl => match us, hl with | [_, _, _], _ => rfl)
  a_round_of := by
    obtain ⟨fd, F⟩ := c.d.def_ 7 (d := dOf "round_of" s_round_of) rfl
    exact at_of X G rfl F (c.d.fact 7 (f := .glo "round_of") rfl) (fun _ _ _ _ _ _ us hl => match us, hl with | [_], _ => rfl)
  a_shows_in := by
    obtain ⟨fd, F⟩ := c.d.def_ 8 (d := dOf "shows_in" s_shows_in) rfl
    exact at_of X G rfl F (c.d.fact 8 (f := .glo "shows_in") rfl) (fun _ _ _ _ _ _ us hl => match us, hl with | [_, _], _ => rfl)
  a_steps_in := by
    obtain ⟨fd, F⟩ := c.d.def_ 9 (d := dOf "steps_in" s_steps_in) rfl
    exact at_of X G rfl F (c.d.fact 9 (f := .glo "steps_in") rfl) (fun _ _ _ _ _ _ us hl => match us, hl with | [_, _], _ => rfl)
  a_turn_of := by
    obtain ⟨fd, F⟩ := c.d.def_ 10 (d := dOf "turn_of" s_turn_of) rfl
    exact at_of X G rfl F (c.d.fact 10 (f := .glo "turn_of") rfl) (fun _ _ _ _ _ _ us hl => match us, hl with | [_, _], _ => rfl)
  a_common_of := by
    obtain ⟨fd, F⟩ := c.d.def_ 11 (d := dOf "common_of" s_common_of) rfl
    exact at_of X G rfl F (c.d.fact 11 (f := .glo "common_of") rfl) (fun _ _ _ _ _ _ us hl => match us, hl with | [_, _], _ => rfl)
  a_joined := by
    obtain ⟨fd, F⟩ := c.d.def_ 12 (d := dOf "joined" s_joined) rfl
    exact at_of X G rfl F (c.d.fact 12 (f := .glo "joined") rfl) (fun _ _ _ _ _ _ us hl => match us, hl with | [_, _, _], _ => rfl)
  a_first_shown := by
    obtain ⟨fd, F⟩ := c.d.def_ 13 (d := dOf "first_shown" s_first_shown) rfl
    exact at_of X G rfl F (c.d.fact 13 (f := .glo "first_shown") rfl) (fun _ _ _ _ _ _ us hl => match us, hl with | [_, _, _], _ => rfl)
  a_law_same := by
    obtain ⟨fd, F⟩ := c.d.def_ 14 (d := dOf "_law_same" s_law_same) rfl
    exact at_of X G rfl F (c.d.fact 14 (f := .glo "_law_same") rfl) (fun _ _ _ _ _ _ us hl => match us, hl with | [_, _], _ => rfl)
  a_law_roll := by
    obtain ⟨fd, F⟩ := c.d.def_ 15 (d := dOf "_law_roll" s_law_roll) rfl
    exact at_of X G rfl F (c.d.fact 15 (f := .glo "_law_roll") rfl) (fun _ _ _ _ _ _ us hl => match us, hl with | [_, _], _ => rfl)
  a_common_round := by
    obtain ⟨fd, F⟩ := c.d.def_ 16 (d := dOf "common_round" s_common_round) rfl
    exact at_of X G rfl F (c.d.fact 16 (f := .glo "common_round") rfl) (fun _ _ _ _ _ _ us hl => match us, hl with | [_, _], _ => rfl)
  a_count_shown := by
    obtain ⟨fd, F⟩ := c.d.def_ 17 (d := dOf "count_shown" s_count_shown) rfl
    exact at_of X G rfl F (c.d.fact 17 (f := .glo "count_shown") rfl) (fun _ _ _ _ _ _ us hl => match us, hl with | [_, _, _], _ => rfl)
  a_need_step := by
    obtain ⟨fd, F⟩ := c.d.def_ 18 (d := dOf "need_step" s_need_step) rfl
    exact at_of X G rfl F (c.d.fact 18 (f := .glo "need_step") rfl) (fun _ _ _ _ _ _ us hl => match us, hl with | [_], _ => rfl)
  a_shows := by
    obtain ⟨fd, F⟩ := c.d.def_ 19 (d := dOf "shows" s_shows) rfl
    exact at_of X G rfl F (c.d.fact 19 (f := .glo "shows") rfl) (fun _ _ _ _ _ _ us hl => match us, hl with | [_, _], _ => rfl)
  a_alike := by
    obtain ⟨fd, F⟩ := c.d.def_ 20 (d := dOf "alike" s_alike) rfl
    exact at_of X G rfl F (c.d.fact 20 (f := .glo "alike") rfl) (fun _ _ _ _ _ _ us hl => match us, hl with | [_, _], _ => rfl)
  a_law_clock := by
    obtain ⟨fd, F⟩ := c.d.def_ 21 (d := dOf "_law_clock" s_law_clock) rfl
    exact at_of X G rfl F (c.d.fact 21 (f := .glo "_law_clock") rfl) (fun _ _ _ _ _ _ us hl => match us, hl with | [_, _, _], _ => rfl)
  a_law_round := by
    obtain ⟨fd, F⟩ := c.d.def_ 22 (d := dOf "_law_round" s_law_round) rfl
    exact at_of X G rfl F (c.d.fact 22 (f := .glo "_law_round") rfl) (fun _ _ _ _ _ _ us hl => match us, hl with | [_], _ => rfl)
  a_law_shown := by
    obtain ⟨fd, F⟩ := c.d.def_ 23 (d := dOf "_law_shown" s_law_shown) rfl
    exact at_of X G rfl F (c.d.fact 23 (f := .glo "_law_shown") rfl) (fun _ _ _ _ _ _ us hl => match us, hl with | [_, _], _ => rfl)
  a_law_some := by
    obtain ⟨fd, F⟩ := c.d.def_ 24 (d := dOf "_law_some" s_law_some) rfl
    exact at_of X G rfl F (c.d.fact 24 (f := .glo "_law_some") rfl) (fun _ _ _ _ _ _ us hl => match us, hl with | [_, _], _ => rfl)
  a_next_shown := by
    obtain ⟨fd, F⟩ := c.d.def_ 25 (d := dOf "next_shown" s_next_shown) rfl
    exact at_of X G rfl F (c.d.fact 25 (f := .glo "next_shown") rfl) (fun _ _ _ _ _ _ us hl => match us, hl with | [_, _, _, _], _ => rfl)
  a_law_right := by
    obtain ⟨fd, F⟩ := c.d.def_ 26 (d := dOf "_law_right" s_law_right) rfl
    exact at_of X G rfl F (c.d.fact 26 (f := .glo "_law_right") rfl) (fun _ _ _ _ _ _ us hl => match us, hl with | [_], _ => rfl)
  a_law := by
    obtain ⟨fd, F⟩ := c.d.def_ 27 (d := dOf "law" s_law) rfl
    exact at_of X G rfl F (c.d.fact 27 (f := .glo "law") rfl) (fun _ _ _ _ _ _ us hl => match us, hl with | [_], _ => rfl)
theorem run (w : World) : HandSHeadRun.RunEqI R (PySem.W.view R.prog [0, 38]) hk ob 6000 loose w := by
  unfold HandSHeadRun.RunEqI
  kernel_rfl
theorem facts {w : World} {K : Frg} {h : Heap} {mg : Str → Option Value} {fa' : Addr} (X : K.In h) (G : h.Ns mainGlobals mg) (hfa : mg "law" = some (.ref fa')) (c : SaysE fa fn bf K)
    (hl : ∀ ns : List Int, ns.length ≤ 63 → ∃ outs, f_law [scr (ns.map PyData.int)] = .ok (.bool true, outs)) :
    ∃ (K : Frg) (fd : FuncData) (sp : Sp), K.In h ∧ (∀ (s : Shared) (u : Value), BindsTo s fd ⟨[u], []⟩ [("script", u)]) ∧ (∀ (H : Hp) (a : Addr) (ns : List Int), ns.length ≤ 63 → Only H → SqL K H a (ns.map V.int) → sp [.ref a] H (fun v _ => v = .bl true) fun _ _ _ => False) ∧
      ∀ base : Heap, K.In base → base.Ns mainGlobals mg → FnOk (PySem.Challenge.rw_observatory_k58_whole_two_clocks).prog w K mg base CX0 14 fa' fd ["script"] sp := by
  have T := topF X G c
  exact law_end (W := W_law) (k := 13) X T.a_law hfa sc_law rfl rfl (fun base => walk_law (k := 13) T ((d_law_cup T).mono rfl) ((d_law_right T).mono rfl) ((d_law_roll T).mono rfl) ((d_first_shown T).mono rfl) ((d_common_round T).mono rfl) ((d_count_shown T).mono rfl) ((d_shows T).mono rfl) ((d_alike T).mono rfl) ((d_law_same T).mono rfl)) hl
end GW
open PySem PySem.W PySem.Calls PyProof.Rows
theorem law_holds_of (hl : ∀ ns : List Int, ns.length ≤ 63 → ∃ outs, GP.f_law [PD.scr (ns.map PyData.int)] = .ok (.bool true, outs)) : PySem.Challenge.rw_observatory_k58_whole_two_clocks.Holds := by
  w_on; o_law
  refine HandSHeadRun.head_imp (r := OpenLaw.row PySem.Challenge.rw_observatory_k58_whole_two_clocks) (q := view (OpenLaw.row PySem.Challenge.rw_observatory_k58_whole_two_clocks).prog [0, 38]) (H := GW.hk) (ob := GW.ob) (M := 6000) (loose := GW.loose) (d := HandSHeadRun.topDef (OpenLaw.row PySem.Challenge.rw_observatory_k58_whole_two_clocks).prog 38) (kwd := []) GW.ob_eq
     GW.run (by kernel_rfl) (by kernel_rfl) (by kernel_rfl) (by rfl) (by first | assumption | decide +kernel) (by decide +kernel) ⟨rfl, rfl, rfl, rfl, rfl, by decide +kernel⟩ ?hw ?hc
  case hw => w_witness2
  case hc =>
    refine L2.walk_ofE (l := PySem.Challenge.rw_observatory_k58_whole_two_clocks) (n := 63) (k := 14) (x := "script") (CX := L2.CX0) rfl (by decide) (by kernel_rfl) ⟨rfl, by decide, by decide⟩ ?F (fun _ _ _ _ z => z)
    intro w mg fa h Y G hmg0
    obtain ⟨K, KX, c⟩ := Y
    have hmg : mg ("law" : PySem.Str) = some (.ref fa) := by
      have e : (HandSHeadRun.topDef (OpenLaw.row PySem.Challenge.rw_observatory_k58_whole_two_clocks).prog 38).name = ("law" : PySem.Str) := by kernel_rfl
      rw [← e]
      exact hmg0
    exact GW.facts KX G hmg c hl

theorem PySem.Challenge.cw_observatory_k58_whole_two_clocks_holds : PySem.Challenge.rw_observatory_k58_whole_two_clocks.Holds :=
  law_holds_of K58.law_true
