import PyProof.Rows.All
import PySem.Str
import Wide.All
import OpenK.AllK
import Wide.FinOn
import PyProof.EqAt
import PyProof.EqKinds
import PyProof.TupleCall
import HandS.Base
import HandS.Call
import HandS.List
import HandS.Comp
import HandS.Ends
import HandS.Dict
import HandS.Iter
import HandS.Walk
import HandS.Exc
import HandS.TryOnly
import HandS.Codes
import HandS.Lambda
import HandS.Words
import HandS.WordsExc
import HandS.Deep
import HandS.Style
import HandS.Conv
import HandS.IsInst
import PyProof.WalkInts
import KE.GoesMore
import KE.GoesEnum
import HandS.Zip
import KE.KExcSuper
import HandS.NestedK
import HandS.ExcInit
import HandS.Property
import HandS.ExcIs
import HandS.ExcField
import HandS.Wide
import PyProof.ListRange
import HandS.Sort
import HandS.HeadHook4
import HandS.HeadWalk
import HandS.Head2
import PySem.Challenge.RW_shownintime_k47_whole_bounds_between_las
section
/-! DL0: a plain semantics for a part of Python over values without a heap: values D, outcomes, the monad M of what must hold,
environments of slots, and one combinator a construct. The soundness over the machine stands in DL1 and what follows. -/
set_option autoImplicit false
namespace DL
open PySem (Str)
abbrev Key := Sum Int Str

/-- values, without a heap; classes by number -/
inductive D where
  | non | bl (b : Bool) | int (i : Int) | str (x : Str)
  | lst (ds : List D) | tup (ds : List D)
  | dK (kvs : List (Key × D)) | dT (kvs : List (List Key × D))
  | set (xs : List Int)
  | obj (c : Nat) (fs : List D) | exc (c : Nat) (fs : List D)
  | clo (id : Nat) (caps : List D)
  | scr (ns : List Int)
  | st
  deriving Inhabited

inductive Out (α : Type) where
  | ok (a : α)
  | exc (c : Nat) (fs : List D)
/-- what must hold that a wish about the outcomes is met -/
def M (α : Type) : Type := (Out α → Prop) → Prop
def M.ret {α : Type} (a : α) : M α := fun Q => Q (.ok a)
def M.bnd {α β : Type} (m : M α) (f : α → M β) : M β := fun Q => m fun o => match o with
  | .ok a => f a Q
  | .exc c fs => Q (.exc c fs)
instance : Monad M where
  pure := M.ret
  bind := M.bnd
def M.fail {α : Type} : M α := fun _ => False
def M.raise {α : Type} (c : Nat) (fs : List D) : M α := fun Q => Q (.exc c fs)
def M.need (p : Prop) : M Unit := fun Q => p ∧ Q (.ok ())
/-- a number that the draws choose -/
def M.draw (n : Int) : M Int := fun Q => 0 < n ∧ ∀ k, 0 ≤ k → k < n → Q (.ok k)
/-- an option that is there -/
def M.get {α : Type} (o : Option α) : M α := match o with
  | some a => M.ret a
  | none => M.fail

/-- an equation that simp is to write down -/
theorem nonrfl {α : Sort _} {a b : α} (h : a = b) : a = b := h
@[simp] theorem pure_bnd {α β : Type} (a : α) (f : α → M β) : (pure a >>= f) = f a := nonrfl rfl
@[simp] theorem ret_bnd {α β : Type} (a : α) (f : α → M β) : (M.ret a >>= f) = f a := nonrfl rfl
@[simp] theorem ret_bnd' {α β : Type} (a : α) (f : α → M β) : (M.ret a).bnd f = f a := nonrfl rfl
@[simp] theorem raise_bnd {α β : Type} (c : Nat) (fs : List D) (f : α → M β) : (M.raise c fs >>= f) = M.raise c fs := nonrfl rfl
@[simp] theorem fail_bnd {α β : Type} (f : α → M β) : (M.fail >>= f) = M.fail := nonrfl rfl
@[simp] theorem bnd_bnd {α β γ : Type} (m : M α) (f : α → M β) (g : β → M γ) : (m >>= f >>= g) = (m >>= fun a => f a >>= g) := by
  funext Q
  show m _ = m _
  congr 1
@[simp] theorem bnd_pure {α : Type} (m : M α) : (m >>= pure) = m := by
  funext Q
  show m _ = m _
  congr 1
  funext o
  cases o <;> rfl
@[simp] theorem bnd_ret {α : Type} (m : M α) : (m >>= M.ret) = m := bnd_pure m
@[simp] theorem get_some {α : Type} (a : α) : M.get (some a) = pure a := nonrfl rfl
@[simp] theorem get_none {α : Type} : (M.get none : M α) = M.fail := nonrfl rfl
theorem need_true {p : Prop} (h : p) : M.need p = pure () := by
  funext Q
  exact propext ⟨fun x => x.2, fun x => ⟨h, x⟩⟩
theorem need_bnd {α : Type} {p : Prop} (h : p) (f : Unit → M α) : (M.need p >>= f) = f () := by rw [need_true h]; rfl
theorem ite_bnd {α β : Type} {c : Prop} [Decidable c] (a b : M α) (f : α → M β) : ((if c then a else b) >>= f) = if c then a >>= f else b >>= f := by
  by_cases h : c
  · rw [if_pos h, if_pos h]
  · rw [if_neg h, if_neg h]

/-- nothing is raised here -/
def M.calm {α : Type} (m : M α) : M α := fun Q => m fun o => match o with
  | .ok a => Q (.ok a)
  | .exc _ _ => False
@[simp] theorem calm_pure {α : Type} (a : α) : M.calm (pure a) = pure a := nonrfl rfl
@[simp] theorem calm_ret {α : Type} (a : α) : M.calm (M.ret a) = pure a := nonrfl rfl
/-! ### values: equality, kinds, order -/
mutual
def eqv : D → D → Bool
  | .non, .non => true
  | .bl a, .bl b => a == b
  | .bl a, .int j => (if a then 1 else 0) == j
  | .int i, .bl b => i == (if b then 1 else 0)
  | .int i, .int j => i == j
  | .str x, .str y => x == y
  | .lst xs, .lst ys => eqvL xs ys
  | .tup xs, .tup ys => eqvL xs ys
  | _, _ => false
def eqvL : List D → List D → Bool
  | [], [] => true
  | x :: xs, y :: ys => eqv x y && eqvL xs ys
  | _, _ => false
end
mutual
/-- plain data of at most this depth -/
def okD : Nat → D → Bool
  | _, .non => true
  | _, .bl _ => true
  | _, .int _ => true
  | _, .str x => x.cps.all (· < 0x110000)
  | n + 1, .lst ds => okL n ds
  | n + 1, .tup ds => okL n ds
  | _, _ => false
def okL : Nat → List D → Bool
  | _, [] => true
  | n, d :: ds => okD n d && okL n ds
end
def flatD : D → Bool
  | .non => true | .bl _ => true | .int _ => true | .str _ => true | _ => false
def isNon : D → Bool
  | .non => true | _ => false
def asInt : D → Option Int
  | .int i => some i | _ => none
def asBl : D → Option Bool
  | .bl b => some b | _ => none
def asInts : List D → Option (List Int)
  | [] => some []
  | .int i :: r => (asInts r).map (i :: ·)
  | _ :: _ => none
def asBls : List D → Option (List Bool)
  | [] => some []
  | .bl i :: r => (asBls r).map (i :: ·)
  | _ :: _ => none
/-- the order of lists of numbers -/
def lexLt : List Int → List Int → Bool
  | [], [] => false
  | [], _ :: _ => true
  | _ :: _, [] => false
  | x :: xs, y :: ys => if x = y then lexLt xs ys else decide (x < y)
/-- a place of a list, by Python's numbers -/
def ixD (n : Nat) (i : Int) : Option Nat := if 0 ≤ i then (if i < n then some i.toNat else none) else if -(n : Int) ≤ i then some (i + n).toNat else none
def atD {α : Type} (xs : List α) (i : Int) : Option α := (ixD xs.length i).bind fun j => xs[j]?
/-- a slice's bound -/
def sIxD (n d : Nat) : Option Int → Nat
  | none => d
  | some v => if v < 0 then (v + (n : Int)).toNat else min v.toNat n
def cutD {α : Type} (xs : List α) (lo hi : Option Int) : List α := (xs.drop (sIxD xs.length 0 lo)).take (sIxD xs.length xs.length hi - sIxD xs.length 0 lo)
/-- a dict's value; a key stored; a key dropped -/
def valD {κ : Type} [DecidableEq κ] (kvs : List (κ × D)) (k : κ) : Option D := (kvs.find? fun kv => decide (kv.1 = k)).map (·.2)
def putD {κ : Type} [DecidableEq κ] (kvs : List (κ × D)) (k : κ) (v : D) : List (κ × D) :=
  if kvs.any (fun kv => decide (kv.1 = k)) then kvs.map (fun kv => if kv.1 = k then (kv.1, v) else kv) else kvs ++ [(k, v)]
def keyD : D → Option Key
  | .int i => some (.inl i) | .str x => some (.inr x) | _ => none
def dKey : Key → D
  | .inl i => .int i
  | .inr x => .str x

abbrev line : Nat := 2 ^ 24
/-! ### operations -/
def addM : D → D → M D
  | .int i, .int j => pure (.int (i + j))
  | .lst xs, .lst ys => do M.need (xs.length + ys.length ≤ line); pure (.lst (xs ++ ys))
  | .tup xs, .tup ys => do M.need (xs ≠ [] ∧ xs.length + ys.length ≤ line); pure (.tup (xs ++ ys))
  | .str x, .str y => do M.need (x.length + y.length ≤ line); pure (.str (x ++ y))
  | _, _ => M.fail
/-- .. of lists alone -/
def addLM : D → D → M D
  | .lst xs, .lst ys => do M.need (xs.length + ys.length ≤ line); pure (.lst (xs ++ ys))
  | _, _ => M.fail
def subM : D → D → M D
  | .int i, .int j => pure (.int (i - j))
  | _, _ => M.fail
def mulM : D → D → M D
  | .int i, .int j => do M.need ((-(2 ^ 64) < i ∧ i < 2 ^ 64) ∨ (-(2 ^ 64) < j ∧ j < 2 ^ 64)); pure (.int (i * j))
  | _, _ => M.fail
def modM : D → D → M D
  | .int i, .int j => do M.need (0 < j); pure (.int (i % j))
  | _, _ => M.fail
def fdivM : D → D → M D
  | .int i, .int j => do M.need (0 < j ∧ j < 1073741824); pure (.int (i / j))
  | _, _ => M.fail
def powM : D → D → M D
  | .int i, .int j => do M.need (0 ≤ j ∧ j ≤ 1000000 ∧ i.natAbs < 2 ^ 64); pure (.int (i ^ j.toNat))
  | _, _ => M.fail
def negM : D → M D
  | .int i => pure (.int (-i))
  | _ => M.fail
def eqM (a b : D) : M D := do M.need (okD 64 a = true ∧ okD 64 b = true); pure (.bl (eqv a b))
def neM (a b : D) : M D := do M.need (okD 64 a = true ∧ okD 64 b = true); pure (.bl (!eqv a b))
def ltM : D → D → M D
  | .int i, .int j => pure (.bl (decide (i < j)))
  | .tup xs, .tup ys => do
    let ns ← M.get (asInts xs)
    let ms ← M.get (asInts ys)
    pure (.bl (lexLt ns ms))
  | _, _ => M.fail
def leM : D → D → M D
  | .int i, .int j => pure (.bl (decide (i ≤ j)))
  | _, _ => M.fail
def gtM : D → D → M D
  | .int i, .int j => pure (.bl (decide (j < i)))
  | _, _ => M.fail
def geM : D → D → M D
  | .int i, .int j => pure (.bl (decide (j ≤ i)))
  | _, _ => M.fail
/-- is, is not: of two truths -/
def isBM : D → D → M D
  | .bl a, .bl b => pure (.bl (decide (a = b)))
  | _, _ => M.fail
def isNonM (a : D) : M D := pure (.bl (isNon a))
def notNonM (a : D) : M D := pure (.bl (!isNon a))
def memS (a : D) (ds : List D) : Bool := ds.any fun z => eqv z a
def inM (a : D) : D → M D
  | .lst ds => do M.need (okD 63 a = true ∧ okL 63 ds = true); pure (.bl (memS a ds))
  | .tup ds => do M.need (flatD a = true ∧ ds.all flatD = true); pure (.bl (memS a ds))
  | .dK kvs => do
    let k ← M.get (keyD a)
    pure (.bl (valD kvs k).isSome)
  | _ => M.fail
def ninM (a : D) : D → M D
  | .lst ds => do M.need (okD 63 a = true ∧ okL 63 ds = true); pure (.bl (!memS a ds))
  | .tup ds => do M.need (flatD a = true ∧ ds.all flatD = true); pure (.bl (!memS a ds))
  | .dK kvs => do
    let k ← M.get (keyD a)
    pure (.bl (!(valD kvs k).isSome))
  | _ => M.fail
def itemM : D → D → M D
  | .lst ds, .int i => M.get (atD ds i)
  | .tup ds, .int i => M.get (atD ds i)
  | .dK kvs, .int i => M.get (valD kvs (.inl i))
  | .dK kvs, .str x => M.get (valD kvs (.inr x))
  | _, _ => M.fail
def partM : D → M (Option Int)
  | .int i => pure (some i)
  | _ => M.fail
def sliceM (a : D) (lo hi : Option Int) : M D := match a with
  | .lst ds => pure (.lst (cutD ds lo hi))
  | .tup ds => do M.need (¬ (sIxD ds.length 0 lo = 0 ∧ sIxD ds.length ds.length hi = ds.length)); pure (.tup (cutD ds lo hi))
  | _ => M.fail
/-- .. of lists alone -/
def sliceLM (a : D) (lo hi : Option Int) : M D := match a with
  | .lst ds => pure (.lst (cutD ds lo hi))
  | _ => M.fail
def lenM : D → M D
  | .lst ds => pure (.int ds.length)
  | .tup ds => pure (.int ds.length)
  | .str x => do M.need (x.length ≤ line); pure (.int x.length)
  | .dK kvs => pure (.int kvs.length)
  | .scr ns => pure (.int ns.length)
  | _ => M.fail
def absM : D → M D
  | .int i => pure (.int (if i < 0 then -i else i))
  | _ => M.fail
def intM : D → M D
  | .int i => pure (.int i)
  | .bl b => pure (.int (if b then 1 else 0))
  | _ => M.fail
def maxL : List Int → Option Int
  | [] => none
  | x :: r => some (r.foldl (fun m y => if m < y then y else m) x)
def minL : List Int → Option Int
  | [] => none
  | x :: r => some (r.foldl (fun m y => if y < m then y else m) x)
def seqL : D → Option (List D)
  | .lst ds => some ds | .tup ds => some ds | _ => none
def intsOf : D → M (List Int)
  | .lst ds => M.get (asInts ds)
  | .tup ds => M.get (asInts ds)
  | _ => M.fail
def maxM (a : D) : M D := do
  let ns ← intsOf a
  let m ← M.get (maxL ns)
  pure (.int m)
def minM (a : D) : M D := do
  let ns ← intsOf a
  let m ← M.get (minL ns)
  pure (.int m)
def max2M : D → D → M D
  | .int i, .int j => pure (.int (if j > i then j else i))
  | _, _ => M.fail
def min2M : D → D → M D
  | .int i, .int j => pure (.int (if j < i then j else i))
  | _, _ => M.fail
def sumM (a : D) : M D := do
  let ns ← intsOf a
  pure (.int ns.sum)
def blsOf : D → M (List Bool)
  | .lst ds => M.get (asBls ds)
  | _ => M.fail
def anyM (a : D) : M D := do
  let bs ← blsOf a
  pure (.bl (bs.any id))
def allM (a : D) : M D := do
  let bs ← blsOf a
  pure (.bl (bs.all id))
/-- sorting of numbers -/
def insI (x : Int) : List Int → List Int
  | [] => [x]
  | y :: r => if x ≤ y then x :: y :: r else y :: insI x r
def sortI : List Int → List Int
  | [] => []
  | x :: r => insI x (sortI r)
def sortedM (a : D) : M D := match a with
  | .lst ds => do
    let ns ← M.get (asInts ds)
    M.need (ns.length < 64)
    pure (.lst ((sortI ns).map D.int))
  | _ => M.fail
/-- what a for walks, list() and tuple() take -/
def iterL : D → Option (List D)
  | .lst ds => some ds
  | .tup ds => some ds
  | .scr ns => some (ns.map D.int)
  | _ => none
def iterM (a : D) : M (List D) := M.get (iterL a)
def listM (a : D) : M D := do
  let ds ← M.get (seqL a)
  pure (.lst ds)
def tupleM (a : D) : M D := do
  let ds ← M.get (seqL a)
  pure (.tup ds)
def rangeL (i j : Int) : List D := (List.range (j - i).toNat).map fun k => .int (i + (k : Nat))
def range1M : D → M (List D)
  | .int j => do M.need (-(2 ^ 62) ≤ j ∧ j ≤ 2 ^ 24); pure (rangeL 0 j)
  | _ => M.fail
def range2M : D → D → M (List D)
  | .int i, .int j => do M.need (-(2 ^ 62) ≤ i ∧ i < 2 ^ 62 ∧ -(2 ^ 62) ≤ j ∧ j < 2 ^ 62 ∧ j - i ≤ 2 ^ 24); pure (rangeL i j)
  | _, _ => M.fail
def enumFrom (i : Nat) : List D → List D
  | [] => []
  | d :: r => .tup [.int i, d] :: enumFrom (i + 1) r
def enumM (a : D) : M (List D) := do
  let ds ← M.get (seqL a)
  pure (enumFrom 0 ds)
def zipM : D → D → M (List D)
  | .lst xs, .lst ys => pure (List.zipWith (fun x y => .tup [x, y]) xs ys)
  | .tup xs, .tup ys => pure (List.zipWith (fun x y => .tup [x, y]) xs ys)
  | _, _ => M.fail
/-- isinstance: the classes that are known, those above each -/
inductive Kd where
  | int | bool | str | list | tuple | dict | cls (c : Nat)
  deriving DecidableEq
structure Cs where
  objs : List Nat
  excs : List Nat
  sub : Nat → Nat → Bool
def isKd (cs : Cs) : D → Kd → Bool
  | .int _, .int => true
  | .bl _, .int => true
  | .bl _, .bool => true
  | .str _, .str => true
  | .lst _, .list => true
  | .tup _, .tuple => true
  | .dK _, .dict => true
  | .obj c _, .cls k => cs.sub c k
  | .exc c _, .cls k => cs.sub c k
  | _, _ => false
/-- its type is known -/
def tyD (cs : Cs) : D → Bool
  | .non => true | .int _ => true | .bl _ => true | .str _ => true | .lst _ => true | .tup _ => true | .dK _ => true
  | .obj c _ => cs.objs.contains c
  | .exc c _ => cs.excs.contains c
  | _ => false
def isM (cs : Cs) (ks : List Kd) (d : D) : M D := do
  M.need (tyD cs d = true)
  pure (.bl (ks.any (isKd cs d)))
/-- a list's places -/
def findI (y : D) : List D → Nat → Option Nat
  | [], _ => none
  | x :: r, i => if eqv x y then some i else findI y r (i + 1)
def indexM (a y : D) : M D := match a with
  | .lst ds => do
    M.need (flatD y = true ∧ ds.all flatD = true)
    let i ← M.get (findI y ds 0)
    pure (.int (i : Nat))
  | _ => M.fail

/-- a draw -/
def drawM : D → D → M D
  | .st, .int room => do
    M.need (0 < room ∧ room < 1073741824)
    let k ← M.draw room
    pure (.int k)
  | _, _ => M.fail

/-! ### environments -/
inductive Slot where
  | no | sh (d : D) | ow (d : D)
  deriving Inhabited
abbrev Env := List Slot
def getSh (ρ : Env) (i : Nat) : M D := match ρ[i]? with
  | some (.sh d) => pure d
  | _ => M.fail
def getOw (ρ : Env) (i : Nat) : M D := match ρ[i]? with
  | some (.ow d) => pure d
  | _ => M.fail
/-- read in passing: shared or owned -/
def getAny (ρ : Env) (i : Nat) : M D := match ρ[i]? with
  | some (.sh d) => pure d
  | some (.ow d) => pure d
  | _ => M.fail
inductive Fl where
  | nx (ρ : Env) | rt (d : D) | bk (ρ : Env) | ct (ρ : Env)
abbrev XE := Env → M D
abbrev XT := Env → M Bool
abbrev XS := Env → M Fl
abbrev XG := D → Env → M Env
abbrev XA := Env → M (List D)

/-! ### expressions -/
def dVar (i : Nat) : XE := fun ρ => getSh ρ i
def dAny (i : Nat) : XE := fun ρ => getAny ρ i
def dC (d : D) : XE := fun _ => pure d
def d1 (f : D → M D) (a : XE) : XE := fun ρ => do
  let x ← a ρ
  f x
def d2 (f : D → D → M D) (a b : XE) : XE := fun ρ => do
  let x ← a ρ
  let y ← b ρ
  f x y
def dNil : XA := fun _ => pure []
def dCons (a : XE) (r : XA) : XA := fun ρ => do
  let x ← a ρ
  let xs ← r ρ
  pure (x :: xs)
def dLst (a : XA) : XE := fun ρ => do
  let xs ← a ρ
  M.need (xs.length ≤ line)
  pure (.lst xs)
def dTup (a : XA) : XE := fun ρ => do
  let xs ← a ρ
  M.need (xs.length ≤ line)
  pure (.tup xs)
def b1 (f : D → M D) : List D → M D
  | [a] => f a
  | _ => M.fail
def b2 (f : D → D → M D) : List D → M D
  | [a, b] => f a b
  | _ => M.fail
/-- a call of a def by its meaning -/
def dCall (m : List D → M D) (a : XA) : XE := fun ρ => do
  let xs ← a ρ
  m xs
/-- the same with things read in passing: the answer is flat -/
def dCallB (m : List D → M D) (a : XA) : XE := fun ρ => do
  let xs ← a ρ
  let r ← m xs
  M.need (flatD r = true)
  pure r
def dIf (t : XT) (a b : XE) : XE := fun ρ => do
  let c ← t ρ
  match c with
  | true => a ρ
  | false => b ρ
abbrev XO := Env → M (Option Int)
def oNone : XO := fun _ => pure none
def oSome (e : XE) : XO := fun ρ => do
  let y ← e ρ
  partM y
def dSlice (f : D → Option Int → Option Int → M D) (a : XE) (lo hi : XO) : XE := fun ρ => do
  let x ← a ρ
  let l ← lo ρ
  let h ← hi ρ
  f x l h
/-- and, or of truths, as values -/
def dAnd (a b : XE) : XE := fun ρ => do
  let x ← a ρ
  let c ← M.get (asBl x)
  match c with
  | true => b ρ
  | false => pure (.bl false)
def dOr (a b : XE) : XE := fun ρ => do
  let x ← a ρ
  let c ← M.get (asBl x)
  match c with
  | true => pure (.bl true)
  | false => b ρ
def notM (x : D) : M D := do
  let c ← M.get (asBl x)
  pure (.bl (!c))
def dChain (f g : D → D → M D) (a b c : XE) : XE := fun ρ => do
  let x ← a ρ
  let y ← b ρ
  let r ← f x y
  let t ← M.get (asBl r)
  match t with
  | true => do
    let z ← c ρ
    g y z
  | false => pure (.bl false)
/-! ### tests -/
def tOf (a : XE) : XT := fun ρ => do
  let x ← a ρ
  M.get (asBl x)
def tAnd (a b : XT) : XT := fun ρ => do
  let c ← a ρ
  match c with
  | true => b ρ
  | false => pure false
def tOr (a b : XT) : XT := fun ρ => do
  let c ← a ρ
  match c with
  | true => pure true
  | false => b ρ
def tIf (t a b : XT) : XT := fun ρ => do
  let c ← t ρ
  match c with
  | true => a ρ
  | false => b ρ
def tNot (a : XT) : XT := fun ρ => do
  let c ← a ρ
  pure (!c)
/-! ### targets -/
def setS (i : Nat) (s : Slot) (ρ : Env) : Env := ρ.set i s
def gName (i : Nat) : XG := fun d ρ => pure (ρ.set i (.sh d))
abbrev XGs := List D → Env → M Env
def gsNil : XGs := fun ds ρ => match ds with
  | [] => pure ρ
  | _ => M.fail
def gsCons (g : XG) (r : XGs) : XGs := fun ds ρ => match ds with
  | d :: ds => do
    let ρ' ← g d ρ
    r ds ρ'
  | [] => M.fail
def gTup (n : Nat) (gs : XGs) : XG := fun d ρ => match d with
  | .tup ds => do M.need (ds.length = n); gs ds ρ
  | _ => M.fail
/-! ### walks, comprehensions -/
abbrev XI := Env → M (List D)
def iSeq (a : XE) : XI := fun ρ => do
  let x ← a ρ
  iterM x
def iEnum (a : XE) : XI := fun ρ => do
  let x ← a ρ
  enumM x
def iZip (a b : XE) : XI := fun ρ => do
  let x ← a ρ
  let y ← b ρ
  zipM x y
def iRng1 (a : XE) : XI := fun ρ => do
  let x ← a ρ
  range1M x
def iRng2 (a b : XE) : XI := fun ρ => do
  let x ← a ρ
  let y ← b ρ
  range2M x y
def compL (g : XG) (t : XT) (e : XE) (ρ : Env) : List D → M (List D)
  | [] => pure []
  | x :: r => do
    let ρ1 ← M.calm (g x ρ)
    let c ← M.calm (t ρ1)
    match c with
    | true => do
      let y ← M.calm (e ρ1)
      let ys ← compL g t e ρ r
      pure (y :: ys)
    | false => compL g t e ρ r
def tYes : XT := fun _ => pure true
def wipe : List Nat → Env → Env
  | [], ρ => ρ
  | v :: vs, ρ => (wipe vs ρ).set v .no
def noOw (vs : List Nat) (ρ : Env) : Bool := vs.all fun i => match ρ[i]? with
  | some (.ow _) => false
  | _ => true
def dComp (it : XI) (g : XG) (t : XT) (e : XE) (vs : List Nat) : XE := fun ρ => do
  let xs ← it ρ
  M.need (noOw vs ρ = true)
  let ys ← compL g t e (wipe vs ρ) xs
  pure (.lst ys)
/-- two fors -/
def compL2 (g : XG) (t : XT) (it2 : XI) (g2 : XG) (t2 : XT) (e : XE) (ρ : Env) : List D → M (List D)
  | [] => pure []
  | x :: r => do
    let ρ1 ← M.calm (g x ρ)
    let c ← M.calm (t ρ1)
    match c with
    | true => do
      let xs ← M.calm (it2 ρ1)
      let ys ← compL g2 t2 e ρ1 xs
      let zs ← compL2 g t it2 g2 t2 e ρ r
      pure (ys ++ zs)
    | false => compL2 g t it2 g2 t2 e ρ r
/-! ### lambdas -/
def hideS : Slot → Slot
  | .ow _ => .no
  | s => s
def hide (ρ : Env) : Env := ρ.map hideS
/-- first_wrong(xs, lambda x: e) -/
def fwL (t : D → M Bool) : Nat → List D → M D
  | _, [] => pure .non
  | n, x :: r => do
    let b ← t x
    match b with
    | true => fwL t (n + 1) r
    | false => pure (.int n)
def dFw (a : XE) (i : Nat) (b : XE) : XE := fun ρ => do
  let x ← a ρ
  let ds ← M.get (seqL x)
  fwL (fun x => M.calm (tOf b ((hide ρ).set i (.sh x)))) 0 ds
/-- _law_caught(lambda: e): None, or the error -/
def dCaught (cs : List Nat) (b : XE) : XE := fun ρ Q => b (hide ρ) fun o => match o with
  | .ok _ => Q (.ok .non)
  | .exc c fs => c ∈ cs ∧ Q (.ok (.exc c fs))
/-! ### statements -/
def sSeq (a b : XS) : XS := fun ρ => do
  let f ← a ρ
  match f with
  | .nx ρ' => b ρ'
  | f => pure f
def sNext : XS := fun ρ => pure (.nx ρ)
def sAsg (e : XE) (g : XG) : XS := fun ρ => do
  let d ← e ρ
  let ρ' ← M.calm (g d ρ)
  pure (.nx ρ')
/-- the name owns the new object -/
def sOwn (i : Nat) (e : XE) : XS := fun ρ => do
  let d ← e ρ
  pure (.nx (ρ.set i (.ow d)))
/-- a, b = x, y: some shared, some owned -/
def setAll : List (Nat × Bool) → List D → Env → Env
  | (i, true) :: is, d :: ds, ρ => setAll is ds (ρ.set i (.ow d))
  | (i, false) :: is, d :: ds, ρ => setAll is ds (ρ.set i (.sh d))
  | _, _, ρ => ρ
def sPar (is : List (Nat × Bool)) (a : XA) : XS := fun ρ => do
  let ds ← a ρ
  pure (.nx (setAll is ds ρ))
def sDrop (e : XE) : XS := fun ρ => do
  let _ ← e ρ
  pure (.nx ρ)
def sRet (e : XE) : XS := fun ρ => do
  let d ← e ρ
  pure (.rt d)
def sRetN : XS := fun _ => pure (.rt .non)
/-- what a name owns is given back -/
def sRetOw (i : Nat) : XS := fun ρ => do
  let d ← getOw ρ i
  pure (.rt d)
def sIf (t : XT) (a b : XS) : XS := fun ρ => do
  let c ← t ρ
  match c with
  | true => a ρ
  | false => b ρ
def sBreak : XS := fun ρ => pure (.bk ρ)
def sCont : XS := fun ρ => pure (.ct ρ)
def sRaise1 (c : Nat) (e : XE) : XS := fun ρ => do
  let d ← e ρ
  M.raise c [d]
def sRaise0 (c : Nat) : XS := fun _ => M.raise c []
/-- forgetting, freezing names -/
abbrev kill := wipe
def frz1 (ρ : Env) (i : Nat) : Env := match ρ[i]? with
  | some (.ow d) => ρ.set i (.sh d)
  | _ => ρ
def sKill (vs : List Nat) (s : XS) : XS := fun ρ => do
  let f ← s ρ
  match f with
  | .nx ρ' => pure (.nx (kill vs ρ'))
  | f => pure f
def sFrz (vs : List Nat) (s : XS) : XS := fun ρ => s (vs.foldl frz1 ρ)
def forL (g : XG) (b : XS) : List D → XS
  | [], ρ => pure (.nx ρ)
  | x :: r, ρ => do
    let ρ1 ← M.calm (g x ρ)
    let f ← b ρ1
    match f with
    | .nx ρ' => forL g b r ρ'
    | .ct ρ' => forL g b r ρ'
    | .bk ρ' => pure (.nx ρ')
    | .rt d => pure (.rt d)
def sFor (it : XI) (g : XG) (b : XS) : XS := fun ρ => do
  let xs ← it ρ
  forL g b xs ρ
def whileL (t : XT) (b : XS) : Nat → XS
  | 0, _ => M.fail
  | n + 1, ρ => do
    let c ← t ρ
    match c with
    | true => do
      let f ← b ρ
      match f with
      | .nx ρ' => whileL t b n ρ'
      | .ct ρ' => whileL t b n ρ'
      | .bk ρ' => pure (.nx ρ')
      | .rt d => pure (.rt d)
    | false => pure (.nx ρ)
def sWhile (n : Nat) (t : XT) (b : XS) : XS := whileL t b n
/-- owned lists and dicts changed -/
def getOwL (ρ : Env) (i : Nat) : M (List D) := match ρ[i]? with
  | some (.ow (.lst ds)) => pure ds
  | _ => M.fail
def getOwK (ρ : Env) (i : Nat) : M (List (Key × D)) := match ρ[i]? with
  | some (.ow (.dK ds)) => pure ds
  | _ => M.fail
def sAppend (i : Nat) (e : XE) : XS := fun ρ => do
  let ds ← getOwL ρ i
  let d ← e ρ
  M.need (ds.length < line)
  pure (.nx (ρ.set i (.ow (.lst (ds ++ [d])))))
def lstM : D → M (List D)
  | .lst es => pure es
  | _ => M.fail
def sExtend (i : Nat) (e : XE) : XS := fun ρ => do
  let ds ← getOwL ρ i
  let d ← e ρ
  let es ← lstM d
  M.need (ds.length + es.length ≤ line)
  pure (.nx (ρ.set i (.ow (.lst (ds ++ es)))))
def sSetL (i : Nat) (k e : XE) : XS := fun ρ => do
  let d ← e ρ
  let ds ← getOwL ρ i
  let y ← k ρ
  let z ← M.get (asInt y)
  let j ← M.get (ixD ds.length z)
  pure (.nx (ρ.set i (.ow (.lst (ds.set j d)))))
def sSetK (i : Nat) (k e : XE) : XS := fun ρ => do
  let d ← e ρ
  let kvs ← getOwK ρ i
  let y ← k ρ
  let q ← M.get (keyD y)
  M.need (kvs.length < line)
  pure (.nx (ρ.set i (.ow (.dK (putD kvs q d)))))
/-- g = x.pop() -/
def sPop (i : Nat) (g : XG) : XS := fun ρ => do
  let ds ← getOwL ρ i
  let d ← M.get (ds[ds.length - 1]?)
  let ρ' ← M.calm (g d (ρ.set i (.ow (.lst ds.dropLast))))
  pure (.nx ρ')
/-- y.append(x.pop(e)) -/
def sAppendPop (j i : Nat) (e : XE) : XS := fun ρ => do
  let es ← getOwL ρ j
  let ds ← getOwL ρ i
  let y ← e ρ
  let k ← M.get (asInt y)
  M.need (i ≠ j ∧ -(2 ^ 63) ≤ k ∧ k < 2 ^ 63 ∧ es.length < line)
  let q ← M.get (ixD ds.length k)
  let d ← M.get (ds[q]?)
  pure (.nx ((ρ.set i (.ow (.lst (ds.eraseIdx q)))).set j (.ow (.lst (es ++ [d])))))
/-- the next field of self, which is being made -/
def sField (c k : Nat) (e : XE) : XS := fun ρ => do
  let d ← e ρ
  let x ← getOw ρ 0
  match x with
  | .obj c' fs => do
    M.need (c' = c ∧ fs.length = k ∧ k < 1000)
    pure (.nx (ρ.set 0 (.ow (.obj c (fs ++ [d])))))
  | _ => M.fail
/-! ### bodies -/
def startE (n : Nat) (ds : List D) : Env := ds.map Slot.sh ++ List.replicate (n - ds.length) Slot.no
def run (n k : Nat) (b : XS) (ds : List D) : M D := do
  M.need (ds.length = k)
  let f ← b (startE n ds)
  match f with
  | .nx _ => pure .non
  | .rt d => pure d
  | _ => M.fail
/-- .. whose answer is owned -/
def runO (n k : Nat) (b : XS) (ds : List D) : M D := do
  M.need (ds.length = k)
  let f ← b (startE n ds)
  match f with
  | .rt d => pure d
  | _ => M.fail
/-- an __init__: self is owned, its fields come -/
def runInit (n k c : Nat) (b : XS) (ds : List D) : M D := do
  M.need (ds.length = k)
  let f ← b (Slot.ow (.obj c []) :: startE (n - 1) ds)
  match f with
  | .nx ρ => getOw ρ 0
  | _ => M.fail
/-- a field of an object; the value of a caught error -/
def fldM (tbl : List (Nat × Nat)) : D → M D
  | .obj c fs => do
    let i ← M.get ((tbl.find? fun p => p.1 == c).map (·.2))
    M.get (fs[i]?)
  | _ => M.fail
def fldX (cs : List Nat) : D → M D
  | .exc c [d] => do
    M.need (c ∈ cs)
    pure d
  | _ => M.fail
end DL
end
section
/-! DL1: how values D lie in the abstract heap (Rep), the state relation (Rel), and the judgements DE, DO, DB, DT, DS .. over the hand layer. -/
set_option Elab.async false
set_option linter.all false
set_option autoImplicit false
namespace DL
open PySem PySem.Spec PyProof.Rows L2
abbrev Frag := PySem.W.Frag

/-! ### how values lie -/
/-- the classes' addresses and their instances' fields; the closures' objects -/
structure Ci where
  ca : Nat → Addr
  fn : Nat → List Str
  clo : Nat → Addr → List Addr → HO
  tabs : List (Addr × Str)
def CellO (c : Addr) (v : V) : HO := .ext fun h => ∃ u, RelV v u ∧ h.IsCell c (some u)
/-- a caught error's object -/
def ExcO (a : Addr) (C : Addr) (d : Option Addr) : HO := .ext fun h => ∃ o vs, h.get? a = some o ∧ o.cls = .ref C ∧ o.dict = d ∧ o.data = .fields vs
structure Rc where
  K : Frag
  ci : Ci
  st : Option Addr
section
variable (R : Rc) (F : Hp)
mutual
inductive Rep : V → D → Prop
  | non : Rep .non .non
  | bl (b : Bool) : Rep (.bl b) (.bl b)
  | int (i : Int) : Rep (.int i) (.int i)
  | str (x : Str) : Rep (.str x) (.str x)
  | lst {a : Addr} {vs : List V} {ds : List D} : F a = some (.lst vs) → RepL vs ds → Rep (.ref a) (.lst ds)
  | tup {a : Addr} {vs : List V} {ds : List D} : SqT R.K F a vs → RepL vs ds → Rep (.ref a) (.tup ds)
  | dK {a : Addr} {ws : List (Key × V)} {kvs : List (Key × D)} : F a = some (.dK ws) → RepK ws kvs → Rep (.ref a) (.dK kvs)
  | set {a : Addr} {S : Int → Bool} {xs : List Int} : F a = some (.set S xs.length) → (∀ i, S i = decide (i ∈ xs)) → xs.Pairwise (· < ·) → Rep (.ref a) (.set xs)
  | obj {a : Addr} {c : Nat} {dx : Addr} {fs : List (Str × V)} {ds : List D} : F a = some (.ins (R.ci.ca c) dx fs) → fs.map (·.1) = (R.ci.fn c).take ds.length → RepL (fs.map (·.2)) ds → Rep (.ref a) (.obj c ds)
  | exc0 {a : Addr} {c : Nat} : F a = some (ExcO a (R.ci.ca c) none) → Rep (.ref a) (.exc c [])
  | exc1 {a : Addr} {c : Nat} {dx : Addr} {x : Str} {v : V} {d : D} : F a = some (ExcO a (R.ci.ca c) (some dx)) → F dx = some (.xd [(x, v)]) → R.ci.fn c = [x] → Rep v d → Rep (.ref a) (.exc c [d])
  | clo {f : Addr} {id : Nat} {cs : List Addr} {ds : List D} : F f = some (R.ci.clo id f cs) → RepC cs ds → Rep (.ref f) (.clo id ds)
  | scr {a : Addr} {ns : List Int} : SqL R.K F a (ns.map V.int) → Rep (.ref a) (.scr ns)
  | st {a : Addr} : R.st = some a → Rep (.ref a) .st
inductive RepL : List V → List D → Prop
  | nil : RepL [] []
  | cons {v : V} {vs : List V} {d : D} {ds : List D} : Rep v d → RepL vs ds → RepL (v :: vs) (d :: ds)
inductive RepK : List (Key × V) → List (Key × D) → Prop
  | nil : RepK [] []
  | cons {k : Key} {v : V} {vs : List (Key × V)} {d : D} {ds : List (Key × D)} : Rep v d → RepK vs ds → RepK ((k, v) :: vs) ((k, d) :: ds)
inductive RepC : List Addr → List D → Prop
  | nil : RepC [] []
  | cons {c : Addr} {v : V} {cs : List Addr} {d : D} {ds : List D} : F c = some (CellO c v) → Rep v d → RepC cs ds → RepC (c :: cs) (d :: ds)
end
end
theorem sqT_mono {K : Frag} {F F' : Hp} {a : Addr} {xs : List V} (e : Same F F') (h : SqT K F a xs) : SqT K F' a xs := by
  rcases h with (h | ⟨o, h⟩) | h
  · exact .inl (.inl (e _ _ h))
  · exact .inl (.inr ⟨o, e _ _ h⟩)
  · exact .inr h
section
variable {R R' : Rc} {F F' : Hp}
/-- a later heap, the draws' state possibly begun -/
structure Rc.Le (R R' : Rc) : Prop where
  K : R'.K = R.K
  ci : R'.ci = R.ci
  st : ∀ a, R.st = some a → R'.st = some a
theorem Rc.Le.refl (R : Rc) : Rc.Le R R := ⟨rfl, rfl, fun _ h => h⟩
mutual
theorem Rep.mono (l : Rc.Le R R') (e : Same F F') : ∀ {v : V} {d : D}, Rep R F v d → Rep R' F' v d
  | _, _, .non => .non
  | _, _, .bl b => .bl b
  | _, _, .int b => .int b
  | _, _, .str b => .str b
  | _, _, .lst h r => .lst (e _ _ h) (RepL.mono l e r)
  | _, _, .tup h r => .tup (by rw [l.K]; exact sqT_mono e h) (RepL.mono l e r)
  | _, _, .dK h r => .dK (e _ _ h) (RepK.mono l e r)
  | _, _, .set h r s => .set (e _ _ h) r s
  | _, _, .obj h n r => .obj (by rw [l.ci]; exact e _ _ h) (by rw [l.ci]; exact n) (RepL.mono l e r)
  | _, _, .exc0 h => .exc0 (by rw [l.ci]; exact e _ _ h)
  | _, _, .exc1 h h2 n r => .exc1 (by rw [l.ci]; exact e _ _ h) (e _ _ h2) (by rw [l.ci]; exact n) (Rep.mono l e r)
  | _, _, .clo h r => .clo (by rw [l.ci]; exact e _ _ h) (RepC.mono l e r)
  | _, _, .scr h => .scr (by rw [l.K]; exact e.seq h)
  | _, _, .st h => .st (l.st _ h)
theorem RepL.mono (l : Rc.Le R R') (e : Same F F') : ∀ {vs : List V} {ds : List D}, RepL R F vs ds → RepL R' F' vs ds
  | _, _, .nil => .nil
  | _, _, .cons h r => .cons (Rep.mono l e h) (RepL.mono l e r)
theorem RepK.mono (l : Rc.Le R R') (e : Same F F') : ∀ {vs : List (Key × V)} {ds : List (Key × D)}, RepK R F vs ds → RepK R' F' vs ds
  | _, _, .nil => .nil
  | _, _, .cons h r => .cons (Rep.mono l e h) (RepK.mono l e r)
theorem RepC.mono (l : Rc.Le R R') (e : Same F F') : ∀ {vs : List Addr} {ds : List D}, RepC R F vs ds → RepC R' F' vs ds
  | _, _, .nil => .nil
  | _, _, .cons h r s => .cons (e _ _ h) (Rep.mono l e r) (RepC.mono l e s)
end
theorem RepL.length : ∀ {vs : List V} {ds : List D}, RepL R F vs ds → vs.length = ds.length
  | _, _, .nil => rfl
  | _, _, .cons _ r => by rw [List.length_cons, List.length_cons, RepL.length r]
theorem RepL.append : ∀ {vs ws : List V} {ds es : List D}, RepL R F vs ds → RepL R F ws es → RepL R F (vs ++ ws) (ds ++ es)
  | _, _, _, _, .nil, s => s
  | _, _, _, _, .cons h r, s => .cons h (RepL.append r s)
theorem RepL.get : ∀ {vs : List V} {ds : List D} {i : Nat} {d : D}, RepL R F vs ds → ds[i]? = some d → ∃ v, vs[i]? = some v ∧ Rep R F v d
  | _, _, _, _, .nil, e => by simp at e
  | _, _, 0, _, .cons h _, e => by simp at e; subst e; exact ⟨_, rfl, h⟩
  | _, _, i + 1, d, .cons _ r, e => by
    obtain ⟨v, h1, h2⟩ := RepL.get (i := i) (d := d) r (by simpa using e)
    exact ⟨v, by simpa using h1, h2⟩
theorem RepL.take : ∀ {vs : List V} {ds : List D} (n : Nat), RepL R F vs ds → RepL R F (vs.take n) (ds.take n)
  | _, _, 0, _ => .nil
  | _, _, _ + 1, .nil => .nil
  | _, _, n + 1, .cons h r => .cons h (RepL.take n r)
theorem RepL.drop : ∀ {vs : List V} {ds : List D} (n : Nat), RepL R F vs ds → RepL R F (vs.drop n) (ds.drop n)
  | _, _, 0, r => r
  | _, _, _ + 1, .nil => .nil
  | _, _, n + 1, .cons _ r => RepL.drop n r
theorem RepL.set {v : V} {d : D} (q : Rep R F v d) : ∀ {vs : List V} {ds : List D} (n : Nat), RepL R F vs ds → RepL R F (vs.set n v) (ds.set n d)
  | _, _, _, .nil => .nil
  | _, _, 0, .cons _ r => .cons q r
  | _, _, n + 1, .cons h r => .cons h (RepL.set q n r)
theorem RepL.eraseIdx : ∀ {vs : List V} {ds : List D} (n : Nat), RepL R F vs ds → RepL R F (vs.eraseIdx n) (ds.eraseIdx n)
  | _, _, _, .nil => .nil
  | _, _, 0, .cons _ r => r
  | _, _, n + 1, .cons h r => .cons h (RepL.eraseIdx n r)
theorem RepL.dropLast {vs : List V} {ds : List D} (r : RepL R F vs ds) : RepL R F vs.dropLast ds.dropLast := by
  rw [List.dropLast_eq_take, List.dropLast_eq_take, r.length]
  exact r.take _
theorem RepL.ints : ∀ {vs : List V} {ds : List D} {ns : List Int}, RepL R F vs ds → asInts ds = some ns → vs = ns.map V.int
  | _, _, _, .nil, e => by
    cases e
    rfl
  | _, d :: ds, ns, .cons h r, e => by
    cases d with
    | int i =>
      cases h
      cases q : asInts ds with
      | none => simp [asInts, q] at e
      | some ms =>
        have e2 : i :: ms = ns := by simpa [asInts, q] using e
        subst e2
        rw [RepL.ints r q]
        rfl
    | _ => simp [asInts] at e
theorem RepL.bls : ∀ {vs : List V} {ds : List D} {ns : List Bool}, RepL R F vs ds → asBls ds = some ns → vs = ns.map V.bl
  | _, _, _, .nil, e => by
    cases e
    rfl
  | _, d :: ds, ns, .cons h r, e => by
    cases d with
    | bl i =>
      cases h
      cases q : asBls ds with
      | none => simp [asBls, q] at e
      | some ms =>
        have e2 : i :: ms = ns := by simpa [asBls, q] using e
        subst e2
        rw [RepL.bls r q]
        rfl
    | _ => simp [asBls] at e
theorem repL_ints (ns : List Int) : RepL R F (ns.map V.int) (ns.map D.int) := by
  induction ns with
  | nil => exact .nil
  | cons n r ih => exact .cons (.int n) ih
/-- flat values lie anywhere -/
theorem Rep.flat {v : V} {d : D} (h : Rep R F v d) (f : flatD d = true) (R' : Rc) (F' : Hp) : Rep R' F' v d := by
  cases d with
  | non => cases h; exact .non
  | bl b => cases h; exact .bl b
  | int b => cases h; exact .int b
  | str b => cases h; exact .str b
  | _ => cases f
end

/-! ### the state -/
/-- tables of code objects; the draws' state: its dict, the great cells, the cells -/
structure Gh where
  tabs : List (Addr × Str)
  st : Option (Addr × Addr × Addr)
  /-- the draws may have turned so often -/
  n : Nat
def Gh.a (G : Gh) : Option Addr := G.st.map (·.1)
def reg (G : Gh) (b : Addr) : Prop := (∃ p ∈ G.tabs, p.1 = b) ∨ ∃ a g c, G.st = some (a, g, c) ∧ (b = a ∨ b = g ∨ b = c)
def StOk (N : Nat) (H : Hp) (a g c : Addr) : Prop := ∃ (gs cs : List Int) (r t : Int), H a = some (.dK [(.inr "great", .ref g), (.inr "cells", .ref c), (.inr "rest", .int r), (.inr "turn", .int t)]) ∧
  H g = some (.lst (gs.map V.int)) ∧ H c = some (.lst (cs.map V.int)) ∧ g ≠ c ∧ 0 ≤ r ∧ (∀ z ∈ gs, 0 ≤ z) ∧ gs.length ≤ 63 ∧ cs.length ≤ 63 ∧ 0 ≤ t ∧ t ≤ N
structure SOk (G : Gh) (F H : Hp) : Prop where
  tabs : LamX.Tabs G.tabs H
  fr : ∀ b, reg G b → F b = none
  st : ∀ a g c, G.st = some (a, g, c) → StOk G.n H a g c
theorem reg_there {G : Gh} {F H : Hp} (s : SOk G F H) {b : Addr} (r : reg G b) : ∃ o, H b = some o := by
  rcases r with ⟨p, hp, rfl⟩ | ⟨a, g, c, e, h⟩
  · obtain ⟨ps, e, _⟩ := s.tabs p hp
    exact ⟨_, e⟩
  · obtain ⟨gs, cs, r, t, h1, h2, h3, _⟩ := s.st a g c e
    rcases h with rfl | rfl | rfl
    · exact ⟨_, h1⟩
    · exact ⟨_, h2⟩
    · exact ⟨_, h3⟩
/-- later: the draws' state may have begun, at new places; they have turned at most N times in all -/
abbrev Gh.Le (N : Nat) (G G' : Gh) : Prop := G'.tabs = G.tabs ∧ (∀ x, G.st = some x → G'.st = some x) ∧ G'.n ≤ N
theorem Gh.Le.tabs {N : Nat} {G G' : Gh} (l : Gh.Le N G G') : G'.tabs = G.tabs := l.1
theorem Gh.Le.st {N : Nat} {G G' : Gh} (l : Gh.Le N G G') : ∀ x, G.st = some x → G'.st = some x := l.2.1
theorem Gh.Le.n {N : Nat} {G G' : Gh} (l : Gh.Le N G G') : G'.n ≤ N := l.2.2
theorem Gh.Le.refl {N : Nat} (G : Gh) (h : G.n ≤ N := by omega) : Gh.Le N G G := ⟨rfl, fun _ h => h, h⟩
theorem Gh.Le.trans {N1 N2 : Nat} {G G1 G2 : Gh} (a : Gh.Le N1 G G1) (b : Gh.Le N2 G1 G2) : Gh.Le N2 G G2 := ⟨b.tabs.trans a.tabs, fun x h => b.st x (a.st x h), b.n⟩
theorem Gh.Le.up {N N1 : Nat} {G G1 : Gh} (a : Gh.Le N1 G G1) (h : N1 ≤ N := by omega) : Gh.Le N G G1 := ⟨a.tabs, a.st, Nat.le_trans a.n h⟩
theorem reg_le {N : Nat} {G G' : Gh} (l : Gh.Le N G G') {b : Addr} (r : reg G b) : reg G' b := by
  rcases r with ⟨p, hp, e⟩ | ⟨a, g, c, e, h⟩
  · exact .inl ⟨p, by rw [l.tabs]; exact hp, e⟩
  · exact .inr ⟨a, g, c, l.st _ e, h⟩
/-- more turns than are ever made -/
def top : Nat := 2 ^ 12000
section
variable (K : Frag) (ci : Ci)
abbrev rc (G : Gh) : Rc := ⟨K, ci, G.a⟩
theorem rc_le {N : Nat} {G G' : Gh} (l : Gh.Le N G G') : Rc.Le (rc K ci G) (rc K ci G') := ⟨rfl, rfl, fun a h => by
  show G'.a = some a
  have h' : G.a = some a := h
  unfold Gh.a at h' ⊢
  cases q : G.st with
  | none => rw [q] at h'; cases h'
  | some x => rw [l.st x q]; rw [q] at h'; exact h'⟩
/-- an owned object -/
def Own (G : Gh) (F H : Hp) (p : Addr) : D → Prop
  | .lst ds => ∃ vs, H p = some (.lst vs) ∧ RepL (rc K ci G) F vs ds
  | .dK kvs => ∃ ws, H p = some (.dK ws) ∧ RepK (rc K ci G) F ws kvs
  | .obj c ds => ∃ dx fs, H p = some (.ins (ci.ca c) dx fs) ∧ fs.map (·.1) = (ci.fn c).take ds.length ∧ RepL (rc K ci G) F (fs.map (·.2)) ds
  | _ => False
structure Rel (G : Gh) (F P : Hp) (ρ : Env) (σ : L2.St) (H : Hp) : Prop where
  sf : Same F H
  sp : Same P H
  dj : ∀ b o, P b = some o → F b = none
  rp : ∀ b, reg G b → P b = none
  ok : SOk G F H
  len : ρ.length = σ.length
  sh : ∀ (i : Nat) d, ρ[i]? = some (.sh d) → ∃ v, σ[i]? = some (some v) ∧ Rep (rc K ci G) F v d
  ow : ∀ (i : Nat) d, ρ[i]? = some (.ow d) → ∃ p, σ[i]? = some (some (.ref p)) ∧ Own K ci G F H p d ∧ F p = none ∧ P p = none ∧ ¬ reg G p
  ap : ∀ (i j : Nat) d e p, i ≠ j → ρ[i]? = some (.ow d) → ρ[j]? = some (.ow e) → σ[i]? = some (some (.ref p)) → σ[j]? = some (some (.ref p)) → False
  tb : G.tabs = ci.tabs
/-- an object of nobody's -/
structure Lone (G : Gh) (F P : Hp) (ρ : Env) (σ : L2.St) (p : Addr) : Prop where
  hf : F p = none
  hp : P p = none
  hr : ¬ reg G p
  hs : ∀ (i : Nat) d, ρ[i]? = some (.ow d) → σ[i]? = some (some (.ref p)) → False
end
section
variable {K : Frag} {ci : Ci} {G G' : Gh} {F F' P H H' : Hp} {ρ : Env} {σ : L2.St} {p : Addr} {d : D} {o : HO}
theorem Own.there (h : Own K ci G F H p d) : ∃ o, H p = some o := by
  cases d with
  | lst ds => obtain ⟨_, h, _⟩ := h; exact ⟨_, h⟩
  | dK ds => obtain ⟨_, h, _⟩ := h; exact ⟨_, h⟩
  | obj c ds => obtain ⟨_, _, h, _⟩ := h; exact ⟨_, h⟩
  | _ => exact h.elim
theorem Own.mono {G' : Gh} (l : Rc.Le (rc K ci G) (rc K ci G')) (e : Same F F') (hp : H' p = H p) (h : Own K ci G F H p d) : Own K ci G' F' H' p d := by
  cases d with
  | lst ds => obtain ⟨vs, h, r⟩ := h; exact ⟨vs, hp.trans h, RepL.mono l e r⟩
  | dK ds => obtain ⟨vs, h, r⟩ := h; exact ⟨vs, hp.trans h, RepK.mono l e r⟩
  | obj c ds => obtain ⟨dx, fs, h, n, r⟩ := h; exact ⟨dx, fs, hp.trans h, n, RepL.mono l e r⟩
  | _ => exact h.elim
/-- frozen: the object itself known from now on -/
theorem Own.rep (h : Own K ci G F H p d) (e : Same F F') (hp : ∀ o, H p = some o → F' p = some o) : Rep (rc K ci G) F' (.ref p) d := by
  cases d with
  | lst ds => obtain ⟨vs, h, r⟩ := h; exact .lst (hp _ h) (RepL.mono (Rc.Le.refl _) e r)
  | dK ds => obtain ⟨vs, h, r⟩ := h; exact .dK (hp _ h) (RepK.mono (Rc.Le.refl _) e r)
  | obj c ds => obtain ⟨dx, fs, h, n, r⟩ := h; exact .obj (hp _ h) n (RepL.mono (Rc.Le.refl _) e r)
  | _ => exact h.elim
theorem same_upd {H : Hp} {p : Addr} {o : HO} (h : H p = none) : Same H (upd H p o) := fun b x e => by
  rw [upd_ne (ne_of_none e h)]
  exact e
theorem SOk.same (s : SOk G F H) (e : Same H H') : SOk G F H' := ⟨s.tabs.ext e, s.fr, fun a g c q => by
  obtain ⟨gs, cs, r, t, h1, h2, h3, h⟩ := s.st a g c q
  exact ⟨gs, cs, r, t, e _ _ h1, e _ _ h2, e _ _ h3, h⟩⟩
/-- all that was tracked stays -/
theorem Rel.same (r : Rel K ci G F P ρ σ H) (e : Same H H') : Rel K ci G F P ρ σ H' where
  sf := r.sf.trans e
  sp := r.sp.trans e
  dj := r.dj
  rp := r.rp
  ok := r.ok.same e
  len := r.len
  sh := r.sh
  ow := fun i d h => by
    obtain ⟨p, h1, h2, h3⟩ := r.ow i d h
    obtain ⟨o, ho⟩ := h2.there
    exact ⟨p, h1, h2.mono (Rc.Le.refl _) (Same.refl _) ((e _ _ ho).trans ho.symm), h3⟩
  ap := r.ap
  tb := r.tb
/-- a new object is of nobody's -/
theorem Rel.lone (r : Rel K ci G F P ρ σ H) (hp : H p = none) : Lone G F P ρ σ p where
  hf := r.sf.free hp
  hp := r.sp.free hp
  hr := fun q => by
    obtain ⟨o, h⟩ := reg_there r.ok q
    rw [hp] at h
    cases h
  hs := fun i d h1 h2 => by
    obtain ⟨p', h3, h4, _⟩ := r.ow i d h1
    rw [h2] at h3
    cases h3
    obtain ⟨o, h⟩ := h4.there
    rw [hp] at h
    cases h
theorem Rel.new (r : Rel K ci G F P ρ σ H) (hp : H p = none) : Rel K ci G F P ρ σ (upd H p o) := r.same (same_upd hp)
/-- an object of nobody's is frozen -/
theorem Rel.freeze (r : Rel K ci G F P ρ σ H) (l : Lone G F P ρ σ p) (hp : H p = some o) : Rel K ci G (upd F p o) P ρ σ H where
  sf := fun b x e => by
    by_cases hb : b = p
    · subst hb; rw [upd_same] at e; rw [hp]; exact e
    · rw [upd_ne hb] at e; exact r.sf b x e
  sp := r.sp
  dj := fun b x e => by
    by_cases hb : b = p
    · subst hb; rw [l.hp] at e; cases e
    · rw [upd_ne hb]; exact r.dj b x e
  rp := r.rp
  ok := ⟨r.ok.tabs, fun b q => by
    by_cases hb : b = p
    · subst hb; exact (l.hr q).elim
    · rw [upd_ne hb]; exact r.ok.fr b q, r.ok.st⟩
  len := r.len
  sh := fun i d h => by
    obtain ⟨v, h1, h2⟩ := r.sh i d h
    exact ⟨v, h1, h2.mono (Rc.Le.refl _) (same_upd l.hf)⟩
  ow := fun i d h => by
    obtain ⟨q, h1, h2, h3, h4⟩ := r.ow i d h
    have ne : q ≠ p := fun e => l.hs i d h (by rw [← e]; exact h1)
    exact ⟨q, h1, h2.mono (Rc.Le.refl _) (same_upd l.hf) rfl, by rw [upd_ne ne]; exact h3, h4⟩
  ap := r.ap
  tb := r.tb
/-- read in passing: it lies among the frozen things, or a slot owns it -/
def Bor (K : Frag) (ci : Ci) (G : Gh) (F : Hp) (ρ : Env) (σ : L2.St) (v : V) (d : D) : Prop := Rep (rc K ci G) F v d ∨ ∃ i : Nat, ρ[i]? = some (.ow d) ∧ σ[i]? = some (some v)
theorem Bor.mono {v : V} (b : Bor K ci G F ρ σ v d) (l : Rc.Le (rc K ci G) (rc K ci G')) (e : Same F F') : Bor K ci G' F' ρ σ v d := b.elim (fun h => .inl (h.mono l e)) .inr
/-- as it lies now: by the heap itself -/
def Seen (K : Frag) (ci : Ci) (G : Gh) (F H : Hp) (v : V) (d : D) : Prop := Rep (rc K ci G) F v d ∨ ∃ p, v = .ref p ∧ Own K ci G F H p d
theorem Bor.seen {v : V} (b : Bor K ci G F ρ σ v d) (r : Rel K ci G F P ρ σ H) : Seen K ci G F H v d := by
  rcases b with b | ⟨i, h1, h2⟩
  · exact .inl b
  · obtain ⟨p, h3, h4, _⟩ := r.ow i d h1
    rw [h2] at h3
    cases h3
    exact .inr ⟨p, rfl, h4⟩
end
end DL
end
section
/-! DL2: the judgements, expressions. -/
set_option Elab.async false
set_option linter.all false
set_option autoImplicit false
set_option maxRecDepth 100000
set_option maxHeartbeats 1000000
namespace DL
open PySem PySem.Spec PyProof.Rows L2

/-! ### the judgements -/
/-- an error's class, its own dict -/
def XRep (K : Frag) (ci : Ci) (G : Gh) (F : Hp) (c : Nat) (fs : List D) (cv : Value) (dx : Option Addr) : Prop :=
  cv = .ref (ci.ca c) ∧ ((fs = [] ∧ dx = none) ∨ ∃ d a x v, fs = [d] ∧ dx = some a ∧ F a = some (.xd [(x, v)]) ∧ ci.fn c = [x] ∧ Rep (rc K ci G) F v d)
section
variable (K : Frag) (ci : Ci) (E : XK)
def XP (N : Nat) (G : Gh) (P F : Hp) (c : Nat) (fs : List D) : Prop :=
  ∀ G' F' H' cv dx, Gh.Le N G G' → Same F F' → Rel K ci G' F' P [] [] H' → XRep K ci G' F' c fs cv dx → E cv dx H'
/-- the ways a value may be wanted -/
inductive Md where
  | sh | own | bor
def Res (m : Md) (G : Gh) (F P : Hp) (ρ : Env) (σ : L2.St) (H : Hp) (v : V) (d : D) : Prop := match m with
  | .sh => Rep (rc K ci G) F v d
  | .own => ∃ p, v = .ref p ∧ Lone G F P ρ σ p ∧ Own K ci G F H p d
  | .bor => Bor K ci G F ρ σ v d
def Po (N : Nat) (m : Md) (G : Gh) (P F : Hp) (ρ : Env) (σ : L2.St) (Q : VK) : Out D → Prop
  | .ok d => ∀ G' F' H' v, Gh.Le N G G' → Same F F' → Rel K ci G' F' P ρ σ H' → Res K ci m G' F' P ρ σ H' v d → Q v H'
  | .exc c fs => XP K ci E N G P F c fs
def PoT (N : Nat) (G : Gh) (P F : Hp) (ρ : Env) (σ : L2.St) (Q : Bool → Hp → Prop) : Out Bool → Prop
  | .ok d => ∀ G' F' H', Gh.Le N G G' → Same F F' → Rel K ci G' F' P ρ σ H' → Q d H'
  | .exc c fs => XP K ci E N G P F c fs
def ResL (m : Md) (G : Gh) (F : Hp) (ρ : Env) (σ : L2.St) : List V → List D → Prop
  | [], [] => True
  | v :: vs, d :: ds => (match m with
    | .bor => Bor K ci G F ρ σ v d
    | _ => Rep (rc K ci G) F v d) ∧ ResL m G F ρ σ vs ds
  | _, _ => False
def PoA (N : Nat) (m : Md) (G : Gh) (P F : Hp) (ρ : Env) (σ : L2.St) (Q : List V → Hp → Prop) : Out (List D) → Prop
  | .ok ds => ∀ G' F' H' vs, Gh.Le N G G' → Same F F' → Rel K ci G' F' P ρ σ H' → ResL K ci m G' F' ρ σ vs ds → Q vs H'
  | .exc c fs => XP K ci E N G P F c fs
def tE (z : Nat) (m : Md) (d : XE) : TE := fun σ H Q => ∃ G P F ρ W, G.n + z ≤ top ∧ Rel K ci G F P ρ σ H ∧ d ρ W ∧ ∀ o, W o → Po K ci E (G.n + z) m G P F ρ σ Q o
def tT (z : Nat) (d : XT) : TT := fun σ H Q => ∃ G P F ρ W, G.n + z ≤ top ∧ Rel K ci G F P ρ σ H ∧ d ρ W ∧ ∀ o, W o → PoT K ci E (G.n + z) G P F ρ σ Q o
def tA (z : Nat) (m : Md) (d : XA) : TA := fun σ H Q => ∃ G P F ρ W, G.n + z ≤ top ∧ Rel K ci G F P ρ σ H ∧ d ρ W ∧ ∀ o, W o → PoA K ci E (G.n + z) m G P F ρ σ Q o
end
section
variable {K : Frag} {ci : Ci} {E : XK} {G G' G'' : Gh} {F F' P H H' : Hp} {ρ ρ' : Env} {σ : L2.St} {m : Md} {v : V} {d : D}
theorem XP.le {N N1 N2 : Nat} {c : Nat} {fs : List D} (h : XP K ci E N G P F c fs) (l : Gh.Le N1 G G') (e : Same F F') (hN : N2 ≤ N := by omega) : XP K ci E N2 G' P F' c fs :=
  fun G2 F2 H2 cv dx l2 e2 r x => h G2 F2 H2 cv dx ((l.trans l2).up hN) (e.trans e2) r x
theorem XP.lo {N N2 : Nat} {c : Nat} {fs : List D} (h : XP K ci E N G P F c fs) (hN : N2 ≤ N := by omega) : XP K ci E N2 G P F c fs :=
  fun G2 F2 H2 cv dx l2 e2 r x => h G2 F2 H2 cv dx (l2.up hN) e2 r x
theorem Po.le {N N1 N2 : Nat} {Q : VK} {o : Out D} (h : Po K ci E N m G P F ρ σ Q o) (l : Gh.Le N1 G G') (e : Same F F') (hN : N2 ≤ N := by omega) : Po K ci E N2 m G' P F' ρ σ Q o := by
  cases o with
  | ok d => exact fun G2 F2 H2 v l2 e2 r x => h G2 F2 H2 v ((l.trans l2).up hN) (e.trans e2) r x
  | exc c fs => exact XP.le h l e hN
theorem PoT.le {N N1 N2 : Nat} {Q : Bool → Hp → Prop} {o : Out Bool} (h : PoT K ci E N G P F ρ σ Q o) (l : Gh.Le N1 G G') (e : Same F F') (hN : N2 ≤ N := by omega) : PoT K ci E N2 G' P F' ρ σ Q o := by
  cases o with
  | ok d => exact fun G2 F2 H2 l2 e2 r => h G2 F2 H2 ((l.trans l2).up hN) (e.trans e2) r
  | exc c fs => exact XP.le h l e hN
theorem PoA.le {N N1 N2 : Nat} {Q : List V → Hp → Prop} {o : Out (List D)} (h : PoA K ci E N m G P F ρ σ Q o) (l : Gh.Le N1 G G') (e : Same F F') (hN : N2 ≤ N := by omega) : PoA K ci E N2 m G' P F' ρ σ Q o := by
  cases o with
  | ok d => exact fun G2 F2 H2 v l2 e2 r x => h G2 F2 H2 v ((l.trans l2).up hN) (e.trans e2) r x
  | exc c fs => exact XP.le h l e hN
theorem Po.to {N N1 : Nat} {Q : VK} {o : Out D} (h : Po K ci E N m G P F ρ σ Q o) (l : Gh.Le N1 G G') (e : Same F F') : Po K ci E N m G' P F' ρ σ Q o := Po.le h l e (Nat.le_refl _)
theorem Po.lo {N N2 : Nat} {Q : VK} {o : Out D} (h : Po K ci E N m G P F ρ σ Q o) (hN : N2 ≤ N := by omega) : Po K ci E N2 m G P F ρ σ Q o := by
  cases o with
  | ok d => exact fun G2 F2 H2 v l2 e2 r x => h G2 F2 H2 v (l2.up hN) e2 r x
  | exc c fs => exact XP.lo h hN
end
theorem _root_.L2.PE.imp {X : Cx} {e : Expr} {t t' : TE} (h : PE X e t) (i : ∀ σ H Q, t' σ H Q → t σ H Q) : PE X e t' := ⟨fun pins s σ H Q I q => h.run pins s σ H Q I (i σ H Q q)⟩
theorem _root_.L2.PT.imp {X : Cx} {e : Expr} {t t' : TT} (h : PT X e t) (i : ∀ σ H Q, t' σ H Q → t σ H Q) : PT X e t' := ⟨fun pins s σ H Q I q => h.run pins s σ H Q I (i σ H Q q)⟩
theorem _root_.L2.PA.imp {X : Cx} {e : List Expr} {t t' : TA} (h : PA X e t) (i : ∀ σ H Q, t' σ H Q → t σ H Q) : PA X e t' := ⟨fun pos pins s σ H Q I q => h.run pos pins s σ H Q I (i σ H Q q)⟩
theorem _root_.L2.PS.imp {X : Cx} {e : Stmt} {t t' : TS} (h : PS X e t) (i : ∀ D σ H, t' D σ H → t D σ H) : PS X e t' := ⟨fun pins s σ H D I q => h.run pins s σ H D I (i D σ H q)⟩
theorem _root_.L2.PSs.imp {X : Cx} {e : List Stmt} {t t' : TS} (h : PSs X e t) (i : ∀ D σ H, t' D σ H → t D σ H) : PSs X e t' := ⟨fun pins s σ H D I q => h.run pins s σ H D I (i D σ H q)⟩
section
variable (X : Cx) (ci : Ci) (E : XK)
/-- an expression's meaning; shared, owned, read in passing -/
abbrev DE (z : Nat) (e : Expr) (d : XE) : Prop := PE X e (tE X.K ci E z .sh d)
abbrev DO (z : Nat) (e : Expr) (d : XE) : Prop := PE X e (tE X.K ci E z .own d)
abbrev DB (z : Nat) (e : Expr) (d : XE) : Prop := PE X e (tE X.K ci E z .bor d)
abbrev DT (z : Nat) (e : Expr) (d : XT) : Prop := PT X e (tT X.K ci E z d)
abbrev DA (z : Nat) (es : List Expr) (d : XA) : Prop := PA X es (tA X.K ci E z .sh d)
abbrev DAB (z : Nat) (es : List Expr) (d : XA) : Prop := PA X es (tA X.K ci E z .bor d)
end
section
variable {X : Cx} {ci : Ci} {E : XK} {e a b : Expr} {d da db : XE} {pos : Pos} {z0 za zb N : Nat}
theorem getSh_ok {ρ : Env} {i : Nat} {W : Out D → Prop} (h : getSh ρ i W) : ∃ d, ρ[i]? = some (.sh d) ∧ W (.ok d) := by
  unfold getSh at h
  cases q : ρ[i]? with
  | none => rw [q] at h; exact (show False from h).elim
  | some s =>
    rw [q] at h
    cases s with
    | sh d => exact ⟨d, rfl, h⟩
    | _ => exact (show False from h).elim
theorem getOw_ok {ρ : Env} {i : Nat} {W : Out D → Prop} (h : getOw ρ i W) : ∃ d, ρ[i]? = some (.ow d) ∧ W (.ok d) := by
  unfold getOw at h
  cases q : ρ[i]? with
  | none => rw [q] at h; exact (show False from h).elim
  | some s =>
    rw [q] at h
    cases s with
    | ow d => exact ⟨d, rfl, h⟩
    | _ => exact (show False from h).elim
theorem getAny_ok {ρ : Env} {i : Nat} {W : Out D → Prop} (h : getAny ρ i W) : (∃ d, ρ[i]? = some (.sh d) ∧ W (.ok d)) ∨ ∃ d, ρ[i]? = some (.ow d) ∧ W (.ok d) := by
  unfold getAny at h
  cases q : ρ[i]? with
  | none => rw [q] at h; exact (show False from h).elim
  | some s =>
    rw [q] at h
    cases s with
    | sh d => exact .inl ⟨d, rfl, h⟩
    | ow d => exact .inr ⟨d, rfl, h⟩
    | _ => exact (show False from h).elim
theorem get_ok {α : Type} {o : Option α} {W : Out α → Prop} (h : M.get o W) : ∃ a, o = some a ∧ W (.ok a) := by
  cases o with
  | none => exact (show False from h).elim
  | some a => exact ⟨a, rfl, h⟩
/-! ### from one way to another -/
theorem DE.toB (h : DE X ci E z0 e d) : DB X ci E z0 e d := h.imp fun σ H Q ⟨G, P, F, ρ, W, bd, r, hd, hw⟩ => ⟨G, P, F, ρ, W, by omega, r, hd, fun o ho => by
  have q := hw o ho
  cases o with
  | ok d => exact fun G' F' H' v l s r' x => q G' F' H' v l s r' (.inl x)
  | exc c fs => exact q⟩
theorem DO.toE (h : DO X ci E z0 e d) : DE X ci E z0 e d := h.imp fun σ H Q ⟨G, P, F, ρ, W, bd, r, hd, hw⟩ => ⟨G, P, F, ρ, W, by omega, r, hd, fun o ho => by
  have q := hw o ho
  cases o with
  | ok d =>
    intro G' F' H' v l s r' x
    obtain ⟨p, rfl, lo, ow⟩ := x
    obtain ⟨ob, hob⟩ := ow.there
    exact q G' (upd F' p ob) H' _ l (s.trans (same_upd lo.hf)) (r'.freeze lo hob) (ow.rep (same_upd lo.hf) fun o' h' => by rw [upd_same, ← hob, h'])
  | exc c fs => exact q⟩
theorem DO.toB (h : DO X ci E z0 e d) : DB X ci E z0 e d := DE.toB (DO.toE h)
/-! ### names, constants -/
theorem de_var {i : Nat} {x : Str} (hN : X.N[i]? = some x := by rfl) (hv : Vis X.env.scope x := by first | exact Or.inl rfl | exact Or.inr (Or.inl rfl) | exact Or.inr (Or.inr rfl)) (hd : (x == ("__debug__" : Str)) = false := by decide)
    (hcd : (x == ("__classdict__" : Str)) = false := by decide) : DE X ci E 0 (.Name x pos) (dVar i) := (pe_var hN hv hd hcd).imp fun σ H Q ⟨G, P, F, ρ, W, bd, r, hd, hw⟩ => by
  obtain ⟨d, h, hd⟩ := getSh_ok (show getSh ρ i W from hd)
  obtain ⟨v, h1, h2⟩ := r.sh i d h
  exact ⟨v, h1, hw _ hd G F H v (Gh.Le.refl G) (Same.refl F) r h2⟩
theorem db_var {i : Nat} {x : Str} (hN : X.N[i]? = some x := by rfl) (hv : Vis X.env.scope x := by first | exact Or.inl rfl | exact Or.inr (Or.inl rfl) | exact Or.inr (Or.inr rfl)) (hd : (x == ("__debug__" : Str)) = false := by decide)
    (hcd : (x == ("__classdict__" : Str)) = false := by decide) : DB X ci E 0 (.Name x pos) (dAny i) := (pe_var hN hv hd hcd).imp fun σ H Q ⟨G, P, F, ρ, W, bd, r, hd, hw⟩ => by
  rcases getAny_ok (show getAny ρ i W from hd) with ⟨d, h, hd⟩ | ⟨d, h, hd⟩
  · obtain ⟨v, h1, h2⟩ := r.sh i d h
    exact ⟨v, h1, hw _ hd G F H v (Gh.Le.refl G) (Same.refl F) r (.inl h2)⟩
  · obtain ⟨p, h1, h2⟩ := r.ow i d h
    exact ⟨.ref p, h1, hw _ hd G F H _ (Gh.Le.refl G) (Same.refl F) r (.inr ⟨i, h, h1⟩)⟩
theorem de_c {v : V} {d : D} (h : PE X e (tC v)) (hr : ∀ R F, Rep R F v d) : DE X ci E 0 e (dC d) := h.imp fun σ H Q ⟨G, P, F, ρ, W, bd, r, hd, hw⟩ =>
  hw _ hd G F H v (Gh.Le.refl G) (Same.refl F) r (hr _ _)
theorem de_int {i j} : DE X ci E 0 (.Constant (.int i) j pos) (dC (.int i)) := de_c pe_int fun _ _ => .int i
theorem de_bl {i j} : DE X ci E 0 (.Constant (.bool i) j pos) (dC (.bl i)) := de_c pe_bl fun _ _ => .bl i
theorem de_non {j} : DE X ci E 0 (.Constant .none j pos) (dC .non) := de_c pe_non fun _ _ => .non
theorem de_str {i j} : DE X ci E 0 (.Constant (.str i) j pos) (dC (.str i)) := de_c pe_str fun _ _ => .str i
theorem de_glob {x : Str} {i : Int} {t : Tok} (hg : Gl X x) (hm : X.mg x = some (.int i t)) (hd : (x == ("__debug__" : Str)) = false := by decide) : DE X ci E 0 (.Name x pos) (dC (.int i)) :=
  de_c (pe_glob (v := .int i) hg hm ⟨t, rfl⟩ hd) fun _ _ => .int i

/-! ### operators -/
variable {ma mb mr : Md}
/-- what an operator's rule asks of the meaning -/
def OpD (K : Frag) (ci : Ci) (E : XK) (ma mb mr : Md) (r : R2) (f : D → D → M D) : Prop :=
  ∀ (N : Nat) (G : Gh) (F P : Hp) (ρ : Env) (σ : L2.St) (H : Hp) (x y : V) (a b : D) (W : Out D → Prop) (Q : VK), G.n ≤ N → Rel K ci G F P ρ σ H → Res K ci ma G F P ρ σ H x a → Res K ci mb G F P ρ σ H y b → f a b W → (∀ o, W o → Po K ci E N mr G P F ρ σ Q o) → r x y H Q
def UnD (K : Frag) (ci : Ci) (E : XK) (ma mr : Md) (r : V → Hp → VK → Prop) (f : D → M D) : Prop :=
  ∀ (N : Nat) (G : Gh) (F P : Hp) (ρ : Env) (σ : L2.St) (H : Hp) (x : V) (a : D) (W : Out D → Prop) (Q : VK), G.n ≤ N → Rel K ci G F P ρ σ H → Res K ci ma G F P ρ σ H x a → f a W → (∀ o, W o → Po K ci E N mr G P F ρ σ Q o) → r x H Q
/-- what was told of the first holds behind the second -/
theorem Res.later {K : Frag} {G G' : Gh} {F F' P H H' : Hp} {ρ : Env} {σ : L2.St} {x : V} {a : D} (hm : ma ≠ .own) (h : Res K ci ma G F P ρ σ H x a) (l : Gh.Le N G G') (s : Same F F') : Res K ci ma G' F' P ρ σ H' x a := by
  cases ma with
  | sh => exact Rep.mono (rc_le K ci l) s h
  | own => exact (hm rfl).elim
  | bor => exact Bor.mono h (rc_le K ci l) s
theorem op2_imp {r : R2} {f : D → D → M D} {K : Frag} (hf : OpD K ci E ma mb mr r f) (hm : ma ≠ .own) (σ : L2.St) (H : Hp) (Q : VK) (h : tE K ci E (za + zb) mr (d2 f da db) σ H Q) : L2.tOp r (tE K ci E za ma da) (tE K ci E zb mb db) σ H Q := by
  obtain ⟨G, P, F, ρ, W, bd, rel, hd, hw⟩ := h
  refine ⟨G, P, F, ρ, _, by omega, rel, hd, fun o ho => ?_⟩
  cases o with
  | exc c fs => exact XP.lo (hw _ ho)
  | ok a =>
    intro G1 F1 H1 v l1 s1 r1 x1
    refine ⟨G1, P, F1, ρ, _, by omega, r1, ho, fun o ho => ?_⟩
    cases o with
    | exc c fs => exact XP.le (hw _ ho) l1 s1
    | ok b =>
      intro G2 F2 H2 u l2 s2 r2 x2
      exact hf (G.n + (za + zb)) G2 F2 P ρ σ H2 v u a b W Q (by omega) r2 (x1.later hm l2 s2) x2 ho fun o ho => (hw o ho).le (l1.trans l2) (s1.trans s2)
theorem op1_imp {r : V → Hp → VK → Prop} {f : D → M D} {K : Frag} (hf : UnD K ci E ma mr r f) (σ : L2.St) (H : Hp) (Q : VK) (h : tE K ci E za mr (d1 f da) σ H Q) : tE K ci E za ma da σ H (fun x H1 => r x H1 Q) := by
  obtain ⟨G, P, F, ρ, W, bd, rel, hd, hw⟩ := h
  refine ⟨G, P, F, ρ, _, by omega, rel, hd, fun o ho => ?_⟩
  cases o with
  | exc c fs => exact XP.lo (hw _ ho)
  | ok a =>
    intro G1 F1 H1 v l1 s1 r1 x1
    exact hf (G.n + za) G1 F1 P ρ σ H1 v a W Q (by omega) r1 x1 ho fun o ho => (hw o ho).le l1 s1
/-- a value that is not new -/
theorem Po.val {K : Frag} {G : Gh} {F P H : Hp} {ρ : Env} {σ : L2.St} {Q : VK} {v : V} {d : D} (h : Po K ci E N .sh G P F ρ σ Q (.ok d)) (r : Rel K ci G F P ρ σ H) (x : Rep (rc K ci G) F v d) (hN : G.n ≤ N := by omega) : Q v H :=
  h G F H v (Gh.Le.refl G) (Same.refl F) r x
/-- a new object, owned -/
theorem Po.make {K : Frag} {G : Gh} {F P H : Hp} {ρ : Env} {σ : L2.St} {Q : VK} {p : Addr} {o : HO} {d : D} (h : Po K ci E N .own G P F ρ σ Q (.ok d)) (r : Rel K ci G F P ρ σ H) (hp : H p = none) (x : Own K ci G F (upd H p o) p d) (hN : G.n ≤ N := by omega) : Q (.ref p) (upd H p o) :=
  h G F _ _ (Gh.Le.refl G) (Same.refl F) (r.new hp) ⟨p, rfl, r.lone hp, x⟩
/-- a new object, frozen at once -/
theorem Po.makeS {K : Frag} {G : Gh} {F P H : Hp} {ρ : Env} {σ : L2.St} {Q : VK} {p : Addr} {o : HO} {d : D} (h : Po K ci E N .sh G P F ρ σ Q (.ok d)) (r : Rel K ci G F P ρ σ H) (hp : H p = none) (x : Rep (rc K ci G) (upd F p o) (.ref p) d) (hN : G.n ≤ N := by omega) : Q (.ref p) (upd H p o) :=
  h G (upd F p o) _ _ (Gh.Le.refl G) (same_upd (r.lone hp).hf) ((r.new hp).freeze (r.lone hp) upd_same) x
theorem Res.seen {K : Frag} {G : Gh} {F P H : Hp} {ρ : Env} {σ : L2.St} {x : V} {a : D} (h : Res K ci ma G F P ρ σ H x a) (r : Rel K ci G F P ρ σ H) : Seen K ci G F H x a := by
  cases ma with
  | sh => exact .inl h
  | own => obtain ⟨p, rfl, _, h⟩ := h; exact .inr ⟨p, rfl, h⟩
  | bor => exact Bor.seen h r
theorem Seen.int {K : Frag} {G : Gh} {F H : Hp} {x : V} {i : Int} (h : Seen K ci G F H x (.int i)) : x = .int i := by
  rcases h with h | ⟨p, _, h⟩
  · cases h; rfl
  · exact h.elim
theorem Seen.bl {K : Frag} {G : Gh} {F H : Hp} {x : V} {i : Bool} (h : Seen K ci G F H x (.bl i)) : x = .bl i := by
  rcases h with h | ⟨p, _, h⟩
  · cases h; rfl
  · exact h.elim
theorem Seen.str {K : Frag} {G : Gh} {F H : Hp} {x : V} {i : Str} (h : Seen K ci G F H x (.str i)) : x = .str i := by
  rcases h with h | ⟨p, _, h⟩
  · cases h; rfl
  · exact h.elim
theorem Seen.non {K : Frag} {G : Gh} {F H : Hp} {x : V} (h : Seen K ci G F H x .non) : x = .non := by
  rcases h with h | ⟨p, _, h⟩
  · cases h; rfl
  · exact h.elim
theorem Seen.lst {K : Frag} {G : Gh} {F H : Hp} {x : V} {ds : List D} (h : Seen K ci G F H x (.lst ds)) (s : Same F H) : ∃ p vs, x = .ref p ∧ H p = some (.lst vs) ∧ RepL (rc K ci G) F vs ds := by
  rcases h with h | ⟨p, rfl, vs, h, r⟩
  · cases h with
    | lst h r => exact ⟨_, _, rfl, s _ _ h, r⟩
  · exact ⟨p, vs, rfl, h, r⟩
theorem Seen.tup {K : Frag} {G : Gh} {F H : Hp} {x : V} {ds : List D} (h : Seen K ci G F H x (.tup ds)) (s : Same F H) : ∃ p vs, x = .ref p ∧ SqT K H p vs ∧ RepL (rc K ci G) F vs ds := by
  rcases h with h | ⟨p, _, h⟩
  · cases h with
    | tup h r => exact ⟨_, _, rfl, sqT_mono s h, r⟩
  · exact h.elim
/-- two ints in, a value out -/
theorem opD_I0 {g : Int → Int → V} {f : D → D → M D} {g' : Int → Int → D} (hg : ∀ i j R F, Rep R F (g i j) (g' i j)) (hf : ∀ a b W, f a b W → (∃ i j, a = .int i ∧ b = .int j ∧ W (.ok (g' i j)))) {K : Frag} : OpD K ci E ma mb .sh (rI0 g) f := by
  intro N G F P ρ σ H x y a b W Q hN r ha hb h hw
  obtain ⟨i, j, rfl, rfl, h2⟩ := hf a b W h
  exact ⟨i, j, (ha.seen r).int, (hb.seen r).int, (hw _ h2).val r (hg i j _ _)⟩
theorem opD_I {C : Int → Int → Prop} {g : Int → Int → V} {f : D → D → M D} {g' : Int → Int → D} (hg : ∀ i j R F, Rep R F (g i j) (g' i j)) (hf : ∀ a b W, f a b W → (∃ i j, a = .int i ∧ b = .int j ∧ C i j ∧ W (.ok (g' i j)))) {K : Frag} : OpD K ci E ma mb .sh (rI C g) f := by
  intro N G F P ρ σ H x y a b W Q hN r ha hb h hw
  obtain ⟨i, j, rfl, rfl, hc, h2⟩ := hf a b W h
  exact ⟨i, j, (ha.seen r).int, (hb.seen r).int, hc, (hw _ h2).val r (hg i j _ _)⟩
theorem dop {op : Operator} {r : R2} {f : D → D → M D} (ho : OpR X (binaryOp op) r) (hf : OpD X.K ci E .bor .bor .sh r f) (ha : DB X ci E za a da) (hb : DB X ci E zb b db) : DE X ci E (za + zb) (.BinOp a op b pos) (d2 f da db) :=
  (pe_op ho ha hb).imp (op2_imp hf (by intro h; cases h))
theorem dopO {op : Operator} {r : R2} {f : D → D → M D} (ho : OpR X (binaryOp op) r) (hf : OpD X.K ci E .bor .bor .own r f) (ha : DB X ci E za a da) (hb : DB X ci E zb b db) : DO X ci E (za + zb) (.BinOp a op b pos) (d2 f da db) :=
  (pe_op ho ha hb).imp (op2_imp hf (by intro h; cases h))
theorem de_sub (ha : DB X ci E za a da) (hb : DB X ci E zb b db) : DE X ci E (za + zb) (.BinOp a .Sub b pos) (d2 subM da db) :=
  dop op_sub (opD_I0 (g' := fun i j => .int (i - j)) (fun _ _ _ _ => .int _) fun a b W h => by
    cases a <;> cases b <;> first | exact ⟨_, _, rfl, rfl, h⟩ | exact (show False from h).elim) ha hb
theorem de_mul (ha : DB X ci E za a da) (hb : DB X ci E zb b db) : DE X ci E (za + zb) (.BinOp a .Mult b pos) (d2 mulM da db) :=
  dop op_mul (opD_I (g' := fun i j => .int (i * j)) (fun _ _ _ _ => .int _) fun a b W h => by
    cases a <;> cases b <;> first | exact ⟨_, _, rfl, rfl, h.1, h.2⟩ | exact (show False from h).elim) ha hb
theorem de_mod (ha : DB X ci E za a da) (hb : DB X ci E zb b db) : DE X ci E (za + zb) (.BinOp a .Mod b pos) (d2 modM da db) :=
  dop op_mod (opD_I (g' := fun i j => .int (i % j)) (fun _ _ _ _ => .int _) fun a b W h => by
    cases a <;> cases b <;> first | exact ⟨_, _, rfl, rfl, h.1, h.2⟩ | exact (show False from h).elim) ha hb
theorem de_fdiv (ha : DB X ci E za a da) (hb : DB X ci E zb b db) : DE X ci E (za + zb) (.BinOp a .FloorDiv b pos) (d2 fdivM da db) :=
  dop op_fdiv (opD_I (g' := fun i j => .int (i / j)) (fun _ _ _ _ => .int _) fun a b W h => by
    cases a <;> cases b <;> first | exact ⟨_, _, rfl, rfl, h.1, h.2⟩ | exact (show False from h).elim) ha hb
theorem de_pow (ha : DB X ci E za a da) (hb : DB X ci E zb b db) : DE X ci E (za + zb) (.BinOp a .Pow b pos) (d2 powM da db) :=
  dop op_pow (opD_I (g' := fun i j => .int (i ^ j.toNat)) (fun _ _ _ _ => .int _) fun a b W h => by
    cases a <;> cases b <;> first | exact ⟨_, _, rfl, rfl, h.1, h.2⟩ | exact (show False from h).elim) ha hb
end
end DL
end
section
/-! DL3: more expressions: operators, comparisons, items, slices, built-ins, displays. -/
set_option Elab.async false
set_option linter.all false
set_option autoImplicit false
set_option maxRecDepth 100000
set_option maxHeartbeats 1000000
namespace DL
open PySem PySem.Spec PyProof.Rows L2
/-! ### plain data -/
mutual
def py : D → PyData
  | .non => .none
  | .bl b => .bool b
  | .int i => .int i
  | .str x => .str x
  | .lst ds => .list (pyL ds)
  | .tup ds => .tuple (pyL ds)
  | _ => .none
def pyL : List D → List PyData
  | [] => []
  | d :: ds => py d :: pyL ds
end
mutual
theorem okD_lay : ∀ (n : Nat) (d : D), okD n d = true → (py d).canLay0 = true ∧ (py d).depth ≤ n
  | _, .non, _ => ⟨rfl, Nat.zero_le _⟩
  | _, .bl _, _ => ⟨rfl, Nat.zero_le _⟩
  | _, .int _, _ => ⟨rfl, Nat.zero_le _⟩
  | n, .str x, h => ⟨by
      have h : x.cps.all (· < 0x110000) = true := by cases n <;> simpa [okD] using h
      exact h, Nat.zero_le _⟩
  | n + 1, .lst ds, h => by
    have h : okL n ds = true := by simpa [okD] using h
    obtain ⟨h1, h2⟩ := okL_lay n ds h
    exact ⟨h1, Nat.succ_le_succ h2⟩
  | n + 1, .tup ds, h => by
    have h : okL n ds = true := by simpa [okD] using h
    obtain ⟨h1, h2⟩ := okL_lay n ds h
    exact ⟨h1, Nat.succ_le_succ h2⟩
  | 0, .lst _, h => by simp [okD] at h
  | 0, .tup _, h => by simp [okD] at h
  | n, .dK _, h => by cases n <;> simp [okD] at h
  | n, .dT _, h => by cases n <;> simp [okD] at h
  | n, .set _, h => by cases n <;> simp [okD] at h
  | n, .obj _ _, h => by cases n <;> simp [okD] at h
  | n, .exc _ _, h => by cases n <;> simp [okD] at h
  | n, .clo _ _, h => by cases n <;> simp [okD] at h
  | n, .scr _, h => by cases n <;> simp [okD] at h
  | n, .st, h => by cases n <;> simp [okD] at h
theorem okL_lay : ∀ (n : Nat) (ds : List D), okL n ds = true → PyData.canLayAll0 (pyL ds) = true ∧ PyData.depthAll (pyL ds) ≤ n
  | _, [], _ => ⟨rfl, Nat.zero_le _⟩
  | n, d :: ds, h => by
    have h : okD n d = true ∧ okL n ds = true := by simpa [okL] using h
    obtain ⟨h1, h2⟩ := okD_lay n d h.1
    obtain ⟨h3, h4⟩ := okL_lay n ds h.2
    refine ⟨?_, ?_⟩
    · show ((py d).canLay0 && PyData.canLayAll0 (pyL ds)) = true
      rw [h1, h3]
      rfl
    · show max (py d).depth (PyData.depthAll (pyL ds)) ≤ n
      omega
end
theorem okD_shaped {d : D} {n : Nat} (h : okD n d = true) (hn : n ≤ 64) : SeqAt.shaped (py d) = true := by
  obtain ⟨h1, h2⟩ := okD_lay n d h
  unfold SeqAt.shaped
  rw [h1, decide_eq_true (by omega)]
  rfl
section
variable {K : Frag} {ci : Ci} {G : Gh} {F H : Hp}
mutual
theorem Rep.dp (s : Same F H) : ∀ {n : Nat} {v : V} {d : D}, Rep (rc K ci G) F v d → okD n d = true → Dp K H v (py d)
  | _, _, _, .non, _ => .non
  | _, _, _, .bl b, _ => .bl b
  | _, _, _, .int b, _ => .int b
  | _, _, _, .str b, _ => .str b
  | n + 1, _, _, .lst h r, k => .lst (SqL.of (s _ _ h)) (RepL.dp s (n := n) r (by simpa [okD] using k))
  | n + 1, _, _, .tup h r, k => .tup (sqT_mono s h) (RepL.dp s (n := n) r (by simpa [okD] using k))
  | 0, _, _, .lst _ _, k => by simp [okD] at k
  | 0, _, _, .tup _ _, k => by simp [okD] at k
  | n, _, _, .dK _ _, k => by cases n <;> simp [okD] at k
  | n, _, _, .set _ _ _, k => by cases n <;> simp [okD] at k
  | n, _, _, .obj _ _ _, k => by cases n <;> simp [okD] at k
  | n, _, _, .exc0 _, k => by cases n <;> simp [okD] at k
  | n, _, _, .exc1 _ _ _ _, k => by cases n <;> simp [okD] at k
  | n, _, _, .clo _ _, k => by cases n <;> simp [okD] at k
  | n, _, _, .scr _, k => by cases n <;> simp [okD] at k
  | n, _, _, .st _, k => by cases n <;> simp [okD] at k
theorem RepL.dp (s : Same F H) : ∀ {n : Nat} {vs : List V} {ds : List D}, RepL (rc K ci G) F vs ds → okL n ds = true → DpAll K H vs (pyL ds)
  | _, _, _, .nil, _ => .nil
  | n, _, d :: ds, .cons h r, k => by
    have k : okD n d = true ∧ okL n ds = true := by simpa [okL] using k
    exact .cons (Rep.dp s h k.1) (RepL.dp s r k.2)
end
theorem Seen.dp {x : V} {d : D} {n : Nat} (h : Seen K ci G F H x d) (s : Same F H) (k : okD n d = true) : Dp K H x (py d) := by
  rcases h with h | ⟨p, rfl, h⟩
  · exact h.dp s k
  · cases d with
    | lst ds =>
      obtain ⟨vs, h, r⟩ := h
      cases n with
      | zero => simp [okD] at k
      | succ n => exact .lst (SqL.of h) (RepL.dp s (n := n) r (by simpa [okD] using k))
    | dK ds => cases n <;> simp [okD] at k
    | obj c ds => cases n <;> simp [okD] at k
    | _ => exact h.elim
mutual
theorem eqv_py : ∀ {n m : Nat} {a b : D}, okD n a = true → okD m b = true → PyData.eqv (py a) (py b) = eqv a b
  | n, m, a, b, ha, hb => by
    cases a <;> cases b <;> first
      | rfl
      | (cases n <;> simp [okD] at ha; done)
      | (cases m <;> simp [okD] at hb; done)
      | skip
    · rename_i xs ys
      cases n with
      | zero => simp [okD] at ha
      | succ n => cases m with
        | zero => simp [okD] at hb
        | succ m => exact eqvL_py (n := n) (m := m) (by simpa [okD] using ha) (by simpa [okD] using hb)
    · rename_i xs ys
      cases n with
      | zero => simp [okD] at ha
      | succ n => cases m with
        | zero => simp [okD] at hb
        | succ m => exact eqvL_py (n := n) (m := m) (by simpa [okD] using ha) (by simpa [okD] using hb)
theorem eqvL_py : ∀ {n m : Nat} {as bs : List D}, okL n as = true → okL m bs = true → PyData.eqvAll (pyL as) (pyL bs) = eqvL as bs
  | n, m, [], [], _, _ => rfl
  | n, m, [], _ :: _, _, _ => rfl
  | n, m, _ :: _, [], _, _ => rfl
  | n, m, a :: as, b :: bs, ha, hb => by
    have ha : okD n a = true ∧ okL n as = true := by simpa [okL] using ha
    have hb : okD m b = true ∧ okL m bs = true := by simpa [okL] using hb
    show (PyData.eqv (py a) (py b) && PyData.eqvAll (pyL as) (pyL bs)) = (eqv a b && eqvL as bs)
    rw [eqv_py ha.1 hb.1, eqvL_py ha.2 hb.2]
end
end
theorem Seen.repT {K : Frag} {ci : Ci} {G : Gh} {F H : Hp} {x : V} {ds : List D} (h : Seen K ci G F H x (.tup ds)) : Rep (rc K ci G) F x (.tup ds) := by
  rcases h with h | ⟨p, _, h⟩
  · exact h
  · exact h.elim
/-! ### +, comparisons -/
section
variable {X : Cx} {ci : Ci} {E : XK} {e a b : Expr} {d da db : XE} {pos : Pos} {ma mb : Md} {z0 za zb zc zr zl zh N : Nat}
def rAdd4 (K : Frag) : R2 := fun x y H Q => rI0 (fun i j => .int (i + j)) x y H Q ∨ rCat x y H Q ∨ rCatT K x y H Q ∨ ∃ i j, x = .str i ∧ y = .str j ∧ i.length + j.length ≤ sizeLine ∧ Q (.str (i ++ j)) H
theorem op_add4 : OpR X (binaryOp .Add) (rAdd4 X.K) := op_add.or (op_cat.or (op_catT.or op_add_str))
theorem opD_add {K : Frag} : OpD K ci E ma mb .sh (rAdd4 K) addM := by
  intro N G F P ρ σ H x y a b W Q hN r ha hb h hw
  have sa := ha.seen r
  have sb := hb.seen r
  cases a <;> cases b <;> first | exact (show False from h).elim | skip
  · exact .inl ⟨_, _, sa.int, sb.int, (hw _ h).val r (.int _)⟩
  · rw [sa.str, sb.str]
    exact .inr (.inr (.inr ⟨_, _, rfl, rfl, h.1, (hw _ h.2).val r (.str _)⟩))
  · obtain ⟨p, vs, rfl, hp, rp⟩ := sa.lst r.sf
    obtain ⟨q, ws, rfl, hq, rq⟩ := sb.lst r.sf
    refine .inr (.inl ⟨p, q, vs, ws, rfl, rfl, hp, hq, ?_, fun l hl => ?_⟩)
    · rw [rp.length, rq.length]; exact h.1
    · exact (hw _ h.2).makeS r hl (.lst upd_same ((rp.append rq).mono (Rc.Le.refl _) (same_upd (r.lone hl).hf)))
  · have ra := sa.repT
    obtain ⟨p, vs, rfl, hp, rp⟩ := sa.tup r.sf
    obtain ⟨q, ws, rfl, hq, rq⟩ := sb.tup r.sf
    obtain ⟨⟨hne, hl⟩, hW⟩ := h
    have e1 := rp.length
    have e2 := rq.length
    refine .inr (.inr (.inl ⟨p, q, vs, ws, rfl, rfl, hp, hq, ?_, ?_, fun z => ?_, fun z l hl => ?_⟩))
    · intro z
      rw [z] at e1
      exact hne (List.length_eq_zero_iff.mp e1.symm)
    · rw [e1, e2]; exact hl
    · rw [z] at rq
      cases rq
      rw [List.append_nil] at hW
      exact (hw _ hW).val r ra
    · exact (hw _ hW).makeS r hl (.tup (.inl (.inl upd_same)) ((rp.append rq).mono (Rc.Le.refl _) (same_upd (r.lone hl).hf)))
theorem de_add (ha : DB X ci E za a da) (hb : DB X ci E zb b db) : DE X ci E (za + zb) (.BinOp a .Add b pos) (d2 addM da db) := dop op_add4 opD_add ha hb
theorem opD_addL {K : Frag} : OpD K ci E ma mb .own rCat addLM := by
  intro N G F P ρ σ H x y a b W Q hN r ha hb h hw
  have sa := ha.seen r
  have sb := hb.seen r
  cases a <;> cases b <;> first | exact (show False from h).elim | skip
  obtain ⟨p, vs, rfl, hp, rp⟩ := sa.lst r.sf
  obtain ⟨q, ws, rfl, hq, rq⟩ := sb.lst r.sf
  refine ⟨p, q, vs, ws, rfl, rfl, hp, hq, ?_, fun l hl => ?_⟩
  · rw [rp.length, rq.length]; exact h.1
  · exact (hw _ h.2).make r hl ⟨_, upd_same, rp.append rq⟩
/-- a list and a list, the new one owned -/
theorem do_add (ha : DB X ci E za a da) (hb : DB X ci E zb b db) : DO X ci E (za + zb) (.BinOp a .Add b pos) (d2 addLM da db) := dopO op_cat opD_addL ha hb
/-! comparisons as values and as tests -/
theorem dcmp {op : CmpOp} {r : R2} {f : D → D → M D} (ho : OpR X (compareOp op) r) (hf : OpD X.K ci E .bor .bor .sh r f) (ha : DB X ci E za a da) (hb : DB X ci E zb b db) (hm : behindInMarks op b = false) : DE X ci E (za + zb) (.Compare a [op] [b] pos) (d2 f da db) :=
  (pe_cmpR ho ha hb hm).imp (op2_imp hf (by intro h; cases h))
theorem tTest_imp {K : Frag} {t : TE} {d : XE} (h : ∀ σ H Q, tE K ci E z0 .sh d σ H Q → t σ H Q) (σ : L2.St) (H : Hp) (Q : Bool → Hp → Prop) (q : tT K ci E z0 (tOf d) σ H Q) : L2.tTest t σ H Q := by
  obtain ⟨G, P, F, ρ, W, bd, rel, hd, hw⟩ := q
  refine h σ H _ ⟨G, P, F, ρ, _, by omega, rel, hd, fun o ho => ?_⟩
  cases o with
  | exc c fs => exact XP.lo (hw _ ho)
  | ok a =>
    intro G1 F1 H1 v l1 s1 r1 x1
    obtain ⟨b, hb, ho⟩ := get_ok (show M.get (asBl a) W from ho)
    cases a with
    | bl c =>
      cases hb
      cases x1
      exact ⟨_, rfl, hw _ ho G1 F1 H1 l1.up s1 r1⟩
    | _ => cases hb
theorem tcmp {op : CmpOp} {r : R2} {f : D → D → M D} (ho : OpR X (compareOp op) r) (hf : OpD X.K ci E .bor .bor .sh r f) (ha : DB X ci E za a da) (hb : DB X ci E zb b db) (hm : behindInMarks op b = false) : DT X ci E (za + zb) (.Compare a [op] [b] pos) (tOf (d2 f da db)) :=
  (pt_cmpR ho ha hb hm).imp (tTest_imp (op2_imp hf (by intro h; cases h)))
/-- an expression that gives a truth, as a test -/
theorem dt_val (h : DE X ci E z0 e d) (he : ∀ whole, isTrue e X.env whole = (do let v ← whole; standAt e.pos; holding [v] (truthy v)) := by intro _; rfl) : DT X ci E z0 e (tOf d) :=
  (pt_val h he).imp (tTest_imp fun _ _ _ q => q)
theorem opD_eq {K : Frag} : OpD K ci E ma mb .sh (rEqD K) eqM := by
  intro N G F P ρ σ H x y a b W Q hN r ha hb h hw
  obtain ⟨⟨h1, h2⟩, h⟩ := h
  refine ⟨py a, py b, (ha.seen r).dp r.sf h1, (hb.seen r).dp r.sf h2, okD_shaped h1 (Nat.le_refl _), okD_shaped h2 (Nat.le_refl _), ?_⟩
  rw [eqv_py h1 h2]
  exact (hw _ h).val r (.bl _)
theorem opD_ne {K : Frag} : OpD K ci E ma mb .sh (rNeD K) neM := by
  intro N G F P ρ σ H x y a b W Q hN r ha hb h hw
  obtain ⟨⟨h1, h2⟩, h⟩ := h
  refine ⟨py a, py b, (ha.seen r).dp r.sf h1, (hb.seen r).dp r.sf h2, okD_shaped h1 (Nat.le_refl _), okD_shaped h2 (Nat.le_refl _), ?_⟩
  rw [eqv_py h1 h2]
  exact (hw _ h).val r (.bl _)
theorem de_eq (hu : X.A.units + 64 < cLine) (ha : DB X ci E za a da) (hb : DB X ci E zb b db) : DE X ci E (za + zb) (.Compare a [.Eq] [b] pos) (d2 eqM da db) := dcmp (op_eqD hu) opD_eq ha hb (nomark _)
theorem de_ne (hu : X.A.units + 64 < cLine) (ha : DB X ci E za a da) (hb : DB X ci E zb b db) : DE X ci E (za + zb) (.Compare a [.NotEq] [b] pos) (d2 neM da db) := dcmp (op_neD hu) opD_ne ha hb (nomark _)
theorem dt_eq (hu : X.A.units + 64 < cLine) (ha : DB X ci E za a da) (hb : DB X ci E zb b db) : DT X ci E (za + zb) (.Compare a [.Eq] [b] pos) (tOf (d2 eqM da db)) := tcmp (op_eqD hu) opD_eq ha hb (nomark _)
theorem dt_ne (hu : X.A.units + 64 < cLine) (ha : DB X ci E za a da) (hb : DB X ci E zb b db) : DT X ci E (za + zb) (.Compare a [.NotEq] [b] pos) (tOf (d2 neM da db)) := tcmp (op_neD hu) opD_ne ha hb (nomark _)
theorem lex_eq : ∀ ns ms : List Int, HT.lexLt ns ms = lexLt ns ms
  | [], [] => rfl
  | [], _ :: _ => rfl
  | _ :: _, [] => rfl
  | x :: xs, y :: ys => by
    rw [HT.lexLt_cons, lex_eq xs ys]
    rfl
def rLt2 (K : Frag) : R2 := fun x y H Q => rI0 (fun i j => .bl (decide (i < j))) x y H Q ∨ rLtT K x y H Q
theorem op_lt2 (hu : X.A.units < cLine) : OpR X (compareOp .Lt) (rLt2 X.K) := op_lt.or (op_ltT hu)
theorem opD_lt {K : Frag} : OpD K ci E ma mb .sh (rLt2 K) ltM := by
  intro N G F P ρ σ H x y a b W Q hN r ha hb h hw
  have sa := ha.seen r
  have sb := hb.seen r
  cases a <;> cases b <;> first | exact (show False from h).elim | skip
  · exact .inl ⟨_, _, sa.int, sb.int, (hw _ h).val r (.bl _)⟩
  · rename_i xs ys
    obtain ⟨p, vs, rfl, hp, rp⟩ := sa.tup r.sf
    obtain ⟨q, ws, rfl, hq, rq⟩ := sb.tup r.sf
    obtain ⟨ns, e1, h⟩ := get_ok (show M.get (asInts xs) _ from h)
    obtain ⟨ms, e2, h⟩ := get_ok (show M.get (asInts ys) _ from h)
    refine .inr ⟨p, q, ns, ms, rfl, rfl, by rw [← rp.ints e1]; exact hp, by rw [← rq.ints e2]; exact hq, ?_⟩
    rw [lex_eq]
    exact (hw _ h).val r (.bl _)
theorem de_lt (hu : X.A.units < cLine) (ha : DB X ci E za a da) (hb : DB X ci E zb b db) : DE X ci E (za + zb) (.Compare a [.Lt] [b] pos) (d2 ltM da db) := dcmp (op_lt2 hu) opD_lt ha hb (nomark _)
theorem dt_lt (hu : X.A.units < cLine) (ha : DB X ci E za a da) (hb : DB X ci E zb b db) : DT X ci E (za + zb) (.Compare a [.Lt] [b] pos) (tOf (d2 ltM da db)) := tcmp (op_lt2 hu) opD_lt ha hb (nomark _)
theorem opD_le {K : Frag} : OpD K ci E ma mb .sh (rI0 fun i j => .bl (decide (i ≤ j))) leM := opD_I0 (g' := fun i j => .bl (decide (i ≤ j))) (fun _ _ _ _ => .bl _) fun a b W h => by
    cases a <;> cases b <;> first | exact ⟨_, _, rfl, rfl, h⟩ | exact (show False from h).elim
theorem opD_gt {K : Frag} : OpD K ci E ma mb .sh (rI0 fun i j => .bl (decide (j < i))) gtM := opD_I0 (g' := fun i j => .bl (decide (j < i))) (fun _ _ _ _ => .bl _) fun a b W h => by
    cases a <;> cases b <;> first | exact ⟨_, _, rfl, rfl, h⟩ | exact (show False from h).elim
theorem opD_ge {K : Frag} : OpD K ci E ma mb .sh (rI0 fun i j => .bl (decide (j ≤ i))) geM := opD_I0 (g' := fun i j => .bl (decide (j ≤ i))) (fun _ _ _ _ => .bl _) fun a b W h => by
    cases a <;> cases b <;> first | exact ⟨_, _, rfl, rfl, h⟩ | exact (show False from h).elim
theorem de_le (ha : DB X ci E za a da) (hb : DB X ci E zb b db) : DE X ci E (za + zb) (.Compare a [.LtE] [b] pos) (d2 leM da db) := dcmp op_le opD_le ha hb (nomark _)
theorem de_gt (ha : DB X ci E za a da) (hb : DB X ci E zb b db) : DE X ci E (za + zb) (.Compare a [.Gt] [b] pos) (d2 gtM da db) := dcmp op_gt opD_gt ha hb (nomark _)
theorem de_ge (ha : DB X ci E za a da) (hb : DB X ci E zb b db) : DE X ci E (za + zb) (.Compare a [.GtE] [b] pos) (d2 geM da db) := dcmp op_ge opD_ge ha hb (nomark _)
theorem dt_le (ha : DB X ci E za a da) (hb : DB X ci E zb b db) : DT X ci E (za + zb) (.Compare a [.LtE] [b] pos) (tOf (d2 leM da db)) := tcmp op_le opD_le ha hb (nomark _)
theorem dt_gt (ha : DB X ci E za a da) (hb : DB X ci E zb b db) : DT X ci E (za + zb) (.Compare a [.Gt] [b] pos) (tOf (d2 gtM da db)) := tcmp op_gt opD_gt ha hb (nomark _)
theorem dt_ge (ha : DB X ci E za a da) (hb : DB X ci E zb b db) : DT X ci E (za + zb) (.Compare a [.GtE] [b] pos) (tOf (d2 geM da db)) := tcmp op_ge opD_ge ha hb (nomark _)
/-- is None, is not None -/
theorem Seen.isNon {K : Frag} {G : Gh} {F H : Hp} {x : V} {d : D} (h : Seen K ci G F H x d) : decide (x = .non) = isNon d := by
  rcases h with h | ⟨p, rfl, h⟩
  · cases h <;> rfl
  · cases d with
    | lst _ => rfl
    | dK _ => rfl
    | obj _ _ => rfl
    | _ => exact h.elim
theorem unD_isN {K : Frag} : UnD K ci E ma .sh (fun x H Q => Q (.bl (decide (x = .non))) H) isNonM := by
  intro N G F P ρ σ H x a W Q hN r ha h hw
  rw [(ha.seen r).isNon]
  exact (hw _ h).val r (.bl _)
theorem unD_notN {K : Frag} : UnD K ci E ma .sh (fun x H Q => Q (.bl (!decide (x = .non))) H) notNonM := by
  intro N G F P ρ σ H x a W Q hN r ha h hw
  rw [(ha.seen r).isNon]
  exact (hw _ h).val r (.bl _)
theorem de_isN {j pos'} (ha : DB X ci E za a da) : DE X ci E za (.Compare a [.Is] [.Constant .none j pos'] pos) (d1 isNonM da) := (pe_cmp (pc_isN ha)).imp (op1_imp unD_isN)
theorem de_notN {j pos'} (ha : DB X ci E za a da) : DE X ci E za (.Compare a [.IsNot] [.Constant .none j pos'] pos) (d1 notNonM da) := (pe_cmp (pc_notN ha)).imp (op1_imp unD_notN)
theorem dt_isN {j pos'} (ha : DB X ci E za a da) : DT X ci E za (.Compare a [.Is] [.Constant .none j pos'] pos) (tOf (d1 isNonM da)) := (pt_cmp (pc_isN ha)).imp (tTest_imp (op1_imp unD_isN))
theorem dt_notN {j pos'} (ha : DB X ci E za a da) : DT X ci E za (.Compare a [.IsNot] [.Constant .none j pos'] pos) (tOf (d1 notNonM da)) := (pt_cmp (pc_notN ha)).imp (tTest_imp (op1_imp unD_notN))
theorem opD_isB {K : Frag} : OpD K ci E ma mb .sh rIsB isBM := by
  intro N G F P ρ σ H x y a b W Q hN r ha hb h hw
  have sa := ha.seen r
  have sb := hb.seen r
  cases a <;> cases b <;> first | exact (show False from h).elim | skip
  exact ⟨_, _, sa.bl, sb.bl, (hw _ h).val r (.bl _)⟩
theorem de_isB (ha : DB X ci E za a da) (hb : DB X ci E zb b db) : DE X ci E (za + zb) (.Compare a [.Is] [b] pos) (d2 isBM da db) := dcmp op_isBl opD_isB ha hb (nomark _)
theorem dt_isB (ha : DB X ci E za a da) (hb : DB X ci E zb b db) : DT X ci E (za + zb) (.Compare a [.Is] [b] pos) (tOf (d2 isBM da db)) := tcmp op_isBl opD_isB ha hb (nomark _)
/-! ### in -/
theorem flatV_of {K : Frag} {G : Gh} {F : Hp} {v : V} {d : D} (h : Rep (rc K ci G) F v d) (f : flatD d = true) : flatV v = true := by
  cases d <;> first | exact (Bool.false_ne_true f).elim | (cases h; rfl)
theorem eqV_of {K : Frag} {G : Gh} {F : Hp} {v u : V} {d e : D} (h : Rep (rc K ci G) F v d) (f : flatD d = true) (h' : Rep (rc K ci G) F u e) (f' : flatD e = true) : eqV v u = eqv d e := by
  cases d <;> first
    | exact (Bool.false_ne_true f).elim
    | (cases e <;> first
        | exact (Bool.false_ne_true f').elim
        | (cases h; cases h'; rfl))
theorem flatL_of {K : Frag} {G : Gh} {F : Hp} : ∀ {vs : List V} {ds : List D}, RepL (rc K ci G) F vs ds → ds.all flatD = true → vs.all flatV = true
  | _, _, .nil, _ => rfl
  | _, d :: ds, .cons h r, f => by
    rw [List.all_cons, Bool.and_eq_true] at f
    rw [List.all_cons, flatV_of h f.1, flatL_of r f.2]
    rfl
theorem inV_of {K : Frag} {G : Gh} {F : Hp} {x : V} {a : D} (hx : Rep (rc K ci G) F x a) (fx : flatD a = true) : ∀ {vs : List V} {ds : List D}, RepL (rc K ci G) F vs ds → ds.all flatD = true → inV x vs = memS a ds
  | _, _, .nil, _ => rfl
  | v :: vs, d :: ds, .cons h r, f => by
    rw [List.all_cons, Bool.and_eq_true] at f
    show (eqV v x || inV x vs) = (eqv d a || memS a ds)
    rw [inV_of hx fx r f.2, eqV_of h f.1 hx fx]
theorem Seen.flat {K : Frag} {G : Gh} {F H : Hp} {x : V} {a : D} (h : Seen K ci G F H x a) (f : flatD a = true) : Rep (rc K ci G) F x a := by
  rcases h with h | ⟨p, rfl, h⟩
  · exact h
  · cases a <;> first | exact h.elim | exact (Bool.false_ne_true f).elim
theorem memS_py {n : Nat} {a : D} (ha : okD n a = true) : ∀ {ds : List D}, okL n ds = true → ((pyL ds).any fun z => PyData.eqv z (py a)) = memS a ds
  | [], _ => rfl
  | d :: ds, h => by
    have h : okD n d = true ∧ okL n ds = true := by simpa [okL] using h
    show (PyData.eqv (py d) (py a) || ((pyL ds).any fun z => PyData.eqv z (py a))) = (eqv d a || memS a ds)
    rw [eqv_py h.1 ha, memS_py ha h.2]
/-- a dict's value by a key -/
theorem valK {R : Rc} {F : Hp} {k : Key} : ∀ {ws : List (Key × V)} {kvs : List (Key × D)}, RepK R F ws kvs → (valD kvs k = none → valV ws k = none) ∧ ∀ d, valD kvs k = some d → ∃ v, valV ws k = some v ∧ Rep R F v d
  | _, _, .nil => ⟨fun _ => rfl, fun d h => by simp [valD] at h⟩
  | _, _, .cons (k := k') (vs := vs) (ds := ds) (v := v) (d := d) h r => by
    obtain ⟨i1, i2⟩ := valK (k := k) r
    by_cases e : k' = k
    · have e1 : valD ((k', d) :: ds) k = some d := by simp [valD, List.find?_cons, e]
      have e2 : valV ((k', v) :: vs) k = some v := valV_pos e
      rw [e1, e2]
      refine ⟨fun z => (by cases z), fun d' z => ?_⟩
      cases z
      exact ⟨v, rfl, h⟩
    · have e1 : valD ((k', d) :: ds) k = valD ds k := by simp [valD, List.find?_cons, e]
      have e2 : valV ((k', v) :: vs) k = valV vs k := valV_neg e
      rw [e1, e2]
      exact ⟨i1, i2⟩
theorem valK_some {R : Rc} {F : Hp} {k : Key} {ws : List (Key × V)} {kvs : List (Key × D)} (r : RepK R F ws kvs) : (valV ws k).isSome = (valD kvs k).isSome := by
  obtain ⟨h1, h2⟩ := valK (k := k) r
  cases q : valD kvs k with
  | none => rw [h1 q]; rfl
  | some d =>
    obtain ⟨v, e, _⟩ := h2 d q
    rw [e]
    rfl
theorem Seen.dK {K : Frag} {G : Gh} {F H : Hp} {x : V} {kvs : List (Key × D)} (h : Seen K ci G F H x (.dK kvs)) (s : Same F H) : ∃ p ws, x = .ref p ∧ H p = some (.dK ws) ∧ RepK (rc K ci G) F ws kvs := by
  rcases h with h | ⟨p, rfl, vs, h, r⟩
  · cases h with
    | dK h r => exact ⟨_, _, rfl, s _ _ h, r⟩
  · exact ⟨p, vs, rfl, h, r⟩
theorem Seen.key {K : Frag} {G : Gh} {F H : Hp} {x : V} {a : D} {k : Key} (h : Seen K ci G F H x a) (e : keyD a = some k) : x = kV k := by
  cases a <;> first | cases e | skip
  · rw [h.int]; rfl
  · rw [h.str]; rfl
def rInDict : R2 := fun x y H Q => ∃ a o, y = .ref a ∧ DGet H a x o ∧ Q (.bl o.isSome) H
def rNotInDict : R2 := fun x y H Q => ∃ a o, y = .ref a ∧ DGet H a x o ∧ Q (.bl (!o.isSome)) H
theorem op_inDict (hu : X.A.units + 1 < cLine) : OpR X (compareOp .In) rInDict := by
  intro pins s σ H x y v u Q I rx ry h
  obtain ⟨a, o, rfl, g, q⟩ := h
  cases ry
  exact d_in hu I g rx fun s' I' => ⟨.bl _, H, I', rfl, q⟩
theorem op_ninDict (hu : X.A.units + 1 < cLine) : OpR X (compareOp .NotIn) rNotInDict := by
  intro pins s σ H x y v u Q I rx ry h
  obtain ⟨a, o, rfl, g, q⟩ := h
  cases ry
  exact d_notIn hu I g rx fun s' I' => ⟨.bl _, H, I', rfl, q⟩
def rIn3 (K : Frag) : R2 := fun x y H Q => rIn K false x y H Q ∨ rInD K x y H Q ∨ rInDict x y H Q
def rNin3 (K : Frag) : R2 := fun x y H Q => rIn K true x y H Q ∨ rNotInD K x y H Q ∨ rNotInDict x y H Q
theorem op_in3 (hu : X.A.units + 65 < cLine) : OpR X (compareOp .In) (rIn3 X.K) := op_in_seq.or ((op_inD hu).or (op_inDict (by omega)))
theorem op_nin3 (hu : X.A.units + 65 < cLine) : OpR X (compareOp .NotIn) (rNin3 X.K) := op_notIn_seq.or ((op_notInD hu).or (op_ninDict (by omega)))
theorem opD_in {K : Frag} : OpD K ci E ma mb .sh (rIn3 K) inM := by
  intro N G F P ρ σ H x y a b W Q hN r ha hb h hw
  have sa := ha.seen r
  have sb := hb.seen r
  cases b <;> first | exact (show False from h).elim | skip
  · rename_i ds
    obtain ⟨⟨h1, h2⟩, h⟩ := h
    have hb' : okD 64 (.lst ds) = true := by simpa [okD] using h2
    refine .inr (.inl ⟨py a, pyL ds, sa.dp r.sf h1, sb.dp r.sf hb', okD_shaped h1 (by decide), okD_shaped hb' (Nat.le_refl _), ?_⟩)
    rw [memS_py h1 h2]
    exact (hw _ h).val r (.bl _)
  · obtain ⟨⟨h1, h2⟩, h⟩ := h
    obtain ⟨p, vs, rfl, hp, rp⟩ := sb.tup r.sf
    refine .inl ⟨p, vs, rfl, .inr hp, flatV_of (sa.flat h1) h1, flatL_of rp h2, ?_⟩
    rw [inV_of (sa.flat h1) h1 rp h2]
    exact (hw _ h).val r (.bl _)
  · obtain ⟨p, ws, rfl, hp, rp⟩ := sb.dK r.sf
    obtain ⟨k, e, h⟩ := get_ok (show M.get (keyD a) _ from h)
    rw [sa.key e]
    refine .inr (.inr ⟨p, _, rfl, DGet.k hp, ?_⟩)
    rw [valK_some rp]
    exact (hw _ h).val r (.bl _)
theorem opD_nin {K : Frag} : OpD K ci E ma mb .sh (rNin3 K) ninM := by
  intro N G F P ρ σ H x y a b W Q hN r ha hb h hw
  have sa := ha.seen r
  have sb := hb.seen r
  cases b <;> first | exact (show False from h).elim | skip
  · rename_i ds
    obtain ⟨⟨h1, h2⟩, h⟩ := h
    have hb' : okD 64 (.lst ds) = true := by simpa [okD] using h2
    refine .inr (.inl ⟨py a, pyL ds, sa.dp r.sf h1, sb.dp r.sf hb', okD_shaped h1 (by decide), okD_shaped hb' (Nat.le_refl _), ?_⟩)
    rw [memS_py h1 h2]
    exact (hw _ h).val r (.bl _)
  · obtain ⟨⟨h1, h2⟩, h⟩ := h
    obtain ⟨p, vs, rfl, hp, rp⟩ := sb.tup r.sf
    refine .inl ⟨p, vs, rfl, .inr hp, flatV_of (sa.flat h1) h1, flatL_of rp h2, ?_⟩
    rw [inV_of (sa.flat h1) h1 rp h2]
    exact (hw _ h).val r (.bl _)
  · obtain ⟨p, ws, rfl, hp, rp⟩ := sb.dK r.sf
    obtain ⟨k, e, h⟩ := get_ok (show M.get (keyD a) _ from h)
    rw [sa.key e]
    refine .inr (.inr ⟨p, _, rfl, DGet.k hp, ?_⟩)
    rw [valK_some rp]
    exact (hw _ h).val r (.bl _)
theorem de_in (hu : X.A.units + 65 < cLine) (ha : DB X ci E za a da) (hb : DB X ci E zb b db) (hm : behindInMarks .In b = false := by rfl) : DE X ci E (za + zb) (.Compare a [.In] [b] pos) (d2 inM da db) := dcmp (op_in3 hu) opD_in ha hb hm
theorem de_nin (hu : X.A.units + 65 < cLine) (ha : DB X ci E za a da) (hb : DB X ci E zb b db) (hm : behindInMarks .NotIn b = false := by rfl) : DE X ci E (za + zb) (.Compare a [.NotIn] [b] pos) (d2 ninM da db) := dcmp (op_nin3 hu) opD_nin ha hb hm
theorem dt_in (hu : X.A.units + 65 < cLine) (ha : DB X ci E za a da) (hb : DB X ci E zb b db) (hm : behindInMarks .In b = false := by rfl) : DT X ci E (za + zb) (.Compare a [.In] [b] pos) (tOf (d2 inM da db)) := tcmp (op_in3 hu) opD_in ha hb hm
theorem dt_nin (hu : X.A.units + 65 < cLine) (ha : DB X ci E za a da) (hb : DB X ci E zb b db) (hm : behindInMarks .NotIn b = false := by rfl) : DT X ci E (za + zb) (.Compare a [.NotIn] [b] pos) (tOf (d2 ninM da db)) := tcmp (op_nin3 hu) opD_nin ha hb hm
/-! ### items, slices -/
theorem ix_eq (n : Nat) (i : Int) : ixN n i = ixD n i := rfl
theorem RepL.at {R : Rc} {F : Hp} {vs : List V} {ds : List D} {i : Int} {d : D} (r : RepL R F vs ds) (h : atD ds i = some d) : ∃ v, atI vs i = some v ∧ Rep R F v d := by
  unfold atD at h
  cases q : ixD ds.length i with
  | none => rw [q] at h; cases h
  | some j =>
    rw [q] at h
    obtain ⟨v, h1, h2⟩ := r.get (show ds[j]? = some d from h)
    refine ⟨v, ?_, h2⟩
    unfold atI
    rw [r.length, ix_eq, q]
    exact h1
def rIxD : R2 := fun x y H Q => ∃ a v, x = .ref a ∧ DGet H a y (some v) ∧ Q v H
theorem ix_dict (hu : X.A.units + 1 < cLine) : IxR X rIxD := by
  intro value slice pins s σ H x y v u Q I rx ry h hs
  obtain ⟨a, w, rfl, g, q⟩ := h
  cases rx
  unfold subscriptTail
  refine wpAny_bind ?_
  have hT := dict_typeIs I g
  rw [getitemInPython_of_ne hT.not_modules]
  refine wpAny_bind (wpAny_specialOf hT PySem.F.slot_dict_getitem.lookup ?_)
  have fin : wpAny (model X.prog X.w) X.A (subscripted slice false (.ref a) u) (fun r s₃ => wpAny (model X.prog X.w) X.A (letTemporaryGo value (.ref a) r >>= fun _ => pure r) (EP X pins σ Q) X.xe s₃) X.xe s := by
    rw [hs]
    exact wpAny_operating (d_getItem hu I g ry fun w' s3 I3 rw' => wpAny_bind (wpAny_letTemporaryGo (wpAny_pure ⟨w, H, I3, rw', q⟩)))
  first
    | exact wpAny_pure (wpAny_bind fin)
    | exact wpAny_bind (wpAny_pure (wpAny_bind fin))
    | exact wpAny_bind fin
def rIx3 (K : Frag) : R2 := fun x y H Q => rIxL K x y H Q ∨ rIxT K x y H Q ∨ rIxD x y H Q
theorem ix3 (hu : X.A.units + 1 < cLine) : IxR X (rIx3 X.K) := ix_list.or (ix_tup.or (ix_dict hu))
theorem opD_ix {K : Frag} : OpD K ci E ma mb .sh (rIx3 K) itemM := by
  intro N G F P ρ σ H x y a b W Q hN r ha hb h hw
  have sa := ha.seen r
  have sb := hb.seen r
  cases a <;> cases b <;> first | exact (show False from h).elim | skip
  · obtain ⟨d, e, h⟩ := get_ok (show M.get (atD _ _) _ from h)
    obtain ⟨p, vs, rfl, hp, rp⟩ := sa.lst r.sf
    obtain ⟨v, h1, h2⟩ := rp.at e
    exact .inl ⟨p, vs, _, v, rfl, sb.int, SqL.of hp, h1, (hw _ h).val r h2⟩
  · obtain ⟨d, e, h⟩ := get_ok (show M.get (atD _ _) _ from h)
    obtain ⟨p, vs, rfl, hp, rp⟩ := sa.tup r.sf
    obtain ⟨v, h1, h2⟩ := rp.at e
    exact .inr (.inl ⟨p, vs, _, v, rfl, sb.int, hp, h1, (hw _ h).val r h2⟩)
  · obtain ⟨d, e, h⟩ := get_ok (show M.get (valD _ _) _ from h)
    obtain ⟨p, ws, rfl, hp, rp⟩ := sa.dK r.sf
    obtain ⟨v, h1, h2⟩ := (valK rp).2 d e
    refine .inr (.inr ⟨p, v, rfl, ?_, (hw _ h).val r h2⟩)
    rw [sb.int, ← h1]
    exact DGet.k (k := .inl _) hp
  · obtain ⟨d, e, h⟩ := get_ok (show M.get (valD _ _) _ from h)
    obtain ⟨p, ws, rfl, hp, rp⟩ := sa.dK r.sf
    obtain ⟨v, h1, h2⟩ := (valK rp).2 d e
    refine .inr (.inr ⟨p, v, rfl, ?_, (hw _ h).val r h2⟩)
    rw [sb.str, ← h1]
    exact DGet.k (k := .inr _) hp
theorem de_item (hu : X.A.units + 1 < cLine) (ha : DB X ci E za a da) (hb : DB X ci E zb b db) (hs : PlainIx b := by exact fun _ _ => rfl) : DE X ci E (za + zb) (.Subscript a b pos) (d2 itemM da db) :=
  (pe_ix (ix3 hu) ha hb hs).imp (op2_imp opD_ix (by intro h; cases h))
/-! slices -/
def tO (K : Frag) (ci : Ci) (E : XK) (z : Nat) (d : XO) : TO := fun σ H Q => ∃ G P F ρ W, G.n + z ≤ top ∧ Rel K ci G F P ρ σ H ∧ d ρ W ∧ ∀ o, W o → match o with
  | .ok i => ∀ G' F' H', Gh.Le (G.n + z) G G' → Same F F' → Rel K ci G' F' P ρ σ H' → Q i H'
  | .exc c fs => XP K ci E (G.n + z) G P F c fs
theorem PO.imp {e : Option Expr} {t t' : TO} (h : PO X e t) (i : ∀ σ H Q, t' σ H Q → t σ H Q) : PO X e t' := ⟨fun pins s σ H Q I q => h.run pins s σ H Q I (i σ H Q q)⟩
theorem do_none : PO X none (tO X.K ci E 0 oNone) := PO.imp po_none fun σ H Q ⟨G, P, F, ρ, W, bd, r, hd, hw⟩ => hw _ hd G F H (Gh.Le.refl G) (Same.refl F) r
theorem do_some (h : DB X ci E z0 e d) : PO X (some e) (tO X.K ci E z0 (oSome d)) := PO.imp (po_some h) fun σ H Q ⟨G, P, F, ρ, W, bd, r, hd, hw⟩ => by
  refine ⟨G, P, F, ρ, _, by omega, r, hd, fun o ho => ?_⟩
  cases o with
  | exc c fs => exact XP.lo (hw _ ho)
  | ok a =>
    intro G1 F1 H1 v l1 s1 r1 x1
    cases a <;> first | exact (show False from ho).elim | skip
    exact ⟨_, (Bor.seen x1 r1).int, hw _ ho G1 F1 H1 l1.up s1 r1⟩
theorem cut_eq {α : Type} (xs : List α) (n : Nat) (hn : xs.length = n) (lo hi : Option Int) : (xs.drop (HT.sIx xs.length 0 lo)).take (HT.sIx xs.length xs.length hi - HT.sIx xs.length 0 lo) = cutD xs lo hi := rfl
theorem RepL.cut {R : Rc} {F : Hp} {vs : List V} {ds : List D} (r : RepL R F vs ds) (lo hi : Option Int) : RepL R F (cutV vs lo hi) (cutD ds lo hi) := by
  unfold cutV cutD
  rw [r.length]
  exact (r.drop _).take _
theorem slice_imp {K : Frag} {mr : Md} {r : V → Option Int → Option Int → Hp → VK → Prop} {f : D → Option Int → Option Int → M D} {dl dh : XO}
    (hf : ∀ (N : Nat) (G : Gh) (F P : Hp) (ρ : Env) (σ : L2.St) (H : Hp) (x : V) (a : D) (lo hi : Option Int) (W : Out D → Prop) (Q : VK), G.n ≤ N → Rel K ci G F P ρ σ H → Bor K ci G F ρ σ x a → f a lo hi W → (∀ o, W o → Po K ci E N mr G P F ρ σ Q o) → r x lo hi H Q)
    (σ : L2.St) (H : Hp) (Q : VK) (h : tE K ci E (za + zl + zh) mr (dSlice f da dl dh) σ H Q) : tSl r (tE K ci E za .bor da) (tO K ci E zl dl) (tO K ci E zh dh) σ H Q := by
  obtain ⟨G, P, F, ρ, W, bd, rel, hd, hw⟩ := h
  refine ⟨G, P, F, ρ, _, by omega, rel, hd, fun o ho => ?_⟩
  cases o with
  | exc c fs => exact XP.lo (hw _ ho)
  | ok a =>
    intro G1 F1 H1 v l1 s1 r1 x1
    refine ⟨G1, P, F1, ρ, _, by omega, r1, ho, fun o ho => ?_⟩
    cases o with
    | exc c fs => exact XP.le (hw _ ho) l1 s1
    | ok i =>
      intro G2 F2 H2 l2 s2 r2
      refine ⟨G2, P, F2, ρ, _, by omega, r2, ho, fun o ho => ?_⟩
      cases o with
      | exc c fs => exact XP.le (hw _ ho) (l1.trans l2) (s1.trans s2)
      | ok j =>
        intro G3 F3 H3 l3 s3 r3
        exact hf (G.n + (za + zl + zh)) G3 F3 P ρ σ H3 v a i j W Q (by omega) r3 (Bor.mono x1 (rc_le K ci (l2.trans l3)) (s2.trans s3)) ho fun o ho => (hw o ho).le ((l1.trans l2).trans l3) ((s1.trans s2).trans s3)
theorem de_slice {lo hi : Option Expr} {p2 : Pos} {dl dh : XO} (ha : DB X ci E za a da) (hl : PO X lo (tO X.K ci E zl dl)) (hh : PO X hi (tO X.K ci E zh dh)) : DE X ci E (za + zl + zh) (.Subscript a (.Slice lo hi none p2) pos) (dSlice sliceM da dl dh) :=
  (pe_slice (sl_list.or sl_tup) ha hl hh).imp (slice_imp fun N G F P ρ σ H x a lo hi W Q hN r ha h hw => by
    have sa := ha.seen r
    cases a <;> first | exact (show False from h).elim | skip
    · obtain ⟨p, vs, rfl, hp, rp⟩ := sa.lst r.sf
      exact .inl ⟨p, vs, rfl, SqL.of hp, fun l hl => (hw _ h).makeS r hl (.lst upd_same ((rp.cut lo hi).mono (Rc.Le.refl _) (same_upd (r.lone hl).hf)))⟩
    · obtain ⟨p, vs, rfl, hp, rp⟩ := sa.tup r.sf
      refine .inr ⟨p, vs, rfl, hp, ?_, fun l hl => (hw _ h.2).makeS r hl (.tup (.inl (.inl upd_same)) ((rp.cut lo hi).mono (Rc.Le.refl _) (same_upd (r.lone hl).hf)))⟩
      rw [rp.length]
      exact h.1)
theorem do_slice {lo hi : Option Expr} {p2 : Pos} {dl dh : XO} (ha : DB X ci E za a da) (hl : PO X lo (tO X.K ci E zl dl)) (hh : PO X hi (tO X.K ci E zh dh)) : DO X ci E (za + zl + zh) (.Subscript a (.Slice lo hi none p2) pos) (dSlice sliceLM da dl dh) :=
  (pe_slice sl_list ha hl hh).imp (slice_imp fun N G F P ρ σ H x a lo hi W Q hN r ha h hw => by
    have sa := ha.seen r
    cases a <;> first | exact (show False from h).elim | skip
    obtain ⟨p, vs, rfl, hp, rp⟩ := sa.lst r.sf
    exact ⟨p, vs, rfl, SqL.of hp, fun l hl => (hw _ h).make r hl ⟨_, upd_same, rp.cut lo hi⟩⟩)
/-! ### lists of arguments, displays -/
variable {es : List Expr} {r : XA} {m : Md}
theorem da_nil : PA X [] (tA X.K ci E 0 m dNil) := pa_nil.imp fun σ H Q ⟨G, P, F, ρ, W, bd, r, hd, hw⟩ => hw _ hd G F H [] (Gh.Le.refl G) (Same.refl F) r True.intro
theorem da_cons (hm : m ≠ .own) (ha : PE X e (tE X.K ci E za m d)) (hr : PA X es (tA X.K ci E zr m r)) (hs : starEach (e :: es) X.env = (false, eval e X.env) :: starEach es X.env := by rfl) : PA X (e :: es) (tA X.K ci E (za + zr) m (dCons d r)) :=
  (pa_cons ha hr hs).imp fun σ H Q ⟨G, P, F, ρ, W, bd, rel, hd, hw⟩ => by
    refine ⟨G, P, F, ρ, _, by omega, rel, hd, fun o ho => ?_⟩
    cases o with
    | exc c fs => exact XP.lo (hw _ ho)
    | ok a =>
      intro G1 F1 H1 v l1 s1 r1 x1
      refine ⟨G1, P, F1, ρ, _, by omega, r1, ho, fun o ho => ?_⟩
      cases o with
      | exc c fs => exact XP.le (hw _ ho) l1 s1
      | ok ds =>
        intro G2 F2 H2 vs l2 s2 r2 x2
        refine hw _ ho G2 F2 H2 _ (l1.trans l2).up (s1.trans s2) r2 ⟨?_, x2⟩
        cases m with
        | sh => exact Rep.mono (rc_le _ ci l2) s2 x1
        | bor => exact Bor.mono x1 (rc_le _ ci l2) s2
        | own => exact (hm rfl).elim
theorem da_c (ha : DE X ci E za e d) (hr : DA X ci E zr es r) (hs : starEach (e :: es) X.env = (false, eval e X.env) :: starEach es X.env := by rfl) : DA X ci E (za + zr) (e :: es) (dCons d r) := da_cons (by intro h; cases h) ha hr hs
theorem da_cB (ha : DB X ci E za e d) (hr : DAB X ci E zr es r) (hs : starEach (e :: es) X.env = (false, eval e X.env) :: starEach es X.env := by rfl) : DAB X ci E (za + zr) (e :: es) (dCons d r) := da_cons (by intro h; cases h) ha hr hs
theorem resL_rep {K : Frag} {G : Gh} {F : Hp} {ρ : Env} {σ : L2.St} : ∀ {vs : List V} {ds : List D}, ResL K ci .sh G F ρ σ vs ds → RepL (rc K ci G) F vs ds
  | [], [], _ => .nil
  | _ :: _, _ :: _, h => .cons h.1 (resL_rep h.2)
  | [], _ :: _, h => h.elim
  | _ :: _, [], h => h.elim
def small (es : List Expr) : Prop := es.length ≤ 100000
theorem disp_imp {K : Frag} {mr : Md} {mk : List V → HO} {g : List D → D} {da : XA} (hg : ∀ (N : Nat) (G : Gh) (F P H : Hp) (ρ : Env) (σ : L2.St) (vs : List V) (ds : List D) (W : Out D → Prop) (Q : VK) (p : Addr), G.n ≤ N → Rel K ci G F P ρ σ H → H p = none → RepL (rc K ci G) F vs ds → Po K ci E N mr G P F ρ σ Q (.ok (g ds)) → Q (.ref p) (upd H p (mk vs)))
    (σ : L2.St) (H : Hp) (Q : VK) (h : tE K ci E z0 mr (fun ρ => do let xs ← da ρ; M.need (xs.length ≤ line); pure (g xs)) σ H Q) :
    tA K ci E z0 .sh da σ H fun xs H1 => xs.length ≤ sizeLine ∧ ∀ p, H1 p = none → Q (.ref p) (upd H1 p (mk xs)) := by
  obtain ⟨G, P, F, ρ, W, bd, rel, hd, hw⟩ := h
  refine ⟨G, P, F, ρ, _, by omega, rel, hd, fun o ho => ?_⟩
  cases o with
  | exc c fs => exact XP.lo (hw _ ho)
  | ok ds =>
    intro G1 F1 H1 vs l1 s1 r1 x1
    have q := resL_rep x1
    obtain ⟨h1, h2⟩ := (show ds.length ≤ line ∧ W (.ok (g ds)) from ho)
    exact ⟨by rw [q.length]; exact h1, fun p hp => hg (G.n + z0) G1 F1 P H1 ρ σ vs ds W Q p (by omega) r1 hp q ((hw _ h2).le l1 s1)⟩
theorem do_lst {es : List Expr} {da : XA} (h : DA X ci E z0 es da) : DO X ci E z0 (.List es pos) (dLst da) := (pe_lst h).imp (disp_imp (g := .lst) fun N G F P H ρ σ vs ds W Q p hN r hp q hw => hw.make r hp ⟨_, upd_same, q⟩)
theorem de_tup {es : List Expr} {da : XA} {x1} (h : DA X ci E z0 es da) : DE X ci E z0 (.Tuple es x1 pos) (dTup da) :=
  (pe_tup h).imp (disp_imp (g := .tup) fun N G F P H ρ σ vs ds W Q p hN r hp q hw => hw.makeS r hp (.tup (.inl (.inl upd_same)) (q.mono (Rc.Le.refl _) (same_upd (r.lone hp).hf))))
/-! ### tests -/
variable {dt du : XT} {rest : List Expr} {c : Expr}
theorem tAnd_imp {K : Frag} (σ : L2.St) (H : Hp) (Q : Bool → Hp → Prop) (h : tT K ci E (za + zb) (tAnd dt du) σ H Q) : L2.tAnd (tT K ci E za dt) (tT K ci E zb du) σ H Q := by
  obtain ⟨G, P, F, ρ, W, bd, rel, hd, hw⟩ := h
  refine ⟨G, P, F, ρ, _, by omega, rel, hd, fun o ho => ?_⟩
  cases o with
  | exc c fs => exact XP.lo (hw _ ho)
  | ok b =>
    intro G1 F1 H1 l1 s1 r1
    cases b with
    | true => exact ⟨G1, P, F1, ρ, W, by omega, r1, ho, fun o ho => (hw o ho).le l1 s1⟩
    | false => exact hw (.ok false) ho G1 F1 H1 l1.up s1 r1
theorem tOr_imp {K : Frag} (σ : L2.St) (H : Hp) (Q : Bool → Hp → Prop) (h : tT K ci E (za + zb) (tOr dt du) σ H Q) : L2.tOr (tT K ci E za dt) (tT K ci E zb du) σ H Q := by
  obtain ⟨G, P, F, ρ, W, bd, rel, hd, hw⟩ := h
  refine ⟨G, P, F, ρ, _, by omega, rel, hd, fun o ho => ?_⟩
  cases o with
  | exc c fs => exact XP.lo (hw _ ho)
  | ok b =>
    intro G1 F1 H1 l1 s1 r1
    cases b with
    | false => exact ⟨G1, P, F1, ρ, W, by omega, r1, ho, fun o ho => (hw o ho).le l1 s1⟩
    | true => exact hw (.ok true) ho G1 F1 H1 l1.up s1 r1
abbrev DW (X : Cx) (ci : Ci) (E : XK) (z : Nat) (e : Expr) (d : XT) : Prop := PW X e (tT X.K ci E z d)
theorem _root_.L2.PW.imp {X : Cx} {e : Expr} {t t' : TT} (h : PW X e t) (i : ∀ σ H Q, t' σ H Q → t σ H Q) : PW X e t' := ⟨fun wh pins s σ H Q I q => h.run wh pins s σ H Q I (i σ H Q q)⟩
theorem dw_and1 (h : DT X ci E z0 a dt) : DW X ci E z0 (.BoolOp .And [a] pos) dt := pw_and1 h
theorem dw_or1 (h : DT X ci E z0 a dt) : DW X ci E z0 (.BoolOp .Or [a] pos) dt := pw_or1 h
theorem dw_and (h : DT X ci E za a dt) (k : DW X ci E zb (.BoolOp .And (b :: rest) pos) du) : DW X ci E (za + zb) (.BoolOp .And (a :: b :: rest) pos) (tAnd dt du) := (pw_and h k).imp tAnd_imp
theorem dw_or (h : DT X ci E za a dt) (k : DW X ci E zb (.BoolOp .Or (b :: rest) pos) du) : DW X ci E (za + zb) (.BoolOp .Or (a :: b :: rest) pos) (tOr dt du) := (pw_or h k).imp tOr_imp
theorem dt_w (h : DW X ci E z0 e dt) : DT X ci E z0 e dt := PW.pt h
theorem dt_not (h : DT X ci E z0 a dt) : DT X ci E z0 (.UnaryOp .Not a pos) (tNot dt) := (pt_not h).imp fun σ H Q ⟨G, P, F, ρ, W, bd, rel, hd, hw⟩ => by
  refine ⟨G, P, F, ρ, _, by omega, rel, hd, fun o ho => ?_⟩
  cases o with
  | exc c fs => exact XP.lo (hw _ ho)
  | ok b => exact fun G1 F1 H1 l1 s1 r1 => hw (.ok (!b)) ho G1 F1 H1 l1 s1 r1
theorem if_imp {K : Frag} {A : Type} {m : Md} (σ : L2.St) (H : Hp) (Q : VK) (h : tE K ci E (zc + za + zb) m (dIf dt da db) σ H Q) : L2.tIf (tT K ci E zc dt) (tE K ci E za m da) (tE K ci E zb m db) σ H Q := by
  obtain ⟨G, P, F, ρ, W, bd, rel, hd, hw⟩ := h
  refine ⟨G, P, F, ρ, _, by omega, rel, hd, fun o ho => ?_⟩
  cases o with
  | exc c fs => exact XP.lo (hw _ ho)
  | ok b =>
    intro G1 F1 H1 l1 s1 r1
    cases b with
    | true => exact ⟨G1, P, F1, ρ, W, by omega, r1, ho, fun o ho => (hw o ho).le l1 s1⟩
    | false => exact ⟨G1, P, F1, ρ, W, by omega, r1, ho, fun o ho => (hw o ho).le l1 s1⟩
theorem de_if (hc : DT X ci E zc c dt) (ha : DE X ci E za a da) (hb : DE X ci E zb b db) : DE X ci E (zc + za + zb) (.IfExp c a b pos) (dIf dt da db) := (pe_ifExp hc ha hb).imp (if_imp (A := Nat))
theorem do_if (hc : DT X ci E zc c dt) (ha : DO X ci E za a da) (hb : DO X ci E zb b db) : DO X ci E (zc + za + zb) (.IfExp c a b pos) (dIf dt da db) := (pe_ifExp hc ha hb).imp (if_imp (A := Nat))
theorem db_if (hc : DT X ci E zc c dt) (ha : DB X ci E za a da) (hb : DB X ci E zb b db) : DB X ci E (zc + za + zb) (.IfExp c a b pos) (dIf dt da db) := (pe_ifExp hc ha hb).imp (if_imp (A := Nat))
end
end DL
end
section
/-! DL4: calls of built-ins, truths as values, walks, comprehensions. -/
set_option Elab.async false
set_option linter.all false
set_option autoImplicit false
set_option maxRecDepth 100000
set_option maxHeartbeats 1000000
namespace DL
open PySem PySem.Spec PyProof.Rows L2
section
variable {X : Cx} {ci : Ci} {E : XK} {e a b : Expr} {d da db dc : XE} {pos : Pos} {es : List Expr} {r : XA} {m mr : Md} {x : Str} {p : Pos} {z0 za zb : Nat}
/-! ### calls of built-ins -/
def CallD (K : Frag) (ci : Ci) (E : XK) (m mr : Md) (r : List V → Hp → VK → Prop) (f : List D → M D) : Prop :=
  ∀ (N : Nat) (G : Gh) (F P : Hp) (ρ : Env) (σ : L2.St) (H : Hp) (vs : List V) (ds : List D) (W : Out D → Prop) (Q : VK), G.n ≤ N → Rel K ci G F P ρ σ H → ResL K ci m G F ρ σ vs ds → f ds W → (∀ o, W o → Po K ci E N mr G P F ρ σ Q o) → r vs H Q
theorem callD_imp {K : Frag} {rr : List V → Hp → VK → Prop} {f : List D → M D} (hf : CallD K ci E m mr rr f) (σ : L2.St) (H : Hp) (Q : VK) (h : tE K ci E z0 mr (dCall f r) σ H Q) : tA K ci E z0 m r σ H (fun vs H1 => rr vs H1 Q) := by
  obtain ⟨G, P, F, ρ, W, bd, rel, hd, hw⟩ := h
  refine ⟨G, P, F, ρ, _, by omega, rel, hd, fun o ho => ?_⟩
  cases o with
  | exc c fs => exact XP.lo (hw _ ho)
  | ok ds => exact fun G1 F1 H1 vs l1 s1 r1 x1 => hf (G.n + z0) G1 F1 P ρ σ H1 vs ds W Q (by omega) r1 x1 ho fun o ho => (hw o ho).le l1 s1
theorem dcB {id : String} {rr : List V → Hp → VK → Prop} {f : List D → M D} (hc : CallR X (.builtin id) rr) (hf : CallD X.K ci E .bor .sh rr f) (hg : Gl X x) (hm : X.mg x = none) (hv : bootBuiltins x = some (.builtin id)) (ha : DAB X ci E za (e :: es) r)
    (hn : x ≠ "__name__" := by decide) (hdb : (x == ("__debug__" : Str)) = false := by decide) (he : starEach (e :: es) X.env = (false, eval e X.env) :: starEach es X.env := by rfl) (hpl : (backTo pos (starEach es X.env)).any (·.1) = false := by rfl) :
    DE X ci E za (.Call (.Name x p) (e :: es) [] pos) (dCall f r) := (pe_callB hc hg hm hv ha hn hdb he hpl).imp (callD_imp hf)
theorem dcBO {id : String} {rr : List V → Hp → VK → Prop} {f : List D → M D} (hc : CallR X (.builtin id) rr) (hf : CallD X.K ci E .bor .own rr f) (hg : Gl X x) (hm : X.mg x = none) (hv : bootBuiltins x = some (.builtin id)) (ha : DAB X ci E za (e :: es) r)
    (hn : x ≠ "__name__" := by decide) (hdb : (x == ("__debug__" : Str)) = false := by decide) (he : starEach (e :: es) X.env = (false, eval e X.env) :: starEach es X.env := by rfl) (hpl : (backTo pos (starEach es X.env)).any (·.1) = false := by rfl) :
    DO X ci E za (.Call (.Name x p) (e :: es) [] pos) (dCall f r) := (pe_callB hc hg hm hv ha hn hdb he hpl).imp (callD_imp hf)
theorem dcT {T : String} {rr : List V → Hp → VK → Prop} {f : List D → M D} (hc : CallR X (.type T) rr) (hf : CallD X.K ci E .bor .sh rr f) (hg : Gl X x) (hm : X.mg x = none) (hv : bootBuiltins x = some (.type T)) (ha : DAB X ci E za (e :: es) r)
    (hn : x ≠ "__name__" := by decide) (hdb : (x == ("__debug__" : Str)) = false := by decide) (he : starEach (e :: es) X.env = (false, eval e X.env) :: starEach es X.env := by rfl) (hpl : (backTo pos (starEach es X.env)).any (·.1) = false := by rfl) :
    DE X ci E za (.Call (.Name x p) (e :: es) [] pos) (dCall f r) := (pe_callTy hc hg hm hv ha hn hdb he hpl).imp (callD_imp hf)
theorem dcTO {T : String} {rr : List V → Hp → VK → Prop} {f : List D → M D} (hc : CallR X (.type T) rr) (hf : CallD X.K ci E .bor .own rr f) (hg : Gl X x) (hm : X.mg x = none) (hv : bootBuiltins x = some (.type T)) (ha : DAB X ci E za (e :: es) r)
    (hn : x ≠ "__name__" := by decide) (hdb : (x == ("__debug__" : Str)) = false := by decide) (he : starEach (e :: es) X.env = (false, eval e X.env) :: starEach es X.env := by rfl) (hpl : (backTo pos (starEach es X.env)).any (·.1) = false := by rfl) :
    DO X ci E za (.Call (.Name x p) (e :: es) [] pos) (dCall f r) := (pe_callTy hc hg hm hv ha hn hdb he hpl).imp (callD_imp hf)
theorem callD_1 {K : Frag} {rr : List V → Hp → VK → Prop} {f : D → M D} (h : ∀ (N : Nat) (G : Gh) (F P : Hp) (ρ : Env) (σ : L2.St) (H : Hp) (v : V) (a : D) (W : Out D → Prop) (Q : VK), G.n ≤ N → Rel K ci G F P ρ σ H → Seen K ci G F H v a → f a W → (∀ o, W o → Po K ci E N mr G P F ρ σ Q o) → rr [v] H Q) :
    CallD K ci E .bor mr rr (b1 f) := by
  intro N G F P ρ σ H vs ds W Q hN rel hx hf hw
  match vs, ds, hx, hf with
  | [v], [a], hx, hf => exact h N G F P ρ σ H v a W Q hN rel (hx.1.seen rel) hf hw
  | [], [], _, hf => exact (show False from hf).elim
  | _ :: _ :: _, _ :: _ :: _, _, hf => exact (show False from hf).elim
theorem callD_2 {K : Frag} {rr : List V → Hp → VK → Prop} {f : D → D → M D} (h : ∀ (N : Nat) (G : Gh) (F P : Hp) (ρ : Env) (σ : L2.St) (H : Hp) (v u : V) (a b : D) (W : Out D → Prop) (Q : VK), G.n ≤ N → Rel K ci G F P ρ σ H → Seen K ci G F H v a → Seen K ci G F H u b → f a b W → (∀ o, W o → Po K ci E N mr G P F ρ σ Q o) → rr [v, u] H Q) :
    CallD K ci E .bor mr rr (b2 f) := by
  intro N G F P ρ σ H vs ds W Q hN rel hx hf hw
  match vs, ds, hx, hf with
  | [v, u], [a, b], hx, hf => exact h N G F P ρ σ H v u a b W Q hN rel (hx.1.seen rel) (hx.2.1.seen rel) hf hw
  | [], [], _, hf => exact (show False from hf).elim
  | [_], [_], _, hf => exact (show False from hf).elim
  | _ :: _ :: _ :: _, _ :: _ :: _ :: _, _, hf => exact (show False from hf).elim
theorem Seen.scr {K : Frag} {G : Gh} {F H : Hp} {v : V} {ns : List Int} (h : Seen K ci G F H v (.scr ns)) (s : Same F H) : ∃ p, v = .ref p ∧ SqL K H p (ns.map V.int) := by
  rcases h with h | ⟨p, _, h⟩
  · cases h with
    | scr h => exact ⟨_, rfl, s.seq h⟩
  · exact h.elim
theorem Seen.seq {K : Frag} {G : Gh} {F H : Hp} {v : V} {d : D} {ds : List D} (h : Seen K ci G F H v d) (s : Same F H) (e : seqL d = some ds) : ∃ p vs, v = .ref p ∧ (SqL K H p vs ∨ SqT K H p vs) ∧ RepL (rc K ci G) F vs ds := by
  cases d <;> first | cases e | skip
  · obtain ⟨p, vs, e, h, r⟩ := h.lst s
    exact ⟨p, vs, e, .inl (SqL.of h), r⟩
  · obtain ⟨p, vs, e, h, r⟩ := h.tup s
    exact ⟨p, vs, e, .inr h, r⟩
/-! len -/
theorem repK_len {R : Rc} {F : Hp} : ∀ {ws : List (Key × V)} {kvs : List (Key × D)}, RepK R F ws kvs → ws.length = kvs.length
  | _, _, .nil => rfl
  | _, _, .cons _ r => by rw [List.length_cons, List.length_cons, repK_len r]
def rLen3 (K : Frag) : List V → Hp → VK → Prop := fun xs H Q => (∃ p ys, xs = [.ref p] ∧ (SqL K H p ys ∨ SqT K H p ys) ∧ Q (.int ys.length) H) ∨ (∃ z, xs = [.str z] ∧ z.length ≤ sizeLine ∧ Q (.int z.length) H) ∨ (∃ a kvs, xs = [.ref a] ∧ H a = some (.dK kvs) ∧ Q (.int kvs.length) H)
theorem call_lenK : CallR X (.builtin "len") (fun xs H Q => ∃ a kvs, xs = [.ref a] ∧ H a = some (.dK kvs) ∧ Q (.int kvs.length) H) := by
  intro pins s σ H xs us Q I r h
  obtain ⟨a, kvs, rfl, e, q⟩ := h
  rw [Vals.ref1 r]
  exact d_len I (.inl e) fun t s' I' => ⟨.int kvs.length, H, I', ⟨t, rfl⟩, q⟩
theorem call_len3 : CallR X (.builtin "len") (rLen3 X.K) := call_len_seq.or (call_len_str.or call_lenK)
theorem callD_len {K : Frag} : CallD K ci E .bor .sh (rLen3 K) (b1 lenM) := callD_1 fun N G F P ρ σ H v a W Q hN r s h hw => by
  cases a <;> first | exact (show False from h).elim | skip
  · rw [s.str]
    exact .inr (.inl ⟨_, rfl, h.1, (hw _ h.2).val r (.int _)⟩)
  · obtain ⟨p, vs, rfl, hp, rp⟩ := s.lst r.sf
    refine .inl ⟨p, vs, rfl, .inl (SqL.of hp), ?_⟩
    rw [rp.length]
    exact (hw _ h).val r (.int _)
  · obtain ⟨p, vs, rfl, hp, rp⟩ := s.tup r.sf
    refine .inl ⟨p, vs, rfl, .inr hp, ?_⟩
    rw [rp.length]
    exact (hw _ h).val r (.int _)
  · obtain ⟨p, ws, rfl, hp, rp⟩ := s.dK r.sf
    refine .inr (.inr ⟨p, ws, rfl, hp, ?_⟩)
    rw [repK_len rp]
    exact (hw _ h).val r (.int _)
  · obtain ⟨p, rfl, hp⟩ := s.scr r.sf
    refine .inl ⟨p, _, rfl, .inl hp, ?_⟩
    rw [List.length_map]
    exact (hw _ h).val r (.int _)
theorem de_len (hg : Gl X x) (hm : X.mg x = none) (ha : DAB X ci E za [a] r) (he : starEach [a] X.env = (false, eval a X.env) :: starEach [] X.env := by rfl) (hx : x = "len" := by rfl) : DE X ci E za (.Call (.Name x p) [a] [] pos) (dCall (b1 lenM) r) := by
  subst hx
  exact dcB call_len3 callD_len hg hm boot_len ha (he := he)
/-! abs, int, max, min -/
theorem de_abs (hg : Gl X "abs") (hm : X.mg "abs" = none) (ha : DAB X ci E za [a] r) (he : starEach [a] X.env = (false, eval a X.env) :: starEach [] X.env := by rfl) : DE X ci E za (.Call (.Name "abs" p) [a] [] pos) (dCall (b1 absM) r) :=
  dcB call_abs (callD_1 fun N G F P ρ σ H v a W Q hN r s h hw => by
    cases a <;> first | exact (show False from h).elim | skip
    exact ⟨_, by rw [s.int], (hw _ h).val r (.int _)⟩) hg hm (by decide +kernel) ha (he := he)
theorem de_intC (hg : Gl X "int") (hm : X.mg "int" = none) (ha : DAB X ci E za [a] r) (he : starEach [a] X.env = (false, eval a X.env) :: starEach [] X.env := by rfl) : DE X ci E za (.Call (.Name "int" p) [a] [] pos) (dCall (b1 intM) r) :=
  dcT call_int1 (callD_1 fun N G F P ρ σ H v a W Q hN r s h hw => by
    cases a <;> first | exact (show False from h).elim | skip
    · exact .inr ⟨_, by rw [s.bl], (hw _ h).val r (.int _)⟩
    · exact .inl ⟨_, by rw [s.int], (hw _ h).val r (.int _)⟩) hg hm (by decide +kernel) ha (he := he)
theorem de_max2 (hc : X.calm = true) (hg : Gl X "max") (hm : X.mg "max" = none) (ha : DAB X ci E za [a, b] r) (he : starEach [a, b] X.env = (false, eval a X.env) :: starEach [b] X.env := by rfl) (hpl : (backTo pos (starEach [b] X.env)).any (·.1) = false := by rfl) : DE X ci E za (.Call (.Name "max" p) [a, b] [] pos) (dCall (b2 max2M) r) :=
  dcB (call_max2 hc) (callD_2 fun N G F P ρ σ H v u a b W Q hN r s s' h hw => by
    cases a <;> cases b <;> first | exact (show False from h).elim | skip
    exact ⟨_, _, by rw [s.int, s'.int], (hw _ h).val r (.int _)⟩) hg hm (by decide +kernel) ha (he := he) (hpl := hpl)
theorem de_min2 (hc : X.calm = true) (hg : Gl X "min") (hm : X.mg "min" = none) (ha : DAB X ci E za [a, b] r) (he : starEach [a, b] X.env = (false, eval a X.env) :: starEach [b] X.env := by rfl) (hpl : (backTo pos (starEach [b] X.env)).any (·.1) = false := by rfl) : DE X ci E za (.Call (.Name "min" p) [a, b] [] pos) (dCall (b2 min2M) r) :=
  dcB (call_min2 hc) (callD_2 fun N G F P ρ σ H v u a b W Q hN r s s' h hw => by
    cases a <;> cases b <;> first | exact (show False from h).elim | skip
    exact ⟨_, _, by rw [s.int, s'.int], (hw _ h).val r (.int _)⟩) hg hm (by decide +kernel) ha (he := he) (hpl := hpl)
theorem maxL_spec : ∀ (r : List Int) (x : Int), (r.foldl (fun m y => if m < y then y else m) x) ∈ x :: r ∧ ∀ y ∈ x :: r, y ≤ r.foldl (fun m y => if m < y then y else m) x
  | [], x => ⟨by simp, by simp⟩
  | z :: r, x => by
    show (r.foldl (fun m y => if m < y then y else m) (if x < z then z else x)) ∈ x :: z :: r ∧ ∀ y ∈ x :: z :: r, y ≤ r.foldl (fun m y => if m < y then y else m) (if x < z then z else x)
    obtain ⟨h1, h2⟩ := maxL_spec r (if x < z then z else x)
    have h3 := h2 _ (List.mem_cons_self)
    refine ⟨?_, fun y hy => ?_⟩
    · rcases List.mem_cons.mp h1 with h | h
      · rw [h]; split <;> simp
      · exact List.mem_cons_of_mem _ (List.mem_cons_of_mem _ h)
    · rcases List.mem_cons.mp hy with rfl | hy
      · by_cases q : y < z
        · rw [if_pos q] at h3 ⊢; omega
        · rw [if_neg q] at h3 ⊢; omega
      · rcases List.mem_cons.mp hy with rfl | hy
        · by_cases q : x < y
          · rw [if_pos q] at h3 ⊢; omega
          · rw [if_neg q] at h3 ⊢; omega
        · exact h2 y (List.mem_cons_of_mem _ hy)
theorem minL_spec : ∀ (r : List Int) (x : Int), (r.foldl (fun m y => if y < m then y else m) x) ∈ x :: r ∧ ∀ y ∈ x :: r, r.foldl (fun m y => if y < m then y else m) x ≤ y
  | [], x => ⟨by simp, by simp⟩
  | z :: r, x => by
    show (r.foldl (fun m y => if y < m then y else m) (if z < x then z else x)) ∈ x :: z :: r ∧ ∀ y ∈ x :: z :: r, r.foldl (fun m y => if y < m then y else m) (if z < x then z else x) ≤ y
    obtain ⟨h1, h2⟩ := minL_spec r (if z < x then z else x)
    have h3 := h2 _ (List.mem_cons_self)
    refine ⟨?_, fun y hy => ?_⟩
    · rcases List.mem_cons.mp h1 with h | h
      · rw [h]; split <;> simp
      · exact List.mem_cons_of_mem _ (List.mem_cons_of_mem _ h)
    · rcases List.mem_cons.mp hy with rfl | hy
      · by_cases q : z < y
        · rw [if_pos q] at h3 ⊢; omega
        · rw [if_neg q] at h3 ⊢; omega
      · rcases List.mem_cons.mp hy with rfl | hy
        · by_cases q : y < x
          · rw [if_pos q] at h3 ⊢; omega
          · rw [if_neg q] at h3 ⊢; omega
        · exact h2 y (List.mem_cons_of_mem _ hy)
theorem maxL_uniq {ns : List Int} {k m : Int} (e : maxL ns = some k) (h1 : m ∈ ns) (h2 : ∀ y, y ∈ ns → y ≤ m) : m = k := by
  cases ns with
  | nil => cases e
  | cons x r =>
    obtain ⟨q1, q2⟩ := maxL_spec r x
    have e : r.foldl (fun m y => if m < y then y else m) x = k := Option.some.inj e
    rw [e] at q1 q2
    have := q2 m h1
    have := h2 k q1
    omega
theorem minL_uniq {ns : List Int} {k m : Int} (e : minL ns = some k) (h1 : m ∈ ns) (h2 : ∀ y, y ∈ ns → m ≤ y) : m = k := by
  cases ns with
  | nil => cases e
  | cons x r =>
    obtain ⟨q1, q2⟩ := minL_spec r x
    have e : r.foldl (fun m y => if y < m then y else m) x = k := Option.some.inj e
    rw [e] at q1 q2
    have := q2 m h1
    have := h2 k q1
    omega
theorem maxL_pos {ns : List Int} {k : Int} (e : maxL ns = some k) : 0 < ns.length := by
  cases ns with
  | nil => cases e
  | cons x r => simp
theorem minL_pos {ns : List Int} {k : Int} (e : minL ns = some k) : 0 < ns.length := by
  cases ns with
  | nil => cases e
  | cons x r => simp
/-- max, min of a tuple of ints -/
theorem tuple_kept {s : Shared} {l : Addr} {h' : Heap} (hk : ∀ b o, b ∉ [s.heap.objs.size] → (s.heap.push { cls := .type "tuple_iterator", data := .fields #[.ref l, .int 0 0] }).get? b = some o → h'.get? b = some o) :
    ∀ b o, s.heap.get? b = some o → h'.get? b = some o := fun b o e => by
  refine hk b o (fun hm => ?_) (Heap.get?_push_of_some _ e)
  rcases List.mem_cons.mp hm with e1 | hm
  · exact absurd (e1 ▸ Heap.lt_size e) (Nat.lt_irrefl _)
  · cases hm
def rMaxT (K : Frag) : List V → Hp → VK → Prop := fun vs H Q => ∃ (a : Addr) (ns : List Int), vs = [V.ref a] ∧ SqT K H a (ns.map V.int) ∧ 0 < ns.length ∧ ∀ m, m ∈ ns → (∀ y, y ∈ ns → y ≤ m) → Q (.int m) H
def rMinT (K : Frag) : List V → Hp → VK → Prop := fun vs H Q => ∃ (a : Addr) (ns : List Int), vs = [V.ref a] ∧ SqT K H a (ns.map V.int) ∧ 0 < ns.length ∧ ∀ m, m ∈ ns → (∀ y, y ∈ ns → m ≤ y) → Q (.int m) H
theorem ints_getD {its : List Value} {ns : List Int} (h : IntsAre its ns) {i : Nat} {v : Value} (e : its.toArray[i]? = some v) : ∃ t, v = .int (ns.getD i 0) t := by
  have r := vals_of_ints h
  have e' : its[i]? = some v := by simpa using e
  have hl := r.length
  rw [List.length_map] at hl
  have hi : i < ns.length := by
    obtain ⟨h1, _⟩ := List.getElem?_eq_some_iff.mp e'
    omega
  have e2 : (ns.map V.int)[i]? = some (.int ns[i]) := by rw [List.getElem?_map, List.getElem?_eq_getElem hi]; rfl
  obtain ⟨u, hu, ru⟩ := r.get e2
  rw [e'] at hu
  cases hu
  obtain ⟨t, rfl⟩ := ru
  exact ⟨t, by rw [List.getD_eq_getElem?_getD, List.getElem?_eq_getElem hi]; rfl⟩
theorem cr_maxT (hc : X.calm = true) : CallR X (.builtin "max") (rMaxT X.K) := by
  intro pins s σ H vs us Q I r h
  obtain ⟨l, ns, rfl, hs, hne, q⟩ := h
  obtain ⟨its, rv, ht, _⟩ := I.tuple hs
  rw [Vals.ref1 r]
  have hi := rv.ints
  have hlen := rv.length
  rw [List.length_map] at hlen
  obtain ⟨o, ho, hoc, n, hod⟩ := id ht
  have hlt : l < s.heap.objs.size := Heap.lt_size ho
  refine call_max_walk (wpAny_pyIter_tuple (show s.heap.IsTuple l its.toArray from ht) ?_)
  refine ⟨_, _, _, _, _, _, _, rfl, Walks.tuple (A := X.A.in1) (I.ok.hd hc) _ l (Nat.ne_of_lt hlt) its.toArray, ⟨⟨_, Heap.get?_push_size _ rfl, rfl, rfl⟩, ⟨o, Heap.get?_push_of_some _ ho, hoc, n, hod⟩⟩, fun b hb => ?_, by simpa [← hlen] using hne,
    CmpOf.ints_gt (fun i => ns.getD i 0) (fun _ _ e => ints_getD hi e), fun v h' tk hv hk => ?_⟩
  · show b < (s.heap.push _).objs.size
    rw [Heap.size_push]
    rcases List.mem_cons.mp hb with rfl | hb
    · exact Nat.lt_succ_self _
    · rcases List.mem_cons.mp hb with rfl | hb
      · exact Nat.lt_succ_of_lt hlt
      · cases hb
  · obtain ⟨t, rfl⟩ := ints_getD hi hv
    obtain ⟨h1, h2⟩ := argBest_gt (fun i => ns.getD i 0) (its.toArray.size - 1)
    refine ⟨.int _, H, I.kept (t' := tk) (tuple_kept hk), ⟨t, rfl⟩, q _ ?_ fun y hy => ?_⟩
    · refine PySem.getD_mem ?_
      simp only [List.size_toArray] at h1 ⊢
      omega
    · obtain ⟨j, hj, rfl⟩ := mem_getD hy
      refine h2 j ?_
      simp only [List.size_toArray]
      omega
theorem cr_minT (hc : X.calm = true) : CallR X (.builtin "min") (rMinT X.K) := by
  intro pins s σ H vs us Q I r h
  obtain ⟨l, ns, rfl, hs, hne, q⟩ := h
  obtain ⟨its, rv, ht, _⟩ := I.tuple hs
  rw [Vals.ref1 r]
  have hi := rv.ints
  have hlen := rv.length
  rw [List.length_map] at hlen
  obtain ⟨o, ho, hoc, n, hod⟩ := id ht
  have hlt : l < s.heap.objs.size := Heap.lt_size ho
  refine call_min_walk (wpAny_pyIter_tuple (show s.heap.IsTuple l its.toArray from ht) ?_)
  refine ⟨_, _, _, _, _, _, _, rfl, Walks.tuple (A := X.A.in1) (I.ok.hd hc) _ l (Nat.ne_of_lt hlt) its.toArray, ⟨⟨_, Heap.get?_push_size _ rfl, rfl, rfl⟩, ⟨o, Heap.get?_push_of_some _ ho, hoc, n, hod⟩⟩, fun b hb => ?_, by simpa [← hlen] using hne,
    CmpOf.ints_lt (fun i => ns.getD i 0) (fun _ _ e => ints_getD hi e), fun v h' tk hv hk => ?_⟩
  · show b < (s.heap.push _).objs.size
    rw [Heap.size_push]
    rcases List.mem_cons.mp hb with rfl | hb
    · exact Nat.lt_succ_self _
    · rcases List.mem_cons.mp hb with rfl | hb
      · exact Nat.lt_succ_of_lt hlt
      · cases hb
  · obtain ⟨t, rfl⟩ := ints_getD hi hv
    obtain ⟨h1, h2⟩ := argBest_lt (fun i => ns.getD i 0) (its.toArray.size - 1)
    refine ⟨.int _, H, I.kept (t' := tk) (tuple_kept hk), ⟨t, rfl⟩, q _ ?_ fun y hy => ?_⟩
    · refine PySem.getD_mem ?_
      simp only [List.size_toArray] at h1 ⊢
      omega
    · obtain ⟨j, hj, rfl⟩ := mem_getD hy
      refine h2 j ?_
      simp only [List.size_toArray]
      omega
theorem callD_max {K : Frag} : CallD K ci E .bor .sh (fun vs H Q => rMax K vs H Q ∨ rMaxT K vs H Q) (b1 maxM) := callD_1 fun N G F P ρ σ H v a W Q hN r s h hw => by
  cases a <;> first | exact (show False from h).elim | skip
  · obtain ⟨ns, e, h⟩ := get_ok (show M.get (asInts _) _ from h)
    obtain ⟨k, e2, h⟩ := get_ok (show M.get (maxL ns) _ from h)
    obtain ⟨p, vs, rfl, hp, rp⟩ := s.lst r.sf
    refine .inl ⟨p, ns, rfl, by rw [← rp.ints e]; exact SqL.of hp, maxL_pos e2, fun m h1 h2 => ?_⟩
    rw [maxL_uniq e2 h1 h2]
    exact (hw _ h).val r (.int _)
  · obtain ⟨ns, e, h⟩ := get_ok (show M.get (asInts _) _ from h)
    obtain ⟨k, e2, h⟩ := get_ok (show M.get (maxL ns) _ from h)
    obtain ⟨p, vs, rfl, hp, rp⟩ := s.tup r.sf
    refine .inr ⟨p, ns, rfl, by rw [← rp.ints e]; exact hp, maxL_pos e2, fun m h1 h2 => ?_⟩
    rw [maxL_uniq e2 h1 h2]
    exact (hw _ h).val r (.int _)
theorem callD_min {K : Frag} : CallD K ci E .bor .sh (fun vs H Q => rMin K vs H Q ∨ rMinT K vs H Q) (b1 minM) := callD_1 fun N G F P ρ σ H v a W Q hN r s h hw => by
  cases a <;> first | exact (show False from h).elim | skip
  · obtain ⟨ns, e, h⟩ := get_ok (show M.get (asInts _) _ from h)
    obtain ⟨k, e2, h⟩ := get_ok (show M.get (minL ns) _ from h)
    obtain ⟨p, vs, rfl, hp, rp⟩ := s.lst r.sf
    refine .inl ⟨p, ns, rfl, by rw [← rp.ints e]; exact SqL.of hp, minL_pos e2, fun m h1 h2 => ?_⟩
    rw [minL_uniq e2 h1 h2]
    exact (hw _ h).val r (.int _)
  · obtain ⟨ns, e, h⟩ := get_ok (show M.get (asInts _) _ from h)
    obtain ⟨k, e2, h⟩ := get_ok (show M.get (minL ns) _ from h)
    obtain ⟨p, vs, rfl, hp, rp⟩ := s.tup r.sf
    refine .inr ⟨p, ns, rfl, by rw [← rp.ints e]; exact hp, minL_pos e2, fun m h1 h2 => ?_⟩
    rw [minL_uniq e2 h1 h2]
    exact (hw _ h).val r (.int _)
theorem de_max (hc : X.calm = true) (hg : Gl X "max") (hm : X.mg "max" = none) (ha : DAB X ci E za [a] r) (he : starEach [a] X.env = (false, eval a X.env) :: starEach [] X.env := by rfl) : DE X ci E za (.Call (.Name "max" p) [a] [] pos) (dCall (b1 maxM) r) :=
  dcB ((cr_max hc).or (cr_maxT hc)) callD_max hg hm (by decide +kernel) ha (he := he)
theorem de_min (hc : X.calm = true) (hg : Gl X "min") (hm : X.mg "min" = none) (ha : DAB X ci E za [a] r) (he : starEach [a] X.env = (false, eval a X.env) :: starEach [] X.env := by rfl) : DE X ci E za (.Call (.Name "min" p) [a] [] pos) (dCall (b1 minM) r) :=
  dcB ((cr_min hc).or (cr_minT hc)) callD_min hg hm (by decide +kernel) ha (he := he)
theorem de_any (hc : X.calm = true) (hg : Gl X "any") (hm : X.mg "any" = none) (ha : DAB X ci E za [a] r) (he : starEach [a] X.env = (false, eval a X.env) :: starEach [] X.env := by rfl) : DE X ci E za (.Call (.Name "any" p) [a] [] pos) (dCall (b1 anyM) r) :=
  dcB (cr_any hc) (callD_1 fun N G F P ρ σ H v a W Q hN r s h hw => by
    cases a <;> first | exact (show False from h).elim | skip
    obtain ⟨bs, e, h⟩ := get_ok (show M.get (asBls _) _ from h)
    obtain ⟨p, vs, rfl, hp, rp⟩ := s.lst r.sf
    exact ⟨p, bs, rfl, by rw [← rp.bls e]; exact SqL.of hp, (hw _ h).val r (.bl _)⟩) hg hm (by decide +kernel) ha (he := he)
theorem de_all (hc : X.calm = true) (hg : Gl X "all") (hm : X.mg "all" = none) (ha : DAB X ci E za [a] r) (he : starEach [a] X.env = (false, eval a X.env) :: starEach [] X.env := by rfl) : DE X ci E za (.Call (.Name "all" p) [a] [] pos) (dCall (b1 allM) r) :=
  dcB (cr_all hc) (callD_1 fun N G F P ρ σ H v a W Q hN r s h hw => by
    cases a <;> first | exact (show False from h).elim | skip
    obtain ⟨bs, e, h⟩ := get_ok (show M.get (asBls _) _ from h)
    obtain ⟨p, vs, rfl, hp, rp⟩ := s.lst r.sf
    exact ⟨p, bs, rfl, by rw [← rp.bls e]; exact SqL.of hp, (hw _ h).val r (.bl _)⟩) hg hm (by decide +kernel) ha (he := he)
/-! sorted of ints, list, tuple -/
theorem insI_perm (x : Int) : ∀ l : List Int, (insI x l).Perm (x :: l)
  | [] => .refl _
  | y :: r => by
    show (if x ≤ y then x :: y :: r else y :: insI x r).Perm (x :: y :: r)
    by_cases h : x ≤ y
    · rw [if_pos h]
    · rw [if_neg h]
      exact ((insI_perm x r).cons y).trans (.swap x y r)
theorem sortI_perm : ∀ l : List Int, (sortI l).Perm l
  | [] => .refl _
  | x :: r => (insI_perm x _).trans ((sortI_perm r).cons x)
theorem insI_sorted (x : Int) : ∀ {l : List Int}, l.Pairwise (· ≤ ·) → (insI x l).Pairwise (· ≤ ·)
  | [], _ => by simp [insI]
  | y :: r, h => by
    show (if x ≤ y then x :: y :: r else y :: insI x r).Pairwise (· ≤ ·)
    obtain ⟨h1, h2⟩ := List.pairwise_cons.mp h
    by_cases q : x ≤ y
    · rw [if_pos q]
      refine List.pairwise_cons.mpr ⟨fun z hz => ?_, h⟩
      rcases List.mem_cons.mp hz with rfl | hz
      · exact q
      · have := h1 z hz
        omega
    · rw [if_neg q]
      refine List.pairwise_cons.mpr ⟨fun z hz => ?_, insI_sorted x h2⟩
      rcases List.mem_cons.mp ((insI_perm x r).mem_iff.mp hz) with rfl | hz
      · omega
      · exact h1 z hz
theorem sortI_sorted : ∀ l : List Int, (sortI l).Pairwise (· ≤ ·)
  | [] => by simp [sortI]
  | x :: r => insI_sorted x (sortI_sorted r)
theorem sorted_uniq {a b : List Int} (p : a.Perm b) (ha : a.Pairwise (· ≤ ·)) (hb : b.Pairwise (· ≤ ·)) : a = b :=
  p.eq_of_pairwise (fun x y _ _ h1 h2 => by omega) ha hb
theorem callD_sorted {K : Frag} {mr : Md} (hmr : ∀ (N : Nat) (G : Gh) (F P H : Hp) (ρ : Env) (σ : L2.St) (Q : VK) (p : Addr) (ns : List Int), G.n ≤ N → Rel K ci G F P ρ σ H → H p = none → Po K ci E N mr G P F ρ σ Q (.ok (.lst (ns.map D.int))) → Q (.ref p) (upd H p (.lst (ns.map V.int)))) :
    CallD K ci E .bor mr (rSorted K) (b1 sortedM) := callD_1 fun N G F P ρ σ H v a W Q hN r s h hw => by
  cases a <;> first | exact (show False from h).elim | skip
  · obtain ⟨ns, e, h⟩ := get_ok (show M.get (asInts _) _ from h)
    obtain ⟨p, vs, rfl, hp, rp⟩ := s.lst r.sf
    refine ⟨p, ns, rfl, by rw [← rp.ints e]; exact SqL.of hp, h.1, fun ns' q p1 p2 hq => ?_⟩
    have e2 : ns' = sortI ns := sorted_uniq (p1.trans (sortI_perm ns).symm) p2 (sortI_sorted ns)
    subst e2
    exact hmr N G F P H ρ σ Q q _ hN r hq (hw _ h.2)
theorem do_sorted (hg : Gl X "sorted") (hm : X.mg "sorted" = none) (ha : DAB X ci E za [a] r) (he : starEach [a] X.env = (false, eval a X.env) :: starEach [] X.env := by rfl) : DO X ci E za (.Call (.Name "sorted" p) [a] [] pos) (dCall (b1 sortedM) r) :=
  dcBO cr_sorted (callD_sorted fun N G F P H ρ σ Q p ns hN r hp h => h.make r hp ⟨_, upd_same, repL_ints ns⟩) hg hm (by decide +kernel) ha (he := he)
def rListOf (K : Frag) : List V → Hp → VK → Prop := fun xs H Q => ∃ p ys, xs = [.ref p] ∧ (SqL K H p ys ∨ SqT K H p ys) ∧ ∀ l, H l = none → Q (.ref l) (upd H l (.lst ys))
theorem do_list (hg : Gl X "list") (hm : X.mg "list" = none) (ha : DAB X ci E za [a] r) (he : starEach [a] X.env = (false, eval a X.env) :: starEach [] X.env := by rfl) : DO X ci E za (.Call (.Name "list" p) [a] [] pos) (dCall (b1 listM) r) :=
  dcTO (rr := rListOf X.K) call_list_of (callD_1 fun N G F P ρ σ H v a W Q hN r s h hw => by
    obtain ⟨ds, e, h⟩ := get_ok (show M.get (seqL a) _ from h)
    obtain ⟨p, vs, rfl, hp, rp⟩ := s.seq r.sf e
    exact ⟨p, vs, rfl, hp, fun l hl => (hw _ h).make r hl ⟨_, upd_same, rp⟩⟩) hg hm (by decide +kernel) ha (he := he)
def rTupleOf (K : Frag) : List V → Hp → VK → Prop := fun xs H Q => ∃ p ys, xs = [.ref p] ∧ ((SqL K H p ys ∧ ∀ l, H l = none → Q (.ref l) (upd H l (.tup ys))) ∨ (SqT K H p ys ∧ Q (.ref p) H))
theorem de_tuple (hg : Gl X "tuple") (hm : X.mg "tuple" = none) (ha : DAB X ci E za [a] r) (he : starEach [a] X.env = (false, eval a X.env) :: starEach [] X.env := by rfl) : DE X ci E za (.Call (.Name "tuple" p) [a] [] pos) (dCall (b1 tupleM) r) :=
  dcT (rr := rTupleOf X.K) call_tuple_of (callD_1 fun N G F P ρ σ H v a W Q hN r s h hw => by
    obtain ⟨ds, e, h⟩ := get_ok (show M.get (seqL a) _ from h)
    cases a <;> first | cases e | skip
    · obtain ⟨p, vs, rfl, hp, rp⟩ := s.lst r.sf
      exact ⟨p, vs, rfl, .inl ⟨SqL.of hp, fun l hl => (hw _ h).makeS r hl (.tup (.inl (.inl upd_same)) (rp.mono (Rc.Le.refl _) (same_upd (r.lone hl).hf)))⟩⟩
    · have q := s.repT
      obtain ⟨p, vs, rfl, hp, rp⟩ := s.tup r.sf
      exact ⟨p, vs, rfl, .inr ⟨hp, (hw _ h).val r q⟩⟩) hg hm (by decide +kernel) ha (he := he)
end
end DL
end
section
/-! DLEn: enumerate over a tuple. -/
set_option Elab.async false
set_option linter.all false
set_option autoImplicit false
set_option maxRecDepth 100000
set_option maxHeartbeats 2000000
namespace PySem
open AutoSeq1 (wpAny_loadPart')
theorem meets_enumerate_newB1 {v : Value} {o : Obj} {H : Heap → Prop} (B : Begins v o H) :
    Meets (Builtin.«enumerate.__new__» ⟨[.type "enumerate", v], []⟩) (fun _ R s => H s.heap ∧
      R (.ok (.ret (.ref (s.heap.push o).objs.size))) { s with heap := (s.heap.push o).push { cls := .type "enumerate", data := .fields #[.none, .bool false, .ref s.heap.objs.size, rawInt 0, .none, .none] } }) :=
  .of_wp fun prog w A R s h => by
    obtain ⟨hp, g, d, tk, os⟩ := s; obtain ⟨h1, h⟩ := h
    have hsub := sub_enumerate
    have q1 : ∀ {A' : Around} {E : Value → Shared → Prop} {Q : Value → Shared → Prop}, Q (.ref hp.objs.size) ⟨hp.push o, g, d, tk, os⟩ → wpAny (model prog w) A' (pyIter v) Q E ⟨hp, g, d, tk, os⟩ :=
      fun q => B.iter prog w _ _ ⟨hp, g, d, tk, os⟩ _ h1 q
    wp_walk using q1
    refine wpAny_stack_any fun st => wpAny_pure ?_
    split
    · rename_i c _ _ _ _ _
      cases (c == Value.type "enumerate")
      · wp_walk using q1
        exact ⟨_, rfl, h⟩
      · wp_walk using q1
        exact ⟨_, rfl, h⟩
    · wp_walk using q1
      exact ⟨_, rfl, h⟩
section
variable {prog : Program} {w : World} {A : Around} {E : Value → Shared → Prop} {s : Shared}
theorem enum_begins1 {v : Value} {o : Obj} {H : Heap → Prop} {Q : Value → Shared → Prop} (B : Begins v o H) (h1 : H s.heap)
    (h : ∀ h', IsEnum h' (s.heap.objs.size + 1) s.heap.objs.size 0 .none → h'.get? s.heap.objs.size = some o → h'.objs.size = s.heap.objs.size + 2 →
      (∀ b o, s.heap.get? b = some o → h'.get? b = some o) → Q (.ref (s.heap.objs.size + 1)) { s with heap := h' }) :
    wpAny (model prog w) A (call (.type "enumerate") [v]) Q E s := by
  refine callType_new F.called_enumerate (by decide) (F.typeCall_enumerate_1 _) (F.newCall_enumerate_1 _) (fun obj => F.args_object_init_2 obj _) F.entry_enumerate_new
    (meets_enumerate_newB1 B) ⟨h1, ?_⟩
  have hz : (s.heap.push o).objs.size = s.heap.objs.size + 1 := Heap.size_push ..
  show _ ∧ _
  rw [hz]
  have he : IsEnum ((s.heap.push o).push { cls := .type "enumerate", data := .fields #[.none, .bool false, .ref s.heap.objs.size, rawInt 0, .none, .none] }) (s.heap.objs.size + 1) s.heap.objs.size 0 .none := by
    have := Heap.get?_push_size (s.heap.push o) (o := { cls := .type "enumerate", data := .fields #[.none, .bool false, .ref s.heap.objs.size, rawInt 0, .none, .none] }) rfl
    rw [hz] at this; exact this
  refine ⟨⟨_, he, rfl⟩, h _ he (Heap.get?_push_of_some _ (Heap.get?_push_size _ B.free)) (by rw [Heap.size_push, hz]) fun b o x => Heap.get?_push_of_some _ (Heap.get?_push_of_some _ x)⟩
end
end PySem
namespace L2
open PySem PySem.Spec PyProof.Rows
/-- the tuple at a, each item in a new pair -/
def IteT (K : PySem.W.Frag) (a : Addr) : It :=
  ⟨fun i H => ∃ (xs : List V) (x : V), SqT K H a xs ∧ xs[i]? = some x, fun i H v H' => ∃ T x, v = .ref T ∧ H T = none ∧ H' = upd H T (.tup [.int (i : Nat), x]) ∧ ∀ xs, SqT K H a xs → xs[i]? = some x, fun i H => ∃ xs : List V, SqT K H a xs ∧ xs.length ≤ i⟩
theorem turn_enumT {P : Program} {w : World} {K : PySem.W.Frag} {elts : List Expr} {kk : Nat} {tpos : Pos} (a e it : Addr) (ha : a ≠ it) (hea : a ≠ e) :
    Turn P w K (.Tuple elts kk tpos) (IteT K a) [e, it] e (fun i h => (∃ old, IsEnum h e it ((i : Nat) : Int) old) ∧ h.IsTupleIter it a i ∧ e ≠ it) where
  mem := by simp
  obj := fun i h st b hb => by
    obtain ⟨⟨old, he⟩, ⟨o, ho, hc, hd⟩, _⟩ := st
    have e' : b = e ∨ b = it := by simpa using hb
    rcases e' with z | z
    · rw [z]; exact ⟨_, he, fun v q => nomatch q⟩
    · rw [z]; exact ⟨o, ho, fun v q => by rw [hd] at q; cases q⟩
  keep := fun i h h' st k => let ⟨⟨old, he⟩, hi, hne⟩ := st; ⟨⟨old, k e (by simp) _ he⟩, hi.at fun o q => k it (by simp) o q, hne⟩
  item := by
    intro X hP hw hK hc i pins s σ H E I hf st hg
    subst hP hw hK
    obtain ⟨⟨old, he⟩, hit, hne⟩ := st
    obtain ⟨xs, x, hq, hx⟩ := hg
    obtain ⟨its, rv, p, hz⟩ := I.tuple hq
    obtain ⟨u, hu, ru⟩ := rv.get hx
    have hel : e < s.heap.objs.size := Heap.lt_size he
    have hil : it < s.heap.objs.size := by obtain ⟨_, q, _⟩ := hit; exact Heap.lt_size q
    have hlt : i < its.toArray.size := by
      obtain ⟨h1, _⟩ := List.getElem?_eq_some_iff.mp hu
      simpa using h1
    refine wpAny_pyNext_enum_itemD (Draws.tuple (A := X.A.in1) (I.ok.hd hc) it a ha its.toArray) he ⟨hit, p⟩ hlt hne (by simp [hne, Ne.symm hea]) fun x' h' tk hP ho st' hT hsz hk => ?_
    have ex : x' = u := by
      have h1 : its.toArray[i]? = some x' := hP
      rw [List.getElem?_toArray, hu] at h1
      exact (Option.some.inj h1).symm
    subst ex
    refine ⟨_, rfl, wpAny_letOwnedTupleGo_enum (s := { s with heap := h', toks := tk + 1 }) ho fun h'' he' sb => ?_⟩
    have hT2 : h''.get? s.heap.objs.size = some { cls := .type "tuple", data := .seq #[.int i tk, x'] } := (sb.2 _ (Nat.ne_of_gt hel)).trans hT
    have new : ObjOk X.prog X.w (upd H s.heap.objs.size (.tup [.int (i : Nat), x])) h'' s.heap.objs.size (.tup [.int (i : Nat), x]) :=
      ⟨by show 2 ≤ sizeLine; decide, [.int i tk, x'], .cons ⟨_, rfl⟩ (.cons ru .nil), ⟨_, hT2, rfl, _, rfl⟩⟩
    have I1 : Inv X pins σ (upd H s.heap.objs.size (.tup [.int (i : Nat), x])) { s with heap := h'', toks := tk + 1 } :=
      I.turnedNew (ch := [e, it]) (fun b ob hb q => (sb.2 b (fun z => hb (by simp [z]))).trans (hk b ob (fun z => hb (by simp [z])) (fun z => hb (by simp [z])) q)) hf (Nat.le_refl _) new
    refine ⟨.ref s.heap.objs.size, _, I1, rfl, ⟨_, x, rfl, I.hok.fresh (Nat.le_refl _), rfl, fun ys hy => by rw [I.tuple_inj hy hq]; exact hx⟩, ⟨⟨x', ?_⟩, st'.1.at fun o q => (sb.2 it (Ne.symm hne)).trans q, hne⟩, fun b hb => ?_⟩
    · have e1 : ((i + 1 : Nat) : Int) = (i : Int) + 1 := by omega
      rw [e1]; exact he'
    · have hb' : b < s.heap.objs.size := by
        have e' : b = e ∨ b = it := by simpa using hb
        rcases e' with z | z
        · rw [z]; exact hel
        · rw [z]; exact hil
      rw [upd_ne (Nat.ne_of_lt hb')]
      exact (hf b hb).1
  done := by
    intro X hP hw hK hc i pins s σ H E I hf st hg
    subst hP hw hK
    obtain ⟨⟨old, he⟩, hit, hne⟩ := st
    obtain ⟨xs, hq, hx⟩ := hg
    obtain ⟨its, rv, p, hz⟩ := I.tuple hq
    obtain ⟨f0, f1, f2, f3, f4, f5⟩ := hf it (by simp)
    have hl := rv.length
    have hT : s.TypeIs (.ref e) "enumerate" := ⟨_, he, rfl⟩
    unfold pyNext
    refine wpAny_bind (wpAny_attempt (wpAny_callSpecial?_slot (name := Str.ofString "__next__") hT F.slot_enumerate_next
      (wpAny_call_entry F.slot_enumerate_next hT F.entry_enumerate_next ?_ (F.args_enumerate_next_1 _))))
    show wpAny _ _ (field (.ref e) 2 >>= _) _ _ _
    refine wpAny_bind (wpAny_field he rfl (x := .ref it) rfl ?_)
    refine wpAny_bind (wpAny_nextOf_tuple_end (I.ok.hd hc) hit (show s.heap.IsTuple a its.toArray from p) (by simp; omega) fun h' x he' hx' => ?_)
    obtain ⟨o, ho, hc'⟩ := hx'
    refine wpAny_bind (wpAny_isInstance (T := "StopIteration") (b := true) ⟨o, ho, hc'⟩ isSubtype_stop ?_)
    exact wpAny_pure ⟨rfl, I.turned (t' := s.toks) (fun b o hb q => he' b o hb q) f0 f1 f3 f4 f5⟩
  self := fun A i s Q E st h => let ⟨⟨_, he⟩, _⟩ := st; wpAny_pyIter_enum he h
/-- enumerate of a list or a tuple -/
def iEnumA (K : PySem.W.Frag) (ta : TA) : TI := fun σ H R => ta σ H fun vs H1 => ∃ a xs, vs = [.ref a] ∧ ((SqL K H1 a xs ∧ R (Ite K a) H1) ∨ (SqT K H1 a xs ∧ R (IteT K a) H1))
theorem pi_enumA {X : Cx} {e : Expr} {ta : TA} {p pos tpos : Pos} {elts : List Expr} {kk : Nat} (hg : Gl X "enumerate") (hm : X.mg "enumerate" = none) (ha : PA X [e] ta) (hs : starEach [e] X.env = [(false, eval e X.env)] := by rfl) :
    PI X (.Tuple elts kk tpos) (.Call (.Name "enumerate" p) [e] [] pos) (iEnumA X.K ta) := by
  refine ⟨fun pins s σ H R I h => ?_⟩
  refine Call_ (ld_blt I hg hm boot_enumerate (PyProof.Rows.callWith_type1 (thn (ha.run pos pins s σ H _ I h) fun us s1 ⟨vs, H1, I1, r1, q1⟩ => ?_) hs rfl))
  obtain ⟨a, xs, ex, q1⟩ := q1
  subst ex
  cases r1 with
  | cons r rr =>
    cases rr
    cases r
    rcases q1 with ⟨hq, q⟩ | ⟨hq, q⟩
    · obtain ⟨its, rv, p', hz⟩ := I1.list hq
      refine call_enumerate_list p'.isList fun h' he hit hsz hk => wpAny_pyIter_enum he ?_
      have I2 : Inv X pins σ H1 { s1 with heap := h' } := I1.kept (t' := s1.toks) hk
      refine ⟨s1.heap.objs.size + 1, [s1.heap.objs.size + 1, s1.heap.objs.size], _, _, H1, rfl, I2, turn_enum a (s1.heap.objs.size + 1) s1.heap.objs.size, ⟨⟨.none, he⟩, hit, Nat.succ_ne_self _⟩, fun b hb => ?_, q⟩
      have e' : b = s1.heap.objs.size + 1 ∨ b = s1.heap.objs.size := by simpa using hb
      have hle : s1.heap.objs.size ≤ b := by
        rcases e' with z | z
        · rw [z]; exact Nat.le_add_right _ _
        · rw [z]; exact Nat.le_refl _
      exact I1.fpOk hle (I1.hok.fresh hle)
    · obtain ⟨its, rv, p', hz⟩ := I1.tuple hq
      have hT : s1.heap.IsTuple a its.toArray := p'
      obtain ⟨ob, hob, _⟩ := id p'
      have hlt : a < s1.heap.objs.size := Heap.lt_size hob
      refine enum_begins1 (begins_tuple a its.toArray) hT fun h' he hit hsz hk => wpAny_pyIter_enum he ?_
      have I2 : Inv X pins σ H1 { s1 with heap := h' } := I1.kept (t' := s1.toks) hk
      refine ⟨s1.heap.objs.size + 1, [s1.heap.objs.size + 1, s1.heap.objs.size], _, _, H1, rfl, I2, turn_enumT a (s1.heap.objs.size + 1) s1.heap.objs.size (Nat.ne_of_lt hlt) (Nat.ne_of_lt (Nat.lt_succ_of_lt hlt)), ⟨⟨.none, he⟩, ⟨_, hit, rfl, rfl⟩, Nat.succ_ne_self _⟩, fun b hb => ?_, q⟩
      have e' : b = s1.heap.objs.size + 1 ∨ b = s1.heap.objs.size := by simpa using hb
      have hle : s1.heap.objs.size ≤ b := by
        rcases e' with z | z
        · rw [z]; exact Nat.le_add_right _ _
        · rw [z]; exact Nat.le_refl _
      exact I1.fpOk hle (I1.hok.fresh hle)
end L2
end
section
/-! DL5: truths as values, targets, walks, comprehensions. -/
set_option Elab.async false
set_option linter.all false
set_option autoImplicit false
set_option maxRecDepth 100000
set_option maxHeartbeats 1000000
namespace DL
open PySem PySem.Spec PyProof.Rows L2
section
variable {X : Cx} {ci : Ci} {E : XK} {e a b c : Expr} {d da db dc : XE} {pos : Pos} {es rest : List Expr} {r : XA} {m mr : Md} {x : Str} {p : Pos} {z0 za zb zc : Nat}
/-! ### and, or, not as values -/
theorem de_one {op} (h : DE X ci E z0 a da) : DE X ci E z0 (.BoolOp op [a] pos) da := pe_one h
theorem de_and (ha : DE X ci E za a da) (hb : DE X ci E zb (.BoolOp .And (b :: rest) pos) db) : DE X ci E (za + zb) (.BoolOp .And (a :: b :: rest) pos) (dAnd da db) := (pe_and ha hb).imp fun σ H Q ⟨G, P, F, ρ, W, bd, rel, hd, hw⟩ => by
  refine ⟨G, P, F, ρ, _, by omega, rel, hd, fun o ho => ?_⟩
  cases o with
  | exc c fs => exact XP.lo (hw _ ho)
  | ok a =>
    intro G1 F1 H1 v l1 s1 r1 x1
    obtain ⟨b, hb, ho⟩ := get_ok (show (M.get (asBl a) _) from ho)
    cases a <;> first | cases hb | skip
    cases x1
    refine ⟨_, rfl, ?_⟩
    cases b with
    | true => exact ⟨G1, P, F1, ρ, W, by omega, r1, ho, fun o ho => (hw o ho).le l1 s1⟩
    | false => exact ((hw _ ho).to l1 s1).val r1 (.bl _)
theorem de_or (ha : DE X ci E za a da) (hb : DE X ci E zb (.BoolOp .Or (b :: rest) pos) db) : DE X ci E (za + zb) (.BoolOp .Or (a :: b :: rest) pos) (dOr da db) := (pe_or ha hb).imp fun σ H Q ⟨G, P, F, ρ, W, bd, rel, hd, hw⟩ => by
  refine ⟨G, P, F, ρ, _, by omega, rel, hd, fun o ho => ?_⟩
  cases o with
  | exc c fs => exact XP.lo (hw _ ho)
  | ok a =>
    intro G1 F1 H1 v l1 s1 r1 x1
    obtain ⟨b, hb, ho⟩ := get_ok (show (M.get (asBl a) _) from ho)
    cases a <;> first | cases hb | skip
    cases x1
    refine ⟨_, rfl, ?_⟩
    cases b with
    | false => exact ⟨G1, P, F1, ρ, W, by omega, r1, ho, fun o ho => (hw o ho).le l1 s1⟩
    | true => exact ((hw _ ho).to l1 s1).val r1 (.bl _)
theorem de_not (ha : DE X ci E za a da) : DE X ci E za (.UnaryOp .Not a pos) (d1 notM da) := (pe_not ha).imp fun σ H Q ⟨G, P, F, ρ, W, bd, rel, hd, hw⟩ => by
  refine ⟨G, P, F, ρ, _, by omega, rel, hd, fun o ho => ?_⟩
  cases o with
  | exc c fs => exact XP.lo (hw _ ho)
  | ok a =>
    intro G1 F1 H1 v l1 s1 r1 x1
    obtain ⟨b, hb, ho⟩ := get_ok (show (M.get (asBl a) _) from ho)
    cases a <;> first | cases hb | skip
    cases x1
    exact ⟨_, rfl, ((hw _ ho).to l1 s1).val r1 (.bl _)⟩
theorem de_neg (ha : DB X ci E za a da) : DE X ci E za (.UnaryOp .USub a pos) (d1 negM da) := (pe_un un_neg ha).imp (op1_imp fun N G F P ρ σ H x a W Q hN r ha h hw => by
  cases a <;> first | exact (show False from h).elim | skip
  exact ⟨_, (Res.seen ha r).int, (hw _ h).val r (.int _)⟩)
/-- a op b op c -/
theorem chain_imp {K : Frag} {r1 r2 : R2} {f g : D → D → M D} (hf : OpD K ci E .bor .bor .sh r1 f) (hg : OpD K ci E .bor .bor .sh r2 g) (σ : L2.St) (H : Hp) (Q : VK) (h : tE K ci E (za + zb + zc) .sh (dChain f g da db dc) σ H Q) :
    L2.tChain r1 r2 (tE K ci E za .bor da) (tE K ci E zb .bor db) (tE K ci E zc .bor dc) σ H Q := by
  obtain ⟨G, P, F, ρ, W, bd, rel, hd, hw⟩ := h
  refine ⟨G, P, F, ρ, _, by omega, rel, hd, fun o ho => ?_⟩
  cases o with
  | exc c fs => exact XP.lo (hw _ ho)
  | ok a =>
    intro G1 F1 H1 v l1 s1 q1 x1
    refine ⟨G1, P, F1, ρ, _, by omega, q1, ho, fun o ho => ?_⟩
    cases o with
    | exc c fs => exact XP.le (hw _ ho) l1 s1
    | ok b =>
      intro G2 F2 H2 u l2 s2 q2 x2
      refine hf (G.n + (za + zb)) G2 F2 P ρ σ H2 v u a b _ _ (by omega) q2 (Bor.mono x1 (rc_le K ci l2) s2) x2 ho fun o ho => ?_
      cases o with
      | exc c fs => exact XP.le (hw _ ho) (l1.trans l2) (s1.trans s2)
      | ok r =>
        intro G3 F3 H3 w l3 s3 q3 x3
        obtain ⟨t, ht, ho⟩ := get_ok (show (M.get (asBl r) _) from ho)
        cases r <;> first | cases ht | skip
        cases x3
        refine ⟨_, rfl, ?_⟩
        cases t with
        | true =>
          refine ⟨G3, P, F3, ρ, _, by omega, q3, ho, fun o ho => ?_⟩
          cases o with
          | exc c fs => exact XP.le (hw _ ho) ((l1.trans l2).trans l3) ((s1.trans s2).trans s3)
          | ok z =>
            intro G4 F4 H4 y l4 s4 q4 x4
            exact hg (G.n + (za + zb + zc)) G4 F4 P ρ σ H4 u y b z W Q (by omega) q4 (Bor.mono x2 (rc_le K ci (l3.trans l4)) (s3.trans s4)) x4 ho fun o ho => (hw o ho).le (((l1.trans l2).trans l3).trans l4) (((s1.trans s2).trans s3).trans s4)
        | false => exact ((hw _ ho).to ((l1.trans l2).trans l3) ((s1.trans s2).trans s3)).val q3 (.bl _)
/-- a comparison's rule and meaning -/
def Cm (X : Cx) (ci : Ci) (E : XK) (op : CmpOp) (f : D → D → M D) : Prop := ∃ r, OpR X (compareOp op) r ∧ OpD X.K ci E .bor .bor .sh r f
theorem cm_lt (hu : X.A.units < cLine) : Cm X ci E .Lt ltM := ⟨_, op_lt2 hu, opD_lt⟩
theorem cm_le : Cm X ci E .LtE leM := ⟨_, op_le, opD_le⟩
theorem cm_gt : Cm X ci E .Gt gtM := ⟨_, op_gt, opD_gt⟩
theorem cm_ge : Cm X ci E .GtE geM := ⟨_, op_ge, opD_ge⟩
theorem cm_eq (hu : X.A.units + 64 < cLine) : Cm X ci E .Eq eqM := ⟨_, op_eqD hu, opD_eq⟩
theorem cm_ne (hu : X.A.units + 64 < cLine) : Cm X ci E .NotEq neM := ⟨_, op_neD hu, opD_ne⟩
theorem de_chain {op op' : CmpOp} {f g : D → D → M D} (h1 : Cm X ci E op f) (h2 : Cm X ci E op' g) (ha : DB X ci E za a da) (hb : DB X ci E zb b db) (hc : DB X ci E zc c dc) (hm : lastMarks [op, op'] [b, c] = false := by with_unfolding_all rfl) :
    DE X ci E (za + zb + zc) (.Compare a [op, op'] [b, c] pos) (dChain f g da db dc) := by
  obtain ⟨r1, o1, f1⟩ := h1
  obtain ⟨r2, o2, f2⟩ := h2
  exact (pe_chain o1 o2 ha hb hc hm).imp (chain_imp f1 f2)
theorem dt_chain {op op' : CmpOp} {f g : D → D → M D} (h1 : Cm X ci E op f) (h2 : Cm X ci E op' g) (ha : DB X ci E za a da) (hb : DB X ci E zb b db) (hc : DB X ci E zc c dc) (hm : lastMarks [op, op'] [b, c] = false := by with_unfolding_all rfl) :
    DT X ci E (za + zb + zc) (.Compare a [op, op'] [b, c] pos) (tOf (dChain f g da db dc)) := by
  obtain ⟨r1, o1, f1⟩ := h1
  obtain ⟨r2, o2, f2⟩ := h2
  exact (pt_chain o1 o2 ha hb hc hm).imp (tTest_imp (chain_imp f1 f2))
/-- a if t else b, as a test -/
theorem dt_if {dt du dv : XT} (hc : DT X ci E zc c dt) (ha : DT X ci E za a du) (hb : DT X ci E zb b dv) : DT X ci E (zc + za + zb) (.IfExp c a b pos) (tIf dt du dv) := by
  refine ⟨fun pins s σ H Q I h => ?_⟩
  obtain ⟨G, P, F, ρ, W, bd, rel, hd, hw⟩ := h
  show wpAny _ X.A (do if ← isTrue c X.env (eval c X.env) then isTrue a X.env (eval a X.env) else isTrue b X.env (eval b X.env)) _ _ s
  refine wpAny_bind (thn (hc.run pins s σ H (fun k H1 => match k with
    | true => tT X.K ci E za du σ H1 Q
    | false => tT X.K ci E zb dv σ H1 Q) I ⟨G, P, F, ρ, _, by omega, rel, hd, fun o ho => ?_⟩) fun k s1 ⟨H1, I1, q1⟩ => ?_)
  · cases o with
    | exc c fs => exact XP.lo (hw _ ho)
    | ok k =>
      intro G1 F1 H1 l1 s1 r1
      cases k with
      | true => exact ⟨G1, P, F1, ρ, W, by omega, r1, ho, fun o ho => (hw o ho).le l1 s1⟩
      | false => exact ⟨G1, P, F1, ρ, W, by omega, r1, ho, fun o ho => (hw o ho).le l1 s1⟩
  · cases k with
    | true => exact ha.run pins s1 σ H1 Q I1 q1
    | false => exact hb.run pins s1 σ H1 Q I1 q1
end
/-! ### targets -/
/-- only slots of js change -/
def Only {α : Type} (js : List Nat) (σ σ' : List α) : Prop := σ'.length = σ.length ∧ ∀ i, i ∉ js → σ'[i]? = σ[i]?
theorem Only.refl {α : Type} (js : List Nat) (σ : List α) : Only js σ σ := ⟨rfl, fun _ _ => rfl⟩
theorem Only.trans {α : Type} {js : List Nat} {σ σ1 σ2 : List α} (a : Only js σ σ1) (b : Only js σ1 σ2) : Only js σ σ2 := ⟨b.1.trans a.1, fun i h => (b.2 i h).trans (a.2 i h)⟩
theorem Only.mono {α : Type} {js ks : List Nat} {σ σ1 : List α} (a : Only js σ σ1) (h : ∀ j ∈ js, j ∈ ks) : Only ks σ σ1 := ⟨a.1, fun i hi => a.2 i fun z => hi (h i z)⟩
theorem wipe_in {σ : L2.St} : ∀ {vs : List Nat} {i : Nat}, i ∈ vs → i < σ.length → (L2.wipe σ vs)[i]? = some none
  | v :: vs, i, h, hl => by
    unfold L2.wipe
    by_cases e : v = i
    · subst e
      rw [List.getElem?_set_self (by rw [wipe_length]; exact hl)]
    · rw [List.getElem?_set_ne e]
      rcases List.mem_cons.mp h with z | z
      · exact (e z.symm).elim
      · exact wipe_in z hl
theorem wipe_only {js : List Nat} {σ σ' : L2.St} (h : Only js σ σ') {vs : List Nat} (hj : ∀ j ∈ js, j ∈ vs) : L2.wipe σ' vs = L2.wipe σ vs := by
  refine List.ext_getElem? fun i => ?_
  by_cases hi : i ∈ vs
  · by_cases hl : i < σ.length
    · rw [wipe_in hi hl, wipe_in hi (by rw [h.1]; exact hl)]
    · rw [List.getElem?_eq_none (by rw [wipe_length, h.1]; omega), List.getElem?_eq_none (by rw [wipe_length]; omega)]
  · rw [wipe_out hi, wipe_out hi, h.2 i fun z => hi (hj i z)]
section
variable (K : Frag) (ci : Ci) (js : List Nat)
def tG (g : XG) : TG := fun v σ H Q => ∃ G P F ρ d W, Rel K ci G F P ρ σ H ∧ Rep (rc K ci G) F v d ∧ g d ρ W ∧ ∀ o, W o → match o with
  | .ok ρ' => ∀ σ', Only js σ σ' → Only js ρ ρ' → Rel K ci G F P ρ' σ' H → Q σ' H
  | .exc _ _ => False
def tGs (g : XGs) : TGs := fun vs σ H Q => ∃ G P F ρ ds W, Rel K ci G F P ρ σ H ∧ RepL (rc K ci G) F vs ds ∧ g ds ρ W ∧ ∀ o, W o → match o with
  | .ok ρ' => ∀ σ', Only js σ σ' → Only js ρ ρ' → Rel K ci G F P ρ' σ' H → Q σ' H
  | .exc _ _ => False
end
theorem _root_.L2.PG.imp {X : Cx} {e : Expr} {t t' : TG} (h : PG X e t) (i : ∀ v σ H Q, t' v σ H Q → t v σ H Q) : PG X e t' := ⟨fun pins s σ H v u Q I r q => h.run pins s σ H v u Q I r (i v σ H Q q)⟩
theorem _root_.L2.PGs.imp {X : Cx} {e : List Expr} {t t' : TGs} (h : PGs X e t) (i : ∀ v σ H Q, t' v σ H Q → t v σ H Q) : PGs X e t' := ⟨fun pins s σ H v u Q I r q => h.run pins s σ H v u Q I r (i v σ H Q q)⟩
/-- a slot set to a shared value -/
theorem Rel.setSh {K : Frag} {ci : Ci} {G : Gh} {F P H : Hp} {ρ : Env} {σ : L2.St} (r : Rel K ci G F P ρ σ H) {i : Nat} {v : V} {d : D} (x : Rep (rc K ci G) F v d) : Rel K ci G F P (ρ.set i (.sh d)) (σ.set i (some v)) H where
  sf := r.sf
  sp := r.sp
  dj := r.dj
  rp := r.rp
  ok := r.ok
  len := by rw [List.length_set, List.length_set]; exact r.len
  sh := fun j e h => by
    by_cases hj : i = j
    · subst hj
      by_cases hl : i < ρ.length
      · rw [List.getElem?_set_self hl] at h
        cases h
        exact ⟨v, by rw [List.getElem?_set_self (by rw [← r.len]; exact hl)], x⟩
      · rw [List.getElem?_eq_none (by rw [List.length_set]; omega)] at h
        cases h
    · rw [List.getElem?_set_ne hj] at h ⊢
      exact r.sh j e h
  ow := fun j e h => by
    by_cases hj : i = j
    · subst hj
      by_cases hl : i < ρ.length
      · rw [List.getElem?_set_self hl] at h
        cases h
      · rw [List.getElem?_eq_none (by rw [List.length_set]; omega)] at h
        cases h
    · rw [List.getElem?_set_ne hj] at h ⊢
      exact r.ow j e h
  tb := r.tb
  ap := fun j k d e p hjk h1 h2 h3 h4 => by
    have ne : ∀ {z : Nat} {y : D}, (ρ.set i (.sh d))[z]? = some (.ow y) → i ≠ z := fun {z y} h q => by
      subst q
      by_cases hl : i < ρ.length
      · rw [List.getElem?_set_self hl] at h; cases h
      · rw [List.getElem?_eq_none (by rw [List.length_set]; omega)] at h; cases h
    have ne' : ∀ {z : Nat} {y w : D}, (ρ.set i (.sh w))[z]? = some (.ow y) → i ≠ z := fun {z y w} h q => by
      subst q
      by_cases hl : i < ρ.length
      · rw [List.getElem?_set_self hl] at h; cases h
      · rw [List.getElem?_eq_none (by rw [List.length_set]; omega)] at h; cases h
    have a1 := ne' h1
    have a2 := ne' h2
    rw [List.getElem?_set_ne a1] at h1 h3
    rw [List.getElem?_set_ne a2] at h2 h4
    exact r.ap j k d e p hjk h1 h2 h3 h4
theorem only_set {α : Type} {js : List Nat} {σ : List α} {i : Nat} {v : α} (h : i ∈ js) : Only js σ (σ.set i v) := ⟨List.length_set, fun j hj => List.getElem?_set_ne fun e => hj (by rw [← e]; exact h)⟩
section
variable {X : Cx} {ci : Ci} {E : XK} {e : Expr} {pos : Pos} {es : List Expr} {js : List Nat} {x : Str} {g : XG} {gs : XGs}
abbrev DG (X : Cx) (ci : Ci) (js : List Nat) (e : Expr) (g : XG) : Prop := PG X e (tG X.K ci js g)
abbrev DGs (X : Cx) (ci : Ci) (js : List Nat) (es : List Expr) (g : XGs) : Prop := PGs X es (tGs X.K ci js g)
theorem dg_name {i : Nat} (hN : X.N.Nodup) (hi : X.N[i]? = some x) (hx : Loc X.env.scope x) (hj : i ∈ js) (hf : X.fn x = true ∨ X.env.scope.names.lookup x = some .local := by first | exact .inl rfl | exact .inr rfl | assumption) : DG X ci js (.Name x pos) (gName i) :=
  (pg_name hN hi hx hf).imp fun v σ H Q ⟨G, P, F, ρ, d, W, rel, rp, hd, hw⟩ => hw _ hd _ (only_set hj) (only_set hj) (rel.setSh rp)
theorem dgs_nil : DGs X ci js [] gsNil := pgs_nil.imp fun vs σ H Q ⟨G, P, F, ρ, ds, W, rel, rp, hd, hw⟩ => by
  cases ds with
  | nil =>
    cases rp
    exact ⟨rfl, hw _ hd σ (Only.refl js σ) (Only.refl js ρ) rel⟩
  | cons _ _ => exact (show False from hd).elim
theorem dgs_cons (h1 : DG X ci js e g) (h2 : DGs X ci js es gs) (hs : (assignEach (e :: es) X.env).map (·.2) = assign e X.env :: (assignEach es X.env).map (·.2) := by rfl) : DGs X ci js (e :: es) (gsCons g gs) :=
  (pgs_cons h1 h2 hs).imp fun vs σ H Q ⟨G, P, F, ρ, ds, W, rel, rp, hd, hw⟩ => by
    cases ds with
    | nil => exact (show False from hd).elim
    | cons d ds =>
      cases rp with
      | cons r1 r2 =>
        refine ⟨_, _, rfl, G, P, F, ρ, d, _, rel, r1, hd, fun o ho => ?_⟩
        cases o with
        | exc c fs => exact hw _ ho
        | ok ρ' =>
          intro σ' on oe rel'
          refine ⟨G, P, F, ρ', ds, _, rel', r2, ho, fun o ho => ?_⟩
          cases o with
          | exc c fs => exact hw _ ho
          | ok ρ2 => exact fun σ2 on2 oe2 rel2 => hw _ ho σ2 (on.trans on2) (oe.trans oe2) rel2
theorem dg_tup {k : Nat} {n : Nat} (hc : X.calm = true) (h : DGs X ci js es gs) (hn : (assignEach es X.env).length = n := by rfl) (hst : (assignEach es X.env).findIdx? (·.1) = none := by rfl) : DG X ci js (.Tuple es k pos) (gTup n gs) :=
  (pg_tup hc h hn hst).imp fun v σ H Q ⟨G, P, F, ρ, d, W, rel, rp, hd, hw⟩ => by
    cases d <;> first | exact (show False from hd).elim | skip
    rename_i ds
    obtain ⟨hl, hd⟩ := (show ds.length = n ∧ gs ds ρ W from hd)
    cases rp with
    | tup h1 h2 => exact ⟨_, _, rfl, sqT_mono rel.sf h1, by rw [h2.length]; exact hl, G, P, F, ρ, ds, W, rel, h2, hd, hw⟩
end
/-! ### walks -/
/-- what a walk gives: the items in their sequence, some in new tuples -/
structure Goes (K : Frag) (ci : Ci) (G : Gh) (F : Hp) (J : It) (ds : List D) : Prop where
  len : ds.length ≤ line
  go : ∀ i H, Same F H → i < ds.length → J.go i H
  stop : ∀ H, Same F H → J.stop ds.length H
  yld : ∀ (i : Nat) H v H' d, Same F H → ds[i]? = some d → J.yld i H v H' → (H' = H ∧ Rep (rc K ci G) F v d) ∨ ∃ T vs es, v = .ref T ∧ H T = none ∧ H' = upd H T (.tup vs) ∧ d = .tup es ∧ RepL (rc K ci G) F vs es
def tI (K : Frag) (ci : Ci) (E : XK) (z : Nat) (di : XI) : TI := fun σ H R => ∃ G P F ρ W, G.n + z ≤ top ∧ Rel K ci G F P ρ σ H ∧ di ρ W ∧ ∀ o, W o → match o with
  | .ok ds => ∀ G' F' H' J, Gh.Le (G.n + z) G G' → Same F F' → Rel K ci G' F' P ρ σ H' → Goes K ci G' F' J ds → R J H'
  | .exc c fs => XP K ci E (G.n + z) G P F c fs
def LenOk (K : Frag) (H : Hp) : Prop := ∀ a xs, (SqL K H a xs ∨ SqT K H a xs) → xs.length ≤ sizeLine
theorem lenOk {X : Cx} {pins : List (Addr × Obj)} {σ : L2.St} {H : Hp} {s : Shared} (I : Inv X pins σ H s) : LenOk X.K H := fun a xs h => by
  rcases h with h | h
  · obtain ⟨_, _, _, z⟩ := I.list h
    exact z
  · obtain ⟨_, _, _, z⟩ := I.tuple h
    exact z
theorem _root_.L2.PI.impL {X : Cx} {tg e : Expr} {t t' : TI} (h : PI X tg e t) (i : ∀ σ H R, t' σ H R → t σ H (fun J H' => LenOk X.K H' → R J H')) : PI X tg e t' := ⟨fun pins s σ H R I q => by
  refine thn (h.run pins s σ H _ I (i σ H R q)) fun v s1 h1 => thn h1 fun itv s2 h2 => ?_
  obtain ⟨it, fp, tn, J, H', e1, I2, h3, h4, h5, h6⟩ := h2
  exact ⟨it, fp, tn, J, H', e1, I2, h3, h4, h5, h6 (lenOk I2)⟩⟩
theorem _root_.L2.PI.imp {X : Cx} {tg e : Expr} {t t' : TI} (h : PI X tg e t) (i : ∀ σ H R, t' σ H R → t σ H R) : PI X tg e t' := ⟨fun pins s σ H R I q => h.run pins s σ H R I (i σ H R q)⟩
section
variable {X : Cx} {ci : Ci} {E : XK} {e a b tg : Expr} {d da db : XE} {pos tpos : Pos} {es elts : List Expr} {p : Pos} {kk : Nat} {K : Frag} {G : Gh} {F : Hp} {z0 za zb : Nat}
abbrev DI (X : Cx) (ci : Ci) (E : XK) (z : Nat) (tg e : Expr) (di : XI) : Prop := PI X tg e (tI X.K ci E z di)
/-- a list or a tuple walked -/
def iSeq2 (K : Frag) (tl : TE) : TI := fun σ H R => tl σ H fun x H1 => ∃ a, x = .ref a ∧ ((∃ xs, SqL K H1 a xs ∧ R (Itl K a) H1) ∨ ∃ xs, SqT K H1 a xs ∧ R (Itt K a) H1)
theorem pi_seq2 {l : Expr} {tl : TE} (hl : PE X l tl) : PI X tg l (iSeq2 X.K tl) := by
  refine ⟨fun pins s σ H R I h => ?_⟩
  refine thn (hl.run pins s σ H _ I h) fun v s1 ⟨x, H1, I1, r1, q1⟩ => ?_
  obtain ⟨a, e, q⟩ := q1
  subst e
  rcases q with ⟨xs, hq, q⟩ | ⟨xs, hq, q⟩
  · cases r1
    obtain ⟨its, rv, p, hz⟩ := I1.list hq
    refine wpAny_pyIter_list p.isList ?_
    refine ⟨s1.heap.objs.size, [s1.heap.objs.size], _, _, H1, rfl, I1.kept (t' := s1.toks) fun b o e => Heap.get?_push_of_some _ e, turn_list a _, ⟨_, Heap.get?_push_size _ rfl, rfl, rfl⟩, fun b hb => ?_, q⟩
    have e : b = s1.heap.objs.size := by simpa using hb
    subst e
    exact I1.fpOk (Nat.le_refl _) (I1.hok.fresh (Nat.le_refl _))
  · cases r1
    obtain ⟨its, rv, p, hz⟩ := I1.tuple hq
    refine wpAny_pyIter_tuple (show s1.heap.IsTuple a its.toArray from p) ?_
    refine ⟨s1.heap.objs.size, [s1.heap.objs.size], _, _, H1, rfl, I1.kept (t' := s1.toks) fun b o e => Heap.get?_push_of_some _ e, turn_tuple a _, ⟨_, Heap.get?_push_size _ rfl, rfl, rfl⟩, fun b hb => ?_, q⟩
    have e : b = s1.heap.objs.size := by simpa using hb
    subst e
    exact I1.fpOk (Nat.le_refl _) (I1.hok.fresh (Nat.le_refl _))
theorem goes_list {a : Addr} {vs : List V} {ds : List D} (hz : vs.length ≤ sizeLine) (h : ∀ H, Same F H → SqL K H a vs) (r : RepL (rc K ci G) F vs ds) : Goes K ci G F (Itl K a) ds where
  len := by rw [← r.length]; exact hz
  go := fun i H s hi => by
    have q := h H s
    rw [← r.length] at hi
    exact ⟨vs, vs[i], q, by simp [hi]⟩
  stop := fun H s => ⟨vs, h H s, by rw [r.length]; exact Nat.le_refl _⟩
  yld := fun i H v H' d s e y => by
    obtain ⟨rfl, y⟩ := y
    obtain ⟨u, h1, h2⟩ := r.get e
    have e2 := (y vs (h _ s)).symm.trans h1
    cases e2
    exact .inl ⟨rfl, h2⟩
theorem goes_tup {a : Addr} {vs : List V} {ds : List D} (hz : vs.length ≤ sizeLine) (h : ∀ H, Same F H → SqT K H a vs) (r : RepL (rc K ci G) F vs ds) : Goes K ci G F (Itt K a) ds where
  len := by rw [← r.length]; exact hz
  go := fun i H s hi => by
    have q := h H s
    rw [← r.length] at hi
    exact ⟨vs, vs[i], q, by simp [hi]⟩
  stop := fun H s => ⟨vs, h H s, by rw [r.length]; exact Nat.le_refl _⟩
  yld := fun i H v H' d s e y => by
    obtain ⟨rfl, y⟩ := y
    obtain ⟨u, h1, h2⟩ := r.get e
    have e2 := (y vs (h _ s)).symm.trans h1
    cases e2
    exact .inl ⟨rfl, h2⟩
theorem di_seq (h : DE X ci E z0 e d) : DI X ci E z0 tg e (iSeq d) := (pi_seq2 h).impL fun σ H R ⟨G, P, F, ρ, W, bd, rel, hd, hw⟩ => by
  refine ⟨G, P, F, ρ, _, by omega, rel, hd, fun o ho => ?_⟩
  cases o with
  | exc c fs => exact XP.lo (hw _ ho)
  | ok a =>
    intro G1 F1 H1 v l1 s1 r1 x1
    obtain ⟨ds, e, ho⟩ := get_ok (show (M.get (iterL a) W) from ho)
    have q := hw _ ho
    cases a <;> first | cases e | skip
    · cases x1 with
      | lst h r => exact ⟨_, rfl, .inl ⟨_, SqL.of (r1.sf _ _ h), fun lk => q G1 F1 H1 _ l1 s1 r1 (goes_list (lk _ _ (.inl (SqL.of (r1.sf _ _ h)))) (fun H s => SqL.of (s _ _ h)) r)⟩⟩
    · cases x1 with
      | tup h r => exact ⟨_, rfl, .inr ⟨_, sqT_mono r1.sf h, fun lk => q G1 F1 H1 _ l1 s1 r1 (goes_tup (lk _ _ (.inr (sqT_mono r1.sf h))) (fun H s => sqT_mono s h) r)⟩⟩
    · cases x1 with
      | scr h => exact ⟨_, rfl, .inl ⟨_, r1.sf.seq h, fun lk => q G1 F1 H1 _ l1 s1 r1 (goes_list (lk _ _ (.inl (r1.sf.seq h))) (fun H s => s.seq h) (repL_ints _))⟩⟩
theorem goes_range {lo : Int} {n : Nat} (hn : n ≤ line) : Goes K ci G F (Itr lo n) ((List.range n).map fun k => D.int (lo + (k : Nat))) where
  len := by rw [List.length_map, List.length_range]; exact hn
  go := fun i H _ hi => by
    rw [List.length_map, List.length_range] at hi
    exact hi
  stop := fun H _ => by
    rw [List.length_map, List.length_range]
    exact Nat.le_refl _
  yld := fun i H v H' d _ e y => by
    obtain ⟨rfl, rfl⟩ := y
    rw [List.getElem?_map] at e
    by_cases hi : i < n
    · rw [List.getElem?_range hi] at e
      cases e
      exact .inl ⟨rfl, .int _⟩
    · rw [List.getElem?_eq_none (by rw [List.length_range]; omega)] at e
      cases e
theorem di_range1 (hg : Gl X "range") (hm : X.mg "range" = none) (ha : DB X ci E za a da) (hs : starEach [a] X.env = [(false, eval a X.env)] := by rfl) : DI X ci E za tg (.Call (.Name "range" p) [a] [] pos) (iRng1 da) :=
  (pi_range1 hg hm (pa_cons ha pa_nil hs) hs).imp fun σ H R ⟨G, P, F, ρ, W, bd, rel, hd, hw⟩ => by
    refine ⟨G, P, F, ρ, _, by omega, rel, hd, fun o ho => ?_⟩
    cases o with
    | exc c fs => exact XP.lo (hw _ ho)
    | ok a =>
      intro G1 F1 H1 v l1 s1 r1 x1
      cases a <;> first | exact (show False from ho).elim | skip
      rename_i j
      obtain ⟨⟨h1, h2⟩, ho⟩ := (show (-(2 ^ 62) ≤ j ∧ j ≤ 2 ^ 24) ∧ W (.ok (rangeL 0 j)) from ho)
      refine ⟨j, by rw [(Bor.seen x1 r1).int], h1, Int.lt_of_le_of_lt h2 (by decide), hw _ ho G1 F1 H1 _ l1.up s1 r1 ?_⟩
      show Goes _ ci G1 F1 (Itr 0 j.toNat) ((List.range (j - 0).toNat).map fun k => D.int (0 + (k : Nat)))
      rw [Int.sub_zero]
      exact goes_range (by show j.toNat ≤ 2 ^ 24; omega)
theorem di_range2 (hg : Gl X "range") (hm : X.mg "range" = none) (ha : DB X ci E za a da) (hb : DB X ci E zb b db) (hs : starEach [a, b] X.env = [(false, eval a X.env), (false, eval b X.env)] := by rfl) (hs2 : starEach [b] X.env = [(false, eval b X.env)] := by rfl) : DI X ci E (za + zb) tg (.Call (.Name "range" p) [a, b] [] pos) (iRng2 da db) :=
  (pi_range2 hg hm (pa_cons ha (pa_cons hb pa_nil hs2) (by rw [hs, hs2])) hs hs2).imp fun σ H R ⟨G, P, F, ρ, W, bd, rel, hd, hw⟩ => by
    refine ⟨G, P, F, ρ, _, by omega, rel, hd, fun o ho => ?_⟩
    cases o with
    | exc c fs => exact XP.lo (hw _ ho)
    | ok a =>
      intro G1 F1 H1 v l1 s1 r1 x1
      refine ⟨G1, P, F1, ρ, _, by omega, r1, ho, fun o ho => ?_⟩
      cases o with
      | exc c fs => exact XP.le (hw _ ho) l1 s1
      | ok b =>
        intro G2 F2 H2 u l2 s2 r2 x2
        cases a <;> cases b <;> first | exact (show False from ho).elim | skip
        rename_i i _ j
        obtain ⟨h, ho⟩ := (show (-(2 ^ 62) ≤ i ∧ i < 2 ^ 62 ∧ -(2 ^ 62) ≤ j ∧ j < 2 ^ 62 ∧ j - i ≤ 2 ^ 24) ∧ W (.ok (rangeL i j)) from ho)
        exact ⟨i, j, by rw [(Bor.seen x1 r1).int, (Bor.seen x2 r2).int], ⟨h.1, h.2.1, h.2.2.1, h.2.2.2.1⟩, hw _ ho G2 F2 H2 _ (l1.trans l2).up (s1.trans s2) r2 (goes_range (by show (j - i).toNat ≤ 2 ^ 24; have := h.2.2.2.2; omega))⟩
/-! enumerate, zip -/
theorem enumFrom_get : ∀ (ds : List D) (k i : Nat), (enumFrom k ds)[i]? = (ds[i]?).map fun d => D.tup [.int ((k + i : Nat) : Int), d]
  | [], k, i => by simp [enumFrom]
  | d :: r, k, 0 => by simp [enumFrom]
  | d :: r, k, i + 1 => by
    show (enumFrom (k + 1) r)[i]? = _
    rw [enumFrom_get r (k + 1) i]
    show _ = (r[i]?).map _
    rw [show k + 1 + i = k + (i + 1) by omega]
theorem enumFrom_len : ∀ (ds : List D) (k : Nat), (enumFrom k ds).length = ds.length
  | [], _ => rfl
  | d :: r, k => by
    show (enumFrom (k + 1) r).length + 1 = r.length + 1
    rw [enumFrom_len r (k + 1)]
theorem goes_enum {a : Addr} {vs : List V} {ds : List D} (hz : vs.length ≤ sizeLine) (h : ∀ H, Same F H → SqL K H a vs) (r : RepL (rc K ci G) F vs ds) : Goes K ci G F (Ite K a) (enumFrom 0 ds) where
  len := by rw [enumFrom_len, ← r.length]; exact hz
  go := fun i H s hi => by
    rw [enumFrom_len, ← r.length] at hi
    exact ⟨vs, vs[i], h H s, by simp [hi]⟩
  stop := fun H s => ⟨vs, h H s, by rw [r.length, enumFrom_len]; exact Nat.le_refl _⟩
  yld := fun i H v H' d s e y => by
    obtain ⟨T, x, rfl, hT, rfl, y⟩ := y
    rw [enumFrom_get] at e
    cases q : ds[i]? with
    | none => rw [q] at e; cases e
    | some z =>
      rw [q] at e
      cases e
      obtain ⟨u, h1, h2⟩ := r.get q
      have e2 := (y vs (h _ s)).symm.trans h1
      cases e2
      refine .inr ⟨T, _, _, rfl, hT, rfl, rfl, .cons ?_ (.cons h2 .nil)⟩
      rw [Nat.zero_add]
      exact .int _
theorem goes_enumT {a : Addr} {vs : List V} {ds : List D} (hz : vs.length ≤ sizeLine) (h : ∀ H, Same F H → SqT K H a vs) (r : RepL (rc K ci G) F vs ds) : Goes K ci G F (IteT K a) (enumFrom 0 ds) where
  len := by rw [enumFrom_len, ← r.length]; exact hz
  go := fun i H s hi => by
    rw [enumFrom_len, ← r.length] at hi
    exact ⟨vs, vs[i], h H s, by simp [hi]⟩
  stop := fun H s => ⟨vs, h H s, by rw [r.length, enumFrom_len]; exact Nat.le_refl _⟩
  yld := fun i H v H' d s e y => by
    obtain ⟨T, x, rfl, hT, rfl, y⟩ := y
    rw [enumFrom_get] at e
    cases q : ds[i]? with
    | none => rw [q] at e; cases e
    | some z =>
      rw [q] at e
      cases e
      obtain ⟨u, h1, h2⟩ := r.get q
      have e2 := (y vs (h _ s)).symm.trans h1
      cases e2
      refine .inr ⟨T, _, _, rfl, hT, rfl, rfl, .cons ?_ (.cons h2 .nil)⟩
      rw [Nat.zero_add]
      exact .int _
theorem di_enum (hg : Gl X "enumerate") (hm : X.mg "enumerate" = none) (ha : DE X ci E za a da) (hs : starEach [a] X.env = [(false, eval a X.env)] := by rfl) : DI X ci E za (.Tuple elts kk tpos) (.Call (.Name "enumerate" p) [a] [] pos) (iEnum da) :=
  (pi_enumA hg hm (pa_cons ha pa_nil hs) hs).impL fun σ H R ⟨G, P, F, ρ, W, bd, rel, hd, hw⟩ => by
    refine ⟨G, P, F, ρ, _, by omega, rel, hd, fun o ho => ?_⟩
    cases o with
    | exc c fs => exact XP.lo (hw _ ho)
    | ok a =>
      intro G1 F1 H1 v l1 s1 r1 x1
      obtain ⟨ds, e, ho⟩ := get_ok (show (M.get (seqL a) _) from ho)
      have q := hw _ ho
      cases a <;> first | cases e | skip
      · cases x1 with
        | lst h r => exact ⟨_, _, rfl, .inl ⟨SqL.of (r1.sf _ _ h), fun lk => q G1 F1 H1 _ l1 s1 r1 (goes_enum (lk _ _ (.inl (SqL.of (r1.sf _ _ h)))) (fun H s => SqL.of (s _ _ h)) r)⟩⟩
      · cases x1 with
        | tup h r => exact ⟨_, _, rfl, .inr ⟨sqT_mono r1.sf h, fun lk => q G1 F1 H1 _ l1 s1 r1 (goes_enumT (lk _ _ (.inr (sqT_mono r1.sf h))) (fun H s => sqT_mono s h) r)⟩⟩
theorem goes_zip {a b : Addr} {vs ws : List V} {ds es : List D} (hz : vs.length ≤ sizeLine) (h : ∀ H, Same F H → SqL K H a vs) (h' : ∀ H, Same F H → SqL K H b ws) (r : RepL (rc K ci G) F vs ds) (r' : RepL (rc K ci G) F ws es) : Goes K ci G F (Itz K a b) (List.zipWith (fun x y => .tup [x, y]) ds es) where
  len := by
    rw [List.length_zipWith, ← r.length]
    exact Nat.le_trans (Nat.min_le_left _ _) hz
  go := fun i H s hi => by
    rw [List.length_zipWith, ← r.length, ← r'.length] at hi
    have h1 : i < vs.length := by omega
    have h2 : i < ws.length := by omega
    exact ⟨vs, ws, vs[i], ws[i], h H s, h' H s, by simp [h1], by simp [h2]⟩
  stop := fun H s => ⟨vs, ws, h H s, h' H s, by rw [List.length_zipWith, r.length, r'.length]; omega⟩
  yld := fun i H v H' d s e y => by
    obtain ⟨T, x, z, rfl, hT, rfl, y1, y2⟩ := y
    rw [List.getElem?_zipWith] at e
    cases q : ds[i]? with
    | none => rw [q] at e; cases e
    | some d1 =>
      cases q' : es[i]? with
      | none => rw [q, q'] at e; cases e
      | some d2 =>
        rw [q, q'] at e
        cases e
        obtain ⟨u, h1, h2⟩ := r.get q
        obtain ⟨u', h1', h2'⟩ := r'.get q'
        have e2 := (y1 vs (h _ s)).symm.trans h1
        have e3 := (y2 ws (h' _ s)).symm.trans h1'
        cases e2
        cases e3
        exact .inr ⟨T, _, _, rfl, hT, rfl, rfl, .cons h2 (.cons h2' .nil)⟩
theorem goes_zipT {a b : Addr} {vs ws : List V} {ds es : List D} (hz : vs.length ≤ sizeLine) (h : ∀ H, Same F H → SqT K H a vs) (h' : ∀ H, Same F H → SqT K H b ws) (r : RepL (rc K ci G) F vs ds) (r' : RepL (rc K ci G) F ws es) : Goes K ci G F (RZ.ItzT K a b) (List.zipWith (fun x y => .tup [x, y]) ds es) where
  len := by
    rw [List.length_zipWith, ← r.length]
    exact Nat.le_trans (Nat.min_le_left _ _) hz
  go := fun i H s hi => by
    rw [List.length_zipWith, ← r.length, ← r'.length] at hi
    have h1 : i < vs.length := by omega
    have h2 : i < ws.length := by omega
    exact ⟨vs, ws, vs[i], ws[i], h H s, h' H s, by simp [h1], by simp [h2]⟩
  stop := fun H s => ⟨vs, ws, h H s, h' H s, by rw [List.length_zipWith, r.length, r'.length]; omega⟩
  yld := fun i H v H' d s e y => by
    obtain ⟨T, x, z, rfl, hT, rfl, y1, y2⟩ := y
    rw [List.getElem?_zipWith] at e
    cases q : ds[i]? with
    | none => rw [q] at e; cases e
    | some d1 =>
      cases q' : es[i]? with
      | none => rw [q, q'] at e; cases e
      | some d2 =>
        rw [q, q'] at e
        cases e
        obtain ⟨u, h1, h2⟩ := r.get q
        obtain ⟨u', h1', h2'⟩ := r'.get q'
        have e2 := (y1 vs (h _ s)).symm.trans h1
        have e3 := (y2 ws (h' _ s)).symm.trans h1'
        cases e2
        cases e3
        exact .inr ⟨T, _, _, rfl, hT, rfl, rfl, .cons h2 (.cons h2' .nil)⟩
theorem di_zip (hg : Gl X "zip") (hm : X.mg "zip" = none) (ha : DE X ci E za a da) (hb : DE X ci E zb b db) (hs : starEach [a, b] X.env = (false, eval a X.env) :: starEach [b] X.env := by rfl) (hs2 : starEach [b] X.env = (false, eval b X.env) :: starEach [] X.env := by rfl) (hpl : (backTo pos (starEach [b] X.env)).any (·.1) = false := by rfl) :
    DI X ci E (za + zb) (.Tuple elts kk tpos) (.Call (.Name "zip" p) [a, b] [] pos) (iZip da db) :=
  (RZ.pi_zipA hg hm (pa_cons ha (pa_cons hb pa_nil hs2) hs) hs hpl).impL fun σ H R ⟨G, P, F, ρ, W, bd, rel, hd, hw⟩ => by
    refine ⟨G, P, F, ρ, _, by omega, rel, hd, fun o ho => ?_⟩
    cases o with
    | exc c fs => exact XP.lo (hw _ ho)
    | ok a =>
      intro G1 F1 H1 v l1 s1 r1 x1
      refine ⟨G1, P, F1, ρ, _, by omega, r1, ho, fun o ho => ?_⟩
      cases o with
      | exc c fs => exact XP.le (hw _ ho) l1 s1
      | ok b =>
        intro G2 F2 H2 u l2 s2 r2 x2
        cases a <;> cases b <;> first | exact (show False from ho).elim | skip
        · have x1 := Rep.mono (rc_le _ ci l2) s2 x1
          cases x1 with
          | lst h r => cases x2 with
            | lst h' r' => exact ⟨_, _, _, _, rfl, .inl ⟨SqL.of (r2.sf _ _ h), SqL.of (r2.sf _ _ h'), fun lk => hw _ ho G2 F2 H2 _ (l1.trans l2).up (s1.trans s2) r2 (goes_zip (lk _ _ (.inl (SqL.of (r2.sf _ _ h)))) (fun H s => SqL.of (s _ _ h)) (fun H s => SqL.of (s _ _ h')) r r')⟩⟩
        · have x1 := Rep.mono (rc_le _ ci l2) s2 x1
          cases x1 with
          | tup h r => cases x2 with
            | tup h' r' => exact ⟨_, _, _, _, rfl, .inr ⟨sqT_mono r2.sf h, sqT_mono r2.sf h', fun lk => hw _ ho G2 F2 H2 _ (l1.trans l2).up (s1.trans s2) r2 (goes_zipT (lk _ _ (.inr (sqT_mono r2.sf h))) (fun H s => sqT_mono s h) (fun H s => sqT_mono s h') r r')⟩⟩
end
end DL
end
section
/-! DL6: comprehensions, statements. -/
set_option Elab.async false
set_option linter.all false
set_option autoImplicit false
set_option maxRecDepth 100000
set_option maxHeartbeats 1000000
namespace DL
open PySem PySem.Spec PyProof.Rows L2
section
variable {K : Frag} {ci : Ci} {G : Gh} {F P H : Hp} {ρ : Env} {σ : L2.St} {p : Addr} {o : HO}
/-- an object of nobody's is guarded -/
theorem Rel.guard (r : Rel K ci G F P ρ σ H) (l : Lone G F P ρ σ p) (hp : H p = some o) : Rel K ci G F (upd P p o) ρ σ H where
  sf := r.sf
  sp := fun b x e => by
    by_cases hb : b = p
    · subst hb; rw [upd_same] at e; rw [hp]; exact e
    · rw [upd_ne hb] at e; exact r.sp b x e
  dj := fun b x e => by
    by_cases hb : b = p
    · subst hb; exact l.hf
    · rw [upd_ne hb] at e; exact r.dj b x e
  rp := fun b q => by
    by_cases hb : b = p
    · subst hb; exact (l.hr q).elim
    · rw [upd_ne hb]; exact r.rp b q
  ok := r.ok
  len := r.len
  sh := r.sh
  ow := fun i d h => by
    obtain ⟨q, h1, h2, h3, h4, h5⟩ := r.ow i d h
    have ne : q ≠ p := fun e => l.hs i d h (by rw [← e]; exact h1)
    exact ⟨q, h1, h2, h3, by rw [upd_ne ne]; exact h4, h5⟩
  ap := r.ap
  tb := r.tb
theorem Rel.unguard (r : Rel K ci G F (upd P p o) ρ σ H) (hp : P p = none) : Rel K ci G F P ρ σ H ∧ Lone G F P ρ σ p ∧ H p = some o := by
  have sub : ∀ b x, P b = some x → upd P p o b = some x := fun b x e => by rw [upd_ne (ne_of_none e hp)]; exact e
  have hp' : upd P p o p = some o := upd_same
  refine ⟨⟨r.sf, fun b x e => r.sp b x (sub b x e), fun b x e => r.dj b x (sub b x e), fun b q => ?_, r.ok, r.len, r.sh, fun i d h => ?_, r.ap, r.tb⟩, ⟨r.dj p o hp', hp, fun q => ?_, fun i d h h' => ?_⟩, r.sp p o hp'⟩
  · cases q2 : P b with
    | none => rfl
    | some x =>
      have := r.rp b q
      rw [sub b x q2] at this
      cases this
  · obtain ⟨q, h1, h2, h3, h4, h5⟩ := r.ow i d h
    refine ⟨q, h1, h2, h3, ?_, h5⟩
    cases q2 : P q with
    | none => rfl
    | some x =>
      rw [sub q x q2] at h4
      cases h4
  · have := r.rp p q
    rw [hp'] at this
    cases this
  · obtain ⟨q, h1, h2, h3, h4, h5⟩ := r.ow i d h
    rw [h'] at h1
    cases h1
    rw [hp'] at h4
    cases h4
theorem wipeE_len : ∀ (vs : List Nat) (ρ : Env), (wipe vs ρ).length = ρ.length
  | [], _ => rfl
  | v :: vs, ρ => by show ((wipe vs ρ).set v .no).length = _; rw [List.length_set, wipeE_len vs ρ]
theorem wipeE_some : ∀ {vs : List Nat} {i : Nat} {s : Slot}, s ≠ .no → (wipe vs ρ)[i]? = some s → ρ[i]? = some s ∧ i ∉ vs
  | [], _, _, _, h => ⟨h, by simp⟩
  | v :: vs, i, s, hs, h => by
    have h : ((wipe vs ρ).set v .no)[i]? = some s := h
    by_cases hi : v = i
    · subst hi
      by_cases hv : v < (wipe vs ρ).length
      · rw [List.getElem?_set_self hv] at h
        exact (hs (Option.some.inj h).symm).elim
      · rw [List.getElem?_eq_none (by rw [List.length_set]; omega)] at h; cases h
    · rw [List.getElem?_set_ne hi] at h
      obtain ⟨h1, h2⟩ := wipeE_some hs h
      exact ⟨h1, by simp only [List.mem_cons, not_or]; exact ⟨fun e => hi e.symm, h2⟩⟩
theorem wipeL_out {σ : L2.St} {i : Nat} {vs : List Nat} (h : i ∉ vs) : (L2.wipe σ vs)[i]? = σ[i]? := L2.wipe_out h
/-- slots forgotten -/
theorem Rel.wipe (r : Rel K ci G F P ρ σ H) (vs : List Nat) : Rel K ci G F P (DL.wipe vs ρ) (L2.wipe σ vs) H where
  sf := r.sf
  sp := r.sp
  dj := r.dj
  rp := r.rp
  ok := r.ok
  len := by rw [wipeE_len, wipe_length]; exact r.len
  sh := fun i d h => by
    obtain ⟨h1, h2⟩ := wipeE_some (by intro z; cases z) h
    rw [wipeL_out h2]
    exact r.sh i d h1
  ow := fun i d h => by
    obtain ⟨h1, h2⟩ := wipeE_some (by intro z; cases z) h
    rw [wipeL_out h2]
    exact r.ow i d h1
  tb := r.tb
  ap := fun i j d e p hij h1 h2 h3 h4 => by
    obtain ⟨a1, a2⟩ := wipeE_some (by intro z; cases z) h1
    obtain ⟨b1, b2⟩ := wipeE_some (by intro z; cases z) h2
    rw [wipeL_out a2] at h3
    rw [wipeL_out b2] at h4
    exact r.ap i j d e p hij a1 b1 h3 h4
/-- .. in the environment alone -/
theorem Rel.kill (r : Rel K ci G F P ρ σ H) (vs : List Nat) : Rel K ci G F P (DL.wipe vs ρ) σ H where
  sf := r.sf
  sp := r.sp
  dj := r.dj
  rp := r.rp
  ok := r.ok
  len := by rw [wipeE_len]; exact r.len
  sh := fun i d h => r.sh i d (wipeE_some (by intro z; cases z) h).1
  ow := fun i d h => r.ow i d (wipeE_some (by intro z; cases z) h).1
  tb := r.tb
  ap := fun i j d e p hij h1 h2 h3 h4 => r.ap i j d e p hij (wipeE_some (by intro z; cases z) h1).1 (wipeE_some (by intro z; cases z) h2).1 h3 h4
theorem wipeE_out {ρ : Env} {i : Nat} : ∀ {vs : List Nat}, i ∉ vs → (DL.wipe vs ρ)[i]? = ρ[i]?
  | [], _ => rfl
  | v :: vs, h => by
    simp only [List.mem_cons, not_or] at h
    show ((DL.wipe vs ρ).set v .no)[i]? = _
    rw [List.getElem?_set_ne (Ne.symm h.1)]
    exact wipeE_out h.2
/-- back from a block whose own names own nothing -/
theorem Rel.unwipe {N : Nat} {G' : Gh} {F' P' H' : Hp} {vs : List Nat} {ρ1 : Env} {σ1 : L2.St} (r : Rel K ci G F P ρ σ H) (n : noOw vs ρ = true) (l : Gh.Le N G G') (s : Same F F') (r' : Rel K ci G' F' P' ρ1 σ1 H')
    (oe : ∀ i, i ∉ vs → ρ1[i]? = ρ[i]?) (os : ∀ i, i ∉ vs → σ1[i]? = σ[i]?) : Rel K ci G' F' P' ρ σ H' := by
  have out : ∀ {i : Nat} {d : D}, ρ[i]? = some (.ow d) → i ∉ vs := fun {i d} h z => by
    have := List.all_eq_true.mp n i z
    rw [h] at this
    cases this
  refine ⟨r'.sf, r'.sp, r'.dj, r'.rp, r'.ok, r.len, fun i d h => ?_, fun i d h => ?_, r.ap, r'.tb⟩
  · obtain ⟨v, h1, h2⟩ := r.sh i d h
    exact ⟨v, h1, h2.mono (rc_le K ci l) s⟩
  · have o := out h
    obtain ⟨q, h1, h2⟩ := r'.ow i d ((oe i o).trans h)
    rw [os i o] at h1
    exact ⟨q, h1, h2⟩
theorem lst_ne {vs : List V} (h : H p = some (.lst vs)) : ∀ c q, H p ≠ some (LamX.CodeO c q) := fun c q e => by
  rw [h] at e
  unfold LamX.CodeO at e
  cases e
/-- a write at an object of nobody's -/
theorem Rel.write (r : Rel K ci G F P ρ σ H) (lo : Lone G F P ρ σ p) (hn : ∀ c q, H p ≠ some (LamX.CodeO c q)) : Rel K ci G F P ρ σ (upd H p o) where
  sf := fun b x e => by rw [upd_ne (ne_of_none e lo.hf)]; exact r.sf b x e
  sp := fun b x e => by rw [upd_ne (ne_of_none e lo.hp)]; exact r.sp b x e
  dj := r.dj
  rp := r.rp
  ok := ⟨fun q hq => by
    obtain ⟨ps, e, h1, h2⟩ := r.ok.tabs q hq
    refine ⟨ps, ?_, h1, fun pos cv hc => ?_⟩
    · rw [upd_ne (fun z => lo.hr (.inl ⟨q, hq, z⟩))]
      exact e
    · obtain ⟨c, e1, e2⟩ := h2 pos cv hc
      refine ⟨c, e1, ?_⟩
      rw [upd_ne (fun z => hn c q.2 (by rw [← z]; exact e2))]
      exact e2, r.ok.fr, fun a g c e => by
    obtain ⟨gs, cs, t, u, h1, h2, h3, h⟩ := r.ok.st a g c e
    refine ⟨gs, cs, t, u, ?_, ?_, ?_, h⟩
    · rw [upd_ne (fun z => lo.hr (.inr ⟨a, g, c, e, .inl z.symm⟩))]; exact h1
    · rw [upd_ne (fun z => lo.hr (.inr ⟨a, g, c, e, .inr (.inl z.symm)⟩))]; exact h2
    · rw [upd_ne (fun z => lo.hr (.inr ⟨a, g, c, e, .inr (.inr z.symm)⟩))]; exact h3⟩
  len := r.len
  sh := r.sh
  ow := fun i d h => by
    obtain ⟨q, h1, h2, h3⟩ := r.ow i d h
    have ne : q ≠ p := fun e => lo.hs i d h (by rw [← e]; exact h1)
    exact ⟨q, h1, h2.mono (Rc.Le.refl _) (Same.refl _) (upd_ne ne), h3⟩
  ap := r.ap
  tb := r.tb
theorem Rel.base (r : Rel K ci G F P ρ σ H) : Rel K ci G F P [] [] H := ⟨r.sf, r.sp, r.dj, r.rp, r.ok, rfl, fun i d h => by simp at h, fun i d h => by simp at h, fun i j d e p _ h => by simp at h, r.tb⟩
/-- an item that a walk gives -/
theorem Goes.item {N : Nat} {G1 : Gh} {F1 : Hp} {J : It} {ds : List D} {i : Nat} {v : V} {H' : Hp} {d : D} (g : Goes K ci G1 F1 J ds) (l : Gh.Le N G1 G) (s : Same F1 F) (r : Rel K ci G F P ρ σ H) (e : ds[i]? = some d) (y : J.yld i H v H') :
    ∃ F', Same F F' ∧ Rel K ci G F' P ρ σ H' ∧ Rep (rc K ci G) F' v d := by
  rcases g.yld i H v H' d (s.trans r.sf) e y with ⟨rfl, h⟩ | ⟨T, vs, es, rfl, hT, rfl, rfl, h⟩
  · exact ⟨F, Same.refl F, r, h.mono (rc_le K ci l) s⟩
  · have lo := r.lone hT
    exact ⟨upd F T (.tup vs), same_upd lo.hf, (r.new hT).freeze lo upd_same, .tup (.inl (.inl upd_same)) (h.mono (rc_le K ci l) (s.trans (same_upd lo.hf)))⟩
end
/-! ### comprehensions -/
theorem calm_ok {α : Type} {m : M α} {W : Out α → Prop} (h : M.calm m W) : m fun o => match o with
  | .ok a => W (.ok a)
  | .exc _ _ => False := h
theorem drop_of {α : Type} {l : List α} {i : Nat} (h : i < l.length) : l.drop i = l[i] :: l.drop (i + 1) := List.drop_eq_getElem_cons h
section
variable {X : Cx} {ci : Ci} {E : XK} {elt tg iter : Expr} {ifs : List Expr} {scope : Scope} {own : List (Str × Nat)} {pos : Pos} {di : XI} {dg : XG} {dt : XT} {de : XE} {js : List Nat} {z0 zi zt ze : Nat}
abbrev DTs (X : Cx) (ci : Ci) (E : XK) (z : Nat) (ifs : List Expr) (d : XT) : Prop := PTs X ifs (tT X.K ci E z d)
theorem dts_nil : DTs X ci E 0 [] tYes := ⟨fun pins s σ H Q I ⟨G, P, F, ρ, W, bd, rel, hd, hw⟩ => (pts_nil (X := X)).run pins s σ H Q I (hw (.ok true) hd G F H (Gh.Le.refl G) (Same.refl F) rel)⟩
theorem dts_one {c : Expr} (h : DT X ci E z0 c dt) : DTs X ci E z0 [c] dt := pts_one h
theorem wipe_wipe (σ : L2.St) (vs : List Nat) : L2.wipe (L2.wipe σ vs) vs = L2.wipe σ vs := by
  refine List.ext_getElem? fun i => ?_
  by_cases hi : i ∈ vs
  · by_cases hl : i < σ.length
    · rw [wipe_in hi hl, wipe_in hi (by rw [wipe_length]; exact hl)]
    · rw [List.getElem?_eq_none (by rw [wipe_length, wipe_length]; omega), List.getElem?_eq_none (by rw [wipe_length]; omega)]
  · rw [L2.wipe_out hi]
theorem comp_imp {K : Frag} {vs : List Nat} (hj : ∀ j ∈ js, j ∈ vs) (σ : L2.St) (H : Hp) (Q : VK) (h : tE K ci E (zi + line * (zt + ze)) .own (dComp di dg dt de vs) σ H Q) : L2.tLc (tI K ci E zi di) (tG K ci js dg) (tT K ci E0 zt dt) (tE K ci E0 ze .sh de) vs σ H Q := by
  obtain ⟨G, P, F, ρ, Wp, bd, rel, hd, hw⟩ := h
  refine ⟨G, P, F, ρ, _, by omega, rel, hd, fun o ho => ?_⟩
  cases o with
  | exc c fs => exact XP.lo (hw _ ho)
  | ok ds =>
    intro G1 F1 H1 J l1 s1 r1 goes D hD
    obtain ⟨hno, ho⟩ := (show noOw vs ρ = true ∧ (compL dg dt de (DL.wipe vs ρ) ds >>= fun ys => pure (DL.D.lst ys)) Wp from ho)
    have lo := r1.lone hD
    refine ⟨fun i m H => m = ds.length - i ∧ i ≤ ds.length ∧ ∃ G' F' acc accD, ∃ Wc : Out (List DL.D) → Prop, Gh.Le (G1.n + i * (zt + ze)) G1 G' ∧ Same F1 F' ∧ Rel K ci G' F' (upd P D (.lst acc)) ρ σ H ∧ RepL (rc K ci G') F' acc accD ∧ acc.length ≤ i ∧
      compL dg dt de (DL.wipe vs ρ) (ds.drop i) Wc ∧ ∀ o, Wc o → match o with
        | .ok ys => Wp (.ok (DL.D.lst (accD ++ ys)))
        | .exc c fs => Wp (.exc c fs), ⟨ds.length, by simp, Nat.zero_le _, G1, F1, [], [], _, Gh.Le.refl G1, Same.refl F1, (r1.new hD).guard lo upd_same, .nil, Nat.le_refl _, ho, fun o h => by cases o <;> exact h⟩, ?_⟩
    rintro i m H2 ⟨rfl, hi, G', F', acc, accD, Wc, l2, s2, r2, ra, hz, hc, hWc⟩
    have hline : ∀ k, k ≤ ds.length → k * (zt + ze) ≤ line * (zt + ze) := fun k hk => Nat.mul_le_mul_right _ (Nat.le_trans hk goes.len)
    by_cases hlt : i < ds.length
    · have hs1 := hline (i + 1) hlt
      have hs2 : (i + 1) * (zt + ze) = i * (zt + ze) + (zt + ze) := Nat.succ_mul _ _
      have ln1 := l1.n
      have ln2 := l2.n
      refine .inr ⟨goes.go i H2 (s2.trans r2.sf) hlt, _, fun H' p' => ⟨ds.length - (i + 1), by omega, p'⟩, fun x H' y => ?_⟩
      have ed : ds[i]? = some ds[i] := List.getElem?_eq_getElem hlt
      obtain ⟨F2, s3, r3, rx⟩ := goes.item l2 s2 r2 ed y
      rw [drop_of hlt] at hc
      refine ⟨G', _, F2, DL.wipe vs ρ, _, _, r3.wipe vs, rx, hc, fun o ho => ?_⟩
      cases o with
      | exc c fs => exact ho
      | ok ρ1 =>
        intro σ2 on oe r4
        refine ⟨by rw [wipe_only on hj, wipe_wipe], ?_⟩
        refine ⟨G', _, F2, ρ1, _, by omega, r4, ho, fun o ho => ?_⟩
        cases o with
        | exc c fs => exact ho.elim
        | ok b =>
          intro G3 F3 H3 l3 s4 r5
          have ln3 := l3.n
          have back : ∀ {N : Nat} {G4 : Gh} {F4 H4 : Hp}, Gh.Le N G' G4 → Same F' F4 → Rel K ci G4 F4 (upd P D (.lst acc)) ρ1 σ2 H4 → Rel K ci G4 F4 (upd P D (.lst acc)) ρ σ H4 := fun {N G4 F4 H4} la sa ra =>
            r2.unwipe hno la sa ra (fun i hi => (oe.2 i fun z => hi (hj i z)).trans (wipeE_out hi)) (fun i hi => (on.2 i fun z => hi (hj i z)).trans (wipeL_out hi))
          cases b with
          | false =>
            rw [if_neg Bool.false_ne_true]
            exact ⟨rfl, hlt, G3, F3, acc, accD, Wc, (l2.trans l3).up (by omega), (s2.trans s3).trans s4, back l3 (s3.trans s4) r5, ra.mono (rc_le K ci l3) (s3.trans s4), Nat.le_succ_of_le hz, ho, hWc⟩
          | true =>
            rw [if_pos rfl]
            refine ⟨G3, _, F3, ρ1, _, by omega, r5, ho, fun o ho => ?_⟩
            cases o with
            | exc c fs => exact ho.elim
            | ok d =>
              intro G4 F4 H4 v l4 s5 r6 x6
              have ln4 := l4.n
              have r7 := back (l3.trans l4) ((s3.trans s4).trans s5) r6
              obtain ⟨r8, lo8, hD8⟩ := r7.unguard lo.hp
              refine ⟨acc, hD8, Nat.lt_of_lt_of_le (Nat.lt_of_le_of_lt hz hlt) goes.len, rfl, hlt, G4, F4, acc ++ [v], accD ++ [d], _, ((l2.trans l3).trans l4).up (by omega), ((s2.trans s3).trans s4).trans s5, (r8.write lo8 (lst_ne hD8)).guard lo8 upd_same, (ra.mono (rc_le K ci (l3.trans l4)) ((s3.trans s4).trans s5)).append (.cons x6 .nil), by rw [List.length_append]; exact Nat.succ_le_succ hz, ho, fun o h => ?_⟩
              cases o with
              | ok ys =>
                have q : Wp (.ok (DL.D.lst (accD ++ (d :: ys)))) := hWc _ h
                show Wp (.ok (DL.D.lst (accD ++ [d] ++ ys)))
                rw [List.append_assoc]
                exact q
              | exc c fs => exact hWc _ h
    · have e : i = ds.length := by omega
      subst e
      rw [List.drop_length] at hc
      have q : Wp (.ok (DL.D.lst (accD ++ []))) := hWc _ hc
      rw [List.append_nil] at q
      obtain ⟨r3, lo3, hD3⟩ := r2.unguard lo.hp
      have hs1 := hline ds.length (Nat.le_refl _)
      have ln1 := l1.n
      exact .inl ⟨goes.stop H2 (s2.trans r2.sf), hw _ q G' F' H2 _ ((l1.trans l2).up (by omega)) (s1.trans s2) r3 ⟨D, rfl, lo3, acc, hD3, ra⟩⟩
end
end DL
end
section
/-! DL7: statements. -/
set_option Elab.async false
set_option linter.all false
set_option autoImplicit false
set_option maxRecDepth 100000
set_option maxHeartbeats 1000000
namespace DL
open PySem PySem.Spec PyProof.Rows L2
/-! ### what a statement means -/
section
variable (K : Frag) (ci : Ci) (E : XK)
def PoS (N : Nat) (m : Md) (G : Gh) (P F : Hp) (D : Ends) : Out Fl → Prop
  | .ok (.nx ρ') => ∀ G' F' σ' H', Gh.Le N G G' → Same F F' → Rel K ci G' F' P ρ' σ' H' → D.nx σ' H'
  | .ok (.bk ρ') => ∀ G' F' σ' H', Gh.Le N G G' → Same F F' → Rel K ci G' F' P ρ' σ' H' → D.bk σ' H'
  | .ok (.ct ρ') => ∀ G' F' σ' H', Gh.Le N G G' → Same F F' → Rel K ci G' F' P ρ' σ' H' → D.ct σ' H'
  | .ok (.rt d) => ∀ G' F' H' v, Gh.Le N G G' → Same F F' → Rel K ci G' F' P [] [] H' → Res K ci m G' F' P [] [] H' v d → D.rt v H'
  | .exc c fs => XP K ci E N G P F c fs
def tS (z : Nat) (m : Md) (s : XS) : TS := fun D σ H => ∃ G P F ρ W, G.n + z ≤ top ∧ Rel K ci G F P ρ σ H ∧ s ρ W ∧ ∀ o, W o → PoS K ci E (G.n + z) m G P F D o
end
section
variable {K : Frag} {ci : Ci} {E : XK} {G G' : Gh} {F F' P H : Hp} {D : Ends} {m : Md} {N N1 N2 : Nat}
theorem PoS.le {o : Out Fl} (h : PoS K ci E N m G P F D o) (l : Gh.Le N1 G G') (e : Same F F') (hN : N2 ≤ N := by omega) : PoS K ci E N2 m G' P F' D o := by
  cases o with
  | exc c fs => exact XP.le h l e hN
  | ok f =>
    cases f with
    | nx ρ' => exact fun G2 F2 σ2 H2 l2 e2 r => h G2 F2 σ2 H2 ((l.trans l2).up hN) (e.trans e2) r
    | bk ρ' => exact fun G2 F2 σ2 H2 l2 e2 r => h G2 F2 σ2 H2 ((l.trans l2).up hN) (e.trans e2) r
    | ct ρ' => exact fun G2 F2 σ2 H2 l2 e2 r => h G2 F2 σ2 H2 ((l.trans l2).up hN) (e.trans e2) r
    | rt d => exact fun G2 F2 H2 v l2 e2 r x => h G2 F2 H2 v ((l.trans l2).up hN) (e.trans e2) r x
theorem PoS.lo {o : Out Fl} (h : PoS K ci E N m G P F D o) (hN : N2 ≤ N := by omega) : PoS K ci E N2 m G P F D o := by
  cases o with
  | exc c fs => exact XP.lo h hN
  | ok f =>
    cases f with
    | nx ρ' => exact fun G2 F2 σ2 H2 l2 e2 r => h G2 F2 σ2 H2 (l2.up hN) e2 r
    | bk ρ' => exact fun G2 F2 σ2 H2 l2 e2 r => h G2 F2 σ2 H2 (l2.up hN) e2 r
    | ct ρ' => exact fun G2 F2 σ2 H2 l2 e2 r => h G2 F2 σ2 H2 (l2.up hN) e2 r
    | rt d => exact fun G2 F2 H2 v l2 e2 r x => h G2 F2 H2 v (l2.up hN) e2 r x
theorem PoS.next {ρ' : Env} (h : PoS K ci E N m G P F D (.ok (.nx ρ'))) : ∀ G' F' σ' H', Gh.Le N G G' → Same F F' → Rel K ci G' F' P ρ' σ' H' → D.nx σ' H' := h
end
section
variable (X : Cx) (ci : Ci) (E : XK)
abbrev DS (z : Nat) (m : Md) (st : Stmt) (d : XS) : Prop := PS X st (tS X.K ci E z m d)
abbrev DSs (z : Nat) (m : Md) (st : List Stmt) (d : XS) : Prop := PSs X st (tS X.K ci E z m d)
end
/-! ### slots set -/
section
variable {K : Frag} {ci : Ci} {E : XK} {G : Gh} {F P H : Hp} {ρ : Env} {σ : L2.St} {p : Addr} {d : D} {i : Nat}
/-- a slot owns an object of nobody's -/
theorem Rel.setOw (r : Rel K ci G F P ρ σ H) (lo : Lone G F P ρ σ p) (ow : Own K ci G F H p d) : Rel K ci G F P (ρ.set i (.ow d)) (σ.set i (some (.ref p))) H := by
  have at_ : ∀ {j : Nat} {s : Slot}, (ρ.set i (.ow d))[j]? = some s → (j = i ∧ s = .ow d ∧ (σ.set i (some (.ref p)))[j]? = some (some (.ref p))) ∨ (j ≠ i ∧ ρ[j]? = some s ∧ (σ.set i (some (.ref p)))[j]? = σ[j]?) := fun {j s} h => by
    by_cases hj : i = j
    · subst hj
      by_cases hl : i < ρ.length
      · rw [List.getElem?_set_self hl] at h
        cases h
        exact .inl ⟨rfl, rfl, by rw [List.getElem?_set_self (by rw [← r.len]; exact hl)]⟩
      · rw [List.getElem?_eq_none (by rw [List.length_set]; omega)] at h
        cases h
    · rw [List.getElem?_set_ne hj] at h ⊢
      exact .inr ⟨Ne.symm hj, h, rfl⟩
  exact {
    sf := r.sf
    sp := r.sp
    dj := r.dj
    rp := r.rp
    ok := r.ok
    len := by rw [List.length_set, List.length_set]; exact r.len
    sh := fun j e h => by
      rcases at_ h with ⟨_, z, _⟩ | ⟨_, h1, h2⟩
      · cases z
      · rw [h2]; exact r.sh j e h1
    ow := fun j e h => by
      rcases at_ h with ⟨_, z, h2⟩ | ⟨_, h1, h2⟩
      · cases z
        exact ⟨p, h2, ow, lo.hf, lo.hp, lo.hr⟩
      · rw [h2]; exact r.ow j e h1
    tb := r.tb
    ap := fun j k e f q hjk h1 h2 h3 h4 => by
      rcases at_ h1 with ⟨a1, z1, a2⟩ | ⟨a1, a2, a3⟩
      · rcases at_ h2 with ⟨b1, _, b2⟩ | ⟨b1, b2, b3⟩
        · exact hjk (a1.trans b1.symm)
        · rw [a2] at h3
          cases h3
          rw [b3] at h4
          exact lo.hs k f b2 h4
      · rcases at_ h2 with ⟨b1, z, b2⟩ | ⟨b1, b2, b3⟩
        · rw [b2] at h4
          cases h4
          rw [a3] at h3
          exact lo.hs j e a2 h3
        · rw [a3] at h3
          rw [b3] at h4
          exact r.ap j k e f q hjk a2 b2 h3 h4 }
/-- the slot that an object is taken from, rewritten: the object itself changed -/
theorem Rel.put (r : Rel K ci G F P ρ σ H) {e : D} {o : HO} (h : ρ[i]? = some (.ow d)) (hp : σ[i]? = some (some (.ref p))) (hn : ∀ c q, H p ≠ some (LamX.CodeO c q)) (ow : Own K ci G F (upd H p o) p e) : Rel K ci G F P (ρ.set i (.ow e)) σ (upd H p o) := by
  obtain ⟨p', h1, h2, h3, h4, h5⟩ := r.ow i d h
  rw [hp] at h1
  cases h1
  have hl : i < ρ.length := (List.getElem?_eq_some_iff.mp h).1
  have r1 : Rel K ci G F P (ρ.set i .no) σ H := {
    sf := r.sf
    sp := r.sp
    dj := r.dj
    rp := r.rp
    ok := r.ok
    len := by rw [List.length_set]; exact r.len
    sh := fun j a q => by
      by_cases hj : i = j
      · subst hj; rw [List.getElem?_set_self hl] at q; cases q
      · rw [List.getElem?_set_ne hj] at q; exact r.sh j a q
    ow := fun j a q => by
      by_cases hj : i = j
      · subst hj; rw [List.getElem?_set_self hl] at q; cases q
      · rw [List.getElem?_set_ne hj] at q; exact r.ow j a q
    tb := r.tb
    ap := fun j k a b q hjk q1 q2 q3 q4 => by
      by_cases hj : i = j
      · subst hj; rw [List.getElem?_set_self hl] at q1; cases q1
      · by_cases hk : i = k
        · subst hk; rw [List.getElem?_set_self hl] at q2; cases q2
        · rw [List.getElem?_set_ne hj] at q1
          rw [List.getElem?_set_ne hk] at q2
          exact r.ap j k a b q hjk q1 q2 q3 q4 }
  have lo : Lone G F P (ρ.set i .no) σ p := ⟨h3, h4, h5, fun j a q q2 => by
    by_cases hj : i = j
    · subst hj; rw [List.getElem?_set_self hl] at q; cases q
    · rw [List.getElem?_set_ne hj] at q
      exact r.ap i j d a p hj h q hp q2⟩
  have r2 := (r1.write (o := o) lo hn).setOw (i := i) (p := p) (d := e) ⟨lo.hf, lo.hp, lo.hr, lo.hs⟩ ow
  rw [List.set_set] at r2
  have e2 : σ.set i (some (.ref p)) = σ := by
    refine List.ext_getElem? fun j => ?_
    by_cases hj : i = j
    · subst hj
      rw [List.getElem?_set_self (by rw [← r.len]; exact hl), hp]
    · rw [List.getElem?_set_ne hj]
  rw [e2] at r2
  exact r2
theorem ins_ne {C dx : Addr} {fs : List (Str × V)} (h : H p = some (.ins C dx fs)) : ∀ c q, H p ≠ some (LamX.CodeO c q) := fun c q e => by
  rw [h] at e
  unfold LamX.CodeO at e
  cases e
theorem dK_ne {ws : List (Key × V)} (h : H p = some (.dK ws)) : ∀ c q, H p ≠ some (LamX.CodeO c q) := fun c q e => by
  rw [h] at e
  unfold LamX.CodeO at e
  cases e
/-- forgotten and frozen names -/
theorem Rel.frz1 (r : Rel K ci G F P ρ σ H) (i : Nat) : ∃ F', Same F F' ∧ Rel K ci G F' P (DL.frz1 ρ i) σ H := by
  unfold DL.frz1
  cases h : ρ[i]? with
  | none => exact ⟨F, Same.refl F, r⟩
  | some s =>
    cases s with
    | no => exact ⟨F, Same.refl F, r⟩
    | sh d => exact ⟨F, Same.refl F, r⟩
    | ow d =>
      obtain ⟨p, h1, h2, h3, h4, h5⟩ := r.ow i d h
      have hl : i < ρ.length := (List.getElem?_eq_some_iff.mp h).1
      have r1 : Rel K ci G F P (ρ.set i .no) σ H := {
        sf := r.sf
        sp := r.sp
        dj := r.dj
        rp := r.rp
        ok := r.ok
        len := by rw [List.length_set]; exact r.len
        sh := fun j a q => by
          by_cases hj : i = j
          · subst hj; rw [List.getElem?_set_self hl] at q; cases q
          · rw [List.getElem?_set_ne hj] at q; exact r.sh j a q
        ow := fun j a q => by
          by_cases hj : i = j
          · subst hj; rw [List.getElem?_set_self hl] at q; cases q
          · rw [List.getElem?_set_ne hj] at q; exact r.ow j a q
        tb := r.tb
        ap := fun j k a b q hjk q1 q2 q3 q4 => by
          by_cases hj : i = j
          · subst hj; rw [List.getElem?_set_self hl] at q1; cases q1
          · by_cases hk : i = k
            · subst hk; rw [List.getElem?_set_self hl] at q2; cases q2
            · rw [List.getElem?_set_ne hj] at q1
              rw [List.getElem?_set_ne hk] at q2
              exact r.ap j k a b q hjk q1 q2 q3 q4 }
      have lo : Lone G F P (ρ.set i .no) σ p := ⟨h3, h4, h5, fun j a q q2 => by
        by_cases hj : i = j
        · subst hj; rw [List.getElem?_set_self hl] at q; cases q
        · rw [List.getElem?_set_ne hj] at q
          exact r.ap i j d a p hj h q h1 q2⟩
      obtain ⟨ob, hob⟩ := h2.there
      have r2 := (r1.freeze lo hob).setSh (i := i) (v := .ref p) (h2.rep (same_upd lo.hf) fun o' h' => by rw [upd_same, ← hob, h'])
      rw [List.set_set] at r2
      have e2 : σ.set i (some (.ref p)) = σ := by
        refine List.ext_getElem? fun j => ?_
        by_cases hj : i = j
        · subst hj
          rw [List.getElem?_set_self (by rw [← r.len]; exact hl), h1]
        · rw [List.getElem?_set_ne hj]
      rw [e2] at r2
      exact ⟨_, same_upd lo.hf, r2⟩
theorem Rel.frz (r : Rel K ci G F P ρ σ H) : ∀ (vs : List Nat), ∃ F', Same F F' ∧ Rel K ci G F' P (vs.foldl DL.frz1 ρ) σ H := by
  intro vs
  induction vs generalizing ρ F with
  | nil => exact ⟨F, Same.refl F, r⟩
  | cons v vs ih =>
    obtain ⟨F1, s1, r1⟩ := r.frz1 v
    obtain ⟨F2, s2, r2⟩ := ih r1
    exact ⟨F2, s1.trans s2, r2⟩
end
/-! ### rules -/
section
variable {X : Cx} {ci : Ci} {E : XK} {m : Md} {st : Stmt} {rest a b body : List Stmt} {e tg iter c k o : Expr} {s t u : XS} {d dk : XE} {dt : XT} {g : XG} {di : XI} {js : List Nat} {pos pos' : Pos} {x y : Str} {i j : Nat} {z0 za zb zc zd zi z1 z2 : Nat}
theorem dss_one (h : DS X ci E z0 m st s) : DSs X ci E z0 m [st] s := pss_one h
theorem dss_cons (h1 : DS X ci E z1 m st s) (h2 : DSs X ci E z2 m rest t) : DSs X ci E (z1 + z2) m (st :: rest) (sSeq s t) := (pss_cons h1 h2).imp fun D σ H ⟨G, P, F, ρ, W, bd, rel, hd, hw⟩ => by
  refine ⟨G, P, F, ρ, _, by omega, rel, hd, fun o ho => ?_⟩
  cases o with
  | exc c fs => exact XP.lo (hw _ ho)
  | ok f =>
    cases f with
    | nx ρ' => exact fun G' F' σ' H' l e r => ⟨G', P, F', ρ', W, by omega, r, ho, fun o ho => (hw o ho).le l e⟩
    | bk ρ' => exact fun G' F' σ' H' l e r => hw (.ok (.bk ρ')) ho G' F' σ' H' l.up e r
    | ct ρ' => exact fun G' F' σ' H' l e r => hw (.ok (.ct ρ')) ho G' F' σ' H' l.up e r
    | rt d => exact fun G' F' H' v l e r x => hw (.ok (.rt d)) ho G' F' H' v l.up e r x
theorem dss_nil : DSs X ci E 0 m [] sNext := pss_nil.imp fun D σ H ⟨G, P, F, ρ, W, bd, rel, hd, hw⟩ => hw _ hd G F σ H (Gh.Le.refl G) (Same.refl F) rel
theorem ds_pass : DS X ci E 0 m (.Pass pos) sNext := ps_pass.imp fun D σ H ⟨G, P, F, ρ, W, bd, rel, hd, hw⟩ => hw _ hd G F σ H (Gh.Le.refl G) (Same.refl F) rel
theorem ds_break : DS X ci E 0 m (.Break pos) sBreak := ps_break.imp fun D σ H ⟨G, P, F, ρ, W, bd, rel, hd, hw⟩ => hw _ hd G F σ H (Gh.Le.refl G) (Same.refl F) rel
theorem ds_cont : DS X ci E 0 m (.Continue pos) sCont := ps_continue.imp fun D σ H ⟨G, P, F, ρ, W, bd, rel, hd, hw⟩ => hw _ hd G F σ H (Gh.Le.refl G) (Same.refl F) rel
/-- names forgotten behind a statement; frozen ahead of one -/
theorem dss_kill (vs : List Nat) (h : DSs X ci E z0 m rest s) : DSs X ci E z0 m rest (sKill vs s) := h.imp fun D σ H ⟨G, P, F, ρ, W, bd, rel, hd, hw⟩ => by
  refine ⟨G, P, F, ρ, _, by omega, rel, hd, fun o ho => ?_⟩
  cases o with
  | exc c fs => exact XP.lo (hw _ ho)
  | ok f =>
    cases f with
    | nx ρ' => exact fun G' F' σ' H' l e r => hw _ ho G' F' σ' H' l e (r.kill vs)
    | bk ρ' => exact hw _ ho
    | ct ρ' => exact hw _ ho
    | rt d => exact hw _ ho
theorem ds_kill (vs : List Nat) (h : DS X ci E z0 m st s) : DS X ci E z0 m st (sKill vs s) := h.imp fun D σ H ⟨G, P, F, ρ, W, bd, rel, hd, hw⟩ => by
  refine ⟨G, P, F, ρ, _, by omega, rel, hd, fun o ho => ?_⟩
  cases o with
  | exc c fs => exact XP.lo (hw _ ho)
  | ok f =>
    cases f with
    | nx ρ' => exact fun G' F' σ' H' l e r => hw _ ho G' F' σ' H' l e (r.kill vs)
    | bk ρ' => exact hw _ ho
    | ct ρ' => exact hw _ ho
    | rt d => exact hw _ ho
theorem frz_imp {K : Frag} (vs : List Nat) (D : Ends) (σ : L2.St) (H : Hp) (h : tS K ci E z0 m (sFrz vs s) D σ H) : tS K ci E z0 m s D σ H := by
  obtain ⟨G, P, F, ρ, W, bd, rel, hd, hw⟩ := h
  obtain ⟨F', s', r'⟩ := rel.frz vs
  exact ⟨G, P, F', _, W, by omega, r', hd, fun o ho => (hw o ho).le (Gh.Le.refl (N := G.n) G) s'⟩
theorem dss_frz (vs : List Nat) (h : DSs X ci E z0 m rest s) : DSs X ci E z0 m rest (sFrz vs s) := h.imp (frz_imp vs)
theorem ds_frz (vs : List Nat) (h : DS X ci E z0 m st s) : DS X ci E z0 m st (sFrz vs s) := h.imp (frz_imp vs)
/-! stores -/
theorem asg_imp {K : Frag} (D : Ends) (σ : L2.St) (H : Hp) (h : tS K ci E zd m (sAsg d g) D σ H) : tAsg (tE K ci E zd .sh d) (tG K ci js g) D σ H := by
  obtain ⟨G, P, F, ρ, W, bd, rel, hd, hw⟩ := h
  refine ⟨G, P, F, ρ, _, by omega, rel, hd, fun o ho => ?_⟩
  cases o with
  | exc c fs => exact XP.lo (hw _ ho)
  | ok a =>
    intro G1 F1 H1 v l1 s1 r1 x1
    refine ⟨G1, P, F1, ρ, a, _, r1, x1, ho, fun o ho => ?_⟩
    cases o with
    | exc c fs => exact ho
    | ok ρ' => exact fun σ' _ _ r' => hw _ ho G1 F1 σ' H1 l1.up s1 r'
theorem ds_asg (hd : DE X ci E zd e d) (hg : DG X ci js tg g) (hs : swapsWithSole [tg] e pos.line X.env = pure false := by rfl) (hw : swappedStores [tg] e X.env = pure none := by rfl)
    (h1 : (assignEach [tg] X.env).map (·.2) = [assign tg X.env] := by rfl) : DS X ci E zd m (.Assign [tg] e pos) (sAsg d g) := (ps_asg hd hg hs hw h1).imp asg_imp
theorem set_imp {K : Frag} {i : Nat} (D : Ends) (σ : L2.St) (H : Hp) (h : tS K ci E zd m (sAsg d (gName i)) D σ H) : tAsg (tE K ci E zd .sh d) (L2.gName i) D σ H := by
  obtain ⟨G, P, F, ρ, W, bd, rel, hd, hw⟩ := h
  refine ⟨G, P, F, ρ, _, by omega, rel, hd, fun o ho => ?_⟩
  cases o with
  | exc c fs => exact XP.lo (hw _ ho)
  | ok a => exact fun G1 F1 H1 v l1 s1 r1 x1 => hw _ ho G1 F1 _ H1 l1.up s1 (r1.setSh x1)
theorem own_imp {K : Frag} {i : Nat} (D : Ends) (σ : L2.St) (H : Hp) (h : tS K ci E zd m (sOwn i d) D σ H) : tAsg (tE K ci E zd .own d) (L2.gName i) D σ H := by
  obtain ⟨G, P, F, ρ, W, bd, rel, hd, hw⟩ := h
  refine ⟨G, P, F, ρ, _, by omega, rel, hd, fun o ho => ?_⟩
  cases o with
  | exc c fs => exact XP.lo (hw _ ho)
  | ok a =>
    intro G1 F1 H1 v l1 s1 r1 x1
    obtain ⟨p, rfl, lo, ow⟩ := x1
    exact hw _ ho G1 F1 _ H1 l1.up s1 (r1.setOw lo ow)
theorem ds_set (hN : X.N.Nodup) (hd : DE X ci E zd e d) (hi : X.N[i]? = some x := by rfl) (hx : Loc X.env.scope x := by first | exact .inl rfl | exact .inr rfl) (hs : swapsWith e (some (.Name x pos')) pos.line X.env = pure false := by rfl) (hf : X.fn x = true ∨ X.env.scope.names.lookup x = some .local := by first | exact .inl rfl | exact .inr rfl | assumption) :
    DS X ci E zd m (.Assign [.Name x pos'] e pos) (sAsg d (gName i)) := (ps_set hN hi hx hd hs hf).imp set_imp
theorem ds_own (hN : X.N.Nodup) (hd : DO X ci E zd e d) (hi : X.N[i]? = some x := by rfl) (hx : Loc X.env.scope x := by first | exact .inl rfl | exact .inr rfl) (hs : swapsWith e (some (.Name x pos')) pos.line X.env = pure false := by rfl) (hf : X.fn x = true ∨ X.env.scope.names.lookup x = some .local := by first | exact .inl rfl | exact .inr rfl | assumption) :
    DS X ci E zd m (.Assign [.Name x pos'] e pos) (sOwn i d) := (ps_set hN hi hx hd hs hf).imp own_imp
theorem ds_doc {z w} : DS X ci E 0 m (.Expr (.Constant (.str z) w pos) pos') sNext := ps_doc.imp fun D σ H ⟨G, P, F, ρ, W, bd, rel, hd, hw⟩ => hw _ hd G F σ H (Gh.Le.refl G) (Same.refl F) rel
theorem ds_expr (hd : DE X ci E zd e d) (hs : swapsWith e none pos.line X.env = pure false := by rfl) : DS X ci E zd m (.Expr e pos) (sDrop d) := (ps_expr hd hs).imp fun D σ H ⟨G, P, F, ρ, W, bd, rel, hd, hw⟩ => by
  refine ⟨G, P, F, ρ, _, by omega, rel, hd, fun o ho => ?_⟩
  cases o with
  | exc c fs => exact XP.lo (hw _ ho)
  | ok a => exact fun G1 F1 H1 v l1 s1 r1 x1 => hw _ ho G1 F1 σ H1 l1.up s1 r1
/-! ends -/
theorem Lone.base {K : Frag} {G : Gh} {F P : Hp} {ρ : Env} {σ : L2.St} {p : Addr} (l : Lone G F P ρ σ p) : Lone G F P [] [] p := ⟨l.hf, l.hp, l.hr, fun i d h => by simp at h⟩
theorem ds_ret (hm : m = .sh := by rfl) (hd : DE X ci E zd e d) : DS X ci E zd m (.Return (some e) pos) (sRet d) := (ps_ret hd).imp fun D σ H ⟨G, P, F, ρ, W, bd, rel, hd, hw⟩ => by
  subst hm
  refine ⟨G, P, F, ρ, _, by omega, rel, hd, fun o ho => ?_⟩
  cases o with
  | exc c fs => exact XP.lo (hw _ ho)
  | ok a => exact fun G1 F1 H1 v l1 s1 r1 x1 => hw _ ho G1 F1 H1 v l1.up s1 r1.base x1
theorem ds_retO (hm : m = .own := by rfl) (hd : DO X ci E zd e d) : DS X ci E zd m (.Return (some e) pos) (sRet d) := (ps_ret hd).imp fun D σ H ⟨G, P, F, ρ, W, bd, rel, hd, hw⟩ => by
  subst hm
  refine ⟨G, P, F, ρ, _, by omega, rel, hd, fun o ho => ?_⟩
  cases o with
  | exc c fs => exact XP.lo (hw _ ho)
  | ok a =>
    intro G1 F1 H1 v l1 s1 r1 x1
    obtain ⟨p, rfl, lo, ow⟩ := x1
    exact hw _ ho G1 F1 H1 _ l1.up s1 r1.base ⟨p, rfl, ⟨lo.hf, lo.hp, lo.hr, fun i d h => by simp at h⟩, ow⟩
theorem ds_retN (hm : m = .sh := by rfl) : DS X ci E 0 m (.Return none pos) sRetN := ps_retN.imp fun D σ H ⟨G, P, F, ρ, W, bd, rel, hd, hw⟩ => by
  subst hm
  exact hw _ hd G F H .non (Gh.Le.refl G) (Same.refl F) rel.base .non
/-- the name's own object goes out -/
theorem ds_retOw (hm : m = .own ∨ m = .sh := by first | exact .inl rfl | exact .inr rfl) (hN : X.N[i]? = some x := by rfl) (hv : Vis X.env.scope x := by first | exact Or.inl rfl | exact Or.inr (Or.inl rfl) | exact Or.inr (Or.inr rfl)) (hd : (x == ("__debug__" : Str)) = false := by decide)
    (hcd : (x == ("__classdict__" : Str)) = false := by decide) : DS X ci E 0 m (.Return (some (.Name x pos')) pos) (sRetOw i) := (ps_ret (pe_var hN hv hd hcd)).imp fun D σ H ⟨G, P, F, ρ, W, bd, rel, hd, hw⟩ => by
  obtain ⟨d, h, hd⟩ := getOw_ok hd
  obtain ⟨p, h1, h2, h3, h4, h5⟩ := rel.ow i d h
  refine ⟨_, h1, ?_⟩
  have lo : Lone G F P [] [] p := ⟨h3, h4, h5, fun i d h => by simp at h⟩
  rcases hm with rfl | rfl
  · exact hw _ hd G F H _ (Gh.Le.refl G) (Same.refl F) rel.base ⟨p, rfl, lo, h2⟩
  · obtain ⟨ob, hob⟩ := h2.there
    exact hw _ hd G (upd F p ob) H _ (Gh.Le.refl G) (same_upd lo.hf) (rel.base.freeze lo hob) (h2.rep (same_upd lo.hf) fun o' h' => by rw [upd_same, ← hob, h'])
theorem ds_if (hc : DT X ci E zc c dt) (ha : DSs X ci E za m a s) (hb : DSs X ci E zb m b t) : DS X ci E (zc + za + zb) m (.If c a b pos) (sIf dt s t) := (ps_if hc ha hb).imp fun D σ H ⟨G, P, F, ρ, W, bd, rel, hd, hw⟩ => by
  refine ⟨G, P, F, ρ, _, by omega, rel, hd, fun o ho => ?_⟩
  cases o with
  | exc c fs => exact XP.lo (hw _ ho)
  | ok k =>
    intro G1 F1 H1 l1 s1 r1
    cases k with
    | true => exact (if_pos rfl : (if true = true then _ else _) = _) ▸ ⟨G1, P, F1, ρ, _, by omega, r1, ho, fun o ho => (hw o ho).le l1 s1⟩
    | false => exact (if_neg Bool.false_ne_true : (if false = true then _ else _) = _) ▸ ⟨G1, P, F1, ρ, _, by omega, r1, ho, fun o ho => (hw o ho).le l1 s1⟩
/-! loops -/
theorem forL_nil (g : XG) (b : XS) (ρ : Env) : forL g b [] ρ = pure (.nx ρ) := by rw [forL]
theorem forL_cons (g : XG) (b : XS) (x : D) (r : List D) (ρ : Env) : forL g b (x :: r) ρ = (do
    let ρ1 ← M.calm (g x ρ)
    let f ← b ρ1
    match f with
    | .nx ρ' => forL g b r ρ'
    | .ct ρ' => forL g b r ρ'
    | .bk ρ' => pure (.nx ρ')
    | .rt d => pure (.rt d)) := by rw [forL] <;> rfl
theorem for_imp {K : Frag} (D : Ends) (σ : L2.St) (H : Hp) (h : tS K ci E (zi + line * zb) m (sFor di g s) D σ H) : tFor (tI K ci E zi di) (tG K ci js g) (tS K ci E zb m s) D σ H := by
  obtain ⟨G, P, F, ρ, Wp, bd, rel, hd, hw⟩ := h
  refine ⟨G, P, F, ρ, _, by omega, rel, hd, fun o ho => ?_⟩
  cases o with
  | exc c fs => exact XP.lo (hw _ ho)
  | ok ds =>
    intro G1 F1 H1 J l1 s1 r1 goes
    refine ⟨fun i n σ H => n = ds.length - i ∧ i ≤ ds.length ∧ ∃ G' F' ρ', ∃ W : Out Fl → Prop, Gh.Le (G1.n + i * zb) G1 G' ∧ Same F1 F' ∧ Rel K ci G' F' P ρ' σ H ∧ forL g s (ds.drop i) ρ' W ∧ ∀ o, W o → Wp o,
      ⟨ds.length, by simp, Nat.zero_le _, G1, F1, ρ, _, Gh.Le.refl G1, Same.refl F1, r1, ho, fun _ h => h⟩, ?_⟩
    rintro i n σ2 H2 ⟨rfl, hi, G', F', ρ', W, l2, s2, r2, hf, hW⟩
    have hline : ∀ k, k ≤ ds.length → k * zb ≤ line * zb := fun k hk => Nat.mul_le_mul_right _ (Nat.le_trans hk goes.len)
    have ln1 := l1.n
    have ln2 := l2.n
    by_cases hlt : i < ds.length
    · have hs1 := hline (i + 1) hlt
      have hs2 : (i + 1) * zb = i * zb + zb := Nat.succ_mul _ _
      refine .inr ⟨goes.go i H2 (s2.trans r2.sf) hlt, _, fun σ' H' p' => ⟨ds.length - (i + 1), by omega, p'⟩, fun x H' y => ?_⟩
      obtain ⟨F2, s3, r3, rx⟩ := goes.item l2 s2 r2 (List.getElem?_eq_getElem hlt) y
      rw [drop_of hlt, forL_cons] at hf
      refine ⟨G', _, F2, ρ', _, _, r3, rx, hf, fun o ho => ?_⟩
      cases o with
      | exc c fs => exact ho
      | ok ρ1 =>
        intro σ3 _ _ r4
        refine ⟨G', P, F2, ρ1, _, by omega, r4, ho, fun o ho => ?_⟩
        cases o with
        | exc c fs => exact XP.le (hw _ (hW _ ho)) (l1.trans l2) ((s1.trans s2).trans s3)
        | ok f =>
          cases f with
          | nx ρ2 => exact fun G4 F4 σ4 H4 l4 s4 r5 => ⟨rfl, hlt, G4, F4, ρ2, W, (l2.trans l4).up, (s2.trans s3).trans s4, r5, ho, hW⟩
          | ct ρ2 => exact fun G4 F4 σ4 H4 l4 s4 r5 => ⟨rfl, hlt, G4, F4, ρ2, W, (l2.trans l4).up, (s2.trans s3).trans s4, r5, ho, hW⟩
          | bk ρ2 => exact fun G4 F4 σ4 H4 l4 s4 r5 => hw _ (hW _ ho) G4 F4 σ4 H4 ((l1.trans l2).trans l4).up (((s1.trans s2).trans s3).trans s4) r5
          | rt d => exact fun G4 F4 H4 v l4 s4 r5 x5 => hw _ (hW _ ho) G4 F4 H4 v ((l1.trans l2).trans l4).up (((s1.trans s2).trans s3).trans s4) r5 x5
    · have e : i = ds.length := by omega
      subst e
      have hs1 := hline ds.length (Nat.le_refl _)
      rw [List.drop_length, forL_nil] at hf
      exact .inl ⟨goes.stop H2 (s2.trans r2.sf), hw _ (hW _ hf) G' F' σ2 H2 (l1.trans l2).up (s1.trans s2) r2⟩
theorem ds_for (hp : PassesOwn (model X.prog X.w) X.A X.env X.xe) (hc : X.calm = true) (hi : DI X ci E zi tg iter di) (hg : DG X ci js tg g) (hb : DSs X ci E zb m body s)
    (hs : ∀ x, foldedSetIterable iter X.env x = pure x := by intro _; rfl) : DS X ci E (zi + line * zb) m (.For tg iter body [] pos) (sFor di g s) := (ps_for hp hc hi hg hb hs).imp for_imp
theorem whileL_succ (t : XT) (b : XS) (n : Nat) (ρ : Env) : whileL t b (n + 1) ρ = (do
    let c ← t ρ
    match c with
    | true => do
      let f ← b ρ
      match f with
      | .nx ρ' => whileL t b n ρ'
      | .ct ρ' => whileL t b n ρ'
      | .bk ρ' => pure (.nx ρ')
      | .rt d => pure (.rt d)
    | false => pure (.nx ρ)) := by rw [whileL] <;> rfl
theorem while_imp {K : Frag} {n : Nat} (D : Ends) (σ : L2.St) (H : Hp) (h : tS K ci E (n * (zc + zb)) m (sWhile n dt s) D σ H) : tWhile (tT K ci E zc dt) (tS K ci E zb m s) D σ H := by
  obtain ⟨G, P, F, ρ, Wp, bd, rel, hd, hw⟩ := h
  refine ⟨fun k σ H => ∃ G' F' ρ', ∃ W : Out Fl → Prop, Gh.Le (G.n + n * (zc + zb)) G G' ∧ G'.n + k * (zc + zb) ≤ G.n + n * (zc + zb) ∧ Same F F' ∧ Rel K ci G' F' P ρ' σ H ∧ whileL dt s k ρ' W ∧ ∀ o, W o → Wp o,
    ⟨n, G, F, ρ, _, Gh.Le.refl G, Nat.le_refl _, Same.refl F, rel, hd, fun _ h => h⟩, ?_⟩
  rintro k σ2 H2 ⟨G', F', ρ', W, l2, lk, s2, r2, hf, hW⟩
  cases k with
  | zero => exact (show False from (by rw [whileL] at hf; exact hf)).elim
  | succ k =>
    rw [whileL_succ] at hf
    have hs2 : (k + 1) * (zc + zb) = k * (zc + zb) + (zc + zb) := Nat.succ_mul _ _
    refine ⟨G', P, F', ρ', _, by omega, r2, hf, fun o ho => ?_⟩
    cases o with
    | exc c fs => exact XP.le (hw _ (hW _ ho)) l2 s2
    | ok b =>
      intro G3 F3 H3 l3 s3 r3
      have ln3 := l3.n
      cases b with
      | false =>
        rw [if_neg Bool.false_ne_true]
        exact hw _ (hW _ ho) G3 F3 σ2 H3 (l2.trans l3).up (s2.trans s3) r3
      | true =>
        rw [if_pos rfl]
        refine ⟨_, fun σ' H' p' => ⟨k, Nat.lt_succ_self k, p'⟩, G3, P, F3, ρ', _, by omega, r3, ho, fun o ho => ?_⟩
        cases o with
        | exc c fs => exact XP.le (hw _ (hW _ ho)) (l2.trans l3) (s2.trans s3)
        | ok f =>
          cases f with
          | nx ρ2 => exact fun G4 F4 σ4 H4 l4 s4 r5 => ⟨G4, F4, ρ2, W, ((l2.trans l3).trans l4).up, by have := l4.n; omega, (s2.trans s3).trans s4, r5, ho, hW⟩
          | ct ρ2 => exact fun G4 F4 σ4 H4 l4 s4 r5 => ⟨G4, F4, ρ2, W, ((l2.trans l3).trans l4).up, by have := l4.n; omega, (s2.trans s3).trans s4, r5, ho, hW⟩
          | bk ρ2 => exact fun G4 F4 σ4 H4 l4 s4 r5 => hw _ (hW _ ho) G4 F4 σ4 H4 ((l2.trans l3).trans l4).up ((s2.trans s3).trans s4) r5
          | rt d => exact fun G4 F4 H4 v l4 s4 r5 x5 => hw _ (hW _ ho) G4 F4 H4 v ((l2.trans l3).trans l4).up ((s2.trans s3).trans s4) r5 x5
theorem ds_while (hp : PassesOwn (model X.prog X.w) X.A X.env X.xe) (hc : DT X ci E zc c dt) (hb : DSs X ci E zb m body s) (n : Nat) : DS X ci E (n * (zc + zb)) m (.While c body [] pos) (sWhile n dt s) := (ps_while hp hc hb).imp while_imp
end
end DL
end
section
/-! DL8: owned objects changed; several stores at once. -/
set_option Elab.async false
set_option linter.all false
set_option autoImplicit false
set_option maxRecDepth 100000
set_option maxHeartbeats 1000000
namespace DL
open PySem PySem.Spec PyProof.Rows L2
theorem RepK.put {R : Rc} {F : Hp} {k : Key} {v : V} {d : D} (q : Rep R F v d) {ws : List (Key × V)} {kvs : List (Key × D)} (r : RepK R F ws kvs) : RepK R F (putK ws k v) (putD kvs k d) := by
  have hany : ∀ {ws : List (Key × V)} {kvs : List (Key × D)}, RepK R F ws kvs → (ws.any fun kv => decide (kv.1 = k)) = (kvs.any fun kv => decide (kv.1 = k)) := fun {ws kvs} r => by
    induction ws generalizing kvs with
    | nil => cases r; rfl
    | cons w ws ih =>
      cases r with
      | cons h r => rw [List.any_cons, List.any_cons, ih r]
  have hmap : ∀ {ws : List (Key × V)} {kvs : List (Key × D)}, RepK R F ws kvs → RepK R F (ws.map fun kv => if kv.1 = k then (kv.1, v) else kv) (kvs.map fun kv => if kv.1 = k then (kv.1, d) else kv) := fun {ws kvs} r => by
    induction ws generalizing kvs with
    | nil => cases r; exact .nil
    | cons w ws ih =>
      cases r with
      | @cons k2 v2 _ d2 _ h r =>
        rw [List.map_cons, List.map_cons]
        by_cases hk : k2 = k
        · rw [if_pos hk, if_pos hk]
          exact .cons q (ih r)
        · rw [if_neg hk, if_neg hk]
          exact .cons h (ih r)
  have happ : ∀ {ws : List (Key × V)} {kvs : List (Key × D)}, RepK R F ws kvs → RepK R F (ws ++ [(k, v)]) (kvs ++ [(k, d)]) := fun {ws kvs} r => by
    induction ws generalizing kvs with
    | nil => cases r; exact .cons q .nil
    | cons w ws ih =>
      cases r with
      | cons h r => exact .cons h (ih r)
  unfold putK putD
  rw [hany r]
  by_cases h : (kvs.any fun kv => decide (kv.1 = k)) = true
  · rw [if_pos h, if_pos h]; exact hmap r
  · rw [if_neg h, if_neg h]; exact happ r
theorem getOwL_ok {ρ : Env} {i : Nat} {W : Out (List D) → Prop} (h : getOwL ρ i W) : ∃ ds, ρ[i]? = some (.ow (.lst ds)) ∧ W (.ok ds) := by
  unfold getOwL at h
  cases q : ρ[i]? with
  | none => rw [q] at h; exact (show False from h).elim
  | some s =>
    rw [q] at h
    cases s with
    | ow d => cases d <;> first | exact ⟨_, rfl, h⟩ | exact (show False from h).elim
    | _ => exact (show False from h).elim
theorem getOwK_ok {ρ : Env} {i : Nat} {W : Out (List (Key × D)) → Prop} (h : getOwK ρ i W) : ∃ ds, ρ[i]? = some (.ow (.dK ds)) ∧ W (.ok ds) := by
  unfold getOwK at h
  cases q : ρ[i]? with
  | none => rw [q] at h; exact (show False from h).elim
  | some s =>
    rw [q] at h
    cases s with
    | ow d => cases d <;> first | exact ⟨_, rfl, h⟩ | exact (show False from h).elim
    | _ => exact (show False from h).elim
theorem Rel.owL {K : Frag} {ci : Ci} {G : Gh} {F P H : Hp} {ρ : Env} {σ : L2.St} (r : Rel K ci G F P ρ σ H) {i : Nat} {ds : List D} (h : ρ[i]? = some (.ow (.lst ds))) : ∃ p vs, σ[i]? = some (some (.ref p)) ∧ H p = some (.lst vs) ∧ RepL (rc K ci G) F vs ds := by
  obtain ⟨p, h1, ⟨vs, h2, h3⟩, _⟩ := r.ow i _ h
  exact ⟨p, vs, h1, h2, h3⟩
theorem Rel.owK {K : Frag} {ci : Ci} {G : Gh} {F P H : Hp} {ρ : Env} {σ : L2.St} (r : Rel K ci G F P ρ σ H) {i : Nat} {ds : List (Key × D)} (h : ρ[i]? = some (.ow (.dK ds))) : ∃ p vs, σ[i]? = some (some (.ref p)) ∧ H p = some (.dK vs) ∧ RepK (rc K ci G) F vs ds := by
  obtain ⟨p, h1, ⟨vs, h2, h3⟩, _⟩ := r.ow i _ h
  exact ⟨p, vs, h1, h2, h3⟩
theorem keyD_kV {R : Rc} {F : Hp} {v : V} {d : D} {q : Key} (h : Rep R F v d) (e : keyD d = some q) : v = kV q := by
  cases d <;> first | cases e | skip
  · cases h; rfl
  · cases h; rfl
theorem asInt_ok {d : D} {z : Int} (e : asInt d = some z) : d = .int z := by
  cases d <;> first | (cases e; rfl) | cases e
section
variable {X : Cx} {ci : Ci} {E : XK} {m : Md} {e tg k o : Expr} {d dk : XE} {g : XG} {js : List Nat} {pos pos' apos cpos apos' cpos' p p' : Pos} {x y : Str} {i j : Nat} {z0 za zd zk : Nat}
theorem ds_append (hd : DE X ci E zd e d) (hN : X.N[i]? = some x := by rfl) (hv : Vis X.env.scope x := by first | exact Or.inl rfl | exact Or.inr (Or.inl rfl) | exact Or.inr (Or.inr rfl)) (hdb : (x == ("__debug__" : Str)) = false := by decide)
    (hcd : (x == ("__classdict__" : Str)) = false := by decide) (hbase : attributeBase (.Name x p) "append" X.env (eval (.Name x p) X.env) = eval (.Name x p) X.env := by rfl)
    (hfew : ((backTo cpos (starEach [e] X.env)).all (fun x => !x.1) && (backToKw cpos (keywordEach [] X.env)).all (fun x => x.1.isSome)
      && decide ([e].length + ([] : List Keyword).length + (if ([] : List Keyword).isEmpty then 0 else 1) < 30)) = true := by rfl)
    (hline : (apos.endLine == cpos.line) = true := by rfl) (hst : starEach [e] X.env = (false, eval e X.env) :: starEach [] X.env := by rfl) (hplain : (backTo cpos (starEach [] X.env)).any (·.1) = false := by rfl)
    (hs : swapsWith (.Call (.Attribute (.Name x p) "append" apos) [e] [] cpos) none pos.line X.env = pure false := by rfl) :
    DS X ci E zd m (.Expr (.Call (.Attribute (.Name x p) "append" apos) [e] [] cpos) pos) (sAppend i d) :=
  (ps_expr (pe_bm PySem.F.plainAttrs_list PySem.F.slot_list_append PySem.F.type_list_append mt_append (pe_var hN hv hdb hcd) (pa_cons hd pa_nil hst) hbase hfew hline hst hplain) hs).imp fun D σ H ⟨G, P, F, ρ, W, bd, rel, hd, hw⟩ => by
    obtain ⟨ds, hz, hd⟩ := getOwL_ok (show getOwL ρ i _ from hd)
    obtain ⟨q, vs, h1, h2, h3⟩ := rel.owL hz
    refine ⟨_, h1, .inl ⟨rfl, vs, SqL.of h2⟩, G, P, F, ρ, _, by omega, rel, hd, fun o ho => ?_⟩
    cases o with
    | exc c fs => exact XP.lo (hw _ ho)
    | ok a =>
      intro G1 F1 H1 v l1 s1 r1 x1
      obtain ⟨q', vs, h1', hvs, rv⟩ := r1.owL hz
      rw [h1] at h1'
      cases h1'
      obtain ⟨hlt, ho⟩ := (show ds.length < line ∧ W (.ok (.nx (ρ.set i (.ow (.lst (ds ++ [a])))))) from ho)
      exact ⟨q, vs, v, rfl, rfl, hvs, by rw [rv.length]; exact hlt, hw _ ho G1 F1 σ _ l1.up s1 (r1.put hz h1 (lst_ne hvs) ⟨_, upd_same, rv.append (.cons x1 .nil)⟩)⟩
theorem ds_extend (hd : DE X ci E zd e d) (hN : X.N[i]? = some x := by rfl) (hv : Vis X.env.scope x := by first | exact Or.inl rfl | exact Or.inr (Or.inl rfl) | exact Or.inr (Or.inr rfl)) (hdb : (x == ("__debug__" : Str)) = false := by decide)
    (hcd : (x == ("__classdict__" : Str)) = false := by decide) (hbase : attributeBase (.Name x p) "extend" X.env (eval (.Name x p) X.env) = eval (.Name x p) X.env := by rfl)
    (hfew : ((backTo cpos (starEach [e] X.env)).all (fun x => !x.1) && (backToKw cpos (keywordEach [] X.env)).all (fun x => x.1.isSome)
      && decide ([e].length + ([] : List Keyword).length + (if ([] : List Keyword).isEmpty then 0 else 1) < 30)) = true := by rfl)
    (hline : (apos.endLine == cpos.line) = true := by rfl) (hst : starEach [e] X.env = (false, eval e X.env) :: starEach [] X.env := by rfl) (hplain : (backTo cpos (starEach [] X.env)).any (·.1) = false := by rfl)
    (hs : swapsWith (.Call (.Attribute (.Name x p) "extend" apos) [e] [] cpos) none pos.line X.env = pure false := by rfl) :
    DS X ci E zd m (.Expr (.Call (.Attribute (.Name x p) "extend" apos) [e] [] cpos) pos) (sExtend i d) :=
  (ps_expr (pe_bm PySem.F.plainAttrs_list PySem.F.slot_list_extend PySem.F.type_list_extend mt_extend (pe_var hN hv hdb hcd) (pa_cons hd pa_nil hst) hbase hfew hline hst hplain) hs).imp fun D σ H ⟨G, P, F, ρ, W, bd, rel, hd, hw⟩ => by
    obtain ⟨ds, hz, hd⟩ := getOwL_ok (show getOwL ρ i _ from hd)
    obtain ⟨q, vs, h1, h2, h3⟩ := rel.owL hz
    refine ⟨_, h1, .inl ⟨rfl, vs, SqL.of h2⟩, G, P, F, ρ, _, by omega, rel, hd, fun o ho => ?_⟩
    cases o with
    | exc c fs => exact XP.lo (hw _ ho)
    | ok a =>
      intro G1 F1 H1 v l1 s1 r1 x1
      obtain ⟨q', vs, h1', hvs, rv⟩ := r1.owL hz
      rw [h1] at h1'
      cases h1'
      cases a <;> first | exact (show False from ho).elim | skip
      rename_i es
      obtain ⟨hlt, ho⟩ := (show ds.length + es.length ≤ line ∧ W (.ok (.nx (ρ.set i (.ow (.lst (ds ++ es)))))) from ho)
      cases x1 with
      | lst hb rb =>
        exact ⟨q, _, vs, _, rfl, rfl, hvs, r1.sf _ _ hb, by rw [rv.length, rb.length]; exact hlt, hw _ ho G1 F1 σ _ l1.up s1 (r1.put hz h1 (lst_ne hvs) ⟨_, upd_same, rv.append rb⟩)⟩
theorem ixD_ixN {n : Nat} {i : Int} : ixD n i = ixN n i := rfl
theorem ds_setL (hd : DE X ci E zd e d) (hk : DE X ci E zk k dk) (hN : X.N[i]? = some x := by rfl) (hv : Vis X.env.scope x := by first | exact Or.inl rfl | exact Or.inr (Or.inl rfl) | exact Or.inr (Or.inr rfl)) (hdb : (x == ("__debug__" : Str)) = false := by decide)
    (hcd : (x == ("__classdict__" : Str)) = false := by decide)
    (ha : ∀ v, assign (.Subscript (.Name x p) k apos) X.env v = (do
      let ov ← holding [v] (eval (.Name x p) X.env)
      let iv ← holding [v, ov] (eval k X.env)
      standAt apos
      holding [v, ov, iv] (setItem ov iv v)
      release [v, ov, iv] []) := by intro _; rfl)
    (hs : swapsWithSole [.Subscript (.Name x p) k apos] e pos.line X.env = pure false := by rfl) (hw : swappedStores [.Subscript (.Name x p) k apos] e X.env = pure none := by rfl)
    (h1 : (assignEach [.Subscript (.Name x p) k apos] X.env).map (·.2) = [assign (.Subscript (.Name x p) k apos) X.env] := by rfl) :
    DS X ci E (zd + zk) m (.Assign [.Subscript (.Name x p) k apos] e pos) (sSetL i dk d) :=
  (ps_asg hd (pg_sub (pe_var hN hv hdb hcd) hk set_list ha) hs hw h1).imp fun D σ H ⟨G, P, F, ρ, W, bd, rel, hd, hw⟩ => by
    refine ⟨G, P, F, ρ, _, by omega, rel, hd, fun o ho => ?_⟩
    cases o with
    | exc c fs => exact XP.lo (hw _ ho)
    | ok a =>
      intro G1 F1 H1 v l1 s1 r1 x1
      obtain ⟨ds, hz, ho⟩ := getOwL_ok (show getOwL ρ i _ from ho)
      obtain ⟨q, vs, h1, h2, h3⟩ := r1.owL hz
      refine ⟨_, h1, G1, P, F1, ρ, _, by omega, r1, ho, fun o ho => ?_⟩
      cases o with
      | exc c fs => exact XP.le (hw _ ho) l1 s1
      | ok b =>
        intro G2 F2 H2 u l2 s2 r2 x2
        obtain ⟨z, hb, ho2⟩ := get_ok (show (M.get (asInt b) _) from ho)
        obtain ⟨j, hj, ho3⟩ := get_ok (show (M.get (ixD ds.length z) _) from ho2)
        have hb := asInt_ok hb
        subst hb
        cases x2
        obtain ⟨q', vs, h1', hvs, rv⟩ := r2.owL hz
        rw [h1] at h1'
        cases h1'
        exact ⟨q, vs, z, j, rfl, rfl, hvs, by rw [rv.length]; exact hj, hw _ ho3 G2 F2 σ _ (l1.trans l2).up (s1.trans s2) (r2.put hz h1 (lst_ne hvs) ⟨_, upd_same, rv.set (x1.mono (rc_le _ ci l2) s2) j⟩)⟩
theorem ds_setK (hu : X.A.units + 1 < cLine) (hd : DE X ci E zd e d) (hk : DE X ci E zk k dk) (hN : X.N[i]? = some x := by rfl) (hv : Vis X.env.scope x := by first | exact Or.inl rfl | exact Or.inr (Or.inl rfl) | exact Or.inr (Or.inr rfl)) (hdb : (x == ("__debug__" : Str)) = false := by decide)
    (hcd : (x == ("__classdict__" : Str)) = false := by decide) (hs : swapsWith e (some (.Subscript (.Name x p) k apos)) pos.line X.env = pure false := by rfl) :
    DS X ci E (zd + zk) m (.Assign [.Subscript (.Name x p) k apos] e pos) (sSetK i dk d) :=
  (ps_dput hu (pe_var hN hv hdb hcd) hk hd hs).imp fun D σ H ⟨G, P, F, ρ, W, bd, rel, hd, hw⟩ => by
    refine ⟨G, P, F, ρ, _, by omega, rel, hd, fun o ho => ?_⟩
    cases o with
    | exc c fs => exact XP.lo (hw _ ho)
    | ok a =>
      intro G1 F1 H1 v l1 s1 r1 x1
      obtain ⟨ds, hz, ho⟩ := getOwK_ok (show getOwK ρ i _ from ho)
      obtain ⟨q, vs, h1, h2, h3⟩ := r1.owK hz
      refine ⟨_, h1, G1, P, F1, ρ, _, by omega, r1, ho, fun o ho => ?_⟩
      cases o with
      | exc c fs => exact XP.le (hw _ ho) l1 s1
      | ok b =>
        intro G2 F2 H2 u l2 s2 r2 x2
        obtain ⟨z, hb, ho⟩ := get_ok (show (M.get (keyD b) _) from ho)
        obtain ⟨hj, ho⟩ := (show ds.length < line ∧ W (.ok (.nx (ρ.set i (.ow (.dK (putD ds z a)))))) from ho)
        obtain ⟨q', vs, h1', hvs, rv⟩ := r2.owK hz
        rw [h1] at h1'
        cases h1'
        exact ⟨q, _, rfl, .inl ⟨vs, z, hvs, keyD_kV x2 hb, by rw [repK_len rv]; exact hj, rfl⟩, hw _ ho G2 F2 σ _ (l1.trans l2).up (s1.trans s2) (r2.put hz h1 (dK_ne hvs) ⟨_, upd_same, rv.put (x1.mono (rc_le _ ci l2) s2)⟩)⟩
/-- g = x.pop() -/
theorem ds_pop (hg : DG X ci js tg g) (hN : X.N[i]? = some x := by rfl) (hv : Vis X.env.scope x := by first | exact Or.inl rfl | exact Or.inr (Or.inl rfl) | exact Or.inr (Or.inr rfl)) (hdb : (x == ("__debug__" : Str)) = false := by decide)
    (hcd : (x == ("__classdict__" : Str)) = false := by decide) (hbase : attributeBase (.Name x p) "pop" X.env (eval (.Name x p) X.env) = eval (.Name x p) X.env := by rfl) (hline : (apos.endLine == cpos.line) = true := by rfl)
    (hs : swapsWithSole [tg] (.Call (.Attribute (.Name x p) "pop" apos) [] [] cpos) pos.line X.env = pure false := by rfl) (hw : swappedStores [tg] (.Call (.Attribute (.Name x p) "pop" apos) [] [] cpos) X.env = pure none := by rfl)
    (h1 : (assignEach [tg] X.env).map (·.2) = [assign tg X.env] := by rfl) :
    DS X ci E 0 m (.Assign [tg] (.Call (.Attribute (.Name x p) "pop" apos) [] [] cpos) pos) (sPop i g) :=
  (ps_asg (pe_bm0 PySem.F.plainAttrs_list PySem.F.slot_list_pop PySem.F.type_list_pop mt_pop (pe_var hN hv hdb hcd) hbase hline) hg hs hw h1).imp fun D σ H ⟨G, P, F, ρ, W, bd, rel, hd, hw⟩ => by
    obtain ⟨ds, hz, hd⟩ := getOwL_ok (show getOwL ρ i _ from hd)
    obtain ⟨q, vs, h1, h2, h3⟩ := rel.owL hz
    obtain ⟨a, ha, hd⟩ := get_ok (show (M.get (ds[ds.length - 1]?) _) from hd)
    obtain ⟨v, hv, rv⟩ := h3.get ha
    refine ⟨_, h1, .inl ⟨rfl, vs, SqL.of h2⟩, q, vs, v, rfl, rfl, h2, by rw [h3.length]; exact hv, ?_⟩
    refine ⟨G, P, F, _, a, _, rel.put (e := .lst ds.dropLast) hz h1 (lst_ne h2) ⟨_, upd_same, h3.dropLast⟩, rv, hd, fun o ho => ?_⟩
    cases o with
    | exc c fs => exact ho
    | ok ρ' => exact fun σ' _ _ r' => hw _ ho G F σ' _ (Gh.Le.refl G) (Same.refl F) r'
/-- y.append(x.pop(e)) -/
theorem ds_appendPop (hd : DE X ci E zd e d) (hN : X.N[i]? = some x := by rfl) (hv : Vis X.env.scope x := by first | exact Or.inl rfl | exact Or.inr (Or.inl rfl) | exact Or.inr (Or.inr rfl)) (hdb : (x == ("__debug__" : Str)) = false := by decide)
    (hcd : (x == ("__classdict__" : Str)) = false := by decide) (hN' : X.N[j]? = some y := by rfl) (hv' : Vis X.env.scope y := by first | exact Or.inl rfl | exact Or.inr (Or.inl rfl) | exact Or.inr (Or.inr rfl)) (hdb' : (y == ("__debug__" : Str)) = false := by decide)
    (hcd' : (y == ("__classdict__" : Str)) = false := by decide)
    (hbase : attributeBase (.Name x p) "pop" X.env (eval (.Name x p) X.env) = eval (.Name x p) X.env := by rfl)
    (hfew : ((backTo cpos (starEach [e] X.env)).all (fun x => !x.1) && (backToKw cpos (keywordEach [] X.env)).all (fun x => x.1.isSome)
      && decide ([e].length + ([] : List Keyword).length + (if ([] : List Keyword).isEmpty then 0 else 1) < 30)) = true := by rfl)
    (hline : (apos.endLine == cpos.line) = true := by rfl) (hst : starEach [e] X.env = (false, eval e X.env) :: starEach [] X.env := by rfl) (hplain : (backTo cpos (starEach [] X.env)).any (·.1) = false := by rfl)
    (hbase' : attributeBase (.Name y p') "append" X.env (eval (.Name y p') X.env) = eval (.Name y p') X.env := by rfl)
    (hfew' : ((backTo cpos' (starEach [(.Call (.Attribute (.Name x p) "pop" apos) [e] [] cpos)] X.env)).all (fun x => !x.1) && (backToKw cpos' (keywordEach [] X.env)).all (fun x => x.1.isSome)
      && decide ([(Expr.Call (.Attribute (.Name x p) "pop" apos) [e] [] cpos)].length + ([] : List Keyword).length + (if ([] : List Keyword).isEmpty then 0 else 1) < 30)) = true := by rfl)
    (hline' : (apos'.endLine == cpos'.line) = true := by rfl) (hst' : starEach [(.Call (.Attribute (.Name x p) "pop" apos) [e] [] cpos)] X.env = (false, eval (.Call (.Attribute (.Name x p) "pop" apos) [e] [] cpos) X.env) :: starEach [] X.env := by rfl)
    (hplain' : (backTo cpos' (starEach [] X.env)).any (·.1) = false := by rfl)
    (hs : swapsWith (.Call (.Attribute (.Name y p') "append" apos') [(.Call (.Attribute (.Name x p) "pop" apos) [e] [] cpos)] [] cpos') none pos.line X.env = pure false := by rfl) :
    DS X ci E zd m (.Expr (.Call (.Attribute (.Name y p') "append" apos') [(.Call (.Attribute (.Name x p) "pop" apos) [e] [] cpos)] [] cpos') pos) (sAppendPop j i d) :=
  (ps_expr (pe_bm PySem.F.plainAttrs_list PySem.F.slot_list_append PySem.F.type_list_append mt_append (pe_var hN' hv' hdb' hcd') (pa_cons
    (pe_bm PySem.F.plainAttrs_list PySem.F.slot_list_pop PySem.F.type_list_pop mt_popAt (pe_var hN hv hdb hcd) (pa_cons hd pa_nil hst) hbase hfew hline hst hplain) pa_nil hst') hbase' hfew' hline' hst' hplain') hs).imp fun D σ H ⟨G, P, F, ρ, W, bd, rel, hd, hw⟩ => by
    obtain ⟨es, hz', hd⟩ := getOwL_ok (show getOwL ρ j _ from hd)
    obtain ⟨q', vs', h1', h2', h3'⟩ := rel.owL hz'
    obtain ⟨ds, hz, hd⟩ := getOwL_ok (show getOwL ρ i _ from hd)
    obtain ⟨q, vs, h1, h2, h3⟩ := rel.owL hz
    refine ⟨_, h1', .inl ⟨rfl, vs', SqL.of h2'⟩, _, h1, .inl ⟨rfl, vs, SqL.of h2⟩, G, P, F, ρ, _, by omega, rel, hd, fun o ho => ?_⟩
    cases o with
    | exc c fs => exact XP.lo (hw _ ho)
    | ok a =>
      intro G1 F1 H1 v l1 s1 r1 x1
      obtain ⟨k, hk, ho1⟩ := get_ok (show (M.get (asInt a) _) from ho)
      obtain ⟨⟨hij, hk1, hk2, hlen⟩, ho2⟩ := (show (i ≠ j ∧ -(2 ^ 63) ≤ k ∧ k < 2 ^ 63 ∧ es.length < line) ∧ _ from ho1)
      obtain ⟨n, hn, ho3⟩ := get_ok (show (M.get (ixD ds.length k) _) from ho2)
      obtain ⟨b, hb, ho4⟩ := get_ok (show (M.get (ds[n]?) _) from ho3)
      have ha := asInt_ok hk
      subst ha
      cases x1
      obtain ⟨q2, vs, h1b, hvs, rv⟩ := r1.owL hz
      rw [h1] at h1b
      cases h1b
      obtain ⟨w, hw1, rw1⟩ := rv.get hb
      have r2 := r1.put (e := .lst (ds.eraseIdx n)) (o := .lst (vs.eraseIdx n)) hz h1 (lst_ne hvs) ⟨_, upd_same, rv.eraseIdx n⟩
      have hz2 : (ρ.set i (.ow (.lst (ds.eraseIdx n))))[j]? = some (.ow (.lst es)) := by rw [List.getElem?_set_ne hij]; exact hz'
      obtain ⟨q3, ws, h5, h6, h7⟩ := r2.owL hz2
      rw [h1'] at h5
      cases h5
      exact ⟨q, vs, k, n, w, rfl, rfl, hvs, hk1, hk2, (ixN_seq (by rw [rv.length]; exact hn)).1, hw1, q', ws, w, rfl, rfl, h6, by rw [h7.length]; exact hlen,
        hw _ ho4 G1 F1 σ _ l1.up s1 (r2.put hz2 h1' (lst_ne h6) ⟨_, upd_same, h7.append (.cons rw1 .nil)⟩)⟩
end
/-! ### several at once -/
def md : Bool → Md
  | true => .own
  | false => .sh
section
variable (K : Frag) (ci : Ci)
def Alls (G : Gh) (F P : Hp) (ρ : Env) (σ : L2.St) (H : Hp) : List Bool → List V → List D → Prop
  | [], [], [] => True
  | b :: ms, v :: vs, d :: ds => Res K ci (md b) G F P ρ σ H v d ∧ (b = true → ∀ k : Nat, ms[k]? = some true → vs[k]? = some v → False) ∧ Alls G F P ρ σ H ms vs ds
  | _, _, _ => False
def tAM (E : XK) (z : Nat) (ms : List Bool) (da : XA) : TA := fun σ H Q => ∃ G P F ρ W, G.n + z ≤ top ∧ Rel K ci G F P ρ σ H ∧ da ρ W ∧ ∀ o, W o → match o with
  | .ok ds => ∀ G' F' H' vs, Gh.Le (G.n + z) G G' → Same F F' → Rel K ci G' F' P ρ σ H' → Alls K ci G' F' P ρ σ H' ms vs ds → Q vs H'
  | .exc c fs => XP K ci E (G.n + z) G P F c fs
end
section
variable {K : Frag} {ci : Ci} {G : Gh} {F P H : Hp} {ρ : Env} {σ : L2.St} {p : Addr} {o : HO}
theorem Lone.unguard {q : Addr} (l : Lone G F (upd P p o) ρ σ q) : q ≠ p ∧ Lone G F P ρ σ q := by
  have ne : q ≠ p := fun e => by
    have := l.hp
    rw [e, upd_same] at this
    cases this
  exact ⟨ne, l.hf, by have := l.hp; rw [upd_ne ne] at this; exact this, l.hr, l.hs⟩
theorem Alls.unguard : ∀ {ms : List Bool} {vs : List V} {ds : List D}, Alls K ci G F (upd P p o) ρ σ H ms vs ds → Alls K ci G F P ρ σ H ms vs ds ∧ ∀ k : Nat, ms[k]? = some true → vs[k]? = some (.ref p) → False
  | [], [], [], _ => ⟨True.intro, fun k h => by simp at h⟩
  | true :: ms, v :: vs, d :: ds, ⟨⟨q, e, lo, ow⟩, h2, h3⟩ => by
    obtain ⟨ne, lo'⟩ := lo.unguard
    obtain ⟨r1, r2⟩ := Alls.unguard h3
    refine ⟨⟨⟨q, e, lo', ow⟩, h2, r1⟩, fun k a b => ?_⟩
    cases k with
    | zero =>
      rw [List.getElem?_cons_zero, e] at b
      cases b
      exact ne rfl
    | succ k => exact r2 k (by simpa using a) (by simpa using b)
  | false :: ms, v :: vs, d :: ds, ⟨h1, h2, h3⟩ => by
    obtain ⟨r1, r2⟩ := Alls.unguard h3
    refine ⟨⟨h1, h2, r1⟩, fun k a b => ?_⟩
    cases k with
    | zero => simp at a
    | succ k => exact r2 k (by simpa using a) (by simpa using b)
  | [], [], _ :: _, h => h.elim
  | [], _ :: _, _, h => h.elim
  | _ :: _, [], _, h => h.elim
  | _ :: _, _ :: _, [], h => h.elim
theorem Lone.setSh {q : Addr} {i : Nat} {v : V} {d : D} (l : Lone G F P ρ σ q) : Lone G F P (ρ.set i (.sh d)) (σ.set i (some v)) q := ⟨l.hf, l.hp, l.hr, fun j e h1 h2 => by
  by_cases hj : i = j
  · subst hj
    by_cases hl : i < ρ.length
    · rw [List.getElem?_set_self hl] at h1; cases h1
    · rw [List.getElem?_eq_none (by rw [List.length_set]; omega)] at h1; cases h1
  · rw [List.getElem?_set_ne hj] at h1 h2
    exact l.hs j e h1 h2⟩
theorem Lone.setOw {q p : Addr} {i : Nat} {d : D} (l : Lone G F P ρ σ q) (ne : q ≠ p) : Lone G F P (ρ.set i (.ow d)) (σ.set i (some (.ref p))) q := ⟨l.hf, l.hp, l.hr, fun j e h1 h2 => by
  by_cases hj : i = j
  · subst hj
    by_cases hl : i < σ.length
    · rw [List.getElem?_set_self hl] at h2; cases h2; exact ne rfl
    · rw [List.getElem?_eq_none (by rw [List.length_set]; omega)] at h2; cases h2
  · rw [List.getElem?_set_ne hj] at h1 h2
    exact l.hs j e h1 h2⟩
theorem Alls.setSh {i : Nat} {v : V} {d : D} : ∀ {ms : List Bool} {vs : List V} {ds : List D}, Alls K ci G F P ρ σ H ms vs ds → Alls K ci G F P (ρ.set i (.sh d)) (σ.set i (some v)) H ms vs ds
  | [], [], [], _ => True.intro
  | true :: ms, _ :: vs, _ :: ds, ⟨⟨q, e, lo, ow⟩, h2, h3⟩ => ⟨⟨q, e, lo.setSh, ow⟩, h2, Alls.setSh h3⟩
  | false :: ms, _ :: vs, _ :: ds, ⟨h1, h2, h3⟩ => ⟨h1, h2, Alls.setSh h3⟩
  | [], [], _ :: _, h => h.elim
  | [], _ :: _, _, h => h.elim
  | _ :: _, [], _, h => h.elim
  | _ :: _, _ :: _, [], h => h.elim
theorem Alls.setOw {i : Nat} {p : Addr} {d : D} : ∀ {ms : List Bool} {vs : List V} {ds : List D}, Alls K ci G F P ρ σ H ms vs ds → (∀ k : Nat, ms[k]? = some true → vs[k]? = some (.ref p) → False) → Alls K ci G F P (ρ.set i (.ow d)) (σ.set i (some (.ref p))) H ms vs ds
  | [], [], [], _, _ => True.intro
  | true :: ms, _ :: vs, _ :: ds, ⟨⟨q, e, lo, ow⟩, h2, h3⟩, hne => ⟨⟨q, e, lo.setOw fun z => hne 0 rfl (by rw [List.getElem?_cons_zero, e, z]), ow⟩, h2, Alls.setOw h3 fun k a b => hne (k + 1) (by simpa using a) (by simpa using b)⟩
  | false :: ms, _ :: vs, _ :: ds, ⟨h1, h2, h3⟩, hne => ⟨h1, h2, Alls.setOw h3 fun k a b => hne (k + 1) (by simpa using a) (by simpa using b)⟩
  | [], [], _ :: _, h, _ => h.elim
  | [], _ :: _, _, h, _ => h.elim
  | _ :: _, [], _, h, _ => h.elim
  | _ :: _, _ :: _, [], h, _ => h.elim
def setV : List (Nat × Bool) → List V → L2.St → L2.St
  | (i, _) :: is, v :: vs, σ => setV is vs (σ.set i (some v))
  | _, _, σ => σ
theorem Rel.setAll : ∀ {is : List (Nat × Bool)} {vs : List V} {ds : List D} {ρ : Env} {σ : L2.St}, Rel K ci G F P ρ σ H → Alls K ci G F P ρ σ H (is.map (·.2)) vs ds → Rel K ci G F P (setAll is ds ρ) (setV is vs σ) H
  | [], [], [], _, _, r, _ => r
  | (i, true) :: is, _ :: vs, _ :: ds, ρ, σ, r, ⟨⟨q, e, lo, ow⟩, h2, h3⟩ => by
    subst e
    exact Rel.setAll (is := is) (r.setOw (i := i) lo ow) (h3.setOw (h2 rfl))
  | (i, false) :: is, _ :: vs, _ :: ds, ρ, σ, r, ⟨h1, h2, h3⟩ => Rel.setAll (is := is) (r.setSh (i := i) h1) h3.setSh
  | [], [], _ :: _, _, _, _, h => h.elim
  | [], _ :: _, _, _, _, _, h => h.elim
  | _ :: _, [], _, _, _, _, h => h.elim
  | _ :: _, _ :: _, [], _, _, _, h => h.elim
end
section
variable {X : Cx} {ci : Ci} {E : XK} {m : Md} {e : Expr} {es : List Expr} {d : XE} {r : XA} {ms : List Bool} {b : Bool} {a1 a2 a3 : Expr} {x y z : Str} {px py pz pt pos : Pos} {kt k2 pt2} {i j l : Nat} {b1 b2 b3 : Bool} {z0 za zr : Nat}
abbrev DAM (X : Cx) (ci : Ci) (E : XK) (z : Nat) (ms : List Bool) (es : List Expr) (d : XA) : Prop := PA X es (tAM X.K ci E z ms d)
theorem dam_nil : DAM X ci E 0 [] [] dNil := pa_nil.imp fun σ H Q ⟨G, P, F, ρ, W, bd, r, hd, hw⟩ => hw _ hd G F H [] (Gh.Le.refl G) (Same.refl F) r True.intro
theorem dam_sh (ha : DE X ci E za e d) (hr : DAM X ci E zr ms es r) (hs : starEach (e :: es) X.env = (false, eval e X.env) :: starEach es X.env := by rfl) : DAM X ci E (za + zr) (false :: ms) (e :: es) (dCons d r) :=
  (pa_cons ha hr hs).imp fun σ H Q ⟨G, P, F, ρ, W, bd, rel, hd, hw⟩ => by
    refine ⟨G, P, F, ρ, _, by omega, rel, hd, fun o ho => ?_⟩
    cases o with
    | exc c fs => exact XP.lo (hw _ ho)
    | ok a =>
      intro G1 F1 H1 v l1 s1 r1 x1
      refine ⟨G1, P, F1, ρ, _, by omega, r1, ho, fun o ho => ?_⟩
      cases o with
      | exc c fs => exact XP.le (hw _ ho) l1 s1
      | ok ds => exact fun G2 F2 H2 vs l2 s2 r2 x2 => hw _ ho G2 F2 H2 _ (l1.trans l2).up (s1.trans s2) r2 ⟨Rep.mono (rc_le _ ci l2) s2 x1, fun z => (Bool.false_ne_true z).elim, x2⟩
theorem dam_ow (ha : DO X ci E za e d) (hr : DAM X ci E zr ms es r) (hs : starEach (e :: es) X.env = (false, eval e X.env) :: starEach es X.env := by rfl) : DAM X ci E (za + zr) (true :: ms) (e :: es) (dCons d r) :=
  (pa_cons ha hr hs).imp fun σ H Q ⟨G, P, F, ρ, W, bd, rel, hd, hw⟩ => by
    refine ⟨G, P, F, ρ, _, by omega, rel, hd, fun o ho => ?_⟩
    cases o with
    | exc c fs => exact XP.lo (hw _ ho)
    | ok a =>
      intro G1 F1 H1 v l1 s1 r1 x1
      obtain ⟨p, rfl, lo, ow⟩ := x1
      obtain ⟨ob, hob⟩ := ow.there
      refine ⟨G1, upd P p ob, F1, ρ, _, by omega, r1.guard lo hob, ho, fun o ho => ?_⟩
      cases o with
      | exc c fs => exact fun G' F' H' cv dx l s r x => hw _ ho G' F' H' cv dx (l1.trans l).up (s1.trans s) (r.unguard lo.hp).1 x
      | ok ds =>
        intro G2 F2 H2 vs l2 s2 r2 x2
        obtain ⟨r3, lo3, hp3⟩ := r2.unguard lo.hp
        obtain ⟨x3, ne⟩ := x2.unguard
        exact hw _ ho G2 F2 H2 _ (l1.trans l2).up (s1.trans s2) r3 ⟨⟨p, rfl, lo3, ow.mono (rc_le _ ci l2) s2 (hp3.trans hob.symm)⟩, fun _ => ne, x3⟩
theorem par_post {K : Frag} {is : List (Nat × Bool)} {En : Ends} {σ : L2.St} {H : Hp} {Q : List V → Hp → Prop} (h : tS K ci E z0 m (sPar is r) En σ H) (hQ : ∀ vs H', vs.length = is.length → En.nx (setV is vs σ) H' → Q vs H') : tAM K ci E z0 (is.map (·.2)) r σ H Q := by
  obtain ⟨G, P, F, ρ, W, bd, rel, hd, hw⟩ := h
  refine ⟨G, P, F, ρ, _, by omega, rel, hd, fun o ho => ?_⟩
  cases o with
  | exc c fs => exact XP.lo (hw _ ho)
  | ok ds =>
    intro G1 F1 H1 vs l1 s1 r1 x1
    have hl : ∀ {ms : List Bool} {vs : List V} {ds : List D} , Alls K ci G1 F1 P ρ σ H1 ms vs ds → vs.length = ms.length := by
      intro ms
      induction ms with
      | nil => intro vs ds h; cases vs <;> cases ds <;> first | rfl | exact h.elim
      | cons b ms ih =>
        intro vs ds h
        cases vs <;> cases ds <;> first | exact h.elim | skip
        rw [List.length_cons, List.length_cons, ih h.2.2]
    exact hQ vs H1 ((hl x1).trans (List.length_map _)) (hw _ ho G1 F1 _ H1 l1.up s1 (r1.setAll x1))
theorem ds_par2 (hc : X.calm = true) (hN : X.N.Nodup) (ha : DAM X ci E za [b1, b2] [a1, a2] r) (hi : X.N[i]? = some x := by rfl) (hj : X.N[j]? = some y := by rfl) (hij : i ≠ j := by decide)
    (hx : X.env.scope.names.lookup x = some .local := by rfl) (hy : X.env.scope.names.lookup y = some .local := by rfl)
    (hw : swappedStores [.Tuple [.Name x px, .Name y py] kt pt] (.Tuple [a1, a2] k2 pt2) X.env = pure (some [x, y]) := by rfl)
    (hs : swapsWithSole [.Tuple [.Name x px, .Name y py] kt pt] (.Tuple [a1, a2] k2 pt2) pos.line X.env = pure false := by rfl) :
    DS X ci E za m (.Assign [.Tuple [.Name x px, .Name y py] kt pt] (.Tuple [a1, a2] k2 pt2) pos) (sPar [(i, b1), (j, b2)] r) :=
  (ps_par hc hN hi hj hij hx hy ha hw hs).imp fun D σ H h => par_post (is := [(i, b1), (j, b2)]) h fun vs H' hl q => by
    match vs, hl, q with
    | [v, w], _, q => exact ⟨v, w, rfl, q⟩
theorem ds_par3 (hc : X.calm = true) (hN : X.N.Nodup) (ha : DAM X ci E za [b1, b2, b3] [a1, a2, a3] r) (hi : X.N[i]? = some x := by rfl) (hj : X.N[j]? = some y := by rfl) (hl : X.N[l]? = some z := by rfl) (hij : i ≠ j := by decide) (hil : i ≠ l := by decide) (hjl : j ≠ l := by decide)
    (hx : X.env.scope.names.lookup x = some .local := by rfl) (hy : X.env.scope.names.lookup y = some .local := by rfl) (hz : X.env.scope.names.lookup z = some .local := by rfl)
    (hw : swappedStores [.Tuple [.Name x px, .Name y py, .Name z pz] kt pt] (.Tuple [a1, a2, a3] k2 pt2) X.env = pure (some [x, y, z]) := by rfl)
    (hs : swapsWithSole [.Tuple [.Name x px, .Name y py, .Name z pz] kt pt] (.Tuple [a1, a2, a3] k2 pt2) pos.line X.env = pure false := by rfl) :
    DS X ci E za m (.Assign [.Tuple [.Name x px, .Name y py, .Name z pz] kt pt] (.Tuple [a1, a2, a3] k2 pt2) pos) (sPar [(i, b1), (j, b2), (l, b3)] r) :=
  (ps_par3 hc hN hi hj hl hij hil hjl hx hy hz ha hw hs).imp fun D σ H h => par_post (is := [(i, b1), (j, b2), (l, b3)]) h fun vs H' hl q => by
    match vs, hl, q with
    | [v, w, u], _, q => exact ⟨v, w, u, rfl, q⟩
end
end DL
end
section
/-! DL9: defs and their calls. -/
set_option Elab.async false
set_option linter.all false
set_option autoImplicit false
set_option maxRecDepth 100000
set_option maxHeartbeats 1000000
namespace DL
open PySem PySem.Spec PyProof.Rows L2
section
variable {K : Frag} {ci : Ci} {G : Gh} {F P H : Hp} {ρ : Env} {σ : L2.St} {p : Addr} {o : HO}
/-- all that the slots own is guarded: what a callee sees -/
theorem Rel.shut (r : Rel K ci G F P ρ σ H) : ∃ P', Rel K ci G F P' [] [] H ∧ (∀ b x, P b = some x → P' b = some x) ∧ ∀ (N : Nat) G' F' H', Gh.Le N G G' → Same F F' → Rel K ci G' F' P' [] [] H' →
    Rel K ci G' F' P ρ σ H' ∧ ∀ q, Lone G' F' P' [] [] q → Lone G' F' P ρ σ q := by
  classical
  let own : Addr → Prop := fun b => ∃ (i : Nat) (d : D), ρ[i]? = some (.ow d) ∧ σ[i]? = some (some (.ref b))
  have hown : ∀ {b}, own b → (∃ x, H b = some x) ∧ F b = none ∧ P b = none ∧ ¬ reg G b := fun {b} ⟨i, d, h1, h2⟩ => by
    obtain ⟨p, h3, h4, h5, h6, h7⟩ := r.ow i d h1
    rw [h2] at h3
    cases h3
    exact ⟨h4.there, h5, h6, h7⟩
  let P' : Hp := fun b => if own b then H b else P b
  have in_ : ∀ {b}, own b → P' b = H b := fun {b} h => if_pos h
  have out_ : ∀ {b}, ¬ own b → P' b = P b := fun {b} h => if_neg h
  have sub : ∀ b x, P b = some x → P' b = some x := fun b x e => by
    rw [out_ (fun h => by rw [(hown h).2.2.1] at e; cases e)]
    exact e
  refine ⟨P', ⟨r.sf, fun b x e => ?_, fun b x e => ?_, fun b q => ?_, r.ok, rfl, fun i d h => by simp at h, fun i d h => by simp at h, fun i j d e p _ h => by simp at h, r.tb⟩, sub, fun N G' F' H' l s r' => ⟨⟨r'.sf, fun b x e => r'.sp b x (sub b x e), fun b x e => r'.dj b x (sub b x e), fun b q => ?_, r'.ok, r.len, fun i d h => ?_, fun i d h => ?_, r.ap, r'.tb⟩, fun q lo => ⟨lo.hf, ?_, lo.hr, fun i d h1 h2 => ?_⟩⟩⟩
  · by_cases h : own b
    · rw [in_ h] at e; exact e
    · rw [out_ h] at e; exact r.sp b x e
  · by_cases h : own b
    · exact (hown h).2.1
    · rw [out_ h] at e; exact r.dj b x e
  · by_cases h : own b
    · exact ((hown h).2.2.2 q).elim
    · rw [out_ h]; exact r.rp b q
  · cases e : P b with
    | none => rfl
    | some x =>
      have := r'.rp b q
      rw [sub b x e] at this
      cases this
  · obtain ⟨v, h1, h2⟩ := r.sh i d h
    exact ⟨v, h1, h2.mono (rc_le K ci l) s⟩
  · obtain ⟨p, h1, h2, h3, h4, h5⟩ := r.ow i d h
    obtain ⟨ob, hob⟩ := h2.there
    have hP : P' p = some ob := (in_ ⟨i, d, h, h1⟩).trans hob
    refine ⟨p, h1, h2.mono (rc_le K ci l) s ((r'.sp p ob hP).trans hob.symm), r'.dj p ob hP, h4, fun q => ?_⟩
    have := r'.rp p q
    rw [hP] at this
    cases this
  · cases e : P q with
    | none => rfl
    | some x =>
      have := lo.hp
      rw [sub q x e] at this
      cases this
  · have h : own q := ⟨i, d, h1, h2⟩
    obtain ⟨⟨x, hx⟩, _⟩ := hown h
    have := lo.hp
    rw [in_ h, hx] at this
    cases this
theorem start_get {vs : List V} {ds : List D} (h : RepL (rc K ci G) F vs ds) (N : List Str) : ∀ (i : Nat) (s : Slot), (startE N.length ds)[i]? = some s → s = .no ∨ ∃ d v, s = .sh d ∧ (L2.start N vs)[i]? = some (some v) ∧ Rep (rc K ci G) F v d := by
  intro i s e
  unfold startE at e
  by_cases hi : i < ds.length
  · rw [List.getElem?_append_left (by rw [List.length_map]; exact hi), List.getElem?_map] at e
    obtain ⟨v, h1, h2⟩ := h.get (List.getElem?_eq_getElem hi)
    rw [List.getElem?_eq_getElem hi] at e
    cases e
    refine .inr ⟨_, v, rfl, ?_, h2⟩
    unfold L2.start
    rw [List.getElem?_append_left (by rw [List.length_map, h.length]; exact hi), List.getElem?_map, h1]
    rfl
  · rw [List.getElem?_append_right (by rw [List.length_map]; omega), List.getElem?_replicate] at e
    split at e
    · cases e; exact .inl rfl
    · cases e
theorem Rel.start (r : Rel K ci G F P [] [] H) {vs : List V} {ds : List D} (h : RepL (rc K ci G) F vs ds) (N : List Str) : Rel K ci G F P (startE N.length ds) (L2.start N vs) H where
  sf := r.sf
  sp := r.sp
  dj := r.dj
  rp := r.rp
  ok := r.ok
  len := by
    unfold startE L2.start
    simp only [List.length_append, List.length_map, List.length_replicate, h.length]
  sh := fun i d e => by
    rcases start_get h N i _ e with z | ⟨d', v, z, h1, h2⟩
    · cases z
    · cases z; exact ⟨v, h1, h2⟩
  ow := fun i d e => by
    rcases start_get h N i _ e with z | ⟨d', v, z, h1, h2⟩
    · cases z
    · cases z
  tb := r.tb
  ap := fun i j d e p _ h1 => by
    rcases start_get h N i _ h1 with z | ⟨d', v, z, _⟩
    · cases z
    · cases z
end
/-! ### promises -/
/-- how often a def of this level may turn the draws -/
def bud (k : Nat) : Nat := 2 ^ (300 * k)
def spD (K : Frag) (ci : Ci) (z : Nat) (m : Md) (f : List D → M D) : Sp := fun vs H Q E => ∃ G P F ds W, G.n + z ≤ top ∧ Rel K ci G F P [] [] H ∧ RepL (rc K ci G) F vs ds ∧ f ds W ∧ ∀ o, W o → Po K ci E (G.n + z) m G P F [] [] Q o
/-- a def of the module keeps its meaning -/
structure Fd (P : Program) (w : World) (K : Frag) (mg : Str → Option Value) (base : Heap) (ci : Ci) (k : Nat) (x : Str) (m : Md) (n : Nat) (f : List D → M D) : Prop where
  ex : ∃ (fa : Addr) (fd : FuncData) (ps : List Str), mg x = some (.ref fa) ∧ FnOk P w K mg base (L2.CX P w) k fa fd ps (spD K ci (bud k) m f) ∧ PySem.W.keepIn K (.ref fa) = true ∧ Binds K fd ps []
  len : ∀ ds W, f ds W → ds.length = n
/-- what a body's rules ask of its context -/
structure Okc (X : Cx) (E : XK) (k : Nat) : Prop where
  room : Room k X.A
  calm : X.calm = true
  px : Passes (L2.CX X.prog X.w) X E
structure Okd (X : Cx) (E : XK) (k : Nat) : Prop extends Okc X E k where
  own : PassesOwn (model X.prog X.w) X.A X.env X.xe
  tk : Takes X (fun cls d _ H => E cls d H)
theorem Okc.hu {X : Cx} {E : XK} {k : Nat} (ok : Okc X E k) : X.A.units + 1 < cLine := hu_of ok.room
theorem Okc.hu64 {X : Cx} {E : XK} {k : Nat} (ok : Okc X E k) : X.A.units + 64 < cLine := Nat.lt_of_le_of_lt (Nat.add_le_add_left (by decide) _) ok.room.units
theorem Okc.hu0 {X : Cx} {E : XK} {k : Nat} (ok : Okc X E k) : X.A.units < cLine := Nat.lt_of_succ_lt (hu_of ok.room)
/-- within a comprehension -/
theorem Okc.blk {X : Cx} {E : XK} {k : Nat} (ok : Okc X E k) (s : Shared) (H : Hp) (scope : Scope) (cenv : PySem.Env) (fp : List Addr) : Okc (X.blk s H scope cenv fp) E0 k := ⟨ok.room, ok.calm, passL⟩
section
variable {P : Program} {w : World} {K : Frag} {mg : Str → Option Value} {base : Heap} {ci : Ci} {n kk : Nat} {x : Str} {st : Stmt} {f : Addr} {fd : FuncData} {N ps : List Str} {b : XS} {z : Nat}
/-- the context of a body -/
abbrev cxD (P : Program) (w : World) (K : Frag) (mg : Str → Option Value) (base : Heap) (N : List Str) (qual : Str) (st : Stmt) (f : Addr) (cdv : Value) (A : Around) (outer : List PySem.Env) (s : Shared) (H : Hp) (E : XK) : Cx := cxOf (L2.CX P w) P w K mg base N qual (defScope st) f cdv A outer s H E
theorem okd {qual : Str} {cdv : Value} {A : Around} {outer : List PySem.Env} {s : Shared} {H : Hp} {E : XK} (hr : Room kk (A.deeper (envOfC qual (defScope st) s.heap.objs.size f cdv))) : Okd (cxD P w K mg base N qual st f cdv A outer s H E) E kk :=
  ⟨⟨hr, rfl, passes_call (takes_of rfl rfl rfl rfl) fun _ _ _ _ h => h⟩, passes_of rfl, takes_of rfl rfl rfl rfl⟩
theorem run_len {n k : Nat} {b : XS} {ds : List D} {W : Out D → Prop} (h : run n k b ds W) : ds.length = k := (show ds.length = k ∧ _ from h).1
theorem runO_len {n k : Nat} {b : XS} {ds : List D} {W : Out D → Prop} (h : runO n k b ds W) : ds.length = k := (show ds.length = k ∧ _ from h).1
theorem spD_len {K : Frag} {ci : Ci} {m : Md} {f : List D → M D} (hl : ∀ ds W, f ds W → ds.length = n) {vs : List V} {H : Hp} {Q : VK} {E : XK} (h : spD K ci z m f vs H Q E) : vs.length = n := by
  obtain ⟨G, P, F, ds, W, _, _, r, hf, _⟩ := h
  rw [r.length]
  exact hl ds W hf
theorem tS_lo {K : Frag} {ci : Ci} {E : XK} {m : Md} {b : XS} {z z' : Nat} (hz : z ≤ z') {Dd : Ends} {σ : L2.St} {H : Hp} (h : tS K ci E z' m b Dd σ H) : tS K ci E z m b Dd σ H := by
  obtain ⟨G, P, F, ρ, W, bd, rel, hd, hw⟩ := h
  exact ⟨G, P, F, ρ, W, by omega, rel, hd, fun o ho => PoS.lo (hw o ho)⟩
theorem fnD {qual : Str} (F : L2.Fun K x qual st f fd) (S : FnScope N ps (defScope st))
    (hb : ∀ (cdv : Value) (A : Around) (outer : List PySem.Env) (s : Shared) (H : Hp) (E : XK), Okd (cxD P w K mg base N qual st f cdv A outer s H E) E kk → DSs (cxD P w K mg base N qual st f cdv A outer s H E) ci E z .sh (defBody st) b) :
    FnOk P w K mg base (L2.CX P w) (kk + 1) f fd ps (spD K ci z .sh (run N.length ps.length b)) :=
  Fun.okX F S (fun vs H Q E h => spD_len (fun _ _ => run_len) h) fun cdv A outer s H vs Q E hr h => ⟨_, hb cdv A outer s H E (okd hr), by
    obtain ⟨G, P, F, ds, W, bd, rel, rp, hf, hw⟩ := h
    refine ⟨G, P, F, startE N.length ds, _, bd, rel.start rp N, (show ds.length = ps.length ∧ _ from hf).2, fun o ho => ?_⟩
    cases o with
    | exc c fs => exact XP.lo (hw _ ho)
    | ok fl =>
      cases fl with
      | nx ρ' => exact fun G' F' σ' H' l e r => hw (.ok .non) ho G' F' H' .non l e r.base .non
      | rt d => exact fun G' F' H' v l e r x => hw (.ok d) ho G' F' H' v l e r x
      | bk ρ' => exact (show False from ho).elim
      | ct ρ' => exact (show False from ho).elim⟩
theorem fnDO {qual : Str} (F : L2.Fun K x qual st f fd) (S : FnScope N ps (defScope st))
    (hb : ∀ (cdv : Value) (A : Around) (outer : List PySem.Env) (s : Shared) (H : Hp) (E : XK), Okd (cxD P w K mg base N qual st f cdv A outer s H E) E kk → DSs (cxD P w K mg base N qual st f cdv A outer s H E) ci E z .own (defBody st) b) :
    FnOk P w K mg base (L2.CX P w) (kk + 1) f fd ps (spD K ci z .own (runO N.length ps.length b)) :=
  Fun.okX F S (fun vs H Q E h => spD_len (fun _ _ => runO_len) h) fun cdv A outer s H vs Q E hr h => ⟨_, hb cdv A outer s H E (okd hr), by
    obtain ⟨G, P, F, ds, W, bd, rel, rp, hf, hw⟩ := h
    refine ⟨G, P, F, startE N.length ds, _, bd, rel.start rp N, (show ds.length = ps.length ∧ _ from hf).2, fun o ho => ?_⟩
    cases o with
    | exc c fs => exact XP.lo (hw _ ho)
    | ok fl =>
      cases fl with
      | nx ρ' => exact (show False from ho).elim
      | rt d => exact fun G' F' H' v l e r x => hw (.ok d) ho G' F' H' v l e r x
      | bk ρ' => exact (show False from ho).elim
      | ct ρ' => exact (show False from ho).elim⟩
/-- a def that stands at the module's top -/
structure Td (K : Frag) (mg : Str → Option Value) (x : Str) (st : Stmt) : Prop where
  ex : ∃ (f : Addr) (fd : FuncData), L2.Fun K x x st f fd ∧ mg x = some (.ref f)
theorem fd_sh (T : Td K mg x st) (S : FnScope N ps (defScope st)) (hn : N.length = n) {a : Nat} (ha : ps.length = a)
    (hbd : ∀ (kV doc pm : Value) (an : Option Addr) (cdv ct : Value) (us : List Value), us.length = ps.length → bindArgs (PySem.W.fnOf x x (defArgs st) (defBody st) (defScope st) .none kV doc pm an cdv ct) ⟨us, []⟩ = pure (ps.zip us))
    (hb : ∀ (f : Addr) (cdv : Value) (A : Around) (outer : List PySem.Env) (s : Shared) (H : Hp) (E : XK), Okd (cxD P w K mg base N x st f cdv A outer s H E) E kk → DSs (cxD P w K mg base N x st f cdv A outer s H E) ci E z .sh (defBody st) b) (hz : z ≤ bud (kk + 1) := by decide +kernel) :
    Fd P w K mg base ci (kk + 1) x .sh a (run n a b) := by
  obtain ⟨f, fd, F, hm⟩ := T.ex
  subst hn ha
  exact ⟨⟨f, fd, ps, hm, (fnD F S (fun cdv A outer s H E ok => (hb f cdv A outer s H E ok).imp fun _ _ _ => tS_lo hz)), F.kp, F.binds hbd⟩, fun _ _ => run_len⟩
theorem fd_ow (T : Td K mg x st) (S : FnScope N ps (defScope st)) (hn : N.length = n) {a : Nat} (ha : ps.length = a)
    (hbd : ∀ (kV doc pm : Value) (an : Option Addr) (cdv ct : Value) (us : List Value), us.length = ps.length → bindArgs (PySem.W.fnOf x x (defArgs st) (defBody st) (defScope st) .none kV doc pm an cdv ct) ⟨us, []⟩ = pure (ps.zip us))
    (hb : ∀ (f : Addr) (cdv : Value) (A : Around) (outer : List PySem.Env) (s : Shared) (H : Hp) (E : XK), Okd (cxD P w K mg base N x st f cdv A outer s H E) E kk → DSs (cxD P w K mg base N x st f cdv A outer s H E) ci E z .own (defBody st) b) (hz : z ≤ bud (kk + 1) := by decide +kernel) :
    Fd P w K mg base ci (kk + 1) x .own a (runO n a b) := by
  obtain ⟨f, fd, F, hm⟩ := T.ex
  subst hn ha
  exact ⟨⟨f, fd, ps, hm, (fnDO F S (fun cdv A outer s H E ok => (hb f cdv A outer s H E ok).imp fun _ _ _ => tS_lo hz)), F.kp, F.binds hbd⟩, fun _ _ => runO_len⟩
/-- a meaning told otherwise -/
theorem Fd.imp {k : Nat} {m : Md} {g g' : List D → M D} (h : Fd P w K mg base ci k x m n g) (hg : ∀ ds W, g' ds W → g ds W) : Fd P w K mg base ci k x m n g' := by
  obtain ⟨fa, fd, ps, h1, h2, h3⟩ := h.ex
  exact ⟨⟨fa, fd, ps, h1, h2.imp fun vs H Q E ⟨G, P, F, ds, W, bd, rel, rp, hf, hw⟩ => ⟨G, P, F, ds, W, bd, rel, rp, hg _ _ hf, hw⟩, h3⟩, fun ds W q => h.len ds W (hg _ _ q)⟩
end
/-! ### calls -/
section
variable {X : Cx} {ci : Ci} {E : XK} {e : Expr} {es : List Expr} {r : XA} {x : Str} {p pos : Pos} {k kk n : Nat} {f : List D → M D} {m : Md} {za z : Nat}
theorem call_imp {K : Frag} {m : Md} (hm : m = .sh ∨ m = .own) (σ : L2.St) (H : Hp) (Q : VK) (h : tE K ci E (za + z) m (dCall f r) σ H Q) : L2.tCall (spD K ci z m f) [] E (tA K ci E za .sh r) σ H Q := by
  obtain ⟨G, P, F, ρ, W, bd, rel, hd, hw⟩ := h
  refine ⟨G, P, F, ρ, _, by omega, rel, hd, fun o ho => ?_⟩
  cases o with
  | exc c fs => exact XP.lo (hw _ ho)
  | ok ds =>
    intro G1 F1 H1 vs l1 s1 r1 x1
    obtain ⟨P', r2, hP, back⟩ := r1.shut
    refine ⟨G1, P', F1, ds, W, by omega, r2, by rw [List.append_nil]; exact resL_rep x1, ho, fun o ho => ?_⟩
    cases o with
    | exc c fs => exact fun G' F' H' cv dx l s r x => hw _ ho G' F' H' cv dx (l1.trans l).up (s1.trans s) (back _ G' F' H' l s r).1.base x
    | ok d =>
      intro G2 F2 H2 v l2 s2 r3 x3
      obtain ⟨r4, lo4⟩ := back _ G2 F2 H2 l2 s2 r3
      refine hw _ ho G2 F2 H2 v (l1.trans l2).up (s1.trans s2) r4 ?_
      rcases hm with rfl | rfl
      · exact x3
      · obtain ⟨q, e, lo, ow⟩ := x3
        exact ⟨q, e, lo4 q lo, ow⟩
theorem de_call (h : Fd X.prog X.w X.K X.mg X.base ci k x .sh n f) (ok : Okc X E kk) (hg : Gl X x) (ha : DA X ci E za (e :: es) r) (hk : k ≤ kk := by decide) (hdb : (x == ("__debug__" : Str)) = false := by decide) (he : starEach (e :: es) X.env = (false, eval e X.env) :: starEach es X.env := by rfl) (hpl : (backTo pos (starEach es X.env)).any (·.1) = false := by rfl) :
    DE X ci E (za + bud k) (.Call (.Name x p) (e :: es) [] pos) (dCall f r) := by
  obtain ⟨fa, fd, ps, h1, h2, h3, h4⟩ := h.ex
  exact (pe_call h2 (ok.room.mono hk) hg h1 h3 h4 .nil ok.px ha hdb he hpl).imp (call_imp (.inl rfl))
theorem do_call (h : Fd X.prog X.w X.K X.mg X.base ci k x .own n f) (ok : Okc X E kk) (hg : Gl X x) (ha : DA X ci E za (e :: es) r) (hk : k ≤ kk := by decide) (hdb : (x == ("__debug__" : Str)) = false := by decide) (he : starEach (e :: es) X.env = (false, eval e X.env) :: starEach es X.env := by rfl) (hpl : (backTo pos (starEach es X.env)).any (·.1) = false := by rfl) :
    DO X ci E (za + bud k) (.Call (.Name x p) (e :: es) [] pos) (dCall f r) := by
  obtain ⟨fa, fd, ps, h1, h2, h3, h4⟩ := h.ex
  exact (pe_call h2 (ok.room.mono hk) hg h1 h3 h4 .nil ok.px ha hdb he hpl).imp (call_imp (.inr rfl))
/-! ### comprehensions -/
section
variable {X : Cx} {ci : Ci} {E : XK} {kk : Nat} {elt tg iter : Expr} {ifs : List Expr} {scope : Scope} {own : List (Str × Nat)} {pos py spos : Pos} {di : XI} {dg : XG} {dt : XT} {de : XE} {js : List Nat} {m : Md} {i : Nat} {y : Str} {zi zt ze : Nat}
theorem do_lc (ok : Okc X E kk) (own : List (Str × Nat)) (hN : X.N.Nodup) (hi : DI X ci E zi tg iter di)
    (hg : ∀ (s : Shared) (H : Hp) (C : Addr) (cl : List (Str × Addr)) (fp : List Addr), DG (X.blk s H scope (compEnvC scope cl C X.env) fp) ci js tg dg)
    (ht : ∀ (s : Shared) (H : Hp) (C : Addr) (cl : List (Str × Addr)) (fp : List Addr), Okc (X.blk s H scope (compEnvC scope cl C X.env) fp) E0 kk → DTs (X.blk s H scope (compEnvC scope cl C X.env) fp) ci E0 zt ifs dt)
    (he : ∀ (s : Shared) (H : Hp) (C : Addr) (cl : List (Str × Addr)) (fp : List Addr), Okc (X.blk s H scope (compEnvC scope cl C X.env) fp) E0 kk → DE (X.blk s H scope (compEnvC scope cl C X.env) fp) ci E0 ze elt de)
    (hb : blkC X.N X.env.scope scope own = true := by kernel_rfl) (hj : ∀ j ∈ js, j ∈ own.map (·.2) := by decide) (hs : ∀ x, foldedSetIterable iter X.env x = pure x := by intro _; rfl) :
    DO X ci E (zi + line * (zt + ze)) (.ListComp elt [⟨tg, iter, ifs, 0⟩] scope pos) (dComp di dg dt de (own.map (·.2))) :=
  (pe_lc ok.calm hN hi (blkOk_by hb) hg (fun s H C cl fp => ht s H C cl fp (ok.blk ..)) (fun s H C cl fp => he s H C cl fp (ok.blk ..)) hs).imp (comp_imp hj)
theorem setLc_imp {K : Frag} {i : Nat} (hj : ∀ j ∈ js, j ∈ own.map (·.2)) (Dd : Ends) (σ : L2.St) (H : Hp) (h : tS K ci E (zi + line * (zt + ze)) m (sOwn i (dComp di dg dt de (own.map (·.2)))) Dd σ H) : tAsg (L2.tLc (tI K ci E zi di) (tG K ci js dg) (tT K ci E0 zt dt) (tE K ci E0 ze .sh de) (own.map (·.2))) (L2.gName i) Dd σ H :=
  comp_imp hj σ H _ (own_imp Dd σ H h)
theorem setLcS_imp {K : Frag} {i : Nat} (hj : ∀ j ∈ js, j ∈ own.map (·.2)) (Dd : Ends) (σ : L2.St) (H : Hp) (h : tS K ci E (zi + line * (zt + ze)) m (sAsg (dComp di dg dt de (own.map (·.2))) (gName i)) Dd σ H) : tAsg (L2.tLc (tI K ci E zi di) (tG K ci js dg) (tT K ci E0 zt dt) (tE K ci E0 ze .sh de) (own.map (·.2))) (L2.gName i) Dd σ H :=
  comp_imp hj σ H _ (by
    obtain ⟨G, P, F, ρ, W, bd, r, hd, hw⟩ := set_imp Dd σ H h
    refine ⟨G, P, F, ρ, W, by omega, r, hd, fun o ho => ?_⟩
    have q := hw o ho
    cases o with
    | ok d =>
      intro G' F' H' v l s r' x
      obtain ⟨p, rfl, lo, ow⟩ := x
      obtain ⟨ob, hob⟩ := ow.there
      exact q G' (upd F' p ob) H' _ l (s.trans (same_upd lo.hf)) (r'.freeze lo hob) (ow.rep (same_upd lo.hf) fun o' h' => by rw [upd_same, ← hob, h'])
    | exc c fs => exact q)
theorem ds_setLc (ok : Okc X E kk) (own : List (Str × Nat)) (hN : X.N.Nodup) (hi : DI X ci E zi tg iter di)
    (hg : ∀ (s : Shared) (H : Hp) (C : Addr) (cl : List (Str × Addr)) (fp : List Addr), DG (X.blk s H scope (compEnvC scope cl C X.env) fp) ci js tg dg)
    (ht : ∀ (s : Shared) (H : Hp) (C : Addr) (cl : List (Str × Addr)) (fp : List Addr), Okc (X.blk s H scope (compEnvC scope cl C X.env) fp) E0 kk → DTs (X.blk s H scope (compEnvC scope cl C X.env) fp) ci E0 zt ifs dt)
    (he : ∀ (s : Shared) (H : Hp) (C : Addr) (cl : List (Str × Addr)) (fp : List Addr), Okc (X.blk s H scope (compEnvC scope cl C X.env) fp) E0 kk → DE (X.blk s H scope (compEnvC scope cl C X.env) fp) ci E0 ze elt de)
    (hy : X.N[i]? = some y := by rfl) (hyl : X.env.scope.names.lookup y = some .local := by rfl) (hb : blkC X.N X.env.scope scope own = true := by kernel_rfl)
    (hsw : swapsWith (.ListComp elt [⟨tg, iter, ifs, 0⟩] scope pos) (some (.Name y py)) spos.line X.env = pure true := by exact sw_true rfl rfl rfl (by kernel_rfl))
    (hj : ∀ j ∈ js, j ∈ own.map (·.2) := by decide) (hs : ∀ x, foldedSetIterable iter X.env x = pure x := by intro _; rfl) :
    DS X ci E (zi + line * (zt + ze)) m (.Assign [.Name y py] (.ListComp elt [⟨tg, iter, ifs, 0⟩] scope pos) spos) (sAsg (dComp di dg dt de (own.map (·.2))) (gName i)) :=
  (ps_setLc ok.calm hN hy hyl hsw hi (blkOk_by hb) hg (fun s H C cl fp => ht s H C cl fp (ok.blk ..)) (fun s H C cl fp => he s H C cl fp (ok.blk ..)) hs).imp (setLcS_imp hj)
theorem ds_ownLc (ok : Okc X E kk) (own : List (Str × Nat)) (hN : X.N.Nodup) (hi : DI X ci E zi tg iter di)
    (hg : ∀ (s : Shared) (H : Hp) (C : Addr) (cl : List (Str × Addr)) (fp : List Addr), DG (X.blk s H scope (compEnvC scope cl C X.env) fp) ci js tg dg)
    (ht : ∀ (s : Shared) (H : Hp) (C : Addr) (cl : List (Str × Addr)) (fp : List Addr), Okc (X.blk s H scope (compEnvC scope cl C X.env) fp) E0 kk → DTs (X.blk s H scope (compEnvC scope cl C X.env) fp) ci E0 zt ifs dt)
    (he : ∀ (s : Shared) (H : Hp) (C : Addr) (cl : List (Str × Addr)) (fp : List Addr), Okc (X.blk s H scope (compEnvC scope cl C X.env) fp) E0 kk → DE (X.blk s H scope (compEnvC scope cl C X.env) fp) ci E0 ze elt de)
    (hy : X.N[i]? = some y := by rfl) (hyl : X.env.scope.names.lookup y = some .local := by rfl) (hb : blkC X.N X.env.scope scope own = true := by kernel_rfl)
    (hsw : swapsWith (.ListComp elt [⟨tg, iter, ifs, 0⟩] scope pos) (some (.Name y py)) spos.line X.env = pure true := by exact sw_true rfl rfl rfl (by kernel_rfl))
    (hj : ∀ j ∈ js, j ∈ own.map (·.2) := by decide) (hs : ∀ x, foldedSetIterable iter X.env x = pure x := by intro _; rfl) :
    DS X ci E (zi + line * (zt + ze)) m (.Assign [.Name y py] (.ListComp elt [⟨tg, iter, ifs, 0⟩] scope pos) spos) (sOwn i (dComp di dg dt de (own.map (·.2)))) :=
  (ps_setLc ok.calm hN hy hyl hsw hi (blkOk_by hb) hg (fun s H C cl fp => ht s H C cl fp (ok.blk ..)) (fun s H C cl fp => he s H C cl fp (ok.blk ..)) hs).imp (setLc_imp hj)
end
end
end DL
end
section
/-! DLS: an own exception's __init__(self, x): super().__init__(text); self.f = x. The built-in above is ValueError. -/
set_option Elab.async false
set_option linter.all false
set_option autoImplicit false
set_option maxRecDepth 100000
set_option maxHeartbeats 2000000
namespace DL
open PySem PySem.Spec PyProof.Rows L2 NdefX
/-- what the written part says of the class C of the object and the class D of the __init__ -/
structure SupC (K : Frag) (C D : Addr) (fld : Str) : Prop where
  ox : OexC K C
  al : PySem.W.ks_superIn K C D "__init__" = some (some (.builtin "ValueError.__init__"))
  ve : PySem.W.subIn K (.ref C) (.type "ValueError") = some true
  up : PySem.W.mroIn K C (.ref D) = some true
  no : PySem.W.findIn K (.ref C) fld = some none
/-- what C(x) promises while the object at a is being made -/
def spSup (K : Frag) (D : Addr) (fld : Str) : Sp := fun vs H Q _ => ∃ (a C : Addr) (v : V), vs = [.ref a, v] ∧ SupC K C D fld ∧ H a = some (exo a C none) ∧
  ∀ dx, H dx = none → dx ≠ a → Q .non (upd (upd H dx (exd dx [(fld, v)])) a (exo a C (some dx)))
/-- the bound ValueError.__init__ is called -/
theorem call_mw {X : Cx} {pins : List (Addr × Obj)} {σ : L2.St} {H : Hp} {s : Shared} {a C u : Addr} {us : List Value} {Q : Value → Shared → Prop} {E : Value → Shared → Prop} {A : Around} (T : OexC X.K C) (I : L2.Inv X pins σ H s) (e : H a = some (exo a C none)) (hl : us.length ≤ sizeLine)
    (hu : s.heap.get? u = some (PySem.W.kxs_mw "ValueError.__init__" a)) (h : ∀ s', L2.Inv X pins σ H s' → Q .none s') : wpAny (model X.prog X.w) A (call (.ref u) us) Q E s := by
  obtain ⟨nm, q, N, bs, bm, sn, sub, ab, col, dd, k0, k1, k2, k3, k5, hC, hbm⟩ := T.cls
  obtain ⟨t1, ho⟩ := exo_at I.hok e
  obtain ⟨hp, g, d, t, os⟩ := s
  have hC' := I.kIn _ _ hC
  refine wpAny_call (codeAny_of_tree ?_)
  show wpAny _ A.in1 (callAny (.ref u) ⟨us, []⟩) _ _ _
  simp only [callAny]
  refine wpAny_bind (wpAny_load hu ?_)
  simp only [PySem.W.kxs_mw, show (Value.type "method-wrapper" == Value.type "method" || Value.type "method-wrapper" == Value.type "builtin_function_or_method" || Value.type "method-wrapper" == Value.type "method-wrapper") = true by decide, if_true]
  refine PySem.W.KFB.if_so (by decide) ?_
  refine wpAny_bind (PySem.W.check_bound_init F.excBase_ValueError.toExcCallFacts hC' ho rfl ?_)
  refine wpAny_bind (wpAny_pure (wpAny_pure ?_))
  refine ⟨plainId_quiet F.excBase_ValueError.init.plain _, codeAny_builtin F.excBase_ValueError.initEntry ?_⟩
  refine PySem.W.exc_init_tree (cls := .ref C) (t0 := t1) (dv := none) (c2 := .none) (c3 := .none) (b4 := .bool false) ho hl fun h' k hx _ => ?_
  have J := I.write (t' := t) (x := a) (e := a) (o := exo a C none) (by rw [e]; exact True.intro) (.inl rfl) k ⟨_, hx⟩ (exo_ok hx)
  have eu : upd H a (exo a C none) = H := by
    funext b
    by_cases hb : b = a
    · rw [hb, upd_same, e]
    · rw [upd_ne hb]
  rw [eu] at J
  exact h _ J
section
variable {P : Program} {w : World} {K : Frag} {mg : Str → Option Value} {base : Heap} {CX : CXT} {k : Nat} {f D cc cda : Addr} {name qual fld arg : Str} {params : Arguments} {scope : Scope} {kV doc pm ct oc : Value} {an od : Option Addr}
  {osl : Array (Option Value)} {msg : Str} {j : Nat} {p0 p1 p2 p3 p4 p5 p6 p7 p8 p9 : Pos} {ccl cl : Value} {cdd cld : Option Addr} {vs : Array Value} {ccs csl : Array (Option Value)} {file : Str} {tf : Tok} {cdD : ClassData}
abbrev supBody (msg : Str) (j : Nat) (fld arg : Str) (p0 p1 p2 p3 p4 p5 p6 p7 p8 p9 : Pos) : List Stmt :=
  [.Expr (.Call (.Attribute (.Call (.Name "super" p0) [] [] p1) "__init__" p2) [.Constant (.str msg) j p3] [] p4) p5, .Assign [.Attribute (.Name "self" p6) fld p7] (.Name arg p8) p9]
theorem fn_sup (lk : K.lookup f = some ⟨oc, od, .func (PySem.W.fnX name qual params (supBody msg j fld arg p0 p1 p2 p3 p4 p5 p6 p7 p8 p9) scope [("__class__", cc)] .none kV doc pm an (.ref cda) ct), osl⟩)
    (hcd : PySem.W.codeIn K (.ref cda) qual = true) (hcode : K.lookup cda = some ⟨ccl, cdd, .fields vs, ccs⟩) (hvs : vs[2]? = some (.str file tf)) (hfile : ((P.main.file : Str) == file) = true)
    (hcell : K.lookup cc = some ⟨cl, cld, .cell (some (.ref D)), csl⟩) (hD : PySem.W.clsIn K D = some cdD) (hsuper : mg "super" = none) (htop : (P.main.scope.names.lookup ("super" : Str)).isSome = false) (ho : PySem.W.nsIn K PySem.cStatics "thirdparty.any" = some none)
    (S : NScope [("self" : Str), arg, "__class__"] [("self" : Str), arg] ["__class__"] scope) (hp : (params.posonlyargs ++ params.args).head?.map (·.arg) = some ("self" : Str)) (hks : scope.names.lookup ("super" : Str) = some .globalImplicit)
    (he : ∀ env : PySem.Env, ∃ pl : Sem Bool, eval (.Call (.Attribute (.Call (.Name "super" p0) [] [] p1) "__init__" p2) [.Constant (.str msg) j p3] [] p4) env = (do
      let ov ← attributeBase (.Call (.Name "super" p0) [] [] p1) "__init__" env (eval (.Call (.Name "super" p0) [] [] p1) env)
      standAt p2.atName
      let (f, first) ← holding [ov] (getMethod ov "__init__" pl)
      callWith p4 f first (backTo p4 (starEach [.Constant (.str msg) j p3] env)) []))
    (hda : (arg == ("__debug__" : Str)) = false) (hca : (arg == ("__classdict__" : Str)) = false) :
    FnOk P w K mg base CX (k + 1) f (PySem.W.fnX name qual params (supBody msg j fld arg p0 p1 p2 p3 p4 p5 p6 p7 p8 p9) scope [("__class__", cc)] .none kV doc pm an (.ref cda) ct) [("self" : Str), arg] (spSup K D fld) := by
  refine ⟨fun vs H Q E h => ?_, fun A outer s H args us vs Q E hr e0 hb r hsp => ?_⟩
  · obtain ⟨a, C, v, e, _⟩ := h
    rw [e]
    rfl
  obtain ⟨a, C, v, rfl, T, ea, hq⟩ := hsp
  have KX : K.In s.heap := e0.mod.kin.keeps fun b o e => (e0.bs b o e).1
  have lim : s.heap.NoLimit := e0.mod.nolimit.keeps fun b o e => (e0.bs b o e).1
  let F : NF := ⟨name, qual, params, supBody msg j fld arg p0 p1 p2 p3 p4 p5 p6 p7 p8 p9, scope, [("__class__", cc)], cda⟩
  have hKn : ∀ {b : Addr} {o : Obj}, K.lookup b = some o → H b = none := fun {b o} e => (e0.bs b o (e0.mod.kin b o e)).2
  have CA : CellsAt F.cl [("__class__" : Str)] [none] s.heap H := {
    len := rfl
    all := fun y c e => by
      have e2 : c = cc := by
        have e : List.lookup y [(("__class__" : Str), cc)] = some c := e
        rw [List.lookup_cons] at e
        split at e
        · exact (Option.some.inj e).symm
        · cases e
      rw [e2]
      exact ⟨hKn hcell, _, _, KX _ _ hcell, rfl⟩
    inj := fun x y c h1 h2 => by
      have q : ∀ {z : Str}, List.lookup z [(("__class__" : Str), cc)] = some c → z = "__class__" := fun {z} e => by
        rw [List.lookup_cons] at e
        split at e
        · rename_i h; exact eq_of_beq h
        · cases e
      rw [q h1, q h2]
    has := fun i y e => by
      cases i with
      | zero =>
        cases e
        exact ⟨cc, by show List.lookup ("__class__" : Str) [(("__class__" : Str), cc)] = some cc; simp [List.lookup], fun v z => by cases z⟩
      | succ i => simp at e }
  refine codeAny_call_function hr.depth (KX _ _ lk) rfl S.co S.gen rfl (PySem.W.codeRec_of KX hcd) (hb _ _ _ _ ?_)
  refine wpAny_newFunctionEnv S.nocell (fun ⟨n, _⟩ hy => S.par n (List.of_mem_zip hy).1) (fun h₁ hns hsb => ⟨lim.fresh _ hsb, ?_⟩) S.kind
  show codeAny _ _ (.func F.body (envF F f s.heap.objs.size)) _ _
  refine PySem.ks_codeAny_funcAt ?_
  have kp : ∀ b o, s.heap.get? b = some o → h₁.get? b = some o := fun b o e => hsb.extBut b o (Nat.ne_of_lt (Heap.lt_size e)) (Heap.get?_push_of_some _ e)
  have I : L2.Inv (ncx CX P w K mg base [("self" : Str), arg, "__class__"] F f A outer s H E) [] (startF [("self" : Str), arg, "__class__"] [.ref a, v] [none]) H { s with heap := h₁, toks := s.toks + ([("self" : Str), arg].zip us).length } := inv_startN S hr.hd e0 rfl r CA hns kp
  have hus : ∃ u, us = [.ref a, u] ∧ RelV v u := by
    cases r with
    | cons r1 r2 =>
      cases r2 with
      | cons r2 r3 =>
        cases r3
        cases r1
        exact ⟨_, rfl, r2⟩
  obtain ⟨u, rfl, ru⟩ := hus
  obtain ⟨ar, har, harg⟩ : ∃ ar, (params.posonlyargs ++ params.args).head? = some ar ∧ ar.arg = "self" := by
    cases q : (params.posonlyargs ++ params.args).head? with
    | none => rw [q] at hp; cases hp
    | some ar => rw [q] at hp; exact ⟨ar, rfl, Option.some.inj hp⟩
  obtain ⟨oD, hD1, hD2⟩ : ∃ oD, K.lookup D = some oD ∧ oD.data = .cls cdD := by
    unfold PySem.W.clsIn at hD
    split at hD
    · rename_i c d cd' sl ho
      cases hD
      exact ⟨_, ho, rfl⟩
    · cases hD
  obtain ⟨mb, hmb, hbb⟩ := e0.mod.blt
  have hself : (([("self" : Str), arg].zip [Value.ref a, u]).reverse).lookup ("self" : Str) = some (.ref a) := by
    have q := S.nd
    have ne : ¬ (("self" : Str) = arg) := fun z => by
      rw [← z] at q
      simp at q
    show List.lookup ("self" : Str) [(arg, u), (("self" : Str), Value.ref a)] = _
    rw [List.lookup_cons]
    have : (("self" : Str) == arg) = false := by simpa using ne
    rw [this]
    simp [List.lookup]
  obtain ⟨pl, he⟩ := he (envF F f s.heap.objs.size)
  refine PySem.ks_wpAt_execs_cons (PySem.ks_wpAt_Expr_any (PySem.ks_wpAt_MethodCall (pl := pl) ?_ he) ?_ ?_)
  rotate_left
  · show interactive (envF F f s.heap.objs.size) = false
    unfold interactive
    rw [show (envF F f s.heap.objs.size).scope.kind = .function from S.kind]
    rfl
  · rfl
  have X : PySem.W.Frag.In K h₁ := KX.keeps kp
  have glob : h₁.Ns mainGlobals mg := I.mod.glob.keeps I.bk
  have blt : h₁.Ns builtinsNs mb := hmb.keeps I.bk
  obtain ⟨t1, hox⟩ := exo_at I.hok ea
  refine PySem.ks_wpAt_super_base (env := envF F f s.heap.objs.size) (f := f) (cc := cda) hks (S.frk _ (by simp)) (by decide) rfl (kp _ _ (KX _ _ lk)) rfl har rfl (kp _ _ (KX _ _ hcode)) rfl hvs hfile htop ?_
  refine PySem.W.ks_loadName_global S.kind hks (Calls.loadGlobal_builtin (env := envF F f s.heap.objs.size) glob hsuper blt ((hbb _ (by decide)).trans (by decide +kernel : bootBuiltins "super" = some (.type "super"))) ⟨rfl, ?_⟩)
  refine wpAny_loadName_free S.kind (S.frk _ (by simp)) (c := cc) (by show List.lookup ("__class__" : Str) [(("__class__" : Str), cc)] = some cc; simp [List.lookup]) ⟨_, kp _ _ (KX _ _ hcell), rfl⟩ ?_
  rw [harg]
  refine wpAny_loadName_local S.kind (S.par ("self" : Str) (by simp)) hns hself ?_
  refine PySem.ks_wpAny_isType_cls (kp _ _ (KX _ _ hD1)) hD2 ⟨rfl, ?_⟩
  refine PySem.ks_wpAny_call_super (kp _ _ (KX _ _ hD1)) hD2 hox rfl (fun c z => by cases z) (PySem.W.looks_mroIn X T.up) (fun h2 so k2 => ?_)
  have I2 := I.kept (h' := h2) (t' := s.toks + ([("self" : Str), arg].zip [Value.ref a, u]).length) k2
  have X2 : PySem.W.Frag.In K h2 := X.keeps k2
  have IA : PySem.W.InstAt h2 a { cls := .ref C, dict := none, data := .fields #[.ref t1, .none, .none, .none, .bool false, .none] } C none := ⟨k2 _ _ hox, rfl, rfl, trivial⟩
  obtain ⟨cd, hcl, hal⟩ := Option.bind_eq_some_iff.mp T.al
  refine PySem.W.kxs_getMethod PySem.W.kxs_ValueError so (PySem.W.looks_opaque X2 ho) (l₀ := cd.mro) ?_ rfl X2 hal (IA.type.andThen (PySem.W.looks_subIn X2 T.ve)) (PySem.W.ks_ne X2 IA hcl) (by decide) ?_
  · exact fun A Q E s k q => wpAny_bind ((PySem.W.looks_clsIn X2 hcl) A _ E s k (wpAny_pure q))
  have I3 := I2.kept (h' := h2.push (PySem.W.kxs_mw "ValueError.__init__" a)) (t' := s.toks + ([("self" : Str), arg].zip [Value.ref a, u]).length + 1) fun b o e => Heap.get?_push_of_some _ e
  have hu3 : (h2.push (PySem.W.kxs_mw "ValueError.__init__" a)).get? h2.objs.size = some (PySem.W.kxs_mw "ValueError.__init__" a) := Heap.get?_push_at rfl rfl
  have I3p : L2.Inv (ncx CX P w K mg base [("self" : Str), arg, "__class__"] F f A outer s H E) [(h2.objs.size, PySem.W.kxs_mw "ValueError.__init__" a)] (startF [("self" : Str), arg, "__class__"] [.ref a, v] [none]) H _ := I3.pins_of fun p hp => by
    have e := List.mem_singleton.mp hp
    rw [e]
    exact ⟨hu3, I2.hok.fresh (Nat.le_refl _), (Nat.ne_of_lt I2.lt).symm, I2.nofs (Nat.le_refl _), fun c z => by cases z⟩
  have key := (pa_cons (X := ncx CX P w K mg base [("self" : Str), arg, "__class__"] F f A outer s H E) (pe_str (x := msg) (j := j) (pos := p3)) pa_nil rfl).run p4 _ _ _ H (fun vs H' => H' = H ∧ vs.length = 1) I3p ⟨rfl, rfl⟩
  refine PySem.W.kxs_callWith (i := "ValueError.__init__") (x := a) (u := h2.objs.size) rfl (Calls.evalArgs_plain (thn key fun us s4 ⟨ws, H4, I4, rv, e4, l4⟩ => ?_))
  subst e4
  refine ⟨(I4.pin _ (List.mem_append_right _ (List.mem_singleton.mpr rfl))).1, call_mw T.ox I4 ea (by rw [List.nil_append, ← rv.length, l4]; decide) (I4.pin _ (List.mem_append_right _ (List.mem_singleton.mpr rfl))).1 fun s5 I5 => ?_⟩
  refine wpAt_of_wpAny (wpAny_execs_cons (thn ((ps_ost (X := ncx CX P w K mg base [("self" : Str), arg, "__class__"] F f A outer s H4 E) (f := fld) (p' := p7) (pos := p9) (pe_var (i := 0) (x := ("self" : Str)) (pos := p6) rfl (.inl (S.par _ (by simp)))) (pe_var (i := 1) (x := arg) (pos := p8) rfl (.inl (S.par _ (by simp))) hda hca)).run _ s5 _ H4 { nx := fun _ H' => Q .non H', rt := fun _ _ => False } I5
    ⟨v, rfl, .ref a, rfl, a, C, rfl, T.ox, T.no, .inl ⟨ea, hq⟩⟩) fun fl s6 hs => ?_))
  cases fl with
  | next =>
    obtain ⟨σ6, H6, J, q⟩ := hs
    exact wpAny_execs_nil ⟨V.non, H6, J.os, J.bare, J.base, J.hok, rfl, q⟩
  | ret u => obtain ⟨_, _, _, _, _, z⟩ := hs; exact z.elim
  | brk => obtain ⟨_, _, _, z⟩ := hs; exact z.elim
  | cont => obtain ⟨_, _, _, z⟩ := hs; exact z.elim
end
end DL
end
section
/-! DL10: errors raised, objects made, fields read. -/
set_option Elab.async false
set_option linter.all false
set_option autoImplicit false
set_option maxRecDepth 100000
set_option maxHeartbeats 1000000
namespace DL
open PySem PySem.Spec PyProof.Rows L2
/-! ### raise -/
/-- an error class whose __init__ keeps one value -/
structure ExIt (P : Program) (w : World) (K : Frag) (mg : Str → Option Value) (base : Heap) (ci : Ci) (k : Nat) (x : Str) (c : Nat) : Prop where
  ex : ∃ (fI D : Addr) (fld : Str) (fd : FuncData) (ps : List Str), mg x = some (.ref (ci.ca c)) ∧ SupC K (ci.ca c) D fld ∧ PySem.W.findIn K (.ref (ci.ca c)) "__init__" = some (some (.ref fI)) ∧ PySem.W.typeIn K (.ref fI) = some (.type "function") ∧
    FnOk P w K mg base (L2.CX P w) k fI fd ps (spSup K D fld) ∧ Binds K fd ps [] ∧ ci.fn c = [fld]
/-- .. one without an __init__ -/
structure ExMsg (K : Frag) (mg : Str → Option Value) (ci : Ci) (x : Str) (c : Nat) : Prop where
  mgx : mg x = some (.ref (ci.ca c))
  ex : PySem.W.excIn K (ci.ca c) [.type "ValueError", .type "Exception", .type "BaseException", .type "object"] "ValueError.__new__" = true
  kp : PySem.W.keepIn K (.ref (ci.ca c)) = true
  exC : PySem.W.subIn K (.ref (ci.ca c)) (.type "BaseException") = some true
  tyC : PySem.W.typeIn K (.ref (ci.ca c)) = some (.type "type")
section
variable {X : Cx} {ci : Ci} {E : XK} {e : Expr} {d : XE} {x : Str} {p pos pos' p2 : Pos} {k kk c : Nat} {m : Md} {zd : Nat}
theorem ds_raise1 (h : ExIt X.prog X.w X.K X.mg X.base ci k x c) (ok : Okd X E kk) (hg : Gl X x) (hd : DE X ci E zd e d) (hk : k + 1 ≤ kk := by decide) (hdb : (x == ("__debug__" : Str)) = false := by decide) (hs : starEach [e] X.env = (false, eval e X.env) :: starEach [] X.env := by rfl) (hpl : (backTo pos (starEach [] X.env)).any (·.1) = false := by rfl) :
    DS X ci E zd m (.Raise (some (.Call (.Name x p) [e] [] pos)) none pos') (sRaise1 c d) := by
  obtain ⟨fI, D, fld, fd, ps, h1, T, h3, h4, h5, h6, h7⟩ := h.ex
  refine (ps_raise ok.calm ok.tk (pmk_oex T.ox h3 h4 h5 (ok.room.mono hk) h6 .nil passL hg h1 (pa_cons hd pa_nil hs) hdb hs hpl)).imp fun Dd σ H ⟨G, P, F, ρ, W, bd, rel, hd, hw⟩ => ?_
  refine ⟨G, P, F, ρ, _, by omega, rel, hd, fun o ho => ?_⟩
  cases o with
  | exc c fs =>
    exact XP.lo (hw _ ho)
  | ok a =>
    intro G1 F1 H1 v l1 s1 r1 x1
    refine ⟨by simp, fun q hq => ⟨q, ci.ca c, v, rfl, T, upd_same, fun dx hdx hne => ?_⟩⟩
    have hdx1 : H1 dx = none := by rw [upd_ne hne] at hdx; exact hdx
    refine ⟨rfl, dx, [(fld, v)], upd_same, by rw [upd_ne hne, upd_same], hdx1, ?_⟩
    have eH : upd (del (upd (upd (upd H1 q (exo q (ci.ca c) none)) dx (exd dx [(fld, v)])) q (exo q (ci.ca c) (some dx))) q) dx (.xd [(fld, v)]) = upd H1 dx (.xd [(fld, v)]) := by
      funext b
      by_cases hb : b = dx
      · subst hb; rw [upd_same, upd_same]
      · rw [upd_ne hb, upd_ne hb]
        by_cases hb2 : b = q
        · subst hb2; rw [del_same, hq]
        · rw [del_ne hb2, upd_ne hb2, upd_ne hb, upd_ne hb2]
    rw [eH]
    have lo := r1.base.lone hdx1
    exact hw _ ho G1 (upd F1 dx (.xd [(fld, v)])) _ _ _ l1.up (s1.trans (same_upd lo.hf)) ((r1.base.new hdx1).freeze lo upd_same) ⟨rfl, .inr ⟨a, dx, fld, v, rfl, rfl, upd_same, h7, x1.mono (Rc.Le.refl _) (same_upd lo.hf)⟩⟩
theorem ds_raise0 {j : Nat} {z : Str} (h : ExMsg X.K X.mg ci x c) (ok : Okd X E kk) (hg : Gl X x) (hdb : (x == ("__debug__" : Str)) = false := by decide) :
    DS X ci E 0 m (.Raise (some (.Call (.Name x p) [.Constant (.str z) j p2] [] pos)) none pos') (sRaise0 c) :=
  (ps_raise ok.calm ok.tk (pmk_own PySem.F.excBase_ValueError h.ex h.mgx h.kp (raises_own h.exC h.tyC) hg hdb)).imp fun Dd σ H ⟨G, P, F, ρ, W, bd, rel, hd, hw⟩ =>
    hw _ hd G F H _ _ (Gh.Le.refl G) (Same.refl F) rel.base ⟨rfl, .inl ⟨rfl, rfl⟩⟩
end
/-! ### objects made -/
section
variable (K : Frag) (ci : Ci) (E : XK)
/-- what a statement of an __init__ means: slot 0 stays -/
def tIni (z : Nat) (s : XS) : TS := fun D σ H => ∃ p, σ[0]? = some (some (.ref p)) ∧ ∃ G P F ρ W, G.n + z ≤ top ∧ Rel K ci G F P ρ σ H ∧ s ρ W ∧ ∀ o, W o → match o with
  | .ok (.nx ρ') => ∀ G' F' σ' H', Gh.Le (G.n + z) G G' → Same F F' → σ'[0]? = some (some (.ref p)) → Rel K ci G' F' P ρ' σ' H' → D.nx σ' H'
  | .ok _ => False
  | .exc c fs => XP K ci E (G.n + z) G P F c fs
/-- an __init__'s promise -/
def spIni (z c : Nat) (f : List D → M D) : Sp := fun vs H Q E => ∃ G P F ds W p dx vs', vs = .ref p :: vs' ∧ G.n + z ≤ top ∧ Rel K ci G F P [] [] H ∧ Lone G F P [] [] p ∧ H p = some (.ins (ci.ca c) dx []) ∧ RepL (rc K ci G) F vs' ds ∧ f ds W ∧ ∀ o, W o → match o with
  | .ok d => ∀ G' F' H', Gh.Le (G.n + z) G G' → Same F F' → Rel K ci G' F' P [] [] H' → Lone G' F' P [] [] p → Own K ci G' F' H' p d → Q .non H'
  | .exc c fs => XP K ci E (G.n + z) G P F c fs
end
section
variable {X : Cx} {ci : Ci} {E : XK} {st : Stmt} {rest : List Stmt} {e : Expr} {s t : XS} {d : XE} {pos pos' p : Pos} {fld : Str} {c k : Nat} {zd z1 z2 z : Nat}
abbrev DIn (X : Cx) (ci : Ci) (E : XK) (z : Nat) (st : Stmt) (d : XS) : Prop := PS X st (tIni X.K ci E z d)
abbrev DIns (X : Cx) (ci : Ci) (E : XK) (z : Nat) (st : List Stmt) (d : XS) : Prop := PSs X st (tIni X.K ci E z d)
theorem ins_nil : DIns X ci E 0 [] sNext := pss_nil.imp fun D σ H ⟨q, h0, G, P, F, ρ, W, bd, rel, hd, hw⟩ => hw _ hd G F σ H (Gh.Le.refl G) (Same.refl F) h0 rel
theorem ins_cons (h1 : DIn X ci E z1 st s) (h2 : DIns X ci E z2 rest t) : DIns X ci E (z1 + z2) (st :: rest) (sSeq s t) := (pss_cons h1 h2).imp fun D σ H ⟨q, h0, G, P, F, ρ, W, bd, rel, hd, hw⟩ => by
  refine ⟨q, h0, G, P, F, ρ, _, by omega, rel, hd, fun o ho => ?_⟩
  cases o with
  | exc c fs => exact XP.lo (hw _ ho)
  | ok f =>
    cases f with
    | nx ρ' =>
      intro G' F' σ' H' l e h0' r
      refine ⟨q, h0', G', P, F', ρ', W, by omega, r, ho, fun o ho => ?_⟩
      have z := hw o ho
      cases o with
      | exc c fs => exact XP.le z l e
      | ok f =>
        cases f with
        | nx ρ2 => exact fun G2 F2 σ2 H2 l2 e2 h2 r2 => z G2 F2 σ2 H2 (l.trans l2).up (e.trans e2) h2 r2
        | _ => exact z
    | _ => exact hw _ ho
theorem in_doc {zz w} : DIn X ci E 0 (.Expr (.Constant (.str zz) w pos) pos') sNext := ps_doc.imp fun D σ H ⟨q, h0, G, P, F, ρ, W, bd, rel, hd, hw⟩ => hw _ hd G F σ H (Gh.Le.refl G) (Same.refl F) h0 rel
theorem in_expr (hd : DE X ci E zd e d) (hs : swapsWith e none pos.line X.env = pure false := by rfl) : DIn X ci E zd (.Expr e pos) (sDrop d) := (ps_expr hd hs).imp fun D σ H ⟨q, h0, G, P, F, ρ, W, bd, rel, hd, hw⟩ => by
  refine ⟨G, P, F, ρ, _, by omega, rel, hd, fun o ho => ?_⟩
  cases o with
  | exc c fs => exact XP.lo (hw _ ho)
  | ok a => exact fun G1 F1 H1 v l1 s1 r1 x1 => hw _ ho G1 F1 σ H1 l1.up s1 h0 r1
theorem putF_new {f : Str} {v : V} : ∀ {fs : List (Str × V)}, f ∉ fs.map (·.1) → putF f v fs = fs ++ [(f, v)]
  | [], _ => rfl
  | (g, x) :: r, h => by
    have h1 : ¬ g = f := fun z => h (by simp [z])
    unfold putF
    rw [if_neg h1, putF_new (fs := r) fun z => h (by simp at z ⊢; exact .inr z)]
    rfl
theorem in_fld (hc : Cls X.K (ci.ca c)) (hn : NoAttr X.K (ci.ca c) fld) (hf : (ci.fn c)[k]? = some fld) (hnd : (ci.fn c).Nodup) (hd : DE X ci E zd e d) (hN : X.N[0]? = some ("self" : Str) := by rfl) (hv : Vis X.env.scope "self" := by first | exact Or.inl rfl | exact Or.inr (Or.inl rfl) | exact Or.inr (Or.inr rfl))
    (hs : swapsWith e (some (.Attribute (.Name "self" p) fld pos')) pos.line X.env = pure false := by rfl) : DIn X ci E zd (.Assign [.Attribute (.Name "self" p) fld pos'] e pos) (sField c k d) :=
  (ps_fld (pe_var (i := 0) hN hv) hd hs).imp fun D σ H ⟨q, h0, G, P, F, ρ, W, bd, rel, hd, hw⟩ => by
    refine ⟨G, P, F, ρ, _, by omega, rel, hd, fun o ho => ?_⟩
    cases o with
    | exc c fs => exact XP.lo (hw _ ho)
    | ok a =>
      intro G1 F1 H1 v l1 s1 r1 x1
      obtain ⟨x, hx, ho⟩ := getOw_ok (show getOw ρ 0 _ from ho)
      cases x <;> first | exact (show False from ho).elim | skip
      rename_i c' ds
      obtain ⟨⟨rfl, hk, hk2⟩, ho⟩ := (show (c' = c ∧ ds.length = k ∧ k < 1000) ∧ W (.ok (.nx (ρ.set 0 (.ow (.obj c (ds ++ [a])))))) from ho)
      obtain ⟨q', h1, ⟨dx, fs, h2, h3, h4⟩, _⟩ := r1.ow 0 _ hx
      rw [h0] at h1
      cases h1
      have hfs : fs.length = ds.length := by have := h4.length; rwa [List.length_map] at this
      have hnot : fld ∉ fs.map (·.1) := by
        rw [h3, hk]
        intro z
        obtain ⟨j, hj⟩ := List.mem_iff_getElem?.mp z
        rw [List.getElem?_take] at hj
        split at hj
        · rename_i hlt
          have := (List.getElem?_inj (List.getElem?_eq_some_iff.mp hj).1 hnd).mp (hj.trans hf.symm)
          omega
        · cases hj
      refine ⟨_, h0, q, ci.ca c', dx, fs, rfl, h2, hc, hn, by rw [hfs, hk]; exact hk2, hw _ ho G1 F1 σ _ l1.up s1 h0 (r1.put hx h0 (ins_ne h2) ⟨dx, _, upd_same, ?_, ?_⟩)⟩
      · rw [putF_new hnot, List.map_append, h3, List.length_append, hk]
        show _ = List.take (k + 1) (ci.fn c')
        rw [List.take_add_one, hf]
        rfl
      · rw [putF_new hnot, List.map_append]
        exact h4.append (.cons x1 .nil)
/-- an owned object in front -/
theorem Rel.consOw {K : Frag} {ci : Ci} {G : Gh} {F P H : Hp} {ρ : Env} {σ : L2.St} {p : Addr} {d : D} (r : Rel K ci G F P ρ σ H) (lo : Lone G F P ρ σ p) (ow : Own K ci G F H p d) : Rel K ci G F P (.ow d :: ρ) (some (.ref p) :: σ) H where
  sf := r.sf
  sp := r.sp
  dj := r.dj
  rp := r.rp
  ok := r.ok
  len := by rw [List.length_cons, List.length_cons, r.len]
  sh := fun i e h => by
    cases i with
    | zero => cases h
    | succ i => exact r.sh i e h
  ow := fun i e h => by
    cases i with
    | zero => cases h; exact ⟨p, rfl, ow, lo.hf, lo.hp, lo.hr⟩
    | succ i => exact r.ow i e h
  tb := r.tb
  ap := fun i j e f q hij h1 h2 h3 h4 => by
    cases i with
    | zero =>
      cases j with
      | zero => exact hij rfl
      | succ j => cases h3; exact lo.hs j f h2 h4
    | succ i =>
      cases j with
      | zero => cases h4; exact lo.hs i e h1 h3
      | succ j => exact r.ap i j e f q (fun z => hij (by rw [z])) h1 h2 h3 h4
end
section
variable {P : Program} {w : World} {K : Frag} {mg : Str → Option Value} {base : Heap} {ci : Ci} {n kk c : Nat} {x qual : Str} {st : Stmt} {f : Addr} {fd : FuncData} {N ps : List Str} {b : XS} {z : Nat}
theorem runInit_len {n k : Nat} {b : XS} {ds : List D} {W : Out D → Prop} (h : runInit n k c b ds W) : ds.length = k := (show ds.length = k ∧ _ from h).1
theorem fnIni {s0 : Str} (F : L2.Fun K x qual st f fd) (S : FnScope (s0 :: N) (s0 :: ps) (defScope st))
    (hb : ∀ (cdv : Value) (A : Around) (outer : List PySem.Env) (s : Shared) (H : Hp) (E : XK), Okd (cxD P w K mg base (s0 :: N) qual st f cdv A outer s H E) E kk → DIns (cxD P w K mg base (s0 :: N) qual st f cdv A outer s H E) ci E z (defBody st) b) :
    FnOk P w K mg base (L2.CX P w) (kk + 1) f fd (s0 :: ps) (spIni K ci z c (runInit (N.length + 1) ps.length c b)) :=
  Fun.okX F S (fun vs H Q E h => by
    obtain ⟨G, P, F, ds, W, p, dx, vs', rfl, _, _, _, _, r, hf, _⟩ := h
    rw [List.length_cons, List.length_cons, r.length, runInit_len hf]) fun cdv A outer s H vs Q E hr h => ⟨_, hb cdv A outer s H E (okd hr), by
    obtain ⟨G, P, F, ds, W, p, dx, vs', rfl, bd, rel, lo, hp, rp, hf, hw⟩ := h
    have eS : L2.start (s0 :: N) (.ref p :: vs') = some (.ref p) :: L2.start N vs' := by
      unfold L2.start
      rw [List.map_cons, List.length_cons, List.length_cons, Nat.add_sub_add_right]
      rfl
    have r0 := (rel.start rp N).consOw (p := p) (d := .obj c []) ⟨lo.hf, lo.hp, lo.hr, fun i d e => by
      rcases start_get rp N i _ e with z | ⟨_, _, z, _⟩ <;> cases z⟩ ⟨dx, [], hp, rfl, .nil⟩
    rw [← eS] at r0
    refine ⟨p, by rw [eS]; rfl, G, P, F, _, _, bd, r0, (show ds.length = ps.length ∧ _ from hf).2, fun o ho => ?_⟩
    cases o with
    | exc c fs => exact XP.lo (hw _ ho)
    | ok fl =>
      cases fl with
      | nx ρ' =>
        intro G' F' σ' H' l e h0 r
        obtain ⟨d, hd, ho⟩ := getOw_ok (show getOw ρ' 0 W from ho)
        obtain ⟨q, h1, h2, h3, h4, h5⟩ := r.ow 0 d hd
        rw [h0] at h1
        cases h1
        exact hw _ ho G' F' H' l e r.base ⟨h3, h4, h5, fun i d h => by simp at h⟩ h2
      | rt d => exact (show False from ho).elim
      | bk ρ' => exact (show False from ho).elim
      | ct ρ' => exact (show False from ho).elim⟩
/-- a class with its __init__ -/
structure Mkd (P : Program) (w : World) (K : Frag) (mg : Str → Option Value) (base : Heap) (ci : Ci) (k : Nat) (x : Str) (c n : Nat) (f : List D → M D) : Prop where
  ex : ∃ (fa : Addr) (fd : FuncData) (ps : List Str), mg x = some (.ref (ci.ca c)) ∧ Mk K (ci.ca c) fa ∧ FnOk P w K mg base (L2.CX P w) k fa fd ps (spIni K ci (bud k) c f) ∧ Binds K fd ps []
  len : ∀ ds W, f ds W → ds.length = n
end
section
variable {X : Cx} {ci : Ci} {E : XK} {e : Expr} {es : List Expr} {r : XA} {x : Str} {p pos : Pos} {k kk n c : Nat} {f : List D → M D} {za : Nat}
theorem do_make (h : Mkd X.prog X.w X.K X.mg X.base ci k x c n f) (ok : Okc X E kk) (hg : Gl X x) (ha : DA X ci E za (e :: es) r) (hk : k + 1 ≤ kk := by decide) (hdb : (x == ("__debug__" : Str)) = false := by decide) (he : starEach (e :: es) X.env = (false, eval e X.env) :: starEach es X.env := by rfl) (hpl : (backTo pos (starEach es X.env)).any (·.1) = false := by rfl) :
    DO X ci E (za + bud k) (.Call (.Name x p) (e :: es) [] pos) (dCall f r) := by
  obtain ⟨fa, fd, ps, h1, h2, h3, h4⟩ := h.ex
  refine (pe_make h2 h3 (ok.room.mono hk) hg h1 h4 .nil ok.px ha hdb he hpl).imp fun σ H Q ⟨G, P, F, ρ, W, bd, rel, hd, hw⟩ => ?_
  refine ⟨G, P, F, ρ, _, by omega, rel, hd, fun o ho => ?_⟩
  cases o with
  | exc c fs => exact XP.lo (hw _ ho)
  | ok ds =>
    intro G1 F1 H1 vs l1 s1 r1 x1 q dx hq hdx hne
    have rp := resL_rep x1
    have hq2 : (upd H1 dx (.own q)) q = none := by rw [upd_ne (Ne.symm hne)]; exact hq
    obtain ⟨P', r2, hP, back⟩ := r1.shut
    have r3 := (r2.new (o := .own q) hdx).new (o := .ins (ci.ca c) dx []) hq2
    have lo := (r2.new (o := .own q) hdx).lone hq2
    refine ⟨G1, P', F1, ds, W, q, dx, vs, by rw [List.append_nil], by omega, r3, lo, upd_same, rp, ho, fun o ho => ?_⟩
    cases o with
    | exc c fs => exact fun G' F' H' cv dx l s r x => hw _ ho G' F' H' cv dx (l1.trans l).up (s1.trans s) (back _ G' F' H' l s r).1.base x
    | ok d =>
      intro G2 F2 H2 l2 s2 r4 lo4 ow4
      obtain ⟨r5, lo5⟩ := back _ G2 F2 H2 l2 s2 r4
      exact ⟨rfl, hw _ ho G2 F2 H2 _ (l1.trans l2).up (s1.trans s2) r5 ⟨q, rfl, lo5 q lo4, ow4⟩⟩
end
end DL
end
section
/-! DL11: fields, isinstance. -/
set_option Elab.async false
set_option linter.all false
set_option autoImplicit false
set_option maxRecDepth 100000
set_option maxHeartbeats 4000000
namespace DL
open PySem PySem.Spec PyProof.Rows L2
/-! ### fields -/
theorem lookup_at : ∀ {fs : List (Str × V)} {i : Nat} {f : Str} {v : V}, (fs.map (·.1)).Nodup → (fs.map (·.1))[i]? = some f → (fs.map (·.2))[i]? = some v → fs.lookup f = some v
  | [], i, _, _, _, h, _ => by simp at h
  | (g, x) :: r, 0, f, v, _, h1, h2 => by
    simp at h1 h2
    subst h1 h2
    simp [List.lookup]
  | (g, x) :: r, i + 1, f, v, nd, h1, h2 => by
    simp only [List.map_cons, List.getElem?_cons_succ] at h1 h2
    rw [List.map_cons, List.nodup_cons] at nd
    have ne : (f == g) = false := by
      rw [beq_eq_false_iff_ne]
      intro z
      exact nd.1 (by rw [← z]; exact List.mem_of_getElem? h1)
    rw [List.lookup_cons, ne]
    exact lookup_at nd.2 h1 h2
theorem Seen.obj {K : Frag} {ci : Ci} {G : Gh} {F H : Hp} {x : V} {c : Nat} {ds : List D} (h : Seen K ci G F H x (.obj c ds)) (s : Same F H) : ∃ p dx fs, x = .ref p ∧ H p = some (.ins (ci.ca c) dx fs) ∧ fs.map (·.1) = (ci.fn c).take ds.length ∧ RepL (rc K ci G) F (fs.map (·.2)) ds := by
  rcases h with h | ⟨p, rfl, dx, fs, h, n, r⟩
  · cases h with
    | obj h n r => exact ⟨_, _, _, rfl, s _ _ h, n, r⟩
  · exact ⟨p, dx, fs, rfl, h, n, r⟩
theorem Seen.lookup {K : Frag} {ci : Ci} {G : Gh} {F : Hp} {c i : Nat} {ds : List D} {fs : List (Str × V)} {d : D} {fld : Str} (n : fs.map (·.1) = (ci.fn c).take ds.length) (r : RepL (rc K ci G) F (fs.map (·.2)) ds) (hnd : (ci.fn c).Nodup) (hf : (ci.fn c)[i]? = some fld) (hd : ds[i]? = some d) :
    ∃ v, fs.lookup fld = some v ∧ Rep (rc K ci G) F v d := by
  obtain ⟨v, h1, h2⟩ := r.get hd
  refine ⟨v, lookup_at ?_ ?_ h1, h2⟩
  · rw [n]
    exact hnd.sublist (List.take_sublist _ _)
  · rw [n, List.getElem?_take_of_lt (List.getElem?_eq_some_iff.mp hd).1]
    exact hf
/-- a class's own field; a property of it -/
structure FlF (K : Frag) (ci : Ci) (c i : Nat) (fld : Str) : Prop where
  cls : Cls K (ci.ca c)
  no : NoAttr K (ci.ca c) fld
  at_ : (ci.fn c)[i]? = some fld
  nd : (ci.fn c).Nodup
structure PrF (P : Program) (w : World) (K : Frag) (mg : Str → Option Value) (base : Heap) (ci : Ci) (k c i : Nat) (x : Str) : Prop where
  ex : ∃ (fld : Str) (p g : Addr) (fd : FuncData) (ps : List Str), FlF K ci c i fld ∧ PropOf K (ci.ca c) x p g ∧ FnOk P w K mg base (L2.CX P w) k g fd ps (getSp (ci.ca c) fld) ∧ Binds K fd ps []
section
variable {X : Cx} {ci : Ci} {E : XK} {e : Expr} {d : XE} {x fld : Str} {pos : Pos} {k kk c i : Nat} {zd : Nat}
theorem fld_ok {tbl : Nat} {ds : List D} {c c' i : Nat} {W : Out D → Prop} (h : fldM [(c, i)] (.obj c' ds) W) : c' = c ∧ ∃ d, ds[i]? = some d ∧ W (.ok d) := by
  obtain ⟨j, hj, h⟩ := get_ok (show (M.get (([(c, i)].find? fun p => p.1 == c').map (·.2)) _) from h)
  obtain ⟨d, hd, h⟩ := get_ok (show (M.get (ds[j]?) _) from h)
  have hc : (c == c') = true ∧ i = j := by
    by_cases q : (c == c') = true
    · rw [List.find?_cons_of_pos (by exact q)] at hj
      exact ⟨q, Option.some.inj hj⟩
    · rw [List.find?_cons_of_neg (by exact q)] at hj
      cases hj
  exact ⟨(eq_of_beq hc.1).symm, d, by rw [hc.2]; exact hd, h⟩
theorem de_fld (h : FlF X.K ci c i fld) (hd : DB X ci E zd e d) (hb : attributeBase e fld X.env (eval e X.env) = eval e X.env := by rfl) : DE X ci E zd (.Attribute e fld pos) (d1 (fldM [(c, i)]) d) :=
  (pe_fld hd hb).imp fun σ H Q ⟨G, P, F, ρ, W, bd, rel, hd, hw⟩ => by
    refine ⟨G, P, F, ρ, _, by omega, rel, hd, fun o ho => ?_⟩
    cases o with
    | exc c fs => exact XP.lo (hw _ ho)
    | ok a =>
      intro G1 F1 H1 v l1 s1 r1 x1
      cases a with
      | obj c' ds =>
        obtain ⟨rfl, b, hb, ho⟩ := fld_ok (tbl := 0) ho
        obtain ⟨p, dx, fs, rfl, h1, h2, h3⟩ := (Bor.seen x1 r1).obj r1.sf
        obtain ⟨v, h4, h5⟩ := Seen.lookup h2 h3 h.nd h.at_ hb
        exact ⟨p, _, dx, fs, v, rfl, h1, h.cls, h.no, h4, hw _ ho G1 F1 H1 v l1.up s1 r1 h5⟩
      | _ => exact (show False from ho).elim
theorem de_prop (h : PrF X.prog X.w X.K X.mg X.base ci k c i x) (ok : Okc X E kk) (hd : DB X ci E zd e d) (hk : k + 1 ≤ kk := by decide) (hb : attributeBase e x X.env (eval e X.env) = eval e X.env := by rfl) : DE X ci E zd (.Attribute e x pos) (d1 (fldM [(c, i)]) d) := by
  obtain ⟨fld, p, g, fd, ps, h1, h2, h3, h4⟩ := h.ex
  refine (pe_prop (E := E0) hd h1.cls h2 h3 (ok.room.mono hk) h4 .nil (passL (X := X.nox)) hb).imp fun σ H Q ⟨G, P, F, ρ, W, bd, rel, hd, hw⟩ => ?_
  refine ⟨G, P, F, ρ, _, by omega, rel, hd, fun o ho => ?_⟩
  cases o with
  | exc c fs => exact XP.lo (hw _ ho)
  | ok a =>
    intro G1 F1 H1 v l1 s1 r1 x1
    cases a with
    | obj c' ds =>
      obtain ⟨rfl, b, hb, ho⟩ := fld_ok (tbl := 0) ho
      obtain ⟨p, dx, fs, rfl, q1, q2, q3⟩ := (Bor.seen x1 r1).obj r1.sf
      obtain ⟨v, q4, q5⟩ := Seen.lookup q2 q3 h1.nd h1.at_ hb
      exact ⟨p, dx, fs, rfl, q1, p, dx, fs, v, rfl, q1, q4, hw _ ho G1 F1 H1 v l1.up s1 r1 q5⟩
    | _ => exact (show False from ho).elim
/-- the value of a caught error -/
structure XfF (K : Frag) (ci : Ci) (c : Nat) (fld : Str) : Prop where
  xf : XfC K (ci.ca c)
  no : PySem.W.findIn K (.ref (ci.ca c)) fld = some none
  fn : ci.fn c = [fld]
theorem excO_at {P : Program} {w : World} {H : Hp} {h : Heap} {a C : Addr} {dd : Option Addr} (hok : HOk P w H h) (e : H a = some (ExcO a C dd)) : ∃ o vs, h.get? a = some o ∧ o.cls = .ref C ∧ o.dict = dd ∧ o.data = .fields vs := by
  have x : ObjOk P w H h a (.ext fun h => ∃ o vs, h.get? a = some o ∧ o.cls = .ref C ∧ o.dict = dd ∧ o.data = .fields vs) := hok a _ e
  exact x.1
theorem de_xfld {cs : List Nat} (h : ∀ c ∈ cs, XfF X.K ci c fld) (hd : DE X ci E zd e d) (hb : attributeBase e fld X.env (eval e X.env) = eval e X.env := by rfl) : DE X ci E zd (.Attribute e fld pos) (d1 (fldX cs) d) := by
  refine ⟨fun pins s σ H Q I ⟨G, P, F, ρ, W, bd, rel, hd', hw⟩ => ?_⟩
  refine attr_of hb (thn (hd.run pins s σ H (fun v H1 => ∃ G1 F1 a, Gh.Le (G.n + zd) G G1 ∧ Same F F1 ∧ Rel X.K ci G1 F1 P ρ σ H1 ∧ Rep (rc X.K ci G1) F1 v a ∧ fldX cs a W) I ⟨G, P, F, ρ, _, by omega, rel, hd', fun o ho => ?_⟩) fun u sN hh => ?_)
  · cases o with
    | exc c fs => exact XP.lo (hw _ ho)
    | ok a => exact fun G1 F1 H1 v l1 s1 r1 x1 => ⟨G1, F1, a, l1, s1, r1, x1, ho⟩
  · obtain ⟨v, H1, I1, rv, G1, F1, a, l1, s1, r1, x1, ho⟩ := hh
    cases a with
    | exc c fs =>
      match fs, ho, x1 with
      | [], ho, _ => exact (show False from ho).elim
      | _ :: _ :: _, ho, _ => exact (show False from ho).elim
      | [b], ho, x1 =>
        obtain ⟨hc, ho⟩ := (show c ∈ cs ∧ W (.ok b) from ho)
        cases x1 with
        | @exc1 p _ dx x v2 _ e1 e2 e3 e4 =>
          have T := h c hc
          obtain rfl : u = Value.ref p := rv
          have hx : x = fld := by
            have e3 : ci.fn c = [x] := e3
            rw [T.fn] at e3
            cases e3
            rfl
          subst hx
          obtain ⟨oe, vs, g1, g2, g3, g4⟩ := excO_at I1.hok (r1.sf _ _ e1)
          have hxd : ObjOk X.prog X.w H1 sN.heap dx (.xd [(x, v2)]) := I1.hok dx _ (r1.sf _ _ e2)
          obtain ⟨mA, hns, hr⟩ := hxd
          obtain ⟨od, hod, hl⟩ := lookIn_ns hns
          obtain ⟨z, hz, rz⟩ := RelO.some_of (v := v2) (o := mA x) (by
            have q := hr x
            rw [List.lookup_cons, beq_self_eq_true] at q
            exact q)
          have J : PySem.W.InstAt sN.heap p oe (ci.ca c) (some od) := ⟨g1, g2, by unfold PySem.W.notCls; rw [g4] <;> rfl, by rw [g3]; exact hod⟩
          exact HandSPX.exc_get I1.kIn J T.xf.ga T.xf.gg T.xf.exC (PySem.W.findObj_own T.xf.hdC T.no rfl (by rw [hl, hz])) (handed_of rz) ⟨v2, H1, I1.tok _, rz, hw _ ho G1 F1 H1 v2 l1.up s1 r1 e4⟩
    | _ => exact (show False from ho).elim
end
/-! ### isinstance -/
/-- isinstance of an error that was kept: with its own dict or without -/
theorem kitx_kept {K : Frag} {x D : Addr} {ox : Obj} {od : Option Obj} (T : ExcC K D) : PySem.W.KitX K (.ref x) (.ref D) (fun h => PySem.W.InstAt h x ox D od) where
  ty := fun _ _ _ I => I.type
  it := fun _ _ X _ => by
    obtain ⟨cdD, hcD, _⟩ := PySem.W.any_some T.hd
    unfold PySem.W.clsIn at hcD
    split at hcD
    · rename_i _ _ _ _ hob
      intro A' Q' E' s' kp q
      unfold isType loadHead
      exact wpAny_bind (wpAny_loadPart (kp _ _ (X _ _ hob)) (wpAny_pure q))
    · cases hcD
  ne := fun h tp dd its n sl X htp => by
    obtain ⟨cdD, hcD, _⟩ := PySem.W.any_some T.hd
    refine Bool.eq_false_iff.mpr fun q => ?_
    have eD : D = tp := Value.ref.inj (beq_iff_eq.mp q)
    subst eD
    unfold PySem.W.clsIn at hcD
    split at hcD
    · rename_i _ _ _ _ hob
      have z := (X _ _ hob).symm.trans htp
      cases z
    · cases hcD
  ca := fun {prog w A E Q s} X I k => by
    have hf : PySem.W.findObj K D od "__class__" = some (.bind (.builtin "getset_descriptor.__get__") (.builtin "object.__class__")) := by
      have hc : (PySem.W.clsIn K D).isSome = true := by obtain ⟨cd, hc, _⟩ := PySem.W.any_some T.hd; rw [hc]; rfl
      cases od with
      | none => exact PySem.W.findObj_dataN hc T.ha T.hn T.ht
      | some o => exact PySem.W.findObj_data hc T.ha T.hn T.ht
    obtain ⟨hp, gs, dr, tk, os⟩ := s
    have T0 := I.type (M := model prog w)
    have T1 := PySem.W.looks_findIn (M := model prog w) X T.hg
    have T2 := PySem.W.looks_findIn (M := model prog w) X T.hk
    have T3 := PySem.W.looks_find (M := model prog w) X I hf
    have below : PySem.W.Looks (model prog w) hp (isInstance (.ref x) (.type "BaseException")) true := T0.andThen (PySem.W.looks_subIn X T.hs)
    have n0 : (false && onTheHeap (Value.builtin "BaseException.__getattribute__")) = false := rfl
    have n2 : (Value.builtin "BaseException.__getattribute__" == Value.builtin "object.__getattribute__") = false := by decide +kernel
    have n1 : (onTheHeap (Value.ref D) && Value.builtin "BaseException.__getattribute__" == Value.builtin "object.__getattribute__") = false := by rw [n2]; rfl
    unfold getAttr? getAttrBy? getAttrBy
    refine wpAny_bind (wpAny_mkText (wpAny_bind (wpAny_attempt (wpAny_holding (wpAny_bind (T0.at (wpAny_bind (T1.at ?_))))))))
    show wpAny _ _ (if (onTheHeap (Value.ref D) && Value.builtin "BaseException.__getattribute__" == Value.builtin "object.__getattribute__") = true then _ else _) _ _ _
    rw [n1, if_neg Bool.false_ne_true]
    unfold getAttrByItsOwn hookBefore
    refine wpAny_bind ?_
    rw [if_pos (show onTheHeap (Value.ref D) = true from rfl)]
    refine T2.at ?_
    refine wpAny_bind (wpAny_attempt (wpAny_holding ?_))
    unfold callGetattribute
    rw [n0, if_neg Bool.false_ne_true]
    unfold boundAndCalled
    rw [PySem.F.excAttr_ValueError.ga.bind (.ref x)]
    refine wpAny_bind (wpAny_pure ?_)
    show wpAny _ _ (call (.builtin "BaseException.__getattribute__") [.ref x, .str "__class__" tk]) _ _ _
    refine wpAny_call (codeAny_call_builtin PySem.F.excAttr_ValueError.ga.plain PySem.F.entry_bexc_ga ?_)
    refine @PySem.W.check_slot (model prog w) _ _ ⟨hp, gs, dr, tk + 1, os⟩ "BaseException.__getattribute__" "BaseException" "__getattribute__" (.ref x) [.str "__class__" tk] [] _ (by decide +kernel) (by decide +kernel) below (PySem.F.args_bexc_ga (.ref x) (.str "__class__" tk)) ?_
    unfold Builtin.«object.__getattribute__»
    refine wpAny_bind (wpAny_of_eq (a := ((Value.ref x : Value), [Value.str "__class__" tk])) (by first | rfl | (simp only [slotArgs]; rfl)) ?_)
    refine wpAny_bind (wpAny_pure (wpAny_bind (T0.at (wpAny_bind (T3.at ?_)))))
    show wpAny _ _ (holding [Value.builtin "object.__class__"] (call (.builtin "getset_descriptor.__get__") [.builtin "object.__class__", .ref x, .ref D]) >>= ret) _ _ _
    refine wpAny_bind (wpAny_holding (wpAny_call (PySem.W.class_get (s := ⟨hp, gs, dr, tk + 1, os⟩) (ox := ox) (od := od) X I T.hm ?_)))
    refine wpAny_pure ?_
    show wpAny _ _ (handedOut (.ref D)) _ _ _
    rw [PySem.W.handedOut_of (v := .ref D) rfl]
    first
      | exact wpAny_pure (wpAny_pure k)
      | exact wpAny_pure k
      | exact wpAny_pure (wpAny_bind (wpAny_pure (wpAny_pure k)))
/-- a class as it is written -/
def kdV (ci : Ci) : Kd → Value
  | .int => .type "int" | .bool => .type "bool" | .str => .type "str" | .list => .type "list" | .tuple => .type "tuple" | .dict => .type "dict"
  | .cls c => .ref (ci.ca c)
def tyDV (ci : Ci) : D → Value
  | .non => .type "NoneType" | .int _ => .type "int" | .bl _ => .type "bool" | .str _ => .type "str" | .lst _ => .type "list" | .tup _ => .type "tuple" | .dK _ => .type "dict"
  | .obj c _ => .ref (ci.ca c)
  | .exc c _ => .ref (ci.ca c)
  | _ => .none
structure IsF (K : Frag) (ci : Ci) (cs : Cs) : Prop where
  obj : ∀ c ∈ cs.objs, Cls K (ci.ca c) ∧ PySem.W.findIn K (.ref (ci.ca c)) "__class__" = some (some (.builtin "object.__class__")) ∧ PySem.W.mroIn K (ci.ca c) (.type "object") = some true
  hn : PySem.W.specialIn K (.builtin "object.__class__") "__get__" = some (some (.builtin "getset_descriptor.__get__"))
  ht : PySem.W.takesIn K (.builtin "object.__class__") = some true
  exc : ∀ c ∈ cs.excs, ExcC K (ci.ca c)
  tc : ∀ c, c ∈ cs.objs ∨ c ∈ cs.excs → ∀ T ∈ ["NoneType", "int", "bool", "str", "list", "tuple", "dict"], PySem.W.kitOne K (.type T) (.ref (ci.ca c)) = some false
  ct : ∀ c, c ∈ cs.objs ∨ c ∈ cs.excs → ∀ T ∈ ["int", "bool", "str", "list", "tuple", "dict"], PySem.W.kitOne K (.ref (ci.ca c)) (.type T) = some false
  cc : ∀ c, c ∈ cs.objs ∨ c ∈ cs.excs → ∀ c', c' ∈ cs.objs ∨ c' ∈ cs.excs → PySem.W.kitOne K (.ref (ci.ca c)) (.ref (ci.ca c')) = some (cs.sub c c')
def kdOk (cs : Cs) : Kd → Bool
  | .cls c => cs.objs.contains c || cs.excs.contains c
  | _ => true
theorem IsF.kit {K : Frag} {ci : Ci} {cs : Cs} (T : IsF K ci cs) {d : D} (hd : tyD cs d = true) {k : Kd} (hk : kdOk cs k = true) : PySem.W.kitOne K (tyDV ci d) (kdV ci k) = some (isKd cs d k) := by
  have mem : ∀ {c}, (cs.objs.contains c || cs.excs.contains c) = true → c ∈ cs.objs ∨ c ∈ cs.excs := fun {c} h => by
    rw [Bool.or_eq_true] at h
    exact h.imp (fun z => by simpa using z) (fun z => by simpa using z)
  cases d <;> first | exact (Bool.false_ne_true hd).elim | skip
  case obj c fs =>
    have hc : c ∈ cs.objs ∨ c ∈ cs.excs := .inl (by simpa [tyD] using hd)
    cases k <;> first | exact T.ct c hc _ (by simp) | exact T.cc c hc _ (mem hk)
  case exc c fs =>
    have hc : c ∈ cs.objs ∨ c ∈ cs.excs := .inr (by simpa [tyD] using hd)
    cases k <;> first | exact T.ct c hc _ (by simp) | exact T.cc c hc _ (mem hk)
  all_goals
    cases k <;> first | exact kit_ty (r := false) (by decide +kernel) | exact kit_ty (r := true) (by decide +kernel) | exact T.tc _ (mem hk) _ (by simp)
section
variable {X : Cx} {ci : Ci} {E : XK} {e ke ke2 : Expr} {d : XE} {pos p tpos : Pos} {tk : Nat} {k k2 : Kd} {x : Str} {cs : Cs} {zd : Nat}
theorem kit_seen {pins : List (Addr × Obj)} {σ : L2.St} {G : Gh} {F P H : Hp} {ρ : Env} {σ' : L2.St} {s : Shared} {v : V} {d : D} {u : Value} (T : IsF X.K ci cs) (I : L2.Inv X pins σ' H s) (rel : Rel X.K ci G F P ρ σ H) (h : Seen X.K ci G F H v d) (hd : tyD cs d = true) (ru : RelV v u) :
    ∃ Z : Heap → Prop, PySem.W.KitX X.K u (tyDV ci d) Z ∧ Z s.heap ∧ u ≠ .builtin "__main__.__loader__#opaque" := by
  cases d <;> first | exact (Bool.false_ne_true hd).elim | skip
  case non => rw [h.non] at ru; exact kit_of I ru (.base .non)
  case bl b => rw [h.bl] at ru; exact kit_of I ru (.base (.bl b))
  case int b => rw [h.int] at ru; exact kit_of I ru (.base (.int b))
  case str b => rw [h.str] at ru; exact kit_of I ru (.base (.str b))
  case lst ds =>
    obtain ⟨q, vs, rfl, hq, _⟩ := h.lst rel.sf
    exact kit_of I ru (.base (.lst hq))
  case tup ds =>
    obtain ⟨q, vs, rfl, hq, _⟩ := h.tup rel.sf
    rcases hq with (hq | ⟨o, hq⟩) | ⟨o, its, n, h1, h2, _⟩
    · exact kit_of I ru (.base (.tup hq))
    · exact kit_of I ru (.fTuple hq)
    · exact kit_of I ru (.kTuple h1 h2)
  case dK ds =>
    obtain ⟨q, vs, rfl, hq, _⟩ := h.dK rel.sf
    exact kit_of I ru (.base (.dK hq))
  case obj c ds =>
    obtain ⟨q, dx, fs, rfl, hq, _⟩ := h.obj rel.sf
    obtain ⟨t1, t2, t3⟩ := T.obj c (by simpa [tyD] using hd)
    exact kit_of I ru (.base (.ins hq t1 t2 T.hn T.ht t3))
  case exc c ds =>
    have t := T.exc c (by simpa [tyD] using hd)
    have done : ∀ {a : Addr} {dd : Option Addr}, H a = some (ExcO a (ci.ca c) dd) → v = .ref a → (∀ dx, dd = some dx → ∃ o, s.heap.get? dx = some o) → ∃ Z : Heap → Prop, PySem.W.KitX X.K u (.ref (ci.ca c)) Z ∧ Z s.heap ∧ u ≠ .builtin "__main__.__loader__#opaque" := fun {a dd} e ev hdx => by
      subst ev
      obtain rfl : u = Value.ref a := ru
      obtain ⟨oe, vs, g1, g2, g3, g4⟩ := excO_at I.hok e
      cases dd with
      | none => exact ⟨_, kitx_kept (od := none) t, (⟨g1, g2, by unfold PySem.W.notCls; rw [g4] <;> rfl, by rw [g3]; exact True.intro⟩ : PySem.W.InstAt s.heap a oe (ci.ca c) none), fun z => nomatch z⟩
      | some dx =>
        obtain ⟨o, ho⟩ := hdx dx rfl
        exact ⟨_, kitx_kept (od := some o) t, (⟨g1, g2, by unfold PySem.W.notCls; rw [g4] <;> rfl, by rw [g3]; exact ho⟩ : PySem.W.InstAt s.heap a oe (ci.ca c) (some o)), fun z => nomatch z⟩
    rcases h with h | ⟨q, _, z⟩
    · cases h with
      | exc0 e => exact done (rel.sf _ _ e) rfl fun dx z => by cases z
      | exc1 e e2 _ _ =>
        refine done (rel.sf _ _ e) rfl fun dx z => ?_
        cases z
        have hxd : ObjOk X.prog X.w H s.heap _ _ := I.hok _ _ (rel.sf _ _ e2)
        obtain ⟨mA, ⟨o, _, _, e3, _⟩, _⟩ := hxd
        exact ⟨o, e3⟩
    · exact z.elim
def rIsD (X : Cx) : List V → Hp → VK → Prop := fun xs H Q => ∃ (y c : V) (t u : Value) (b : Bool), xs = [y, c] ∧ ClsV c u ∧ (∀ (pins : List (Addr × Obj)) (σ : L2.St) (s : Shared) (z : Value), L2.Inv X pins σ H s → RelV y z → ∃ Z : Heap → Prop, PySem.W.KitX X.K z t Z ∧ Z s.heap ∧ z ≠ .builtin "__main__.__loader__#opaque") ∧
  PySem.W.kitOne X.K t u = some b ∧ Q (.bl b) H
def rIsDT (X : Cx) : List V → Hp → VK → Prop := fun xs H Q => ∃ (y : V) (tp : Addr) (ts : List V) (t : Value) (us : List Value) (b : Bool), xs = [y, .ref tp] ∧ H tp = some (.tup ts) ∧ Paired ClsV ts us ∧
  (∀ (pins : List (Addr × Obj)) (σ : L2.St) (s : Shared) (z : Value), L2.Inv X pins σ H s → RelV y z → ∃ Z : Heap → Prop, PySem.W.KitX X.K z t Z ∧ Z s.heap ∧ z ≠ .builtin "__main__.__loader__#opaque") ∧ PySem.W.kitAny X.K t us = some b ∧ Q (.bl b) H
theorem call_isD : CallR X (.builtin "isinstance") (rIsD X) := by
  intro pins s σ H xs us Q I r h
  obtain ⟨y, c, t, u, b, rfl, k, ty, e, q⟩ := h
  obtain ⟨u1, u2, rfl, r1, r2⟩ := vals2 r
  have e2 := k.eq r2
  subst e2
  obtain ⟨Z, kz, pz, hx⟩ := ty pins σ s u1 I r1
  exact PySem.W.kia_one kz I.kIn pz e hx fun tk => ⟨.bl b, H, I.tok tk, rfl, q⟩
theorem call_isDT : CallR X (.builtin "isinstance") (rIsDT X) := by
  intro pins s σ H xs us Q I r h
  obtain ⟨y, tp, ts, t, ws, b, rfl, hT, k, ty, e, q⟩ := h
  obtain ⟨u1, u2, rfl, r1, r2⟩ := vals2 r
  cases (show u2 = Value.ref tp from r2)
  obtain ⟨Z, kz, pz, hx⟩ := ty pins σ s u1 I r1
  obtain ⟨_, its, rv, o, h1, h2, n, h3⟩ := (show ObjOk X.prog X.w H s.heap tp (.tup ts) from I.hok tp _ hT)
  have e3 := ClsV.all k rv
  subst e3
  obtain ⟨oc, od, dt, sl⟩ := o
  simp only at h2 h3
  subst h2 h3
  exact PySem.W.kia_tup kz I.kIn pz h1 e hx fun tk => ⟨.bl b, H, I.tok tk, rfl, q⟩
/-- a class that is written -/
structure ClE (X : Cx) (ci : Ci) (ke : Expr) (k : Kd) : Prop where
  ex : ∃ v, PE X ke (tC v) ∧ ClsV v (kdV ci k)
theorem cl_int (hg : Gl X "int") (hm : X.mg "int" = none) : ClE X ci (.Name "int" p) .int := ⟨_, pe_bltn (v := .ty "int") hg hm (by decide +kernel) rfl, .ty _⟩
theorem cl_bool (hg : Gl X "bool") (hm : X.mg "bool" = none) : ClE X ci (.Name "bool" p) .bool := ⟨_, pe_bltn (v := .ty "bool") hg hm (by decide +kernel) rfl, .ty _⟩
theorem cl_str (hg : Gl X "str") (hm : X.mg "str" = none) : ClE X ci (.Name "str" p) .str := ⟨_, pe_bltn (v := .ty "str") hg hm (by decide +kernel) rfl, .ty _⟩
theorem cl_list (hg : Gl X "list") (hm : X.mg "list" = none) : ClE X ci (.Name "list" p) .list := ⟨_, pe_bltn (v := .ty "list") hg hm (by decide +kernel) rfl, .ty _⟩
theorem cl_tuple (hg : Gl X "tuple") (hm : X.mg "tuple" = none) : ClE X ci (.Name "tuple" p) .tuple := ⟨_, pe_bltn (v := .ty "tuple") hg hm (by decide +kernel) rfl, .ty _⟩
theorem cl_dict (hg : Gl X "dict") (hm : X.mg "dict" = none) : ClE X ci (.Name "dict" p) .dict := ⟨_, pe_bltn (v := .ty "dict") hg hm (by decide +kernel) rfl, .ty _⟩
theorem cl_own {c : Nat} (hg : Gl X x) (hm : X.mg x = some (.ref (ci.ca c))) (hd : (x == ("__debug__" : Str)) = false := by decide) : ClE X ci (.Name x p) (.cls c) := ⟨_, pe_glob (v := .ref (ci.ca c)) hg hm rfl hd, .own _⟩
theorem de_isi (T : IsF X.K ci cs) (hg : Gl X "isinstance") (hm : X.mg "isinstance" = none) (hd : DB X ci E zd e d) (hk : ClE X ci ke k) (hk1 : kdOk cs k = true := by decide) (he : starEach [e, ke] X.env = (false, eval e X.env) :: starEach [ke] X.env := by rfl)
    (he2 : starEach [ke] X.env = (false, eval ke X.env) :: starEach [] X.env := by rfl) (hpl : (backTo pos (starEach [ke] X.env)).any (·.1) = false := by rfl) :
    DE X ci E zd (.Call (.Name "isinstance" p) [e, ke] [] pos) (d1 (isM cs [k]) d) := by
  obtain ⟨v, h1, h2⟩ := hk.ex
  refine (pe_callB call_isD hg hm (by decide +kernel) (pa_cons hd (pa_cons h1 pa_nil he2) he) (by decide) (by decide) he hpl).imp fun σ H Q ⟨G, P, F, ρ, W, bd, rel, hd, hw⟩ => ?_
  refine ⟨G, P, F, ρ, _, by omega, rel, hd, fun o ho => ?_⟩
  cases o with
  | exc c fs => exact XP.lo (hw _ ho)
  | ok a =>
    intro G1 F1 H1 y l1 s1 r1 x1
    obtain ⟨hty, ho⟩ := (show tyD cs a = true ∧ W (.ok (.bl ([k].any (isKd cs a)))) from ho)
    refine ⟨y, v, _, _, _, rfl, h2, fun pins σ' s z I rz => kit_seen T I r1 (Bor.seen x1 r1) hty rz, T.kit hty hk1, ?_⟩
    have q := hw _ ho G1 F1 H1 (.bl ([k].any (isKd cs a))) l1 s1 r1 (.bl _)
    rw [List.any_cons, List.any_nil, Bool.or_false] at q
    exact q
theorem de_isi2 (T : IsF X.K ci cs) (hg : Gl X "isinstance") (hm : X.mg "isinstance" = none) (hd : DB X ci E zd e d) (hk : ClE X ci ke k) (hk' : ClE X ci ke2 k2) (hk1 : kdOk cs k = true := by decide) (hk2 : kdOk cs k2 = true := by decide)
    (he : starEach [e, .Tuple [ke, ke2] tk tpos] X.env = (false, eval e X.env) :: starEach [.Tuple [ke, ke2] tk tpos] X.env := by rfl)
    (he2 : starEach [.Tuple [ke, ke2] tk tpos] X.env = (false, eval (.Tuple [ke, ke2] tk tpos) X.env) :: starEach [] X.env := by rfl) (hpl : (backTo pos (starEach [.Tuple [ke, ke2] tk tpos] X.env)).any (·.1) = false := by rfl)
    (hs3 : starEach [ke, ke2] X.env = (false, eval ke X.env) :: starEach [ke2] X.env := by rfl) (hs4 : starEach [ke2] X.env = (false, eval ke2 X.env) :: starEach [] X.env := by rfl) :
    DE X ci E zd (.Call (.Name "isinstance" p) [e, .Tuple [ke, ke2] tk tpos] [] pos) (d1 (isM cs [k, k2]) d) := by
  obtain ⟨v, h1, h2⟩ := hk.ex
  obtain ⟨v', h1', h2'⟩ := hk'.ex
  refine (pe_callB call_isDT hg hm (by decide +kernel) (pa_cons hd (pa_cons (pe_tup (pa_cons h1 (pa_cons h1' pa_nil hs4) hs3)) pa_nil he2) he) (by decide) (by decide) he hpl).imp fun σ H Q ⟨G, P, F, ρ, W, bd, rel, hd, hw⟩ => ?_
  refine ⟨G, P, F, ρ, _, by omega, rel, hd, fun o ho => ?_⟩
  cases o with
  | exc c fs => exact XP.lo (hw _ ho)
  | ok a =>
    intro G1 F1 H1 y l1 s1 r1 x1
    obtain ⟨hty, ho⟩ := (show tyD cs a = true ∧ W (.ok (.bl ([k, k2].any (isKd cs a)))) from ho)
    refine ⟨show 2 ≤ sizeLine by decide, fun q hq => ?_⟩
    have r2 := r1.new (o := .tup [v, v']) hq
    have b2 : Bor X.K ci G1 F1 ρ σ y a := x1
    refine ⟨y, q, [v, v'], _, [_, _], [k, k2].any (isKd cs a), rfl, upd_same, .cons h2 (.cons h2' .nil), fun pins σ' s z I rz => kit_seen T I r2 (b2.seen r2) hty rz, ?_, hw _ ho G1 F1 _ (.bl _) l1 s1 r2 (.bl _)⟩
    refine kitAny_cons (T.kit hty hk1) (fun e1 => kitAny_cons (T.kit hty hk2) (fun e2 => ?_) fun e2 => ?_) fun e1 => ?_
    · show some false = _
      rw [List.any_cons, List.any_cons, e1, e2]
      rfl
    · rw [List.any_cons, List.any_cons, e1, e2]
      rfl
    · rw [List.any_cons, e1]
      rfl
end
end DL
end
section
/-! DL12: lambdas: first_wrong(xs, lambda x: ..). -/
set_option Elab.async false
set_option linter.all false
set_option autoImplicit false
set_option maxRecDepth 100000
set_option maxHeartbeats 4000000
namespace DL
open PySem PySem.Spec PyProof.Rows L2 LamX
section
variable {X : Cx} {pins : List (Addr × Obj)} {σ : L2.St} {H : Hp} {s : Shared}
/-- the lambda is made; nothing but the table at tb changes -/
theorem lam_made {T : List (Addr × Str)} {cd tb : Addr} {pms : Arguments} {bd : Expr} {lsc : Scope} {lp : Pos} {Er : Value → Shared → Prop} {Q : Value → Shared → Prop} (I : L2.Inv X pins σ H s) (TB : TabB X.base X.mg cd tb) (hcode : X.env.code = .ref cd)
    (hmem : (tb, X.env.qual ++ "<lambda>") ∈ T) (huni : ∀ p ∈ T, p.1 = tb → p.2 = X.env.qual ++ "<lambda>") (hT : Tabs T H) (hdf : defaultsOf pms X.env = ([], [])) (hfr : ∀ y ∈ lsc.names, y.2 = .free → ∃ c, X.env.cells.lookup y.1 = some c)
    (h : ∀ (f lc : Addr) (pm ctv : Value) (H1 : Hp) (sL : Shared), L2.Inv X pins σ H1 sL → (∀ b o, b ≠ tb → H b = some o → H1 b = some o) → Tabs T H1 →
      sL.heap.get? f = some (PySem.W.kla_obj "<lambda>" (X.env.qual ++ "<lambda>") pms bd lsc (cloFrom X.env.cells lsc.names []) pm lc ctv) → H1 f = none → f ∉ frs X.stack → H1 lc = some (CodeO lc (X.env.qual ++ "<lambda>")) → Q (.ref f) sL) :
    wpAny (model X.prog X.w) X.A (eval (.Lambda pms bd lsc lp) X.env) Q Er s := by
  obtain ⟨ts, hTb, htr, hall⟩ := hT _ hmem
  refine PySem.W.kla_eval hdf ?_
  have hb0 : s.heap.BuiltinsAt X.mg tb := TB.bm.keeps I.bk
  have hg0 : s.heap.get? tb = some { cls := .none, data := .fields ts } := I.hok tb _ hTb
  have hnof : ∀ f, s.heap.objs.size ≤ f → f ∉ frs X.stack := fun f hf z => by
    rcases List.mem_cons.mp (I.stkSub _ z) with e | e
    · have hlt := I.lt
      rw [← e] at hlt
      exact Nat.lt_irrefl _ (Nat.lt_of_lt_of_le hlt hf)
    · exact I.nofs hf e
  cases hca : codeAmong lp ts.toList with
  | some cv =>
    obtain ⟨lc, e, hlc⟩ := hall lp cv hca
    subst e
    refine PySem.W.kla_makeFunctionHit (mg := X.mg) (c := cd) (P := tb) (ps := ts) (closure_ok hfr) I.ok.glob (I.mod.glob.keeps I.bk) hcode (TB.code.keeps I.bk) hg0 htr hca hb0 fun ctv hL tk hx hsz => ?_
    have IL : L2.Inv X pins σ H { s with heap := hL.push (PySem.W.kla_obj "<lambda>" (X.env.qual ++ "<lambda>") pms bd lsc (cloFrom X.env.cells lsc.names []) ((X.mg "__name__").getD .none) lc ctv), toks := tk } := I.kept fun b o e => Heap.get?_push_of_some _ (hx b o e)
    exact h hL.objs.size lc ((X.mg "__name__").getD .none) ctv H _ IL (fun _ _ _ e => e) hT (Heap.get?_push_size _ rfl) (I.hok.fresh hsz) (hnof _ hsz) hlc
  | none =>
    refine PySem.W.kla_makeFunction (mg := X.mg) (c := cd) (P := tb) (ps := ts) (closure_ok hfr) I.ok.glob (I.mod.glob.keeps I.bk) hcode (TB.code.keeps I.bk) hg0 htr hca TB.gP hb0 fun lc ctv hL tk hx hge hlt hrec htb => ?_
    obtain ⟨lc2, oc, vs, tq, eq2, hoc, hdt, hvs⟩ := hrec
    cases eq2
    have hsz : s.heap.objs.size ≤ hL.objs.size := Nat.le_trans hge (Nat.le_of_lt hlt)
    have hnC : H lc = none := I.hok.fresh hge
    have IL := inv_table (t' := tk) (more := #[rawInt lp.line, rawInt lp.col, .ref lc]) (h' := hL.push (PySem.W.kla_obj "<lambda>" (X.env.qual ++ "<lambda>") pms bd lsc (cloFrom X.env.cells lsc.names []) ((X.mg "__name__").getD .none) lc ctv)) I hTb
      (fun b o hb e => Heap.get?_push_of_some _ (hx b o hb e)) (Heap.get?_push_of_some _ htb) hge ⟨oc, vs, tq, Heap.get?_push_of_some _ hoc, hdt, hvs⟩
    have hkeep : ∀ b o, b ≠ tb → H b = some o → upd (upd H tb (.tbl (ts ++ #[rawInt lp.line, rawInt lp.col, .ref lc]))) lc (CodeO lc (X.env.qual ++ "<lambda>")) b = some o := fun b o hb e => by
      rw [upd_ne (ne_of_none e hnC), upd_ne hb]
      exact e
    have codeK : ∀ {c0 : Addr} {q : Str}, H c0 = some (CodeO c0 q) → upd (upd H tb (.tbl (ts ++ #[rawInt lp.line, rawInt lp.col, .ref lc]))) lc (CodeO lc (X.env.qual ++ "<lambda>")) c0 = some (CodeO c0 q) := fun {c0 q} e =>
      hkeep c0 _ (fun z => codeO_ne ts (Option.some.inj (e.symm.trans (by rw [z]; exact hTb)))) e
    have eApp : (ts ++ #[rawInt lp.line, rawInt lp.col, .ref lc]).toList = ts.toList ++ [rawInt lp.line, rawInt lp.col, .ref lc] := by simp
    refine h hL.objs.size lc ((X.mg "__name__").getD .none) ctv _ _ IL hkeep (fun p hp => ?_) (Heap.get?_push_size _ rfl) ?_ (hnof _ hsz) upd_same
    · by_cases hb : p.1 = tb
      · rw [huni p hp hb, hb]
        refine ⟨_, by rw [upd_ne (ne_of_none hTb hnC), upd_same], by rw [eApp]; exact PySem.TriplesOk_snoc _ _ _ _ htr, fun q cv hcv => ?_⟩
        rw [eApp] at hcv
        rcases among_app _ htr hcv with z | z
        · obtain ⟨c0, z1, z2⟩ := hall q cv z
          exact ⟨c0, z1, codeK z2⟩
        · exact ⟨lc, z, upd_same⟩
      · obtain ⟨ts2, b1, b2, b3⟩ := hT p hp
        refine ⟨ts2, by rw [upd_ne (ne_of_none b1 hnC), upd_ne hb]; exact b1, b2, fun q cv hcv => ?_⟩
        obtain ⟨c0, z1, z2⟩ := b3 q cv hcv
        exact ⟨c0, z1, codeK z2⟩
    · have d1 : hL.objs.size ≠ lc := Nat.ne_of_gt hlt
      have d2 : hL.objs.size ≠ tb := Nat.ne_of_gt (Nat.lt_of_lt_of_le (Heap.lt_size hg0) hsz)
      rw [upd_ne d1, upd_ne d2]
      exact I.hok.fresh hsz
end
/-- the relation behind it -/
theorem Rel.tabled {K : Frag} {ci : Ci} {G : Gh} {F P H H1 : Hp} {ρ : Env} {σ : L2.St} {tb : Addr} (r : Rel K ci G F P ρ σ H) (ht : ∃ p ∈ G.tabs, p.1 = tb) (hk : ∀ b o, b ≠ tb → H b = some o → H1 b = some o) (hT : Tabs G.tabs H1) (htb : ∃ ps, H tb = some (.tbl ps)) : Rel K ci G F P ρ σ H1 := by
  have hreg : reg G tb := .inl ht
  have hF : F tb = none := r.ok.fr tb hreg
  have hP : P tb = none := r.rp tb hreg
  obtain ⟨ps, htb⟩ := htb
  have nt : ∀ {b : Addr} {o : HO}, H b = some o → (∀ q, o ≠ .tbl q) → b ≠ tb := fun {b o} e n z => by
    rw [z, htb] at e
    exact n ps (Option.some.inj e).symm
  exact {
    sf := fun b o e => hk b o (ne_of_none e hF) (r.sf b o e)
    sp := fun b o e => hk b o (ne_of_none e hP) (r.sp b o e)
    dj := r.dj
    rp := r.rp
    ok := ⟨hT, r.ok.fr, fun a g c q => by
      obtain ⟨gs, cs, r1, t, h1, h2, h3, h⟩ := r.ok.st a g c q
      exact ⟨gs, cs, r1, t, hk _ _ (nt h1 fun q z => by cases z) h1, hk _ _ (nt h2 fun q z => by cases z) h2, hk _ _ (nt h3 fun q z => by cases z) h3, h⟩⟩
    len := r.len
    sh := r.sh
    ow := fun i d h => by
      obtain ⟨p, h1, h2, h3, h4, h5⟩ := r.ow i d h
      obtain ⟨o, ho⟩ := h2.there
      exact ⟨p, h1, h2.mono (Rc.Le.refl _) (Same.refl _) ((hk p o (fun z => h5 (by rw [z]; exact hreg)) ho).trans ho.symm), h3, h4, h5⟩
    ap := r.ap
    tb := r.tb }
/-! ### the lambda's body -/
/-- at most parameters, no cells -/
structure LamP (sc lsc : Scope) (ps : List Str) : Prop where
  kind : lsc.kind = .function
  co : lsc.isCoroutine = false
  gen : lsc.isGenerator = false
  nocell : ∀ y ∈ lsc.names, y.2 ≠ .cell
  loc : ∀ y ∈ lsc.names, y.2 = .local → y.1 ∈ ps
  par : ∀ y ∈ ps, lsc.names.lookup y = some .local
  free : ∀ y ∈ lsc.names, y.2 = .free → sc.names.lookup y.1 = some .cell ∨ sc.names.lookup y.1 = some .free
def lamPB (sc lsc : Scope) (ps : List Str) : Bool :=
  (match lsc.kind with | .function => true | _ => false) && !lsc.isCoroutine && !lsc.isGenerator && (lsc.names.all fun y => (match y.2 with
    | .cell => false
    | .local => ps.contains y.1
    | .free => (match sc.names.lookup y.1 with | some .cell => true | some .free => true | _ => false)
    | _ => true)) && ps.all fun y => (match lsc.names.lookup y with | some .local => true | _ => false)
theorem lamP_by {sc lsc : Scope} {ps : List Str} (h : lamPB sc lsc ps = true) : LamP sc lsc ps := by
  unfold lamPB at h
  simp only [Bool.and_eq_true, Bool.not_eq_true', List.all_eq_true] at h
  obtain ⟨⟨⟨⟨h1, h2⟩, h3⟩, h4⟩, h5⟩ := h
  refine ⟨?_, h2, h3, fun y hy e => ?_, fun y hy e => ?_, fun y hy => ?_, fun y hy e => ?_⟩
  · revert h1; cases lsc.kind <;> simp
  · have := h4 y hy; rw [e] at this; cases this
  · have := h4 y hy; rw [e] at this; simpa using this
  · have := h5 y hy
    revert this
    cases lsc.names.lookup y with
    | none => simp
    | some k => cases k <;> simp
  · have := h4 y hy
    rw [e] at this
    revert this
    cases sc.names.lookup y.1 with
    | none => simp
    | some k => cases k <;> simp
end DL
end
section
/-! DL13: a lambda called; first_wrong. -/
set_option Elab.async false
set_option linter.all false
set_option autoImplicit false
set_option maxRecDepth 100000
set_option maxHeartbeats 4000000
namespace DL
open PySem PySem.Spec PyProof.Rows L2 LamX
section
variable {X : Cx} {pins : List (Addr × Obj)} {σ σ' : L2.St} {H HZ : Hp} {s s1 : Shared}
theorem lam_start {A : Around} {outer : List PySem.Env} {E : XK} {lsc : Scope} {f lc : Addr} {h₁ : Heap} {tk : Nat} {ps : List Str} {m : Str → Option Value} (I : L2.Inv X pins σ H s) (L : LamP X.env.scope lsc ps) (e0 : Env0 X.prog X.w X.K X.mg X.base A outer s1 HZ) (hd : A.handled = none)
    (un : Un (frs X.stack) [] H HZ s.heap s1.heap) (hns : h₁.Ns s1.heap.objs.size m) (kp : ∀ b o, s1.heap.get? b = some o → h₁.get? b = some o) (hlen : σ'.length = σ.length)
    (hlc : ∀ (i : Nat) y v, X.N[i]? = some y → σ'[i]? = some (some v) → (y ∈ ps → ∃ u, RelV v u ∧ m y = some u) ∧ (y ∉ ps → σ[i]? = some (some v))) :
    L2.Inv (lamCx X A outer s1 HZ E lsc f lc) [] σ' HZ { s1 with heap := h₁, toks := tk } := by
  have hfree : ∀ y ∈ lsc.names, y.2 = .free → ∃ c, X.env.cells.lookup y.1 = some c := fun y hy e => by
    rcases L.free y hy e with k | k
    · exact I.ok.has _ (.inl k)
    · exact I.ok.has _ (.inr k)
  have below : ∀ {y c}, (cloFrom X.env.cells lsc.names []).lookup y = some c → X.env.cells.lookup y = some c := fun {y c} e => by
    rcases cloFrom_mem (PySem.mem_of_lookup e) with hm | ⟨h1, h2⟩
    · cases hm
    · obtain ⟨c1, hc⟩ := hfree _ h1 rfl
      have hc : X.env.cells.lookup y = some c1 := hc
      have e2 : c = c1 := by
        rw [h2, hc] <;> rfl
      rw [e2]
      exact hc
  have there : ∀ {y}, lsc.names.lookup y = some .free → ∃ c, (cloFrom X.env.cells lsc.names []).lookup y = some c := fun {y} hl => by
    have hy : (y, NameKind.free) ∈ lsc.names := PySem.mem_of_lookup hl
    exact mem_lookup (cloFrom_has (cells := X.env.cells) (acc := []) hy)
  have held : ∀ {c : Addr} {v : Option Value}, H c = none → s.heap.IsCell c v → h₁.IsCell c v := fun {c v} n ⟨o, ho, hdt⟩ => by
    obtain ⟨sl, q⟩ := un.any ho n (by simp)
    exact ⟨_, kp _ _ q, hdt⟩
  have none' : ∀ b : Addr, b ∉ (lamCx X A outer s1 HZ E lsc f lc).ex := fun b z => absurd (show b ∈ ([] : List Addr) from z) (by simp)
  refine ⟨⟨e0.mod, L.kind, rfl, rfl, Nat.le_refl _, fun y z c q1 q2 => I.ok.inj y z c (below q1) (below q2), fun y hy => ?_, fun y c z _ => ?_, fun _ => hd, Around.frames_deeper e0.frames, .inr ⟨rfl, rfl⟩, fun b z => absurd z (none' b), e0.bs, e0.bsz, fun b _ _ => none' b,
      fun b z => absurd z (none' b), e0.funs, e0.frf⟩,
    rfl, e0.bare, Un.kept kp, ⟨_, hns, fun i y v q1 q2 q3 => ?_⟩, fun y c e => ?_, e0.hok.fresh (Nat.le_refl _), fun y c e => ?_, fun q hq => absurd (show q ∈ ([] : List (Addr × Obj)) ++ [] from hq) (by simp), e0.hok.kept kp, hlen.trans I.len⟩
  · have hy : lsc.names.lookup y = some .cell ∨ lsc.names.lookup y = some .free := hy
    rcases hy with hy | hy
    · exact absurd rfl (L.nocell _ (PySem.mem_of_lookup hy))
    · exact there hy
  · have z : false = true := z
    cases z
  · have q3 : Vis lsc y := q3
    rcases q3 with k | k | k
    · obtain ⟨u, ru, hu⟩ := (hlc i y v q1 q2).1 (L.loc _ (PySem.mem_of_lookup k) rfl)
      exact ⟨u, ru, .inl ⟨k, hu⟩⟩
    · exact absurd rfl (L.nocell _ (PySem.mem_of_lookup k))
    · have hnp : y ∉ ps := fun z => by
        have := L.par y z
        rw [k] at this
        cases this
      have q2' := (hlc i y v q1 q2).2 hnp
      obtain ⟨m0, hn0, hl0⟩ := I.loc
      have hvis : Vis X.env.scope y := (L.free _ (PySem.mem_of_lookup k) rfl).elim (fun k => .inr (.inl k)) (fun k => .inr (.inr k))
      obtain ⟨w', r, q⟩ := hl0 i y v q1 q2' hvis
      obtain ⟨c2, h2⟩ := there k
      refine ⟨w', r, .inr ⟨.inr k, c2, h2, ?_⟩⟩
      have c1 := below h2
      rcases q with ⟨k', _⟩ | ⟨_, c3, e', z⟩
      · have k' : X.env.scope.names.lookup y = some .local := k'
        rcases L.free _ (PySem.mem_of_lookup k) rfl with k2 | k2 <;> rw [show X.env.scope.names.lookup y = _ from k2] at k' <;> cases k'
      · rw [c1] at e'
        cases e'
        exact held (I.freeC y _ c1) z
  · obtain ⟨w', z⟩ := I.cell y c (below e)
    exact ⟨w', held (I.freeC y c (below e)) z⟩
  · obtain ⟨v, o, ho, hdt⟩ := I.cell y c (below e)
    exact un.free c o ho (I.freeC y c (below e)) (by simp)
/-- the lambda runs, entered from the frames outer -/
theorem lam_run {A : Around} {outer : List PySem.Env} {E : XK} {lsc : Scope} {f lc : Addr} {ps : List Str} {pms : Arguments} {bd : Expr} {pm ctv : Value} {us : List Value} {k : Nat} {tb : TE} {Q : VK} (I : L2.Inv X pins σ H s) (L : LamP X.env.scope lsc ps)
    (hf : s1.heap.get? f = some (PySem.W.kla_obj "<lambda>" (X.env.qual ++ "<lambda>") pms bd lsc (cloFrom X.env.cells lsc.names []) pm lc ctv))
    (hbind : bindArgs (PySem.W.kla_fn "<lambda>" (X.env.qual ++ "<lambda>") pms bd lsc (cloFrom X.env.cells lsc.names []) pm (.ref lc) ctv) ⟨us, []⟩ = pure (ps.zip us))
    (e0 : Env0 X.prog X.w X.K X.mg X.base A outer s1 HZ) (un : Un (frs X.stack) [] H HZ s.heap s1.heap) (hc : HZ lc = some (CodeO lc (X.env.qual ++ "<lambda>"))) (hr : Room (k + 1) A) (hlen : σ'.length = σ.length)
    (hlc : ∀ (i : Nat) y v, X.N[i]? = some y → σ'[i]? = some (some v) → (y ∈ ps → ∃ u, RelV v u ∧ (ps.zip us).reverse.lookup y = some u) ∧ (y ∉ ps → σ[i]? = some (some v)))
    (hbody : Room k (A.deeper (lamEnv X lsc s1.heap.objs.size f lc)) → PE (lamCx X A outer s1 HZ E lsc f lc) bd tb) (ht : tb σ' HZ Q) :
    codeAny (model X.prog X.w) A (.call (.ref f) ⟨us, []⟩) (CR (L2.CX X.prog X.w) outer X.prog X.w HZ s1 Q E) s1 := by
  obtain ⟨⟨oc, vs, t, hoc, hdc, hvc⟩, _, _⟩ := e0.hok lc _ hc
  have lim : s1.heap.NoLimit := e0.mod.nolimit.keeps fun b o e => (e0.bs b o e).1
  refine PySem.W.kla_callFunE hr.depth hf rfl L.co L.gen rfl ⟨lc, oc, vs, t, rfl, hoc, hdc, hvc⟩ ?_
  rw [hbind]
  refine wpAny_pure (wpAny_newFunctionEnv (fun y hy => L.nocell y hy) (fun ⟨n, _⟩ hy => L.par n (List.of_mem_zip hy).1) (fun h₁ hns hsb => ⟨lim.fresh _ hsb, ?_⟩) L.kind)
  show codeAny _ _ (.expr bd (lamEnv X lsc s1.heap.objs.size f lc)) _ _
  have kp : ∀ b o, s1.heap.get? b = some o → h₁.get? b = some o := fun b o e => hsb.extBut b o (Nat.ne_of_lt (Heap.lt_size e)) (Heap.get?_push_of_some _ e)
  have J : L2.Inv (lamCx X A outer s1 HZ E lsc f lc) [] σ' HZ { s1 with heap := h₁, toks := s1.toks + (ps.zip us).length } := lam_start I L e0 hr.hd un hns kp hlen hlc
  refine PySem.W.kla_codeExpr (wpAny_mono ((hbody (hr.deeper _)).run [] _ _ HZ Q J ht) (fun v s' hq => ?_) fun e s' hq => hq)
  obtain ⟨w', H', J', rv, q⟩ := hq
  exact ⟨w', H', J'.os, J'.bare, J'.base, J'.hok, rv, q⟩
end
end DL
end
section
/-! DL14: first_wrong(xs, lambda x: ..). -/
set_option Elab.async false
set_option linter.all false
set_option autoImplicit false
set_option maxRecDepth 100000
set_option maxHeartbeats 4000000
namespace DL
open PySem PySem.Spec PyProof.Rows L2 LamX
section
variable {K : Frag} {ci : Ci} {G : Gh} {F P H : Hp} {ρ : Env} {σ : L2.St}
/-- other slots, all shared -/
theorem Rel.swap (r : Rel K ci G F P ρ σ H) {ρ' : Env} {σ' : L2.St} (hl : ρ'.length = σ'.length) (hs : ∀ (i : Nat) d, ρ'[i]? = some (.sh d) → ∃ v, σ'[i]? = some (some v) ∧ Rep (rc K ci G) F v d) (ho : ∀ (i : Nat) d, ρ'[i]? = some (.ow d) → False) : Rel K ci G F P ρ' σ' H :=
  ⟨r.sf, r.sp, r.dj, r.rp, r.ok, hl, hs, fun i d h => (ho i d h).elim, fun i j d e p _ h => (ho i d h).elim, r.tb⟩
theorem hide_sh {i : Nat} {d : D} (h : (hide ρ)[i]? = some (.sh d)) : ρ[i]? = some (.sh d) := by
  unfold hide at h
  rw [List.getElem?_map] at h
  cases q : ρ[i]? with
  | none => rw [q] at h; cases h
  | some s => rw [q] at h; cases s <;> cases h; rfl
theorem hide_ow {i : Nat} {d : D} (h : (hide ρ)[i]? = some (.ow d)) : False := by
  unfold hide at h
  rw [List.getElem?_map] at h
  cases q : ρ[i]? with
  | none => rw [q] at h; cases h
  | some s => rw [q] at h; cases s <;> cases h
/-- what a def's own body sees of the slots while a lambda of it runs -/
theorem Rel.hid (r : Rel K ci G F P ρ σ H) {N : Nat} {G' : Gh} {F' P' H' : Hp} (l : Gh.Le N G G') (s : Same F F') {ρ2 : Env} {σ2 : L2.St} (r' : Rel K ci G' F' P' ρ2 σ2 H') : Rel K ci G' F' P' (hide ρ) σ H' :=
  r'.swap (by unfold hide; rw [List.length_map]; exact r.len) (fun i d h => by
    obtain ⟨v, h1, h2⟩ := r.sh i d (hide_sh h)
    exact ⟨v, h1, h2.mono (rc_le K ci l) s⟩) fun i d h => hide_ow h
/-- a code object stays known -/
theorem Rel.keepCode (r : Rel K ci G F P [] [] H) {lc : Addr} {q : Str} (h : H lc = some (CodeO lc q)) : ∃ F1, Same F F1 ∧ Rel K ci G F1 P [] [] H ∧ (F1 lc = some (CodeO lc q) ∨ P lc = some (CodeO lc q)) := by
  cases hF : F lc with
  | some o =>
    refine ⟨F, Same.refl F, r, .inl ?_⟩
    rw [← h, r.sf _ _ hF]
    exact hF
  | none =>
    cases hP : P lc with
    | some o =>
      refine ⟨F, Same.refl F, r, .inr ?_⟩
      rw [← h, r.sp _ _ hP]
    | none =>
      have hr : ¬ reg G lc := fun z => by
        rcases z with ⟨p, hp, e⟩ | ⟨a, g, c, e, z⟩
        · obtain ⟨ps, e1, _⟩ := r.ok.tabs p hp
          rw [e, h] at e1
          exact codeO_ne ps (Option.some.inj e1)
        · obtain ⟨gs, cs, r1, t, h1, h2, h3, _⟩ := r.ok.st a g c e
          unfold CodeO at h
          rcases z with z | z | z
          · rw [z, h1] at h; cases h
          · rw [z, h2] at h; cases h
          · rw [z, h3] at h; cases h
      exact ⟨upd F lc (CodeO lc q), same_upd hF, r.freeze ⟨hF, hP, hr, fun i d h => by simp at h⟩ h, .inl upd_same⟩
theorem enumFrom_at : ∀ (n : Nat) (ds : List D) (i : Nat) (h : i < ds.length), (enumFrom n ds)[i]? = some (.tup [.int ((n + i : Nat) : Int), ds[i]])
  | n, d :: r, 0, _ => rfl
  | n, d :: r, i + 1, h => by
    show (enumFrom (n + 1) r)[i]? = _
    rw [enumFrom_at (n + 1) r i (by simpa using h)]
    have e : n + 1 + i = n + (i + 1) := by omega
    rw [e]
    rfl
end
theorem Goes.stop' {K : Frag} {ci : Ci} {G : Gh} {F H : Hp} {J : It} {ds : List D} {n : Nat} (g : Goes K ci G F J ds) (s : Same F H) (h : ds.length = n) : J.stop n H := by
  rw [← h]
  exact g.stop H s
abbrev fwBody (p1 p2 p3 p4 p5 p6 p7 p8 p9 p10 p11 p12 p13 p14 p15 p16 : Pos) (k1 j : Nat) : List Stmt :=
  [.For (.Tuple [.Name "index" p1, .Name "item" p2] k1 p3) (.Call (.Name "enumerate" p4) [.Name "several" p5] [] p6)
    [.If (.UnaryOp .Not (.Call (.Name "is_right" p7) [.Name "item" p8] [] p9) p10) [.Return (some (.Name "index" p11)) p12] [] p13] [] p14,
   .Return (some (.Constant .none j p15)) p16]
/-- first_wrong at the module's top -/
structure FwF (K : Frag) (mg : Str → Option Value) (st : Stmt) : Prop where
  td : Td K mg "first_wrong" st
  body : ∃ p1 p2 p3 p4 p5 p6 p7 p8 p9 p10 p11 p12 p13 p14 p15 p16 k1 j, defBody st = fwBody p1 p2 p3 p4 p5 p6 p7 p8 p9 p10 p11 p12 p13 p14 p15 p16 k1 j
  sc : FnScope ["several", "is_right", "index", "item"] ["several", "is_right"] (defScope st)
  l0 : (defScope st).names.lookup ("several" : Str) = some .local
  l1 : (defScope st).names.lookup ("is_right" : Str) = some .local
  l2 : (defScope st).names.lookup ("index" : Str) = some .local
  l3 : (defScope st).names.lookup ("item" : Str) = some .local
  le : (defScope st).names.lookup ("enumerate" : Str) = some .globalImplicit
  bd : ∀ (kV doc pm : Value) (an : Option Addr) (cdv ct : Value) (us : List Value), us.length = 2 → bindArgs (PySem.W.fnOf "first_wrong" "first_wrong" (defArgs st) (defBody st) (defScope st) .none kV doc pm an cdv ct) ⟨us, []⟩ = pure ([("several" : Str), "is_right"].zip us)
  en : mg "enumerate" = none
/-- a def whose lambdas' code objects stand in a table -/
structure LmF (base : Heap) (mg : Str → Option Value) (tabs : List (Addr × Str)) (qual : Str) (cd : Value) : Prop where
  ex : ∃ c tb, cd = .ref c ∧ TabB base mg c tb ∧ (tb, qual ++ "<lambda>") ∈ tabs ∧ ∀ p ∈ tabs, p.1 = tb → p.2 = qual ++ "<lambda>"
section
variable {X : Cx} {ci : Ci} {E : XK} {e : Expr} {d db : XE} {st : Stmt} {kk k i0 : Nat} {lx : Str} {pms : Arguments} {bd : Expr} {lsc : Scope} {p pos lpos : Pos} {zd zb : Nat}
theorem de_fw (T : FwF X.K X.mg st) (ok : Okc X E kk) (hN : X.N.Nodup) (hi0 : X.N[i0]? = some lx) (hl : LmF X.base X.mg ci.tabs X.env.qual X.env.code) (hd : DE X ci E zd e d)
    (hdf : defaultsOf pms X.env = ([], [])) (hbind : ∀ (q : Str) (cl : List (Str × Addr)) (pm cv ctv : Value) (u : Value), bindArgs (PySem.W.kla_fn "<lambda>" q pms bd lsc cl pm cv ctv) ⟨[u], []⟩ = pure [(lx, u)])
    (hb : ∀ (A : Around) (outer : List PySem.Env) (s : Shared) (H : Hp) (f lc : Addr), Okc (lamCx X A outer s H E0 lsc f lc) E0 k → DE (lamCx X A outer s H E0 lsc f lc) ci E0 zb bd db)
    (hg : Gl X "first_wrong") (hk : k + 2 ≤ kk := by decide) (hL : lamPB X.env.scope lsc [lx] = true := by kernel_rfl)
    (he : starEach [e, .Lambda pms bd lsc lpos] X.env = (false, eval e X.env) :: starEach [.Lambda pms bd lsc lpos] X.env := by rfl) (he2 : starEach [.Lambda pms bd lsc lpos] X.env = (false, eval (.Lambda pms bd lsc lpos) X.env) :: starEach [] X.env := by rfl) (hpl : (backTo pos (starEach [.Lambda pms bd lsc lpos] X.env)).any (·.1) = false := by rfl) :
    DE X ci E (zd + line * zb) (.Call (.Name "first_wrong" p) [e, .Lambda pms bd lsc lpos] [] pos) (dFw d i0 db) := by
  have L := lamP_by hL
  obtain ⟨g, fd, Fn, hmg⟩ := T.td.ex
  obtain ⟨oc, od, kV, doc, pm0, an, cdv, ct, osl, rfl, lk, hcd⟩ := Fn.ex
  obtain ⟨p1, p2, p3, p4, p5, p6, p7, p8, p9, p10, p11, p12, p13, p14, p15, p16, k1, j, hbody⟩ := T.body
  refine ⟨fun pins s σ H Q I ⟨G, P, F, ρ, W, bd0, rel, hdW, hw⟩ => ?_⟩
  refine wpAny_Call_Name_kw (ld_glob I hg hmg ?_ (by decide))
  refine PySem.W.callWith_K (h₀ := X.base) I.ok.mod.kin Fn.kp ?_ he hpl
  rw [he]
  show wpAny _ _ (spliced ((false, eval e X.env) :: backTo pos (starEach [.Lambda pms bd lsc lpos] X.env))) _ _ s
  refine Calls.spliced_cons (thn (hd.run pins s σ H (fun v0 H1 => ∃ G1 F1 x, Gh.Le (G.n + zd) G G1 ∧ Same F F1 ∧ Rel X.K ci G1 F1 P ρ σ H1 ∧ Rep (rc X.K ci G1) F1 v0 x ∧ (M.get (seqL x) >>= fun ds => fwL (fun x => M.calm (tOf db ((hide ρ).set i0 (.sh x)))) 0 ds) W) I ⟨G, P, F, ρ, _, by omega, rel, hdW, fun o ho => ?_⟩) fun u0 s1 ⟨v0, H1, I1, rv0, G1, F1, x, l1, e1, r1, x1, hx⟩ => ?_)
  · cases o with
    | exc c fs => exact XP.lo (hw _ ho)
    | ok a => exact fun G1 F1 H1 v l1 s1 r1 x1 => ⟨G1, F1, a, l1, s1, r1, x1, ho⟩
  obtain ⟨ds, hds, hfw⟩ := get_ok (show (M.get (seqL x) _) from hx)
  rw [he2]
  show wpAny _ _ (spliced ((false, eval (.Lambda pms bd lsc lpos) X.env) :: backTo pos (starEach [] X.env))) _ _ s1
  obtain ⟨cdA, tb, hcodeE, TB, hmem, huni⟩ := hl.ex
  rw [← r1.tb] at hmem huni
  refine Calls.spliced_cons (lam_made I1 TB hcodeE hmem huni r1.ok.tabs hdf (fun y hy e => (L.free y hy e).elim (fun k => I1.ok.has _ (.inl k)) fun k => I1.ok.has _ (.inr k)) fun f lc pm ctv H2 s2 I2 hkeep T2 hf hfn hfr hco => ?_)
  refine Calls.spliced_nil ⟨I2.kIn, ?_⟩
  have r2 : Rel X.K ci G1 F1 P ρ σ H2 := r1.tabled ⟨_, hmem, rfl⟩ hkeep T2 (let ⟨ps, e, _⟩ := r1.ok.tabs _ hmem; ⟨ps, e⟩)
  obtain ⟨P', r3, hP, back⟩ := r2.shut
  obtain ⟨F2, e2, r4, hcode⟩ := r3.keepCode hco
  have codeAt : ∀ {G' : Gh} {F' H' : Hp} {ρ' : Env} {σ' : L2.St}, Same F2 F' → Rel X.K ci G' F' P' ρ' σ' H' → H' lc = some (CodeO lc (X.env.qual ++ "<lambda>")) := fun {G' F' H' ρ' σ'} e r => hcode.elim (fun z => r.sf _ _ (e _ _ z)) fun z => r.sp _ _ z
  have rcall : codeAny (model X.prog X.w) X.A (.call (.ref g) ⟨[u0, .ref f], []⟩) (CR (L2.CX X.prog X.w) X.stack X.prog X.w H2 s2 (fun v H' => ∃ G' F' d, Gh.Le (G1.n + line * zb) G1 G' ∧ Same F2 F' ∧ Rel X.K ci G' F' P' [] [] H' ∧ Rep (rc X.K ci G') F' v d ∧ W (.ok d)) E0) s2 := by
    refine run_ofS (N := ["several", "is_right", "index", "item"]) (ps := ["several", "is_right"]) (us := [u0, .ref f]) (vs := [v0, .ref f]) (k := kk - 1) lk hcd T.sc (ok.room.mono (by omega)) I2.env0 (.of_eq (T.bd kV doc pm0 an cdv ct [u0, .ref f] rfl)) (.cons rv0 (.cons rfl .nil)) rfl fun hrZ => ?_
    rw [hbody]
    let Z : Cx := cxOf (L2.CX X.prog X.w) X.prog X.w X.K X.mg X.base ["several", "is_right", "index", "item"] "first_wrong" (defScope st) g cdv X.A X.stack s2 H2 E0
    have act : PE Z (.Call (.Name "is_right" p7) [.Name "item" p8] [] p9) (fun σZ HZ QZ => ∃ v, σZ[1]? = some (some (.ref f)) ∧ σZ[3]? = some (some v) ∧ HZ lc = some (CodeO lc (X.env.qual ++ "<lambda>")) ∧ tE X.K ci E0 zb .sh db (σ.set i0 (some v)) HZ QZ) := by
      refine ⟨fun pinsZ sZ σZ HZ QZ IZ hZ => ?_⟩
      obtain ⟨v, q1, q3, qc, qt⟩ := hZ
      refine wpAny_Call_Name_kw (thn ((pe_var (X := Z) (pos := p7) (i := 1) (x := ("is_right" : Str)) rfl (.inl T.l1)).run pinsZ sZ σZ HZ (fun v H1 => v = .ref f ∧ H1 = HZ) IZ ⟨.ref f, q1, rfl, rfl⟩) fun u3 s3 ⟨w3, H3, I3, rv3, z3, eH3⟩ => ?_)
      subst z3 eH3
      obtain rfl : u3 = Value.ref f := rv3
      have fnAt : ∀ {s4 : Shared} {H4 : Hp} {p4 : List (Addr × Obj)}, L2.Inv Z p4 σZ H4 s4 → s4.heap.get? f = some (PySem.W.kla_obj "<lambda>" (X.env.qual ++ "<lambda>") pms bd lsc (cloFrom X.env.cells lsc.names []) pm lc ctv) := fun {s4 H4 p4} I4 => I4.base.keep f _ hf hfn hfr fun z => nomatch (show f ∈ ([] : List Addr) from z)
      refine PySem.W.callWith_F ⟨_, _, _, _, fnAt I3⟩ (thn ((pa_cons (X := Z) (pe_var (pos := p8) (i := 3) (x := ("item" : Str)) rfl (.inl T.l3)) pa_nil rfl).run p9 pinsZ s3 σZ H3 (fun vs H4 => vs = [v] ∧ H4 = H3) I3 ⟨v, q3, rfl, rfl⟩) fun us s4 ⟨vs, H4, I4, rv4, z4, eH4⟩ => ⟨⟨_, _, _, _, fnAt I4⟩, ?_⟩) rfl rfl
      subst z4 eH4
      cases rv4 with
      | @cons _ u4 _ us4 ra rb =>
        cases rb
        have hZr : Room (k + 1) Z.A := hrZ.mono (by omega)
        have run := lam_run (A := Z.A) (outer := Z.stack) (E := E0) (σ' := σ.set i0 (some v)) (ps := [lx]) (us := [u4]) (k := k) (tb := tE X.K ci E0 zb .sh db) (Q := QZ) I2 L (fnAt I4) (hbind _ _ _ _ _ _) I4.env0 I4.base qc hZr (List.length_set ..) (fun i y w e1 e2 => ?_) (fun hr3 => hb _ _ _ _ _ _ ⟨hr3, rfl, passL⟩) qt
        · refine wpAny_call (codeAny_mono run fun r s5 hq => ?_)
          cases r with
          | error er => exact (passL (X := Z) pinsZ σZ H4 s4 er s5 I4 hq)
          | ok fl =>
            cases fl with
            | ret u => exact I4.after hq
            | next => exact False.elim hq
            | brk => exact False.elim hq
            | cont => exact False.elim hq
        · by_cases hi : i0 = i
          · subst hi
            rw [hi0] at e1
            cases e1
            rw [List.getElem?_set_self (by rw [I2.len]; exact (List.getElem?_eq_some_iff.mp hi0).1)] at e2
            cases e2
            exact ⟨fun _ => ⟨u4, ra, by show List.lookup lx [(lx, u4)] = _; simp [List.lookup]⟩, fun z => (z (by simp)).elim⟩
          · rw [List.getElem?_set_ne hi] at e2
            refine ⟨fun z => ?_, fun _ => e2⟩
            have ey : y = lx := by simpa using z
            subst ey
            exact (hi (nodup_ix hN hi0 e1)).elim
    have di := di_enum (X := Z) (ci := ci) (E := E0) (elts := [.Name "index" p1, .Name "item" p2]) (kk := k1) (tpos := p3) (p := p4) (pos := p6) T.le T.en (de_var (X := Z) (ci := ci) (E := E0) (pos := p5) (i := 0) (x := ("several" : Str)) rfl (.inl T.l0)) rfl
    have dg := dg_tup (X := Z) (ci := ci) (js := [2, 3]) (k := k1) (pos := p3) (n := 2) rfl (dgs_cons (dg_name (pos := p1) (i := 2) (x := ("index" : Str)) T.sc.nd rfl (.inl T.l2) (by decide) (.inl rfl)) (dgs_cons (dg_name (pos := p2) (i := 3) (x := ("item" : Str)) T.sc.nd rfl (.inl T.l3) (by decide) (.inl rfl)) dgs_nil rfl) rfl) rfl rfl
    refine ⟨_, pss_cons (ps_for (X := Z) (passes_of rfl) rfl di dg (pss_one (ps_if (pt_not (pt_val act)) (pss_one (ps_ret (pe_var (X := Z) (pos := p11) (i := 2) (x := ("index" : Str)) rfl (.inl T.l2)))) pss_nil))) (pss_one (ps_ret pe_non)), ?_⟩
    have eS : L2.start ["several", "is_right", "index", "item"] [v0, .ref f] = [some v0, some (.ref f), none, none] := rfl
    rw [eS]
    have rZ : Rel X.K ci G1 F2 P' [.sh x, .no, .no, .no] [some v0, some (.ref f), none, none] H2 := r4.swap rfl (fun i d h => by
      match i, h with
      | 0, h => cases h; exact ⟨v0, rfl, x1.mono (Rc.Le.refl _) e2⟩
      | 1, h => cases h
      | 2, h => cases h
      | 3, h => cases h
      | i + 4, h => simp at h) (fun i d h => by
      match i, h with
      | 0, h => cases h
      | 1, h => cases h
      | 2, h => cases h
      | 3, h => cases h
      | i + 4, h => simp at h)
    have ln1 := l1.n
    refine ⟨G1, P', F2, _, fun o => o = .ok (enumFrom 0 ds), by omega, rZ, ?_, fun o ho => ?_⟩
    · show (M.get (seqL x) >>= fun ds => pure (enumFrom 0 ds)) _
      rw [hds]
      exact rfl
    subst ho
    intro G3 F3 H3 J l3 e3 r5 goes
    have ln3 := l3.n
    have hline : ∀ k, k ≤ ds.length → k * zb ≤ line * zb := fun k hk => Nat.mul_le_mul_right _ (Nat.le_trans hk (by have := goes.len; rw [enumFrom_len] at this; exact this))
    refine ⟨fun i n σZ HZ => n = ds.length - i ∧ i ≤ ds.length ∧ σZ.length = 4 ∧ σZ[1]? = some (some (.ref f)) ∧ ∃ G' F', ∃ W' : Out D → Prop, Gh.Le (G3.n + i * zb) G3 G' ∧ Same F3 F' ∧ Rel X.K ci G' F' P' [] [] HZ ∧ fwL (fun x => M.calm (tOf db ((hide ρ).set i0 (.sh x)))) i (ds.drop i) W' ∧ ∀ o, W' o → W o,
      ⟨ds.length, by simp, Nat.zero_le _, rfl, rfl, G3, F3, W, Gh.Le.refl G3, Same.refl F3, r5.base, hfw, fun _ h => h⟩, ?_⟩
    rintro i n σZ HZ ⟨rfl, hi, hl4, hs1, G', F', W', l4, e4, r6, hf6, hW'⟩
    have ln4 := l4.n
    by_cases hlt : i < ds.length
    · have hs1' := hline (i + 1) hlt
      have hs2' : (i + 1) * zb = i * zb + zb := Nat.succ_mul _ _
      have hlt' : i < (enumFrom 0 ds).length := by rw [enumFrom_len]; exact hlt
      refine .inr ⟨goes.go i HZ (e4.trans r6.sf) hlt', _, fun σ' H' p' => ⟨ds.length - (i + 1), by omega, p'⟩, fun y H' hy => ?_⟩
      obtain ⟨F5, e5, r7, ry⟩ := goes.item l4 e4 r6 (enumFrom_at 0 ds i hlt) hy
      rw [drop_of hlt] at hf6
      have r8 : Rel X.K ci G' F5 P' [.no, .no, .no, .no] σZ H' := r7.swap hl4.symm (fun i d h => by
        match i, h with
        | 0, h => cases h
        | 1, h => cases h
        | 2, h => cases h
        | 3, h => cases h
        | i + 4, h => simp at h) (fun i d h => by
        match i, h with
        | 0, h => cases h
        | 1, h => cases h
        | 2, h => cases h
        | 3, h => cases h
        | i + 4, h => simp at h)
      refine ⟨G', P', F5, _, _, fun o => o = .ok [.no, .no, .sh (.int ((0 + i : Nat) : Int)), .sh ds[i]], r8, ry, ⟨rfl, rfl⟩, fun o ho => ?_⟩
      subst ho
      intro σ3 on _ r9
      obtain ⟨v2, hv2, rv2⟩ := r9.sh 2 _ rfl
      obtain ⟨v3, hv3, rv3⟩ := r9.sh 3 _ rfl
      have hs3 : σ3[1]? = some (some (.ref f)) := (on.2 1 (by decide)).trans hs1
      have l34 := l3.trans l4
      have e34 : Same F2 F5 := e3.trans (e4.trans e5)
      have r10 : Rel X.K ci G' F5 P' (hide ρ) σ H' := r2.hid l34 (e2.trans e34) r9
      refine ⟨v3, hs3, hv3, codeAt e34 r9, G', P', F5, (hide ρ).set i0 (.sh ds[i]), _, by omega, r10.setSh rv3, hf6, fun o ho => ?_⟩
      cases o with
      | exc c fs => exact ho.elim
      | ok dx =>
        intro G6 F6 H6 z l6 e6 r11 rz
        have ln6 := l6.n
        obtain ⟨b, hb1, ho2⟩ := get_ok (show (M.get (asBl dx) _) from ho)
        cases dx <;> first | cases hb1 | skip
        cases rz
        refine ⟨_, rfl, ?_⟩
        cases b with
        | true =>
          show if (!true) = true then _ else _
          rw [if_neg (by decide)]
          exact ⟨rfl, hlt, on.1.trans hl4, hs3, G6, F6, W', (l4.trans l6).up, (e4.trans e5).trans e6, r11.base, ho2, hW'⟩
        | false =>
          show if (!false) = true then _ else _
          rw [if_pos (by decide)]
          refine ⟨v2, hv2, G6, F6, .int (i : Nat), ((l3.trans l4).trans l6).up, e34.trans e6, r11.base, ?_, hW' _ ho2⟩
          rw [Nat.zero_add] at rv2
          exact rv2.mono (rc_le _ ci l6) e6
    · have ei : i = ds.length := by omega
      subst ei
      have hs1' := hline ds.length (Nat.le_refl _)
      rw [List.drop_length] at hf6
      exact .inl ⟨goes.stop' (e4.trans r6.sf) (enumFrom_len ds 0), G', F', .non, (l3.trans l4).up, e3.trans e4, r6, .non, hW' _ hf6⟩
  refine wpAny_call (codeAny_mono rcall fun r s3 hq => ?_)
  cases r with
  | error er => exact (passL (X := X) pins σ H2 s2 er s3 I2 hq)
  | ok fl =>
    cases fl with
    | ret u =>
      obtain ⟨v, H3, I3, rv, G', F', dd, l3, e3, r5, x5, hW⟩ := I2.after hq
      obtain ⟨r6, _⟩ := back _ G' F' H3 l3 (e2.trans e3) r5
      exact ⟨v, H3, I3, rv, hw _ hW G' F' H3 v (l1.trans l3).up (e1.trans (e2.trans e3)) r6 x5⟩
    | next => exact False.elim hq
    | brk => exact False.elim hq
    | cont => exact False.elim hq
end
end DL
end
section
/-! DLC: try: .. except x as n: .., the caught object known behind it. -/
set_option Elab.async false
set_option linter.all false
set_option autoImplicit false
set_option maxRecDepth 100000
set_option maxHeartbeats 4000000
namespace DL
open PySem PySem.Spec PyProof.Rows L2
/-- a caught object, of any class -/
def KeepO (a : Addr) (cls : Value) (d : Option Addr) : HO := .ext fun h => ∃ o vs, h.get? a = some o ∧ o.cls = cls ∧ o.dict = d ∧ o.data = .fields vs
theorem keep_excO {a C : Addr} {d : Option Addr} : KeepO a (.ref C) d = ExcO a C d := rfl
section
variable {X : Cx} {pins : List (Addr × Obj)} {σ : L2.St} {H : Hp} {s : Shared}
theorem adopt {a : Addr} {oe : Obj} {vs : Array Value} {cls : Value} {d : Option Addr} (I : L2.Inv X pins σ H s) (ha : s.heap.get? a = some oe) (hz : Zc cls d oe) (hd : oe.data = .fields vs) (na : H a = none) (nL : a ≠ X.env.locals)
    (nF : a ∉ X.fs) (fresh : ∀ o, X.s_0.heap.get? a = some o → X.H_0 a = none → a ∉ X.ex → False) (npin : ∀ p ∈ X.pn ++ pins, p.1 ≠ a) : L2.Inv X pins σ (upd H a (KeepO a cls d)) s where
  ok := I.ok
  os := I.os
  bare := I.bare
  base := {
    keep := I.base.keep
    slot := I.base.slot
    free := fun b o e n hx => by
      by_cases hb : b = a
      · subst hb; exact (fresh o e n hx).elim
      · rw [upd_ne hb]; exact I.base.free b o e n hx
    there := I.base.there
    tups := fun b xs e => by
      have q := I.base.tups b xs e
      rw [upd_ne (ne_of_none q na)]; exact q
    frzs := fun b o xs e => by
      have q := I.base.frzs b o xs e
      rw [upd_ne (ne_of_none q na)]; exact q
    tbls := fun b ps e => by
      obtain ⟨more, q⟩ := I.base.tbls b ps e
      exact ⟨more, by rw [upd_ne (ne_of_none q na)]; exact q⟩ }
  loc := I.loc
  cell := I.cell
  free := by rw [upd_ne (Ne.symm nL)]; exact I.free
  freeC := fun x c e => by
    have hca : c ≠ a := fun z => by
      obtain ⟨v, o, ho, hv⟩ := I.cell x c e
      rw [z, ha] at ho
      cases ho
      rw [hd] at hv
      cases hv
    rw [upd_ne hca]
    exact I.freeC x c e
  pin := fun p hp => by
    obtain ⟨h1, h2, h3⟩ := I.pin p hp
    exact ⟨h1, by rw [upd_ne (npin p hp)]; exact h2, h3⟩
  hok := fun b o e => by
    by_cases hb : b = a
    · subst hb
      rw [upd_same] at e
      cases e
      exact ⟨⟨oe, vs, ha, hz.1, hz.2, hd⟩, ⟨oe, ha⟩, fun h1 h2 ⟨o, vs, q1, q2⟩ st => ⟨o, vs, st _ q1, q2⟩⟩
    · rw [upd_ne hb] at e
      exact (I.hok b o e).stay (fun _ _ _ q => q) (fun c q => by rw [upd_ne (ne_of_none q na)]; exact q) fun c xs q => by rw [upd_ne (ne_of_none q na)]; exact q
  len := I.len
end
/-- what the clause wishes of an error of the body -/
def wKeep (K : Frag) (c : Value) (i : Nat) (ts : Addr → Value → Option Addr → TS) (Wo : WX) (D : Ends) : WX := fun cls d σ H =>
  ∃ b, PySem.W.exmOne K cls c = some b ∧ (b = true → ∀ a, H a = none → ts a cls d { nx := fun σ2 H2 => H2 a = none → D.nx (σ2.set i none) (upd H2 a (KeepO a cls d)), rt := fun _ _ => False } (σ.set i (some (.ref a))) H) ∧
    (b = false → Wo cls d σ H)
section
variable {X : Cx} {x n : Str} {c : Value} {i : Nat} {body suite : List Stmt} {b₀ : Stmt} {np pos pos' : Pos} {tb : WX → TS} {ts : Addr → Value → Option Addr → TS} {Wo : WX}
theorem ps_try_keep (hs : X.stack = X.env :: X.outer) (hf : X.env.frame = some X.env.locals) (hN : X.N.Nodup) (hi : X.N[i]? = some n) (hln : X.env.kindOf n = some .local) (hc : Names X x c) (tk : Takes X Wo)
    (hb : ∀ (W : WX) (pn : List (Addr × Obj)) (xe : Value → Shared → Prop), Takes (X.tr pn xe) W → PassesOwn (model X.prog X.w) X.A X.env xe → PSs (X.tr pn xe) body (tb W))
    (hsu : ∀ (a : Addr) (oe : Obj) (cls : Value) (d : Option Addr) (pn : List (Addr × Obj)), Zc cls d oe → (∃ vs, oe.data = .fields vs) → PSs (X.suite a ((a, oe) :: pn)) (b₀ :: suite) (ts a cls d)) :
    PS X (.Try body [.ExceptHandler (some (.Name x np)) (some n) (b₀ :: suite) pos'] [] [] pos) (fun D σ H => tb (wKeep X.K c i ts Wo D) D σ H) := by
  refine ⟨fun pins s σ H D I h => ?_⟩
  have okX := I.ok
  have frX : X.A.frames = some (X.env :: X.outer) := by rw [okX.frames, hs]
  have locX : Loc X.env.scope n := .inl hln
  refine wpAny_Try_except ?_
  refine wpAny_mono ((hb (wKeep X.K c i ts Wo D) (X.pn ++ pins) (fun e sa => wpAny (model X.prog X.w) X.A (noteFrame e X.env) (fun _ sb => wpAny (model X.prog X.w) X.A (setFlight e none) (fun _ sc =>
    wpAny (model X.prog X.w) X.A (handleBy e X.env [.ExceptHandler (some (.Name x np)) (some n) (b₀ :: suite) pos']) (SP X pins D) X.xe sc) X.xe sb) X.xe sa) (fun u sx xx => ?_) PassesOwn.looking).run [] s σ H D (I.toTry _) h) (fun fl sx hsp => ?_) (fun _ _ z => z)
  · -- an error comes
    obtain ⟨a, B, sI, pinsI, σI, HI, cls, d, rfl, JI, hnb, hup, hsky, hna, hos, hag, b, hb1, hyes, hno⟩ := xx
    have J : L2.Inv X pins σI HI sI := JI.ofTry okX
    have sky2 : Sky B (X.env :: X.outer) a (Zc cls d) X.env.locals sx.heap := by rw [← hs]; exact hsky
    show wpAny (model X.prog X.w) X.A (noteFrame (.ref a) X.env) _ _ _
    refine Sky.land Zc.steady frX hf sky2 fun hA flA upA => ?_
    have JA : L2.Inv X pins σI HI { sx with heap := hA } := J.landed hnb flA.1 (hup.trans upA) hos hag
    obtain ⟨oA, vA, heA, hzA, hdA⟩ := flA.there
    have outside : ∀ {h : Heap} {o : Obj} {vs : Array Value}, h.FunFrames B (X.env :: X.outer) → h.get? a = some o → o.data = .fields vs → a ∉ frs (X.env :: X.outer) := fun {h o vs} ff e dd hm => by
      obtain ⟨_, o2, e2, hnf⟩ := ff.mem hm
      rw [e] at e2; cases e2
      exact hnf _ dd
    have nfr := outside flA.2.2.1 heA hdA
    have nL : a ≠ X.env.locals := fun z => nfr (List.mem_filterMap.mpr ⟨X.env, List.mem_cons_self, by rw [hf, z]⟩)
    have nF : a ∉ X.fs := fun hm => by
      obtain ⟨e, he, q⟩ := List.mem_filterMap.mp hm
      exact nfr (List.mem_filterMap.mpr ⟨e, List.mem_cons_of_mem _ he, q⟩)
    have nB : B.get? a = none := flA.2.1
    have nfs : ∀ {b : Addr}, b = a → b ∉ frs X.stack := fun {b} e => by rw [e, hs]; exact nfr
    have fresh : ∀ o, X.s_0.heap.get? a = some o → X.H_0 a = none → a ∉ X.ex → False := fun o e n1 n2 => by
      have q := hnb a o (J.base.keep a o e n1 nF n2) (nfs rfl)
      rw [nB] at q
      cases q
    have npin : ∀ p ∈ X.pn ++ pins, p.1 ≠ a := fun p hp z => by
      have q := hnb p.1 p.2 (J.pin p hp).1 (nfs z)
      rw [z, nB] at q
      cases q
    have SA := JA.suite heA hdA hna nL nF
    refine wpAny_handleBy_cons (codeAny_handlers_test ?_) (by intro q; cases q)
    have lookT : PySem.W.Looks (model X.prog X.w) hA (typeOf (.ref a)) cls := fun A Q E s k q => wpAny_typeOf_ref (k _ _ heA) (by rw [hzA.1]; exact q)
    have lookM := PySem.W.exm_one (M := model X.prog X.w) (JA.kIn) lookT hb1
    have test : ∀ {Q : Value → Shared → Prop} {E : Value → Shared → Prop}, Q c { sx with heap := hA } → wpAny (model X.prog X.w) (X.A.mark (some (.ref a))) (eval (.Name x np) X.env) Q E { sx with heap := hA } := fun {Q E} q => by
      obtain ⟨hg, hdbg, hm | ⟨hm, hv, hnn⟩⟩ := hc
      · exact ld_glob (X := X.suite a ((a, oA) :: (X.pn ++ pins))) SA hg hm q hdbg
      · exact ld_blt (X := X.suite a ((a, oA) :: (X.pn ++ pins))) SA hg hm hv q hnn hdbg
    refine test (lookM.here ?_)
    cases b with
    | false =>
      show wpAny _ X.A (handleBy (.ref a) X.env []) _ _ _
      refine wpAny_handleBy_nil ?_
      obtain ⟨k1, k2, k3, oQ, vQ, TQ, oT, tT, heQ, hzQ, hdQ, h1Q, hrQ⟩ := id flA
      unfold PySem.passOn
      refine wpAny_bind (wpAny_field heQ hdQ h1Q ?_)
      rw [if_neg (show ¬ ((Value.ref TQ == Value.none) = true) from by simp)]
      have out : wpAny (model X.prog X.w) X.A (setFlight (.ref a) X.env.frame) (fun _ sd => wpAny (model X.prog X.w) X.A (throw (.ref a) : Sem Flow) (SP X pins D) X.xe sd) X.xe { sx with heap := hA } := by
        rw [hf]
        refine HandSPX.setFlight_upZ flA fun hD heldD upD => wpAny_throw (tk _ _ ?_)
        exact ⟨a, B, sI, pins, σI, HI, cls, d, rfl, J, hnb, (hup.trans upA).trans upD, .inr (.inr (by rw [hs]; exact heldD)), hna, hos, hag, hno rfl⟩
      first
        | exact wpAny_bind (wpAny_pure (wpAny_bind out))
        | exact wpAny_bind out
    | true =>
      refine codeAny_handlers_suite_as ?_
      refine HandSPX.lands_againZ flA fun hC flC upC => ?_
      have JC : L2.Inv X pins σI HI { sx with heap := hC } := J.landed hnb flC.1 ((hup.trans upA).trans upC) hos hag
      obtain ⟨oC, vC, heC, hzC, hdC⟩ := flC.there
      have SC := JC.suite heC hdC hna nL nF
      refine store_ok (X := X.suite a ((a, oC) :: (X.pn ++ pins))) (v := .ref a) SC hN hi locX rfl (fun s5 S5 => ?_) (.inr hln)
      refine wpAny_mono ((hsu a oC cls d (X.pn ++ pins) hzC ⟨_, hdC⟩).run [] s5 _ HI _ S5 (hyes rfl a hna)) (fun fl s6 hsp => ?_) (fun _ _ z => False.elim z)
      cases fl with
      | next =>
        obtain ⟨σ6, H6, S6, q6⟩ := hsp
        obtain ⟨p1, p2, _⟩ := S6.pin (a, oC) (List.mem_append_left _ List.mem_cons_self)
        exact gone_ok (adopt (S6.unsuite okX) p1 hzC hdC p2 nL nF fresh npin) hN hi hln fun s7 J7 => ⟨_, _, J7, q6 p2⟩
      | brk => obtain ⟨σ6, H6, S6, q6⟩ := hsp; exact q6.elim
      | cont => obtain ⟨σ6, H6, S6, q6⟩ := hsp; exact q6.elim
      | ret u => obtain ⟨v6, σ6, H6, S6, r6, q6⟩ := hsp; exact q6.elim
  · cases fl with
    | next =>
      obtain ⟨σ2, H2, J2, q⟩ := hsp
      exact wpAny_execs_nil ⟨σ2, H2, J2.ofTry okX, q⟩
    | brk =>
      obtain ⟨σ2, H2, J2, q⟩ := hsp
      exact ⟨σ2, H2, J2.ofTry okX, q⟩
    | cont =>
      obtain ⟨σ2, H2, J2, q⟩ := hsp
      exact ⟨σ2, H2, J2.ofTry okX, q⟩
    | ret u =>
      obtain ⟨v, σ2, H2, J2, r, q⟩ := hsp
      exact ⟨v, σ2, H2, J2.ofTry okX, r, q⟩
end
end DL
end
section
/-! DL15: _law_caught(lambda: ..). -/
set_option Elab.async false
set_option linter.all false
set_option autoImplicit false
set_option maxRecDepth 100000
set_option maxHeartbeats 4000000
namespace DL
open PySem PySem.Spec PyProof.Rows L2 LamX
abbrev ctBody (exn : Str) (p1 p2 p3 p4 p5 p6 p7 p8 p9 p10 p11 p12 p13 p14 : Pos) (j : Nat) : List Stmt :=
  [.Assign [.Name "found" p1] (.Constant .none j p2) p3,
   .Try [.Expr (.Call (.Name "action" p4) [] [] p5) p6] [.ExceptHandler (some (.Name exn p7)) (some "error") [.Assign [.Name "found" p8] (.Name "error" p9) p10] p11] [] [] p12,
   .Return (some (.Name "found" p13)) p14]
/-- _law_caught at the module's top; cs: the classes that its clause takes -/
structure CtF (K : Frag) (mg : Str → Option Value) (ci : Ci) (st : Stmt) (cs : List Nat) : Prop where
  td : Td K mg "_law_caught" st
  body : ∃ exn p1 p2 p3 p4 p5 p6 p7 p8 p9 p10 p11 p12 p13 p14 j, defBody st = ctBody exn p1 p2 p3 p4 p5 p6 p7 p8 p9 p10 p11 p12 p13 p14 j ∧ (defScope st).names.lookup exn = some .globalImplicit ∧ (exn == ("__debug__" : Str)) = false ∧
    ∃ C, mg exn = some (.ref C) ∧ ∀ c ∈ cs, PySem.W.exmOne K (.ref (ci.ca c)) (.ref C) = some true
  sc : FnScope ["action", "found", "error"] ["action"] (defScope st)
  l0 : (defScope st).names.lookup ("action" : Str) = some .local
  l1 : (defScope st).names.lookup ("found" : Str) = some .local
  l2 : (defScope st).names.lookup ("error" : Str) = some .local
  bd : ∀ (kV doc pm : Value) (an : Option Addr) (cdv ct : Value) (us : List Value), us.length = 1 → bindArgs (PySem.W.fnOf "_law_caught" "_law_caught" (defArgs st) (defBody st) (defScope st) .none kV doc pm an cdv ct) ⟨us, []⟩ = pure ([("action" : Str)].zip us)
section
variable {X : Cx} {ci : Ci} {E : XK} {db : XE} {st : Stmt} {kk k : Nat} {cs : List Nat} {pms : Arguments} {bd : Expr} {lsc : Scope} {p pos lpos : Pos} {zb : Nat}
theorem de_caught (T : CtF X.K X.mg ci st cs) (ok : Okc X E kk) (hl : LmF X.base X.mg ci.tabs X.env.qual X.env.code)
    (hdf : defaultsOf pms X.env = ([], [])) (hbind : ∀ (q : Str) (cl : List (Str × Addr)) (pm cv ctv : Value), bindArgs (PySem.W.kla_fn "<lambda>" q pms bd lsc cl pm cv ctv) ⟨[], []⟩ = pure [])
    (hb : ∀ (A : Around) (outer : List PySem.Env) (s : Shared) (H : Hp) (E2 : XK) (f lc : Addr), Okc (lamCx X A outer s H E2 lsc f lc) E2 k → DE (lamCx X A outer s H E2 lsc f lc) ci E2 zb bd db)
    (hg : Gl X "_law_caught") (hk : k + 2 ≤ kk := by decide) (hL : lamPB X.env.scope lsc [] = true := by kernel_rfl)
    (he2 : starEach [.Lambda pms bd lsc lpos] X.env = (false, eval (.Lambda pms bd lsc lpos) X.env) :: starEach [] X.env := by rfl) (hpl : (backTo pos (starEach [] X.env)).any (·.1) = false := by rfl) :
    DE X ci E zb (.Call (.Name "_law_caught" p) [.Lambda pms bd lsc lpos] [] pos) (dCaught cs db) := by
  have L := lamP_by hL
  obtain ⟨g, fd, Fn, hmg⟩ := T.td.ex
  obtain ⟨oc, od, kV, doc, pm0, an, cdv, ct, osl, rfl, lk, hcd⟩ := Fn.ex
  obtain ⟨exn, p1, p2, p3, p4, p5, p6, p7, p8, p9, p10, p11, p12, p13, p14, j, hbody, hex, hexd, CD, hmex, hcs⟩ := T.body
  refine ⟨fun pins s1 σ H1 Q I1 ⟨G1, P, F1, ρ, W, bd0, r1, hdW, hw⟩ => ?_⟩
  refine wpAny_Call_Name_kw (ld_glob I1 hg hmg ?_ (by decide))
  refine PySem.W.callWith_K (h₀ := X.base) I1.ok.mod.kin Fn.kp ?_ he2 hpl
  rw [he2]
  show wpAny _ _ (spliced ((false, eval (.Lambda pms bd lsc lpos) X.env) :: backTo pos (starEach [] X.env))) _ _ s1
  obtain ⟨cdA, tb, hcodeE, TB, hmem, huni⟩ := hl.ex
  rw [← r1.tb] at hmem huni
  refine Calls.spliced_cons (lam_made I1 TB hcodeE hmem huni r1.ok.tabs hdf (fun y hy e => (L.free y hy e).elim (fun k => I1.ok.has _ (.inl k)) fun k => I1.ok.has _ (.inr k)) fun f lc pm ctv H2 s2 I2 hkeep T2 hf hfn hfr hco => ?_)
  refine Calls.spliced_nil ⟨I2.kIn, ?_⟩
  have r2 : Rel X.K ci G1 F1 P ρ σ H2 := r1.tabled ⟨_, hmem, rfl⟩ hkeep T2 (let ⟨ps, e, _⟩ := r1.ok.tabs _ hmem; ⟨ps, e⟩)
  obtain ⟨P', r3, hP, back⟩ := r2.shut
  obtain ⟨F2, e2, r4, hcode⟩ := r3.keepCode hco
  have codeAt : ∀ {G' : Gh} {F' H' : Hp} {ρ' : Env} {σ' : L2.St}, Same F2 F' → Rel X.K ci G' F' P' ρ' σ' H' → H' lc = some (CodeO lc (X.env.qual ++ "<lambda>")) := fun {G' F' H' ρ' σ'} e r => hcode.elim (fun z => r.sf _ _ (e _ _ z)) fun z => r.sp _ _ z
  have rcall : codeAny (model X.prog X.w) X.A (.call (.ref g) ⟨[.ref f], []⟩) (CR (L2.CX X.prog X.w) X.stack X.prog X.w H2 s2 (fun v H' => ∃ G' F' d, Gh.Le (G1.n + zb) G1 G' ∧ Same F2 F' ∧ Rel X.K ci G' F' P' [] [] H' ∧ Rep (rc X.K ci G') F' v d ∧ W (.ok d)) E0) s2 := by
    refine run_ofS (N := ["action", "found", "error"]) (ps := ["action"]) (us := [.ref f]) (vs := [.ref f]) (k := kk - 1) lk hcd T.sc (ok.room.mono (by omega)) I2.env0 (.of_eq (T.bd kV doc pm0 an cdv ct [.ref f] rfl)) (.cons rfl .nil) rfl fun hrZ => ?_
    rw [hbody]
    let Z : Cx := cxOf (L2.CX X.prog X.w) X.prog X.w X.K X.mg X.base ["action", "found", "error"] "_law_caught" (defScope st) g cdv X.A X.stack s2 H2 E0
    have act : ∀ (W2 : WX) (pn : List (Addr × Obj)) (xe : Value → Shared → Prop), Takes (Z.tr pn xe) W2 → PE (Z.tr pn xe) (.Call (.Name "action" p4) [] [] p5) (fun σZ HZ QZ => ∃ E2 : XK, (∀ cls d H', E2 cls d H' → W2 cls d σZ H') ∧ σZ[0]? = some (some (.ref f)) ∧ HZ lc = some (CodeO lc (X.env.qual ++ "<lambda>")) ∧ tE X.K ci E2 zb .sh db σ HZ QZ) := fun W2 pn xe tk2 => by
      refine ⟨fun pinsZ sZ σZ HZ QZ IZ hZ => ?_⟩
      obtain ⟨E2, hE2, q0, qc, qt⟩ := hZ
      refine wpAny_Call_Name_kw (thn ((pe_var (X := Z.tr pn xe) (pos := p4) (i := 0) (x := ("action" : Str)) rfl (.inl T.l0)).run pinsZ sZ σZ HZ (fun v H1 => v = .ref f ∧ H1 = HZ) IZ ⟨.ref f, q0, rfl, rfl⟩) fun u3 s3 ⟨w3, H3, I3, rv3, z3, eH3⟩ => ?_)
      subst z3 eH3
      obtain rfl : u3 = Value.ref f := rv3
      have hf3 : s3.heap.get? f = some (PySem.W.kla_obj "<lambda>" (X.env.qual ++ "<lambda>") pms bd lsc (cloFrom X.env.cells lsc.names []) pm lc ctv) := I3.base.keep f _ hf hfn hfr fun z => nomatch (show f ∈ ([] : List Addr) from z)
      refine PySem.W.callWith_F0 ⟨_, _, _, _, hf3⟩ ?_
      have hZr : Room (k + 1) Z.A := hrZ.mono (by omega)
      have run := lam_run (A := Z.A) (outer := Z.stack) (E := E2) (σ' := σ) (ps := ([] : List Str)) (us := ([] : List Value)) (k := k) (tb := tE X.K ci E2 zb .sh db) (Q := QZ) I2 L hf3 (hbind _ _ _ _ _) I3.env0 I3.base qc hZr rfl (fun i y w q1 q2 => And.intro (fun z => absurd z (by simp)) (fun _ => q2)) (fun hr3 => hb _ _ _ _ E2 _ _ ⟨hr3, rfl, passes_call (takes_of rfl rfl rfl rfl) fun _ _ _ _ h => h⟩) qt
      refine wpAny_call (codeAny_mono run fun r s5 hq => ?_)
      cases r with
      | error er => exact tk2 er s5 (XE.of_call I3 (fun cls d H' h => hE2 cls d H' h) hq)
      | ok fl =>
        cases fl with
        | ret u => exact I3.after hq
        | next => exact False.elim hq
        | brk => exact False.elim hq
        | cont => exact False.elim hq
    refine ⟨_, pss_cons (ps_set (X := Z) (i := 1) T.sc.nd rfl (.inl T.l1) pe_non rfl (.inl rfl)) (pss_cons (ps_try_keep (X := Z) (c := .ref CD) (i := 2) (Wo := fun _ _ _ _ => False) rfl rfl T.sc.nd rfl T.l2 ⟨hex, hexd, .inl hmex⟩ L2.takes0 (fun W2 pn xe tk2 _ => pss_one (ps_expr (act W2 pn xe tk2) rfl))
      (fun a oe cls d pn _ _ => pss_one (ps_set (i := 1) T.sc.nd rfl (.inl T.l1) (pe_var (i := 2) (x := ("error" : Str)) rfl (.inl T.l2)) rfl (.inl rfl)))) (pss_one (ps_ret (pe_var (X := Z) (pos := p13) (i := 1) (x := ("found" : Str)) rfl (.inl T.l1))))), ?_⟩
    have eS : L2.start ["action", "found", "error"] [.ref f] = [some (.ref f), none, none] := rfl
    rw [eS]
    refine ⟨fun cls d H' => ∃ G' F' c fs, Gh.Le (G1.n + zb) G1 G' ∧ Same F2 F' ∧ Rel X.K ci G' F' P' [] [] H' ∧ XRep X.K ci G' F' c fs cls d ∧ c ∈ cs ∧ W (.ok (.exc c fs)), fun cls d H3 h3 => ?_, rfl, codeAt (Same.refl F2) r4, G1, P', F2, hide ρ, _, bd0, r2.hid (Gh.Le.refl (N := G1.n) G1) e2 r4, hdW, fun o ho => ?_⟩
    · obtain ⟨G', F', c, fs, l3, e3, r5, ⟨hcv, hdx⟩, hc, hW⟩ := h3
      subst hcv
      refine ⟨true, hcs c hc, fun _ a na => ⟨.ref a, rfl, fun na2 => ?_⟩, fun z => by cases z⟩
      have lo := r5.lone na2
      refine ⟨.ref a, rfl, G', upd F' a (ExcO a (ci.ca c) d), .exc c fs, l3, e3.trans (same_upd lo.hf), (r5.new na2).freeze lo upd_same, ?_, hW⟩
      rcases hdx with ⟨rfl, rfl⟩ | ⟨dd, da, x, v, rfl, rfl, h1, h2, h3⟩
      · exact .exc0 upd_same
      · exact .exc1 upd_same (same_upd lo.hf _ _ h1) h2 (h3.mono (Rc.Le.refl _) (same_upd lo.hf))
    · cases o with
      | ok dd =>
        intro G3 F3 H3 v l3 e3 r5 x5
        exact ⟨.non, rfl, G3, F3, .non, l3, e3, r5.base, .non, ho⟩
      | exc c fs =>
        intro G3 F3 H3 cv dx l3 e3 r5 x5
        exact ⟨G3, F3, c, fs, l3, e3, r5, x5, ho.1, ho.2⟩
  refine wpAny_call (codeAny_mono rcall fun r s3 hq => ?_)
  cases r with
  | error er => exact (passL (X := X) pins σ H2 s2 er s3 I2 hq)
  | ok fl =>
    cases fl with
    | ret u =>
      obtain ⟨v, H3, I3, rv, G', F', dd, l3, e3, r5, x5, hW⟩ := I2.after hq
      obtain ⟨r6, _⟩ := back _ G' F' H3 l3 (e2.trans e3) r5
      exact ⟨v, H3, I3, rv, hw _ hW G' F' H3 v l3 (e2.trans e3) r6 x5⟩
    | next => exact False.elim hq
    | brk => exact False.elim hq
    | cont => exact False.elim hq
end
end DL
end
section
/-! DL16: _law_blended, by hand. -/
set_option Elab.async false
set_option linter.all false
set_option autoImplicit false
set_option maxRecDepth 100000
set_option maxHeartbeats 4000000
namespace DL
open PySem PySem.Spec PyProof.Rows L2 LamX
/-- the state's dict -/
def stK (g c : Addr) (r t : Int) : List (Key × V) := [(.inr "great", .ref g), (.inr "cells", .ref c), (.inr "rest", .int r), (.inr "turn", .int t)]
theorem stK_cells {g c : Addr} {r t : Int} : valV (stK g c r t) (.inr "cells") = some (.ref c) := by with_unfolding_all rfl
theorem stK_turn {g c : Addr} {r t : Int} : valV (stK g c r t) (.inr "turn") = some (.int t) := by with_unfolding_all rfl
theorem stK_rest {g c : Addr} {r t : Int} : valV (stK g c r t) (.inr "rest") = some (.int r) := by with_unfolding_all rfl
theorem stK_great {g c : Addr} {r t : Int} : valV (stK g c r t) (.inr "great") = some (.ref g) := by with_unfolding_all rfl
theorem putK_turn {g c : Addr} {r t t' : Int} : putK (stK g c r t) (.inr "turn") (.int t') = stK g c r t' := by with_unfolding_all rfl
theorem putK_rest {g c : Addr} {r t r' : Int} : putK (stK g c r t) (.inr "rest") (.int r') = stK g c r' t := by with_unfolding_all rfl
theorem get_turn {H : Hp} {a g c : Addr} {r t : Int} (h : H a = some (.dK (stK g c r t))) : DGet H a (.str "turn") (some (.int t)) := by
  rw [← stK_turn (g := g) (c := c) (r := r)]
  exact DGet.k (k := .inr "turn") h
theorem get_cells {H : Hp} {a g c : Addr} {r t : Int} (h : H a = some (.dK (stK g c r t))) : DGet H a (.str "cells") (some (.ref c)) := by
  rw [← stK_cells (g := g) (c := c) (r := r) (t := t)]
  exact DGet.k (k := .inr "cells") h
/-- ** of numbers that are not too long -/
def CPow5 (i j : Int) : Prop := j = 5 ∧ i.natAbs < 2 ^ 13000
theorem op_pow5 {X : Cx} : OpR X (binaryOp .Pow) (rI CPow5 fun i j => .int (i ^ j.toNat)) := opI fun i j _ _ _ _ _ hc q => by
  obtain ⟨rfl, h⟩ := hc
  refine pow_int (by decide) ?_ q
  have h1 := PySem.Flt.log2_lt_of (by decide : 0 < 13000) h
  have h2 : Builtin.Int.intBits i ≤ i.natAbs.log2 + 1 := by
    unfold Builtin.Int.intBits
    split <;> omega
  omega
abbrev blBody (p : Nat → Pos) (k : Nat → Nat) : List Stmt :=
  [.Assign [.Tuple [.Name "turn" (p 0), .Name "found" (p 1)] (k 0) (p 2)] (.Tuple [.BinOp (.Subscript (.Name "state" (p 3)) (.Constant (.str "turn") (k 1) (p 4)) (p 5)) .Add (.Constant (.int 1) (k 2) (p 6)) (p 7), .Constant (.int 0) (k 3) (p 8)] (k 4) (p 9)) (p 10),
   .Assign [.Subscript (.Name "state" (p 11)) (.Constant (.str "turn") (k 5) (p 12)) (p 13)] (.Name "turn" (p 14)) (p 15),
   .For (.Name "prime" (p 16)) (.List [.Constant (.int 2147483579) (k 6) (p 17), .Constant (.int 2147483629) (k 7) (p 18), .Constant (.int 2147483563) (k 8) (p 19)] (p 20))
     [.Assign [.Name "blend" (p 21)] (.BinOp (.BinOp (.Constant (.int 48271) (k 9) (p 22)) .Mult (.Name "turn" (p 23)) (p 24)) .Add (.BinOp (.Name "prime" (p 25)) .FloorDiv (.Constant (.int 53) (k 10) (p 26)) (p 27)) (p 28)) (p 29),
      .For (.Name "cell" (p 30)) (.Subscript (.Name "state" (p 31)) (.Constant (.str "cells") (k 11) (p 32)) (p 33))
        [.Assign [.Name "blend" (p 34)] (.BinOp (.Call (.Name "int" (p 35)) [.BinOp (.BinOp (.BinOp (.Name "blend" (p 36)) .Mult (.Constant (.int 69621) (k 12) (p 37)) (p 38)) .Add (.Name "cell" (p 39)) (p 40)) .Add (.Name "turn" (p 41)) (p 42)] [] (p 43)) .Mod (.Name "prime" (p 44)) (p 45)) (p 46)] [] (p 47),
      .Assign [.Name "found" (p 48)] (.BinOp (.BinOp (.Name "found" (p 49)) .Mult (.Constant (.int 2147483647) (k 13) (p 50)) (p 51)) .Add (.BinOp (.Call (.Name "int" (p 52)) [.BinOp (.Name "blend" (p 53)) .Pow (.Constant (.int 5) (k 14) (p 54)) (p 55)] [] (p 56)) .Mod (.Name "prime" (p 57)) (p 58)) (p 59)) (p 60)] [] (p 61),
   .Return (some (.Name "found" (p 62))) (p 63)]
/-- _law_blended at the module's top -/
structure BlF (K : Frag) (mg : Str → Option Value) (st : Stmt) : Prop where
  td : Td K mg "_law_blended" st
  body : ∃ p k, defBody st = blBody p k ∧ ∀ (L f : Addr) (cd : Value), swappedStores [.Tuple [.Name "turn" (p 0), .Name "found" (p 1)] (k 0) (p 2)] (.Tuple [.BinOp (.Subscript (.Name "state" (p 3)) (.Constant (.str "turn") (k 1) (p 4)) (p 5)) .Add (.Constant (.int 1) (k 2) (p 6)) (p 7), .Constant (.int 0) (k 3) (p 8)] (k 4) (p 9)) (envOfC "_law_blended" (defScope st) L f cd) = pure (some [("turn" : Str), "found"])
  sc : FnScope ["state", "turn", "found", "prime", "blend", "cell"] ["state"] (defScope st)
  l0 : (defScope st).names.lookup ("state" : Str) = some .local
  l1 : (defScope st).names.lookup ("turn" : Str) = some .local
  l2 : (defScope st).names.lookup ("found" : Str) = some .local
  l3 : (defScope st).names.lookup ("prime" : Str) = some .local
  l4 : (defScope st).names.lookup ("blend" : Str) = some .local
  l5 : (defScope st).names.lookup ("cell" : Str) = some .local
  li : (defScope st).names.lookup ("int" : Str) = some .globalImplicit
  mi : mg "int" = none
  bd : ∀ (kV doc pm : Value) (an : Option Addr) (cdv ct : Value) (us : List Value), us.length = 1 → bindArgs (PySem.W.fnOf "_law_blended" "_law_blended" (defArgs st) (defBody st) (defScope st) .none kV doc pm an cdv ct) ⟨us, []⟩ = pure ([("state" : Str)].zip us)
/-- its promise: the turn goes up, the answer is some number that is not below 0 -/
def spBl : Sp := fun vs H Q _ => ∃ (a g c : Addr) (cs : List Int) (r t : Int), vs = [.ref a] ∧ H a = some (.dK (stK g c r t)) ∧ H c = some (.lst (cs.map V.int)) ∧ 0 ≤ t ∧ t ≤ top ∧
  ∀ (n : Int) (H' : Hp), 0 ≤ n → (∀ b o, b ≠ a → H b = some o → H' b = some o) → H' a = some (.dK (stK g c r (t + 1))) → Q (.int n) H'
theorem fn_blended {P : Program} {w : World} {K : Frag} {mg : Str → Option Value} {base : Heap} {st : Stmt} (T : BlF K mg st) :
    ∃ (fa : Addr) (fd : FuncData), mg "_law_blended" = some (.ref fa) ∧ FnOk P w K mg base (L2.CX P w) 1 fa fd ["state"] spBl ∧ PySem.W.keepIn K (.ref fa) = true ∧ Binds K fd ["state"] [] := by
  obtain ⟨fa, fd, F, hm⟩ := T.td.ex
  obtain ⟨p, k, hbody, hsw⟩ := T.body
  refine ⟨fa, fd, hm, Fun.okX F T.sc (fun vs H Q E h => by obtain ⟨a, g, c, cs, r, t, rfl, _⟩ := h; rfl) fun cdv A outer s H vs Q E hr h => ?_, F.kp, F.binds T.bd⟩
  rw [hbody]
  let X : Cx := cxOf (L2.CX P w) P w K mg base ["state", "turn", "found", "prime", "blend", "cell"] "_law_blended" (defScope st) fa cdv A outer s H E
  have hu : X.A.units + 1 < cLine := hu_of hr
  have v0 : ∀ q, PE X (.Name "state" q) (tVar 0) := fun q => pe_var (x := ("state" : Str)) rfl (.inl T.l0)
  have v1 : ∀ q, PE X (.Name "turn" q) (tVar 1) := fun q => pe_var (x := ("turn" : Str)) rfl (.inl T.l1)
  have v2 : ∀ q, PE X (.Name "found" q) (tVar 2) := fun q => pe_var (x := ("found" : Str)) rfl (.inl T.l2)
  have v3 : ∀ q, PE X (.Name "prime" q) (tVar 3) := fun q => pe_var (x := ("prime" : Str)) rfl (.inl T.l3)
  have v4 : ∀ q, PE X (.Name "blend" q) (tVar 4) := fun q => pe_var (x := ("blend" : Str)) rfl (.inl T.l4)
  have v5 : ∀ q, PE X (.Name "cell" q) (tVar 5) := fun q => pe_var (x := ("cell" : Str)) rfl (.inl T.l5)
  refine ⟨_, pss_cons (ps_par (X := X) (i := 1) (j := 2) rfl T.sc.nd rfl rfl (by decide) T.l1 T.l2 (pa_cons (pe_op op_add (pe_ix (ix_dict hu) (v0 _) pe_str fun _ _ => rfl) pe_int) (pa_cons pe_int pa_nil rfl) rfl) (hsw _ _ _) rfl)
    (pss_cons (ps_dput (X := X) hu (v0 _) pe_str (v1 _) rfl)
    (pss_cons (ps_for (X := X) (passes_of rfl) rfl (pi_list (pe_lst (pa_cons pe_int (pa_cons pe_int (pa_cons pe_int pa_nil rfl) rfl) rfl))) (pg_name (i := 3) T.sc.nd rfl (.inl T.l3) (.inl rfl))
      (pss_cons (ps_set (i := 4) T.sc.nd rfl (.inl T.l4) (pe_op op_add (pe_op op_mul pe_int (v1 _)) (pe_op op_fdiv (v3 _) pe_int)) rfl (.inl rfl))
      (pss_cons (ps_for (X := X) (passes_of rfl) rfl (pi_list (pe_ix (ix_dict hu) (v0 _) pe_str fun _ _ => rfl)) (pg_name (i := 5) T.sc.nd rfl (.inl T.l5) (.inl rfl))
        (pss_one (ps_set (i := 4) T.sc.nd rfl (.inl T.l4) (pe_op op_mod (pe_callTy call_int1 T.li T.mi (by decide +kernel) (pa_cons (pe_op op_add (pe_op op_add (pe_op op_mul (v4 _) pe_int) (v5 _)) (v1 _)) pa_nil rfl) (by decide) (by decide) rfl rfl) (v3 _)) rfl (.inl rfl))))
      (pss_one (ps_set (i := 2) T.sc.nd rfl (.inl T.l2) (pe_op op_add (pe_op op_mul (v2 _) pe_int) (pe_op op_mod (pe_callTy call_int1 T.li T.mi (by decide +kernel) (pa_cons (pe_op op_pow5 (v4 _) pe_int) pa_nil rfl) (by decide) (by decide) rfl rfl) (v3 _))) rfl (.inl rfl))))))
    (pss_one (ps_ret (v2 _))))), ?_⟩
  obtain ⟨a, g, c, cs, r, t, rfl, ha, hc, ht0, ht1, hQ⟩ := h
  refine ⟨.ref a, rfl, a, .int t, rfl, get_turn ha, t, 1, rfl, rfl, .int (t + 1), .int 0, rfl, .int (t + 1), rfl, .ref a, rfl, a, upd H a (.dK (stK g c r (t + 1))), rfl, ?_, ?_⟩
  · exact .inl ⟨_, .inr "turn", ha, rfl, (show 4 < sizeLine by decide), by rw [putK_turn]⟩
  have nca : c ≠ a := fun z => by rw [z, ha] at hc; cases hc
  refine ⟨(show 3 ≤ sizeLine by decide), fun q hq => ⟨q, rfl, ⟨_, SqL.of upd_same⟩, ?_⟩⟩
  have nqa : a ≠ q := fun z => by rw [← z, upd_same] at hq; cases hq
  have nqc : c ≠ q := fun z => by rw [← z, upd_ne nca, hc] at hq; cases hq
  let H2 : Hp := upd (upd H a (.dK (stK g c r (t + 1)))) q (.lst [.int 2147483579, .int 2147483629, .int 2147483563])
  have ha2 : H2 a = some (.dK (stK g c r (t + 1))) := by show upd _ _ _ a = _; rw [upd_ne nqa, upd_same]
  have hc2 : H2 c = some (.lst (cs.map V.int)) := by show upd _ _ _ c = _; rw [upd_ne nqc, upd_ne nca]; exact hc
  refine for_list (xs := [.int 2147483579, .int 2147483629, .int 2147483563]) (fun i σ Hx => Hx = H2 ∧ ∃ (f : Int) (s3 s4 s5 : Option V), σ = [some (.ref a), some (.int (t + 1)), some (.int f), s3, s4, s5] ∧ 0 ≤ f) ⟨rfl, 0, none, none, none, rfl, Int.le_refl _⟩ (fun i σ Hx _ h => by rw [h.1]; exact SqL.of upd_same) (fun i x σ Hx hx h => ?_) (fun σ Hx h => ?_)
  · obtain ⟨rfl, f, s3, s4, s5, rfl, hf⟩ := h
    obtain ⟨pr, rfl, hp0, hp1⟩ : ∃ pr : Int, x = .int pr ∧ 0 < pr ∧ pr < 2 ^ 31 := by
      match i, hx with
      | 0, hx => cases hx; exact ⟨_, rfl, by decide, by decide⟩
      | 1, hx => cases hx; exact ⟨_, rfl, by decide, by decide⟩
      | 2, hx => cases hx; exact ⟨_, rfl, by decide, by decide⟩
      | i + 3, hx => simp at hx
    have hpd : 0 ≤ pr / 53 ∧ pr / 53 < 2 ^ 31 := ⟨Int.ediv_nonneg (by omega) (by decide), by omega⟩
    have hb0 : (48271 * (t + 1) + pr / 53).natAbs < 2 ^ 12500 := by
      have hB : 48271 * (top + 1) + 2 ^ 31 < 2 ^ 12500 := by decide +kernel
      generalize (2 : Nat) ^ 12500 = B at hB
      omega
    refine ⟨.int (t + 1), rfl, 48271, t + 1, rfl, rfl, .inl ⟨by decide, by decide⟩, .int pr, rfl, pr, 53, rfl, rfl, ⟨by decide, by decide⟩, 48271 * (t + 1), pr / 53, rfl, rfl, ?_⟩
    refine ⟨.ref a, rfl, a, .ref c, rfl, get_cells ha2, c, rfl, ⟨_, SqL.of hc2⟩, ?_⟩
    refine for_list (xs := cs.map V.int) (fun i σ Hx => Hx = H2 ∧ ∃ (b : Int) (s5 : Option V), σ = [some (.ref a), some (.int (t + 1)), some (.int f), some (.int pr), some (.int b), s5] ∧ b.natAbs < 2 ^ 12500) ⟨rfl, _, s5, rfl, hb0⟩ (fun i σ Hx _ h => by rw [h.1]; exact SqL.of hc2) (fun i x σ Hx hx h => ?_) (fun σ Hx h => ?_)
    · obtain ⟨rfl, b, s6, rfl, hb⟩ := h
      obtain ⟨z, rfl⟩ : ∃ z : Int, x = .int z := by
        rw [List.getElem?_map] at hx
        cases q2 : cs[i]? with
        | none => rw [q2] at hx; cases hx
        | some z => rw [q2] at hx; exact ⟨z, (Option.some.inj hx).symm⟩
      refine ⟨.int b, rfl, b, 69621, rfl, rfl, .inr ⟨by decide, by decide⟩, .int z, rfl, b * 69621, z, rfl, rfl, .int (t + 1), rfl, b * 69621 + z, t + 1, rfl, rfl, .inl ⟨_, rfl, .int pr, rfl, _, pr, rfl, rfl, hp0, rfl, _, some (.int z), rfl, ?_⟩⟩
      have m0 := Int.emod_nonneg (b * 69621 + z + (t + 1)) (by omega : pr ≠ 0)
      have m1 := Int.emod_lt_of_pos (b * 69621 + z + (t + 1)) hp0
      have hB : 2 ^ 31 < 2 ^ 12500 := by decide +kernel
      generalize (2 : Nat) ^ 12500 = B at hB
      omega
    · obtain ⟨rfl, b, s6, rfl, hb⟩ := h
      refine ⟨.int f, rfl, f, 2147483647, rfl, rfl, .inr ⟨by decide, by decide⟩, .int b, rfl, b, 5, rfl, rfl, ⟨rfl, Nat.lt_trans hb (by decide +kernel)⟩, .inl ⟨_, rfl, .int pr, rfl, _, pr, rfl, rfl, hp0, _, _, rfl, rfl, rfl, _, some (.int pr), some (.int b), s6, rfl, ?_⟩⟩
      have m0 := Int.emod_nonneg (b ^ (5 : Int).toNat) (by omega : pr ≠ 0)
      have m2 : 0 ≤ f * 2147483647 := Int.mul_nonneg hf (by decide)
      omega
  · obtain ⟨rfl, f, s3, s4, s5, rfl, hf⟩ := h
    refine ⟨.int f, rfl, hQ f H2 hf (fun b o hb e => ?_) ha2⟩
    show upd _ _ _ b = _
    have nbq : b ≠ q := fun z => by rw [z] at e; rw [upd_ne (Ne.symm nqa), e] at hq; cases hq
    rw [upd_ne nbq, upd_ne hb]
    exact e
end DL
end
section
/-! DL17: _law_draw, by hand. -/
set_option Elab.async false
set_option linter.all false
set_option autoImplicit false
set_option maxRecDepth 100000
set_option maxHeartbeats 4000000
namespace DL
open PySem PySem.Spec PyProof.Rows L2 LamX
theorem get_rest {H : Hp} {a g c : Addr} {r t : Int} (h : H a = some (.dK (stK g c r t))) : DGet H a (.str "rest") (some (.int r)) := by
  rw [← stK_rest (g := g) (c := c) (t := t)]
  exact DGet.k (k := .inr "rest") h
theorem get_great {H : Hp} {a g c : Addr} {r t : Int} (h : H a = some (.dK (stK g c r t))) : DGet H a (.str "great") (some (.ref g)) := by
  rw [← stK_great (g := g) (c := c) (r := r) (t := t)]
  exact DGet.k (k := .inr "great") h
theorem put_rest {H : Hp} {a g c : Addr} {r t r' : Int} (h : H a = some (.dK (stK g c r t))) : DPut H a (.str "rest") (.int r') (upd H a (.dK (stK g c r' t))) :=
  .inl ⟨_, .inr "rest", h, rfl, (show 4 < sizeLine by decide), by rw [putK_rest]⟩
theorem okL_ints (n : Nat) : ∀ gs : List Int, okL n (gs.map D.int) = true
  | [] => by cases n <;> rfl
  | z :: gs => by
    have ih := okL_ints n gs
    cases n <;> simp [okL, okD, ih]
theorem seen_ints {K : Frag} {H : Hp} {p : Addr} {gs : List Int} (h : H p = some (.lst (gs.map V.int))) : Dp K H (.ref p) (py (.lst (gs.map D.int))) ∧ SeqAt.shaped (py (.lst (gs.map D.int))) = true := by
  have k : okD 64 (.lst (gs.map D.int)) = true := okL_ints 63 gs
  exact ⟨Rep.dp (ci := ⟨fun _ => 0, fun _ => [], fun _ _ _ => .own 0, []⟩) (G := ⟨[], none, 0⟩) (Same.refl H) (.lst h (repL_ints gs)) k, okD_shaped k (Nat.le_refl _)⟩
abbrev drBody (p : Nat → Pos) (k : Nat → Nat) : List Stmt :=
  [.If (.Compare (.Subscript (.Name "state" (p 0)) (.Constant (.str "rest") (k 0) (p 1)) (p 2)) [.Eq] [.Constant (.int 0) (k 1) (p 3)] (p 4))
     [.Assign [.Subscript (.Name "state" (p 5)) (.Constant (.str "rest") (k 2) (p 6)) (p 7)]
       (.IfExp (.Compare (.Subscript (.Name "state" (p 8)) (.Constant (.str "great") (k 3) (p 9)) (p 10)) [.NotEq] [.List [] (p 11)] (p 12))
         (.Call (.Attribute (.Subscript (.Name "state" (p 13)) (.Constant (.str "great") (k 4) (p 14)) (p 15)) "pop" (p 16)) [.Constant (.int 0) (k 5) (p 17)] [] (p 18))
         (.Call (.Name "_law_blended" (p 19)) [.Name "state" (p 20)] [] (p 21)) (p 22)) (p 23)] [] (p 24),
   .Assign [.Name "found" (p 25)] (.BinOp (.Call (.Name "int" (p 26)) [.Subscript (.Name "state" (p 27)) (.Constant (.str "rest") (k 6) (p 28)) (p 29)] [] (p 30)) .Mod (.Name "room" (p 31)) (p 32)) (p 33),
   .Assign [.Subscript (.Name "state" (p 34)) (.Constant (.str "rest") (k 7) (p 35)) (p 36)] (.BinOp (.Subscript (.Name "state" (p 37)) (.Constant (.str "rest") (k 8) (p 38)) (p 39)) .FloorDiv (.Name "room" (p 40)) (p 41)) (p 42),
   .Return (some (.Name "found" (p 43))) (p 44)]
structure DrF (K : Frag) (mg : Str → Option Value) (st : Stmt) : Prop where
  td : Td K mg "_law_draw" st
  body : ∃ p k, defBody st = drBody p k ∧ ((p 16).endLine == (p 18).line) = true
  sc : FnScope ["state", "room", "found"] ["state", "room"] (defScope st)
  l0 : (defScope st).names.lookup ("state" : Str) = some .local
  l1 : (defScope st).names.lookup ("room" : Str) = some .local
  l2 : (defScope st).names.lookup ("found" : Str) = some .local
  li : (defScope st).names.lookup ("int" : Str) = some .globalImplicit
  lb : (defScope st).names.lookup ("_law_blended" : Str) = some .globalImplicit
  mi : mg "int" = none
  bd : ∀ (kV doc pm : Value) (an : Option Addr) (cdv ct : Value) (us : List Value), us.length = 2 → bindArgs (PySem.W.fnOf "_law_draw" "_law_draw" (defArgs st) (defBody st) (defScope st) .none kV doc pm an cdv ct) ⟨us, []⟩ = pure ([("state" : Str), "room"].zip us)
/-- its promise -/
def spDr : Sp := fun vs H Q _ => ∃ (a g c : Addr) (gs cs : List Int) (r t room : Int), vs = [.ref a, .int room] ∧ H a = some (.dK (stK g c r t)) ∧ H g = some (.lst (gs.map V.int)) ∧ H c = some (.lst (cs.map V.int)) ∧ 0 ≤ r ∧ (∀ z ∈ gs, 0 ≤ z) ∧ 0 ≤ t ∧ t ≤ top ∧ 0 < room ∧ room < 1073741824 ∧
  ∀ (n r' t' : Int) (gs' : List Int) (H' : Hp), 0 ≤ n → n < room → 0 ≤ r' → (t' = t ∨ t' = t + 1) → (∀ z ∈ gs', 0 ≤ z) → gs'.length ≤ gs.length → (∀ b o, b ≠ a → b ≠ g → H b = some o → H' b = some o) → H' a = some (.dK (stK g c r' t')) → H' g = some (.lst (gs'.map V.int)) → Q (.int n) H'
theorem fn_draw {P : Program} {w : World} {K : Frag} {mg : Str → Option Value} {base : Heap} {st stB : Stmt} (T : DrF K mg st) (TB : BlF K mg stB) :
    ∃ (fa : Addr) (fd : FuncData), mg "_law_draw" = some (.ref fa) ∧ FnOk P w K mg base (L2.CX P w) 2 fa fd ["state", "room"] spDr ∧ PySem.W.keepIn K (.ref fa) = true ∧ Binds K fd ["state", "room"] [] := by
  obtain ⟨fa, fd, F, hm⟩ := T.td.ex
  obtain ⟨p, k, hbody, hpl⟩ := T.body
  obtain ⟨fb, fdb, hmb, FB, hkb, hbb⟩ := fn_blended (P := P) (w := w) (base := base) TB
  refine ⟨fa, fd, hm, Fun.okX F T.sc (fun vs H Q E h => by obtain ⟨a, g, c, gs, cs, r, t, room, rfl, _⟩ := h; rfl) fun cdv A outer s H vs Q E hr h => ?_, F.kp, F.binds T.bd⟩
  rw [hbody]
  let X : Cx := cxOf (L2.CX P w) P w K mg base ["state", "room", "found"] "_law_draw" (defScope st) fa cdv A outer s H E
  have ok : Okd X E 1 := okd hr
  have hu : X.A.units + 1 < cLine := ok.toOkc.hu
  have v0 : ∀ q, PE X (.Name "state" q) (tVar 0) := fun q => pe_var (x := ("state" : Str)) rfl (.inl T.l0)
  have v1 : ∀ q, PE X (.Name "room" q) (tVar 1) := fun q => pe_var (x := ("room" : Str)) rfl (.inl T.l1)
  have v2 : ∀ q, PE X (.Name "found" q) (tVar 2) := fun q => pe_var (x := ("found" : Str)) rfl (.inl T.l2)
  have ixs : ∀ q z n q1 q2, PE X (.Subscript (.Name "state" q) (.Constant (.str z) n q1) q2) _ := fun q z n q1 q2 => pe_ix (ix_dict hu) (v0 q) pe_str fun _ _ => rfl
  refine ⟨_, pss_cons (ps_if (X := X) (pt_cmpR op_eq (ixs _ _ _ _ _) pe_int (nomark _)) (pss_one (ps_dput (X := X) hu (v0 _) pe_str
      (pe_ifExp (pt_cmpR (op_neD ok.toOkc.hu64) (ixs _ _ _ _ _) (pe_lst pa_nil) (nomark _))
        (pe_bm PySem.F.plainAttrs_list PySem.F.slot_list_pop PySem.F.type_list_pop mt_popAt (ixs _ _ _ _ _) (pa_cons pe_int pa_nil rfl) rfl rfl hpl rfl rfl)
        (pe_call FB ok.toOkc.room T.lb hmb hkb hbb .nil ok.toOkc.px (pa_cons (v0 _) pa_nil rfl) (by decide) rfl rfl)) rfl)) pss_nil)
    (pss_cons (ps_set (X := X) (i := 2) T.sc.nd rfl (.inl T.l2) (pe_op op_mod (pe_callTy call_int1 T.li T.mi (by decide +kernel) (pa_cons (ixs _ _ _ _ _) pa_nil rfl) (by decide) (by decide) rfl rfl) (v1 _)) rfl (.inl rfl))
    (pss_cons (ps_dput (X := X) hu (v0 _) pe_str (pe_op op_fdiv (ixs _ _ _ _ _) (v1 _)) rfl)
    (pss_one (ps_ret (v2 _))))), ?_⟩
  obtain ⟨a, g, c, gs, cs, r, t, room, rfl, ha, hg, hc, hr0, hgs, ht0, ht1, hm0, hm1, hQ⟩ := h
  have nga : g ≠ a := fun z => by rw [z, ha] at hg; cases hg
  have nca : c ≠ a := fun z => by rw [z, ha] at hc; cases hc
  -- behind the first statement
  have fin : ∀ (r1 t1 : Int) (gs1 : List Int) (H1 : Hp), 0 ≤ r1 → (t1 = t ∨ t1 = t + 1) → (∀ z ∈ gs1, 0 ≤ z) → gs1.length ≤ gs.length → (∀ b o, b ≠ a → b ≠ g → H b = some o → H1 b = some o) → H1 a = some (.dK (stK g c r1 t1)) → H1 g = some (.lst (gs1.map V.int)) → Q (.int (r1 % room)) (upd H1 a (.dK (stK g c (r1 / room) t1))) := fun r1 t1 gs1 H1 h0 h1 h2 h3 h4 h5 h6 =>
    hQ (r1 % room) (r1 / room) t1 gs1 _ (Int.emod_nonneg _ (by omega)) (Int.emod_lt_of_pos _ hm0) (Int.ediv_nonneg h0 (by omega)) h1 h2 h3 (fun b o hb hb2 e => by rw [upd_ne hb]; exact h4 b o hb hb2 e) upd_same (by rw [upd_ne nga]; exact h6)
  refine ⟨.ref a, rfl, a, .int r, rfl, get_rest ha, rfl, _, rfl, ?_⟩
  generalize hdz : decide (V.int r = V.int 0) = dz
  cases dz with
  | true =>
    have hz : r = 0 := by simpa using hdz
    subst hz
    show if true = true then _ else _
    rw [if_pos rfl]
    refine ⟨.ref a, rfl, a, .ref g, rfl, get_great ha, (show 0 ≤ sizeLine by decide), fun q hq => ?_⟩
    let Hq : Hp := upd H q (.lst [])
    have nq : ∀ {b : Addr} {o : HO}, H b = some o → Hq b = some o := fun {b o} e => by show upd _ _ _ b = _; rw [upd_ne (ne_of_none e hq)]; exact e
    have haq := nq ha
    have hgq := nq hg
    have hcq := nq hc
    have hqq : Hq q = some (.lst ((([] : List Int)).map V.int)) := upd_same
    refine ⟨_, _, (seen_ints (K := K) hgq).1, (seen_ints (K := K) hqq).1, (seen_ints (K := K) hgq).2, (seen_ints (K := K) hqq).2, _, rfl, ?_⟩
    rw [eqv_py (show okD 64 (.lst (gs.map D.int)) = true from okL_ints 63 gs) (show okD 64 (.lst (([] : List Int).map D.int)) = true from okL_ints 63 [])]
    cases gs with
    | nil =>
      show if false = true then _ else _
      rw [if_neg Bool.false_ne_true]
      refine ⟨.ref a, rfl, a, g, c, cs, 0, t, rfl, haq, hcq, ht0, ht1, fun n H1 hn hk hd => ?_⟩
      have hg1 : H1 g = some (.lst ((([] : List Int)).map V.int)) := hk _ _ nga hgq
      refine ⟨.ref a, rfl, a, _, rfl, put_rest hd, ?_⟩
      have hd2 : (upd H1 a (.dK (stK g c n (t + 1)))) a = some (.dK (stK g c n (t + 1))) := upd_same
      refine ⟨.ref a, rfl, a, .int n, rfl, get_rest hd2, .inl ⟨n, rfl, .int room, rfl, n, room, rfl, rfl, hm0, ?_⟩⟩
      refine ⟨.ref a, rfl, a, .int n, rfl, get_rest hd2, .int room, rfl, n, room, rfl, rfl, ⟨hm0, hm1⟩, .ref a, rfl, a, _, rfl, put_rest hd2, .int (n % room), rfl, ?_⟩
      exact fin n (t + 1) [] _ hn (.inr rfl) hgs (Nat.le_refl _) (fun b o hb _ e => by rw [upd_ne hb]; exact hk b o hb (nq e)) hd2 (by rw [upd_ne nga]; exact hg1)
    | cons z gs =>
      show if true = true then _ else _
      rw [if_pos rfl]
      refine ⟨.ref a, rfl, a, .ref g, rfl, get_great haq, .inl ⟨rfl, _, SqL.of hgq⟩, g, _, 0, 0, .int z, rfl, rfl, hgq, by decide, by decide, ?_, rfl, ?_⟩
      · exact (ixN_seq (by rw [List.length_map, List.length_cons]; unfold ixN; rw [if_pos (by decide), if_pos (by omega)]; rfl)).1
      have ha3 : (upd Hq g (.lst (((z :: gs).map V.int).eraseIdx 0))) a = some (.dK (stK g c 0 t)) := by rw [upd_ne (Ne.symm nga)]; exact haq
      refine ⟨.ref a, rfl, a, _, rfl, put_rest ha3, ?_⟩
      have hd2 : (upd (upd Hq g (.lst (((z :: gs).map V.int).eraseIdx 0))) a (.dK (stK g c z t))) a = some (.dK (stK g c z t)) := upd_same
      refine ⟨.ref a, rfl, a, .int z, rfl, get_rest hd2, .inl ⟨z, rfl, .int room, rfl, z, room, rfl, rfl, hm0, ?_⟩⟩
      refine ⟨.ref a, rfl, a, .int z, rfl, get_rest hd2, .int room, rfl, z, room, rfl, rfl, ⟨hm0, hm1⟩, .ref a, rfl, a, _, rfl, put_rest hd2, .int (z % room), rfl, ?_⟩
      exact fin z t gs _ (hgs z (by simp)) (.inl rfl) (fun y hy => hgs y (by simp [hy])) (by simp) (fun b o hb hb2 e => by rw [upd_ne hb, upd_ne hb2]; exact nq e) hd2 (by rw [upd_ne nga, upd_same]; rfl)
  | false =>
    show if false = true then _ else _
    rw [if_neg Bool.false_ne_true]
    refine ⟨.ref a, rfl, a, .int r, rfl, get_rest ha, .inl ⟨r, rfl, .int room, rfl, r, room, rfl, rfl, hm0, ?_⟩⟩
    refine ⟨.ref a, rfl, a, .int r, rfl, get_rest ha, .int room, rfl, r, room, rfl, rfl, ⟨hm0, hm1⟩, .ref a, rfl, a, _, rfl, put_rest ha, .int (r % room), rfl, ?_⟩
    exact fin r t gs H hr0 (.inl rfl) hgs (Nat.le_refl _) (fun b o _ _ e => e) ha hg
end DL
end
section
/-! DL18: _law_draw as a def with a meaning. -/
set_option Elab.async false
set_option linter.all false
set_option autoImplicit false
set_option maxRecDepth 100000
set_option maxHeartbeats 4000000
namespace DL
open PySem PySem.Spec PyProof.Rows L2 LamX
theorem b2_ok {f : D → D → M D} {ds : List D} {W : Out D → Prop} (h : b2 f ds W) : ∃ a b, ds = [a, b] ∧ f a b W := by
  match ds, h with
  | [a, b], h => exact ⟨a, b, rfl, h⟩
  | [], h => exact (show False from h).elim
  | [_], h => exact (show False from h).elim
  | _ :: _ :: _ :: _, h => exact (show False from h).elim
theorem drawM_ok {a b : D} {W : Out D → Prop} (h : drawM a b W) : ∃ room : Int, a = .st ∧ b = .int room ∧ 0 < room ∧ room < 1073741824 ∧ ∀ k, 0 ≤ k → k < room → W (.ok (.int k)) := by
  cases a <;> cases b <;> first | exact (show False from h).elim | skip
  rename_i room
  obtain ⟨⟨h1, h2⟩, h3⟩ := (show (0 < room ∧ room < 1073741824) ∧ (M.draw room >>= fun k => pure (D.int k)) W from h)
  obtain ⟨_, h4⟩ := (show 0 < room ∧ ∀ k, 0 ≤ k → k < room → W (.ok (.int k)) from h3)
  exact ⟨room, rfl, rfl, h1, h2, h4⟩
/-- the draws' state written -/
theorem Rel.drawn {K : Frag} {ci : Ci} {G : Gh} {F P H H' : Hp} {a g c : Addr} (r : Rel K ci G F P [] [] H) (hs : G.st = some (a, g, c)) (hk : ∀ b o, b ≠ a → b ≠ g → H b = some o → H' b = some o) (hS : StOk (G.n + 1) H' a g c) :
    Rel K ci ⟨G.tabs, G.st, G.n + 1⟩ F P [] [] H' := by
  have ra : reg G a := .inr ⟨a, g, c, hs, .inl rfl⟩
  have rg : reg G g := .inr ⟨a, g, c, hs, .inr (.inl rfl)⟩
  obtain ⟨gs, cs, r1, t, h1, h2, h3, _⟩ := r.ok.st a g c hs
  exact {
    sf := fun b o e => hk b o (ne_of_none e (r.ok.fr a ra)) (ne_of_none e (r.ok.fr g rg)) (r.sf b o e)
    sp := fun b o e => hk b o (ne_of_none e (r.rp a ra)) (ne_of_none e (r.rp g rg)) (r.sp b o e)
    dj := r.dj
    rp := r.rp
    ok := ⟨fun q hq => by
      obtain ⟨ps, e, e1, e2⟩ := r.ok.tabs q hq
      have n1 : q.1 ≠ a := fun z => by rw [z, h1] at e; cases e
      have n2 : q.1 ≠ g := fun z => by rw [z, h2] at e; cases e
      refine ⟨ps, hk _ _ n1 n2 e, e1, fun pos cv hc => ?_⟩
      obtain ⟨lc, e3, e4⟩ := e2 pos cv hc
      have e5 := e4
      unfold CodeO at e5
      exact ⟨lc, e3, hk _ _ (fun z => by rw [z, h1] at e5; cases e5) (fun z => by rw [z, h2] at e5; cases e5) e4⟩, r.ok.fr, fun a2 g2 c2 e => by
      have e : G.st = some (a2, g2, c2) := e
      rw [hs] at e
      cases e
      exact hS⟩
    len := rfl
    sh := fun i d h => by simp at h
    ow := fun i d h => by simp at h
    ap := fun i j d e p _ h => by simp at h
    tb := r.tb }
theorem fd_draw {P : Program} {w : World} {K : Frag} {mg : Str → Option Value} {base : Heap} {ci : Ci} {st stB : Stmt} (T : DrF K mg st) (TB : BlF K mg stB) : Fd P w K mg base ci 2 "_law_draw" .sh 2 (b2 drawM) := by
  obtain ⟨fa, fd, h1, h2, h3, h4⟩ := fn_draw (P := P) (w := w) (base := base) T TB
  refine ⟨⟨fa, fd, _, h1, h2.imp fun vs H Q E h => ?_, h3, h4⟩, fun ds W h => by obtain ⟨a, b, rfl, _⟩ := b2_ok h; rfl⟩
  obtain ⟨G, PP, F, ds, W, bd, rel, rp, hf, hw⟩ := h
  obtain ⟨da, db, rfl, hf⟩ := b2_ok hf
  obtain ⟨room, rfl, rfl, hm0, hm1, hW⟩ := drawM_ok hf
  cases rp with
  | cons ra rb =>
    cases rb with
    | cons rb rc =>
      cases rc
      cases rb
      cases ra with
      | @st a hst =>
        obtain ⟨g, c, hs⟩ : ∃ g c, G.st = some (a, g, c) := by
          have hst : G.st.map (·.1) = some a := hst
          cases q : G.st with
          | none => rw [q] at hst; cases hst
          | some x =>
            obtain ⟨a2, g, c⟩ := x
            rw [q] at hst
            cases hst
            exact ⟨g, c, rfl⟩
        obtain ⟨gs, cs, r, t, e1, e2, e3, e4, e5, e6, e7, e8, e9, e10⟩ := rel.ok.st a g c hs
        have hb2 : 1 ≤ bud 2 := by decide +kernel
        refine ⟨a, g, c, gs, cs, r, t, room, rfl, e1, e2, e3, e5, e6, e9, by omega, hm0, hm1, fun n r' t' gs' H' n0 n1 hr' ht' hgs' hl' hk ha' hg' => ?_⟩
        have nca : c ≠ a := fun z => by rw [z, e1] at e3; cases e3
        have hc' : H' c = some (.lst (cs.map V.int)) := hk _ _ nca (Ne.symm e4) e3
        exact hw _ (hW n n0 n1) ⟨G.tabs, G.st, G.n + 1⟩ F H' _ ⟨rfl, fun _ h => h, by show G.n + 1 ≤ G.n + bud 2; omega⟩ (Same.refl F) (rel.drawn hs hk ⟨gs', cs, r', t', ha', hg', hc', e4, hr', hgs', Nat.le_trans hl' e7, e8, by omega, by omega⟩) (.int n)
end DL
end
section
/-! DL19: list(range(..)). -/
set_option Elab.async false
set_option linter.all false
set_option autoImplicit false
set_option maxRecDepth 100000
set_option maxHeartbeats 4000000
namespace DL
open PySem PySem.Spec PyProof.Rows L2 LamX
def rngV (i : Int) (n : Nat) : List V := (List.range n).map fun k => V.int (i + (k : Nat))
theorem vals_at : ∀ {us : List Value} {xs : List V}, us.length = xs.length → (∀ (j : Nat) u x, us[j]? = some u → xs[j]? = some x → RelV x u) → Vals xs us
  | [], [], _, _ => .nil
  | u :: us, x :: xs, hl, h => .cons (h 0 u x rfl rfl) (vals_at (by simpa using hl) fun j u' x' e1 e2 => h (j + 1) u' x' (by simpa using e1) (by simpa using e2))
  | [], _ :: _, hl, _ => by simp at hl
  | _ :: _, [], hl, _ => by simp at hl
section
variable {X : Cx}
/-- list of a range object -/
theorem call_list_rng (hc : X.calm = true) : CallR X (.type "list") (fun xs H Q => ∃ (r : Addr) (lo hi : Int), xs = [.ref r] ∧ H r = some (.rng lo hi) ∧ -(2 ^ 62) ≤ lo ∧ lo < 2 ^ 62 ∧ -(2 ^ 62) ≤ hi ∧ hi < 2 ^ 62 ∧ hi - lo ≤ 2 ^ 24 ∧
    ∀ l, H l = none → Q (.ref l) (upd H l (.lst (rngV lo (hi - lo).toNat)))) := by
  intro pins s σ H xs us Q I r h
  obtain ⟨a, lo, hi, rfl, ha, h1, h2, h3, h4, h5, q⟩ := h
  rw [Vals.ref1 r]
  obtain ⟨t, u, v, hob⟩ := I.hok a _ ha
  have hsz : Builtin.Range.rangeSize lo hi 1 = (((hi - lo).toNat : Nat) : Int) := by rw [rangeSize_one]; split <;> omega
  refine call_list_range (I.ok.hd hc) (show IsRange s.heap a lo hi 1 t u v from hob) (small_one h1 h2 h3 h4) hsz (by omega) fun h' tk acc c' hk hl hit => ?_
  have hn : H s.heap.objs.size = none := I.hok.fresh (Nat.le_refl _)
  refine ⟨.ref s.heap.objs.size, _, I.laid (t' := tk) (a := s.heap.objs.size) (o := .lst (rngV lo (hi - lo).toNat)) hk (Nat.le_refl _) ⟨?_, acc.toList, c', vals_at ?_ ?_, hl⟩, rfl, q _ hn⟩
  · unfold rngV
    rw [List.length_map, List.length_range]
    have e : sizeLine = 2 ^ 24 := by decide
    omega
  · unfold rngV
    rw [List.length_map, List.length_range, Array.length_toList, hit.1]
  · intro j w x e1 e2
    obtain ⟨tk2, rfl⟩ := hit.2 j w (by simpa using e1)
    unfold rngV at e2
    rw [List.getElem?_map] at e2
    cases q2 : (List.range (hi - lo).toNat)[j]? with
    | none => rw [q2] at e2; cases e2
    | some k =>
      rw [q2] at e2
      cases e2
      have ek : k = j := by
        have := List.getElem?_range (n := (hi - lo).toNat) (i := j)
        obtain ⟨hlt, hv⟩ := List.getElem?_eq_some_iff.mp q2
        rw [List.getElem_range] at hv
        exact hv.symm
      subst ek
      exact ⟨tk2, by simp⟩
end
end DL
end
section
/-! DL20: a, b = x, y where some target is a cell: through the tuple. -/
set_option Elab.async false
set_option linter.all false
set_option autoImplicit false
set_option maxRecDepth 100000
set_option maxHeartbeats 1000000
namespace DL
open PySem PySem.Spec PyProof.Rows L2
section
variable {K : Frag} {ci : Ci} {G : Gh} {F P H H' : Hp} {ρ : Env} {σ : L2.St}
theorem Alls.same (e : Same H H') : ∀ {ms : List Bool} {vs : List V} {ds : List D}, Alls K ci G F P ρ σ H ms vs ds → Alls K ci G F P ρ σ H' ms vs ds
  | [], [], [], _ => True.intro
  | true :: ms, _ :: vs, _ :: ds, ⟨⟨q, e1, lo, ow⟩, h2, h3⟩ => by
    obtain ⟨o, ho⟩ := ow.there
    exact ⟨⟨q, e1, lo, ow.mono (Rc.Le.refl _) (Same.refl _) ((e _ _ ho).trans ho.symm)⟩, h2, Alls.same e h3⟩
  | false :: ms, _ :: vs, _ :: ds, ⟨h1, h2, h3⟩ => ⟨h1, h2, Alls.same e h3⟩
  | [], [], _ :: _, h => h.elim
  | [], _ :: _, _, h => h.elim
  | _ :: _, [], _, h => h.elim
  | _ :: _, _ :: _, [], h => h.elim
theorem Alls.len : ∀ {ms : List Bool} {vs : List V} {ds : List D}, Alls K ci G F P ρ σ H ms vs ds → vs.length = ms.length
  | [], [], [], _ => rfl
  | _ :: _, _ :: _, _ :: _, h => by rw [List.length_cons, List.length_cons, Alls.len h.2.2]
  | [], [], _ :: _, h => h.elim
  | [], _ :: _, _, h => h.elim
  | _ :: _, [], _, h => h.elim
  | _ :: _, _ :: _, [], h => h.elim
end
section
variable {X : Cx} {ci : Ci} {E : XK} {m : Md} {es tgs : List Expr} {r : XA} {is : List (Nat × Bool)} {x : Str} {i n : Nat} {b : Bool} {p pt pos : Pos} {kt k2 pt2} {za : Nat}
/-- plain names take the values in their order -/
def gSet (is : List (Nat × Bool)) : TGs := fun vs σ H Q => vs.length = is.length ∧ Q (setV is vs σ) H
abbrev DPs (X : Cx) (tgs : List Expr) (is : List (Nat × Bool)) : Prop := PGs X tgs (gSet is)
theorem dp_nil : DPs X [] [] := pgs_nil.imp fun vs σ H Q h => ⟨List.length_eq_zero_iff.mp h.1, by have e := List.length_eq_zero_iff.mp h.1; subst e; exact h.2⟩
theorem dp_cons (b : Bool) (hN : X.N.Nodup) (hr : DPs X tgs is) (hi : X.N[i]? = some x := by rfl) (hx : Loc X.env.scope x := by first | exact .inl rfl | exact .inr rfl) (hf : X.fn x = true ∨ X.env.scope.names.lookup x = some .local := by first | exact .inl rfl | exact .inr rfl | assumption)
    (hs : (assignEach (.Name x p :: tgs) X.env).map (·.2) = assign (.Name x p) X.env :: (assignEach tgs X.env).map (·.2) := by rfl) : DPs X (.Name x p :: tgs) ((i, b) :: is) :=
  (pgs_cons (pg_name hN hi hx hf) hr hs).imp fun vs σ H Q h => by
    obtain ⟨hl, h⟩ := h
    cases vs with
    | nil => cases hl
    | cons v vs => exact ⟨v, vs, rfl, by simpa using hl, h⟩
theorem ds_parC (hc : X.calm = true) (ha : DAM X ci E za (is.map (·.2)) es r) (hg : DPs X tgs is) (hn : (assignEach tgs X.env).length = is.length := by rfl) (hst : (assignEach tgs X.env).findIdx? (·.1) = none := by rfl) (hz : is.length ≤ sizeLine := by decide)
    (hs : swapsWithSole [.Tuple tgs kt pt] (.Tuple es k2 pt2) pos.line X.env = pure false := by rfl) (hw : swappedStores [.Tuple tgs kt pt] (.Tuple es k2 pt2) X.env = pure none := by rfl)
    (h1 : (assignEach [.Tuple tgs kt pt] X.env).map (·.2) = [assign (.Tuple tgs kt pt) X.env] := by rfl) :
    DS X ci E za m (.Assign [.Tuple tgs kt pt] (.Tuple es k2 pt2) pos) (sPar is r) :=
  (ps_asg (pe_tup ha) (pg_tup hc hg hn hst) hs hw h1).imp fun D σ H ⟨G, P, F, ρ, W, bd, rel, hd, hw⟩ => by
    refine ⟨G, P, F, ρ, _, by omega, rel, hd, fun o ho => ?_⟩
    cases o with
    | exc c fs => exact XP.lo (hw _ ho)
    | ok ds =>
      intro G1 F1 H1 vs l1 s1 r1 x1
      have hl : vs.length = is.length := x1.len.trans (List.length_map _)
      refine ⟨by rw [hl]; exact hz, fun p hp => ⟨p, vs, rfl, .inl (.inl upd_same), hl, hl, ?_⟩⟩
      exact hw _ ho G1 F1 _ _ l1.up s1 ((r1.new hp).setAll (x1.same (same_upd hp)))
end
end DL
end
section
/-! DL21: list(range(..)). -/
set_option Elab.async false
set_option linter.all false
set_option autoImplicit false
set_option maxRecDepth 100000
set_option maxHeartbeats 1000000
namespace DL
open PySem PySem.Spec PyProof.Rows L2
section
variable {X : Cx} {ci : Ci} {E : XK} {a b : Expr} {da db : XE} {p p2 pos pos2 : Pos} {za zb : Nat}
theorem call_rng1 : CallR X (.type "range") (fun vs H Q => ∃ j, vs = [V.int j] ∧ ∀ p, H p = none → Q (.ref p) (upd H p (.rng 0 j))) := by
  intro pins s σ H vs us Q I r h
  obtain ⟨j, rfl, q⟩ := h
  cases r with
  | cons rj rr =>
    cases rr
    obtain ⟨t, rfl⟩ := rj
    refine call_range_1 ⟨.ref s.heap.objs.size, upd H s.heap.objs.size (.rng 0 j), I.laid (t' := s.toks + 1 + 1) (fun b o e => Heap.get?_push_of_some _ e) (Nat.le_refl _) ?_, rfl, q _ (I.hok.fresh (Nat.le_refl _))⟩
    exact ⟨s.toks, t, s.toks + 1, Heap.get?_push_size _ rfl⟩
def lrng1M (x : D) : M D := do
  let xs ← range1M x
  pure (.lst xs)
def lrng2M (x y : D) : M D := do
  let xs ← range2M x y
  pure (.lst xs)
theorem rngV_rep {R : Rc} {F : Hp} (i : Int) (n : Nat) : RepL R F (rngV i n) ((List.range n).map fun k => D.int (i + (k : Nat))) := by
  unfold rngV
  generalize List.range n = l
  induction l with
  | nil => exact .nil
  | cons k l ih => exact .cons (.int _) ih
theorem rngL_post {K : Frag} {N : Nat} {G : Gh} {F P H : Hp} {ρ : Env} {σ : L2.St} {Q : VK} {i j : Int} {q l : Addr} (rel : Rel K ci G F P ρ σ H) (hq : H q = none) (hl : upd H q (.rng i j) l = none) (hN : G.n ≤ N)
    (h : Po K ci E N .own G P F ρ σ Q (.ok (.lst (rangeL i j)))) : Q (.ref l) (upd (upd H q (.rng i j)) l (.lst (rngV i (j - i).toNat))) :=
  h.make (rel.new hq) hl ⟨_, upd_same, rngV_rep i _⟩
theorem do_lrng1 (hc : X.calm = true) (hg : Gl X "list") (hm : X.mg "list" = none) (hg2 : Gl X "range") (hm2 : X.mg "range" = none) (ha : DB X ci E za a da)
    (h1 : starEach [.Call (.Name "range" p2) [a] [] pos2] X.env = (false, eval (.Call (.Name "range" p2) [a] [] pos2) X.env) :: starEach [] X.env := by rfl) (h2 : starEach [a] X.env = (false, eval a X.env) :: starEach [] X.env := by rfl) :
    DO X ci E za (.Call (.Name "list" p) [.Call (.Name "range" p2) [a] [] pos2] [] pos) (d1 lrng1M da) :=
  (pe_callTy (call_list_rng hc) hg hm (by decide +kernel) (pa_cons (pe_callTy call_rng1 hg2 hm2 boot_range (pa_cons ha pa_nil h2) (by decide) (by decide) h2) pa_nil h1) (by decide) (by decide) h1).imp fun σ H Q ⟨G, P, F, ρ, W, bd, rel, hd, hw⟩ => by
    refine ⟨G, P, F, ρ, _, by omega, rel, hd, fun o ho => ?_⟩
    cases o with
    | exc c fs => exact XP.lo (hw _ ho)
    | ok d =>
      intro G1 F1 H1 v l1 s1 r1 x1
      cases d with
      | int j =>
        obtain ⟨⟨q1, q2⟩, ho⟩ := (show (-(2 ^ 62) ≤ j ∧ j ≤ 2 ^ 24) ∧ W (.ok (.lst (rangeL 0 j))) from ho)
        have ln := l1.n
        refine ⟨j, by rw [(Bor.seen x1 r1).int], fun q hq => ⟨q, 0, j, rfl, upd_same, by omega, by omega, q1, by omega, by omega, fun l hl => ?_⟩⟩
        exact rngL_post r1 hq hl ln ((hw _ ho).to l1 s1)
      | _ => exact (show False from ho).elim
theorem do_lrng2 (hc : X.calm = true) (hg : Gl X "list") (hm : X.mg "list" = none) (hg2 : Gl X "range") (hm2 : X.mg "range" = none) (ha : DB X ci E za a da) (hb : DB X ci E zb b db)
    (h1 : starEach [.Call (.Name "range" p2) [a, b] [] pos2] X.env = (false, eval (.Call (.Name "range" p2) [a, b] [] pos2) X.env) :: starEach [] X.env := by rfl) (h2 : starEach [a, b] X.env = (false, eval a X.env) :: starEach [b] X.env := by rfl) (h3 : starEach [b] X.env = (false, eval b X.env) :: starEach [] X.env := by rfl) (hpl : (backTo pos2 (starEach [b] X.env)).any (·.1) = false := by rfl) :
    DO X ci E (za + zb) (.Call (.Name "list" p) [.Call (.Name "range" p2) [a, b] [] pos2] [] pos) (d2 lrng2M da db) :=
  (pe_callTy (call_list_rng hc) hg hm (by decide +kernel) (pa_cons (pe_callTy cr_range2 hg2 hm2 boot_range (pa_cons ha (pa_cons hb pa_nil h3) h2) (by decide) (by decide) h2 hpl) pa_nil h1) (by decide) (by decide) h1).imp fun σ H Q ⟨G, P, F, ρ, W, bd, rel, hd, hw⟩ => by
    refine ⟨G, P, F, ρ, _, by omega, rel, hd, fun o ho => ?_⟩
    cases o with
    | exc c fs => exact XP.lo (hw _ ho)
    | ok d =>
      intro G1 F1 H1 v l1 s1 r1 x1
      have ln := l1.n
      refine ⟨G1, P, F1, ρ, _, by omega, r1, ho, fun o ho => ?_⟩
      cases o with
      | exc c fs => exact XP.le (hw _ ho) l1 s1
      | ok e =>
        intro G2 F2 H2 u l2 s2 r2 x2
        have ln2 := l2.n
        obtain ⟨i, j, rfl, rfl⟩ : ∃ i j, d = .int i ∧ e = .int j := by
          cases d <;> cases e <;> first | exact (show False from ho).elim | exact ⟨_, _, rfl, rfl⟩
        obtain ⟨⟨q1, q2, q3, q4, q5⟩, ho⟩ := (show (-(2 ^ 62) ≤ i ∧ i < 2 ^ 62 ∧ -(2 ^ 62) ≤ j ∧ j < 2 ^ 62 ∧ j - i ≤ 2 ^ 24) ∧ W (.ok (.lst (rangeL i j))) from ho)
        have ev : v = .int i := (Bor.seen (x1.mono (rc_le _ ci l2) s2) r2).int
        refine ⟨i, j, by rw [ev, (Bor.seen x2 r2).int], fun q hq => ⟨q, i, j, rfl, upd_same, q1, q2, q3, q4, q5, fun l hl => ?_⟩⟩
        exact rngL_post r2 hq hl (by omega) ((hw _ ho).le (l1.trans l2) (s1.trans s2))
end
end DL
end
section
/-! DL22: f(k = x, ..), nothing by position. -/
set_option Elab.async false
set_option linter.all false
set_option autoImplicit false
set_option maxRecDepth 100000
set_option maxHeartbeats 1000000
namespace DL
open PySem PySem.Spec PyProof.Rows L2
def permL {α : Type} (π : List Nat) (l : List α) : List α := π.filterMap fun i => l[i]?
/-- only where nothing stands by position -/
def onlyK {α : Type} (π : List Nat) (us ws : List α) : List α := match us with
  | [] => permL π ws
  | _ => []
theorem vals_at2 : ∀ {zs : List V} {ws : List Value} (i : Nat), Vals zs ws → (zs[i]? = none ∧ ws[i]? = none) ∨ ∃ z w, zs[i]? = some z ∧ ws[i]? = some w ∧ RelV z w
  | [], [], i, _ => .inl ⟨by simp, by simp⟩
  | z :: zs, w :: ws, 0, .cons h _ => .inr ⟨z, w, rfl, rfl, h⟩
  | z :: zs, w :: ws, i + 1, .cons _ r => by
    simp only [List.getElem?_cons_succ]
    exact vals_at2 i r
theorem permL_vals {zs : List V} {ws : List Value} (h : Vals zs ws) : ∀ π : List Nat, Vals (permL π zs) (permL π ws)
  | [] => .nil
  | i :: π => by
    unfold permL
    rcases vals_at2 i h with ⟨e1, e2⟩ | ⟨z, w, e1, e2, r⟩
    · rw [List.filterMap_cons_none e1, List.filterMap_cons_none e2]; exact permL_vals h π
    · rw [List.filterMap_cons_some e1, List.filterMap_cons_some e2]; exact .cons r (permL_vals h π)
theorem permL_rep {R : Rc} {F : Hp} {vs : List V} {ds : List D} (h : RepL R F vs ds) : ∀ π : List Nat, RepL R F (permL π vs) (permL π ds)
  | [] => .nil
  | i :: π => by
    unfold permL
    cases e : ds[i]? with
    | none =>
      have e2 : vs[i]? = none := by rw [List.getElem?_eq_none_iff] at e ⊢; rw [h.length]; exact e
      rw [List.filterMap_cons_none e, List.filterMap_cons_none e2]
      exact permL_rep h π
    | some d =>
      obtain ⟨v, e2, r⟩ := h.get e
      rw [List.filterMap_cons_some e, List.filterMap_cons_some e2]
      exact .cons r (permL_rep h π)
/-- a def that is called by keywords -/
structure Fk (P : Program) (w : World) (K : Frag) (mg : Str → Option Value) (base : Heap) (ci : Ci) (k : Nat) (x : Str) (m : Md) (ks : List Str) (π : List Nat) (f : List D → M D) : Prop where
  ex : ∃ (fa : Addr) (fd : FuncData) (ps : List Str), mg x = some (.ref fa) ∧ FnOk P w K mg base (L2.CX P w) k fa fd ps (spD K ci (bud k) m f) ∧ PySem.W.keepIn K (.ref fa) = true ∧ KBinds K fd ps ks (onlyK π) (onlyK π)
section
variable {P : Program} {w : World} {K : Frag} {mg : Str → Option Value} {base : Heap} {ci : Ci} {n kk : Nat} {x : Str} {st : Stmt} {N ps : List Str} {b : XS} {z : Nat}
theorem fdk_sh (T : Td K mg x st) (S : FnScope N ps (defScope st)) (hn : N.length = n) {a : Nat} (ha : ps.length = a) (hps : ps ≠ []) (ks : List Str) (π : List Nat)
    (hbd : ∀ (kV doc pm : Value) (an : Option Addr) (cdv ct : Value) (us : List Value), us.length = ps.length → bindArgs (PySem.W.fnOf x x (defArgs st) (defBody st) (defScope st) .none kV doc pm an cdv ct) ⟨us, []⟩ = pure (ps.zip us))
    (hbk : ∀ (kV doc pm : Value) (an : Option Addr) (cdv ct : Value) (ws : List Value), (permL π ws).length = ps.length → bindArgs (PySem.W.fnOf x x (defArgs st) (defBody st) (defScope st) .none kV doc pm an cdv ct) ⟨[], ks.zip ws⟩ = pure (ps.zip (permL π ws)))
    (hb : ∀ (f : Addr) (cdv : Value) (A : Around) (outer : List PySem.Env) (s : Shared) (H : Hp) (E : XK), Okd (cxD P w K mg base N x st f cdv A outer s H E) E kk → DSs (cxD P w K mg base N x st f cdv A outer s H E) ci E z .sh (defBody st) b) (hz : z ≤ bud (kk + 1) := by decide +kernel) :
    Fd P w K mg base ci (kk + 1) x .sh a (run n a b) ∧ Fk P w K mg base ci (kk + 1) x .sh ks π (run n a b) := by
  obtain ⟨f, fd, F, hm⟩ := T.ex
  subst hn ha
  have ok := fnD F S (fun cdv A outer s H E ok => (hb f cdv A outer s H E ok).imp fun _ _ _ => tS_lo hz)
  refine ⟨⟨⟨f, fd, ps, hm, ok, F.kp, F.binds hbd⟩, fun _ _ => run_len⟩, ⟨f, fd, ps, hm, ok, F.kp, ⟨fun s us ws _ hl => ?_, fun {vs us zs ws} r rz => ?_⟩⟩⟩
  · cases us with
    | nil =>
      obtain ⟨oc, od, kV, doc, pm, an, cdv, ct, osl, rfl, lk, hcd⟩ := F.ex
      exact .of_eq (hbk kV doc pm an cdv ct ws hl)
    | cons u us => exact (hps (List.length_eq_zero_iff.mp hl.symm)).elim
  · cases r with
    | nil => exact permL_vals rz π
    | cons _ _ => exact .nil
end
section
variable {X : Cx} {ci : Ci} {E : XK} {e : Expr} {kws : List Keyword} {d : XE} {r : XA} {x : Str} {p pos kpos : Pos} {nm : Option Str} {ks : List Str} {π : List Nat} {k kk : Nat} {f : List D → M D} {za zr : Nat}
abbrev DK (X : Cx) (ci : Ci) (E : XK) (z : Nat) (kws : List Keyword) (d : XA) : Prop := PK X kws (tA X.K ci E z .sh d)
theorem _root_.L2.PK.imp {X : Cx} {e : List Keyword} {t t' : TA} (h : PK X e t) (i : ∀ σ H Q, t' σ H Q → t σ H Q) : PK X e t' := ⟨fun pos pins s σ H Q I q => h.run pos pins s σ H Q I (i σ H Q q)⟩
theorem dk_nil : DK X ci E 0 [] dNil := pk_nil.imp fun σ H Q ⟨G, P, F, ρ, W, bd, r, hd, hw⟩ => hw _ hd G F H [] (Gh.Le.refl G) (Same.refl F) r True.intro
theorem dk_c (ha : DE X ci E za e d) (hr : DK X ci E zr kws r) : DK X ci E (za + zr) (⟨nm, e, kpos⟩ :: kws) (dCons d r) :=
  (pk_cons ha hr).imp fun σ H Q ⟨G, P, F, ρ, W, bd, rel, hd, hw⟩ => by
    refine ⟨G, P, F, ρ, _, by omega, rel, hd, fun o ho => ?_⟩
    cases o with
    | exc c fs => exact XP.lo (hw _ ho)
    | ok a =>
      intro G1 F1 H1 v l1 s1 r1 x1
      refine ⟨G1, P, F1, ρ, _, by omega, r1, ho, fun o ho => ?_⟩
      cases o with
      | exc c fs => exact XP.le (hw _ ho) l1 s1
      | ok ds => exact fun G2 F2 H2 vs l2 s2 r2 x2 => hw _ ho G2 F2 H2 _ (l1.trans l2).up (s1.trans s2) r2 ⟨Rep.mono (rc_le _ ci l2) s2 x1, x2⟩
/-- a call by keywords -/
def dCallK (m : List D → M D) (π : List Nat) (a : XA) : XE := fun ρ => do
  let xs ← a ρ
  m (permL π xs)
theorem de_callK (h : Fk X.prog X.w X.K X.mg X.base ci k x .sh ks π f) (ok : Okc X E kk) (hg : Gl X x) (ha : DK X ci E za kws r) (hk : k ≤ kk := by decide) (hall : (backToKw pos (keywordEach kws X.env)).all (·.1.isSome) = true := by rfl) (hks : (backToKw pos (keywordEach kws X.env)).filterMap (·.1) = ks := by rfl)
    (hdb : (x == ("__debug__" : Str)) = false := by decide) (hpl : ((backTo pos (starEach [] X.env)).any (·.1) || (backToKw pos (keywordEach kws X.env)).any (·.1.isNone)) = false := by rfl) :
    DE X ci E (za + bud k) (.Call (.Name x p) [] kws pos) (dCallK f π r) := by
  obtain ⟨fa, fd, ps, h1, h2, h3, h4⟩ := h.ex
  refine ⟨fun pins s σ H Q I hh => ?_⟩
  refine wpAny_Call_Name_kw (ld_glob I hg h1 ?_ hdb)
  obtain ⟨G, P, F, ρ, W, bd, rel, hd, hw⟩ := hh
  refine PySem.W.callWith_KW0 (h₀ := X.base) I.ok.mod.kin h3 hall (thn (ha.run pos pins s σ H (fun zs H2 => spD X.K ci (bud k) .sh f (permL π zs) H2 Q E) I ⟨G, P, F, ρ, _, by omega, rel, hd, fun o ho => ?_⟩) fun ws s2 ⟨zs, H2, I2, rz, q2⟩ => ⟨I2.kIn, ?_⟩) hpl
  · cases o with
    | exc c fs => exact XP.lo (hw _ ho)
    | ok ds =>
      intro G1 F1 H1 vs l1 s1 r1 x1
      obtain ⟨P', r2, hP, back⟩ := r1.shut
      have ln := l1.n
      refine ⟨G1, P', F1, permL π ds, W, by omega, r2, permL_rep (resL_rep x1) π, ho, fun o ho => ?_⟩
      cases o with
      | exc c fs => exact fun G' F' H' cv dx l s r x => hw _ ho G' F' H' cv dx (l1.trans l).up (s1.trans s) (back _ G' F' H' l s r).1.base x
      | ok d => exact fun G2 F2 H2 v l2 s2 r3 x3 => hw _ ho G2 F2 H2 v (l1.trans l2).up (s1.trans s2) (back _ G2 F2 H2 l2 s2 r3).1 x3
  · rw [hks]
    exact run_fnk (us := []) (vs := []) h2 (ok.room.mono hk) h4 ok.px I2 .nil rz q2
end
end DL
end
section
/-! DL23: dict displays, list.index, text constants, defs whose lambdas' tables are known. -/
set_option Elab.async false
set_option linter.all false
set_option autoImplicit false
set_option maxRecDepth 100000
set_option maxHeartbeats 1000000
namespace DL
open PySem PySem.Spec PyProof.Rows L2
theorem Okc.hu65 {X : Cx} {E : XK} {k : Nat} (ok : Okc X E k) : X.A.units + 65 < cLine := by have := ok.room.un; omega
/-! ### dict displays -/
def prNil : Env → M (List (Key × D)) := fun _ => pure []
def prCons (k v : XE) (r : Env → M (List (Key × D))) : Env → M (List (Key × D)) := fun ρ => do
  let a ← k ρ
  let b ← v ρ
  let q ← M.get (keyD a)
  let m ← r ρ
  pure ((q, b) :: m)
def mergeD (kvs more : List (Key × D)) : List (Key × D) := more.foldl (fun acc kv => putD acc kv.1 kv.2) kvs
def dDict (r : Env → M (List (Key × D))) : XE := fun ρ => do
  let m ← r ρ
  M.need (m.length ≤ 15)
  pure (.dK (mergeD [] m))
theorem RepK.len {R : Rc} {F : Hp} : ∀ {ws : List (Key × V)} {kvs : List (Key × D)}, RepK R F ws kvs → ws.length = kvs.length
  | _, _, .nil => rfl
  | _, _, .cons _ r => by rw [List.length_cons, List.length_cons, RepK.len r]
theorem RepK.merge {R : Rc} {F : Hp} : ∀ {more : List (Key × V)} {mk : List (Key × D)}, RepK R F more mk → ∀ {ws : List (Key × V)} {kvs : List (Key × D)}, RepK R F ws kvs → RepK R F (mergeK ws more) (mergeD kvs mk)
  | _, _, .nil, _, _, r0 => r0
  | _, _, .cons h r, _, _, r0 => RepK.merge r (r0.put h)
section
variable (K : Frag) (ci : Ci) (E : XK)
def tPr (z : Nat) (d : Env → M (List (Key × D))) : L2.St → Hp → (List (V × V) → Hp → Prop) → Prop := fun σ H Q => ∃ G P F ρ W, G.n + z ≤ top ∧ Rel K ci G F P ρ σ H ∧ d ρ W ∧ ∀ o, W o → match o with
  | .ok kvs => ∀ G' F' H' ws, Gh.Le (G.n + z) G G' → Same F F' → Rel K ci G' F' P ρ σ H' → RepK (rc K ci G') F' ws kvs → Q (ws.map fun kv => (kV kv.1, kv.2)) H'
  | .exc c fs => XP K ci E (G.n + z) G P F c fs
end
structure DPr (X : Cx) (ci : Ci) (E : XK) (z : Nat) (pos : Pos) (ks : List (Option Expr)) (vs : List Expr) (d : Env → M (List (Key × D))) : Prop where
  ex : ∃ trs, PPs X pos ks vs trs ∧ ∀ σ H Q, tPr X.K ci E z d σ H Q → tPairs trs σ H Q
section
variable {X : Cx} {ci : Ci} {E : XK} {k v a b e : Expr} {ks : List (Option Expr)} {vs : List Expr} {dk dv da db : XE} {dr : Env → M (List (Key × D))} {pos : Pos} {zk zv zr za zb z0 : Nat}
theorem dpr_nil : DPr X ci E 0 pos [] [] prNil := ⟨[], pps_nil, fun σ H Q ⟨G, P, F, ρ, W, bd, r, hd, hw⟩ => hw _ hd G F H [] (Gh.Le.refl G) (Same.refl F) r .nil⟩
theorem dpr_cons (hk : DE X ci E zk k dk) (hv : DE X ci E zv v dv) (hr : DPr X ci E zr pos ks vs dr) : DPr X ci E (zk + zv + zr) pos (some k :: ks) (v :: vs) (prCons dk dv dr) := by
  obtain ⟨trs, h1, h2⟩ := hr.ex
  refine ⟨_, pps_cons hk hv h1, fun σ H Q ⟨G, P, F, ρ, W, bd, rel, hd, hw⟩ => ?_⟩
  refine ⟨G, P, F, ρ, _, by omega, rel, hd, fun o ho => ?_⟩
  cases o with
  | exc c fs => exact XP.lo (hw _ ho)
  | ok x =>
    intro G1 F1 H1 u l1 s1 r1 x1
    refine ⟨G1, P, F1, ρ, _, by have := l1.n; omega, r1, ho, fun o ho => ?_⟩
    cases o with
    | exc c fs => exact XP.le (hw _ ho) l1 s1
    | ok y =>
      intro G2 F2 H2 u2 l2 s2 r2 x2
      obtain ⟨q, hq, ho⟩ := get_ok (show M.get (keyD x) _ from ho)
      refine h2 σ H2 _ ⟨G2, P, F2, ρ, _, by have := l1.n; have := l2.n; omega, r2, ho, fun o ho => ?_⟩
      cases o with
      | exc c fs => exact XP.le (hw _ ho) (l1.trans l2) (s1.trans s2) (by have := l1.n; have := l2.n; omega)
      | ok m =>
        intro G3 F3 H3 ws l3 s3 r3 x3
        have e := keyD_kV x1 hq
        have z := hw _ ho G3 F3 H3 ((q, u2) :: ws) (((l1.trans l2).trans l3).up (by have := l1.n; have := l2.n; omega)) ((s1.trans s2).trans s3) r3 (.cons (x2.mono (rc_le _ ci l3) s3) x3)
        rw [e]
        exact z
theorem do_dict (h : DPr X ci E z0 pos ks vs dr) (hall : ks.all (·.isSome) = true := by rfl) (hl : ks.length = vs.length := by rfl) (h0 : ks ≠ [] := by exact List.cons_ne_nil _ _) (h15 : ks.length ≤ 15 := by decide) : DO X ci E z0 (.Dict ks vs pos) (dDict dr) := by
  obtain ⟨trs, h1, h2⟩ := h.ex
  refine (pe_disp h1 hall hl h0 h15).imp fun σ H Q ⟨G, P, F, ρ, W, bd, rel, hd, hw⟩ p hp => ?_
  have lo := rel.lone hp
  refine h2 σ _ _ ⟨G, upd P p (.dK []), F, ρ, _, bd, (rel.new hp).guard lo upd_same, hd, fun o ho => ?_⟩
  cases o with
  | exc c fs => exact fun G' F' H' cv dx l s r x => hw _ ho G' F' H' cv dx l s (r.unguard lo.hp).1 x
  | ok m =>
    intro G1 F1 H1 ws l1 s1 r1 x1
    obtain ⟨hlen, ho⟩ := (show m.length ≤ 15 ∧ W (.ok (.dK (mergeD [] m))) from ho)
    obtain ⟨r2, lo2, hp2⟩ := r1.unguard lo.hp
    refine ⟨hp2, ws, rfl, by rw [x1.len]; exact hlen, hw _ ho G1 F1 _ _ l1 s1 (r2.write lo2 (dK_ne hp2)) ⟨p, rfl, lo2, ⟨_, upd_same, RepK.merge x1 .nil⟩⟩⟩
theorem do_dnew : DO X ci E 0 (.Dict [] [] pos) (dC (.dK [])) := pe_dnewK.imp fun σ H Q ⟨G, P, F, ρ, W, bd, rel, hd, hw⟩ d hd' =>
  (hw _ hd).make rel hd' ⟨[], upd_same, .nil⟩
theorem de_globS {x z : Str} {t : Tok} (hg : Gl X x) (hm : X.mg x = some (.str z t)) (hd : (x == ("__debug__" : Str)) = false := by decide) : DE X ci E 0 (.Name x pos) (dC (.str z)) :=
  de_c (pe_glob (v := .str z) hg hm ⟨t, rfl⟩ hd) fun _ _ => .str z
/-! ### list.index -/
theorem findI_ok {y : D} : ∀ {ds : List D} {k i : Nat}, findI y ds k = some i → k ≤ i ∧ ∃ z, ds[i - k]? = some z ∧ eqv z y = true ∧ ∀ (m : Nat) z', m < i - k → ds[m]? = some z' → eqv z' y = false
  | [], _, _, h => by cases h
  | x :: r, k, i, h => by
    unfold findI at h
    by_cases q : eqv x y = true
    · rw [if_pos q] at h
      cases h
      refine ⟨Nat.le_refl _, x, by simp, q, fun m z' hm => by omega⟩
    · rw [if_neg q] at h
      obtain ⟨h1, z, h2, h3, h4⟩ := findI_ok h
      have e : i - k = (i - (k + 1)) + 1 := by omega
      refine ⟨by omega, z, by rw [e]; exact h2, h3, fun m z' hm hz => ?_⟩
      cases m with
      | zero =>
        cases hz
        simpa using q
      | succ m => exact h4 m z' (by omega) hz
variable {apos cpos : Pos}
/-- x.index(y) -/
def dIndex (a b : XE) : XE := fun ρ => do
  let x ← a ρ
  let ds ← lstM x
  let y ← b ρ
  indexM (.lst ds) y
theorem lstM_ok {x : D} {W : Out (List D) → Prop} (h : lstM x W) : ∃ ds, x = .lst ds ∧ W (.ok ds) := by
  cases x <;> first | exact (show False from h).elim | exact ⟨_, rfl, h⟩
theorem Bor.res {K : Frag} {G : Gh} {F : Hp} {ρ : Env} {σ : L2.St} {v : V} {d : D} {P H : Hp} (h : Res K ci .bor G F P ρ σ H v d) : Bor K ci G F ρ σ v d := h
theorem de_index (ha : DB X ci E za a da) (hb : DB X ci E zb b db) (hbase : attributeBase a "index" X.env (eval a X.env) = eval a X.env := by rfl)
    (hfew : ((backTo cpos (starEach [b] X.env)).all (fun x => !x.1) && (backToKw cpos (keywordEach [] X.env)).all (fun x => x.1.isSome)
      && decide ([b].length + ([] : List Keyword).length + (if ([] : List Keyword).isEmpty then 0 else 1) < 30)) = true := by rfl)
    (hline : (apos.endLine == cpos.line) = true := by rfl) (hst : starEach [b] X.env = (false, eval b X.env) :: starEach [] X.env := by rfl) (hplain : (backTo cpos (starEach [] X.env)).any (·.1) = false := by rfl) :
    DE X ci E (za + zb) (.Call (.Attribute a "index" apos) [b] [] cpos) (dIndex da db) :=
  (pe_bm PySem.F.plainAttrs_list PySem.F.slot_list_index PySem.F.type_list_index mt_index ha (pa_cons hb pa_nil hst) hbase hfew hline hst hplain).imp fun σ H Q ⟨G, P, F, ρ, W, bd, rel, hd, hw⟩ => by
    refine ⟨G, P, F, ρ, _, by omega, rel, hd, fun o ho => ?_⟩
    cases o with
    | exc c fs => exact XP.lo (hw _ ho)
    | ok x =>
      intro G1 F1 H1 u l1 s1 r1 x1
      obtain ⟨ds, rfl, ho⟩ := lstM_ok ho
      obtain ⟨p, vs, rfl, hp, rp⟩ := (Bor.seen x1 r1).lst r1.sf
      refine ⟨.inl ⟨rfl, vs, SqL.of hp⟩, G1, P, F1, ρ, _, by have := l1.n; omega, r1, ho, fun o ho => ?_⟩
      cases o with
      | exc c fs => exact XP.le (hw _ ho) l1 s1
      | ok y =>
        intro G2 F2 H2 u2 l2 s2 r2 x2
        obtain ⟨⟨fy, fds⟩, ho⟩ := (show (flatD y = true ∧ ds.all flatD = true) ∧ (M.get (findI y ds 0) >>= fun i => pure (.int ((i : Nat) : Int)) : M D) W from ho)
        obtain ⟨i, hi, ho⟩ := get_ok (show M.get (findI y ds 0) _ from ho)
        obtain ⟨q, vs2, e2, hq, rq⟩ := (Bor.seen (x1.mono (rc_le _ ci l2) s2) r2).lst r2.sf
        cases e2
        have ry := (Bor.seen x2 r2).flat fy
        obtain ⟨_, z, h3, h4, h5⟩ := findI_ok hi
        rw [Nat.sub_zero] at h3 h5
        obtain ⟨zv, h6, h7⟩ := rq.get h3
        have fz : flatD z = true := List.all_eq_true.mp fds z (List.mem_of_getElem? h3)
        refine ⟨p, vs2, u2, i, zv, rfl, rfl, SqL.of hq, flatV_of ry fy, flatL_of rq fds, h6, by rw [eqV_of h7 fz ry fy]; exact h4, fun m z' hm hz => ?_, ?_⟩
        · have hlen : m < ds.length := by
            rw [← rq.length]
            exact (List.getElem?_eq_some_iff.mp hz).1
          obtain ⟨v3, h8, h9⟩ := rq.get (List.getElem?_eq_getElem hlen)
          rw [hz] at h8
          cases h8
          rw [eqV_of h9 (List.all_eq_true.mp fds _ (List.getElem_mem hlen)) ry fy]
          exact h5 m _ hm (List.getElem?_eq_getElem hlen)
        · exact hw _ ho G2 F2 H2 _ ((l1.trans l2).up (by have := l1.n; have := l2.n; omega)) (s1.trans s2) r2 (.int _)
end
/-! ### a def whose lambdas' table is known -/
structure TdL (K : Frag) (mg : Str → Option Value) (base : Heap) (ci : Ci) (x : Str) (st : Stmt) : Prop where
  ex : ∃ (f : Addr) (oc : Value) (od : Option Addr) (kV doc pm : Value) (an : Option Addr) (cdv ct : Value) (osl : Array (Option Value)),
    K.lookup f = some ⟨oc, od, .func (PySem.W.fnOf x x (defArgs st) (defBody st) (defScope st) .none kV doc pm an cdv ct), osl⟩ ∧ PySem.W.codeIn K cdv x = true ∧ PySem.W.keepIn K (.ref f) = true ∧ mg x = some (.ref f) ∧ LmF base mg ci.tabs (x ++ ".<locals>.") cdv
section
variable {P : Program} {w : World} {K : Frag} {mg : Str → Option Value} {base : Heap} {ci : Ci} {n kk : Nat} {x : Str} {st : Stmt} {N ps : List Str} {b : XS} {z : Nat}
theorem fd_shL (T : TdL K mg base ci x st) (S : FnScope N ps (defScope st)) (hn : N.length = n) {a : Nat} (ha : ps.length = a)
    (hbd : ∀ (kV doc pm : Value) (an : Option Addr) (cdv ct : Value) (us : List Value), us.length = ps.length → bindArgs (PySem.W.fnOf x x (defArgs st) (defBody st) (defScope st) .none kV doc pm an cdv ct) ⟨us, []⟩ = pure (ps.zip us))
    (hb : ∀ (f : Addr) (cdv : Value) (A : Around) (outer : List PySem.Env) (s : Shared) (H : Hp) (E : XK), LmF base mg ci.tabs (x ++ ".<locals>.") cdv → Okd (cxD P w K mg base N x st f cdv A outer s H E) E kk → DSs (cxD P w K mg base N x st f cdv A outer s H E) ci E z .sh (defBody st) b) (hz : z ≤ bud (kk + 1) := by decide +kernel) :
    Fd P w K mg base ci (kk + 1) x .sh a (run n a b) := by
  obtain ⟨f, oc, od, kV, doc, pm, an, cdv, ct, osl, lk, hcd, hkp, hm, hl⟩ := T.ex
  subst hn ha
  have F : L2.Fun K x x st f _ := fun_mk lk hcd hkp
  refine ⟨⟨f, _, ps, hm, ?_, hkp, F.binds hbd⟩, fun _ _ => run_len⟩
  refine fn_of lk hcd S (fun vs H Q E h => spD_len (fun _ _ => run_len) h) fun A outer s H vs Q E hr h => ⟨_, (hb f cdv A outer s H E hl (okd hr)).imp fun _ _ _ => tS_lo hz, ?_⟩
  obtain ⟨G, P, F, ds, W, bd, rel, rp, hf, hw⟩ := h
  refine ⟨G, P, F, startE N.length ds, _, bd, rel.start rp N, (show ds.length = ps.length ∧ _ from hf).2, fun o ho => ?_⟩
  cases o with
  | exc c fs => exact XP.lo (hw _ ho)
  | ok fl =>
    cases fl with
    | nx ρ' => exact fun G' F' σ' H' l e r => hw (.ok .non) ho G' F' H' .non l e r.base .non
    | rt d => exact fun G' F' H' v l e r x => hw (.ok d) ho G' F' H' v l e r x
    | bk ρ' => exact (show False from ho).elim
    | ct ρ' => exact (show False from ho).elim
theorem fd_owL (T : TdL K mg base ci x st) (S : FnScope N ps (defScope st)) (hn : N.length = n) {a : Nat} (ha : ps.length = a)
    (hbd : ∀ (kV doc pm : Value) (an : Option Addr) (cdv ct : Value) (us : List Value), us.length = ps.length → bindArgs (PySem.W.fnOf x x (defArgs st) (defBody st) (defScope st) .none kV doc pm an cdv ct) ⟨us, []⟩ = pure (ps.zip us))
    (hb : ∀ (f : Addr) (cdv : Value) (A : Around) (outer : List PySem.Env) (s : Shared) (H : Hp) (E : XK), LmF base mg ci.tabs (x ++ ".<locals>.") cdv → Okd (cxD P w K mg base N x st f cdv A outer s H E) E kk → DSs (cxD P w K mg base N x st f cdv A outer s H E) ci E z .own (defBody st) b) (hz : z ≤ bud (kk + 1) := by decide +kernel) :
    Fd P w K mg base ci (kk + 1) x .own a (runO n a b) := by
  obtain ⟨f, oc, od, kV, doc, pm, an, cdv, ct, osl, lk, hcd, hkp, hm, hl⟩ := T.ex
  subst hn ha
  have F : L2.Fun K x x st f _ := fun_mk lk hcd hkp
  refine ⟨⟨f, _, ps, hm, ?_, hkp, F.binds hbd⟩, fun _ _ => runO_len⟩
  refine fn_of lk hcd S (fun vs H Q E h => spD_len (fun _ _ => runO_len) h) fun A outer s H vs Q E hr h => ⟨_, (hb f cdv A outer s H E hl (okd hr)).imp fun _ _ _ => tS_lo hz, ?_⟩
  obtain ⟨G, P, F, ds, W, bd, rel, rp, hf, hw⟩ := h
  refine ⟨G, P, F, startE N.length ds, _, bd, rel.start rp N, (show ds.length = ps.length ∧ _ from hf).2, fun o ho => ?_⟩
  cases o with
  | exc c fs => exact XP.lo (hw _ ho)
  | ok fl =>
    cases fl with
    | nx ρ' => exact (show False from ho).elim
    | rt d => exact fun G' F' H' v l e r x => hw (.ok d) ho G' F' H' v l e r x
    | bk ρ' => exact (show False from ho).elim
    | ct ρ' => exact (show False from ho).elim
end
end DL
end
section
/-! DL24: the head: what a kernel run over the top tells of defs and classes. -/
set_option Elab.async false
set_option linter.all false
set_option autoImplicit false
set_option maxRecDepth 100000
set_option maxHeartbeats 1000000
namespace DL
open PySem PySem.Spec PyProof.Rows L2 He
/-! ### defs -/
/-- where a def's object stands, and what it must be -/
structure Rf where
  ad : Frag → Addr
  name : Str
  qual : Str
  st : Stmt
  ns : List Str
abbrev FnZ : Type := Option (Str × Str × Arguments × FuncBody × Scope × Addr × List Str × Value × Addr)
def fnZ (K : Frag) (a : Addr) : FnZ := match K.lookup a with
  | some ⟨_, _, .func fd, _⟩ => some (fd.name, fd.qualname, fd.params, fd.body, fd.scope, fd.globals, fd.closure.map (·.1), fd.defaults, fd.builtins)
  | _ => none
def Rf.val (r : Rf) : FnZ := some (r.name, r.qual, defArgs r.st, .stmts (defBody r.st), defScope r.st, mainGlobals, r.ns, .none, builtinsNs)
def Rf.ok (K : Frag) (r : Rf) : Bool := match K.lookup (r.ad K) with
  | some ⟨_, _, .func fd, _⟩ => PySem.W.codeIn K fd.code r.qual
  | _ => false
theorem Rf.fn {K : Frag} {r : Rf} (e : fnZ K (r.ad K) = r.val) (c : r.ok K = true) :
    ∃ oc od osl clo kV doc pm an cdv ct, K.lookup (r.ad K) = some ⟨oc, od, .func (PySem.W.fnX r.name r.qual (defArgs r.st) (defBody r.st) (defScope r.st) clo .none kV doc pm an cdv ct), osl⟩ ∧ PySem.W.codeIn K cdv r.qual = true ∧ clo.map (·.1) = r.ns := by
  unfold Rf.ok at c
  unfold fnZ at e
  cases q : K.lookup (r.ad K) with
  | none => rw [q] at c; cases c
  | some o =>
    obtain ⟨oc, od, dt, osl⟩ := o
    rw [q] at c e
    cases dt with
    | func fd =>
      obtain ⟨n1, n2, n3, n4, n5, n6, n7, n8, n9, n10, n11, n12, n13, n14, n15⟩ := fd
      have e2 : (some (n1, n2, n3, n4, n5, n6, n7.map (·.1), n8, n15) : FnZ) = some (r.name, r.qual, defArgs r.st, .stmts (defBody r.st), defScope r.st, mainGlobals, r.ns, .none, builtinsNs) := e
      simp only [Option.some.injEq, Prod.mk.injEq] at e2
      obtain ⟨h1, h2, h3, h4, h5, h6, h7, h8, h9⟩ := e2
      subst h1 h2 h3 h4 h5 h6 h8 h9
      exact ⟨oc, od, osl, n7, n9, n10, n11, n12, n13, n14, rfl, c, h7⟩
    | _ => cases c
/-! ### the hook -/
/-- what an object leads to: a def to its code, a class to its names, a property to its getter -/
def nxtZ (g : Addr → Option Obj) (a : Addr) : List Addr := match g a with
  | some o => (match o.data with
    | .func fd => refV fd.code ++ fd.closure.map (·.2)
    | .cls cd => [cd.ns]
    | .dict es _ => es.toList.flatMap fun e => refV e.val
    | .fields vs => (match o.cls with
      | .type "property" => vs.toList.flatMap refV
      | _ => [])
    | _ => [])
  | none => []
def asZ (g : Addr → Option Obj) : Nat → List Addr → List Addr
  | 0, l => l
  | n + 1, l => l ++ asZ g n (l.flatMap (nxtZ g))
def fragZ (g : Addr → Option Obj) (n : Nat) : Frag := frT g (cStatics :: asZ g n [mainGlobals])
def obsZ (n : Nat) (bs : Frag → Bool) (fns : List Rf) (tf : List Defn) (g : Addr → Option Obj) : Bool × List FnZ :=
  (bs (fragZ g n) && (fns.all (fun r => r.ok (fragZ g n)) && tabsB g tf (fragZ g n)), fns.map fun r => fnZ (fragZ g n) (r.ad (fragZ g n)))
structure SaysZ (bs : Frag → Bool) (fns : List Rf) (tf : List Defn) (h : Heap) (K : Frag) : Prop where
  bs : bs K = true
  fns : ∀ r ∈ fns, fnZ K (r.ad K) = r.val ∧ r.ok K = true
  hd : ∀ p ∈ tf, PySem.W.codeHdIn K (cT K p).1 (cT K p).2 = true
  out : ∀ p ∈ tf, K.lookup (cT K p).2 = none
  empty : ∀ p ∈ tf, h.get? (cT K p).2 = some { cls := .none, data := .fields #[] }
theorem map_inj_mem {α β : Type} {f g : α → β} : ∀ {l : List α}, l.map f = l.map g → ∀ x ∈ l, f x = g x
  | [], _, x, hx => by cases hx
  | a :: l, e, x, hx => by
    simp only [List.map_cons, List.cons.injEq] at e
    rcases List.mem_cons.mp hx with rfl | hx
    · exact e.1
    · exact map_inj_mem e.2 x hx
theorem saysZ_of {n : Nat} {bs : Frag → Bool} {fns : List Rf} {tf : List Defn} {h : Heap} (e : obsZ n bs fns tf h.get? = (true, fns.map Rf.val)) : SaysZ bs fns tf h (fragZ h.get? n) := by
  obtain ⟨e1, e2⟩ := Prod.mk.inj e
  obtain ⟨h1, h2⟩ := ba e1
  obtain ⟨h3, h4⟩ := ba h2
  have key := fun p hp => ba (List.all_eq_true.mp h4 p hp)
  have key2 : ∀ p ∈ tf, ∃ o, h.get? (cT (fragZ h.get? n) p).2 = some o ∧ emptyTab o = true := fun p hp => by
    have z := (key p hp).2
    cases q : h.get? (cT (fragZ h.get? n) p).2 with
    | none => rw [q] at z; cases z
    | some o => rw [q] at z; exact ⟨o, rfl, z⟩
  refine ⟨h1, fun r hr => ⟨map_inj_mem e2 r hr, List.all_eq_true.mp h3 r hr⟩, fun p hp => (key p hp).1, fun p hp => ?_, fun p hp => ?_⟩
  · obtain ⟨o, q, z⟩ := key2 p hp
    exact frT_none q z
  · obtain ⟨o, q, z⟩ := key2 p hp
    rw [q, emptyTab_eq z]
def hookZ (n : Nat) (bs : Frag → Bool) (fns : List Rf) (tf : List Defn) : PySem.W.Hook where
  α := Bool × List FnZ
  obs := fun s => obsZ n bs fns tf s.heap.get?
  val := fun _ => (true, fns.map Rf.val)
  says := fun _ h => ∃ K : Frag, K.In h ∧ SaysZ bs fns tf h K
  of := fun _ _ e => ⟨_, frT_in, saysZ_of e⟩
  keeps := fun _ _ _ ⟨K, hK, c⟩ k => ⟨K, PySem.W.Frag.In.keeps hK k, ⟨c.bs, c.fns, c.hd, c.out, fun p hp => k _ _ (c.empty p hp)⟩⟩
theorem obsZ_eq {n : Nat} {bs : Frag → Bool} {fns : List Rf} {tf : List Defn} {g : Addr → Option Obj} {s : Shared} (h : ∀ a, g a = s.heap.get? a) : obsZ n bs fns tf g = (hookZ n bs fns tf).obs s := by
  have e : g = s.heap.get? := funext h
  rw [e]
  rfl
/-! ### single facts -/
def gloB (K : Frag) (x : Str) : Bool := eqO (PySem.W.nsIn K mainGlobals x) (some (some (.ref (ga K x)))) && PySem.W.keepIn K (.ref (ga K x))
def freeB (K : Frag) (x : Str) : Bool := eqO (PySem.W.nsIn K mainGlobals x) (some none)
/-- a getter's address -/
def getterA (K : Frag) (C : Addr) (f : Str) : Addr := match PySem.W.findIn K (.ref C) f with
  | some (some (.ref p)) => (match PySem.W.recIn K p "property" with
    | some (.ref g :: _) => g
    | _ => 0)
  | _ => 0
def propA (K : Frag) (C : Addr) (f : Str) : Addr := match PySem.W.findIn K (.ref C) f with
  | some (some (.ref p)) => p
  | _ => 0
def propB (K : Frag) (C : Addr) (f : Str) : Bool := eqO (PySem.W.findIn K (.ref C) f) (some (some (.ref (propA K C f)))) && (eqO (PySem.W.specialIn K (.ref (propA K C f)) "__get__") (some (some (.builtin "property.__get__"))) &&
  (decide (PySem.W.takesIn K (.ref (propA K C f)) = some true) && (match PySem.W.recIn K (propA K C f) "property" with
    | some (.ref g :: _) => decide (g = getterA K C f)
    | _ => false)))
theorem propB_ok {K : Frag} {C : Addr} {f : Str} (h : propB K C f = true) : PropOf K C f (propA K C f) (getterA K C f) := by
  obtain ⟨h1, h⟩ := ba h
  obtain ⟨h2, h⟩ := ba h
  obtain ⟨h3, h4⟩ := ba h
  refine ⟨eqO_ok h1, eqO_ok h2, of_decide_eq_true h3, ?_⟩
  split at h4
  · rename_i g rest e
    rw [of_decide_eq_true h4] at e
    exact ⟨rest, e⟩
  · cases h4
/-- an exception class, its instances with a dict -/
def oexB (K : Frag) (C : Addr) : Bool := (match K.lookup C with
    | some ⟨.type "type", _, .cls cd, sl⟩ => (match cd.mro, sl.toList with
      | .ref C' :: bm, [_, _, _, _, some (.builtin n), _] => C' == C && (n == "ValueError.__new__" && (!cd.hasDel && (cd.hasDict && PySem.HandSPX.refsVE bm)))
      | _, _ => false)
    | _ => false) &&
  (eqO (PySem.W.findIn K (.ref C) "__setattr__") (some (some (.builtin "object.__setattr__"))) && (decide (PySem.W.subIn K (.ref C) (.type "BaseException") = some true) && (decide (PySem.W.typeIn K (.ref C) = some (.type "type")) && PySem.W.keepIn K (.ref C))))
theorem oexB_ok {K : Frag} {C : Addr} (h : oexB K C = true) : OexC K C := by
  obtain ⟨h1, h⟩ := ba h
  obtain ⟨h2, h⟩ := ba h
  obtain ⟨h3, h⟩ := ba h
  obtain ⟨h4, h5⟩ := ba h
  refine ⟨?_, eqO_ok h2, of_decide_eq_true h3, of_decide_eq_true h4, h5⟩
  split at h1
  · rename_i dd cd sl ho
    split at h1
    · rename_i C' bm k0 k1 k2 k3 n k5 hm hs
      obtain ⟨q1, h1⟩ := ba h1
      obtain ⟨q2, h1⟩ := ba h1
      obtain ⟨q3, h1⟩ := ba h1
      obtain ⟨q4, q5⟩ := ba h1
      have q1 := eq_of_beq q1
      have q2 := eq_of_beq q2
      obtain ⟨nm, bs, mro, ns, qn, hd, sn, sub, ab, col, del⟩ := cd
      dsimp only at hm q3 q4
      have q3 : del = false := by simpa using q3
      subst hm q1 q2 q3 q4
      have hsl : sl = #[k0, k1, k2, k3, some (.builtin "ValueError.__new__"), k5] := by
        obtain ⟨l⟩ := sl
        simp only at hs
        rw [hs]
      subst hsl
      exact ⟨nm, qn, ns, bs, bm, sn, sub, ab, col, dd, k0, k1, k2, k3, k5, ho, q5⟩
    · cases h1
  · cases h1
def clsB (K : Frag) (C : Addr) : Bool := PySem.W.plainGet K C Str.empty && (PySem.W.hasDictIn K C && (PySem.W.plainOver K C && eqO (PySem.W.findIn K (.ref C) "__setattr__") (some (some (.builtin "object.__setattr__")))))
theorem clsB_ok {K : Frag} {C : Addr} (h : clsB K C = true) : Cls K C := by
  obtain ⟨h1, h⟩ := ba h
  obtain ⟨h2, h⟩ := ba h
  obtain ⟨h3, h4⟩ := ba h
  exact ⟨h1, h2, h3, eqO_ok h4⟩
def excB (K : Frag) (C : Addr) : Bool := eqO (PySem.W.findIn K (.ref C) "__getattribute__") (some (some (.builtin "BaseException.__getattribute__"))) && (eqO (PySem.W.findIn K (.ref C) "__getattr__") (some none) && (decide (PySem.W.subIn K (.ref C) (.type "BaseException") = some true) && (PySem.W.hasDictIn K C &&
  (eqO (PySem.W.findIn K (.ref C) "__class__") (some (some (.builtin "object.__class__"))) && decide (PySem.W.mroIn K C (.type "object") = some true)))))
def objB (K : Frag) : Bool := eqO (PySem.W.specialIn K (.builtin "object.__class__") "__get__") (some (some (.builtin "getset_descriptor.__get__"))) && decide (PySem.W.takesIn K (.builtin "object.__class__") = some true)
theorem excB_ok {K : Frag} {C : Addr} (h : excB K C = true) (ho : objB K = true) : ExcC K C := by
  obtain ⟨h1, h⟩ := ba h
  obtain ⟨h2, h⟩ := ba h
  obtain ⟨h3, h⟩ := ba h
  obtain ⟨h4, h⟩ := ba h
  obtain ⟨h5, h6⟩ := ba h
  obtain ⟨o1, o2⟩ := ba ho
  exact ⟨eqO_ok h1, eqO_ok h2, of_decide_eq_true h3, h4, eqO_ok h5, eqO_ok o1, of_decide_eq_true o2, of_decide_eq_true h6⟩
theorem excB_xf {K : Frag} {C : Addr} (h : excB K C = true) : XfC K C := by
  obtain ⟨h1, h⟩ := ba h
  obtain ⟨h2, h⟩ := ba h
  obtain ⟨h3, h⟩ := ba h
  obtain ⟨h4, h⟩ := ba h
  exact ⟨eqO_ok h1, eqO_ok h2, of_decide_eq_true h3, h4⟩
/-- what isinstance asks -/
def kindTs : List String := ["NoneType", "int", "bool", "str", "list", "tuple", "dict"]
def kindTs2 : List String := ["int", "bool", "str", "list", "tuple", "dict"]
def isB (K : Frag) (cs : Cs) (ca : Nat → Addr) : Bool := objB K &&
  ((cs.objs.all fun c => clsB K (ca c) && (eqO (PySem.W.findIn K (.ref (ca c)) "__class__") (some (some (.builtin "object.__class__"))) && decide (PySem.W.mroIn K (ca c) (.type "object") = some true))) &&
  ((cs.excs.all fun c => excB K (ca c)) &&
  (((cs.objs ++ cs.excs).all fun c => kindTs.all fun T => decide (PySem.W.kitOne K (.type T) (.ref (ca c)) = some false)) &&
  (((cs.objs ++ cs.excs).all fun c => kindTs2.all fun T => decide (PySem.W.kitOne K (.ref (ca c)) (.type T) = some false)) &&
  ((cs.objs ++ cs.excs).all fun c => (cs.objs ++ cs.excs).all fun c' => decide (PySem.W.kitOne K (.ref (ca c)) (.ref (ca c')) = some (cs.sub c c')))))))
theorem isB_ok {K : Frag} {cs : Cs} {ci : Ci} (h : isB K cs ci.ca = true) : IsF K ci cs := by
  obtain ⟨h0, h⟩ := ba h
  obtain ⟨h1, h⟩ := ba h
  obtain ⟨h2, h⟩ := ba h
  obtain ⟨h3, h⟩ := ba h
  obtain ⟨h4, h5⟩ := ba h
  obtain ⟨o1, o2⟩ := ba h0
  have mem : ∀ {c}, (c ∈ cs.objs ∨ c ∈ cs.excs) → c ∈ cs.objs ++ cs.excs := fun z => List.mem_append.mpr z
  refine ⟨fun c hc => ?_, eqO_ok o1, of_decide_eq_true o2, fun c hc => excB_ok (List.all_eq_true.mp h2 c hc) h0, fun c hc T hT => ?_, fun c hc T hT => ?_, fun c hc c' hc' => ?_⟩
  · obtain ⟨q1, q⟩ := ba (List.all_eq_true.mp h1 c hc)
    obtain ⟨q2, q3⟩ := ba q
    exact ⟨clsB_ok q1, eqO_ok q2, of_decide_eq_true q3⟩
  · exact of_decide_eq_true (List.all_eq_true.mp (List.all_eq_true.mp h3 c (mem hc)) T hT)
  · exact of_decide_eq_true (List.all_eq_true.mp (List.all_eq_true.mp h4 c (mem hc)) T hT)
  · exact of_decide_eq_true (List.all_eq_true.mp (List.all_eq_true.mp h5 c (mem hc)) c' (mem hc'))
/-! ### an error's class with its __init__ -/
/-- the cell __class__ and the code object of an __init__ at f, for the class D -/
def supB (K : Frag) (file : Str) (f D : Addr) : Bool := match K.lookup f with
  | some ⟨_, _, .func fd, _⟩ => (match fd.closure with
      | [(_, cc)] => (match K.lookup cc with
        | some ⟨_, _, .cell (some (.ref D')), _⟩ => decide (D' = D)
        | _ => false)
      | _ => false) && (match fd.code with
      | .ref cda => (match K.lookup cda with
        | some ⟨_, _, .fields vs, _⟩ => (match (vs[2]? : Option Value) with
          | some (.str fl _) => decide (fl = file)
          | _ => false)
        | _ => false)
      | _ => false)
  | _ => false
/-- the class C inherits the __init__ of D -/
def exB (K : Frag) (C D : Addr) (fld : Str) : Bool := oexB K C && (eqO (PySem.W.ks_superIn K C D "__init__") (some (some (.builtin "ValueError.__init__"))) && (decide (PySem.W.subIn K (.ref C) (.type "ValueError") = some true) && (decide (PySem.W.mroIn K C (.ref D) = some true) &&
  (eqO (PySem.W.findIn K (.ref C) fld) (some none) && (eqO (PySem.W.findIn K (.ref C) "__init__") (some (some (.ref (ma K D "__init__")))) && decide (PySem.W.typeIn K (.ref (ma K D "__init__")) = some (.type "function")))))))
theorem exB_ok {K : Frag} {C D : Addr} {fld : Str} (h : exB K C D fld = true) : SupC K C D fld ∧ PySem.W.findIn K (.ref C) "__init__" = some (some (.ref (ma K D "__init__"))) ∧ PySem.W.typeIn K (.ref (ma K D "__init__")) = some (.type "function") := by
  obtain ⟨h1, h⟩ := ba h
  obtain ⟨h2, h⟩ := ba h
  obtain ⟨h3, h⟩ := ba h
  obtain ⟨h4, h⟩ := ba h
  obtain ⟨h5, h⟩ := ba h
  obtain ⟨h6, h7⟩ := ba h
  exact ⟨⟨oexB_ok h1, eqO_ok h2, of_decide_eq_true h3, of_decide_eq_true h4, eqO_ok h5⟩, eqO_ok h6, of_decide_eq_true h7⟩
section
variable {P : Program} {w : World} {K : Frag} {mg : Str → Option Value} {base : Heap} {ci : Ci}
/-- what the text has of such an __init__ -/
structure SupT (P : Program) (st : Stmt) (fld arg : Str) : Prop where
  body : ∃ msg j p0 p1 p2 p3 p4 p5 p6 p7 p8 p9, defBody st = supBody msg j fld arg p0 p1 p2 p3 p4 p5 p6 p7 p8 p9 ∧ ∀ env : PySem.Env, ∃ pl : Sem Bool, eval (.Call (.Attribute (.Call (.Name "super" p0) [] [] p1) "__init__" p2) [.Constant (.str msg) j p3] [] p4) env = (do
      let ov ← attributeBase (.Call (.Name "super" p0) [] [] p1) "__init__" env (eval (.Call (.Name "super" p0) [] [] p1) env)
      standAt p2.atName
      let (f, first) ← holding [ov] (getMethod ov "__init__" pl)
      callWith p4 f first (backTo p4 (starEach [.Constant (.str msg) j p3] env)) [])
  htop : (P.main.scope.names.lookup ("super" : Str)).isSome = false
  sc : NdefX.NScope [("self" : Str), arg, "__class__"] [("self" : Str), arg] ["__class__"] (defScope st)
  hp : ((defArgs st).posonlyargs ++ (defArgs st).args).head?.map (·.arg) = some ("self" : Str)
  hks : (defScope st).names.lookup ("super" : Str) = some .globalImplicit
  hda : (arg == ("__debug__" : Str)) = false
  hca : (arg == ("__classdict__" : Str)) = false
  bd : ∀ (cl : List (Str × Addr)) (kV doc pm : Value) (an : Option Addr) (cdv ct : Value) (us : List Value) (n q : Str), us.length = 2 → bindArgs (PySem.W.fnX n q (defArgs st) (defBody st) (defScope st) cl .none kV doc pm an cdv ct) ⟨us, []⟩ = pure ([("self" : Str), arg].zip us)
theorem exIt_of {c : Nat} {x : Str} {r : Rf} {D : Addr} {fld arg : Str} (e : fnZ K (r.ad K) = r.val) (ok : r.ok K = true) (had : r.ad K = ma K D "__init__") (hns : r.ns = [("__class__" : Str)]) (T : SupT P r.st fld arg) (hs : supB K P.main.file (r.ad K) D = true)
    (hD : (PySem.W.clsIn K D).isSome = true) (hsu : mg "super" = none) (hst : PySem.W.nsIn K PySem.cStatics "thirdparty.any" = some none) (hx : mg x = some (.ref (ci.ca c))) (hC : exB K (ci.ca c) D fld = true) (hfn : ci.fn c = [fld]) : ExIt P w K mg base ci 1 x c := by
  obtain ⟨h1, h2, h3⟩ := exB_ok hC
  obtain ⟨oc, od, osl, clo, kV, doc, pm, an, cdv, ct, lk, hcd, hcl⟩ := Rf.fn e ok
  obtain ⟨msg, j, p0, p1, p2, p3, p4, p5, p6, p7, p8, p9, hb, he⟩ := T.body
  rw [hns] at hcl
  unfold supB at hs
  rw [lk] at hs
  obtain ⟨s1, s2⟩ := ba hs
  match clo, hcl with
  | [(y, cc)], hcl =>
    have hy : y = "__class__" := by simpa using hcl
    subst hy
    have s1 : (match K.lookup cc with
        | some ⟨_, _, .cell (some (.ref D')), _⟩ => decide (D' = D)
        | _ => false) = true := s1
    split at s1
    · rename_i cl cld D' csl hcell
      have hDD := of_decide_eq_true s1
      subst hDD
      cases cdv with
      | ref cda =>
        have s2 : (match (K.lookup cda : Option Obj) with
          | some ⟨_, _, .fields vs, _⟩ => (match (vs[2]? : Option Value) with
            | some (.str fl _) => decide (fl = P.main.file)
            | _ => false)
          | _ => false) = true := s2
        cases hcode : K.lookup cda with
        | none => rw [hcode] at s2; cases s2
        | some oo =>
          rw [hcode] at s2
          obtain ⟨ccl, cdd, dtt, ccs⟩ := oo
          cases dtt with
          | fields vs =>
            have s2 : (match (vs[2]? : Option Value) with
              | some (.str fl _) => decide (fl = P.main.file)
              | _ => false) = true := s2
            cases hvs : (vs[2]? : Option Value) with
            | none => rw [hvs] at s2; cases s2
            | some vv =>
              rw [hvs] at s2
              cases vv with
              | str fl tf =>
                have hfl : fl = P.main.file := of_decide_eq_true s2
                subst hfl
                obtain ⟨cdD, hcdD⟩ := Option.isSome_iff_exists.mp hD
                rw [hb] at lk
                have F : FnOk P w K mg base (L2.CX P w) 1 (r.ad K) _ [("self" : Str), arg] (spSup K D' fld) := fn_sup lk hcd hcode hvs (by simp) hcell hcdD hsu T.htop hst T.sc T.hp T.hks he T.hda T.hca
                rw [had] at F
                refine ⟨⟨_, D', fld, _, _, hx, h1, h2, h3, F, .all fun us hl => ?_, hfn⟩⟩
                have z := T.bd [("__class__", cc)] kV doc pm an (.ref cda) ct us r.name r.qual hl
                rw [hb] at z
                exact z
              | _ => cases s2
          | _ => cases s2
      | _ => cases s2
    · cases s1
end
end DL
end
section
/-! DL25: defs by the head's facts, the draws begun, the law. -/
set_option Elab.async false
set_option linter.all false
set_option autoImplicit false
set_option maxRecDepth 100000
set_option maxHeartbeats 1000000
namespace DL
open PySem PySem.Spec PyProof.Rows L2 He LamX
section
variable {P : Program} {w : World} {K : Frag} {mg : Str → Option Value} {base h : Heap} {ci : Ci}
/-! ### facts by names -/
theorem glo_mg (X : K.In h) (G : h.Ns mainGlobals mg) {x : Str} (g : gloB K x = true) : mg x = some (.ref (ga K x)) := PySem.W.mg_of X G (eqO_ok (ba g).1)
theorem free_mg (X : K.In h) (G : h.Ns mainGlobals mg) {x : Str} (g : freeB K x = true) : mg x = none := PySem.W.mg_none_of X G (eqO_ok g)
theorem map_nil_of {α β : Type} {f : α → β} {l : List α} (h : l.map f = []) : l = [] := by
  cases l with
  | nil => rfl
  | cons _ _ => cases h
theorem rf_plain {r : Rf} (e : fnZ K (r.ad K) = r.val) (ok : r.ok K = true) (hns : r.ns = []) :
    ∃ oc od kV doc pm an cdv ct osl, K.lookup (r.ad K) = some ⟨oc, od, .func (PySem.W.fnOf r.name r.qual (defArgs r.st) (defBody r.st) (defScope r.st) .none kV doc pm an cdv ct), osl⟩ ∧ PySem.W.codeIn K cdv r.qual = true := by
  obtain ⟨oc, od, osl, clo, kV, doc, pm, an, cdv, ct, lk, hcd, hcl⟩ := Rf.fn e ok
  rw [hns] at hcl
  have hclo := map_nil_of hcl
  subst hclo
  exact ⟨oc, od, kV, doc, pm, an, cdv, ct, osl, lk, hcd⟩
theorem td_of {r : Rf} {x : Str} (X : K.In h) (G : h.Ns mainGlobals mg) (e : fnZ K (r.ad K) = r.val) (ok : r.ok K = true) (g : gloB K x = true) (had : r.ad K = ga K x) (hn : r.name = x) (hq : r.qual = x) (hns : r.ns = []) : Td K mg x r.st := by
  obtain ⟨oc, od, kV, doc, pm, an, cdv, ct, osl, lk, hcd⟩ := rf_plain e ok hns
  rw [hn, hq, had] at lk
  rw [hq] at hcd
  exact ⟨⟨_, _, fun_mk lk hcd (ba g).2, glo_mg X G g⟩⟩
def ciTabs (K : Frag) (tf : List Str) : List (Addr × Str) := tf.map fun x => ((cT K (x, none)).2, (x ++ ".<locals>.") ++ "<lambda>")
def tabsU (K : Frag) (tf : List Str) : Bool := tf.all fun x => tf.all fun y => !decide ((cT K (x, none)).2 = (cT K (y, none)).2) || decide (x = y)
theorem tdl_of {r : Rf} {x : Str} {tf : List Str} (X : K.In h) (G : h.Ns mainGlobals mg) (e : fnZ K (r.ad K) = r.val) (ok : r.ok K = true) (g : gloB K x = true) (had : r.ad K = ga K x) (hn : r.name = x) (hq : r.qual = x) (hns : r.ns = [])
    (hx : x ∈ tf) (hu : tabsU K tf = true) (ht : ci.tabs = ciTabs K tf) (TB : TabB base mg (cT K (x, none)).1 (cT K (x, none)).2) : TdL K mg base ci x r.st := by
  obtain ⟨oc, od, kV, doc, pm, an, cdv, ct, osl, lk, hcd⟩ := rf_plain e ok hns
  rw [hn, hq, had] at lk
  rw [hq] at hcd
  refine ⟨⟨_, oc, od, kV, doc, pm, an, cdv, ct, osl, lk, hcd, (ba g).2, glo_mg X G g, ?_⟩⟩
  obtain ⟨c, hc⟩ := codeIn_ref hcd
  have e1 : codeOf K (x, none) = c := codeOf_eq (p := (x, none)) lk hc
  have e2 : (cT K (x, none)).1 = c := e1
  refine ⟨⟨c, (cT K (x, none)).2, hc, by rw [← e2]; exact TB, by rw [ht]; exact List.mem_map.mpr ⟨x, hx, rfl⟩, fun p hp hp1 => ?_⟩⟩
  rw [ht] at hp
  obtain ⟨y, hy, rfl⟩ := List.mem_map.mp hp
  have z := List.all_eq_true.mp (List.all_eq_true.mp hu y hy) x hx
  have hp1 : (cT K (y, none)).2 = (cT K (x, none)).2 := hp1
  rw [hp1] at z
  have z2 : y = x := by simpa using z
  rw [z2]
/-! ### a class with its __init__ -/
structure MkF (K : Frag) (mg : Str → Option Value) (ci : Ci) (x : Str) (c : Nat) (qual : Str) (st : Stmt) : Prop where
  ex : ∃ (fa : Addr) (fd : FuncData), mg x = some (.ref (ci.ca c)) ∧ Mk K (ci.ca c) fa ∧ L2.Fun K "__init__" qual st fa fd
def mkB (K : Frag) (C : Addr) : Bool := PySem.W.makesIn K C && (eqO (PySem.W.findIn K (.ref C) "__init__") (some (some (.ref (ma K C "__init__")))) && (PySem.W.isFn K (.ref (ma K C "__init__")) && (PySem.W.keepIn K (.ref C) && PySem.W.keepIn K (.ref (ma K C "__init__")))))
theorem mkF_of {r : Rf} {x qual : Str} {c : Nat} (X : K.In h) (G : h.Ns mainGlobals mg) (e : fnZ K (r.ad K) = r.val) (ok : r.ok K = true) (g : gloB K x = true) (hca : ci.ca c = ga K x) (hm : mkB K (ga K x) = true) (had : r.ad K = ma K (ga K x) "__init__") (hn : r.name = "__init__") (hq : r.qual = qual) (hns : r.ns = []) :
    MkF K mg ci x c qual r.st := by
  obtain ⟨oc, od, kV, doc, pm, an, cdv, ct, osl, lk, hcd⟩ := rf_plain e ok hns
  rw [hn, hq, had] at lk
  rw [hq] at hcd
  obtain ⟨m1, hm⟩ := ba hm
  obtain ⟨m2, hm⟩ := ba hm
  obtain ⟨m3, hm⟩ := ba hm
  obtain ⟨m4, m5⟩ := ba hm
  exact ⟨⟨_, _, by rw [hca]; exact glo_mg X G g, by rw [hca]; exact ⟨m1, eqO_ok m2, m3, m4⟩, fun_mk lk hcd m5⟩⟩
theorem mkd_of {x qual : Str} {c n kk z a : Nat} {st : Stmt} {N ps : List Str} {s0 : Str} {b : XS} (M : MkF K mg ci x c qual st) (S : FnScope (s0 :: N) (s0 :: ps) (defScope st)) (hn : N.length + 1 = n) (ha : ps.length = a)
    (hbd : ∀ (kV doc pm : Value) (an : Option Addr) (cdv ct : Value) (us : List Value), us.length = (s0 :: ps).length → bindArgs (PySem.W.fnOf "__init__" qual (defArgs st) (defBody st) (defScope st) .none kV doc pm an cdv ct) ⟨us, []⟩ = pure ((s0 :: ps).zip us))
    (hb : ∀ (f : Addr) (cdv : Value) (A : Around) (outer : List PySem.Env) (s : Shared) (H : Hp) (E : XK), Okd (cxD P w K mg base (s0 :: N) qual st f cdv A outer s H E) E kk → DIns (cxD P w K mg base (s0 :: N) qual st f cdv A outer s H E) ci E z (defBody st) b) (hz : z ≤ bud (kk + 1) := by decide +kernel) :
    Mkd P w K mg base ci (kk + 1) x c a (runInit n a c b) := by
  obtain ⟨fa, fd, h1, h2, F⟩ := M.ex
  subst hn ha
  refine ⟨⟨fa, fd, s0 :: ps, h1, h2, (fnIni F S fun cdv A outer s H E ok => hb fa cdv A outer s H E ok).imp fun vs H Q E ⟨G, PP, F, ds, W, p, dx, vs', e, bd, rel, lo, hp, rp, hf, hw⟩ => ⟨G, PP, F, ds, W, p, dx, vs', e, by omega, rel, lo, hp, rp, hf, fun o ho => ?_⟩, F.binds hbd⟩, fun _ _ => runInit_len⟩
  have q := hw o ho
  cases o with
  | ok d => exact fun G' F' H' l s r x y => q G' F' H' l.up s r x y
  | exc c fs => exact XP.lo q
/-! ### properties -/
theorem prF_of {r : Rf} {c i : Nat} {x fld : Str} {C : Addr} (e : fnZ K (r.ad K) = r.val) (ok : r.ok K = true) (hns : r.ns = []) (hca : ci.ca c = C) (had : r.ad K = getterA K C x) (hp : propB K C x = true) (fl : FlF K ci c i fld) (S : FnScope ["self"] ["self"] (defScope r.st))
    (hb : ∃ p1 p2 p3, defBody r.st = [.Return (some (.Attribute (.Name "self" p1) fld p2)) p3])
    (hbd : ∀ (kV doc pm : Value) (an : Option Addr) (cdv ct : Value) (us : List Value), us.length = 1 → bindArgs (PySem.W.fnOf r.name r.qual (defArgs r.st) (defBody r.st) (defScope r.st) .none kV doc pm an cdv ct) ⟨us, []⟩ = pure ([("self" : Str)].zip us)) : PrF P w K mg base ci 1 c i x := by
  obtain ⟨oc, od, kV, doc, pm, an, cdv, ct, osl, lk, hcd⟩ := rf_plain e ok hns
  obtain ⟨p1, p2, p3, hb⟩ := hb
  rw [had] at lk
  subst hca
  refine ⟨⟨fld, _, _, _, _, fl, propB_ok hp, fn_getter (k := 0) lk hcd S rfl hb fl.cls fl.no, .all fun us hl => hbd kV doc pm an cdv ct us hl⟩⟩
end
/-! ### the draws begun -/
section
variable {P : Program} {w : World} {K : Frag} {mg : Str → Option Value} {base : Heap} {ci : Ci} {st : Stmt} {N : List Str} {kk : Nat}
def noH : Hp := fun _ => none
def begunP (gs cs : List Int) : Prop := (∀ z ∈ gs, 0 ≤ z) ∧ gs.length ≤ 63 ∧ cs.length ≤ 63
/-- its promise -/
def spBg (K : Frag) (ci : Ci) : Sp := fun vs H Q _ => ∃ (F : Hp) (ns : List Int) (a : Addr), vs = [.ref a] ∧ ns.length ≤ 63 ∧ Rel K ci ⟨ci.tabs, none, 0⟩ F noH [] [] H ∧ SqL K F a (ns.map V.int) ∧
  ∀ (G' : Gh) (F' H' : Hp) (p g c : Addr) (gs cs : List Int), Same F F' → Rel K ci G' F' noH [] [] H' → F' p = none → F' g = none → F' c = none → p ≠ g → p ≠ c → g ≠ c → (∀ b, reg G' b → b ≠ p ∧ b ≠ g ∧ b ≠ c) → H' p = some (.dK (stK g c 0 0)) → H' g = some (.lst (gs.map V.int)) → H' c = some (.lst (cs.map V.int)) → begunP gs cs → Q (.ref p) H'
def bgS (st : Stmt) : Stmt := match defBody st with
  | s :: _ => s
  | _ => .Pass ⟨0, 0, 0, 0⟩
def bgE (st : Stmt) : Expr := match defBody st with
  | [_, .Return (some (.Dict _ [_, e, _, _] _)) _] => e
  | _ => .Constant .none 0 ⟨0, 0, 0, 0⟩
structure FnBg (P : Program) (w : World) (K : Frag) (mg : Str → Option Value) (base : Heap) (ci : Ci) (k : Nat) : Prop where
  ex : ∃ (fa : Addr) (fd : FuncData) (ps : List Str), mg "_law_begun" = some (.ref fa) ∧ FnOk P w K mg base (L2.CX P w) k fa fd ps (spBg K ci) ∧ PySem.W.keepIn K (.ref fa) = true ∧ Binds K fd ps []
/-- the two comprehensions' meaning -/
structure BgM (n : Nat) (dg dc : XE) : Prop where
  g : ∀ (ns : List Int) (W : Out D → Prop), ns.length ≤ 63 → (∀ gs : List Int, (∀ z ∈ gs, 0 ≤ z) → gs.length ≤ 63 → W (.ok (.lst (gs.map D.int)))) → dg (startE n [.scr ns]) W
  c : ∀ (ns gs : List Int) (W : Out D → Prop), ns.length ≤ 63 → (∀ cs : List Int, cs.length ≤ 63 → W (.ok (.lst (cs.map D.int)))) → dc ((startE n [.scr ns]).set 1 (.ow (.lst (gs.map D.int)))) W
theorem asInts_map (gs : List Int) : asInts (gs.map D.int) = some gs := by
  induction gs with
  | nil => rfl
  | cons g gs ih => simp [asInts, ih]
theorem fn_begun {z1 z2 n : Nat} {dg dc : XE} (T : Td K mg "_law_begun" st) (S : FnScope N ["script"] (defScope st)) (hn : N.length = n) (hN1 : N[1]? = some ("great" : Str)) (hl1 : (defScope st).names.lookup ("great" : Str) = some .local)
    (hbd : ∀ (kV doc pm : Value) (an : Option Addr) (cdv ct : Value) (us : List Value), us.length = 1 → bindArgs (PySem.W.fnOf "_law_begun" "_law_begun" (defArgs st) (defBody st) (defScope st) .none kV doc pm an cdv ct) ⟨us, []⟩ = pure ([("script" : Str)].zip us))
    (hbody : ∃ j1 j2 j3 j4 j6 j7 p1 p2 p3 p4 p5 p6 p7 p8 p9, defBody st = [bgS st, .Return (some (.Dict [some (.Constant (.str "great") j1 p1), some (.Constant (.str "cells") j2 p2), some (.Constant (.str "rest") j3 p3), some (.Constant (.str "turn") j4 p4)] [.Name "great" p5, bgE st, .Constant (.int 0) j6 p6, .Constant (.int 0) j7 p7] p8)) p9])
    (hs : ∀ (f : Addr) (cdv : Value) (A : Around) (outer : List PySem.Env) (s : Shared) (H : Hp) (E : XK), Okd (cxD P w K mg base N "_law_begun" st f cdv A outer s H E) E kk → DS (cxD P w K mg base N "_law_begun" st f cdv A outer s H E) ci E z1 .sh (bgS st) (sOwn 1 dg))
    (he : ∀ (f : Addr) (cdv : Value) (A : Around) (outer : List PySem.Env) (s : Shared) (H : Hp) (E : XK), Okd (cxD P w K mg base N "_law_begun" st f cdv A outer s H E) E kk → DO (cxD P w K mg base N "_law_begun" st f cdv A outer s H E) ci E z2 (bgE st) dc)
    (hm : BgM n dg dc) (hz : z1 + z2 ≤ top := by decide +kernel) : FnBg P w K mg base ci (kk + 1) := by
  obtain ⟨fa, fd, F, hmg⟩ := T.ex
  obtain ⟨j1, j2, j3, j4, j6, j7, p1, p2, p3, p4, p5, p6, p7, p8, p9, hbody⟩ := hbody
  refine ⟨⟨fa, fd, _, hmg, Fun.okX F S (fun vs H Q E h => by obtain ⟨F, ns, a, rfl, _⟩ := h; rfl) fun cdv A outer s H vs Q E hr h => ?_, F.kp, F.binds hbd⟩⟩
  let X : Cx := cxD P w K mg base N "_law_begun" st fa cdv A outer s H E
  have ok : Okd X E kk := okd hr
  rw [hbody]
  refine ⟨_, pss_cons (hs fa cdv A outer s H E ok) (pss_one (ps_ret (pe_disp (pps_cons pe_str (pe_var (i := 1) (x := ("great" : Str)) hN1 (.inl hl1)) (pps_cons pe_str (he fa cdv A outer s H E ok) (pps_cons pe_str pe_int (pps_cons pe_str pe_int pps_nil)))) rfl rfl (List.cons_ne_nil _ _) (by show 4 ≤ 15; decide)))), ?_⟩
  obtain ⟨F0, ns, a, rfl, hl, rel, hS, hQ⟩ := h
  have rs := rel.start (vs := [.ref a]) (ds := [.scr ns]) (.cons (.scr hS) .nil) N
  rw [hn] at rs
  let ρ0 : Env := startE n [.scr ns]
  have top0 : (⟨ci.tabs, none, 0⟩ : Gh).n + z1 ≤ top := by show 0 + z1 ≤ top; omega
  refine ⟨⟨ci.tabs, none, 0⟩, noH, F0, ρ0, fun o => ∃ gs : List Int, o = .ok (.nx (ρ0.set 1 (.ow (.lst (gs.map D.int))))) ∧ (∀ z ∈ gs, 0 ≤ z) ∧ gs.length ≤ 63, top0, rs, hm.g ns _ hl fun gs h1 h2 => ⟨gs, rfl, h1, h2⟩, fun o ho => ?_⟩
  obtain ⟨gs, rfl, hg0, hgl⟩ := ho
  intro G1 F1 σ1 H1 l1 s1 r1 p hp
  have ln1 : G1.n ≤ 0 + z1 := l1.n
  have hN1' : 1 < n := by rw [← hn]; exact (List.getElem?_eq_some_iff.mp hN1).1
  have h1 : (ρ0.set 1 (.ow (.lst (gs.map D.int))))[1]? = some (.ow (.lst (gs.map D.int))) := by
    rw [List.getElem?_set_self]
    show 1 < (startE n [.scr ns]).length
    unfold startE
    simp only [List.length_append, List.length_map, List.length_replicate, List.length_cons, List.length_nil]
    omega
  obtain ⟨g, hσ, ⟨vs1, hg, hrep⟩, hFg, hPg, hrg⟩ := r1.ow 1 _ h1
  have lo := r1.lone hp
  have rg := (r1.new (o := .dK []) hp).guard lo upd_same
  refine ⟨.ref g, hσ, G1, upd noH p (.dK []), F1, _, fun o => ∃ cs : List Int, o = .ok (.lst (cs.map D.int)) ∧ cs.length ≤ 63, by omega, rg, hm.c ns gs _ hl fun cs h => ⟨cs, rfl, h⟩, fun o ho => ?_⟩
  obtain ⟨cs, rfl, hcl⟩ := ho
  intro G2 F2 H2 v l2 s2 r2 x2
  obtain ⟨q, rfl, loq, ⟨vs2, hq, hrq⟩⟩ := x2
  obtain ⟨nqp, loq2⟩ := loq.unguard
  obtain ⟨r3, lo3, hp3⟩ := r2.unguard lo.hp
  have r4 := r3.write (o := .dK (stK g q 0 0)) lo3 (dK_ne hp3)
  obtain ⟨g', hσ', ⟨vs3, hg3, hrep3⟩, hFg3, _, hrg3⟩ := r4.ow 1 _ h1
  have eg : g' = g := by
    have : (some (some (V.ref g')) : Option (Option V)) = some (some (V.ref g)) := hσ'.symm.trans hσ
    simpa using this
  subst eg
  have npg : p ≠ g' := fun z => by
    have := lo3.hs 1 _ h1
    rw [z] at this
    exact this hσ
  have nqg : q ≠ g' := fun z => loq2.hs 1 _ h1 (by rw [z]; exact hσ)
  have e3 : vs3 = gs.map V.int := hrep3.ints (asInts_map gs)
  have e2 : vs2 = cs.map V.int := hrq.ints (asInts_map cs)
  refine ⟨hp3, stK g' q 0 0, rfl, (by show 4 ≤ 15; decide), ?_⟩
  have em : mergeK [] (stK g' q 0 0) = stK g' q 0 0 := by with_unfolding_all rfl
  rw [em]
  refine hQ G2 F2 _ p g' q gs cs (s1.trans s2) r4.base lo3.hf hFg3 loq2.hf npg (Ne.symm nqp) (Ne.symm nqg) (fun b hb => ⟨fun z => lo3.hr (z ▸ hb), fun z => hrg3 (z ▸ hb), fun z => loq2.hr (z ▸ hb)⟩) upd_same (by rw [hg3, e3]) (by rw [upd_ne nqp, hq, e2]) ⟨hg0, hgl, hcl⟩
end
end DL
end
section
/-! DL26: the law at the top. -/
set_option Elab.async false
set_option linter.all false
set_option autoImplicit false
set_option maxRecDepth 100000
set_option maxHeartbeats 1000000
namespace DL
open PySem PySem.Spec PyProof.Rows L2 He LamX
/-- super().__init__(text) as the text has it -/
theorem sup_eval {msg : Str} {j : Nat} {p0 p1 p2 p3 p4 : Pos} (hl : (p2.endLine == p4.line) = true) (env : PySem.Env) : ∃ pl : Sem Bool, eval (.Call (.Attribute (.Call (.Name "super" p0) [] [] p1) "__init__" p2) [.Constant (.str msg) j p3] [] p4) env = (do
    let ov ← attributeBase (.Call (.Name "super" p0) [] [] p1) "__init__" env (eval (.Call (.Name "super" p0) [] [] p1) env)
    standAt p2.atName
    let (f, first) ← holding [ov] (getMethod ov "__init__" pl)
    callWith p4 f first (backTo p4 (starEach [.Constant (.str msg) j p3] env)) []) := by
  refine ⟨plainOf (.Call (.Name "super" p0) [] [] p1) env, ?_⟩
  have e := fun ov => mcall_line (o := .Call (.Name "super" p0) [] [] p1) (m := "__init__") (apos := p2) (pos := p4) (env := env) (ov := ov) (n := 1) (args := backTo p4 (starEach [.Constant (.str msg) j p3] env)) (kws := backToKw p4 (keywordEach [] env)) rfl hl
  show (do
    let ov ← attributeBase (.Call (.Name "super" p0) [] [] p1) "__init__" env (eval (.Call (.Name "super" p0) [] [] p1) env)
    standAt p2.atName
    methodCall (.Call (.Name "super" p0) [] [] p1) "__init__" p2 p4 env ov 1 (backTo p4 (starEach [.Constant (.str msg) j p3] env)) (backToKw p4 (keywordEach [] env))) = _
  simp only [e]
  rfl
section
variable {P : Program} {w : World} {K : Frag} {mg : Str → Option Value} {base h : Heap} {ci : Ci} {st : Stmt} {N : List Str} {kk kb n z : Nat} {b : XS} {L : Value → Prop}
/-- the law's rest keeps its meaning -/
def LawD (P : Program) (w : World) (K : Frag) (mg : Str → Option Value) (base : Heap) (ci : Ci) (kk : Nat) (N : List Str) (st : Stmt) (L : Value → Prop) (b : XS) : Prop :=
  ∃ z, (∀ (f : Addr) (cdv : Value) (A : Around) (outer : List PySem.Env) (s : Shared) (H : Hp) (E : XK), L cdv → Okd (cxD P w K mg base N "law" st f cdv A outer s H E) E kk → DSs (cxD P w K mg base N "law" st f cdv A outer s H E) ci E z .sh (defBody st).tail b) ∧ z ≤ top
def spLaw (K : Frag) (ci : Ci) : Sp := fun vs H Q _ => ∃ (a : Addr) (ns : List Int), vs = [.ref a] ∧ ns.length ≤ 63 ∧ (∀ p ∈ ci.tabs, H p.1 = some (.tbl #[])) ∧ SqL K H a (ns.map V.int) ∧ ∀ H', Q (.bl true) H'
/-- the script alone -/
def scrF (H : Hp) (a : Addr) : Hp := fun b => if b = a then (match H a with
  | some (.tbl _) => none
  | o => o) else none
theorem scrF_ne {H : Hp} {a b : Addr} (h : b ≠ a) : scrF H a b = none := if_neg h
theorem scrF_at {H : Hp} {a : Addr} {o : HO} (e : H a = some o) (ht : ∀ ps, o ≠ .tbl ps) : scrF H a a = some o := by
  unfold scrF
  rw [if_pos rfl, e]
  cases o <;> first | rfl | exact (ht _ rfl).elim
theorem scrF_same {H : Hp} {a : Addr} : Same (scrF H a) H := fun b o e => by
  unfold scrF at e
  split at e
  · rename_i hb
    subst hb
    split at e
    · cases e
    · exact e
  · cases e
theorem scrF_tbl {H : Hp} {a b : Addr} {ps : Array Value} (e : H b = some (.tbl ps)) : scrF H a b = none := by
  unfold scrF
  split
  · rename_i hb
    subst hb
    rw [e]
  · rfl
theorem scrF_seq {H : Hp} {a : Addr} {xs : List V} (h : SqL K H a xs) : SqL K (scrF H a) a xs := by
  rcases h with (h | ⟨o, h⟩) | h
  · exact .inl (.inl (scrF_at h fun ps z => by cases z))
  · exact .inl (.inr ⟨o, scrF_at h fun ps z => by cases z⟩)
  · exact .inr h
theorem rel_begin {H : Hp} {a : Addr} (ht : ∀ p ∈ ci.tabs, H p.1 = some (.tbl #[])) : Rel K ci ⟨ci.tabs, none, 0⟩ (scrF H a) noH [] [] H where
  sf := scrF_same
  sp := fun b o e => by cases e
  dj := fun b o e => by cases e
  rp := fun b _ => rfl
  ok := by
    refine ⟨fun p hp => TabS.nil (ht p hp), fun b hb => ?_, fun a g c e => by cases e⟩
    rcases hb with ⟨p, hp, rfl⟩ | ⟨a', g, c, e, _⟩
    · exact scrF_tbl (ht p hp)
    · cases e
  len := rfl
  sh := fun i d h => by simp at h
  ow := fun i d h => by simp at h
  ap := fun i j d e p _ h => by simp at h
  tb := rfl
/-- the draws' state stands -/
theorem rel_begun {G' : Gh} {F F' H' : Hp} {p g c : Addr} {gs cs : List Int} (s : Same F F') (r : Rel K ci G' F' noH [] [] H') (fp : F' p = none) (fg : F' g = none) (fc : F' c = none) (ngc : g ≠ c) (hp : H' p = some (.dK (stK g c 0 0))) (hg : H' g = some (.lst (gs.map V.int))) (hc : H' c = some (.lst (cs.map V.int))) (hb : begunP gs cs) :
    Rel K ci ⟨ci.tabs, some (p, g, c), 0⟩ F noH [] [] H' where
  sf := s.trans r.sf
  sp := fun b o e => by cases e
  dj := fun b o e => by cases e
  rp := fun b _ => rfl
  ok := by
    have ht : LamX.Tabs ci.tabs H' := by have := r.ok.tabs; rwa [r.tb] at this
    refine ⟨ht, fun b hb => ?_, fun a' g' c' e => ?_⟩
    · have key : F' b = none := by
        rcases hb with ⟨q, hq, e⟩ | ⟨a', g', c', e, hb⟩
        · exact r.ok.fr b (.inl ⟨q, by rw [r.tb]; exact hq, e⟩)
        · cases e
          rcases hb with rfl | rfl | rfl
          · exact fp
          · exact fg
          · exact fc
      exact s.free key
    · cases e
      exact ⟨gs, cs, 0, 0, hp, hg, hc, ngc, Int.le_refl _, hb.1, hb.2.1, hb.2.2, Int.le_refl _, Int.le_refl _⟩
  len := rfl
  sh := fun i d h => by simp at h
  ow := fun i d h => by simp at h
  ap := fun i j d e p _ h => by simp at h
  tb := rfl
theorem fn_law {fa : Addr} {oc : Value} {od : Option Addr} {kV doc pm : Value} {an : Option Addr} {cdv ct : Value} {osl : Array (Option Value)} (lk : K.lookup fa = some ⟨oc, od, .func (PySem.W.fnOf "law" "law" (defArgs st) (defBody st) (defScope st) .none kV doc pm an cdv ct), osl⟩) (hcd : PySem.W.codeIn K cdv "law" = true) (hL : L cdv)
    (S : FnScope N ["script"] (defScope st)) (hn : N.length = n) (hN0 : N[0]? = some ("script" : Str)) (hN1 : N[1]? = some ("state" : Str)) (hx : Loc (defScope st) "state") (hv : Vis (defScope st) "script") (Bg : FnBg P w K mg base ci kb) (hkb : kb ≤ kk)
    (hbody : ∃ p1 p2 p3 p4 p5, defBody st = .Assign [.Name "state" p1] (.Call (.Name "_law_begun" p2) [.Name "script" p3] [] p4) p5 :: (defBody st).tail)
    (hgl : (defScope st).names.lookup ("_law_begun" : Str) = some .globalImplicit)
    (hb : LawD P w K mg base ci kk N st L b)
    (hm : ∀ ns : List Int, ns.length ≤ 63 → b ((startE n [.scr ns]).set 1 (.sh .st)) fun o => o = .ok (.rt (.bl true))) :
    FnOk P w K mg base (L2.CX P w) (kk + 1) fa (PySem.W.fnOf "law" "law" (defArgs st) (defBody st) (defScope st) .none kV doc pm an cdv ct) ["script"] (spLaw K ci) := by
  obtain ⟨fb, fdb, psb, hmb, FB, hkp, hbb⟩ := Bg.ex
  obtain ⟨z, hb, hz⟩ := hb
  obtain ⟨p1, p2, p3, p4, p5, hbody⟩ := hbody
  refine fn_of lk hcd S (fun vs H Q E h => by obtain ⟨a, ns, rfl, _⟩ := h; rfl) fun A outer s H vs Q E hr h => ?_
  let X : Cx := cxD P w K mg base N "law" st fa cdv A outer s H E
  have ok : Okd X E kk := okd hr
  rw [hbody]
  refine ⟨_, pss_cons (ps_set (X := X) (i := 1) S.nd hN1 hx (pe_call FB (ok.room.mono hkb) hgl hmb hkp hbb .nil ok.px (pa_cons (pe_var (X := X) (i := 0) hN0 hv) pa_nil rfl) (by decide) rfl rfl) rfl (.inl rfl)) (hb fa cdv A outer s H E hL ok), ?_⟩
  obtain ⟨a, ns, rfl, hl, ht, hS, hQ⟩ := h
  refine ⟨.ref a, rfl, scrF H a, ns, a, rfl, hl, rel_begin ht, scrF_seq hS, fun G' F' H' p g c gs cs s' r fp fg fc _ _ ngc _ hp hg hc hbg => ?_⟩
  have r2 := rel_begun s' r fp fg fc ngc hp hg hc hbg
  have r3 := (r2.start (vs := [.ref a]) (ds := [.scr ns]) (.cons (.scr (scrF_seq hS)) .nil) N).setSh (i := 1) (v := .ref p) (d := .st) (.st rfl)
  rw [hn] at r3
  refine ⟨⟨ci.tabs, some (p, g, c), 0⟩, noH, scrF H a, _, _, by show 0 + z ≤ top; omega, r3, hm ns hl, fun o ho => ?_⟩
  subst ho
  intro G2 F2 H2 v l2 s2 r4 x
  cases x
  exact hQ H2
/-- what a list of Bools tells -/
theorem all_at {l : List Bool} (h : l.all id = true) (i : Nat) {b : Bool} (e : l[i]? = some b) : b = true := List.all_eq_true.mp h b (List.mem_of_getElem? e)
theorem lmF_of {x : Str} {tf : List Str} {oc : Value} {od : Option Addr} {fd : FuncData} {osl : Array (Option Value)} (lk : K.lookup (ga K x) = some ⟨oc, od, .func fd, osl⟩) (hcd : PySem.W.codeIn K fd.code x = true)
    (hx : x ∈ tf) (hu : tabsU K tf = true) (ht : ci.tabs = ciTabs K tf) (TB : TabB base mg (cT K (x, none)).1 (cT K (x, none)).2) : LmF base mg ci.tabs (x ++ ".<locals>.") fd.code := by
  obtain ⟨c, hc⟩ := codeIn_ref hcd
  have e1 : codeOf K (x, none) = c := codeOf_eq (p := (x, none)) lk hc
  have e2 : (cT K (x, none)).1 = c := e1
  refine ⟨⟨c, (cT K (x, none)).2, hc, by rw [← e2]; exact TB, by rw [ht]; exact List.mem_map.mpr ⟨x, hx, rfl⟩, fun p hp hp1 => ?_⟩⟩
  rw [ht] at hp
  obtain ⟨y, hy, rfl⟩ := List.mem_map.mp hp
  have z := List.all_eq_true.mp (List.all_eq_true.mp hu y hy) x hx
  have hp1 : (cT K (y, none)).2 = (cT K (x, none)).2 := hp1
  rw [hp1] at z
  have z2 : y = x := by simpa using z
  rw [z2]
end
end DL
end
section
/-! DL27: y = [list(x) for x in e]; y[a][s] = v. -/
set_option Elab.async false
set_option linter.all false
set_option autoImplicit false
set_option maxRecDepth 100000
set_option maxHeartbeats 1000000
namespace DL
open PySem PySem.Spec PyProof.Rows L2 He LamX
section
variable {K : Frag} {ci : Ci} {G G' : Gh} {F F' P P' H H' : Hp} {ρ : Env} {σ : L2.St} {p : Addr} {o o' : HO} {d : D}
/-- fewer things guarded -/
theorem Rel.less (r : Rel K ci G F P' ρ σ H) (s : Same P P') : Rel K ci G F P ρ σ H where
  sf := r.sf
  sp := s.trans r.sp
  dj := fun b x e => r.dj b x (s b x e)
  rp := fun b q => s.free (r.rp b q)
  ok := r.ok
  len := r.len
  sh := r.sh
  ow := fun i d h => by
    obtain ⟨p, h1, h2, h3, h4, h5⟩ := r.ow i d h
    exact ⟨p, h1, h2, h3, s.free h4, h5⟩
  ap := r.ap
  tb := r.tb
/-- a guarded object is of nobody's -/
theorem Rel.guarded (r : Rel K ci G F P' ρ σ H) (h : P' p = some o) (hp : P p = none) : Lone G F P ρ σ p ∧ H p = some o :=
  ⟨{ hf := r.dj p o h
     hp := hp
     hr := fun q => by
      have z := r.rp p q
      rw [h] at z
      cases z
     hs := fun i d h1 h2 => by
      obtain ⟨q, h3, _, _, h5, _⟩ := r.ow i d h1
      rw [h2] at h3
      cases h3
      rw [h] at h5
      cases h5 }, r.sp p o h⟩
/-- a guarded object written -/
theorem Rel.gput (r : Rel K ci G F P ρ σ H) (h : P p = some o) (hn : ∀ c q, H p ≠ some (LamX.CodeO c q)) : Rel K ci G F (upd P p o') ρ σ (upd H p o') := by
  let P0 : Hp := fun b => if b = p then none else P b
  have e0 : upd P0 p o = P := by
    funext b
    by_cases hb : b = p
    · subst hb; rw [upd_same, h]
    · rw [upd_ne hb]; exact if_neg hb
  have p0 : P0 p = none := if_pos rfl
  rw [← e0] at r
  obtain ⟨r1, lo, hp⟩ := r.unguard p0
  have r2 := (r1.write (o := o') lo hn).guard (o := o') lo upd_same
  have e1 : upd P0 p o' = upd P p o' := by
    funext b
    by_cases hb : b = p
    · subst hb; rw [upd_same, upd_same]
    · rw [upd_ne hb, upd_ne hb]; exact if_neg hb
  rwa [e1] at r2
/-- what a callee sees, and what is of nobody's stays so -/
theorem Rel.shut2 (r : Rel K ci G F P ρ σ H) : ∃ P', Rel K ci G F P' [] [] H ∧ (∀ q, Lone G F P ρ σ q → P' q = none) ∧ ∀ (N : Nat) G' F' H', Gh.Le N G G' → Same F F' → Rel K ci G' F' P' [] [] H' → Rel K ci G' F' P ρ σ H' := by
  classical
  let own : Addr → Prop := fun b => ∃ (i : Nat) (d : D), ρ[i]? = some (.ow d) ∧ σ[i]? = some (some (.ref b))
  have hown : ∀ {b}, own b → (∃ x, H b = some x) ∧ F b = none ∧ P b = none ∧ ¬ reg G b := fun {b} ⟨i, d, h1, h2⟩ => by
    obtain ⟨p, h3, h4, h5, h6, h7⟩ := r.ow i d h1
    rw [h2] at h3
    cases h3
    exact ⟨h4.there, h5, h6, h7⟩
  let P' : Hp := fun b => if own b then H b else P b
  have in_ : ∀ {b}, own b → P' b = H b := fun {b} h => if_pos h
  have out_ : ∀ {b}, ¬ own b → P' b = P b := fun {b} h => if_neg h
  have sub : ∀ b x, P b = some x → P' b = some x := fun b x e => by
    rw [out_ (fun h => by rw [(hown h).2.2.1] at e; cases e)]
    exact e
  refine ⟨P', ⟨r.sf, fun b x e => ?_, fun b x e => ?_, fun b q => ?_, r.ok, rfl, fun i d h => by simp at h, fun i d h => by simp at h, fun i j d e p _ h => by simp at h, r.tb⟩, fun q lo => ?_, fun N G' F' H' l s r' => ⟨r'.sf, fun b x e => r'.sp b x (sub b x e), fun b x e => r'.dj b x (sub b x e), fun b q => ?_, r'.ok, r.len, fun i d h => ?_, fun i d h => ?_, r.ap, r'.tb⟩⟩
  · by_cases h : own b
    · rw [in_ h] at e; exact e
    · rw [out_ h] at e; exact r.sp b x e
  · by_cases h : own b
    · exact (hown h).2.1
    · rw [out_ h] at e; exact r.dj b x e
  · by_cases h : own b
    · exact ((hown h).2.2.2 q).elim
    · rw [out_ h]; exact r.rp b q
  · have h : ¬ own q := fun ⟨i, d, h1, h2⟩ => lo.hs i d h1 h2
    rw [out_ h]; exact lo.hp
  · cases e : P b with
    | none => rfl
    | some x =>
      have := r'.rp b q
      rw [sub b x e] at this
      cases this
  · obtain ⟨v, h1, h2⟩ := r.sh i d h
    exact ⟨v, h1, h2.mono (rc_le K ci l) s⟩
  · obtain ⟨p, h1, h2, h3, h4, h5⟩ := r.ow i d h
    obtain ⟨ob, hob⟩ := h2.there
    have hP : P' p = some ob := (in_ ⟨i, d, h, h1⟩).trans hob
    refine ⟨p, h1, h2.mono (rc_le K ci l) s ((r'.sp p ob hP).trans hob.symm), r'.dj p ob hP, h4, fun q => ?_⟩
    have := r'.rp p q
    rw [hP] at this
    cases this
/-- many objects of nobody's are frozen -/
def frzL (F H : Hp) (qs : List Addr) : Hp := fun b => if b ∈ qs then H b else F b
theorem Rel.freezes (r : Rel K ci G F P [] [] H) {qs : List Addr} (hq : ∀ q ∈ qs, F q = none ∧ P q = none ∧ ¬ reg G q) : Same F (frzL F H qs) ∧ Rel K ci G (frzL F H qs) P [] [] H := by
  have in_ : ∀ {b}, b ∈ qs → frzL F H qs b = H b := fun h => if_pos h
  have out_ : ∀ {b}, b ∉ qs → frzL F H qs b = F b := fun h => if_neg h
  refine ⟨fun b x e => by rw [out_ (fun z => by rw [(hq b z).1] at e; cases e)]; exact e, ⟨fun b x e => ?_, r.sp, fun b x e => ?_, r.rp, ⟨r.ok.tabs, fun b q => ?_, r.ok.st⟩, rfl, fun i d h => by simp at h, fun i d h => by simp at h, fun i j d e p _ h => by simp at h, r.tb⟩⟩
  · by_cases hb : b ∈ qs
    · rw [in_ hb] at e; exact e
    · rw [out_ hb] at e; exact r.sf b x e
  · rw [out_ (fun z => by rw [(hq b z).2.1] at e; cases e)]
    exact r.dj b x e
  · rw [out_ (fun z => (hq b z).2.2 q)]
    exact r.ok.fr b q
/-- a frozen list written: all that leans on it must be told anew -/
theorem Rel.fput {vs ws : List V} (r : Rel K ci G F P [] [] H) (h : F p = some (.lst vs)) : Rel K ci G (upd F p (.lst ws)) P [] [] (upd H p (.lst ws)) := by
  have hp := r.sf p _ h
  have np : ∀ b x, P b = some x → b ≠ p := fun b x e z => by
    have := r.dj b x e
    rw [z, h] at this
    cases this
  have nr : ∀ b, reg G b → b ≠ p := fun b q z => by
    have := r.ok.fr b q
    rw [z, h] at this
    cases this
  refine ⟨fun b x e => ?_, fun b x e => by rw [upd_ne (np b x e)]; exact r.sp b x e, fun b x e => by rw [upd_ne (np b x e)]; exact r.dj b x e, r.rp, ⟨fun q hq => ?_, fun b q => by rw [upd_ne (nr b q)]; exact r.ok.fr b q, fun a g c e => ?_⟩, rfl, fun i d h => by simp at h, fun i d h => by simp at h, fun i j d e p _ h => by simp at h, r.tb⟩
  · by_cases hb : b = p
    · subst hb; rw [upd_same] at e ⊢; exact e
    · rw [upd_ne hb] at e ⊢; exact r.sf b x e
  · obtain ⟨ps, e1, e2, e3⟩ := r.ok.tabs q hq
    refine ⟨ps, by rw [upd_ne (nr _ (.inl ⟨q, hq, rfl⟩))]; exact e1, e2, fun pos cv hc => ?_⟩
    obtain ⟨c, e4, e5⟩ := e3 pos cv hc
    refine ⟨c, e4, ?_⟩
    rw [upd_ne (fun z => by
      rw [z, hp] at e5
      unfold LamX.CodeO at e5
      cases e5)]
    exact e5
  · obtain ⟨gs, cs, r1, t, h1, h2, h3, h4⟩ := r.ok.st a g c e
    refine ⟨gs, cs, r1, t, by rw [upd_ne (nr _ (.inr ⟨a, g, c, e, .inl rfl⟩))]; exact h1, by rw [upd_ne (nr _ (.inr ⟨a, g, c, e, .inr (.inl rfl)⟩))]; exact h2, by rw [upd_ne (nr _ (.inr ⟨a, g, c, e, .inr (.inr rfl)⟩))]; exact h3, h4⟩
end
/-! ### values without lists -/
def noL (d : D) : Bool := flatD d || match d with
  | .tup ds => ds.all flatD
  | _ => false
theorem RepL.flats {R : Rc} {F : Hp} (R' : Rc) (F' : Hp) : ∀ {vs : List V} {ds : List D}, RepL R F vs ds → ds.all flatD = true → RepL R' F' vs ds
  | _, _, .nil, _ => .nil
  | _, _, .cons h r, e => by
    rw [List.all_cons, Bool.and_eq_true] at e
    exact .cons (h.flat e.1 R' F') (RepL.flats R' F' r e.2)
theorem Rep.noL {R : Rc} {F : Hp} {v : V} {d : D} {p : Addr} {vs ws : List V} (h : Rep R F v d) (e : noL d = true) (hp : F p = some (.lst vs)) : Rep R (upd F p (.lst ws)) v d := by
  unfold DL.noL at e
  rw [Bool.or_eq_true] at e
  rcases e with e | e
  · exact h.flat e R _
  · cases d with
    | tup ds =>
      cases h with
      | tup h r =>
        refine .tup ?_ (r.flats R _ e)
        rcases h with (h | ⟨o, h⟩) | h
        · exact .inl (.inl (by rw [upd_ne (fun z => by rw [z, hp] at h; cases h)]; exact h))
        · exact .inl (.inr ⟨o, by rw [upd_ne (fun z => by rw [z, hp] at h; cases h)]; exact h⟩)
        · exact .inr h
    | _ => cases e
/-! ### the statements -/
def seqLs : List D → Option (List (List D))
  | [] => some []
  | d :: r => (seqL d).bind fun x => (seqLs r).map fun xs => x :: xs
def nestE (i : Nat) (ρ : Env) (ls : List (List D)) : Env := (hide ρ).set i (.sh (.lst (ls.map D.lst)))
def nestK (i : Nat) (dv da ds : XE) (ρ : Env) (ls : List (List D)) : M Fl := do
  let v ← dv (nestE i ρ ls)
  let a ← da (nestE i ρ ls)
  let x ← M.get ((asInt a).bind fun z => ixD ls.length z)
  let s ← ds (nestE i ρ ls)
  M.need (noL v = true)
  let l ← M.get (ls[x]?)
  let y ← M.get ((asInt s).bind fun z => ixD l.length z)
  pure (.nx (ρ.set i (.sh (.lst ((ls.set x (l.set y v)).map D.lst)))))
def sNest (i : Nat) (di : XI) (dv da ds : XE) : XS := fun ρ => do
  let xs ← di ρ
  let ls ← M.get (seqLs xs)
  nestK i dv da ds ρ ls
/-- the inner lists, as they lie -/
inductive Ins (R : Rc) (F : Hp) : List (Addr × List V) → List (List D) → Prop
  | nil : Ins R F [] []
  | cons {q : Addr} {ws : List V} {l : List D} {acc : List (Addr × List V)} {ls : List (List D)} : RepL R F ws l → Ins R F acc ls → Ins R F ((q, ws) :: acc) (l :: ls)
theorem Ins.mono {R R' : Rc} {F F' : Hp} (l : Rc.Le R R') (e : Same F F') : ∀ {acc : List (Addr × List V)} {ls : List (List D)}, Ins R F acc ls → Ins R' F' acc ls
  | _, _, .nil => .nil
  | _, _, .cons h r => .cons (h.mono l e) (Ins.mono l e r)
theorem Ins.snoc {R : Rc} {F : Hp} {x : Addr × List V} {l : List D} (h : RepL R F x.2 l) : ∀ {acc : List (Addr × List V)} {ls : List (List D)}, Ins R F acc ls → Ins R F (acc ++ [x]) (ls ++ [l])
  | _, _, .nil => .cons h .nil
  | _, _, .cons h' r => .cons h' (Ins.snoc h r)
theorem Ins.len {R : Rc} {F : Hp} : ∀ {acc : List (Addr × List V)} {ls : List (List D)}, Ins R F acc ls → acc.length = ls.length
  | _, _, .nil => rfl
  | _, _, .cons _ r => by rw [List.length_cons, List.length_cons, Ins.len r]
theorem Ins.at_ {R : Rc} {F : Hp} : ∀ {acc : List (Addr × List V)} {ls : List (List D)} {x : Nat} {l : List D}, Ins R F acc ls → ls[x]? = some l → ∃ q ws, acc[x]? = some (q, ws) ∧ RepL R F ws l
  | _, _, _, _, .nil, e => by simp at e
  | _, _, 0, _, .cons h _, e => by simp at e; subst e; exact ⟨_, _, rfl, h⟩
  | _, _, x + 1, l, .cons _ r, e => by
    obtain ⟨q, ws, h1, h2⟩ := Ins.at_ (x := x) (l := l) r (by simpa using e)
    exact ⟨q, ws, by simpa using h1, h2⟩
/-- frozen: the nested list's value -/
theorem Ins.rep {R : Rc} {F : Hp} : ∀ {acc : List (Addr × List V)} {ls : List (List D)}, Ins R F acc ls → (∀ x ∈ acc, F x.1 = some (.lst x.2)) → RepL R F (acc.map fun x => V.ref x.1) (ls.map D.lst)
  | _, _, .nil, _ => .nil
  | _, _, .cons h r, e => .cons (.lst (e _ List.mem_cons_self) h) (Ins.rep r fun x hx => e x (List.mem_cons_of_mem _ hx))
/-- .. one of them written -/
theorem Ins.rep2 {R : Rc} {F F' : Hp} {q : Addr} {ws' : List V} {l' : List D} (hs : ∀ {ws : List V} {l : List D}, RepL R F ws l → RepL R F' ws l) (hq : F' q = some (.lst ws')) (hr : RepL R F' ws' l') : ∀ {acc : List (Addr × List V)} {ls : List (List D)} {x : Nat} {ws : List V}, Ins R F acc ls → (acc.map (·.1)).Nodup → (∀ y ∈ acc, y.1 ≠ q → F' y.1 = some (.lst y.2)) → acc[x]? = some (q, ws) →
    RepL R F' (acc.map fun x => V.ref x.1) ((ls.set x l').map D.lst)
  | _, _, _, _, .nil, _, _, e => by simp at e
  | _, _, 0, _, .cons (acc := acc) (ls := ls) h r, nd, hf, e => by
    simp at e
    obtain ⟨rfl, rfl⟩ := e
    rw [List.map_cons, List.nodup_cons] at nd
    refine .cons (.lst hq hr) ?_
    have key : ∀ {acc : List (Addr × List V)} {ls : List (List D)}, Ins R F acc ls → (∀ y ∈ acc, F' y.1 = some (.lst y.2)) → RepL R F' (acc.map fun x => V.ref x.1) (ls.map D.lst) := by
      intro acc ls i
      induction i with
      | nil => intro _; exact .nil
      | cons h r ih => intro e; exact .cons (.lst (e _ List.mem_cons_self) (hs h)) (ih fun y hy => e y (List.mem_cons_of_mem _ hy))
    exact key r fun y hy => hf y (List.mem_cons_of_mem _ hy) fun z => nd.1 (List.mem_map.mpr ⟨y, hy, z⟩)
  | _, _, x + 1, ws, .cons (q := q0) (ws := ws0) h r, nd, hf, e => by
    rw [List.map_cons, List.nodup_cons] at nd
    rw [List.getElem?_cons_succ] at e
    have hm := List.mem_of_getElem? e
    refine .cons (.lst (hf _ List.mem_cons_self fun z => nd.1 (List.mem_map.mpr ⟨(q, ws), hm, z.symm⟩)) (hs h)) (Ins.rep2 hs hq hr r nd.2 (fun y hy => hf y (List.mem_cons_of_mem _ hy)) e)
section
variable {X : Cx} {ci : Ci} {E : XK} {m : Md} {tg iter ea es ev : Expr} {rest : List Stmt} {scope : Scope} {own : List (Str × Nat)} {di : XI} {dv da ds : XE} {t : XS} {i j : Nat} {x y lx : Str} {py pos spos p1 p2 p3 p4 p5 p6 p7 p8 : Pos} {zi zv za zs z kk : Nat}
/-- the comprehension's meaning -/
def tLl (K : Frag) (j : Nat) : TE := fun σ H Q => ∃ v, σ[j]? = some (some v) ∧ rListOf K [v] H Q
theorem nest_comp {K : Frag} (σ : L2.St) (H : Hp) (Q : VK) {G : Gh} {F P : Hp} {ρ : Env} {Wp : Out (List (List D)) → Prop} (bd : G.n + zi ≤ top) (rel : Rel K ci G F P ρ σ H) (hd : (di ρ >>= fun xs => M.get (seqLs xs)) Wp)
    (hj : j < σ.length)
    (hw : ∀ o, Wp o → match o with
      | .ok ls => ∀ G' F' H' p (acc : List (Addr × List V)), Gh.Le (G.n + zi) G G' → Same F F' → Rel K ci G' F' P ρ σ H' → Lone G' F' P ρ σ p → H' p = some (.lst (acc.map fun x => V.ref x.1)) → (∀ x ∈ acc, Lone G' F' P ρ σ x.1 ∧ H' x.1 = some (.lst x.2) ∧ x.1 ≠ p) → (acc.map (·.1)).Nodup → Ins (rc K ci G') F' acc ls → Q (.ref p) H'
      | .exc c fs => XP K ci E (G.n + zi) G P F c fs) :
    L2.tLc (tI K ci E zi di) (L2.gName j) L2.tYes (tLl K j) [j] σ H Q := by
  refine ⟨G, P, F, ρ, _, bd, rel, hd, fun o ho => ?_⟩
  cases o with
  | exc c fs => exact hw _ ho
  | ok dd =>
    intro G1 F1 H1 J l1 s1 r1 goes D hD
    obtain ⟨ls, hls, ho⟩ := get_ok (show M.get (seqLs dd) Wp from ho)
    have lo := r1.lone hD
    have hlen : ∀ {dd : List DL.D} {ls : List (List DL.D)}, seqLs dd = some ls → ls.length = dd.length := by
      intro dd
      induction dd with
      | nil => intro ls e; cases e; rfl
      | cons d r ih =>
        intro ls e
        unfold seqLs at e
        obtain ⟨x, h1, h2⟩ := Option.bind_eq_some_iff.mp e
        obtain ⟨xs, h3, h4⟩ := Option.map_eq_some_iff.mp h2
        subst h4
        rw [List.length_cons, List.length_cons, ih h3]
    have hat : ∀ {dd : List DL.D} {ls : List (List DL.D)} {i : Nat} {d : DL.D}, seqLs dd = some ls → dd[i]? = some d → ∃ l, ls[i]? = some l ∧ seqL d = some l := by
      intro dd
      induction dd with
      | nil => intro ls i d e h; simp at h
      | cons d0 r ih =>
        intro ls i d e h
        unfold seqLs at e
        obtain ⟨x, h1, h2⟩ := Option.bind_eq_some_iff.mp e
        obtain ⟨xs, h3, h4⟩ := Option.map_eq_some_iff.mp h2
        subst h4
        cases i with
        | zero => simp at h; subst h; exact ⟨x, rfl, h1⟩
        | succ i => obtain ⟨l, h5, h6⟩ := ih h3 (by simpa using h); exact ⟨l, by simpa using h5, h6⟩
    refine ⟨fun i m H => m = dd.length - i ∧ i ≤ dd.length ∧ ∃ PX F' acc, Same P PX ∧ Same F1 F' ∧ Rel K ci G1 F' PX ρ σ H ∧ PX D = some (.lst (acc.map fun x => V.ref x.1)) ∧ (∀ x ∈ acc, PX x.1 = some (.lst x.2) ∧ P x.1 = none ∧ x.1 ≠ D) ∧ (acc.map (·.1)).Nodup ∧ Ins (rc K ci G1) F' acc (ls.take i) ∧ acc.length = i,
      ⟨dd.length, by simp, Nat.zero_le _, upd P D (.lst []), F1, [], fun b x e => by rw [upd_ne (fun z => by rw [z, lo.hp] at e; cases e)]; exact e, Same.refl F1, (r1.new hD).guard lo upd_same, upd_same, fun x hx => (nomatch hx), List.nodup_nil, .nil, rfl⟩, ?_⟩
    rintro i m H2 ⟨rfl, hi, PX, F', acc, sP, s2, r2, hPD, hacc, hnd, hins, hal⟩
    by_cases hlt : i < dd.length
    · refine .inr ⟨goes.go i H2 (s2.trans r2.sf) hlt, _, fun H' p' => ⟨dd.length - (i + 1), by omega, p'⟩, fun x H' yy => ?_⟩
      have ed : dd[i]? = some dd[i] := List.getElem?_eq_getElem hlt
      obtain ⟨F2, s3, r3, rx⟩ := goes.item (N := G1.n) (Gh.Le.refl G1) s2 r2 ed yy
      obtain ⟨l, hl1, hl2⟩ := hat hls ed
      have hlj : j < (L2.wipe σ [j]).length := by rw [L2.wipe_length]; exact hj
      refine ⟨?_, ?_⟩
      · show ((L2.wipe σ [j]).set j (some x)).set j none = _
        rw [List.set_set]
        show (σ.set j none).set j none = σ.set j none
        rw [List.set_set]
      · dsimp only [L2.tYes]
        rw [if_pos rfl]
        obtain ⟨p, vs, rfl, hp, rp⟩ := Seen.seq (.inl rx) r3.sf hl2
        refine ⟨_, by rw [List.getElem?_set_self hlj], p, vs, rfl, hp, fun l' hl' => ?_⟩
        have nPX : PX l' = none := r3.sp.free hl'
        have nlD : l' ≠ D := fun z => by rw [z, hPD] at nPX; cases nPX
        have r4 := (r3.new (o := .lst vs) hl').guard (r3.lone hl') upd_same
        have eD : (upd PX l' (.lst vs)) D = some (.lst (acc.map fun x => V.ref x.1)) := by rw [upd_ne (Ne.symm nlD)]; exact hPD
        have hHD := r4.sp _ _ eD
        have em : (acc ++ [(l', vs)]).map (fun x => V.ref x.1) = acc.map (fun x => V.ref x.1) ++ [V.ref l'] := by rw [List.map_append]; rfl
        have r5 := r4.gput (o' := .lst (acc.map (fun x => V.ref x.1) ++ [V.ref l'])) eD (lst_ne hHD)
        refine ⟨_, hHD, ?_, ?_⟩
        · rw [List.length_map, hal]; exact Nat.lt_of_lt_of_le hlt goes.len
        · refine ⟨rfl, hlt, upd (upd PX l' (.lst vs)) D (.lst (acc.map (fun x => V.ref x.1) ++ [V.ref l'])), F2, acc ++ [(l', vs)], fun b o e => ?_, s2.trans s3, r5, by rw [upd_same, em], fun z hz => ?_, ?_, ?_, by rw [List.length_append, hal]; rfl⟩
          · rw [upd_ne (fun z => by rw [z, lo.hp] at e; cases e), upd_ne (fun z => by rw [z] at e; have := sP l' o e; rw [nPX] at this; cases this)]
            exact sP b o e
          · rcases List.mem_append.mp hz with hz | hz
            · obtain ⟨h1, h2, h3⟩ := hacc z hz
              exact ⟨by rw [upd_ne h3, upd_ne (fun q => by rw [q, nPX] at h1; cases h1)]; exact h1, h2, h3⟩
            · rw [List.mem_singleton.mp hz]
              exact ⟨by rw [upd_ne nlD, upd_same], sP.free nPX, nlD⟩
          · rw [List.map_append, List.nodup_append]
            refine ⟨hnd, by simp, fun a ha b hb => ?_⟩
            obtain ⟨z, hz, rfl⟩ := List.mem_map.mp ha
            rw [List.map_cons, List.map_nil, List.mem_singleton] at hb
            rw [hb]
            intro q
            have := (hacc z hz).1
            rw [show z.1 = l' from q, nPX] at this
            cases this
          · have e1 : ls.take (i + 1) = ls.take i ++ [l] := by rw [List.take_add_one, hl1]; rfl
            rw [e1]
            exact Ins.snoc (x := (l', vs)) rp (hins.mono (Rc.Le.refl _) s3)
    · have e : i = dd.length := by omega
      subst e
      have e2 : ls.take dd.length = ls := by rw [← hlen hls, List.take_length]
      rw [e2] at hins
      obtain ⟨loD, hHD⟩ := r2.guarded hPD lo.hp
      exact .inl ⟨goes.stop H2 (s2.trans r2.sf), hw _ ho G1 F' H2 D acc l1 (s1.trans s2) (r2.less sP) loD hHD (fun x hx => by
        obtain ⟨h1, h2, h3⟩ := hacc x hx
        obtain ⟨h4, h5⟩ := r2.guarded h1 h2
        exact ⟨h4, h5, h3⟩) hnd hins⟩
def nestN (t : XS) (f : Fl) : M Fl := match f with
  | .nx ρ' => t ρ'
  | f => pure f
theorem nest_split {ρ : Env} : sSeq (sNest i di dv da ds) t ρ = ((di ρ >>= fun xs => M.get (seqLs xs)) >>= fun ls => nestK i dv da ds ρ ls >>= nestN t) := by
  unfold sSeq sNest
  simp only [bnd_bnd]
  rfl
def outW {α β : Type} (k : α → M β) (W : Out β → Prop) : Out α → Prop := fun o => match o with
  | .ok a => k a W
  | .exc c fs => W (.exc c fs)
theorem bnd_at {α β : Type} {m : M α} {k : α → M β} {W : Out β → Prop} (h : (m >>= k) W) : m (outW k W) := h
theorem atI_of {α : Type} {xs : List α} {z : Int} {n j : Nat} {v : α} (hl : xs.length = n) (h : ixD n z = some j) (hv : xs[j]? = some v) : atI xs z = some v := by
  unfold atI
  rw [hl, show ixN n z = some j from h]
  exact hv
theorem dss_nest (hc : X.calm = true) (hN : X.N.Nodup) (hi : DI X ci E zi (.Name lx p1) iter di) (hjN : X.N[j]? = some lx) (hjl : j < X.N.length)
    (hg : ∀ (s : Shared) (H : Hp) (C : Addr) (cl : List (Str × Addr)) (fp : List Addr), PG (X.blk s H scope (compEnvC scope cl C X.env) fp) (.Name lx p1) (L2.gName j))
    (he : ∀ (s : Shared) (H : Hp) (C : Addr) (cl : List (Str × Addr)) (fp : List Addr), PE (X.blk s H scope (compEnvC scope cl C X.env) fp) (.Call (.Name "list" p2) [.Name lx p3] [] p4) (tLl X.K j))
    (hv : DE X ci E zv ev dv) (ha : DE X ci E za ea da) (hs : DE X ci E zs es ds) (hrest : DSs X ci E z m rest t)
    (hy : X.N[i]? = some y := by rfl) (hyl : X.env.scope.names.lookup y = some .local := by rfl) (hyv : Vis X.env.scope y := by exact .inl rfl) (hyd : (y == ("__debug__" : Str)) = false := by decide) (hyc : (y == ("__classdict__" : Str)) = false := by decide)
    (hb : blkC X.N X.env.scope scope [(lx, j)] = true := by kernel_rfl)
    (hsw : swapsWith (.ListComp (.Call (.Name "list" p2) [.Name lx p3] [] p4) [⟨.Name lx p1, iter, [], 0⟩] scope pos) (some (.Name y py)) spos.line X.env = pure true := by exact sw_true rfl rfl rfl (by kernel_rfl))
    (hfs : ∀ x, foldedSetIterable iter X.env x = pure x := by intro _; rfl)
    (has : ∀ v, assign (.Subscript (.Subscript (.Name y p5) ea p6) es p7) X.env v = (do
      let ov ← holding [v] (eval (.Subscript (.Name y p5) ea p6) X.env)
      let iv ← holding [v, ov] (eval es X.env)
      standAt p7
      holding [v, ov, iv] (setItem ov iv v)
      release [v, ov, iv] []) := by intro _; rfl)
    (hps : PlainIx ea := by exact fun _ _ => rfl)
    (hs1 : swapsWithSole [.Subscript (.Subscript (.Name y p5) ea p6) es p7] ev p8.line X.env = pure false := by rfl) (hs2 : swappedStores [.Subscript (.Subscript (.Name y p5) ea p6) es p7] ev X.env = pure none := by rfl)
    (hs3 : (assignEach [.Subscript (.Subscript (.Name y p5) ea p6) es p7] X.env).map (·.2) = [assign (.Subscript (.Subscript (.Name y p5) ea p6) es p7) X.env] := by rfl)
    :
    DSs X ci E (zi + (zv + (za + (zs + z)))) m (.Assign [.Name y py] (.ListComp (.Call (.Name "list" p2) [.Name lx p3] [] p4) [⟨.Name lx p1, iter, [], 0⟩] scope pos) spos :: .Assign [.Subscript (.Subscript (.Name y p5) ea p6) es p7] ev p8 :: rest) (sSeq (sNest i di dv da ds) t) := by
  refine ⟨fun pins s σ0 H0 En I h => ?_⟩
  have hσl : σ0.length = X.N.length := I.len
  have hlen : ∀ σ : L2.St, σ.length = X.N.length → j < σ.length := fun σ h => by rw [h]; exact hjl
  refine (pss_cons (ps_setLc (wi := tI X.K ci E zi di) (tt := L2.tYes) (te := tLl X.K j) hc hN hy hyl hsw hi (blkOk_by hb) hg (fun s H C cl fp => pts_nil) he hfs)
    (pss_cons (ps_asg (X := X) (te := tE X.K ci E zv .sh dv) (g := gSub (tOp (rIxL X.K) (tVar i) (tE X.K ci E za .sh da)) (tE X.K ci E zs .sh ds) rSetL) hv (pg_sub (pe_ix ix_list (pe_var hy hyv hyd hyc) ha hps) hs set_list has) hs1 hs2 hs3) hrest)).run pins s σ0 H0 En I ?_
  obtain ⟨G, P, F, ρ, W, bd, rel, hd, hw⟩ := h
  show L2.tLc (tI X.K ci E zi di) (L2.gName j) L2.tYes (tLl X.K j) [j] σ0 H0 (fun x H1 => L2.gName i x σ0 H1 (tSeq (tAsg (tE X.K ci E zv .sh dv) (gSub (tOp (rIxL X.K) (tVar i) (tE X.K ci E za .sh da)) (tE X.K ci E zs .sh ds) rSetL)) (tS X.K ci E z m t) En))
  refine nest_comp (E := E) (zi := zi) (di := di) σ0 H0 _ (Wp := outW (fun ls => nestK i dv da ds ρ ls >>= nestN t) W) (by omega) rel (by rw [nest_split] at hd; exact bnd_at hd) (hlen σ0 hσl) fun o ho => ?_
  cases o with
  | exc c fs => exact XP.lo (hw _ ho)
  | ok ls =>
    intro G1 F1 H1 p acc l1 s1 r1 loP hHp hacc hnd hins
    have ln1 := l1.n
    show tSeq _ _ En (σ0.set i (some (.ref p))) H1
    obtain ⟨P', r0, hP', back⟩ := r1.shut2
    have hq : ∀ q ∈ p :: acc.map (·.1), F1 q = none ∧ P' q = none ∧ ¬ reg G1 q := fun q hq => by
      rcases List.mem_cons.mp hq with rfl | hq
      · exact ⟨loP.hf, hP' _ loP, loP.hr⟩
      · obtain ⟨x, hx, rfl⟩ := List.mem_map.mp hq
        have lo := (hacc x hx).1
        exact ⟨lo.hf, hP' _ lo, lo.hr⟩
    obtain ⟨sF, rF⟩ := r0.freezes hq
    have inF : ∀ {b}, b ∈ p :: acc.map (·.1) → frzL F1 H1 (p :: acc.map (·.1)) b = H1 b := fun h => if_pos h
    generalize hFZ : frzL F1 H1 (p :: acc.map (·.1)) = FZ at sF rF inF
    have hFp : FZ p = some (.lst (acc.map fun x => V.ref x.1)) := by rw [inF List.mem_cons_self]; exact hHp
    have hFa : ∀ x ∈ acc, FZ x.1 = some (.lst x.2) := fun x hx => by rw [inF (List.mem_cons_of_mem _ (List.mem_map.mpr ⟨x, hx, rfl⟩))]; exact (hacc x hx).2.1
    have rH : Rel X.K ci G1 FZ P' (hide ρ) σ0 H1 := rF.swap (by unfold hide; rw [List.length_map]; exact rel.len) (fun k d h => by
      obtain ⟨v, h1, h2⟩ := r1.sh k d (hide_sh h)
      exact ⟨v, h1, h2.mono (Rc.Le.refl _) sF⟩) fun k d h => hide_ow h
    have rZ : Rel X.K ci G1 FZ P' (nestE i ρ ls) (σ0.set i (some (.ref p))) H1 := rH.setSh (i := i) (v := .ref p) (.lst hFp ((hins.mono (Rc.Le.refl _) sF).rep hFa))
    have exc : ∀ {N : Nat} {G2 : Gh} {F2 : Hp} {c : Nat} {fs : List D}, W (.exc c fs) → Gh.Le N G1 G2 → Same FZ F2 → ∀ N2, N2 ≤ G.n + (zi + (zv + (za + (zs + z)))) → XP X.K ci E N2 G2 P' F2 c fs := fun {N G2 F2 c fs} hW l2 s2 N2 hN2 G3 F3 H3 cv dx l3 s3 r3 x3 =>
      hw _ hW G3 F3 H3 cv dx (((l1.trans l2).trans l3).up hN2) (s1.trans ((sF.trans s2).trans s3)) (back _ G3 F3 H3 (l2.trans l3) ((sF.trans s2).trans s3) r3).base x3
    refine ⟨G1, P', FZ, nestE i ρ ls, _, by omega, rZ, ho, fun o ho => ?_⟩
    cases o with
    | exc c fs => exact exc ho (Gh.Le.refl (N := G1.n) G1) (Same.refl _) _ (by omega)
    | ok v =>
      intro G2 F2 H2 vv l2 s2 r2 x2
      have ln2 := l2.n
      refine ⟨.ref p, List.getElem?_set_self (by rw [hσl]; exact (List.getElem?_eq_some_iff.mp hy).1), G2, P', F2, nestE i ρ ls, _, by omega, r2, ho, fun o ho => ?_⟩
      cases o with
      | exc c fs => exact exc ho l2 s2 _ (by omega)
      | ok a =>
        intro G3 F3 H3 va l3 s3 r3 x3
        have ln3 := l3.n
        obtain ⟨x, hx, ho2⟩ := get_ok (show M.get ((asInt a).bind fun z => ixD ls.length z) _ from ho)
        obtain ⟨za', ha', hx⟩ := Option.bind_eq_some_iff.mp hx
        have ea' := asInt_ok ha'
        subst ea'
        cases x3
        have hxl : x < ls.length := by
          have := (ixN_seq (show ixN ls.length za' = some x from hx)).2.1
          exact this
        obtain ⟨q, ws, hq1, hq2⟩ := hins.at_ (List.getElem?_eq_getElem hxl)
        have hqm := List.mem_of_getElem? hq1
        refine ⟨p, _, za', .ref q, rfl, rfl, SqL.of (r3.sf _ _ (s3 _ _ (s2 _ _ hFp))), atI_of (n := ls.length) (by rw [List.length_map]; exact hins.len) hx (by rw [List.getElem?_map, hq1]; rfl), G3, P', F3, nestE i ρ ls, _, by omega, r3, ho2, fun o ho => ?_⟩
        cases o with
        | exc c fs => exact exc ho (l2.trans l3) (s2.trans s3) _ (by omega)
        | ok sv =>
          intro G4 F4 H4 vs l4 s4 r4 x4
          have ln4 := l4.n
          obtain ⟨hnl, ho3⟩ := (show noL v = true ∧ _ from ho)
          obtain ⟨l, hl, ho4⟩ := get_ok (show M.get (ls[x]?) _ from ho3)
          obtain ⟨yy, hyy, ho5⟩ := get_ok (show M.get ((asInt sv).bind fun z => ixD l.length z) _ from ho4)
          obtain ⟨zs', hs', hyy⟩ := Option.bind_eq_some_iff.mp hyy
          have es' := asInt_ok hs'
          subst es'
          cases x4
          rw [List.getElem?_eq_getElem hxl] at hl
          have hl := Option.some.inj hl
          rw [hl] at hq2
          have sZ4 : Same FZ F4 := (s2.trans s3).trans s4
          have hq4 : F4 q = some (.lst ws) := sZ4 _ _ (hFa _ hqm)
          have hpq : p ≠ q := fun z => (hacc _ hqm).2.2 z.symm
          refine ⟨q, ws, zs', yy, rfl, rfl, r4.sf _ _ hq4, by rw [hq2.length]; exact hyy, ?_⟩
          have r5 := Rel.fput (ws := ws.set yy vv) r4.base hq4
          have s15 : Same F1 (upd F4 q (.lst (ws.set yy vv))) := fun b o e => by
            have nb : b ≠ q := fun z => by
              have := (hacc _ hqm).1.hf
              rw [z] at e
              rw [show F1 q = none from this] at e
              cases e
            rw [upd_ne nb]
            exact sZ4 _ _ (sF _ _ e)
          have l14 : Gh.Le (G.n + (zi + (zv + (za + (zs + z))))) G1 G4 := ((l2.trans l3).trans l4).up (by omega)
          have r6 := back _ G4 _ _ l14 s15 r5
          have rv : Rep (rc X.K ci G4) (upd F4 q (.lst (ws.set yy vv))) vv v := Rep.noL (x2.mono (rc_le _ ci (l3.trans l4)) (s3.trans s4)) hnl hq4
          have rn := Ins.rep2 (R := rc X.K ci G4) (F := F1) (F' := upd F4 q (.lst (ws.set yy vv))) (q := q) (ws' := ws.set yy vv) (l' := l.set yy v) (fun h => h.mono (Rc.Le.refl _) s15) upd_same (RepL.set rv yy (hq2.mono (rc_le _ ci l14) s15))
            (hins.mono (rc_le _ ci l14) (Same.refl _)) hnd (fun y hy hne => by rw [upd_ne hne]; exact sZ4 _ _ (hFa y hy)) hq1
          have r7 := r6.setSh (i := i) (v := .ref p) (.lst (by rw [upd_ne hpq]; exact sZ4 _ _ hFp) rn)
          exact ⟨G4, P, _, _, _, by omega, r7, ho5, fun o ho => (hw o ho).le (l1.trans ((l2.trans l3).trans l4)) (s1.trans s15) (by omega)⟩
end
end DL
end
section
/-! DLM: mirrors evaluated: equations for simp, and what holds of all draws. -/
set_option autoImplicit false
set_option linter.all false
namespace DL
open PySem (Str)
/-! ### equations -/
@[simp] theorem need_True : M.need True = pure () := need_true trivial
theorem line_eq : line = 16777216 := by decide
section
variable {i n : Nat} {ρ r : Env} {s : Slot} {d x : D} {a b c : XE} {t u v : XT} {f g : D → M D} {p q : XS}
@[simp] theorem getSh0 : getSh (.sh d :: r) 0 = pure d := nonrfl rfl
@[simp] theorem getShS : getSh (s :: r) (i + 1) = getSh r i := by unfold getSh; rw [List.getElem?_cons_succ]
@[simp] theorem getAny0 : getAny (.sh d :: r) 0 = pure d := nonrfl rfl
@[simp] theorem getAny0o : getAny (.ow d :: r) 0 = pure d := nonrfl rfl
@[simp] theorem getAnyS : getAny (s :: r) (i + 1) = getAny r i := by unfold getAny; rw [List.getElem?_cons_succ]
@[simp] theorem getOw0 : getOw (.ow d :: r) 0 = pure d := nonrfl rfl
@[simp] theorem getOwS : getOw (s :: r) (i + 1) = getOw r i := by unfold getOw; rw [List.getElem?_cons_succ]
@[simp] theorem getOwL0 {ds : List D} : getOwL (.ow (.lst ds) :: r) 0 = pure ds := nonrfl rfl
@[simp] theorem getOwLS : getOwL (s :: r) (i + 1) = getOwL r i := by unfold getOwL; rw [List.getElem?_cons_succ]
@[simp] theorem ev_var : dVar i ρ = getSh ρ i := nonrfl rfl
@[simp] theorem ev_any : dAny i ρ = getAny ρ i := nonrfl rfl
@[simp] theorem ev_c : dC d ρ = pure d := nonrfl rfl
@[simp] theorem ev_1 : d1 f a ρ = (a ρ >>= f) := nonrfl rfl
def k2 (f : D → D → M D) (b : XE) (ρ : Env) (x : D) : M D := b ρ >>= f x
@[simp] theorem ev_2 {f : D → D → M D} : d2 f a b ρ = (a ρ >>= k2 f b ρ) := nonrfl rfl
@[simp] theorem k2_eq {f : D → D → M D} : k2 f b ρ x = (b ρ >>= f x) := nonrfl rfl
@[simp] theorem ev_nil : dNil ρ = pure [] := nonrfl rfl
def kC2 (x : D) (xs : List D) : M (List D) := pure (x :: xs)
def kC (r : XA) (ρ : Env) (x : D) : M (List D) := r ρ >>= kC2 x
@[simp] theorem ev_cons {r : XA} : dCons a r ρ = (a ρ >>= kC r ρ) := nonrfl rfl
@[simp] theorem kC_eq {r : XA} : kC r ρ x = (r ρ >>= kC2 x) := nonrfl rfl
@[simp] theorem kC2_eq {xs : List D} : kC2 x xs = pure (x :: xs) := nonrfl rfl
def kL (xs : List D) : M D := M.need (xs.length ≤ line) >>= fun _ => pure (.lst xs)
@[simp] theorem ev_lst {r : XA} : dLst r ρ = (r ρ >>= kL) := nonrfl rfl
@[simp] theorem kL_ok {xs : List D} (h : xs.length ≤ 16777216) : kL xs = pure (.lst xs) := by
  unfold kL
  rw [need_bnd (by rw [line_eq]; exact h)]
def kT (xs : List D) : M D := M.need (xs.length ≤ line) >>= fun _ => pure (.tup xs)
@[simp] theorem ev_tup {r : XA} : dTup r ρ = (r ρ >>= kT) := nonrfl rfl
@[simp] theorem kT_ok {xs : List D} (h : xs.length ≤ 16777216) : kT xs = pure (.tup xs) := by
  unfold kT
  rw [need_bnd (by rw [line_eq]; exact h)]
@[simp] theorem ev_b1 : b1 f [x] = f x := nonrfl rfl
@[simp] theorem ev_b2 {f : D → D → M D} : b2 f [x, d] = f x d := nonrfl rfl
@[simp] theorem ev_call {m : List D → M D} {r : XA} : dCall m r ρ = (r ρ >>= m) := nonrfl rfl
def kPm (m : List D → M D) (π : List Nat) (xs : List D) : M D := m (permL π xs)
@[simp] theorem ev_callK {m : List D → M D} {π : List Nat} {r : XA} : dCallK m π r ρ = (r ρ >>= kPm m π) := nonrfl rfl
@[simp] theorem kPm_eq {m : List D → M D} {π : List Nat} {xs : List D} : kPm m π xs = m (permL π xs) := nonrfl rfl
def kIf {α : Type} (a b : Env → M α) (ρ : Env) (c : Bool) : M α := bif c then a ρ else b ρ
@[simp] theorem kIf_t {α : Type} {a b : Env → M α} : kIf a b ρ true = a ρ := nonrfl rfl
@[simp] theorem kIf_f {α : Type} {a b : Env → M α} : kIf a b ρ false = b ρ := nonrfl rfl
@[simp] theorem ev_if : dIf t a b ρ = (t ρ >>= kIf a b ρ) := by
  unfold dIf
  congr 1
@[simp] theorem ev_oN : oNone ρ = pure none := nonrfl rfl
@[simp] theorem ev_oS : oSome a ρ = (a ρ >>= partM) := nonrfl rfl
@[simp] theorem partM_int {k : Int} : partM (.int k) = pure (some k) := nonrfl rfl
def kS2 (f : D → Option Int → Option Int → M D) (x : D) (l h : Option Int) : M D := f x l h
def kS1 (f : D → Option Int → Option Int → M D) (h : XO) (ρ : Env) (x : D) (l : Option Int) : M D := h ρ >>= kS2 f x l
def kS0 (f : D → Option Int → Option Int → M D) (l h : XO) (ρ : Env) (x : D) : M D := l ρ >>= kS1 f h ρ x
@[simp] theorem ev_slice {f : D → Option Int → Option Int → M D} {l h : XO} : dSlice f a l h ρ = (a ρ >>= kS0 f l h ρ) := nonrfl rfl
@[simp] theorem kS0_eq {f : D → Option Int → Option Int → M D} {l h : XO} : kS0 f l h ρ x = (l ρ >>= kS1 f h ρ x) := nonrfl rfl
@[simp] theorem kS1_eq {f : D → Option Int → Option Int → M D} {h : XO} {l : Option Int} : kS1 f h ρ x l = (h ρ >>= kS2 f x l) := nonrfl rfl
@[simp] theorem kS2_eq {f : D → Option Int → Option Int → M D} {h l : Option Int} : kS2 f x l h = f x l h := nonrfl rfl
@[simp] theorem asBl_bl {k : Bool} : asBl (.bl k) = some k := nonrfl rfl
@[simp] theorem asInt_int {k : Int} : asInt (.int k) = some k := nonrfl rfl
def kAnd (b : XE) (ρ : Env) (x : D) : M D := match asBl x with
  | some true => b ρ
  | some false => pure (.bl false)
  | none => M.fail
@[simp] theorem kAnd_t : kAnd b ρ (.bl true) = b ρ := nonrfl rfl
@[simp] theorem kAnd_f : kAnd b ρ (.bl false) = pure (.bl false) := nonrfl rfl
@[simp] theorem ev_and : dAnd a b ρ = (a ρ >>= kAnd b ρ) := by
  unfold dAnd kAnd
  congr 1
  funext x
  cases asBl x with
  | none => rfl
  | some c => cases c <;> rfl
def kOr (b : XE) (ρ : Env) (x : D) : M D := match asBl x with
  | some true => pure (.bl true)
  | some false => b ρ
  | none => M.fail
@[simp] theorem kOr_t : kOr b ρ (.bl true) = pure (.bl true) := nonrfl rfl
@[simp] theorem kOr_f : kOr b ρ (.bl false) = b ρ := nonrfl rfl
@[simp] theorem ev_or : dOr a b ρ = (a ρ >>= kOr b ρ) := by
  unfold dOr kOr
  congr 1
  funext x
  cases asBl x with
  | none => rfl
  | some c => cases c <;> rfl
@[simp] theorem notM_bl {k : Bool} : notM (.bl k) = pure (.bl (!k)) := nonrfl rfl
def kH2 (g : D → D → M D) (c : XE) (ρ : Env) (y r : D) : M D := match asBl r with
  | some true => c ρ >>= g y
  | some false => pure (.bl false)
  | none => M.fail
def kH1 (f g : D → D → M D) (c : XE) (ρ : Env) (x y : D) : M D := f x y >>= kH2 g c ρ y
def kH0 (f g : D → D → M D) (b c : XE) (ρ : Env) (x : D) : M D := b ρ >>= kH1 f g c ρ x
@[simp] theorem kH0_eq {f g : D → D → M D} : kH0 f g b c ρ x = (b ρ >>= kH1 f g c ρ x) := nonrfl rfl
@[simp] theorem kH1_eq {f g : D → D → M D} {y : D} : kH1 f g c ρ x y = (f x y >>= kH2 g c ρ y) := nonrfl rfl
@[simp] theorem kH2_t {g : D → D → M D} {y : D} : kH2 g c ρ y (.bl true) = (c ρ >>= g y) := nonrfl rfl
@[simp] theorem kH2_f {g : D → D → M D} {y : D} : kH2 g c ρ y (.bl false) = pure (.bl false) := nonrfl rfl
@[simp] theorem ev_chain {f g : D → D → M D} : dChain f g a b c ρ = (a ρ >>= kH0 f g b c ρ) := by
  unfold dChain kH0 kH1
  congr 1
  funext x
  congr 1
  funext y
  congr 1
  funext r
  unfold kH2
  cases asBl r with
  | none => rfl
  | some k => cases k <;> rfl
def kOf (x : D) : M Bool := M.get (asBl x)
@[simp] theorem kOf_eq {k : Bool} : kOf (.bl k) = pure k := nonrfl rfl
@[simp] theorem ev_tOf : tOf a ρ = (a ρ >>= kOf) := nonrfl rfl
@[simp] theorem ev_tAnd : tAnd t u ρ = (t ρ >>= kIf u (fun _ => pure false) ρ) := by
  unfold tAnd
  congr 1
@[simp] theorem ev_tOr : tOr t u ρ = (t ρ >>= kIf (fun _ => pure true) u ρ) := by
  unfold tOr
  congr 1
@[simp] theorem ev_tIf : tIf t u v ρ = (t ρ >>= kIf u v ρ) := by
  unfold tIf
  congr 1
def kNot (c : Bool) : M Bool := pure (!c)
@[simp] theorem kNot_eq {c : Bool} : kNot c = pure (!c) := nonrfl rfl
@[simp] theorem ev_tNot : tNot t ρ = (t ρ >>= kNot) := nonrfl rfl
@[simp] theorem ev_tYes : tYes ρ = pure true := nonrfl rfl
@[simp] theorem ev_gName : gName i d ρ = pure (ρ.set i (.sh d)) := nonrfl rfl
@[simp] theorem ev_gTup {gs : XGs} {ds : List D} (h : ds.length = n) : gTup n gs (.tup ds) ρ = gs ds ρ := by
  show (M.need _ >>= fun _ => _) = _
  rw [need_bnd h]
@[simp] theorem ev_gsNil : gsNil [] ρ = pure ρ := nonrfl rfl
@[simp] theorem ev_gsCons {g : XG} {gs : XGs} {ds : List D} : gsCons g gs (d :: ds) ρ = (g d ρ >>= gs ds) := nonrfl rfl
/-! operations -/
@[simp] theorem add_int {j k : Int} : addM (.int j) (.int k) = pure (.int (j + k)) := nonrfl rfl
@[simp] theorem sub_int {j k : Int} : subM (.int j) (.int k) = pure (.int (j - k)) := nonrfl rfl
@[simp] theorem neg_int {j : Int} : negM (.int j) = pure (.int (-j)) := nonrfl rfl
@[simp] theorem lt_int {j k : Int} : ltM (.int j) (.int k) = pure (.bl (decide (j < k))) := nonrfl rfl
@[simp] theorem le_int {j k : Int} : leM (.int j) (.int k) = pure (.bl (decide (j ≤ k))) := nonrfl rfl
@[simp] theorem gt_int {j k : Int} : gtM (.int j) (.int k) = pure (.bl (decide (k < j))) := nonrfl rfl
@[simp] theorem ge_int {j k : Int} : geM (.int j) (.int k) = pure (.bl (decide (k ≤ j))) := nonrfl rfl
@[simp] theorem eqv_int {j k : Int} : eqv (.int j) (.int k) = decide (j = k) := by unfold eqv; rfl
@[simp] theorem eqv_bl {j k : Bool} : eqv (.bl j) (.bl k) = (j == k) := by unfold eqv; rfl
@[simp] theorem okD_int {j : Int} : okD n (.int j) = true := by cases n <;> rfl
@[simp] theorem okD_bl {j : Bool} : okD n (.bl j) = true := by cases n <;> rfl
@[simp] theorem okD_non : okD n .non = true := by cases n <;> rfl
@[simp] theorem eq_int {j k : Int} : eqM (.int j) (.int k) = pure (.bl (decide (j = k))) := by unfold eqM; simp
@[simp] theorem ne_int {j k : Int} : neM (.int j) (.int k) = pure (.bl (!decide (j = k))) := by unfold neM; simp
@[simp] theorem eq_bl {j k : Bool} : eqM (.bl j) (.bl k) = pure (.bl (j == k)) := by unfold eqM; simp
@[simp] theorem ne_bl {j k : Bool} : neM (.bl j) (.bl k) = pure (.bl (!(j == k))) := by unfold neM; simp
@[simp] theorem isB_bl {j k : Bool} : isBM (.bl j) (.bl k) = pure (.bl (decide (j = k))) := nonrfl rfl
@[simp] theorem isNonM_eq : isNonM d = pure (.bl (isNon d)) := nonrfl rfl
@[simp] theorem notNonM_eq : notNonM d = pure (.bl (!isNon d)) := nonrfl rfl
@[simp] theorem isNon_non : isNon .non = true := nonrfl rfl
@[simp] theorem isNon_int {j : Int} : isNon (.int j) = false := nonrfl rfl
@[simp] theorem isNon_bl {j : Bool} : isNon (.bl j) = false := nonrfl rfl
@[simp] theorem isNon_tup {ds : List D} : isNon (.tup ds) = false := nonrfl rfl
@[simp] theorem isNon_lst {ds : List D} : isNon (.lst ds) = false := nonrfl rfl
@[simp] theorem len_lst {ds : List D} : lenM (.lst ds) = pure (.int ds.length) := nonrfl rfl
@[simp] theorem len_tup {ds : List D} : lenM (.tup ds) = pure (.int ds.length) := nonrfl rfl
@[simp] theorem item_tup {ds : List D} {j : Int} : itemM (.tup ds) (.int j) = M.get (atD ds j) := nonrfl rfl
@[simp] theorem item_lst {ds : List D} {j : Int} : itemM (.lst ds) (.int j) = M.get (atD ds j) := nonrfl rfl
theorem atD_nat {α : Type} {xs : List α} {k : Nat} (h : k < xs.length) : atD xs (k : Int) = some xs[k] := by
  unfold atD ixD
  rw [if_pos (Int.natCast_nonneg k), if_pos (by omega)]
  simp [h]
theorem atD_of {α : Type} {xs : List α} {j : Int} {y : α} (h0 : 0 ≤ j) (h : xs[j.toNat]? = some y) : atD xs j = some y := by
  obtain ⟨k, rfl⟩ : ∃ k : Nat, j = k := ⟨j.toNat, by omega⟩
  rw [Int.toNat_natCast] at h
  obtain ⟨h1, h2⟩ := List.getElem?_eq_some_iff.mp h
  rw [atD_nat h1, h2]
@[simp] theorem atD_0 {α : Type} {y : α} {xs : List α} : atD (y :: xs) 0 = some y := atD_of (by decide) rfl
@[simp] theorem atD_1 {α : Type} {y z : α} {xs : List α} : atD (y :: z :: xs) 1 = some z := atD_of (by decide) rfl
@[simp] theorem atD_2 {α : Type} {y z w : α} {xs : List α} : atD (y :: z :: w :: xs) 2 = some w := atD_of (by decide) rfl
@[simp] theorem atD_3 {α : Type} {x0 x1 x2 x3 : α} {xs : List α} : atD (x0 :: x1 :: x2 :: x3 :: xs) 3 = some x3 := atD_of (by decide) rfl
@[simp] theorem atD_4 {α : Type} {x0 x1 x2 x3 x4 : α} {xs : List α} : atD (x0 :: x1 :: x2 :: x3 :: x4 :: xs) 4 = some x4 := atD_of (by decide) rfl
@[simp] theorem atD_5 {α : Type} {x0 x1 x2 x3 x4 x5 : α} {xs : List α} : atD (x0 :: x1 :: x2 :: x3 :: x4 :: x5 :: xs) 5 = some x5 := atD_of (by decide) rfl
@[simp] theorem atD_6 {α : Type} {x0 x1 x2 x3 x4 x5 x6 : α} {xs : List α} : atD (x0 :: x1 :: x2 :: x3 :: x4 :: x5 :: x6 :: xs) 6 = some x6 := atD_of (by decide) rfl
@[simp] theorem int_bl {j : Bool} : intM (.bl j) = pure (.int (if j then 1 else 0)) := nonrfl rfl
@[simp] theorem int_int {j : Int} : intM (.int j) = pure (.int j) := nonrfl rfl
@[simp] theorem abs_int {j : Int} : absM (.int j) = pure (.int (if j < 0 then -j else j)) := nonrfl rfl
@[simp] theorem max2_int {j k : Int} : max2M (.int j) (.int k) = pure (.int (if k > j then k else j)) := nonrfl rfl
@[simp] theorem min2_int {j k : Int} : min2M (.int j) (.int k) = pure (.int (if k < j then k else j)) := nonrfl rfl
@[simp] theorem tuple_lst {ds : List D} : tupleM (.lst ds) = pure (.tup ds) := nonrfl rfl
@[simp] theorem tuple_tup {ds : List D} : tupleM (.tup ds) = pure (.tup ds) := nonrfl rfl
@[simp] theorem list_lst {ds : List D} : listM (.lst ds) = pure (.lst ds) := nonrfl rfl
@[simp] theorem list_tup {ds : List D} : listM (.tup ds) = pure (.lst ds) := nonrfl rfl
@[simp] theorem seqL_lst {ds : List D} : seqL (.lst ds) = some ds := nonrfl rfl
@[simp] theorem seqL_tup {ds : List D} : seqL (.tup ds) = some ds := nonrfl rfl
@[simp] theorem iterM_lst {ds : List D} : iterM (.lst ds) = pure ds := nonrfl rfl
@[simp] theorem iterM_tup {ds : List D} : iterM (.tup ds) = pure ds := nonrfl rfl
@[simp] theorem iterM_scr {ns : List Int} : iterM (.scr ns) = pure (ns.map D.int) := nonrfl rfl
@[simp] theorem ev_iSeq : iSeq a ρ = (a ρ >>= iterM) := nonrfl rfl
@[simp] theorem ev_iEnum : iEnum a ρ = (a ρ >>= enumM) := nonrfl rfl
@[simp] theorem enum_lst {ds : List D} : enumM (.lst ds) = pure (enumFrom 0 ds) := nonrfl rfl
@[simp] theorem enum_tup {ds : List D} : enumM (.tup ds) = pure (enumFrom 0 ds) := nonrfl rfl
@[simp] theorem ev_iRng1 : iRng1 a ρ = (a ρ >>= range1M) := nonrfl rfl
def k2L (f : D → D → M (List D)) (b : XE) (ρ : Env) (x : D) : M (List D) := b ρ >>= f x
@[simp] theorem k2L_eq {f : D → D → M (List D)} : k2L f b ρ x = (b ρ >>= f x) := nonrfl rfl
@[simp] theorem ev_iRng2 : iRng2 a b ρ = (a ρ >>= k2L range2M b ρ) := nonrfl rfl
@[simp] theorem ev_iZip : iZip a b ρ = (a ρ >>= k2L zipM b ρ) := nonrfl rfl
theorem range1_ok {j : Int} (h : 0 ≤ j) (h2 : j ≤ 16777216) : range1M (.int j) = pure (rangeL 0 j) := by
  show (M.need _ >>= fun _ => _) = _
  rw [need_bnd ⟨by omega, by omega⟩]
theorem range2_ok {j k : Int} (h : -1000000000 ≤ j) (h1 : j ≤ 1000000000) (h2 : -1000000000 ≤ k) (h3 : k ≤ 1000000000) (h4 : k - j ≤ 16777216) : range2M (.int j) (.int k) = pure (rangeL j k) := by
  show (M.need _ >>= fun _ => _) = _
  rw [need_bnd ⟨by omega, by omega, by omega, by omega, by omega⟩]
theorem mul_ok {j k : Int} (h : -1000000000000 ≤ k) (h2 : k ≤ 1000000000000) : mulM (.int j) (.int k) = pure (.int (j * k)) := by
  show (M.need _ >>= fun _ => _) = _
  rw [need_bnd (.inr ⟨by omega, by omega⟩)]
theorem mod_ok {j k : Int} (h : 0 < k) : modM (.int j) (.int k) = pure (.int (j % k)) := by
  show (M.need _ >>= fun _ => _) = _
  rw [need_bnd h]
@[simp] theorem addL_lst {xs ys : List D} (h : xs.length + ys.length ≤ 16777216) : addLM (.lst xs) (.lst ys) = pure (.lst (xs ++ ys)) := by
  show (M.need _ >>= fun _ => _) = _
  rw [need_bnd (by rw [line_eq]; exact h)]
@[simp] theorem add_lst {xs ys : List D} (h : xs.length + ys.length ≤ 16777216) : addM (.lst xs) (.lst ys) = pure (.lst (xs ++ ys)) := by
  show (M.need _ >>= fun _ => _) = _
  rw [need_bnd (by rw [line_eq]; exact h)]
@[simp] theorem add_tup {xs ys : List D} (h : xs ≠ []) (h2 : xs.length + ys.length ≤ 16777216) : addM (.tup xs) (.tup ys) = pure (.tup (xs ++ ys)) := by
  show (M.need _ >>= fun _ => _) = _
  rw [need_bnd ⟨h, by rw [line_eq]; exact h2⟩]
@[simp] theorem slice_lst {ds : List D} {l h : Option Int} : sliceM (.lst ds) l h = pure (.lst (cutD ds l h)) := nonrfl rfl
@[simp] theorem sliceL_lst {ds : List D} {l h : Option Int} : sliceLM (.lst ds) l h = pure (.lst (cutD ds l h)) := nonrfl rfl
/-! statements -/
def seqF (q : XS) : Fl → M Fl
  | .nx ρ => q ρ
  | f => pure f
@[simp] theorem seqF_nx : seqF q (.nx ρ) = q ρ := nonrfl rfl
@[simp] theorem seqF_rt : seqF q (.rt d) = pure (.rt d) := nonrfl rfl
@[simp] theorem ev_seq : sSeq p q ρ = (p ρ >>= seqF q) := by
  unfold sSeq
  congr 1
@[simp] theorem ev_next : sNext ρ = pure (.nx ρ) := nonrfl rfl
def kNx (ρ : Env) : M Fl := pure (.nx ρ)
@[simp] theorem kNx_eq : kNx ρ = pure (.nx ρ) := nonrfl rfl
def kAsg (g : XG) (ρ : Env) (d : D) : M Fl := M.calm (g d ρ) >>= kNx
@[simp] theorem kAsg_eq {g : XG} : kAsg g ρ d = (M.calm (g d ρ) >>= kNx) := nonrfl rfl
@[simp] theorem ev_asg {g : XG} : sAsg a g ρ = (a ρ >>= kAsg g ρ) := nonrfl rfl
def kOwn (i : Nat) (ρ : Env) (d : D) : M Fl := pure (.nx (ρ.set i (.ow d)))
@[simp] theorem kOwn_eq : kOwn i ρ d = pure (.nx (ρ.set i (.ow d))) := nonrfl rfl
@[simp] theorem ev_own : sOwn i a ρ = (a ρ >>= kOwn i ρ) := nonrfl rfl
def kPar (is : List (Nat × Bool)) (ρ : Env) (ds : List D) : M Fl := pure (.nx (setAll is ds ρ))
@[simp] theorem kPar_eq {is : List (Nat × Bool)} {ds : List D} : kPar is ρ ds = pure (.nx (setAll is ds ρ)) := nonrfl rfl
@[simp] theorem ev_par {is : List (Nat × Bool)} {r : XA} : sPar is r ρ = (r ρ >>= kPar is ρ) := nonrfl rfl
@[simp] theorem setAll_nil {ds : List D} : setAll [] ds ρ = ρ := by unfold setAll; rfl
@[simp] theorem setAll_t {is : List (Nat × Bool)} {ds : List D} : setAll ((i, true) :: is) (d :: ds) ρ = setAll is ds (ρ.set i (.ow d)) := by rw [setAll]
@[simp] theorem setAll_f {is : List (Nat × Bool)} {ds : List D} : setAll ((i, false) :: is) (d :: ds) ρ = setAll is ds (ρ.set i (.sh d)) := by rw [setAll]
def kDrop (ρ : Env) (_ : D) : M Fl := pure (.nx ρ)
@[simp] theorem kDrop_eq : kDrop ρ d = pure (.nx ρ) := nonrfl rfl
@[simp] theorem ev_drop : sDrop a ρ = (a ρ >>= kDrop ρ) := nonrfl rfl
def kRt (d : D) : M Fl := pure (.rt d)
@[simp] theorem kRt_eq : kRt d = pure (.rt d) := nonrfl rfl
@[simp] theorem ev_ret : sRet a ρ = (a ρ >>= kRt) := nonrfl rfl
@[simp] theorem ev_retN : sRetN ρ = pure (.rt .non) := nonrfl rfl
@[simp] theorem ev_retOw : sRetOw i ρ = (getOw ρ i >>= kRt) := nonrfl rfl
@[simp] theorem ev_sIf : sIf t p q ρ = (t ρ >>= kIf p q ρ) := by
  unfold sIf
  congr 1
def kRs (k : Nat) (d : D) : M Fl := M.raise k [d]
@[simp] theorem kRs_eq {k : Nat} : kRs k d = M.raise k [d] := nonrfl rfl
@[simp] theorem ev_raise1 {k : Nat} : sRaise1 k a ρ = (a ρ >>= kRs k) := nonrfl rfl
@[simp] theorem ev_raise0 {k : Nat} : sRaise0 k ρ = M.raise k [] := nonrfl rfl
@[simp] theorem ev_frz {vs : List Nat} : sFrz vs p ρ = p (vs.foldl frz1 ρ) := nonrfl rfl
@[simp] theorem frz0 : frz1 (.ow d :: r) 0 = .sh d :: r := nonrfl rfl
@[simp] theorem frz0s : frz1 (.sh d :: r) 0 = .sh d :: r := nonrfl rfl
@[simp] theorem frzS : frz1 (s :: r) (i + 1) = s :: frz1 r i := by
  unfold frz1
  rw [List.getElem?_cons_succ]
  cases h : r[i]? with
  | none => rfl
  | some z => cases z <;> rfl
def kFor (g : XG) (p : XS) (ρ : Env) (xs : List D) : M Fl := forL g p xs ρ
@[simp] theorem kFor_eq {g : XG} {xs : List D} : kFor g p ρ xs = forL g p xs ρ := nonrfl rfl
@[simp] theorem ev_for {it : XI} {g : XG} : sFor it g p ρ = (it ρ >>= kFor g p ρ) := nonrfl rfl
def kAp2 (i : Nat) (ρ : Env) (ds : List D) (d : D) : M Fl := M.need (ds.length < line) >>= fun _ => pure (.nx (ρ.set i (.ow (.lst (ds ++ [d])))))
def kAp (i : Nat) (a : XE) (ρ : Env) (ds : List D) : M Fl := a ρ >>= kAp2 i ρ ds
@[simp] theorem kAp_eq {ds : List D} : kAp i a ρ ds = (a ρ >>= kAp2 i ρ ds) := nonrfl rfl
@[simp] theorem kAp2_ok {ds : List D} (h : ds.length < 16777216) : kAp2 i ρ ds d = pure (.nx (ρ.set i (.ow (.lst (ds ++ [d]))))) := by
  unfold kAp2
  rw [need_bnd (by rw [line_eq]; exact h)]
@[simp] theorem ev_append : sAppend i a ρ = (getOwL ρ i >>= kAp i a ρ) := nonrfl rfl
def kEx3 (i : Nat) (ρ : Env) (ds es : List D) : M Fl := M.need (ds.length + es.length ≤ line) >>= fun _ => pure (.nx (ρ.set i (.ow (.lst (ds ++ es)))))
def kEx2 (i : Nat) (ρ : Env) (ds : List D) (d : D) : M Fl := lstM d >>= kEx3 i ρ ds
def kEx (i : Nat) (a : XE) (ρ : Env) (ds : List D) : M Fl := a ρ >>= kEx2 i ρ ds
@[simp] theorem kEx_eq {ds : List D} : kEx i a ρ ds = (a ρ >>= kEx2 i ρ ds) := nonrfl rfl
@[simp] theorem kEx2_eq {ds : List D} : kEx2 i ρ ds d = (lstM d >>= kEx3 i ρ ds) := nonrfl rfl
@[simp] theorem kEx3_ok {ds es : List D} (h : ds.length + es.length ≤ 16777216) : kEx3 i ρ ds es = pure (.nx (ρ.set i (.ow (.lst (ds ++ es))))) := by
  unfold kEx3
  rw [need_bnd (by rw [line_eq]; exact h)]
@[simp] theorem ev_extend : sExtend i a ρ = (getOwL ρ i >>= kEx i a ρ) := nonrfl rfl
@[simp] theorem lstM_lst {es : List D} : lstM (.lst es) = pure es := nonrfl rfl
def kSt2 (i : Nat) (ρ : Env) (d : D) (ds : List D) (y : D) : M Fl := match (asInt y).bind fun z => ixD ds.length z with
  | some j => pure (.nx (ρ.set i (.ow (.lst (ds.set j d)))))
  | none => M.fail
def kSt1 (i : Nat) (b : XE) (ρ : Env) (d : D) (ds : List D) : M Fl := b ρ >>= kSt2 i ρ d ds
def kSt (i : Nat) (b : XE) (ρ : Env) (d : D) : M Fl := getOwL ρ i >>= kSt1 i b ρ d
@[simp] theorem kSt_eq : kSt i b ρ d = (getOwL ρ i >>= kSt1 i b ρ d) := nonrfl rfl
@[simp] theorem kSt1_eq {ds : List D} : kSt1 i b ρ d ds = (b ρ >>= kSt2 i ρ d ds) := nonrfl rfl
@[simp] theorem kSt2_ok {ds : List D} {z : Int} {j : Nat} (h : ixD ds.length z = some j) : kSt2 i ρ d ds (.int z) = pure (.nx (ρ.set i (.ow (.lst (ds.set j d))))) := by
  unfold kSt2
  rw [asInt_int, Option.bind_some, h]
@[simp] theorem ev_setL : sSetL i b a ρ = (a ρ >>= kSt i b ρ) := by
  unfold sSetL kSt kSt1
  congr 1
  funext d
  congr 1
  funext ds
  congr 1
  funext y
  unfold kSt2
  cases asInt y with
  | none => rfl
  | some z =>
    rw [get_some, pure_bnd, Option.bind_some]
    cases ixD ds.length z <;> rfl
def kPo2 (i : Nat) (g : XG) (ρ : Env) (ds : List D) (d : D) : M Fl := M.calm (g d (ρ.set i (.ow (.lst ds.dropLast)))) >>= kNx
def kPo (i : Nat) (g : XG) (ρ : Env) (ds : List D) : M Fl := M.get (ds[ds.length - 1]?) >>= kPo2 i g ρ ds
@[simp] theorem kPo_eq {g : XG} {ds : List D} : kPo i g ρ ds = (M.get (ds[ds.length - 1]?) >>= kPo2 i g ρ ds) := nonrfl rfl
@[simp] theorem kPo2_eq {g : XG} {ds : List D} : kPo2 i g ρ ds d = (M.calm (g d (ρ.set i (.ow (.lst ds.dropLast)))) >>= kNx) := nonrfl rfl
@[simp] theorem ev_pop {g : XG} : sPop i g ρ = (getOwL ρ i >>= kPo i g ρ) := nonrfl rfl
def kLs (ys : List D) : M D := pure (.lst ys)
@[simp] theorem kLs_eq {ys : List D} : kLs ys = pure (.lst ys) := nonrfl rfl
def kCo (g : XG) (t : XT) (a : XE) (vs : List Nat) (ρ : Env) (xs : List D) : M D := M.need (noOw vs ρ = true) >>= fun _ => compL g t a (wipe vs ρ) xs >>= kLs
@[simp] theorem kCo_ok {g : XG} {vs : List Nat} {xs : List D} (h : noOw vs ρ = true) : kCo g t a vs ρ xs = (compL g t a (wipe vs ρ) xs >>= kLs) := by
  unfold kCo
  rw [need_bnd h]
@[simp] theorem noOw_nil : noOw [] ρ = true := nonrfl rfl
def noOw1 (i : Nat) (ρ : Env) : Bool := match ρ[i]? with
  | some (.ow _) => false
  | _ => true
@[simp] theorem noOw_cons {vs : List Nat} : noOw (i :: vs) ρ = (noOw1 i ρ && noOw vs ρ) := nonrfl rfl
@[simp] theorem noOw1_0 : noOw1 0 (.sh d :: r) = true := nonrfl rfl
@[simp] theorem noOw1_0n : noOw1 0 (.no :: r) = true := nonrfl rfl
@[simp] theorem noOw1_S : noOw1 (i + 1) (s :: r) = noOw1 i r := by unfold noOw1; rw [List.getElem?_cons_succ]
@[simp] theorem ev_comp {it : XI} {g : XG} {vs : List Nat} : dComp it g t a vs ρ = (it ρ >>= kCo g t a vs ρ) := nonrfl rfl
@[simp] theorem wipe_nil : wipe [] ρ = ρ := nonrfl rfl
@[simp] theorem wipe_cons {vs : List Nat} : wipe (i :: vs) ρ = (wipe vs ρ).set i .no := nonrfl rfl
def endF : Fl → M D
  | .nx _ => pure .non
  | .rt d => pure d
  | _ => M.fail
@[simp] theorem endF_nx : endF (.nx ρ) = pure .non := nonrfl rfl
@[simp] theorem endF_rt : endF (.rt d) = pure d := nonrfl rfl
theorem ev_run {k : Nat} {ds : List D} (h : ds.length = k) : run n k p ds = (p (startE n ds) >>= endF) := by
  unfold run
  rw [need_bnd h]
  congr 1
def endO : Fl → M D
  | .rt d => pure d
  | _ => M.fail
@[simp] theorem endO_rt : endO (.rt d) = pure d := nonrfl rfl
theorem ev_runO {k : Nat} {ds : List D} (h : ds.length = k) : runO n k p ds = (p (startE n ds) >>= endO) := by
  unfold runO
  rw [need_bnd h]
  congr 1
end
@[simp] theorem startE_eq {n : Nat} {ds : List D} : startE n ds = ds.map Slot.sh ++ List.replicate (n - ds.length) Slot.no := nonrfl rfl
@[simp] theorem hide_nil : hide [] = [] := nonrfl rfl
@[simp] theorem hide_sh' {d : D} {r : Env} : hide (.sh d :: r) = .sh d :: hide r := nonrfl rfl
@[simp] theorem hide_ow' {d : D} {r : Env} : hide (.ow d :: r) = .no :: hide r := nonrfl rfl
@[simp] theorem hide_no' {r : Env} : hide (.no :: r) = .no :: hide r := nonrfl rfl
theorem bnd_cond {α β : Type} {c : Bool} {a b : M α} {f : α → M β} : ((bif c then a else b) >>= f) = bif c then (a >>= f) else (b >>= f) := by cases c <;> rfl
/-! ### calm -/
def kCm {α β : Type} (f : α → M β) (a : α) : M β := M.calm (f a)
@[simp] theorem kCm_eq {α β : Type} {f : α → M β} {a : α} : kCm f a = M.calm (f a) := nonrfl rfl
@[simp] theorem calm_bnd {α β : Type} {m : M α} {f : α → M β} : M.calm (m >>= f) = (M.calm m >>= kCm f) := by
  funext Q
  show m _ = m _
  congr 1
@[simp] theorem calm_need {p : Prop} : M.calm (M.need p) = M.need p := nonrfl rfl
@[simp] theorem calm_draw {n : Int} : M.calm (M.draw n) = M.draw n := nonrfl rfl
@[simp] theorem calm_get {α : Type} {o : Option α} : M.calm (M.get o) = M.get o := by cases o <;> rfl
theorem calm_cond {α : Type} {c : Bool} {a b : M α} : M.calm (bif c then a else b) = bif c then M.calm a else M.calm b := by cases c <;> rfl
@[simp] theorem calm_fail {α : Type} : M.calm (M.fail : M α) = M.fail := nonrfl rfl
/-! ### for all draws -/
/-- the answer is of Q, whatever is drawn; nothing is raised -/
def Tot {α : Type} (m : M α) (Q : α → Prop) : Prop := ∀ W : Out α → Prop, (∀ a, Q a → W (.ok a)) → m W
section
variable {α β : Type} {m : M α} {f : α → M β} {Q Q' : α → Prop} {R : β → Prop} {a : α}
theorem Tot.pure (h : Q a) : Tot (pure a) Q := fun W hW => hW a h
theorem Tot.bnd (h : Tot m Q) (k : ∀ a, Q a → Tot (f a) R) : Tot (m >>= f) R := fun W hW => h (fun o => match o with
  | .ok a => f a W
  | .exc c fs => W (.exc c fs)) fun a ha => k a ha W hW
theorem Tot.imp (h : Tot m Q) (i : ∀ a, Q a → Q' a) : Tot m Q' := fun W hW => h W fun a ha => hW a (i a ha)
theorem Tot.calm (h : Tot m Q) : Tot (M.calm m) Q := fun W hW => h (fun o => match o with
  | .ok a => W (.ok a)
  | .exc _ _ => False) hW
theorem Tot.draw {n : Int} (h : 0 < n) : Tot (M.draw n) fun k => 0 ≤ k ∧ k < n := fun W hW => ⟨h, fun k h1 h2 => hW k ⟨h1, h2⟩⟩
theorem Tot.eq {m' : M α} (e : m = m') (h : Tot m' Q) : Tot m Q := e ▸ h
theorem Tot.need {p : Prop} {f : Unit → M β} (h : p) (k : Tot (f ()) R) : Tot (M.need p >>= f) R := by rw [need_bnd h]; exact k
theorem Tot.cond {c : Bool} {x y : M α} (h1 : c = true → Tot x Q) (h2 : c = false → Tot y Q) : Tot (bif c then x else y) Q := by
  cases c with
  | true => exact h1 rfl
  | false => exact h2 rfl
/-- a draw, used -/
theorem Tot.drawB {n : Int} {f : D → M β} (h : 0 < n) (h2 : n < 1073741824) (k : ∀ z : Int, 0 ≤ z → z < n → Tot (f (.int z)) R) : Tot (drawM .st (.int n) >>= f) R := by
  show Tot ((M.need _ >>= fun _ => M.draw n >>= fun k => Pure.pure (D.int k)) >>= f) R
  rw [need_bnd ⟨h, h2⟩, bnd_bnd]
  exact (Tot.draw h).bnd fun z hz => k z hz.1 hz.2
/-- a for, by what holds ahead of each turn -/
theorem Tot.for {g : XG} {b : XS} (I : Nat → Env → Prop) : ∀ {xs : List D} {ρ : Env} (k : Nat), I k ρ → (∀ i x ρ, xs[i]? = some x → I (k + i) ρ → Tot (M.calm (g x ρ) >>= b) fun f => ∃ ρ', f = .nx ρ' ∧ I (k + i + 1) ρ') → Tot (forL g b xs ρ) fun f => ∃ ρ', f = .nx ρ' ∧ I (k + xs.length) ρ'
  | [], ρ, k, h0, _ => by
    rw [forL_nil]
    exact .pure ⟨ρ, rfl, h0⟩
  | x :: r, ρ, k, h0, h => by
    rw [forL_cons]
    have h1 := h 0 x ρ rfl h0
    have e : (M.calm (g x ρ) >>= fun ρ1 => b ρ1 >>= fun f => (match f with
      | .nx ρ' => forL g b r ρ'
      | .ct ρ' => forL g b r ρ'
      | .bk ρ' => Pure.pure (.nx ρ')
      | .rt d => Pure.pure (.rt d) : M Fl)) = ((M.calm (g x ρ) >>= b) >>= fun f => (match f with
      | .nx ρ' => forL g b r ρ'
      | .ct ρ' => forL g b r ρ'
      | .bk ρ' => Pure.pure (.nx ρ')
      | .rt d => Pure.pure (.rt d) : M Fl)) := by rw [bnd_bnd]
    refine Tot.eq e (h1.bnd ?_)
    rintro f ⟨ρ', rfl, h2⟩
    have := Tot.for I (xs := r) (ρ := ρ') (k + 1) (by simpa using h2) fun i y ρ2 hy h3 => by
      have := h (i + 1) y ρ2 (by simpa using hy) (by rw [show k + (i + 1) = k + 1 + i by omega]; exact h3)
      rw [show k + (i + 1) + 1 = k + 1 + i + 1 by omega] at this
      exact this
    rw [show k + (x :: r).length = k + 1 + r.length by rw [List.length_cons]; omega]
    exact this
/-- a comprehension whose parts are all known -/
theorem compL_pure {g : XG} {t : XT} {e : XE} {ρ : Env} (E : D → Env) (c : D → Bool) (y : D → D) : ∀ {xs : List D}, (∀ x ∈ xs, g x ρ = Pure.pure (E x) ∧ t (E x) = Pure.pure (c x) ∧ (c x = true → e (E x) = Pure.pure (y x))) → compL g t e ρ xs = Pure.pure ((xs.filter c).map y)
  | [], _ => by rw [compL]; rfl
  | x :: r, h => by
    obtain ⟨h1, h2, h3⟩ := h x List.mem_cons_self
    have ih := compL_pure E c y (xs := r) fun z hz => h z (List.mem_cons_of_mem _ hz)
    rw [compL, h1, calm_pure, pure_bnd, h2, calm_pure, pure_bnd]
    cases hc : c x with
    | false =>
      show compL g t e ρ r = _
      rw [ih, List.filter_cons_of_neg (by rw [hc]; decide)]
    | true =>
      show (M.calm (e (E x)) >>= fun y => compL g t e ρ r >>= fun ys => Pure.pure (y :: ys)) = _
      rw [h3 hc, calm_pure, pure_bnd, ih, pure_bnd, List.filter_cons_of_pos hc]
      rfl
/-- .. whose parts draw -/
theorem Tot.comp {g : XG} {t : XT} {e : XE} {ρ : Env} (B : D → D → Prop) : ∀ {xs : List D}, (∀ x ∈ xs, Tot (M.calm (g x ρ) >>= fun ρ1 => M.calm (t ρ1) >>= fun c => bif c then (M.calm (e ρ1) >>= fun y => Pure.pure (some y)) else Pure.pure none) fun o => ∀ y, o = some y → B x y) →
    Tot (compL g t e ρ xs) fun ys => ∃ zs : List D, zs.Sublist xs ∧ ys.length = zs.length ∧ ∀ (i : Nat) (z y : D), zs[i]? = some z → ys[i]? = some y → B z y
  | [], _ => by
    rw [compL]
    exact .pure ⟨[], .slnil, rfl, fun i z y h => by simp at h⟩
  | x :: r, h => by
    have ih := Tot.comp B (xs := r) fun z hz => h z (List.mem_cons_of_mem _ hz)
    have e1 : compL g t e ρ (x :: r) = ((M.calm (g x ρ) >>= fun ρ1 => M.calm (t ρ1) >>= fun c => bif c then (M.calm (e ρ1) >>= fun y => Pure.pure (some y)) else Pure.pure none) >>= fun o => match o with
      | some y => compL g t e ρ r >>= fun ys => Pure.pure (y :: ys)
      | none => compL g t e ρ r) := by
      rw [compL]
      simp only [bnd_bnd]
      congr 1
      funext ρ1
      congr 1
      funext c
      cases c
      · rfl
      · show _ = ((M.calm (e ρ1) >>= fun y => Pure.pure (some y)) >>= _)
        rw [bnd_bnd]
        rfl
    refine Tot.eq e1 ((h x List.mem_cons_self).bnd fun o ho => ?_)
    cases o with
    | none => exact ih.imp fun ys ⟨zs, h1, h2⟩ => ⟨zs, h1.cons _, h2⟩
    | some y =>
      refine ih.bnd ?_
      rintro ys ⟨zs, h1, h2, h3⟩
      refine .pure ⟨x :: zs, h1.cons₂ _, by rw [List.length_cons, List.length_cons, h2], fun i z w hz hw => ?_⟩
      cases i with
      | zero => simp at hz hw; subst hz hw; exact ho _ rfl
      | succ i => exact h3 i z w (by simpa using hz) (by simpa using hw)
/-- a for whose turns are known -/
theorem forL_pure {g : XG} {b : XS} (S : Env → Prop) : ∀ {xs : List D} {ρ : Env}, S ρ → (∀ x ∈ xs, ∀ ρ, S ρ → ∃ ρ', (M.calm (g x ρ) >>= b) = Pure.pure (.nx ρ') ∧ S ρ') → ∃ ρ', forL g b xs ρ = Pure.pure (.nx ρ') ∧ S ρ'
  | [], ρ, h0, _ => ⟨ρ, by rw [forL_nil], h0⟩
  | x :: r, ρ, h0, h => by
    obtain ⟨ρ1, h1, h2⟩ := h x List.mem_cons_self ρ h0
    obtain ⟨ρ2, h3, h4⟩ := forL_pure S (xs := r) h2 fun z hz => h z (List.mem_cons_of_mem _ hz)
    refine ⟨ρ2, ?_, h4⟩
    rw [forL_cons, ← bnd_bnd, h1]
    exact h3
/-- .. that looks for something -/
theorem forL_find {g : XG} {b : XS} (S : Env → Prop) (c : D → Bool) (y : D → D) : ∀ {xs : List D} {ρ : Env}, S ρ → (∀ x ∈ xs, ∀ ρ, S ρ → (c x = true → (M.calm (g x ρ) >>= b) = Pure.pure (.rt (y x))) ∧ (c x = false → ∃ ρ', (M.calm (g x ρ) >>= b) = Pure.pure (.nx ρ') ∧ S ρ')) →
    (∀ x, xs.find? c = some x → forL g b xs ρ = Pure.pure (.rt (y x))) ∧ (xs.find? c = none → ∃ ρ', forL g b xs ρ = Pure.pure (.nx ρ') ∧ S ρ')
  | [], ρ, h0, _ => ⟨fun x h => by simp at h, fun _ => ⟨ρ, by rw [forL_nil], h0⟩⟩
  | x :: r, ρ, h0, h => by
    obtain ⟨h1, h2⟩ := h x List.mem_cons_self ρ h0
    cases hc : c x with
    | true =>
      refine ⟨fun z hz => ?_, fun hz => ?_⟩
      · rw [List.find?_cons_of_pos hc] at hz
        cases hz
        rw [forL_cons, ← bnd_bnd, h1 hc]
        rfl
      · rw [List.find?_cons_of_pos hc] at hz
        cases hz
    | false =>
      obtain ⟨ρ1, h3, h4⟩ := h2 hc
      obtain ⟨h5, h6⟩ := forL_find S c y (xs := r) h4 fun z hz => h z (List.mem_cons_of_mem _ hz)
      refine ⟨fun z hz => ?_, fun hz => ?_⟩
      · rw [List.find?_cons_of_neg (by rw [hc]; decide)] at hz
        rw [forL_cons, ← bnd_bnd, h3]
        exact h5 z hz
      · rw [List.find?_cons_of_neg (by rw [hc]; decide)] at hz
        obtain ⟨ρ2, h7, h8⟩ := h6 hz
        refine ⟨ρ2, ?_, h8⟩
        rw [forL_cons, ← bnd_bnd, h3]
        exact h7
theorem fwL_cons (t : D → M Bool) (n : Nat) (x : D) (r : List D) : fwL t n (x :: r) = (t x >>= fun b => bif b then fwL t (n + 1) r else Pure.pure (.int n)) := by
  rw [fwL]
  congr 1
theorem fwL_all {t : D → M Bool} : ∀ {xs : List D} {n : Nat}, (∀ x ∈ xs, t x = Pure.pure true) → fwL t n xs = Pure.pure .non
  | [], _, _ => by rw [fwL]
  | x :: r, n, h => by
    rw [fwL_cons, h x List.mem_cons_self, pure_bnd]
    exact fwL_all fun z hz => h z (List.mem_cons_of_mem _ hz)
end
section
variable {i n : Nat} {ρ r : Env} {d : D} {a b : XE} {p : XS} {c k : Nat} {fs : List D}
theorem ev_fw : dFw a i b ρ = (a ρ >>= fun x => M.get (seqL x) >>= fun ds => fwL (fun x => M.calm (tOf b ((hide ρ).set i (.sh x)))) 0 ds) := rfl
def kFd (c k : Nat) (fs : List D) (r : Env) (d : D) : M Fl := M.need (fs.length = k ∧ k < 1000) >>= fun _ => pure (.nx (.ow (.obj c (fs ++ [d])) :: r))
@[simp] theorem kFd_ok (h : fs.length = k) (h2 : k < 1000) : kFd c k fs r d = pure (.nx (.ow (.obj c (fs ++ [d])) :: r)) := by
  unfold kFd
  rw [need_bnd ⟨h, h2⟩]
@[simp] theorem ev_field : sField c k a (.ow (.obj c fs) :: r) = (a (.ow (.obj c fs) :: r) >>= kFd c k fs r) := by
  unfold sField kFd
  congr 1
  funext d
  show (M.need (c = c ∧ fs.length = k ∧ k < 1000) >>= fun _ => _) = _
  rw [show (c = c ∧ fs.length = k ∧ k < 1000) = (fs.length = k ∧ k < 1000) by simp]
  rfl
theorem fw_ok {ds : List D} {x : D} (h : a ρ = pure x) (hs : seqL x = some ds) (ht : ∀ y ∈ ds, tOf b ((hide ρ).set i (.sh y)) = pure true) : dFw a i b ρ = pure .non := by
  rw [ev_fw, h, pure_bnd, hs, get_some, pure_bnd, fwL_all fun y hy => by rw [ht y hy, calm_pure]]
def endI : Fl → M D
  | .nx ρ => getOw ρ 0
  | _ => M.fail
@[simp] theorem endI_nx : endI (.nx ρ) = getOw ρ 0 := nonrfl rfl
theorem ev_runInit {ds : List D} (h : ds.length = k) : runInit n k c p ds = (p (.ow (.obj c []) :: startE (n - 1) ds) >>= endI) := by
  unfold runInit
  rw [need_bnd h]
  congr 1
def kFl (fs : List D) (i : Nat) : M D := M.get (fs[i]?)
@[simp] theorem kFl_eq : kFl fs i = M.get (fs[i]?) := nonrfl rfl
@[simp] theorem fld_obj {tbl : List (Nat × Nat)} : fldM tbl (.obj c fs) = (M.get ((tbl.find? fun p => p.1 == c).map (·.2)) >>= kFl fs) := nonrfl rfl
end
/-- a for whose turns are known, by their number -/
theorem forL_pureI {g : XG} {b : XS} (I : Nat → Env → Prop) : ∀ {xs : List D} {ρ : Env} (k : Nat), I k ρ → (∀ i x ρ, xs[i]? = some x → I (k + i) ρ → ∃ ρ', (M.calm (g x ρ) >>= b) = pure (.nx ρ') ∧ I (k + i + 1) ρ') → ∃ ρ', forL g b xs ρ = pure (.nx ρ') ∧ I (k + xs.length) ρ'
  | [], ρ, k, h0, _ => ⟨ρ, by rw [forL_nil], h0⟩
  | x :: r, ρ, k, h0, h => by
    obtain ⟨ρ1, h1, h2⟩ := h 0 x ρ rfl h0
    obtain ⟨ρ2, h3, h4⟩ := forL_pureI I (xs := r) (ρ := ρ1) (k + 1) (by simpa using h2) fun i y ρ3 hy h5 => by
      have := h (i + 1) y ρ3 (by simpa using hy) (by rw [show k + (i + 1) = k + 1 + i by omega]; exact h5)
      rw [show k + (i + 1) + 1 = k + 1 + i + 1 by omega] at this
      exact this
    refine ⟨ρ2, ?_, ?_⟩
    · rw [forL_cons, ← bnd_bnd, h1]
      exact h3
    · rw [show k + (x :: r).length = k + 1 + r.length by rw [List.length_cons]; omega]
      exact h4
/-! whiles -/
section
variable {n : Nat} {ρ : Env} {t : XT} {b : XS} {d : D}
def kWh2 (t : XT) (b : XS) (n : Nat) : Fl → M Fl
  | .nx ρ' => whileL t b n ρ'
  | .ct ρ' => whileL t b n ρ'
  | .bk ρ' => pure (.nx ρ')
  | .rt d => pure (.rt d)
@[simp] theorem kWh2_nx : kWh2 t b n (.nx ρ) = whileL t b n ρ := nonrfl rfl
@[simp] theorem kWh2_rt : kWh2 t b n (.rt d) = pure (.rt d) := nonrfl rfl
def kWh (t : XT) (b : XS) (n : Nat) (ρ : Env) (c : Bool) : M Fl := bif c then b ρ >>= kWh2 t b n else pure (.nx ρ)
@[simp] theorem kWh_t : kWh t b n ρ true = (b ρ >>= kWh2 t b n) := nonrfl rfl
@[simp] theorem kWh_f : kWh t b n ρ false = pure (.nx ρ) := nonrfl rfl
theorem whileL_eq : whileL t b (n + 1) ρ = (t ρ >>= kWh t b n ρ) := by
  rw [whileL_succ]
  congr 1
@[simp] theorem ev_while : sWhile n t b ρ = whileL t b n ρ := nonrfl rfl
end
section
variable {n : Nat} {d : D} {ds : List D}
@[simp] theorem okL_nil : okL n [] = true := by cases n <;> rfl
@[simp] theorem okL_cons : okL n (d :: ds) = (okD n d && okL n ds) := by cases n <;> rfl
@[simp] theorem okD_tup : okD (n + 1) (.tup ds) = okL n ds := by unfold okD; rfl
@[simp] theorem okD_lst : okD (n + 1) (.lst ds) = okL n ds := by unfold okD; rfl
theorem okL_all : ∀ {ds : List D}, (∀ d ∈ ds, okD n d = true) → okL n ds = true
  | [], _ => okL_nil
  | d :: ds, h => by rw [okL_cons, h d List.mem_cons_self, okL_all fun z hz => h z (List.mem_cons_of_mem _ hz)]; rfl
@[simp] theorem ne_nil0 : neM (.lst []) (.lst []) = pure (.bl false) := by
  show (M.need _ >>= fun _ => _) = _
  rw [need_bnd ⟨by rfl, by rfl⟩]
  congr 1
@[simp] theorem ne_nil1 (h : okL 63 (d :: ds) = true) : neM (.lst (d :: ds)) (.lst []) = pure (.bl true) := by
  show (M.need _ >>= fun _ => _) = _
  rw [need_bnd ⟨by rw [okD_lst]; exact h, by rfl⟩]
  congr 1
@[simp] theorem lrng2_eq {a b : D} : lrng2M a b = (range2M a b >>= kLs) := nonrfl rfl
@[simp] theorem lrng1_eq {a : D} : lrng1M a = (range1M a >>= kLs) := nonrfl rfl
def kIx2 (ds : List D) (y : D) : M D := indexM (.lst ds) y
def kIx (b : XE) (ρ : Env) (ds : List D) : M D := b ρ >>= kIx2 ds
@[simp] theorem kIx_eq {b : XE} {ρ : Env} : kIx b ρ ds = (b ρ >>= kIx2 ds) := nonrfl rfl
@[simp] theorem ev_index {a b : XE} {ρ : Env} : dIndex a b ρ = (a ρ >>= fun x => lstM x >>= kIx b ρ) := nonrfl rfl
theorem kIx2_ok {y : D} {i : Nat} (h1 : flatD y = true) (h2 : ds.all flatD = true) (h3 : findI y ds 0 = some i) : kIx2 ds y = pure (.int i) := by
  show (M.need _ >>= fun _ => _) = _
  rw [need_bnd ⟨h1, h2⟩, h3]
  rfl
end
/-- the first of the numbers in a row -/
def Rise (l : List Int) : Prop := l.Pairwise (· < ·)
theorem Rise.at_ {l : List Int} (h : Rise l) {i : Nat} (hi : i + 1 < l.length) : l[i] < l[i + 1] := List.pairwise_iff_getElem.mp h i (i + 1) (by omega) hi (by omega)
theorem rangeL_mem {i j : Int} {x : D} (h : x ∈ rangeL i j) : ∃ k : Int, x = .int k ∧ i ≤ k ∧ k < j := by
  unfold rangeL at h
  obtain ⟨k, hk, rfl⟩ := List.mem_map.mp h
  have := List.mem_range.mp hk
  exact ⟨_, rfl, by omega, by omega⟩
theorem atD_map {α β : Type} {f : α → β} {xs : List α} {j : Int} : atD (xs.map f) j = (atD xs j).map f := by
  unfold atD
  rw [List.length_map]
  cases ixD xs.length j with
  | none => rfl
  | some k => simp [List.getElem?_map]
theorem atD_lt {α : Type} {xs : List α} {j : Int} (h0 : 0 ≤ j) (h1 : j < xs.length) : ∃ y, xs[j.toNat]? = some y ∧ atD xs j = some y ∧ y ∈ xs := by
  have hl : j.toNat < xs.length := by omega
  exact ⟨xs[j.toNat], List.getElem?_eq_getElem hl, atD_of h0 (List.getElem?_eq_getElem hl), List.getElem_mem hl⟩
end DL
end
section
/-! K47M: the mirrors of the defs, printed by gen.py. -/
set_option autoImplicit false
set_option linter.all false
namespace K47
open PySem DL
def wN : Nat := 16777300
/-- classes: 0 DealError, 1 ItemError, 2 NoDeal, 3 BadHouses, 4 BadLags, 5 BadStart, 6 BadGap, 7 BadArcs, 8 BadWaits, 9 BadLocks, 10 BadHouse, 11 BadArc, 12 BadSeals, 13 Deal -/
def cxAll : List Nat := [0, 1, 2, 3, 4, 5, 6, 7, 8, 9, 10, 11, 12]
def csSub (a b : Nat) : Bool := [(0, 0), (1, 0), (1, 1), (2, 0), (2, 2), (3, 0), (3, 1), (3, 3), (4, 0), (4, 1), (4, 4), (5, 0), (5, 1), (5, 5), (6, 0), (6, 1), (6, 6), (7, 0), (7, 1), (7, 7), (8, 0), (8, 1), (8, 8), (9, 0), (9, 1), (9, 9), (10, 0), (10, 1), (10, 10), (11, 0), (11, 1), (11, 11), (12, 0), (12, 1), (12, 12), (13, 13)].contains (a, b)
def csL : Cs := ⟨[13], [0, 1, 2, 3, 4, 5, 6, 7, 8, 9, 10, 11, 12], csSub⟩
def cx_index : List Nat := [1, 3, 4, 5, 6, 7, 8, 9, 10, 11, 12]
def m_is_number : List D → M D := run 1 1
    (sRet (dAnd (d1 (isM csL [.int]) (dAny 0)) (d1 notM (d1 (isM csL [.bool]) (dAny 0)))))

def m_is_between : List D → M D := run 3 3
    (sRet (dAnd (dCall m_is_number (dCons (dVar 0) (dNil))) (dChain leM leM (dAny 1) (dAny 0) (dAny 2))))

def m_is_list : List D → M D := run 1 1
    (sRet (d1 (isM csL [.list, .tuple]) (dAny 0)))

def m_first_fall : List D → M D := run 2 1
    (sSeq (sFor (iRng2 (dC (.int 1)) (dCall (b1 lenM) (dCons (dAny 0) (dNil)))) (gName 1)
    (sIf (tNot (tOf (d2 ltM (d2 itemM (dAny 0) (d2 subM (dAny 1) (dC (.int 1)))) (d2 itemM (dAny 0) (dAny 1)))))
    (sRet (dVar 1))
    (sNext)))
    (sRet (dC .non)))

def m_wrong_rise : List D → M D := run 6 3
    (sSeq (sAsg (dFw (dVar 0) 5 (dCall m_is_between (dCons (dVar 5) (dCons (dVar 1) (dCons (dVar 2) (dNil)))))) (gName 3))
    (sSeq (sAsg (dCall m_first_fall (dCons (dIf (tOf (d1 notNonM (dAny 3))) (dSlice sliceM (dAny 0) (oNone) (oSome (dAny 3))) (dVar 0)) (dNil))) (gName 4))
    (sRet (dIf (tOf (d1 notNonM (dAny 4))) (dVar 4) (dVar 3)))))

def m_is_rising_list : List D → M D := run 3 3
    (sRet (dAnd (dCall m_is_list (dCons (dVar 0) (dNil))) (d1 isNonM (dCall m_wrong_rise (dCons (dVar 0) (dCons (dVar 1) (dCons (dVar 2) (dNil))))))))

def m_need_houses : List D → M D := run 1 1
    (sIf (tNot (tOf (dCall m_is_between (dCons (dVar 0) (dCons (dC (.int 2)) (dCons (dC (.int 12)) (dNil)))))))
    (sRaise1 3 (dC .non))
    (sNext))

def m_need_lags : List D → M D := run 3 1
    (sSeq (sIf (tOr (tNot (tOf (dCall m_is_list (dCons (dVar 0) (dNil))))) (tNot (tOf (dChain leM leM (dC (.int 1)) (dCall (b1 lenM) (dCons (dAny 0) (dNil))) (dC (.int 4))))))
    (sRaise1 4 (dC .non))
    (sNext))
    (sSeq (sAsg (dFw (dVar 0) 2 (dCall m_is_between (dCons (dVar 2) (dCons (dC (.int 1)) (dCons (dC (.int 1000)) (dNil)))))) (gName 1))
    (sIf (tOf (d1 notNonM (dAny 1)))
    (sRaise1 4 (dVar 1))
    (sNext))))

def m_is_arc : List D → M D := run 3 3
    (sSeq (sIf (tOr (tNot (tOf (dCall m_is_list (dCons (dVar 0) (dNil))))) (tOf (d2 neM (dCall (b1 lenM) (dCons (dAny 0) (dNil))) (dC (.int 3)))))
    (sRet (dC (.bl false)))
    (sNext))
    (sSeq (sIf (tOr (tNot (tOf (dCall m_is_between (dCons (d2 itemM (dAny 0) (dC (.int 0))) (dCons (dC (.int 0)) (dCons (d2 subM (dAny 1) (dC (.int 1))) (dNil))))))) (tNot (tOf (dCall m_is_between (dCons (d2 itemM (dAny 0) (dC (.int 1))) (dCons (dC (.int 0)) (dCons (d2 subM (dAny 1) (dC (.int 1))) (dNil))))))))
    (sRet (dC (.bl false)))
    (sNext))
    (sRet (dAnd (d2 neM (d2 itemM (dAny 0) (dC (.int 0))) (d2 itemM (dAny 0) (dC (.int 1)))) (dCall m_is_between (dCons (d2 itemM (dAny 0) (dC (.int 2))) (dCons (dC (.int 0)) (dCons (d2 subM (dAny 2) (dC (.int 1))) (dNil)))))))))

def m_need_arcs : List D → M D := run 6 4
    (sSeq (sIf (tOr (tNot (tOf (dCall m_is_list (dCons (dVar 0) (dNil))))) (tNot (tOf (dChain leM leM (dAny 3) (dCall (b1 lenM) (dCons (dAny 0) (dNil))) (dC (.int 24))))))
    (sRaise1 7 (dC .non))
    (sNext))
    (sSeq (sAsg (dFw (dVar 0) 5 (dCall m_is_arc (dCons (dVar 5) (dCons (dVar 1) (dCons (dVar 2) (dNil)))))) (gName 4))
    (sIf (tOf (d1 notNonM (dAny 4)))
    (sRaise1 7 (dVar 4))
    (sNext))))

def m_need_start : List D → M D := run 1 1
    (sIf (tNot (tOf (dCall m_is_between (dCons (dVar 0) (dCons (dC (.int 0)) (dCons (dC (.int 100000000)) (dNil)))))))
    (sRaise1 5 (dC .non))
    (sNext))

def m_need_gap : List D → M D := run 2 2
    (sIf (tNot (tOf (dCall m_is_between (dCons (dVar 0) (dCons (dCall (b1 maxM) (dCons (dAny 1) (dNil))) (dCons (dC (.int 1000000)) (dNil)))))))
    (sRaise1 6 (dC .non))
    (sNext))

def m_need_waits : List D → M D := run 5 2
    (sSeq (sIf (tOr (tNot (tOf (dCall m_is_list (dCons (dVar 0) (dNil))))) (tOf (d2 neM (dCall (b1 lenM) (dCons (dAny 0) (dNil))) (dCall (b1 lenM) (dCons (dAny 1) (dNil))))))
    (sRaise1 8 (dC .non))
    (sNext))
    (sFor (iEnum (dVar 0)) (gTup 2 (gsCons (gName 2) (gsCons (gName 3) (gsNil))))
    (sSeq (sIf (tNot (tOf (dCall m_is_rising_list (dCons (dVar 3) (dCons (dC (.int 0)) (dCons (d2 subM (dCall (b1 lenM) (dCons (dAny 1) (dNil))) (dC (.int 1))) (dNil)))))))
    (sRaise1 8 (dVar 2))
    (sNext))
    (sIf (tOf (dCall (b1 anyM) (dCons (dComp (iSeq (dVar 3)) (gName 4) (tYes) (d2 neM (d2 itemM (d2 itemM (dAny 1) (dAny 4)) (dC (.int 1))) (d2 itemM (d2 itemM (dAny 1) (dAny 2)) (dC (.int 0)))) [4]) (dNil))))
    (sRaise1 8 (dVar 2))
    (sNext)))))

def m_is_entry : List D → M D := run 3 3
    (sSeq (sIf (tOr (tNot (tOf (dCall m_is_list (dCons (dVar 0) (dNil))))) (tOr (tOf (d2 neM (dCall (b1 lenM) (dCons (dAny 0) (dNil))) (dC (.int 3)))) (tNot (tOf (dCall m_is_between (dCons (d2 itemM (dAny 0) (dC (.int 0))) (dCons (dC (.int 0)) (dCons (d2 subM (dAny 1) (dC (.int 1))) (dNil)))))))))
    (sRet (dC (.bl false)))
    (sNext))
    (sRet (dAnd (dCall m_is_between (dCons (d2 itemM (dAny 0) (dC (.int 1))) (dCons (dVar 2) (dCons (dC (.int 1000000000)) (dNil))))) (dCall m_is_between (dCons (d2 itemM (dAny 0) (dC (.int 2))) (dCons (dC (.int 0)) (dCons (dC (.int 1)) (dNil))))))))

def m_is_lock : List D → M D := run 4 3
    (sSeq (sIf (tOr (tNot (tOf (dCall m_is_list (dCons (dVar 0) (dNil))))) (tNot (tOf (dChain leM leM (dC (.int 1)) (dCall (b1 lenM) (dCons (dAny 0) (dNil))) (dAny 1)))))
    (sRet (dC (.bl false)))
    (sNext))
    (sSeq (sIf (tOf (d1 notNonM (dFw (dVar 0) 3 (dCall m_is_entry (dCons (dVar 3) (dCons (dVar 1) (dCons (dVar 2) (dNil))))))))
    (sRet (dC (.bl false)))
    (sNext))
    (sRet (d1 isNonM (dCall m_first_fall (dCons (dComp (iSeq (dVar 0)) (gName 3) (tYes) (d2 itemM (dAny 3) (dC (.int 0))) [3]) (dNil)))))))

def m_need_locks : List D → M D := run 6 4
    (sSeq (sIf (tOr (tNot (tOf (dCall m_is_list (dCons (dVar 0) (dNil))))) (tOf (d2 neM (dCall (b1 lenM) (dCons (dAny 0) (dNil))) (dAny 3))))
    (sRaise1 9 (dC .non))
    (sNext))
    (sSeq (sAsg (dFw (dVar 0) 5 (dCall m_is_lock (dCons (dVar 5) (dCons (dVar 1) (dCons (dVar 2) (dNil)))))) (gName 4))
    (sIf (tOf (d1 notNonM (dAny 4)))
    (sRaise1 9 (dVar 4))
    (sNext))))

def mk_Deal : List D → M D := runInit 12 7 13
    (sSeq (sDrop (dCall m_need_houses (dCons (dVar 1) (dNil))))
    (sSeq (sDrop (dCall m_need_lags (dCons (dVar 2) (dNil))))
    (sSeq (sDrop (dCall m_need_start (dCons (dVar 3) (dNil))))
    (sSeq (sDrop (dCall m_need_gap (dCons (dVar 4) (dCons (dVar 2) (dNil)))))
    (sSeq (sDrop (dCall m_need_arcs (dCons (dVar 5) (dCons (dVar 1) (dCons (dCall (b1 lenM) (dCons (dAny 2) (dNil))) (dCons (dC (.int 1)) (dNil)))))))
    (sSeq (sDrop (dCall m_need_waits (dCons (dVar 6) (dCons (dVar 5) (dNil)))))
    (sSeq (sDrop (dCall m_need_locks (dCons (dVar 7) (dCons (dVar 1) (dCons (dVar 3) (dCons (dCall (b1 lenM) (dCons (dAny 5) (dNil))) (dNil)))))))
    (sSeq (sField 13 0 (dVar 1))
    (sSeq (sField 13 1 (dCall (b1 tupleM) (dCons (dAny 2) (dNil))))
    (sSeq (sField 13 2 (dVar 3))
    (sSeq (sField 13 3 (dVar 4))
    (sSeq (sField 13 4 (dCall (b1 tupleM) (dCons (dComp (iSeq (dVar 5)) (gName 8) (tYes) (dCall (b1 tupleM) (dCons (dAny 8) (dNil))) [8]) (dNil))))
    (sSeq (sField 13 5 (dCall (b1 tupleM) (dCons (dComp (iSeq (dVar 6)) (gName 9) (tYes) (dCall (b1 tupleM) (dCons (dAny 9) (dNil))) [9]) (dNil))))
    (sSeq (sField 13 6 (dCall (b1 tupleM) (dCons (dComp (iSeq (dVar 7)) (gName 10) (tYes) (dCall (b1 tupleM) (dCons (dComp (iSeq (dVar 10)) (gName 11) (tYes) (dCall (b1 tupleM) (dCons (dAny 11) (dNil))) [11]) (dNil))) [10]) (dNil))))
    (sNext)))))))))))))))

def m_need_deal : List D → M D := run 1 1
    (sIf (tNot (tOf (d1 (isM csL [.cls 13]) (dAny 0))))
    (sRaise0 2)
    (sNext))

def m_need_house : List D → M D := run 2 2
    (sIf (tNot (tOf (dCall m_is_between (dCons (dVar 1) (dCons (dC (.int 0)) (dCons (d2 subM (d1 (fldM [(13, 0)]) (dAny 0)) (dC (.int 1))) (dNil)))))))
    (sRaise1 10 (dC .non))
    (sNext))

def m_need_arc : List D → M D := run 2 2
    (sIf (tNot (tOf (dCall m_is_between (dCons (dVar 1) (dCons (dC (.int 0)) (dCons (d2 subM (dCall (b1 lenM) (dCons (d1 (fldM [(13, 4)]) (dAny 0)) (dNil))) (dC (.int 1))) (dNil)))))))
    (sRaise1 11 (dC .non))
    (sNext))

def m_giver_of : List D → M D := run 2 2
    (sRet (d2 itemM (d2 itemM (d1 (fldM [(13, 4)]) (dAny 0)) (dAny 1)) (dC (.int 0))))

def m_taker_of : List D → M D := run 2 2
    (sRet (d2 itemM (d2 itemM (d1 (fldM [(13, 4)]) (dAny 0)) (dAny 1)) (dC (.int 1))))

def m_lag_of : List D → M D := run 2 2
    (sRet (d2 itemM (d1 (fldM [(13, 1)]) (dAny 0)) (d2 itemM (d2 itemM (d1 (fldM [(13, 4)]) (dAny 0)) (dAny 1)) (dC (.int 2)))))

def m_entry_of : List D → M D := run 4 3
    (sSeq (sFor (iSeq (d2 itemM (d1 (fldM [(13, 6)]) (dAny 0)) (dAny 1))) (gName 3)
    (sIf (tOf (d2 eqM (d2 itemM (dAny 3) (dC (.int 0))) (dAny 2)))
    (sRet (dVar 3))
    (sNext)))
    (sRet (dC .non)))

def m_does_ask : List D → M D := run 3 3
    (sRet (d1 notNonM (dCall m_entry_of (dCons (dVar 0) (dCons (dVar 1) (dCons (dVar 2) (dNil)))))))

def m_last_of : List D → M D := run 5 4
    (sSeq (sAsg (dCall m_entry_of (dCons (dVar 0) (dCons (dVar 1) (dCons (dVar 2) (dNil))))) (gName 4))
    (sRet (d2 addM (d2 itemM (dAny 4) (dC (.int 1))) (d2 mulM (d2 mulM (d2 itemM (dAny 4) (dC (.int 2))) (d2 subM (dAny 3) (dC (.int 1)))) (d1 (fldM [(13, 3)]) (dAny 0))))))

def m_last_tick : List D → M D := run 4 4
    (sSeq (sDrop (dCall m_need_deal (dCons (dVar 0) (dNil))))
    (sSeq (sDrop (dCall m_need_arc (dCons (dVar 0) (dCons (dVar 1) (dNil)))))
    (sSeq (sDrop (dCall m_need_house (dCons (dVar 0) (dCons (dVar 2) (dNil)))))
    (sSeq (sIf (tNot (tOf (dCall m_is_between (dCons (dVar 3) (dCons (dC (.int 1)) (dCons (d1 (fldM [(13, 0)]) (dAny 0)) (dNil)))))))
    (sRaise1 12 (dC .non))
    (sNext))
    (sRet (dIf (tOf (dCall m_does_ask (dCons (dVar 0) (dCons (dVar 1) (dCons (dVar 2) (dNil)))))) (dCall m_last_of (dCons (dVar 0) (dCons (dVar 1) (dCons (dVar 2) (dCons (dVar 3) (dNil)))))) (dC .non)))))))

def m_lengths_of : List D → M D := run 3 3
    (sSeq (sIf (tOf (d2 eqM (dCall m_taker_of (dCons (dVar 0) (dCons (dVar 1) (dNil)))) (dAny 2)))
    (sRet (dTup (dCons (dC (.int 1)) (dCons (dC (.int 1)) (dNil)))))
    (sNext))
    (sRet (dTup (dCons (dC (.int 2)) (dCons (d2 subM (d1 (fldM [(13, 0)]) (dAny 0)) (dC (.int 1))) (dNil))))))

def m_seal_lengths : List D → M D := run 3 3
    (sSeq (sDrop (dCall m_need_deal (dCons (dVar 0) (dNil))))
    (sSeq (sDrop (dCall m_need_arc (dCons (dVar 0) (dCons (dVar 1) (dNil)))))
    (sSeq (sDrop (dCall m_need_house (dCons (dVar 0) (dCons (dVar 2) (dNil)))))
    (sSeq (sIf (tOf (d2 eqM (dCall m_giver_of (dCons (dVar 0) (dCons (dVar 1) (dNil)))) (dAny 2)))
    (sRaise1 10 (dC .non))
    (sNext))
    (sRet (dCall m_lengths_of (dCons (dVar 0) (dCons (dVar 1) (dCons (dVar 2) (dNil))))))))))

def m_seal_ticks : List D → M D := run 4 4
    (sRet (d2 subM (dCall m_last_of (dCons (dVar 0) (dCons (dVar 1) (dCons (dVar 2) (dCons (dVar 3) (dNil)))))) (dCall m_last_of (dCons (dVar 0) (dCons (dVar 1) (dCons (dVar 2) (dCons (dC (.int 1)) (dNil))))))))

def m_bound_of : List D → M D := run 8 4
    (sSeq (sAsg (dCall m_lengths_of (dCons (dVar 0) (dCons (dVar 2) (dCons (dVar 3) (dNil))))) (gTup 2 (gsCons (gName 4) (gsCons (gName 5) (gsNil)))))
    (sSeq (sAsg (dComp (iRng2 (dAny 4) (d2 addM (dAny 5) (dC (.int 1)))) (gName 7) (tYes) (d2 subM (dCall m_seal_ticks (dCons (dVar 0) (dCons (dVar 2) (dCons (dVar 3) (dCons (dVar 7) (dNil)))))) (dCall m_seal_ticks (dCons (dVar 0) (dCons (dVar 1) (dCons (dVar 3) (dCons (d2 addM (dAny 7) (dC (.int 1))) (dNil))))))) [7]) (gName 6))
    (sRet (d2 addM (dCall (b1 maxM) (dCons (dAny 6) (dNil))) (dCall m_lag_of (dCons (dVar 0) (dCons (dVar 2) (dNil))))))))

def m_need_given : List D → M D := run 3 3
    (sSeq (sDrop (dCall m_need_arc (dCons (dVar 0) (dCons (dVar 2) (dNil)))))
    (sIf (tOf (d2 neM (dCall m_giver_of (dCons (dVar 0) (dCons (dVar 2) (dNil)))) (dCall m_taker_of (dCons (dVar 0) (dCons (dVar 1) (dNil))))))
    (sRaise1 11 (dC .non))
    (sNext)))

def m_need_handed : List D → M D := run 4 4
    (sSeq (sIf (tOr (tNot (tOf (dCall m_is_between (dCons (dVar 3) (dCons (dC (.int 0)) (dCons (d2 subM (d1 (fldM [(13, 0)]) (dAny 0)) (dC (.int 1))) (dNil))))))) (tOf (d2 eqM (dAny 3) (dCall m_taker_of (dCons (dVar 0) (dCons (dVar 1) (dNil)))))))
    (sRaise1 10 (dC .non))
    (sNext))
    (sIf (tOr (tNot (tOf (dCall m_does_ask (dCons (dVar 0) (dCons (dVar 1) (dCons (dVar 3) (dNil))))))) (tNot (tOf (dCall m_does_ask (dCons (dVar 0) (dCons (dVar 2) (dCons (dVar 3) (dNil))))))))
    (sRaise1 10 (dC .non))
    (sNext)))

def m_bound : List D → M D := run 4 4
    (sSeq (sDrop (dCall m_need_deal (dCons (dVar 0) (dNil))))
    (sSeq (sDrop (dCall m_need_arc (dCons (dVar 0) (dCons (dVar 1) (dNil)))))
    (sSeq (sDrop (dCall m_need_given (dCons (dVar 0) (dCons (dVar 1) (dCons (dVar 2) (dNil))))))
    (sSeq (sDrop (dCall m_need_handed (dCons (dVar 0) (dCons (dVar 1) (dCons (dVar 2) (dCons (dVar 3) (dNil)))))))
    (sRet (dCall m_bound_of (dCons (dVar 0) (dCons (dVar 1) (dCons (dVar 2) (dCons (dVar 3) (dNil)))))))))))

def dg_begun : XE := dComp (iSeq (dVar 0)) (gName 2) (tOf (d2 geM (dCall (b1 absM) (dCons (dAny 2) (dNil))) (d2 powM (dC (.int 10)) (dC (.int 18))))) (d2 subM (dCall (b1 absM) (dCons (dAny 2) (dNil))) (d2 powM (dC (.int 10)) (dC (.int 18)))) [2]
def dc_begun : XE := dComp (iSeq (dVar 0)) (gName 2) (tYes) (dCall (b1 absM) (dCons (dAny 2) (dNil))) [2]

def m_law_pick : List D → M D := run 2 2
    (sRet (d2 itemM (dAny 1) (dCall (b2 drawM) (dCons (dVar 0) (dCons (dCall (b1 lenM) (dCons (dAny 1) (dNil))) (dNil))))))

def m_law_shuffled : List D → M D := run 4 2
    (sSeq (sPar [(2, true), (3, true)] (dCons (dCall (b1 listM) (dCons (dAny 1) (dNil))) (dCons (dLst (dNil)) (dNil))))
    (sSeq (sWhile wN (tOf (d2 neM (dAny 2) (dLst (dNil))))
    (sAppendPop 3 2 (dCall (b2 drawM) (dCons (dVar 0) (dCons (dCall (b1 lenM) (dCons (dAny 2) (dNil))) (dNil))))))
    (sRetOw 3)))

def m_law_part : List D → M D := run 4 3
    (sRet (dComp (iSeq (dVar 1)) (gName 3) (tOf (d2 gtM (dCall (b2 drawM) (dCons (dVar 0) (dCons (dVar 2) (dNil)))) (dC (.int 0)))) (dVar 3) [3]))

def m_law_is_truth : List D → M D := run 2 2
    (sRet (dIf (tOf (dVar 1)) (d2 isBM (dAny 0) (dC (.bl true))) (d2 isBM (dAny 0) (dC (.bl false)))))

def m_law_same : List D → M D := run 8 2
    (sSeq (sOwn 2 (dLst (dCons (dTup (dCons (dVar 0) (dCons (dVar 1) (dNil)))) (dNil))))
    (sSeq (sWhile wN (tOf (d2 neM (dAny 2) (dLst (dNil))))
    (sSeq (sPop 2 (gTup 2 (gsCons (gName 3) (gsCons (gName 4) (gsNil)))))
    (sIf (tOr (tOf (d1 isNonM (dAny 4))) (tOf (d1 (isM csL [.bool]) (dAny 4))))
    (sIf (tIf (tOf (d1 isNonM (dAny 4))) (tOf (d1 notNonM (dAny 3))) (tNot (tOf (dCall m_law_is_truth (dCons (dVar 3) (dCons (dVar 4) (dNil)))))))
    (sRet (dC (.bl false)))
    (sNext))
    (sIf (tOf (d1 (isM csL [.int, .str]) (dAny 4)))
    (sIf (tOr (tOf (d1 (isM csL [.bool]) (dAny 3))) (tOr (tOf (d2 neM (d1 (isM csL [.int]) (dAny 3)) (d1 (isM csL [.int]) (dAny 4)))) (tOf (d2 neM (dAny 3) (dAny 4)))))
    (sRet (dC (.bl false)))
    (sNext))
    (sSeq (sAsg (dLst (dCons (dAnd (d1 (isM csL [.tuple]) (dAny 3)) (d1 (isM csL [.tuple]) (dAny 4))) (dCons (dAnd (d1 (isM csL [.list]) (dAny 3)) (d1 (isM csL [.list]) (dAny 4))) (dNil)))) (gName 5))
    (sSeq (sIf (tOr (tOf (d2 ninM (dC (.bl true)) (dAny 5))) (tOf (d2 neM (dCall (b1 lenM) (dCons (dAny 3) (dNil))) (dCall (b1 lenM) (dCons (dAny 4) (dNil))))))
    (sRet (dC (.bl false)))
    (sNext))
    (sExtend 2 (dComp (iZip (dVar 3) (dVar 4)) (gTup 2 (gsCons (gName 6) (gsCons (gName 7) (gsNil)))) (tYes) (dTup (dCons (dVar 6) (dCons (dVar 7) (dNil)))) [6, 7]))))))))
    (sRet (dC (.bl true)))))

def m_law_made : List D → M D := run 8 1
    (sSeq (sAsg (dVar 0) (gTup 7 (gsCons (gName 1) (gsCons (gName 2) (gsCons (gName 3) (gsCons (gName 4) (gsCons (gName 5) (gsCons (gName 6) (gsCons (gName 7) (gsNil))))))))))
    (sRet (dCall mk_Deal (dCons (dVar 1) (dCons (dVar 2) (dCons (dVar 3) (dCons (dVar 4) (dCons (dVar 5) (dCons (dVar 6) (dCons (dVar 7) (dNil)))))))))))

def m_law_into : List D → M D := run 4 2
    (sRet (dComp (iEnum (dVar 0)) (gTup 2 (gsCons (gName 2) (gsCons (gName 3) (gsNil)))) (tOf (d2 eqM (d2 itemM (dAny 3) (dC (.int 1))) (dAny 1))) (dVar 2) [2, 3]))

def m_law_out : List D → M D := run 4 2
    (sRet (dComp (iEnum (dVar 0)) (gTup 2 (gsCons (gName 2) (gsCons (gName 3) (gsNil)))) (tOf (d2 eqM (d2 itemM (dAny 3) (dC (.int 0))) (dAny 1))) (dVar 2) [2, 3]))

def m_law_lag : List D → M D := run 2 2
    (sRet (d2 itemM (d2 itemM (dAny 0) (dC (.int 1))) (d2 itemM (d2 itemM (d2 itemM (dAny 0) (dC (.int 4))) (dAny 1)) (dC (.int 2)))))

def m_law_asked : List D → M D := run 3 2
    (sRet (dComp (iSeq (d2 itemM (d2 itemM (dAny 0) (dC (.int 6))) (dAny 1))) (gName 2) (tYes) (d2 itemM (dAny 2) (dC (.int 0))) [2]))

def m_law_entry : List D → M D := run 4 3
    (sRet (d2 itemM (dComp (iSeq (d2 itemM (d2 itemM (dAny 0) (dC (.int 6))) (dAny 1))) (gName 3) (tOf (d2 eqM (d2 itemM (dAny 3) (dC (.int 0))) (dAny 2))) (dVar 3) [3]) (dC (.int 0))))

def m_law_last : List D → M D := run 7 4
    (sSeq (sAsg (dCall m_law_entry (dCons (dVar 0) (dCons (dVar 1) (dCons (dVar 2) (dNil))))) (gTup 3 (gsCons (gName 4) (gsCons (gName 5) (gsCons (gName 6) (gsNil))))))
    (sRet (d2 addM (dAny 5) (d2 mulM (d2 mulM (d2 subM (dAny 3) (dC (.int 1))) (d2 itemM (dAny 0) (dC (.int 3)))) (dAny 6)))))

def m_law_lengths : List D → M D := run 3 3
    (sRet (dIf (tOf (d2 eqM (d2 itemM (d2 itemM (d2 itemM (dAny 0) (dC (.int 4))) (dAny 1)) (dC (.int 1))) (dAny 2))) (dLst (dCons (dC (.int 1)) (dNil))) (d2 lrng2M (dC (.int 2)) (d2 itemM (dAny 0) (dC (.int 0))))))

def m_law_lags : List D → M D := run 3 1
    (sSeq (sOwn 1 (dComp (iRng1 (d2 addM (dC (.int 1)) (dCall (b2 drawM) (dCons (dVar 0) (dCons (dC (.int 3)) (dNil)))))) (gName 2) (tYes) (d2 addM (dC (.int 1)) (dCall (b2 drawM) (dCons (dVar 0) (dCons (dC (.int 3)) (dNil))))) [2]))
    (sSeq (sIf (tOf (d2 eqM (dCall (b2 drawM) (dCons (dVar 0) (dCons (dC (.int 9)) (dNil)))) (dC (.int 0))))
    (sSetL 1 (dC (.int 0)) (d2 subM (dC (.int 1000)) (dCall (b2 drawM) (dCons (dVar 0) (dCons (dC (.int 3)) (dNil))))))
    (sNext))
    (sRet (dCall (b1 tupleM) (dCons (dAny 1) (dNil))))))

def m_law_ring : List D → M D := runO 2 1
    (sRet (dComp (iRng1 (dCall (b1 lenM) (dCons (dAny 0) (dNil)))) (gName 1) (tYes) (dTup (dCons (d2 itemM (dAny 0) (d2 subM (dAny 1) (dC (.int 1)))) (dCons (d2 itemM (dAny 0) (dAny 1)) (dNil)))) [1]))

def m_law_joined : List D → M D := runO 6 2
    (sSeq (sPar [(2, false), (3, false)] (dCons (dCall m_law_shuffled (dCons (dVar 0) (dCons (d1 lrng1M (dAny 1)) (dNil)))) (dCons (dCall (b2 drawM) (dCons (dVar 0) (dCons (dC (.int 5)) (dNil)))) (dNil))))
    (sSeq (sIf (tOr (tOf (d2 eqM (dAny 3) (dC (.int 0)))) (tOf (d2 eqM (dAny 1) (dC (.int 2)))))
    (sRet (dCall m_law_ring (dCons (dSlice sliceM (dAny 2) (oNone) (oSome (d2 addM (dC (.int 2)) (dCall (b2 drawM) (dCons (dVar 0) (dCons (d2 subM (dAny 1) (dC (.int 1))) (dNil))))))) (dNil))))
    (sNext))
    (sSeq (sIf (tOf (d2 eqM (dAny 3) (dC (.int 1))))
    (sRet (d2 addLM (dComp (iSeq (dSlice sliceM (dAny 2) (oSome (dC (.int 1))) (oNone))) (gName 5) (tYes) (dTup (dCons (d2 itemM (dAny 2) (dC (.int 0))) (dCons (dVar 5) (dNil)))) [5]) (dComp (iSeq (dSlice sliceM (dAny 2) (oSome (dC (.int 1))) (oNone))) (gName 5) (tYes) (dTup (dCons (dVar 5) (dCons (d2 itemM (dAny 2) (dC (.int 0))) (dNil)))) [5])))
    (sNext))
    (sSeq (sAsg (dIf (tOf (d2 ltM (dAny 1) (dC (.int 4)))) (dC (.int 2)) (d2 addM (dC (.int 2)) (dCall (b2 drawM) (dCons (dVar 0) (dCons (d2 subM (dAny 1) (dC (.int 3))) (dNil)))))) (gName 4))
    (sSeq (sIf (tOf (d2 eqM (dAny 3) (dC (.int 2))))
    (sRet (d2 addLM (dCall m_law_ring (dCons (dSlice sliceM (dAny 2) (oNone) (oSome (dAny 4))) (dNil))) (dCall m_law_ring (dCons (dSlice sliceM (dAny 2) (oSome (d2 subM (dAny 4) (dC (.int 1)))) (oNone)) (dNil)))))
    (sNext))
    (sRet (dIf (tOf (d2 eqM (dAny 3) (dC (.int 3)))) (d2 addLM (dCall m_law_ring (dCons (dSlice sliceM (dAny 2) (oNone) (oSome (dAny 4))) (dNil))) (dIf (tOf (d2 gtM (d2 subM (dAny 1) (dAny 4)) (dC (.int 1)))) (dCall m_law_ring (dCons (dSlice sliceM (dAny 2) (oSome (dAny 4)) (oNone)) (dNil))) (dLst (dNil)))) (dLst (dNil)))))))))

def m_law_wish : List D → M D := run 8 3
    (sSeq (sPar [(3, false), (4, true)] (dCons (dCall m_law_lags (dCons (dVar 0) (dNil))) (dCons (dCall m_law_joined (dCons (dVar 0) (dCons (dVar 1) (dNil)))) (dNil))))
    (sSeq (sFor (iRng1 (dIf (tOf (d2 neM (dAny 4) (dLst (dNil)))) (dCall (b2 drawM) (dCons (dVar 0) (dCons (dC (.int 4)) (dNil)))) (d2 addM (dC (.int 1)) (dCall (b2 drawM) (dCons (dVar 0) (dCons (dVar 2) (dNil))))))) (gName 5)
    (sSeq (sAsg (dCall (b2 drawM) (dCons (dVar 0) (dCons (dVar 1) (dNil)))) (gName 6))
    (sAppend 4 (dTup (dCons (dVar 6) (dCons (d2 modM (d2 addM (d2 addM (dAny 6) (dC (.int 1))) (dCall (b2 drawM) (dCons (dVar 0) (dCons (d2 subM (dAny 1) (dC (.int 1))) (dNil))))) (dAny 1)) (dNil)))))))
    (sSeq (sFrz [4] (sOwn 4 (dIf (tOf (d2 eqM (dCall (b2 drawM) (dCons (dVar 0) (dCons (dC (.int 4)) (dNil)))) (dC (.int 0)))) (dSlice sliceLM (dCall m_law_shuffled (dCons (dVar 0) (dCons (dVar 4) (dNil)))) (oNone) (oSome (dAny 2))) (dSlice sliceLM (dAny 4) (oNone) (oSome (dAny 2))))))
    (sFrz [4] (sRet (dTup (dCons (dVar 1) (dCons (dVar 3) (dCons (dCall (b1 tupleM) (dCons (dComp (iSeq (dVar 4)) (gTup 2 (gsCons (gName 6) (gsCons (gName 7) (gsNil)))) (tYes) (dTup (dCons (dVar 6) (dCons (dVar 7) (dCons (dCall (b2 drawM) (dCons (dVar 0) (dCons (dCall (b1 lenM) (dCons (dAny 3) (dNil))) (dNil)))) (dNil))))) [6, 7]) (dNil))) (dNil))))))))))

def m_law_with_last : List D → M D := run 7 5
    (sSeq (sNest 5 (iSeq (d2 itemM (dAny 0) (dC (.int 6)))) (dTup (dCons (d2 itemM (d2 itemM (d2 itemM (dAny 5) (dAny 1)) (dAny 2)) (dC (.int 0))) (dCons (dVar 3) (dCons (dVar 4) (dNil))))) (dVar 1) (dVar 2))
    (sRet (d2 addM (dSlice sliceM (dAny 0) (oNone) (oSome (dC (.int 6)))) (dTup (dCons (dCall (b1 tupleM) (dCons (dComp (iSeq (dVar 5)) (gName 6) (tYes) (dCall (b1 tupleM) (dCons (dAny 6) (dNil))) [6]) (dNil))) (dNil))))))

def m_law_any_lock : List D → M D := run 5 3
    (sSeq (sAsg (dSlice sliceM (dCall m_law_shuffled (dCons (dVar 0) (dCons (d1 lrng1M (d2 itemM (dAny 1) (dC (.int 0)))) (dNil)))) (oNone) (oSome (d2 addM (dC (.int 1)) (dCall (b2 drawM) (dCons (dVar 0) (dCons (dCall (b2 min2M) (dCons (dC (.int 3)) (dCons (d2 itemM (dAny 1) (dC (.int 0))) (dNil)))) (dNil))))))) (gName 3))
    (sRet (dCall (b1 tupleM) (dCons (dComp (iSeq (dCall (b1 sortedM) (dCons (dAny 3) (dNil)))) (gName 4) (tYes) (dTup (dCons (dVar 4) (dCons (d2 addM (d2 itemM (dAny 1) (dC (.int 2))) (dCall (b2 drawM) (dCons (dVar 0) (dCons (dC (.int 7)) (dNil))))) (dCons (dCall (b1 intM) (dCons (d2 eqM (dCall (b2 drawM) (dCons (dVar 0) (dCons (dC (.int 4)) (dNil)))) (dC (.int 0))) (dNil))) (dNil))))) [4]) (dNil)))))

def m_law_any_deal : List D → M D := run 11 2
    (sSeq (sAsg (dVar 1) (gTup 3 (gsCons (gName 2) (gsCons (gName 3) (gsCons (gName 4) (gsNil))))))
    (sSeq (sPar [(5, false), (6, false)] (dCons (dCall (b2 drawM) (dCons (dVar 0) (dCons (dC (.int 8)) (dNil)))) (dCons (d2 addM (dCall (b1 maxM) (dCons (dAny 3) (dNil))) (dCall (b2 drawM) (dCons (dVar 0) (dCons (dC (.int 3)) (dNil))))) (dNil))))
    (sSeq (sAsg (dCall (b1 tupleM) (dCons (dComp (iSeq (dVar 4)) (gName 9) (tYes) (dCall (b1 tupleM) (dCons (dCall m_law_part (dCons (dVar 0) (dCons (dCall m_law_into (dCons (dVar 4) (dCons (d2 itemM (dAny 9) (dC (.int 0))) (dNil)))) (dCons (dC (.int 3)) (dNil))))) (dNil))) [9]) (dNil))) (gName 7))
    (sSeq (sAsg (dTup (dCons (dVar 2) (dCons (dVar 3) (dCons (dVar 5) (dCons (dVar 6) (dCons (dVar 4) (dCons (dVar 7) (dCons (dTup (dNil)) (dNil))))))))) (gName 8))
    (sRet (d2 addM (dSlice sliceM (dAny 8) (oNone) (oSome (dC (.int 6)))) (dTup (dCons (dCall (b1 tupleM) (dCons (dComp (iRng1 (dCall (b1 lenM) (dCons (dAny 4) (dNil)))) (gName 10) (tYes) (dCall m_law_any_lock (dCons (dVar 0) (dCons (dVar 8) (dCons (dVar 10) (dNil))))) [10]) (dNil))) (dNil)))))))))

def m_law_later : List D → M D := run 7 2
    (sSeq (sAsg (dCall (b1 tupleM) (dCons (dComp (iSeq (d2 itemM (dAny 0) (dC (.int 6)))) (gName 3) (tYes) (dCall (b1 tupleM) (dCons (dComp (iSeq (dVar 3)) (gTup 3 (gsCons (gName 4) (gsCons (gName 5) (gsCons (gName 6) (gsNil))))) (tYes) (dTup (dCons (dVar 4) (dCons (d2 addM (dAny 5) (dAny 1)) (dCons (dVar 6) (dNil))))) [4, 5, 6]) (dNil))) [3]) (dNil))) (gName 2))
    (sRet (d2 addM (d2 addM (d2 addM (dSlice sliceM (dAny 0) (oNone) (oSome (dC (.int 2)))) (dTup (dCons (d2 addM (d2 itemM (dAny 0) (dC (.int 2))) (dAny 1)) (dNil)))) (dSlice sliceM (dAny 0) (oSome (dC (.int 3))) (oSome (dC (.int 6))))) (dTup (dCons (dVar 2) (dNil))))))

def m_law_bound : List D → M D := run 8 4
    (sSeq (sPar [(4, false), (5, false)] (dCons (d2 itemM (dCall m_law_entry (dCons (dVar 0) (dCons (dVar 1) (dCons (dVar 3) (dNil))))) (dC (.int 2))) (dCons (d2 itemM (dCall m_law_entry (dCons (dVar 0) (dCons (dVar 2) (dCons (dVar 3) (dNil))))) (dC (.int 2))) (dNil))))
    (sSeq (sAsg (dComp (iSeq (dCall m_law_lengths (dCons (dVar 0) (dCons (dVar 2) (dCons (dVar 3) (dNil)))))) (gName 7) (tYes) (d2 subM (d2 mulM (d2 mulM (d2 subM (dAny 7) (dC (.int 1))) (d2 itemM (dAny 0) (dC (.int 3)))) (dAny 5)) (d2 mulM (d2 mulM (dAny 7) (d2 itemM (dAny 0) (dC (.int 3)))) (dAny 4))) [7]) (gName 6))
    (sRet (d2 addM (dCall (b1 maxM) (dCons (dAny 6) (dNil))) (dCall m_law_lag (dCons (dVar 0) (dCons (dVar 2) (dNil))))))))

def m_law_handed : List D → M D := runO 11 2
    (sSeq (sOwn 2 (dComp (iSeq (dVar 1)) (gName 9) (tYes) (dCall (b1 listM) (dCons (dAny 9) (dNil))) [9]))
    (sSeq (sFor (iRng1 (dCall (b1 lenM) (dCons (dAny 0) (dNil)))) (gName 3)
    (sFor (iEnum (dVar 0)) (gTup 2 (gsCons (gName 4) (gsCons (gTup 3 (gsCons (gName 5) (gsCons (gName 6) (gsCons (gName 7) (gsNil))))) (gsNil))))
    (sFor (iSeq (dCall m_law_out (dCons (dVar 0) (dCons (dVar 6) (dNil))))) (gName 8)
    (sSetL 2 (dVar 8) (d2 addM (d2 itemM (dAny 2) (dAny 8)) (dComp (iSeq (d2 itemM (dAny 2) (dAny 4))) (gName 10) (tAnd (tOf (d2 neM (dAny 10) (dAny 6))) (tOf (d2 ninM (dAny 10) (d2 itemM (dAny 2) (dAny 8))))) (dVar 10) [10]))))))
    (sRetOw 2)))

def m_law_is : List D → M D := run 6 3
    (sSeq (sAsg (dLst (dCons (dTup (dCons (dC (.str "BadArc")) (dCons (d1 (isM csL [.cls 11]) (dAny 0)) (dNil)))) (dCons (dTup (dCons (dC (.str "BadHouse")) (dCons (d1 (isM csL [.cls 10]) (dAny 0)) (dNil)))) (dNil)))) (gName 3))
    (sSeq (sAsg (d2 addM (dAny 3) (dLst (dCons (dTup (dCons (dC (.str "BadSeals")) (dCons (d1 (isM csL [.cls 12]) (dAny 0)) (dNil)))) (dNil)))) (gName 3))
    (sRet (dAnd (d2 eqM (dComp (iSeq (dVar 3)) (gTup 2 (gsCons (gName 4) (gsCons (gName 5) (gsNil)))) (tOf (dVar 5)) (dVar 4) [4, 5]) (dLst (dCons (dVar 1) (dNil)))) (dCall m_law_same (dCons (d1 (fldX cx_index) (dVar 0)) (dCons (dVar 2) (dNil))))))))

def m_law_triples : List D → M D := run 8 1
    (sSeq (sAsg (dLst (dNil)) (gName 1))
    (sSeq (sFor (iEnum (d2 itemM (dAny 0) (dC (.int 4)))) (gTup 2 (gsCons (gName 2) (gsCons (gTup 3 (gsCons (gName 3) (gsCons (gName 4) (gsCons (gName 5) (gsNil))))) (gsNil))))
    (sFor (iSeq (dCall m_law_out (dCons (d2 itemM (dAny 0) (dC (.int 4))) (dCons (dVar 4) (dNil))))) (gName 6)
    (sAsg (d2 addM (dAny 1) (dComp (iSeq (dCall m_law_asked (dCons (dVar 0) (dCons (dVar 2) (dNil))))) (gName 7) (tAnd (tOf (d2 neM (dAny 7) (dAny 4))) (tOf (d2 inM (dAny 7) (dCall m_law_asked (dCons (dVar 0) (dCons (dVar 6) (dNil))))))) (dTup (dCons (dVar 2) (dCons (dVar 6) (dCons (dVar 7) (dNil))))) [7])) (gName 1))))
    (sRet (dVar 1))))

def m_law_told_bound : List D → M D := run 10 5
    (sSeq (sAsg (dCall m_seal_lengths (dCons (dVar 0) (dCons (dVar 3) (dCons (dVar 4) (dNil))))) (gTup 2 (gsCons (gName 5) (gsCons (gName 6) (gsNil)))))
    (sSeq (sOwn 7 (dLst (dNil)))
    (sSeq (sFor (iRng2 (dAny 5) (d2 addM (dAny 6) (dC (.int 1)))) (gName 8)
    (sSeq (sAsg (d2 subM (dCall m_last_tick (dCons (dVar 0) (dCons (dVar 3) (dCons (dVar 4) (dCons (dVar 8) (dNil)))))) (dCall m_last_tick (dCons (dVar 0) (dCons (dVar 3) (dCons (dVar 4) (dCons (dC (.int 1)) (dNil))))))) (gName 9))
    (sAppend 7 (d2 addM (d2 subM (dAny 9) (dCall m_last_tick (dCons (dVar 0) (dCons (dVar 2) (dCons (dVar 4) (dCons (d2 addM (dAny 8) (dC (.int 1))) (dNil))))))) (dCall m_last_tick (dCons (dVar 0) (dCons (dVar 2) (dCons (dVar 4) (dCons (dC (.int 1)) (dNil))))))))))
    (sRet (d2 addM (dCall (b1 maxM) (dCons (dAny 7) (dNil))) (dCall m_law_lag (dCons (dVar 1) (dCons (dVar 3) (dNil)))))))))

def m_law_spot : List D → M D := run 3 3
    (sRet (dIndex (dCall m_law_asked (dCons (dVar 0) (dCons (dVar 1) (dNil)))) (dAny 2)))

def m_law_triple_right : List D → M D := run 15 3
    (sSeq (sAsg (dVar 2) (gTup 3 (gsCons (gName 3) (gsCons (gName 4) (gsCons (gName 5) (gsNil))))))
    (sSeq (sAsg (dCall m_law_bound (dCons (dVar 0) (dCons (dVar 3) (dCons (dVar 4) (dCons (dVar 5) (dNil)))))) (gName 6))
    (sSeq (sIf (tNot (tOf (dCall m_law_same (dCons (dLst (dCons (dCall m_bound (dCons (dVar 1) (dCons (dVar 3) (dCons (dVar 4) (dCons (dVar 5) (dNil)))))) (dCons (dCallK m_bound [3, 2, 1, 0] (dCons (dVar 5) (dCons (dVar 4) (dCons (dVar 3) (dCons (dVar 1) (dNil)))))) (dNil)))) (dCons (dLst (dCons (dVar 6) (dCons (dVar 6) (dNil)))) (dNil))))))
    (sRet (dC (.bl false)))
    (sNext))
    (sSeq (sIf (tOr (tNot (tOf (dCall m_law_same (dCons (dCall m_law_told_bound (dCons (dVar 1) (dCons (dVar 0) (dCons (dVar 3) (dCons (dVar 4) (dCons (dVar 5) (dNil))))))) (dCons (dVar 6) (dNil)))))) (tNot (tOf (dCall m_law_same (dCons (dCall m_bound (dCons (dCall m_law_made (dCons (dCall m_law_later (dCons (dVar 0) (dCons (dC (.int 7)) (dNil)))) (dNil))) (dCons (dVar 3) (dCons (dVar 4) (dCons (dVar 5) (dNil)))))) (dCons (dVar 6) (dNil)))))))
    (sRet (dC (.bl false)))
    (sNext))
    (sSeq (sPar [(7, false), (8, false)] (dCons (d2 itemM (dCall m_law_entry (dCons (dVar 0) (dCons (dVar 3) (dCons (dVar 5) (dNil))))) (dC (.int 2))) (dCons (d2 itemM (dCall m_law_entry (dCons (dVar 0) (dCons (dVar 4) (dCons (dVar 5) (dNil))))) (dC (.int 2))) (dNil))))
    (sSeq (sIf (tOr (tAnd (tOf (d2 eqM (dAny 7) (dC (.int 0)))) (tAnd (tOf (d2 eqM (dAny 8) (dC (.int 0)))) (tOf (d2 neM (dAny 6) (dCall m_law_lag (dCons (dVar 0) (dCons (dVar 4) (dNil)))))))) (tAnd (tOf (d2 eqM (dAny 7) (dC (.int 1)))) (tAnd (tOf (d2 eqM (dAny 8) (dC (.int 1)))) (tOf (d2 neM (dAny 6) (d2 subM (dCall m_law_lag (dCons (dVar 0) (dCons (dVar 4) (dNil)))) (d2 itemM (dAny 0) (dC (.int 3)))))))))
    (sRet (dC (.bl false)))
    (sNext))
    (sSeq (sAsg (dCall (b2 max2M) (dCons (d2 itemM (dCall m_law_entry (dCons (dVar 0) (dCons (dVar 4) (dCons (dVar 5) (dNil))))) (dC (.int 1))) (dCons (d2 addM (d2 subM (d2 itemM (dAny 0) (dC (.int 2))) (dAny 6)) (dC (.int 1))) (dNil)))) (gName 9))
    (sSeq (sAsg (dCall m_law_with_last (dCons (dVar 0) (dCons (dVar 4) (dCons (dCall m_law_spot (dCons (dVar 0) (dCons (dVar 4) (dCons (dVar 5) (dNil))))) (dCons (dVar 9) (dCons (dVar 8) (dNil))))))) (gName 10))
    (sSeq (sFor (iSeq (dLst (dCons (dC (.int 0)) (dCons (dC (.int 1)) (dNil))))) (gName 11)
    (sSeq (sAsg (dCall m_law_with_last (dCons (dVar 10) (dCons (dVar 3) (dCons (dCall m_law_spot (dCons (dVar 0) (dCons (dVar 3) (dCons (dVar 5) (dNil))))) (dCons (d2 subM (d2 addM (dAny 9) (dAny 6)) (dAny 11)) (dCons (dVar 7) (dNil))))))) (gName 12))
    (sSeq (sAsg (dComp (iSeq (dCall m_law_lengths (dCons (dVar 0) (dCons (dVar 4) (dCons (dVar 5) (dNil)))))) (gName 14) (tYes) (d2 subM (dCall m_last_tick (dCons (dCall m_law_made (dCons (dVar 12) (dNil))) (dCons (dVar 3) (dCons (dVar 5) (dCons (d2 addM (dAny 14) (dC (.int 1))) (dNil)))))) (dCall m_law_last (dCons (dVar 12) (dCons (dVar 4) (dCons (dVar 5) (dCons (dVar 14) (dNil))))))) [14]) (gName 13))
    (sIf (tOf (d2 neM (d2 subM (dCall (b1 minM) (dCons (dAny 13) (dNil))) (dCall m_law_lag (dCons (dVar 0) (dCons (dVar 4) (dNil))))) (d1 negM (dAny 11))))
    (sRet (dC (.bl false)))
    (sNext)))))
    (sRet (dC (.bl true))))))))))))

def m_law_refused : List D → M D := run 13 3
    (sSeq (sPar [(3, false), (4, false)] (dCons (dCall m_law_pick (dCons (dVar 0) (dCons (dLst (dCons (dC .non) (dCons (dC (.int 5)) (dCons (dVar 1) (dNil))))) (dNil)))) (dCons (dCall m_law_pick (dCons (dVar 0) (dCons (dLst (dCons (d1 negM (dC (.int 1))) (dCons (dCall (b1 lenM) (dCons (d2 itemM (dAny 1) (dC (.int 4))) (dNil))) (dCons (dC .non) (dCons (dC (.bl true)) (dCons (dC (.str "0")) (dCons (dTup (dCons (dC (.int 0)) (dNil))) (dNil)))))))) (dNil)))) (dNil))))
    (sSeq (sAsg (dCall (b2 drawM) (dCons (dVar 0) (dCons (dCall (b1 lenM) (dCons (d2 itemM (dAny 1) (dC (.int 4))) (dNil))) (dNil)))) (gName 5))
    (sSeq (sAsg (d2 itemM (d2 itemM (d2 itemM (dAny 1) (dC (.int 4))) (dAny 5)) (dC (.int 1))) (gName 6))
    (sSeq (sIf (tNot (tOf (d1 (isM csL [.cls 2]) (dCaught cxAll (dCall m_bound (dCons (dVar 3) (dCons (dVar 4) (dCons (dVar 4) (dCons (dVar 4) (dNil))))))))))
    (sRet (dC (.bl false)))
    (sNext))
    (sSeq (sIf (tNot (tOf (dCall m_law_is (dCons (dCaught cxAll (dCall m_bound (dCons (dVar 2) (dCons (dVar 4) (dCons (dVar 4) (dCons (dVar 4) (dNil))))))) (dCons (dC (.str "BadArc")) (dCons (dC .non) (dNil)))))))
    (sRet (dC (.bl false)))
    (sNext))
    (sSeq (sAsg (dComp (iRng1 (dCall (b1 lenM) (dCons (d2 itemM (dAny 1) (dC (.int 4))) (dNil)))) (gName 11) (tOf (d2 neM (d2 itemM (d2 itemM (d2 itemM (dAny 1) (dC (.int 4))) (dAny 11)) (dC (.int 0))) (dAny 6))) (dVar 11) [11]) (gName 7))
    (sSeq (sIf (tNot (tOf (dCall m_law_is (dCons (dCaught cxAll (dCall m_bound (dCons (dVar 2) (dCons (dVar 5) (dCons (dCall m_law_pick (dCons (dVar 0) (dCons (d2 addM (dAny 7) (dLst (dCons (dVar 4) (dNil)))) (dNil)))) (dCons (dVar 4) (dNil))))))) (dCons (dC (.str "BadArc")) (dCons (dC .non) (dNil)))))))
    (sRet (dC (.bl false)))
    (sNext))
    (sSeq (sFor (iSeq (dCall m_law_out (dCons (d2 itemM (dAny 1) (dC (.int 4))) (dCons (dVar 6) (dNil))))) (gName 8)
    (sSeq (sAsg (dComp (iSeq (dCall m_law_asked (dCons (dVar 1) (dCons (dVar 5) (dNil))))) (gName 12) (tAnd (tOf (d2 inM (dAny 12) (dCall m_law_asked (dCons (dVar 1) (dCons (dVar 8) (dNil)))))) (tOf (d2 neM (dAny 12) (dAny 6)))) (dVar 12) [12]) (gName 9))
    (sSeq (sAsg (d2 addM (dComp (iRng1 (d2 itemM (dAny 1) (dC (.int 0)))) (gName 12) (tOf (d2 ninM (dAny 12) (dAny 9))) (dVar 12) [12]) (dLst (dCons (d1 negM (dC (.int 1))) (dCons (d2 itemM (dAny 1) (dC (.int 0))) (dCons (dC .non) (dCons (dC (.bl true)) (dNil))))))) (gName 10))
    (sIf (tNot (tOf (dCall m_law_is (dCons (dCaught cxAll (dCall m_bound (dCons (dVar 2) (dCons (dVar 5) (dCons (dVar 8) (dCons (dCall m_law_pick (dCons (dVar 0) (dCons (dVar 10) (dNil)))) (dNil))))))) (dCons (dC (.str "BadHouse")) (dCons (dC .non) (dNil)))))))
    (sRet (dC (.bl false)))
    (sNext)))))
    (sRet (dC (.bl true)))))))))))

def m_law_limits_right : List D → M D := run 5 3
    (sSeq (sAsg (dCall (b2 drawM) (dCons (dVar 0) (dCons (dCall (b1 lenM) (dCons (d2 itemM (dAny 1) (dC (.int 4))) (dNil))) (dNil)))) (gName 3))
    (sSeq (sFor (iSeq (dLst (dCons (dC (.int 0)) (dCons (d2 addM (d2 itemM (dAny 1) (dC (.int 0))) (dC (.int 1))) (dCons (dC .non) (dCons (dC (.bl true)) (dNil))))))) (gName 4)
    (sIf (tNot (tOf (dCall m_law_is (dCons (dCaught cxAll (dCall m_last_tick (dCons (dVar 2) (dCons (dVar 3) (dCons (dC (.int 0)) (dCons (dVar 4) (dNil))))))) (dCons (dC (.str "BadSeals")) (dCons (dC .non) (dNil)))))))
    (sRet (dC (.bl false)))
    (sNext)))
    (sRet (dC (.bl true)))))

def m_law_closed_deal : List D → M D := run 17 2
    (sSeq (sAsg (dVar 1) (gTup 3 (gsCons (gName 2) (gsCons (gName 3) (gsCons (gName 4) (gsNil))))))
    (sSeq (sOwn 5 (dLst (dNil)))
    (sSeq (sFor (iSeq (dVar 4)) (gTup 3 (gsCons (gName 6) (gsCons (gName 7) (gsCons (gName 8) (gsNil)))))
    (sSeq (sAsg (dIf (tOf (d2 eqM (dCall (b2 drawM) (dCons (dVar 0) (dCons (dC (.int 2)) (dNil)))) (dC (.int 0)))) (dLst (dCons (dVar 6) (dNil))) (dLst (dNil))) (gName 9))
    (sAppend 5 (d2 addM (dAny 9) (dIf (tOr (tOf (d2 eqM (dAny 9) (dLst (dNil)))) (tOf (d2 eqM (dCall (b2 drawM) (dCons (dVar 0) (dCons (dC (.int 3)) (dNil)))) (dC (.int 0))))) (dLst (dCons (dVar 7) (dNil))) (dLst (dNil)))))))
    (sSeq (sFrz [5] (sOwn 5 (dCall m_law_handed (dCons (dVar 4) (dCons (dVar 5) (dNil))))))
    (sSeq (sFor (iRng1 (dAny 2)) (gName 10)
    (sSeq (sAsg (dCall m_law_into (dCons (dVar 4) (dCons (dVar 10) (dNil)))) (gName 11))
    (sIf (tAnd (tOf (d2 neM (dAny 11) (dLst (dNil)))) (tOf (dCall (b1 allM) (dCons (dComp (iSeq (dVar 11)) (gName 16) (tYes) (d2 ninM (dAny 10) (d2 itemM (dAny 5) (dAny 16))) [16]) (dNil)))))
    (sSetL 5 (d2 itemM (dAny 11) (dC (.int 0))) (d2 addM (d2 itemM (dAny 5) (d2 itemM (dAny 11) (dC (.int 0)))) (dLst (dCons (dVar 10) (dNil)))))
    (sNext))))
    (sSeq (sAsg (dComp (iRng1 (dAny 2)) (gName 10) (tYes) (dCall (b1 intM) (dCons (d2 eqM (dCall (b2 drawM) (dCons (dVar 0) (dCons (dC (.int 3)) (dNil)))) (dC (.int 0))) (dNil))) [10]) (gName 12))
    (sSeq (sPar [(13, false), (14, true), (15, true)] (dCons (dCall (b2 drawM) (dCons (dVar 0) (dCons (dC (.int 4)) (dNil)))) (dCons (dLst (dNil)) (dCons (dLst (dNil)) (dNil)))))
    (sSeq (sFor (iEnum (dVar 4)) (gTup 2 (gsCons (gName 16) (gsCons (gTup 3 (gsCons (gName 6) (gsCons (gName 7) (gsCons (gName 8) (gsNil))))) (gsNil))))
    (sSeq (sAsg (dCall m_law_into (dCons (dVar 4) (dCons (dVar 6) (dNil)))) (gName 11))
    (sSeq (sAppend 14 (dCall (b1 tupleM) (dCons (dIf (tOf (d2 inM (dAny 6) (d2 itemM (dAny 5) (dAny 16)))) (dCall m_law_part (dCons (dVar 0) (dCons (dVar 11) (dCons (dC (.int 3)) (dNil))))) (dVar 11)) (dNil))))
    (sAppend 15 (dCall (b1 tupleM) (dCons (dComp (iSeq (dCall (b1 sortedM) (dCons (d2 itemM (dAny 5) (dAny 16)) (dNil)))) (gName 10) (tYes) (dTup (dCons (dVar 10) (dCons (d2 addM (dAny 13) (dCall (b2 drawM) (dCons (dVar 0) (dCons (dC (.int 4)) (dNil))))) (dCons (d2 modM (d2 addM (d2 itemM (dAny 12) (dAny 10)) (dCall (b1 intM) (dCons (d2 eqM (dCall (b2 drawM) (dCons (dVar 0) (dCons (dC (.int 12)) (dNil)))) (dC (.int 0))) (dNil)))) (dC (.int 2))) (dNil))))) [10]) (dNil)))))))
    (sRet (dTup (dCons (dVar 2) (dCons (dVar 3) (dCons (dVar 13) (dCons (d2 addM (dCall (b1 maxM) (dCons (dAny 3) (dNil))) (dCall (b2 drawM) (dCons (dVar 0) (dCons (dC (.int 4)) (dNil))))) (dCons (dVar 4) (dCons (dCall (b1 tupleM) (dCons (dAny 14) (dNil))) (dCons (dCall (b1 tupleM) (dCons (dAny 15) (dNil))) (dNil))))))))))))))))))

def b_law : XS :=
    sSeq (sFor (iRng1 (d2 addM (dC (.int 2)) (dCall (b2 min2M) (dCons (dCall (b1 lenM) (dCons (dAny 0) (dNil))) (dCons (dC (.int 4)) (dNil)))))) (gName 2)
    (sSeq (sAsg (dCall m_law_wish (dCons (dVar 1) (dCons (d2 addM (dC (.int 2)) (dCall (b2 drawM) (dCons (dVar 1) (dCons (dC (.int 5)) (dNil))))) (dCons (dC (.int 8)) (dNil))))) (gName 3))
    (sSeq (sAsg (dIf (tOf (d2 gtM (dCall (b2 drawM) (dCons (dVar 1) (dCons (dC (.int 3)) (dNil)))) (dC (.int 0)))) (dCall m_law_closed_deal (dCons (dVar 1) (dCons (dVar 3) (dNil)))) (dCall m_law_any_deal (dCons (dVar 1) (dCons (dVar 3) (dNil))))) (gName 4))
    (sSeq (sAsg (dCall m_law_made (dCons (dVar 4) (dNil))) (gName 5))
    (sSeq (sFor (iSeq (dSlice sliceM (dCall m_law_shuffled (dCons (dVar 1) (dCons (dCall m_law_triples (dCons (dVar 4) (dNil))) (dNil)))) (oNone) (oSome (dC (.int 6))))) (gName 6)
    (sIf (tNot (tOf (dCall m_law_triple_right (dCons (dVar 4) (dCons (dVar 5) (dCons (dVar 6) (dNil)))))))
    (sRet (dC (.bl false)))
    (sNext)))
    (sIf (tOr (tNot (tOf (dCall m_law_refused (dCons (dVar 1) (dCons (dVar 4) (dCons (dVar 5) (dNil))))))) (tNot (tOf (dCall m_law_limits_right (dCons (dVar 1) (dCons (dVar 4) (dCons (dVar 5) (dNil))))))))
    (sRet (dC (.bl false)))
    (sNext)))))))
    (sSeq (sPar [(7, false), (8, false)] (dCons (dLst (dCons (dTup (dCons (dC (.int 0)) (dCons (dC (.int 1)) (dCons (dC (.int 0)) (dNil))))) (dCons (dTup (dCons (dC (.int 1)) (dCons (dC (.int 2)) (dCons (dC (.int 0)) (dNil))))) (dCons (dTup (dCons (dC (.int 2)) (dCons (dC (.int 0)) (dCons (dC (.int 0)) (dNil))))) (dCons (dTup (dCons (dC (.int 2)) (dCons (dC (.int 1)) (dCons (dC (.int 0)) (dNil))))) (dNil)))))) (dCons (dLst (dCons (dLst (dNil)) (dCons (dLst (dNil)) (dCons (dLst (dNil)) (dCons (dLst (dNil)) (dNil)))))) (dNil))))
    (sSeq (sFor (iSeq (dLst (dCons (dTup (dCons (dC (.int 0)) (dCons (dC (.int 0)) (dCons (dC (.int 2)) (dNil))))) (dCons (dTup (dCons (dC (.int 1)) (dCons (dC (.int 1)) (dCons (d1 negM (dC (.int 3))) (dNil))))) (dCons (dTup (dCons (dC (.int 1)) (dCons (dC (.int 0)) (dCons (d1 negM (dC (.int 8))) (dNil))))) (dCons (dTup (dCons (dC (.int 0)) (dCons (dC (.int 1)) (dCons (dC (.int 12)) (dNil))))) (dNil))))))) (gTup 3 (gsCons (gName 9) (gsCons (gName 10) (gsCons (gName 11) (gsNil)))))
    (sSeq (sAsg (dLst (dCons (dLst (dCons (dTup (dCons (dC (.int 3)) (dCons (dC (.int 0)) (dCons (dVar 9) (dNil))))) (dNil))) (dCons (dLst (dCons (dTup (dCons (dC (.int 3)) (dCons (dC (.int 0)) (dCons (dVar 10) (dNil))))) (dNil))) (dCons (dLst (dCons (dTup (dCons (dC (.int 3)) (dCons (dC (.int 0)) (dCons (dC (.int 0)) (dNil))))) (dNil))) (dCons (dLst (dCons (dTup (dCons (dC (.int 3)) (dCons (dC (.int 0)) (dCons (dC (.int 1)) (dNil))))) (dNil))) (dNil)))))) (gName 12))
    (sIf (tNot (tOf (dCall m_law_same (dCons (dCall m_bound (dCons (dCall mk_Deal (dCons (dC (.int 4)) (dCons (dLst (dCons (dC (.int 2)) (dNil))) (dCons (dC (.int 0)) (dCons (dC (.int 5)) (dCons (dVar 7) (dCons (dVar 8) (dCons (dVar 12) (dNil))))))))) (dCons (dC (.int 0)) (dCons (dC (.int 1)) (dCons (dC (.int 3)) (dNil)))))) (dCons (dVar 11) (dNil))))))
    (sRet (dC (.bl false)))
    (sNext))))
    (sRet (dC (.bl true)))))

end K47
end
section
/-! K47A: deals of valid parts. -/
set_option autoImplicit false
set_option linter.all false
set_option maxRecDepth 10000
set_option maxHeartbeats 1000000
namespace K47
open PySem (Str)
open DL
@[simp] theorem isM_int {ks : List Kd} {j : Int} : isM csL ks (.int j) = pure (.bl (ks.any (isKd csL (.int j)))) := by unfold isM; rw [need_bnd (by rfl)]
@[simp] theorem isM_bl {ks : List Kd} {j : Bool} : isM csL ks (.bl j) = pure (.bl (ks.any (isKd csL (.bl j)))) := by unfold isM; rw [need_bnd (by rfl)]
@[simp] theorem isM_non {ks : List Kd} : isM csL ks .non = pure (.bl (ks.any (isKd csL .non))) := by unfold isM; rw [need_bnd (by rfl)]
@[simp] theorem isM_str {ks : List Kd} {x : Str} : isM csL ks (.str x) = pure (.bl (ks.any (isKd csL (.str x)))) := by unfold isM; rw [need_bnd (by rfl)]
@[simp] theorem isM_lst {ks : List Kd} {ds : List D} : isM csL ks (.lst ds) = pure (.bl (ks.any (isKd csL (.lst ds)))) := by unfold isM; rw [need_bnd (by rfl)]
@[simp] theorem isM_tup {ks : List Kd} {ds : List D} : isM csL ks (.tup ds) = pure (.bl (ks.any (isKd csL (.tup ds)))) := by unfold isM; rw [need_bnd (by rfl)]
theorem isM_of {ks : List Kd} {d : D} (h : tyD csL d = true) : isM csL ks d = pure (.bl (ks.any (isKd csL d))) := by unfold isM; rw [need_bnd h]
@[simp] theorem is_number_int {j : Int} : m_is_number [.int j] = pure (.bl true) := by
  unfold m_is_number
  rw [ev_run (by rfl)]
  simp [isKd]
theorem is_number_no {d : D} (h : tyD csL d = true) (h2 : ∀ j, d ≠ .int j) : m_is_number [d] = pure (.bl false) := by
  unfold m_is_number
  rw [ev_run (by rfl)]
  cases d <;> first | (exact (h2 _ rfl).elim) | (simp [isM_of h, isKd])
@[simp] theorem is_between_int {j lo hi : Int} : m_is_between [.int j, .int lo, .int hi] = pure (.bl (decide (lo ≤ j) && decide (j ≤ hi))) := by
  unfold m_is_between
  rw [ev_run (by rfl)]
  by_cases h : lo ≤ j <;> simp [h]
theorem is_between_no {d lo hi : D} (h : tyD csL d = true) (h2 : ∀ j, d ≠ .int j) : m_is_between [d, lo, hi] = pure (.bl false) := by
  unfold m_is_between
  rw [ev_run (by rfl)]
  simp [is_number_no h h2]
/-! ### parts -/
abbrev Ar : Type := Int × Int × Int
def arD (a : Ar) : D := .tup [.int a.1, .int a.2.1, .int a.2.2]
structure Pts where
  h : Int
  lags : List Int
  start : Int
  gap : Int
  arcs : List Ar
  waits : List (List Int)
  locks : List (List Ar)
structure Pts.Ok (p : Pts) : Prop where
  h2 : 2 ≤ p.h
  h12 : p.h ≤ 12
  lg0 : p.lags ≠ []
  lg4 : p.lags.length ≤ 4
  lg : ∀ x ∈ p.lags, 1 ≤ x ∧ x ≤ 1000
  s0 : 0 ≤ p.start
  s1 : p.start ≤ 100000000
  g0 : ∀ x ∈ p.lags, x ≤ p.gap
  g1 : p.gap ≤ 1000000
  a0 : p.arcs ≠ []
  a24 : p.arcs.length ≤ 24
  ar : ∀ a ∈ p.arcs, 0 ≤ a.1 ∧ a.1 < p.h ∧ 0 ≤ a.2.1 ∧ a.2.1 < p.h ∧ a.1 ≠ a.2.1 ∧ 0 ≤ a.2.2 ∧ a.2.2 < p.lags.length
  wl : p.waits.length = p.arcs.length
  wt : ∀ (i : Nat) w, p.waits[i]? = some w → Rise w ∧ w.length ≤ 24 ∧ ∀ x ∈ w, 0 ≤ x ∧ ∃ a b, p.arcs[x.toNat]? = some a ∧ p.arcs[i]? = some b ∧ a.2.1 = b.1
  ll : p.locks.length = p.arcs.length
  lk : ∀ l ∈ p.locks, l ≠ [] ∧ l.length ≤ p.h ∧ Rise (l.map (·.1)) ∧ ∀ e ∈ l, 0 ≤ e.1 ∧ e.1 < p.h ∧ p.start ≤ e.2.1 ∧ e.2.1 ≤ 1000000000 ∧ 0 ≤ e.2.2 ∧ e.2.2 ≤ 1
/-- a list or a tuple of these -/
inductive Sq : D → List D → Prop
  | lst (ds : List D) : Sq (.lst ds) ds
  | tup (ds : List D) : Sq (.tup ds) ds
theorem Sq.seq {d : D} {ds : List D} (h : Sq d ds) : seqL d = some ds := by cases h <;> rfl
theorem Sq.len {d : D} {ds : List D} (h : Sq d ds) : lenM d = pure (.int ds.length) := by cases h <;> rfl
theorem Sq.item {d : D} {ds : List D} (h : Sq d ds) (j : Int) : itemM d (.int j) = M.get (atD ds j) := by cases h <;> rfl
theorem Sq.iter {d : D} {ds : List D} (h : Sq d ds) : iterM d = pure ds := by cases h <;> rfl
theorem Sq.enum {d : D} {ds : List D} (h : Sq d ds) : enumM d = pure (enumFrom 0 ds) := by cases h <;> rfl
theorem Sq.tuple {d : D} {ds : List D} (h : Sq d ds) : tupleM d = pure (.tup ds) := by cases h <;> rfl
theorem Sq.max {d : D} {ns : List Int} (h : Sq d (ns.map D.int)) {m : Int} (hm : maxL ns = some m) : maxM d = pure (.int m) := by
  cases h <;> (unfold maxM intsOf; simp [asInts_map, hm])
@[simp] theorem Sq.isl {d : D} {ds : List D} (h : Sq d ds) : m_is_list [d] = pure (.bl true) := by
  unfold m_is_list
  rw [ev_run (by rfl)]
  cases h <;> simp [isKd]
/-! ### a deal's checks -/
theorem first_fall_ok {d : D} {l : List Int} (hd : Sq d (l.map D.int)) (hl : l.length ≤ 1000) (hr : Rise l) : m_first_fall [d] = pure .non := by
  unfold m_first_fall
  rw [ev_run (by rfl)]
  have er : range2M (.int 1) (.int l.length) = pure (rangeL 1 l.length) := range2_ok (by omega) (by omega) (by omega) (by omega) (by omega)
  obtain ⟨ρ', h1, s, rfl⟩ := forL_pure (g := gName 1) (b := sIf (tNot (tOf (d2 ltM (d2 itemM (dAny 0) (d2 subM (dAny 1) (dC (.int 1)))) (d2 itemM (dAny 0) (dAny 1))))) (sRet (dVar 1)) sNext)
    (fun ρ => ∃ s, ρ = [Slot.sh d, s]) (xs := rangeL 1 l.length) (ρ := [Slot.sh d, Slot.no]) ⟨_, rfl⟩ (fun x hx ρ ⟨s, e⟩ => by
      subst e
      obtain ⟨k, rfl, hk1, hk2⟩ := rangeL_mem hx
      refine ⟨[.sh d, .sh (.int k)], ?_, _, rfl⟩
      obtain ⟨u, v, e1, e2, e5⟩ : ∃ u v, atD l (k - 1) = some u ∧ atD l k = some v ∧ u < v := by
        refine ⟨l[(k - 1).toNat]'(by omega), l[k.toNat]'(by omega), atD_of (by omega) (List.getElem?_eq_getElem (by omega)), atD_of (by omega) (List.getElem?_eq_getElem (by omega)), ?_⟩
        have e4 := hr.at_ (i := (k - 1).toNat) (by omega)
        have : l[(k - 1).toNat + 1]'(by omega) = l[k.toNat]'(by omega) := by congr 1; omega
        omega
      simp [hd.item, atD_map, e1, e2, e5])
  simp [hd.len, er, h1]
theorem isr_ok {d : D} {l : List Int} {lo hi : Int} (hd : Sq d (l.map D.int)) (hl : l.length ≤ 1000) (hr : Rise l) (hb : ∀ x ∈ l, lo ≤ x ∧ x ≤ hi) : m_is_rising_list [d, .int lo, .int hi] = pure (.bl true) := by
  have hw : m_wrong_rise [d, .int lo, .int hi] = pure .non := by
    show run 6 3 _ _ = _
    rw [ev_run (by rfl)]
    have hf : dFw (dVar 0) 5 (dCall m_is_between (dCons (dVar 5) (dCons (dVar 1) (dCons (dVar 2) dNil)))) [Slot.sh d, .sh (.int lo), .sh (.int hi), .no, .no, .no] = pure .non := fw_ok (x := d) (by simp) hd.seq fun x hx => by
      obtain ⟨z, hz, rfl⟩ := List.mem_map.mp hx
      obtain ⟨h1, h2⟩ := hb z hz
      simp [h1, h2]
    simp [hf, first_fall_ok hd hl hr]
  show run 3 3 _ _ = _
  rw [ev_run (by rfl)]
  simp [hd.isl, hw]
theorem need_houses_ok {j : Int} (h : 2 ≤ j) (h2 : j ≤ 12) : m_need_houses [.int j] = pure .non := by
  show run 1 1 _ _ = _
  rw [ev_run (by rfl)]
  simp [h, h2]
theorem need_start_ok {j : Int} (h : 0 ≤ j) (h2 : j ≤ 100000000) : m_need_start [.int j] = pure .non := by
  show run 1 1 _ _ = _
  rw [ev_run (by rfl)]
  simp [h, h2]
theorem len_pos {α : Type} {l : List α} (h : l ≠ []) : 1 ≤ l.length := by
  cases l with
  | nil => exact (h rfl).elim
  | cons _ _ => simp
theorem need_lags_ok {d : D} {l : List Int} (hd : Sq d (l.map D.int)) (h0 : l ≠ []) (h4 : l.length ≤ 4) (hb : ∀ x ∈ l, 1 ≤ x ∧ x ≤ 1000) : m_need_lags [d] = pure .non := by
  show run 3 1 _ _ = _
  rw [ev_run (by rfl)]
  have h1 := len_pos h0
  have hf : dFw (dVar 0) 2 (dCall m_is_between (dCons (dVar 2) (dCons (dC (.int 1)) (dCons (dC (.int 1000)) dNil)))) [Slot.sh d, Slot.no, Slot.no] = pure .non := fw_ok (x := d) (by simp) hd.seq fun x hx => by
    obtain ⟨z, hz, rfl⟩ := List.mem_map.mp hx
    obtain ⟨h1, h2⟩ := hb z hz
    simp [h1, h2]
  simp [hd.isl, hd.len, show (1 : Int) ≤ l.length by omega, show (l.length : Int) ≤ 4 by omega, hf]
theorem maxL_some {l : List Int} (h : l ≠ []) : ∃ m, maxL l = some m ∧ m ∈ l ∧ ∀ x ∈ l, x ≤ m := by
  cases l with
  | nil => exact (h rfl).elim
  | cons x r =>
    obtain ⟨h1, h2⟩ := maxL_spec r x
    exact ⟨_, rfl, h1, h2⟩
theorem need_gap_ok {d : D} {l : List Int} {g : Int} (hd : Sq d (l.map D.int)) (h0 : l ≠ []) (hb : ∀ x ∈ l, x ≤ g) (h1 : g ≤ 1000000) : m_need_gap [.int g, d] = pure .non := by
  obtain ⟨m, hm, hm1, hm2⟩ := maxL_some h0
  show run 2 2 _ _ = _
  rw [ev_run (by rfl)]
  simp [hd.max hm, hb m hm1, h1]
theorem is_arc_ok {a : Ar} {h k : Int} (h1 : 0 ≤ a.1 ∧ a.1 < h ∧ 0 ≤ a.2.1 ∧ a.2.1 < h ∧ a.1 ≠ a.2.1 ∧ 0 ≤ a.2.2 ∧ a.2.2 < k) : m_is_arc [arD a, .int h, .int k] = pure (.bl true) := by
  obtain ⟨x, y, z⟩ := a
  obtain ⟨q1, q2, q3, q4, q5, q6, q7⟩ := h1
  simp only at q1 q2 q3 q4 q5 q6 q7
  have e1 : x ≤ h - 1 := by omega
  have e2 : y ≤ h - 1 := by omega
  have e3 : z ≤ k - 1 := by omega
  have e4 : m_is_list [D.tup [.int x, .int y, .int z]] = pure (.bl true) := (Sq.tup _).isl
  show run 3 3 _ [D.tup [.int x, .int y, .int z], .int h, .int k] = _
  rw [ev_run (by rfl)]
  simp [e4, q1, q3, q5, q6, e1, e2, e3]
theorem need_arcs_ok {d : D} {as : List Ar} {h k : Int} (hd : Sq d (as.map arD)) (h0 : as ≠ []) (h24 : as.length ≤ 24) (ha : ∀ a ∈ as, 0 ≤ a.1 ∧ a.1 < h ∧ 0 ≤ a.2.1 ∧ a.2.1 < h ∧ a.1 ≠ a.2.1 ∧ 0 ≤ a.2.2 ∧ a.2.2 < k) : m_need_arcs [d, .int h, .int k, .int 1] = pure .non := by
  show run 6 4 _ _ = _
  rw [ev_run (by rfl)]
  have h1 := len_pos h0
  have hf : dFw (dVar 0) 5 (dCall m_is_arc (dCons (dVar 5) (dCons (dVar 1) (dCons (dVar 2) dNil)))) [Slot.sh d, Slot.sh (.int h), Slot.sh (.int k), Slot.sh (.int 1), Slot.no, Slot.no] = pure .non := fw_ok (x := d) (by simp) hd.seq fun x hx => by
    obtain ⟨z, hz, rfl⟩ := List.mem_map.mp hx
    simp [is_arc_ok (ha z hz)]
  simp [hd.isl, hd.len, show (1 : Int) ≤ as.length by omega, show (as.length : Int) ≤ 24 by omega, hf]
theorem is_entry_ok {e : Ar} {h s : Int} (q : 0 ≤ e.1 ∧ e.1 < h ∧ s ≤ e.2.1 ∧ e.2.1 ≤ 1000000000 ∧ 0 ≤ e.2.2 ∧ e.2.2 ≤ 1) : m_is_entry [arD e, .int h, .int s] = pure (.bl true) := by
  obtain ⟨x, y, z⟩ := e
  obtain ⟨q1, q2, q3, q4, q5, q6⟩ := q
  simp only at q1 q2 q3 q4 q5 q6
  have e1 : x ≤ h - 1 := by omega
  have e4 : m_is_list [D.tup [.int x, .int y, .int z]] = pure (.bl true) := (Sq.tup _).isl
  show run 3 3 _ [D.tup [.int x, .int y, .int z], .int h, .int s] = _
  rw [ev_run (by rfl)]
  simp [e4, q1, q3, q4, q5, q6, e1]
theorem is_lock_ok {d : D} {l : List Ar} {h s : Int} (hd : Sq d (l.map arD)) (h0 : l ≠ []) (hl : l.length ≤ h) (h12 : h ≤ 12) (hr : Rise (l.map (·.1))) (he : ∀ e ∈ l, 0 ≤ e.1 ∧ e.1 < h ∧ s ≤ e.2.1 ∧ e.2.1 ≤ 1000000000 ∧ 0 ≤ e.2.2 ∧ e.2.2 ≤ 1) : m_is_lock [d, .int h, .int s] = pure (.bl true) := by
  show run 4 3 _ _ = _
  rw [ev_run (by rfl)]
  have h1 := len_pos h0
  have hf : dFw (dVar 0) 3 (dCall m_is_entry (dCons (dVar 3) (dCons (dVar 1) (dCons (dVar 2) dNil)))) [Slot.sh d, Slot.sh (.int h), Slot.sh (.int s), Slot.no] = pure .non := fw_ok (x := d) (by simp) hd.seq fun x hx => by
    obtain ⟨z, hz, rfl⟩ := List.mem_map.mp hx
    simp [is_entry_ok (he z hz)]
  have hc : compL (gName 3) tYes (d2 itemM (dAny 3) (dC (.int 0))) [Slot.sh d, Slot.sh (.int h), Slot.sh (.int s), Slot.no] (l.map arD) = pure (((l.map (·.1)).map D.int)) := by
    rw [compL_pure (fun x => [Slot.sh d, Slot.sh (.int h), Slot.sh (.int s), Slot.sh x]) (fun _ => true) (fun x => match x with | .tup (y :: _) => y | _ => .non) (fun x hx => by
      obtain ⟨z, hz, rfl⟩ := List.mem_map.mp hx
      simp [arD])]
    congr 1
    rw [List.filter_eq_self.mpr (fun _ _ => rfl), List.map_map, List.map_map]
    rfl
  have hff := first_fall_ok (Sq.lst _) (show (l.map (·.1)).length ≤ 1000 by rw [List.length_map]; omega) hr
  simp only [List.map_map] at hff hc
  simp [hd.isl, hd.len, hd.iter, show (1 : Int) ≤ l.length by omega, hl, hf, hc, hff]
theorem need_locks_ok {d : D} {ds : List D} {ls : List (List Ar)} {h s : Int} (hd : Sq d ds) (hl : ds.length = ls.length) (hs : ∀ (i : Nat) x l, ds[i]? = some x → ls[i]? = some l → Sq x (l.map arD)) (h12 : h ≤ 12) (hk : ∀ l ∈ ls, l ≠ [] ∧ l.length ≤ h ∧ Rise (l.map (·.1)) ∧ ∀ e ∈ l, 0 ≤ e.1 ∧ e.1 < h ∧ s ≤ e.2.1 ∧ e.2.1 ≤ 1000000000 ∧ 0 ≤ e.2.2 ∧ e.2.2 ≤ 1) :
    m_need_locks [d, .int h, .int s, .int ds.length] = pure .non := by
  show run 6 4 _ _ = _
  rw [ev_run (by rfl)]
  have hf : dFw (dVar 0) 5 (dCall m_is_lock (dCons (dVar 5) (dCons (dVar 1) (dCons (dVar 2) dNil)))) [Slot.sh d, Slot.sh (.int h), Slot.sh (.int s), Slot.sh (.int ds.length), Slot.no, Slot.no] = pure .non := fw_ok (x := d) (by simp) hd.seq fun x hx => by
    obtain ⟨i, hi, e⟩ := List.mem_iff_getElem.mp hx
    have hi2 : i < ls.length := by omega
    obtain ⟨k1, k2, k3, k4⟩ := hk _ (List.getElem_mem hi2)
    have q := is_lock_ok (hs i x _ (by rw [List.getElem?_eq_getElem hi, e]) (List.getElem?_eq_getElem hi2)) k1 k2 h12 k3 k4
    simp [q]
  simp [hd.isl, hd.len, hf]
/-- rows, each a list or a tuple -/
inductive Sqs : List D → List (List D) → Prop
  | nil : Sqs [] []
  | cons {d : D} {ds l : List D} {ls : List (List D)} : Sq d l → Sqs ds ls → Sqs (d :: ds) (l :: ls)
theorem Sqs.len : ∀ {ds : List D} {ls : List (List D)}, Sqs ds ls → ds.length = ls.length
  | _, _, .nil => rfl
  | _, _, .cons _ r => by rw [List.length_cons, List.length_cons, r.len]
theorem Sqs.at_ : ∀ {ds : List D} {ls : List (List D)} {i : Nat} {x : D} {l : List D}, Sqs ds ls → ds[i]? = some x → ls[i]? = some l → Sq x l
  | _, _, _, _, _, .nil, h, _ => by simp at h
  | _, _, 0, _, _, .cons h _, h1, h2 => by simp at h1 h2; subst h1 h2; exact h
  | _, _, i + 1, _, _, .cons _ r, h1, h2 => Sqs.at_ (i := i) r (by simpa using h1) (by simpa using h2)
theorem sqs_tup (ls : List (List D)) : Sqs (ls.map D.tup) ls := by
  induction ls with
  | nil => exact .nil
  | cons l r ih => exact .cons (.tup l) ih
theorem enumFrom_mem {x : D} {ds : List D} {k : Nat} (h : x ∈ enumFrom k ds) : ∃ (i : Nat) (y : D), ds[i]? = some y ∧ x = .tup [.int ((k + i : Nat) : Int), y] := by
  obtain ⟨i, hi⟩ := List.mem_iff_getElem?.mp h
  rw [enumFrom_get] at hi
  obtain ⟨y, hy, e⟩ := Option.map_eq_some_iff.mp hi
  exact ⟨i, y, hy, e.symm⟩
theorem any_no {α : Type} {l : List α} : anyM (.lst (l.map fun _ => D.bl false)) = pure (.bl false) := by
  have e : asBls (l.map fun _ => D.bl false) = some (l.map fun _ => false) := by
    induction l with
    | nil => rfl
    | cons a r ih => simp [asBls, ih]
  have e2 : (l.any fun _ => false) = false := by
    induction l with
    | nil => rfl
    | cons a r ih => simp
  show ((M.get (asBls (l.map fun _ => D.bl false)) >>= fun bs => pure (D.bl (bs.any id))) : M D) = _
  rw [e]
  simp [e2]
theorem need_waits_ok {d da : D} {ds : List D} {ws : List (List Int)} {as : List Ar} (hd : Sq d ds) (hs : Sqs ds (ws.map fun w => w.map D.int)) (ha : Sq da (as.map arD)) (wl : ws.length = as.length) (a24 : as.length ≤ 24)
    (wt : ∀ (i : Nat) w, ws[i]? = some w → Rise w ∧ w.length ≤ 24 ∧ ∀ x ∈ w, 0 ≤ x ∧ ∃ a b, as[x.toNat]? = some a ∧ as[i]? = some b ∧ a.2.1 = b.1) : m_need_waits [d, da] = pure .non := by
  show run 5 2 _ _ = _
  rw [ev_run (by rfl)]
  have hl : ds.length = as.length := by rw [hs.len, List.length_map, wl]
  obtain ⟨ρ', h1, s2, s3, rfl⟩ := forL_pure (g := gTup 2 (gsCons (gName 2) (gsCons (gName 3) (gsNil)))) (b := sSeq (sIf (tNot (tOf (dCall m_is_rising_list (dCons (dVar 3) (dCons (dC (.int 0)) (dCons (d2 subM (dCall (b1 lenM) (dCons (dAny 1) (dNil))) (dC (.int 1))) (dNil)))))))
    (sRaise1 8 (dVar 2))
    (sNext))
    (sIf (tOf (dCall (b1 anyM) (dCons (dComp (iSeq (dVar 3)) (gName 4) (tYes) (d2 neM (d2 itemM (d2 itemM (dAny 1) (dAny 4)) (dC (.int 1))) (d2 itemM (d2 itemM (dAny 1) (dAny 2)) (dC (.int 0)))) [4]) (dNil))))
    (sRaise1 8 (dVar 2))
    (sNext)))
    (fun ρ => ∃ s2 s3, ρ = [Slot.sh d, Slot.sh da, s2, s3, .no]) (xs := enumFrom 0 ds) (ρ := [Slot.sh d, Slot.sh da, .no, .no, .no]) ⟨_, _, rfl⟩ (fun x hx ρ ⟨s2, s3, e⟩ => by
      subst e
      obtain ⟨i, y, hy, rfl⟩ := enumFrom_mem hx
      have hi : i < ws.length := by rw [wl, ← hl]; exact (List.getElem?_eq_some_iff.mp hy).1
      have hw := List.getElem?_eq_getElem hi
      obtain ⟨k1, k2, k3⟩ := wt i _ hw
      have hq : Sq y ((ws[i]).map D.int) := hs.at_ hy (by rw [List.getElem?_map, hw]; rfl)
      have hr := isr_ok (lo := 0) (hi := (as.length : Int) - 1) hq (by omega) k1 fun x hx => by
        obtain ⟨q1, a, b, q2, _⟩ := k3 x hx
        have := (List.getElem?_eq_some_iff.mp q2).1
        omega
      rw [Nat.zero_add]
      have hc : compL (gName 4) tYes (d2 neM (d2 itemM (d2 itemM (dAny 1) (dAny 4)) (dC (.int 1))) (d2 itemM (d2 itemM (dAny 1) (dAny 2)) (dC (.int 0)))) [Slot.sh d, Slot.sh da, Slot.sh (.int i), Slot.sh y, .no] ((ws[i]).map D.int) = pure ((ws[i]).map fun _ => D.bl false) := by
        rw [compL_pure (fun x => [Slot.sh d, Slot.sh da, Slot.sh (.int i), Slot.sh y, .sh x]) (fun _ => true) (fun _ => .bl false) (fun x hx => by
          obtain ⟨z, hz, rfl⟩ := List.mem_map.mp hx
          obtain ⟨q1, a, b, q2, q3, q4⟩ := k3 z hz
          have e1 : atD as z = some a := atD_of q1 q2
          have e2 : atD as (i : Int) = some b := atD_of (by omega) (by rw [Int.toNat_natCast]; exact q3)
          simp [ha.item, atD_map, e1, e2, arD, q4])]
        congr 1
        rw [List.filter_eq_self.mpr (fun _ _ => rfl), List.map_map]
        rfl
      refine ⟨[.sh d, .sh da, .sh (.int i), .sh y, .no], ?_, _, _, rfl⟩
      simp [ha.len, hr, hq.iter, hc, any_no])
  simp [hd.isl, hd.len, ha.len, hl, hd.enum, h1]
/-! ### the deal -/
def dealD (p : Pts) : D := .obj 13 [.int p.h, .tup (p.lags.map D.int), .int p.start, .int p.gap, .tup (p.arcs.map arD), .tup (p.waits.map fun w => .tup (w.map D.int)), .tup (p.locks.map fun l => .tup (l.map arD))]
theorem comp_tup {j : Nat} {ρ : Env} (hj : j < ρ.length) : ∀ {ds : List D} {ls : List (List D)}, Sqs ds ls → compL (gName j) tYes (dCall (b1 tupleM) (dCons (dAny j) dNil)) ρ ds = pure (ls.map D.tup)
  | _, _, .nil => by rw [compL]; rfl
  | _, _, .cons (d := d) h r => by
    have e : getAny (ρ.set j (.sh d)) j = pure d := by
      unfold getAny
      rw [List.getElem?_set_self hj]
    rw [compL]
    simp [e, h.tuple, comp_tup hj r]
theorem comp_tup2 {j k : Nat} {ρ : Env} (hj : j < ρ.length) (hk : k < ρ.length) (hjk : j ≠ k) (hno : ∀ d, ρ[k]? ≠ some (.ow d)) : ∀ {ds : List D} {ls : List (List (List D))}, Sqs ds (ls.map fun l => l.map D.tup) → compL (gName j) tYes (dCall (b1 tupleM) (dCons (dComp (iSeq (dVar j)) (gName k) tYes (dCall (b1 tupleM) (dCons (dAny k) dNil)) [k]) dNil)) ρ ds = pure (ls.map fun l => .tup (l.map D.tup))
  | [], [], _ => by rw [compL]; rfl
  | [], _ :: _, h => by cases h
  | _ :: _, [], h => by cases h
  | d :: ds, l :: ls, h => by
    cases h with
    | cons h r =>
      have e : getSh (ρ.set j (.sh d)) j = pure d := by
        unfold getSh
        rw [List.getElem?_set_self hj]
      have e2 : noOw [k] (ρ.set j (.sh d)) = true := by
        have : (ρ.set j (.sh d))[k]? = ρ[k]? := List.getElem?_set_ne hjk
        unfold noOw
        rw [List.all_cons, List.all_nil, this]
        cases q : ρ[k]? with
        | none => rfl
        | some s => cases s <;> first | rfl | exact (hno _ q).elim
      have e3 := comp_tup (j := k) (ρ := (ρ.set j (.sh d)).set k .no) (by rw [List.length_set, List.length_set]; exact hk) (sqs_tup l)
      rw [compL]
      simp only [ev_gName, calm_pure, pure_bnd, ev_tYes, ev_call, ev_cons, ev_comp, ev_iSeq, ev_var, e, h.iter, bnd_bnd, kCo_ok e2, wipe_cons, wipe_nil, e3, kLs_eq, kC_eq, ev_nil, kC2_eq, ev_b1, tuple_lst, comp_tup2 hj hk hjk hno r, List.map_cons]
theorem make_ok {p : Pts} (ok : p.Ok) {dl da dw dk : D} {ws ks : List D} (hl : Sq dl (p.lags.map D.int)) (ha : Sq da (p.arcs.map arD)) (hw : Sq dw ws) (hws : Sqs ws (p.waits.map fun w => w.map D.int)) (hk : Sq dk ks) (hks : Sqs ks (p.locks.map fun l => l.map arD)) :
    mk_Deal [.int p.h, dl, .int p.start, .int p.gap, da, dw, dk] = pure (dealD p) := by
  show runInit 12 7 13 _ _ = _
  rw [ev_runInit (by rfl)]
  have n1 := need_houses_ok ok.h2 ok.h12
  have n2 := need_lags_ok hl ok.lg0 ok.lg4 ok.lg
  have n3 := need_start_ok ok.s0 ok.s1
  have n4 := need_gap_ok hl ok.lg0 ok.g0 ok.g1
  have n5 := need_arcs_ok ha ok.a0 ok.a24 ok.ar
  have n6 := need_waits_ok hw hws ha ok.wl ok.a24 ok.wt
  have kl : ks.length = p.locks.length := by rw [hks.len, List.length_map]
  have n7 := need_locks_ok (h := p.h) (s := p.start) hk kl (fun i x l h1 h2 => hks.at_ h1 (by rw [List.getElem?_map, h2]; rfl)) ok.h12 ok.lk
  rw [kl, ok.ll] at n7
  have sa : Sqs (p.arcs.map arD) (p.arcs.map fun a => [D.int a.1, .int a.2.1, .int a.2.2]) := by
    have := sqs_tup (p.arcs.map fun a => [D.int a.1, .int a.2.1, .int a.2.2])
    rw [List.map_map] at this
    exact this
  have c8 := fun (ρ : Env) (h : 8 < ρ.length) => comp_tup (j := 8) (ρ := ρ) h sa
  have c9 := fun (ρ : Env) (h : 9 < ρ.length) => comp_tup (j := 9) (ρ := ρ) h hws
  have sk : Sqs ks ((p.locks.map fun l => l.map fun a => [D.int a.1, .int a.2.1, .int a.2.2]).map fun l => l.map D.tup) := by
    rw [List.map_map]
    have e : ((fun l : List (List D) => l.map D.tup) ∘ fun l : List Ar => l.map fun a => [D.int a.1, .int a.2.1, .int a.2.2]) = fun l => l.map arD := by
      funext l
      show (l.map fun a => [D.int a.1, .int a.2.1, .int a.2.2]).map D.tup = _
      rw [List.map_map]
      rfl
    rw [e]
    exact hks
  have c10 := fun (ρ : Env) (h : 10 < ρ.length) (h2 : 11 < ρ.length) (h3 : ∀ d, ρ[11]? ≠ some (.ow d)) => comp_tup2 (j := 10) (k := 11) (ρ := ρ) h h2 (by decide) h3 sk
  simp [n1, n2, n3, n4, n5, n6, n7, hl.len, ha.len, hl.tuple, ha.iter, hw.iter, hk.iter, c8, c9, c10, dealD]
  have e3 : ((fun l => D.tup (List.map D.tup l)) ∘ fun l : List Ar => List.map (fun a => [D.int a.1, D.int a.2.1, D.int a.2.2]) l) = fun l => D.tup (l.map arD) := by
    funext l
    show D.tup (List.map D.tup (List.map (fun a => [D.int a.1, D.int a.2.1, D.int a.2.2]) l)) = _
    rw [List.map_map]
    rfl
  rw [e3]
  rfl
end K47
end
section
/-! K47B: the program's parts over a deal. -/
set_option autoImplicit false
set_option linter.all false
set_option maxRecDepth 10000
set_option maxHeartbeats 1000000
namespace K47
open PySem (Str)
open DL
def Pts.lock (p : Pts) (i : Nat) : List Ar := p.locks[i]?.getD []
def Pts.ent (p : Pts) (i : Nat) (h : Int) : Option Ar := (p.lock i).find? fun e => decide (e.1 = h)
section
variable {p : Pts}
@[simp] theorem fld0 : fldM [(13, 0)] (dealD p) = pure (.int p.h) := nonrfl rfl
@[simp] theorem fld1 : fldM [(13, 1)] (dealD p) = pure (.tup (p.lags.map D.int)) := nonrfl rfl
@[simp] theorem fld2 : fldM [(13, 2)] (dealD p) = pure (.int p.start) := nonrfl rfl
@[simp] theorem fld3 : fldM [(13, 3)] (dealD p) = pure (.int p.gap) := nonrfl rfl
@[simp] theorem fld4 : fldM [(13, 4)] (dealD p) = pure (.tup (p.arcs.map arD)) := nonrfl rfl
@[simp] theorem fld5 : fldM [(13, 5)] (dealD p) = pure (.tup (p.waits.map fun w => .tup (w.map D.int))) := nonrfl rfl
@[simp] theorem fld6 : fldM [(13, 6)] (dealD p) = pure (.tup (p.locks.map fun l => .tup (l.map arD))) := nonrfl rfl
end
theorem atD_arcs {p : Pts} {i : Nat} {a : Ar} (h : p.arcs[i]? = some a) : atD (p.arcs.map arD) (i : Int) = some (arD a) := by
  rw [atD_map, atD_of (Int.natCast_nonneg i) (by rw [Int.toNat_natCast]; exact h)]
  rfl
theorem giver_of_ok {p : Pts} {i : Nat} {a : Ar} (h : p.arcs[i]? = some a) : m_giver_of [dealD p, .int i] = pure (.int a.1) := by
  show run 2 2 _ _ = _
  rw [ev_run (by rfl)]
  simp [atD_arcs h]
  simp [arD]
theorem taker_of_ok {p : Pts} {i : Nat} {a : Ar} (h : p.arcs[i]? = some a) : m_taker_of [dealD p, .int i] = pure (.int a.2.1) := by
  show run 2 2 _ _ = _
  rw [ev_run (by rfl)]
  simp [atD_arcs h]
  simp [arD]
theorem lag_of_ok {p : Pts} {i : Nat} {a : Ar} {l : Int} (h : p.arcs[i]? = some a) (hl : atD p.lags a.2.2 = some l) : m_lag_of [dealD p, .int i] = pure (.int l) := by
  show run 2 2 _ _ = _
  rw [ev_run (by rfl)]
  simp [atD_arcs h]
  simp [arD, atD_map, hl]
theorem atD_locks {p : Pts} {i : Nat} (h : i < p.locks.length) : atD (p.locks.map fun l => D.tup (l.map arD)) (i : Int) = some (.tup ((p.lock i).map arD)) := by
  rw [atD_map, atD_of (y := p.lock i) (Int.natCast_nonneg i) (by unfold Pts.lock; rw [Int.toNat_natCast, List.getElem?_eq_getElem h]; rfl)]
  rfl
theorem entry_of_ok {p : Pts} {i : Nat} {h : Int} (hi : i < p.locks.length) : m_entry_of [dealD p, .int i, .int h] = pure (match p.ent i h with | some e => arD e | none => .non) := by
  show run 4 3 _ _ = _
  rw [ev_run (by rfl)]
  have hf := forL_find (g := gName 3) (b := sIf (tOf (d2 eqM (d2 itemM (dAny 3) (dC (.int 0))) (dAny 2))) (sRet (dVar 3)) sNext)
    (fun ρ => ∃ s, ρ = [Slot.sh (dealD p), .sh (.int i), .sh (.int h), s]) (fun x => match x with | .tup (.int y :: _) => decide (y = h) | _ => false) id (xs := (p.lock i).map arD) (ρ := [Slot.sh (dealD p), .sh (.int i), .sh (.int h), .no]) ⟨_, rfl⟩ (fun x hx ρ ⟨s, e⟩ => by
      subst e
      obtain ⟨a, ha, rfl⟩ := List.mem_map.mp hx
      refine ⟨fun hc => ?_, fun hc => ⟨[.sh (dealD p), .sh (.int i), .sh (.int h), .sh (arD a)], ?_, _, rfl⟩⟩
      · have hc : a.1 = h := of_decide_eq_true hc
        simp
        simp [arD, hc]
      · have hc : ¬ a.1 = h := of_decide_eq_false hc
        simp
        simp [arD, hc])
  rw [List.find?_map] at hf
  have e : ((fun x => match x with | D.tup (.int y :: _) => decide (y = h) | _ => false) ∘ arD) = fun e : Ar => decide (e.1 = h) := by
    funext a
    rfl
  rw [e] at hf
  unfold Pts.ent
  cases q : (p.lock i).find? fun e => decide (e.1 = h) with
  | none =>
    rw [q] at hf
    obtain ⟨ρ', h1, s, rfl⟩ := hf.2 rfl
    simp [atD_locks hi, h1]
  | some a =>
    rw [q] at hf
    have h1 := hf.1 _ rfl
    simp [atD_locks hi, h1]
theorem arD_non (e : Ar) : isNon (arD e) = false := rfl
theorem does_ask_ok {p : Pts} {i : Nat} {h : Int} (hi : i < p.locks.length) : m_does_ask [dealD p, .int i, .int h] = pure (.bl (p.ent i h).isSome) := by
  show run 3 3 _ _ = _
  rw [ev_run (by rfl)]
  cases q : p.ent i h with
  | none => simp [entry_of_ok hi, q]
  | some e => simp [entry_of_ok hi, q, arD_non]
theorem last_of_ok {p : Pts} {i : Nat} {h s : Int} {e : Ar} (hi : i < p.locks.length) (he : p.ent i h = some e) (hs : -1000 ≤ s) (hs2 : s ≤ 1000) (hg : 0 ≤ p.gap) (hg2 : p.gap ≤ 1000000) : m_last_of [dealD p, .int i, .int h, .int s] = pure (.int (e.2.1 + e.2.2 * (s - 1) * p.gap)) := by
  show run 5 4 _ _ = _
  rw [ev_run (by rfl)]
  have m1 : mulM (.int e.2.2) (.int (s - 1)) = pure (.int (e.2.2 * (s - 1))) := mul_ok (by omega) (by omega)
  have m2 : mulM (.int (e.2.2 * (s - 1))) (.int p.gap) = pure (.int (e.2.2 * (s - 1) * p.gap)) := mul_ok (by omega) (by omega)
  simp [entry_of_ok hi, he]
  simp [arD, m1, m2]
theorem lengths_of_ok {p : Pts} {i : Nat} {h : Int} {a : Ar} (ha : p.arcs[i]? = some a) : m_lengths_of [dealD p, .int i, .int h] = pure (if a.2.1 = h then .tup [.int 1, .int 1] else .tup [.int 2, .int (p.h - 1)]) := by
  show run 3 3 _ _ = _
  rw [ev_run (by rfl)]
  by_cases q : a.2.1 = h
  · simp [taker_of_ok ha, q]
  · simp [taker_of_ok ha, q]
/-! ### checks -/
theorem need_deal_ok {p : Pts} : m_need_deal [dealD p] = pure .non := by
  show run 1 1 _ _ = _
  rw [ev_run (by rfl)]
  have e : isM csL [.cls 13] (dealD p) = pure (.bl true) := by
    rw [isM_of (by rfl)]
    rfl
  simp [e]
theorem need_deal_no {d : D} (h : tyD csL d = true) (h2 : isKd csL d (.cls 13) = false) : m_need_deal [d] = M.raise 2 [] := by
  show run 1 1 _ _ = _
  rw [ev_run (by rfl)]
  simp [isM_of h, h2]
theorem need_arc_ok {p : Pts} {i : Nat} (h : i < p.arcs.length) : m_need_arc [dealD p, .int i] = pure .non := by
  show run 2 2 _ _ = _
  rw [ev_run (by rfl)]
  simp [show (i : Int) ≤ p.arcs.length - 1 by omega]
theorem need_arc_no {p : Pts} {d : D} (h : m_is_between [d, .int 0, .int ((p.arcs.length : Int) - 1)] = pure (.bl false)) : m_need_arc [dealD p, d] = M.raise 11 [.non] := by
  show run 2 2 _ _ = _
  rw [ev_run (by rfl)]
  simp [h]
theorem need_house_ok {p : Pts} {h : Int} (h0 : 0 ≤ h) (h1 : h < p.h) : m_need_house [dealD p, .int h] = pure .non := by
  show run 2 2 _ _ = _
  rw [ev_run (by rfl)]
  simp [h0, show h ≤ p.h - 1 by omega]
theorem last_tick_ok {p : Pts} (ok : p.Ok) {i : Nat} {h s : Int} {e : Ar} (hi : i < p.arcs.length) (he : p.ent i h = some e) (h0 : 0 ≤ h) (h1 : h < p.h) (hs : 1 ≤ s) (hs2 : s ≤ p.h) : m_last_tick [dealD p, .int i, .int h, .int s] = pure (.int (e.2.1 + e.2.2 * (s - 1) * p.gap)) := by
  show run 4 4 _ _ = _
  rw [ev_run (by rfl)]
  have hl : i < p.locks.length := by rw [ok.ll]; exact hi
  obtain ⟨x, hx⟩ := List.exists_mem_of_ne_nil _ ok.lg0
  have hg := ok.g0 x hx
  have hg2 := ok.lg x hx
  have h12 := ok.h12
  have g1 := ok.g1
  have hla := last_of_ok (s := s) hl he (by omega) (by omega) (by omega) g1
  have ha := does_ask_ok (h := h) hl
  rw [he] at ha
  simp [need_deal_ok, need_arc_ok hi, need_house_ok h0 h1, hs, hs2, ha, hla]
end K47
end
section
/-! K47C: bound, by the program. -/
set_option autoImplicit false
set_option linter.all false
set_option maxRecDepth 10000
set_option maxHeartbeats 1000000
namespace K47
open PySem (Str)
open DL
/-- the lengths of chains -/
def lens (h : Int) (b : Ar) (s : Int) : List Int := if b.2.1 = s then [1] else (List.range (h - 2).toNat).map fun k : Nat => 2 + (k : Int)
def Fx (gap : Int) (e f : Ar) (x : Int) : Int := f.2.2 * ((x - 1) * gap) - e.2.2 * (x * gap)
structure Tri (p : Pts) (t g : Nat) (s : Int) (a b e f : Ar) (m l : Int) : Prop where
  ha : p.arcs[t]? = some a
  hb : p.arcs[g]? = some b
  hab : a.2.1 = b.1
  hs : s ≠ a.2.1
  he : p.ent t s = some e
  hf : p.ent g s = some f
  hm : maxL ((lens p.h b s).map (Fx p.gap e f)) = some m
  hl : atD p.lags b.2.2 = some l
theorem ent_mem {p : Pts} {i : Nat} {s : Int} {e : Ar} (h : p.ent i s = some e) : e ∈ p.lock i ∧ e.1 = s := by
  unfold Pts.ent at h
  have q := List.find?_some h
  exact ⟨List.mem_of_find?_eq_some h, by simpa using q⟩
theorem lock_mem {p : Pts} {i : Nat} {e : Ar} (h : e ∈ p.lock i) : p.lock i ∈ p.locks := by
  unfold Pts.lock at h ⊢
  cases q : p.locks[i]? with
  | none => rw [q] at h; cases h
  | some l => exact List.mem_of_getElem? q
theorem Pts.Ok.ent {p : Pts} (ok : p.Ok) {i : Nat} {s : Int} {e : Ar} (h : p.ent i s = some e) : 0 ≤ s ∧ s < p.h ∧ p.start ≤ e.2.1 ∧ e.2.1 ≤ 1000000000 ∧ 0 ≤ e.2.2 ∧ e.2.2 ≤ 1 ∧ e.1 = s := by
  obtain ⟨h1, h2⟩ := ent_mem h
  obtain ⟨_, _, _, h3⟩ := ok.lk _ (lock_mem h1)
  obtain ⟨q1, q2, q3, q4, q5, q6⟩ := h3 e h1
  subst h2
  exact ⟨q1, q2, q3, q4, q5, q6, rfl⟩
theorem Pts.Ok.gap {p : Pts} (ok : p.Ok) : 1 ≤ p.gap ∧ p.gap ≤ 1000000 := by
  obtain ⟨x, hx⟩ := List.exists_mem_of_ne_nil _ ok.lg0
  have hg := ok.g0 x hx
  have hg2 := ok.lg x hx
  exact ⟨by omega, ok.g1⟩
section
variable {p : Pts} {t g : Nat} {s m l : Int} {a b e f : Ar}
theorem lens_mem (ok : p.Ok) (T : Tri p t g s a b e f m l) {x : Int} (hx : x ∈ lens p.h b s) : 1 ≤ x ∧ x + 1 ≤ p.h := by
  unfold lens at hx
  have h2 := ok.h2
  split at hx
  · rw [List.mem_singleton] at hx; omega
  · obtain ⟨k, hk, rfl⟩ := List.mem_map.mp hx
    have := List.mem_range.mp hk
    omega
theorem lens_rng (h : Int) : rangeL (if b.2.1 = s then 1 else 2) ((if b.2.1 = s then 1 else h - 1) + 1) = (lens h b s).map D.int := by
  unfold lens rangeL
  split
  · rfl
  · rw [List.map_map, show h - 1 + 1 - 2 = h - 2 by omega]
    rfl
theorem Tri.it (T : Tri p t g s a b e f m l) : t < p.arcs.length := (List.getElem?_eq_some_iff.mp T.ha).1
theorem Tri.ig (T : Tri p t g s a b e f m l) : g < p.arcs.length := (List.getElem?_eq_some_iff.mp T.hb).1
theorem seal_ticks_ok (ok : p.Ok) {i : Nat} (hi : i < p.arcs.length) (he : p.ent i s = some e) {x : Int} (h1 : -900 ≤ x) (h2 : x ≤ 900) : m_seal_ticks [dealD p, .int i, .int s, .int x] = pure (.int (e.2.2 * ((x - 1) * p.gap))) := by
  show run 4 4 _ _ = _
  rw [ev_run (by rfl)]
  have hl : i < p.locks.length := by rw [ok.ll]; exact hi
  obtain ⟨g1, g2⟩ := ok.gap
  have q1 := last_of_ok (s := x) hl he (by omega) (by omega) (by omega) g2
  have q2 := last_of_ok (s := 1) hl he (by omega) (by omega) (by omega) g2
  have e1 : e.2.1 + e.2.2 * (x - 1) * p.gap - (e.2.1 + e.2.2 * (1 - 1) * p.gap) = e.2.2 * ((x - 1) * p.gap) := by
    rw [Int.sub_self, Int.mul_zero, Int.zero_mul, Int.mul_assoc]
    omega
  simp [q1, q2]
  simp at e1
  rw [e1]
theorem bound_of_ok (ok : p.Ok) (T : Tri p t g s a b e f m l) : m_bound_of [dealD p, .int t, .int g, .int s] = pure (.int (m + l)) := by
  show run 8 4 _ _ = _
  rw [ev_run (by rfl)]
  have h12 := ok.h12
  have hc : compL (gName 7) tYes (d2 subM (dCall m_seal_ticks (dCons (dVar 0) (dCons (dVar 2) (dCons (dVar 3) (dCons (dVar 7) (dNil)))))) (dCall m_seal_ticks (dCons (dVar 0) (dCons (dVar 1) (dCons (dVar 3) (dCons (d2 addM (dAny 7) (dC (.int 1))) (dNil)))))))
      [Slot.sh (dealD p), .sh (.int t), .sh (.int g), .sh (.int s), .sh (.int (if b.2.1 = s then 1 else 2)), .sh (.int (if b.2.1 = s then 1 else p.h - 1)), .no, .no] ((lens p.h b s).map D.int) = pure (((lens p.h b s).map (Fx p.gap e f)).map D.int) := by
    rw [compL_pure (fun x => [Slot.sh (dealD p), .sh (.int t), .sh (.int g), .sh (.int s), .sh (.int (if b.2.1 = s then 1 else 2)), .sh (.int (if b.2.1 = s then 1 else p.h - 1)), .no, .sh x]) (fun _ => true) (fun x => match x with | .int z => .int (Fx p.gap e f z) | _ => .non) (fun x hx => by
      obtain ⟨z, hz, rfl⟩ := List.mem_map.mp hx
      obtain ⟨z1, z2⟩ := lens_mem ok T hz
      have q1 := seal_ticks_ok (x := z) ok T.ig T.hf (by omega) (by omega)
      have q2 := seal_ticks_ok (x := z + 1) ok T.it T.he (by omega) (by omega)
      rw [show z + 1 - 1 = z by omega] at q2
      refine ⟨by simp, by simp, fun _ => ?_⟩
      simp [q1, q2, Fx])]
    congr 1
    rw [List.filter_eq_self.mpr (fun _ _ => rfl), List.map_map, List.map_map]
    rfl
  have hr := range2_ok (j := if b.2.1 = s then 1 else 2) (k := (if b.2.1 = s then 1 else p.h - 1) + 1) (by split <;> omega) (by split <;> omega) (by have := ok.h2; split <;> omega) (by split <;> omega) (by split <;> omega)
  rw [lens_rng] at hr
  have hlen : m_lengths_of [dealD p, .int g, .int s] = pure (.tup [.int (if b.2.1 = s then 1 else 2), .int (if b.2.1 = s then 1 else p.h - 1)]) := by
    rw [lengths_of_ok T.hb]
    split <;> rfl
  have hmx := (Sq.lst _).max T.hm
  simp only [List.map_map] at hc hmx
  simp [hlen, hr, hc, hmx, lag_of_ok T.hb T.hl]
theorem bound_ok (ok : p.Ok) (T : Tri p t g s a b e f m l) : m_bound [dealD p, .int t, .int g, .int s] = pure (.int (m + l)) := by
  obtain ⟨s0, s1, _⟩ := ok.ent T.he
  have hgiv : m_need_given [dealD p, .int t, .int g] = pure .non := by
    show run 3 3 _ _ = _
    rw [ev_run (by rfl)]
    simp [need_arc_ok T.ig, giver_of_ok T.hb, taker_of_ok T.ha, T.hab]
  have hlt : t < p.locks.length := by rw [ok.ll]; exact T.it
  have hlg : g < p.locks.length := by rw [ok.ll]; exact T.ig
  have d1 := does_ask_ok (h := s) hlt
  have d2 := does_ask_ok (h := s) hlg
  rw [T.he] at d1
  rw [T.hf] at d2
  have hh : m_need_handed [dealD p, .int t, .int g, .int s] = pure .non := by
    show run 4 4 _ _ = _
    rw [ev_run (by rfl)]
    simp [s0, show s ≤ p.h - 1 by omega, taker_of_ok T.ha, T.hs, d1, d2]
  show run 4 4 _ _ = _
  rw [ev_run (by rfl)]
  simp [need_deal_ok, need_arc_ok T.it, hgiv, hh, bound_of_ok ok T]
theorem seal_lengths_ok (ok : p.Ok) (T : Tri p t g s a b e f m l) : m_seal_lengths [dealD p, .int g, .int s] = pure (.tup [.int (if b.2.1 = s then 1 else 2), .int (if b.2.1 = s then 1 else p.h - 1)]) := by
  obtain ⟨s0, s1, _⟩ := ok.ent T.he
  have hlen : m_lengths_of [dealD p, .int g, .int s] = pure (.tup [.int (if b.2.1 = s then 1 else 2), .int (if b.2.1 = s then 1 else p.h - 1)]) := by
    rw [lengths_of_ok T.hb]
    split <;> rfl
  have hne : ¬ b.1 = s := fun z => T.hs (by rw [← z, T.hab])
  show run 3 3 _ _ = _
  rw [ev_run (by rfl)]
  simp [need_deal_ok, need_arc_ok T.ig, need_house_ok s0 s1, giver_of_ok T.hb, hne, hlen]
end
end K47
end
section
/-! K47E: the law's own parts. -/
set_option autoImplicit false
set_option linter.all false
set_option maxRecDepth 10000
set_option maxHeartbeats 1000000
namespace K47
open PySem (Str)
open DL
def partsD (p : Pts) : D := .tup [.int p.h, .tup (p.lags.map D.int), .int p.start, .int p.gap, .tup (p.arcs.map arD), .tup (p.waits.map fun w => .tup (w.map D.int)), .tup (p.locks.map fun l => .tup (l.map arD))]
theorem map_tup {α : Type} (f : α → List D) (l : List α) : Sqs (l.map fun x => D.tup (f x)) (l.map f) := by
  have := sqs_tup (l.map f)
  rw [List.map_map] at this
  exact this
theorem law_made_ok {p : Pts} (ok : p.Ok) : m_law_made [partsD p] = pure (dealD p) := by
  show run 8 1 _ _ = _
  rw [ev_run (by rfl)]
  have q := make_ok ok (.tup _) (.tup _) (.tup _) (map_tup _ _) (.tup _) (map_tup _ _)
  simp [partsD, q]
section
variable {p : Pts} {i : Nat} {s x : Int} {e a : Ar}
theorem filter_find {α : Type} {l : List α} {c : α → Bool} {e : α} (h : l.find? c = some e) : ∃ r, l.filter c = e :: r := by
  have q := List.head?_filter (p := c) (l := l)
  rw [h] at q
  cases z : l.filter c with
  | nil => rw [z] at q; cases q
  | cons y r => rw [z] at q; cases q; exact ⟨r, rfl⟩
theorem law_entry_ok (hi : i < p.locks.length) (he : p.ent i s = some e) : m_law_entry [partsD p, .int i, .int s] = pure (arD e) := by
  show run 4 3 _ _ = _
  rw [ev_run (by rfl)]
  obtain ⟨r, hr⟩ := filter_find (show (p.lock i).find? (fun e => decide (e.1 = s)) = some e from he)
  have hc : compL (gName 3) (tOf (d2 eqM (d2 itemM (dAny 3) (dC (.int 0))) (dAny 2))) (dVar 3) [Slot.sh (partsD p), .sh (.int i), .sh (.int s), .no] ((p.lock i).map arD) = pure (arD e :: r.map arD) := by
    rw [compL_pure (fun x => [Slot.sh (partsD p), .sh (.int i), .sh (.int s), .sh x]) (fun x => match x with | .tup (.int y :: _) => decide (y = s) | _ => false) id (fun x hx => by
      obtain ⟨z, hz, rfl⟩ := List.mem_map.mp hx
      simp [arD])]
    congr 1
    rw [List.filter_map]
    have e1 : ((fun x => match x with | D.tup (.int y :: _) => decide (y = s) | _ => false) ∘ arD) = fun e : Ar => decide (e.1 = s) := by
      funext a
      rfl
    rw [e1, hr]
    simp
  simp [partsD, atD_locks hi]
  rw [show (Slot.sh (D.tup [.int p.h, .tup (p.lags.map D.int), .int p.start, .int p.gap, .tup (p.arcs.map arD), .tup (p.waits.map fun w => .tup (w.map D.int)), .tup (p.locks.map fun l => .tup (l.map arD))])) = Slot.sh (partsD p) from rfl, hc]
  simp
theorem law_lag_ok {l : Int} (h : p.arcs[i]? = some a) (hl : atD p.lags a.2.2 = some l) : m_law_lag [partsD p, .int i] = pure (.int l) := by
  show run 2 2 _ _ = _
  rw [ev_run (by rfl)]
  simp [partsD, atD_arcs h]
  simp [arD, atD_map, hl]
theorem law_last_ok (hi : i < p.locks.length) (he : p.ent i s = some e) (hg : 0 ≤ p.gap) (hg2 : p.gap ≤ 1000000) (h2 : 0 ≤ e.2.2) (h3 : e.2.2 ≤ 1) : m_law_last [partsD p, .int i, .int s, .int x] = pure (.int (e.2.1 + (x - 1) * p.gap * e.2.2)) := by
  show run 7 4 _ _ = _
  rw [ev_run (by rfl)]
  have m1 : mulM (.int (x - 1)) (.int p.gap) = pure (.int ((x - 1) * p.gap)) := mul_ok (by omega) (by omega)
  have m2 : mulM (.int ((x - 1) * p.gap)) (.int e.2.2) = pure (.int ((x - 1) * p.gap * e.2.2)) := mul_ok (by omega) (by omega)
  simp [law_entry_ok hi he]
  simp [arD, partsD, m1, m2]
theorem law_lengths_ok (h12 : p.h ≤ 12) (h2 : 2 ≤ p.h) (h : p.arcs[i]? = some a) : m_law_lengths [partsD p, .int i, .int s] = pure (.lst ((lens p.h a s).map D.int)) := by
  show run 3 3 _ _ = _
  rw [ev_run (by rfl)]
  have hr := range2_ok (j := 2) (k := p.h) (by omega) (by omega) (by omega) (by omega) (by omega)
  have e1 : rangeL 2 p.h = (List.range (p.h - 2).toNat).map fun k : Nat => D.int (2 + (k : Int)) := rfl
  unfold lens
  by_cases q : a.2.1 = s
  · simp [partsD, atD_arcs h]
    simp [arD, q]
  · simp [partsD, atD_arcs h]
    simp [arD, q, hr, e1]
    rfl
theorem law_asked_ok (hi : i < p.locks.length) : m_law_asked [partsD p, .int i] = pure (.lst ((p.lock i).map fun e => D.int e.1)) := by
  show run 3 2 _ _ = _
  rw [ev_run (by rfl)]
  have hc : compL (gName 2) tYes (d2 itemM (dAny 2) (dC (.int 0))) [Slot.sh (partsD p), .sh (.int i), .no] ((p.lock i).map arD) = pure ((p.lock i).map fun e => D.int e.1) := by
    rw [compL_pure (fun x => [Slot.sh (partsD p), .sh (.int i), .sh x]) (fun _ => true) (fun x => match x with | .tup (y :: _) => y | _ => .non) (fun x hx => by
      obtain ⟨z, hz, rfl⟩ := List.mem_map.mp hx
      simp [arD])]
    congr 1
    rw [List.filter_eq_self.mpr (fun _ _ => rfl), List.map_map]
    rfl
  simp [partsD, atD_locks hi]
  rw [show (Slot.sh (D.tup [.int p.h, .tup (p.lags.map D.int), .int p.start, .int p.gap, .tup (p.arcs.map arD), .tup (p.waits.map fun w => .tup (w.map D.int)), .tup (p.locks.map fun l => .tup (l.map arD))])) = Slot.sh (partsD p) from rfl, hc]
  simp
theorem findI_at : ∀ {l : List Ar} {k : Nat}, l.find? (fun e => decide (e.1 = s)) = some e → ∃ j, findI (.int s) (l.map fun e => D.int e.1) k = some (k + j) ∧ l[j]? = some e
  | [], _, h => by cases h
  | y :: r, k, h => by
    by_cases q : y.1 = s
    · rw [List.find?_cons_of_pos (by simpa using q)] at h
      cases h
      exact ⟨0, by rw [List.map_cons, findI, if_pos (by simp [q])]; rfl, rfl⟩
    · rw [List.find?_cons_of_neg (by simpa using q)] at h
      obtain ⟨j, h1, h2⟩ := findI_at (k := k + 1) h
      exact ⟨j + 1, by rw [List.map_cons, findI, if_neg (by simp [q]), h1]; congr 1; omega, by simpa using h2⟩
theorem law_spot_ok (hi : i < p.locks.length) (he : p.ent i s = some e) : ∃ j, m_law_spot [partsD p, .int i, .int s] = pure (.int (j : Nat)) ∧ (p.lock i)[j]? = some e := by
  obtain ⟨j, h1, h2⟩ := findI_at (k := 0) (show (p.lock i).find? (fun e => decide (e.1 = s)) = some e from he)
  refine ⟨j, ?_, h2⟩
  show run 3 3 _ _ = _
  rw [ev_run (by rfl)]
  have h3 := kIx2_ok (y := .int s) rfl (List.all_eq_true.mpr fun z hz => by obtain ⟨w, _, rfl⟩ := List.mem_map.mp hz; rfl) h1
  rw [Nat.zero_add] at h3
  simp [law_asked_ok hi, h3]
theorem law_bound_ok {t g : Nat} {m l : Int} {b f : Ar} (ok : p.Ok) (T : Tri p t g s a b e f m l) : m_law_bound [partsD p, .int t, .int g, .int s] = pure (.int (m + l)) := by
  have hlt : t < p.locks.length := by rw [ok.ll]; exact T.it
  have hlg : g < p.locks.length := by rw [ok.ll]; exact T.ig
  obtain ⟨g1, g2⟩ := ok.gap
  obtain ⟨_, _, _, _, z1, z2, _⟩ := ok.ent T.he
  obtain ⟨_, _, _, _, z3, z4, _⟩ := ok.ent T.hf
  show run 8 4 _ _ = _
  rw [ev_run (by rfl)]
  have hc : compL (gName 7) tYes (d2 subM (d2 mulM (d2 mulM (d2 subM (dAny 7) (dC (.int 1))) (d2 itemM (dAny 0) (dC (.int 3)))) (dAny 5)) (d2 mulM (d2 mulM (dAny 7) (d2 itemM (dAny 0) (dC (.int 3)))) (dAny 4)))
      [Slot.sh (partsD p), .sh (.int t), .sh (.int g), .sh (.int s), .sh (.int e.2.2), .sh (.int f.2.2), .no, .no] ((lens p.h b s).map D.int) = pure (((lens p.h b s).map (Fx p.gap e f)).map D.int) := by
    rw [compL_pure (fun x => [Slot.sh (partsD p), .sh (.int t), .sh (.int g), .sh (.int s), .sh (.int e.2.2), .sh (.int f.2.2), .no, .sh x]) (fun _ => true) (fun x => match x with | .int z => .int (Fx p.gap e f z) | _ => .non) (fun x hx => by
      obtain ⟨z, hz, rfl⟩ := List.mem_map.mp hx
      have m1 : mulM (.int (z - 1)) (.int p.gap) = pure (.int ((z - 1) * p.gap)) := mul_ok (by omega) (by omega)
      have m2 : mulM (.int ((z - 1) * p.gap)) (.int f.2.2) = pure (.int ((z - 1) * p.gap * f.2.2)) := mul_ok (by omega) (by omega)
      have m3 : mulM (.int z) (.int p.gap) = pure (.int (z * p.gap)) := mul_ok (by omega) (by omega)
      have m4 : mulM (.int (z * p.gap)) (.int e.2.2) = pure (.int (z * p.gap * e.2.2)) := mul_ok (by omega) (by omega)
      refine ⟨by simp, by simp, fun _ => ?_⟩
      simp [partsD, m1, m2, m3, m4, Fx]
      rw [Int.mul_comm f.2.2, Int.mul_comm e.2.2])]
    congr 1
    rw [List.filter_eq_self.mpr (fun _ _ => rfl), List.map_map, List.map_map]
    rfl
  have hmx := (Sq.lst _).max T.hm
  simp only [List.map_map] at hc hmx
  have i1 : itemM (arD e) (.int 2) = pure (.int e.2.2) := by simp [arD]
  have i2 : itemM (arD f) (.int 2) = pure (.int f.2.2) := by simp [arD]
  simp [law_entry_ok hlt T.he, law_entry_ok hlg T.hf, i1, i2, law_lengths_ok ok.h12 ok.h2 T.hb, hc, hmx, law_lag_ok T.hb T.hl]
end
end K47
end
section
/-! K47G: parts changed; the bound as told; comparisons. -/
set_option autoImplicit false
set_option linter.all false
set_option maxRecDepth 10000
set_option maxHeartbeats 1000000
namespace K47
open PySem (Str)
open DL
section
variable {x0 x1 x2 x3 x4 x5 x6 : D}
@[simp] theorem sl06 : sliceM (.tup [x0, x1, x2, x3, x4, x5, x6]) none (some 6) = pure (.tup [x0, x1, x2, x3, x4, x5]) := by
  show (M.need _ >>= fun _ => _) = _
  rw [need_bnd (by show ¬ ((0 : Nat) = 0 ∧ (6 : Nat) = 7); decide)]
  rfl
@[simp] theorem sl02 : sliceM (.tup [x0, x1, x2, x3, x4, x5, x6]) none (some 2) = pure (.tup [x0, x1]) := by
  show (M.need _ >>= fun _ => _) = _
  rw [need_bnd (by show ¬ ((0 : Nat) = 0 ∧ (2 : Nat) = 7); decide)]
  rfl
@[simp] theorem sl36 : sliceM (.tup [x0, x1, x2, x3, x4, x5, x6]) (some 3) (some 6) = pure (.tup [x3, x4, x5]) := by
  show (M.need _ >>= fun _ => _) = _
  rw [need_bnd (by show ¬ ((3 : Nat) = 0 ∧ (6 : Nat) = 7); decide)]
  rfl
end
/-! ### later -/
def Pts.later (p : Pts) (k : Int) : Pts := { p with start := p.start + k, locks := p.locks.map fun l => l.map fun e => (e.1, e.2.1 + k, e.2.2) }
theorem law_later_ok {p : Pts} {k : Int} : m_law_later [partsD p, .int k] = pure (partsD (p.later k)) := by
  show run 7 2 _ _ = _
  rw [ev_run (by rfl)]
  have hin : ∀ (l : List Ar), compL (gTup 3 (gsCons (gName 4) (gsCons (gName 5) (gsCons (gName 6) (gsNil))))) tYes (dTup (dCons (dVar 4) (dCons (d2 addM (dAny 5) (dAny 1)) (dCons (dVar 6) (dNil))))) [Slot.sh (partsD p), .sh (.int k), .no, .sh (.tup (l.map arD)), .no, .no, .no] (l.map arD) = pure ((l.map fun e => ((e.1, e.2.1 + k, e.2.2) : Ar)).map arD) := fun l => by
    rw [compL_pure (fun x => match x with | .tup [a, b, c] => [Slot.sh (partsD p), .sh (.int k), .no, .sh (.tup (l.map arD)), .sh a, .sh b, .sh c] | _ => []) (fun _ => true) (fun x => match x with | .tup [.int a, .int b, .int c] => arD (a, b + k, c) | _ => .non) (fun x hx => by
      obtain ⟨z, hz, rfl⟩ := List.mem_map.mp hx
      simp [arD])]
    congr 1
    rw [List.filter_eq_self.mpr (fun _ _ => rfl), List.map_map, List.map_map]
    rfl
  have hout : compL (gName 3) tYes (dCall (b1 tupleM) (dCons (dComp (iSeq (dVar 3)) (gTup 3 (gsCons (gName 4) (gsCons (gName 5) (gsCons (gName 6) (gsNil))))) (tYes) (dTup (dCons (dVar 4) (dCons (d2 addM (dAny 5) (dAny 1)) (dCons (dVar 6) (dNil))))) [4, 5, 6]) (dNil))) [Slot.sh (partsD p), .sh (.int k), .no, .no, .no, .no, .no] (p.locks.map fun l => .tup (l.map arD)) = pure ((p.later k).locks.map fun l => .tup (l.map arD)) := by
    rw [compL_pure (fun x => [Slot.sh (partsD p), .sh (.int k), .no, .sh x, .no, .no, .no]) (fun _ => true) (fun x => match x with | .tup ds => .tup (ds.map fun x => match x with | .tup [.int a, .int b, .int c] => arD (a, b + k, c) | _ => .non) | _ => .non) (fun x hx => by
      obtain ⟨l, hl, rfl⟩ := List.mem_map.mp hx
      refine ⟨by simp, by simp, fun _ => ?_⟩
      have h := hin l
      simp [h]
      rfl)]
    congr 1
    rw [List.filter_eq_self.mpr (fun _ _ => rfl), List.map_map]
    unfold Pts.later
    rw [List.map_map]
    apply List.map_congr_left
    intro l _
    show D.tup ((l.map arD).map _) = D.tup ((l.map fun e => ((e.1, e.2.1 + k, e.2.2) : Ar)).map arD)
    rw [List.map_map, List.map_map]
    rfl
  have e : (Slot.sh (D.tup [.int p.h, .tup (p.lags.map D.int), .int p.start, .int p.gap, .tup (p.arcs.map arD), .tup (p.waits.map fun w => .tup (w.map D.int)), .tup (p.locks.map fun l => .tup (l.map arD))])) = Slot.sh (partsD p) := rfl
  have i6 : itemM (partsD p) (.int 6) = pure (.tup (p.locks.map fun l => .tup (l.map arD))) := by simp [partsD]
  simp [i6, hout]
  simp [partsD, Pts.later]
theorem ent_later {p : Pts} {k s : Int} {i : Nat} {e : Ar} (h : p.ent i s = some e) : (p.later k).ent i s = some (e.1, e.2.1 + k, e.2.2) := by
  have hl : (p.later k).lock i = (p.lock i).map fun e => ((e.1, e.2.1 + k, e.2.2) : Ar) := by
    unfold Pts.lock Pts.later
    simp only [List.getElem?_map]
    cases p.locks[i]? <;> rfl
  unfold Pts.ent at h ⊢
  rw [hl, List.find?_map]
  have e1 : ((fun e : Ar => decide (e.1 = s)) ∘ fun e : Ar => ((e.1, e.2.1 + k, e.2.2) : Ar)) = fun e : Ar => decide (e.1 = s) := rfl
  rw [e1, h]
  rfl
theorem Pts.Ok.later {p : Pts} (ok : p.Ok) {k : Int} (h0 : 0 ≤ k) (h1 : p.start + k ≤ 100000000) (h2 : ∀ l ∈ p.locks, ∀ e ∈ l, e.2.1 + k ≤ 1000000000) : (p.later k).Ok := {
  h2 := ok.h2, h12 := ok.h12, lg0 := ok.lg0, lg4 := ok.lg4, lg := ok.lg
  s0 := by have := ok.s0; show 0 ≤ p.start + k; omega
  s1 := h1, g0 := ok.g0, g1 := ok.g1, a0 := ok.a0, a24 := ok.a24, ar := ok.ar, wl := ok.wl, wt := ok.wt
  ll := by show (p.locks.map _).length = _; rw [List.length_map]; exact ok.ll
  lk := fun l hl => by
    obtain ⟨l0, hl0, rfl⟩ := List.mem_map.mp (show l ∈ p.locks.map _ from hl)
    obtain ⟨q1, q2, q3, q4⟩ := ok.lk l0 hl0
    refine ⟨fun z => q1 (by simpa using z), by rw [List.length_map]; exact q2, by rw [List.map_map]; exact q3, fun e he => ?_⟩
    obtain ⟨e0, he0, rfl⟩ := List.mem_map.mp he
    obtain ⟨r1, r2, r3, r4, r5, r6⟩ := q4 e0 he0
    have := h2 l0 hl0 e0 he0
    exact ⟨r1, r2, by show p.start + k ≤ e0.2.1 + k; omega, this, r5, r6⟩ }
theorem Fx_later {gap : Int} {e f : Ar} {k : Int} : Fx gap (e.1, e.2.1 + k, e.2.2) (f.1, f.2.1 + k, f.2.2) = Fx gap e f := rfl
/-! ### one entry set -/
def Pts.setE (p : Pts) (i j : Nat) (v : Ar) : Pts := { p with locks := p.locks.set i ((p.lock i).set j v) }
section
variable {p : Pts} {i j : Nat} {v e : Ar} {s : Int}
theorem seqLs_map : ∀ (ls : List (List Ar)), seqLs (ls.map fun l => D.tup (l.map arD)) = some (ls.map fun l => l.map arD)
  | [] => rfl
  | l :: r => by
    rw [List.map_cons, seqLs, seqLs_map r]
    rfl
theorem lock_at (hi : i < p.locks.length) : p.locks[i]? = some (p.lock i) := by
  unfold Pts.lock
  rw [List.getElem?_eq_getElem hi]
  rfl
theorem ixD_nat {n k : Nat} (h : k < n) : ixD n (k : Int) = some k := by
  unfold ixD
  rw [if_pos (Int.natCast_nonneg k), if_pos (by omega), Int.toNat_natCast]
theorem law_with_last_ok {last sealed : Int} (hi : i < p.locks.length) (hj : (p.lock i)[j]? = some e) : m_law_with_last [partsD p, .int i, .int j, .int last, .int sealed] = pure (partsD (p.setE i j (e.1, last, sealed))) := by
  show run 7 5 _ _ = _
  rw [ev_run (by rfl)]
  have hjl : j < (p.lock i).length := (List.getElem?_eq_some_iff.mp hj).1
  have i6 : itemM (partsD p) (.int 6) = pure (.tup (p.locks.map fun l => .tup (l.map arD))) := by simp [partsD]
  have hn : sNest 5 (iSeq (d2 itemM (dAny 0) (dC (.int 6)))) (dTup (dCons (d2 itemM (d2 itemM (d2 itemM (dAny 5) (dAny 1)) (dAny 2)) (dC (.int 0))) (dCons (dVar 3) (dCons (dVar 4) (dNil))))) (dVar 1) (dVar 2) [Slot.sh (partsD p), .sh (.int i), .sh (.int j), .sh (.int last), .sh (.int sealed), .no, .no]
      = pure (.nx [Slot.sh (partsD p), .sh (.int i), .sh (.int j), .sh (.int last), .sh (.int sealed), .sh (.lst (((p.locks.map fun l => l.map arD).set i (((p.lock i).map arD).set j (arD (e.1, last, sealed)))).map D.lst)), .no]) := by
    have hls : (p.locks.map fun l => l.map arD)[i]? = some ((p.lock i).map arD) := by rw [List.getElem?_map, lock_at hi]; rfl
    have hx : atD ((p.locks.map fun l => l.map arD).map D.lst) (i : Int) = some (.lst ((p.lock i).map arD)) := by
      rw [atD_map, atD_of (Int.natCast_nonneg i) (by rw [Int.toNat_natCast]; exact hls)]
      rfl
    have hy : atD ((p.lock i).map arD) (j : Int) = some (arD e) := by
      rw [atD_map, atD_of (Int.natCast_nonneg j) (by rw [Int.toNat_natCast]; exact hj)]
      rfl
    show (iSeq _ _ >>= fun xs => M.get (seqLs xs) >>= fun ls => nestK 5 _ _ _ _ ls) = _
    simp [i6, seqLs_map]
    rw [nestK, nestE]
    have ii : itemM (arD e) (.int 0) = pure (.int e.1) := by simp [arD]
    simp only [List.map_map] at hx
    simp [hx, hy, ii]
    rw [ixD_nat hi, get_some, pure_bnd, need_bnd (by rfl)]
    simp [lock_at hi, ixD_nat hjl]
    rfl
  have hs : Sqs (((p.locks.map fun l => l.map arD).set i (((p.lock i).map arD).set j (arD (e.1, last, sealed)))).map D.lst) ((p.locks.map fun l => l.map arD).set i (((p.lock i).map arD).set j (arD (e.1, last, sealed)))) := by
    generalize (p.locks.map fun l => l.map arD).set i (((p.lock i).map arD).set j (arD (e.1, last, sealed))) = ls
    induction ls with
    | nil => exact .nil
    | cons l r ih => exact .cons (.lst l) ih
  have c6 := fun (ρ : Env) (h : 6 < ρ.length) => comp_tup (j := 6) (ρ := ρ) h hs
  have sl : sliceM (partsD p) none (some 6) = pure (.tup [.int p.h, .tup (p.lags.map D.int), .int p.start, .int p.gap, .tup (p.arcs.map arD), .tup (p.waits.map fun w => .tup (w.map D.int))]) := by simp [partsD]
  have e2 : ((p.locks.map fun l => l.map arD).set i (((p.lock i).map arD).set j (arD (e.1, last, sealed)))).map D.tup = (p.setE i j (e.1, last, sealed)).locks.map fun l => .tup (l.map arD) := by
    unfold Pts.setE
    simp only [List.map_set, List.map_map]
    rfl
  generalize (p.locks.map fun l => l.map arD).set i (((p.lock i).map arD).set j (arD (e.1, last, sealed))) = ls at hn c6 e2
  simp [hn, sl, c6, e2]
  rfl
theorem lock_set (hi : i < p.locks.length) : (p.setE i j v).lock i = (p.lock i).set j v := by
  show ((p.locks.set i ((p.lock i).set j v))[i]?).getD [] = _
  rw [List.getElem?_set_self hi]
  rfl
theorem lock_set_ne {k : Nat} (h : i ≠ k) : (p.setE i j v).lock k = p.lock k := by
  show ((p.locks.set i ((p.lock i).set j v))[k]?).getD [] = _
  rw [List.getElem?_set_ne h]
  rfl
theorem find_set : ∀ {l : List Ar} {j : Nat}, (l.map (·.1)).Nodup → l[j]? = some e → v.1 = e.1 → (l.set j v).find? (fun x => decide (x.1 = e.1)) = some v
  | [], _, _, h, _ => by simp at h
  | y :: r, 0, _, h, hv => by
    rw [List.set_cons_zero, List.find?_cons_of_pos (by simpa using hv)]
  | y :: r, j + 1, nd, h, hv => by
    rw [List.map_cons, List.nodup_cons] at nd
    have hm : e ∈ r := List.mem_of_getElem? (by simpa using h)
    have ne : ¬ y.1 = e.1 := fun z => nd.1 (by rw [z]; exact List.mem_map.mpr ⟨e, hm, rfl⟩)
    rw [List.set_cons_succ, List.find?_cons_of_neg (by simpa using ne)]
    exact find_set nd.2 (by simpa using h) hv
theorem Rise.nodup {l : List Int} (h : Rise l) : l.Nodup := List.Pairwise.imp (fun h => Int.ne_of_lt h) h
theorem ent_set (ok : p.Ok) (hi : i < p.locks.length) (hj : (p.lock i)[j]? = some e) (hv : v.1 = e.1) : (p.setE i j v).ent i e.1 = some v := by
  unfold Pts.ent
  rw [lock_set hi]
  have hm := lock_mem (List.mem_of_getElem? hj)
  exact find_set (Rise.nodup (ok.lk _ hm).2.2.1) hj hv
theorem ent_set_ne {k : Nat} (h : i ≠ k) : (p.setE i j v).ent k s = p.ent k s := by
  unfold Pts.ent
  rw [lock_set_ne h]
theorem map_set_same {l : List Ar} (hj : l[j]? = some e) (hv : v.1 = e.1) : (l.set j v).map (·.1) = l.map (·.1) := by
  rw [List.map_set, hv]
  obtain ⟨h1, h2⟩ := List.getElem?_eq_some_iff.mp hj
  apply List.ext_getElem?
  intro k
  by_cases hk : j = k
  · subst hk
    rw [List.getElem?_set_self (by rw [List.length_map]; exact h1), List.getElem?_map, hj]
    rfl
  · rw [List.getElem?_set_ne hk]
theorem Pts.Ok.setE (ok : p.Ok) (hi : i < p.locks.length) (hj : (p.lock i)[j]? = some e) (hv : v.1 = e.1) (h1 : p.start ≤ v.2.1) (h2 : v.2.1 ≤ 1000000000) (h3 : 0 ≤ v.2.2) (h4 : v.2.2 ≤ 1) : (p.setE i j v).Ok := {
  h2 := ok.h2, h12 := ok.h12, lg0 := ok.lg0, lg4 := ok.lg4, lg := ok.lg, s0 := ok.s0, s1 := ok.s1, g0 := ok.g0, g1 := ok.g1, a0 := ok.a0, a24 := ok.a24, ar := ok.ar, wl := ok.wl, wt := ok.wt
  ll := by show (p.locks.set _ _).length = _; rw [List.length_set]; exact ok.ll
  lk := fun l hl => by
    have hm := lock_mem (List.mem_of_getElem? hj)
    obtain ⟨q1, q2, q3, q4⟩ := ok.lk _ hm
    rcases List.mem_or_eq_of_mem_set (show l ∈ p.locks.set i _ from hl) with hl | rfl
    · exact ok.lk l hl
    · refine ⟨fun z => q1 (by simpa using z), by rw [List.length_set]; exact q2, by rw [map_set_same hj hv]; exact q3, fun x hx => ?_⟩
      rcases List.mem_or_eq_of_mem_set hx with hx | rfl
      · exact q4 x hx
      · obtain ⟨r1, r2, _⟩ := q4 e (List.mem_of_getElem? hj)
        exact ⟨by rw [hv]; exact r1, by rw [hv]; exact r2, h1, h2, h3, h4⟩ }
end
end K47
end
section
/-! K47I: a triple is right. -/
set_option autoImplicit false
set_option linter.all false
set_option maxRecDepth 10000
set_option maxHeartbeats 2000000
namespace K47
open PySem (Str)
open DL
section
variable {g : XG} {t : XT} {e : XE} {ρ ρ1 : Env} {x y : D} {r ys : List D}
def kCp3 (y : D) (ys : List D) : M (List D) := pure (y :: ys)
def kCp2 (g : XG) (t : XT) (e : XE) (ρ : Env) (r : List D) (y : D) : M (List D) := compL g t e ρ r >>= kCp3 y
def kCp1 (g : XG) (t : XT) (e : XE) (ρ : Env) (r : List D) (ρ1 : Env) (c : Bool) : M (List D) := bif c then M.calm (e ρ1) >>= kCp2 g t e ρ r else compL g t e ρ r
def kCp0 (g : XG) (t : XT) (e : XE) (ρ : Env) (r : List D) (ρ1 : Env) : M (List D) := M.calm (t ρ1) >>= kCp1 g t e ρ r ρ1
@[simp] theorem kCp3_eq : kCp3 y ys = pure (y :: ys) := nonrfl rfl
@[simp] theorem kCp2_eq : kCp2 g t e ρ r y = (compL g t e ρ r >>= kCp3 y) := nonrfl rfl
@[simp] theorem kCp1_t : kCp1 g t e ρ r ρ1 true = (M.calm (e ρ1) >>= kCp2 g t e ρ r) := nonrfl rfl
@[simp] theorem kCp1_f : kCp1 g t e ρ r ρ1 false = compL g t e ρ r := nonrfl rfl
@[simp] theorem kCp0_eq : kCp0 g t e ρ r ρ1 = (M.calm (t ρ1) >>= kCp1 g t e ρ r ρ1) := nonrfl rfl
theorem compL_0 : compL g t e ρ [] = pure [] := by rw [compL]
theorem compL_1 : compL g t e ρ (x :: r) = (M.calm (g x ρ) >>= kCp0 g t e ρ r) := by
  rw [compL]
  congr 1
@[simp] theorem zip_lst {xs ys : List D} : zipM (.lst xs) (.lst ys) = pure (List.zipWith (fun x y => .tup [x, y]) xs ys) := nonrfl rfl
@[simp] theorem zip_tup {xs ys : List D} : zipM (.tup xs) (.tup ys) = pure (List.zipWith (fun x y => .tup [x, y]) xs ys) := nonrfl rfl
end
@[simp] theorem nin_bls {b : Bool} {bs : List Bool} : ninM (.bl b) (.lst (bs.map D.bl)) = pure (.bl (!bs.contains b)) := by
  have h : okL 63 (bs.map D.bl) = true := okL_all fun d hd => by
    obtain ⟨z, _, rfl⟩ := List.mem_map.mp hd
    exact okD_bl
  show (M.need _ >>= fun _ => _) = _
  rw [need_bnd ⟨okD_bl, h⟩]
  congr 2
  unfold memS
  rw [List.any_map, List.contains_eq_any_beq]
  congr 2
  funext z
  show eqv (.bl z) (.bl b) = _
  rw [eqv_bl]
  cases z <;> cases b <;> rfl
theorem nin_kinds {b c : Bool} : ninM (.bl true) (.lst [.bl b, .bl c]) = pure (.bl (!(b || c))) := by
  have := nin_bls (b := true) (bs := [b, c])
  simp only [List.map_cons, List.map_nil] at this
  rw [this]
  cases b <;> cases c <;> rfl
theorem same_int {x : Int} : m_law_same [.int x, .int x] = pure (.bl true) := by
  show run 8 2 _ _ = _
  rw [ev_run (by rfl)]
  simp [wN, whileL_eq, isKd]
theorem same_non : m_law_same [.non, .non] = pure (.bl true) := by
  show run 8 2 _ _ = _
  rw [ev_run (by rfl)]
  simp [wN, whileL_eq, isKd]
theorem same_two {x y : Int} : m_law_same [.lst [.int x, .int y], .lst [.int x, .int y]] = pure (.bl true) := by
  show run 8 2 _ _ = _
  rw [ev_run (by rfl)]
  simp [wN, whileL_eq, isKd, nin_kinds, compL_0, compL_1]
end K47
end
section
/-! K47J: a triple is right. -/
set_option autoImplicit false
set_option linter.all false
set_option maxRecDepth 10000
set_option maxHeartbeats 4000000
namespace K47
open PySem (Str)
open DL
theorem fold_max_mem : ∀ {r : List Int} {x m : Int}, r.foldl (fun m y => if m < y then y else m) x = m → m = x ∨ m ∈ r
  | [], x, m, h => .inl h.symm
  | y :: r, x, m, h => by
    rcases fold_max_mem (r := r) h with h | h
    · change m = if x < y then y else x at h
      by_cases q : x < y
      · rw [if_pos q] at h; exact .inr (h ▸ List.mem_cons_self)
      · rw [if_neg q] at h; exact .inl h
    · exact .inr (List.mem_cons_of_mem _ h)
theorem maxL_mem {l : List Int} {m : Int} (h : maxL l = some m) : m ∈ l := by
  cases l with
  | nil => cases h
  | cons x r =>
    have h := Option.some.inj h
    rcases fold_max_mem h with h | h
    · exact h ▸ List.mem_cons_self
    · exact List.mem_cons_of_mem _ h
theorem fold_min_max {α : Type} {F : α → Int} {c : Int} : ∀ {r : List α} {x : Int}, (r.map fun a => c - F a).foldl (fun m y => if y < m then y else m) (c - x) = c - (r.map F).foldl (fun m y => if m < y then y else m) x
  | [], x => rfl
  | a :: r, x => by
    rw [List.map_cons, List.foldl_cons, List.map_cons, List.foldl_cons]
    by_cases q : x < F a
    · rw [if_pos q, if_pos (by omega)]; exact fold_min_max
    · rw [if_neg q, if_neg (by omega)]; exact fold_min_max
theorem minL_max {α : Type} {F : α → Int} {c m : Int} {l : List α} (h : maxL (l.map F) = some m) : minL (l.map fun a => c - F a) = some (c - m) := by
  cases l with
  | nil => cases h
  | cons x r =>
    have h := Option.some.inj h
    rw [← h]
    exact congrArg some fold_min_max
theorem min_lst {ns : List Int} {m : Int} (h : minL ns = some m) : minM (.lst (ns.map D.int)) = pure (.int m) := by
  unfold minM intsOf
  simp [asInts_map, h]
section
variable {p : Pts} {t g : Nat} {s m l : Int} {a b e f : Ar}
theorem told_eq {gap x : Int} : f.2.1 + f.2.2 * (x - 1) * gap - (f.2.1 + f.2.2 * (1 - 1) * gap) - (e.2.1 + e.2.2 * (x + 1 - 1) * gap) + (e.2.1 + e.2.2 * (1 - 1) * gap) = Fx gap e f x := by
  unfold Fx
  rw [Int.sub_self, Int.mul_zero, Int.mul_zero, Int.zero_mul, Int.mul_assoc, Int.mul_assoc, show x + 1 - 1 = x by omega]
  omega
theorem lens_len (h12 : p.h ≤ 12) : (lens p.h b s).length ≤ 12 := by
  unfold lens
  split
  · simp
  · rw [List.length_map, List.length_range]; omega
theorem law_told_ok (ok : p.Ok) (T : Tri p t g s a b e f m l) : m_law_told_bound [dealD p, partsD p, .int t, .int g, .int s] = pure (.int (m + l)) := by
  obtain ⟨s0, s1, _⟩ := ok.ent T.he
  have h12 := ok.h12
  show run 10 5 _ _ = _
  rw [ev_run (by rfl)]
  have hr := range2_ok (j := if b.2.1 = s then 1 else 2) (k := (if b.2.1 = s then 1 else p.h - 1) + 1) (by split <;> omega) (by split <;> omega) (by have := ok.h2; split <;> omega) (by split <;> omega) (by split <;> omega)
  rw [lens_rng] at hr
  have hll := lens_len (b := b) (s := s) h12
  have hlp := forL_pureI (g := gName 8) (b := sSeq (sAsg (d2 subM (dCall m_last_tick (dCons (dVar 0) (dCons (dVar 3) (dCons (dVar 4) (dCons (dVar 8) (dNil)))))) (dCall m_last_tick (dCons (dVar 0) (dCons (dVar 3) (dCons (dVar 4) (dCons (dC (.int 1)) (dNil))))))) (gName 9))
    (sAppend 7 (d2 addM (d2 subM (dAny 9) (dCall m_last_tick (dCons (dVar 0) (dCons (dVar 2) (dCons (dVar 4) (dCons (d2 addM (dAny 8) (dC (.int 1))) (dNil))))))) (dCall m_last_tick (dCons (dVar 0) (dCons (dVar 2) (dCons (dVar 4) (dCons (dC (.int 1)) (dNil)))))))))
    (fun k ρ => ∃ s8 s9, ρ = [Slot.sh (dealD p), .sh (partsD p), .sh (.int t), .sh (.int g), .sh (.int s), .sh (.int (if b.2.1 = s then 1 else 2)), .sh (.int (if b.2.1 = s then 1 else p.h - 1)), .ow (.lst ((((lens p.h b s).take k).map (Fx p.gap e f)).map D.int)), s8, s9])
    (xs := (lens p.h b s).map D.int) (ρ := [Slot.sh (dealD p), .sh (partsD p), .sh (.int t), .sh (.int g), .sh (.int s), .sh (.int (if b.2.1 = s then 1 else 2)), .sh (.int (if b.2.1 = s then 1 else p.h - 1)), .ow (.lst []), .no, .no]) 0 ⟨_, _, rfl⟩ (fun i x ρ hx ⟨s8, s9, hρ⟩ => by
      subst hρ
      rw [Nat.zero_add]
      rw [List.getElem?_map] at hx
      obtain ⟨z, hz, rfl⟩ := Option.map_eq_some_iff.mp hx
      obtain ⟨z1, z2⟩ := lens_mem ok T (List.mem_of_getElem? hz)
      have q1 := last_tick_ok (s := z) ok T.ig T.hf s0 s1 (by omega) (by omega)
      have q2 := last_tick_ok (s := 1) ok T.ig T.hf s0 s1 (by omega) (by omega)
      have q3 := last_tick_ok (s := z + 1) ok T.it T.he s0 s1 (by omega) (by omega)
      have q4 := last_tick_ok (s := 1) ok T.it T.he s0 s1 (by omega) (by omega)
      have hn : (((lens p.h b s).take i).map (Fx p.gap e f)).length < 16777216 := by
        rw [List.length_map, List.length_take]; omega
      refine ⟨[Slot.sh (dealD p), .sh (partsD p), .sh (.int t), .sh (.int g), .sh (.int s), .sh (.int (if b.2.1 = s then 1 else 2)), .sh (.int (if b.2.1 = s then 1 else p.h - 1)), .ow (.lst ((((lens p.h b s).take (i + 1)).map (Fx p.gap e f)).map D.int)), .sh (.int z), .sh (.int (f.2.1 + f.2.2 * (z - 1) * p.gap - (f.2.1 + f.2.2 * (1 - 1) * p.gap)))], ?_, _, _, rfl⟩
      rw [List.take_add_one, hz, Option.toList_some, List.map_append, List.map_append, List.map_cons, List.map_nil, List.map_cons, List.map_nil, ← told_eq]
      generalize f.2.1 + f.2.2 * (z - 1) * p.gap = u1 at *
      generalize f.2.1 + f.2.2 * (1 - 1) * p.gap = u2 at *
      generalize e.2.1 + e.2.2 * (z + 1 - 1) * p.gap = u3 at *
      generalize e.2.1 + e.2.2 * (1 - 1) * p.gap = u4 at *
      generalize ((lens p.h b s).take i).map (Fx p.gap e f) = ys at *
      simp [q1, q2, q3, q4, hn])
  obtain ⟨ρ', h1, s8, s9, rfl⟩ := hlp
  rw [Nat.zero_add, List.length_map, List.take_length] at h1
  have hmx := (Sq.lst _).max T.hm
  generalize ((lens p.h b s).map (Fx p.gap e f)).map D.int = ys at h1 hmx
  simp [seal_lengths_ok ok T, hr, h1, hmx, law_lag_ok T.hb T.hl]
end
end K47
end
section
/-! K47K: a triple is right, joined. -/
set_option autoImplicit false
set_option linter.all false
set_option maxRecDepth 10000
set_option maxHeartbeats 8000000
namespace K47
open PySem (Str)
open DL
structure Pts.Sm (p : Pts) : Prop where
  s : p.start ≤ 100
  g : p.gap ≤ 2000
  l : ∀ k ∈ p.locks, ∀ e ∈ k, e.2.1 ≤ 1000
section
variable {p : Pts} {t g : Nat} {s m l : Int} {a b e f : Ar}
theorem Fx_bd {gap x : Int} (he0 : 0 ≤ e.2.2) (he1 : e.2.2 ≤ 1) (hf0 : 0 ≤ f.2.2) (hf1 : f.2.2 ≤ 1) (g0 : 0 ≤ gap) (g1 : gap ≤ 2000) (x0 : 1 ≤ x) (x1 : x ≤ 12) : -24000 ≤ Fx gap e f x ∧ Fx gap e f x ≤ 24000 ∧ (e.2.2 = 0 ∧ f.2.2 = 0 → Fx gap e f x = 0) ∧ (e.2.2 = 1 ∧ f.2.2 = 1 → Fx gap e f x = -gap) := by
  have h1 : 0 ≤ x * gap := Int.mul_nonneg (by omega) g0
  have h2 : x * gap ≤ 12 * 2000 := Int.mul_le_mul x1 g1 g0 (by omega)
  have h3 : (x - 1) * gap = x * gap - gap := by rw [Int.sub_mul, Int.one_mul]
  have h4 : 0 ≤ (x - 1) * gap := Int.mul_nonneg (by omega) g0
  unfold Fx
  generalize x * gap = u at *
  generalize (x - 1) * gap = v at *
  rcases (show e.2.2 = 0 ∨ e.2.2 = 1 by omega) with q | q <;> rcases (show f.2.2 = 0 ∨ f.2.2 = 1 by omega) with r | r <;> rw [q, r] <;> refine ⟨by omega, by omega, fun _ => by omega, fun _ => by omega⟩
theorem Tri.m_bd (ok : p.Ok) (sm : p.Sm) (T : Tri p t g s a b e f m l) : -24000 ≤ m ∧ m ≤ 24000 ∧ (e.2.2 = 0 ∧ f.2.2 = 0 → m = 0) ∧ (e.2.2 = 1 ∧ f.2.2 = 1 → m = -p.gap) := by
  obtain ⟨_, _, _, _, z1, z2, _⟩ := ok.ent T.he
  obtain ⟨_, _, _, _, z3, z4, _⟩ := ok.ent T.hf
  obtain ⟨g1, _⟩ := ok.gap
  have h12 := ok.h12
  obtain ⟨x, hx, rfl⟩ := List.mem_map.mp (maxL_mem T.hm)
  obtain ⟨x1, x2⟩ := lens_mem ok T hx
  exact Fx_bd z1 z2 z3 z4 (by omega) sm.g x1 (by omega)
theorem Tri.l_bd (ok : p.Ok) (T : Tri p t g s a b e f m l) : 1 ≤ l ∧ l ≤ 1000 := by
  have h := T.hl
  unfold atD at h
  obtain ⟨k, _, hk⟩ := Option.bind_eq_some_iff.mp (show (ixD p.lags.length b.2.2).bind (fun k => p.lags[k]?) = some l from h)
  exact ok.lg l (List.mem_of_getElem? hk)
theorem Tri.ne (ok : p.Ok) (T : Tri p t g s a b e f m l) : t ≠ g := by
  rintro rfl
  have h : a = b := Option.some.inj (T.ha.symm.trans T.hb)
  have := ok.ar a (List.mem_of_getElem? T.ha)
  have := T.hab
  subst h
  omega
theorem Tri.later (T : Tri p t g s a b e f m l) {k : Int} : Tri (p.later k) t g s a b (e.1, e.2.1 + k, e.2.2) (f.1, f.2.1 + k, f.2.2) m l := ⟨T.ha, T.hb, T.hab, T.hs, ent_later T.he, ent_later T.hf, T.hm, T.hl⟩
theorem triple_ok (ok : p.Ok) (sm : p.Sm) (T : Tri p t g s a b e f m l) : m_law_triple_right [partsD p, dealD p, .tup [.int t, .int g, .int s]] = pure (.bl true) := by
  have hlt : t < p.locks.length := by rw [ok.ll]; exact T.it
  have hlg : g < p.locks.length := by rw [ok.ll]; exact T.ig
  obtain ⟨g1, g2⟩ := ok.gap
  obtain ⟨s0, s1, y1, y2, z1, z2, y3⟩ := ok.ent T.he
  obtain ⟨_, _, y4, y5, z3, z4, y6⟩ := ok.ent T.hf
  have sf := sm.l _ (lock_mem (ent_mem T.hf).1) f (ent_mem T.hf).1
  have hst := sm.s
  obtain ⟨m1, m2, m3, m4⟩ := T.m_bd ok sm
  obtain ⟨l1, l2⟩ := T.l_bd ok
  have hne := T.ne ok
  have h12 := ok.h12
  show run 15 3 _ _ = _
  rw [ev_run (by rfl)]
  have okl : (p.later 7).Ok := ok.later (by omega) (by have := sm.s; omega) fun k hk e he => by have := sm.l k hk e he; omega
  have bl := bound_ok okl (T.later (k := 7))
  obtain ⟨jt, hjt, hjt2⟩ := law_spot_ok (p := p) hlt T.he
  obtain ⟨jg, hjg, hjg2⟩ := law_spot_ok (p := p) hlg T.hf
  have i1 : itemM (arD e) (.int 2) = pure (.int e.2.2) := by simp [arD]
  have i2 : itemM (arD f) (.int 2) = pure (.int f.2.2) := by simp [arD]
  have i3 : itemM (arD f) (.int 1) = pure (.int f.2.1) := by simp [arD]
  have i4 : itemM (partsD p) (.int 3) = pure (.int p.gap) := by simp [partsD]
  have i5 : itemM (partsD p) (.int 2) = pure (.int p.start) := by simp [partsD]
  obtain ⟨base, hb⟩ : ∃ x, x = (if p.start - (m + l) + 1 > f.2.1 then p.start - (m + l) + 1 else f.2.1) := ⟨_, rfl⟩
  have hb1 : p.start - (m + l) + 1 ≤ base ∧ f.2.1 ≤ base ∧ base ≤ 30000 := by
    rw [hb]
    split <;> omega
  have w1 := law_with_last_ok (last := base) (sealed := f.2.2) hlg hjg2
  have ok1 := ok.setE (v := (f.1, base, f.2.2)) hlg hjg2 rfl (by show _ ≤ base; omega) (by show base ≤ _; omega) z3 z4
  have hlt1 : t < (p.setE g jg (f.1, base, f.2.2)).locks.length := by rw [ok1.ll]; exact T.it
  have hjt3 : ((p.setE g jg (f.1, base, f.2.2)).lock t)[jt]? = some e := by rw [lock_set_ne (fun z => hne z.symm)]; exact hjt2
  have e1 : (p.setE g jg (f.1, base, f.2.2)).ent g s = some (f.1, base, f.2.2) := by
    have : ∀ z, f.1 = z → (p.setE g jg (f.1, base, f.2.2)).ent g z = some (f.1, base, f.2.2) := fun z hz => by subst hz; exact ent_set ok hlg hjg2 rfl
    exact this s y6
  have hlp := forL_pure (g := gName 11) (b := sSeq (sAsg (dCall m_law_with_last (dCons (dVar 10) (dCons (dVar 3) (dCons (dCall m_law_spot (dCons (dVar 0) (dCons (dVar 3) (dCons (dVar 5) (dNil))))) (dCons (d2 subM (d2 addM (dAny 9) (dAny 6)) (dAny 11)) (dCons (dVar 7) (dNil))))))) (gName 12))
    (sSeq (sAsg (dComp (iSeq (dCall m_law_lengths (dCons (dVar 0) (dCons (dVar 4) (dCons (dVar 5) (dNil)))))) (gName 14) (tYes) (d2 subM (dCall m_last_tick (dCons (dCall m_law_made (dCons (dVar 12) (dNil))) (dCons (dVar 3) (dCons (dVar 5) (dCons (d2 addM (dAny 14) (dC (.int 1))) (dNil)))))) (dCall m_law_last (dCons (dVar 12) (dCons (dVar 4) (dCons (dVar 5) (dCons (dVar 14) (dNil))))))) [14]) (gName 13))
    (sIf (tOf (d2 neM (d2 subM (dCall (b1 minM) (dCons (dAny 13) (dNil))) (dCall m_law_lag (dCons (dVar 0) (dCons (dVar 4) (dNil))))) (d1 negM (dAny 11))))
    (sRet (dC (.bl false)))
    (sNext))))
    (fun ρ => ∃ s11 s12 s13, ρ = [Slot.sh (partsD p), .sh (dealD p), .sh (.tup [.int t, .int g, .int s]), .sh (.int t), .sh (.int g), .sh (.int s), .sh (.int (m + l)), .sh (.int e.2.2), .sh (.int f.2.2), .sh (.int base), .sh (partsD (p.setE g jg (f.1, base, f.2.2))), s11, s12, s13, .no])
    (xs := [D.int 0, .int 1]) (ρ := [Slot.sh (partsD p), .sh (dealD p), .sh (.tup [.int t, .int g, .int s]), .sh (.int t), .sh (.int g), .sh (.int s), .sh (.int (m + l)), .sh (.int e.2.2), .sh (.int f.2.2), .sh (.int base), .sh (partsD (p.setE g jg (f.1, base, f.2.2))), .no, .no, .no, .no]) ⟨_, _, _, rfl⟩ (fun x hx ρ ⟨s11, s12, s13, hρ⟩ => by
      subst hρ
      obtain ⟨c, rfl, c0, c1⟩ : ∃ c : Int, x = .int c ∧ 0 ≤ c ∧ c ≤ 1 := by
        rcases List.mem_cons.mp hx with h | h
        · exact ⟨0, h, by omega, by omega⟩
        · exact ⟨1, List.mem_singleton.mp h, by omega, by omega⟩
      have w2 := law_with_last_ok (last := base + (m + l) - c) (sealed := e.2.2) hlt1 hjt3
      have ok2 := ok1.setE (v := (e.1, base + (m + l) - c, e.2.2)) hlt1 hjt3 rfl (by show p.start ≤ base + (m + l) - c; omega) (by show base + (m + l) - c ≤ _; omega) z1 z2
      have e2 : ((p.setE g jg (f.1, base, f.2.2)).setE t jt (e.1, base + (m + l) - c, e.2.2)).ent t s = some (e.1, base + (m + l) - c, e.2.2) := by
        have : ∀ z, e.1 = z → ((p.setE g jg (f.1, base, f.2.2)).setE t jt (e.1, base + (m + l) - c, e.2.2)).ent t z = some (e.1, base + (m + l) - c, e.2.2) := fun z hz => by subst hz; exact ent_set ok1 hlt1 hjt3 rfl
        exact this s y3
      have e3 : ((p.setE g jg (f.1, base, f.2.2)).setE t jt (e.1, base + (m + l) - c, e.2.2)).ent g s = some (f.1, base, f.2.2) := by rw [ent_set_ne hne]; exact e1
      obtain ⟨q, hq⟩ : ∃ q, q = (p.setE g jg (f.1, base, f.2.2)).setE t jt (e.1, base + (m + l) - c, e.2.2) := ⟨_, rfl⟩
      have qa : q.arcs = p.arcs := by rw [hq]; rfl
      have qh : q.h = p.h := by rw [hq]; rfl
      have qg : q.gap = p.gap := by rw [hq]; rfl
      rw [← hq] at w2 ok2 e2 e3
      have hlq : g < q.locks.length := by rw [ok2.ll, qa]; exact T.ig
      have hc : compL (gName 14) (tYes) (d2 subM (dCall m_last_tick (dCons (dCall m_law_made (dCons (dVar 12) (dNil))) (dCons (dVar 3) (dCons (dVar 5) (dCons (d2 addM (dAny 14) (dC (.int 1))) (dNil)))))) (dCall m_law_last (dCons (dVar 12) (dCons (dVar 4) (dCons (dVar 5) (dCons (dVar 14) (dNil)))))))
          [Slot.sh (partsD p), .sh (dealD p), .sh (.tup [.int t, .int g, .int s]), .sh (.int t), .sh (.int g), .sh (.int s), .sh (.int (m + l)), .sh (.int e.2.2), .sh (.int f.2.2), .sh (.int base), .sh (partsD (p.setE g jg (f.1, base, f.2.2))), .sh (.int c), .sh (partsD q), s13, .no] ((lens p.h b s).map D.int) = pure (((lens p.h b s).map fun x => (m + l - c) - Fx p.gap e f x).map D.int) := by
        rw [compL_pure (fun x => [Slot.sh (partsD p), .sh (dealD p), .sh (.tup [.int t, .int g, .int s]), .sh (.int t), .sh (.int g), .sh (.int s), .sh (.int (m + l)), .sh (.int e.2.2), .sh (.int f.2.2), .sh (.int base), .sh (partsD (p.setE g jg (f.1, base, f.2.2))), .sh (.int c), .sh (partsD q), s13, .sh x]) (fun _ => true) (fun x => match x with | .int z => .int ((m + l - c) - Fx p.gap e f z) | _ => .non) (fun x hx => by
          obtain ⟨z, hz, rfl⟩ := List.mem_map.mp hx
          obtain ⟨x1, x2⟩ := lens_mem ok T hz
          have q1 := last_tick_ok (s := z + 1) ok2 (i := t) (by rw [qa]; exact T.it) e2 s0 (by rw [qh]; exact s1) (by omega) (by rw [qh]; omega)
          have q2 := law_last_ok (x := z) hlq e3 (by rw [qg]; omega) (by rw [qg]; omega) z3 z4
          refine ⟨by simp, by simp, fun _ => ?_⟩
          have hmd := law_made_ok ok2
          rw [qg] at q1 q2
          have hfx : base + (m + l) - c + e.2.2 * (z + 1 - 1) * p.gap - (base + (z - 1) * p.gap * f.2.2) = (m + l - c) - Fx p.gap e f z := by
            unfold Fx
            rw [show z + 1 - 1 = z by omega, Int.mul_assoc, Int.mul_comm ((z - 1) * p.gap)]
            omega
          show _ = pure (D.int ((m + l - c) - Fx p.gap e f z))
          rw [← hfx]
          change m_last_tick _ = pure (.int (base + (m + l) - c + e.2.2 * (z + 1 - 1) * p.gap)) at q1
          change m_law_last _ = pure (.int (base + (z - 1) * p.gap * f.2.2)) at q2
          generalize base + (m + l) - c + e.2.2 * (z + 1 - 1) * p.gap = u1 at *
          generalize base + (z - 1) * p.gap * f.2.2 = u2 at *
          simp [hmd, q1, q2])]
        congr 1
        rw [List.filter_eq_self.mpr (fun _ _ => rfl), List.map_map, List.map_map]
        rfl
      have hmn := min_lst (minL_max (c := m + l - c) T.hm)
      refine ⟨[Slot.sh (partsD p), .sh (dealD p), .sh (.tup [.int t, .int g, .int s]), .sh (.int t), .sh (.int g), .sh (.int s), .sh (.int (m + l)), .sh (.int e.2.2), .sh (.int f.2.2), .sh (.int base), .sh (partsD (p.setE g jg (f.1, base, f.2.2))), .sh (.int c), .sh (partsD q), .sh (.lst (((lens p.h b s).map fun x => (m + l - c) - Fx p.gap e f x).map D.int)), .no], ?_, _, _, _, rfl⟩
      generalize ((lens p.h b s).map fun x => (m + l - c) - Fx p.gap e f x).map D.int = ys at hc hmn ⊢
      have hz : m + l - c - m - l = -c := by omega
      simp [hjt, w2, law_lengths_ok ok.h12 ok.h2 T.hb, hc, hmn, law_lag_ok T.hb T.hl, hz])
  obtain ⟨ρ', h1, s11, s12, s13, rfl⟩ := hlp
  obtain ⟨ce, hce⟩ : ∃ c, c = e.2.2 := ⟨_, rfl⟩
  obtain ⟨cf, hcf⟩ : ∃ c, c = f.2.2 := ⟨_, rfl⟩
  rw [← hce] at i1 h1 z1 z2 m3 m4
  rw [← hcf] at i2 h1 z3 z4 m3 m4 w1
  have hb2 : max2M (.int f.2.1) (.int (p.start - (m + l) + 1)) = pure (.int base) := by rw [max2_int, hb]
  have hsm := @same_two (m + l) (m + l)
  have hsi := @same_int (m + l)
  have hlo := law_bound_ok ok T
  have hbo := bound_ok ok T
  have hto := law_told_ok ok T
  have hla := law_lag_ok T.hb T.hl
  have hmd := law_made_ok okl
  obtain ⟨due, hdue⟩ : ∃ x, x = m + l := ⟨_, rfl⟩
  have hm0 : ce = 0 ∧ cf = 0 → due = l := fun z => by have := m3 z; omega
  have hm1 : ce = 1 ∧ cf = 1 → due = l - p.gap := fun z => by have := m4 z; omega
  rw [← hdue] at h1 bl hb2 hsm hsi hlo hbo hto
  clear hdue m1 m2 m3 m4 hb1 hb
  rcases (show ce = 0 ∨ ce = 1 by omega) with q | q <;> rcases (show cf = 0 ∨ cf = 1 by omega) with r | r <;> subst q <;> subst r
  · have hd := hm0 ⟨rfl, rfl⟩
    subst hd
    simp [hlo, hbo, permL, hsm, hto, hsi, law_later_ok, hmd, bl, law_entry_ok hlt T.he, law_entry_ok hlg T.hf, i1, i2, i3, i4, i5, hla, hb2, hjg, w1, h1]
  · simp [hlo, hbo, permL, hsm, hto, hsi, law_later_ok, hmd, bl, law_entry_ok hlt T.he, law_entry_ok hlg T.hf, i1, i2, i3, i4, i5, hla, hb2, hjg, w1, h1]
  · simp [hlo, hbo, permL, hsm, hto, hsi, law_later_ok, hmd, bl, law_entry_ok hlt T.he, law_entry_ok hlg T.hf, i1, i2, i3, i4, i5, hla, hb2, hjg, w1, h1]
  · have hd := hm1 ⟨rfl, rfl⟩
    subst hd
    simp [hlo, hbo, permL, hsm, hto, hsi, law_later_ok, hmd, bl, law_entry_ok hlt T.he, law_entry_ok hlg T.hf, i1, i2, i3, i4, i5, hla, hb2, hjg, w1, h1]
end
end K47
end
section
/-! K47L: the law's sample: lists shuffled, picked, parted; rows of arcs; lags. -/
set_option autoImplicit false
set_option linter.all false
set_option maxRecDepth 10000
set_option maxHeartbeats 4000000
namespace K47
open PySem (Str)
open DL
@[simp] theorem calm_drawM {n : Int} : M.calm (drawM .st (.int n)) = drawM .st (.int n) := by
  show M.calm (M.need _ >>= fun _ => M.draw n >>= fun k => pure (D.int k)) = _
  rfl
section
variable {j i : Nat} {a : XE} {ρ : Env} {es ds : List D} {y : D}
def kPP3 (j i : Nat) (ρ : Env) (es ds : List D) (y : D) : M Fl := M.get (asInt y) >>= fun k => M.need (i ≠ j ∧ -(2 ^ 63) ≤ k ∧ k < 2 ^ 63 ∧ es.length < line) >>= fun _ => M.get (ixD ds.length k) >>= fun q => M.get (ds[q]?) >>= fun d => pure (.nx ((ρ.set i (.ow (.lst (ds.eraseIdx q)))).set j (.ow (.lst (es ++ [d])))))
def kPP2 (j i : Nat) (a : XE) (ρ : Env) (es ds : List D) : M Fl := a ρ >>= kPP3 j i ρ es ds
def kPP1 (j i : Nat) (a : XE) (ρ : Env) (es : List D) : M Fl := getOwL ρ i >>= kPP2 j i a ρ es
@[simp] theorem ev_appPop : sAppendPop j i a ρ = (getOwL ρ j >>= kPP1 j i a ρ) := nonrfl rfl
@[simp] theorem kPP1_eq : kPP1 j i a ρ es = (getOwL ρ i >>= kPP2 j i a ρ es) := nonrfl rfl
@[simp] theorem kPP2_eq : kPP2 j i a ρ es ds = (a ρ >>= kPP3 j i ρ es ds) := nonrfl rfl
theorem kPP3_ok {k : Nat} {d : D} (hij : i ≠ j) (hk : ds[k]? = some d) (hl : ds.length ≤ 1000000) (he : es.length ≤ 1000000) : kPP3 j i ρ es ds (.int k) = pure (.nx ((ρ.set i (.ow (.lst (ds.eraseIdx k)))).set j (.ow (.lst (es ++ [d]))))) := by
  have hk2 : k < ds.length := (List.getElem?_eq_some_iff.mp hk).1
  unfold kPP3
  rw [asInt_int, get_some, pure_bnd, need_bnd ⟨hij, by omega, by omega, by rw [line_eq]; omega⟩, ixD_nat hk2, get_some, pure_bnd, hk, get_some, pure_bnd]
end
theorem erase_perm {α : Type} : ∀ {l : List α} {k : Nat} (h : k < l.length), (l[k] :: l.eraseIdx k).Perm l
  | [], _, h => by simp at h
  | x :: r, 0, _ => List.Perm.refl _
  | x :: r, k + 1, h => by
    rw [List.getElem_cons_succ, List.eraseIdx_cons_succ]
    exact (List.Perm.swap _ _ _).trans ((erase_perm (by simpa using h)).cons x)
theorem shuffled_while {d : D} : ∀ {n : Nat} {ds es : List D}, ds.length < n → ds.length ≤ 10000 → es.length + ds.length ≤ 100000 → (∀ x ∈ ds, okD 63 x = true) →
    Tot (whileL (tOf (d2 neM (dAny 2) (dLst (dNil)))) (sAppendPop 3 2 (dCall (b2 drawM) (dCons (dVar 0) (dCons (dCall (b1 lenM) (dCons (dAny 2) (dNil))) (dNil))))) n [Slot.sh .st, .sh d, .ow (.lst ds), .ow (.lst es)]) fun f => ∃ ys : List D, f = .nx [Slot.sh .st, .sh d, .ow (.lst []), .ow (.lst ys)] ∧ ys.Perm (es ++ ds)
  | 0, ds, es, h, _, _, _ => absurd h (Nat.not_lt_zero _)
  | n + 1, [], es, _, _, _, _ => by
    rw [whileL_eq]
    simp
    exact .pure ⟨es, rfl, by simp⟩
  | n + 1, x :: ds, es, h, h1, h2, h3 => by
    rw [whileL_eq]
    have ho : okL 63 (x :: ds) = true := okL_all h3
    have hn := ne_nil1 ho
    simp only [ev_tOf, ev_2, ev_any, getAnyS, getAny0o, pure_bnd, k2_eq, ev_lst, ev_nil, kL_ok, List.length_nil, Nat.zero_le, hn, kOf_eq, kWh_t, ev_appPop, getOwLS, getOwL0, kPP1_eq, kPP2_eq, ev_call, ev_cons, ev_var, getSh0, kC_eq, ev_b1, len_lst, kC2_eq, ev_b2, bnd_bnd]
    refine Tot.drawB (by simp <;> omega) (by simp at h1 ⊢ <;> omega) fun z z0 z1 => ?_
    obtain ⟨k, rfl⟩ : ∃ k : Nat, z = k := ⟨z.toNat, by omega⟩
    have hk : k < (x :: ds).length := by omega
    rw [kPP3_ok (by decide) (List.getElem?_eq_getElem hk) (by omega) (by omega), pure_bnd, kWh2_nx]
    have hlen := List.length_eraseIdx_of_lt hk
    refine (shuffled_while (n := n) (ds := (x :: ds).eraseIdx k) (es := es ++ [(x :: ds)[k]]) (by rw [hlen]; simp at h ⊢; omega) (by omega) (by rw [hlen, List.length_append]; simp at h2 ⊢; omega) fun y hy => h3 y (List.mem_of_mem_eraseIdx hy)).imp ?_
    rintro f ⟨ys, rfl, hp⟩
    refine ⟨ys, rfl, hp.trans ?_⟩
    rw [List.append_assoc, List.singleton_append]
    exact List.Perm.append_left _ (erase_perm hk)
theorem shuffled_ok {d : D} {ds : List D} (hd : Sq d ds) (hl : ds.length ≤ 10000) (h : ∀ x ∈ ds, okD 63 x = true) : Tot (m_law_shuffled [.st, d]) fun r => ∃ ys : List D, r = .lst ys ∧ ys.Perm ds := by
  show Tot (run 4 2 _ _) _
  rw [ev_run (by rfl)]
  have hls : listM d = pure (.lst ds) := by cases hd <;> simp
  have hw := shuffled_while (d := d) (n := wN) (ds := ds) (es := []) (by unfold wN; omega) hl (by simp; omega) h
  simp [hls]
  refine hw.bnd ?_
  rintro f ⟨ys, rfl, hp⟩
  simp
  exact .pure ⟨ys, rfl, by simpa using hp⟩
theorem pick_ok {d : D} {ds : List D} (hd : Sq d ds) (h0 : ds ≠ []) (hl : ds.length ≤ 10000) : Tot (m_law_pick [.st, d]) fun r => r ∈ ds := by
  show Tot (run 2 2 _ _) _
  rw [ev_run (by rfl)]
  have := len_pos h0
  simp [hd.len]
  refine Tot.drawB (by omega) (by omega) fun z z0 z1 => ?_
  obtain ⟨y, _, h2, h3⟩ := atD_lt z0 z1
  simp [hd.item, h2]
  exact .pure h3
theorem part_ok {d : D} {ds : List D} (hd : Sq d ds) : Tot (m_law_part [.st, d, .int 3]) fun r => ∃ ys : List D, r = .lst ys ∧ ys.Sublist ds := by
  show Tot (run 4 3 _ _) _
  rw [ev_run (by rfl)]
  have hc := Tot.comp (g := gName 3) (t := tOf (d2 gtM (dCall (b2 drawM) (dCons (dVar 0) (dCons (dVar 2) (dNil)))) (dC (.int 0)))) (e := dVar 3) (ρ := [Slot.sh .st, .sh d, .sh (.int 3), .no]) (fun x y => y = x) (xs := ds) fun x hx => by
    simp
    refine Tot.drawB (by omega) (by omega) fun z z0 z1 => ?_
    simp
    refine Tot.cond (fun _ => ?_) fun _ => ?_
    · exact .pure fun y hy => (Option.some.inj hy).symm
    · exact .pure fun y hy => by cases hy
  simp [hd.iter]
  refine hc.bnd ?_
  rintro ys ⟨zs, h1, h2, h3⟩
  refine .pure ⟨ys, rfl, ?_⟩
  have : ys = zs := by
    apply List.ext_getElem?
    intro i
    by_cases q : i < ys.length
    · have q2 : i < zs.length := by omega
      rw [List.getElem?_eq_getElem q, List.getElem?_eq_getElem q2]
      exact congrArg some (h3 i _ _ (List.getElem?_eq_getElem q2) (List.getElem?_eq_getElem q))
    · rw [List.getElem?_eq_none (by omega), List.getElem?_eq_none (by omega)]
  rw [this]
  exact h1
/-! ### rows of arcs -/
def idxs (c : Ar → Bool) : Nat → List Ar → List Int
  | _, [] => []
  | k, a :: r => if c a then (k : Int) :: idxs c (k + 1) r else idxs c (k + 1) r
theorem idxs_mem {c : Ar → Bool} {x : Int} : ∀ {as : List Ar} {k : Nat}, x ∈ idxs c k as → ∃ (i : Nat) (a : Ar), as[i]? = some a ∧ c a = true ∧ x = ((k + i : Nat) : Int)
  | [], _, h => by simp [idxs] at h
  | a :: r, k, h => by
    unfold idxs at h
    split at h
    · rename_i q
      rcases List.mem_cons.mp h with h | h
      · exact ⟨0, a, rfl, q, h⟩
      · obtain ⟨i, b, h1, h2, h3⟩ := idxs_mem h
        exact ⟨i + 1, b, by simpa using h1, h2, by rw [h3]; congr 1; omega⟩
    · obtain ⟨i, b, h1, h2, h3⟩ := idxs_mem h
      exact ⟨i + 1, b, by simpa using h1, h2, by rw [h3]; congr 1; omega⟩
theorem mem_idxs {c : Ar → Bool} {a : Ar} : ∀ {as : List Ar} {k i : Nat}, as[i]? = some a → c a = true → ((k + i : Nat) : Int) ∈ idxs c k as
  | [], _, _, h, _ => by simp at h
  | b :: r, k, 0, h, hc => by
    have h : b = a := by simpa using h
    subst h
    unfold idxs
    rw [if_pos hc]
    exact List.mem_cons_self
  | b :: r, k, i + 1, h, hc => by
    have := mem_idxs (k := k + 1) (as := r) (i := i) (by simpa using h) hc
    rw [show k + 1 + i = k + (i + 1) by omega] at this
    unfold idxs
    split
    · exact List.mem_cons_of_mem _ this
    · exact this
theorem idxs_rise {c : Ar → Bool} : ∀ {as : List Ar} {k : Nat}, Rise (idxs c k as)
  | [], _ => List.Pairwise.nil
  | a :: r, k => by
    unfold idxs
    split
    · refine List.Pairwise.cons (fun x hx => ?_) idxs_rise
      obtain ⟨i, _, _, _, rfl⟩ := idxs_mem hx
      omega
    · exact idxs_rise
theorem idxs_len {c : Ar → Bool} : ∀ {as : List Ar} {k : Nat}, (idxs c k as).length ≤ as.length
  | [], _ => Nat.le_refl _
  | a :: r, k => by
    have := idxs_len (c := c) (as := r) (k := k + 1)
    unfold idxs
    split <;> simp <;> omega
theorem idxs_enum {c : Ar → Bool} {C : D → Bool} (hC : ∀ (i : Int) a, C (.tup [.int i, arD a]) = c a) : ∀ {as : List Ar} {k : Nat}, ((enumFrom k (as.map arD)).filter C).map (fun x => match x with | .tup (y :: _) => y | _ => .non) = (idxs c k as).map D.int
  | [], _ => rfl
  | a :: r, k => by
    rw [List.map_cons, enumFrom, idxs]
    have ih := idxs_enum hC (as := r) (k := k + 1)
    by_cases q : c a = true
    · rw [List.filter_cons_of_pos (by rw [hC]; exact q), if_pos q, List.map_cons, List.map_cons, ih]
    · rw [List.filter_cons_of_neg (by rw [hC]; exact q), if_neg q, ih]
section
variable {d : D} {as : List Ar} {h : Int}
theorem enum_arc {x : D} (hx : x ∈ enumFrom 0 (as.map arD)) : ∃ (i : Nat) (a : Ar), as[i]? = some a ∧ x = .tup [.int i, arD a] := by
  obtain ⟨i, y, hy, rfl⟩ := enumFrom_mem hx
  rw [List.getElem?_map] at hy
  obtain ⟨a, ha, rfl⟩ := Option.map_eq_some_iff.mp hy
  exact ⟨i, a, ha, by rw [Nat.zero_add]⟩
def intoL (as : List Ar) (h : Int) : List Int := idxs (fun a => decide (a.2.1 = h)) 0 as
def outL (as : List Ar) (h : Int) : List Int := idxs (fun a => decide (a.1 = h)) 0 as
theorem into_ok (hd : Sq d (as.map arD)) : m_law_into [d, .int h] = pure (.lst ((intoL as h).map D.int)) := by
  show run 4 2 _ _ = _
  rw [ev_run (by rfl)]
  have hc : compL (gTup 2 (gsCons (gName 2) (gsCons (gName 3) (gsNil)))) (tOf (d2 eqM (d2 itemM (dAny 3) (dC (.int 1))) (dAny 1))) (dVar 2) [Slot.sh d, .sh (.int h), .no, .no] (enumFrom 0 (as.map arD)) = pure ((intoL as h).map D.int) := by
    rw [compL_pure (fun x => match x with | .tup [y, z] => [Slot.sh d, .sh (.int h), .sh y, .sh z] | _ => []) (fun x => match x with | .tup [_, .tup [_, .int y, _]] => decide (y = h) | _ => false) (fun x => match x with | .tup (y :: _) => y | _ => .non) (fun x hx => by
      obtain ⟨i, a, ha, rfl⟩ := enum_arc hx
      simp [arD])]
    congr 1
    exact idxs_enum (c := fun a => decide (a.2.1 = h)) (fun i a => rfl)
  simp [hd.enum, hc]
theorem out_ok (hd : Sq d (as.map arD)) : m_law_out [d, .int h] = pure (.lst ((outL as h).map D.int)) := by
  show run 4 2 _ _ = _
  rw [ev_run (by rfl)]
  have hc : compL (gTup 2 (gsCons (gName 2) (gsCons (gName 3) (gsNil)))) (tOf (d2 eqM (d2 itemM (dAny 3) (dC (.int 0))) (dAny 1))) (dVar 2) [Slot.sh d, .sh (.int h), .no, .no] (enumFrom 0 (as.map arD)) = pure ((outL as h).map D.int) := by
    rw [compL_pure (fun x => match x with | .tup [y, z] => [Slot.sh d, .sh (.int h), .sh y, .sh z] | _ => []) (fun x => match x with | .tup [_, .tup (.int y :: _)] => decide (y = h) | _ => false) (fun x => match x with | .tup (y :: _) => y | _ => .non) (fun x hx => by
      obtain ⟨i, a, ha, rfl⟩ := enum_arc hx
      simp [arD])]
    congr 1
    exact idxs_enum (c := fun a => decide (a.1 = h)) (fun i a => rfl)
  simp [hd.enum, hc]
end
end K47
end
section
/-! K47N: the law's sample: wishes. -/
set_option autoImplicit false
set_option linter.all false
set_option maxRecDepth 10000
set_option maxHeartbeats 4000000
namespace K47
open PySem (Str)
open DL
/-- a comprehension without a test -/
theorem Tot.compT {α : Type} (f : α → D) (B : D → α → Prop) {g : XG} {e : XE} {ρ : Env} : ∀ {xs : List D}, (∀ x ∈ xs, Tot (M.calm (g x ρ) >>= fun ρ1 => M.calm (e ρ1)) fun y => ∃ a, y = f a ∧ B x a) →
    Tot (compL g tYes e ρ xs) fun ys => ∃ as : List α, ys = as.map f ∧ as.length = xs.length ∧ ∀ (i : Nat) x a, xs[i]? = some x → as[i]? = some a → B x a
  | [], _ => by
    rw [compL]
    exact .pure ⟨[], rfl, rfl, fun i x a h => by simp at h⟩
  | x :: r, h => by
    have ih := Tot.compT f B (xs := r) fun z hz => h z (List.mem_cons_of_mem _ hz)
    have e1 : compL g tYes e ρ (x :: r) = ((M.calm (g x ρ) >>= fun ρ1 => M.calm (e ρ1)) >>= fun y => compL g tYes e ρ r >>= fun ys => pure (y :: ys)) := by
      rw [compL, bnd_bnd]
      congr 1
    refine Tot.eq e1 ((h x List.mem_cons_self).bnd ?_)
    rintro y ⟨a, rfl, ha⟩
    refine ih.bnd ?_
    rintro ys ⟨as, rfl, h2, h3⟩
    refine .pure ⟨a :: as, rfl, by rw [List.length_cons, List.length_cons, h2], fun i z w hz hw => ?_⟩
    cases i with
    | zero => simp at hz hw; subst hz hw; exact ha
    | succ i => exact h3 i z w (by simpa using hz) (by simpa using hw)
theorem all_of_at {α : Type} {xs : List D} {as : List α} {B : D → α → Prop} {Q : α → Prop} (h2 : as.length = xs.length) (h3 : ∀ (i : Nat) x a, xs[i]? = some x → as[i]? = some a → B x a) (h : ∀ x a, x ∈ xs → B x a → Q a) : ∀ a ∈ as, Q a := by
  intro a ha
  obtain ⟨i, hi, rfl⟩ := List.getElem_of_mem ha
  exact h _ _ (List.getElem_mem (by omega)) (h3 i _ _ (List.getElem?_eq_getElem (by omega)) (List.getElem?_eq_getElem hi))
theorem rangeL_len {i j : Int} : (rangeL i j).length = (j - i).toNat := by unfold rangeL; simp
theorem perm_map {α : Type} {f : α → D} {l : List α} {ys : List D} (h : ys.Perm (l.map f)) : ∃ l' : List α, ys = l'.map f ∧ l'.Perm l := by
  generalize hz : l.map f = zs at h
  induction h generalizing l with
  | nil => exact ⟨[], rfl, by cases l with | nil => exact .refl _ | cons _ _ => cases hz⟩
  | @cons x l1 l2 hp ih =>
    cases l with
    | nil => cases hz
    | cons a r =>
      injection hz with h1 h2
      obtain ⟨r', h3, h4⟩ := ih h2
      exact ⟨a :: r', by rw [h3, ← h1]; rfl, h4.cons a⟩
  | swap x y r =>
    cases l with
    | nil => cases hz
    | cons a l =>
      cases l with
      | nil => cases hz
      | cons b l =>
        injection hz with h1 h2
        injection h2 with h2 h3
        exact ⟨b :: a :: l, by rw [← h1, ← h2, ← h3]; rfl, .swap _ _ _⟩
  | trans p1 p2 ih1 ih2 =>
    obtain ⟨l', h1, h2⟩ := ih2 hz
    obtain ⟨l'', h3, h4⟩ := ih1 h1.symm
    exact ⟨l'', h3, h4.trans h2⟩
theorem cutD_map {α β : Type} {f : α → β} {xs : List α} {lo hi : Option Int} : cutD (xs.map f) lo hi = (cutD xs lo hi).map f := by
  unfold cutD
  rw [List.length_map, List.map_take, List.map_drop]
theorem cutD_sub {α : Type} {xs : List α} {lo hi : Option Int} : (cutD xs lo hi).Sublist xs := (List.take_sublist _ _).trans (List.drop_sublist _ _)
theorem cutD_hi {α : Type} {xs : List α} {k : Int} (h : 0 ≤ k) : (cutD xs none (some k)).length = min k.toNat xs.length := by
  simp [cutD, sIxD, show ¬ k < 0 by omega]
theorem cutD_lo {α : Type} {xs : List α} {k : Int} (h : 0 ≤ k) : (cutD xs (some k) none).length = xs.length - min k.toNat xs.length := by
  simp [cutD, sIxD, show ¬ k < 0 by omega]
/-! ### lags -/
theorem lags_ok : Tot (m_law_lags [.st]) fun r => ∃ ls : List Int, r = .tup (ls.map D.int) ∧ ls ≠ [] ∧ ls.length ≤ 3 ∧ ∀ x ∈ ls, 1 ≤ x ∧ x ≤ 1000 := by
  show Tot (run 3 1 _ _) _
  rw [ev_run (by rfl)]
  simp
  refine Tot.drawB (by omega) (by omega) fun z z0 z1 => ?_
  have hr := range1_ok (j := 1 + z) (by omega) (by omega)
  have hc := Tot.compT D.int (fun _ (a : Int) => 1 ≤ a ∧ a ≤ 3) (g := gName 2) (e := d2 addM (dC (.int 1)) (dCall (b2 drawM) (dCons (dVar 0) (dCons (dC (.int 3)) (dNil))))) (ρ := [Slot.sh .st, .no, .no]) (xs := rangeL 0 (1 + z)) fun x hx => by
    simp
    refine Tot.drawB (by omega) (by omega) fun y y0 y1 => ?_
    simp
    exact .pure ⟨1 + y, rfl, by omega, by omega⟩
  simp [hr]
  refine hc.bnd ?_
  rintro ys ⟨as, rfl, h2, h3⟩
  rw [rangeL_len] at h2
  have h4 : ∀ a ∈ as, 1 ≤ a ∧ a ≤ 3 := all_of_at (by rw [rangeL_len]; exact h2) h3 fun x a _ h => h
  have hne : as ≠ [] := fun q => by rw [q] at h2; simp at h2; omega
  refine Tot.drawB (by omega) (by omega) fun y y0 y1 => ?_
  simp
  by_cases q : y = 0
  · simp [q]
    refine Tot.drawB (by omega) (by omega) fun w w0 w1 => ?_
    have hi : ixD (as.map D.int).length 0 = some 0 := ixD_nat (k := 0) (by rw [List.length_map]; omega)
    rw [List.length_map] at hi
    simp [hi]
    refine .pure ⟨as.set 0 (1000 - w), by rw [List.map_set], by simpa using hne, by rw [List.length_set]; omega, fun x hx => ?_⟩
    rcases List.mem_or_eq_of_mem_set hx with h | h
    · have := h4 x h; omega
    · omega
  · simp [q]
    exact .pure ⟨as, rfl, hne, by omega, fun x hx => by have := h4 x hx; omega⟩
/-! ### rings -/
def pD (u : Int × Int) : D := .tup [.int u.1, .int u.2]
def Prs (h : Int) (ps : List (Int × Int)) : Prop := ∀ q ∈ ps, 0 ≤ q.1 ∧ q.1 < h ∧ 0 ≤ q.2 ∧ q.2 < h ∧ q.1 ≠ q.2
def Row (h : Int) (hs : List Int) : Prop := hs.Pairwise (· ≠ ·) ∧ ∀ x ∈ hs, 0 ≤ x ∧ x < h
theorem Row.sub {h : Int} {hs ks : List Int} (r : Row h hs) (s : ks.Sublist hs) : Row h ks := ⟨List.Pairwise.sublist s r.1, fun x hx => r.2 x (s.subset hx)⟩
theorem Row.ne {h : Int} {hs : List Int} (r : Row h hs) {i j : Nat} (hi : i < hs.length) (hj : j < hs.length) (n : i ≠ j) : hs[i] ≠ hs[j] := by
  rcases Nat.lt_or_gt_of_ne n with q | q
  · exact List.pairwise_iff_getElem.mp r.1 i j hi hj q
  · exact fun z => List.pairwise_iff_getElem.mp r.1 j i hj hi q z.symm
theorem atD_pred {xs : List Int} {k : Nat} (h2 : 2 ≤ xs.length) (hk : k < xs.length) : ∃ j, ∃ hj : j < xs.length, j ≠ k ∧ atD xs ((k : Int) - 1) = some xs[j] := by
  cases k with
  | zero =>
    refine ⟨xs.length - 1, by omega, by omega, ?_⟩
    unfold atD ixD
    rw [if_neg (by omega), if_pos (by omega), Option.bind_some, show (((0 : Nat) : Int) - 1 + xs.length).toNat = xs.length - 1 by omega, List.getElem?_eq_getElem]
  | succ k => exact ⟨k, by omega, by omega, by rw [show ((k + 1 : Nat) : Int) - 1 = (k : Nat) by omega]; exact atD_nat (by omega)⟩
theorem ring_ok {h : Int} {hs : List Int} (r : Row h hs) (h2 : 2 ≤ hs.length) (h12 : hs.length ≤ 12) : Tot (m_law_ring [.lst (hs.map D.int)]) fun r => ∃ ps : List (Int × Int), r = .lst (ps.map pD) ∧ Prs h ps ∧ ps.length ≤ 12 ∧ ps ≠ [] := by
  show Tot (runO 2 1 _ _) _
  rw [ev_runO (by rfl)]
  have hr := range1_ok (j := (hs.length : Int)) (by omega) (by omega)
  have hc := Tot.compT pD (fun _ q => 0 ≤ q.1 ∧ q.1 < h ∧ 0 ≤ q.2 ∧ q.2 < h ∧ q.1 ≠ q.2) (g := gName 1) (e := dTup (dCons (d2 itemM (dAny 0) (d2 subM (dAny 1) (dC (.int 1)))) (dCons (d2 itemM (dAny 0) (dAny 1)) (dNil)))) (ρ := [Slot.sh (.lst (hs.map D.int)), .no]) (xs := rangeL 0 hs.length) fun x hx => by
    obtain ⟨z, rfl, z0, z1⟩ := rangeL_mem hx
    obtain ⟨k, rfl⟩ : ∃ k : Nat, z = k := ⟨z.toNat, by omega⟩
    have hk : k < hs.length := by omega
    obtain ⟨j, hj, hn, e1⟩ := atD_pred h2 hk
    have e2 := atD_nat hk
    refine Tot.eq (m' := pure (pD (hs[j], hs[k]))) (by simp [atD_map, e1, e2]; rfl) ?_
    have q1 := r.2 _ (List.getElem_mem hj)
    have q2 := r.2 _ (List.getElem_mem hk)
    exact .pure ⟨(hs[j], hs[k]), rfl, q1.1, q1.2, q2.1, q2.2, r.ne hj hk hn⟩
  simp [hr]
  refine hc.bnd ?_
  rintro ys ⟨ps, rfl, h3, h4⟩
  rw [rangeL_len] at h3
  refine .pure ⟨ps, rfl, all_of_at (by rw [rangeL_len]; exact h3) h4 fun x a _ h => h, by omega, fun q => by rw [q] at h3; simp at h3; omega⟩
theorem Prs.app {h : Int} {ps qs : List (Int × Int)} (h1 : Prs h ps) (h2 : Prs h qs) : Prs h (ps ++ qs) := fun q hq => by
  rcases List.mem_append.mp hq with z | z
  · exact h1 q z
  · exact h2 q z
end K47
end
section
/-! K47O: the law's sample: joined, wish. -/
set_option autoImplicit false
set_option linter.all false
set_option maxRecDepth 10000
set_option maxHeartbeats 4000000
namespace K47
open PySem (Str)
open DL
theorem rng_row {h : Int} : Row h ((List.range h.toNat).map fun k : Nat => (k : Int)) := by
  refine ⟨?_, fun x hx => ?_⟩
  · rw [List.pairwise_map]
    exact List.Pairwise.imp (fun h => by omega) (List.pairwise_lt_range (n := h.toNat))
  · obtain ⟨k, hk, rfl⟩ := List.mem_map.mp hx
    have := List.mem_range.mp hk
    omega
theorem rng_map {h : Int} : rangeL 0 h = ((List.range h.toNat).map fun k : Nat => (k : Int)).map D.int := by
  unfold rangeL
  rw [List.map_map, show h - 0 = h by omega]
  apply List.map_congr_left
  intro k _
  show D.int (0 + k) = D.int k
  rw [Int.zero_add]
theorem shuf_rng {h : Int} (h0 : 0 ≤ h) (h1 : h ≤ 12) : Tot (m_law_shuffled [.st, .lst (rangeL 0 h)]) fun r => ∃ hs : List Int, r = .lst (hs.map D.int) ∧ Row h hs ∧ (hs.length : Int) = h := by
  refine (shuffled_ok (.lst _) (by rw [rangeL_len]; omega) fun x hx => ?_).imp ?_
  · obtain ⟨k, rfl, _⟩ := rangeL_mem hx
    exact okD_int
  · rintro r ⟨ys, rfl, hp⟩
    rw [rng_map] at hp
    obtain ⟨hs, rfl, hp2⟩ := perm_map hp
    refine ⟨hs, rfl, ⟨(hp2.pairwise_iff (fun h z => h z.symm)).mpr rng_row.1, fun x hx => rng_row.2 x (hp2.mem_iff.mp hx)⟩, ?_⟩
    rw [hp2.length_eq, List.length_map, List.length_range]
    omega
def JQ (h : Int) (r : D) : Prop := ∃ ps : List (Int × Int), r = .lst (ps.map pD) ∧ Prs h ps ∧ ps.length ≤ 24
theorem star_ok {h u : Int} {hs : List Int} {ρ : Env} {e : XE} (r : Row h hs) (u0 : 0 ≤ u ∧ u < h) (hn : ∀ x ∈ hs, x ≠ u) (F : Int → Int × Int) (hF : ∀ x, F x = (u, x) ∨ F x = (x, u)) (he : ∀ x : Int, e (ρ.set 5 (.sh (.int x))) = pure (pD (F x))) : Tot (compL (gName 5) tYes e ρ (hs.map D.int)) fun ys => ∃ ps : List (Int × Int), ys = ps.map pD ∧ Prs h ps ∧ ps.length = hs.length := by
  have hc := Tot.compT pD (fun _ q => 0 ≤ q.1 ∧ q.1 < h ∧ 0 ≤ q.2 ∧ q.2 < h ∧ q.1 ≠ q.2) (g := gName 5) (e := e) (ρ := ρ) (xs := hs.map D.int) fun x hx => by
    obtain ⟨z, hz, rfl⟩ := List.mem_map.mp hx
    have q1 := r.2 z hz
    have q2 := hn z hz
    refine Tot.eq (m' := pure (pD (F z))) (by simp [he]) (.pure ⟨F z, rfl, ?_⟩)
    rcases hF z with h | h <;> rw [h]
    · exact ⟨u0.1, u0.2, q1.1, q1.2, fun z => q2 z.symm⟩
    · exact ⟨q1.1, q1.2, u0.1, u0.2, q2⟩
  refine hc.imp ?_
  rintro ys ⟨ps, rfl, h3, h4⟩
  rw [List.length_map] at h3
  exact ⟨ps, rfl, all_of_at (by rw [List.length_map]; exact h3) h4 fun x a _ h => h, h3⟩
theorem joined_ok {h : Int} (h2 : 2 ≤ h) (h6 : h ≤ 6) : Tot (m_law_joined [.st, .int h]) (JQ h) := by
  show Tot (runO 6 2 _ _) _
  rw [ev_runO (by rfl)]
  have hr := range1_ok (j := h) (by omega) (by omega)
  simp [hr]
  refine (shuf_rng (by omega) (by omega)).bnd ?_
  rintro r ⟨hs, rfl, rw_, hl⟩
  refine Tot.drawB (by omega) (by omega) fun w w0 w1 => ?_
  have ring1 : ∀ k : Int, 2 ≤ k → k ≤ h → Tot (m_law_ring [.lst (cutD (hs.map D.int) none (some k))]) (fun r => ∃ ps : List (Int × Int), r = .lst (ps.map pD) ∧ Prs h ps ∧ ps.length ≤ 12 ∧ ps ≠ []) := fun k k0 k1 => by
    rw [cutD_map]
    have hk := cutD_hi (xs := hs) (k := k) (by omega)
    exact ring_ok (rw_.sub cutD_sub) (by omega) (by omega)
  have ring2 : ∀ k : Int, 0 ≤ k → k + 2 ≤ h → Tot (m_law_ring [.lst (cutD (hs.map D.int) (some k) none)]) (fun r => ∃ ps : List (Int × Int), r = .lst (ps.map pD) ∧ Prs h ps ∧ ps.length ≤ 12 ∧ ps ≠ []) := fun k k0 k1 => by
    rw [cutD_map]
    have hk := cutD_lo (xs := hs) (k := k) (by omega)
    exact ring_ok (rw_.sub cutD_sub) (by omega) (by omega)
  have app2 : ∀ ps qs : List (Int × Int), Prs h ps → Prs h qs → ps.length ≤ 12 → qs.length ≤ 12 → Tot (addLM (.lst (ps.map pD)) (.lst (qs.map pD))) (JQ h) := fun ps qs h1 h2 h3 h4 => by
    rw [addL_lst (by simp; omega), ← List.map_append]
    exact .pure ⟨ps ++ qs, rfl, h1.app h2, by rw [List.length_append]; omega⟩
  have tail : ∀ k : Int, 2 ≤ k → k + 1 ≤ h → w ≠ 0 → w ≠ 1 → Tot (kIf
        (sRet
          (d2 addLM (dCall m_law_ring (dCons (dSlice sliceM (dAny 2) oNone (oSome (dAny 4))) dNil))
            (dCall m_law_ring (dCons (dSlice sliceM (dAny 2) (oSome (d2 subM (dAny 4) (dC (D.int 1)))) oNone) dNil))))
        sNext
        [Slot.sh D.st, Slot.sh (D.int h), Slot.sh (D.lst (List.map D.int hs)), Slot.sh (D.int w), Slot.sh (D.int k),
          Slot.no]
        (decide (w = 2)) >>=
      fun a =>
      seqF
          (sRet
            (dIf (tOf (d2 eqM (dAny 3) (dC (D.int 3))))
              (d2 addLM (dCall m_law_ring (dCons (dSlice sliceM (dAny 2) oNone (oSome (dAny 4))) dNil))
                (dIf (tOf (d2 gtM (d2 subM (dAny 1) (dAny 4)) (dC (D.int 1))))
                  (dCall m_law_ring (dCons (dSlice sliceM (dAny 2) (oSome (dAny 4)) oNone) dNil)) (dLst dNil)))
              (dLst dNil)))
          a >>=
        endO) (JQ h) := fun k k0 k1 c0 c1 => by
    rcases (show w = 2 ∨ w = 3 ∨ w = 4 by omega) with c | c | c <;> subst c
    · simp
      refine (ring1 k k0 (by omega)).bnd ?_
      rintro r ⟨ps, rfl, p1, p2, _⟩
      refine (ring2 (k - 1) (by omega) (by omega)).bnd ?_
      rintro r ⟨qs, rfl, q1, q2, _⟩
      exact app2 _ _ p1 q1 p2 q2
    · simp
      refine (ring1 k k0 (by omega)).bnd ?_
      rintro r ⟨ps, rfl, p1, p2, _⟩
      by_cases c : 1 < h - k
      · simp [c]
        refine (ring2 k (by omega) (by omega)).bnd ?_
        rintro r ⟨qs, rfl, q1, q2, _⟩
        exact app2 _ _ p1 q1 p2 q2
      · simp [c]
        exact app2 _ [] p1 (fun q hq => by cases hq) p2 (by simp)
    · simp
      exact .pure ⟨[], rfl, fun q hq => by (cases hq), by simp⟩
  rcases (show w = 0 ∨ (w ≠ 0 ∧ h = 2) ∨ (w = 1 ∧ h ≠ 2) ∨ (w ≠ 0 ∧ w ≠ 1 ∧ h ≠ 2) by omega) with c | c | c | c
  · simp [c]
    refine Tot.drawB (by omega) (by omega) fun z z0 z1 => ?_
    simp
    refine (ring1 (2 + z) (by omega) (by omega)).bnd ?_
    rintro r ⟨ps, rfl, h3, h4, _⟩
    exact .pure ⟨ps, rfl, h3, by omega⟩
  · obtain ⟨c0, rfl⟩ := c
    simp [c0]
    refine Tot.drawB (by omega) (by omega) fun z z0 z1 => ?_
    simp
    refine (ring1 (2 + z) (by omega) (by omega)).bnd ?_
    rintro r ⟨ps, rfl, h3, h4, _⟩
    exact .pure ⟨ps, rfl, h3, by omega⟩
  · simp [c.1, c.2]
    cases hs with
    | nil => simp at hl; omega
    | cons u r =>
      have hcut : cutD ((u :: r).map D.int) (some 1) none = r.map D.int := by
        simp [cutD, sIxD]
        exact List.take_of_length_le (by simp)
      have rr := rw_.sub (List.sublist_cons_self u r)
      have ru := rw_.2 u List.mem_cons_self
      have rn : ∀ x ∈ r, x ≠ u := fun x hx z => (List.pairwise_cons.mp rw_.1).1 x hx z.symm
      rw [hcut]
      refine (star_ok (u := u) (hs := r) rr ru rn (fun x => (u, x)) (fun x => .inl rfl) fun x => by simp; rfl).bnd ?_
      rintro ys ⟨ps, rfl, p1, p2⟩
      refine (star_ok (u := u) (hs := r) rr ru rn (fun x => (x, u)) (fun x => .inr rfl) fun x => by simp; rfl).bnd ?_
      rintro ys ⟨qs, rfl, q1, q2⟩
      simp at hl
      exact app2 _ _ p1 q1 (by omega) (by omega)
  · simp [c.1, c.2]
    by_cases q : h < 4
    · simp [q]
      exact tail 2 (by omega) (by omega) c.1 c.2.1
    · simp [q]
      refine Tot.drawB (by omega) (by omega) fun z z0 z1 => ?_
      rw [add_int, pure_bnd]
      exact tail (2 + z) (by omega) (by omega) c.1 c.2.1
/-! ### wishes -/
theorem mod_ne {h g z : Int} (h2 : 2 ≤ h) (h6 : h ≤ 6) (g0 : 0 ≤ g) (g1 : g < h) (z0 : 0 ≤ z) (z1 : z < h - 1) : 0 ≤ (g + 1 + z) % h ∧ (g + 1 + z) % h < h ∧ g ≠ (g + 1 + z) % h := by
  rcases (show h = 2 ∨ h = 3 ∨ h = 4 ∨ h = 5 ∨ h = 6 by omega) with rfl | rfl | rfl | rfl | rfl <;> omega
theorem okD_pD (q : Int × Int) : okD 63 (pD q) = true := by
  unfold pD
  simp
structure Wsh (h : Int) (ls : List Int) (as : List Ar) : Prop where
  h2 : 2 ≤ h
  h6 : h ≤ 6
  l0 : ls ≠ []
  l3 : ls.length ≤ 3
  lg : ∀ x ∈ ls, 1 ≤ x ∧ x ≤ 1000
  a0 : as ≠ []
  a8 : as.length ≤ 8
  ar : ∀ a ∈ as, 0 ≤ a.1 ∧ a.1 < h ∧ 0 ≤ a.2.1 ∧ a.2.1 < h ∧ a.1 ≠ a.2.1 ∧ 0 ≤ a.2.2 ∧ a.2.2 < ls.length
def wshD (h : Int) (ls : List Int) (as : List Ar) : D := .tup [.int h, .tup (ls.map D.int), .tup (as.map arD)]
theorem Tot.draw1 {n : Int} (h : 0 < n) (h2 : n < 1073741824) : Tot (drawM .st (.int n)) fun d => ∃ z : Int, d = .int z ∧ 0 ≤ z ∧ z < n := by
  rw [← bnd_pure (drawM .st (.int n))]
  exact Tot.drawB h h2 fun z z0 z1 => .pure ⟨z, rfl, z0, z1⟩
theorem wish_ok {h : Int} (h2 : 2 ≤ h) (h6 : h ≤ 6) : Tot (m_law_wish [.st, .int h, .int 8]) fun r => ∃ ls as, r = wshD h ls as ∧ Wsh h ls as := by
  show Tot (run 8 3 _ _) _
  rw [ev_run (by rfl)]
  simp
  refine lags_ok.bnd ?_
  rintro r ⟨ls, rfl, l0, l3, lg⟩
  refine (joined_ok h2 h6).bnd ?_
  rintro r ⟨ps, rfl, p1, p2⟩
  refine Tot.bnd (Q := fun a => a = .bl (decide (ps ≠ []))) ?_ ?_
  · cases ps with
    | nil => simp; exact .pure rfl
    | cons q r =>
      have ho : okL 63 ((q :: r).map pD) = true := okL_all fun d hd => by
        obtain ⟨u, _, rfl⟩ := List.mem_map.mp hd
        exact okD_pD u
      rw [List.map_cons] at ho ⊢
      rw [ne_nil1 ho]
      exact .pure (by simp)
  rintro _ rfl
  simp only [kOf_eq, pure_bnd]
  refine Tot.bnd (Q := fun a => ∃ n : Int, a = .int n ∧ 0 ≤ n ∧ n ≤ 8 ∧ (ps = [] → 1 ≤ n)) ?_ ?_
  · by_cases q : ps = []
    · simp [q]
      refine Tot.drawB (by omega) (by omega) fun z z0 z1 => ?_
      rw [add_int]
      exact .pure ⟨1 + z, rfl, by omega, by omega, by omega⟩
    · simp [q]
      refine (Tot.draw1 (by omega) (by omega)).imp ?_
      rintro _ ⟨z, rfl, z0, z1⟩
      exact ⟨z, rfl, z0, by omega⟩
  rintro _ ⟨n, rfl, n0, n1, n2⟩
  rw [range1_ok n0 (by omega), pure_bnd]
  refine (Tot.for (fun k ρ => ∃ qs s5 s6, ρ = [Slot.sh .st, .sh (.int h), .sh (.int 8), .sh (.tup (ls.map D.int)), .ow (.lst (qs.map pD)), s5, s6, .no] ∧ Prs h qs ∧ qs.length = ps.length + k ∧ noOw1 0 [s6] = true) 0 ⟨ps, _, _, rfl, p1, rfl, rfl⟩ ?_).bnd ?_
  · rintro i x ρ hx ⟨qs, s5, s6, rfl, q1, q2, q3⟩
    have hi : i < n.toNat := by
      have := (List.getElem?_eq_some_iff.mp hx).1
      rw [rangeL_len] at this
      omega
    simp
    refine Tot.drawB (by omega) (by omega) fun g g0 g1 => ?_
    simp
    refine Tot.drawB (by omega) (by omega) fun z z0 z1 => ?_
    obtain ⟨m1, m2, m3⟩ := mod_ne h2 h6 g0 g1 z0 z1
    simp [mod_ok (show 0 < h by omega), show qs.length < 16777216 by omega]
    refine .pure ⟨_, rfl, qs ++ [(g, (g + 1 + z) % h)], _, _, by rw [List.map_append]; rfl, q1.app fun q hq => ?_, by rw [List.length_append]; simp; omega, rfl⟩
    rw [List.mem_singleton.mp hq]
    exact ⟨g0, g1, m1, m2, m3⟩
  rintro f ⟨_, rfl, qs, s5, s6, rfl, q1, q2, q3⟩
  rw [rangeL_len] at q2
  simp only [seqF_nx, ev_seq, ev_frz, List.foldl_cons, List.foldl_nil, frz0, frzS, ev_own, bnd_bnd]
  refine Tot.bnd (Q := fun d => ∃ rs : List (Int × Int), d = .lst (rs.map pD) ∧ Prs h rs ∧ rs ≠ [] ∧ rs.length ≤ 8) ?_ ?_
  · have hq0 : 1 ≤ qs.length := by
      by_cases q : ps = []
      · have := n2 q; omega
      · have := len_pos q; omega
    have cut : ∀ ws : List (Int × Int), ws.Perm qs → ∃ rs : List (Int × Int), D.lst (cutD (ws.map pD) none (some 8)) = .lst (rs.map pD) ∧ Prs h rs ∧ rs ≠ [] ∧ rs.length ≤ 8 := fun ws hp => by
      have hk := cutD_hi (xs := ws) (k := 8) (by omega)
      have hlw := hp.length_eq
      refine ⟨cutD ws none (some 8), by rw [cutD_map], fun q hq => q1 q (hp.mem_iff.mp (cutD_sub.subset hq)), fun z => by rw [z] at hk; simp at hk; omega, by omega⟩
    simp
    refine Tot.drawB (by omega) (by omega) fun z z0 z1 => ?_
    simp
    by_cases q : z = 0
    · simp [q]
      refine (shuffled_ok (.lst (qs.map pD)) (by simp; omega) fun x hx => ?_).bnd ?_
      · obtain ⟨u, _, rfl⟩ := List.mem_map.mp hx
        exact okD_pD u
      · rintro r ⟨ys, rfl, hp⟩
        obtain ⟨ws, rfl, hp2⟩ := perm_map hp
        exact .pure (cut ws hp2)
    · simp only [q, decide_false, kIf_f, ev_slice, ev_any, getAnyS, getAny0, pure_bnd, kS0_eq, ev_oN, kS1_eq, ev_oS, partM_int, kS2_eq, sliceL_lst]
      exact .pure (cut qs (.refl _))
  rintro _ ⟨rs, rfl, r1, r2, r3⟩
  have hc := Tot.compT arD (fun _ a => 0 ≤ a.1 ∧ a.1 < h ∧ 0 ≤ a.2.1 ∧ a.2.1 < h ∧ a.1 ≠ a.2.1 ∧ 0 ≤ a.2.2 ∧ a.2.2 < ls.length) (g := gTup 2 (gsCons (gName 6) (gsCons (gName 7) gsNil))) (e := dTup (dCons (dVar 6) (dCons (dVar 7) (dCons (dCall (b2 drawM) (dCons (dVar 0) (dCons (dCall (b1 lenM) (dCons (dAny 3) dNil)) dNil))) dNil)))) (ρ := [Slot.sh D.st, Slot.sh (D.int h), Slot.sh (D.int 8), Slot.sh (D.tup (List.map D.int ls)), Slot.sh (D.lst (List.map pD rs)), s5, .no, .no]) (xs := rs.map pD) fun x hx => by
    obtain ⟨⟨u, v⟩, hq, rfl⟩ := List.mem_map.mp hx
    obtain ⟨z1, z2, z3, z4, z5⟩ := r1 _ hq
    have := len_pos l0
    simp [pD]
    refine Tot.drawB (by omega) (by omega) fun z w0 w1 => ?_
    rw [kCm_eq, calm_pure]
    exact .pure ⟨u, v, z, rfl, z1, z2, z3, z4, z5, w0, w1⟩
  have fin : ∀ ys : List D, (∃ as : List Ar, ys = as.map arD ∧ as.length = (rs.map pD).length ∧ ∀ (i : Nat) x a, (rs.map pD)[i]? = some x → as[i]? = some a → 0 ≤ a.1 ∧ a.1 < h ∧ 0 ≤ a.2.1 ∧ a.2.1 < h ∧ a.1 ≠ a.2.1 ∧ 0 ≤ a.2.2 ∧ a.2.2 < ls.length) → ∃ l2 as, D.tup [.int h, .tup (ls.map D.int), .tup ys] = wshD h l2 as ∧ Wsh h l2 as := by
    rintro ys ⟨as, rfl, h3, h4⟩
    have h5 := len_pos r2
    rw [List.length_map] at h3
    exact ⟨ls, as, rfl, h2, h6, l0, l3, lg, fun z => by rw [z] at h3; simp at h3; omega, by omega, all_of_at (by rw [List.length_map]; exact h3) h4 fun x a _ h => h⟩
  cases s6 with
  | ow d => cases q3
  | no =>
    simp
    exact hc.bnd fun ys hy => .pure (fin ys hy)
  | sh d =>
    simp
    exact hc.bnd fun ys hy => .pure (fin ys hy)
end K47
end
section
/-! K47P: the law's sample: any deal. -/
set_option autoImplicit false
set_option linter.all false
set_option maxRecDepth 10000
set_option maxHeartbeats 4000000
namespace K47
open PySem (Str)
open DL
theorem fold_ge : ∀ {r : List Int} {x : Int}, x ≤ r.foldl (fun m y => if m < y then y else m) x ∧ ∀ y ∈ r, y ≤ r.foldl (fun m y => if m < y then y else m) x
  | [], x => ⟨Int.le_refl _, fun y h => by cases h⟩
  | z :: r, x => by
    rw [List.foldl_cons]
    by_cases q : x < z
    · rw [if_pos q]
      obtain ⟨h1, h2⟩ := fold_ge (r := r) (x := z)
      refine ⟨by omega, fun y hy => ?_⟩
      rcases List.mem_cons.mp hy with h | h
      · rw [h]; exact h1
      · exact h2 y h
    · rw [if_neg q]
      obtain ⟨h1, h2⟩ := fold_ge (r := r) (x := x)
      refine ⟨h1, fun y hy => ?_⟩
      rcases List.mem_cons.mp hy with h | h
      · rw [h]; omega
      · exact h2 y h
theorem maxL_ge {l : List Int} {m : Int} (h : maxL l = some m) : ∀ x ∈ l, x ≤ m := by
  cases l with
  | nil => cases h
  | cons x r =>
    have h := Option.some.inj h
    obtain ⟨h1, h2⟩ := fold_ge (r := r) (x := x)
    rw [h] at h1 h2
    intro y hy
    rcases List.mem_cons.mp hy with q | q
    · rw [q]; exact h1
    · exact h2 y q
/-- a row of different numbers, sorted -/
theorem rise_len {h : Int} {l : List Int} (r : Rise l) (b : ∀ x ∈ l, 0 ≤ x ∧ x < h) (h0 : 0 ≤ h) : (l.length : Int) ≤ h := by
  have key : ∀ i (hi : i < l.length), (i : Int) ≤ l[i] := by
    intro i
    induction i with
    | zero => intro hi; exact (b _ (List.getElem_mem hi)).1
    | succ i ih =>
      intro hi
      have := ih (by omega)
      have := r.at_ hi
      omega
  by_cases q : l.length = 0
  · omega
  · have := key (l.length - 1) (by omega)
    have := (b _ (List.getElem_mem (show l.length - 1 < l.length by omega))).2
    omega
def LockP (h s : Int) (l : List Ar) : Prop := l ≠ [] ∧ Rise (l.map (·.1)) ∧ ∀ e ∈ l, 0 ≤ e.1 ∧ e.1 < h ∧ s ≤ e.2.1 ∧ e.2.1 ≤ s + 10 ∧ 0 ≤ e.2.2 ∧ e.2.2 ≤ 1
theorem deal_ok {h s z M : Int} {ls : List Int} {as : List Ar} {ws : List (List Int)} {ks : List (List Ar)} (w : Wsh h ls as) (hM : maxL ls = some M) (s0 : 0 ≤ s) (s1 : s ≤ 10) (z0 : 0 ≤ z) (z1 : z ≤ 10) (wl : ws.length = as.length) (wt : ∀ (i : Nat) w, ws[i]? = some w → ∃ a, as[i]? = some a ∧ w.Sublist (intoL as a.1)) (kl : ks.length = as.length) (kk : ∀ l ∈ ks, LockP h s l) :
    (⟨h, ls, s, M + z, as, ws, ks⟩ : Pts).Ok ∧ (⟨h, ls, s, M + z, as, ws, ks⟩ : Pts).Sm := by
  have hM2 := w.lg M (maxL_mem hM)
  have h2 := w.h2
  have h6 := w.h6
  have a8 := w.a8
  have l3 := w.l3
  refine ⟨⟨h2, by show h ≤ 12; omega, w.l0, by show ls.length ≤ 4; omega, w.lg, s0, by show s ≤ _; omega, fun x hx => ?_, by show M + z ≤ _; omega, w.a0, by show as.length ≤ 24; omega, w.ar, wl, ?_, kl, ?_⟩, ⟨by show s ≤ 100; omega, by show M + z ≤ 2000; omega, ?_⟩⟩
  · have := maxL_ge hM x hx
    show x ≤ M + z
    omega
  · intro i w hw
    obtain ⟨a, ha, hsub⟩ := wt i w hw
    refine ⟨List.Pairwise.sublist hsub idxs_rise, ?_, fun x hx => ?_⟩
    · have q1 := hsub.length_le
      have q2 := idxs_len (c := fun b : Ar => decide (b.2.1 = a.1)) (as := as) (k := 0)
      unfold intoL at q1
      omega
    · obtain ⟨j, b, h3, h4, h5⟩ := idxs_mem (hsub.subset hx)
      rw [Nat.zero_add] at h5
      subst h5
      exact ⟨by omega, b, a, by rw [Int.toNat_natCast]; exact h3, ha, by simpa using h4⟩
  · intro l hl
    obtain ⟨q1, q2, q3⟩ := kk l hl
    refine ⟨q1, ?_, q2, fun e he => ?_⟩
    · have := rise_len (h := h) q2 (fun x hx => by obtain ⟨e, he, rfl⟩ := List.mem_map.mp hx; exact ⟨(q3 e he).1, (q3 e he).2.1⟩) (by omega)
      rw [List.length_map] at this
      exact this
    · obtain ⟨r1, r2, r3, r4, r5, r6⟩ := q3 e he
      exact ⟨r1, r2, r3, by omega, r5, r6⟩
  · intro l hl e he
    obtain ⟨_, _, q3⟩ := kk l hl
    have := (q3 e he).2.2.2.1
    omega
end K47
end
section
/-! K47Q: the law's sample: any lock, any deal. -/
set_option autoImplicit false
set_option linter.all false
set_option maxRecDepth 10000
set_option maxHeartbeats 4000000
namespace K47
open PySem (Str)
open DL
theorem sort_ints {ns : List Int} (h : ns.length < 64) : sortedM (.lst (ns.map D.int)) = pure (.lst ((sortI ns).map D.int)) := by
  show (M.get (asInts (ns.map D.int)) >>= fun ns => M.need (ns.length < 64) >>= fun _ => pure (D.lst ((sortI ns).map D.int))) = _
  rw [asInts_map, get_some, pure_bnd, need_bnd h]
theorem sort_rise {ns : List Int} (h : ns.Pairwise (· ≠ ·)) : Rise (sortI ns) := by
  have h1 := sortI_sorted ns
  have h2 := ((sortI_perm ns).pairwise_iff (fun h z => h z.symm)).mpr h
  exact List.Pairwise.imp (fun ⟨a, b⟩ => by omega) (List.Pairwise.and h1 h2)
theorem fst_eq {as : List Ar} {ks : List Int} {B : D → Ar → Prop} (h2 : as.length = (ks.map D.int).length) (h3 : ∀ (i : Nat) x a, (ks.map D.int)[i]? = some x → as[i]? = some a → B x a) (h : ∀ x a, B x a → x = .int a.1) : as.map (·.1) = ks := by
  rw [List.length_map] at h2
  apply List.ext_getElem?
  intro i
  by_cases q : i < ks.length
  · have e := h _ _ (h3 i _ _ (by rw [List.getElem?_map, List.getElem?_eq_getElem q]; rfl) (List.getElem?_eq_getElem (by omega)))
    rw [List.getElem?_map, List.getElem?_eq_getElem (by omega), List.getElem?_eq_getElem q]
    exact congrArg some (D.int.inj e).symm
  · rw [List.getElem?_eq_none (by rw [List.length_map]; omega), List.getElem?_eq_none (by omega)]
/-- from the entries of a sorted row -/
theorem lock_of {h s : Int} {ns : List Int} {as : List Ar} (r : Row h ns) (h0 : ns ≠ []) (h2 : as.length = ((sortI ns).map D.int).length) (h3 : ∀ (i : Nat) x a, ((sortI ns).map D.int)[i]? = some x → as[i]? = some a → x = .int a.1 ∧ s ≤ a.2.1 ∧ a.2.1 ≤ s + 10 ∧ 0 ≤ a.2.2 ∧ a.2.2 ≤ 1) : LockP h s as := by
  have e := fst_eq h2 h3 fun x a h => h.1
  refine ⟨fun z => ?_, by rw [e]; exact sort_rise r.1, fun a ha => ?_⟩
  · rw [z] at h2
    have := (sortI_perm ns).length_eq
    have := len_pos h0
    simp at h2
    omega
  · obtain ⟨i, hi, rfl⟩ := List.getElem_of_mem ha
    rw [List.length_map] at h2
    have hx := h3 i _ _ (by rw [List.getElem?_map, List.getElem?_eq_getElem (by omega)]; rfl) (List.getElem?_eq_getElem hi)
    have hm := (sortI_perm ns).mem_iff.mp (List.getElem_mem (show i < (sortI ns).length by omega))
    have := r.2 _ hm
    have e2 := D.int.inj hx.1
    rw [e2] at this
    exact ⟨this.1, this.2, hx.2⟩
theorem any_lock_ok {d x : D} {h s : Int} (h2 : 2 ≤ h) (h6 : h ≤ 6) (i0 : itemM d (.int 0) = pure (.int h)) (i2 : itemM d (.int 2) = pure (.int s)) : Tot (m_law_any_lock [.st, d, x]) fun r => ∃ l : List Ar, r = .tup (l.map arD) ∧ LockP h s l := by
  show Tot (run 5 3 _ _) _
  rw [ev_run (by rfl)]
  simp [i0, range1_ok (show 0 ≤ h by omega) (by omega)]
  refine (shuf_rng (by omega) (by omega)).bnd ?_
  rintro r ⟨hs, rfl, rr, hl⟩
  have hmin : min2M (.int 3) (.int h) = pure (.int (if h < 3 then h else 3)) := min2_int
  obtain ⟨m, hm⟩ : ∃ m, m = (if h < 3 then h else 3) := ⟨_, rfl⟩
  have hm1 : 1 ≤ m ∧ m ≤ 3 := by rw [hm]; split <;> omega
  rw [← hm] at hmin
  simp [hmin, ← hm]
  refine Tot.drawB (by omega) (by omega) fun z z0 z1 => ?_
  simp
  rw [cutD_map]
  have hk := cutD_hi (xs := hs) (k := 1 + z) (by omega)
  have rk := rr.sub (cutD_sub (lo := none) (hi := some (1 + z)))
  generalize cutD hs none (some (1 + z)) = ns at hk rk
  rw [sort_ints (by omega)]
  have hc := Tot.compT arD (fun x a => x = .int a.1 ∧ s ≤ a.2.1 ∧ a.2.1 ≤ s + 10 ∧ 0 ≤ a.2.2 ∧ a.2.2 ≤ 1) (g := gName 4) (e := dTup (dCons (dVar 4) (dCons (d2 addM (d2 itemM (dAny 1) (dC (.int 2))) (dCall (b2 drawM) (dCons (dVar 0) (dCons (dC (.int 7)) (dNil))))) (dCons (dCall (b1 intM) (dCons (d2 eqM (dCall (b2 drawM) (dCons (dVar 0) (dCons (dC (.int 4)) (dNil)))) (dC (.int 0))) (dNil))) (dNil))))) (ρ := [Slot.sh .st, .sh d, .sh x, .sh (.lst (ns.map D.int)), .no]) (xs := (sortI ns).map D.int) fun y hy => by
    obtain ⟨k, _, rfl⟩ := List.mem_map.mp hy
    simp [i2]
    refine Tot.drawB (by omega) (by omega) fun u u0 u1 => ?_
    simp
    refine Tot.drawB (by omega) (by omega) fun v v0 v1 => ?_
    simp
    exact .pure ⟨k, s + u, (if v = 0 then 1 else 0), rfl, rfl, by omega, by omega, by split <;> omega, by split <;> omega⟩
  simp
  refine hc.bnd ?_
  rintro ys ⟨as, rfl, h3, h4⟩
  exact .pure ⟨as, rfl, lock_of rk (fun z => by rw [z] at hk; simp at hk; omega) h3 h4⟩
theorem part_int {ns : List Int} : Tot (m_law_part [.st, .lst (ns.map D.int), .int 3]) fun r => ∃ ys : List Int, r = .lst (ys.map D.int) ∧ ys.Sublist ns := by
  refine (part_ok (.lst _)).imp ?_
  rintro r ⟨ys, rfl, h⟩
  obtain ⟨l', h1, h2⟩ := List.sublist_map_iff.mp h
  exact ⟨l', by rw [h2], h1⟩
def DealQ (r : D) : Prop := ∃ p : Pts, r = partsD p ∧ p.Ok ∧ p.Sm ∧ p.h ≤ 6 ∧ p.arcs.length ≤ 8
theorem any_deal_ok {h : Int} {ls : List Int} {as : List Ar} (w : Wsh h ls as) : Tot (m_law_any_deal [.st, wshD h ls as]) DealQ := by
  have h2 := w.h2
  have h6 := w.h6
  have a8 := w.a8
  show Tot (run 11 2 _ _) _
  rw [ev_run (by rfl)]
  obtain ⟨M, hM, _, _⟩ := maxL_some w.l0
  have hmx := (Sq.tup (ls.map D.int)).max hM
  simp [wshD]
  refine Tot.drawB (by omega) (by omega) fun s s0 s1 => ?_
  simp [hmx]
  refine Tot.drawB (by omega) (by omega) fun z z0 z1 => ?_
  have hc := Tot.compT (fun w : List Int => D.tup (w.map D.int)) (fun x w => ∃ a, x = arD a ∧ w.Sublist (intoL as a.1)) (g := gName 9) (e := dCall (b1 tupleM) (dCons (dCall m_law_part (dCons (dVar 0) (dCons (dCall m_law_into (dCons (dVar 4) (dCons (d2 itemM (dAny 9) (dC (D.int 0))) dNil))) (dCons (dC (D.int 3)) dNil)))) dNil)) (ρ := [Slot.sh .st, .sh (.tup [.int h, .tup (ls.map D.int), .tup (as.map arD)]), .sh (.int h), .sh (.tup (ls.map D.int)), .sh (.tup (as.map arD)), .sh (.int s), .sh (.int (M + z)), .no, .no, .no, .no]) (xs := as.map arD) fun x hx => by
    obtain ⟨a, ha, rfl⟩ := List.mem_map.mp hx
    have i0 : itemM (arD a) (.int 0) = pure (.int a.1) := by simp [arD]
    simp [i0, into_ok (.tup (as.map arD))]
    refine part_int.calm.bnd ?_
    rintro r ⟨ys, rfl, hy⟩
    simp
    exact .pure ⟨ys, rfl, a.1, ⟨a.2.1, a.2.2, rfl⟩, hy⟩
  rw [add_int, pure_bnd]
  refine hc.bnd ?_
  rintro _ ⟨ws, rfl, w1, w2⟩
  rw [range1_ok (by omega) (by omega), pure_bnd]
  have hk := Tot.compT (fun l : List Ar => D.tup (l.map arD)) (fun _ l => LockP h s l) (g := gName 10) (e := dCall m_law_any_lock (dCons (dVar 0) (dCons (dVar 8) (dCons (dVar 10) dNil)))) (ρ := [Slot.sh .st, .sh (.tup [.int h, .tup (ls.map D.int), .tup (as.map arD)]), .sh (.int h), .sh (.tup (ls.map D.int)), .sh (.tup (as.map arD)), .sh (.int s), .sh (.int (M + z)), .sh (.tup (ws.map fun w : List Int => D.tup (w.map D.int))), .sh (.tup [.int h, .tup (ls.map D.int), .int s, .int (M + z), .tup (as.map arD), .tup (ws.map fun w : List Int => D.tup (w.map D.int)), .tup []]), .no, .no]) (xs := rangeL 0 as.length) fun x hx => by
    simp
    exact (any_lock_ok h2 h6 (by simp) (by simp)).calm
  refine hk.bnd ?_
  rintro _ ⟨ks, rfl, k1, k2⟩
  rw [rangeL_len] at k1
  rw [List.length_map] at w1
  obtain ⟨o1, o2⟩ := deal_ok (ks := ks) w hM s0 (by omega) z0 (by omega) w1 (fun i v hv => by
    have hi : i < as.length := by rw [← w1]; exact (List.getElem?_eq_some_iff.mp hv).1
    obtain ⟨a, ha, hs⟩ := w2 i (arD as[i]) v (by rw [List.getElem?_map, List.getElem?_eq_getElem hi]; rfl) hv
    refine ⟨as[i], List.getElem?_eq_getElem hi, ?_⟩
    have : as[i].1 = a.1 := by
      unfold arD at ha
      injection ha with ha
      injection ha with ha _
      injection ha
    rw [this]
    exact hs) (by omega) (all_of_at (by rw [rangeL_len]; exact k1) k2 fun x a _ h => h)
  exact .pure ⟨_, rfl, o1, o2, h6, a8⟩
end K47
end
section
/-! K47S: the law's sample: handed. -/
set_option autoImplicit false
set_option linter.all false
set_option maxRecDepth 10000
set_option maxHeartbeats 4000000
namespace K47
open PySem (Str)
open DL
theorem mem_ints {x : Int} {xs : List Int} : memS (.int x) (xs.map D.int) = decide (x ∈ xs) := by
  unfold memS
  rw [List.any_map]
  induction xs with
  | nil => rfl
  | cons y r ih =>
    rw [List.any_cons, ih]
    show (eqv (.int y) (.int x) || _) = _
    rw [eqv_int]
    by_cases q : y = x
    · subst q; simp
    · have q2 : ¬ x = y := fun z => q z.symm
      simp [q, q2]
theorem okL_ints {xs : List Int} : okL 63 (xs.map D.int) = true := okL_all fun d hd => by
  obtain ⟨k, _, rfl⟩ := List.mem_map.mp hd
  exact okD_int
theorem nin_ints {x : Int} {xs : List Int} : ninM (.int x) (.lst (xs.map D.int)) = pure (.bl (!decide (x ∈ xs))) := by
  show (M.need _ >>= fun _ => _) = _
  rw [need_bnd ⟨okD_int, okL_ints⟩, mem_ints]
theorem in_ints {x : Int} {xs : List Int} : inM (.int x) (.lst (xs.map D.int)) = pure (.bl (decide (x ∈ xs))) := by
  show (M.need _ >>= fun _ => _) = _
  rw [need_bnd ⟨okD_int, okL_ints⟩, mem_ints]
theorem row_len {h : Int} {r : List Int} (q : Row h r) (h0 : 0 ≤ h) : (r.length : Int) ≤ h := by
  have hp := sortI_perm r
  have := rise_len (h := h) (sort_rise q.1) (fun x hx => q.2 x (hp.mem_iff.mp hx)) h0
  rw [hp.length_eq] at this
  exact this
def rowD (r : List Int) : D := .lst (r.map D.int)
def Asks (h : Int) (rows : List (List Int)) : Prop := ∀ r ∈ rows, r ≠ [] ∧ Row h r
theorem Asks.set {h : Int} {rows : List (List Int)} {k : Nat} {r : List Int} (a : Asks h rows) (r0 : r ≠ []) (rr : Row h r) : Asks h (rows.set k r) := fun x hx => by
  rcases List.mem_or_eq_of_mem_set hx with q | q
  · exact a x q
  · rw [q]; exact ⟨r0, rr⟩
theorem row_app {h : Int} {r s : List Int} (a : Row h r) (b : Row h s) (d : ∀ x ∈ s, x ∉ r) : Row h (r ++ s) := ⟨List.pairwise_append.mpr ⟨a.1, b.1, fun x hx y hy z => d y hy (z ▸ hx)⟩, fun x hx => by
  rcases List.mem_append.mp hx with q | q
  · exact a.2 x q
  · exact b.2 x q⟩
section
variable {h : Int} {as : List Ar} {A B : D}
theorem hand3 {rows : List (List Int)} {s3 s5 s7 s8 : Slot} {arc : Nat} {tk : Int} (h6 : h ≤ 6) (h0 : 0 ≤ h) (hl : rows.length = as.length) (ask : Asks h rows) (ha : arc < as.length) :
    ∃ ρ', forL (gName 8) (sSetL 2 (dVar 8) (d2 addM (d2 itemM (dAny 2) (dAny 8)) (dComp (iSeq (d2 itemM (dAny 2) (dAny 4))) (gName 10) (tAnd (tOf (d2 neM (dAny 10) (dAny 6))) (tOf (d2 ninM (dAny 10) (d2 itemM (dAny 2) (dAny 8))))) (dVar 10) [10]))) ((outL as tk).map D.int)
      [Slot.sh A, .sh B, .ow (.lst (rows.map rowD)), s3, .sh (.int arc), s5, .sh (.int tk), s7, s8, .no, .no] = pure (.nx ρ') ∧ ∃ rows' s8', ρ' = [Slot.sh A, .sh B, .ow (.lst (rows'.map rowD)), s3, .sh (.int arc), s5, .sh (.int tk), s7, s8', .no, .no] ∧ rows'.length = as.length ∧ Asks h rows' := by
  refine forL_pure (fun ρ => ∃ rows s8, ρ = [Slot.sh A, .sh B, .ow (.lst (rows.map rowD)), s3, .sh (.int arc), s5, .sh (.int tk), s7, s8, .no, .no] ∧ rows.length = as.length ∧ Asks h rows) ⟨rows, s8, rfl, hl, ask⟩ ?_
  rintro x hx ρ ⟨rows, s8, rfl, hl, ask⟩
  obtain ⟨z, hz, rfl⟩ := List.mem_map.mp hx
  obtain ⟨o, b, hb, _, rfl⟩ := idxs_mem hz
  rw [Nat.zero_add]
  have ho : o < rows.length := by rw [hl]; exact (List.getElem?_eq_some_iff.mp hb).1
  have hr : arc < rows.length := by omega
  obtain ⟨q1, q2⟩ := ask _ (List.getElem_mem ho)
  obtain ⟨_, q4⟩ := ask _ (List.getElem_mem hr)
  have l1 := row_len q2 h0
  have l2 := row_len q4 h0
  have e1 : atD (rows.map rowD) (o : Int) = some (rowD rows[o]) := by rw [atD_map, atD_nat ho]; rfl
  have e2 : atD (rows.map rowD) (arc : Int) = some (rowD rows[arc]) := by rw [atD_map, atD_nat hr]; rfl
  have hc : compL (gName 10) (tAnd (tOf (d2 neM (dAny 10) (dAny 6))) (tOf (d2 ninM (dAny 10) (d2 itemM (dAny 2) (dAny 8))))) (dVar 10) [Slot.sh A, .sh B, .ow (.lst (rows.map rowD)), s3, .sh (.int arc), s5, .sh (.int tk), s7, .sh (.int o), .no, .no] (rows[arc].map D.int) = pure ((rows[arc].filter fun x => decide (x ≠ tk) && !decide (x ∈ rows[o])).map D.int) := by
    rw [compL_pure (fun x => [Slot.sh A, .sh B, .ow (.lst (rows.map rowD)), s3, .sh (.int arc), s5, .sh (.int tk), s7, .sh (.int o), .no, .sh x]) (fun x => match x with | .int x => decide (x ≠ tk) && !decide (x ∈ rows[o]) | _ => false) id (fun x hx => by
      obtain ⟨y, _, rfl⟩ := List.mem_map.mp hx
      have hn := nin_ints (x := y) (xs := rows[o])
      refine ⟨by simp, ?_, fun _ => by simp⟩
      by_cases q : y = tk
      · simp [q]
      · simp [q, e1, rowD, hn])]
    rw [List.filter_map, List.map_id]
    rfl
  have hx : ixD (rows.map rowD).length (o : Int) = some o := ixD_nat (by rw [List.length_map]; exact ho)
  rw [List.length_map] at hx
  have hd : addM (rowD rows[o]) (.lst ((rows[arc].filter fun x => decide (x ≠ tk) && !decide (x ∈ rows[o])).map D.int)) = pure (rowD (rows[o] ++ rows[arc].filter fun x => decide (x ≠ tk) && !decide (x ∈ rows[o]))) := by
    have := List.length_filter_le (fun x => decide (x ≠ tk) && !decide (x ∈ rows[o])) rows[arc]
    unfold rowD
    rw [add_lst (by simp only [List.length_map]; omega), List.map_append]
  refine ⟨[Slot.sh A, .sh B, .ow (.lst ((rows.set o (rows[o] ++ rows[arc].filter fun x => decide (x ≠ tk) && !decide (x ∈ rows[o]))).map rowD)), s3, .sh (.int arc), s5, .sh (.int tk), s7, .sh (.int o), .no, .no], ?_, _, _, rfl, by rw [List.length_set]; exact hl, ask.set (fun z => q1 (List.append_eq_nil_iff.mp z).1) (row_app q2 (q4.sub List.filter_sublist) fun x hx => by
    have := (List.mem_filter.mp hx).2
    simp at this
    exact this.2)⟩
  have it : iterM (rowD rows[arc]) = pure (rows[arc].map D.int) := rfl
  generalize (rows[arc].filter fun x => decide (x ≠ tk) && !decide (x ∈ rows[o])) = fs at hc hd ⊢
  rw [List.map_set]
  simp [e1, e2, it, hc, hd, hx]
theorem hand2 {rows : List (List Int)} {s3 s4 s5 s6 s7 s8 : Slot} (h6 : h ≤ 6) (h0 : 0 ≤ h) (hl : rows.length = as.length) (ask : Asks h rows) :
    ∃ ρ', forL (gTup 2 (gsCons (gName 4) (gsCons (gTup 3 (gsCons (gName 5) (gsCons (gName 6) (gsCons (gName 7) (gsNil))))) (gsNil)))) (sFor (iSeq (dCall m_law_out (dCons (dVar 0) (dCons (dVar 6) (dNil))))) (gName 8)
    (sSetL 2 (dVar 8) (d2 addM (d2 itemM (dAny 2) (dAny 8)) (dComp (iSeq (d2 itemM (dAny 2) (dAny 4))) (gName 10) (tAnd (tOf (d2 neM (dAny 10) (dAny 6))) (tOf (d2 ninM (dAny 10) (d2 itemM (dAny 2) (dAny 8))))) (dVar 10) [10])))) (enumFrom 0 (as.map arD))
      [Slot.sh (.tup (as.map arD)), .sh B, .ow (.lst (rows.map rowD)), s3, s4, s5, s6, s7, s8, .no, .no] = pure (.nx ρ') ∧ ∃ rows' s4 s5 s6 s7 s8, ρ' = [Slot.sh (.tup (as.map arD)), .sh B, .ow (.lst (rows'.map rowD)), s3, s4, s5, s6, s7, s8, .no, .no] ∧ rows'.length = as.length ∧ Asks h rows' := by
  refine forL_pure (fun ρ => ∃ rows s4 s5 s6 s7 s8, ρ = [Slot.sh (.tup (as.map arD)), .sh B, .ow (.lst (rows.map rowD)), s3, s4, s5, s6, s7, s8, .no, .no] ∧ rows.length = as.length ∧ Asks h rows) ⟨rows, s4, s5, s6, s7, s8, rfl, hl, ask⟩ ?_
  rintro x hx ρ ⟨rows, s4, s5, s6, s7, s8, rfl, hl, ask⟩
  obtain ⟨i, a, ha, rfl⟩ := enum_arc hx
  obtain ⟨ρ', h1, rows', s8', rfl, h2, h3⟩ := hand3 (A := .tup (as.map arD)) (B := B) (s3 := s3) (s5 := .sh (.int a.1)) (s7 := .sh (.int a.2.2)) (s8 := s8) (tk := a.2.1) h6 h0 hl ask (List.getElem?_eq_some_iff.mp ha).1
  refine ⟨[Slot.sh (.tup (as.map arD)), .sh B, .ow (.lst (rows'.map rowD)), s3, .sh (.int i), .sh (.int a.1), .sh (.int a.2.1), .sh (.int a.2.2), s8', .no, .no], ?_, rows', _, _, _, _, _, rfl, h2, h3⟩
  have ho := out_ok (h := a.2.1) (.tup (as.map arD))
  rw [arD]
  simp [ho, h1]
theorem handed_ok {rows : List (List Int)} (h6 : h ≤ 6) (h0 : 0 ≤ h) (a8 : as.length ≤ 8) (hl : rows.length = as.length) (ask : Asks h rows) : ∃ rows', m_law_handed [.tup (as.map arD), .lst (rows.map rowD)] = pure (.lst (rows'.map rowD)) ∧ rows'.length = as.length ∧ Asks h rows' := by
  have hc : compL (gName 9) tYes (dCall (b1 listM) (dCons (dAny 9) (dNil))) [Slot.sh (.tup (as.map arD)), .sh (.lst (rows.map rowD)), .no, .no, .no, .no, .no, .no, .no, .no, .no] (rows.map rowD) = pure (rows.map rowD) := by
    rw [compL_pure (fun x => [Slot.sh (.tup (as.map arD)), .sh (.lst (rows.map rowD)), .no, .no, .no, .no, .no, .no, .no, .sh x, .no]) (fun _ => true) id (fun x hx => by
      obtain ⟨y, _, rfl⟩ := List.mem_map.mp hx
      simp [rowD])]
    rw [List.filter_eq_self.mpr (fun _ _ => rfl), List.map_id]
  obtain ⟨ρ', h1, rows', s3, s4, s5, s6, s7, s8, rfl, h2, h3⟩ := forL_pure (g := gName 3) (b := sFor (iEnum (dVar 0)) (gTup 2 (gsCons (gName 4) (gsCons (gTup 3 (gsCons (gName 5) (gsCons (gName 6) (gsCons (gName 7) (gsNil))))) (gsNil))))
    (sFor (iSeq (dCall m_law_out (dCons (dVar 0) (dCons (dVar 6) (dNil))))) (gName 8)
    (sSetL 2 (dVar 8) (d2 addM (d2 itemM (dAny 2) (dAny 8)) (dComp (iSeq (d2 itemM (dAny 2) (dAny 4))) (gName 10) (tAnd (tOf (d2 neM (dAny 10) (dAny 6))) (tOf (d2 ninM (dAny 10) (d2 itemM (dAny 2) (dAny 8))))) (dVar 10) [10])))))
    (fun ρ => ∃ rows' s3 s4 s5 s6 s7 s8, ρ = [Slot.sh (.tup (as.map arD)), .sh (.lst (rows.map rowD)), .ow (.lst (rows'.map rowD)), s3, s4, s5, s6, s7, s8, .no, .no] ∧ rows'.length = as.length ∧ Asks h rows')
    (xs := rangeL 0 as.length) (ρ := [Slot.sh (.tup (as.map arD)), .sh (.lst (rows.map rowD)), .ow (.lst (rows.map rowD)), .no, .no, .no, .no, .no, .no, .no, .no]) ⟨rows, _, _, _, _, _, _, rfl, hl, ask⟩ (by
      rintro x hx ρ ⟨rows', s3, s4, s5, s6, s7, s8, rfl, h2, h3⟩
      obtain ⟨ρ', h1, rows'', t4, t5, t6, t7, t8, rfl, h4, h5⟩ := hand2 (as := as) (B := .lst (rows.map rowD)) (s3 := .sh x) (s4 := s4) (s5 := s5) (s6 := s6) (s7 := s7) (s8 := s8) h6 h0 h2 h3
      refine ⟨[Slot.sh (.tup (as.map arD)), .sh (.lst (rows.map rowD)), .ow (.lst (rows''.map rowD)), .sh x, t4, t5, t6, t7, t8, .no, .no], ?_, rows'', _, _, _, _, _, _, rfl, h4, h5⟩
      simp [h1])
  refine ⟨rows', ?_, h2, h3⟩
  show runO 11 2 _ _ = _
  rw [ev_runO (by rfl)]
  simp [hc, range1_ok (show (0 : Int) ≤ as.length by omega) (by omega), h1]
end
end K47
end
section
/-! K47T: the law's sample: closed deals. -/
set_option autoImplicit false
set_option linter.all false
set_option maxRecDepth 10000
set_option maxHeartbeats 4000000
namespace K47
open PySem (Str)
open DL
@[simp] theorem eq_nil0 : eqM (.lst []) (.lst []) = pure (.bl true) := by
  show (M.need _ >>= fun _ => _) = _
  rw [need_bnd ⟨by rfl, by rfl⟩]
  congr 1
theorem eq_one {x : Int} : eqM (.lst [.int x]) (.lst []) = pure (.bl false) := by
  show (M.need _ >>= fun _ => _) = _
  rw [need_bnd ⟨by simp, by rfl⟩]
  congr 1
theorem Tot.hide {α : Type} {m : M α} {Q : α → Prop} (h : ∀ Q' : α → Prop, (∀ a, Q a → Q' a) → Tot m Q') : Tot m Q := h Q fun _ h => h
section
variable {h : Int} {ls : List Int} {as : List Ar} {A B C : D}
theorem one_row {x : Int} (h0 : 0 ≤ x) (h1 : x < h) : Row h [x] := ⟨List.pairwise_singleton _ _, fun y hy => by rw [List.mem_singleton.mp hy]; exact ⟨h0, h1⟩⟩
theorem two_row {x y : Int} (h0 : 0 ≤ x) (h1 : x < h) (h2 : 0 ≤ y) (h3 : y < h) (n : x ≠ y) : Row h [x, y] := row_app (r := [x]) (s := [y]) (one_row h0 h1) (one_row h2 h3) fun z hz => by
  rw [List.mem_singleton.mp hz]
  simpa using fun q => n q.symm
theorem cd1 (w : Wsh h ls as) : Tot (forL (gTup 3 (gsCons (gName 6) (gsCons (gName 7) (gsCons (gName 8) (gsNil))))) (sSeq (sAsg (dIf (tOf (d2 eqM (dCall (b2 drawM) (dCons (dVar 0) (dCons (dC (.int 2)) (dNil)))) (dC (.int 0)))) (dLst (dCons (dVar 6) (dNil))) (dLst (dNil))) (gName 9))
    (sAppend 5 (d2 addM (dAny 9) (dIf (tOr (tOf (d2 eqM (dAny 9) (dLst (dNil)))) (tOf (d2 eqM (dCall (b2 drawM) (dCons (dVar 0) (dCons (dC (.int 3)) (dNil)))) (dC (.int 0))))) (dLst (dCons (dVar 7) (dNil))) (dLst (dNil)))))) (as.map arD)
    [Slot.sh .st, .sh A, .sh (.int h), .sh B, .sh C, .ow (.lst []), .no, .no, .no, .no, .no, .no, .no, .no, .no, .no, .no]) fun f => ∃ rows s6 s7 s8 s9, f = .nx [Slot.sh .st, .sh A, .sh (.int h), .sh B, .sh C, .ow (.lst (rows.map rowD)), s6, s7, s8, s9, .no, .no, .no, .no, .no, .no, .no] ∧ rows.length = as.length ∧ Asks h rows := by
  have a8 := w.a8
  refine (Tot.for (fun k ρ => ∃ rows s6 s7 s8 s9, ρ = [Slot.sh .st, .sh A, .sh (.int h), .sh B, .sh C, .ow (.lst (rows.map rowD)), s6, s7, s8, s9, .no, .no, .no, .no, .no, .no, .no] ∧ rows.length = k ∧ Asks h rows) 0 ⟨[], _, _, _, _, rfl, rfl, fun r hr => by cases hr⟩ ?_).imp ?_
  · rintro i x ρ hx ⟨rows, s6, s7, s8, s9, rfl, hl, ask⟩
    rw [List.getElem?_map] at hx
    obtain ⟨a, ha, rfl⟩ := Option.map_eq_some_iff.mp hx
    have hi := (List.getElem?_eq_some_iff.mp ha).1
    obtain ⟨g0, g1, t0, t1, ne, _⟩ := w.ar a (List.mem_of_getElem? ha)
    have r1 := one_row g0 g1
    have r2 := one_row t0 t1
    have r3 := two_row g0 g1 t0 t1 ne
    have ask2 : ∀ r : List Int, r ≠ [] → Row h r → Asks h (rows ++ [r]) := fun r q1 q2 x hx => by
      rcases List.mem_append.mp hx with z | z
      · exact ask x z
      · rw [List.mem_singleton.mp z]; exact ⟨q1, q2⟩
    have hll : rows.length < 16777216 := by omega
    refine Tot.hide fun Q hQ => ?_
    simp [arD]
    refine Tot.drawB (by omega) (by omega) fun z z0 z1 => ?_
    by_cases q : z = 0
    · simp [q, eq_one]
      refine Tot.drawB (by omega) (by omega) fun y y0 y1 => ?_
      by_cases p : y = 0
      · simp [p, hll]
        exact .pure (hQ _ ⟨_, rfl, rows ++ [[a.1, a.2.1]], _, _, _, _, by rw [List.map_append]; rfl, by rw [List.length_append]; simp; omega, ask2 _ (by simp) r3⟩)
      · simp [p, hll]
        exact .pure (hQ _ ⟨_, rfl, rows ++ [[a.1]], _, _, _, _, by rw [List.map_append]; rfl, by rw [List.length_append]; simp; omega, ask2 _ (by simp) r1⟩)
    · simp [q, hll]
      exact .pure (hQ _ ⟨_, rfl, rows ++ [[a.2.1]], _, _, _, _, by rw [List.map_append]; rfl, by rw [List.length_append]; simp; omega, ask2 _ (by simp) r2⟩)
  · rintro f ⟨_, rfl, rows, s6, s7, s8, s9, rfl, hl, ask⟩
    rw [Nat.zero_add, List.length_map] at hl
    exact ⟨rows, s6, s7, s8, s9, rfl, hl, ask⟩
theorem cd3 {rows : List (List Int)} {s6 s7 s8 s9 : Slot} (w : Wsh h ls as) (hl : rows.length = as.length) (ask : Asks h rows) : ∃ ρ', forL (gName 10) (sSeq (sAsg (dCall m_law_into (dCons (dVar 4) (dCons (dVar 10) (dNil)))) (gName 11))
    (sIf (tAnd (tOf (d2 neM (dAny 11) (dLst (dNil)))) (tOf (dCall (b1 allM) (dCons (dComp (iSeq (dVar 11)) (gName 16) (tYes) (d2 ninM (dAny 10) (d2 itemM (dAny 5) (dAny 16))) [16]) (dNil)))))
    (sSetL 5 (d2 itemM (dAny 11) (dC (.int 0))) (d2 addM (d2 itemM (dAny 5) (d2 itemM (dAny 11) (dC (.int 0)))) (dLst (dCons (dVar 10) (dNil)))))
    (sNext))) (rangeL 0 h) [Slot.sh .st, .sh A, .sh (.int h), .sh B, .sh (.tup (as.map arD)), .ow (.lst (rows.map rowD)), s6, s7, s8, s9, .no, .no, .no, .no, .no, .no, .no] = pure (.nx ρ') ∧ ∃ rows' s10 s11, ρ' = [Slot.sh .st, .sh A, .sh (.int h), .sh B, .sh (.tup (as.map arD)), .ow (.lst (rows'.map rowD)), s6, s7, s8, s9, s10, s11, .no, .no, .no, .no, .no] ∧ rows'.length = as.length ∧ Asks h rows' ∧ noOw1 0 [s10] = true := by
  have a8 := w.a8
  have h6 := w.h6
  refine forL_pure (fun ρ => ∃ rows s10 s11, ρ = [Slot.sh .st, .sh A, .sh (.int h), .sh B, .sh (.tup (as.map arD)), .ow (.lst (rows.map rowD)), s6, s7, s8, s9, s10, s11, .no, .no, .no, .no, .no] ∧ rows.length = as.length ∧ Asks h rows ∧ noOw1 0 [s10] = true) ⟨rows, .no, .no, rfl, hl, ask, rfl⟩ ?_
  rintro x hx ρ ⟨rows, s10, s11, rfl, hl, ask, _⟩
  obtain ⟨z, rfl, z0, z1⟩ := rangeL_mem hx
  have hin := into_ok (h := z) (.tup (as.map arD))
  have hmem : ∀ y ∈ intoL as z, ∃ i : Nat, y = i ∧ i < rows.length := fun y hy => by
    obtain ⟨i, a, ha, _, e⟩ := idxs_mem hy
    exact ⟨i, by rw [e, Nat.zero_add], by rw [hl]; exact (List.getElem?_eq_some_iff.mp ha).1⟩
  cases hI : intoL as z with
  | nil =>
    rw [hI] at hin
    refine ⟨[Slot.sh .st, .sh A, .sh (.int h), .sh B, .sh (.tup (as.map arD)), .ow (.lst (rows.map rowD)), s6, s7, s8, s9, .sh (.int z), .sh (.lst []), .no, .no, .no, .no, .no], ?_, rows, .sh (.int z), _, rfl, hl, ask, rfl⟩
    simp [hin]
  | cons y r =>
    rw [hI] at hin hmem
    have hne : neM (.lst ((y :: r).map D.int)) (.lst []) = pure (.bl true) := by
      rw [List.map_cons]
      exact ne_nil1 (okL_ints (xs := y :: r))
    obtain ⟨i, rfl, hi⟩ := hmem y List.mem_cons_self
    have ei : atD (rows.map rowD) (i : Int) = some (rowD rows[i]) := by rw [atD_map, atD_nat hi]; rfl
    have hc : ∃ bs : List Bool, compL (gName 16) (tYes) (d2 ninM (dAny 10) (d2 itemM (dAny 5) (dAny 16))) [Slot.sh .st, .sh A, .sh (.int h), .sh B, .sh (.tup (as.map arD)), .ow (.lst (rows.map rowD)), s6, s7, s8, s9, .sh (.int z), .sh (.lst (((i : Int) :: r).map D.int)), .no, .no, .no, .no, .no] (((i : Int) :: r).map D.int) = pure (((!decide (z ∈ rows[i])) :: bs).map D.bl) := by
      refine ⟨r.map fun y => !decide (z ∈ rows[y.toNat]?.getD []), ?_⟩
      rw [compL_pure (fun x => [Slot.sh .st, .sh A, .sh (.int h), .sh B, .sh (.tup (as.map arD)), .ow (.lst (rows.map rowD)), s6, s7, s8, s9, .sh (.int z), .sh (.lst (((i : Int) :: r).map D.int)), .no, .no, .no, .no, .sh x]) (fun _ => true) (fun x => match x with | .int y => .bl (!decide (z ∈ rows[y.toNat]?.getD [])) | _ => .non) (fun x hx => by
        obtain ⟨y, hy, rfl⟩ := List.mem_map.mp hx
        obtain ⟨j, rfl, hj⟩ := hmem y hy
        have ej : atD (rows.map rowD) (j : Int) = some (rowD rows[j]) := by rw [atD_map, atD_nat hj]; rfl
        have hn := nin_ints (x := z) (xs := rows[j])
        refine ⟨by simp, by simp, fun _ => ?_⟩
        show _ = pure (D.bl (!decide (z ∈ rows[(j : Int).toNat]?.getD [])))
        rw [Int.toNat_natCast, List.getElem?_eq_getElem hj]
        simp [ej, rowD, hn])]
      rw [List.filter_eq_self.mpr (fun _ _ => rfl), List.map_map, List.map_cons, List.map_cons, List.map_map]
      congr 1
      show D.bl (!decide (z ∈ rows[(i : Int).toNat]?.getD [])) :: _ = _
      rw [Int.toNat_natCast, List.getElem?_eq_getElem hi]
      rfl
    obtain ⟨bs, hc⟩ := hc
    have hall : allM (.lst (((!decide (z ∈ rows[i])) :: bs).map D.bl)) = pure (.bl (!decide (z ∈ rows[i]) && bs.all id)) := by
      have e : ∀ bs : List Bool, asBls (bs.map D.bl) = some bs := fun bs => by
        induction bs with
        | nil => rfl
        | cons a r ih => simp [asBls, ih]
      show (M.get (asBls _) >>= fun bs => pure (D.bl (bs.all id))) = _
      rw [e, get_some, pure_bnd]
      rfl
    obtain ⟨q1, q2⟩ := ask _ (List.getElem_mem hi)
    by_cases c : (!decide (z ∈ rows[i]) && bs.all id) = true
    · have hz : z ∉ rows[i] := by
        have := (Bool.and_eq_true _ _ ▸ c).1
        simpa using this
      have l1 := row_len q2 (by have := w.h2; omega)
      have hd : addM (rowD rows[i]) (.lst [.int z]) = pure (rowD (rows[i] ++ [z])) := by
        unfold rowD
        rw [add_lst (by simp only [List.length_map, List.length_singleton]; omega), List.map_append]
        rfl
      have hx : ixD (rows.map rowD).length (i : Int) = some i := ixD_nat (by rw [List.length_map]; exact hi)
      rw [List.length_map] at hx
      rw [c] at hall
      refine ⟨[Slot.sh .st, .sh A, .sh (.int h), .sh B, .sh (.tup (as.map arD)), .ow (.lst ((rows.set i (rows[i] ++ [z])).map rowD)), s6, s7, s8, s9, .sh (.int z), .sh (.lst (((i : Int) :: r).map D.int)), .no, .no, .no, .no, .no], ?_, _, .sh (.int z), _, rfl, by rw [List.length_set]; exact hl, ask.set (by simp) (row_app q2 (one_row z0 z1) fun x hx => by rw [List.mem_singleton.mp hx]; exact hz), rfl⟩
      have i0 : itemM (.lst (((i : Int) :: r).map D.int)) (.int 0) = pure (.int i) := by simp
      rw [List.map_set]
      generalize (((i : Int) :: r).map D.int) = ys at *
      generalize ((!decide (z ∈ rows[i])) :: bs).map D.bl = zs at *
      simp [hin, hne, hc, hall, i0, ei, hd, hx]
    · have c2 : (!decide (z ∈ rows[i]) && bs.all id) = false := by simpa using c
      rw [c2] at hall
      refine ⟨[Slot.sh .st, .sh A, .sh (.int h), .sh B, .sh (.tup (as.map arD)), .ow (.lst (rows.map rowD)), s6, s7, s8, s9, .sh (.int z), .sh (.lst (((i : Int) :: r).map D.int)), .no, .no, .no, .no, .no], ?_, rows, .sh (.int z), _, rfl, hl, ask, rfl⟩
      generalize (((i : Int) :: r).map D.int) = ys at *
      generalize ((!decide (z ∈ rows[i])) :: bs).map D.bl = zs at *
      simp [hin, hne, hc, hall]
end
end K47
end
section
/-! K47U: the law's sample: closed deals, joined. -/
set_option autoImplicit false
set_option linter.all false
set_option maxRecDepth 10000
set_option maxHeartbeats 4000000
namespace K47
open PySem (Str)
open DL
def wtD (w : List Int) : D := .tup (w.map D.int)
def lkD (l : List Ar) : D := .tup (l.map arD)
section
variable {h : Int} {ls : List Int} {as : List Ar} {A B C : D}
theorem cd6 {rows : List (List Int)} {sl : List Int} {s : Int} {s6 s7 s8 s9 s10 s11 s16 : Slot} (w : Wsh h ls as) (hl : rows.length = as.length) (ask : Asks h rows) (n10 : noOw1 0 [s10] = true) (sll : (sl.length : Int) = h) (slb : ∀ x ∈ sl, 0 ≤ x ∧ x ≤ 1) : Tot (forL (gTup 2 (gsCons (gName 16) (gsCons (gTup 3 (gsCons (gName 6) (gsCons (gName 7) (gsCons (gName 8) (gsNil))))) (gsNil)))) (sSeq (sAsg (dCall m_law_into (dCons (dVar 4) (dCons (dVar 6) (dNil)))) (gName 11))
    (sSeq (sAppend 14 (dCall (b1 tupleM) (dCons (dIf (tOf (d2 inM (dAny 6) (d2 itemM (dAny 5) (dAny 16)))) (dCall m_law_part (dCons (dVar 0) (dCons (dVar 11) (dCons (dC (.int 3)) (dNil))))) (dVar 11)) (dNil))))
    (sAppend 15 (dCall (b1 tupleM) (dCons (dComp (iSeq (dCall (b1 sortedM) (dCons (d2 itemM (dAny 5) (dAny 16)) (dNil)))) (gName 10) (tYes) (dTup (dCons (dVar 10) (dCons (d2 addM (dAny 13) (dCall (b2 drawM) (dCons (dVar 0) (dCons (dC (.int 4)) (dNil))))) (dCons (d2 modM (d2 addM (d2 itemM (dAny 12) (dAny 10)) (dCall (b1 intM) (dCons (d2 eqM (dCall (b2 drawM) (dCons (dVar 0) (dCons (dC (.int 12)) (dNil)))) (dC (.int 0))) (dNil)))) (dC (.int 2))) (dNil))))) [10]) (dNil)))))) (enumFrom 0 (as.map arD))
    [Slot.sh .st, .sh A, .sh (.int h), .sh B, .sh (.tup (as.map arD)), .ow (.lst (rows.map rowD)), s6, s7, s8, s9, s10, s11, .sh (.lst (sl.map D.int)), .sh (.int s), .ow (.lst []), .ow (.lst []), s16]) fun f => ∃ (ws : List (List Int)) (ks : List (List Ar)) (s6 s7 s8 s11 s16 : Slot), f = .nx [Slot.sh .st, .sh A, .sh (.int h), .sh B, .sh (.tup (as.map arD)), .ow (.lst (rows.map rowD)), s6, s7, s8, s9, s10, s11, .sh (.lst (sl.map D.int)), .sh (.int s), .ow (.lst (ws.map wtD)), .ow (.lst (ks.map lkD)), s16] ∧ ws.length = as.length ∧ ks.length = as.length ∧ (∀ (i : Nat) w, ws[i]? = some w → ∃ a, as[i]? = some a ∧ w.Sublist (intoL as a.1)) ∧ ∀ l ∈ ks, LockP h s l := by
  have a8 := w.a8
  have h6 := w.h6
  have h2 := w.h2
  refine (Tot.for (fun k ρ => ∃ (ws : List (List Int)) (ks : List (List Ar)) (s6 s7 s8 s11 s16 : Slot), ρ = [Slot.sh .st, .sh A, .sh (.int h), .sh B, .sh (.tup (as.map arD)), .ow (.lst (rows.map rowD)), s6, s7, s8, s9, s10, s11, .sh (.lst (sl.map D.int)), .sh (.int s), .ow (.lst (ws.map wtD)), .ow (.lst (ks.map lkD)), s16] ∧ ws.length = k ∧ ks.length = k ∧ (∀ (i : Nat) w, ws[i]? = some w → ∃ a, as[i]? = some a ∧ w.Sublist (intoL as a.1)) ∧ ∀ l ∈ ks, LockP h s l) 0 ⟨[], [], _, _, _, _, _, rfl, rfl, rfl, fun i w h => by simp at h, fun l hl => by cases hl⟩ ?_).imp ?_
  · rintro i x ρ hx ⟨ws, ks, s6, s7, s8, s11, s16, rfl, hw, hk, wt, kk⟩
    obtain ⟨i', a, ha, rfl⟩ := enum_arc (List.mem_of_getElem? hx)
    have hii : i' = i := by
      rw [enumFrom_get, List.getElem?_map] at hx
      obtain ⟨y, _, e⟩ := Option.map_eq_some_iff.mp hx
      injection e with e
      injection e with e _
      injection e with e
      omega
    subst hii
    have hi := (List.getElem?_eq_some_iff.mp ha).1
    have hr : i' < rows.length := by omega
    have e1 : atD (rows.map rowD) (i' : Int) = some (rowD rows[i']) := by rw [atD_map, atD_nat hr]; rfl
    obtain ⟨q1, q2⟩ := ask _ (List.getElem_mem hr)
    have hrl := row_len q2 (by omega)
    have hin := into_ok (h := a.1) (.tup (as.map arD))
    have hn := in_ints (x := a.1) (xs := rows[i'])
    have hno : ∀ r, noOw1 0 (s10 :: r) = true := fun r => n10
    have hso := sort_ints (ns := rows[i']) (by omega)
    have hwl : ws.length < 16777216 := by omega
    have hkl : ks.length < 16777216 := by omega
    have hc : ∀ t14 t15 : Slot, Tot (compL (gName 10) (tYes) (dTup (dCons (dVar 10) (dCons (d2 addM (dAny 13) (dCall (b2 drawM) (dCons (dVar 0) (dCons (dC (.int 4)) (dNil))))) (dCons (d2 modM (d2 addM (d2 itemM (dAny 12) (dAny 10)) (dCall (b1 intM) (dCons (d2 eqM (dCall (b2 drawM) (dCons (dVar 0) (dCons (dC (.int 12)) (dNil)))) (dC (.int 0))) (dNil)))) (dC (.int 2))) (dNil)))))
        [Slot.sh .st, .sh A, .sh (.int h), .sh B, .sh (.tup (as.map arD)), .ow (.lst (rows.map rowD)), .sh (.int a.1), .sh (.int a.2.1), .sh (.int a.2.2), s9, .no, .sh (.lst ((intoL as a.1).map D.int)), .sh (.lst (sl.map D.int)), .sh (.int s), t14, t15, .sh (.int i')] ((sortI rows[i']).map D.int)) fun ys => ∃ l : List Ar, ys = l.map arD ∧ LockP h s l := fun t14 t15 => by
      refine (Tot.compT arD (fun x a => x = .int a.1 ∧ s ≤ a.2.1 ∧ a.2.1 ≤ s + 10 ∧ 0 ≤ a.2.2 ∧ a.2.2 ≤ 1) ?_).imp ?_
      · intro y hy
        obtain ⟨k, hk, rfl⟩ := List.mem_map.mp hy
        have hk2 := q2.2 k ((sortI_perm rows[i']).mem_iff.mp hk)
        obtain ⟨v, _, hv, hv2⟩ := atD_lt (xs := sl) hk2.1 (by omega)
        have hv3 := slb v hv2
        simp
        refine Tot.drawB (by omega) (by omega) fun u u0 u1 => ?_
        simp [atD_map, hv]
        refine Tot.drawB (by omega) (by omega) fun u' u0' u1' => ?_
        simp [mod_ok (show (0 : Int) < 2 by omega)]
        exact .pure ⟨k, s + u, _, rfl, rfl, by omega, by omega, by omega, by omega⟩
      · rintro ys ⟨l, rfl, h3, h4⟩
        exact ⟨l, rfl, lock_of q2 q1 h3 h4⟩
    have wt2 : ∀ y : List Int, y.Sublist (intoL as a.1) → ∀ (j : Nat) w, (ws ++ [y])[j]? = some w → ∃ a, as[j]? = some a ∧ w.Sublist (intoL as a.1) := fun y hy j v hv => by
      by_cases q : j < ws.length
      · rw [List.getElem?_append_left q] at hv
        exact wt j v hv
      · have hj := (List.getElem?_eq_some_iff.mp hv).1
        rw [List.length_append, List.length_singleton] at hj
        have : j = i' := by omega
        subst this
        rw [List.getElem?_append_right (by omega), show j - ws.length = 0 by omega] at hv
        have : y = v := by simpa using hv
        subst this
        exact ⟨a, ha, hy⟩
    have kk2 : ∀ y : List Ar, LockP h s y → ∀ l ∈ ks ++ [y], LockP h s l := fun y hy l hl => by
      rcases List.mem_append.mp hl with z | z
      · exact kk l z
      · rw [List.mem_singleton.mp z]; exact hy
    refine Tot.hide fun Q hQ => ?_
    rw [arD]
    have irw : itemM (.lst (rows.map rowD)) (.int i') = pure (.lst (rows[i'].map D.int)) := by
      rw [item_lst, e1, get_some]
      rfl
    have fin : ∀ (y : List Int) (l : List Ar), y.Sublist (intoL as a.1) → LockP h s l → Tot (pure (Fl.nx [Slot.sh .st, .sh A, .sh (.int h), .sh B, .sh (.tup (as.map arD)), .ow (.lst (rows.map rowD)), .sh (.int a.1), .sh (.int a.2.1), .sh (.int a.2.2), s9, s10, .sh (.lst ((intoL as a.1).map D.int)), .sh (.lst (sl.map D.int)), .sh (.int s), .ow (.lst (ws.map wtD ++ [.tup (y.map D.int)])), .ow (.lst (ks.map lkD ++ [.tup (l.map arD)])), .sh (.int i')])) Q := fun y l hy hl => .pure (hQ _ ⟨_, rfl, ws ++ [y], ks ++ [l], _, _, _, _, _, by rw [List.map_append, List.map_append]; rfl, by rw [List.length_append, hw]; rfl, by rw [List.length_append, hk]; rfl, wt2 y hy, kk2 l hl⟩)
    by_cases c : a.1 ∈ rows[i']
    · simp [hin, irw, hn, c, -item_lst]
      refine part_int.bnd ?_
      rintro r ⟨y, rfl, hy⟩
      simp [hwl, irw, hso, hno, -item_lst]
      refine (hc _ _).bnd ?_
      rintro ys ⟨l, rfl, hl⟩
      simp [hkl]
      exact fin y l hy hl
    · simp [hin, irw, hn, c, hwl, hso, hno, -item_lst]
      refine (hc _ _).bnd ?_
      rintro ys ⟨l, rfl, hl⟩
      simp [hkl]
      exact fin _ l (List.Sublist.refl _) hl
  · rintro f ⟨_, rfl, ws, ks, s6, s7, s8, s11, s16, rfl, hw, hk, wt, kk⟩
    have el : (enumFrom 0 (as.map arD)).length = as.length := by
      rw [enumFrom_len, List.length_map]
    rw [Nat.zero_add, el] at hw hk
    exact ⟨ws, ks, s6, s7, s8, s11, s16, rfl, hw, hk, wt, kk⟩
end
end K47
end
section
/-! K47V: the law's sample: closed deals, whole. -/
set_option autoImplicit false
set_option linter.all false
set_option maxRecDepth 10000
set_option maxHeartbeats 4000000
namespace K47
open PySem (Str)
open DL
theorem closed_deal_ok {h : Int} {ls : List Int} {as : List Ar} (w : Wsh h ls as) : Tot (m_law_closed_deal [.st, wshD h ls as]) DealQ := by
  have h2 := w.h2
  have h6 := w.h6
  have a8 := w.a8
  obtain ⟨M, hM, _, _⟩ := maxL_some w.l0
  have hmx := (Sq.tup (ls.map D.int)).max hM
  show Tot (run 17 2 _ _) _
  rw [ev_run (by rfl)]
  refine Tot.hide fun Q hQ => ?_
  have i1 : wshD h ls as = .tup [.int h, .tup (ls.map D.int), .tup (as.map arD)] := rfl
  rw [i1]
  simp
  refine (cd1 w).bnd ?_
  rintro f ⟨rows, s6, s7, s8, s9, rfl, hl, ask⟩
  obtain ⟨rows', hh, hl', ask'⟩ := handed_ok h6 (by omega) a8 hl ask
  simp [hh, range1_ok (show 0 ≤ h by omega) (by omega)]
  obtain ⟨ρ', h3, rows'', s10, s11, rfl, hl'', ask'', n10⟩ := cd3 (A := .tup [.int h, .tup (ls.map D.int), .tup (as.map arD)]) (B := .tup (ls.map D.int)) (s6 := s6) (s7 := s7) (s8 := s8) (s9 := s9) w hl' ask'
  have hno : ∀ r, noOw1 0 (s10 :: r) = true := fun r => n10
  simp [h3, hno, range1_ok (show 0 ≤ h by omega) (by omega)]
  have hc := Tot.compT D.int (fun _ (v : Int) => 0 ≤ v ∧ v ≤ 1) (g := gName 10) (e := dCall (b1 intM) (dCons (d2 eqM (dCall (b2 drawM) (dCons (dVar 0) (dCons (dC (.int 3)) (dNil)))) (dC (.int 0))) (dNil))) (ρ := [Slot.sh .st, .sh (.tup [.int h, .tup (ls.map D.int), .tup (as.map arD)]), .sh (.int h), .sh (.tup (ls.map D.int)), .sh (.tup (as.map arD)), .ow (.lst (rows''.map rowD)), s6, s7, s8, s9, .no, s11, .no, .no, .no, .no, .no]) (xs := rangeL 0 h) fun x hx => by
    simp
    refine Tot.drawB (by omega) (by omega) fun u u0 u1 => ?_
    simp
    exact .pure ⟨_, rfl, by split <;> omega, by split <;> omega⟩
  refine hc.bnd ?_
  rintro _ ⟨sl, rfl, s1, s2⟩
  have slb : ∀ x ∈ sl, 0 ≤ x ∧ x ≤ 1 := all_of_at s1 s2 fun x a _ h => h
  rw [rangeL_len] at s1
  refine Tot.drawB (by omega) (by omega) fun s z0 z1 => ?_
  refine (cd6 w hl'' ask'' n10 (by omega) slb).bnd ?_
  rintro f ⟨ws, ks, t6, t7, t8, t11, t16, rfl, w1, k1, w2, k2⟩
  simp [hmx]
  refine Tot.drawB (by omega) (by omega) fun z y0 y1 => ?_
  obtain ⟨o1, o2⟩ := deal_ok (ks := ks) w hM z0 (by omega) y0 (by omega) w1 w2 k1 k2
  exact .pure (hQ _ ⟨_, rfl, o1, o2, h6, a8⟩)
end K47
end
section
/-! K47W: the triples of a deal. -/
set_option autoImplicit false
set_option linter.all false
set_option maxRecDepth 10000
set_option maxHeartbeats 4000000
namespace K47
open PySem (Str)
open DL
section
variable {p : Pts} {t g : Nat} {s : Int} {a b : Ar}
def askL (p : Pts) (i : Nat) : List Int := (p.lock i).map (·.1)
theorem asked_ok {i : Nat} (hi : i < p.locks.length) : m_law_asked [partsD p, .int i] = pure (.lst ((askL p i).map D.int)) := by
  rw [law_asked_ok hi]
  unfold askL
  rw [List.map_map]
  rfl
theorem ent_of (h : s ∈ askL p t) : ∃ e, p.ent t s = some e := by
  obtain ⟨e, he, rfl⟩ := List.mem_map.mp h
  unfold Pts.ent
  exact Option.isSome_iff_exists.mp (List.find?_isSome.mpr ⟨e, he, by simp⟩)
theorem ask_of {e : Ar} (h : p.ent t s = some e) : s ∈ askL p t := by
  obtain ⟨h1, h2⟩ := ent_mem h
  exact List.mem_map.mpr ⟨e, h1, h2⟩
theorem ent_none (h : s ∉ askL p t) : p.ent t s = none := by
  cases q : p.ent t s with
  | none => rfl
  | some e => exact (h (ask_of q)).elim
def IsTri (p : Pts) (q : Nat × Nat × Int) : Prop := ∃ a b e f m l, Tri p q.1 q.2.1 q.2.2 a b e f m l
theorem mk_tri (ok : p.Ok) (ha : p.arcs[t]? = some a) (hb : p.arcs[g]? = some b) (hab : b.1 = a.2.1) (hs : s ≠ a.2.1) (h1 : s ∈ askL p t) (h2 : s ∈ askL p g) : IsTri p (t, g, s) := by
  obtain ⟨e, he⟩ := ent_of h1
  obtain ⟨f, hf⟩ := ent_of h2
  obtain ⟨s0, s1, _⟩ := ok.ent he
  obtain ⟨b0, b1, b2, b3, b4, b5, b6⟩ := ok.ar b (List.mem_of_getElem? hb)
  have hne : lens p.h b s ≠ [] := by
    unfold lens
    split
    · simp
    · intro z
      have := congrArg List.length z
      rw [List.length_map, List.length_range] at this
      simp at this
      omega
  obtain ⟨m, hm, _⟩ := maxL_some (l := (lens p.h b s).map (Fx p.gap e f)) (by simpa using hne)
  obtain ⟨l, _, hl, _⟩ := atD_lt b5 b6
  exact ⟨a, b, e, f, m, l, ha, hb, hab.symm, hs, he, hf, hm, hl⟩
def trD (q : Nat × Nat × Int) : D := .tup [.int q.1, .int q.2.1, .int q.2.2]
theorem asked_len (ok : p.Ok) {i : Nat} (hi : i < p.locks.length) : (askL p i).length ≤ 12 := by
  have hm : p.lock i ∈ p.locks := List.mem_of_getElem? (lock_at hi)
  have h1 := (ok.lk _ hm).2.1
  have h2 := ok.h12
  unfold askL
  rw [List.length_map]
  omega
theorem tri1 (ok : p.Ok) {ts : List (Nat × Nat × Int)} {s6 : Slot} (ha : p.arcs[t]? = some a) (al : ∀ q ∈ ts, IsTri p q) (hl : ts.length ≤ 10000) : ∃ ρ', forL (gName 6)
    (sAsg (d2 addM (dAny 1) (dComp (iSeq (dCall m_law_asked (dCons (dVar 0) (dCons (dVar 2) (dNil))))) (gName 7) (tAnd (tOf (d2 neM (dAny 7) (dAny 4))) (tOf (d2 inM (dAny 7) (dCall m_law_asked (dCons (dVar 0) (dCons (dVar 6) (dNil))))))) (dTup (dCons (dVar 2) (dCons (dVar 6) (dCons (dVar 7) (dNil))))) [7])) (gName 1)) ((outL p.arcs a.2.1).map D.int)
    [Slot.sh (partsD p), .sh (.lst (ts.map trD)), .sh (.int t), .sh (.int a.1), .sh (.int a.2.1), .sh (.int a.2.2), s6, .no] = pure (.nx ρ') ∧ ∃ (ts' : List (Nat × Nat × Int)) (s6' : Slot), ρ' = [Slot.sh (partsD p), .sh (.lst (ts'.map trD)), .sh (.int t), .sh (.int a.1), .sh (.int a.2.1), .sh (.int a.2.2), s6', .no] ∧ (∀ q ∈ ts', IsTri p q) ∧ ts'.length ≤ ts.length + 300 := by
  have hlt : t < p.locks.length := by rw [ok.ll]; exact (List.getElem?_eq_some_iff.mp ha).1
  have tl := asked_len ok hlt
  have := forL_pureI (g := gName 6) (b := sAsg (d2 addM (dAny 1) (dComp (iSeq (dCall m_law_asked (dCons (dVar 0) (dCons (dVar 2) (dNil))))) (gName 7) (tAnd (tOf (d2 neM (dAny 7) (dAny 4))) (tOf (d2 inM (dAny 7) (dCall m_law_asked (dCons (dVar 0) (dCons (dVar 6) (dNil))))))) (dTup (dCons (dVar 2) (dCons (dVar 6) (dCons (dVar 7) (dNil))))) [7])) (gName 1))
    (fun k ρ => ∃ (ts' : List (Nat × Nat × Int)) (s6' : Slot), ρ = [Slot.sh (partsD p), .sh (.lst (ts'.map trD)), .sh (.int t), .sh (.int a.1), .sh (.int a.2.1), .sh (.int a.2.2), s6', .no] ∧ (∀ q ∈ ts', IsTri p q) ∧ ts'.length ≤ ts.length + k * 12) (xs := (outL p.arcs a.2.1).map D.int) 0 ⟨ts, s6, rfl, al, by omega⟩ (by
    rintro i x ρ hx ⟨ts, s6, rfl, al, hl2⟩
    obtain ⟨z, hz, rfl⟩ := List.mem_map.mp (List.mem_of_getElem? hx)
    have hi : i < (outL p.arcs a.2.1).length := by
      have := (List.getElem?_eq_some_iff.mp hx).1
      rwa [List.length_map] at this
    have hol : (outL p.arcs a.2.1).length ≤ p.arcs.length := idxs_len
    have ha24 := ok.a24
    obtain ⟨o, b, hb, hb2, rfl⟩ := idxs_mem hz
    rw [Nat.zero_add]
    have hlo : o < p.locks.length := by rw [ok.ll]; exact (List.getElem?_eq_some_iff.mp hb).1
    have h1 := asked_ok hlt
    have h2 := asked_ok hlo
    have hc : compL (gName 7) (tAnd (tOf (d2 neM (dAny 7) (dAny 4))) (tOf (d2 inM (dAny 7) (dCall m_law_asked (dCons (dVar 0) (dCons (dVar 6) (dNil))))))) (dTup (dCons (dVar 2) (dCons (dVar 6) (dCons (dVar 7) (dNil))))) [Slot.sh (partsD p), .sh (.lst (ts.map trD)), .sh (.int t), .sh (.int a.1), .sh (.int a.2.1), .sh (.int a.2.2), .sh (.int o), .no] ((askL p t).map D.int) = pure ((((askL p t).filter fun x => decide (x ≠ a.2.1) && decide (x ∈ askL p o)).map fun x => (t, o, x)).map trD) := by
      rw [compL_pure (fun x => [Slot.sh (partsD p), .sh (.lst (ts.map trD)), .sh (.int t), .sh (.int a.1), .sh (.int a.2.1), .sh (.int a.2.2), .sh (.int o), .sh x]) (fun x => match x with | .int x => decide (x ≠ a.2.1) && decide (x ∈ askL p o) | _ => false) (fun x => .tup [.int t, .int o, x]) (fun x hx => by
        obtain ⟨y, _, rfl⟩ := List.mem_map.mp hx
        have hn := in_ints (x := y) (xs := askL p o)
        refine ⟨by simp, ?_, fun _ => by simp⟩
        by_cases q : y = a.2.1
        · simp [q]
        · simp [q, h2, hn])]
      rw [List.filter_map, List.map_map, List.map_map]
      rfl
    have hfl := List.length_filter_le (fun x => decide (x ≠ a.2.1) && decide (x ∈ askL p o)) (askL p t)
    refine ⟨[Slot.sh (partsD p), .sh (.lst ((ts ++ ((askL p t).filter fun x => decide (x ≠ a.2.1) && decide (x ∈ askL p o)).map fun x => (t, o, x)).map trD)), .sh (.int t), .sh (.int a.1), .sh (.int a.2.1), .sh (.int a.2.2), .sh (.int o), .no], ?_, _, _, rfl, fun q hq => ?_, by rw [List.length_append, List.length_map]; omega⟩
    · have hd : addM (.lst (ts.map trD)) (.lst ((((askL p t).filter fun x => decide (x ≠ a.2.1) && decide (x ∈ askL p o)).map fun x => (t, o, x)).map trD)) = pure (.lst ((ts ++ ((askL p t).filter fun x => decide (x ≠ a.2.1) && decide (x ∈ askL p o)).map fun x => (t, o, x)).map trD)) := by
        rw [add_lst (by simp only [List.length_map]; omega), ← List.map_append]
      generalize ((askL p t).filter fun x => decide (x ≠ a.2.1) && decide (x ∈ askL p o)) = fs at hc hd ⊢
      simp only [List.map_map, List.map_append] at hc hd
      simp [h1, hc, hd]
    · rcases List.mem_append.mp hq with q2 | q2
      · exact al q q2
      · obtain ⟨x, hx, rfl⟩ := List.mem_map.mp q2
        obtain ⟨x1, x2⟩ := List.mem_filter.mp hx
        simp at x2 hb2
        exact mk_tri ok ha hb hb2 x2.1 x1 x2.2)
  obtain ⟨ρ', h1, ts', s6', rfl, h2, h3⟩ := this
  refine ⟨_, h1, ts', s6', rfl, h2, ?_⟩
  have hol : (outL p.arcs a.2.1).length ≤ p.arcs.length := idxs_len
  have ha24 := ok.a24
  rw [List.length_map] at h3
  omega
theorem triples_ok (ok : p.Ok) : ∃ ts : List (Nat × Nat × Int), m_law_triples [partsD p] = pure (.lst (ts.map trD)) ∧ (∀ q ∈ ts, IsTri p q) ∧ ts.length ≤ 8000 := by
  have ha24 := ok.a24
  obtain ⟨ρ', h1, ts, s2, s3, s4, s5, s6, rfl, h2, h3⟩ := forL_pureI (g := gTup 2 (gsCons (gName 2) (gsCons (gTup 3 (gsCons (gName 3) (gsCons (gName 4) (gsCons (gName 5) (gsNil))))) (gsNil)))) (b := sFor (iSeq (dCall m_law_out (dCons (d2 itemM (dAny 0) (dC (.int 4))) (dCons (dVar 4) (dNil))))) (gName 6)
    (sAsg (d2 addM (dAny 1) (dComp (iSeq (dCall m_law_asked (dCons (dVar 0) (dCons (dVar 2) (dNil))))) (gName 7) (tAnd (tOf (d2 neM (dAny 7) (dAny 4))) (tOf (d2 inM (dAny 7) (dCall m_law_asked (dCons (dVar 0) (dCons (dVar 6) (dNil))))))) (dTup (dCons (dVar 2) (dCons (dVar 6) (dCons (dVar 7) (dNil))))) [7])) (gName 1)))
    (fun k ρ => ∃ (ts : List (Nat × Nat × Int)) (s2 s3 s4 s5 s6 : Slot), ρ = [Slot.sh (partsD p), .sh (.lst (ts.map trD)), s2, s3, s4, s5, s6, .no] ∧ (∀ q ∈ ts, IsTri p q) ∧ ts.length ≤ k * 300) (xs := enumFrom 0 (p.arcs.map arD)) (ρ := [Slot.sh (partsD p), .sh (.lst []), .no, .no, .no, .no, .no, .no]) 0 ⟨[], _, _, _, _, _, rfl, fun q hq => (by cases hq), by simp⟩ (by
    rintro i x ρ hx ⟨ts, s2, s3, s4, s5, s6, rfl, al, hl⟩
    obtain ⟨i', a, ha, rfl⟩ := enum_arc (List.mem_of_getElem? hx)
    have hi : i < p.arcs.length := by
      have := (List.getElem?_eq_some_iff.mp hx).1
      rwa [enumFrom_len, List.length_map] at this
    obtain ⟨ρ', h1, ts', s6', rfl, h2, h3⟩ := tri1 (s6 := s6) ok ha al (by omega)
    refine ⟨[Slot.sh (partsD p), .sh (.lst (ts'.map trD)), .sh (.int i'), .sh (.int a.1), .sh (.int a.2.1), .sh (.int a.2.2), s6', .no], ?_, ts', _, _, _, _, _, rfl, h2, by omega⟩
    have ho := out_ok (h := a.2.1) (.tup (p.arcs.map arD))
    have i4 : itemM (partsD p) (.int 4) = pure (.tup (p.arcs.map arD)) := by simp [partsD]
    rw [arD]
    simp [i4, ho, h1])
  refine ⟨ts, ?_, h2, by rw [enumFrom_len, List.length_map] at h3; omega⟩
  show run 8 1 _ _ = _
  rw [ev_run (by rfl)]
  have i4 : itemM (partsD p) (.int 4) = pure (.tup (p.arcs.map arD)) := by simp [partsD]
  simp [i4, h1]
end
end K47
end
section
/-! K47X: what is refused. -/
set_option autoImplicit false
set_option linter.all false
set_option maxRecDepth 10000
set_option maxHeartbeats 4000000
namespace K47
open PySem (Str)
open DL
theorem caught_of {cs : List Nat} {b : XE} {ρ : Env} {c : Nat} {fs : List D} (h : b (hide ρ) = M.raise c fs) (hc : c ∈ cs) : dCaught cs b ρ = pure (.exc c fs) := by
  funext Q
  show b (hide ρ) _ = _
  rw [h]
  show (c ∈ cs ∧ Q (.ok (.exc c fs))) = Q (.ok (.exc c fs))
  exact propext ⟨fun h => h.2, fun h => ⟨hc, h⟩⟩
theorem caught_tot {α : Type} {cs : List Nat} {b : XE} {ρ : Env} {c : Nat} {fs : List D} {m : M α} {f : α → M D} {Q : α → Prop} (e : b (hide ρ) = (m >>= f)) (h : Tot m Q) (hf : ∀ a, Q a → f a = M.raise c fs) (hc : c ∈ cs) : Tot (dCaught cs b ρ) fun d => d = .exc c fs := by
  intro W hW
  show b (hide ρ) _
  rw [e]
  refine h _ fun a ha => ?_
  show f a _
  rw [hf a ha]
  exact ⟨hc, hW _ rfl⟩
theorem okD_str {n : Nat} {x : Str} : okD n (.str x) = x.cps.all (· < 0x110000) := by cases n <;> rfl
section
variable {p : Pts} {t g : Nat} {a b : Ar} {s : Int} {x y z d : D}
theorem is_arc11 : m_law_is [.exc 11 [.non], .str "BadArc", .non] = pure (.bl true) := by
  show run 6 3 _ _ = _
  rw [ev_run (by rfl)]
  have h1 : isM csL [.cls 11] (.exc 11 [.non]) = pure (.bl true) := isM_of (by rfl)
  have h2 : isM csL [.cls 10] (.exc 11 [.non]) = pure (.bl false) := isM_of (by rfl)
  have h3 : isM csL [.cls 12] (.exc 11 [.non]) = pure (.bl false) := isM_of (by rfl)
  have h4 : eqM (.lst [.str "BadArc"]) (.lst [.str "BadArc"]) = pure (.bl true) := by
    show (M.need _ >>= fun _ => _) = _
    rw [need_bnd ⟨by rw [okD_lst, okL_cons, okL_nil, okD_str]; decide +kernel, by rw [okD_lst, okL_cons, okL_nil, okD_str]; decide +kernel⟩]
    simp [eqv, eqvL]
  have h5 : fldX cx_index (.exc 11 [.non]) = pure .non := by
    show (M.need _ >>= fun _ => _) = _
    rw [need_bnd (by decide)]
  simp [h1, h2, h3, compL_0, compL_1, h4, h5, same_non]
theorem is_house10 : m_law_is [.exc 10 [.non], .str "BadHouse", .non] = pure (.bl true) := by
  show run 6 3 _ _ = _
  rw [ev_run (by rfl)]
  have h1 : isM csL [.cls 11] (.exc 10 [.non]) = pure (.bl false) := isM_of (by rfl)
  have h2 : isM csL [.cls 10] (.exc 10 [.non]) = pure (.bl true) := isM_of (by rfl)
  have h3 : isM csL [.cls 12] (.exc 10 [.non]) = pure (.bl false) := isM_of (by rfl)
  have h4 : eqM (.lst [.str "BadHouse"]) (.lst [.str "BadHouse"]) = pure (.bl true) := by
    show (M.need _ >>= fun _ => _) = _
    rw [need_bnd ⟨by rw [okD_lst, okL_cons, okL_nil, okD_str]; decide +kernel, by rw [okD_lst, okL_cons, okL_nil, okD_str]; decide +kernel⟩]
    simp [eqv, eqvL]
  have h5 : fldX cx_index (.exc 10 [.non]) = pure .non := by
    show (M.need _ >>= fun _ => _) = _
    rw [need_bnd (by decide)]
  simp [h1, h2, h3, compL_0, compL_1, h4, h5, same_non]
theorem is_seals12 : m_law_is [.exc 12 [.non], .str "BadSeals", .non] = pure (.bl true) := by
  show run 6 3 _ _ = _
  rw [ev_run (by rfl)]
  have h1 : isM csL [.cls 11] (.exc 12 [.non]) = pure (.bl false) := isM_of (by rfl)
  have h2 : isM csL [.cls 10] (.exc 12 [.non]) = pure (.bl false) := isM_of (by rfl)
  have h3 : isM csL [.cls 12] (.exc 12 [.non]) = pure (.bl true) := isM_of (by rfl)
  have h4 : eqM (.lst [.str "BadSeals"]) (.lst [.str "BadSeals"]) = pure (.bl true) := by
    show (M.need _ >>= fun _ => _) = _
    rw [need_bnd ⟨by rw [okD_lst, okL_cons, okL_nil, okD_str]; decide +kernel, by rw [okD_lst, okL_cons, okL_nil, okD_str]; decide +kernel⟩]
    simp [eqv, eqvL]
  have h5 : fldX cx_index (.exc 12 [.non]) = pure .non := by
    show (M.need _ >>= fun _ => _) = _
    rw [need_bnd (by decide)]
  simp [h1, h2, h3, compL_0, compL_1, h4, h5, same_non]
theorem bound_no0 (h : tyD csL d = true) (h2 : isKd csL d (.cls 13) = false) : m_bound [d, x, y, z] = M.raise 2 [] := by
  show run 4 4 _ _ = _
  rw [ev_run (by rfl)]
  simp [need_deal_no h h2]
theorem bound_no1 (h : m_is_between [x, .int 0, .int ((p.arcs.length : Int) - 1)] = pure (.bl false)) : m_bound [dealD p, x, y, z] = M.raise 11 [.non] := by
  show run 4 4 _ _ = _
  rw [ev_run (by rfl)]
  simp [need_deal_ok, need_arc_no h]
theorem bound_no2 (ht : t < p.arcs.length) (h : m_is_between [y, .int 0, .int ((p.arcs.length : Int) - 1)] = pure (.bl false)) : m_bound [dealD p, .int t, y, z] = M.raise 11 [.non] := by
  have h1 : m_need_given [dealD p, .int t, y] = M.raise 11 [.non] := by
    show run 3 3 _ _ = _
    rw [ev_run (by rfl)]
    simp [need_arc_no h]
  show run 4 4 _ _ = _
  rw [ev_run (by rfl)]
  simp [need_deal_ok, need_arc_ok ht, h1]
theorem bound_no3 (ha : p.arcs[t]? = some a) (hb : p.arcs[g]? = some b) (h : b.1 ≠ a.2.1) : m_bound [dealD p, .int t, .int g, z] = M.raise 11 [.non] := by
  have ht := (List.getElem?_eq_some_iff.mp ha).1
  have hg := (List.getElem?_eq_some_iff.mp hb).1
  have h1 : m_need_given [dealD p, .int t, .int g] = M.raise 11 [.non] := by
    show run 3 3 _ _ = _
    rw [ev_run (by rfl)]
    simp [need_arc_ok hg, giver_of_ok hb, taker_of_ok ha, h]
  show run 4 4 _ _ = _
  rw [ev_run (by rfl)]
  simp [need_deal_ok, need_arc_ok ht, h1]
theorem need_given_ok (ha : p.arcs[t]? = some a) (hb : p.arcs[g]? = some b) (h : b.1 = a.2.1) : m_need_given [dealD p, .int t, .int g] = pure .non := by
  have hg := (List.getElem?_eq_some_iff.mp hb).1
  show run 3 3 _ _ = _
  rw [ev_run (by rfl)]
  simp [need_arc_ok hg, giver_of_ok hb, taker_of_ok ha, h]
theorem bound_no4 (ha : p.arcs[t]? = some a) (hb : p.arcs[g]? = some b) (h : b.1 = a.2.1) (hz : m_is_between [z, .int 0, .int (p.h - 1)] = pure (.bl false)) : m_bound [dealD p, .int t, .int g, z] = M.raise 10 [.non] := by
  have ht := (List.getElem?_eq_some_iff.mp ha).1
  have h1 : m_need_handed [dealD p, .int t, .int g, z] = M.raise 10 [.non] := by
    show run 4 4 _ _ = _
    rw [ev_run (by rfl)]
    simp [hz]
  show run 4 4 _ _ = _
  rw [ev_run (by rfl)]
  simp [need_deal_ok, need_arc_ok ht, need_given_ok ha hb h, h1]
theorem bound_no5 (ok : p.Ok) (ha : p.arcs[t]? = some a) (hb : p.arcs[g]? = some b) (h : b.1 = a.2.1) (s0 : 0 ≤ s) (s1 : s < p.h) (hn : ¬ (s ∈ askL p t ∧ s ∈ askL p g ∧ s ≠ a.2.1)) : m_bound [dealD p, .int t, .int g, .int s] = M.raise 10 [.non] := by
  have ht := (List.getElem?_eq_some_iff.mp ha).1
  have hg := (List.getElem?_eq_some_iff.mp hb).1
  have hlt : t < p.locks.length := by rw [ok.ll]; exact ht
  have hlg : g < p.locks.length := by rw [ok.ll]; exact hg
  have d1 := does_ask_ok (h := s) hlt
  have d2 := does_ask_ok (h := s) hlg
  have h1 : m_need_handed [dealD p, .int t, .int g, .int s] = M.raise 10 [.non] := by
    show run 4 4 _ _ = _
    rw [ev_run (by rfl)]
    by_cases q : s = a.2.1
    · subst q
      simp [s0, show a.2.1 ≤ p.h - 1 by omega, taker_of_ok ha]
    · by_cases q1 : s ∈ askL p t
      · have q2 : s ∉ askL p g := fun z => hn ⟨q1, z, q⟩
        rw [ent_none q2] at d2
        obtain ⟨e, he⟩ := ent_of q1
        rw [he] at d1
        simp [s0, show s ≤ p.h - 1 by omega, taker_of_ok ha, q, d1, d2]
      · rw [ent_none q1] at d1
        simp [s0, show s ≤ p.h - 1 by omega, taker_of_ok ha, q, d1]
  show run 4 4 _ _ = _
  rw [ev_run (by rfl)]
  simp [need_deal_ok, need_arc_ok ht, need_given_ok ha hb h, h1]
end
end K47
end
section
/-! K47Y: refused, limits. -/
set_option autoImplicit false
set_option linter.all false
set_option maxRecDepth 10000
set_option maxHeartbeats 4000000
namespace K47
open PySem (Str)
open DL
section
variable {p : Pts}
theorem last_no {i : Nat} {x : D} (ok : p.Ok) (hi : i < p.arcs.length) (h : m_is_between [x, .int 1, .int p.h] = pure (.bl false)) : m_last_tick [dealD p, .int i, .int 0, x] = M.raise 12 [.non] := by
  have h2 := ok.h2
  show run 4 4 _ _ = _
  rw [ev_run (by rfl)]
  simp [need_deal_ok, need_arc_ok hi, need_house_ok (p := p) (h := 0) (by omega) (by omega), h]
theorem limits_ok (ok : p.Ok) : Tot (m_law_limits_right [.st, partsD p, dealD p]) fun r => r = .bl true := by
  have ha24 := ok.a24
  have h2 := ok.h2
  have h0 := len_pos ok.a0
  show Tot (run 5 3 _ _) _
  rw [ev_run (by rfl)]
  have i4 : itemM (partsD p) (.int 4) = pure (.tup (p.arcs.map arD)) := by simp [partsD]
  have i0 : itemM (partsD p) (.int 0) = pure (.int p.h) := by simp [partsD]
  simp [i4]
  refine Tot.drawB (by omega) (by omega) fun z z0 z1 => ?_
  obtain ⟨k, rfl⟩ : ∃ k : Nat, z = k := ⟨z.toNat, by omega⟩
  have hk : k < p.arcs.length := by omega
  obtain ⟨ρ', h1, s4, rfl⟩ := forL_pure (g := gName 4) (b := sIf (tNot (tOf (dCall m_law_is (dCons (dCaught cxAll (dCall m_last_tick (dCons (dVar 2) (dCons (dVar 3) (dCons (dC (.int 0)) (dCons (dVar 4) (dNil))))))) (dCons (dC (.str "BadSeals")) (dCons (dC .non) (dNil)))))))
    (sRet (dC (.bl false)))
    (sNext)) (fun ρ => ∃ s4, ρ = [Slot.sh .st, .sh (partsD p), .sh (dealD p), .sh (.int k), s4]) (xs := [.int 0, .int (p.h + 1), .non, .bl true]) (ρ := [Slot.sh .st, .sh (partsD p), .sh (dealD p), .sh (.int k), .no]) ⟨_, rfl⟩ (by
    rintro x hx ρ ⟨s4, rfl⟩
    refine ⟨[Slot.sh .st, .sh (partsD p), .sh (dealD p), .sh (.int k), .sh x], ?_, _, rfl⟩
    have hb : m_is_between [x, .int 1, .int p.h] = pure (.bl false) := by
      simp only [List.mem_cons, List.not_mem_nil, or_false] at hx
      rcases hx with rfl | rfl | rfl | rfl
      · simp
      · simp [show ¬ p.h + 1 ≤ p.h by omega]
      · exact is_between_no rfl (fun j z => by cases z)
      · exact is_between_no rfl (fun j z => by cases z)
    have hc : dCaught cxAll (dCall m_last_tick (dCons (dVar 2) (dCons (dVar 3) (dCons (dC (.int 0)) (dCons (dVar 4) (dNil)))))) [Slot.sh .st, .sh (partsD p), .sh (dealD p), .sh (.int k), .sh x] = pure (.exc 12 [.non]) := caught_of (by simp [last_no ok hk hb]) (by decide)
    simp [hc, is_seals12])
  simp [i0, h1]
  exact .pure rfl
theorem refused_ok (ok : p.Ok) : Tot (m_law_refused [.st, partsD p, dealD p]) fun r => r = .bl true := by
  have ha24 := ok.a24
  have h2 := ok.h2
  have h12 := ok.h12
  have h0 := len_pos ok.a0
  show Tot (run 13 3 _ _) _
  rw [ev_run (by rfl)]
  have i4 : itemM (partsD p) (.int 4) = pure (.tup (p.arcs.map arD)) := by simp [partsD]
  have i0 : itemM (partsD p) (.int 0) = pure (.int p.h) := by simp [partsD]
  simp [i4]
  refine (pick_ok (.lst _) (by simp) (by simp)).bnd ?_
  intro none hnone
  have hn : tyD csL none = true ∧ isKd csL none (.cls 13) = false := by
    simp only [List.mem_cons, List.not_mem_nil, or_false] at hnone
    rcases hnone with rfl | rfl | rfl
    · exact ⟨rfl, rfl⟩
    · exact ⟨rfl, rfl⟩
    · exact ⟨rfl, rfl⟩
  refine (pick_ok (.lst _) (by simp) (by simp)).bnd ?_
  intro bad hbad
  have hb : m_is_between [bad, .int 0, .int ((p.arcs.length : Int) - 1)] = pure (.bl false) := by
    simp only [List.mem_cons, List.not_mem_nil, or_false] at hbad
    rcases hbad with rfl | rfl | rfl | rfl | rfl | rfl
    · simp
    · simp [show ¬ (p.arcs.length : Int) ≤ p.arcs.length - 1 by omega]
    · exact is_between_no rfl (fun j z => by cases z)
    · exact is_between_no rfl (fun j z => by cases z)
    · exact is_between_no rfl (fun j z => by cases z)
    · exact is_between_no rfl (fun j z => by cases z)
  refine Tot.drawB (by omega) (by omega) fun z z0 z1 => ?_
  obtain ⟨t, rfl⟩ : ∃ k : Nat, z = k := ⟨z.toNat, by omega⟩
  have ht : t < p.arcs.length := by omega
  obtain ⟨a, ha⟩ : ∃ a, p.arcs[t]? = some a := ⟨_, List.getElem?_eq_getElem ht⟩
  have it : itemM (.tup (p.arcs.map arD)) (.int t) = pure (arD a) := by rw [item_tup, atD_arcs ha, get_some]
  have it1 : itemM (arD a) (.int 1) = pure (.int a.2.1) := by simp [arD]
  have c1 : dCaught cxAll (dCall m_bound (dCons (dVar 3) (dCons (dVar 4) (dCons (dVar 4) (dCons (dVar 4) (dNil)))))) [Slot.sh .st, .sh (partsD p), .sh (dealD p), .sh none, .sh bad, .sh (.int t), .sh (.int a.2.1), .no, .no, .no, .no, .no, .no] = pure (.exc 2 []) := caught_of (by simp [bound_no0 hn.1 hn.2]) (by decide)
  have c2 : dCaught cxAll (dCall m_bound (dCons (dVar 2) (dCons (dVar 4) (dCons (dVar 4) (dCons (dVar 4) (dNil)))))) [Slot.sh .st, .sh (partsD p), .sh (dealD p), .sh none, .sh bad, .sh (.int t), .sh (.int a.2.1), .no, .no, .no, .no, .no, .no] = pure (.exc 11 [.non]) := caught_of (by simp [bound_no1 hb]) (by decide)
  have e2 : isM csL [.cls 2] (.exc 2 []) = pure (.bl true) := isM_of (by rfl)
  have ho : compL (gName 11) (tOf (d2 neM (d2 itemM (d2 itemM (d2 itemM (dAny 1) (dC (.int 4))) (dAny 11)) (dC (.int 0))) (dAny 6))) (dVar 11) [Slot.sh .st, .sh (partsD p), .sh (dealD p), .sh none, .sh bad, .sh (.int t), .sh (.int a.2.1), .no, .no, .no, .no, .no, .no] (rangeL 0 p.arcs.length) = pure ((rangeL 0 p.arcs.length).filter fun x => match x with | .int z => (p.arcs[z.toNat]?).any fun b => decide (b.1 ≠ a.2.1) | _ => false) := by
    rw [compL_pure (fun x => [Slot.sh .st, .sh (partsD p), .sh (dealD p), .sh none, .sh bad, .sh (.int t), .sh (.int a.2.1), .no, .no, .no, .no, .sh x, .no]) (fun x => match x with | .int z => (p.arcs[z.toNat]?).any fun b => decide (b.1 ≠ a.2.1) | _ => false) id (fun x hx => by
      obtain ⟨z, rfl, z0, z1⟩ := rangeL_mem hx
      obtain ⟨k, rfl⟩ : ∃ k : Nat, z = k := ⟨z.toNat, by omega⟩
      obtain ⟨b, hb⟩ : ∃ b, p.arcs[k]? = some b := ⟨_, List.getElem?_eq_getElem (by omega)⟩
      have ib : itemM (.tup (p.arcs.map arD)) (.int k) = pure (arD b) := by rw [item_tup, atD_arcs hb, get_some]
      have ib0 : itemM (arD b) (.int 0) = pure (.int b.1) := by simp [arD]
      refine ⟨by simp, ?_, fun _ => by simp⟩
      show _ = pure ((p.arcs[(k : Int).toNat]?).any fun b => decide (b.1 ≠ a.2.1))
      rw [Int.toNat_natCast, hb]
      simp [i4, ib, ib0, -item_tup])]
    rw [List.map_id]
  obtain ⟨O, hO⟩ : ∃ O, O = (rangeL 0 p.arcs.length).filter fun x => match x with | .int z => (p.arcs[z.toNat]?).any fun b => decide (b.1 ≠ a.2.1) | _ => false := ⟨_, rfl⟩
  have hOl : O.length ≤ 24 := by
    have := List.length_filter_le (fun x => match x with | .int z => (p.arcs[z.toNat]?).any fun b => decide (b.1 ≠ a.2.1) | _ => false) (rangeL 0 p.arcs.length)
    rw [rangeL_len] at this
    rw [hO]
    omega
  have hOm : ∀ x ∈ O, ∃ (g : Nat) (b : Ar), x = .int g ∧ p.arcs[g]? = some b ∧ b.1 ≠ a.2.1 := fun x hx => by
    rw [hO] at hx
    obtain ⟨x1, x2⟩ := List.mem_filter.mp hx
    obtain ⟨z, rfl, z0, z1⟩ := rangeL_mem x1
    obtain ⟨k, rfl⟩ : ∃ k : Nat, z = k := ⟨z.toNat, by omega⟩
    obtain ⟨b, hb⟩ : ∃ b, p.arcs[k]? = some b := ⟨_, List.getElem?_eq_getElem (by omega)⟩
    refine ⟨k, b, rfl, hb, ?_⟩
    change ((p.arcs[(k : Int).toNat]?).any fun b => decide (b.1 ≠ a.2.1)) = true at x2
    rw [Int.toNat_natCast, hb] at x2
    simpa using x2
  rw [← hO] at ho
  have hr := range1_ok (j := (p.arcs.length : Int)) (by omega) (by omega)
  have hadd : addM (.lst O) (.lst [bad]) = pure (.lst (O ++ [bad])) := add_lst (by simp; omega)
  have c3 : Tot (dCaught cxAll (dCall m_bound (dCons (dVar 2) (dCons (dVar 5) (dCons (dCall m_law_pick (dCons (dVar 0) (dCons (d2 addM (dAny 7) (dLst (dCons (dVar 4) (dNil)))) (dNil)))) (dCons (dVar 4) (dNil)))))) [Slot.sh .st, .sh (partsD p), .sh (dealD p), .sh none, .sh bad, .sh (.int t), .sh (.int a.2.1), .sh (.lst O), .no, .no, .no, .no, .no]) fun d => d = .exc 11 [.non] := by
    refine caught_tot (m := m_law_pick [.st, .lst (O ++ [bad])]) (f := fun y => m_bound [dealD p, .int t, y, bad]) (by simp [hadd]) (pick_ok (.lst _) (by simp) (by rw [List.length_append]; simp; omega)) (fun y hy => ?_) (by decide)
    rcases List.mem_append.mp hy with q | q
    · obtain ⟨g, b, rfl, hb, hne⟩ := hOm y q
      exact bound_no3 ha hb hne
    · rw [List.mem_singleton.mp q]
      exact bound_no2 ht hb
  simp [it, it1, c1, e2, c2, is_arc11, i4, hr, ho, -item_tup]
  refine c3.bnd ?_
  rintro _ rfl
  have hou := out_ok (h := a.2.1) (.tup (p.arcs.map arD))
  simp [is_arc11, i4, hou, -item_tup]
  have hlt : t < p.locks.length := by rw [ok.ll]; exact ht
  refine (Tot.for (fun _ ρ => ∃ s8 s9 s10 : Slot, ρ = [Slot.sh .st, .sh (partsD p), .sh (dealD p), .sh none, .sh bad, .sh (.int t), .sh (.int a.2.1), .sh (.lst O), s8, s9, s10, .no, .no]) 0 ⟨_, _, _, rfl⟩ ?_).bnd ?_
  · rintro i x ρ hx ⟨s8, s9, s10, rfl⟩
    obtain ⟨z, hz, rfl⟩ := List.mem_map.mp (List.mem_of_getElem? hx)
    obtain ⟨g, b, hb, hb2, rfl⟩ := idxs_mem hz
    rw [Nat.zero_add]
    have hab : b.1 = a.2.1 := by simpa using hb2
    have hlg : g < p.locks.length := by rw [ok.ll]; exact (List.getElem?_eq_some_iff.mp hb).1
    have h1 := asked_ok hlt
    have h2' := asked_ok hlg
    have tl := asked_len ok hlt
    have hc : compL (gName 12) (tAnd (tOf (d2 inM (dAny 12) (dCall m_law_asked (dCons (dVar 1) (dCons (dVar 8) (dNil)))))) (tOf (d2 neM (dAny 12) (dAny 6)))) (dVar 12) [Slot.sh .st, .sh (partsD p), .sh (dealD p), .sh none, .sh bad, .sh (.int t), .sh (.int a.2.1), .sh (.lst O), .sh (.int g), s9, s10, .no, .no] ((askL p t).map D.int) = pure (((askL p t).filter fun x => decide (x ∈ askL p g) && decide (x ≠ a.2.1)).map D.int) := by
      rw [compL_pure (fun x => [Slot.sh .st, .sh (partsD p), .sh (dealD p), .sh none, .sh bad, .sh (.int t), .sh (.int a.2.1), .sh (.lst O), .sh (.int g), s9, s10, .no, .sh x]) (fun x => match x with | .int x => decide (x ∈ askL p g) && decide (x ≠ a.2.1) | _ => false) id (fun x hx => by
        obtain ⟨y, _, rfl⟩ := List.mem_map.mp hx
        have hn := in_ints (x := y) (xs := askL p g)
        refine ⟨by simp, ?_, fun _ => by simp⟩
        by_cases q : y ∈ askL p g
        · simp [h2', hn, q]
        · simp [h2', hn, q])]
      rw [List.filter_map, List.map_id]
      rfl
    obtain ⟨BO, hBO⟩ : ∃ BO, BO = (askL p t).filter fun x => decide (x ∈ askL p g) && decide (x ≠ a.2.1) := ⟨_, rfl⟩
    have hBm : ∀ x, x ∉ BO → ¬ (x ∈ askL p t ∧ x ∈ askL p g ∧ x ≠ a.2.1) := fun x hx hn => hx (by
      rw [hBO]
      exact List.mem_filter.mpr ⟨hn.1, by simp [hn.2.1, hn.2.2]⟩)
    rw [← hBO] at hc
    have hc2 : compL (gName 12) (tOf (d2 ninM (dAny 12) (dAny 9))) (dVar 12) [Slot.sh .st, .sh (partsD p), .sh (dealD p), .sh none, .sh bad, .sh (.int t), .sh (.int a.2.1), .sh (.lst O), .sh (.int g), .sh (.lst (BO.map D.int)), s10, .no, .no] (rangeL 0 p.h) = pure ((rangeL 0 p.h).filter fun x => match x with | .int x => !decide (x ∈ BO) | _ => false) := by
      rw [compL_pure (fun x => [Slot.sh .st, .sh (partsD p), .sh (dealD p), .sh none, .sh bad, .sh (.int t), .sh (.int a.2.1), .sh (.lst O), .sh (.int g), .sh (.lst (BO.map D.int)), s10, .no, .sh x]) (fun x => match x with | .int x => !decide (x ∈ BO) | _ => false) id (fun x hx => by
        obtain ⟨y, rfl, _⟩ := rangeL_mem hx
        have hn := nin_ints (x := y) (xs := BO)
        refine ⟨by simp, by simp [hn], fun _ => by simp⟩)]
      rw [List.map_id]
    obtain ⟨WR, hWR⟩ : ∃ WR, WR = (rangeL 0 p.h).filter fun x => match x with | .int x => !decide (x ∈ BO) | _ => false := ⟨_, rfl⟩
    have hWl : WR.length ≤ 12 := by
      have := List.length_filter_le (fun x => match x with | .int x => !decide (x ∈ BO) | _ => false) (rangeL 0 p.h)
      rw [rangeL_len] at this
      rw [hWR]
      omega
    have hWm : ∀ x ∈ WR, ∃ s : Int, x = .int s ∧ 0 ≤ s ∧ s < p.h ∧ s ∉ BO := fun x hx => by
      rw [hWR] at hx
      obtain ⟨x1, x2⟩ := List.mem_filter.mp hx
      obtain ⟨z, rfl, z0, z1⟩ := rangeL_mem x1
      exact ⟨z, rfl, z0, z1, by simpa using x2⟩
    rw [← hWR] at hc2
    have hrh := range1_ok (j := p.h) (by omega) (by omega)
    have hadd : addM (.lst WR) (.lst [.int (-1), .int p.h, .non, .bl true]) = pure (.lst (WR ++ [.int (-1), .int p.h, .non, .bl true])) := add_lst (by simp; omega)
    have c4 : Tot (dCaught cxAll (dCall m_bound (dCons (dVar 2) (dCons (dVar 5) (dCons (dVar 8) (dCons (dCall m_law_pick (dCons (dVar 0) (dCons (dVar 10) (dNil)))) (dNil)))))) [Slot.sh .st, .sh (partsD p), .sh (dealD p), .sh none, .sh bad, .sh (.int t), .sh (.int a.2.1), .sh (.lst O), .sh (.int g), .sh (.lst (BO.map D.int)), .sh (.lst (WR ++ [.int (-1), .int p.h, .non, .bl true])), .no, .no]) fun d => d = .exc 10 [.non] := by
      refine caught_tot (m := m_law_pick [.st, .lst (WR ++ [.int (-1), .int p.h, .non, .bl true])]) (f := fun y => m_bound [dealD p, .int t, .int g, y]) (by simp) (pick_ok (.lst _) (by simp) (by rw [List.length_append]; simp; omega)) (fun y hy => ?_) (by decide)
      rcases List.mem_append.mp hy with q | q
      · obtain ⟨s, rfl, s0, s1, s2⟩ := hWm y q
        exact bound_no5 ok ha hb hab s0 s1 (hBm s s2)
      · refine bound_no4 ha hb hab ?_
        simp only [List.mem_cons, List.not_mem_nil, or_false] at q
        rcases q with rfl | rfl | rfl | rfl
        · simp
        · simp [show ¬ p.h ≤ p.h - 1 by omega]
        · exact is_between_no rfl (fun j z => by cases z)
        · exact is_between_no rfl (fun j z => by cases z)
    simp [h1, hc, i0, hrh, hc2, hadd]
    refine c4.bnd ?_
    rintro _ rfl
    simp [is_house10]
    exact .pure ⟨_, rfl, _, _, _, rfl⟩
  · rintro f ⟨_, rfl, s8, s9, s10, rfl⟩
    simp
    exact .pure rfl
end
end K47
end
section
/-! K47Z: the law. -/
set_option autoImplicit false
set_option linter.all false
set_option maxRecDepth 10000
set_option maxHeartbeats 4000000
namespace K47
open PySem (Str)
open DL
/-! ### the known deal -/
def kp (i o : Int) : Pts := ⟨4, [2], 0, 5, [(0, 1, 0), (1, 2, 0), (2, 0, 0), (2, 1, 0)], [[], [], [], []], [[(3, 0, i)], [(3, 0, o)], [(3, 0, 0)], [(3, 0, 1)]]⟩
theorem kp_ok {i o : Int} (i0 : 0 ≤ i) (i1 : i ≤ 1) (o0 : 0 ≤ o) (o1 : o ≤ 1) : (kp i o).Ok where
  h2 := by show (2 : Int) ≤ 4; omega
  h12 := by show (4 : Int) ≤ 12; omega
  lg0 := by simp [kp]
  lg4 := by simp [kp]
  lg := by simp [kp]
  s0 := by simp [kp]
  s1 := by simp [kp]
  g0 := by simp [kp]
  g1 := by simp [kp]
  a0 := by simp [kp]
  a24 := by simp [kp]
  ar := by simp [kp]
  wl := by simp [kp]
  wt := fun j w hw => by
    have : w ∈ [([] : List Int), [], [], []] := List.mem_of_getElem? hw
    have : w = [] := by simpa using this
    subst this
    exact ⟨List.Pairwise.nil, by simp, fun x hx => by cases hx⟩
  ll := by simp [kp]
  lk := fun l hl => by
    have hl : l = [(3, 0, i)] ∨ l = [(3, 0, o)] ∨ l = [(3, 0, 0)] ∨ l = [(3, 0, 1)] := by simpa [kp] using hl
    have key : ∀ c : Int, 0 ≤ c → c ≤ 1 → ([(3, 0, c)] : List Ar) ≠ [] ∧ (([(3, 0, c)] : List Ar).length : Int) ≤ (kp i o).h ∧ Rise (([(3, 0, c)] : List Ar).map (·.1)) ∧ ∀ e ∈ ([(3, 0, c)] : List Ar), 0 ≤ e.1 ∧ e.1 < (kp i o).h ∧ (kp i o).start ≤ e.2.1 ∧ e.2.1 ≤ 1000000000 ∧ 0 ≤ e.2.2 ∧ e.2.2 ≤ 1 := fun c c0 c1 => by
      refine ⟨by simp, by simp [kp], List.pairwise_singleton _ _, fun e he => ?_⟩
      rw [List.mem_singleton.mp he]
      exact ⟨by simp, by simp [kp], by simp [kp], by simp, c0, c1⟩
    rcases hl with rfl | rfl | rfl | rfl
    · exact key i i0 i1
    · exact key o o0 o1
    · exact key 0 (by omega) (by omega)
    · exact key 1 (by omega) (by omega)
def kArcs : D := .lst [.tup [.int 0, .int 1, .int 0], .tup [.int 1, .int 2, .int 0], .tup [.int 2, .int 0, .int 0], .tup [.int 2, .int 1, .int 0]]
def kWaits : D := .lst [.lst [], .lst [], .lst [], .lst []]
def kLocks (i o : Int) : D := .lst [.lst [.tup [.int 3, .int 0, .int i]], .lst [.tup [.int 3, .int 0, .int o]], .lst [.tup [.int 3, .int 0, .int 0]], .lst [.tup [.int 3, .int 0, .int 1]]]
theorem kp_made {i o : Int} (i0 : 0 ≤ i) (i1 : i ≤ 1) (o0 : 0 ≤ o) (o1 : o ≤ 1) : mk_Deal [.int 4, .lst [.int 2], .int 0, .int 5, kArcs, kWaits, kLocks i o] = pure (dealD (kp i o)) :=
  make_ok (kp_ok i0 i1 o0 o1) (dl := .lst [.int 2]) (da := kArcs) (dw := kWaits) (dk := kLocks i o) (.lst _) (.lst _) (.lst _) (.cons (.lst _) (.cons (.lst _) (.cons (.lst _) (.cons (.lst _) .nil)))) (.lst _) (.cons (.lst _) (.cons (.lst _) (.cons (.lst _) (.cons (.lst _) .nil))))
theorem kp_bound {i o m : Int} (i0 : 0 ≤ i) (i1 : i ≤ 1) (o0 : 0 ≤ o) (o1 : o ≤ 1) (hm : maxL ((lens 4 (1, 2, 0) 3).map (Fx 5 (3, 0, i) (3, 0, o))) = some m) : m_bound [dealD (kp i o), .int 0, .int 1, .int 3] = pure (.int (m + 2)) :=
  bound_ok (t := 0) (g := 1) (kp_ok i0 i1 o0 o1) ⟨rfl, rfl, rfl, by decide, rfl, rfl, hm, rfl⟩
/-! ### the beginning -/
theorem pow_ok : powM (.int 10) (.int 18) = pure (.int 1000000000000000000) := by
  show (M.need _ >>= fun _ => _) = _
  rw [need_bnd ⟨by decide, by decide, by decide⟩]
  rfl
end K47
end
section
/-! K47ZA: the law, whole. -/
set_option autoImplicit false
set_option linter.all false
set_option maxRecDepth 10000
set_option maxHeartbeats 4000000
namespace K47
open PySem (Str)
open DL
theorem law_known {A B s2 s3 s4 s5 s6 : Slot} : ∃ ρ', forL (gTup 3 (gsCons (gName 9) (gsCons (gName 10) (gsCons (gName 11) (gsNil)))))
    (sSeq (sAsg (dLst (dCons (dLst (dCons (dTup (dCons (dC (.int 3)) (dCons (dC (.int 0)) (dCons (dVar 9) (dNil))))) (dNil))) (dCons (dLst (dCons (dTup (dCons (dC (.int 3)) (dCons (dC (.int 0)) (dCons (dVar 10) (dNil))))) (dNil))) (dCons (dLst (dCons (dTup (dCons (dC (.int 3)) (dCons (dC (.int 0)) (dCons (dC (.int 0)) (dNil))))) (dNil))) (dCons (dLst (dCons (dTup (dCons (dC (.int 3)) (dCons (dC (.int 0)) (dCons (dC (.int 1)) (dNil))))) (dNil))) (dNil)))))) (gName 12))
    (sIf (tNot (tOf (dCall m_law_same (dCons (dCall m_bound (dCons (dCall mk_Deal (dCons (dC (.int 4)) (dCons (dLst (dCons (dC (.int 2)) (dNil))) (dCons (dC (.int 0)) (dCons (dC (.int 5)) (dCons (dVar 7) (dCons (dVar 8) (dCons (dVar 12) (dNil))))))))) (dCons (dC (.int 0)) (dCons (dC (.int 1)) (dCons (dC (.int 3)) (dNil)))))) (dCons (dVar 11) (dNil))))))
    (sRet (dC (.bl false)))
    (sNext))) [.tup [.int 0, .int 0, .int 2], .tup [.int 1, .int 1, .int (-3)], .tup [.int 1, .int 0, .int (-8)], .tup [.int 0, .int 1, .int 12]]
    [A, B, s2, s3, s4, s5, s6, .sh kArcs, .sh kWaits, .no, .no, .no, .no] = pure (.nx ρ') := by
  obtain ⟨ρ', h, _⟩ := forL_pure (g := gTup 3 (gsCons (gName 9) (gsCons (gName 10) (gsCons (gName 11) (gsNil))))) (b := sSeq (sAsg (dLst (dCons (dLst (dCons (dTup (dCons (dC (.int 3)) (dCons (dC (.int 0)) (dCons (dVar 9) (dNil))))) (dNil))) (dCons (dLst (dCons (dTup (dCons (dC (.int 3)) (dCons (dC (.int 0)) (dCons (dVar 10) (dNil))))) (dNil))) (dCons (dLst (dCons (dTup (dCons (dC (.int 3)) (dCons (dC (.int 0)) (dCons (dC (.int 0)) (dNil))))) (dNil))) (dCons (dLst (dCons (dTup (dCons (dC (.int 3)) (dCons (dC (.int 0)) (dCons (dC (.int 1)) (dNil))))) (dNil))) (dNil)))))) (gName 12))
    (sIf (tNot (tOf (dCall m_law_same (dCons (dCall m_bound (dCons (dCall mk_Deal (dCons (dC (.int 4)) (dCons (dLst (dCons (dC (.int 2)) (dNil))) (dCons (dC (.int 0)) (dCons (dC (.int 5)) (dCons (dVar 7) (dCons (dVar 8) (dCons (dVar 12) (dNil))))))))) (dCons (dC (.int 0)) (dCons (dC (.int 1)) (dCons (dC (.int 3)) (dNil)))))) (dCons (dVar 11) (dNil))))))
    (sRet (dC (.bl false)))
    (sNext))) (fun ρ => ∃ s9 s10 s11 s12, ρ = [A, B, s2, s3, s4, s5, s6, .sh kArcs, .sh kWaits, s9, s10, s11, s12]) (xs := [.tup [.int 0, .int 0, .int 2], .tup [.int 1, .int 1, .int (-3)], .tup [.int 1, .int 0, .int (-8)], .tup [.int 0, .int 1, .int 12]]) (ρ := [A, B, s2, s3, s4, s5, s6, .sh kArcs, .sh kWaits, .no, .no, .no, .no]) ⟨_, _, _, _, rfl⟩ (by
    rintro x hx ρ ⟨s9, s10, s11, s12, rfl⟩
    have key : ∀ i o m d : Int, 0 ≤ i → i ≤ 1 → 0 ≤ o → o ≤ 1 → maxL ((lens 4 (1, 2, 0) 3).map (Fx 5 (3, 0, i) (3, 0, o))) = some m → m + 2 = d → x = .tup [.int i, .int o, .int d] → ∃ ρ', (M.calm (gTup 3 (gsCons (gName 9) (gsCons (gName 10) (gsCons (gName 11) (gsNil)))) x [A, B, s2, s3, s4, s5, s6, .sh kArcs, .sh kWaits, s9, s10, s11, s12]) >>= sSeq (sAsg (dLst (dCons (dLst (dCons (dTup (dCons (dC (.int 3)) (dCons (dC (.int 0)) (dCons (dVar 9) (dNil))))) (dNil))) (dCons (dLst (dCons (dTup (dCons (dC (.int 3)) (dCons (dC (.int 0)) (dCons (dVar 10) (dNil))))) (dNil))) (dCons (dLst (dCons (dTup (dCons (dC (.int 3)) (dCons (dC (.int 0)) (dCons (dC (.int 0)) (dNil))))) (dNil))) (dCons (dLst (dCons (dTup (dCons (dC (.int 3)) (dCons (dC (.int 0)) (dCons (dC (.int 1)) (dNil))))) (dNil))) (dNil)))))) (gName 12))
    (sIf (tNot (tOf (dCall m_law_same (dCons (dCall m_bound (dCons (dCall mk_Deal (dCons (dC (.int 4)) (dCons (dLst (dCons (dC (.int 2)) (dNil))) (dCons (dC (.int 0)) (dCons (dC (.int 5)) (dCons (dVar 7) (dCons (dVar 8) (dCons (dVar 12) (dNil))))))))) (dCons (dC (.int 0)) (dCons (dC (.int 1)) (dCons (dC (.int 3)) (dNil)))))) (dCons (dVar 11) (dNil))))))
    (sRet (dC (.bl false)))
    (sNext))) = pure (.nx ρ') ∧ ∃ s9 s10 s11 s12, ρ' = [A, B, s2, s3, s4, s5, s6, .sh kArcs, .sh kWaits, s9, s10, s11, s12] := fun i o m d i0 i1 o0 o1 hm hd hx => by
      subst hx hd
      refine ⟨[A, B, s2, s3, s4, s5, s6, .sh kArcs, .sh kWaits, .sh (.int i), .sh (.int o), .sh (.int (m + 2)), .sh (kLocks i o)], ?_, _, _, _, _, rfl⟩
      have h1 := kp_made i0 i1 o0 o1
      have h2 := kp_bound i0 i1 o0 o1 hm
      rw [kLocks] at h1 ⊢
      simp [h1, h2, same_int]
    simp only [List.mem_cons, List.not_mem_nil, or_false] at hx
    rcases hx with h | h | h | h
    · exact key 0 0 0 2 (by omega) (by omega) (by omega) (by omega) rfl (by omega) h
    · exact key 1 1 (-5) (-3) (by omega) (by omega) (by omega) (by omega) rfl (by omega) h
    · exact key 1 0 (-10) (-8) (by omega) (by omega) (by omega) (by omega) rfl (by omega) h
    · exact key 0 1 10 12 (by omega) (by omega) (by omega) (by omega) rfl (by omega) h)
  exact ⟨ρ', h⟩
theorem trD_ok (q : Nat × Nat × Int) : okD 63 (trD q) = true := by
  unfold trD
  simp
theorem law_tot {ns : List Int} (hn : ns.length ≤ 63) : Tot (b_law [Slot.sh (.scr ns), .sh .st, .no, .no, .no, .no, .no, .no, .no, .no, .no, .no, .no]) fun f => f = .rt (.bl true) := by
  unfold b_law
  obtain ⟨k, hk⟩ : ∃ k : Int, k = 2 + (if (4 : Int) < ns.length then 4 else (ns.length : Int)) := ⟨_, rfl⟩
  have hk2 : 2 ≤ k ∧ k ≤ 6 := by rw [hk]; split <;> omega
  have hmin : min2M (.int ns.length) (.int 4) = pure (.int (k - 2)) := by
    rw [min2_int, hk]
    congr 2
    omega
  have hlen : lenM (.scr ns) = pure (.int ns.length) := rfl
  simp [hlen, hmin, show 2 + (k - 2) = k by omega, range1_ok (show 0 ≤ k by omega) (by omega), -min2_int]
  refine (Tot.for (fun _ ρ => ∃ s2 s3 s4 s5 s6 : Slot, ρ = [Slot.sh (.scr ns), .sh .st, s2, s3, s4, s5, s6, .no, .no, .no, .no, .no, .no]) 0 ⟨_, _, _, _, _, rfl⟩ ?_).bnd ?_
  · rintro i x ρ hx ⟨s2, s3, s4, s5, s6, rfl⟩
    simp
    refine Tot.drawB (by omega) (by omega) fun z z0 z1 => ?_
    simp
    refine (wish_ok (h := 2 + z) (by omega) (by omega)).bnd ?_
    rintro _ ⟨ls, as, rfl, w⟩
    refine Tot.drawB (by omega) (by omega) fun y y0 y1 => ?_
    simp
    refine Tot.bnd (Q := DealQ) ?_ ?_
    · by_cases q : 0 < y
      · simp [q]
        exact closed_deal_ok w
      · simp [q]
        exact any_deal_ok w
    rintro _ ⟨p, rfl, ok, sm, h6, a8⟩
    obtain ⟨ts, ht, al, tl⟩ := triples_ok ok
    simp [law_made_ok ok, ht]
    refine (shuffled_ok (.lst (ts.map trD)) (by rw [List.length_map]; omega) fun x hx => ?_).bnd ?_
    · obtain ⟨q, _, rfl⟩ := List.mem_map.mp hx
      exact trD_ok q
    rintro _ ⟨ys, rfl, hp⟩
    obtain ⟨us, rfl, hp2⟩ := perm_map hp
    obtain ⟨ρ', h1, t6, rfl⟩ := forL_pure (g := gName 6) (b := sIf (tNot (tOf (dCall m_law_triple_right (dCons (dVar 4) (dCons (dVar 5) (dCons (dVar 6) (dNil))))))) (sRet (dC (.bl false))) sNext) (fun ρ => ∃ t6 : Slot, ρ = [Slot.sh (.scr ns), .sh .st, .sh x, .sh (wshD (2 + z) ls as), .sh (partsD p), .sh (dealD p), t6, .no, .no, .no, .no, .no, .no]) (xs := cutD (us.map trD) none (some 6)) (ρ := [Slot.sh (.scr ns), .sh .st, .sh x, .sh (wshD (2 + z) ls as), .sh (partsD p), .sh (dealD p), s6, .no, .no, .no, .no, .no, .no]) ⟨_, rfl⟩ (by
      rintro v hv ρ ⟨t6, rfl⟩
      obtain ⟨q, hq, rfl⟩ := List.mem_map.mp (cutD_sub.subset hv)
      obtain ⟨a, b, e, f, m, l, T⟩ := al q (hp2.mem_iff.mp hq)
      have hr := triple_ok ok sm T
      refine ⟨[Slot.sh (.scr ns), .sh .st, .sh x, .sh (wshD (2 + z) ls as), .sh (partsD p), .sh (dealD p), .sh (trD q), .no, .no, .no, .no, .no, .no], ?_, _, rfl⟩
      change m_law_triple_right [partsD p, dealD p, trD q] = _ at hr
      simp [hr])
    simp [h1]
    refine (refused_ok ok).bnd ?_
    rintro _ rfl
    simp
    refine (limits_ok ok).bnd ?_
    rintro _ rfl
    simp
    exact .pure ⟨_, rfl, _, _, _, _, _, rfl⟩
  · rintro f ⟨_, rfl, s2, s3, s4, s5, s6, rfl⟩
    obtain ⟨ρ', h1⟩ := law_known (A := .sh (.scr ns)) (B := .sh .st) (s2 := s2) (s3 := s3) (s4 := s4) (s5 := s5) (s6 := s6)
    rw [kArcs, kWaits] at h1
    have n3 : negM (.int 3) = pure (.int (-3)) := rfl
    have n8 : negM (.int 8) = pure (.int (-8)) := rfl
    simp [n3, n8, h1]
    exact .pure rfl
theorem hm : ∀ ns : List Int, ns.length ≤ 63 → b_law ((startE 13 [.scr ns]).set 1 (.sh .st)) fun o => o = .ok (.rt (.bl true)) := fun ns hn => law_tot hn _ fun a h => by rw [h]
/-! ### the beginning -/
theorem hg : BgM 3 dg_begun dc_begun where
  g := fun ns W hn hW => by
    have hc : compL (gName 2) (tOf (d2 geM (dCall (b1 absM) (dCons (dAny 2) (dNil))) (d2 powM (dC (.int 10)) (dC (.int 18))))) (d2 subM (dCall (b1 absM) (dCons (dAny 2) (dNil))) (d2 powM (dC (.int 10)) (dC (.int 18)))) [Slot.sh (.scr ns), .no, .no] (ns.map D.int) = pure (((ns.filter fun z => decide (1000000000000000000 ≤ (if z < 0 then -z else z))).map fun z => (if z < 0 then -z else z) - 1000000000000000000).map D.int) := by
      rw [compL_pure (fun x => [Slot.sh (.scr ns), .no, .sh x]) (fun x => match x with | .int z => decide (1000000000000000000 ≤ (if z < 0 then -z else z)) | _ => false) (fun x => match x with | .int z => .int ((if z < 0 then -z else z) - 1000000000000000000) | _ => .non) (fun x hx => by
        obtain ⟨z, _, rfl⟩ := List.mem_map.mp hx
        refine ⟨by simp, by simp [pow_ok], fun _ => by simp [pow_ok]⟩)]
      rw [List.filter_map, List.map_map, List.map_map]
      rfl
    have e : dg_begun (startE 3 [.scr ns]) = pure (.lst (((ns.filter fun z => decide (1000000000000000000 ≤ (if z < 0 then -z else z))).map fun z => (if z < 0 then -z else z) - 1000000000000000000).map D.int)) := by
      unfold dg_begun
      simp only [List.map_map] at hc
      simp [hc]
    rw [e]
    refine hW _ (fun z hz => ?_) ?_
    · obtain ⟨y, hy, rfl⟩ := List.mem_map.mp hz
      have := (List.mem_filter.mp hy).2
      have := of_decide_eq_true this
      omega
    · rw [List.length_map]
      exact Nat.le_trans (List.length_filter_le _ _) hn
  c := fun ns gs W hn hW => by
    have hc : compL (gName 2) tYes (dCall (b1 absM) (dCons (dAny 2) (dNil))) [Slot.sh (.scr ns), .ow (.lst (gs.map D.int)), .no] (ns.map D.int) = pure ((ns.map fun z => if z < 0 then -z else z).map D.int) := by
      rw [compL_pure (fun x => [Slot.sh (.scr ns), .ow (.lst (gs.map D.int)), .sh x]) (fun _ => true) (fun x => match x with | .int z => .int (if z < 0 then -z else z) | _ => .non) (fun x hx => by
        obtain ⟨z, _, rfl⟩ := List.mem_map.mp hx
        refine ⟨by simp, by simp, fun _ => by simp⟩)]
      rw [List.filter_eq_self.mpr (fun _ _ => rfl), List.map_map, List.map_map]
      rfl
    have e : dc_begun ((startE 3 [.scr ns]).set 1 (.ow (.lst (gs.map D.int)))) = pure (.lst ((ns.map fun z => if z < 0 then -z else z).map D.int)) := by
      unfold dc_begun
      simp only [List.map_map] at hc
      simp [hc]
    rw [e]
    exact hW _ (by rw [List.length_map]; exact hn)
end K47
end
section
/-! K47D: the defs keep their meanings, printed by gen.py. -/
set_option Elab.async false
set_option linter.all false
set_option autoImplicit false
set_option maxRecDepth 100000
set_option maxHeartbeats 4000000
namespace K47
open PySem PySem.Spec PyProof.Rows L2 He LamX DL
abbrev PR : Program := PySem.Challenge.pw_shownintime_k47_whole_bounds_between_las
def top (i : Nat) : Stmt := PR.main.body.getD i (.Pass ⟨0, 0, 0, 0⟩)
def meth (i j : Nat) : Stmt := match top i with
  | .ClassDef _ _ _ b _ _ _ _ _ _ _ => b.getD j (.Pass ⟨0, 0, 0, 0⟩)
  | _ => .Pass ⟨0, 0, 0, 0⟩
def rf_is_number : Rf := ⟨fun K => ga K "is_number", "is_number", "is_number", (top 15), []⟩
def rf_is_between : Rf := ⟨fun K => ga K "is_between", "is_between", "is_between", (top 16), []⟩
def rf_is_list : Rf := ⟨fun K => ga K "is_list", "is_list", "is_list", (top 17), []⟩
def rf_first_fall : Rf := ⟨fun K => ga K "first_fall", "first_fall", "first_fall", (top 19), []⟩
def rf_wrong_rise : Rf := ⟨fun K => ga K "wrong_rise", "wrong_rise", "wrong_rise", (top 20), []⟩
def rf_is_rising_list : Rf := ⟨fun K => ga K "is_rising_list", "is_rising_list", "is_rising_list", (top 21), []⟩
def rf_need_houses : Rf := ⟨fun K => ga K "need_houses", "need_houses", "need_houses", (top 28), []⟩
def rf_need_lags : Rf := ⟨fun K => ga K "need_lags", "need_lags", "need_lags", (top 29), []⟩
def rf_is_arc : Rf := ⟨fun K => ga K "is_arc", "is_arc", "is_arc", (top 30), []⟩
def rf_need_arcs : Rf := ⟨fun K => ga K "need_arcs", "need_arcs", "need_arcs", (top 31), []⟩
def rf_need_start : Rf := ⟨fun K => ga K "need_start", "need_start", "need_start", (top 36), []⟩
def rf_need_gap : Rf := ⟨fun K => ga K "need_gap", "need_gap", "need_gap", (top 37), []⟩
def rf_need_waits : Rf := ⟨fun K => ga K "need_waits", "need_waits", "need_waits", (top 38), []⟩
def rf_is_entry : Rf := ⟨fun K => ga K "is_entry", "is_entry", "is_entry", (top 39), []⟩
def rf_is_lock : Rf := ⟨fun K => ga K "is_lock", "is_lock", "is_lock", (top 40), []⟩
def rf_need_locks : Rf := ⟨fun K => ga K "need_locks", "need_locks", "need_locks", (top 41), []⟩
def rf_Deal_init : Rf := ⟨fun K => ma K (ga K "Deal") "__init__", "__init__", "Deal.__init__", (meth 42 0), []⟩
def rf_need_deal : Rf := ⟨fun K => ga K "need_deal", "need_deal", "need_deal", (top 43), []⟩
def rf_need_house : Rf := ⟨fun K => ga K "need_house", "need_house", "need_house", (top 44), []⟩
def rf_need_arc : Rf := ⟨fun K => ga K "need_arc", "need_arc", "need_arc", (top 45), []⟩
def rf_giver_of : Rf := ⟨fun K => ga K "giver_of", "giver_of", "giver_of", (top 46), []⟩
def rf_taker_of : Rf := ⟨fun K => ga K "taker_of", "taker_of", "taker_of", (top 47), []⟩
def rf_lag_of : Rf := ⟨fun K => ga K "lag_of", "lag_of", "lag_of", (top 48), []⟩
def rf_entry_of : Rf := ⟨fun K => ga K "entry_of", "entry_of", "entry_of", (top 50), []⟩
def rf_does_ask : Rf := ⟨fun K => ga K "does_ask", "does_ask", "does_ask", (top 51), []⟩
def rf_last_of : Rf := ⟨fun K => ga K "last_of", "last_of", "last_of", (top 52), []⟩
def rf_last_tick : Rf := ⟨fun K => ga K "last_tick", "last_tick", "last_tick", (top 53), []⟩
def rf_lengths_of : Rf := ⟨fun K => ga K "lengths_of", "lengths_of", "lengths_of", (top 55), []⟩
def rf_seal_lengths : Rf := ⟨fun K => ga K "seal_lengths", "seal_lengths", "seal_lengths", (top 56), []⟩
def rf_seal_ticks : Rf := ⟨fun K => ga K "seal_ticks", "seal_ticks", "seal_ticks", (top 58), []⟩
def rf_bound_of : Rf := ⟨fun K => ga K "bound_of", "bound_of", "bound_of", (top 59), []⟩
def rf_need_given : Rf := ⟨fun K => ga K "need_given", "need_given", "need_given", (top 60), []⟩
def rf_need_handed : Rf := ⟨fun K => ga K "need_handed", "need_handed", "need_handed", (top 61), []⟩
def rf_bound : Rf := ⟨fun K => ga K "bound", "bound", "bound", (top 62), []⟩
def rf_law_begun : Rf := ⟨fun K => ga K "_law_begun", "_law_begun", "_law_begun", (top 64), []⟩
def rf_law_pick : Rf := ⟨fun K => ga K "_law_pick", "_law_pick", "_law_pick", (top 67), []⟩
def rf_law_shuffled : Rf := ⟨fun K => ga K "_law_shuffled", "_law_shuffled", "_law_shuffled", (top 68), []⟩
def rf_law_part : Rf := ⟨fun K => ga K "_law_part", "_law_part", "_law_part", (top 69), []⟩
def rf_law_is_truth : Rf := ⟨fun K => ga K "_law_is_truth", "_law_is_truth", "_law_is_truth", (top 71), []⟩
def rf_law_same : Rf := ⟨fun K => ga K "_law_same", "_law_same", "_law_same", (top 72), []⟩
def rf_law_made : Rf := ⟨fun K => ga K "_law_made", "_law_made", "_law_made", (top 73), []⟩
def rf_law_into : Rf := ⟨fun K => ga K "_law_into", "_law_into", "_law_into", (top 74), []⟩
def rf_law_out : Rf := ⟨fun K => ga K "_law_out", "_law_out", "_law_out", (top 75), []⟩
def rf_law_lag : Rf := ⟨fun K => ga K "_law_lag", "_law_lag", "_law_lag", (top 76), []⟩
def rf_law_asked : Rf := ⟨fun K => ga K "_law_asked", "_law_asked", "_law_asked", (top 77), []⟩
def rf_law_entry : Rf := ⟨fun K => ga K "_law_entry", "_law_entry", "_law_entry", (top 78), []⟩
def rf_law_last : Rf := ⟨fun K => ga K "_law_last", "_law_last", "_law_last", (top 79), []⟩
def rf_law_lengths : Rf := ⟨fun K => ga K "_law_lengths", "_law_lengths", "_law_lengths", (top 80), []⟩
def rf_law_lags : Rf := ⟨fun K => ga K "_law_lags", "_law_lags", "_law_lags", (top 81), []⟩
def rf_law_ring : Rf := ⟨fun K => ga K "_law_ring", "_law_ring", "_law_ring", (top 82), []⟩
def rf_law_joined : Rf := ⟨fun K => ga K "_law_joined", "_law_joined", "_law_joined", (top 83), []⟩
def rf_law_wish : Rf := ⟨fun K => ga K "_law_wish", "_law_wish", "_law_wish", (top 84), []⟩
def rf_law_with_last : Rf := ⟨fun K => ga K "_law_with_last", "_law_with_last", "_law_with_last", (top 85), []⟩
def rf_law_any_lock : Rf := ⟨fun K => ga K "_law_any_lock", "_law_any_lock", "_law_any_lock", (top 86), []⟩
def rf_law_any_deal : Rf := ⟨fun K => ga K "_law_any_deal", "_law_any_deal", "_law_any_deal", (top 87), []⟩
def rf_law_later : Rf := ⟨fun K => ga K "_law_later", "_law_later", "_law_later", (top 88), []⟩
def rf_law_bound : Rf := ⟨fun K => ga K "_law_bound", "_law_bound", "_law_bound", (top 89), []⟩
def rf_law_handed : Rf := ⟨fun K => ga K "_law_handed", "_law_handed", "_law_handed", (top 91), []⟩
def rf_law_is : Rf := ⟨fun K => ga K "_law_is", "_law_is", "_law_is", (top 92), []⟩
def rf_law_triples : Rf := ⟨fun K => ga K "_law_triples", "_law_triples", "_law_triples", (top 93), []⟩
def rf_law_told_bound : Rf := ⟨fun K => ga K "_law_told_bound", "_law_told_bound", "_law_told_bound", (top 94), []⟩
def rf_law_spot : Rf := ⟨fun K => ga K "_law_spot", "_law_spot", "_law_spot", (top 95), []⟩
def rf_law_triple_right : Rf := ⟨fun K => ga K "_law_triple_right", "_law_triple_right", "_law_triple_right", (top 96), []⟩
def rf_law_refused : Rf := ⟨fun K => ga K "_law_refused", "_law_refused", "_law_refused", (top 97), []⟩
def rf_law_limits_right : Rf := ⟨fun K => ga K "_law_limits_right", "_law_limits_right", "_law_limits_right", (top 98), []⟩
def rf_law_closed_deal : Rf := ⟨fun K => ga K "_law_closed_deal", "_law_closed_deal", "_law_closed_deal", (top 90), []⟩
def rf_law : Rf := ⟨fun K => ga K "law", "law", "law", (top 99), []⟩
def rf_law_draw : Rf := ⟨fun K => ga K "_law_draw", "_law_draw", "_law_draw", (top 66), []⟩
def rf_law_blended : Rf := ⟨fun K => ga K "_law_blended", "_law_blended", "_law_blended", (top 65), []⟩
def rf_law_caught : Rf := ⟨fun K => ga K "_law_caught", "_law_caught", "_law_caught", (top 70), []⟩
def rf_first_wrong : Rf := ⟨fun K => ga K "first_wrong", "first_wrong", "first_wrong", (top 18), []⟩
def rf_ItemError_init : Rf := ⟨fun K => ma K (ga K "ItemError") "__init__", "__init__", "ItemError.__init__", (meth 2 0), ["__class__"]⟩
def rf_Deal_houses : Rf := ⟨fun K => getterA K (ga K "Deal") "houses", "houses", "Deal.houses", (meth 42 1), []⟩
def rf_Deal_lags : Rf := ⟨fun K => getterA K (ga K "Deal") "lags", "lags", "Deal.lags", (meth 42 2), []⟩
def rf_Deal_start : Rf := ⟨fun K => getterA K (ga K "Deal") "start", "start", "Deal.start", (meth 42 3), []⟩
def rf_Deal_gap : Rf := ⟨fun K => getterA K (ga K "Deal") "gap", "gap", "Deal.gap", (meth 42 4), []⟩
def rf_Deal_arcs : Rf := ⟨fun K => getterA K (ga K "Deal") "arcs", "arcs", "Deal.arcs", (meth 42 5), []⟩
def rf_Deal_waits : Rf := ⟨fun K => getterA K (ga K "Deal") "waits", "waits", "Deal.waits", (meth 42 6), []⟩
def rf_Deal_locks : Rf := ⟨fun K => getterA K (ga K "Deal") "locks", "locks", "Deal.locks", (meth 42 7), []⟩
structure HF (K : Frag) (mg : Str → Option Value) (base : Heap) (ci : Ci) : Prop where
  n_int : mg "int" = none
  n_isinstance : mg "isinstance" = none
  n_bool : mg "bool" = none
  t_is_number : Td K mg "is_number" (top 15)
  t_is_between : Td K mg "is_between" (top 16)
  n_list : mg "list" = none
  n_tuple : mg "tuple" = none
  t_is_list : Td K mg "is_list" (top 17)
  n_range : mg "range" = none
  n_len : mg "len" = none
  t_first_fall : Td K mg "first_fall" (top 19)
  t_wrong_rise : TdL K mg base ci "wrong_rise" (top 20)
  t_is_rising_list : Td K mg "is_rising_list" (top 21)
  i_LEAST_HOUSES : ∃ t, mg "LEAST_HOUSES" = some (.int 2 t)
  i_MOST_HOUSES : ∃ t, mg "MOST_HOUSES" = some (.int 12 t)
  t_need_houses : Td K mg "need_houses" (top 28)
  i_MOST_BOOKS : ∃ t, mg "MOST_BOOKS" = some (.int 4 t)
  i_MOST_LAG : ∃ t, mg "MOST_LAG" = some (.int 1000 t)
  t_need_lags : TdL K mg base ci "need_lags" (top 29)
  t_is_arc : Td K mg "is_arc" (top 30)
  i_MOST_ARCS : ∃ t, mg "MOST_ARCS" = some (.int 24 t)
  t_need_arcs : TdL K mg base ci "need_arcs" (top 31)
  i_MOST_START : ∃ t, mg "MOST_START" = some (.int 100000000 t)
  t_need_start : Td K mg "need_start" (top 36)
  n_max : mg "max" = none
  i_MOST_GAP : ∃ t, mg "MOST_GAP" = some (.int 1000000 t)
  t_need_gap : Td K mg "need_gap" (top 37)
  n_enumerate : mg "enumerate" = none
  n_any : mg "any" = none
  t_need_waits : Td K mg "need_waits" (top 38)
  i_MOST_LAST : ∃ t, mg "MOST_LAST" = some (.int 1000000000 t)
  t_is_entry : Td K mg "is_entry" (top 39)
  t_is_lock : TdL K mg base ci "is_lock" (top 40)
  t_need_locks : TdL K mg base ci "need_locks" (top 41)
  fl_Deal_0 : FlF K ci 13 0 "own_houses"
  fl_Deal_1 : FlF K ci 13 1 "own_lags"
  fl_Deal_2 : FlF K ci 13 2 "own_start"
  fl_Deal_3 : FlF K ci 13 3 "own_gap"
  fl_Deal_4 : FlF K ci 13 4 "own_arcs"
  fl_Deal_5 : FlF K ci 13 5 "own_waits"
  fl_Deal_6 : FlF K ci 13 6 "own_locks"
  mk_Deal : MkF K mg ci "Deal" 13 "Deal.__init__" (meth 42 0)
  g_Deal : mg "Deal" = some (.ref (ci.ca 13))
  em_NoDeal : ExMsg K mg ci "NoDeal" 2
  t_need_deal : Td K mg "need_deal" (top 43)
  t_need_house : Td K mg "need_house" (top 44)
  t_need_arc : Td K mg "need_arc" (top 45)
  t_giver_of : Td K mg "giver_of" (top 46)
  t_taker_of : Td K mg "taker_of" (top 47)
  t_lag_of : Td K mg "lag_of" (top 48)
  t_entry_of : Td K mg "entry_of" (top 50)
  t_does_ask : Td K mg "does_ask" (top 51)
  t_last_of : Td K mg "last_of" (top 52)
  t_last_tick : Td K mg "last_tick" (top 53)
  t_lengths_of : Td K mg "lengths_of" (top 55)
  t_seal_lengths : Td K mg "seal_lengths" (top 56)
  t_seal_ticks : Td K mg "seal_ticks" (top 58)
  t_bound_of : Td K mg "bound_of" (top 59)
  t_need_given : Td K mg "need_given" (top 60)
  t_need_handed : Td K mg "need_handed" (top 61)
  t_bound : Td K mg "bound" (top 62)
  n_abs : mg "abs" = none
  t_law_begun : Td K mg "_law_begun" (top 64)
  n_super : mg "super" = none
  t_law_pick : Td K mg "_law_pick" (top 67)
  t_law_shuffled : Td K mg "_law_shuffled" (top 68)
  t_law_part : Td K mg "_law_part" (top 69)
  t_law_is_truth : Td K mg "_law_is_truth" (top 71)
  n_str : mg "str" = none
  n_zip : mg "zip" = none
  t_law_same : Td K mg "_law_same" (top 72)
  t_law_made : Td K mg "_law_made" (top 73)
  t_law_into : Td K mg "_law_into" (top 74)
  t_law_out : Td K mg "_law_out" (top 75)
  t_law_lag : Td K mg "_law_lag" (top 76)
  t_law_asked : Td K mg "_law_asked" (top 77)
  t_law_entry : Td K mg "_law_entry" (top 78)
  t_law_last : Td K mg "_law_last" (top 79)
  t_law_lengths : Td K mg "_law_lengths" (top 80)
  t_law_lags : Td K mg "_law_lags" (top 81)
  t_law_ring : Td K mg "_law_ring" (top 82)
  t_law_joined : Td K mg "_law_joined" (top 83)
  t_law_wish : Td K mg "_law_wish" (top 84)
  t_law_with_last : Td K mg "_law_with_last" (top 85)
  n_min : mg "min" = none
  n_sorted : mg "sorted" = none
  t_law_any_lock : Td K mg "_law_any_lock" (top 86)
  t_law_any_deal : Td K mg "_law_any_deal" (top 87)
  t_law_later : Td K mg "_law_later" (top 88)
  t_law_bound : Td K mg "_law_bound" (top 89)
  t_law_handed : Td K mg "_law_handed" (top 91)
  g_BadArc : mg "BadArc" = some (.ref (ci.ca 11))
  g_BadHouse : mg "BadHouse" = some (.ref (ci.ca 10))
  g_BadSeals : mg "BadSeals" = some (.ref (ci.ca 12))
  t_law_is : Td K mg "_law_is" (top 92)
  t_law_triples : Td K mg "_law_triples" (top 93)
  t_law_told_bound : Td K mg "_law_told_bound" (top 94)
  t_law_spot : Td K mg "_law_spot" (top 95)
  t_law_triple_right : Td K mg "_law_triple_right" (top 96)
  g_NoDeal : mg "NoDeal" = some (.ref (ci.ca 2))
  t_law_refused : TdL K mg base ci "_law_refused" (top 97)
  t_law_limits_right : TdL K mg base ci "_law_limits_right" (top 98)
  n_all : mg "all" = none
  t_law_closed_deal : Td K mg "_law_closed_deal" (top 90)
  t_law : Td K mg "law" (top 99)
  t_law_draw : Td K mg "_law_draw" (top 66)
  t_law_blended : Td K mg "_law_blended" (top 65)
  t_law_caught : Td K mg "_law_caught" (top 70)
  t_first_wrong : Td K mg "first_wrong" (top 18)
  isf : IsF K ci csL
  dr : DrF K mg (top 66)
  bl : BlF K mg (top 65)
  fw : FwF K mg (top 18)
  ct : CtF K mg ci (top 70) cxAll
  g_DealError : mg "DealError" = some (.ref (ci.ca 0))
  g_ItemError : mg "ItemError" = some (.ref (ci.ca 1))
  eC_ItemError : exB K (ci.ca 1) (ga K "ItemError") "index" = true
  eF_ItemError : ci.fn 1 = [("index" : Str)]
  g_BadHouses : mg "BadHouses" = some (.ref (ci.ca 3))
  eC_BadHouses : exB K (ci.ca 3) (ga K "ItemError") "index" = true
  eF_BadHouses : ci.fn 3 = [("index" : Str)]
  g_BadLags : mg "BadLags" = some (.ref (ci.ca 4))
  eC_BadLags : exB K (ci.ca 4) (ga K "ItemError") "index" = true
  eF_BadLags : ci.fn 4 = [("index" : Str)]
  g_BadStart : mg "BadStart" = some (.ref (ci.ca 5))
  eC_BadStart : exB K (ci.ca 5) (ga K "ItemError") "index" = true
  eF_BadStart : ci.fn 5 = [("index" : Str)]
  g_BadGap : mg "BadGap" = some (.ref (ci.ca 6))
  eC_BadGap : exB K (ci.ca 6) (ga K "ItemError") "index" = true
  eF_BadGap : ci.fn 6 = [("index" : Str)]
  g_BadArcs : mg "BadArcs" = some (.ref (ci.ca 7))
  eC_BadArcs : exB K (ci.ca 7) (ga K "ItemError") "index" = true
  eF_BadArcs : ci.fn 7 = [("index" : Str)]
  g_BadWaits : mg "BadWaits" = some (.ref (ci.ca 8))
  eC_BadWaits : exB K (ci.ca 8) (ga K "ItemError") "index" = true
  eF_BadWaits : ci.fn 8 = [("index" : Str)]
  g_BadLocks : mg "BadLocks" = some (.ref (ci.ca 9))
  eC_BadLocks : exB K (ci.ca 9) (ga K "ItemError") "index" = true
  eF_BadLocks : ci.fn 9 = [("index" : Str)]
  eC_BadHouse : exB K (ci.ca 10) (ga K "ItemError") "index" = true
  eF_BadHouse : ci.fn 10 = [("index" : Str)]
  eC_BadArc : exB K (ci.ca 11) (ga K "ItemError") "index" = true
  eF_BadArc : ci.fn 11 = [("index" : Str)]
  eC_BadSeals : exB K (ci.ca 12) (ga K "ItemError") "index" = true
  eF_BadSeals : ci.fn 12 = [("index" : Str)]
  eT : PySem.W.nsIn K PySem.cStatics "thirdparty.any" = some none
  eI_ItemError : fnZ K (rf_ItemError_init.ad K) = rf_ItemError_init.val ∧ rf_ItemError_init.ok K = true ∧ supB K PR.main.file (rf_ItemError_init.ad K) (ga K "ItemError") = true ∧ (PySem.W.clsIn K (ga K "ItemError")).isSome = true
  pI_Deal_houses : fnZ K (rf_Deal_houses.ad K) = rf_Deal_houses.val ∧ rf_Deal_houses.ok K = true ∧ propB K (ga K "Deal") "houses" = true
  pI_Deal_lags : fnZ K (rf_Deal_lags.ad K) = rf_Deal_lags.val ∧ rf_Deal_lags.ok K = true ∧ propB K (ga K "Deal") "lags" = true
  pI_Deal_start : fnZ K (rf_Deal_start.ad K) = rf_Deal_start.val ∧ rf_Deal_start.ok K = true ∧ propB K (ga K "Deal") "start" = true
  pI_Deal_gap : fnZ K (rf_Deal_gap.ad K) = rf_Deal_gap.val ∧ rf_Deal_gap.ok K = true ∧ propB K (ga K "Deal") "gap" = true
  pI_Deal_arcs : fnZ K (rf_Deal_arcs.ad K) = rf_Deal_arcs.val ∧ rf_Deal_arcs.ok K = true ∧ propB K (ga K "Deal") "arcs" = true
  pI_Deal_waits : fnZ K (rf_Deal_waits.ad K) = rf_Deal_waits.val ∧ rf_Deal_waits.ok K = true ∧ propB K (ga K "Deal") "waits" = true
  pI_Deal_locks : fnZ K (rf_Deal_locks.ad K) = rf_Deal_locks.val ∧ rf_Deal_locks.ok K = true ∧ propB K (ga K "Deal") "locks" = true
  ca_Deal : ci.ca 13 = ga K "Deal"
  xf_index : ∀ c ∈ cx_index, XfF K ci c "index"
section
variable {w : World} {K : Frag} {mg : Str → Option Value} {base : Heap} {ci : Ci}
theorem supT_ItemError : SupT PR (meth 2 0) "index" "index" where
  body := ⟨_, 0, _, _, _, _, _, _, _, _, _, _, rfl, sup_eval rfl⟩
  htop := by decide +kernel
  sc := NdefX.nscope_by (by decide +kernel)
  hp := rfl
  hks := by decide +kernel
  hda := by decide
  hca := by decide
  bd := fun _ _ _ _ _ _ _ us _ _ hl => match us, hl with | [_, _], _ => rfl
theorem ex_ItemError (h : HF K mg base ci) : ExIt PR w K mg base ci 1 "ItemError" 1 := exIt_of (r := rf_ItemError_init) (D := ga K "ItemError") h.eI_ItemError.1 h.eI_ItemError.2.1 rfl rfl supT_ItemError h.eI_ItemError.2.2.1 h.eI_ItemError.2.2.2 h.n_super h.eT h.g_ItemError h.eC_ItemError h.eF_ItemError
theorem ex_BadHouses (h : HF K mg base ci) : ExIt PR w K mg base ci 1 "BadHouses" 3 := exIt_of (r := rf_ItemError_init) (D := ga K "ItemError") h.eI_ItemError.1 h.eI_ItemError.2.1 rfl rfl supT_ItemError h.eI_ItemError.2.2.1 h.eI_ItemError.2.2.2 h.n_super h.eT h.g_BadHouses h.eC_BadHouses h.eF_BadHouses
theorem ex_BadLags (h : HF K mg base ci) : ExIt PR w K mg base ci 1 "BadLags" 4 := exIt_of (r := rf_ItemError_init) (D := ga K "ItemError") h.eI_ItemError.1 h.eI_ItemError.2.1 rfl rfl supT_ItemError h.eI_ItemError.2.2.1 h.eI_ItemError.2.2.2 h.n_super h.eT h.g_BadLags h.eC_BadLags h.eF_BadLags
theorem ex_BadStart (h : HF K mg base ci) : ExIt PR w K mg base ci 1 "BadStart" 5 := exIt_of (r := rf_ItemError_init) (D := ga K "ItemError") h.eI_ItemError.1 h.eI_ItemError.2.1 rfl rfl supT_ItemError h.eI_ItemError.2.2.1 h.eI_ItemError.2.2.2 h.n_super h.eT h.g_BadStart h.eC_BadStart h.eF_BadStart
theorem ex_BadGap (h : HF K mg base ci) : ExIt PR w K mg base ci 1 "BadGap" 6 := exIt_of (r := rf_ItemError_init) (D := ga K "ItemError") h.eI_ItemError.1 h.eI_ItemError.2.1 rfl rfl supT_ItemError h.eI_ItemError.2.2.1 h.eI_ItemError.2.2.2 h.n_super h.eT h.g_BadGap h.eC_BadGap h.eF_BadGap
theorem ex_BadArcs (h : HF K mg base ci) : ExIt PR w K mg base ci 1 "BadArcs" 7 := exIt_of (r := rf_ItemError_init) (D := ga K "ItemError") h.eI_ItemError.1 h.eI_ItemError.2.1 rfl rfl supT_ItemError h.eI_ItemError.2.2.1 h.eI_ItemError.2.2.2 h.n_super h.eT h.g_BadArcs h.eC_BadArcs h.eF_BadArcs
theorem ex_BadWaits (h : HF K mg base ci) : ExIt PR w K mg base ci 1 "BadWaits" 8 := exIt_of (r := rf_ItemError_init) (D := ga K "ItemError") h.eI_ItemError.1 h.eI_ItemError.2.1 rfl rfl supT_ItemError h.eI_ItemError.2.2.1 h.eI_ItemError.2.2.2 h.n_super h.eT h.g_BadWaits h.eC_BadWaits h.eF_BadWaits
theorem ex_BadLocks (h : HF K mg base ci) : ExIt PR w K mg base ci 1 "BadLocks" 9 := exIt_of (r := rf_ItemError_init) (D := ga K "ItemError") h.eI_ItemError.1 h.eI_ItemError.2.1 rfl rfl supT_ItemError h.eI_ItemError.2.2.1 h.eI_ItemError.2.2.2 h.n_super h.eT h.g_BadLocks h.eC_BadLocks h.eF_BadLocks
theorem ex_BadHouse (h : HF K mg base ci) : ExIt PR w K mg base ci 1 "BadHouse" 10 := exIt_of (r := rf_ItemError_init) (D := ga K "ItemError") h.eI_ItemError.1 h.eI_ItemError.2.1 rfl rfl supT_ItemError h.eI_ItemError.2.2.1 h.eI_ItemError.2.2.2 h.n_super h.eT h.g_BadHouse h.eC_BadHouse h.eF_BadHouse
theorem ex_BadArc (h : HF K mg base ci) : ExIt PR w K mg base ci 1 "BadArc" 11 := exIt_of (r := rf_ItemError_init) (D := ga K "ItemError") h.eI_ItemError.1 h.eI_ItemError.2.1 rfl rfl supT_ItemError h.eI_ItemError.2.2.1 h.eI_ItemError.2.2.2 h.n_super h.eT h.g_BadArc h.eC_BadArc h.eF_BadArc
theorem ex_BadSeals (h : HF K mg base ci) : ExIt PR w K mg base ci 1 "BadSeals" 12 := exIt_of (r := rf_ItemError_init) (D := ga K "ItemError") h.eI_ItemError.1 h.eI_ItemError.2.1 rfl rfl supT_ItemError h.eI_ItemError.2.2.1 h.eI_ItemError.2.2.2 h.n_super h.eT h.g_BadSeals h.eC_BadSeals h.eF_BadSeals
theorem pr_Deal_houses (h : HF K mg base ci) : PrF PR w K mg base ci 1 13 0 "houses" := prF_of (r := rf_Deal_houses) h.pI_Deal_houses.1 h.pI_Deal_houses.2.1 rfl h.ca_Deal rfl h.pI_Deal_houses.2.2 h.fl_Deal_0 ⟨rfl, rfl, rfl, by decide +kernel, rfl, by decide +kernel, by decide +kernel⟩ ⟨_, _, _, rfl⟩ (fun _ _ _ _ _ _ us hl => match us, hl with | [_], _ => rfl)
theorem pr_Deal_lags (h : HF K mg base ci) : PrF PR w K mg base ci 1 13 1 "lags" := prF_of (r := rf_Deal_lags) h.pI_Deal_lags.1 h.pI_Deal_lags.2.1 rfl h.ca_Deal rfl h.pI_Deal_lags.2.2 h.fl_Deal_1 ⟨rfl, rfl, rfl, by decide +kernel, rfl, by decide +kernel, by decide +kernel⟩ ⟨_, _, _, rfl⟩ (fun _ _ _ _ _ _ us hl => match us, hl with | [_], _ => rfl)
theorem pr_Deal_start (h : HF K mg base ci) : PrF PR w K mg base ci 1 13 2 "start" := prF_of (r := rf_Deal_start) h.pI_Deal_start.1 h.pI_Deal_start.2.1 rfl h.ca_Deal rfl h.pI_Deal_start.2.2 h.fl_Deal_2 ⟨rfl, rfl, rfl, by decide +kernel, rfl, by decide +kernel, by decide +kernel⟩ ⟨_, _, _, rfl⟩ (fun _ _ _ _ _ _ us hl => match us, hl with | [_], _ => rfl)
theorem pr_Deal_gap (h : HF K mg base ci) : PrF PR w K mg base ci 1 13 3 "gap" := prF_of (r := rf_Deal_gap) h.pI_Deal_gap.1 h.pI_Deal_gap.2.1 rfl h.ca_Deal rfl h.pI_Deal_gap.2.2 h.fl_Deal_3 ⟨rfl, rfl, rfl, by decide +kernel, rfl, by decide +kernel, by decide +kernel⟩ ⟨_, _, _, rfl⟩ (fun _ _ _ _ _ _ us hl => match us, hl with | [_], _ => rfl)
theorem pr_Deal_arcs (h : HF K mg base ci) : PrF PR w K mg base ci 1 13 4 "arcs" := prF_of (r := rf_Deal_arcs) h.pI_Deal_arcs.1 h.pI_Deal_arcs.2.1 rfl h.ca_Deal rfl h.pI_Deal_arcs.2.2 h.fl_Deal_4 ⟨rfl, rfl, rfl, by decide +kernel, rfl, by decide +kernel, by decide +kernel⟩ ⟨_, _, _, rfl⟩ (fun _ _ _ _ _ _ us hl => match us, hl with | [_], _ => rfl)
theorem pr_Deal_waits (h : HF K mg base ci) : PrF PR w K mg base ci 1 13 5 "waits" := prF_of (r := rf_Deal_waits) h.pI_Deal_waits.1 h.pI_Deal_waits.2.1 rfl h.ca_Deal rfl h.pI_Deal_waits.2.2 h.fl_Deal_5 ⟨rfl, rfl, rfl, by decide +kernel, rfl, by decide +kernel, by decide +kernel⟩ ⟨_, _, _, rfl⟩ (fun _ _ _ _ _ _ us hl => match us, hl with | [_], _ => rfl)
theorem pr_Deal_locks (h : HF K mg base ci) : PrF PR w K mg base ci 1 13 6 "locks" := prF_of (r := rf_Deal_locks) h.pI_Deal_locks.1 h.pI_Deal_locks.2.1 rfl h.ca_Deal rfl h.pI_Deal_locks.2.2 h.fl_Deal_6 ⟨rfl, rfl, rfl, by decide +kernel, rfl, by decide +kernel, by decide +kernel⟩ ⟨_, _, _, rfl⟩ (fun _ _ _ _ _ _ us hl => match us, hl with | [_], _ => rfl)
theorem xf_index (h : HF K mg base ci) : ∀ c ∈ cx_index, XfF K ci c "index" := h.xf_index
theorem d_law_draw (h : HF K mg base ci) : Fd PR w K mg base ci 2 "_law_draw" .sh 2 (b2 drawM) := fd_draw h.dr h.bl
theorem s_is_number : FnScope ["thing"] ["thing"] (defScope (top 15)) := ⟨rfl, rfl, rfl, by decide +kernel, rfl, by decide +kernel, by decide +kernel⟩
theorem d_is_number (h : HF K mg base ci) : Fd PR w K mg base ci 1 "is_number" .sh 1 m_is_number :=
  fd_sh h.t_is_number s_is_number rfl rfl (fun _ _ _ _ _ _ us hl => match us, hl with | [_], _ => rfl) fun f cdv A outer s H E ok =>
    dss_one (ds_ret (hd := de_and (de_isi h.isf (by rfl) h.n_isinstance (db_var (i := 0)) (cl_int (by rfl) h.n_int)) (de_one (de_not (de_isi h.isf (by rfl) h.n_isinstance (db_var (i := 0)) (cl_bool (by rfl) h.n_bool))))))

theorem s_is_between : FnScope ["thing", "low", "high"] ["thing", "low", "high"] (defScope (top 16)) := ⟨rfl, rfl, rfl, by decide +kernel, rfl, by decide +kernel, by decide +kernel⟩
theorem d_is_between (h : HF K mg base ci) : Fd PR w K mg base ci 2 "is_between" .sh 3 m_is_between :=
  fd_sh h.t_is_between s_is_between rfl rfl (fun _ _ _ _ _ _ us hl => match us, hl with | [_, _, _], _ => rfl) fun f cdv A outer s H E ok =>
    dss_one (ds_ret (hd := de_and (de_call (d_is_number h) ok.toOkc (by rfl) (da_c (de_var (i := 0)) (da_nil))) (de_one (de_chain (cm_le) (cm_le) (db_var (i := 1)) (db_var (i := 0)) (db_var (i := 2))))))

theorem s_is_list : FnScope ["thing"] ["thing"] (defScope (top 17)) := ⟨rfl, rfl, rfl, by decide +kernel, rfl, by decide +kernel, by decide +kernel⟩
theorem d_is_list (h : HF K mg base ci) : Fd PR w K mg base ci 1 "is_list" .sh 1 m_is_list :=
  fd_sh h.t_is_list s_is_list rfl rfl (fun _ _ _ _ _ _ us hl => match us, hl with | [_], _ => rfl) fun f cdv A outer s H E ok =>
    dss_one (ds_ret (hd := de_isi2 h.isf (by rfl) h.n_isinstance (db_var (i := 0)) (cl_list (by rfl) h.n_list) (cl_tuple (by rfl) h.n_tuple)))

theorem s_first_fall : FnScope ["several", "index"] ["several"] (defScope (top 19)) := ⟨rfl, rfl, rfl, by decide +kernel, rfl, by decide +kernel, by decide +kernel⟩
theorem d_first_fall (h : HF K mg base ci) : Fd PR w K mg base ci 1 "first_fall" .sh 1 m_first_fall :=
  fd_sh h.t_first_fall s_first_fall rfl rfl (fun _ _ _ _ _ _ us hl => match us, hl with | [_], _ => rfl) fun f cdv A outer s H E ok =>
    dss_cons (ds_for (js := [1]) ok.own ok.calm (di_range2 (by rfl) h.n_range (DE.toB (de_int)) (DE.toB (de_len (by rfl) h.n_len (da_cB (db_var (i := 0)) (da_nil))))) (dg_name (i := 1) s_first_fall.nd (by rfl) (by first | exact .inl rfl | exact .inr rfl) (by decide))
    (dss_one (ds_if (dt_not (dt_lt ok.hu0 (DE.toB (de_item ok.hu (db_var (i := 0)) (DE.toB (de_sub (db_var (i := 1)) (DE.toB (de_int)))))) (DE.toB (de_item ok.hu (db_var (i := 0)) (db_var (i := 1))))))
    (dss_one (ds_ret (hd := de_var (i := 1))))
    (dss_nil))))
    (dss_one (ds_ret (hd := de_non)))

theorem s_wrong_rise : FnScope ["several", "low", "high", "index", "ahead", "item"] ["several", "low", "high"] (defScope (top 20)) := ⟨rfl, rfl, rfl, by decide +kernel, rfl, by decide +kernel, by decide +kernel⟩
theorem d_wrong_rise (h : HF K mg base ci) : Fd PR w K mg base ci 5 "wrong_rise" .sh 3 m_wrong_rise :=
  fd_shL h.t_wrong_rise s_wrong_rise rfl rfl (fun _ _ _ _ _ _ us hl => match us, hl with | [_, _, _], _ => rfl) fun f cdv A outer s H E hl ok =>
    dss_cons (ds_set (i := 3) s_wrong_rise.nd (de_fw (k := 2) h.fw ok.toOkc s_wrong_rise.nd (by rfl) hl (de_var (i := 0)) rfl (fun _ _ _ _ _ _ => rfl) (fun _ _ _ _ _ _ ok => de_call (d_is_between h) ok (by rfl) (da_c (de_var (i := 5)) (da_c (de_var (i := 1)) (da_c (de_var (i := 2)) (da_nil))))) (by rfl)))
    (dss_cons (ds_set (i := 4) s_wrong_rise.nd (de_call (d_first_fall h) ok.toOkc (by rfl) (da_c (de_if (dt_notN (db_var (i := 3))) (de_slice (db_var (i := 0)) (do_none) (do_some (db_var (i := 3)))) (de_var (i := 0))) (da_nil))))
    (dss_one (ds_ret (hd := de_if (dt_notN (db_var (i := 4))) (de_var (i := 4)) (de_var (i := 3))))))

theorem s_is_rising_list : FnScope ["thing", "low", "high"] ["thing", "low", "high"] (defScope (top 21)) := ⟨rfl, rfl, rfl, by decide +kernel, rfl, by decide +kernel, by decide +kernel⟩
theorem d_is_rising_list (h : HF K mg base ci) : Fd PR w K mg base ci 6 "is_rising_list" .sh 3 m_is_rising_list :=
  fd_sh h.t_is_rising_list s_is_rising_list rfl rfl (fun _ _ _ _ _ _ us hl => match us, hl with | [_, _, _], _ => rfl) fun f cdv A outer s H E ok =>
    dss_one (ds_ret (hd := de_and (de_call (d_is_list h) ok.toOkc (by rfl) (da_c (de_var (i := 0)) (da_nil))) (de_one (de_isN (DE.toB (de_call (d_wrong_rise h) ok.toOkc (by rfl) (da_c (de_var (i := 0)) (da_c (de_var (i := 1)) (da_c (de_var (i := 2)) (da_nil))))))))))

theorem s_need_houses : FnScope ["houses"] ["houses"] (defScope (top 28)) := ⟨rfl, rfl, rfl, by decide +kernel, rfl, by decide +kernel, by decide +kernel⟩
theorem d_need_houses (h : HF K mg base ci) : Fd PR w K mg base ci 3 "need_houses" .sh 1 m_need_houses :=
  fd_sh h.t_need_houses s_need_houses rfl rfl (fun _ _ _ _ _ _ us hl => match us, hl with | [_], _ => rfl) fun f cdv A outer s H E ok =>
    dss_one (ds_if (dt_not (dt_val (de_call (d_is_between h) ok.toOkc (by rfl) (da_c (de_var (i := 0)) (da_c (de_glob (by rfl) h.i_LEAST_HOUSES.choose_spec) (da_c (de_glob (by rfl) h.i_MOST_HOUSES.choose_spec) (da_nil)))))))
    (dss_one (ds_raise1 (k := 1) (ex_BadHouses h) ok (by rfl) (de_non)))
    (dss_nil))

theorem s_need_lags : FnScope ["lags", "index", "lag"] ["lags"] (defScope (top 29)) := ⟨rfl, rfl, rfl, by decide +kernel, rfl, by decide +kernel, by decide +kernel⟩
theorem d_need_lags (h : HF K mg base ci) : Fd PR w K mg base ci 5 "need_lags" .sh 1 m_need_lags :=
  fd_shL h.t_need_lags s_need_lags rfl rfl (fun _ _ _ _ _ _ us hl => match us, hl with | [_], _ => rfl) fun f cdv A outer s H E hl ok =>
    dss_cons (ds_if (dt_w (dw_or (dt_not (dt_val (de_call (d_is_list h) ok.toOkc (by rfl) (da_c (de_var (i := 0)) (da_nil))))) (dw_or1 (dt_not (dt_chain (cm_le) (cm_le) (DE.toB (de_int)) (DE.toB (de_len (by rfl) h.n_len (da_cB (db_var (i := 0)) (da_nil)))) (DE.toB (de_glob (by rfl) h.i_MOST_BOOKS.choose_spec)))))))
    (dss_one (ds_raise1 (k := 1) (ex_BadLags h) ok (by rfl) (de_non)))
    (dss_nil))
    (dss_cons (ds_set (i := 1) s_need_lags.nd (de_fw (k := 2) h.fw ok.toOkc s_need_lags.nd (by rfl) hl (de_var (i := 0)) rfl (fun _ _ _ _ _ _ => rfl) (fun _ _ _ _ _ _ ok => de_call (d_is_between h) ok (by rfl) (da_c (de_var (i := 2)) (da_c (de_int) (da_c (de_glob (by rfl) h.i_MOST_LAG.choose_spec) (da_nil))))) (by rfl)))
    (dss_one (ds_if (dt_notN (db_var (i := 1)))
    (dss_one (ds_raise1 (k := 1) (ex_BadLags h) ok (by rfl) (de_var (i := 1))))
    (dss_nil))))

theorem s_is_arc : FnScope ["thing", "houses", "books"] ["thing", "houses", "books"] (defScope (top 30)) := ⟨rfl, rfl, rfl, by decide +kernel, rfl, by decide +kernel, by decide +kernel⟩
theorem d_is_arc (h : HF K mg base ci) : Fd PR w K mg base ci 3 "is_arc" .sh 3 m_is_arc :=
  fd_sh h.t_is_arc s_is_arc rfl rfl (fun _ _ _ _ _ _ us hl => match us, hl with | [_, _, _], _ => rfl) fun f cdv A outer s H E ok =>
    dss_cons (ds_if (dt_w (dw_or (dt_not (dt_val (de_call (d_is_list h) ok.toOkc (by rfl) (da_c (de_var (i := 0)) (da_nil))))) (dw_or1 (dt_ne ok.hu64 (DE.toB (de_len (by rfl) h.n_len (da_cB (db_var (i := 0)) (da_nil)))) (DE.toB (de_int))))))
    (dss_one (ds_ret (hd := de_bl)))
    (dss_nil))
    (dss_cons (ds_if (dt_w (dw_or (dt_not (dt_val (de_call (d_is_between h) ok.toOkc (by rfl) (da_c (de_item ok.hu (db_var (i := 0)) (DE.toB (de_int))) (da_c (de_int) (da_c (de_sub (db_var (i := 1)) (DE.toB (de_int))) (da_nil))))))) (dw_or1 (dt_not (dt_val (de_call (d_is_between h) ok.toOkc (by rfl) (da_c (de_item ok.hu (db_var (i := 0)) (DE.toB (de_int))) (da_c (de_int) (da_c (de_sub (db_var (i := 1)) (DE.toB (de_int))) (da_nil))))))))))
    (dss_one (ds_ret (hd := de_bl)))
    (dss_nil))
    (dss_one (ds_ret (hd := de_and (de_ne ok.hu64 (DE.toB (de_item ok.hu (db_var (i := 0)) (DE.toB (de_int)))) (DE.toB (de_item ok.hu (db_var (i := 0)) (DE.toB (de_int))))) (de_one (de_call (d_is_between h) ok.toOkc (by rfl) (da_c (de_item ok.hu (db_var (i := 0)) (DE.toB (de_int))) (da_c (de_int) (da_c (de_sub (db_var (i := 2)) (DE.toB (de_int))) (da_nil))))))))))

theorem s_need_arcs : FnScope ["arcs", "houses", "books", "least", "index", "arc"] ["arcs", "houses", "books", "least"] (defScope (top 31)) := ⟨rfl, rfl, rfl, by decide +kernel, rfl, by decide +kernel, by decide +kernel⟩
theorem d_need_arcs (h : HF K mg base ci) : Fd PR w K mg base ci 6 "need_arcs" .sh 4 m_need_arcs :=
  fd_shL h.t_need_arcs s_need_arcs rfl rfl (fun _ _ _ _ _ _ us hl => match us, hl with | [_, _, _, _], _ => rfl) fun f cdv A outer s H E hl ok =>
    dss_cons (ds_if (dt_w (dw_or (dt_not (dt_val (de_call (d_is_list h) ok.toOkc (by rfl) (da_c (de_var (i := 0)) (da_nil))))) (dw_or1 (dt_not (dt_chain (cm_le) (cm_le) (db_var (i := 3)) (DE.toB (de_len (by rfl) h.n_len (da_cB (db_var (i := 0)) (da_nil)))) (DE.toB (de_glob (by rfl) h.i_MOST_ARCS.choose_spec)))))))
    (dss_one (ds_raise1 (k := 1) (ex_BadArcs h) ok (by rfl) (de_non)))
    (dss_nil))
    (dss_cons (ds_set (i := 4) s_need_arcs.nd (de_fw (k := 3) h.fw ok.toOkc s_need_arcs.nd (by rfl) hl (de_var (i := 0)) rfl (fun _ _ _ _ _ _ => rfl) (fun _ _ _ _ _ _ ok => de_call (d_is_arc h) ok (by rfl) (da_c (de_var (i := 5)) (da_c (de_var (i := 1)) (da_c (de_var (i := 2)) (da_nil))))) (by rfl)))
    (dss_one (ds_if (dt_notN (db_var (i := 4)))
    (dss_one (ds_raise1 (k := 1) (ex_BadArcs h) ok (by rfl) (de_var (i := 4))))
    (dss_nil))))

theorem s_need_start : FnScope ["start"] ["start"] (defScope (top 36)) := ⟨rfl, rfl, rfl, by decide +kernel, rfl, by decide +kernel, by decide +kernel⟩
theorem d_need_start (h : HF K mg base ci) : Fd PR w K mg base ci 3 "need_start" .sh 1 m_need_start :=
  fd_sh h.t_need_start s_need_start rfl rfl (fun _ _ _ _ _ _ us hl => match us, hl with | [_], _ => rfl) fun f cdv A outer s H E ok =>
    dss_one (ds_if (dt_not (dt_val (de_call (d_is_between h) ok.toOkc (by rfl) (da_c (de_var (i := 0)) (da_c (de_int) (da_c (de_glob (by rfl) h.i_MOST_START.choose_spec) (da_nil)))))))
    (dss_one (ds_raise1 (k := 1) (ex_BadStart h) ok (by rfl) (de_non)))
    (dss_nil))

theorem s_need_gap : FnScope ["gap", "lags"] ["gap", "lags"] (defScope (top 37)) := ⟨rfl, rfl, rfl, by decide +kernel, rfl, by decide +kernel, by decide +kernel⟩
theorem d_need_gap (h : HF K mg base ci) : Fd PR w K mg base ci 3 "need_gap" .sh 2 m_need_gap :=
  fd_sh h.t_need_gap s_need_gap rfl rfl (fun _ _ _ _ _ _ us hl => match us, hl with | [_, _], _ => rfl) fun f cdv A outer s H E ok =>
    dss_one (ds_if (dt_not (dt_val (de_call (d_is_between h) ok.toOkc (by rfl) (da_c (de_var (i := 0)) (da_c (de_max ok.calm (by rfl) h.n_max (da_cB (db_var (i := 1)) (da_nil))) (da_c (de_glob (by rfl) h.i_MOST_GAP.choose_spec) (da_nil)))))))
    (dss_one (ds_raise1 (k := 1) (ex_BadGap h) ok (by rfl) (de_non)))
    (dss_nil))

theorem s_need_waits : FnScope ["waits", "arcs", "index", "several", "arc"] ["waits", "arcs"] (defScope (top 38)) := ⟨rfl, rfl, rfl, by decide +kernel, rfl, by decide +kernel, by decide +kernel⟩
theorem d_need_waits (h : HF K mg base ci) : Fd PR w K mg base ci 7 "need_waits" .sh 2 m_need_waits :=
  fd_sh h.t_need_waits s_need_waits rfl rfl (fun _ _ _ _ _ _ us hl => match us, hl with | [_, _], _ => rfl) fun f cdv A outer s H E ok =>
    dss_cons (ds_if (dt_w (dw_or (dt_not (dt_val (de_call (d_is_list h) ok.toOkc (by rfl) (da_c (de_var (i := 0)) (da_nil))))) (dw_or1 (dt_ne ok.hu64 (DE.toB (de_len (by rfl) h.n_len (da_cB (db_var (i := 0)) (da_nil)))) (DE.toB (de_len (by rfl) h.n_len (da_cB (db_var (i := 1)) (da_nil))))))))
    (dss_one (ds_raise1 (k := 1) (ex_BadWaits h) ok (by rfl) (de_non)))
    (dss_nil))
    (dss_one (ds_for (js := [2, 3]) ok.own ok.calm (di_enum (by rfl) h.n_enumerate (de_var (i := 0))) (dg_tup (k := _) ok.calm (dgs_cons (dg_name (i := 2) s_need_waits.nd (by rfl) (by first | exact .inl rfl | exact .inr rfl) (by decide)) (dgs_cons (dg_name (i := 3) s_need_waits.nd (by rfl) (by first | exact .inl rfl | exact .inr rfl) (by decide)) (dgs_nil))))
    (dss_cons (ds_if (dt_not (dt_val (de_call (d_is_rising_list h) ok.toOkc (by rfl) (da_c (de_var (i := 3)) (da_c (de_int) (da_c (de_sub (DE.toB (de_len (by rfl) h.n_len (da_cB (db_var (i := 1)) (da_nil)))) (DE.toB (de_int))) (da_nil)))))))
    (dss_one (ds_raise1 (k := 1) (ex_BadWaits h) ok (by rfl) (de_var (i := 2))))
    (dss_nil))
    (dss_one (ds_if (dt_val (de_any ok.calm (by rfl) h.n_any (da_cB (DE.toB (DO.toE (do_lc (js := [4]) ok.toOkc [("arc", 4)] s_need_waits.nd (di_seq (de_var (i := 3))) (fun _ _ _ _ _ => dg_name (i := 4) s_need_waits.nd (by rfl) (by first | exact .inl rfl | exact .inr rfl) (by decide)) (fun _ _ _ _ _ ok => dts_nil) (fun _ _ _ _ _ ok => de_ne ok.hu64 (DE.toB (de_item ok.hu (DE.toB (de_item ok.hu (db_var (i := 1)) (db_var (i := 4)))) (DE.toB (de_int)))) (DE.toB (de_item ok.hu (DE.toB (de_item ok.hu (db_var (i := 1)) (db_var (i := 2)))) (DE.toB (de_int)))))))) (da_nil))))
    (dss_one (ds_raise1 (k := 1) (ex_BadWaits h) ok (by rfl) (de_var (i := 2))))
    (dss_nil))))))

theorem s_is_entry : FnScope ["thing", "houses", "start"] ["thing", "houses", "start"] (defScope (top 39)) := ⟨rfl, rfl, rfl, by decide +kernel, rfl, by decide +kernel, by decide +kernel⟩
theorem d_is_entry (h : HF K mg base ci) : Fd PR w K mg base ci 3 "is_entry" .sh 3 m_is_entry :=
  fd_sh h.t_is_entry s_is_entry rfl rfl (fun _ _ _ _ _ _ us hl => match us, hl with | [_, _, _], _ => rfl) fun f cdv A outer s H E ok =>
    dss_cons (ds_if (dt_w (dw_or (dt_not (dt_val (de_call (d_is_list h) ok.toOkc (by rfl) (da_c (de_var (i := 0)) (da_nil))))) (dw_or (dt_ne ok.hu64 (DE.toB (de_len (by rfl) h.n_len (da_cB (db_var (i := 0)) (da_nil)))) (DE.toB (de_int))) (dw_or1 (dt_not (dt_val (de_call (d_is_between h) ok.toOkc (by rfl) (da_c (de_item ok.hu (db_var (i := 0)) (DE.toB (de_int))) (da_c (de_int) (da_c (de_sub (db_var (i := 1)) (DE.toB (de_int))) (da_nil)))))))))))
    (dss_one (ds_ret (hd := de_bl)))
    (dss_nil))
    (dss_one (ds_ret (hd := de_and (de_call (d_is_between h) ok.toOkc (by rfl) (da_c (de_item ok.hu (db_var (i := 0)) (DE.toB (de_int))) (da_c (de_var (i := 2)) (da_c (de_glob (by rfl) h.i_MOST_LAST.choose_spec) (da_nil))))) (de_one (de_call (d_is_between h) ok.toOkc (by rfl) (da_c (de_item ok.hu (db_var (i := 0)) (DE.toB (de_int))) (da_c (de_int) (da_c (de_int) (da_nil)))))))))

theorem s_is_lock : FnScope ["thing", "houses", "start", "entry"] ["thing", "houses", "start"] (defScope (top 40)) := ⟨rfl, rfl, rfl, by decide +kernel, rfl, by decide +kernel, by decide +kernel⟩
theorem d_is_lock (h : HF K mg base ci) : Fd PR w K mg base ci 6 "is_lock" .sh 3 m_is_lock :=
  fd_shL h.t_is_lock s_is_lock rfl rfl (fun _ _ _ _ _ _ us hl => match us, hl with | [_, _, _], _ => rfl) fun f cdv A outer s H E hl ok =>
    dss_cons (ds_if (dt_w (dw_or (dt_not (dt_val (de_call (d_is_list h) ok.toOkc (by rfl) (da_c (de_var (i := 0)) (da_nil))))) (dw_or1 (dt_not (dt_chain (cm_le) (cm_le) (DE.toB (de_int)) (DE.toB (de_len (by rfl) h.n_len (da_cB (db_var (i := 0)) (da_nil)))) (db_var (i := 1)))))))
    (dss_one (ds_ret (hd := de_bl)))
    (dss_nil))
    (dss_cons (ds_if (dt_notN (DE.toB (de_fw (k := 3) h.fw ok.toOkc s_is_lock.nd (by rfl) hl (de_var (i := 0)) rfl (fun _ _ _ _ _ _ => rfl) (fun _ _ _ _ _ _ ok => de_call (d_is_entry h) ok (by rfl) (da_c (de_var (i := 3)) (da_c (de_var (i := 1)) (da_c (de_var (i := 2)) (da_nil))))) (by rfl))))
    (dss_one (ds_ret (hd := de_bl)))
    (dss_nil))
    (dss_one (ds_ret (hd := de_isN (DE.toB (de_call (d_first_fall h) ok.toOkc (by rfl) (da_c (DO.toE (do_lc (js := [3]) ok.toOkc [("entry", 3)] s_is_lock.nd (di_seq (de_var (i := 0))) (fun _ _ _ _ _ => dg_name (i := 3) s_is_lock.nd (by rfl) (by first | exact .inl rfl | exact .inr rfl) (by decide)) (fun _ _ _ _ _ ok => dts_nil) (fun _ _ _ _ _ ok => de_item ok.hu (db_var (i := 3)) (DE.toB (de_int))))) (da_nil))))))))

theorem s_need_locks : FnScope ["locks", "houses", "start", "many", "index", "lock"] ["locks", "houses", "start", "many"] (defScope (top 41)) := ⟨rfl, rfl, rfl, by decide +kernel, rfl, by decide +kernel, by decide +kernel⟩
theorem d_need_locks (h : HF K mg base ci) : Fd PR w K mg base ci 9 "need_locks" .sh 4 m_need_locks :=
  fd_shL h.t_need_locks s_need_locks rfl rfl (fun _ _ _ _ _ _ us hl => match us, hl with | [_, _, _, _], _ => rfl) fun f cdv A outer s H E hl ok =>
    dss_cons (ds_if (dt_w (dw_or (dt_not (dt_val (de_call (d_is_list h) ok.toOkc (by rfl) (da_c (de_var (i := 0)) (da_nil))))) (dw_or1 (dt_ne ok.hu64 (DE.toB (de_len (by rfl) h.n_len (da_cB (db_var (i := 0)) (da_nil)))) (db_var (i := 3))))))
    (dss_one (ds_raise1 (k := 1) (ex_BadLocks h) ok (by rfl) (de_non)))
    (dss_nil))
    (dss_cons (ds_set (i := 4) s_need_locks.nd (de_fw (k := 6) h.fw ok.toOkc s_need_locks.nd (by rfl) hl (de_var (i := 0)) rfl (fun _ _ _ _ _ _ => rfl) (fun _ _ _ _ _ _ ok => de_call (d_is_lock h) ok (by rfl) (da_c (de_var (i := 5)) (da_c (de_var (i := 1)) (da_c (de_var (i := 2)) (da_nil))))) (by rfl)))
    (dss_one (ds_if (dt_notN (db_var (i := 4)))
    (dss_one (ds_raise1 (k := 1) (ex_BadLocks h) ok (by rfl) (de_var (i := 4))))
    (dss_nil))))

theorem s_init_Deal : FnScope ["self", "houses", "lags", "start", "gap", "arcs", "waits", "locks", "arc", "several", "lock", "entry"] ["self", "houses", "lags", "start", "gap", "arcs", "waits", "locks"] (defScope (meth 42 0)) := ⟨rfl, rfl, rfl, by decide +kernel, rfl, by decide +kernel, by decide +kernel⟩
theorem mk_Deal_ok (h : HF K mg base ci) : Mkd PR w K mg base ci 10 "Deal" 13 7 mk_Deal :=
  mkd_of h.mk_Deal s_init_Deal rfl rfl (fun _ _ _ _ _ _ us hl => match us, hl with | [_, _, _, _, _, _, _, _], _ => rfl) fun f cdv A outer s H E ok =>
    ins_cons (in_expr (de_call (d_need_houses h) ok.toOkc (by rfl) (da_c (de_var (i := 1)) (da_nil))))
    (ins_cons (in_expr (de_call (d_need_lags h) ok.toOkc (by rfl) (da_c (de_var (i := 2)) (da_nil))))
    (ins_cons (in_expr (de_call (d_need_start h) ok.toOkc (by rfl) (da_c (de_var (i := 3)) (da_nil))))
    (ins_cons (in_expr (de_call (d_need_gap h) ok.toOkc (by rfl) (da_c (de_var (i := 4)) (da_c (de_var (i := 2)) (da_nil)))))
    (ins_cons (in_expr (de_call (d_need_arcs h) ok.toOkc (by rfl) (da_c (de_var (i := 5)) (da_c (de_var (i := 1)) (da_c (de_len (by rfl) h.n_len (da_cB (db_var (i := 2)) (da_nil))) (da_c (de_int) (da_nil)))))))
    (ins_cons (in_expr (de_call (d_need_waits h) ok.toOkc (by rfl) (da_c (de_var (i := 6)) (da_c (de_var (i := 5)) (da_nil)))))
    (ins_cons (in_expr (de_call (d_need_locks h) ok.toOkc (by rfl) (da_c (de_var (i := 7)) (da_c (de_var (i := 1)) (da_c (de_var (i := 3)) (da_c (de_len (by rfl) h.n_len (da_cB (db_var (i := 5)) (da_nil))) (da_nil)))))))
    (ins_cons (in_fld h.fl_Deal_0.cls h.fl_Deal_0.no h.fl_Deal_0.at_ h.fl_Deal_0.nd (de_var (i := 1)))
    (ins_cons (in_fld h.fl_Deal_1.cls h.fl_Deal_1.no h.fl_Deal_1.at_ h.fl_Deal_1.nd (de_tuple (by rfl) h.n_tuple (da_cB (db_var (i := 2)) (da_nil))))
    (ins_cons (in_fld h.fl_Deal_2.cls h.fl_Deal_2.no h.fl_Deal_2.at_ h.fl_Deal_2.nd (de_var (i := 3)))
    (ins_cons (in_fld h.fl_Deal_3.cls h.fl_Deal_3.no h.fl_Deal_3.at_ h.fl_Deal_3.nd (de_var (i := 4)))
    (ins_cons (in_fld h.fl_Deal_4.cls h.fl_Deal_4.no h.fl_Deal_4.at_ h.fl_Deal_4.nd (de_tuple (by rfl) h.n_tuple (da_cB (DE.toB (DO.toE (do_lc (js := [8]) ok.toOkc [("arc", 8)] s_init_Deal.nd (di_seq (de_var (i := 5))) (fun _ _ _ _ _ => dg_name (i := 8) s_init_Deal.nd (by rfl) (by first | exact .inl rfl | exact .inr rfl) (by decide)) (fun _ _ _ _ _ ok => dts_nil) (fun _ _ _ _ _ ok => de_tuple (by rfl) h.n_tuple (da_cB (db_var (i := 8)) (da_nil)))))) (da_nil))))
    (ins_cons (in_fld h.fl_Deal_5.cls h.fl_Deal_5.no h.fl_Deal_5.at_ h.fl_Deal_5.nd (de_tuple (by rfl) h.n_tuple (da_cB (DE.toB (DO.toE (do_lc (js := [9]) ok.toOkc [("several", 9)] s_init_Deal.nd (di_seq (de_var (i := 6))) (fun _ _ _ _ _ => dg_name (i := 9) s_init_Deal.nd (by rfl) (by first | exact .inl rfl | exact .inr rfl) (by decide)) (fun _ _ _ _ _ ok => dts_nil) (fun _ _ _ _ _ ok => de_tuple (by rfl) h.n_tuple (da_cB (db_var (i := 9)) (da_nil)))))) (da_nil))))
    (ins_cons (in_fld h.fl_Deal_6.cls h.fl_Deal_6.no h.fl_Deal_6.at_ h.fl_Deal_6.nd (de_tuple (by rfl) h.n_tuple (da_cB (DE.toB (DO.toE (do_lc (js := [10]) ok.toOkc [("lock", 10)] s_init_Deal.nd (di_seq (de_var (i := 7))) (fun _ _ _ _ _ => dg_name (i := 10) s_init_Deal.nd (by rfl) (by first | exact .inl rfl | exact .inr rfl) (by decide)) (fun _ _ _ _ _ ok => dts_nil) (fun _ _ _ _ _ ok => de_tuple (by rfl) h.n_tuple (da_cB (DE.toB (DO.toE (do_lc (js := [11]) ok [("entry", 11)] s_init_Deal.nd (di_seq (de_var (i := 10))) (fun _ _ _ _ _ => dg_name (i := 11) s_init_Deal.nd (by rfl) (by first | exact .inl rfl | exact .inr rfl) (by decide)) (fun _ _ _ _ _ ok => dts_nil) (fun _ _ _ _ _ ok => de_tuple (by rfl) h.n_tuple (da_cB (db_var (i := 11)) (da_nil)))))) (da_nil)))))) (da_nil))))
    (ins_nil))))))))))))))

theorem s_need_deal : FnScope ["deal"] ["deal"] (defScope (top 43)) := ⟨rfl, rfl, rfl, by decide +kernel, rfl, by decide +kernel, by decide +kernel⟩
theorem d_need_deal (h : HF K mg base ci) : Fd PR w K mg base ci 1 "need_deal" .sh 1 m_need_deal :=
  fd_sh h.t_need_deal s_need_deal rfl rfl (fun _ _ _ _ _ _ us hl => match us, hl with | [_], _ => rfl) fun f cdv A outer s H E ok =>
    dss_one (ds_if (dt_not (dt_val (de_isi h.isf (by rfl) h.n_isinstance (db_var (i := 0)) (cl_own (by rfl) h.g_Deal))))
    (dss_one (ds_raise0 h.em_NoDeal ok (by rfl)))
    (dss_nil))

theorem s_need_house : FnScope ["deal", "house"] ["deal", "house"] (defScope (top 44)) := ⟨rfl, rfl, rfl, by decide +kernel, rfl, by decide +kernel, by decide +kernel⟩
theorem d_need_house (h : HF K mg base ci) : Fd PR w K mg base ci 3 "need_house" .sh 2 m_need_house :=
  fd_sh h.t_need_house s_need_house rfl rfl (fun _ _ _ _ _ _ us hl => match us, hl with | [_, _], _ => rfl) fun f cdv A outer s H E ok =>
    dss_one (ds_if (dt_not (dt_val (de_call (d_is_between h) ok.toOkc (by rfl) (da_c (de_var (i := 1)) (da_c (de_int) (da_c (de_sub (DE.toB (de_prop (pr_Deal_houses h) ok.toOkc (db_var (i := 0)))) (DE.toB (de_int))) (da_nil)))))))
    (dss_one (ds_raise1 (k := 1) (ex_BadHouse h) ok (by rfl) (de_non)))
    (dss_nil))

theorem s_need_arc : FnScope ["deal", "arc"] ["deal", "arc"] (defScope (top 45)) := ⟨rfl, rfl, rfl, by decide +kernel, rfl, by decide +kernel, by decide +kernel⟩
theorem d_need_arc (h : HF K mg base ci) : Fd PR w K mg base ci 3 "need_arc" .sh 2 m_need_arc :=
  fd_sh h.t_need_arc s_need_arc rfl rfl (fun _ _ _ _ _ _ us hl => match us, hl with | [_, _], _ => rfl) fun f cdv A outer s H E ok =>
    dss_one (ds_if (dt_not (dt_val (de_call (d_is_between h) ok.toOkc (by rfl) (da_c (de_var (i := 1)) (da_c (de_int) (da_c (de_sub (DE.toB (de_len (by rfl) h.n_len (da_cB (DE.toB (de_prop (pr_Deal_arcs h) ok.toOkc (db_var (i := 0)))) (da_nil)))) (DE.toB (de_int))) (da_nil)))))))
    (dss_one (ds_raise1 (k := 1) (ex_BadArc h) ok (by rfl) (de_non)))
    (dss_nil))

theorem s_giver_of : FnScope ["deal", "arc"] ["deal", "arc"] (defScope (top 46)) := ⟨rfl, rfl, rfl, by decide +kernel, rfl, by decide +kernel, by decide +kernel⟩
theorem d_giver_of (h : HF K mg base ci) : Fd PR w K mg base ci 3 "giver_of" .sh 2 m_giver_of :=
  fd_sh h.t_giver_of s_giver_of rfl rfl (fun _ _ _ _ _ _ us hl => match us, hl with | [_, _], _ => rfl) fun f cdv A outer s H E ok =>
    dss_one (ds_ret (hd := de_item ok.hu (DE.toB (de_item ok.hu (DE.toB (de_prop (pr_Deal_arcs h) ok.toOkc (db_var (i := 0)))) (db_var (i := 1)))) (DE.toB (de_int))))

theorem s_taker_of : FnScope ["deal", "arc"] ["deal", "arc"] (defScope (top 47)) := ⟨rfl, rfl, rfl, by decide +kernel, rfl, by decide +kernel, by decide +kernel⟩
theorem d_taker_of (h : HF K mg base ci) : Fd PR w K mg base ci 3 "taker_of" .sh 2 m_taker_of :=
  fd_sh h.t_taker_of s_taker_of rfl rfl (fun _ _ _ _ _ _ us hl => match us, hl with | [_, _], _ => rfl) fun f cdv A outer s H E ok =>
    dss_one (ds_ret (hd := de_item ok.hu (DE.toB (de_item ok.hu (DE.toB (de_prop (pr_Deal_arcs h) ok.toOkc (db_var (i := 0)))) (db_var (i := 1)))) (DE.toB (de_int))))

theorem s_lag_of : FnScope ["deal", "arc"] ["deal", "arc"] (defScope (top 48)) := ⟨rfl, rfl, rfl, by decide +kernel, rfl, by decide +kernel, by decide +kernel⟩
theorem d_lag_of (h : HF K mg base ci) : Fd PR w K mg base ci 3 "lag_of" .sh 2 m_lag_of :=
  fd_sh h.t_lag_of s_lag_of rfl rfl (fun _ _ _ _ _ _ us hl => match us, hl with | [_, _], _ => rfl) fun f cdv A outer s H E ok =>
    dss_one (ds_ret (hd := de_item ok.hu (DE.toB (de_prop (pr_Deal_lags h) ok.toOkc (db_var (i := 0)))) (DE.toB (de_item ok.hu (DE.toB (de_item ok.hu (DE.toB (de_prop (pr_Deal_arcs h) ok.toOkc (db_var (i := 0)))) (db_var (i := 1)))) (DE.toB (de_int))))))

theorem s_entry_of : FnScope ["deal", "arc", "house", "entry"] ["deal", "arc", "house"] (defScope (top 50)) := ⟨rfl, rfl, rfl, by decide +kernel, rfl, by decide +kernel, by decide +kernel⟩
theorem d_entry_of (h : HF K mg base ci) : Fd PR w K mg base ci 3 "entry_of" .sh 3 m_entry_of :=
  fd_sh h.t_entry_of s_entry_of rfl rfl (fun _ _ _ _ _ _ us hl => match us, hl with | [_, _, _], _ => rfl) fun f cdv A outer s H E ok =>
    dss_cons (ds_for (js := [3]) ok.own ok.calm (di_seq (de_item ok.hu (DE.toB (de_prop (pr_Deal_locks h) ok.toOkc (db_var (i := 0)))) (db_var (i := 1)))) (dg_name (i := 3) s_entry_of.nd (by rfl) (by first | exact .inl rfl | exact .inr rfl) (by decide))
    (dss_one (ds_if (dt_eq ok.hu64 (DE.toB (de_item ok.hu (db_var (i := 3)) (DE.toB (de_int)))) (db_var (i := 2)))
    (dss_one (ds_ret (hd := de_var (i := 3))))
    (dss_nil))))
    (dss_one (ds_ret (hd := de_non)))

theorem s_does_ask : FnScope ["deal", "arc", "house"] ["deal", "arc", "house"] (defScope (top 51)) := ⟨rfl, rfl, rfl, by decide +kernel, rfl, by decide +kernel, by decide +kernel⟩
theorem d_does_ask (h : HF K mg base ci) : Fd PR w K mg base ci 4 "does_ask" .sh 3 m_does_ask :=
  fd_sh h.t_does_ask s_does_ask rfl rfl (fun _ _ _ _ _ _ us hl => match us, hl with | [_, _, _], _ => rfl) fun f cdv A outer s H E ok =>
    dss_one (ds_ret (hd := de_notN (DE.toB (de_call (d_entry_of h) ok.toOkc (by rfl) (da_c (de_var (i := 0)) (da_c (de_var (i := 1)) (da_c (de_var (i := 2)) (da_nil))))))))

theorem s_last_of : FnScope ["deal", "arc", "house", "seals", "entry"] ["deal", "arc", "house", "seals"] (defScope (top 52)) := ⟨rfl, rfl, rfl, by decide +kernel, rfl, by decide +kernel, by decide +kernel⟩
theorem d_last_of (h : HF K mg base ci) : Fd PR w K mg base ci 4 "last_of" .sh 4 m_last_of :=
  fd_sh h.t_last_of s_last_of rfl rfl (fun _ _ _ _ _ _ us hl => match us, hl with | [_, _, _, _], _ => rfl) fun f cdv A outer s H E ok =>
    dss_cons (ds_set (i := 4) s_last_of.nd (de_call (d_entry_of h) ok.toOkc (by rfl) (da_c (de_var (i := 0)) (da_c (de_var (i := 1)) (da_c (de_var (i := 2)) (da_nil))))))
    (dss_one (ds_ret (hd := de_add (DE.toB (de_item ok.hu (db_var (i := 4)) (DE.toB (de_int)))) (DE.toB (de_mul (DE.toB (de_mul (DE.toB (de_item ok.hu (db_var (i := 4)) (DE.toB (de_int)))) (DE.toB (de_sub (db_var (i := 3)) (DE.toB (de_int)))))) (DE.toB (de_prop (pr_Deal_gap h) ok.toOkc (db_var (i := 0)))))))))

theorem s_last_tick : FnScope ["deal", "arc", "house", "seals"] ["deal", "arc", "house", "seals"] (defScope (top 53)) := ⟨rfl, rfl, rfl, by decide +kernel, rfl, by decide +kernel, by decide +kernel⟩
theorem d_last_tick (h : HF K mg base ci) : Fd PR w K mg base ci 5 "last_tick" .sh 4 m_last_tick :=
  fd_sh h.t_last_tick s_last_tick rfl rfl (fun _ _ _ _ _ _ us hl => match us, hl with | [_, _, _, _], _ => rfl) fun f cdv A outer s H E ok =>
    dss_cons (ds_expr (de_call (d_need_deal h) ok.toOkc (by rfl) (da_c (de_var (i := 0)) (da_nil))))
    (dss_cons (ds_expr (de_call (d_need_arc h) ok.toOkc (by rfl) (da_c (de_var (i := 0)) (da_c (de_var (i := 1)) (da_nil)))))
    (dss_cons (ds_expr (de_call (d_need_house h) ok.toOkc (by rfl) (da_c (de_var (i := 0)) (da_c (de_var (i := 2)) (da_nil)))))
    (dss_cons (ds_if (dt_not (dt_val (de_call (d_is_between h) ok.toOkc (by rfl) (da_c (de_var (i := 3)) (da_c (de_int) (da_c (de_prop (pr_Deal_houses h) ok.toOkc (db_var (i := 0))) (da_nil)))))))
    (dss_one (ds_raise1 (k := 1) (ex_BadSeals h) ok (by rfl) (de_non)))
    (dss_nil))
    (dss_one (ds_ret (hd := de_if (dt_val (de_call (d_does_ask h) ok.toOkc (by rfl) (da_c (de_var (i := 0)) (da_c (de_var (i := 1)) (da_c (de_var (i := 2)) (da_nil)))))) (de_call (d_last_of h) ok.toOkc (by rfl) (da_c (de_var (i := 0)) (da_c (de_var (i := 1)) (da_c (de_var (i := 2)) (da_c (de_var (i := 3)) (da_nil)))))) (de_non)))))))

theorem s_lengths_of : FnScope ["deal", "arc", "secret"] ["deal", "arc", "secret"] (defScope (top 55)) := ⟨rfl, rfl, rfl, by decide +kernel, rfl, by decide +kernel, by decide +kernel⟩
theorem d_lengths_of (h : HF K mg base ci) : Fd PR w K mg base ci 4 "lengths_of" .sh 3 m_lengths_of :=
  fd_sh h.t_lengths_of s_lengths_of rfl rfl (fun _ _ _ _ _ _ us hl => match us, hl with | [_, _, _], _ => rfl) fun f cdv A outer s H E ok =>
    dss_cons (ds_if (dt_eq ok.hu64 (DE.toB (de_call (d_taker_of h) ok.toOkc (by rfl) (da_c (de_var (i := 0)) (da_c (de_var (i := 1)) (da_nil))))) (db_var (i := 2)))
    (dss_one (ds_ret (hd := de_tup (da_c (de_int) (da_c (de_int) (da_nil))))))
    (dss_nil))
    (dss_one (ds_ret (hd := de_tup (da_c (de_int) (da_c (de_sub (DE.toB (de_prop (pr_Deal_houses h) ok.toOkc (db_var (i := 0)))) (DE.toB (de_int))) (da_nil))))))

theorem s_seal_lengths : FnScope ["deal", "arc", "secret"] ["deal", "arc", "secret"] (defScope (top 56)) := ⟨rfl, rfl, rfl, by decide +kernel, rfl, by decide +kernel, by decide +kernel⟩
theorem d_seal_lengths (h : HF K mg base ci) : Fd PR w K mg base ci 5 "seal_lengths" .sh 3 m_seal_lengths :=
  fd_sh h.t_seal_lengths s_seal_lengths rfl rfl (fun _ _ _ _ _ _ us hl => match us, hl with | [_, _, _], _ => rfl) fun f cdv A outer s H E ok =>
    dss_cons (ds_expr (de_call (d_need_deal h) ok.toOkc (by rfl) (da_c (de_var (i := 0)) (da_nil))))
    (dss_cons (ds_expr (de_call (d_need_arc h) ok.toOkc (by rfl) (da_c (de_var (i := 0)) (da_c (de_var (i := 1)) (da_nil)))))
    (dss_cons (ds_expr (de_call (d_need_house h) ok.toOkc (by rfl) (da_c (de_var (i := 0)) (da_c (de_var (i := 2)) (da_nil)))))
    (dss_cons (ds_if (dt_eq ok.hu64 (DE.toB (de_call (d_giver_of h) ok.toOkc (by rfl) (da_c (de_var (i := 0)) (da_c (de_var (i := 1)) (da_nil))))) (db_var (i := 2)))
    (dss_one (ds_raise1 (k := 1) (ex_BadHouse h) ok (by rfl) (de_non)))
    (dss_nil))
    (dss_one (ds_ret (hd := de_call (d_lengths_of h) ok.toOkc (by rfl) (da_c (de_var (i := 0)) (da_c (de_var (i := 1)) (da_c (de_var (i := 2)) (da_nil))))))))))

theorem s_seal_ticks : FnScope ["deal", "arc", "secret", "seals"] ["deal", "arc", "secret", "seals"] (defScope (top 58)) := ⟨rfl, rfl, rfl, by decide +kernel, rfl, by decide +kernel, by decide +kernel⟩
theorem d_seal_ticks (h : HF K mg base ci) : Fd PR w K mg base ci 5 "seal_ticks" .sh 4 m_seal_ticks :=
  fd_sh h.t_seal_ticks s_seal_ticks rfl rfl (fun _ _ _ _ _ _ us hl => match us, hl with | [_, _, _, _], _ => rfl) fun f cdv A outer s H E ok =>
    dss_one (ds_ret (hd := de_sub (DE.toB (de_call (d_last_of h) ok.toOkc (by rfl) (da_c (de_var (i := 0)) (da_c (de_var (i := 1)) (da_c (de_var (i := 2)) (da_c (de_var (i := 3)) (da_nil))))))) (DE.toB (de_call (d_last_of h) ok.toOkc (by rfl) (da_c (de_var (i := 0)) (da_c (de_var (i := 1)) (da_c (de_var (i := 2)) (da_c (de_int) (da_nil)))))))))

theorem s_bound_of : FnScope ["deal", "taken", "given", "secret", "low", "high", "steps", "seals"] ["deal", "taken", "given", "secret"] (defScope (top 59)) := ⟨rfl, rfl, rfl, by decide +kernel, rfl, by decide +kernel, by decide +kernel⟩
theorem d_bound_of (h : HF K mg base ci) : Fd PR w K mg base ci 6 "bound_of" .sh 4 m_bound_of :=
  fd_sh h.t_bound_of s_bound_of rfl rfl (fun _ _ _ _ _ _ us hl => match us, hl with | [_, _, _, _], _ => rfl) fun f cdv A outer s H E ok =>
    dss_cons (ds_asg (js := [4, 5]) (de_call (d_lengths_of h) ok.toOkc (by rfl) (da_c (de_var (i := 0)) (da_c (de_var (i := 2)) (da_c (de_var (i := 3)) (da_nil))))) (dg_tup (k := _) ok.calm (dgs_cons (dg_name (i := 4) s_bound_of.nd (by rfl) (by first | exact .inl rfl | exact .inr rfl) (by decide)) (dgs_cons (dg_name (i := 5) s_bound_of.nd (by rfl) (by first | exact .inl rfl | exact .inr rfl) (by decide)) (dgs_nil)))))
    (dss_cons (ds_setLc (i := 6) (js := [7]) ok.toOkc [("seals", 7)] s_bound_of.nd (di_range2 (by rfl) h.n_range (db_var (i := 4)) (DE.toB (de_add (db_var (i := 5)) (DE.toB (de_int))))) (fun _ _ _ _ _ => dg_name (i := 7) s_bound_of.nd (by rfl) (by first | exact .inl rfl | exact .inr rfl) (by decide)) (fun _ _ _ _ _ ok => dts_nil) (fun _ _ _ _ _ ok => de_sub (DE.toB (de_call (d_seal_ticks h) ok (by rfl) (da_c (de_var (i := 0)) (da_c (de_var (i := 2)) (da_c (de_var (i := 3)) (da_c (de_var (i := 7)) (da_nil))))))) (DE.toB (de_call (d_seal_ticks h) ok (by rfl) (da_c (de_var (i := 0)) (da_c (de_var (i := 1)) (da_c (de_var (i := 3)) (da_c (de_add (db_var (i := 7)) (DE.toB (de_int))) (da_nil)))))))))
    (dss_one (ds_ret (hd := de_add (DE.toB (de_max ok.calm (by rfl) h.n_max (da_cB (db_var (i := 6)) (da_nil)))) (DE.toB (de_call (d_lag_of h) ok.toOkc (by rfl) (da_c (de_var (i := 0)) (da_c (de_var (i := 2)) (da_nil)))))))))

theorem s_need_given : FnScope ["deal", "taken", "given"] ["deal", "taken", "given"] (defScope (top 60)) := ⟨rfl, rfl, rfl, by decide +kernel, rfl, by decide +kernel, by decide +kernel⟩
theorem d_need_given (h : HF K mg base ci) : Fd PR w K mg base ci 4 "need_given" .sh 3 m_need_given :=
  fd_sh h.t_need_given s_need_given rfl rfl (fun _ _ _ _ _ _ us hl => match us, hl with | [_, _, _], _ => rfl) fun f cdv A outer s H E ok =>
    dss_cons (ds_expr (de_call (d_need_arc h) ok.toOkc (by rfl) (da_c (de_var (i := 0)) (da_c (de_var (i := 2)) (da_nil)))))
    (dss_one (ds_if (dt_ne ok.hu64 (DE.toB (de_call (d_giver_of h) ok.toOkc (by rfl) (da_c (de_var (i := 0)) (da_c (de_var (i := 2)) (da_nil))))) (DE.toB (de_call (d_taker_of h) ok.toOkc (by rfl) (da_c (de_var (i := 0)) (da_c (de_var (i := 1)) (da_nil))))))
    (dss_one (ds_raise1 (k := 1) (ex_BadArc h) ok (by rfl) (de_non)))
    (dss_nil)))

theorem s_need_handed : FnScope ["deal", "taken", "given", "secret"] ["deal", "taken", "given", "secret"] (defScope (top 61)) := ⟨rfl, rfl, rfl, by decide +kernel, rfl, by decide +kernel, by decide +kernel⟩
theorem d_need_handed (h : HF K mg base ci) : Fd PR w K mg base ci 5 "need_handed" .sh 4 m_need_handed :=
  fd_sh h.t_need_handed s_need_handed rfl rfl (fun _ _ _ _ _ _ us hl => match us, hl with | [_, _, _, _], _ => rfl) fun f cdv A outer s H E ok =>
    dss_cons (ds_if (dt_w (dw_or (dt_not (dt_val (de_call (d_is_between h) ok.toOkc (by rfl) (da_c (de_var (i := 3)) (da_c (de_int) (da_c (de_sub (DE.toB (de_prop (pr_Deal_houses h) ok.toOkc (db_var (i := 0)))) (DE.toB (de_int))) (da_nil))))))) (dw_or1 (dt_eq ok.hu64 (db_var (i := 3)) (DE.toB (de_call (d_taker_of h) ok.toOkc (by rfl) (da_c (de_var (i := 0)) (da_c (de_var (i := 1)) (da_nil)))))))))
    (dss_one (ds_raise1 (k := 1) (ex_BadHouse h) ok (by rfl) (de_non)))
    (dss_nil))
    (dss_one (ds_if (dt_w (dw_or (dt_not (dt_val (de_call (d_does_ask h) ok.toOkc (by rfl) (da_c (de_var (i := 0)) (da_c (de_var (i := 1)) (da_c (de_var (i := 3)) (da_nil))))))) (dw_or1 (dt_not (dt_val (de_call (d_does_ask h) ok.toOkc (by rfl) (da_c (de_var (i := 0)) (da_c (de_var (i := 2)) (da_c (de_var (i := 3)) (da_nil))))))))))
    (dss_one (ds_raise1 (k := 1) (ex_BadHouse h) ok (by rfl) (de_non)))
    (dss_nil)))

theorem s_bound : FnScope ["deal", "taken", "given", "secret"] ["deal", "taken", "given", "secret"] (defScope (top 62)) := ⟨rfl, rfl, rfl, by decide +kernel, rfl, by decide +kernel, by decide +kernel⟩
theorem d_bound (h : HF K mg base ci) : Fd PR w K mg base ci 7 "bound" .sh 4 m_bound :=
  fd_sh h.t_bound s_bound rfl rfl (fun _ _ _ _ _ _ us hl => match us, hl with | [_, _, _, _], _ => rfl) fun f cdv A outer s H E ok =>
    dss_cons (ds_expr (de_call (d_need_deal h) ok.toOkc (by rfl) (da_c (de_var (i := 0)) (da_nil))))
    (dss_cons (ds_expr (de_call (d_need_arc h) ok.toOkc (by rfl) (da_c (de_var (i := 0)) (da_c (de_var (i := 1)) (da_nil)))))
    (dss_cons (ds_expr (de_call (d_need_given h) ok.toOkc (by rfl) (da_c (de_var (i := 0)) (da_c (de_var (i := 1)) (da_c (de_var (i := 2)) (da_nil))))))
    (dss_cons (ds_expr (de_call (d_need_handed h) ok.toOkc (by rfl) (da_c (de_var (i := 0)) (da_c (de_var (i := 1)) (da_c (de_var (i := 2)) (da_c (de_var (i := 3)) (da_nil)))))))
    (dss_one (ds_ret (hd := de_call (d_bound_of h) ok.toOkc (by rfl) (da_c (de_var (i := 0)) (da_c (de_var (i := 1)) (da_c (de_var (i := 2)) (da_c (de_var (i := 3)) (da_nil)))))))))))
theorem dk0_bound (h : HF K mg base ci) : Fk PR w K mg base ci 7 "bound" .sh ["secret", "given", "taken", "deal"] [3, 2, 1, 0] m_bound :=
  (fdk_sh h.t_bound s_bound rfl rfl (List.cons_ne_nil _ _) ["secret", "given", "taken", "deal"] [3, 2, 1, 0] (fun _ _ _ _ _ _ us hl => match us, hl with | [_, _, _, _], _ => rfl) (fun _ _ _ _ _ _ ws hl => match ws, hl with | _ :: _ :: _ :: _ :: _, _ => rfl) (fun f cdv A outer s H E ok =>
    dss_cons (ds_expr (de_call (d_need_deal h) ok.toOkc (by rfl) (da_c (de_var (i := 0)) (da_nil))))
    (dss_cons (ds_expr (de_call (d_need_arc h) ok.toOkc (by rfl) (da_c (de_var (i := 0)) (da_c (de_var (i := 1)) (da_nil)))))
    (dss_cons (ds_expr (de_call (d_need_given h) ok.toOkc (by rfl) (da_c (de_var (i := 0)) (da_c (de_var (i := 1)) (da_c (de_var (i := 2)) (da_nil))))))
    (dss_cons (ds_expr (de_call (d_need_handed h) ok.toOkc (by rfl) (da_c (de_var (i := 0)) (da_c (de_var (i := 1)) (da_c (de_var (i := 2)) (da_c (de_var (i := 3)) (da_nil)))))))
    (dss_one (ds_ret (hd := de_call (d_bound_of h) ok.toOkc (by rfl) (da_c (de_var (i := 0)) (da_c (de_var (i := 1)) (da_c (de_var (i := 2)) (da_c (de_var (i := 3)) (da_nil))))))))))))).2

theorem s_law_begun : FnScope ["script", "great", "cell"] ["script"] (defScope (top 64)) := ⟨rfl, rfl, rfl, by decide +kernel, rfl, by decide +kernel, by decide +kernel⟩
theorem bg_ok (h : HF K mg base ci) (hm : BgM 3 dg_begun dc_begun) : FnBg PR w K mg base ci 1 :=
  fn_begun h.t_law_begun s_law_begun rfl rfl (by decide +kernel) (fun _ _ _ _ _ _ us hl => match us, hl with | [_], _ => rfl) ⟨0, 0, 0, 0, 0, 0, _, _, _, _, _, _, _, _, _, rfl⟩
    (fun f cdv A outer s H E ok => ds_ownLc (i := 1) (js := [2]) ok.toOkc [("cell", 2)] s_law_begun.nd (di_seq (de_var (i := 0))) (fun _ _ _ _ _ => dg_name (i := 2) s_law_begun.nd (by rfl) (by first | exact .inl rfl | exact .inr rfl) (by decide)) (fun _ _ _ _ _ ok => dts_one (dt_ge (DE.toB (de_abs (by rfl) h.n_abs (da_cB (db_var (i := 2)) (da_nil)))) (DE.toB (de_pow (DE.toB (de_int)) (DE.toB (de_int)))))) (fun _ _ _ _ _ ok => de_sub (DE.toB (de_abs (by rfl) h.n_abs (da_cB (db_var (i := 2)) (da_nil)))) (DE.toB (de_pow (DE.toB (de_int)) (DE.toB (de_int))))))
    (fun f cdv A outer s H E ok => do_lc (js := [2]) ok.toOkc [("cell", 2)] s_law_begun.nd (di_seq (de_var (i := 0))) (fun _ _ _ _ _ => dg_name (i := 2) s_law_begun.nd (by rfl) (by first | exact .inl rfl | exact .inr rfl) (by decide)) (fun _ _ _ _ _ ok => dts_nil) (fun _ _ _ _ _ ok => de_abs (by rfl) h.n_abs (da_cB (db_var (i := 2)) (da_nil)))) hm

theorem s_law_pick : FnScope ["state", "some"] ["state", "some"] (defScope (top 67)) := ⟨rfl, rfl, rfl, by decide +kernel, rfl, by decide +kernel, by decide +kernel⟩
theorem d_law_pick (h : HF K mg base ci) : Fd PR w K mg base ci 3 "_law_pick" .sh 2 m_law_pick :=
  fd_sh h.t_law_pick s_law_pick rfl rfl (fun _ _ _ _ _ _ us hl => match us, hl with | [_, _], _ => rfl) fun f cdv A outer s H E ok =>
    dss_one (ds_ret (hd := de_item ok.hu (db_var (i := 1)) (DE.toB (de_call (d_law_draw h) ok.toOkc (by rfl) (da_c (de_var (i := 0)) (da_c (de_len (by rfl) h.n_len (da_cB (db_var (i := 1)) (da_nil))) (da_nil)))))))

theorem s_law_shuffled : FnScope ["state", "some", "left", "found"] ["state", "some"] (defScope (top 68)) := ⟨rfl, rfl, rfl, by decide +kernel, rfl, by decide +kernel, by decide +kernel⟩
theorem d_law_shuffled (h : HF K mg base ci) : Fd PR w K mg base ci 3 "_law_shuffled" .sh 2 m_law_shuffled :=
  fd_sh h.t_law_shuffled s_law_shuffled rfl rfl (fun _ _ _ _ _ _ us hl => match us, hl with | [_, _], _ => rfl) fun f cdv A outer s H E ok =>
    dss_cons (ds_par2 (i := 2) (j := 3) ok.calm s_law_shuffled.nd (dam_ow (do_list (by rfl) h.n_list (da_cB (db_var (i := 1)) (da_nil))) (dam_ow (do_lst (da_nil)) (dam_nil))))
    (dss_cons (ds_while ok.own (dt_ne ok.hu64 (db_var (i := 2)) (DE.toB (DO.toE (do_lst (da_nil)))))
    (dss_one (ds_appendPop (j := 3) (i := 2) (de_call (d_law_draw h) ok.toOkc (by rfl) (da_c (de_var (i := 0)) (da_c (de_len (by rfl) h.n_len (da_cB (db_var (i := 2)) (da_nil))) (da_nil)))))) wN)
    (dss_one (ds_retOw (i := 3))))

theorem s_law_part : FnScope ["state", "some", "room", "item"] ["state", "some", "room"] (defScope (top 69)) := ⟨rfl, rfl, rfl, by decide +kernel, rfl, by decide +kernel, by decide +kernel⟩
theorem d_law_part (h : HF K mg base ci) : Fd PR w K mg base ci 3 "_law_part" .sh 3 m_law_part :=
  fd_sh h.t_law_part s_law_part rfl rfl (fun _ _ _ _ _ _ us hl => match us, hl with | [_, _, _], _ => rfl) fun f cdv A outer s H E ok =>
    dss_one (ds_ret (hd := DO.toE (do_lc (js := [3]) ok.toOkc [("item", 3)] s_law_part.nd (di_seq (de_var (i := 1))) (fun _ _ _ _ _ => dg_name (i := 3) s_law_part.nd (by rfl) (by first | exact .inl rfl | exact .inr rfl) (by decide)) (fun _ _ _ _ _ ok => dts_one (dt_gt (DE.toB (de_call (d_law_draw h) ok (by rfl) (da_c (de_var (i := 0)) (da_c (de_var (i := 2)) (da_nil))))) (DE.toB (de_int)))) (fun _ _ _ _ _ ok => de_var (i := 3)))))

theorem s_law_is_truth : FnScope ["found", "due"] ["found", "due"] (defScope (top 71)) := ⟨rfl, rfl, rfl, by decide +kernel, rfl, by decide +kernel, by decide +kernel⟩
theorem d_law_is_truth (h : HF K mg base ci) : Fd PR w K mg base ci 1 "_law_is_truth" .sh 2 m_law_is_truth :=
  fd_sh h.t_law_is_truth s_law_is_truth rfl rfl (fun _ _ _ _ _ _ us hl => match us, hl with | [_, _], _ => rfl) fun f cdv A outer s H E ok =>
    dss_one (ds_ret (hd := de_if (dt_val (de_var (i := 1))) (de_isB (db_var (i := 0)) (DE.toB (de_bl))) (de_isB (db_var (i := 0)) (DE.toB (de_bl)))))

theorem s_law_same : FnScope ["found", "due", "waiting", "one", "other", "kinds_here", "left", "right"] ["found", "due"] (defScope (top 72)) := ⟨rfl, rfl, rfl, by decide +kernel, rfl, by decide +kernel, by decide +kernel⟩
theorem d_law_same (h : HF K mg base ci) : Fd PR w K mg base ci 2 "_law_same" .sh 2 m_law_same :=
  fd_sh h.t_law_same s_law_same rfl rfl (fun _ _ _ _ _ _ us hl => match us, hl with | [_, _], _ => rfl) fun f cdv A outer s H E ok =>
    dss_cons (ds_own (i := 2) s_law_same.nd (do_lst (da_c (de_tup (da_c (de_var (i := 0)) (da_c (de_var (i := 1)) (da_nil)))) (da_nil))))
    (dss_cons (ds_while ok.own (dt_ne ok.hu64 (db_var (i := 2)) (DE.toB (DO.toE (do_lst (da_nil)))))
    (dss_cons (ds_pop (js := [3, 4]) (i := 2) (dg_tup (k := _) ok.calm (dgs_cons (dg_name (i := 3) s_law_same.nd (by rfl) (by first | exact .inl rfl | exact .inr rfl) (by decide)) (dgs_cons (dg_name (i := 4) s_law_same.nd (by rfl) (by first | exact .inl rfl | exact .inr rfl) (by decide)) (dgs_nil)))))
    (dss_one (ds_if (dt_w (dw_or (dt_isN (db_var (i := 4))) (dw_or1 (dt_val (de_isi h.isf (by rfl) h.n_isinstance (db_var (i := 4)) (cl_bool (by rfl) h.n_bool))))))
    (dss_one (ds_if (dt_if (dt_isN (db_var (i := 4))) (dt_notN (db_var (i := 3))) (dt_not (dt_val (de_call (d_law_is_truth h) ok.toOkc (by rfl) (da_c (de_var (i := 3)) (da_c (de_var (i := 4)) (da_nil)))))))
    (dss_one (ds_ret (hd := de_bl)))
    (dss_nil)))
    (dss_one (ds_if (dt_val (de_isi2 h.isf (by rfl) h.n_isinstance (db_var (i := 4)) (cl_int (by rfl) h.n_int) (cl_str (by rfl) h.n_str)))
    (dss_one (ds_if (dt_w (dw_or (dt_val (de_isi h.isf (by rfl) h.n_isinstance (db_var (i := 3)) (cl_bool (by rfl) h.n_bool))) (dw_or (dt_ne ok.hu64 (DE.toB (de_isi h.isf (by rfl) h.n_isinstance (db_var (i := 3)) (cl_int (by rfl) h.n_int))) (DE.toB (de_isi h.isf (by rfl) h.n_isinstance (db_var (i := 4)) (cl_int (by rfl) h.n_int)))) (dw_or1 (dt_ne ok.hu64 (db_var (i := 3)) (db_var (i := 4)))))))
    (dss_one (ds_ret (hd := de_bl)))
    (dss_nil)))
    (dss_cons (ds_set (i := 5) s_law_same.nd (DO.toE (do_lst (da_c (de_and (de_isi h.isf (by rfl) h.n_isinstance (db_var (i := 3)) (cl_tuple (by rfl) h.n_tuple)) (de_one (de_isi h.isf (by rfl) h.n_isinstance (db_var (i := 4)) (cl_tuple (by rfl) h.n_tuple)))) (da_c (de_and (de_isi h.isf (by rfl) h.n_isinstance (db_var (i := 3)) (cl_list (by rfl) h.n_list)) (de_one (de_isi h.isf (by rfl) h.n_isinstance (db_var (i := 4)) (cl_list (by rfl) h.n_list)))) (da_nil))))))
    (dss_cons (ds_if (dt_w (dw_or (dt_nin ok.hu65 (DE.toB (de_bl)) (db_var (i := 5))) (dw_or1 (dt_ne ok.hu64 (DE.toB (de_len (by rfl) h.n_len (da_cB (db_var (i := 3)) (da_nil)))) (DE.toB (de_len (by rfl) h.n_len (da_cB (db_var (i := 4)) (da_nil))))))))
    (dss_one (ds_ret (hd := de_bl)))
    (dss_nil))
    (dss_one (ds_extend (i := 2) (DO.toE (do_lc (js := [6, 7]) ok.toOkc [("left", 6), ("right", 7)] s_law_same.nd (di_zip (by rfl) h.n_zip (de_var (i := 3)) (de_var (i := 4))) (fun _ _ _ _ _ => dg_tup (k := _) ok.calm (dgs_cons (dg_name (i := 6) s_law_same.nd (by rfl) (by first | exact .inl rfl | exact .inr rfl) (by decide)) (dgs_cons (dg_name (i := 7) s_law_same.nd (by rfl) (by first | exact .inl rfl | exact .inr rfl) (by decide)) (dgs_nil)))) (fun _ _ _ _ _ ok => dts_nil) (fun _ _ _ _ _ ok => de_tup (da_c (de_var (i := 6)) (da_c (de_var (i := 7)) (da_nil))))))))))))))) wN)
    (dss_one (ds_ret (hd := de_bl))))

theorem s_law_made : FnScope ["parts", "houses", "lags", "start", "gap", "arcs", "waits", "locks"] ["parts"] (defScope (top 73)) := ⟨rfl, rfl, rfl, by decide +kernel, rfl, by decide +kernel, by decide +kernel⟩
theorem d_law_made (h : HF K mg base ci) : Fd PR w K mg base ci 12 "_law_made" .sh 1 m_law_made :=
  fd_sh h.t_law_made s_law_made rfl rfl (fun _ _ _ _ _ _ us hl => match us, hl with | [_], _ => rfl) fun f cdv A outer s H E ok =>
    dss_cons (ds_asg (js := [1, 2, 3, 4, 5, 6, 7]) (de_var (i := 0)) (dg_tup (k := _) ok.calm (dgs_cons (dg_name (i := 1) s_law_made.nd (by rfl) (by first | exact .inl rfl | exact .inr rfl) (by decide)) (dgs_cons (dg_name (i := 2) s_law_made.nd (by rfl) (by first | exact .inl rfl | exact .inr rfl) (by decide)) (dgs_cons (dg_name (i := 3) s_law_made.nd (by rfl) (by first | exact .inl rfl | exact .inr rfl) (by decide)) (dgs_cons (dg_name (i := 4) s_law_made.nd (by rfl) (by first | exact .inl rfl | exact .inr rfl) (by decide)) (dgs_cons (dg_name (i := 5) s_law_made.nd (by rfl) (by first | exact .inl rfl | exact .inr rfl) (by decide)) (dgs_cons (dg_name (i := 6) s_law_made.nd (by rfl) (by first | exact .inl rfl | exact .inr rfl) (by decide)) (dgs_cons (dg_name (i := 7) s_law_made.nd (by rfl) (by first | exact .inl rfl | exact .inr rfl) (by decide)) (dgs_nil))))))))))
    (dss_one (ds_ret (hd := DO.toE (do_make (mk_Deal_ok h) ok.toOkc (by rfl) (da_c (de_var (i := 1)) (da_c (de_var (i := 2)) (da_c (de_var (i := 3)) (da_c (de_var (i := 4)) (da_c (de_var (i := 5)) (da_c (de_var (i := 6)) (da_c (de_var (i := 7)) (da_nil))))))))))))

theorem s_law_into : FnScope ["arcs", "house", "arc", "row"] ["arcs", "house"] (defScope (top 74)) := ⟨rfl, rfl, rfl, by decide +kernel, rfl, by decide +kernel, by decide +kernel⟩
theorem d_law_into (h : HF K mg base ci) : Fd PR w K mg base ci 1 "_law_into" .sh 2 m_law_into :=
  fd_sh h.t_law_into s_law_into rfl rfl (fun _ _ _ _ _ _ us hl => match us, hl with | [_, _], _ => rfl) fun f cdv A outer s H E ok =>
    dss_one (ds_ret (hd := DO.toE (do_lc (js := [2, 3]) ok.toOkc [("arc", 2), ("row", 3)] s_law_into.nd (di_enum (by rfl) h.n_enumerate (de_var (i := 0))) (fun _ _ _ _ _ => dg_tup (k := _) ok.calm (dgs_cons (dg_name (i := 2) s_law_into.nd (by rfl) (by first | exact .inl rfl | exact .inr rfl) (by decide)) (dgs_cons (dg_name (i := 3) s_law_into.nd (by rfl) (by first | exact .inl rfl | exact .inr rfl) (by decide)) (dgs_nil)))) (fun _ _ _ _ _ ok => dts_one (dt_eq ok.hu64 (DE.toB (de_item ok.hu (db_var (i := 3)) (DE.toB (de_int)))) (db_var (i := 1)))) (fun _ _ _ _ _ ok => de_var (i := 2)))))

theorem s_law_out : FnScope ["arcs", "house", "arc", "row"] ["arcs", "house"] (defScope (top 75)) := ⟨rfl, rfl, rfl, by decide +kernel, rfl, by decide +kernel, by decide +kernel⟩
theorem d_law_out (h : HF K mg base ci) : Fd PR w K mg base ci 1 "_law_out" .sh 2 m_law_out :=
  fd_sh h.t_law_out s_law_out rfl rfl (fun _ _ _ _ _ _ us hl => match us, hl with | [_, _], _ => rfl) fun f cdv A outer s H E ok =>
    dss_one (ds_ret (hd := DO.toE (do_lc (js := [2, 3]) ok.toOkc [("arc", 2), ("row", 3)] s_law_out.nd (di_enum (by rfl) h.n_enumerate (de_var (i := 0))) (fun _ _ _ _ _ => dg_tup (k := _) ok.calm (dgs_cons (dg_name (i := 2) s_law_out.nd (by rfl) (by first | exact .inl rfl | exact .inr rfl) (by decide)) (dgs_cons (dg_name (i := 3) s_law_out.nd (by rfl) (by first | exact .inl rfl | exact .inr rfl) (by decide)) (dgs_nil)))) (fun _ _ _ _ _ ok => dts_one (dt_eq ok.hu64 (DE.toB (de_item ok.hu (db_var (i := 3)) (DE.toB (de_int)))) (db_var (i := 1)))) (fun _ _ _ _ _ ok => de_var (i := 2)))))

theorem s_law_lag : FnScope ["parts", "arc"] ["parts", "arc"] (defScope (top 76)) := ⟨rfl, rfl, rfl, by decide +kernel, rfl, by decide +kernel, by decide +kernel⟩
theorem d_law_lag (h : HF K mg base ci) : Fd PR w K mg base ci 1 "_law_lag" .sh 2 m_law_lag :=
  fd_sh h.t_law_lag s_law_lag rfl rfl (fun _ _ _ _ _ _ us hl => match us, hl with | [_, _], _ => rfl) fun f cdv A outer s H E ok =>
    dss_one (ds_ret (hd := de_item ok.hu (DE.toB (de_item ok.hu (db_var (i := 0)) (DE.toB (de_int)))) (DE.toB (de_item ok.hu (DE.toB (de_item ok.hu (DE.toB (de_item ok.hu (db_var (i := 0)) (DE.toB (de_int)))) (db_var (i := 1)))) (DE.toB (de_int))))))

theorem s_law_asked : FnScope ["parts", "arc", "entry"] ["parts", "arc"] (defScope (top 77)) := ⟨rfl, rfl, rfl, by decide +kernel, rfl, by decide +kernel, by decide +kernel⟩
theorem d_law_asked (h : HF K mg base ci) : Fd PR w K mg base ci 1 "_law_asked" .sh 2 m_law_asked :=
  fd_sh h.t_law_asked s_law_asked rfl rfl (fun _ _ _ _ _ _ us hl => match us, hl with | [_, _], _ => rfl) fun f cdv A outer s H E ok =>
    dss_one (ds_ret (hd := DO.toE (do_lc (js := [2]) ok.toOkc [("entry", 2)] s_law_asked.nd (di_seq (de_item ok.hu (DE.toB (de_item ok.hu (db_var (i := 0)) (DE.toB (de_int)))) (db_var (i := 1)))) (fun _ _ _ _ _ => dg_name (i := 2) s_law_asked.nd (by rfl) (by first | exact .inl rfl | exact .inr rfl) (by decide)) (fun _ _ _ _ _ ok => dts_nil) (fun _ _ _ _ _ ok => de_item ok.hu (db_var (i := 2)) (DE.toB (de_int))))))

theorem s_law_entry : FnScope ["parts", "arc", "house", "entry"] ["parts", "arc", "house"] (defScope (top 78)) := ⟨rfl, rfl, rfl, by decide +kernel, rfl, by decide +kernel, by decide +kernel⟩
theorem d_law_entry (h : HF K mg base ci) : Fd PR w K mg base ci 1 "_law_entry" .sh 3 m_law_entry :=
  fd_sh h.t_law_entry s_law_entry rfl rfl (fun _ _ _ _ _ _ us hl => match us, hl with | [_, _, _], _ => rfl) fun f cdv A outer s H E ok =>
    dss_one (ds_ret (hd := de_item ok.hu (DE.toB (DO.toE (do_lc (js := [3]) ok.toOkc [("entry", 3)] s_law_entry.nd (di_seq (de_item ok.hu (DE.toB (de_item ok.hu (db_var (i := 0)) (DE.toB (de_int)))) (db_var (i := 1)))) (fun _ _ _ _ _ => dg_name (i := 3) s_law_entry.nd (by rfl) (by first | exact .inl rfl | exact .inr rfl) (by decide)) (fun _ _ _ _ _ ok => dts_one (dt_eq ok.hu64 (DE.toB (de_item ok.hu (db_var (i := 3)) (DE.toB (de_int)))) (db_var (i := 2)))) (fun _ _ _ _ _ ok => de_var (i := 3))))) (DE.toB (de_int))))

theorem s_law_last : FnScope ["parts", "arc", "house", "seals", "told", "last", "sealed"] ["parts", "arc", "house", "seals"] (defScope (top 79)) := ⟨rfl, rfl, rfl, by decide +kernel, rfl, by decide +kernel, by decide +kernel⟩
theorem d_law_last (h : HF K mg base ci) : Fd PR w K mg base ci 2 "_law_last" .sh 4 m_law_last :=
  fd_sh h.t_law_last s_law_last rfl rfl (fun _ _ _ _ _ _ us hl => match us, hl with | [_, _, _, _], _ => rfl) fun f cdv A outer s H E ok =>
    dss_cons (ds_asg (js := [4, 5, 6]) (de_call (d_law_entry h) ok.toOkc (by rfl) (da_c (de_var (i := 0)) (da_c (de_var (i := 1)) (da_c (de_var (i := 2)) (da_nil))))) (dg_tup (k := _) ok.calm (dgs_cons (dg_name (i := 4) s_law_last.nd (by rfl) (by first | exact .inl rfl | exact .inr rfl) (by decide)) (dgs_cons (dg_name (i := 5) s_law_last.nd (by rfl) (by first | exact .inl rfl | exact .inr rfl) (by decide)) (dgs_cons (dg_name (i := 6) s_law_last.nd (by rfl) (by first | exact .inl rfl | exact .inr rfl) (by decide)) (dgs_nil))))))
    (dss_one (ds_ret (hd := de_add (db_var (i := 5)) (DE.toB (de_mul (DE.toB (de_mul (DE.toB (de_sub (db_var (i := 3)) (DE.toB (de_int)))) (DE.toB (de_item ok.hu (db_var (i := 0)) (DE.toB (de_int)))))) (db_var (i := 6)))))))

theorem s_law_lengths : FnScope ["parts", "arc", "secret"] ["parts", "arc", "secret"] (defScope (top 80)) := ⟨rfl, rfl, rfl, by decide +kernel, rfl, by decide +kernel, by decide +kernel⟩
theorem d_law_lengths (h : HF K mg base ci) : Fd PR w K mg base ci 1 "_law_lengths" .sh 3 m_law_lengths :=
  fd_sh h.t_law_lengths s_law_lengths rfl rfl (fun _ _ _ _ _ _ us hl => match us, hl with | [_, _, _], _ => rfl) fun f cdv A outer s H E ok =>
    dss_one (ds_ret (hd := de_if (dt_eq ok.hu64 (DE.toB (de_item ok.hu (DE.toB (de_item ok.hu (DE.toB (de_item ok.hu (db_var (i := 0)) (DE.toB (de_int)))) (db_var (i := 1)))) (DE.toB (de_int)))) (db_var (i := 2))) (DO.toE (do_lst (da_c (de_int) (da_nil)))) (DO.toE (do_lrng2 ok.calm (by rfl) h.n_list (by rfl) h.n_range (DE.toB (de_int)) (DE.toB (de_item ok.hu (db_var (i := 0)) (DE.toB (de_int))))))))

theorem s_law_lags : FnScope ["state", "found", "book"] ["state"] (defScope (top 81)) := ⟨rfl, rfl, rfl, by decide +kernel, rfl, by decide +kernel, by decide +kernel⟩
theorem d_law_lags (h : HF K mg base ci) : Fd PR w K mg base ci 3 "_law_lags" .sh 1 m_law_lags :=
  fd_sh h.t_law_lags s_law_lags rfl rfl (fun _ _ _ _ _ _ us hl => match us, hl with | [_], _ => rfl) fun f cdv A outer s H E ok =>
    dss_cons (ds_ownLc (i := 1) (js := [2]) ok.toOkc [("book", 2)] s_law_lags.nd (di_range1 (by rfl) h.n_range (DE.toB (de_add (DE.toB (de_int)) (DE.toB (de_call (d_law_draw h) ok.toOkc (by rfl) (da_c (de_var (i := 0)) (da_c (de_int) (da_nil)))))))) (fun _ _ _ _ _ => dg_name (i := 2) s_law_lags.nd (by rfl) (by first | exact .inl rfl | exact .inr rfl) (by decide)) (fun _ _ _ _ _ ok => dts_nil) (fun _ _ _ _ _ ok => de_add (DE.toB (de_int)) (DE.toB (de_call (d_law_draw h) ok (by rfl) (da_c (de_var (i := 0)) (da_c (de_int) (da_nil)))))))
    (dss_cons (ds_if (dt_eq ok.hu64 (DE.toB (de_call (d_law_draw h) ok.toOkc (by rfl) (da_c (de_var (i := 0)) (da_c (de_int) (da_nil))))) (DE.toB (de_int)))
    (dss_one (ds_setL (i := 1) (de_sub (DE.toB (de_int)) (DE.toB (de_call (d_law_draw h) ok.toOkc (by rfl) (da_c (de_var (i := 0)) (da_c (de_int) (da_nil)))))) (de_int)))
    (dss_nil))
    (dss_one (ds_ret (hd := de_tuple (by rfl) h.n_tuple (da_cB (db_var (i := 1)) (da_nil))))))

theorem s_law_ring : FnScope ["houses", "spot"] ["houses"] (defScope (top 82)) := ⟨rfl, rfl, rfl, by decide +kernel, rfl, by decide +kernel, by decide +kernel⟩
theorem d_law_ring (h : HF K mg base ci) : Fd PR w K mg base ci 1 "_law_ring" .own 1 m_law_ring :=
  fd_ow h.t_law_ring s_law_ring rfl rfl (fun _ _ _ _ _ _ us hl => match us, hl with | [_], _ => rfl) fun f cdv A outer s H E ok =>
    dss_one (ds_retO (hd := do_lc (js := [1]) ok.toOkc [("spot", 1)] s_law_ring.nd (di_range1 (by rfl) h.n_range (DE.toB (de_len (by rfl) h.n_len (da_cB (db_var (i := 0)) (da_nil))))) (fun _ _ _ _ _ => dg_name (i := 1) s_law_ring.nd (by rfl) (by first | exact .inl rfl | exact .inr rfl) (by decide)) (fun _ _ _ _ _ ok => dts_nil) (fun _ _ _ _ _ ok => de_tup (da_c (de_item ok.hu (db_var (i := 0)) (DE.toB (de_sub (db_var (i := 1)) (DE.toB (de_int))))) (da_c (de_item ok.hu (db_var (i := 0)) (db_var (i := 1))) (da_nil))))))

theorem s_law_joined : FnScope ["state", "houses", "row", "way", "part", "other"] ["state", "houses"] (defScope (top 83)) := ⟨rfl, rfl, rfl, by decide +kernel, rfl, by decide +kernel, by decide +kernel⟩
theorem d_law_joined (h : HF K mg base ci) : Fd PR w K mg base ci 4 "_law_joined" .own 2 m_law_joined :=
  fd_ow h.t_law_joined s_law_joined rfl rfl (fun _ _ _ _ _ _ us hl => match us, hl with | [_, _], _ => rfl) fun f cdv A outer s H E ok =>
    dss_cons (ds_parC (is := [(2, false), (3, false)]) ok.calm (dam_sh (de_call (d_law_shuffled h) ok.toOkc (by rfl) (da_c (de_var (i := 0)) (da_c (DO.toE (do_lrng1 ok.calm (by rfl) h.n_list (by rfl) h.n_range (db_var (i := 1)))) (da_nil)))) (dam_sh (de_call (d_law_draw h) ok.toOkc (by rfl) (da_c (de_var (i := 0)) (da_c (de_int) (da_nil)))) (dam_nil))) (dp_cons (i := 2) false s_law_joined.nd (dp_cons (i := 3) false s_law_joined.nd (dp_nil))))
    (dss_cons (ds_if (dt_w (dw_or (dt_eq ok.hu64 (db_var (i := 3)) (DE.toB (de_int))) (dw_or1 (dt_eq ok.hu64 (db_var (i := 1)) (DE.toB (de_int))))))
    (dss_one (ds_retO (hd := do_call (d_law_ring h) ok.toOkc (by rfl) (da_c (de_slice (db_var (i := 2)) (do_none) (do_some (DE.toB (de_add (DE.toB (de_int)) (DE.toB (de_call (d_law_draw h) ok.toOkc (by rfl) (da_c (de_var (i := 0)) (da_c (de_sub (db_var (i := 1)) (DE.toB (de_int))) (da_nil))))))))) (da_nil)))))
    (dss_nil))
    (dss_cons (ds_if (dt_eq ok.hu64 (db_var (i := 3)) (DE.toB (de_int)))
    (dss_one (ds_retO (hd := do_add (DE.toB (DO.toE (do_lc (js := [5]) ok.toOkc [("other", 5)] s_law_joined.nd (di_seq (de_slice (db_var (i := 2)) (do_some (DE.toB (de_int))) (do_none))) (fun _ _ _ _ _ => dg_name (i := 5) s_law_joined.nd (by rfl) (by first | exact .inl rfl | exact .inr rfl) (by decide)) (fun _ _ _ _ _ ok => dts_nil) (fun _ _ _ _ _ ok => de_tup (da_c (de_item ok.hu (db_var (i := 2)) (DE.toB (de_int))) (da_c (de_var (i := 5)) (da_nil))))))) (DE.toB (DO.toE (do_lc (js := [5]) ok.toOkc [("other", 5)] s_law_joined.nd (di_seq (de_slice (db_var (i := 2)) (do_some (DE.toB (de_int))) (do_none))) (fun _ _ _ _ _ => dg_name (i := 5) s_law_joined.nd (by rfl) (by first | exact .inl rfl | exact .inr rfl) (by decide)) (fun _ _ _ _ _ ok => dts_nil) (fun _ _ _ _ _ ok => de_tup (da_c (de_var (i := 5)) (da_c (de_item ok.hu (db_var (i := 2)) (DE.toB (de_int))) (da_nil))))))))))
    (dss_nil))
    (dss_cons (ds_set (i := 4) s_law_joined.nd (de_if (dt_lt ok.hu0 (db_var (i := 1)) (DE.toB (de_int))) (de_int) (de_add (DE.toB (de_int)) (DE.toB (de_call (d_law_draw h) ok.toOkc (by rfl) (da_c (de_var (i := 0)) (da_c (de_sub (db_var (i := 1)) (DE.toB (de_int))) (da_nil))))))))
    (dss_cons (ds_if (dt_eq ok.hu64 (db_var (i := 3)) (DE.toB (de_int)))
    (dss_one (ds_retO (hd := do_add (DE.toB (DO.toE (do_call (d_law_ring h) ok.toOkc (by rfl) (da_c (de_slice (db_var (i := 2)) (do_none) (do_some (db_var (i := 4)))) (da_nil))))) (DE.toB (DO.toE (do_call (d_law_ring h) ok.toOkc (by rfl) (da_c (de_slice (db_var (i := 2)) (do_some (DE.toB (de_sub (db_var (i := 4)) (DE.toB (de_int))))) (do_none)) (da_nil))))))))
    (dss_nil))
    (dss_one (ds_retO (hd := do_if (dt_eq ok.hu64 (db_var (i := 3)) (DE.toB (de_int))) (do_add (DE.toB (DO.toE (do_call (d_law_ring h) ok.toOkc (by rfl) (da_c (de_slice (db_var (i := 2)) (do_none) (do_some (db_var (i := 4)))) (da_nil))))) (DE.toB (de_if (dt_gt (DE.toB (de_sub (db_var (i := 1)) (db_var (i := 4)))) (DE.toB (de_int))) (DO.toE (do_call (d_law_ring h) ok.toOkc (by rfl) (da_c (de_slice (db_var (i := 2)) (do_some (db_var (i := 4))) (do_none)) (da_nil)))) (DO.toE (do_lst (da_nil)))))) (do_lst (da_nil)))))))))

theorem s_law_wish : FnScope ["state", "houses", "most", "lags", "pairs", "lap", "giver", "taker"] ["state", "houses", "most"] (defScope (top 84)) := ⟨rfl, rfl, rfl, by decide +kernel, rfl, by decide +kernel, by decide +kernel⟩
theorem d_law_wish (h : HF K mg base ci) : Fd PR w K mg base ci 5 "_law_wish" .sh 3 m_law_wish :=
  fd_sh h.t_law_wish s_law_wish rfl rfl (fun _ _ _ _ _ _ us hl => match us, hl with | [_, _, _], _ => rfl) fun f cdv A outer s H E ok =>
    dss_cons (ds_parC (is := [(3, false), (4, true)]) ok.calm (dam_sh (de_call (d_law_lags h) ok.toOkc (by rfl) (da_c (de_var (i := 0)) (da_nil))) (dam_ow (do_call (d_law_joined h) ok.toOkc (by rfl) (da_c (de_var (i := 0)) (da_c (de_var (i := 1)) (da_nil)))) (dam_nil))) (dp_cons (i := 3) false s_law_wish.nd (dp_cons (i := 4) true s_law_wish.nd (dp_nil))))
    (dss_cons (ds_for (js := [5]) ok.own ok.calm (di_range1 (by rfl) h.n_range (DE.toB (de_if (dt_ne ok.hu64 (db_var (i := 4)) (DE.toB (DO.toE (do_lst (da_nil))))) (de_call (d_law_draw h) ok.toOkc (by rfl) (da_c (de_var (i := 0)) (da_c (de_int) (da_nil)))) (de_add (DE.toB (de_int)) (DE.toB (de_call (d_law_draw h) ok.toOkc (by rfl) (da_c (de_var (i := 0)) (da_c (de_var (i := 2)) (da_nil))))))))) (dg_name (i := 5) s_law_wish.nd (by rfl) (by first | exact .inl rfl | exact .inr rfl) (by decide))
    (dss_cons (ds_set (i := 6) s_law_wish.nd (de_call (d_law_draw h) ok.toOkc (by rfl) (da_c (de_var (i := 0)) (da_c (de_var (i := 1)) (da_nil)))))
    (dss_one (ds_append (i := 4) (de_tup (da_c (de_var (i := 6)) (da_c (de_mod (DE.toB (de_add (DE.toB (de_add (db_var (i := 6)) (DE.toB (de_int)))) (DE.toB (de_call (d_law_draw h) ok.toOkc (by rfl) (da_c (de_var (i := 0)) (da_c (de_sub (db_var (i := 1)) (DE.toB (de_int))) (da_nil))))))) (db_var (i := 1))) (da_nil))))))))
    (dss_cons (ds_frz [4] (ds_own (i := 4) s_law_wish.nd (do_if (dt_eq ok.hu64 (DE.toB (de_call (d_law_draw h) ok.toOkc (by rfl) (da_c (de_var (i := 0)) (da_c (de_int) (da_nil))))) (DE.toB (de_int))) (do_slice (DE.toB (de_call (d_law_shuffled h) ok.toOkc (by rfl) (da_c (de_var (i := 0)) (da_c (de_var (i := 4)) (da_nil))))) (do_none) (do_some (db_var (i := 2)))) (do_slice (db_var (i := 4)) (do_none) (do_some (db_var (i := 2)))))))
    (dss_one (ds_frz [4] (ds_ret (hd := de_tup (da_c (de_var (i := 1)) (da_c (de_var (i := 3)) (da_c (de_tuple (by rfl) h.n_tuple (da_cB (DE.toB (DO.toE (do_lc (js := [6, 7]) ok.toOkc [("giver", 6), ("taker", 7)] s_law_wish.nd (di_seq (de_var (i := 4))) (fun _ _ _ _ _ => dg_tup (k := _) ok.calm (dgs_cons (dg_name (i := 6) s_law_wish.nd (by rfl) (by first | exact .inl rfl | exact .inr rfl) (by decide)) (dgs_cons (dg_name (i := 7) s_law_wish.nd (by rfl) (by first | exact .inl rfl | exact .inr rfl) (by decide)) (dgs_nil)))) (fun _ _ _ _ _ ok => dts_nil) (fun _ _ _ _ _ ok => de_tup (da_c (de_var (i := 6)) (da_c (de_var (i := 7)) (da_c (de_call (d_law_draw h) ok (by rfl) (da_c (de_var (i := 0)) (da_c (de_len (by rfl) h.n_len (da_cB (db_var (i := 3)) (da_nil))) (da_nil)))) (da_nil)))))))) (da_nil))) (da_nil))))))))))

theorem s_law_with_last : FnScope ["parts", "arc", "spot", "last", "sealed", "locks", "lock"] ["parts", "arc", "spot", "last", "sealed"] (defScope (top 85)) := ⟨rfl, rfl, rfl, by decide +kernel, rfl, by decide +kernel, by decide +kernel⟩
theorem d_law_with_last (h : HF K mg base ci) : Fd PR w K mg base ci 1 "_law_with_last" .sh 5 m_law_with_last :=
  fd_sh h.t_law_with_last s_law_with_last rfl rfl (fun _ _ _ _ _ _ us hl => match us, hl with | [_, _, _, _, _], _ => rfl) fun f cdv A outer s H E ok =>
    dss_nest (i := 5) (j := 6) ok.calm s_law_with_last.nd (di_seq (de_item ok.hu (db_var (i := 0)) (DE.toB (de_int)))) (by rfl) (show 6 < 7 by decide) (fun _ _ _ _ _ => pg_name (i := 6) s_law_with_last.nd (by rfl) (by first | exact .inl rfl | exact .inr rfl) (by first | exact .inl rfl | exact .inr rfl)) (fun _ _ _ _ _ => (pe_callTy call_list_of (by rfl) h.n_list (by decide +kernel) (pa_cons (pe_var (i := 6) (by rfl) (by first | exact Or.inl rfl | exact Or.inr (Or.inl rfl) | exact Or.inr (Or.inr rfl)) (by decide) (by decide)) pa_nil (by rfl)) (by decide) (by decide) (by rfl) (by rfl)).imp (fun _ _ _ h => h)) (de_tup (da_c (de_item ok.hu (DE.toB (de_item ok.hu (DE.toB (de_item ok.hu (db_var (i := 5)) (db_var (i := 1)))) (db_var (i := 2)))) (DE.toB (de_int))) (da_c (de_var (i := 3)) (da_c (de_var (i := 4)) (da_nil))))) (de_var (i := 1)) (de_var (i := 2))
    (dss_one (ds_ret (hd := de_add (DE.toB (de_slice (db_var (i := 0)) (do_none) (do_some (DE.toB (de_int))))) (DE.toB (de_tup (da_c (de_tuple (by rfl) h.n_tuple (da_cB (DE.toB (DO.toE (do_lc (js := [6]) ok.toOkc [("lock", 6)] s_law_with_last.nd (di_seq (de_var (i := 5))) (fun _ _ _ _ _ => dg_name (i := 6) s_law_with_last.nd (by rfl) (by first | exact .inl rfl | exact .inr rfl) (by decide)) (fun _ _ _ _ _ ok => dts_nil) (fun _ _ _ _ _ ok => de_tuple (by rfl) h.n_tuple (da_cB (db_var (i := 6)) (da_nil)))))) (da_nil))) (da_nil)))))))

theorem s_law_any_lock : FnScope ["state", "parts", "arc", "houses", "house"] ["state", "parts", "arc"] (defScope (top 86)) := ⟨rfl, rfl, rfl, by decide +kernel, rfl, by decide +kernel, by decide +kernel⟩
theorem d_law_any_lock (h : HF K mg base ci) : Fd PR w K mg base ci 4 "_law_any_lock" .sh 3 m_law_any_lock :=
  fd_sh h.t_law_any_lock s_law_any_lock rfl rfl (fun _ _ _ _ _ _ us hl => match us, hl with | [_, _, _], _ => rfl) fun f cdv A outer s H E ok =>
    dss_cons (ds_set (i := 3) s_law_any_lock.nd (de_slice (DE.toB (de_call (d_law_shuffled h) ok.toOkc (by rfl) (da_c (de_var (i := 0)) (da_c (DO.toE (do_lrng1 ok.calm (by rfl) h.n_list (by rfl) h.n_range (DE.toB (de_item ok.hu (db_var (i := 1)) (DE.toB (de_int)))))) (da_nil))))) (do_none) (do_some (DE.toB (de_add (DE.toB (de_int)) (DE.toB (de_call (d_law_draw h) ok.toOkc (by rfl) (da_c (de_var (i := 0)) (da_c (de_min2 ok.calm (by rfl) h.n_min (da_cB (DE.toB (de_int)) (da_cB (DE.toB (de_item ok.hu (db_var (i := 1)) (DE.toB (de_int)))) (da_nil)))) (da_nil))))))))))
    (dss_one (ds_ret (hd := de_tuple (by rfl) h.n_tuple (da_cB (DE.toB (DO.toE (do_lc (js := [4]) ok.toOkc [("house", 4)] s_law_any_lock.nd (di_seq (DO.toE (do_sorted (by rfl) h.n_sorted (da_cB (db_var (i := 3)) (da_nil))))) (fun _ _ _ _ _ => dg_name (i := 4) s_law_any_lock.nd (by rfl) (by first | exact .inl rfl | exact .inr rfl) (by decide)) (fun _ _ _ _ _ ok => dts_nil) (fun _ _ _ _ _ ok => de_tup (da_c (de_var (i := 4)) (da_c (de_add (DE.toB (de_item ok.hu (db_var (i := 1)) (DE.toB (de_int)))) (DE.toB (de_call (d_law_draw h) ok (by rfl) (da_c (de_var (i := 0)) (da_c (de_int) (da_nil)))))) (da_c (de_intC (by rfl) h.n_int (da_cB (DE.toB (de_eq ok.hu64 (DE.toB (de_call (d_law_draw h) ok (by rfl) (da_c (de_var (i := 0)) (da_c (de_int) (da_nil))))) (DE.toB (de_int)))) (da_nil))) (da_nil)))))))) (da_nil)))))

theorem s_law_any_deal : FnScope ["state", "wishes", "houses", "lags", "arcs", "start", "gap", "waits", "parts", "row", "arc"] ["state", "wishes"] (defScope (top 87)) := ⟨rfl, rfl, rfl, by decide +kernel, rfl, by decide +kernel, by decide +kernel⟩
theorem d_law_any_deal (h : HF K mg base ci) : Fd PR w K mg base ci 5 "_law_any_deal" .sh 2 m_law_any_deal :=
  fd_sh h.t_law_any_deal s_law_any_deal rfl rfl (fun _ _ _ _ _ _ us hl => match us, hl with | [_, _], _ => rfl) fun f cdv A outer s H E ok =>
    dss_cons (ds_asg (js := [2, 3, 4]) (de_var (i := 1)) (dg_tup (k := _) ok.calm (dgs_cons (dg_name (i := 2) s_law_any_deal.nd (by rfl) (by first | exact .inl rfl | exact .inr rfl) (by decide)) (dgs_cons (dg_name (i := 3) s_law_any_deal.nd (by rfl) (by first | exact .inl rfl | exact .inr rfl) (by decide)) (dgs_cons (dg_name (i := 4) s_law_any_deal.nd (by rfl) (by first | exact .inl rfl | exact .inr rfl) (by decide)) (dgs_nil))))))
    (dss_cons (ds_par2 (i := 5) (j := 6) ok.calm s_law_any_deal.nd (dam_sh (de_call (d_law_draw h) ok.toOkc (by rfl) (da_c (de_var (i := 0)) (da_c (de_int) (da_nil)))) (dam_sh (de_add (DE.toB (de_max ok.calm (by rfl) h.n_max (da_cB (db_var (i := 3)) (da_nil)))) (DE.toB (de_call (d_law_draw h) ok.toOkc (by rfl) (da_c (de_var (i := 0)) (da_c (de_int) (da_nil)))))) (dam_nil))))
    (dss_cons (ds_set (i := 7) s_law_any_deal.nd (de_tuple (by rfl) h.n_tuple (da_cB (DE.toB (DO.toE (do_lc (js := [9]) ok.toOkc [("row", 9)] s_law_any_deal.nd (di_seq (de_var (i := 4))) (fun _ _ _ _ _ => dg_name (i := 9) s_law_any_deal.nd (by rfl) (by first | exact .inl rfl | exact .inr rfl) (by decide)) (fun _ _ _ _ _ ok => dts_nil) (fun _ _ _ _ _ ok => de_tuple (by rfl) h.n_tuple (da_cB (DE.toB (de_call (d_law_part h) ok (by rfl) (da_c (de_var (i := 0)) (da_c (de_call (d_law_into h) ok (by rfl) (da_c (de_var (i := 4)) (da_c (de_item ok.hu (db_var (i := 9)) (DE.toB (de_int))) (da_nil)))) (da_c (de_int) (da_nil)))))) (da_nil)))))) (da_nil))))
    (dss_cons (ds_set (i := 8) s_law_any_deal.nd (de_tup (da_c (de_var (i := 2)) (da_c (de_var (i := 3)) (da_c (de_var (i := 5)) (da_c (de_var (i := 6)) (da_c (de_var (i := 4)) (da_c (de_var (i := 7)) (da_c (de_tup (da_nil)) (da_nil))))))))))
    (dss_one (ds_ret (hd := de_add (DE.toB (de_slice (db_var (i := 8)) (do_none) (do_some (DE.toB (de_int))))) (DE.toB (de_tup (da_c (de_tuple (by rfl) h.n_tuple (da_cB (DE.toB (DO.toE (do_lc (js := [10]) ok.toOkc [("arc", 10)] s_law_any_deal.nd (di_range1 (by rfl) h.n_range (DE.toB (de_len (by rfl) h.n_len (da_cB (db_var (i := 4)) (da_nil))))) (fun _ _ _ _ _ => dg_name (i := 10) s_law_any_deal.nd (by rfl) (by first | exact .inl rfl | exact .inr rfl) (by decide)) (fun _ _ _ _ _ ok => dts_nil) (fun _ _ _ _ _ ok => de_call (d_law_any_lock h) ok (by rfl) (da_c (de_var (i := 0)) (da_c (de_var (i := 8)) (da_c (de_var (i := 10)) (da_nil)))))))) (da_nil))) (da_nil))))))))))

theorem s_law_later : FnScope ["parts", "ticks", "locks", "lock", "house", "last", "sealed"] ["parts", "ticks"] (defScope (top 88)) := ⟨rfl, rfl, rfl, by decide +kernel, rfl, by decide +kernel, by decide +kernel⟩
theorem d_law_later (h : HF K mg base ci) : Fd PR w K mg base ci 1 "_law_later" .sh 2 m_law_later :=
  fd_sh h.t_law_later s_law_later rfl rfl (fun _ _ _ _ _ _ us hl => match us, hl with | [_, _], _ => rfl) fun f cdv A outer s H E ok =>
    dss_cons (ds_set (i := 2) s_law_later.nd (de_tuple (by rfl) h.n_tuple (da_cB (DE.toB (DO.toE (do_lc (js := [3]) ok.toOkc [("lock", 3)] s_law_later.nd (di_seq (de_item ok.hu (db_var (i := 0)) (DE.toB (de_int)))) (fun _ _ _ _ _ => dg_name (i := 3) s_law_later.nd (by rfl) (by first | exact .inl rfl | exact .inr rfl) (by decide)) (fun _ _ _ _ _ ok => dts_nil) (fun _ _ _ _ _ ok => de_tuple (by rfl) h.n_tuple (da_cB (DE.toB (DO.toE (do_lc (js := [4, 5, 6]) ok [("house", 4), ("last", 5), ("sealed", 6)] s_law_later.nd (di_seq (de_var (i := 3))) (fun _ _ _ _ _ => dg_tup (k := _) ok.calm (dgs_cons (dg_name (i := 4) s_law_later.nd (by rfl) (by first | exact .inl rfl | exact .inr rfl) (by decide)) (dgs_cons (dg_name (i := 5) s_law_later.nd (by rfl) (by first | exact .inl rfl | exact .inr rfl) (by decide)) (dgs_cons (dg_name (i := 6) s_law_later.nd (by rfl) (by first | exact .inl rfl | exact .inr rfl) (by decide)) (dgs_nil))))) (fun _ _ _ _ _ ok => dts_nil) (fun _ _ _ _ _ ok => de_tup (da_c (de_var (i := 4)) (da_c (de_add (db_var (i := 5)) (db_var (i := 1))) (da_c (de_var (i := 6)) (da_nil)))))))) (da_nil)))))) (da_nil))))
    (dss_one (ds_ret (hd := de_add (DE.toB (de_add (DE.toB (de_add (DE.toB (de_slice (db_var (i := 0)) (do_none) (do_some (DE.toB (de_int))))) (DE.toB (de_tup (da_c (de_add (DE.toB (de_item ok.hu (db_var (i := 0)) (DE.toB (de_int)))) (db_var (i := 1))) (da_nil)))))) (DE.toB (de_slice (db_var (i := 0)) (do_some (DE.toB (de_int))) (do_some (DE.toB (de_int))))))) (DE.toB (de_tup (da_c (de_var (i := 2)) (da_nil)))))))

theorem s_law_bound : FnScope ["parts", "taken", "given", "secret", "sealed_in", "sealed_out", "steps", "seals"] ["parts", "taken", "given", "secret"] (defScope (top 89)) := ⟨rfl, rfl, rfl, by decide +kernel, rfl, by decide +kernel, by decide +kernel⟩
theorem d_law_bound (h : HF K mg base ci) : Fd PR w K mg base ci 2 "_law_bound" .sh 4 m_law_bound :=
  fd_sh h.t_law_bound s_law_bound rfl rfl (fun _ _ _ _ _ _ us hl => match us, hl with | [_, _, _, _], _ => rfl) fun f cdv A outer s H E ok =>
    dss_cons (ds_parC (is := [(4, false), (5, false)]) ok.calm (dam_sh (de_item ok.hu (DE.toB (de_call (d_law_entry h) ok.toOkc (by rfl) (da_c (de_var (i := 0)) (da_c (de_var (i := 1)) (da_c (de_var (i := 3)) (da_nil)))))) (DE.toB (de_int))) (dam_sh (de_item ok.hu (DE.toB (de_call (d_law_entry h) ok.toOkc (by rfl) (da_c (de_var (i := 0)) (da_c (de_var (i := 2)) (da_c (de_var (i := 3)) (da_nil)))))) (DE.toB (de_int))) (dam_nil))) (dp_cons (i := 4) false s_law_bound.nd (dp_cons (i := 5) false s_law_bound.nd (dp_nil))))
    (dss_cons (ds_setLc (i := 6) (js := [7]) ok.toOkc [("seals", 7)] s_law_bound.nd (di_seq (de_call (d_law_lengths h) ok.toOkc (by rfl) (da_c (de_var (i := 0)) (da_c (de_var (i := 2)) (da_c (de_var (i := 3)) (da_nil)))))) (fun _ _ _ _ _ => dg_name (i := 7) s_law_bound.nd (by rfl) (by first | exact .inl rfl | exact .inr rfl) (by decide)) (fun _ _ _ _ _ ok => dts_nil) (fun _ _ _ _ _ ok => de_sub (DE.toB (de_mul (DE.toB (de_mul (DE.toB (de_sub (db_var (i := 7)) (DE.toB (de_int)))) (DE.toB (de_item ok.hu (db_var (i := 0)) (DE.toB (de_int)))))) (db_var (i := 5)))) (DE.toB (de_mul (DE.toB (de_mul (db_var (i := 7)) (DE.toB (de_item ok.hu (db_var (i := 0)) (DE.toB (de_int)))))) (db_var (i := 4))))))
    (dss_one (ds_ret (hd := de_add (DE.toB (de_max ok.calm (by rfl) h.n_max (da_cB (db_var (i := 6)) (da_nil)))) (DE.toB (de_call (d_law_lag h) ok.toOkc (by rfl) (da_c (de_var (i := 0)) (da_c (de_var (i := 2)) (da_nil)))))))))

theorem s_law_handed : FnScope ["arcs", "asked", "told", "lap", "arc", "giver", "taker", "book", "other", "row", "secret"] ["arcs", "asked"] (defScope (top 91)) := ⟨rfl, rfl, rfl, by decide +kernel, rfl, by decide +kernel, by decide +kernel⟩
theorem d_law_handed (h : HF K mg base ci) : Fd PR w K mg base ci 2 "_law_handed" .own 2 m_law_handed :=
  fd_ow h.t_law_handed s_law_handed rfl rfl (fun _ _ _ _ _ _ us hl => match us, hl with | [_, _], _ => rfl) fun f cdv A outer s H E ok =>
    dss_cons (ds_own (i := 2) s_law_handed.nd (do_lc (js := [9]) ok.toOkc [("row", 9)] s_law_handed.nd (di_seq (de_var (i := 1))) (fun _ _ _ _ _ => dg_name (i := 9) s_law_handed.nd (by rfl) (by first | exact .inl rfl | exact .inr rfl) (by decide)) (fun _ _ _ _ _ ok => dts_nil) (fun _ _ _ _ _ ok => DO.toE (do_list (by rfl) h.n_list (da_cB (db_var (i := 9)) (da_nil))))))
    (dss_cons (ds_for (js := [3]) ok.own ok.calm (di_range1 (by rfl) h.n_range (DE.toB (de_len (by rfl) h.n_len (da_cB (db_var (i := 0)) (da_nil))))) (dg_name (i := 3) s_law_handed.nd (by rfl) (by first | exact .inl rfl | exact .inr rfl) (by decide))
    (dss_one (ds_for (js := [4, 5, 6, 7]) ok.own ok.calm (di_enum (by rfl) h.n_enumerate (de_var (i := 0))) (dg_tup (k := _) ok.calm (dgs_cons (dg_name (i := 4) s_law_handed.nd (by rfl) (by first | exact .inl rfl | exact .inr rfl) (by decide)) (dgs_cons (dg_tup (k := _) ok.calm (dgs_cons (dg_name (i := 5) s_law_handed.nd (by rfl) (by first | exact .inl rfl | exact .inr rfl) (by decide)) (dgs_cons (dg_name (i := 6) s_law_handed.nd (by rfl) (by first | exact .inl rfl | exact .inr rfl) (by decide)) (dgs_cons (dg_name (i := 7) s_law_handed.nd (by rfl) (by first | exact .inl rfl | exact .inr rfl) (by decide)) (dgs_nil))))) (dgs_nil))))
    (dss_one (ds_for (js := [8]) ok.own ok.calm (di_seq (de_call (d_law_out h) ok.toOkc (by rfl) (da_c (de_var (i := 0)) (da_c (de_var (i := 6)) (da_nil))))) (dg_name (i := 8) s_law_handed.nd (by rfl) (by first | exact .inl rfl | exact .inr rfl) (by decide))
    (dss_one (ds_setL (i := 2) (de_add (DE.toB (de_item ok.hu (db_var (i := 2)) (db_var (i := 8)))) (DE.toB (DO.toE (do_lc (js := [10]) ok.toOkc [("secret", 10)] s_law_handed.nd (di_seq (de_item ok.hu (db_var (i := 2)) (db_var (i := 4)))) (fun _ _ _ _ _ => dg_name (i := 10) s_law_handed.nd (by rfl) (by first | exact .inl rfl | exact .inr rfl) (by decide)) (fun _ _ _ _ _ ok => dts_one (dt_w (dw_and (dt_ne ok.hu64 (db_var (i := 10)) (db_var (i := 6))) (dw_and1 (dt_nin ok.hu65 (db_var (i := 10)) (DE.toB (de_item ok.hu (db_var (i := 2)) (db_var (i := 8))))))))) (fun _ _ _ _ _ ok => de_var (i := 10)))))) (de_var (i := 8)))))))))
    (dss_one (ds_retOw (i := 2))))

theorem s_law_is : FnScope ["caught", "word", "index", "named", "name", "is_there"] ["caught", "word", "index"] (defScope (top 92)) := ⟨rfl, rfl, rfl, by decide +kernel, rfl, by decide +kernel, by decide +kernel⟩
theorem d_law_is (h : HF K mg base ci) : Fd PR w K mg base ci 3 "_law_is" .sh 3 m_law_is :=
  fd_sh h.t_law_is s_law_is rfl rfl (fun _ _ _ _ _ _ us hl => match us, hl with | [_, _, _], _ => rfl) fun f cdv A outer s H E ok =>
    dss_cons (ds_set (i := 3) s_law_is.nd (DO.toE (do_lst (da_c (de_tup (da_c (de_str) (da_c (de_isi h.isf (by rfl) h.n_isinstance (db_var (i := 0)) (cl_own (by rfl) h.g_BadArc)) (da_nil)))) (da_c (de_tup (da_c (de_str) (da_c (de_isi h.isf (by rfl) h.n_isinstance (db_var (i := 0)) (cl_own (by rfl) h.g_BadHouse)) (da_nil)))) (da_nil))))))
    (dss_cons (ds_set (i := 3) s_law_is.nd (de_add (db_var (i := 3)) (DE.toB (DO.toE (do_lst (da_c (de_tup (da_c (de_str) (da_c (de_isi h.isf (by rfl) h.n_isinstance (db_var (i := 0)) (cl_own (by rfl) h.g_BadSeals)) (da_nil)))) (da_nil)))))))
    (dss_one (ds_ret (hd := de_and (de_eq ok.hu64 (DE.toB (DO.toE (do_lc (js := [4, 5]) ok.toOkc [("name", 4), ("is_there", 5)] s_law_is.nd (di_seq (de_var (i := 3))) (fun _ _ _ _ _ => dg_tup (k := _) ok.calm (dgs_cons (dg_name (i := 4) s_law_is.nd (by rfl) (by first | exact .inl rfl | exact .inr rfl) (by decide)) (dgs_cons (dg_name (i := 5) s_law_is.nd (by rfl) (by first | exact .inl rfl | exact .inr rfl) (by decide)) (dgs_nil)))) (fun _ _ _ _ _ ok => dts_one (dt_val (de_var (i := 5)))) (fun _ _ _ _ _ ok => de_var (i := 4))))) (DE.toB (DO.toE (do_lst (da_c (de_var (i := 1)) (da_nil)))))) (de_one (de_call (d_law_same h) ok.toOkc (by rfl) (da_c (de_xfld (xf_index h) (de_var (i := 0))) (da_c (de_var (i := 2)) (da_nil)))))))))

theorem s_law_triples : FnScope ["parts", "found", "taken", "giver", "house", "book", "given", "secret"] ["parts"] (defScope (top 93)) := ⟨rfl, rfl, rfl, by decide +kernel, rfl, by decide +kernel, by decide +kernel⟩
theorem d_law_triples (h : HF K mg base ci) : Fd PR w K mg base ci 2 "_law_triples" .sh 1 m_law_triples :=
  fd_sh h.t_law_triples s_law_triples rfl rfl (fun _ _ _ _ _ _ us hl => match us, hl with | [_], _ => rfl) fun f cdv A outer s H E ok =>
    dss_cons (ds_set (i := 1) s_law_triples.nd (DO.toE (do_lst (da_nil))))
    (dss_cons (ds_for (js := [2, 3, 4, 5]) ok.own ok.calm (di_enum (by rfl) h.n_enumerate (de_item ok.hu (db_var (i := 0)) (DE.toB (de_int)))) (dg_tup (k := _) ok.calm (dgs_cons (dg_name (i := 2) s_law_triples.nd (by rfl) (by first | exact .inl rfl | exact .inr rfl) (by decide)) (dgs_cons (dg_tup (k := _) ok.calm (dgs_cons (dg_name (i := 3) s_law_triples.nd (by rfl) (by first | exact .inl rfl | exact .inr rfl) (by decide)) (dgs_cons (dg_name (i := 4) s_law_triples.nd (by rfl) (by first | exact .inl rfl | exact .inr rfl) (by decide)) (dgs_cons (dg_name (i := 5) s_law_triples.nd (by rfl) (by first | exact .inl rfl | exact .inr rfl) (by decide)) (dgs_nil))))) (dgs_nil))))
    (dss_one (ds_for (js := [6]) ok.own ok.calm (di_seq (de_call (d_law_out h) ok.toOkc (by rfl) (da_c (de_item ok.hu (db_var (i := 0)) (DE.toB (de_int))) (da_c (de_var (i := 4)) (da_nil))))) (dg_name (i := 6) s_law_triples.nd (by rfl) (by first | exact .inl rfl | exact .inr rfl) (by decide))
    (dss_one (ds_set (i := 1) s_law_triples.nd (de_add (db_var (i := 1)) (DE.toB (DO.toE (do_lc (js := [7]) ok.toOkc [("secret", 7)] s_law_triples.nd (di_seq (de_call (d_law_asked h) ok.toOkc (by rfl) (da_c (de_var (i := 0)) (da_c (de_var (i := 2)) (da_nil))))) (fun _ _ _ _ _ => dg_name (i := 7) s_law_triples.nd (by rfl) (by first | exact .inl rfl | exact .inr rfl) (by decide)) (fun _ _ _ _ _ ok => dts_one (dt_w (dw_and (dt_ne ok.hu64 (db_var (i := 7)) (db_var (i := 4))) (dw_and1 (dt_in ok.hu65 (db_var (i := 7)) (DE.toB (de_call (d_law_asked h) ok (by rfl) (da_c (de_var (i := 0)) (da_c (de_var (i := 6)) (da_nil)))))))))) (fun _ _ _ _ _ ok => de_tup (da_c (de_var (i := 2)) (da_c (de_var (i := 6)) (da_c (de_var (i := 7)) (da_nil))))))))))))))
    (dss_one (ds_ret (hd := de_var (i := 1)))))

theorem s_law_told_bound : FnScope ["deal", "parts", "taken", "given", "secret", "low", "high", "steps", "seals", "more"] ["deal", "parts", "taken", "given", "secret"] (defScope (top 94)) := ⟨rfl, rfl, rfl, by decide +kernel, rfl, by decide +kernel, by decide +kernel⟩
theorem d_law_told_bound (h : HF K mg base ci) : Fd PR w K mg base ci 6 "_law_told_bound" .sh 5 m_law_told_bound :=
  fd_sh h.t_law_told_bound s_law_told_bound rfl rfl (fun _ _ _ _ _ _ us hl => match us, hl with | [_, _, _, _, _], _ => rfl) fun f cdv A outer s H E ok =>
    dss_cons (ds_asg (js := [5, 6]) (de_call (d_seal_lengths h) ok.toOkc (by rfl) (da_c (de_var (i := 0)) (da_c (de_var (i := 3)) (da_c (de_var (i := 4)) (da_nil))))) (dg_tup (k := _) ok.calm (dgs_cons (dg_name (i := 5) s_law_told_bound.nd (by rfl) (by first | exact .inl rfl | exact .inr rfl) (by decide)) (dgs_cons (dg_name (i := 6) s_law_told_bound.nd (by rfl) (by first | exact .inl rfl | exact .inr rfl) (by decide)) (dgs_nil)))))
    (dss_cons (ds_own (i := 7) s_law_told_bound.nd (do_lst (da_nil)))
    (dss_cons (ds_for (js := [8]) ok.own ok.calm (di_range2 (by rfl) h.n_range (db_var (i := 5)) (DE.toB (de_add (db_var (i := 6)) (DE.toB (de_int))))) (dg_name (i := 8) s_law_told_bound.nd (by rfl) (by first | exact .inl rfl | exact .inr rfl) (by decide))
    (dss_cons (ds_set (i := 9) s_law_told_bound.nd (de_sub (DE.toB (de_call (d_last_tick h) ok.toOkc (by rfl) (da_c (de_var (i := 0)) (da_c (de_var (i := 3)) (da_c (de_var (i := 4)) (da_c (de_var (i := 8)) (da_nil))))))) (DE.toB (de_call (d_last_tick h) ok.toOkc (by rfl) (da_c (de_var (i := 0)) (da_c (de_var (i := 3)) (da_c (de_var (i := 4)) (da_c (de_int) (da_nil)))))))))
    (dss_one (ds_append (i := 7) (de_add (DE.toB (de_sub (db_var (i := 9)) (DE.toB (de_call (d_last_tick h) ok.toOkc (by rfl) (da_c (de_var (i := 0)) (da_c (de_var (i := 2)) (da_c (de_var (i := 4)) (da_c (de_add (db_var (i := 8)) (DE.toB (de_int))) (da_nil))))))))) (DE.toB (de_call (d_last_tick h) ok.toOkc (by rfl) (da_c (de_var (i := 0)) (da_c (de_var (i := 2)) (da_c (de_var (i := 4)) (da_c (de_int) (da_nil))))))))))))
    (dss_one (ds_ret (hd := de_add (DE.toB (de_max ok.calm (by rfl) h.n_max (da_cB (db_var (i := 7)) (da_nil)))) (DE.toB (de_call (d_law_lag h) ok.toOkc (by rfl) (da_c (de_var (i := 1)) (da_c (de_var (i := 3)) (da_nil))))))))))

theorem s_law_spot : FnScope ["parts", "arc", "secret"] ["parts", "arc", "secret"] (defScope (top 95)) := ⟨rfl, rfl, rfl, by decide +kernel, rfl, by decide +kernel, by decide +kernel⟩
theorem d_law_spot (h : HF K mg base ci) : Fd PR w K mg base ci 2 "_law_spot" .sh 3 m_law_spot :=
  fd_sh h.t_law_spot s_law_spot rfl rfl (fun _ _ _ _ _ _ us hl => match us, hl with | [_, _, _], _ => rfl) fun f cdv A outer s H E ok =>
    dss_one (ds_ret (hd := de_index (DE.toB (de_call (d_law_asked h) ok.toOkc (by rfl) (da_c (de_var (i := 0)) (da_c (de_var (i := 1)) (da_nil))))) (db_var (i := 2))))

theorem s_law_triple_right : FnScope ["parts", "deal", "triple", "taken", "given", "secret", "due", "closed_in", "closed_out", "base", "moved", "less", "set_at", "rooms", "seals"] ["parts", "deal", "triple"] (defScope (top 96)) := ⟨rfl, rfl, rfl, by decide +kernel, rfl, by decide +kernel, by decide +kernel⟩
theorem d_law_triple_right (h : HF K mg base ci) : Fd PR w K mg base ci 13 "_law_triple_right" .sh 3 m_law_triple_right :=
  fd_sh h.t_law_triple_right s_law_triple_right rfl rfl (fun _ _ _ _ _ _ us hl => match us, hl with | [_, _, _], _ => rfl) fun f cdv A outer s H E ok =>
    dss_cons (ds_asg (js := [3, 4, 5]) (de_var (i := 2)) (dg_tup (k := _) ok.calm (dgs_cons (dg_name (i := 3) s_law_triple_right.nd (by rfl) (by first | exact .inl rfl | exact .inr rfl) (by decide)) (dgs_cons (dg_name (i := 4) s_law_triple_right.nd (by rfl) (by first | exact .inl rfl | exact .inr rfl) (by decide)) (dgs_cons (dg_name (i := 5) s_law_triple_right.nd (by rfl) (by first | exact .inl rfl | exact .inr rfl) (by decide)) (dgs_nil))))))
    (dss_cons (ds_set (i := 6) s_law_triple_right.nd (de_call (d_law_bound h) ok.toOkc (by rfl) (da_c (de_var (i := 0)) (da_c (de_var (i := 3)) (da_c (de_var (i := 4)) (da_c (de_var (i := 5)) (da_nil)))))))
    (dss_cons (ds_if (dt_not (dt_val (de_call (d_law_same h) ok.toOkc (by rfl) (da_c (DO.toE (do_lst (da_c (de_call (d_bound h) ok.toOkc (by rfl) (da_c (de_var (i := 1)) (da_c (de_var (i := 3)) (da_c (de_var (i := 4)) (da_c (de_var (i := 5)) (da_nil)))))) (da_c (de_callK (dk0_bound h) ok.toOkc (by rfl) (dk_c (de_var (i := 5)) (dk_c (de_var (i := 4)) (dk_c (de_var (i := 3)) (dk_c (de_var (i := 1)) (dk_nil)))))) (da_nil))))) (da_c (DO.toE (do_lst (da_c (de_var (i := 6)) (da_c (de_var (i := 6)) (da_nil))))) (da_nil))))))
    (dss_one (ds_ret (hd := de_bl)))
    (dss_nil))
    (dss_cons (ds_if (dt_w (dw_or (dt_not (dt_val (de_call (d_law_same h) ok.toOkc (by rfl) (da_c (de_call (d_law_told_bound h) ok.toOkc (by rfl) (da_c (de_var (i := 1)) (da_c (de_var (i := 0)) (da_c (de_var (i := 3)) (da_c (de_var (i := 4)) (da_c (de_var (i := 5)) (da_nil))))))) (da_c (de_var (i := 6)) (da_nil)))))) (dw_or1 (dt_not (dt_val (de_call (d_law_same h) ok.toOkc (by rfl) (da_c (de_call (d_bound h) ok.toOkc (by rfl) (da_c (de_call (d_law_made h) ok.toOkc (by rfl) (da_c (de_call (d_law_later h) ok.toOkc (by rfl) (da_c (de_var (i := 0)) (da_c (de_int) (da_nil)))) (da_nil))) (da_c (de_var (i := 3)) (da_c (de_var (i := 4)) (da_c (de_var (i := 5)) (da_nil)))))) (da_c (de_var (i := 6)) (da_nil)))))))))
    (dss_one (ds_ret (hd := de_bl)))
    (dss_nil))
    (dss_cons (ds_par2 (i := 7) (j := 8) ok.calm s_law_triple_right.nd (dam_sh (de_item ok.hu (DE.toB (de_call (d_law_entry h) ok.toOkc (by rfl) (da_c (de_var (i := 0)) (da_c (de_var (i := 3)) (da_c (de_var (i := 5)) (da_nil)))))) (DE.toB (de_int))) (dam_sh (de_item ok.hu (DE.toB (de_call (d_law_entry h) ok.toOkc (by rfl) (da_c (de_var (i := 0)) (da_c (de_var (i := 4)) (da_c (de_var (i := 5)) (da_nil)))))) (DE.toB (de_int))) (dam_nil))))
    (dss_cons (ds_if (dt_w (dw_or (dt_w (dw_and (dt_eq ok.hu64 (db_var (i := 7)) (DE.toB (de_int))) (dw_and (dt_eq ok.hu64 (db_var (i := 8)) (DE.toB (de_int))) (dw_and1 (dt_ne ok.hu64 (db_var (i := 6)) (DE.toB (de_call (d_law_lag h) ok.toOkc (by rfl) (da_c (de_var (i := 0)) (da_c (de_var (i := 4)) (da_nil)))))))))) (dw_or1 (dt_w (dw_and (dt_eq ok.hu64 (db_var (i := 7)) (DE.toB (de_int))) (dw_and (dt_eq ok.hu64 (db_var (i := 8)) (DE.toB (de_int))) (dw_and1 (dt_ne ok.hu64 (db_var (i := 6)) (DE.toB (de_sub (DE.toB (de_call (d_law_lag h) ok.toOkc (by rfl) (da_c (de_var (i := 0)) (da_c (de_var (i := 4)) (da_nil))))) (DE.toB (de_item ok.hu (db_var (i := 0)) (DE.toB (de_int))))))))))))))
    (dss_one (ds_ret (hd := de_bl)))
    (dss_nil))
    (dss_cons (ds_set (i := 9) s_law_triple_right.nd (de_max2 ok.calm (by rfl) h.n_max (da_cB (DE.toB (de_item ok.hu (DE.toB (de_call (d_law_entry h) ok.toOkc (by rfl) (da_c (de_var (i := 0)) (da_c (de_var (i := 4)) (da_c (de_var (i := 5)) (da_nil)))))) (DE.toB (de_int)))) (da_cB (DE.toB (de_add (DE.toB (de_sub (DE.toB (de_item ok.hu (db_var (i := 0)) (DE.toB (de_int)))) (db_var (i := 6)))) (DE.toB (de_int)))) (da_nil)))))
    (dss_cons (ds_set (i := 10) s_law_triple_right.nd (de_call (d_law_with_last h) ok.toOkc (by rfl) (da_c (de_var (i := 0)) (da_c (de_var (i := 4)) (da_c (de_call (d_law_spot h) ok.toOkc (by rfl) (da_c (de_var (i := 0)) (da_c (de_var (i := 4)) (da_c (de_var (i := 5)) (da_nil))))) (da_c (de_var (i := 9)) (da_c (de_var (i := 8)) (da_nil))))))))
    (dss_cons (ds_for (js := [11]) ok.own ok.calm (di_seq (DO.toE (do_lst (da_c (de_int) (da_c (de_int) (da_nil)))))) (dg_name (i := 11) s_law_triple_right.nd (by rfl) (by first | exact .inl rfl | exact .inr rfl) (by decide))
    (dss_cons (ds_set (i := 12) s_law_triple_right.nd (de_call (d_law_with_last h) ok.toOkc (by rfl) (da_c (de_var (i := 10)) (da_c (de_var (i := 3)) (da_c (de_call (d_law_spot h) ok.toOkc (by rfl) (da_c (de_var (i := 0)) (da_c (de_var (i := 3)) (da_c (de_var (i := 5)) (da_nil))))) (da_c (de_sub (DE.toB (de_add (db_var (i := 9)) (db_var (i := 6)))) (db_var (i := 11))) (da_c (de_var (i := 7)) (da_nil))))))))
    (dss_cons (ds_setLc (i := 13) (js := [14]) ok.toOkc [("seals", 14)] s_law_triple_right.nd (di_seq (de_call (d_law_lengths h) ok.toOkc (by rfl) (da_c (de_var (i := 0)) (da_c (de_var (i := 4)) (da_c (de_var (i := 5)) (da_nil)))))) (fun _ _ _ _ _ => dg_name (i := 14) s_law_triple_right.nd (by rfl) (by first | exact .inl rfl | exact .inr rfl) (by decide)) (fun _ _ _ _ _ ok => dts_nil) (fun _ _ _ _ _ ok => de_sub (DE.toB (de_call (d_last_tick h) ok (by rfl) (da_c (de_call (d_law_made h) ok (by rfl) (da_c (de_var (i := 12)) (da_nil))) (da_c (de_var (i := 3)) (da_c (de_var (i := 5)) (da_c (de_add (db_var (i := 14)) (DE.toB (de_int))) (da_nil))))))) (DE.toB (de_call (d_law_last h) ok (by rfl) (da_c (de_var (i := 12)) (da_c (de_var (i := 4)) (da_c (de_var (i := 5)) (da_c (de_var (i := 14)) (da_nil)))))))))
    (dss_one (ds_if (dt_ne ok.hu64 (DE.toB (de_sub (DE.toB (de_min ok.calm (by rfl) h.n_min (da_cB (db_var (i := 13)) (da_nil)))) (DE.toB (de_call (d_law_lag h) ok.toOkc (by rfl) (da_c (de_var (i := 0)) (da_c (de_var (i := 4)) (da_nil))))))) (DE.toB (de_neg (db_var (i := 11)))))
    (dss_one (ds_ret (hd := de_bl)))
    (dss_nil))))))
    (dss_one (ds_ret (hd := de_bl)))))))))))

theorem s_law_refused : FnScope ["state", "parts", "deal", "none", "bad", "taken", "house", "others", "given", "both", "wrong", "arc", "secret"] ["state", "parts", "deal"] (defScope (top 97)) := ⟨rfl, rfl, rfl, by decide +kernel, rfl, by decide +kernel, by decide +kernel⟩
theorem d_law_refused (h : HF K mg base ci) : Fd PR w K mg base ci 10 "_law_refused" .sh 3 m_law_refused :=
  fd_shL h.t_law_refused s_law_refused rfl rfl (fun _ _ _ _ _ _ us hl => match us, hl with | [_, _, _], _ => rfl) fun f cdv A outer s H E hl ok =>
    dss_cons (ds_parC (is := [(3, false), (4, false)]) ok.calm (dam_sh (de_call (d_law_pick h) ok.toOkc (by rfl) (da_c (de_var (i := 0)) (da_c (DO.toE (do_lst (da_c (de_non) (da_c (de_int) (da_c (de_var (i := 1)) (da_nil)))))) (da_nil)))) (dam_sh (de_call (d_law_pick h) ok.toOkc (by rfl) (da_c (de_var (i := 0)) (da_c (DO.toE (do_lst (da_c (de_neg (DE.toB (de_int))) (da_c (de_len (by rfl) h.n_len (da_cB (DE.toB (de_item ok.hu (db_var (i := 1)) (DE.toB (de_int)))) (da_nil))) (da_c (de_non) (da_c (de_bl) (da_c (de_str) (da_c (de_tup (da_c (de_int) (da_nil))) (da_nil))))))))) (da_nil)))) (dam_nil))) (dp_cons (i := 3) false s_law_refused.nd (dp_cons (i := 4) false s_law_refused.nd (dp_nil))))
    (dss_cons (ds_set (i := 5) s_law_refused.nd (de_call (d_law_draw h) ok.toOkc (by rfl) (da_c (de_var (i := 0)) (da_c (de_len (by rfl) h.n_len (da_cB (DE.toB (de_item ok.hu (db_var (i := 1)) (DE.toB (de_int)))) (da_nil))) (da_nil)))))
    (dss_cons (ds_set (i := 6) s_law_refused.nd (de_item ok.hu (DE.toB (de_item ok.hu (DE.toB (de_item ok.hu (db_var (i := 1)) (DE.toB (de_int)))) (db_var (i := 5)))) (DE.toB (de_int))))
    (dss_cons (ds_if (dt_not (dt_val (de_isi h.isf (by rfl) h.n_isinstance (DE.toB (de_caught (k := 7) h.ct ok.toOkc hl rfl (fun _ _ _ _ _ => rfl) (fun _ _ _ _ _ _ _ ok => de_call (d_bound h) ok (by rfl) (da_c (de_var (i := 3)) (da_c (de_var (i := 4)) (da_c (de_var (i := 4)) (da_c (de_var (i := 4)) (da_nil)))))) (by rfl))) (cl_own (by rfl) h.g_NoDeal))))
    (dss_one (ds_ret (hd := de_bl)))
    (dss_nil))
    (dss_cons (ds_if (dt_not (dt_val (de_call (d_law_is h) ok.toOkc (by rfl) (da_c (de_caught (k := 7) h.ct ok.toOkc hl rfl (fun _ _ _ _ _ => rfl) (fun _ _ _ _ _ _ _ ok => de_call (d_bound h) ok (by rfl) (da_c (de_var (i := 2)) (da_c (de_var (i := 4)) (da_c (de_var (i := 4)) (da_c (de_var (i := 4)) (da_nil)))))) (by rfl)) (da_c (de_str) (da_c (de_non) (da_nil)))))))
    (dss_one (ds_ret (hd := de_bl)))
    (dss_nil))
    (dss_cons (ds_set (i := 7) s_law_refused.nd (DO.toE (do_lc (js := [11]) ok.toOkc [("arc", 11)] s_law_refused.nd (di_range1 (by rfl) h.n_range (DE.toB (de_len (by rfl) h.n_len (da_cB (DE.toB (de_item ok.hu (db_var (i := 1)) (DE.toB (de_int)))) (da_nil))))) (fun _ _ _ _ _ => dg_name (i := 11) s_law_refused.nd (by rfl) (by first | exact .inl rfl | exact .inr rfl) (by decide)) (fun _ _ _ _ _ ok => dts_one (dt_ne ok.hu64 (DE.toB (de_item ok.hu (DE.toB (de_item ok.hu (DE.toB (de_item ok.hu (db_var (i := 1)) (DE.toB (de_int)))) (db_var (i := 11)))) (DE.toB (de_int)))) (db_var (i := 6)))) (fun _ _ _ _ _ ok => de_var (i := 11)))))
    (dss_cons (ds_if (dt_not (dt_val (de_call (d_law_is h) ok.toOkc (by rfl) (da_c (de_caught (k := 7) h.ct ok.toOkc hl rfl (fun _ _ _ _ _ => rfl) (fun _ _ _ _ _ _ _ ok => de_call (d_bound h) ok (by rfl) (da_c (de_var (i := 2)) (da_c (de_var (i := 5)) (da_c (de_call (d_law_pick h) ok (by rfl) (da_c (de_var (i := 0)) (da_c (de_add (db_var (i := 7)) (DE.toB (DO.toE (do_lst (da_c (de_var (i := 4)) (da_nil)))))) (da_nil)))) (da_c (de_var (i := 4)) (da_nil)))))) (by rfl)) (da_c (de_str) (da_c (de_non) (da_nil)))))))
    (dss_one (ds_ret (hd := de_bl)))
    (dss_nil))
    (dss_cons (ds_for (js := [8]) ok.own ok.calm (di_seq (de_call (d_law_out h) ok.toOkc (by rfl) (da_c (de_item ok.hu (db_var (i := 1)) (DE.toB (de_int))) (da_c (de_var (i := 6)) (da_nil))))) (dg_name (i := 8) s_law_refused.nd (by rfl) (by first | exact .inl rfl | exact .inr rfl) (by decide))
    (dss_cons (ds_set (i := 9) s_law_refused.nd (DO.toE (do_lc (js := [12]) ok.toOkc [("secret", 12)] s_law_refused.nd (di_seq (de_call (d_law_asked h) ok.toOkc (by rfl) (da_c (de_var (i := 1)) (da_c (de_var (i := 5)) (da_nil))))) (fun _ _ _ _ _ => dg_name (i := 12) s_law_refused.nd (by rfl) (by first | exact .inl rfl | exact .inr rfl) (by decide)) (fun _ _ _ _ _ ok => dts_one (dt_w (dw_and (dt_in ok.hu65 (db_var (i := 12)) (DE.toB (de_call (d_law_asked h) ok (by rfl) (da_c (de_var (i := 1)) (da_c (de_var (i := 8)) (da_nil)))))) (dw_and1 (dt_ne ok.hu64 (db_var (i := 12)) (db_var (i := 6))))))) (fun _ _ _ _ _ ok => de_var (i := 12)))))
    (dss_cons (ds_set (i := 10) s_law_refused.nd (de_add (DE.toB (DO.toE (do_lc (js := [12]) ok.toOkc [("secret", 12)] s_law_refused.nd (di_range1 (by rfl) h.n_range (DE.toB (de_item ok.hu (db_var (i := 1)) (DE.toB (de_int))))) (fun _ _ _ _ _ => dg_name (i := 12) s_law_refused.nd (by rfl) (by first | exact .inl rfl | exact .inr rfl) (by decide)) (fun _ _ _ _ _ ok => dts_one (dt_nin ok.hu65 (db_var (i := 12)) (db_var (i := 9)))) (fun _ _ _ _ _ ok => de_var (i := 12))))) (DE.toB (DO.toE (do_lst (da_c (de_neg (DE.toB (de_int))) (da_c (de_item ok.hu (db_var (i := 1)) (DE.toB (de_int))) (da_c (de_non) (da_c (de_bl) (da_nil))))))))))
    (dss_one (ds_if (dt_not (dt_val (de_call (d_law_is h) ok.toOkc (by rfl) (da_c (de_caught (k := 7) h.ct ok.toOkc hl rfl (fun _ _ _ _ _ => rfl) (fun _ _ _ _ _ _ _ ok => de_call (d_bound h) ok (by rfl) (da_c (de_var (i := 2)) (da_c (de_var (i := 5)) (da_c (de_var (i := 8)) (da_c (de_call (d_law_pick h) ok (by rfl) (da_c (de_var (i := 0)) (da_c (de_var (i := 10)) (da_nil)))) (da_nil)))))) (by rfl)) (da_c (de_str) (da_c (de_non) (da_nil)))))))
    (dss_one (ds_ret (hd := de_bl)))
    (dss_nil))))))
    (dss_one (ds_ret (hd := de_bl))))))))))

theorem s_law_limits_right : FnScope ["state", "parts", "deal", "arc", "seals"] ["state", "parts", "deal"] (defScope (top 98)) := ⟨rfl, rfl, rfl, by decide +kernel, rfl, by decide +kernel, by decide +kernel⟩
theorem d_law_limits_right (h : HF K mg base ci) : Fd PR w K mg base ci 8 "_law_limits_right" .sh 3 m_law_limits_right :=
  fd_shL h.t_law_limits_right s_law_limits_right rfl rfl (fun _ _ _ _ _ _ us hl => match us, hl with | [_, _, _], _ => rfl) fun f cdv A outer s H E hl ok =>
    dss_cons (ds_set (i := 3) s_law_limits_right.nd (de_call (d_law_draw h) ok.toOkc (by rfl) (da_c (de_var (i := 0)) (da_c (de_len (by rfl) h.n_len (da_cB (DE.toB (de_item ok.hu (db_var (i := 1)) (DE.toB (de_int)))) (da_nil))) (da_nil)))))
    (dss_cons (ds_for (js := [4]) ok.own ok.calm (di_seq (DO.toE (do_lst (da_c (de_int) (da_c (de_add (DE.toB (de_item ok.hu (db_var (i := 1)) (DE.toB (de_int)))) (DE.toB (de_int))) (da_c (de_non) (da_c (de_bl) (da_nil)))))))) (dg_name (i := 4) s_law_limits_right.nd (by rfl) (by first | exact .inl rfl | exact .inr rfl) (by decide))
    (dss_one (ds_if (dt_not (dt_val (de_call (d_law_is h) ok.toOkc (by rfl) (da_c (de_caught (k := 5) h.ct ok.toOkc hl rfl (fun _ _ _ _ _ => rfl) (fun _ _ _ _ _ _ _ ok => de_call (d_last_tick h) ok (by rfl) (da_c (de_var (i := 2)) (da_c (de_var (i := 3)) (da_c (de_int) (da_c (de_var (i := 4)) (da_nil)))))) (by rfl)) (da_c (de_str) (da_c (de_non) (da_nil)))))))
    (dss_one (ds_ret (hd := de_bl)))
    (dss_nil))))
    (dss_one (ds_ret (hd := de_bl))))

theorem s_law_closed_deal : FnScope ["state", "wishes", "houses", "lags", "arcs", "asked", "giver", "taker", "book", "own", "house", "into", "sealed", "start", "waits", "locks", "arc"] ["state", "wishes"] (defScope (top 90)) := ⟨rfl, rfl, rfl, by decide +kernel, rfl, by decide +kernel, by decide +kernel⟩
theorem d_law_closed_deal (h : HF K mg base ci) : Fd PR w K mg base ci 4 "_law_closed_deal" .sh 2 m_law_closed_deal :=
  fd_sh h.t_law_closed_deal s_law_closed_deal rfl rfl (fun _ _ _ _ _ _ us hl => match us, hl with | [_, _], _ => rfl) fun f cdv A outer s H E ok =>
    dss_cons (ds_asg (js := [2, 3, 4]) (de_var (i := 1)) (dg_tup (k := _) ok.calm (dgs_cons (dg_name (i := 2) s_law_closed_deal.nd (by rfl) (by first | exact .inl rfl | exact .inr rfl) (by decide)) (dgs_cons (dg_name (i := 3) s_law_closed_deal.nd (by rfl) (by first | exact .inl rfl | exact .inr rfl) (by decide)) (dgs_cons (dg_name (i := 4) s_law_closed_deal.nd (by rfl) (by first | exact .inl rfl | exact .inr rfl) (by decide)) (dgs_nil))))))
    (dss_cons (ds_own (i := 5) s_law_closed_deal.nd (do_lst (da_nil)))
    (dss_cons (ds_for (js := [6, 7, 8]) ok.own ok.calm (di_seq (de_var (i := 4))) (dg_tup (k := _) ok.calm (dgs_cons (dg_name (i := 6) s_law_closed_deal.nd (by rfl) (by first | exact .inl rfl | exact .inr rfl) (by decide)) (dgs_cons (dg_name (i := 7) s_law_closed_deal.nd (by rfl) (by first | exact .inl rfl | exact .inr rfl) (by decide)) (dgs_cons (dg_name (i := 8) s_law_closed_deal.nd (by rfl) (by first | exact .inl rfl | exact .inr rfl) (by decide)) (dgs_nil)))))
    (dss_cons (ds_set (i := 9) s_law_closed_deal.nd (de_if (dt_eq ok.hu64 (DE.toB (de_call (d_law_draw h) ok.toOkc (by rfl) (da_c (de_var (i := 0)) (da_c (de_int) (da_nil))))) (DE.toB (de_int))) (DO.toE (do_lst (da_c (de_var (i := 6)) (da_nil)))) (DO.toE (do_lst (da_nil)))))
    (dss_one (ds_append (i := 5) (de_add (db_var (i := 9)) (DE.toB (de_if (dt_w (dw_or (dt_eq ok.hu64 (db_var (i := 9)) (DE.toB (DO.toE (do_lst (da_nil))))) (dw_or1 (dt_eq ok.hu64 (DE.toB (de_call (d_law_draw h) ok.toOkc (by rfl) (da_c (de_var (i := 0)) (da_c (de_int) (da_nil))))) (DE.toB (de_int)))))) (DO.toE (do_lst (da_c (de_var (i := 7)) (da_nil)))) (DO.toE (do_lst (da_nil))))))))))
    (dss_cons (ds_frz [5] (ds_own (i := 5) s_law_closed_deal.nd (do_call (d_law_handed h) ok.toOkc (by rfl) (da_c (de_var (i := 4)) (da_c (de_var (i := 5)) (da_nil))))))
    (dss_cons (ds_for (js := [10]) ok.own ok.calm (di_range1 (by rfl) h.n_range (db_var (i := 2))) (dg_name (i := 10) s_law_closed_deal.nd (by rfl) (by first | exact .inl rfl | exact .inr rfl) (by decide))
    (dss_cons (ds_set (i := 11) s_law_closed_deal.nd (de_call (d_law_into h) ok.toOkc (by rfl) (da_c (de_var (i := 4)) (da_c (de_var (i := 10)) (da_nil)))))
    (dss_one (ds_if (dt_w (dw_and (dt_ne ok.hu64 (db_var (i := 11)) (DE.toB (DO.toE (do_lst (da_nil))))) (dw_and1 (dt_val (de_all ok.calm (by rfl) h.n_all (da_cB (DE.toB (DO.toE (do_lc (js := [16]) ok.toOkc [("arc", 16)] s_law_closed_deal.nd (di_seq (de_var (i := 11))) (fun _ _ _ _ _ => dg_name (i := 16) s_law_closed_deal.nd (by rfl) (by first | exact .inl rfl | exact .inr rfl) (by decide)) (fun _ _ _ _ _ ok => dts_nil) (fun _ _ _ _ _ ok => de_nin ok.hu65 (db_var (i := 10)) (DE.toB (de_item ok.hu (db_var (i := 5)) (db_var (i := 16)))))))) (da_nil)))))))
    (dss_one (ds_setL (i := 5) (de_add (DE.toB (de_item ok.hu (db_var (i := 5)) (DE.toB (de_item ok.hu (db_var (i := 11)) (DE.toB (de_int)))))) (DE.toB (DO.toE (do_lst (da_c (de_var (i := 10)) (da_nil)))))) (de_item ok.hu (db_var (i := 11)) (DE.toB (de_int)))))
    (dss_nil)))))
    (dss_cons (ds_set (i := 12) s_law_closed_deal.nd (DO.toE (do_lc (js := [10]) ok.toOkc [("house", 10)] s_law_closed_deal.nd (di_range1 (by rfl) h.n_range (db_var (i := 2))) (fun _ _ _ _ _ => dg_name (i := 10) s_law_closed_deal.nd (by rfl) (by first | exact .inl rfl | exact .inr rfl) (by decide)) (fun _ _ _ _ _ ok => dts_nil) (fun _ _ _ _ _ ok => de_intC (by rfl) h.n_int (da_cB (DE.toB (de_eq ok.hu64 (DE.toB (de_call (d_law_draw h) ok (by rfl) (da_c (de_var (i := 0)) (da_c (de_int) (da_nil))))) (DE.toB (de_int)))) (da_nil))))))
    (dss_cons (ds_parC (is := [(13, false), (14, true), (15, true)]) ok.calm (dam_sh (de_call (d_law_draw h) ok.toOkc (by rfl) (da_c (de_var (i := 0)) (da_c (de_int) (da_nil)))) (dam_ow (do_lst (da_nil)) (dam_ow (do_lst (da_nil)) (dam_nil)))) (dp_cons (i := 13) false s_law_closed_deal.nd (dp_cons (i := 14) true s_law_closed_deal.nd (dp_cons (i := 15) true s_law_closed_deal.nd (dp_nil)))))
    (dss_cons (ds_for (js := [16, 6, 7, 8]) ok.own ok.calm (di_enum (by rfl) h.n_enumerate (de_var (i := 4))) (dg_tup (k := _) ok.calm (dgs_cons (dg_name (i := 16) s_law_closed_deal.nd (by rfl) (by first | exact .inl rfl | exact .inr rfl) (by decide)) (dgs_cons (dg_tup (k := _) ok.calm (dgs_cons (dg_name (i := 6) s_law_closed_deal.nd (by rfl) (by first | exact .inl rfl | exact .inr rfl) (by decide)) (dgs_cons (dg_name (i := 7) s_law_closed_deal.nd (by rfl) (by first | exact .inl rfl | exact .inr rfl) (by decide)) (dgs_cons (dg_name (i := 8) s_law_closed_deal.nd (by rfl) (by first | exact .inl rfl | exact .inr rfl) (by decide)) (dgs_nil))))) (dgs_nil))))
    (dss_cons (ds_set (i := 11) s_law_closed_deal.nd (de_call (d_law_into h) ok.toOkc (by rfl) (da_c (de_var (i := 4)) (da_c (de_var (i := 6)) (da_nil)))))
    (dss_cons (ds_append (i := 14) (de_tuple (by rfl) h.n_tuple (da_cB (DE.toB (de_if (dt_in ok.hu65 (db_var (i := 6)) (DE.toB (de_item ok.hu (db_var (i := 5)) (db_var (i := 16))))) (de_call (d_law_part h) ok.toOkc (by rfl) (da_c (de_var (i := 0)) (da_c (de_var (i := 11)) (da_c (de_int) (da_nil))))) (de_var (i := 11)))) (da_nil))))
    (dss_one (ds_append (i := 15) (de_tuple (by rfl) h.n_tuple (da_cB (DE.toB (DO.toE (do_lc (js := [10]) ok.toOkc [("house", 10)] s_law_closed_deal.nd (di_seq (DO.toE (do_sorted (by rfl) h.n_sorted (da_cB (DE.toB (de_item ok.hu (db_var (i := 5)) (db_var (i := 16)))) (da_nil))))) (fun _ _ _ _ _ => dg_name (i := 10) s_law_closed_deal.nd (by rfl) (by first | exact .inl rfl | exact .inr rfl) (by decide)) (fun _ _ _ _ _ ok => dts_nil) (fun _ _ _ _ _ ok => de_tup (da_c (de_var (i := 10)) (da_c (de_add (db_var (i := 13)) (DE.toB (de_call (d_law_draw h) ok (by rfl) (da_c (de_var (i := 0)) (da_c (de_int) (da_nil)))))) (da_c (de_mod (DE.toB (de_add (DE.toB (de_item ok.hu (db_var (i := 12)) (db_var (i := 10)))) (DE.toB (de_intC (by rfl) h.n_int (da_cB (DE.toB (de_eq ok.hu64 (DE.toB (de_call (d_law_draw h) ok (by rfl) (da_c (de_var (i := 0)) (da_c (de_int) (da_nil))))) (DE.toB (de_int)))) (da_nil)))))) (DE.toB (de_int))) (da_nil)))))))) (da_nil))))))))
    (dss_one (ds_ret (hd := de_tup (da_c (de_var (i := 2)) (da_c (de_var (i := 3)) (da_c (de_var (i := 13)) (da_c (de_add (DE.toB (de_max ok.calm (by rfl) h.n_max (da_cB (db_var (i := 3)) (da_nil)))) (DE.toB (de_call (d_law_draw h) ok.toOkc (by rfl) (da_c (de_var (i := 0)) (da_c (de_int) (da_nil)))))) (da_c (de_var (i := 4)) (da_c (de_tuple (by rfl) h.n_tuple (da_cB (db_var (i := 14)) (da_nil))) (da_c (de_tuple (by rfl) h.n_tuple (da_cB (db_var (i := 15)) (da_nil))) (da_nil))))))))))))))))))

theorem s_law : FnScope ["script", "state", "turn", "wishes", "parts", "deal", "triple", "arcs", "waits", "inner", "outer", "due", "locks"] ["script"] (defScope (top 99)) := ⟨rfl, rfl, rfl, by decide +kernel, rfl, by decide +kernel, by decide +kernel⟩
theorem d_law (h : HF K mg base ci) : LawD PR w K mg base ci 13 ["script", "state", "turn", "wishes", "parts", "deal", "triple", "arcs", "waits", "inner", "outer", "due", "locks"] (top 99) (fun _ => True) b_law :=
  ⟨_, fun f cdv A outer s H E hl ok =>
    dss_cons (ds_for (js := [2]) ok.own ok.calm (di_range1 (by rfl) h.n_range (DE.toB (de_add (DE.toB (de_int)) (DE.toB (de_min2 ok.calm (by rfl) h.n_min (da_cB (DE.toB (de_len (by rfl) h.n_len (da_cB (db_var (i := 0)) (da_nil)))) (da_cB (DE.toB (de_int)) (da_nil)))))))) (dg_name (i := 2) s_law.nd (by rfl) (by first | exact .inl rfl | exact .inr rfl) (by decide))
    (dss_cons (ds_set (i := 3) s_law.nd (de_call (d_law_wish h) ok.toOkc (by rfl) (da_c (de_var (i := 1)) (da_c (de_add (DE.toB (de_int)) (DE.toB (de_call (d_law_draw h) ok.toOkc (by rfl) (da_c (de_var (i := 1)) (da_c (de_int) (da_nil)))))) (da_c (de_int) (da_nil))))))
    (dss_cons (ds_set (i := 4) s_law.nd (de_if (dt_gt (DE.toB (de_call (d_law_draw h) ok.toOkc (by rfl) (da_c (de_var (i := 1)) (da_c (de_int) (da_nil))))) (DE.toB (de_int))) (de_call (d_law_closed_deal h) ok.toOkc (by rfl) (da_c (de_var (i := 1)) (da_c (de_var (i := 3)) (da_nil)))) (de_call (d_law_any_deal h) ok.toOkc (by rfl) (da_c (de_var (i := 1)) (da_c (de_var (i := 3)) (da_nil))))))
    (dss_cons (ds_set (i := 5) s_law.nd (de_call (d_law_made h) ok.toOkc (by rfl) (da_c (de_var (i := 4)) (da_nil))))
    (dss_cons (ds_for (js := [6]) ok.own ok.calm (di_seq (de_slice (DE.toB (de_call (d_law_shuffled h) ok.toOkc (by rfl) (da_c (de_var (i := 1)) (da_c (de_call (d_law_triples h) ok.toOkc (by rfl) (da_c (de_var (i := 4)) (da_nil))) (da_nil))))) (do_none) (do_some (DE.toB (de_int))))) (dg_name (i := 6) s_law.nd (by rfl) (by first | exact .inl rfl | exact .inr rfl) (by decide))
    (dss_one (ds_if (dt_not (dt_val (de_call (d_law_triple_right h) ok.toOkc (by rfl) (da_c (de_var (i := 4)) (da_c (de_var (i := 5)) (da_c (de_var (i := 6)) (da_nil)))))))
    (dss_one (ds_ret (hd := de_bl)))
    (dss_nil))))
    (dss_one (ds_if (dt_w (dw_or (dt_not (dt_val (de_call (d_law_refused h) ok.toOkc (by rfl) (da_c (de_var (i := 1)) (da_c (de_var (i := 4)) (da_c (de_var (i := 5)) (da_nil))))))) (dw_or1 (dt_not (dt_val (de_call (d_law_limits_right h) ok.toOkc (by rfl) (da_c (de_var (i := 1)) (da_c (de_var (i := 4)) (da_c (de_var (i := 5)) (da_nil))))))))))
    (dss_one (ds_ret (hd := de_bl)))
    (dss_nil))))))))
    (dss_cons (ds_par2 (i := 7) (j := 8) ok.calm s_law.nd (dam_sh (DO.toE (do_lst (da_c (de_tup (da_c (de_int) (da_c (de_int) (da_c (de_int) (da_nil))))) (da_c (de_tup (da_c (de_int) (da_c (de_int) (da_c (de_int) (da_nil))))) (da_c (de_tup (da_c (de_int) (da_c (de_int) (da_c (de_int) (da_nil))))) (da_c (de_tup (da_c (de_int) (da_c (de_int) (da_c (de_int) (da_nil))))) (da_nil))))))) (dam_sh (DO.toE (do_lst (da_c (DO.toE (do_lst (da_nil))) (da_c (DO.toE (do_lst (da_nil))) (da_c (DO.toE (do_lst (da_nil))) (da_c (DO.toE (do_lst (da_nil))) (da_nil))))))) (dam_nil))))
    (dss_cons (ds_for (js := [9, 10, 11]) ok.own ok.calm (di_seq (DO.toE (do_lst (da_c (de_tup (da_c (de_int) (da_c (de_int) (da_c (de_int) (da_nil))))) (da_c (de_tup (da_c (de_int) (da_c (de_int) (da_c (de_neg (DE.toB (de_int))) (da_nil))))) (da_c (de_tup (da_c (de_int) (da_c (de_int) (da_c (de_neg (DE.toB (de_int))) (da_nil))))) (da_c (de_tup (da_c (de_int) (da_c (de_int) (da_c (de_int) (da_nil))))) (da_nil)))))))) (dg_tup (k := _) ok.calm (dgs_cons (dg_name (i := 9) s_law.nd (by rfl) (by first | exact .inl rfl | exact .inr rfl) (by decide)) (dgs_cons (dg_name (i := 10) s_law.nd (by rfl) (by first | exact .inl rfl | exact .inr rfl) (by decide)) (dgs_cons (dg_name (i := 11) s_law.nd (by rfl) (by first | exact .inl rfl | exact .inr rfl) (by decide)) (dgs_nil)))))
    (dss_cons (ds_set (i := 12) s_law.nd (DO.toE (do_lst (da_c (DO.toE (do_lst (da_c (de_tup (da_c (de_int) (da_c (de_int) (da_c (de_var (i := 9)) (da_nil))))) (da_nil)))) (da_c (DO.toE (do_lst (da_c (de_tup (da_c (de_int) (da_c (de_int) (da_c (de_var (i := 10)) (da_nil))))) (da_nil)))) (da_c (DO.toE (do_lst (da_c (de_tup (da_c (de_int) (da_c (de_int) (da_c (de_int) (da_nil))))) (da_nil)))) (da_c (DO.toE (do_lst (da_c (de_tup (da_c (de_int) (da_c (de_int) (da_c (de_int) (da_nil))))) (da_nil)))) (da_nil))))))))
    (dss_one (ds_if (dt_not (dt_val (de_call (d_law_same h) ok.toOkc (by rfl) (da_c (de_call (d_bound h) ok.toOkc (by rfl) (da_c (DO.toE (do_make (mk_Deal_ok h) ok.toOkc (by rfl) (da_c (de_int) (da_c (DO.toE (do_lst (da_c (de_int) (da_nil)))) (da_c (de_int) (da_c (de_int) (da_c (de_var (i := 7)) (da_c (de_var (i := 8)) (da_c (de_var (i := 12)) (da_nil)))))))))) (da_c (de_int) (da_c (de_int) (da_c (de_int) (da_nil)))))) (da_c (de_var (i := 11)) (da_nil))))))
    (dss_one (ds_ret (hd := de_bl)))
    (dss_nil)))))
    (dss_one (ds_ret (hd := de_bl))))), by decide +kernel⟩

end
end K47
end
section
/-! K47H: the head, printed by gen.py. -/
set_option Elab.async false
set_option linter.all false
set_option autoImplicit false
set_option maxRecDepth 100000
set_option maxHeartbeats 0
namespace K47
open PySem PySem.Spec PyProof.Rows L2 He LamX DL
def tfs : List Str := ["wrong_rise", "need_lags", "need_arcs", "is_lock", "need_locks", "_law_refused", "_law_limits_right"]
def nm (c : Nat) : Str := match c with
  | 0 => "DealError"
  | 1 => "ItemError"
  | 2 => "NoDeal"
  | 3 => "BadHouses"
  | 4 => "BadLags"
  | 5 => "BadStart"
  | 6 => "BadGap"
  | 7 => "BadArcs"
  | 8 => "BadWaits"
  | 9 => "BadLocks"
  | 10 => "BadHouse"
  | 11 => "BadArc"
  | 12 => "BadSeals"
  | 13 => "Deal"
  | _ => ""
def fl (c : Nat) : List Str := match c with
  | 1 => ["index"]
  | 3 => ["index"]
  | 4 => ["index"]
  | 5 => ["index"]
  | 6 => ["index"]
  | 7 => ["index"]
  | 8 => ["index"]
  | 9 => ["index"]
  | 10 => ["index"]
  | 11 => ["index"]
  | 12 => ["index"]
  | 13 => ["own_houses", "own_lags", "own_start", "own_gap", "own_arcs", "own_waits", "own_locks"]
  | _ => []
def ciOf (K : Frag) : Ci := ⟨fun c => ga K (nm c), fl, fun _ _ _ => .own 0, ciTabs K tfs⟩
def fns : List Rf := [rf_is_number, rf_is_between, rf_is_list, rf_first_fall, rf_wrong_rise, rf_is_rising_list, rf_need_houses, rf_need_lags, rf_is_arc, rf_need_arcs, rf_need_start, rf_need_gap, rf_need_waits, rf_is_entry, rf_is_lock, rf_need_locks, rf_Deal_init, rf_need_deal, rf_need_house, rf_need_arc, rf_giver_of, rf_taker_of, rf_lag_of, rf_entry_of, rf_does_ask, rf_last_of, rf_last_tick, rf_lengths_of, rf_seal_lengths, rf_seal_ticks, rf_bound_of, rf_need_given, rf_need_handed, rf_bound, rf_law_begun, rf_law_pick, rf_law_shuffled, rf_law_part, rf_law_is_truth, rf_law_same, rf_law_made, rf_law_into, rf_law_out, rf_law_lag, rf_law_asked, rf_law_entry, rf_law_last, rf_law_lengths, rf_law_lags, rf_law_ring, rf_law_joined, rf_law_wish, rf_law_with_last, rf_law_any_lock, rf_law_any_deal, rf_law_later, rf_law_bound, rf_law_handed, rf_law_is, rf_law_triples, rf_law_told_bound, rf_law_spot, rf_law_triple_right, rf_law_refused, rf_law_limits_right, rf_law_closed_deal, rf_law, rf_law_draw, rf_law_blended, rf_law_caught, rf_first_wrong, rf_ItemError_init, rf_Deal_houses, rf_Deal_lags, rf_Deal_start, rf_Deal_gap, rf_Deal_arcs, rf_Deal_waits, rf_Deal_locks]
def bl (K : Frag) : List Bool := [
  gloB K "law",
  freeB K "int",
  freeB K "isinstance",
  freeB K "bool",
  gloB K "is_number",
  gloB K "is_between",
  freeB K "list",
  freeB K "tuple",
  gloB K "is_list",
  freeB K "range",
  freeB K "len",
  gloB K "first_fall",
  gloB K "wrong_rise",
  tabsU K tfs,
  gloB K "is_rising_list",
  (Fa.int "LEAST_HOUSES" 2).ok K,
  (Fa.int "MOST_HOUSES" 12).ok K,
  gloB K "need_houses",
  (Fa.int "MOST_BOOKS" 4).ok K,
  (Fa.int "MOST_LAG" 1000).ok K,
  gloB K "need_lags",
  gloB K "is_arc",
  (Fa.int "MOST_ARCS" 24).ok K,
  gloB K "need_arcs",
  (Fa.int "MOST_START" 100000000).ok K,
  gloB K "need_start",
  freeB K "max",
  (Fa.int "MOST_GAP" 1000000).ok K,
  gloB K "need_gap",
  freeB K "enumerate",
  freeB K "any",
  gloB K "need_waits",
  (Fa.int "MOST_LAST" 1000000000).ok K,
  gloB K "is_entry",
  gloB K "is_lock",
  gloB K "need_locks",
  clsB K (ga K "Deal"),
  eqO (PySem.W.findIn K (.ref (ga K "Deal")) "own_houses") (some none),
  eqO (PySem.W.findIn K (.ref (ga K "Deal")) "own_lags") (some none),
  eqO (PySem.W.findIn K (.ref (ga K "Deal")) "own_start") (some none),
  eqO (PySem.W.findIn K (.ref (ga K "Deal")) "own_gap") (some none),
  eqO (PySem.W.findIn K (.ref (ga K "Deal")) "own_arcs") (some none),
  eqO (PySem.W.findIn K (.ref (ga K "Deal")) "own_waits") (some none),
  eqO (PySem.W.findIn K (.ref (ga K "Deal")) "own_locks") (some none),
  gloB K "Deal",
  mkB K (ga K "Deal"),
  gloB K "NoDeal",
  PySem.W.excIn K (ga K "NoDeal") [.type "ValueError", .type "Exception", .type "BaseException", .type "object"] "ValueError.__new__",
  decide (PySem.W.subIn K (.ref (ga K "NoDeal")) (.type "BaseException") = some true),
  decide (PySem.W.typeIn K (.ref (ga K "NoDeal")) = some (.type "type")),
  gloB K "need_deal",
  gloB K "need_house",
  gloB K "need_arc",
  gloB K "giver_of",
  gloB K "taker_of",
  gloB K "lag_of",
  gloB K "entry_of",
  gloB K "does_ask",
  gloB K "last_of",
  gloB K "last_tick",
  gloB K "lengths_of",
  gloB K "seal_lengths",
  gloB K "seal_ticks",
  gloB K "bound_of",
  gloB K "need_given",
  gloB K "need_handed",
  gloB K "bound",
  freeB K "abs",
  gloB K "_law_begun",
  freeB K "super",
  gloB K "_law_pick",
  gloB K "_law_shuffled",
  gloB K "_law_part",
  gloB K "_law_is_truth",
  freeB K "str",
  freeB K "zip",
  gloB K "_law_same",
  gloB K "_law_made",
  gloB K "_law_into",
  gloB K "_law_out",
  gloB K "_law_lag",
  gloB K "_law_asked",
  gloB K "_law_entry",
  gloB K "_law_last",
  gloB K "_law_lengths",
  gloB K "_law_lags",
  gloB K "_law_ring",
  gloB K "_law_joined",
  gloB K "_law_wish",
  gloB K "_law_with_last",
  freeB K "min",
  freeB K "sorted",
  gloB K "_law_any_lock",
  gloB K "_law_any_deal",
  gloB K "_law_later",
  gloB K "_law_bound",
  gloB K "_law_handed",
  gloB K "BadArc",
  gloB K "BadHouse",
  gloB K "BadSeals",
  gloB K "_law_is",
  gloB K "_law_triples",
  gloB K "_law_told_bound",
  gloB K "_law_spot",
  gloB K "_law_triple_right",
  gloB K "_law_refused",
  gloB K "_law_limits_right",
  freeB K "all",
  gloB K "_law_closed_deal",
  gloB K "_law_draw",
  gloB K "_law_blended",
  gloB K "_law_caught",
  gloB K "first_wrong",
  isB K csL (ciOf K).ca,
  cxAll.all fun c => decide (PySem.W.exmOne K (.ref ((ciOf K).ca c)) (.ref (ga K "DealError")) = some true),
  gloB K "DealError",
  gloB K "ItemError",
  exB K (ga K "ItemError") (ga K "ItemError") "index",
  gloB K "BadHouses",
  exB K (ga K "BadHouses") (ga K "ItemError") "index",
  gloB K "BadLags",
  exB K (ga K "BadLags") (ga K "ItemError") "index",
  gloB K "BadStart",
  exB K (ga K "BadStart") (ga K "ItemError") "index",
  gloB K "BadGap",
  exB K (ga K "BadGap") (ga K "ItemError") "index",
  gloB K "BadArcs",
  exB K (ga K "BadArcs") (ga K "ItemError") "index",
  gloB K "BadWaits",
  exB K (ga K "BadWaits") (ga K "ItemError") "index",
  gloB K "BadLocks",
  exB K (ga K "BadLocks") (ga K "ItemError") "index",
  exB K (ga K "BadHouse") (ga K "ItemError") "index",
  exB K (ga K "BadArc") (ga K "ItemError") "index",
  exB K (ga K "BadSeals") (ga K "ItemError") "index",
  eqO (PySem.W.nsIn K PySem.cStatics "thirdparty.any") (some none),
  supB K PR.main.file (rf_ItemError_init.ad K) (ga K "ItemError"),
  (PySem.W.clsIn K (ga K "ItemError")).isSome,
  propB K (ga K "Deal") "houses",
  propB K (ga K "Deal") "lags",
  propB K (ga K "Deal") "start",
  propB K (ga K "Deal") "gap",
  propB K (ga K "Deal") "arcs",
  propB K (ga K "Deal") "waits",
  propB K (ga K "Deal") "locks",
  cx_index.all fun c => excB K ((ciOf K).ca c) && eqO (PySem.W.findIn K (.ref ((ciOf K).ca c)) "index") (some none)]
def bs (K : Frag) : Bool := (bl K).all id
abbrev tfd : List Defn := tfs.map fun x => (x, none)
theorem hf {K : Frag} {mg : Str → Option Value} {h hh base : Heap} (X : K.In h) (G : h.Ns mainGlobals mg) (c : SaysZ bs fns tfd hh K) (TB : ∀ x ∈ tfs, TabB base mg (cT K (x, none)).1 (cT K (x, none)).2) : HF K mg base (ciOf K) :=
  have hb : (bl K).all id = true := c.bs
  {
    n_int := free_mg X G (all_at hb 1 rfl),
    n_isinstance := free_mg X G (all_at hb 2 rfl),
    n_bool := free_mg X G (all_at hb 3 rfl),
    t_is_number := td_of (r := rf_is_number) X G (c.fns _ (List.mem_of_getElem? (i := 0) rfl)).1 (c.fns _ (List.mem_of_getElem? (i := 0) rfl)).2 (all_at hb 4 rfl) rfl rfl rfl rfl,
    t_is_between := td_of (r := rf_is_between) X G (c.fns _ (List.mem_of_getElem? (i := 1) rfl)).1 (c.fns _ (List.mem_of_getElem? (i := 1) rfl)).2 (all_at hb 5 rfl) rfl rfl rfl rfl,
    n_list := free_mg X G (all_at hb 6 rfl),
    n_tuple := free_mg X G (all_at hb 7 rfl),
    t_is_list := td_of (r := rf_is_list) X G (c.fns _ (List.mem_of_getElem? (i := 2) rfl)).1 (c.fns _ (List.mem_of_getElem? (i := 2) rfl)).2 (all_at hb 8 rfl) rfl rfl rfl rfl,
    n_range := free_mg X G (all_at hb 9 rfl),
    n_len := free_mg X G (all_at hb 10 rfl),
    t_first_fall := td_of (r := rf_first_fall) X G (c.fns _ (List.mem_of_getElem? (i := 3) rfl)).1 (c.fns _ (List.mem_of_getElem? (i := 3) rfl)).2 (all_at hb 11 rfl) rfl rfl rfl rfl,
    t_wrong_rise := tdl_of X G (c.fns _ (List.mem_of_getElem? (i := 4) rfl)).1 (c.fns _ (List.mem_of_getElem? (i := 4) rfl)).2 (all_at hb 12 rfl) rfl rfl rfl rfl (tf := tfs) (by decide) (all_at hb 13 rfl) rfl (TB _ (by decide)),
    t_is_rising_list := td_of (r := rf_is_rising_list) X G (c.fns _ (List.mem_of_getElem? (i := 5) rfl)).1 (c.fns _ (List.mem_of_getElem? (i := 5) rfl)).2 (all_at hb 14 rfl) rfl rfl rfl rfl,
    i_LEAST_HOUSES := int_ok X G (all_at hb 15 rfl),
    i_MOST_HOUSES := int_ok X G (all_at hb 16 rfl),
    t_need_houses := td_of (r := rf_need_houses) X G (c.fns _ (List.mem_of_getElem? (i := 6) rfl)).1 (c.fns _ (List.mem_of_getElem? (i := 6) rfl)).2 (all_at hb 17 rfl) rfl rfl rfl rfl,
    i_MOST_BOOKS := int_ok X G (all_at hb 18 rfl),
    i_MOST_LAG := int_ok X G (all_at hb 19 rfl),
    t_need_lags := tdl_of X G (c.fns _ (List.mem_of_getElem? (i := 7) rfl)).1 (c.fns _ (List.mem_of_getElem? (i := 7) rfl)).2 (all_at hb 20 rfl) rfl rfl rfl rfl (tf := tfs) (by decide) (all_at hb 13 rfl) rfl (TB _ (by decide)),
    t_is_arc := td_of (r := rf_is_arc) X G (c.fns _ (List.mem_of_getElem? (i := 8) rfl)).1 (c.fns _ (List.mem_of_getElem? (i := 8) rfl)).2 (all_at hb 21 rfl) rfl rfl rfl rfl,
    i_MOST_ARCS := int_ok X G (all_at hb 22 rfl),
    t_need_arcs := tdl_of X G (c.fns _ (List.mem_of_getElem? (i := 9) rfl)).1 (c.fns _ (List.mem_of_getElem? (i := 9) rfl)).2 (all_at hb 23 rfl) rfl rfl rfl rfl (tf := tfs) (by decide) (all_at hb 13 rfl) rfl (TB _ (by decide)),
    i_MOST_START := int_ok X G (all_at hb 24 rfl),
    t_need_start := td_of (r := rf_need_start) X G (c.fns _ (List.mem_of_getElem? (i := 10) rfl)).1 (c.fns _ (List.mem_of_getElem? (i := 10) rfl)).2 (all_at hb 25 rfl) rfl rfl rfl rfl,
    n_max := free_mg X G (all_at hb 26 rfl),
    i_MOST_GAP := int_ok X G (all_at hb 27 rfl),
    t_need_gap := td_of (r := rf_need_gap) X G (c.fns _ (List.mem_of_getElem? (i := 11) rfl)).1 (c.fns _ (List.mem_of_getElem? (i := 11) rfl)).2 (all_at hb 28 rfl) rfl rfl rfl rfl,
    n_enumerate := free_mg X G (all_at hb 29 rfl),
    n_any := free_mg X G (all_at hb 30 rfl),
    t_need_waits := td_of (r := rf_need_waits) X G (c.fns _ (List.mem_of_getElem? (i := 12) rfl)).1 (c.fns _ (List.mem_of_getElem? (i := 12) rfl)).2 (all_at hb 31 rfl) rfl rfl rfl rfl,
    i_MOST_LAST := int_ok X G (all_at hb 32 rfl),
    t_is_entry := td_of (r := rf_is_entry) X G (c.fns _ (List.mem_of_getElem? (i := 13) rfl)).1 (c.fns _ (List.mem_of_getElem? (i := 13) rfl)).2 (all_at hb 33 rfl) rfl rfl rfl rfl,
    t_is_lock := tdl_of X G (c.fns _ (List.mem_of_getElem? (i := 14) rfl)).1 (c.fns _ (List.mem_of_getElem? (i := 14) rfl)).2 (all_at hb 34 rfl) rfl rfl rfl rfl (tf := tfs) (by decide) (all_at hb 13 rfl) rfl (TB _ (by decide)),
    t_need_locks := tdl_of X G (c.fns _ (List.mem_of_getElem? (i := 15) rfl)).1 (c.fns _ (List.mem_of_getElem? (i := 15) rfl)).2 (all_at hb 35 rfl) rfl rfl rfl rfl (tf := tfs) (by decide) (all_at hb 13 rfl) rfl (TB _ (by decide)),
    fl_Deal_0 := ⟨clsB_ok (all_at hb 36 rfl), eqO_ok (all_at hb 37 rfl), rfl, by show (fl 13).Nodup; decide⟩,
    fl_Deal_1 := ⟨clsB_ok (all_at hb 36 rfl), eqO_ok (all_at hb 38 rfl), rfl, by show (fl 13).Nodup; decide⟩,
    fl_Deal_2 := ⟨clsB_ok (all_at hb 36 rfl), eqO_ok (all_at hb 39 rfl), rfl, by show (fl 13).Nodup; decide⟩,
    fl_Deal_3 := ⟨clsB_ok (all_at hb 36 rfl), eqO_ok (all_at hb 40 rfl), rfl, by show (fl 13).Nodup; decide⟩,
    fl_Deal_4 := ⟨clsB_ok (all_at hb 36 rfl), eqO_ok (all_at hb 41 rfl), rfl, by show (fl 13).Nodup; decide⟩,
    fl_Deal_5 := ⟨clsB_ok (all_at hb 36 rfl), eqO_ok (all_at hb 42 rfl), rfl, by show (fl 13).Nodup; decide⟩,
    fl_Deal_6 := ⟨clsB_ok (all_at hb 36 rfl), eqO_ok (all_at hb 43 rfl), rfl, by show (fl 13).Nodup; decide⟩,
    mk_Deal := mkF_of (r := rf_Deal_init) X G (c.fns _ (List.mem_of_getElem? (i := 16) rfl)).1 (c.fns _ (List.mem_of_getElem? (i := 16) rfl)).2 (all_at hb 44 rfl) rfl (all_at hb 45 rfl) rfl rfl rfl rfl,
    g_Deal := glo_mg X G (all_at hb 44 rfl),
    em_NoDeal := ⟨glo_mg X G (all_at hb 46 rfl), (all_at hb 47 rfl), (ba (all_at hb 46 rfl)).2, of_decide_eq_true (all_at hb 48 rfl), of_decide_eq_true (all_at hb 49 rfl)⟩,
    t_need_deal := td_of (r := rf_need_deal) X G (c.fns _ (List.mem_of_getElem? (i := 17) rfl)).1 (c.fns _ (List.mem_of_getElem? (i := 17) rfl)).2 (all_at hb 50 rfl) rfl rfl rfl rfl,
    t_need_house := td_of (r := rf_need_house) X G (c.fns _ (List.mem_of_getElem? (i := 18) rfl)).1 (c.fns _ (List.mem_of_getElem? (i := 18) rfl)).2 (all_at hb 51 rfl) rfl rfl rfl rfl,
    t_need_arc := td_of (r := rf_need_arc) X G (c.fns _ (List.mem_of_getElem? (i := 19) rfl)).1 (c.fns _ (List.mem_of_getElem? (i := 19) rfl)).2 (all_at hb 52 rfl) rfl rfl rfl rfl,
    t_giver_of := td_of (r := rf_giver_of) X G (c.fns _ (List.mem_of_getElem? (i := 20) rfl)).1 (c.fns _ (List.mem_of_getElem? (i := 20) rfl)).2 (all_at hb 53 rfl) rfl rfl rfl rfl,
    t_taker_of := td_of (r := rf_taker_of) X G (c.fns _ (List.mem_of_getElem? (i := 21) rfl)).1 (c.fns _ (List.mem_of_getElem? (i := 21) rfl)).2 (all_at hb 54 rfl) rfl rfl rfl rfl,
    t_lag_of := td_of (r := rf_lag_of) X G (c.fns _ (List.mem_of_getElem? (i := 22) rfl)).1 (c.fns _ (List.mem_of_getElem? (i := 22) rfl)).2 (all_at hb 55 rfl) rfl rfl rfl rfl,
    t_entry_of := td_of (r := rf_entry_of) X G (c.fns _ (List.mem_of_getElem? (i := 23) rfl)).1 (c.fns _ (List.mem_of_getElem? (i := 23) rfl)).2 (all_at hb 56 rfl) rfl rfl rfl rfl,
    t_does_ask := td_of (r := rf_does_ask) X G (c.fns _ (List.mem_of_getElem? (i := 24) rfl)).1 (c.fns _ (List.mem_of_getElem? (i := 24) rfl)).2 (all_at hb 57 rfl) rfl rfl rfl rfl,
    t_last_of := td_of (r := rf_last_of) X G (c.fns _ (List.mem_of_getElem? (i := 25) rfl)).1 (c.fns _ (List.mem_of_getElem? (i := 25) rfl)).2 (all_at hb 58 rfl) rfl rfl rfl rfl,
    t_last_tick := td_of (r := rf_last_tick) X G (c.fns _ (List.mem_of_getElem? (i := 26) rfl)).1 (c.fns _ (List.mem_of_getElem? (i := 26) rfl)).2 (all_at hb 59 rfl) rfl rfl rfl rfl,
    t_lengths_of := td_of (r := rf_lengths_of) X G (c.fns _ (List.mem_of_getElem? (i := 27) rfl)).1 (c.fns _ (List.mem_of_getElem? (i := 27) rfl)).2 (all_at hb 60 rfl) rfl rfl rfl rfl,
    t_seal_lengths := td_of (r := rf_seal_lengths) X G (c.fns _ (List.mem_of_getElem? (i := 28) rfl)).1 (c.fns _ (List.mem_of_getElem? (i := 28) rfl)).2 (all_at hb 61 rfl) rfl rfl rfl rfl,
    t_seal_ticks := td_of (r := rf_seal_ticks) X G (c.fns _ (List.mem_of_getElem? (i := 29) rfl)).1 (c.fns _ (List.mem_of_getElem? (i := 29) rfl)).2 (all_at hb 62 rfl) rfl rfl rfl rfl,
    t_bound_of := td_of (r := rf_bound_of) X G (c.fns _ (List.mem_of_getElem? (i := 30) rfl)).1 (c.fns _ (List.mem_of_getElem? (i := 30) rfl)).2 (all_at hb 63 rfl) rfl rfl rfl rfl,
    t_need_given := td_of (r := rf_need_given) X G (c.fns _ (List.mem_of_getElem? (i := 31) rfl)).1 (c.fns _ (List.mem_of_getElem? (i := 31) rfl)).2 (all_at hb 64 rfl) rfl rfl rfl rfl,
    t_need_handed := td_of (r := rf_need_handed) X G (c.fns _ (List.mem_of_getElem? (i := 32) rfl)).1 (c.fns _ (List.mem_of_getElem? (i := 32) rfl)).2 (all_at hb 65 rfl) rfl rfl rfl rfl,
    t_bound := td_of (r := rf_bound) X G (c.fns _ (List.mem_of_getElem? (i := 33) rfl)).1 (c.fns _ (List.mem_of_getElem? (i := 33) rfl)).2 (all_at hb 66 rfl) rfl rfl rfl rfl,
    n_abs := free_mg X G (all_at hb 67 rfl),
    t_law_begun := td_of (r := rf_law_begun) X G (c.fns _ (List.mem_of_getElem? (i := 34) rfl)).1 (c.fns _ (List.mem_of_getElem? (i := 34) rfl)).2 (all_at hb 68 rfl) rfl rfl rfl rfl,
    n_super := free_mg X G (all_at hb 69 rfl),
    t_law_pick := td_of (r := rf_law_pick) X G (c.fns _ (List.mem_of_getElem? (i := 35) rfl)).1 (c.fns _ (List.mem_of_getElem? (i := 35) rfl)).2 (all_at hb 70 rfl) rfl rfl rfl rfl,
    t_law_shuffled := td_of (r := rf_law_shuffled) X G (c.fns _ (List.mem_of_getElem? (i := 36) rfl)).1 (c.fns _ (List.mem_of_getElem? (i := 36) rfl)).2 (all_at hb 71 rfl) rfl rfl rfl rfl,
    t_law_part := td_of (r := rf_law_part) X G (c.fns _ (List.mem_of_getElem? (i := 37) rfl)).1 (c.fns _ (List.mem_of_getElem? (i := 37) rfl)).2 (all_at hb 72 rfl) rfl rfl rfl rfl,
    t_law_is_truth := td_of (r := rf_law_is_truth) X G (c.fns _ (List.mem_of_getElem? (i := 38) rfl)).1 (c.fns _ (List.mem_of_getElem? (i := 38) rfl)).2 (all_at hb 73 rfl) rfl rfl rfl rfl,
    n_str := free_mg X G (all_at hb 74 rfl),
    n_zip := free_mg X G (all_at hb 75 rfl),
    t_law_same := td_of (r := rf_law_same) X G (c.fns _ (List.mem_of_getElem? (i := 39) rfl)).1 (c.fns _ (List.mem_of_getElem? (i := 39) rfl)).2 (all_at hb 76 rfl) rfl rfl rfl rfl,
    t_law_made := td_of (r := rf_law_made) X G (c.fns _ (List.mem_of_getElem? (i := 40) rfl)).1 (c.fns _ (List.mem_of_getElem? (i := 40) rfl)).2 (all_at hb 77 rfl) rfl rfl rfl rfl,
    t_law_into := td_of (r := rf_law_into) X G (c.fns _ (List.mem_of_getElem? (i := 41) rfl)).1 (c.fns _ (List.mem_of_getElem? (i := 41) rfl)).2 (all_at hb 78 rfl) rfl rfl rfl rfl,
    t_law_out := td_of (r := rf_law_out) X G (c.fns _ (List.mem_of_getElem? (i := 42) rfl)).1 (c.fns _ (List.mem_of_getElem? (i := 42) rfl)).2 (all_at hb 79 rfl) rfl rfl rfl rfl,
    t_law_lag := td_of (r := rf_law_lag) X G (c.fns _ (List.mem_of_getElem? (i := 43) rfl)).1 (c.fns _ (List.mem_of_getElem? (i := 43) rfl)).2 (all_at hb 80 rfl) rfl rfl rfl rfl,
    t_law_asked := td_of (r := rf_law_asked) X G (c.fns _ (List.mem_of_getElem? (i := 44) rfl)).1 (c.fns _ (List.mem_of_getElem? (i := 44) rfl)).2 (all_at hb 81 rfl) rfl rfl rfl rfl,
    t_law_entry := td_of (r := rf_law_entry) X G (c.fns _ (List.mem_of_getElem? (i := 45) rfl)).1 (c.fns _ (List.mem_of_getElem? (i := 45) rfl)).2 (all_at hb 82 rfl) rfl rfl rfl rfl,
    t_law_last := td_of (r := rf_law_last) X G (c.fns _ (List.mem_of_getElem? (i := 46) rfl)).1 (c.fns _ (List.mem_of_getElem? (i := 46) rfl)).2 (all_at hb 83 rfl) rfl rfl rfl rfl,
    t_law_lengths := td_of (r := rf_law_lengths) X G (c.fns _ (List.mem_of_getElem? (i := 47) rfl)).1 (c.fns _ (List.mem_of_getElem? (i := 47) rfl)).2 (all_at hb 84 rfl) rfl rfl rfl rfl,
    t_law_lags := td_of (r := rf_law_lags) X G (c.fns _ (List.mem_of_getElem? (i := 48) rfl)).1 (c.fns _ (List.mem_of_getElem? (i := 48) rfl)).2 (all_at hb 85 rfl) rfl rfl rfl rfl,
    t_law_ring := td_of (r := rf_law_ring) X G (c.fns _ (List.mem_of_getElem? (i := 49) rfl)).1 (c.fns _ (List.mem_of_getElem? (i := 49) rfl)).2 (all_at hb 86 rfl) rfl rfl rfl rfl,
    t_law_joined := td_of (r := rf_law_joined) X G (c.fns _ (List.mem_of_getElem? (i := 50) rfl)).1 (c.fns _ (List.mem_of_getElem? (i := 50) rfl)).2 (all_at hb 87 rfl) rfl rfl rfl rfl,
    t_law_wish := td_of (r := rf_law_wish) X G (c.fns _ (List.mem_of_getElem? (i := 51) rfl)).1 (c.fns _ (List.mem_of_getElem? (i := 51) rfl)).2 (all_at hb 88 rfl) rfl rfl rfl rfl,
    t_law_with_last := td_of (r := rf_law_with_last) X G (c.fns _ (List.mem_of_getElem? (i := 52) rfl)).1 (c.fns _ (List.mem_of_getElem? (i := 52) rfl)).2 (all_at hb 89 rfl) rfl rfl rfl rfl,
    n_min := free_mg X G (all_at hb 90 rfl),
    n_sorted := free_mg X G (all_at hb 91 rfl),
    t_law_any_lock := td_of (r := rf_law_any_lock) X G (c.fns _ (List.mem_of_getElem? (i := 53) rfl)).1 (c.fns _ (List.mem_of_getElem? (i := 53) rfl)).2 (all_at hb 92 rfl) rfl rfl rfl rfl,
    t_law_any_deal := td_of (r := rf_law_any_deal) X G (c.fns _ (List.mem_of_getElem? (i := 54) rfl)).1 (c.fns _ (List.mem_of_getElem? (i := 54) rfl)).2 (all_at hb 93 rfl) rfl rfl rfl rfl,
    t_law_later := td_of (r := rf_law_later) X G (c.fns _ (List.mem_of_getElem? (i := 55) rfl)).1 (c.fns _ (List.mem_of_getElem? (i := 55) rfl)).2 (all_at hb 94 rfl) rfl rfl rfl rfl,
    t_law_bound := td_of (r := rf_law_bound) X G (c.fns _ (List.mem_of_getElem? (i := 56) rfl)).1 (c.fns _ (List.mem_of_getElem? (i := 56) rfl)).2 (all_at hb 95 rfl) rfl rfl rfl rfl,
    t_law_handed := td_of (r := rf_law_handed) X G (c.fns _ (List.mem_of_getElem? (i := 57) rfl)).1 (c.fns _ (List.mem_of_getElem? (i := 57) rfl)).2 (all_at hb 96 rfl) rfl rfl rfl rfl,
    g_BadArc := glo_mg X G (all_at hb 97 rfl),
    g_BadHouse := glo_mg X G (all_at hb 98 rfl),
    g_BadSeals := glo_mg X G (all_at hb 99 rfl),
    t_law_is := td_of (r := rf_law_is) X G (c.fns _ (List.mem_of_getElem? (i := 58) rfl)).1 (c.fns _ (List.mem_of_getElem? (i := 58) rfl)).2 (all_at hb 100 rfl) rfl rfl rfl rfl,
    t_law_triples := td_of (r := rf_law_triples) X G (c.fns _ (List.mem_of_getElem? (i := 59) rfl)).1 (c.fns _ (List.mem_of_getElem? (i := 59) rfl)).2 (all_at hb 101 rfl) rfl rfl rfl rfl,
    t_law_told_bound := td_of (r := rf_law_told_bound) X G (c.fns _ (List.mem_of_getElem? (i := 60) rfl)).1 (c.fns _ (List.mem_of_getElem? (i := 60) rfl)).2 (all_at hb 102 rfl) rfl rfl rfl rfl,
    t_law_spot := td_of (r := rf_law_spot) X G (c.fns _ (List.mem_of_getElem? (i := 61) rfl)).1 (c.fns _ (List.mem_of_getElem? (i := 61) rfl)).2 (all_at hb 103 rfl) rfl rfl rfl rfl,
    t_law_triple_right := td_of (r := rf_law_triple_right) X G (c.fns _ (List.mem_of_getElem? (i := 62) rfl)).1 (c.fns _ (List.mem_of_getElem? (i := 62) rfl)).2 (all_at hb 104 rfl) rfl rfl rfl rfl,
    g_NoDeal := glo_mg X G (all_at hb 46 rfl),
    t_law_refused := tdl_of X G (c.fns _ (List.mem_of_getElem? (i := 63) rfl)).1 (c.fns _ (List.mem_of_getElem? (i := 63) rfl)).2 (all_at hb 105 rfl) rfl rfl rfl rfl (tf := tfs) (by decide) (all_at hb 13 rfl) rfl (TB _ (by decide)),
    t_law_limits_right := tdl_of X G (c.fns _ (List.mem_of_getElem? (i := 64) rfl)).1 (c.fns _ (List.mem_of_getElem? (i := 64) rfl)).2 (all_at hb 106 rfl) rfl rfl rfl rfl (tf := tfs) (by decide) (all_at hb 13 rfl) rfl (TB _ (by decide)),
    n_all := free_mg X G (all_at hb 107 rfl),
    t_law_closed_deal := td_of (r := rf_law_closed_deal) X G (c.fns _ (List.mem_of_getElem? (i := 65) rfl)).1 (c.fns _ (List.mem_of_getElem? (i := 65) rfl)).2 (all_at hb 108 rfl) rfl rfl rfl rfl,
    t_law := td_of (r := rf_law) X G (c.fns _ (List.mem_of_getElem? (i := 66) rfl)).1 (c.fns _ (List.mem_of_getElem? (i := 66) rfl)).2 (all_at hb 0 rfl) rfl rfl rfl rfl,
    t_law_draw := td_of (r := rf_law_draw) X G (c.fns _ (List.mem_of_getElem? (i := 67) rfl)).1 (c.fns _ (List.mem_of_getElem? (i := 67) rfl)).2 (all_at hb 109 rfl) rfl rfl rfl rfl,
    t_law_blended := td_of (r := rf_law_blended) X G (c.fns _ (List.mem_of_getElem? (i := 68) rfl)).1 (c.fns _ (List.mem_of_getElem? (i := 68) rfl)).2 (all_at hb 110 rfl) rfl rfl rfl rfl,
    t_law_caught := td_of (r := rf_law_caught) X G (c.fns _ (List.mem_of_getElem? (i := 69) rfl)).1 (c.fns _ (List.mem_of_getElem? (i := 69) rfl)).2 (all_at hb 111 rfl) rfl rfl rfl rfl,
    t_first_wrong := td_of (r := rf_first_wrong) X G (c.fns _ (List.mem_of_getElem? (i := 70) rfl)).1 (c.fns _ (List.mem_of_getElem? (i := 70) rfl)).2 (all_at hb 112 rfl) rfl rfl rfl rfl,
    isf := isB_ok (ci := ciOf K) (all_at hb 113 rfl),
    dr := ⟨td_of (r := rf_law_draw) X G (c.fns _ (List.mem_of_getElem? (i := 67) rfl)).1 (c.fns _ (List.mem_of_getElem? (i := 67) rfl)).2 (all_at hb 109 rfl) rfl rfl rfl rfl, ⟨fun n => (#[⟨247, 7, 247, 12⟩, ⟨247, 13, 247, 19⟩, ⟨247, 7, 247, 20⟩, ⟨247, 24, 247, 25⟩, ⟨247, 7, 247, 25⟩, ⟨248, 8, 248, 13⟩, ⟨248, 14, 248, 20⟩, ⟨248, 8, 248, 21⟩, ⟨248, 49, 248, 54⟩, ⟨248, 55, 248, 62⟩, ⟨248, 49, 248, 63⟩, ⟨248, 67, 248, 69⟩, ⟨248, 49, 248, 69⟩, ⟨248, 24, 248, 29⟩, ⟨248, 30, 248, 37⟩, ⟨248, 24, 248, 38⟩, ⟨248, 24, 248, 42⟩, ⟨248, 43, 248, 44⟩, ⟨248, 24, 248, 45⟩, ⟨248, 75, 248, 87⟩, ⟨248, 88, 248, 93⟩, ⟨248, 75, 248, 94⟩, ⟨248, 24, 248, 94⟩, ⟨248, 8, 248, 94⟩, ⟨247, 4, 248, 94⟩, ⟨249, 4, 249, 9⟩, ⟨249, 12, 249, 15⟩, ⟨249, 16, 249, 21⟩, ⟨249, 22, 249, 28⟩, ⟨249, 16, 249, 29⟩, ⟨249, 12, 249, 30⟩, ⟨249, 33, 249, 37⟩, ⟨249, 12, 249, 37⟩, ⟨249, 4, 249, 37⟩, ⟨250, 4, 250, 9⟩, ⟨250, 10, 250, 16⟩, ⟨250, 4, 250, 17⟩, ⟨250, 20, 250, 25⟩, ⟨250, 26, 250, 32⟩, ⟨250, 20, 250, 33⟩, ⟨250, 37, 250, 41⟩, ⟨250, 20, 250, 41⟩, ⟨250, 4, 250, 41⟩, ⟨251, 11, 251, 16⟩, ⟨251, 4, 251, 16⟩] : Array Pos).getD n ⟨0, 0, 0, 0⟩, fun _ => 0, by kernel_rfl, by decide +kernel⟩, ⟨rfl, rfl, rfl, by decide +kernel, rfl, by decide +kernel, by decide +kernel⟩, by decide +kernel, by decide +kernel, by decide +kernel, by decide +kernel, by decide +kernel, free_mg X G (all_at hb 1 rfl), (fun _ _ _ _ _ _ us hl => match us, hl with | [_, _], _ => rfl)⟩,
    bl := ⟨td_of (r := rf_law_blended) X G (c.fns _ (List.mem_of_getElem? (i := 68) rfl)).1 (c.fns _ (List.mem_of_getElem? (i := 68) rfl)).2 (all_at hb 110 rfl) rfl rfl rfl rfl, ⟨fun n => (#[⟨238, 4, 238, 8⟩, ⟨238, 10, 238, 15⟩, ⟨238, 4, 238, 15⟩, ⟨238, 19, 238, 24⟩, ⟨238, 25, 238, 31⟩, ⟨238, 19, 238, 32⟩, ⟨238, 35, 238, 36⟩, ⟨238, 19, 238, 36⟩, ⟨238, 38, 238, 39⟩, ⟨238, 18, 238, 40⟩, ⟨238, 4, 238, 40⟩, ⟨239, 4, 239, 9⟩, ⟨239, 10, 239, 16⟩, ⟨239, 4, 239, 17⟩, ⟨239, 20, 239, 24⟩, ⟨239, 4, 239, 24⟩, ⟨240, 8, 240, 13⟩, ⟨240, 18, 240, 28⟩, ⟨240, 30, 240, 40⟩, ⟨240, 42, 240, 52⟩, ⟨240, 17, 240, 53⟩, ⟨241, 8, 241, 13⟩, ⟨241, 16, 241, 21⟩, ⟨241, 24, 241, 28⟩, ⟨241, 16, 241, 28⟩, ⟨241, 31, 241, 36⟩, ⟨241, 40, 241, 42⟩, ⟨241, 31, 241, 42⟩, ⟨241, 16, 241, 42⟩, ⟨241, 8, 241, 42⟩, ⟨242, 12, 242, 16⟩, ⟨242, 20, 242, 25⟩, ⟨242, 26, 242, 33⟩, ⟨242, 20, 242, 34⟩, ⟨243, 12, 243, 17⟩, ⟨243, 20, 243, 23⟩, ⟨243, 24, 243, 29⟩, ⟨243, 32, 243, 37⟩, ⟨243, 24, 243, 37⟩, ⟨243, 40, 243, 44⟩, ⟨243, 24, 243, 44⟩, ⟨243, 47, 243, 51⟩, ⟨243, 24, 243, 51⟩, ⟨243, 20, 243, 52⟩, ⟨243, 55, 243, 60⟩, ⟨243, 20, 243, 60⟩, ⟨243, 12, 243, 60⟩, ⟨242, 8, 243, 60⟩, ⟨244, 8, 244, 13⟩, ⟨244, 16, 244, 21⟩, ⟨244, 24, 244, 34⟩, ⟨244, 16, 244, 34⟩, ⟨244, 37, 244, 40⟩, ⟨244, 41, 244, 46⟩, ⟨244, 50, 244, 51⟩, ⟨244, 41, 244, 51⟩, ⟨244, 37, 244, 52⟩, ⟨244, 55, 244, 60⟩, ⟨244, 37, 244, 60⟩, ⟨244, 16, 244, 60⟩, ⟨244, 8, 244, 60⟩, ⟨240, 4, 244, 60⟩, ⟨245, 11, 245, 16⟩, ⟨245, 4, 245, 16⟩] : Array Pos).getD n ⟨0, 0, 0, 0⟩, fun _ => 0, by kernel_rfl, fun _ _ _ => by with_unfolding_all rfl⟩, ⟨rfl, rfl, rfl, by decide +kernel, rfl, by decide +kernel, by decide +kernel⟩, by decide +kernel, by decide +kernel, by decide +kernel, by decide +kernel, by decide +kernel, by decide +kernel, by decide +kernel, free_mg X G (all_at hb 1 rfl), (fun _ _ _ _ _ _ us hl => match us, hl with | [_], _ => rfl)⟩,
    fw := ⟨td_of (r := rf_first_wrong) X G (c.fns _ (List.mem_of_getElem? (i := 70) rfl)).1 (c.fns _ (List.mem_of_getElem? (i := 70) rfl)).2 (all_at hb 112 rfl) rfl rfl rfl rfl, ⟨_, _, _, _, _, _, _, _, _, _, _, _, _, _, _, _, _, _, rfl⟩, ⟨rfl, rfl, rfl, by decide +kernel, rfl, by decide +kernel, by decide +kernel⟩, by decide +kernel, by decide +kernel, by decide +kernel, by decide +kernel, by decide +kernel, (fun _ _ _ _ _ _ us hl => match us, hl with | [_, _], _ => rfl), free_mg X G (all_at hb 29 rfl)⟩,
    ct := ⟨td_of (r := rf_law_caught) X G (c.fns _ (List.mem_of_getElem? (i := 69) rfl)).1 (c.fns _ (List.mem_of_getElem? (i := 69) rfl)).2 (all_at hb 111 rfl) rfl rfl rfl rfl, ⟨"DealError", _, _, _, _, _, _, _, _, _, _, _, _, _, _, _, rfl, by decide +kernel, by decide, _, glo_mg X G (all_at hb 115 rfl), fun c hc => of_decide_eq_true (List.all_eq_true.mp (all_at hb 114 rfl) c hc)⟩, ⟨rfl, rfl, rfl, by decide +kernel, rfl, by decide +kernel, by decide +kernel⟩, by decide +kernel, by decide +kernel, by decide +kernel, (fun _ _ _ _ _ _ us hl => match us, hl with | [_], _ => rfl)⟩,
    g_DealError := glo_mg X G (all_at hb 115 rfl),
    g_ItemError := glo_mg X G (all_at hb 116 rfl),
    eC_ItemError := (all_at hb 117 rfl),
    eF_ItemError := rfl,
    g_BadHouses := glo_mg X G (all_at hb 118 rfl),
    eC_BadHouses := (all_at hb 119 rfl),
    eF_BadHouses := rfl,
    g_BadLags := glo_mg X G (all_at hb 120 rfl),
    eC_BadLags := (all_at hb 121 rfl),
    eF_BadLags := rfl,
    g_BadStart := glo_mg X G (all_at hb 122 rfl),
    eC_BadStart := (all_at hb 123 rfl),
    eF_BadStart := rfl,
    g_BadGap := glo_mg X G (all_at hb 124 rfl),
    eC_BadGap := (all_at hb 125 rfl),
    eF_BadGap := rfl,
    g_BadArcs := glo_mg X G (all_at hb 126 rfl),
    eC_BadArcs := (all_at hb 127 rfl),
    eF_BadArcs := rfl,
    g_BadWaits := glo_mg X G (all_at hb 128 rfl),
    eC_BadWaits := (all_at hb 129 rfl),
    eF_BadWaits := rfl,
    g_BadLocks := glo_mg X G (all_at hb 130 rfl),
    eC_BadLocks := (all_at hb 131 rfl),
    eF_BadLocks := rfl,
    eC_BadHouse := (all_at hb 132 rfl),
    eF_BadHouse := rfl,
    eC_BadArc := (all_at hb 133 rfl),
    eF_BadArc := rfl,
    eC_BadSeals := (all_at hb 134 rfl),
    eF_BadSeals := rfl,
    eT := eqO_ok (all_at hb 135 rfl),
    eI_ItemError := ⟨(c.fns _ (List.mem_of_getElem? (i := 71) rfl)).1, (c.fns _ (List.mem_of_getElem? (i := 71) rfl)).2, (all_at hb 136 rfl), (all_at hb 137 rfl)⟩,
    pI_Deal_houses := ⟨(c.fns _ (List.mem_of_getElem? (i := 72) rfl)).1, (c.fns _ (List.mem_of_getElem? (i := 72) rfl)).2, (all_at hb 138 rfl)⟩,
    pI_Deal_lags := ⟨(c.fns _ (List.mem_of_getElem? (i := 73) rfl)).1, (c.fns _ (List.mem_of_getElem? (i := 73) rfl)).2, (all_at hb 139 rfl)⟩,
    pI_Deal_start := ⟨(c.fns _ (List.mem_of_getElem? (i := 74) rfl)).1, (c.fns _ (List.mem_of_getElem? (i := 74) rfl)).2, (all_at hb 140 rfl)⟩,
    pI_Deal_gap := ⟨(c.fns _ (List.mem_of_getElem? (i := 75) rfl)).1, (c.fns _ (List.mem_of_getElem? (i := 75) rfl)).2, (all_at hb 141 rfl)⟩,
    pI_Deal_arcs := ⟨(c.fns _ (List.mem_of_getElem? (i := 76) rfl)).1, (c.fns _ (List.mem_of_getElem? (i := 76) rfl)).2, (all_at hb 142 rfl)⟩,
    pI_Deal_waits := ⟨(c.fns _ (List.mem_of_getElem? (i := 77) rfl)).1, (c.fns _ (List.mem_of_getElem? (i := 77) rfl)).2, (all_at hb 143 rfl)⟩,
    pI_Deal_locks := ⟨(c.fns _ (List.mem_of_getElem? (i := 78) rfl)).1, (c.fns _ (List.mem_of_getElem? (i := 78) rfl)).2, (all_at hb 144 rfl)⟩,
    ca_Deal := rfl,
    xf_index := fun c hc => ⟨excB_xf (ba (List.all_eq_true.mp (all_at hb 145 rfl) c hc)).1, eqO_ok (ba (List.all_eq_true.mp (all_at hb 145 rfl) c hc)).2, (by decide : ∀ c ∈ cx_index, fl c = [("index" : Str)]) c hc⟩ }
def names0 : List Str := ["DealError", "ItemError", "NoDeal", "BadHouses", "BadLags", "BadStart", "BadGap", "BadArcs", "BadWaits", "BadLocks", "BadHouse", "BadArc", "BadSeals", "is_number", "is_between", "is_list", "first_wrong", "first_fall", "wrong_rise", "is_rising_list", "LEAST_HOUSES", "MOST_HOUSES", "MOST_BOOKS", "MOST_LAG", "MOST_ARCS", "need_houses", "need_lags", "is_arc", "need_arcs", "MOST_START"]
def names1 : List Str := ["MOST_GAP", "MOST_LAST", "need_start", "need_gap", "need_waits", "is_entry", "is_lock", "need_locks", "Deal", "need_deal", "need_house", "need_arc", "giver_of", "taker_of", "lag_of", "entry_of", "does_ask", "last_of", "last_tick", "lengths_of", "seal_lengths", "seal_ticks", "bound_of", "need_given", "need_handed", "bound", "_law_begun", "_law_blended", "_law_draw", "_law_pick"]
def names2 : List Str := ["_law_shuffled", "_law_part", "_law_caught", "_law_is_truth", "_law_same", "_law_made", "_law_into", "_law_out", "_law_lag", "_law_asked", "_law_entry", "_law_last", "_law_lengths", "_law_lags", "_law_ring", "_law_joined", "_law_wish", "_law_with_last", "_law_any_lock", "_law_any_deal", "_law_later", "_law_bound", "_law_closed_deal", "_law_handed", "_law_is", "_law_triples", "_law_told_bound", "_law_spot", "_law_triple_right", "_law_refused"]
def names3 : List Str := ["_law_limits_right"]
def names : List Str := names0 ++ names1 ++ names2 ++ names3
abbrev RR : PySem.W.OpenRow := PySem.W.OpenLaw.row PySem.Challenge.rw_shownintime_k47_whole_bounds_between_las
abbrev hk : PySem.W.Hook := hookZ 5 bs fns tfd
def ob (s : PySem.W.SharedT) : Bool × List FnZ := obsZ 5 bs fns tfd (HandSHeadRun.getT s)
theorem ob_eq (s : PySem.W.SharedT) : ob s = hk.obs s.abs := obsZ_eq (HandSHeadRun.getT_eq s)
end K47
end
section
set_option Elab.async false
set_option linter.all false
set_option autoImplicit false
set_option maxRecDepth 100000
set_option maxHeartbeats 0
namespace K47
open PySem PySem.Spec PyProof.Rows L2 He LamX DL
theorem run (w : World) : HandSHeadRun.RunEq RR (PySem.W.view RR.prog [99]) hk ob 40000 names w := by
  intro os
  kernel_rfl
theorem final (hg : BgM 3 dg_begun dc_begun) (hm : ∀ ns : List Int, ns.length ≤ 63 → b_law ((startE 13 [.scr ns]).set 1 (.sh .st)) fun o => o = .ok (.rt (.bl true))) : (PySem.Challenge.rw_shownintime_k47_whole_bounds_between_las).Holds := by
  w_on; o_law
  refine HandSHeadRun.head_any (r := RR) (q := PySem.W.view RR.prog [99]) (H := hk) (ob := ob) (M := 40000) (loose := names) (d := HandSHeadRun.topDef RR.prog 99) (kwd := []) ob_eq
    (by kernel_rfl) (fun s => by kernel_rfl) run (by kernel_rfl) (by kernel_rfl) (by kernel_rfl) (by rfl) (by first | assumption | decide +kernel) (by decide +kernel) ⟨rfl, rfl, rfl, rfl, rfl, by decide +kernel⟩ ?hw ?hc
  case hw => w_witness2
  case hc =>
    refine LamX.walk_ofTsE (l := PySem.Challenge.rw_shownintime_k47_whole_bounds_between_las) (n := 63) (k := 14) (x := "script") (CX := fun w => L2.CX PR w) rfl (by decide) (by kernel_rfl) ⟨rfl, by decide, by decide⟩ ?F (fun w H s e s' h => by obtain ⟨_, _, _, _, _, _, _, _, _, _, _, _, z⟩ := h; exact z)
    intro w mg fa h Y G hmg0
    obtain ⟨K, KX, c⟩ := Y
    have hmg : mg ("law" : PySem.Str) = some (.ref fa) := by
      have e : (HandSHeadRun.topDef RR.prog 99).name = ("law" : PySem.Str) := by kernel_rfl
      rw [← e]
      exact hmg0
    have hb : (bl K).all id = true := c.bs
    have fl := c.fns rf_law (List.mem_of_getElem? (i := 66) rfl)
    obtain ⟨oc, od, kV, doc, pm, an, cdv, ct, osl, lk, hcd⟩ := rf_plain fl.1 fl.2 rfl
    have efa : fa = ga K "law" := by
      have z := glo_mg KX G (show gloB K "law" = true from all_at hb 0 rfl)
      rw [hmg] at z
      exact Value.ref.inj (Option.some.inj z)
    subst efa
    have ctabs : ∀ x ∈ tfs, cT K (x, none) ∈ tfd.map (cT K) := fun x hx => List.mem_map_of_mem (f := cT K) (List.mem_map_of_mem (f := fun x : Str => ((x, none) : Defn)) hx)
    refine ⟨K, KX, PySem.W.fnOf "law" "law" (defArgs (top 99)) (defBody (top 99)) (defScope (top 99)) .none kV doc pm an cdv ct, tfd.map (cT K), spLaw K (ciOf K), fun p hp => ?_, fun p hp => ?_, fun p hp => ?_, fun s u => .of_eq rfl, fun H a ns hl _ ht hS => ⟨a, ns, rfl, hl, fun p hp => ?_, hS, fun _ => rfl⟩, fun base KB GB TB => ?_⟩
    · obtain ⟨x, hx, rfl⟩ := List.mem_map.mp hp
      exact c.empty x hx
    · obtain ⟨x, hx, rfl⟩ := List.mem_map.mp hp
      exact c.out x hx
    · obtain ⟨x, hx, rfl⟩ := List.mem_map.mp hp
      exact PySem.W.codeHd_of_K KX (c.hd x hx)
    · obtain ⟨x, hx, rfl⟩ := List.mem_map.mp (show p ∈ ciTabs K tfs from hp)
      exact ht _ (ctabs x hx)
    · have HFx : HF K mg base (ciOf K) := hf KX G c fun x hx => TB _ (ctabs x hx)
      exact fn_law (kk := 13) (kb := 1) lk hcd (L := fun _ => True) trivial s_law rfl rfl rfl (by first | exact .inl rfl | exact .inr rfl) (by first | exact Or.inl rfl | exact Or.inr (Or.inl rfl) | exact Or.inr (Or.inr rfl)) (bg_ok HFx hg) (by decide) ⟨_, _, _, _, _, rfl⟩ (by decide +kernel) (d_law HFx) hm
end K47
end
theorem PySem.Challenge.cw_shownintime_k47_whole_bounds_between_las_holds : PySem.Challenge.rw_shownintime_k47_whole_bounds_between_las.Holds := by
  exact K47.final K47.hg K47.hm
