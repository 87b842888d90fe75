import PyProof.Rows.All
import Wide.All
import OpenK.AllK
import Wide.FinOn
import KE.KStateDown
import HandS.Head0
import HandS.Head1
import HandS.Head2
import HandS.HeadEnd
import HandS.ForMost
import HandS.ForExc
import HandS.Walk
import HandS.IsInst
import HandS.Style
import HandS.TupAny
import HandS.TupMul
import HandS.SortInts
import HandS.Lambda
import HandS.TupLen
import HandS.Conv
import HandS.Zip
import HandS.Defaults
import KE.SortKeyed
import KE.DataEq
import KE.SortData
import KE.GoesMore
import KE.KDictDisplayH
import KE.KEqDict
import HandS.HeadHook1
import HandS.HeadHook2
import KE.SortLaws
import PySem.Challenge.RW_pooledcoins_k11_whole_possible_totals
set_option Elab.async false
set_option linter.all false
set_option maxRecDepth 100000
set_option maxHeartbeats 4000000
section
/-! QDen: what a def of the text computes, over data, with no heap: slots that hold values, a monad of outcomes, one combinator a construct. -/
namespace QL
open PySem
abbrev D := PyData
/-- a slot: a value that never changes, or an object that this slot owns (true: a parameter's own object, the caller's) -/
inductive A where
  | val (d : D)
  | own (x : Bool) (d : D)
abbrev DS := List (Option A)
/-- an expression's result: a value; a new object that nobody holds; the object that slot i owns -/
inductive RV where
  | val (d : D)
  | fresh (d : D)
  | bor (i : Nat) (d : D)
@[simp] def RV.d : RV → D
  | .val d => d
  | .fresh d => d
  | .bor _ d => d
inductive R (α : Type) where
  | ok (a : α)
  | ex (c : Str)
  | bad
def R.bind {α β : Type} : R α → (α → R β) → R β
  | .ok a, f => f a
  | .ex c, _ => .ex c
  | .bad, _ => .bad
instance : Monad R where
  pure := .ok
  bind := R.bind
@[simp] theorem R.ok_bind {α β : Type} (a : α) (f : α → R β) : (R.ok a >>= f) = f a := rfl
@[simp] theorem R.ex_bind {α β : Type} (c : Str) (f : α → R β) : ((R.ex c : R α) >>= f) = R.ex c := rfl
@[simp] theorem R.bad_bind {α β : Type} (f : α → R β) : ((R.bad : R α) >>= f) = R.bad := rfl
@[simp] theorem R.pure_eq {α : Type} (a : α) : (pure a : R α) = R.ok a := rfl
def R.of {α : Type} : Option α → R α
  | some a => .ok a
  | none => .bad
@[simp] theorem R.of_some {α : Type} (a : α) : R.of (some a) = .ok a := rfl
@[simp] theorem R.of_none {α : Type} : R.of (none : Option α) = .bad := rfl
abbrev DE := DS → R (RV × DS)
abbrev DT := DS → R (Bool × DS)
/-- as a value that stays -/
@[simp] def RV.asVal : RV → R D
  | .val d => .ok d
  | .fresh d => .ok d
  | .bor _ _ => .bad
/-- a borrowed object is still there -/
def RV.live (st : DS) : RV → Prop
  | .bor i d => ∃ x, st[i]? = some (some (.own x d))
  | _ => True
open Classical in
noncomputable def guardP {α : Type} (p : Prop) (r : R α) : R α := if p then r else .bad
@[simp] theorem guardP_true {α : Type} {p : Prop} {r : R α} (h : p) : guardP p r = r := by unfold guardP; rw [if_pos h]
theorem guardP_ok {α : Type} {p : Prop} {r : R α} {a : α} (h : guardP p r = .ok a) : p ∧ r = .ok a := by
  unfold guardP at h
  by_cases hp : p
  · rw [if_pos hp] at h; exact ⟨hp, h⟩
  · rw [if_neg hp] at h; cases h

/-! ### expressions -/
@[simp] def eC (d : D) : DE := fun st => .ok (.val d, st)
/-- a name, its value from now on unchanged -/
@[simp] def eVar (i : Nat) : DE := fun st => match st[i]? with
  | some (some (.val d)) => .ok (.val d, st)
  | some (some (.own false d)) => .ok (.val d, st.set i (some (.val d)))
  | _ => .bad
/-- a name, borrowed -/
@[simp] def eBor (i : Nat) : DE := fun st => match st[i]? with
  | some (some (.val d)) => .ok (.val d, st)
  | some (some (.own _ d)) => .ok (.bor i d, st)
  | _ => .bad
/-- a name that is not used any more -/
@[simp] def eMove (i : Nat) : DE := fun st => match st[i]? with
  | some (some (.val d)) => .ok (.val d, st)
  | some (some (.own false d)) => .ok (.fresh d, st.set i none)
  | _ => .bad
/-- one operand, two operands -/
@[simp] def eOp1 (g : D → Option RV) (a : DE) : DE := fun st => do
  let (ra, s1) ← a st
  let r ← R.of (g ra.d)
  pure (r, s1)
@[simp] noncomputable def eOp2 (g : D → D → Option RV) (a b : DE) : DE := fun st => do
  let (ra, s1) ← a st
  let (rb, s2) ← b s1
  guardP (ra.live s2) do
    let r ← R.of (g ra.d rb.d)
    pure (r, s2)
/-- arguments from the left, as values -/
@[simp] def eArgs : List DE → DS → R (List D × DS)
  | [], st => .ok ([], st)
  | e :: es, st => do
    let (r, s1) ← e st
    let d ← r.asVal
    let (ds, s2) ← eArgs es s1
    pure (d :: ds, s2)
@[simp] def eTup (es : List DE) : DE := fun st => do
  let (ds, s1) ← eArgs es st
  pure (.val (.tuple ds), s1)
@[simp] def eLst (es : List DE) : DE := fun st => do
  let (ds, s1) ← eArgs es st
  pure (.fresh (.list ds), s1)
/-- a test -/
@[simp] def tOf (e : DE) : DT := fun st => do
  let (r, s1) ← e st
  match r.d with
  | .bool b => pure (b, s1)
  | _ => .bad
@[simp] def tNot (t : DT) : DT := fun st => do
  let (b, s1) ← t st
  pure (!b, s1)
@[simp] def tAnd (t u : DT) : DT := fun st => do
  let (b, s1) ← t st
  if b then u s1 else pure (false, s1)
@[simp] def tOr (t u : DT) : DT := fun st => do
  let (b, s1) ← t st
  if b then pure (true, s1) else u s1
@[simp] def eNot (e : DE) : DE := fun st => do
  let (b, s1) ← tOf e st
  pure (.val (.bool !b), s1)
@[simp] def eAnd (e f : DE) : DE := fun st => do
  let (b, s1) ← tOf e st
  if b then f s1 else pure (.val (.bool false), s1)
@[simp] def eOr (e f : DE) : DE := fun st => do
  let (b, s1) ← tOf e st
  if b then pure (.val (.bool true), s1) else f s1
@[simp] def eIf (t : DT) (a b : DE) : DE := fun st => do
  let (c, s1) ← t st
  if c then a s1 else b s1
/-- a < b < c -/
@[simp] noncomputable def eChain (g g' : D → D → Option RV) (a b c : DE) : DE := fun st => do
  let (ra, s1) ← a st
  let (rb, s2) ← b s1
  guardP (ra.live s2) do
    match g ra.d rb.d with
    | some (.val (.bool true)) => do
      let (rc, s3) ← c s2
      guardP (rb.live s3) do
        let r ← R.of (g' rb.d rc.d)
        pure (r, s3)
    | some (.val (.bool false)) => pure (.val (.bool false), s2)
    | _ => .bad
/-! ### operations on data -/
@[simp] def vI (i : Int) : Option RV := some (.val (.int i))
@[simp] def vB (b : Bool) : Option RV := some (.val (.bool b))
def lim : Nat := 16777216
def gAdd : D → D → Option RV
  | .int i, .int j => vI (i + j)
  | .tuple xs, .tuple ys => if xs.length + ys.length ≤ lim then some (.val (.tuple (xs ++ ys))) else none
  | .list xs, .list ys => if xs.length + ys.length ≤ lim then some (.fresh (.list (xs ++ ys))) else none
  | .str x, .str y => if x.length + y.length ≤ lim then some (.val (.str (x ++ y))) else none
  | _, _ => none
def gSub : D → D → Option RV
  | .int i, .int j => vI (i - j)
  | _, _ => none
def smallI (i : Int) : Bool := decide (-(2 ^ 64) < i) && decide (i < 2 ^ 64)
def gMul : D → D → Option RV
  | .int i, .int j => if smallI i || smallI j then vI (i * j) else none
  | _, _ => none
def gFdiv : D → D → Option RV
  | .int i, .int j => if 0 < j ∧ j < 1073741824 then vI (i / j) else none
  | _, _ => none
def gMod : D → D → Option RV
  | .int i, .int j => if 0 < j then vI (i % j) else none
  | _, _ => none
def gPow : D → D → Option RV
  | .int i, .int j => if 0 ≤ j ∧ j ≤ 1000000 ∧ i.natAbs < 2 ^ 64 then vI (i ^ j.toNat) else none
  | _, _ => none
def gNeg : D → Option RV
  | .int i => vI (-i)
  | _ => none
def gLt : D → D → Option RV
  | .int i, .int j => vB (decide (i < j))
  | _, _ => none
def gLe : D → D → Option RV
  | .int i, .int j => vB (decide (i ≤ j))
  | _, _ => none
def gGt : D → D → Option RV
  | .int i, .int j => vB (decide (j < i))
  | _, _ => none
def gGe : D → D → Option RV
  | .int i, .int j => vB (decide (j ≤ i))
  | _, _ => none
/-- == of data without dicts, not too deep -/
def okEq (d e : D) : Bool := d.plain && e.plain && decide (min d.depth e.depth ≤ 60)
def gEq (d e : D) : Option RV := if okEq d e then vB (PyData.eqv d e) else none
def gNe (d e : D) : Option RV := if okEq d e then vB (!PyData.eqv d e) else none
def gIsN (d : D) : Option RV := vB (match d with
  | .none => true
  | _ => false)
def gNotN (d : D) : Option RV := vB (match d with
  | .none => false
  | _ => true)
def gIsB (d e : D) : Option RV := match d, e with
  | .bool a, .bool b => vB (decide (a = b))
  | _, _ => none
def gNotB (d e : D) : Option RV := match d, e with
  | .bool a, .bool b => vB (!decide (a = b))
  | _, _ => none
/-- a place, from behind if negative -/
def ixD (n : Nat) (i : Int) : Option Nat := if 0 ≤ i then (if i < n then some i.toNat else none) else if -(n : Int) ≤ i then some (i + n).toNat else none
def atD {α : Type} (xs : List α) (i : Int) : Option α := (ixD xs.length i).bind fun j => xs[j]?
/-- a dict's value -/
def findD (kvs : List (D × D)) (k : D) : Option D := match kvs with
  | [] => none
  | (j, v) :: r => if PyData.eqv j k then some v else findD r k
/-- a dict whose keys are tuples of whole numbers bears a mark ahead of its pairs (an empty one is told by it) -/
def dT (kvs : List (D × D)) : D := .dict ((.none, .none) :: kvs)
def intsOnly (ds : List D) : Bool := ds.all fun d => match d with
  | .int _ => true
  | _ => false
def isMark : List (D × D) → Bool
  | (.none, .none) :: _ => true
  | _ => false
/-- the pairs of a dict that may have this key -/
def pairsFor (d k : D) : Option (List (D × D)) := match d with
  | .dict kvs => (match k with
    | .int _ => if isMark kvs = true then none else some kvs
    | .tuple ds => if isMark kvs = true ∧ intsOnly ds = true then some kvs.tail else none
    | _ => none)
  | _ => none
def gIx : D → D → Option RV
  | .list xs, .int i => (atD xs i).map .val
  | .tuple xs, .int i => (atD xs i).map .val
  | d, k => (pairsFor d k).bind fun kvs => (findD kvs k).map .val
/-- membership -/
def gIn : D → D → Option RV
  | d, .list xs => if d.plain && PyData.plainAll xs && decide (min (PyData.depthAll xs) d.depth ≤ 60) then vB (xs.any fun x => PyData.eqv x d) else none
  | d, .tuple xs => if d.plain && PyData.plainAll xs && decide (min (PyData.depthAll xs) d.depth ≤ 60) then vB (xs.any fun x => PyData.eqv x d) else none
  | k, d => (pairsFor d k).bind fun kvs => vB (findD kvs k).isSome
def notV : Option RV → Option RV
  | some (.val (.bool b)) => some (.val (.bool !b))
  | _ => none
def gNotIn (d e : D) : Option RV := notV (gIn d e)
/-- a slice by ones -/
def cutD {α : Type} (xs : List α) (lo hi : Nat) : List α := (xs.drop lo).take (hi - lo)
def sliceIx (n d : Nat) : Option Int → Nat
  | none => d
  | some v => if v < 0 then (v + (n : Int)).toNat else min v.toNat n
def gSl (d : D) (lo hi : Option Int) : Option RV := match d with
  | .list xs => some (.fresh (.list (cutD xs (sliceIx xs.length 0 lo) (sliceIx xs.length xs.length hi))))
  | .tuple xs => some (.val (.tuple (cutD xs (sliceIx xs.length 0 lo) (sliceIx xs.length xs.length hi))))
  | _ => none
def gRev : D → Option RV
  | .list xs => some (.fresh (.list xs.reverse))
  | .tuple xs => some (.val (.tuple xs.reverse))
  | _ => none
/-- a part of a slice -/
@[simp] def pPart (e : DE) : DS → R (Option Int × DS) := fun st => do
  let (r, s1) ← e st
  match r.d with
  | .int i => pure (some i, s1)
  | _ => .bad
@[simp] def pNone : DS → R (Option Int × DS) := fun st => .ok (none, st)
@[simp] noncomputable def eSl (a : DE) (lo hi : DS → R (Option Int × DS)) : DE := fun st => do
  let (ra, s1) ← a st
  let (l, s2) ← lo s1
  let (h, s3) ← hi s2
  guardP (ra.live s3) do
    let r ← R.of (gSl ra.d l h)
    pure (r, s3)
@[simp] def isDictB : D → Bool
  | .dict _ => true
  | _ => false
/-- d.get(k, x) -/
@[simp] noncomputable def eGet (a b c : DE) : DE := fun st => do
  let (ra, s1) ← a st
  guardP (isDictB ra.d = true) do
    let (rb, s2) ← b s1
    let (rc, s3) ← c s2
    guardP (ra.live s3 ∧ rb.live s3) do
      let x ← rc.asVal
      let kvs ← R.of (pairsFor ra.d rb.d)
      pure (.val ((findD kvs rb.d).getD x), s3)
/-! ### built-in calls -/
def gLen : D → Option RV
  | .list xs => vI xs.length
  | .tuple xs => vI xs.length
  | .dict kvs => vI (if isMark kvs = true then kvs.tail else kvs).length
  | _ => none
def intsD : List D → Option (List Int)
  | [] => some []
  | .int i :: r => (intsD r).map (i :: ·)
  | _ => none
def boolsD : List D → Option (List Bool)
  | [] => some []
  | .bool b :: r => (boolsD r).map (b :: ·)
  | _ => none
def gSum : D → Option RV
  | .list xs => (intsD xs).bind fun ns => vI ns.sum
  | .tuple xs => (intsD xs).bind fun ns => vI ns.sum
  | _ => none
def gAll : D → Option RV
  | .list xs => (boolsD xs).bind fun bs => vB (bs.all id)
  | _ => none
def gTuple : D → Option RV
  | .list xs => some (.val (.tuple xs))
  | .tuple xs => some (.val (.tuple xs))
  | _ => none
def gList : D → Option RV
  | .list xs => some (.fresh (.list xs))
  | .tuple xs => some (.fresh (.list xs))
  | _ => none
def gAbs : D → Option RV
  | .int i => vI (if i < 0 then -i else i)
  | _ => none
def gMin2 : D → D → Option RV
  | .int i, .int j => vI (if j < i then j else i)
  | _, _ => none
def gMax2 : D → D → Option RV
  | .int i, .int j => vI (if j > i then j else i)
  | _, _ => none
def gInt : D → Option RV
  | .int i => vI i
  | _ => none
/-- isinstance(x, T) -/
inductive Ty where
  | int | bool | str | list | tuple
  deriving DecidableEq
def isTy : Ty → D → Bool
  | .int, .int _ => true
  | .int, .bool _ => true
  | .bool, .bool _ => true
  | .str, .str _ => true
  | .list, .list _ => true
  | .tuple, .tuple _ => true
  | _, _ => false
def gIsi (ts : List Ty) (d : D) : Option RV := match d with
  | .dict _ => none
  | d => vB (ts.any fun t => isTy t d)
/-- sorted of alike data without dicts -/
def alikeL (xs : List D) : Bool := xs.all fun x => xs.all fun y => PySem.W.alike x y
def sortD (xs : List D) : List D := xs.mergeSort (PySem.W.dataLe false id)
def rangeD (lo hi : Int) : List D := (List.range (hi - lo).toNat).map fun (i : Nat) => .int (lo + (i : Int))

/-! ### calls of defs -/
/-- what a def computes: the content of its first parameter's object (where the def may change it), the other arguments; the result, that content behind the call -/
abbrev DF := Option D → List D → R (RV × Option D)
/-- f(e, ..): values alone -/
@[simp] def eCall (f : DF) (dfl : List D) (args : List DE) : DE := fun st => do
  let (ds, s1) ← eArgs args st
  let (r, _) ← f none (ds ++ dfl)
  pure (r, s1)
/-- f(x, e, ..), x the name in slot i whose object f may change -/
@[simp] def eCallS (f : DF) (dfl : List D) (i : Nat) (args : List DE) : DE := fun st => match st[i]? with
  | some (some (.own _ _)) => do
    let (ds, s1) ← eArgs args st
    match s1[i]? with
    | some (some (.own x c)) => match f (some c) (ds ++ dfl) with
      | .ok (r, some c') => pure (r, s1.set i (some (.own x c')))
      | _ => .bad
    | _ => .bad
  | _ => .bad
/-- a call that only looks at its arguments, and whose answer is no object -/
def scalarB : D → Bool
  | .none => true
  | .bool _ => true
  | .int _ => true
  | .str _ => true
  | _ => false

/-- arguments from the left; an owned object is only looked at -/
@[simp] noncomputable def eArgsB : List DE → DS → R (List RV × DS)
  | [], st => .ok ([], st)
  | e :: es, st => do
    let (r, s1) ← e st
    let (rs, s2) ← eArgsB es s1
    guardP (r.live s2) (pure (r :: rs, s2))
/-- f(e, ..), where f's answer is no object -/
@[simp] noncomputable def eCallB (f : DF) (dfl : List D) (args : List DE) : DE := fun st => do
  let (rs, s1) ← eArgsB args st
  let (r, _) ← f none (rs.map RV.d ++ dfl)
  if scalarB r.d = true then pure (.val r.d, s1) else .bad
/-! ### statements -/
inductive Fl where
  | nx
  | rt (r : RV)
  | bk
  | ct
abbrev DM := DS → R (Fl × DS)
@[simp] def sNext : DM := fun st => .ok (.nx, st)
@[simp] def sSeq (s u : DM) : DM := fun st => do
  let (f, s1) ← s st
  match f with
  | .nx => u s1
  | f => pure (f, s1)
@[simp] def sExpr (e : DE) : DM := fun st => do
  let (_, s1) ← e st
  pure (.nx, s1)
@[simp] def sRet (e : DE) : DM := fun st => do
  let (r, s1) ← e st
  pure (.rt r, s1)
@[simp] def sRetN : DM := fun st => .ok (.rt (.val .none), st)
@[simp] def sIf (t : DT) (a b : DM) : DM := fun st => do
  let (c, s1) ← t st
  if c then a s1 else b s1
@[simp] def sRaise (c : Str) : DM := fun _ => .ex c
@[simp] def sBreak : DM := fun st => .ok (.bk, st)
@[simp] def sCont : DM := fun st => .ok (.ct, st)
/-- a target -/
abbrev DG := RV → DS → R DS
/-- a name gets a value (a new object is frozen) -/
@[simp] def bName (i : Nat) : DG := fun r st => do
  let d ← r.asVal
  pure (st.set i (some (.val d)))
/-- a name gets an object of its own, if it is new -/
@[simp] def bOwn (i : Nat) : DG := fun r st => match r with
  | .val d => .ok (st.set i (some (.val d)))
  | .fresh d => .ok (st.set i (some (.own false d)))
  | .bor _ _ => .bad
@[simp] def bEach : List DG → List D → DS → R DS
  | [], [], st => .ok st
  | g :: gs, d :: ds, st => do
    let s1 ← g (.val d) st
    bEach gs ds s1
  | _, _, _ => .bad
@[simp] def bTup (gs : List DG) : DG := fun r st => do
  let d ← r.asVal
  match d with
  | .tuple ds => bEach gs ds st
  | _ => .bad
@[simp] def sSet (g : DG) (e : DE) : DM := fun st => do
  let (r, s1) ← e st
  let s2 ← g r s1
  pure (.nx, s2)
/-- a, b = x, y (two names): stored from the right -/
noncomputable def sPar2 (g h : DG) (a b : DE) : DM := fun st => do
  let (ra, s1) ← a st
  let (rb, s2) ← b s1
  guardP (ra.live s2) do
    let s3 ← h rb s2
    let s4 ← g ra s3
    pure (.nx, s4)
/-- the turns of a loop -/
def loopL (g : DG) (body : DM) : List D → DM
  | [], st => .ok (.nx, st)
  | d :: ds, st => do
    let s1 ← g (.val d) st
    let (f, s2) ← body s1
    match f with
    | .nx => loopL g body ds s2
    | .ct => loopL g body ds s2
    | .bk => pure (.nx, s2)
    | .rt r => pure (.rt r, s2)
/-- what is walked: the items, as values -/
abbrev DI := DS → R (List D × DS)
@[simp] def sFor (it : DI) (g : DG) (body : DM) : DM := fun st => do
  let (ds, s1) ← it st
  loopL g body ds s1
/-- at most n turns -/
def loopW (t : DT) (body : DM) : Nat → DM
  | 0, _ => .bad
  | n + 1, st => do
    let (b, s1) ← t st
    if b then do
      let (f, s2) ← body s1
      match f with
      | .nx => loopW t body n s2
      | .ct => loopW t body n s2
      | .bk => pure (.nx, s2)
      | .rt r => pure (.rt r, s2)
    else pure (.nx, s1)

def sWhile (n : DS → Nat) (t : DT) (body : DM) : DM := fun st => loopW t body (n st) st
/-! ### comprehensions -/
def wipeS (vs : List Nat) (st : DS) : DS := vs.foldr (fun i s => s.set i none) st
def keptA : Option (Option A) → Option A
  | some (some (.val d)) => some (.val d)
  | _ => none
/-- the comprehension's own names as they were -/
def backS (vs : List Nat) (old st : DS) : DS := vs.foldr (fun i s => s.set i (keptA old[i]?)) st
/-- what cannot be let through -/
@[simp] def noEx {α : Type} : R α → R α
  | .ok a => .ok a
  | _ => .bad
noncomputable def compL (G : DS → Prop) (vs : List Nat) (g : DG) (t : DT) (e : DE) : List D → DS → R (List D × DS)
  | [], st => guardP (G st) (.ok ([], st))
  | d :: ds, st => guardP (G st) do
    let s1 ← g (.val d) (wipeS vs st)
    let (b, s2) ← noEx (t s1)
    if b then do
      let (r, s3) ← noEx (e s2)
      let x ← r.asVal
      let (xs, s4) ← compL G vs g t e ds (backS vs st s3)
      pure (x :: xs, s4)
    else compL G vs g t e ds (backS vs st s2)
noncomputable def eComp (vs : List Nat) (it : DI) (g : DG) (t : DT) (e : DE) : DE := fun st => do
  let (ds, s1) ← it st
  let (xs, s2) ← compL (fun _ => True) vs g t e ds s1
  pure (.fresh (.list xs), s2)
/-- over the list that slot i owns, which stays as it is -/
noncomputable def eCompB (vs : List Nat) (i : Nat) (g : DG) (t : DT) (e : DE) : DE := fun st => match st[i]? with
  | some (some (.own x (.list ds))) => do
    let (xs, s2) ← compL (fun s => s[i]? = some (some (.own x (.list ds)))) vs g t e ds st
    pure (.fresh (.list xs), s2)
  | _ => .bad
/-! ### over a dict's keys -/
def keysD (kvs : List (D × D)) : List D := (if isMark kvs = true then kvs.tail else kvs).map (·.1)
/-- the dict in slot i, from now on as it is -/
def lockS (i : Nat) (st : DS) : R (List D × DS) := match st[i]? with
  | some (some (.val (.dict kvs))) => .ok (keysD kvs, st)
  | some (some (.own false (.dict kvs))) => .ok (keysD kvs, st.set i (some (.val (.dict kvs))))
  | _ => .bad
def sForK (i : Nat) (g : DG) (body : DM) : DM := fun st => do
  let (ds, s1) ← lockS i st
  noEx (loopL g body ds s1)
noncomputable def eCompK (vs : List Nat) (i : Nat) (g : DG) (t : DT) (e : DE) : DE := fun st => do
  let (ds, s1) ← lockS i st
  let (xs, s2) ← noEx (compL (fun _ => True) vs g t e ds s1)
  pure (.fresh (.list xs), s2)
/-- a dict that nobody else holds -/
@[simp] def iKeysF (m : DE) : DI := fun st => do
  let (r, s1) ← m st
  match r with
  | .fresh (.dict kvs) => pure (keysD kvs, s1)
  | _ => .bad
/-- enumerate(list), zip(list, list), zip(tuple, tuple) -/
def enumD (ds : List D) : List D := ds.zipIdx.map fun p => .tuple [.int (p.2 : Nat), p.1]
@[simp] def iEnum (m : DE) : DI := fun st => do
  let (xs, s1) ← eArgs [m] st
  match xs with
  | [.list ds] => pure (enumD ds, s1)
  | [.tuple ds] => pure (enumD ds, s1)
  | _ => .bad
def zipD (as bs : List D) : List D := (as.zip bs).map fun p => .tuple [p.1, p.2]
@[simp] def iZip (m n : DE) : DI := fun st => do
  let (xs, s1) ← eArgs [m, n] st
  match xs with
  | [.list as, .list bs] => pure (zipD as bs, s1)
  | [.tuple as, .tuple bs] => pure (zipD as bs, s1)
  | _ => .bad
/-- the lists and tuples: it (e) -/
@[simp] def iSeq (m : DE) : DI := fun st => do
  let (r, s1) ← m st
  let d ← r.asVal
  match d with
  | .list ds => pure (ds, s1)
  | .tuple ds => pure (ds, s1)
  | _ => .bad
/-- range(n), range(a, b) -/
def rgOk (i : Int) : Bool := decide (-(2 ^ 62) ≤ i) && decide (i < 2 ^ 62)
def iRng1 (m : DE) : DI := fun st => do
  let (r, s1) ← m st
  match r.d with
  | .int i => if rgOk i && decide (i ≤ 16777216) then pure (rangeD 0 i, s1) else .bad
  | _ => .bad
def iRng2 (m n : DE) : DI := fun st => do
  let (r, s1) ← m st
  let (q, s2) ← n s1
  match r.d, q.d with
  | .int i, .int j => if rgOk i && rgOk j && decide (j - i ≤ 16777216) then pure (rangeD i j, s2) else .bad
  | _, _ => .bad
def fAdd (a b : Int) : Option Int := some (a + b)
def fSub (a b : Int) : Option Int := some (a - b)
def fMul (a b : Int) : Option Int := if smallI a || smallI b then some (a * b) else none
/-! ### stores -/
/-- arguments from the left; what is new may be owned later -/
@[simp] def eArgsR : List DE → DS → R (List RV × DS)
  | [], st => .ok ([], st)
  | e :: es, st => do
    let (r, s1) ← e st
    match r with
    | .bor _ _ => .bad
    | r => do
      let (rs, s2) ← eArgsR es s1
      pure (r :: rs, s2)
@[simp] def bKind (o : Bool) (i : Nat) : DG := if o then bOwn i else bName i
@[simp] def storeR : List (Bool × Nat) → List RV → DS → R DS
  | [], [], st => .ok st
  | (o, i) :: gs, r :: rs, st => do
    let s1 ← bKind o i r st
    storeR gs rs s1
  | _, _, _ => .bad
@[simp] def sPar (gs : List (Bool × Nat)) (es : List DE) : DM := fun st => do
  let (rs, s1) ← eArgsR es st
  let s2 ← storeR gs rs s1
  pure (.nx, s2)
/-- x op= e, whole numbers -/
@[simp] def sAugI (f : Int → Int → Option Int) (i : Nat) (e : DE) : DM := fun st => match st[i]? with
  | some (some (.val (.int a))) => do
    let (r, s1) ← e st
    match r.d with
    | .int b => do
      let c ← R.of (f a b)
      pure (.nx, s1.set i (some (.val (.int c))))
    | _ => .bad
  | _ => .bad
/-- x += e, x a list that slot i owns, e a new list -/
def sExt (i : Nat) (e : DE) : DM := fun st => match st[i]? with
  | some (some (.own _ _)) => do
    let (r, s1) ← e st
    match r, s1[i]? with
    | .fresh (.list ys), some (some (.own x (.list xs))) => if xs.length + ys.length ≤ lim then pure (.nx, s1.set i (some (.own x (.list (xs ++ ys))))) else .bad
    | _, _ => .bad
  | _ => .bad
/-- what stands in a dict behind a store -/
def putD (kvs : List (D × D)) (k v : D) : List (D × D) :=
  if kvs.any (fun p => PyData.eqv p.1 k) = true then kvs.map (fun p => if PyData.eqv p.1 k = true then (p.1, v) else p) else kvs ++ [(k, v)]
def putC (c k v : D) : Option D := match c, k with
  | .list xs, .int n => (ixD xs.length n).map fun j => .list (xs.set j v)
  | .dict kvs, .int n => if isMark kvs = true ∨ lim ≤ kvs.length then none else some (.dict (putD kvs (.int n) v))
  | .dict kvs, .tuple ds => if isMark kvs = true ∧ intsOnly ds = true ∧ kvs.length ≤ lim then some (.dict (putD kvs (.tuple ds) v)) else none
  | _, _ => none
/-- x[k] = e, x owned by slot i -/
@[simp] def sPut (i : Nat) (k e : DE) : DM := fun st => do
  let (r, s1) ← e st
  let v ← r.asVal
  match s1[i]? with
  | some (some (.own _ _)) => do
    let (rk, s2) ← k s1
    match s2[i]? with
    | some (some (.own x c)) => do
      let c' ← R.of (putC c rk.d v)
      pure (.nx, s2.set i (some (.own x c')))
    | _ => .bad
  | _ => .bad
@[simp] def sAppend (i : Nat) (e : DE) : DM := fun st => match st[i]? with
  | some (some (.own _ (.list _))) => do
    let (r, s1) ← e st
    let v ← r.asVal
    match s1[i]? with
    | some (some (.own x (.list xs))) => if xs.length < lim then pure (.nx, s1.set i (some (.own x (.list (xs ++ [v]))))) else .bad
    | _ => .bad
  | _ => .bad
/-! ### new dicts -/
@[simp] def eDictK : DE := fun st => .ok (.fresh (.dict []), st)
@[simp] def eDictT : DE := fun st => .ok (.fresh (dT []), st)
/-- {k: v}, k a whole number -/
@[simp] def eDict1 (k v : DE) : DE := fun st => do
  let (rk, s1) ← k st
  let (rv, s2) ← v s1
  let x ← rv.asVal
  match rk with
  | .val (.int i) => pure (.fresh (.dict [(.int i, x)]), s2)
  | _ => .bad
/-- dict(d) -/
def gCopy : D → Option RV
  | .dict kvs => if isMark kvs = true then none else some (.fresh (.dict kvs))
  | _ => none
/-! ### more built-ins -/
def gStrI : D → Option RV
  | .int i => if i.natAbs.log2 < 1920 then some (.val (.str (Str.ofString (toString i)))) else none
  | _ => none
def minI : List Int → Option Int
  | [] => none
  | n :: ns => some (ns.foldl (fun a b => if b < a then b else a) n)
def maxI : List Int → Option Int
  | [] => none
  | n :: ns => some (ns.foldl (fun a b => if a < b then b else a) n)
def gMinL : D → Option RV
  | .list xs => (intsD xs).bind fun ns => (minI ns).bind fun m => vI m
  | _ => none
def gMaxL : D → Option RV
  | .list xs => (intsD xs).bind fun ns => (maxI ns).bind fun m => vI m
  | _ => none
/-! ### sorted -/
mutual
def noLst : D → Bool
  | .list _ => false
  | .dict _ => false
  | .tuple ds => noLstL ds
  | _ => true
def noLstL : List D → Bool
  | [] => true
  | d :: ds => noLst d && noLstL ds
end
def isTupNe : D → Bool
  | .tuple (_ :: _) => true
  | _ => false
def isFlat : D → Bool
  | .none => false
  | .tuple _ => false
  | _ => true
def sortOk (ds : List D) : Bool := noLstL ds && alikeL ds && (ds.all isTupNe || ds.all isFlat) && ds.all (fun d => decide (d.depth ≤ 60)) && decide (ds.length ≤ lim)
def gSorted : D → Option RV
  | .list xs => if sortOk xs then some (.fresh (.list (sortD xs))) else none
  | .tuple xs => if sortOk xs then some (.fresh (.list (sortD xs))) else none
  | .dict kvs => if sortOk (keysD kvs) then some (.fresh (.list (sortD (keysD kvs)))) else none
  | _ => none
/-- list(range(..)), tuple(range(..)) -/
def rgGood (i j : Int) : Bool := decide (-(2 ^ 62) ≤ i) && decide (i < 2 ^ 62) && decide (-(2 ^ 62) ≤ j) && decide (j < 2 ^ 62) && decide ((j - i).toNat ≤ lim)
def gListRg (i j : Int) : Option RV := if rgGood i j then some (.fresh (.list (rangeD i j))) else none
def gTupleRg (i j : Int) : Option RV := if rgGood i j then some (.val (.tuple (rangeD i j))) else none
def intOf (g : Int → Int → Option RV) (i : Int) : D → Option RV
  | .int j => g i j
  | _ => none
def intOf2 (g : Int → Int → Option RV) : D → D → Option RV
  | .int i, .int j => g i j
  | _, _ => none
def eListRg1 (m : DE) : DE := eOp1 (intOf gListRg 0) m
def eTupleRg1 (m : DE) : DE := eOp1 (intOf gTupleRg 0) m
noncomputable def eListRg2 (m n : DE) : DE := eOp2 (intOf2 gListRg) m n
noncomputable def eTupleRg2 (m n : DE) : DE := eOp2 (intOf2 gTupleRg) m n
/-- is None, is not None -/
def gIsNo (d e : D) : Option RV := match e with
  | .none => gIsN d
  | _ => none
def gNotNo (d e : D) : Option RV := match e with
  | .none => gNotN d
  | _ => none
@[simp] def tYes : DT := fun st => .ok (true, st)

/-! ### a def -/
def startD (n : Nat) (o : Option D) (ds : List D) : DS := match o with
  | none => ds.map (fun d => some (.val d)) ++ List.replicate (n - ds.length) none
  | some c => some (.own true c) :: (ds.map (fun d => some (.val d)) ++ List.replicate (n - (ds.length + 1)) none)
@[simp] def RV.out : RV → R RV
  | .bor _ _ => .bad
  | r => .ok r
/-- the first parameter's object at the end -/
def outOf (o : Option D) (st : DS) : R (Option D) := match o with
  | none => .ok none
  | some _ => match st[(0 : Nat)]? with
    | some (some (.own true c)) => .ok (some c)
    | _ => .bad
def bodyF (n : Nat) (m : DM) : DF := fun o ds => match m (startD n o ds) with
  | .ok (.nx, st) => do
    let c ← outOf o st
    pure (.val .none, c)
  | .ok (.rt r, st) => do
    let r' ← r.out
    let c ← outOf o st
    pure (r', c)
  | .ok _ => .bad
  | .ex c => match o with
    | none => .ex c
    | some _ => .bad
  | .bad => .bad
theorem fold_min : ∀ (ns : List Int) (n : Int), (ns.foldl (fun a b => if b < a then b else a) n ∈ n :: ns) ∧ ∀ y ∈ n :: ns, ns.foldl (fun a b => if b < a then b else a) n ≤ y
  | [], n => ⟨by simp, fun y hy => by simp at hy; subst hy; exact Int.le_refl _⟩
  | m :: ns, n => by
    obtain ⟨h1, h2⟩ := fold_min ns (if m < n then m else n)
    rw [List.foldl_cons]
    refine ⟨?_, fun y hy => ?_⟩
    · rcases List.mem_cons.mp h1 with h | h
      · rw [h]; split <;> simp
      · exact List.mem_cons_of_mem _ (List.mem_cons_of_mem _ h)
    · have h0 := h2 _ List.mem_cons_self
      rcases List.mem_cons.mp hy with rfl | hy
      · refine Int.le_trans h0 ?_
        split <;> omega
      · rcases List.mem_cons.mp hy with rfl | hy
        · refine Int.le_trans h0 ?_
          split <;> omega
        · exact h2 y (List.mem_cons_of_mem _ hy)
theorem fold_max : ∀ (ns : List Int) (n : Int), (ns.foldl (fun a b => if a < b then b else a) n ∈ n :: ns) ∧ ∀ y ∈ n :: ns, y ≤ ns.foldl (fun a b => if a < b then b else a) n
  | [], n => ⟨by simp, fun y hy => by simp at hy; subst hy; exact Int.le_refl _⟩
  | m :: ns, n => by
    obtain ⟨h1, h2⟩ := fold_max ns (if n < m then m else n)
    rw [List.foldl_cons]
    refine ⟨?_, fun y hy => ?_⟩
    · rcases List.mem_cons.mp h1 with h | h
      · rw [h]; split <;> simp
      · exact List.mem_cons_of_mem _ (List.mem_cons_of_mem _ h)
    · have h0 := h2 _ List.mem_cons_self
      rcases List.mem_cons.mp hy with rfl | hy
      · refine Int.le_trans ?_ h0
        split <;> omega
      · rcases List.mem_cons.mp hy with rfl | hy
        · refine Int.le_trans ?_ h0
          split <;> omega
        · exact h2 y (List.mem_cons_of_mem _ hy)
end QL

end
section
/-! QBase: data on the abstract heap, steps, the slots' relation, outcomes. -/
namespace QL
open PySem PySem.Spec PyProof.Rows L2

abbrev St := L2.St
def keyD : Key → D
  | .inl i => .int i
  | .inr x => .str x
/-- a list that stays: one of Z, or one of the ground's -/
def KL (K : PySem.W.Frag) (a : Addr) (xs : List V) : Prop := ∃ o its n, K.lookup a = some o ∧ o.cls = .type "list" ∧ o.dict = none ∧ o.data = Data.seq its n ∧ its.size ≤ sizeLine ∧ Vals xs its.toList
def LZ (K : PySem.W.Frag) (Z : Addr → Prop) (H : Hp) (a : Addr) (xs : List V) : Prop := (Z a ∧ Rd H a (.lst xs)) ∨ KL K a xs
theorem LZ.sq {K : PySem.W.Frag} {Z : Addr → Prop} {H : Hp} {a : Addr} {xs : List V} (h : LZ K Z H a xs) : SqL K H a xs := h.imp (·.2) id
section
mutual
/-- v is the datum d; Z: the addresses of the objects that stay as they are -/
inductive Rp (K : PySem.W.Frag) (Z : Addr → Prop) (H : Hp) : V → D → Prop
  | non : Rp K Z H .non .none
  | bl (b : Bool) : Rp K Z H (.bl b) (.bool b)
  | int (i : Int) : Rp K Z H (.int i) (.int i)
  | str (x : Str) : Rp K Z H (.str x) (.str x)
  | lst {a : Addr} {xs : List V} {ds : List D} : LZ K Z H a xs → RpL K Z H xs ds → Rp K Z H (.ref a) (.list ds)
  | tup {a : Addr} {xs : List V} {ds : List D} : H a = some (.tup xs) → RpL K Z H xs ds → Rp K Z H (.ref a) (.tuple ds)
  | dk {a : Addr} {ks : List (Key × V)} {ds : List (D × D)} : Z a → Rd H a (.dK ks) → RpK K Z H ks ds → Rp K Z H (.ref a) (.dict ds)
  | dt {a : Addr} {ks : List (List Key × V)} {ds : List (D × D)} : Z a → Rd H a (.dT ks) → RpM K Z H ks ds → Rp K Z H (.ref a) (.dict ds)
inductive RpL (K : PySem.W.Frag) (Z : Addr → Prop) (H : Hp) : List V → List D → Prop
  | nil : RpL K Z H [] []
  | cons {v : V} {vs : List V} {d : D} {ds : List D} : Rp K Z H v d → RpL K Z H vs ds → RpL K Z H (v :: vs) (d :: ds)
inductive RpK (K : PySem.W.Frag) (Z : Addr → Prop) (H : Hp) : List (Key × V) → List (D × D) → Prop
  | nil : RpK K Z H [] []
  | cons {k : Key} {v : V} {d : D} {ks : List (Key × V)} {ds : List (D × D)} : Rp K Z H v d → RpK K Z H ks ds → RpK K Z H ((k, v) :: ks) ((keyD k, d) :: ds)
inductive RpT (K : PySem.W.Frag) (Z : Addr → Prop) (H : Hp) : List (List Key × V) → List (D × D) → Prop
  | nil : RpT K Z H [] []
  | cons {k : List Key} {v : V} {d : D} {ks : List (List Key × V)} {ds : List (D × D)} : Rp K Z H v d → RpT K Z H ks ds → RpT K Z H ((k, v) :: ks) ((.tuple (k.map keyD), d) :: ds)
inductive RpM (K : PySem.W.Frag) (Z : Addr → Prop) (H : Hp) : List (List Key × V) → List (D × D) → Prop
  | mk {ks : List (List Key × V)} {ds : List (D × D)} : RpT K Z H ks ds → RpM K Z H ks ((.none, .none) :: ds)
end
/-- a list's or dict's content (what may be owned) -/
def Ct : HO → Prop
  | .lst _ => True
  | .dK _ => True
  | .dT _ => True
  | _ => False
/-- what is needed for data to stay -/
structure Kp (Z : Addr → Prop) (H : Hp) (Z' : Addr → Prop) (H' : Hp) : Prop where
  zz : ∀ a, Z a → Z' a
  fz : ∀ a u, Ct u → Z a → Rd H a u → Rd H' a u
  tp : ∀ a xs, H a = some (.tup xs) → H' a = some (.tup xs)
variable {K : PySem.W.Frag}
theorem LZ.kp {Z Z' : Addr → Prop} {H H' : Hp} {a : Addr} {xs : List V} (h : LZ K Z H a xs) (k : Kp Z H Z' H') : LZ K Z' H' a xs := h.imp (fun h => ⟨k.zz _ h.1, k.fz _ _ trivial h.1 h.2⟩) id
mutual
theorem Rp.kp {Z Z' : Addr → Prop} {H H' : Hp} (k : Kp Z H Z' H') : ∀ (d : D) {v : V}, Rp K Z H v d → Rp K Z' H' v d
  | .none, _, h => by cases h; exact .non
  | .bool _, _, h => by cases h; exact .bl _
  | .int _, _, h => by cases h; exact .int _
  | .str _, _, h => by cases h; exact .str _
  | .list ds, _, h => by
    cases h with
    | lst hz hl => exact .lst (hz.kp k) (RpL.kp k ds hl)
  | .tuple ds, _, h => by
    cases h with
    | tup hr hl => exact .tup (k.tp _ _ hr) (RpL.kp k ds hl)
  | .dict ds, _, h => by
    cases h with
    | dk hz hr hl => exact .dk (k.zz _ hz) (k.fz _ _ trivial hz hr) (RpK.kp k ds hl)
    | dt hz hr hl => exact .dt (k.zz _ hz) (k.fz _ _ trivial hz hr) (RpM.kp k ds hl)
theorem RpL.kp {Z Z' : Addr → Prop} {H H' : Hp} (k : Kp Z H Z' H') : ∀ (ds : List D) {vs : List V}, RpL K Z H vs ds → RpL K Z' H' vs ds
  | [], _, h => by cases h; exact .nil
  | d :: ds, _, h => by
    cases h with
    | cons h1 h2 => exact .cons (Rp.kp k d h1) (RpL.kp k ds h2)
theorem RpK.kp {Z Z' : Addr → Prop} {H H' : Hp} (k : Kp Z H Z' H') : ∀ (ds : List (D × D)) {vs : List (Key × V)}, RpK K Z H vs ds → RpK K Z' H' vs ds
  | [], _, h => by cases h; exact .nil
  | (_, d) :: ds, _, h => by
    cases h with
    | cons h1 h2 => exact .cons (Rp.kp k d h1) (RpK.kp k ds h2)
theorem RpM.kp {Z Z' : Addr → Prop} {H H' : Hp} (k : Kp Z H Z' H') : ∀ (ds : List (D × D)) {vs : List (List Key × V)}, RpM K Z H vs ds → RpM K Z' H' vs ds
  | [], _, h => by cases h
  | (_, _) :: ds, _, h => by
    cases h with
    | mk h => exact .mk (RpT.kp k ds h)
theorem RpT.kp {Z Z' : Addr → Prop} {H H' : Hp} (k : Kp Z H Z' H') : ∀ (ds : List (D × D)) {vs : List (List Key × V)}, RpT K Z H vs ds → RpT K Z' H' vs ds
  | [], _, h => by cases h; exact .nil
  | (_, d) :: ds, _, h => by
    cases h with
    | cons h1 h2 => exact .cons (Rp.kp k d h1) (RpT.kp k ds h2)
end
theorem RpL.length {Z : Addr → Prop} {H : Hp} : ∀ {vs : List V} {ds : List D}, RpL K Z H vs ds → vs.length = ds.length
  | _, _, .nil => rfl
  | _, _, .cons _ t => by simp [RpL.length t]
theorem RpL.get {Z : Addr → Prop} {H : Hp} : ∀ {vs : List V} {ds : List D} {i : Nat} {d : D}, RpL K Z H vs ds → ds[i]? = some d → ∃ v, vs[i]? = some v ∧ Rp K Z H v d
  | _, _, _, _, .nil, e => by simp at e
  | _, _, 0, _, .cons r _, e => by simp at e; subst e; exact ⟨_, rfl, r⟩
  | _, _, i + 1, d, .cons _ t, e => by
    obtain ⟨v, h1, h2⟩ := RpL.get (i := i) (d := d) t (by simpa using e)
    exact ⟨v, by simpa using h1, h2⟩
theorem RpL.getV {Z : Addr → Prop} {H : Hp} : ∀ {vs : List V} {ds : List D} {i : Nat} {v : V}, RpL K Z H vs ds → vs[i]? = some v → ∃ d, ds[i]? = some d ∧ Rp K Z H v d
  | _, _, _, _, .nil, e => by simp at e
  | _, _, 0, _, .cons r _, e => by simp at e; subst e; exact ⟨_, rfl, r⟩
  | _, _, i + 1, v, .cons _ t, e => by
    obtain ⟨d, h1, h2⟩ := RpL.getV (i := i) (v := v) t (by simpa using e)
    exact ⟨d, by simpa using h1, h2⟩
theorem RpL.append {Z : Addr → Prop} {H : Hp} : ∀ {vs ws : List V} {ds es : List D}, RpL K Z H vs ds → RpL K Z H ws es → RpL K Z H (vs ++ ws) (ds ++ es)
  | _, _, _, _, .nil, h => h
  | _, _, _, _, .cons r t, h => .cons r (RpL.append t h)
theorem RpL.take {Z : Addr → Prop} {H : Hp} : ∀ {vs : List V} {ds : List D} (n : Nat), RpL K Z H vs ds → RpL K Z H (vs.take n) (ds.take n)
  | _, _, 0, _ => .nil
  | _, _, _ + 1, .nil => .nil
  | _, _, n + 1, .cons r t => .cons r (RpL.take n t)
theorem RpL.drop {Z : Addr → Prop} {H : Hp} : ∀ {vs : List V} {ds : List D} (n : Nat), RpL K Z H vs ds → RpL K Z H (vs.drop n) (ds.drop n)
  | _, _, 0, h => h
  | _, _, _ + 1, .nil => .nil
  | _, _, n + 1, .cons _ t => RpL.drop n t
theorem RpL.reverse {Z : Addr → Prop} {H : Hp} : ∀ {vs : List V} {ds : List D}, RpL K Z H vs ds → RpL K Z H vs.reverse ds.reverse
  | _, _, .nil => .nil
  | _, _, .cons r t => by
    rw [List.reverse_cons, List.reverse_cons]
    exact (RpL.reverse t).append (.cons r .nil)
theorem RpL.set {Z : Addr → Prop} {H : Hp} {x : V} {d : D} (r : Rp K Z H x d) : ∀ {vs : List V} {ds : List D} (i : Nat), RpL K Z H vs ds → RpL K Z H (vs.set i x) (ds.set i d)
  | _, _, _, .nil => .nil
  | _, _, 0, .cons _ t => .cons r t
  | _, _, i + 1, .cons q t => .cons q (RpL.set r i t)
theorem RpL.eraseIdx {Z : Addr → Prop} {H : Hp} : ∀ {vs : List V} {ds : List D} (i : Nat), RpL K Z H vs ds → RpL K Z H (vs.eraseIdx i) (ds.eraseIdx i)
  | _, _, _, .nil => .nil
  | _, _, 0, .cons _ t => t
  | _, _, i + 1, .cons q t => .cons q (RpL.eraseIdx i t)
theorem RpL.rep {Z : Addr → Prop} {H : Hp} {vs : List V} {ds : List D} (h : RpL K Z H vs ds) : ∀ k : Nat, RpL K Z H (List.replicate k vs).flatten (List.replicate k ds).flatten
  | 0 => .nil
  | k + 1 => by
    rw [List.replicate_succ, List.replicate_succ, List.flatten_cons, List.flatten_cons]
    exact h.append (RpL.rep h k)
/-- the datum as it may be read now -/
abbrev Vw (K : PySem.W.Frag) (H : Hp) (v : V) (d : D) : Prop := Rp K (fun _ => True) H v d
abbrev VwL (K : PySem.W.Frag) (H : Hp) (v : List V) (d : List D) : Prop := RpL K (fun _ => True) H v d
theorem kp_vw {Z : Addr → Prop} {H : Hp} : Kp Z H (fun _ => True) H := ⟨fun _ _ => trivial, fun _ _ _ _ h => h, fun _ _ h => h⟩
theorem Rp.vw {Z : Addr → Prop} {H : Hp} {v : V} {d : D} (h : Rp K Z H v d) : Vw K H v d := h.kp kp_vw
theorem RpL.vw {Z : Addr → Prop} {H : Hp} {v : List V} {d : List D} (h : RpL K Z H v d) : VwL K H v d := h.kp kp_vw
end

/-! ### steps -/
/-- from the heap H, where Z stays and O is owned here, to H' -/
structure Stp (O Z : Addr → Prop) (H : Hp) (O' Z' : Addr → Prop) (H' : Hp) : Prop where
  keep : ∀ a o, (∀ ps, o ≠ .tbl ps) → H a = some o → ¬ O a → H' a = some o
  zz : ∀ a, Z a → Z' a
  zo : ∀ a, H a ≠ none → ¬ O a → Z' a → Z a
  oo : ∀ a, O' a → O a ∨ H a = none
  ow : ∀ a, H a ≠ none → H' a ≠ none
  tb : ∀ P q, LamX.TabS H P q → LamX.TabS H' P q
/-- .. as far as an exception tells -/
structure Sx (O : Addr → Prop) (H H' : Hp) : Prop where
  keep : ∀ a o, (∀ ps, o ≠ .tbl ps) → H a = some o → ¬ O a → H' a = some o
  tb : ∀ P q, LamX.TabS H P q → LamX.TabS H' P q
/-- what is owned is a list or dict, and does not stay -/
def OkO (O Z : Addr → Prop) (H : Hp) : Prop := ∀ a, O a → ¬ Z a ∧ ∃ u, H a = some u ∧ Ct u
theorem Stp.refl {O Z : Addr → Prop} {H : Hp} : Stp O Z H O Z H := ⟨fun _ _ _ h _ => h, fun _ h => h, fun _ _ _ h => h, fun _ h => .inl h, fun _ h => h, fun _ _ h => h⟩
theorem Stp.trans {O Z O1 Z1 O2 Z2 : Addr → Prop} {H H1 H2 : Hp} (x : Stp O Z H O1 Z1 H1) (y : Stp O1 Z1 H1 O2 Z2 H2) : Stp O Z H O2 Z2 H2 where
  keep := fun a o ht h n => y.keep a o ht (x.keep a o ht h n) fun q => by
    rcases x.oo a q with z | z
    · exact n z
    · rw [h] at z; cases z
  zz := fun a h => y.zz a (x.zz a h)
  zo := fun a h n q => x.zo a h n (y.zo a (x.ow a h) (fun z => (x.oo a z).elim n h) q)
  oo := fun a h => by
    rcases y.oo a h with z | z
    · exact x.oo a z
    · refine .inr ?_
      cases q : H a with
      | none => rfl
      | some o => exact absurd z (x.ow a (by rw [q]; simp))
  ow := fun a h => y.ow a (x.ow a h)
  tb := fun P q h => y.tb P q (x.tb P q h)
theorem Stp.sx {O Z O1 Z1 : Addr → Prop} {H H1 H2 : Hp} (x : Stp O Z H O1 Z1 H1) (y : Sx O1 H1 H2) : Sx O H H2 where
  keep := fun a o ht h n => y.keep a o ht (x.keep a o ht h n) fun q => by
    rcases x.oo a q with z | z
    · exact n z
    · rw [h] at z; cases z
  tb := fun P q h => y.tb P q (x.tb P q h)
theorem ct_not_tbl {u : HO} (h : Ct u) : ∀ ps, u ≠ .tbl ps := fun ps e => by subst e; exact h
theorem Stp.kp {K : PySem.W.Frag} {O Z O' Z' : Addr → Prop} {H H' : Hp} (x : Stp O Z H O' Z' H') (ok : OkO O Z H) : Kp Z H Z' H' where
  zz := x.zz
  fz := fun a u hc hz h => by
    have n : ¬ O a := fun q => (ok a q).1 hz
    rcases h with h | ⟨o, h⟩
    · exact .inl (x.keep a _ (ct_not_tbl hc) h n)
    · exact .inr ⟨o, x.keep a _ (fun ps e => by cases e) h n⟩
  tp := fun a xs h => by
    have n : ¬ O a := fun q => by
      obtain ⟨_, u, e, c⟩ := ok a q
      rw [e] at h; cases h; exact c
    exact x.keep a _ (fun ps e => by cases e) h n
/-- more stays: p, which is new since H -/
theorem Stp.freeze {O Z O' Z' : Addr → Prop} {H H' : Hp} (x : Stp O Z H O' Z' H') {p : Addr} (hp : O p ∨ H p = none) : Stp O Z H O' (fun a => Z' a ∨ a = p) H' where
  keep := x.keep
  zz := fun a h => .inl (x.zz a h)
  zo := fun a h n q => by
    rcases q with q | rfl
    · exact x.zo a h n q
    · rcases hp with z | z
      · exact absurd z n
      · exact absurd z h
  oo := x.oo
  ow := x.ow
  tb := x.tb
theorem Stp.own {O Z O' Z' : Addr → Prop} {H H' : Hp} (x : Stp O Z H O' Z' H') {O'' : Addr → Prop} (h : ∀ a, O'' a → O a ∨ H a = none) : Stp O Z H O'' Z' H' := ⟨x.keep, x.zz, x.zo, h, x.ow, x.tb⟩

/-! ### heaps that grow, objects that change -/
theorem tabs_upd {H : Hp} {p : Addr} {o : HO} (hp : H p = none) {P : Addr} {q : Str} (h : LamX.TabS H P q) : LamX.TabS (upd H p o) P q :=
  h.ext fun b u e => by rw [upd_ne (ne_of_none e hp)]; exact e
theorem tabs_wr {H : Hp} {p : Addr} {o u : HO} (hp : H p = some u) (hc : Ct u) {P : Addr} {q : Str} (h : LamX.TabS H P q) : LamX.TabS (upd H p o) P q := by
  obtain ⟨ps, h1, h2, h3⟩ := h
  have n1 : P ≠ p := fun e => by rw [e, hp] at h1; cases h1; exact hc
  refine ⟨ps, by rw [upd_ne n1]; exact h1, h2, fun pos cv hcv => ?_⟩
  obtain ⟨c, e1, e2⟩ := h3 pos cv hcv
  refine ⟨c, e1, ?_⟩
  have n2 : c ≠ p := fun e => by
    rw [e, hp] at e2
    have := Option.some.inj e2
    subst this
    exact hc
  rw [upd_ne n2]; exact e2
theorem Stp.new {O Z : Addr → Prop} {H : Hp} {p : Addr} {o : HO} (hp : H p = none) : Stp O Z H O Z (upd H p o) where
  keep := fun a u _ h _ => by rw [upd_ne (ne_of_none h hp)]; exact h
  zz := fun _ h => h
  zo := fun _ _ _ h => h
  oo := fun _ h => .inl h
  ow := fun a h => by
    by_cases e : a = p
    · subst e; exact absurd hp h
    · rw [upd_ne e]; exact h
  tb := fun _ _ h => tabs_upd hp h
theorem Stp.wr {O Z : Addr → Prop} {H : Hp} {p : Addr} {o u : HO} (ho : O p) (hp : H p = some u) (hc : Ct u) : Stp O Z H O Z (upd H p o) where
  keep := fun a w _ h n => by
    have ne : a ≠ p := fun e => n (by rw [e]; exact ho)
    rw [upd_ne ne]; exact h
  zz := fun _ h => h
  zo := fun _ _ _ h => h
  oo := fun _ h => .inl h
  ow := fun a h => by
    by_cases e : a = p
    · subst e; rw [upd_same]; exact fun z => by cases z
    · rw [upd_ne e]; exact h
  tb := fun _ _ h => tabs_wr hp hc h

/-! ### slots -/
/-- what stands at p, owned -/
inductive Cn (K : PySem.W.Frag) (Z : Addr → Prop) (H : Hp) (p : Addr) : D → Prop
  | lst {xs : List V} {ds : List D} : H p = some (.lst xs) → RpL K Z H xs ds → Cn K Z H p (.list ds)
  | dk {ks : List (Key × V)} {ds : List (D × D)} : H p = some (.dK ks) → RpK K Z H ks ds → Cn K Z H p (.dict ds)
  | dt {ks : List (List Key × V)} {ds : List (D × D)} : H p = some (.dT ks) → RpM K Z H ks ds → Cn K Z H p (.dict ds)
theorem Cn.ct {K : PySem.W.Frag} {Z : Addr → Prop} {H : Hp} {p : Addr} {d : D} (c : Cn K Z H p d) : ∃ u, H p = some u ∧ Ct u := by
  cases c with
  | lst h _ => exact ⟨_, h, trivial⟩
  | dk h _ => exact ⟨_, h, trivial⟩
  | dt h _ => exact ⟨_, h, trivial⟩
theorem Cn.kp {K : PySem.W.Frag} {Z Z' : Addr → Prop} {H H' : Hp} {p : Addr} {d : D} (c : Cn K Z H p d) (k : Kp Z H Z' H') (hp : ∀ u, Ct u → H p = some u → H' p = some u) : Cn K Z' H' p d := by
  cases c with
  | lst h r => exact .lst (hp _ trivial h) (r.kp k)
  | dk h r => exact .dk (hp _ trivial h) (r.kp k)
  | dt h r => exact .dt (hp _ trivial h) (r.kp k)
theorem Cn.rp {K : PySem.W.Frag} {Z : Addr → Prop} {H : Hp} {p : Addr} {d : D} (c : Cn K Z H p d) (hz : Z p) : Rp K Z H (.ref p) d := by
  cases c with
  | lst h r => exact .lst (.inl ⟨hz, .inl h⟩) r
  | dk h r => exact .dk hz (.inl h) r
  | dt h r => exact .dt hz (.inl h) r
theorem Cn.vw {K : PySem.W.Frag} {Z : Addr → Prop} {H : Hp} {p : Addr} {d : D} (c : Cn K Z H p d) : Vw K H (.ref p) d :=
  (c.kp (kp_vw) fun _ _ h => h).rp trivial
def OwnAt (st : DS) (σ : St) (i : Nat) (p : Addr) : Prop := ∃ x d, st[i]? = some (some (.own x d)) ∧ σ[i]? = some (some (.ref p))
def Own (st : DS) (σ : St) (p : Addr) : Prop := ∃ i, OwnAt st σ i p
inductive SlotOk (K : PySem.W.Frag) (θ : Nat → Addr) (Z : Addr → Prop) (H : Hp) (σ : St) (i : Nat) : A → Prop
  | val {d : D} {v : V} : σ[i]? = some (some v) → Rp K Z H v d → SlotOk K θ Z H σ i (.val d)
  | own {x : Bool} {d : D} {p : Addr} : σ[i]? = some (some (.ref p)) → ¬ Z p → Cn K Z H p d → (x = true → θ i = p) → SlotOk K θ Z H σ i (.own x d)
/-- the slots as the denotation has them -/
structure Rl (K : PySem.W.Frag) (θ : Nat → Addr) (Z : Addr → Prop) (H : Hp) (st : DS) (σ : St) : Prop where
  len : st.length = σ.length
  slot : ∀ i a, st[i]? = some (some a) → SlotOk K θ Z H σ i a
  inj : ∀ i j p, OwnAt st σ i p → OwnAt st σ j p → i = j
  dom : ∀ a, Z a → H a ≠ none
section
variable {K : PySem.W.Frag} {θ : Nat → Addr} {Z Z' : Addr → Prop} {H H' : Hp} {st st' : DS} {σ σ' : St}
theorem Rl.okO (l : Rl K θ Z H st σ) : OkO (Own st σ) Z H := fun a ⟨i, x, d, h1, h2⟩ => by
  cases l.slot i _ h1 with
  | own e n c _ =>
    rw [h2] at e; cases e
    exact ⟨n, c.ct⟩
theorem Rl.at_own (l : Rl K θ Z H st σ) {i : Nat} {x : Bool} {d : D} (h : st[i]? = some (some (.own x d))) : ∃ p, σ[i]? = some (some (.ref p)) ∧ ¬ Z p ∧ Cn K Z H p d ∧ (x = true → θ i = p) := by
  cases l.slot i _ h with
  | own e n c t => exact ⟨_, e, n, c, t⟩
theorem Rl.at_val (l : Rl K θ Z H st σ) {i : Nat} {d : D} (h : st[i]? = some (some (.val d))) : ∃ v, σ[i]? = some (some v) ∧ Rp K Z H v d := by
  cases l.slot i _ h with
  | val e r => exact ⟨_, e, r⟩
/-- the same slots over a heap in which data and the owned objects are kept -/
theorem Rl.move (l : Rl K θ Z H st σ) (k : Kp Z H Z' H') (ho : ∀ p u, Own st σ p → Ct u → H p = some u → H' p = some u) (hz : ∀ p, Own st σ p → ¬ Z' p) (hd : ∀ a, Z' a → H' a ≠ none) : Rl K θ Z' H' st σ where
  len := l.len
  slot := fun i a h => by
    cases l.slot i a h with
    | val e r => exact .val e (r.kp k)
    | own e n c t => exact .own e (hz _ ⟨i, _, _, h, e⟩) (c.kp k fun u hc hu => ho _ u ⟨i, _, _, h, e⟩ hc hu) t
  inj := l.inj
  dom := hd
/-- a new object that is not owned -/
theorem Rl.new (l : Rl K θ Z H st σ) {p : Addr} {o : HO} (hp : H p = none) : Rl K θ Z (upd H p o) st σ :=
  l.move ((Stp.new (O := Own st σ) (Z := Z) hp).kp (K := K) l.okO) (fun q u _ _ e => by rw [upd_ne (ne_of_none e hp)]; exact e) (fun q hq => (l.okO q hq).1) fun a hz => by
    by_cases e : a = p
    · subst e; rw [upd_same]; exact fun z => by cases z
    · rw [upd_ne e]; exact l.dom a hz
/-- one more object stays -/
theorem Rl.freeze (l : Rl K θ Z H st σ) {p : Addr} (hn : ¬ Own st σ p) (hp : H p ≠ none) : Rl K θ (fun a => Z a ∨ a = p) H st σ :=
  l.move ⟨fun _ h => .inl h, fun _ _ _ _ h => h, fun _ _ h => h⟩ (fun _ _ _ _ e => e) (fun q hq z => z.elim (l.okO q hq).1 fun e => hn (e ▸ hq)) fun a z => z.elim (l.dom a) fun e => e ▸ hp
theorem set_get {α : Type} {l : List α} {i j : Nat} {a b : α} (h : (l.set i a)[j]? = some b) : (j = i ∧ b = a ∧ i < l.length) ∨ (j ≠ i ∧ l[j]? = some b) := by
  by_cases e : j = i
  · subst e
    by_cases hl : j < l.length
    · rw [List.getElem?_set_self hl] at h
      exact .inl ⟨rfl, (Option.some.inj h).symm, hl⟩
    · rw [List.getElem?_eq_none (by rw [List.length_set]; omega)] at h
      cases h
  · rw [List.getElem?_set_ne (Ne.symm e)] at h
    exact .inr ⟨e, h⟩
/-- fewer owned slots -/
theorem own_set_le {i : Nat} {a : Option A} (ha : ∀ x d, a ≠ some (.own x d)) {p : Addr} (h : Own (st.set i a) σ p) : Own st σ p := by
  obtain ⟨j, x, d, h1, h2⟩ := h
  rcases set_get h1 with ⟨_, e, _⟩ | ⟨_, e⟩
  · exact absurd e.symm (ha x d)
  · exact ⟨j, x, d, e, h2⟩
/-- a slot is given a value, or nothing is known of it, the frame as it was -/
theorem Rl.setD (l : Rl K θ Z H st σ) {i : Nat} {a : Option A} (ha : ∀ x d, a ≠ some (.own x d)) (hv : ∀ d, a = some (.val d) → ∃ v, σ[i]? = some (some v) ∧ Rp K Z H v d) : Rl K θ Z H (st.set i a) σ where
  len := by rw [List.length_set]; exact l.len
  slot := fun j b h => by
    rcases set_get h with ⟨rfl, e, _⟩ | ⟨_, e⟩
    · cases b with
      | val d =>
        obtain ⟨v, h1, h2⟩ := hv d e.symm
        exact .val h1 h2
      | own x d => exact absurd e.symm (ha x d)
    · exact l.slot j b e
  inj := fun j k p ⟨x, d, h1, h2⟩ ⟨y, e, k1, k2⟩ => by
    rcases set_get h1 with ⟨_, q, _⟩ | ⟨_, q⟩
    · exact absurd q.symm (ha x d)
    · rcases set_get k1 with ⟨_, r, _⟩ | ⟨_, r⟩
      · exact absurd r.symm (ha y e)
      · exact l.inj j k p ⟨x, d, q, h2⟩ ⟨y, e, r, k2⟩
  dom := l.dom
/-- a name is stored: a value -/
theorem Rl.setV (l : Rl K θ Z H st σ) {i : Nat} {d : D} {v : V} (hv : Rp K Z H v d) : Rl K θ Z H (st.set i (some (.val d))) (σ.set i (some v)) where
  len := by rw [List.length_set, List.length_set]; exact l.len
  slot := fun j b h => by
    rcases set_get h with ⟨rfl, e, hl⟩ | ⟨n, e⟩
    · cases e
      exact .val (List.getElem?_set_self (by rw [← l.len]; exact hl)) hv
    · cases l.slot j b e with
      | val e1 r => exact .val (by rw [List.getElem?_set_ne (Ne.symm n)]; exact e1) r
      | own e1 nz c t => exact .own (by rw [List.getElem?_set_ne (Ne.symm n)]; exact e1) nz c t
  inj := fun j k p ⟨x, d, h1, h2⟩ ⟨y, e, k1, k2⟩ => by
    rcases set_get h1 with ⟨_, q, _⟩ | ⟨n1, q⟩
    · cases q
    · rcases set_get k1 with ⟨_, r, _⟩ | ⟨n2, r⟩
      · cases r
      · rw [List.getElem?_set_ne (Ne.symm n1)] at h2
        rw [List.getElem?_set_ne (Ne.symm n2)] at k2
        exact l.inj j k p ⟨x, d, q, h2⟩ ⟨y, e, r, k2⟩
  dom := l.dom
theorem own_setV {i : Nat} {d : D} {v : V} {p : Addr} (h : Own (st.set i (some (.val d))) (σ.set i (some v)) p) : Own st σ p := by
  obtain ⟨j, x, e, h1, h2⟩ := h
  rcases set_get h1 with ⟨_, q, _⟩ | ⟨n, q⟩
  · cases q
  · rw [List.getElem?_set_ne (Ne.symm n)] at h2
    exact ⟨j, x, e, q, h2⟩
/-- .. an object of its own -/
theorem Rl.setO (l : Rl K θ Z H st σ) {i : Nat} {d : D} {p : Addr} (hz : ¬ Z p) (hc : Cn K Z H p d) (hn : ¬ Own st σ p) : Rl K θ Z H (st.set i (some (.own false d))) (σ.set i (some (.ref p))) where
  len := by rw [List.length_set, List.length_set]; exact l.len
  slot := fun j b h => by
    rcases set_get h with ⟨rfl, e, hl⟩ | ⟨n, e⟩
    · cases e
      exact .own (List.getElem?_set_self (by rw [← l.len]; exact hl)) hz hc fun z => by cases z
    · cases l.slot j b e with
      | val e1 r => exact .val (by rw [List.getElem?_set_ne (Ne.symm n)]; exact e1) r
      | own e1 nz c t => exact .own (by rw [List.getElem?_set_ne (Ne.symm n)]; exact e1) nz c t
  inj := fun j k q ⟨x, d, h1, h2⟩ ⟨y, e, k1, k2⟩ => by
    rcases set_get h1 with ⟨ej, q1, hj⟩ | ⟨n1, q1⟩
    · rcases set_get k1 with ⟨ek, r, _⟩ | ⟨n2, r⟩
      · rw [ej, ek]
      · subst ej
        rw [List.getElem?_set_self (by rw [← l.len]; exact hj)] at h2
        rw [List.getElem?_set_ne (Ne.symm n2)] at k2
        cases h2
        exact absurd ⟨k, y, e, r, k2⟩ hn
    · rcases set_get k1 with ⟨ek, r, hk⟩ | ⟨n2, r⟩
      · subst ek
        rw [List.getElem?_set_self (by rw [← l.len]; exact hk)] at k2
        rw [List.getElem?_set_ne (Ne.symm n1)] at h2
        cases k2
        exact absurd ⟨j, x, d, q1, h2⟩ hn
      · rw [List.getElem?_set_ne (Ne.symm n1)] at h2
        rw [List.getElem?_set_ne (Ne.symm n2)] at k2
        exact l.inj j k q ⟨x, d, q1, h2⟩ ⟨y, e, r, k2⟩
  dom := l.dom
theorem own_setO {i : Nat} {d : D} {p q : Addr} (h : Own (st.set i (some (.own false d))) (σ.set i (some (.ref p))) q) : Own st σ q ∨ q = p := by
  obtain ⟨j, x, e, h1, h2⟩ := h
  rcases set_get h1 with ⟨rfl, _, hl⟩ | ⟨n, r⟩
  · rcases set_get h2 with ⟨_, z, _⟩ | ⟨n, _⟩
    · cases z
      exact .inr rfl
    · exact absurd rfl n
  · rw [List.getElem?_set_ne (Ne.symm n)] at h2
    exact .inl ⟨j, x, e, r, h2⟩
/-- the object that slot i owns is changed -/
theorem Rl.wr (l : Rl K θ Z H st σ) {i : Nat} {x : Bool} {d d' : D} {p : Addr} {o : HO} (h : st[i]? = some (some (.own x d))) (hσ : σ[i]? = some (some (.ref p))) (hc : Cn K Z (upd H p o) p d') :
    Rl K θ Z (upd H p o) (st.set i (some (.own x d'))) σ := by
  have hO : Own st σ p := ⟨i, x, d, h, hσ⟩
  obtain ⟨nz, u, hu, cu⟩ := l.okO p hO
  have k : Kp Z H Z (upd H p o) := (Stp.wr (Z := Z) (o := o) hO hu cu).kp (K := K) l.okO
  refine ⟨by rw [List.length_set]; exact l.len, fun j b e => ?_, fun j k q ⟨y, e1, h1, h2⟩ ⟨z, e2, k1, k2⟩ => ?_, fun a hz => ?_⟩
  · rcases set_get e with ⟨rfl, eb, _⟩ | ⟨n, e'⟩
    · cases eb
      obtain ⟨p', e1, n1, c1, t1⟩ := l.at_own h
      rw [hσ] at e1; cases e1
      exact .own hσ n1 hc t1
    · cases l.slot j b e' with
      | val e1 r => exact .val e1 (r.kp k)
      | own e1 n1 c t =>
        refine .own e1 n1 (c.kp k fun u' _ hu' => ?_) t
        rw [upd_ne]
        · exact hu'
        · intro z
          subst z
          exact n (l.inj _ _ _ ⟨_, _, e', e1⟩ ⟨_, _, h, hσ⟩)
  · have g1 : OwnAt st σ j q := by
      rcases set_get h1 with ⟨rfl, eb, _⟩ | ⟨_, e'⟩
      · exact ⟨x, d, h, h2⟩
      · exact ⟨y, e1, e', h2⟩
    have g2 : OwnAt st σ k q := by
      rcases set_get k1 with ⟨rfl, eb, _⟩ | ⟨_, e'⟩
      · exact ⟨x, d, h, k2⟩
      · exact ⟨z, e2, e', k2⟩
    exact l.inj j k q g1 g2
  · by_cases e : a = p
    · subst e; exact absurd hz nz
    · rw [upd_ne e]; exact l.dom a hz
theorem own_wr {i : Nat} {x : Bool} {d d' : D} (h : st[i]? = some (some (.own x d))) {q : Addr} (hq : Own (st.set i (some (.own x d'))) σ q) : Own st σ q := by
  obtain ⟨j, y, e, h1, h2⟩ := hq
  rcases set_get h1 with ⟨rfl, _, _⟩ | ⟨_, e'⟩
  · exact ⟨j, x, d, h, h2⟩
  · exact ⟨j, y, e, e', h2⟩
theorem own_wr' {i : Nat} {x : Bool} {d d' : D} (h : st[i]? = some (some (.own x d))) {q : Addr} (hq : Own st σ q) : Own (st.set i (some (.own x d'))) σ q := by
  obtain ⟨j, y, e, h1, h2⟩ := hq
  by_cases ej : j = i
  · subst ej
    exact ⟨j, x, d', List.getElem?_set_self (List.getElem?_eq_some_iff.mp h1).1, h2⟩
  · exact ⟨j, y, e, by rw [List.getElem?_set_ne (Ne.symm ej)]; exact h1, h2⟩
end

/-! ### sizes -/
def szO : HO → Nat
  | .lst xs => xs.length
  | .tup xs => xs.length
  | .dK ks => ks.length
  | .dT ks => ks.length
  | _ => 0
/-- what is tracked is no longer than the model allows -/
def Bd (H : Hp) : Prop := ∀ a u, Rd H a u → szO u ≤ sizeLine
theorem Inv.bd {X : Cx} {pins : List (Addr × Obj)} {σ : St} {H : Hp} {s : Shared} (I : Inv X pins σ H s) : Bd H := fun a u h => by
  have x := h.ok I.hok
  cases u with
  | lst xs => exact x.1
  | tup xs => exact x.1
  | dK ks => exact x.1
  | dT ks => exact x.1
  | _ => exact Nat.zero_le _
theorem Bd.lst {H : Hp} (b : Bd H) {a : Addr} {xs : List V} (h : Rd H a (.lst xs)) : xs.length ≤ sizeLine := b a _ h
theorem Bd.sqL {K : PySem.W.Frag} {H : Hp} (b : Bd H) {a : Addr} {xs : List V} (h : SqL K H a xs) : xs.length ≤ sizeLine := by
  rcases h with h | ⟨o, its, n, _, _, _, _, hz, r⟩
  · exact b a _ h
  · have e := r.length
    simp only [Array.length_toList] at e
    omega
theorem Bd.sqT {K : PySem.W.Frag} {H : Hp} (b : Bd H) {a : Addr} {xs : List V} (h : SqT K H a xs) : xs.length ≤ sizeLine := by
  rcases h with h | ⟨o, its, n, _, _, _, hz, r⟩
  · exact b a _ h
  · have e := r.length
    simp only [Array.length_toList] at e
    omega

/-! ### outcomes -/
inductive RvOk (K : PySem.W.Frag) (Z : Addr → Prop) (H : Hp) (st : DS) (σ : St) (v : V) : RV → Prop
  | val {d : D} : Rp K Z H v d → RvOk K Z H st σ v (.val d)
  | fresh {p : Addr} {d : D} : v = .ref p → ¬ Z p → ¬ Own st σ p → Cn K Z H p d → RvOk K Z H st σ v (.fresh d)
  | bor {i : Nat} {x : Bool} {d : D} : st[i]? = some (some (.own x d)) → σ[i]? = some (some v) → RvOk K Z H st σ v (.bor i d)
/-- a new object is new since O, H -/
def RvNew (O : Addr → Prop) (H : Hp) (v : V) (r : RV) : Prop := ∀ p d, r = .fresh d → v = .ref p → O p ∨ H p = none
section
variable {K : PySem.W.Frag} {θ : Nat → Addr} {Z Z1 Z2 : Addr → Prop} {H H1 H2 : Hp} {st st1 st2 : DS} {σ σ' : St} {v : V} {r : RV}
theorem RvOk.vw (h : RvOk K Z H st σ v r) (l : Rl K θ Z H st σ) : Vw K H v r.d := by
  cases h with
  | val h => exact h.vw
  | fresh e _ _ c => subst e; exact c.vw
  | bor h1 h2 =>
    obtain ⟨p, e, _, c, _⟩ := l.at_own h1
    rw [h2] at e; cases e
    exact c.vw
/-- later -/
theorem RvOk.later (h : RvOk K Z1 H1 st1 σ v r) (l1 : Rl K θ Z1 H1 st1 σ) (x : Stp (Own st1 σ) Z1 H1 (Own st2 σ) Z2 H2) (lv : r.live st2) : RvOk K Z2 H2 st2 σ v r := by
  cases h with
  | val h => exact .val (h.kp (x.kp (K := K) l1.okO))
  | @fresh p d' e nz no c =>
    subst e
    obtain ⟨u, hu, cu⟩ := c.ct
    have hne : H1 p ≠ none := by rw [hu]; exact fun z => by cases z
    refine .fresh rfl (fun z => nz (x.zo _ hne no z)) (fun z => ?_) (c.kp (x.kp (K := K) l1.okO) fun w cw hw => x.keep _ _ (ct_not_tbl cw) hw no)
    rcases x.oo _ z with q | q
    · exact no q
    · exact hne q
  | bor h1 h2 =>
    obtain ⟨y, hy⟩ := lv
    exact .bor hy h2
theorem RvNew.back {O : Addr → Prop} {O1 : Addr → Prop} (h : RvNew O1 H1 v r) (x : Stp O Z H O1 Z1 H1) : RvNew O H v r := fun p d e1 e2 => by
  rcases h p d e1 e2 with z | z
  · exact x.oo p z
  · refine .inr ?_
    cases q : H p with
    | none => rfl
    | some o => exact absurd z (x.ow p (by rw [q]; exact fun z => by cases z))
/-- a value that stays -/
theorem RvOk.asVal {O : Addr → Prop} {Z0 : Addr → Prop} {H0 : Hp} {d : D} (h : RvOk K Z H st σ v r) (l : Rl K θ Z H st σ) (x : Stp O Z0 H0 (Own st σ) Z H) (n : RvNew O H0 v r) (e : r.asVal = .ok d) :
    ∃ Z', Stp O Z0 H0 (Own st σ) Z' H ∧ Rl K θ Z' H st σ ∧ Rp K Z' H v d ∧ Kp Z H Z' H ∧ (∀ a, Z' a → Z a ∨ (v = .ref a ∧ ∃ d, r = .fresh d)) := by
  cases h with
  | val h =>
    cases e
    exact ⟨Z, x, l, h, ⟨fun _ h => h, fun _ _ _ _ h => h, fun _ _ h => h⟩, fun _ h => .inl h⟩
  | @fresh p d' ev nz no c =>
    subst ev
    cases e
    obtain ⟨u, hu, cu⟩ := c.ct
    have hne : H p ≠ none := by rw [hu]; exact fun z => by cases z
    refine ⟨_, x.freeze (n _ _ rfl rfl), l.freeze no hne, ?_, ⟨fun _ h => .inl h, fun _ _ _ _ h => h, fun _ _ h => h⟩, fun a h => h.elim .inl fun e => .inr ⟨by rw [e], _, rfl⟩⟩
    exact (c.kp ⟨fun _ h => .inl h, fun _ _ _ _ h => h, fun _ _ h => h⟩ fun _ _ h => h).rp (.inr rfl)
  | bor _ _ => cases e
end
/-- outcomes: C of the end, or the exception's wish -/
def ExOk (X : Cx) (E : XK) (O : Addr → Prop) (H : Hp) (c : Str) : Prop := ∃ a, X.mg c = some (.ref a) ∧ ∀ H', Sx O H H' → E (.ref a) none H'
def Po (X : Cx) (E : XK) (O : Addr → Prop) (H : Hp) {α : Type} (m : R (α × DS)) (C : α → DS → Prop) : Prop := match m with
  | .ok (a, st) => C a st
  | .ex c => ExOk X E O H c
  | .bad => False
section
variable {X : Cx} {E : XK} {O O1 Z Z1 : Addr → Prop} {H H1 : Hp} {α β : Type}
theorem ExOk.adv {c : Str} (h : ExOk X E O H c) (x : Stp O Z H O1 Z1 H1) : ExOk X E O1 H1 c := by
  obtain ⟨a, h1, h2⟩ := h
  exact ⟨a, h1, fun H' y => h2 H' (x.sx y)⟩
theorem Po.adv {m : R (α × DS)} {C : α → DS → Prop} (h : Po X E O H m C) (x : Stp O Z H O1 Z1 H1) : Po X E O1 H1 m C := by
  cases m with
  | ok p => exact h
  | ex c => exact ExOk.adv h x
  | bad => exact h
theorem Po.bind {m : R (α × DS)} {k : α × DS → R (β × DS)} {C : β → DS → Prop} {C' : α → DS → Prop} (h : Po X E O H (m >>= k) C) (hk : ∀ a st, m = .ok (a, st) → Po X E O H (k (a, st)) C → C' a st) : Po X E O H m C' := by
  cases m with
  | ok p => exact hk p.1 p.2 rfl h
  | ex c => exact h
  | bad => exact h
/-- a step without a state -/
theorem Po.bindR {γ : Type} {m : R γ} {k : γ → R (β × DS)} {C : β → DS → Prop} {P : Prop} (h : Po X E O H (m >>= k) C) (hne : ∀ c, m ≠ .ex c) (hk : ∀ a, m = .ok a → Po X E O H (k a) C → P) : P := by
  cases m with
  | ok a => exact hk a rfl h
  | ex c => exact absurd rfl (hne c)
  | bad => exact False.elim h
theorem Po.guard {p : Prop} {m : R (α × DS)} {C : α → DS → Prop} (h : Po X E O H (guardP p m) C) : p ∧ Po X E O H m C := by
  unfold guardP at h
  by_cases hp : p
  · rw [if_pos hp] at h; exact ⟨hp, h⟩
  · rw [if_neg hp] at h; exact False.elim h
theorem asVal_ne {r : RV} (c : Str) : r.asVal ≠ .ex c := by
  cases r <;> exact fun z => by cases z
theorem of_ne {α : Type} {o : Option α} (c : Str) : R.of o ≠ .ex c := by
  cases o <;> exact fun z => by cases z
end
/-- the ends -/
def CE (K : PySem.W.Frag) (θ : Nat → Addr) (O Z : Addr → Prop) (H : Hp) (σ : St) (Q : VK) (r : RV) (st : DS) : Prop := ∀ v H' Z', Bd H' → Stp O Z H (Own st σ) Z' H' → Rl K θ Z' H' st σ → RvOk K Z' H' st σ v r → RvNew O H v r → Q v H'
def CT (K : PySem.W.Frag) (θ : Nat → Addr) (O Z : Addr → Prop) (H : Hp) (σ : St) (Q : Bool → Hp → Prop) (b : Bool) (st : DS) : Prop := ∀ H' Z', Bd H' → Stp O Z H (Own st σ) Z' H' → Rl K θ Z' H' st σ → Q b H'
def CA (K : PySem.W.Frag) (θ : Nat → Addr) (O Z : Addr → Prop) (H : Hp) (σ : St) (Q : List V → Hp → Prop) (ds : List D) (st : DS) : Prop := ∀ vs H' Z', Bd H' → Stp O Z H (Own st σ) Z' H' → Rl K θ Z' H' st σ → RpL K Z' H' vs ds → Q vs H'
def CS (K : PySem.W.Frag) (θ : Nat → Addr) (O Z : Addr → Prop) (H : Hp) (W : Ends) (f : Fl) (st : DS) : Prop := match f with
  | .nx => ∀ σ H' Z', Bd H' → Stp O Z H (Own st σ) Z' H' → Rl K θ Z' H' st σ → W.nx σ H'
  | .bk => ∀ σ H' Z', Bd H' → Stp O Z H (Own st σ) Z' H' → Rl K θ Z' H' st σ → W.bk σ H'
  | .ct => ∀ σ H' Z', Bd H' → Stp O Z H (Own st σ) Z' H' → Rl K θ Z' H' st σ → W.ct σ H'
  | .rt r => ∀ σ v H' Z', Bd H' → Stp O Z H (Own st σ) Z' H' → Rl K θ Z' H' st σ → RvOk K Z' H' st σ v r → RvNew O H v r → W.rt v H'

/-! ### judgements -/
def rdE (X : Cx) (E : XK) (θ : Nat → Addr) (m : DE) : TE := fun σ H Q => ∃ Z st, Rl X.K θ Z H st σ ∧ Po X E (Own st σ) H (m st) (CE X.K θ (Own st σ) Z H σ Q)
def rdT (X : Cx) (E : XK) (θ : Nat → Addr) (m : DT) : TT := fun σ H Q => ∃ Z st, Rl X.K θ Z H st σ ∧ Po X E (Own st σ) H (m st) (CT X.K θ (Own st σ) Z H σ Q)
def rdA (X : Cx) (E : XK) (θ : Nat → Addr) (m : DS → R (List D × DS)) : TA := fun σ H Q => ∃ Z st, Rl X.K θ Z H st σ ∧ Po X E (Own st σ) H (m st) (CA X.K θ (Own st σ) Z H σ Q)
def rdS (X : Cx) (E : XK) (θ : Nat → Addr) (m : DM) : TS := fun W σ H => ∃ Z st, Rl X.K θ Z H st σ ∧ Po X E (Own st σ) H (m st) (CS X.K θ (Own st σ) Z H W)
def QE (X : Cx) (E : XK) (θ : Nat → Addr) (e : Expr) (m : DE) : Prop := PE X e (rdE X E θ m)
def QT (X : Cx) (E : XK) (θ : Nat → Addr) (e : Expr) (m : DT) : Prop := PT X e (rdT X E θ m)
def QW (X : Cx) (E : XK) (θ : Nat → Addr) (e : Expr) (m : DT) : Prop := PW X e (rdT X E θ m)
def QA (X : Cx) (E : XK) (θ : Nat → Addr) (es : List Expr) (m : DS → R (List D × DS)) : Prop := PA X es (rdA X E θ m)
def QS (X : Cx) (E : XK) (θ : Nat → Addr) (s : Stmt) (m : DM) : Prop := PS X s (rdS X E θ m)
def QSs (X : Cx) (E : XK) (θ : Nat → Addr) (s : List Stmt) (m : DM) : Prop := PSs X s (rdS X E θ m)
section
variable {X : Cx} {E : XK} {θ : Nat → Addr}
theorem QE.mk {e : Expr} {t : TE} {m : DE} (h : PE X e t) (hi : ∀ σ H Z st Q, Bd H → Rl X.K θ Z H st σ → Po X E (Own st σ) H (m st) (CE X.K θ (Own st σ) Z H σ Q) → t σ H fun v H' => Bd H' → Q v H') : QE X E θ e m :=
  ⟨fun pins s σ H Q I ⟨Z, st, l, p⟩ => thn (h.run pins s σ H _ I (hi σ H Z st Q (Inv.bd I) l p)) fun _ _ ⟨v, H', I', r, q⟩ => ⟨v, H', I', r, q (Inv.bd I')⟩⟩
theorem QT.mk {e : Expr} {t : TT} {m : DT} (h : PT X e t) (hi : ∀ σ H Z st Q, Bd H → Rl X.K θ Z H st σ → Po X E (Own st σ) H (m st) (CT X.K θ (Own st σ) Z H σ Q) → t σ H fun v H' => Bd H' → Q v H') : QT X E θ e m :=
  ⟨fun pins s σ H Q I ⟨Z, st, l, p⟩ => thn (h.run pins s σ H _ I (hi σ H Z st Q (Inv.bd I) l p)) fun _ _ ⟨H', I', q⟩ => ⟨H', I', q (Inv.bd I')⟩⟩
theorem QW.mk {e : Expr} {t : TT} {m : DT} (h : PW X e t) (hi : ∀ σ H Z st Q, Bd H → Rl X.K θ Z H st σ → Po X E (Own st σ) H (m st) (CT X.K θ (Own st σ) Z H σ Q) → t σ H fun v H' => Bd H' → Q v H') : QW X E θ e m :=
  ⟨fun wh pins s σ H Q I ⟨Z, st, l, p⟩ => thn (h.run wh pins s σ H _ I (hi σ H Z st Q (Inv.bd I) l p)) fun _ _ ⟨H', I', q⟩ => ⟨H', I', q (Inv.bd I')⟩⟩
theorem QA.mk {es : List Expr} {t : TA} {m : DS → R (List D × DS)} (h : PA X es t) (hi : ∀ σ H Z st Q, Bd H → Rl X.K θ Z H st σ → Po X E (Own st σ) H (m st) (CA X.K θ (Own st σ) Z H σ Q) → t σ H fun v H' => Bd H' → Q v H') : QA X E θ es m :=
  ⟨fun pos pins s σ H Q I ⟨Z, st, l, p⟩ => thn (h.run pos pins s σ H _ I (hi σ H Z st Q (Inv.bd I) l p)) fun _ _ ⟨v, H', I', r, q⟩ => ⟨v, H', I', r, q (Inv.bd I')⟩⟩
/-- the ends with their sizes -/
def Ends.bd (W : Ends) : Ends := ⟨fun σ H => Bd H → W.nx σ H, fun v H => Bd H → W.rt v H, fun σ H => Bd H → W.bk σ H, fun σ H => Bd H → W.ct σ H⟩
theorem SP.bd {pins : List (Addr × Obj)} {W : Ends} {f : Flow} {s : Shared} (h : SP X pins (Ends.bd W) f s) : SP X pins W f s := by
  cases f with
  | next => obtain ⟨σ', H', I, q⟩ := h; exact ⟨σ', H', I, q (Inv.bd I)⟩
  | brk => obtain ⟨σ', H', I, q⟩ := h; exact ⟨σ', H', I, q (Inv.bd I)⟩
  | cont => obtain ⟨σ', H', I, q⟩ := h; exact ⟨σ', H', I, q (Inv.bd I)⟩
  | ret u => obtain ⟨v, σ', H', I, r, q⟩ := h; exact ⟨v, σ', H', I, r, q (Inv.bd I)⟩
theorem QS.mk {s : Stmt} {t : TS} {m : DM} (h : PS X s t) (hi : ∀ W σ H Z st, Bd H → Rl X.K θ Z H st σ → Po X E (Own st σ) H (m st) (CS X.K θ (Own st σ) Z H W) → t (Ends.bd W) σ H) : QS X E θ s m :=
  ⟨fun pins s σ H W I ⟨Z, st, l, p⟩ => thn (h.run pins s σ H _ I (hi W σ H Z st (Inv.bd I) l p)) fun _ _ q => SP.bd q⟩
theorem QSs.mk {s : List Stmt} {t : TS} {m : DM} (h : PSs X s t) (hi : ∀ W σ H Z st, Bd H → Rl X.K θ Z H st σ → Po X E (Own st σ) H (m st) (CS X.K θ (Own st σ) Z H W) → t (Ends.bd W) σ H) : QSs X E θ s m :=
  ⟨fun pins s σ H W I ⟨Z, st, l, p⟩ => thn (h.run pins s σ H _ I (hi W σ H Z st (Inv.bd I) l p)) fun _ _ q => SP.bd q⟩
end
end QL

end
section
/-! QOps: operations on data, by values. -/
namespace QL
open PySem PySem.Spec PyProof.Rows L2

/-- what an operand is: a datum that stays, or an owned (new) object -/
inductive Wv (K : PySem.W.Frag) (Z : Addr → Prop) (H : Hp) (v : V) (d : D) : Prop
  | rp : Rp K Z H v d → Wv K Z H v d
  | cn {p : Addr} : v = .ref p → Cn K Z H p d → Wv K Z H v d
/-- what a result is: something that is there, or new -/
inductive Res (K : PySem.W.Frag) (Z : Addr → Prop) (H : Hp) : V → RV → Hp → Prop
  | same {v : V} {d : D} : Rp K Z H v d → Res K Z H v (.val d) H
  | tup {p : Addr} {vs : List V} {ds : List D} : H p = none → RpL K Z H vs ds → Res K Z H (.ref p) (.val (.tuple ds)) (upd H p (.tup vs))
  | lst {p : Addr} {vs : List V} {ds : List D} : H p = none → RpL K Z H vs ds → Res K Z H (.ref p) (.fresh (.list ds)) (upd H p (.lst vs))
  | dk {p : Addr} {vs : List (Key × V)} {ds : List (D × D)} : H p = none → RpK K Z H vs ds → Res K Z H (.ref p) (.fresh (.dict ds)) (upd H p (.dK vs))
  | dt {p : Addr} {vs : List (List Key × V)} {ds : List (D × D)} : H p = none → RpM K Z H vs ds → Res K Z H (.ref p) (.fresh (.dict ds)) (upd H p (.dT vs))
section
variable {K : PySem.W.Frag} {θ : Nat → Addr} {Z Z1 : Addr → Prop} {H H1 : Hp} {st : DS} {σ : St} {v : V} {d : D} {r : RV}
theorem Wv.vw (h : Wv K Z H v d) : Vw K H v d := by
  cases h with
  | rp h => exact h.vw
  | cn e c => subst e; exact c.vw
theorem RvOk.wv (h : RvOk K Z H st σ v r) (l : Rl K θ Z H st σ) : Wv K Z H v r.d := by
  cases h with
  | val h => exact .rp h
  | fresh e _ _ c => exact .cn e c
  | bor h1 h2 =>
    obtain ⟨p, e, _, c, _⟩ := l.at_own h1
    rw [h2] at e; cases e
    exact .cn rfl c
theorem kp_new {p : Addr} {o : HO} (hp : H p = none) : Kp Z H Z (upd H p o) :=
  ⟨fun _ h => h, fun a u _ _ h => h.elim (fun h => .inl (by rw [upd_ne (ne_of_none h hp)]; exact h)) fun ⟨w, h⟩ => .inr ⟨w, by rw [upd_ne (ne_of_none h hp)]; exact h⟩,
    fun a xs h => by rw [upd_ne (ne_of_none h hp)]; exact h⟩
theorem not_own_of_none (l : Rl K θ Z H st σ) {p : Addr} (hp : H p = none) : ¬ Own st σ p := fun q => by
  obtain ⟨_, u, e, _⟩ := l.okO p q
  rw [hp] at e; cases e
theorem not_z_of_none (l : Rl K θ Z H st σ) {p : Addr} (hp : H p = none) : ¬ Z p := fun q => l.dom p q hp
/-- behind an operation -/
theorem Res.ends {H' : Hp} (h : Res K Z H v r H') (l : Rl K θ Z H st σ) : Stp (Own st σ) Z H (Own st σ) Z H' ∧ Rl K θ Z H' st σ ∧ RvOk K Z H' st σ v r ∧ RvNew (Own st σ) H v r := by
  cases h with
  | same h => exact ⟨Stp.refl, l, .val h, fun _ _ e => by cases e⟩
  | tup hp hr => exact ⟨Stp.new hp, l.new hp, .val (.tup upd_same (hr.kp (kp_new hp))), fun _ _ e => by cases e⟩
  | lst hp hr => exact ⟨Stp.new hp, l.new hp, .fresh rfl (not_z_of_none l hp) (not_own_of_none l hp) (.lst upd_same (hr.kp (kp_new hp))), fun q _ _ e => by cases e; exact .inr hp⟩
  | dk hp hr => exact ⟨Stp.new hp, l.new hp, .fresh rfl (not_z_of_none l hp) (not_own_of_none l hp) (.dk upd_same (hr.kp (kp_new hp))), fun q _ _ e => by cases e; exact .inr hp⟩
  | dt hp hr => exact ⟨Stp.new hp, l.new hp, .fresh rfl (not_z_of_none l hp) (not_own_of_none l hp) (.dt upd_same (hr.kp (kp_new hp))), fun q _ _ e => by cases e; exact .inr hp⟩
end
/-- operations told by data -/
def rG1 (K : PySem.W.Frag) (g : D → Option RV) : V → Hp → VK → Prop := fun x H Q => ∃ Z d r, Wv K Z H x d ∧ g d = some r ∧ ∀ v H', Res K Z H v r H' → Q v H'
def rG2 (K : PySem.W.Frag) (g : D → D → Option RV) : R2 := fun x y H Q => ∃ Z d e r, Wv K Z H x d ∧ Wv K Z H y e ∧ g d e = some r ∧ ∀ v H', Res K Z H v r H' → Q v H'
def rGc (K : PySem.W.Frag) (g : D → Option RV) : List V → Hp → VK → Prop := fun xs H Q => ∃ x, xs = [x] ∧ rG1 K g x H Q
def rGc2 (K : PySem.W.Frag) (g : D → D → Option RV) : List V → Hp → VK → Prop := fun xs H Q => ∃ x y, xs = [x, y] ∧ rG2 K g x y H Q
theorem opr_imp {X : Cx} {f : Value → Value → Sem Value} {r r' : R2} (h : OpR X f r) (i : ∀ x y H Q, Bd H → r' x y H Q → r x y H Q) : OpR X f r' :=
  fun pins s σ H x y v u Q I rx ry q => h pins s σ H x y v u Q I rx ry (i x y H Q (Inv.bd I) q)
theorem unr_imp {X : Cx} {f : Value → Sem Value} {r r' : V → Hp → VK → Prop} (h : UnR X f r) (i : ∀ x H Q, Bd H → r' x H Q → r x H Q) : UnR X f r' :=
  fun pins s σ H x v Q I rx q => h pins s σ H x v Q I rx (i x H Q (Inv.bd I) q)
theorem callr_imp {X : Cx} {f : Value} {r r' : List V → Hp → VK → Prop} (h : CallR X f r) (i : ∀ x H Q, Bd H → r' x H Q → r x H Q) : CallR X f r' :=
  fun pins s σ H xs us Q I rx q => h pins s σ H xs us Q I rx (i xs H Q (Inv.bd I) q)
section
variable {X : Cx} {pins : List (Addr × Obj)} {σ : St} {H : Hp} {s : Shared}
/-! ### data as the library reads it -/
mutual
theorem Vw.reads (I : Inv X pins σ H s) : ∀ (d : D) (v : V) (u : Value), d.plain = true → Vw X.K H v d → RelV v u → ∃ as, Reads s.heap u d as
  | .none, _, _, _, h, r => by
    cases h
    cases r
    exact ⟨_, Reads.none⟩
  | .bool b, _, _, _, h, r => by
    cases h
    cases r
    exact ⟨_, Reads.bool b⟩
  | .int i, _, _, _, h, r => by
    cases h
    obtain ⟨t, rfl⟩ := r
    exact ⟨_, Reads.int i t⟩
  | .str x, _, _, _, h, r => by
    cases h
    obtain ⟨t, rfl⟩ := r
    exact ⟨_, Reads.str x t⟩
  | .list ds, _, _, hd, h, r => by
    cases h with
    | lst hs ha =>
      cases r
      obtain ⟨its, rv, ⟨o, n, ho, hc, _, hdd⟩, _⟩ := I.list hs.sq
      obtain ⟨as, hr⟩ := VwL.reads I ds _ its (by simpa [PyData.plain] using hd) ha rv
      exact ⟨_, Reads.list ho hc hdd hr⟩
  | .tuple ds, _, _, hd, h, r => by
    cases h with
    | tup hs ha =>
      cases r
      obtain ⟨its, rv, ⟨o, ho, hc, n, hdd⟩, _⟩ := I.tuple (SqT.of hs)
      obtain ⟨as, hr⟩ := VwL.reads I ds _ its (by simpa [PyData.plain] using hd) ha rv
      exact ⟨_, Reads.tuple ho hc hdd hr⟩
  | .dict _, _, _, hd, _, _ => by simp [PyData.plain] at hd
theorem VwL.reads (I : Inv X pins σ H s) : ∀ (ds : List D) (vs : List V) (us : List Value), PyData.plainAll ds = true → VwL X.K H vs ds → Vals vs us → ∃ as, ReadsAll s.heap us ds as
  | [], _, _, _, h, r => by
    cases h
    cases r
    exact ⟨_, ReadsAll.nil⟩
  | d :: ds, _, _, hd, h, r => by
    have hd' : d.plain = true ∧ PyData.plainAll ds = true := by simpa [PyData.plainAll] using hd
    cases h with
    | cons h1 h2 =>
      cases r with
      | cons r1 r2 =>
        obtain ⟨as, q1⟩ := Vw.reads I d _ _ hd'.1 h1 r1
        obtain ⟨bs, q2⟩ := VwL.reads I ds _ _ hd'.2 h2 r2
        exact ⟨_, ReadsAll.cons q1 q2⟩
end
end
section
variable {X : Cx}
theorem vw_int {H : Hp} {v : V} {i : Int} (h : Vw X.K H v (.int i)) : v = .int i := by cases h; rfl
theorem vw_bool {H : Hp} {v : V} {b : Bool} (h : Vw X.K H v (.bool b)) : v = .bl b := by cases h; rfl
theorem vw_str {H : Hp} {v : V} {x : Str} (h : Vw X.K H v (.str x)) : v = .str x := by cases h; rfl
theorem vw_none {H : Hp} {v : V} (h : Vw X.K H v .none) : v = .non := by cases h; rfl
theorem res_int {Z : Addr → Prop} {H : Hp} {i : Int} : Res X.K Z H (.int i) (.val (.int i)) H := .same (.int i)
theorem res_bool {Z : Addr → Prop} {H : Hp} {b : Bool} : Res X.K Z H (.bl b) (.val (.bool b)) H := .same (.bl b)
theorem res_str {Z : Addr → Prop} {H : Hp} {b : Str} : Res X.K Z H (.str b) (.val (.str b)) H := .same (.str b)
theorem res_none {Z : Addr → Prop} {H : Hp} : Res X.K Z H .non (.val .none) H := .same .non

theorem ite_some {α : Type} {c : Prop} [Decidable c] {a : Option α} {r : α} (h : (if c then a else none) = some r) : c ∧ a = some r := by
  by_cases k : c
  · rw [if_pos k] at h; exact ⟨k, h⟩
  · rw [if_neg k] at h; cases h
/-! ### whole numbers -/
theorem g2_int {f : Value → Value → Sem Value} {C : Int → Int → Prop} {k : Int → Int → V} {k' : Int → Int → D} {g : D → D → Option RV} (h : OpR X f (rI C k)) (hk : ∀ (Z : Addr → Prop) (H : Hp) i j, Res X.K Z H (k i j) (.val (k' i j)) H)
    (hg : ∀ d e r, g d e = some r → ∃ i j, d = .int i ∧ e = .int j ∧ C i j ∧ r = .val (k' i j)) : OpR X f (rG2 X.K g) :=
  opr_imp h fun x y H Q _ ⟨Z, d, e, r, hx, hy, hr, q⟩ => by
    obtain ⟨i, j, rfl, rfl, hc, rfl⟩ := hg d e r hr
    exact ⟨i, j, vw_int hx.vw, vw_int hy.vw, hc, q _ _ (hk Z H i j)⟩
theorem rI0_to {f : Value → Value → Sem Value} {k : Int → Int → V} (h : OpR X f (rI0 k)) : OpR X f (rI (fun _ _ => True) k) :=
  opr_imp h fun x y H Q _ ⟨i, j, h1, h2, _, q⟩ => ⟨i, j, h1, h2, q⟩
theorem og_sub : OpR X (binaryOp .Sub) (rG2 X.K gSub) := g2_int (rI0_to op_sub) (fun _ _ _ _ => res_int) fun d e r h => by
  cases d <;> cases e <;> simp [gSub, vI] at h
  exact ⟨_, _, rfl, rfl, trivial, h.symm⟩
theorem smallI_ok {i : Int} (h : smallI i = true) : -(2 ^ 64) < i ∧ i < 2 ^ 64 := by
  unfold smallI at h
  rw [Bool.and_eq_true] at h
  exact ⟨of_decide_eq_true h.1, of_decide_eq_true h.2⟩
theorem cmul_of {i j : Int} (h : (smallI i || smallI j) = true) : CMul i j := by
  rw [Bool.or_eq_true] at h
  rcases h with h | h
  · exact .inl (smallI_ok h)
  · exact .inr (smallI_ok h)
theorem gMul_int {i j : Int} {r : RV} (h : (if (smallI i || smallI j) = true then vI (i * j) else none) = some r) : CMul i j ∧ r = .val (.int (i * j)) := by
  split at h
  · rename_i c
    exact ⟨cmul_of c, (Option.some.inj h).symm⟩
  · cases h
theorem og_mulI : OpR X (binaryOp .Mult) (rG2 X.K gMul) := g2_int op_mul (fun _ _ _ _ => res_int) fun d e r h => by
  cases d <;> cases e <;> (try cases h)
  obtain ⟨h1, h2⟩ := gMul_int h
  exact ⟨_, _, rfl, rfl, h1, h2⟩
theorem og_fdiv : OpR X (binaryOp .FloorDiv) (rG2 X.K gFdiv) := g2_int op_fdiv (fun _ _ _ _ => res_int) fun d e r h => by
  cases d <;> cases e <;> (try cases h)
  obtain ⟨c, e⟩ := ite_some h
  exact ⟨_, _, rfl, rfl, c, (Option.some.inj e).symm⟩
theorem og_mod : OpR X (binaryOp .Mod) (rG2 X.K gMod) := g2_int op_mod (fun _ _ _ _ => res_int) fun d e r h => by
  cases d <;> cases e <;> (try cases h)
  obtain ⟨c, e⟩ := ite_some h
  exact ⟨_, _, rfl, rfl, c, (Option.some.inj e).symm⟩
theorem og_pow : OpR X (binaryOp .Pow) (rG2 X.K gPow) := g2_int op_pow (fun _ _ _ _ => res_int) fun d e r h => by
  cases d <;> cases e <;> (try cases h)
  obtain ⟨c, e⟩ := ite_some h
  exact ⟨_, _, rfl, rfl, c, (Option.some.inj e).symm⟩
theorem og_lt : OpR X (compareOp .Lt) (rG2 X.K gLt) := g2_int (rI0_to op_lt) (fun _ _ _ _ => res_bool) fun d e r h => by
  cases d <;> cases e <;> simp [gLt, vB] at h
  exact ⟨_, _, rfl, rfl, trivial, h.symm⟩
theorem og_le : OpR X (compareOp .LtE) (rG2 X.K gLe) := g2_int (rI0_to op_le) (fun _ _ _ _ => res_bool) fun d e r h => by
  cases d <;> cases e <;> simp [gLe, vB] at h
  exact ⟨_, _, rfl, rfl, trivial, h.symm⟩
theorem og_gt : OpR X (compareOp .Gt) (rG2 X.K gGt) := g2_int (rI0_to op_gt) (fun _ _ _ _ => res_bool) fun d e r h => by
  cases d <;> cases e <;> simp [gGt, vB] at h
  exact ⟨_, _, rfl, rfl, trivial, h.symm⟩
theorem og_ge : OpR X (compareOp .GtE) (rG2 X.K gGe) := g2_int (rI0_to op_ge) (fun _ _ _ _ => res_bool) fun d e r h => by
  cases d <;> cases e <;> simp [gGe, vB] at h
  exact ⟨_, _, rfl, rfl, trivial, h.symm⟩
theorem og_neg : UnR X (unaryOp .USub) (rG1 X.K gNeg) := unr_imp un_neg fun x H Q _ ⟨Z, d, r, hx, hr, q⟩ => by
  cases d <;> (try cases hr)
  exact ⟨_, vw_int hx.vw, q _ _ res_int⟩

/-! ### ==, in -/
theorem og_eq (hu : X.A.units + 64 < cLine) : OpR X (compareOp .Eq) (rG2 X.K gEq) := by
  intro pins s σ H x y v u Q I rx ry h
  obtain ⟨Z, d, e, r, hx, hy, hr, q⟩ := h
  unfold gEq at hr
  split at hr
  · rename_i c
    unfold okEq at c
    simp only [Bool.and_eq_true, decide_eq_true_eq] at c
    obtain ⟨⟨pd, pe⟩, hd⟩ := c
    cases hr
    obtain ⟨as, r1⟩ := Vw.reads I d x v pd hx.vw rx
    obtain ⟨bs, r2⟩ := Vw.reads I e y u pe hy.vw ry
    exact SeqAt.eq_plain r1 r2 pd pe (by omega) ⟨.bl _, H, I, rfl, q _ _ res_bool⟩
  · cases hr
theorem og_ne (hu : X.A.units + 64 < cLine) : OpR X (compareOp .NotEq) (rG2 X.K gNe) := by
  intro pins s σ H x y v u Q I rx ry h
  obtain ⟨Z, d, e, r, hx, hy, hr, q⟩ := h
  unfold gNe at hr
  split at hr
  · rename_i c
    unfold okEq at c
    simp only [Bool.and_eq_true, decide_eq_true_eq] at c
    obtain ⟨⟨pd, pe⟩, hd⟩ := c
    cases hr
    obtain ⟨as, r1⟩ := Vw.reads I d x v pd hx.vw rx
    obtain ⟨bs, r2⟩ := Vw.reads I e y u pe hy.vw ry
    exact SeqAt.ne_plain r1 r2 pd pe (by omega) ⟨.bl _, H, I, rfl, q _ _ res_bool⟩
  · cases hr
theorem og_isN : OpR X (compareOp .Is) (rG2 X.K gIsNo) := opr_imp op_isN fun x y H Q _ ⟨Z, d, e, r, hx, hy, hr, q⟩ => by
  cases e <;> (try cases hr)
  refine ⟨vw_none hy.vw, ?_⟩
  have k := hx.vw
  cases d <;> cases k <;> exact q _ _ res_bool
theorem og_notN : OpR X (compareOp .IsNot) (rG2 X.K gNotNo) := opr_imp op_notN fun x y H Q _ ⟨Z, d, e, r, hx, hy, hr, q⟩ => by
  cases e <;> (try cases hr)
  refine ⟨vw_none hy.vw, ?_⟩
  have k := hx.vw
  cases d <;> cases k <;> exact q _ _ res_bool
theorem og_isB : OpR X (compareOp .Is) (rG2 X.K gIsB) := opr_imp op_isBl fun x y H Q _ ⟨Z, d, e, r, hx, hy, hr, q⟩ => by
  cases d <;> cases e <;> (try cases hr)
  exact ⟨_, _, vw_bool hx.vw, vw_bool hy.vw, q _ _ res_bool⟩
theorem og_notB : OpR X (compareOp .IsNot) (rG2 X.K gNotB) := opr_imp op_notBl fun x y H Q _ ⟨Z, d, e, r, hx, hy, hr, q⟩ => by
  cases d <;> cases e <;> (try cases hr)
  exact ⟨_, _, vw_bool hx.vw, vw_bool hy.vw, q _ _ res_bool⟩
/-! ### sequences joined -/
theorem vw_tup {H : Hp} {v : V} {ds : List D} (h : Vw X.K H v (.tuple ds)) : ∃ a xs, v = .ref a ∧ H a = some (.tup xs) ∧ VwL X.K H xs ds := by
  cases h with
  | tup h r => exact ⟨_, _, rfl, h, r⟩
theorem vw_lst {H : Hp} {v : V} {ds : List D} (h : Vw X.K H v (.list ds)) : ∃ a xs, v = .ref a ∧ SqL X.K H a xs ∧ VwL X.K H xs ds := by
  cases h with
  | lst h r => exact ⟨_, _, rfl, h.sq, r⟩
theorem wv_tup {Z : Addr → Prop} {H : Hp} {v : V} {ds : List D} (h : Wv X.K Z H v (.tuple ds)) : ∃ a xs, v = .ref a ∧ H a = some (.tup xs) ∧ RpL X.K Z H xs ds := by
  cases h with
  | rp h => cases h with
    | tup h r => exact ⟨_, _, rfl, h, r⟩
  | cn _ c => cases c
theorem wv_lst {Z : Addr → Prop} {H : Hp} {v : V} {ds : List D} (h : Wv X.K Z H v (.list ds)) : ∃ a xs, v = .ref a ∧ SqL X.K H a xs ∧ RpL X.K Z H xs ds := by
  cases h with
  | rp h => cases h with
    | lst h r => exact ⟨_, _, rfl, h.sq, r⟩
  | cn e c => cases c with
    | lst h r => exact ⟨_, _, e, .inl (.inl h), r⟩
theorem lim_eq : lim = sizeLine := by rw [sizeLine_eq]; rfl
/-- list + list, read or locked -/
theorem op_catR : OpR X (binaryOp .Add) (fun x y H Q => ∃ l b xs zs, x = .ref l ∧ y = .ref b ∧ SqL X.K H l xs ∧ SqL X.K H b zs ∧ xs.length + zs.length ≤ sizeLine ∧ ∀ p, H p = none → Q (.ref p) (upd H p (.lst (xs ++ zs)))) := by
  intro pins s σ H x y v u Q I rx ry h
  obtain ⟨l, b, xs, zs, rfl, rfl, hl, hb, hz, q⟩ := h
  cases rx
  cases ry
  obtain ⟨its, r1, p1, z1⟩ := I.list hl
  obtain ⟨its2, r2, p2, z2⟩ := I.list hb
  have t1 := p1.isList.typeIs (s := s)
  have t2 := p2.isList.typeIs (s := s)
  obtain ⟨o1, n1, e1, c1, _, d1⟩ := p1
  obtain ⟨o2, n2, e2, c2, _, d2⟩ := p2
  have hsz : its.toArray.size + its2.toArray.size ≤ sizeLine := by rw [List.size_toArray, List.size_toArray, ← r1.length, ← r2.length]; exact hz
  refine PySem.concat_meets t1 t2 noFill_list_add seq_list_add PySem.F.slot_list_add PySem.F.entry_list_add (PySem.F.args_list_add_2 _ _) (PyProof.Rows.list_addW l b its.toArray its2.toArray n1 n2 o1.dict o2.dict o1.slots o2.slots hsz) ⟨by rw [e1]; cases o1; cases c1; cases d1; rfl, by rw [e2]; cases o2; cases c2; cases d2; rfl, ?_⟩
  have ea : its.toArray ++ its2.toArray = (its ++ its2).toArray := by simp
  rw [ea]
  exact ⟨.ref _, _, I.lnew (t' := s.toks) (r1.append r2) (by rw [List.length_append]; omega), rfl, q _ (Inv.fresh I)⟩
theorem og_add : OpR X (binaryOp .Add) (rG2 X.K gAdd) := by
  refine opr_imp (((op_add (X := X)).or op_catA).or ((op_catR (X := X)).or op_add_str)) fun x y H Q bd ⟨Z, d, e, r, hx, hy, hr, q⟩ => ?_
  cases d <;> cases e <;> (try cases hr)
  · exact .inl (.inl ⟨_, _, vw_int hx.vw, vw_int hy.vw, q _ _ res_int⟩)
  · rename_i i j
    simp only [gAdd] at hr
    by_cases c : i.length + j.length ≤ lim
    · rw [if_pos c] at hr
      cases hr
      exact .inr (.inr ⟨_, _, vw_str hx.vw, vw_str hy.vw, by rw [← lim_eq]; exact c, q _ _ res_str⟩)
    · rw [if_neg c] at hr; cases hr
  · rename_i ds es
    simp only [gAdd] at hr
    by_cases c : ds.length + es.length ≤ lim
    · rw [if_pos c] at hr
      cases hr
      obtain ⟨a, xs, rfl, hl, rl⟩ := wv_lst hx
      obtain ⟨b, ys, rfl, hm, rm⟩ := wv_lst hy
      exact .inr (.inl ⟨_, _, _, _, rfl, rfl, hl, hm, by rw [← lim_eq, rl.length, rm.length]; exact c, fun p hp => q _ _ (.lst hp (rl.append rm))⟩)
    · rw [if_neg c] at hr; cases hr
  · rename_i ds es
    simp only [gAdd] at hr
    by_cases c : ds.length + es.length ≤ lim
    · rw [if_pos c] at hr
      cases hr
      obtain ⟨a, xs, rfl, hl, rl⟩ := wv_tup hx
      obtain ⟨b, ys, rfl, hm, rm⟩ := wv_tup hy
      refine .inl (.inr ⟨_, _, _, _, rfl, rfl, SqT.of hl, SqT.of hm, by rw [← lim_eq, rl.length, rm.length]; exact c, fun e => ?_, fun _ e => ?_, fun _ _ p hp => q _ _ (.tup hp (rl.append rm))⟩)
      · subst e
        cases rl
        exact q _ _ (.same (.tup hm rm))
      · subst e
        cases rm
        rw [List.append_nil] at q
        exact q _ _ (.same (.tup hl rl))
    · rw [if_neg c] at hr; cases hr
end
end QL

end
section
/-! QRule1: expressions: constants, names, operations, displays, tests. -/
namespace QL
open PySem PySem.Spec PyProof.Rows L2
section
variable {X : Cx} {E : XK} {θ : Nat → Addr}
theorem new_val {O : Addr → Prop} {H : Hp} {v : V} {d : D} : RvNew O H v (.val d) := fun _ _ e => by cases e
theorem new_bor {O : Addr → Prop} {H : Hp} {v : V} {i : Nat} {d : D} : RvNew O H v (.bor i d) := fun _ _ e => by cases e
/-! ### constants -/
theorem qe_int {i j pos} : QE X E θ (.Constant (.int i) j pos) (eC (.int i)) := QE.mk pe_int fun σ H Z st Q bd l p b' => p _ _ _ b' Stp.refl l (.val (.int i)) new_val
theorem qe_bl {b j pos} : QE X E θ (.Constant (.bool b) j pos) (eC (.bool b)) := QE.mk pe_bl fun σ H Z st Q bd l p b' => p _ _ _ b' Stp.refl l (.val (.bl b)) new_val
theorem qe_non {j pos} : QE X E θ (.Constant .none j pos) (eC .none) := QE.mk pe_non fun σ H Z st Q bd l p b' => p _ _ _ b' Stp.refl l (.val .non) new_val
theorem qe_str {x j pos} : QE X E θ (.Constant (.str x) j pos) (eC (.str x)) := QE.mk pe_str fun σ H Z st Q bd l p b' => p _ _ _ b' Stp.refl l (.val (.str x)) new_val
/-- a module's number -/
theorem qe_glob {x : Str} {i : Int} {pos : Pos} (hg : Gl X x) (hm : ∃ t, X.mg x = some (.int i t)) (hd : (x == ("__debug__" : Str)) = false := by decide) : QE X E θ (.Name x pos) (eC (.int i)) := by
  obtain ⟨t, hm⟩ := hm
  exact QE.mk (pe_glob (v := .int i) hg hm ⟨t, rfl⟩ hd) fun σ H Z st Q bd l p b' => p _ _ _ b' Stp.refl l (.val (.int i)) new_val
/-! ### names -/
theorem po_match {O : Addr → Prop} {H : Hp} {α : Type} {m : R (α × DS)} {C : α → DS → Prop} (h : Po X E O H m C) : (∃ a st, m = .ok (a, st) ∧ C a st) ∨ ∃ c, m = .ex c ∧ ExOk X E O H c := by
  cases m with
  | ok p => exact .inl ⟨p.1, p.2, rfl, h⟩
  | ex c => exact .inr ⟨c, rfl, h⟩
  | bad => exact False.elim h
theorem stp_own_le {O Z O' : Addr → Prop} {H : Hp} (h : ∀ a, O' a → O a) : Stp O Z H O' Z H := (Stp.refl (O := O) (Z := Z) (H := H)).own fun a q => .inl (h a q)
theorem qe_var {i : Nat} {e : Expr} (hp : PE X e (tVar i)) : QE X E θ e (eVar i) := QE.mk hp fun σ H Z st Q bd l p => by
  unfold eVar at p
  split at p
  · rename_i d hd
    obtain ⟨v, e1, r⟩ := l.at_val hd
    exact ⟨v, e1, fun b' => p _ _ _ b' Stp.refl l (.val r) new_val⟩
  · rename_i d hd
    obtain ⟨q, e1, nz, c, _⟩ := l.at_own hd
    have ho : Own st σ q := ⟨i, _, _, hd, e1⟩
    obtain ⟨u, hu, cu⟩ := c.ct
    have hne : H q ≠ none := by rw [hu]; exact fun z => by cases z
    refine ⟨.ref q, e1, fun b' => ?_⟩
    -- the object is given up, then stays
    have l1 : Rl X.K θ Z H (st.set i none) σ := l.setD (fun _ _ z => by cases z) fun _ z => by cases z
    have no : ¬ Own (st.set i none) σ q := fun ⟨j, x, d', h1, h2⟩ => by
      rcases set_get h1 with ⟨_, z, _⟩ | ⟨n, z⟩
      · cases z
      · exact n (l.inj _ _ _ ⟨x, d', z, h2⟩ ⟨_, _, hd, e1⟩)
    have l2 := l1.freeze no hne
    have r2 : Rp X.K (fun a => Z a ∨ a = q) H (.ref q) d := (c.kp (Z' := fun a => Z a ∨ a = q) ⟨fun _ h => .inl h, fun _ _ _ _ h => h, fun _ _ h => h⟩ fun _ _ h => h).rp (.inr rfl)
    have l3 := l2.setD (i := i) (a := some (.val d)) (fun _ _ z => by cases z) (fun d' z => by cases z; exact ⟨_, e1, r2⟩)
    have es : (st.set i none).set i (some (.val d)) = st.set i (some (.val d)) := by rw [List.set_set]
    rw [es] at l3
    refine p _ _ _ b' ?_ l3 (.val r2) new_val
    refine ((Stp.refl (O := Own st σ) (Z := Z) (H := H)).freeze (.inl ho)).own fun a h => .inl (own_set_le (fun _ _ z => by cases z) h)
  · exact False.elim p
theorem qe_bor {i : Nat} {e : Expr} (hp : PE X e (tVar i)) : QE X E θ e (eBor i) := QE.mk hp fun σ H Z st Q bd l p => by
  unfold eBor at p
  split at p
  · rename_i d hd
    obtain ⟨v, e1, r⟩ := l.at_val hd
    exact ⟨v, e1, fun b' => p _ _ _ b' Stp.refl l (.val r) new_val⟩
  · rename_i x d hd
    obtain ⟨q, e1, nz, c, _⟩ := l.at_own hd
    exact ⟨.ref q, e1, fun b' => p _ _ _ b' Stp.refl l (.bor hd e1) new_bor⟩
  · exact False.elim p
theorem qe_mv {i : Nat} {e : Expr} (hp : PE X e (tVar i)) : QE X E θ e (eMove i) := QE.mk hp fun σ H Z st Q bd l p => by
  unfold eMove at p
  split at p
  · rename_i d hd
    obtain ⟨v, e1, r⟩ := l.at_val hd
    exact ⟨v, e1, fun b' => p _ _ _ b' Stp.refl l (.val r) new_val⟩
  · rename_i d hd
    obtain ⟨q, e1, nz, c, _⟩ := l.at_own hd
    have ho : Own st σ q := ⟨i, _, _, hd, e1⟩
    refine ⟨.ref q, e1, fun b' => ?_⟩
    have l1 : Rl X.K θ Z H (st.set i none) σ := l.setD (fun _ _ z => by cases z) fun _ z => by cases z
    have no : ¬ Own (st.set i none) σ q := fun ⟨j, x, d', h1, h2⟩ => by
      rcases set_get h1 with ⟨_, z, _⟩ | ⟨n, z⟩
      · cases z
      · exact n (l.inj _ _ _ ⟨x, d', z, h2⟩ ⟨_, _, hd, e1⟩)
    refine p _ _ _ b' (stp_own_le fun a h => own_set_le (fun _ _ z => by cases z) h) l1 (.fresh rfl nz no c) fun q' _ _ e2 => ?_
    cases e2
    exact .inl ho
  · exact False.elim p
/-! ### operations -/
/-- the rest of an operation with one operand -/
theorem op1_end {O0 Z0 Z1 : Addr → Prop} {H0 H1 : Hp} {st1 : DS} {σ : St} {v : V} {ra : RV} {g : D → Option RV} {Q : VK} (x : Stp O0 Z0 H0 (Own st1 σ) Z1 H1) (l1 : Rl X.K θ Z1 H1 st1 σ) (o : RvOk X.K Z1 H1 st1 σ v ra)
    (p : Po X E O0 H0 (do
      let r ← R.of (g ra.d)
      pure (r, st1)) (CE X.K θ O0 Z0 H0 σ Q)) : rG1 X.K g v H1 fun v H' => Bd H' → Q v H' := by
  refine p.bindR of_ne fun r hr p => ?_
  cases hg : g ra.d with
  | none => rw [hg] at hr; cases hr
  | some r' =>
    rw [hg] at hr; cases hr
    refine ⟨Z1, _, _, o.wv l1, hg, fun w H' res b' => ?_⟩
    obtain ⟨y, l2, o2, n2⟩ := res.ends l1
    exact p _ _ _ b' (x.trans y) l2 o2 (n2.back x)
theorem op2_end {O0 Z0 Z1 Z2 : Addr → Prop} {H0 H1 H2 : Hp} {st1 st2 : DS} {σ : St} {v u : V} {ra rb : RV} {g : D → D → Option RV} {Q : VK} (x : Stp O0 Z0 H0 (Own st1 σ) Z1 H1) (l1 : Rl X.K θ Z1 H1 st1 σ) (o : RvOk X.K Z1 H1 st1 σ v ra)
    (y : Stp (Own st1 σ) Z1 H1 (Own st2 σ) Z2 H2) (l2 : Rl X.K θ Z2 H2 st2 σ) (o2 : RvOk X.K Z2 H2 st2 σ u rb)
    (p : Po X E O0 H0 (guardP (ra.live st2) do
      let r ← R.of (g ra.d rb.d)
      pure (r, st2)) (CE X.K θ O0 Z0 H0 σ Q)) : rG2 X.K g v u H2 fun v H' => Bd H' → Q v H' := by
  obtain ⟨lv, p⟩ := p.guard
  refine p.bindR of_ne fun r hr p => ?_
  cases hg : g ra.d rb.d with
  | none => rw [hg] at hr; cases hr
  | some r' =>
    rw [hg] at hr; cases hr
    refine ⟨Z2, _, _, _, (o.later l1 y lv).wv l2, o2.wv l2, hg, fun w H' res b' => ?_⟩
    obtain ⟨z, l3, o3, n3⟩ := res.ends l2
    exact p _ _ _ b' ((x.trans y).trans z) l3 o3 (n3.back (x.trans y))
theorem qe_op1 {e : Expr} {a : Expr} {g : D → Option RV} {ma : DE} {r : V → Hp → VK → Prop} (he : ∀ ta, PE X a ta → PE X e (tUn (rG1 X.K g) ta)) (ha : QE X E θ a ma) : QE X E θ e (eOp1 g ma) := QE.mk (he _ ha) fun σ H Z st Q bd l p =>
  ⟨Z, st, l, p.bind fun ra st1 _ p v H1 Z1 b1 x l1 o n => op1_end x l1 o p⟩
theorem qe_un {op : UnaryOp} {a : Expr} {g : D → Option RV} {ma : DE} {pos : Pos} (ho : UnR X (unaryOp op) (rG1 X.K g)) (ha : QE X E θ a ma) : QE X E θ (.UnaryOp op a pos) (eOp1 g ma) := qe_op1 (r := rG1 X.K g) (fun _ h => pe_un ho h) ha
theorem qe_op2 {e a b : Expr} {g : D → D → Option RV} {ma mb : DE} (he : ∀ ta tb, PE X a ta → PE X b tb → PE X e (tOp (rG2 X.K g) ta tb)) (ha : QE X E θ a ma) (hb : QE X E θ b mb) : QE X E θ e (eOp2 g ma mb) := QE.mk (he _ _ ha hb) fun σ H Z st Q bd l p =>
  ⟨Z, st, l, p.bind fun ra st1 _ p v H1 Z1 b1 x l1 o n => ⟨Z1, st1, l1, (p.adv x).bind fun rb st2 _ _ u H2 Z2 b2 y l2 o2 n2 => by
    rename_i e2 _
    have p' := p
    unfold eOp2 at p'
    simp only [e2] at p'
    exact op2_end x l1 o y l2 o2 p'⟩⟩
theorem qe_bin {op : Operator} {a b : Expr} {g : D → D → Option RV} {ma mb : DE} {pos : Pos} (ho : OpR X (binaryOp op) (rG2 X.K g)) (ha : QE X E θ a ma) (hb : QE X E θ b mb) : QE X E θ (.BinOp a op b pos) (eOp2 g ma mb) := qe_op2 (fun _ _ h k => pe_op ho h k) ha hb
theorem qe_cmp {op : CmpOp} {a b : Expr} {g : D → D → Option RV} {ma mb : DE} {pos : Pos} (ho : OpR X (compareOp op) (rG2 X.K g)) (ha : QE X E θ a ma) (hb : QE X E θ b mb) (hm : behindInMarks op b = false) : QE X E θ (.Compare a [op] [b] pos) (eOp2 g ma mb) := qe_op2 (fun _ _ h k => pe_cmpR ho h k hm) ha hb
end
end QL

end
section
/-! QRule2: argument lists, displays, tests, and, or, not, chains, isinstance, built-in calls. -/
namespace QL
open PySem PySem.Spec PyProof.Rows L2
section
variable {X : Cx} {E : XK} {θ : Nat → Addr}
/-! ### argument lists -/
theorem qa_nil : QA X E θ [] (eArgs []) := QA.mk pa_nil fun σ H Z st Q bd l p b' => p _ _ _ b' Stp.refl l .nil
theorem qa_cons {e : Expr} {es : List Expr} {m : DE} {ms : List DE} (he : QE X E θ e m) (hs : QA X E θ es (eArgs ms)) (hst : starEach (e :: es) X.env = (false, eval e X.env) :: starEach es X.env := by rfl) : QA X E θ (e :: es) (eArgs (m :: ms)) :=
  QA.mk (pa_cons he hs hst) fun σ H Z st Q bd l p => ⟨Z, st, l, by
    unfold eArgs at p
    exact p.bind fun r st1 _ p v H1 Z1 b1 x l1 o n => p.bindR asVal_ne fun d hd p => by
      obtain ⟨Z1', x', l1', rp, _, _⟩ := o.asVal l1 x n hd
      exact ⟨Z1', st1, l1', (p.adv x').bind fun ds st2 e2 _ vs H2 Z2 b2 y l2 rs b' => by
        rw [e2] at p
        exact p _ _ _ b' (x'.trans y) l2 (.cons (rp.kp (y.kp (K := X.K) l1'.okO)) rs)⟩⟩
theorem eArgs_length : ∀ {ms : List DE} {st : DS} {ds : List D} {st' : DS}, eArgs ms st = .ok (ds, st') → ds.length = ms.length
  | [], _, _, _, h => by cases h; rfl
  | m :: ms, st, ds, st', h => by
    unfold eArgs at h
    cases e1 : m st with
    | ok p =>
      rw [e1] at h
      cases e2 : p.1.asVal with
      | ok d =>
        simp only [R.ok_bind, e2] at h
        cases e3 : eArgs ms p.2 with
        | ok q =>
          simp only [e3, R.ok_bind] at h
          cases h
          simp [eArgs_length e3]
        | ex c => simp only [e3] at h; cases h
        | bad => simp only [e3] at h; cases h
      | ex c => simp only [R.ok_bind, e2] at h; cases h
      | bad => simp only [R.ok_bind, e2] at h; cases h
    | ex c => rw [e1] at h; cases h
    | bad => rw [e1] at h; cases h
theorem small_sz {n : Nat} (h : n ≤ 1000) : n ≤ sizeLine := Nat.le_of_lt (small1000 h)
theorem qe_tup {es : List Expr} {ms : List DE} {k : Nat} {pos : Pos} (h : QA X E θ es (eArgs ms)) (hl : ms.length ≤ 1000 := by decide) : QE X E θ (.Tuple es k pos) (eTup ms) := QE.mk (pe_tup h) fun σ H Z st Q bd l p =>
  ⟨Z, st, l, p.bind fun ds st1 e1 p vs H1 Z1 b1 x l1 rs => ⟨by rw [rs.length, eArgs_length e1]; exact small_sz hl, fun q hq b' => by
    obtain ⟨y, l2, o2, n2⟩ := (Res.tup (K := X.K) (Z := Z1) hq rs).ends l1
    exact p _ _ _ b' (x.trans y) l2 o2 (n2.back x)⟩⟩
theorem qe_lst {es : List Expr} {ms : List DE} {pos : Pos} (h : QA X E θ es (eArgs ms)) (hl : ms.length ≤ 1000 := by decide) : QE X E θ (.List es pos) (eLst ms) := QE.mk (pe_lst h) fun σ H Z st Q bd l p =>
  ⟨Z, st, l, p.bind fun ds st1 e1 p vs H1 Z1 b1 x l1 rs => ⟨by rw [rs.length, eArgs_length e1]; exact small_sz hl, fun q hq b' => by
    obtain ⟨y, l2, o2, n2⟩ := (Res.lst (K := X.K) (Z := Z1) hq rs).ends l1
    exact p _ _ _ b' (x.trans y) l2 o2 (n2.back x)⟩⟩
/-! ### tests -/
theorem tOf_end {O0 Z0 Z1 : Addr → Prop} {H0 H1 : Hp} {st1 : DS} {σ : St} {v : V} {ra : RV} {Q : Bool → Hp → Prop} (x : Stp O0 Z0 H0 (Own st1 σ) Z1 H1) (l1 : Rl X.K θ Z1 H1 st1 σ) (o : RvOk X.K Z1 H1 st1 σ v ra)
    (p : Po X E O0 H0 (match ra.d with
      | .bool b => (pure (b, st1) : R (Bool × DS))
      | _ => .bad) (CT X.K θ O0 Z0 H0 σ Q)) : ∃ k, v = .bl k ∧ (Bd H1 → Q k H1) := by
  have hv := o.vw l1
  split at p
  · rename_i b hb
    rw [hb] at hv
    exact ⟨b, vw_bool hv, fun b' => p _ _ b' x l1⟩
  · exact False.elim p
theorem qt_val {e : Expr} {m : DE} (h : QE X E θ e m) (he : ∀ whole, isTrue e X.env whole = (do let v ← whole; standAt e.pos; holding [v] (truthy v)) := by intro _; rfl) : QT X E θ e (tOf m) := QT.mk (pt_val h he) fun σ H Z st Q bd l p =>
  ⟨Z, st, l, p.bind fun ra st1 _ p v H1 Z1 b1 x l1 o n => tOf_end x l1 o p⟩
theorem bind_assoc {α β γ : Type} (m : R α) (f : α → R β) (g : β → R γ) : ((m >>= f) >>= g) = m >>= fun a => f a >>= g := by
  cases m <;> rfl
theorem guard_bind {α β : Type} {p : Prop} (m : R α) (f : α → R β) : (guardP p m >>= f) = guardP p (m >>= f) := by
  unfold guardP
  by_cases h : p
  · rw [if_pos h, if_pos h]
  · rw [if_neg h, if_neg h]; rfl
theorem qt_op2 {e a b : Expr} {g : D → D → Option RV} {ma mb : DE} (he : ∀ ta tb, PE X a ta → PE X b tb → PT X e (tTest (tOp (rG2 X.K g) ta tb))) (ha : QE X E θ a ma) (hb : QE X E θ b mb) : QT X E θ e (tOf (eOp2 g ma mb)) := QT.mk (he _ _ ha hb) fun σ H Z st Q bd l p => by
  unfold tOf eOp2 at p
  rw [bind_assoc] at p
  refine ⟨Z, st, l, p.bind fun ra st1 _ p v H1 Z1 b1 x l1 o n => ?_⟩
  simp only [bind_assoc, guard_bind] at p
  refine ⟨Z1, st1, l1, (p.adv x).bind fun rb st2 e2 _ u H2 Z2 b2 y l2 o2 n2 => ?_⟩
  simp only [e2, R.ok_bind] at p
  obtain ⟨lv, p⟩ := p.guard
  refine p.bindR of_ne fun r hr p => ?_
  cases hg : g ra.d rb.d with
  | none => rw [hg] at hr; cases hr
  | some r' =>
    rw [hg] at hr; cases hr
    refine ⟨Z2, _, _, _, (o.later l1 y lv).wv l2, o2.wv l2, hg, fun w H' res => ?_⟩
    obtain ⟨z, l3, o3, n3⟩ := res.ends l2
    exact tOf_end ((x.trans y).trans z) l3 o3 p
theorem qt_cmp {op : CmpOp} {a b : Expr} {g : D → D → Option RV} {ma mb : DE} {pos : Pos} (ho : OpR X (compareOp op) (rG2 X.K g)) (ha : QE X E θ a ma) (hb : QE X E θ b mb) (hm : behindInMarks op b = false) : QT X E θ (.Compare a [op] [b] pos) (tOf (eOp2 g ma mb)) := qt_op2 (fun _ _ h k => pt_cmpR ho h k hm) ha hb
theorem qt_not {a : Expr} {m : DT} {pos : Pos} (h : QT X E θ a m) : QT X E θ (.UnaryOp .Not a pos) (tNot m) := QT.mk (pt_not h) fun σ H Z st Q bd l p =>
  ⟨Z, st, l, p.bind fun b st1 _ p H1 Z1 b1 x l1 b' => p _ _ b' x l1⟩
theorem qw_and1 {a : Expr} {m : DT} {pos : Pos} (h : QT X E θ a m) : QW X E θ (.BoolOp .And [a] pos) m := pw_and1 h
theorem qw_or1 {a : Expr} {m : DT} {pos : Pos} (h : QT X E θ a m) : QW X E θ (.BoolOp .Or [a] pos) m := pw_or1 h
theorem qw_and {a b : Expr} {rest : List Expr} {m n : DT} {pos : Pos} (ha : QT X E θ a m) (hb : QW X E θ (.BoolOp .And (b :: rest) pos) n) : QW X E θ (.BoolOp .And (a :: b :: rest) pos) (tAnd m n) := QW.mk (pw_and ha hb) fun σ H Z st Q bd l p =>
  ⟨Z, st, l, p.bind fun b st1 _ p H1 Z1 b1 x l1 => by
    cases b with
    | true =>
      refine iteT ⟨Z1, st1, l1, ?_⟩
      have q := Po.adv (show Po X E (Own st σ) H (n st1) _ from p) x
      rcases po_match q with ⟨c, st2, e2, hc⟩ | ⟨c, e2, hc⟩
      · rw [e2]; exact fun H2 Z2 b2 y l2 b' => hc _ _ b' (x.trans y) l2
      · rw [e2]; exact hc
    | false => exact iteF fun b' => p _ _ b' x l1⟩
theorem qw_or {a b : Expr} {rest : List Expr} {m n : DT} {pos : Pos} (ha : QT X E θ a m) (hb : QW X E θ (.BoolOp .Or (b :: rest) pos) n) : QW X E θ (.BoolOp .Or (a :: b :: rest) pos) (tOr m n) := QW.mk (pw_or ha hb) fun σ H Z st Q bd l p =>
  ⟨Z, st, l, p.bind fun b st1 _ p H1 Z1 b1 x l1 => by
    cases b with
    | false =>
      refine iteF ⟨Z1, st1, l1, ?_⟩
      have q := Po.adv (show Po X E (Own st σ) H (n st1) _ from p) x
      rcases po_match q with ⟨c, st2, e2, hc⟩ | ⟨c, e2, hc⟩
      · rw [e2]; exact fun H2 Z2 b2 y l2 b' => hc _ _ b' (x.trans y) l2
      · rw [e2]; exact hc
    | true => exact iteT fun b' => p _ _ b' x l1⟩
theorem QW.qt {e : Expr} {m : DT} (h : QW X E θ e m) : QT X E θ e m := PW.pt h
/-! ### .. as values -/
theorem qe_one {op} {a : Expr} {m : DE} {pos : Pos} (h : QE X E θ a m) : QE X E θ (.BoolOp op [a] pos) m := pe_one h
theorem val_end {O0 Z0 Z1 : Addr → Prop} {H0 H1 : Hp} {st1 : DS} {σ : St} {v : V} {r : RV} {Q : VK} (hc : CE X.K θ O0 Z0 H0 σ Q r st1) {st : DS} (x : Stp O0 Z0 H0 (Own st σ) Z1 H1) : CE X.K θ (Own st σ) Z1 H1 σ (fun v H' => Bd H' → Q v H') r st1 :=
  fun _ _ _ _ y l2 o2 n2 b' => hc _ _ _ b' (x.trans y) l2 o2 (n2.back x)
theorem po_ce {O0 Z0 Z1 : Addr → Prop} {H0 H1 : Hp} {σ : St} {Q : VK} {m : R (RV × DS)} (p : Po X E O0 H0 m (CE X.K θ O0 Z0 H0 σ Q)) {st : DS} (x : Stp O0 Z0 H0 (Own st σ) Z1 H1) : Po X E (Own st σ) H1 m (CE X.K θ (Own st σ) Z1 H1 σ fun v H' => Bd H' → Q v H') := by
  have q := p.adv x
  rcases po_match q with ⟨c, st2, e2, hc⟩ | ⟨c, e2, hc⟩
  · rw [e2]; exact val_end (v := .non) hc x
  · rw [e2]; exact hc
theorem bool_of {O0 Z0 Z1 : Addr → Prop} {H0 H1 : Hp} {st1 : DS} {σ : St} {v : V} {ra : RV} {Q : VK} {k : Bool × DS → R (RV × DS)} (l1 : Rl X.K θ Z1 H1 st1 σ) (o : RvOk X.K Z1 H1 st1 σ v ra)
    (p : Po X E O0 H0 ((match ra.d with
      | .bool b => (pure (b, st1) : R (Bool × DS))
      | _ => .bad) >>= k) (CE X.K θ O0 Z0 H0 σ Q)) : ∃ b, v = .bl b ∧ Po X E O0 H0 (k (b, st1)) (CE X.K θ O0 Z0 H0 σ Q) := by
  have hv := o.vw l1
  split at p
  · rename_i b hb
    rw [hb] at hv
    exact ⟨b, vw_bool hv, p⟩
  · exact False.elim p
theorem qe_and {a b : Expr} {rest : List Expr} {m n : DE} {pos : Pos} (ha : QE X E θ a m) (hb : QE X E θ (.BoolOp .And (b :: rest) pos) n) : QE X E θ (.BoolOp .And (a :: b :: rest) pos) (eAnd m n) := QE.mk (pe_and ha hb) fun σ H Z st Q bd l p => by
  unfold eAnd tOf at p
  rw [bind_assoc] at p
  refine ⟨Z, st, l, p.bind fun ra st1 _ p v H1 Z1 b1 x l1 o nw => ?_⟩
  obtain ⟨b, rfl, p⟩ := bool_of l1 o p
  refine ⟨b, rfl, ?_⟩
  cases b with
  | true => exact iteT ⟨Z1, st1, l1, po_ce (show Po X E _ _ (n st1) _ from p) x⟩
  | false => exact iteF fun b' => p _ _ _ b' x l1 (.val (.bl false)) new_val
theorem qe_or {a b : Expr} {rest : List Expr} {m n : DE} {pos : Pos} (ha : QE X E θ a m) (hb : QE X E θ (.BoolOp .Or (b :: rest) pos) n) : QE X E θ (.BoolOp .Or (a :: b :: rest) pos) (eOr m n) := QE.mk (pe_or ha hb) fun σ H Z st Q bd l p => by
  unfold eOr tOf at p
  rw [bind_assoc] at p
  refine ⟨Z, st, l, p.bind fun ra st1 _ p v H1 Z1 b1 x l1 o nw => ?_⟩
  obtain ⟨b, rfl, p⟩ := bool_of l1 o p
  refine ⟨b, rfl, ?_⟩
  cases b with
  | false => exact iteF ⟨Z1, st1, l1, po_ce (show Po X E _ _ (n st1) _ from p) x⟩
  | true => exact iteT fun b' => p _ _ _ b' x l1 (.val (.bl true)) new_val
theorem qe_not {a : Expr} {m : DE} {pos : Pos} (ha : QE X E θ a m) : QE X E θ (.UnaryOp .Not a pos) (eNot m) := QE.mk (pe_not ha) fun σ H Z st Q bd l p => by
  unfold eNot tOf at p
  rw [bind_assoc] at p
  refine ⟨Z, st, l, p.bind fun ra st1 _ p v H1 Z1 b1 x l1 o nw => ?_⟩
  obtain ⟨b, rfl, p⟩ := bool_of l1 o p
  exact ⟨b, rfl, fun b' => p _ _ _ b' x l1 (.val (.bl _)) new_val⟩
theorem qe_if {c a b : Expr} {t : DT} {m n : DE} {pos : Pos} (hc : QT X E θ c t) (ha : QE X E θ a m) (hb : QE X E θ b n) : QE X E θ (.IfExp c a b pos) (eIf t m n) := QE.mk (pe_ifExp hc ha hb) fun σ H Z st Q bd l p =>
  ⟨Z, st, l, p.bind fun b st1 _ p H1 Z1 b1 x l1 => by
    cases b with
    | true => exact iteT ⟨Z1, st1, l1, po_ce (show Po X E _ _ (m st1) _ from p) x⟩
    | false => exact iteF ⟨Z1, st1, l1, po_ce (show Po X E _ _ (n st1) _ from p) x⟩⟩
/-! ### a < b < c -/
theorem chain_rd {σ : St} {H : Hp} {Z : Addr → Prop} {st : DS} {Q : VK} {g g' : D → D → Option RV} {ma mb mc : DE} {R1 : TE}
    (l : Rl X.K θ Z H st σ) (p : Po X E (Own st σ) H (eChain g g' ma mb mc st) (CE X.K θ (Own st σ) Z H σ Q)) : tChain (rG2 X.K g) (rG2 X.K g') (rdE X E θ ma) (rdE X E θ mb) (rdE X E θ mc) σ H fun v H' => Bd H' → Q v H' := by
  unfold eChain at p
  refine ⟨Z, st, l, p.bind fun ra st1 _ p v H1 Z1 b1 x l1 o n => ⟨Z1, st1, l1, ?_⟩⟩
  refine (p.adv x).bind fun rb st2 e2 _ u H2 Z2 b2 y l2 o2 n2 => ?_
  simp only [e2, R.ok_bind] at p
  obtain ⟨lv, p⟩ := p.guard
  split at p
  · rename_i hg
    refine ⟨Z2, _, _, _, (o.later l1 y lv).wv l2, o2.wv l2, hg, fun w H' res => ?_⟩
    obtain ⟨z, l3, o3, n3⟩ := res.ends l2
    cases o3 with
    | val h =>
      cases h
      have y' := y.trans z
      refine ⟨true, rfl, iteT ⟨_, st2, l3, ?_⟩⟩
      refine (p.adv (x.trans y')).bind fun rc st3 e3 _ u3 H3 Z3 b3 z3 l4 o4 n4 => ?_
      simp only [e3, R.ok_bind] at p
      have o2' : RvOk X.K Z2 H' st2 σ u rb := o2.later l2 z (by
        cases o2 with
        | val _ => trivial
        | fresh _ _ _ _ => trivial
        | bor h _ => exact ⟨_, h⟩)
      exact op2_end (x.trans y') l3 o2' z3 l4 o4 p
  · rename_i hg
    refine ⟨Z2, _, _, _, (o.later l1 y lv).wv l2, o2.wv l2, hg, fun w H' res => ?_⟩
    obtain ⟨z, l3, o3, n3⟩ := res.ends l2
    cases o3 with
    | val h =>
      cases h
      exact ⟨false, rfl, iteF fun b' => p _ _ _ b' ((x.trans y).trans z) l3 (.val (.bl false)) new_val⟩
  · exact False.elim p
theorem qe_chain {op op' : CmpOp} {a b c : Expr} {g g' : D → D → Option RV} {ma mb mc : DE} {pos : Pos} (ho : OpR X (compareOp op) (rG2 X.K g)) (ho' : OpR X (compareOp op') (rG2 X.K g')) (ha : QE X E θ a ma) (hb : QE X E θ b mb) (hc : QE X E θ c mc)
    (hm : lastMarks [op, op'] [b, c] = false := by with_unfolding_all rfl) : QE X E θ (.Compare a [op, op'] [b, c] pos) (eChain g g' ma mb mc) := QE.mk (pe_chain ho ho' ha hb hc hm) fun σ H Z st Q bd l p => chain_rd (R1 := rdE X E θ ma) l p
theorem chain_rdT {σ : St} {H : Hp} {Z : Addr → Prop} {st : DS} {Q : Bool → Hp → Prop} {g g' : D → D → Option RV} {ma mb mc : DE}
    (l : Rl X.K θ Z H st σ) (p : Po X E (Own st σ) H (tOf (eChain g g' ma mb mc) st) (CT X.K θ (Own st σ) Z H σ Q)) : tChain (rG2 X.K g) (rG2 X.K g') (rdE X E θ ma) (rdE X E θ mb) (rdE X E θ mc) σ H fun v H' => ∃ k, v = .bl k ∧ (Bd H' → Q k H') := by
  unfold tOf eChain at p
  simp only [bind_assoc] at p
  refine ⟨Z, st, l, p.bind fun ra st1 _ p v H1 Z1 b1 x l1 o n => ⟨Z1, st1, l1, ?_⟩⟩
  refine (p.adv x).bind fun rb st2 e2 _ u H2 Z2 b2 y l2 o2 n2 => ?_
  simp only [e2, R.ok_bind, guard_bind] at p
  obtain ⟨lv, p⟩ := p.guard
  cases hg : g ra.d rb.d with
  | none => rw [hg] at p; exact False.elim p
  | some r0 =>
    rw [hg] at p
    refine ⟨Z2, _, _, _, (o.later l1 y lv).wv l2, o2.wv l2, hg, fun w H' res => ?_⟩
    obtain ⟨z, l3, o3, n3⟩ := res.ends l2
    cases r0 with
    | val d0 =>
      cases d0 with
      | bool k0 =>
        cases o3 with
        | val h =>
          cases h
          cases k0 with
          | true =>
            have y' := y.trans z
            refine ⟨true, rfl, iteT ⟨_, st2, l3, ?_⟩⟩
            simp only [bind_assoc] at p
            refine (p.adv (x.trans y')).bind fun rc st3 e3 _ u3 H3 Z3 b3 z3 l4 o4 n4 => ?_
            simp only [e3, R.ok_bind, guard_bind] at p
            have o2' : RvOk X.K Z2 H' st2 σ u rb := o2.later l2 z (by
              cases o2 with
              | val _ => trivial
              | fresh _ _ _ _ => trivial
              | bor h _ => exact ⟨_, h⟩)
            obtain ⟨lv', p⟩ := p.guard
            simp only [bind_assoc] at p
            refine p.bindR of_ne fun r hr p => ?_
            cases hg' : g' rb.d rc.d with
            | none => rw [hg'] at hr; cases hr
            | some r' =>
              rw [hg'] at hr; cases hr
              refine ⟨Z3, _, _, _, (o2'.later l3 z3 lv').wv l4, o4.wv l4, hg', fun w H'' res => ?_⟩
              obtain ⟨z4, l5, o5, n5⟩ := res.ends l4
              exact tOf_end (((x.trans y').trans z3).trans z4) l5 o5 p
          | false => exact ⟨false, rfl, iteF ⟨false, rfl, fun b' => p _ _ b' ((x.trans y).trans z) l3⟩⟩
      | _ => exact False.elim p
    | _ => exact False.elim p
theorem qt_chain {op op' : CmpOp} {a b c : Expr} {g g' : D → D → Option RV} {ma mb mc : DE} {pos : Pos} (ho : OpR X (compareOp op) (rG2 X.K g)) (ho' : OpR X (compareOp op') (rG2 X.K g')) (ha : QE X E θ a ma) (hb : QE X E θ b mb) (hc : QE X E θ c mc)
    (hm : lastMarks [op, op'] [b, c] = false := by with_unfolding_all rfl) : QT X E θ (.Compare a [op, op'] [b, c] pos) (tOf (eChain g g' ma mb mc)) := QT.mk (pt_chain ho ho' ha hb hc hm) fun σ H Z st Q bd l p => chain_rdT l p
end
end QL

end
section
/-! QRule3: dicts read, subscripts, slices, membership, get. -/
namespace QL
open PySem PySem.Spec PyProof.Rows L2
/-! ### what a dict holds -/
theorem eqv_key (j k : Key) : PyData.eqv (keyD j) (keyD k) = decide (j = k) := by
  cases j with
  | inl i => cases k with
    | inl j =>
      show (i == j) = _
      rw [Bool.eq_iff_iff, beq_iff_eq, decide_eq_true_eq]
      exact ⟨fun h => by rw [h], fun h => Sum.inl.inj h⟩
    | inr y => show false = _; exact (decide_eq_false (fun h => by cases h)).symm
  | inr x => cases k with
    | inl j => show false = _; exact (decide_eq_false (fun h => by cases h)).symm
    | inr y =>
      show (x == y) = _
      rw [Bool.eq_iff_iff, beq_iff_eq, decide_eq_true_eq]
      exact ⟨fun h => by rw [h], fun h => Sum.inr.inj h⟩
theorem eqvAll_keys : ∀ js ks : List Key, PyData.eqvAll (js.map keyD) (ks.map keyD) = decide (js = ks)
  | [], [] => by simp [PyData.eqvAll]
  | [], k :: ks => by simp [PyData.eqvAll]
  | j :: js, [] => by simp [PyData.eqvAll]
  | j :: js, k :: ks => by
    rw [List.map_cons, List.map_cons, PyData.eqvAll, eqv_key, eqvAll_keys js ks, Bool.eq_iff_iff, Bool.and_eq_true, decide_eq_true_eq, decide_eq_true_eq, decide_eq_true_eq, List.cons.injEq]
theorem eqv_keyT (j k : List Key) : PyData.eqv (.tuple (j.map keyD)) (.tuple (k.map keyD)) = decide (j = k) := by rw [PyData.eqv, eqvAll_keys]
section
variable {K : PySem.W.Frag} {Z : Addr → Prop} {H : Hp}
theorem RpK.find : ∀ {ks : List (Key × V)} {ds : List (D × D)}, RpK K Z H ks ds → ∀ k, (findD ds (keyD k) = none ∧ valV ks k = none) ∨ ∃ d v, findD ds (keyD k) = some d ∧ valV ks k = some v ∧ Rp K Z H v d
  | _, _, .nil, k => .inl ⟨rfl, rfl⟩
  | _, _, .cons (k := j) (v := v) (d := d) (ks := ks) (ds := ds) r t, k => by
    by_cases e : j = k
    · refine .inr ⟨d, v, ?_, valV_pos e, r⟩
      unfold findD
      rw [eqv_key, decide_eq_true e]
      rfl
    · have h1 : findD ((keyD j, d) :: ds) (keyD k) = findD ds (keyD k) := by
        conv => lhs; unfold findD
        rw [eqv_key, decide_eq_false e]
        rfl
      rw [h1, valV_neg e]
      exact RpK.find t k
theorem RpT.find : ∀ {ks : List (List Key × V)} {ds : List (D × D)}, RpT K Z H ks ds → ∀ k : List Key, (findD ds (.tuple (k.map keyD)) = none ∧ valV ks k = none) ∨ ∃ d v, findD ds (.tuple (k.map keyD)) = some d ∧ valV ks k = some v ∧ Rp K Z H v d
  | _, _, .nil, k => .inl ⟨rfl, rfl⟩
  | _, _, .cons (k := j) (v := v) (d := d) (ks := ks) (ds := ds) r t, k => by
    by_cases e : j = k
    · refine .inr ⟨d, v, ?_, valV_pos e, r⟩
      unfold findD
      rw [eqv_keyT, decide_eq_true e]
      rfl
    · have h1 : findD ((.tuple (j.map keyD), d) :: ds) (.tuple (k.map keyD)) = findD ds (.tuple (k.map keyD)) := by
        conv => lhs; unfold findD
        rw [eqv_keyT, decide_eq_false e]
        rfl
      rw [h1, valV_neg e]
      exact RpT.find t k
theorem RpK.length : ∀ {ks : List (Key × V)} {ds : List (D × D)}, RpK K Z H ks ds → ks.length = ds.length
  | _, _, .nil => rfl
  | _, _, .cons _ t => by simp [RpK.length t]
theorem RpT.length : ∀ {ks : List (List Key × V)} {ds : List (D × D)}, RpT K Z H ks ds → ks.length = ds.length
  | _, _, .nil => rfl
  | _, _, .cons _ t => by simp [RpT.length t]
theorem ints_key : ∀ {ds : List D}, intsOnly ds = true → ∃ ks : List Key, ds = ks.map keyD
  | [], _ => ⟨[], rfl⟩
  | d :: ds, h => by
    unfold intsOnly at h
    rw [List.all_cons, Bool.and_eq_true] at h
    obtain ⟨ks, e⟩ := ints_key (ds := ds) h.2
    cases d with
    | int i => exact ⟨Sum.inl i :: ks, by rw [e]; rfl⟩
    | _ => exact absurd h.1 (by simp)
theorem vals_key : ∀ {ks : List Key} {vs : List V}, RpL K Z H vs (ks.map keyD) → vs = ks.map kV
  | [], _, h => by cases h; rfl
  | .inl i :: ks, _, h => by
    cases h with
    | cons h1 h2 =>
      cases h1
      rw [vals_key h2]; rfl
  | .inr x :: ks, _, h => by
    cases h with
    | cons h1 h2 =>
      cases h1
      rw [vals_key h2]; rfl
theorem RpK.mark : ∀ {ks : List (Key × V)} {ds : List (D × D)}, RpK K Z H ks ds → isMark ds = false
  | _, _, .nil => rfl
  | _, _, .cons (k := .inl _) _ _ => rfl
  | _, _, .cons (k := .inr _) _ _ => rfl
/-- a dict that may be read: its pairs for this key -/
theorem dget_of {v y : V} {d k : D} {kvs : List (D × D)} (hd : Wv K Z H v d) (hk : Wv K Z H y k) (hp : pairsFor d k = some kvs) :
    ∃ a, v = .ref a ∧ IsD H a ∧ ((findD kvs k = none ∧ DGet H a y none) ∨ ∃ e w, findD kvs k = some e ∧ DGet H a y (some w) ∧ Rp K Z H w e) := by
  -- the dict, by its two kinds
  have kinds : (∃ a ks ds, v = .ref a ∧ d = .dict ds ∧ Rd H a (.dK ks) ∧ RpK K Z H ks ds) ∨ ∃ a ks ds, v = .ref a ∧ d = .dict ds ∧ Rd H a (.dT ks) ∧ RpM K Z H ks ds := by
    cases d with
    | dict ds =>
      cases hd with
      | rp h => cases h with
        | dk _ h r => exact .inl ⟨_, _, _, rfl, rfl, h, r⟩
        | dt _ h r => exact .inr ⟨_, _, _, rfl, rfl, h, r⟩
      | cn e c => cases c with
        | dk h r => exact .inl ⟨_, _, _, e, rfl, .inl h, r⟩
        | dt h r => exact .inr ⟨_, _, _, e, rfl, .inl h, r⟩
    | _ => unfold pairsFor at hp; cases hp
  rcases kinds with ⟨a, ks, ds, rfl, rfl, hr, r⟩ | ⟨a, ks, ds, rfl, rfl, hr, r⟩
  · -- whole numbers
    have nm := r.mark
    refine ⟨a, rfl, .inl ⟨ks, hr⟩, ?_⟩
    cases k with
    | int i =>
      have e : kvs = ds := by
        have hp : (if isMark ds = true then none else some ds) = some kvs := hp
        rw [nm, if_neg Bool.false_ne_true] at hp
        exact (Option.some.inj hp).symm
      subst e
      have ey : y = .int i := by
        have h := hk.vw
        cases h; rfl
      subst ey
      rcases r.find (.inl i) with ⟨h1, h2⟩ | ⟨e, w, h1, h2, h3⟩
      · exact .inl ⟨h1, .inl ⟨ks, .inl i, hr, rfl, h2.symm⟩⟩
      · exact .inr ⟨e, w, h1, .inl ⟨ks, .inl i, hr, rfl, h2.symm⟩, h3⟩
    | tuple es =>
      have hp : (if isMark ds = true ∧ intsOnly es = true then some ds.tail else none) = some kvs := hp
      rw [if_neg (by rw [nm]; simp)] at hp
      cases hp
    | _ => cases hp
  · refine ⟨a, rfl, .inr ⟨ks, hr⟩, ?_⟩
    cases r with
    | mk r =>
      rename_i ds
      cases k with
      | tuple es =>
        have hp : (if true = true ∧ intsOnly es = true then some ds else none) = some kvs := hp
        obtain ⟨⟨_, hi⟩, hp⟩ := ite_some hp
        cases hp
        obtain ⟨k', ek⟩ := ints_key hi
        subst ek
        have hb : ∃ b, y = .ref b ∧ H b = some (.tup (k'.map kV)) := by
          cases hk with
          | rp h => cases h with
            | tup h r => rw [vals_key r] at h; exact ⟨_, rfl, h⟩
          | cn _ c => cases c
        obtain ⟨b, rfl, hb⟩ := hb
        rcases r.find k' with ⟨h1, h2⟩ | ⟨e, w, h1, h2, h3⟩
        · exact .inl ⟨h1, .inr ⟨ks, k', b, hr, rfl, hb, h2.symm⟩⟩
        · exact .inr ⟨e, w, h1, .inr ⟨ks, k', b, hr, rfl, hb, h2.symm⟩, h3⟩
      | _ => cases hp
end
end QL

end
section
/-! QRule4: subscripts, membership, get, slices, built-in calls, isinstance. -/
namespace QL
open PySem PySem.Spec PyProof.Rows L2
section
variable {X : Cx} {E : XK} {θ : Nat → Addr}
theorem atD_atI {α : Type} (xs : List α) (i : Int) : atD xs i = atI xs i := rfl
theorem at_len {α β : Type} {xs : List α} {ys : List β} (h : xs.length = ys.length) {i : Int} {v : α} (e : atI xs i = some v) : ∃ j, ixN ys.length i = some j ∧ xs[j]? = some v := by
  unfold atI at e
  rw [h] at e
  cases q : ixN ys.length i with
  | none => rw [q] at e; cases e
  | some j => rw [q] at e; exact ⟨j, rfl, e⟩
theorem RpL.atI {K : PySem.W.Frag} {Z : Addr → Prop} {H : Hp} {vs : List V} {ds : List D} {i : Int} {d : D} (r : RpL K Z H vs ds) (h : atD ds i = some d) : ∃ v, L2.atI vs i = some v ∧ Rp K Z H v d := by
  obtain ⟨j, h1, h2⟩ := at_len (ys := vs) r.length.symm (show L2.atI ds i = some d from h)
  obtain ⟨v, e, rv⟩ := r.get h2
  refine ⟨v, ?_, rv⟩
  unfold L2.atI
  rw [h1]
  exact e
/-- xs[i], t[i], d[k] -/
theorem og_ix (hu : X.A.units + 1 < cLine) : IxR X (rG2 X.K gIx) := by
  intro value slice pins s σ H x y v u Q I rx ry h hs
  obtain ⟨Z, d, e, r, hx, hy, hr, q⟩ := h
  have dict : ∀ kvs, pairsFor d e = some kvs → (findD kvs e).map RV.val = some r → wpAny (model X.prog X.w) X.A (subscriptTail value slice v u) (EP X pins σ Q) X.xe s := fun kvs hp hr => by
    obtain ⟨a, rfl, _, z⟩ := dget_of hx hy hp
    rcases z with ⟨h1, _⟩ | ⟨e', w, h1, h2, h3⟩
    · rw [h1] at hr; cases hr
    · rw [h1] at hr; cases hr
      obtain rfl : v = Value.ref a := rx
      exact tail_any (dict_typeIs I h2) PySem.F.slot_dict_getitem.lookup (d_getItem hu I h2 ry fun w' s3 I3 rw' => ⟨w, H, I3, rw', q _ _ (.same h3)⟩) hs
  unfold gIx at hr
  split at hr
  · rename_i xs i
    obtain ⟨a, vs, rfl, hl, rl⟩ := wv_lst hx
    cases ha : atD xs i with
    | none => rw [ha] at hr; cases hr
    | some d0 =>
      rw [ha] at hr; cases hr
      obtain ⟨w, e1, r1⟩ := rl.atI ha
      exact ix_list value slice pins s σ H _ _ v u Q I rx ry ⟨_, _, _, _, rfl, vw_int hy.vw, hl, e1, q _ _ (.same r1)⟩ hs
  · rename_i xs i
    obtain ⟨a, vs, rfl, hl, rl⟩ := wv_tup hx
    cases ha : atD xs i with
    | none => rw [ha] at hr; cases hr
    | some d0 =>
      rw [ha] at hr; cases hr
      obtain ⟨w, e1, r1⟩ := rl.atI ha
      exact ix_tup value slice pins s σ H _ _ v u Q I rx ry ⟨_, _, _, _, rfl, vw_int hy.vw, SqT.of hl, e1, q _ _ (.same r1)⟩ hs
  · cases hp : pairsFor d e with
    | none => rw [hp] at hr; cases hr
    | some kvs => rw [hp] at hr; exact dict kvs hp hr
theorem qe_ix {a b : Expr} {ma mb : DE} {pos : Pos} (hu : X.A.units + 1 < cLine) (ha : QE X E θ a ma) (hb : QE X E θ b mb) (hs : PlainIx b) : QE X E θ (.Subscript a b pos) (eOp2 gIx ma mb) := qe_op2 (fun _ _ h k => pe_ix (og_ix hu) h k hs) ha hb
/-! ### in -/
theorem og_in (hu : X.A.units + 64 < cLine) : OpR X (compareOp .In) (rG2 X.K gIn) := by
  intro pins s σ H x y v u Q I rx ry h
  obtain ⟨Z, d, e, r, hx, hy, hr, q⟩ := h
  unfold gIn at hr
  split at hr
  · rename_i xs
    obtain ⟨c, hr⟩ := ite_some hr
    simp only [Bool.and_eq_true, decide_eq_true_eq] at c
    obtain ⟨⟨pd, px⟩, hd⟩ := c
    cases hr
    obtain ⟨as, r1⟩ := Vw.reads I d x v pd hx.vw rx
    obtain ⟨bs, r2⟩ := Vw.reads I (.list xs) y u (by simpa [PyData.plain] using px) hy.vw ry
    exact SeqAt.in_list_data r2 r1 px pd (by omega) ⟨.bl _, H, I, rfl, q _ _ res_bool⟩
  · rename_i xs
    obtain ⟨c, hr⟩ := ite_some hr
    simp only [Bool.and_eq_true, decide_eq_true_eq] at c
    obtain ⟨⟨pd, px⟩, hd⟩ := c
    cases hr
    obtain ⟨as, r1⟩ := Vw.reads I d x v pd hx.vw rx
    obtain ⟨bs, r2⟩ := Vw.reads I (.tuple xs) y u (by simpa [PyData.plain] using px) hy.vw ry
    exact SeqAt.in_tuple_data r2 r1 px pd (by omega) ⟨.bl _, H, I, rfl, q _ _ res_bool⟩
  · cases hp : pairsFor e d with
    | none => rw [hp] at hr; cases hr
    | some kvs =>
      rw [hp] at hr; cases hr
      obtain ⟨a, rfl, _, z⟩ := dget_of hy hx hp
      obtain rfl : u = Value.ref a := ry
      rcases z with ⟨h1, h2⟩ | ⟨e', w, h1, h2, h3⟩
      · rw [h1] at q
        exact d_in (by omega) I h2 rx fun s' I' => ⟨.bl false, H, I', rfl, q _ _ res_bool⟩
      · rw [h1] at q
        exact d_in (by omega) I h2 rx fun s' I' => ⟨.bl true, H, I', rfl, q _ _ res_bool⟩
theorem og_notIn (hu : X.A.units + 64 < cLine) : OpR X (compareOp .NotIn) (rG2 X.K gNotIn) := by
  intro pins s σ H x y v u Q I rx ry h
  obtain ⟨Z, d, e, r, hx, hy, hr, q⟩ := h
  unfold gNotIn gIn at hr
  split at hr
  · rename_i xs
    by_cases c : (d.plain && PyData.plainAll xs && decide (min (PyData.depthAll xs) d.depth ≤ 60)) = true
    · rw [if_pos c] at hr
      simp only [Bool.and_eq_true, decide_eq_true_eq] at c
      obtain ⟨⟨pd, px⟩, hd⟩ := c
      cases hr
      obtain ⟨as, r1⟩ := Vw.reads I d x v pd hx.vw rx
      obtain ⟨bs, r2⟩ := Vw.reads I (.list xs) y u (by simpa [PyData.plain] using px) hy.vw ry
      exact SeqAt.notIn_list_data r2 r1 px pd (by omega) ⟨.bl _, H, I, rfl, q _ _ res_bool⟩
    · rw [if_neg c] at hr; cases hr
  · rename_i xs
    by_cases c : (d.plain && PyData.plainAll xs && decide (min (PyData.depthAll xs) d.depth ≤ 60)) = true
    · rw [if_pos c] at hr
      simp only [Bool.and_eq_true, decide_eq_true_eq] at c
      obtain ⟨⟨pd, px⟩, hd⟩ := c
      cases hr
      obtain ⟨as, r1⟩ := Vw.reads I d x v pd hx.vw rx
      obtain ⟨bs, r2⟩ := Vw.reads I (.tuple xs) y u (by simpa [PyData.plain] using px) hy.vw ry
      exact SeqAt.notIn_tuple_data r2 r1 px pd (by omega) ⟨.bl _, H, I, rfl, q _ _ res_bool⟩
    · rw [if_neg c] at hr; cases hr
  · cases hp : pairsFor e d with
    | none => rw [hp] at hr; cases hr
    | some kvs =>
      rw [hp] at hr; cases hr
      obtain ⟨a, rfl, _, z⟩ := dget_of hy hx hp
      obtain rfl : u = Value.ref a := ry
      rcases z with ⟨h1, h2⟩ | ⟨e', w, h1, h2, h3⟩
      · rw [h1] at q
        exact d_notIn (by omega) I h2 rx fun s' I' => ⟨.bl true, H, I', rfl, q _ _ res_bool⟩
      · rw [h1] at q
        exact d_notIn (by omega) I h2 rx fun s' I' => ⟨.bl false, H, I', rfl, q _ _ res_bool⟩
/-! ### d.get(k, x) -/
theorem dict_at {Z : Addr → Prop} {H : Hp} {v : V} {d : D} (hw : Wv X.K Z H v d) (hd : isDictB d = true) : ∃ a, v = .ref a ∧ IsD H a := by
  cases d with
  | dict kvs =>
    cases hw with
    | rp h => cases h with
      | dk _ h r => exact ⟨_, rfl, .inl ⟨_, h⟩⟩
      | dt _ h r => exact ⟨_, rfl, .inr ⟨_, h⟩⟩
    | cn e c => cases c with
      | dk h r => exact ⟨_, e, .inl ⟨_, .inl h⟩⟩
      | dt h r => exact ⟨_, e, .inr ⟨_, .inl h⟩⟩
  | _ => cases hd
theorem qe_get {o e f : Expr} {ma mb mc : DE} {apos cpos : Pos} (hu : X.A.units + 1 < cLine) (ha : QE X E θ o ma) (hb : QE X E θ e mb) (hc : QE X E θ f mc) (m : M2 X o "get" apos e f cpos) : QE X E θ (.Call (.Attribute o "get" apos) [e, f] [] cpos) (eGet ma mb mc) :=
  QE.mk (pe_dget2 hu ha hb hc m) fun σ H Z st Q bd l p => by
    unfold eGet at p
    refine ⟨Z, st, l, p.bind fun ra st1 _ p v H1 Z1 b1 x l1 o n => ?_⟩
    obtain ⟨hd, p⟩ := p.guard
    obtain ⟨a, rfl, ha⟩ := dict_at (o.wv l1) hd
    refine ⟨a, rfl, ha, Z1, st1, l1, (p.adv x).bind fun rb st2 e2 _ u H2 Z2 b2 y l2 o2 n2 => ?_⟩
    simp only [e2, R.ok_bind] at p
    refine ⟨Z2, st2, l2, (p.adv (x.trans y)).bind fun rc st3 e3 _ w H3 Z3 b3 z l3 o3 n3 => ?_⟩
    simp only [e3, R.ok_bind] at p
    obtain ⟨⟨lv1, lv2⟩, p⟩ := p.guard
    refine p.bindR asVal_ne fun d hd p => p.bindR of_ne fun kvs hk p => ?_
    have xyz := (x.trans y).trans z
    obtain ⟨Z4, x4, l4, rp, k4, _⟩ := o3.asVal l3 xyz (n3.back (x.trans y)) hd
    cases hp : pairsFor ra.d rb.d with
    | none => rw [hp] at hk; cases hk
    | some kvs' =>
      rw [hp] at hk; cases hk
      have oa := (o.later l1 (y.trans z) lv1).wv l3
      have ob := (o2.later l2 z lv2).wv l3
      obtain ⟨a', ea, _, q⟩ := dget_of oa ob hp
      cases ea
      rcases q with ⟨h1, h2⟩ | ⟨e', w', h1, h2, h3⟩
      · rw [h1] at p
        exact ⟨none, h2, fun b' => p _ _ _ b' x4 l4 (.val rp) new_val⟩
      · rw [h1] at p
        exact ⟨some w', h2, fun b' => p _ _ _ b' x4 l4 (.val (h3.kp k4)) new_val⟩
/-! ### slices -/
def rdO (X : Cx) (E : XK) (θ : Nat → Addr) (m : DS → R (Option Int × DS)) : TO := fun σ H Q => ∃ Z st, Rl X.K θ Z H st σ ∧ Po X E (Own st σ) H (m st) fun o st' => ∀ H' Z', Bd H' → Stp (Own st σ) Z H (Own st' σ) Z' H' → Rl X.K θ Z' H' st' σ → Q o H'
def QP (X : Cx) (E : XK) (θ : Nat → Addr) (e : Option Expr) (m : DS → R (Option Int × DS)) : Prop := PO X e (rdO X E θ m)
theorem qp_none : QP X E θ none pNone := ⟨fun pins s σ H Q I ⟨Z, st, l, p⟩ => thn (po_none.run pins s σ H (fun o H' => o = none ∧ H' = H) I ⟨rfl, rfl⟩) fun u s' ⟨o, H', I', pr, e1, e2⟩ => by
  subst e1 e2
  exact ⟨none, _, I', pr, p _ _ (Inv.bd I') Stp.refl l⟩⟩
theorem qp_some {e : Expr} {m : DE} (h : QE X E θ e m) : QP X E θ (some e) (pPart m) := ⟨fun pins s σ H Q I ⟨Z, st, l, p⟩ => by
  refine thn ((po_some h).run pins s σ H (fun o H' => Bd H' → Q o H') I ?_) fun u s' ⟨o, H', I', pr, q⟩ => ⟨o, H', I', pr, q (Inv.bd I')⟩
  unfold pPart at p
  refine ⟨Z, st, l, p.bind fun ra st1 _ p v H1 Z1 b1 x l1 o n => ?_⟩
  have hv := o.vw l1
  change Po X E (Own st σ) H (match ra.d with
    | .int i => pure (some i, st1)
    | _ => R.bad) _ at p
  split at p
  · rename_i i hi
    rw [hi] at hv
    exact ⟨i, vw_int hv, fun b' => p _ _ b' x l1⟩
  · exact False.elim p⟩
theorem sliceIx_eq (n d : Nat) (o : Option Int) : sliceIx n d o = HT.sIx n d o := by cases o <;> rfl
def rGs (K : PySem.W.Frag) : V → Option Int → Option Int → Hp → VK → Prop := fun x lo hi H Q => ∃ Z d r, Wv K Z H x d ∧ gSl d lo hi = some r ∧ ∀ v H', Res K Z H v r H' → Q v H'
theorem sl_data : SlR X (rGs X.K) := by
  intro pins s σ H x v vl vu lo hi sl Q I rx hs pl pu h
  obtain ⟨Z, d, r, hx, hr, q⟩ := h
  cases d with
  | list ds =>
    cases hr
    obtain ⟨a, xs, rfl, hl, rl⟩ := wv_lst hx
    refine sl_list pins s σ H _ v vl vu lo hi sl Q I rx hs pl pu ⟨a, xs, rfl, hl, fun p hp => q _ _ ?_⟩
    have r' := (rl.drop (HT.sIx xs.length 0 lo)).take (HT.sIx xs.length xs.length hi - HT.sIx xs.length 0 lo)
    have e : cutD ds (sliceIx ds.length 0 lo) (sliceIx ds.length ds.length hi) = (ds.drop (HT.sIx xs.length 0 lo)).take (HT.sIx xs.length xs.length hi - HT.sIx xs.length 0 lo) := by
      rw [sliceIx_eq, sliceIx_eq, rl.length]; rfl
    rw [e]
    exact .lst hp r'
  | tuple ds =>
    cases hr
    obtain ⟨a, xs, rfl, hl, rl⟩ := wv_tup hx
    have r' := (rl.drop (HT.sIx xs.length 0 lo)).take (HT.sIx xs.length xs.length hi - HT.sIx xs.length 0 lo)
    have e : cutD ds (sliceIx ds.length 0 lo) (sliceIx ds.length ds.length hi) = (ds.drop (HT.sIx xs.length 0 lo)).take (HT.sIx xs.length xs.length hi - HT.sIx xs.length 0 lo) := by
      rw [sliceIx_eq, sliceIx_eq, rl.length]; rfl
    rw [e] at q
    refine sl_tupA pins s σ H _ v vl vu lo hi sl Q I rx hs pl pu ⟨a, xs, rfl, SqT.of hl, fun c => ?_, fun c p hp => q _ _ (.tup hp r')⟩
    rw [c.1, c.2, List.drop_zero, Nat.sub_zero, rl.length, List.take_length] at q
    exact q _ _ (.same (.tup hl rl))
  | _ => cases hr
theorem qe_sl {a : Expr} {lo hi : Option Expr} {ma : DE} {ml mh : DS → R (Option Int × DS)} {p2 pos : Pos} (ha : QE X E θ a ma) (hl : QP X E θ lo ml) (hh : QP X E θ hi mh) : QE X E θ (.Subscript a (.Slice lo hi none p2) pos) (eSl ma ml mh) :=
  QE.mk (pe_slice sl_data ha hl hh) fun σ H Z st Q bd l p => by
    unfold eSl at p
    refine ⟨Z, st, l, p.bind fun ra st1 _ p v H1 Z1 b1 x l1 o n => ⟨Z1, st1, l1, (p.adv x).bind fun lo' st2 e2 _ H2 Z2 b2 y l2 => ?_⟩⟩
    simp only [e2, R.ok_bind] at p
    refine ⟨Z2, st2, l2, (p.adv (x.trans y)).bind fun hi' st3 e3 _ H3 Z3 b3 z l3 => ?_⟩
    simp only [e3, R.ok_bind] at p
    obtain ⟨lv, p⟩ := p.guard
    refine p.bindR of_ne fun r hr p => ?_
    cases hg : gSl ra.d lo' hi' with
    | none => rw [hg] at hr; cases hr
    | some r' =>
      rw [hg] at hr; cases hr
      refine ⟨Z3, _, _, (o.later l1 (y.trans z) lv).wv l3, hg, fun w H' res b' => ?_⟩
      obtain ⟨z4, l4, o4, n4⟩ := res.ends l3
      exact p _ _ _ b' (((x.trans y).trans z).trans z4) l4 o4 (n4.back ((x.trans y).trans z))
/-! ### built-in calls -/
theorem qe_callB {x : Str} {id : String} {g : D → Option RV} {a : Expr} {ma : DE} {p pos : Pos} (hc : CallR X (.builtin id) (rGc X.K g)) (hg : Gl X x) (hm : X.mg x = none) (hv : bootBuiltins x = some (.builtin id)) (ha : QE X E θ a ma) (hn : x ≠ "__name__" := by decide) (hdb : (x == ("__debug__" : Str)) = false := by decide)
    (hst : starEach [a] X.env = (false, eval a X.env) :: starEach [] X.env := by rfl) (hpl : (backTo pos (starEach [] X.env)).any (·.1) = false := by rfl) : QE X E θ (.Call (.Name x p) [a] [] pos) (eOp1 g ma) :=
  QE.mk (pe_callB hc hg hm hv (pa_cons ha pa_nil hst) hn hdb hst hpl) fun σ H Z st Q bd l p => ⟨Z, st, l, p.bind fun ra st1 _ p v H1 Z1 b1 x l1 o n => ⟨v, rfl, op1_end x l1 o p⟩⟩
theorem qe_callTy {x : Str} {id : String} {g : D → Option RV} {a : Expr} {ma : DE} {p pos : Pos} (hc : CallR X (.type id) (rGc X.K g)) (hg : Gl X x) (hm : X.mg x = none) (hv : bootBuiltins x = some (.type id)) (ha : QE X E θ a ma) (hn : x ≠ "__name__" := by decide) (hdb : (x == ("__debug__" : Str)) = false := by decide)
    (hst : starEach [a] X.env = (false, eval a X.env) :: starEach [] X.env := by rfl) (hpl : (backTo pos (starEach [] X.env)).any (·.1) = false := by rfl) : QE X E θ (.Call (.Name x p) [a] [] pos) (eOp1 g ma) :=
  QE.mk (pe_callTy hc hg hm hv (pa_cons ha pa_nil hst) hn hdb hst hpl) fun σ H Z st Q bd l p => ⟨Z, st, l, p.bind fun ra st1 _ p v H1 Z1 b1 x l1 o n => ⟨v, rfl, op1_end x l1 o p⟩⟩
theorem qe_callB2 {x : Str} {id : String} {g : D → D → Option RV} {a b : Expr} {ma mb : DE} {p pos : Pos} (hc : CallR X (.builtin id) (rGc2 X.K g)) (hg : Gl X x) (hm : X.mg x = none) (hv : bootBuiltins x = some (.builtin id)) (ha : QE X E θ a ma) (hb : QE X E θ b mb) (hn : x ≠ "__name__" := by decide) (hdb : (x == ("__debug__" : Str)) = false := by decide)
    (hst : starEach [a, b] X.env = (false, eval a X.env) :: starEach [b] X.env := by rfl) (hst2 : starEach [b] X.env = (false, eval b X.env) :: starEach [] X.env := by rfl) (hpl : (backTo pos (starEach [b] X.env)).any (·.1) = false := by rfl) : QE X E θ (.Call (.Name x p) [a, b] [] pos) (eOp2 g ma mb) :=
  QE.mk (pe_callB hc hg hm hv (pa_cons ha (pa_cons hb pa_nil hst2) hst) hn hdb hst hpl) fun σ H Z st Q bd l p => ⟨Z, st, l, p.bind fun ra st1 _ p v H1 Z1 b1 x l1 o n => ⟨Z1, st1, l1, (p.adv x).bind fun rb st2 e2 _ u H2 Z2 b2 y l2 o2 n2 => ⟨v, u, rfl, by
    have p' := p
    simp only [e2, R.ok_bind] at p'
    exact op2_end x l1 o y l2 o2 p'⟩⟩⟩
theorem wv_dict {Z : Addr → Prop} {H : Hp} {v : V} {ds : List (D × D)} (h : Wv X.K Z H v (.dict ds)) : (∃ a ks, v = .ref a ∧ Rd H a (.dK ks) ∧ RpK X.K Z H ks ds) ∨ ∃ a ks, v = .ref a ∧ Rd H a (.dT ks) ∧ RpM X.K Z H ks ds := by
  cases h with
  | rp h => cases h with
    | dk _ h r => exact .inl ⟨_, _, rfl, h, r⟩
    | dt _ h r => exact .inr ⟨_, _, rfl, h, r⟩
  | cn e c => cases c with
    | dk h r => exact .inl ⟨_, _, e, .inl h, r⟩
    | dt h r => exact .inr ⟨_, _, e, .inl h, r⟩
theorem cg_len : CallR X (.builtin "len") (rGc X.K gLen) := by
  intro pins s σ H xs us Q I r h
  obtain ⟨x, rfl, Z, d, rv, hx, hr, q⟩ := h
  cases d with
  | list ds =>
    cases hr
    obtain ⟨a, vs, rfl, hl, rl⟩ := wv_lst hx
    exact call_len pins s σ H _ us Q I r ⟨_, _, rfl, .inl ⟨vs, hl, rfl⟩, by rw [rl.length]; exact q _ _ res_int⟩
  | tuple ds =>
    cases hr
    obtain ⟨a, vs, rfl, hl, rl⟩ := wv_tup hx
    exact call_len pins s σ H _ us Q I r ⟨_, _, rfl, .inr ⟨vs, SqT.of hl, rfl⟩, by rw [rl.length]; exact q _ _ res_int⟩
  | dict ds =>
    cases hr
    obtain ⟨u, rfl, rx⟩ := vals1 r
    rcases wv_dict hx with ⟨a, ks, rfl, hl, rl⟩ | ⟨a, ks, rfl, hl, rl⟩
    · obtain rfl : u = Value.ref a := rx
      rw [rl.mark, if_neg Bool.false_ne_true, ← rl.length] at q
      exact d_len I hl fun t s' I' => ⟨.int _, H, I', ⟨_, rfl⟩, q _ _ res_int⟩
    · obtain rfl : u = Value.ref a := rx
      cases rl with
      | mk rl =>
        have q' : ∀ v H', Res X.K Z H v (.val (.int ks.length)) H' → Q v H' := by
          rw [rl.length]; exact q
        obtain ⟨z, hd, ys, rel, dd⟩ := dt_rd I.hok hl
        have hlen : ks.length = ys.length := Paired.length rel
        have hs : sizeLine = 16777216 := sizeLine_eq
        exact call_len_dictH hd dd (by omega) ⟨.int _, H, I.tok _, ⟨_, by rw [hlen]⟩, q' _ _ res_int⟩
  | _ => cases hr
end
end QL

end
section
/-! QRule5: defs and their calls. -/
namespace QL
open PySem PySem.Spec PyProof.Rows L2
/-! ### what a def promises -/
/-- the arguments as they lie: o: the first one is an object that the callee may change -/
inductive InOk (K : PySem.W.Frag) (Z : Addr → Prop) (H : Hp) : Option (Addr × D) → List V → List D → Prop
  | val {vs : List V} {ds : List D} : RpL K Z H vs ds → InOk K Z H none vs ds
  | own {p : Addr} {c : D} {vs : List V} {ds : List D} : ¬ Z p → Cn K Z H p c → RpL K Z H vs ds → InOk K Z H (some (p, c)) (.ref p :: vs) ds
def Op (o : Option (Addr × D)) (a : Addr) : Prop := ∃ c, o = some (a, c)
/-- the object behind the call -/
def OutOk (K : PySem.W.Frag) (Z : Addr → Prop) (H : Hp) : Option (Addr × D) → Option D → Prop
  | none, _ => True
  | some (p, _), some e => Cn K Z H p e ∧ ¬ Z p
  | some _, none => False
/-- what comes back -/
inductive RetOk (K : PySem.W.Frag) (Z : Addr → Prop) (H : Hp) (H0 : Hp) (v : V) : RV → Prop
  | val {d : D} : Rp K Z H v d → RetOk K Z H H0 v (.val d)
  | fresh {p : Addr} {d : D} : v = .ref p → ¬ Z p → H0 p = none → Cn K Z H p d → RetOk K Z H H0 v (.fresh d)
def noOwn : Addr → Prop := fun _ => False
def CF (K : PySem.W.Frag) (mg : Str → Option Value) (Z : Addr → Prop) (H : Hp) (o : Option (Addr × D)) (Q : VK) (E : XK) : R (RV × Option D) → Prop
  | .ok (r, c) => ∀ v H' Z', Bd H' → Stp (Op o) Z H (Op o) Z' H' → (∀ a, Z' a → H' a ≠ none) → OutOk K Z' H' o c → RetOk K Z' H' H v r → Q v H'
  | .ex c => o = none ∧ ∃ a, mg c = some (.ref a) ∧ ∀ H', Sx noOwn H H' → E (.ref a) none H'
  | .bad => False
/-- the promise of a def that computes f -/
def spQ (K : PySem.W.Frag) (mg : Str → Option Value) (n : Nat) (f : DF) : Sp := fun vs H Q E => vs.length = n ∧ ∃ Z o ds, (∀ a, Z a → H a ≠ none) ∧ InOk K Z H o vs ds ∧ CF K mg Z H o Q E (f (o.map (·.2)) ds)
/-- the def at g computes f -/
def FnQ (P : Program) (w : World) (K : PySem.W.Frag) (mg : Str → Option Value) (base : Heap) (k : Nat) (g : Addr) (fd : FuncData) (ps : List Str) (f : DF) : Prop := FnOk P w K mg base (L2.CX P w) k g fd ps (spQ K mg ps.length f)
/-- .. as a call finds it: by its name x, m arguments given, the others by default -/
structure CallQ (P : Program) (w : World) (K : PySem.W.Frag) (mg : Str → Option Value) (base : Heap) (x : Str) (k m : Nat) (dfl : List D) (f : DF) : Prop where
  ex : ∃ (g : Addr) (fd : FuncData) (ps : List Str) (dvs : List V) (dus : List Value), FnQ P w K mg base k g fd ps f ∧ mg x = some (.ref g) ∧ PySem.W.keepIn K (.ref g) = true ∧ Binds K fd ps dus ∧ Vals dvs dus ∧ ps.length = m + dfl.length ∧ ∀ (Z : Addr → Prop) (H : Hp), RpL K Z H dvs dfl
section
variable {X : Cx} {E : XK} {θ : Nat → Addr}
/-- an exception of a callee is wished for as this def's own -/
abbrev Px (X : Cx) (E : XK) : Prop := Passes (L2.CX X.prog X.w) X E
theorem op_none {a : Addr} : ¬ Op none a := fun ⟨_, h⟩ => by cases h
theorem call_ends {st1 : DS} {σ : St} {Z1 : Addr → Prop} {H1 : Hp} (l1 : Rl X.K θ Z1 H1 st1 σ) {Q : VK} {O0 Z0 : Addr → Prop} {H0 : Hp} (x : Stp O0 Z0 H0 (Own st1 σ) Z1 H1) {m : R (RV × Option D)}
    (p : Po X E O0 H0 (m >>= fun (q : RV × Option D) => pure (q.1, st1)) (CE X.K θ O0 Z0 H0 σ Q)) : CF X.K X.mg Z1 H1 none (fun v H' => Bd H' → Q v H') E m := by
  cases m with
  | ok q =>
    intro v H' Z' b' y dm _ r b''
    have y' : Stp (Own st1 σ) Z1 H1 (Own st1 σ) Z' H' := ⟨fun a o ht h _ => y.keep a o ht h op_none, y.zz, fun a h _ z => y.zo a h op_none z, fun _ h => .inl h, y.ow, y.tb⟩
    have l2 : Rl X.K θ Z' H' st1 σ := l1.move (y'.kp (K := X.K) l1.okO) (fun a u _ c h => y.keep a u (ct_not_tbl c) h op_none) (fun a h z => by
      obtain ⟨n, u, hu, _⟩ := l1.okO a h
      exact n (y.zo a (by rw [hu]; exact fun z => by cases z) op_none z)) dm
    have p : CE X.K θ O0 Z0 H0 σ Q q.1 st1 := p
    cases q with
    | mk r0 c0 =>
      cases r with
      | val h => exact p _ _ _ b'' (x.trans y') l2 (.val h) new_val
      | @fresh p0 d0 e nz hn c =>
        refine p _ _ _ b'' (x.trans y') l2 (.fresh e nz (fun q => ?_) c) ?_
        · obtain ⟨_, u, hu, _⟩ := l1.okO _ q
          rw [hn] at hu; cases hu
        · have : RvNew (Own st1 σ) H1 v (.fresh d0) := fun q d e1 e2 => by
            rw [e] at e2; cases e2
            exact .inr hn
          exact this.back x
  | ex c =>
    obtain ⟨a, h1, h2⟩ := (show ExOk X E O0 H0 c from p)
    exact ⟨rfl, a, h1, fun H' y => h2 H' (x.sx ⟨fun a o ht h _ => y.keep a o ht h fun z => z, y.tb⟩)⟩
  | bad => exact False.elim p
/-- f(e, ..) -/
theorem qe_call {x : Str} {k n : Nat} {dfl : List D} {f : DF} {e : Expr} {es : List Expr} {m : DE} {ms : List DE} {p pos : Pos} (F : CallQ X.prog X.w X.K X.mg X.base x k n dfl f) (hr : Room k X.A) (hg : Gl X x) (hx : Px X E) (ha : QA X E θ (e :: es) (eArgs (m :: ms))) (hn : (m :: ms).length = n)
    (hdb : (x == ("__debug__" : Str)) = false := by decide) (he : starEach (e :: es) X.env = (false, eval e X.env) :: starEach es X.env := by rfl) (hpl : (backTo pos (starEach es X.env)).any (·.1) = false := by rfl) : QE X E θ (.Call (.Name x p) (e :: es) [] pos) (eCall f dfl (m :: ms)) := by
  obtain ⟨g, fd, ps, dvs, dus, G, gx, kp, hb, hd, hl, rd⟩ := F.ex
  refine QE.mk (pe_call (E := E) G hr hg gx kp hb hd hx ha hdb he hpl) fun σ H Z st Q bd l p => ⟨Z, st, l, p.bind fun ds st1 e1 p vs H1 Z1 b1 x1 l1 rs => ?_⟩
  refine ⟨?_, Z1, none, ds ++ dfl, l1.dom, .val (rs.append (rd Z1 H1)), call_ends l1 x1 p⟩
  rw [List.length_append, rs.length, eArgs_length e1, hn, hl, (rd Z1 H1).length]
theorem qe_call0 {x : Str} {k : Nat} {dfl : List D} {f : DF} {p pos : Pos} (F : CallQ X.prog X.w X.K X.mg X.base x k 0 dfl f) (hr : Room k X.A) (hg : Gl X x) (hx : Px X E)
    (hdb : (x == ("__debug__" : Str)) = false := by decide) : QE X E θ (.Call (.Name x p) [] [] pos) (eCall f dfl []) := by
  obtain ⟨g, fd, ps, dvs, dus, G, gx, kp, hb, hd, hl, rd⟩ := F.ex
  refine QE.mk (pe_call0 (E := E) G hr hg gx kp hb hd hx hdb) fun σ H Z st Q bd l p => ?_
  exact ⟨by rw [hl, List.nil_append, (rd Z H).length, Nat.zero_add], Z, none, dfl, l.dom, .val (rd Z H), call_ends l Stp.refl p⟩
/-- f(x, e, ..), x's object may be changed -/
theorem qe_callS {x : Str} {k n i : Nat} {dfl : List D} {f : DF} {e : Expr} {es : List Expr} {ms : List DE} {p pos : Pos} (F : CallQ X.prog X.w X.K X.mg X.base x k n dfl f) (hr : Room k X.A) (hg : Gl X x) (hx : Px X E) (he0 : PE X e (tVar i)) (ha : QA X E θ es (eArgs ms)) (hn : ms.length + 1 = n)
    (hdb : (x == ("__debug__" : Str)) = false := by decide) (he : starEach (e :: es) X.env = (false, eval e X.env) :: starEach es X.env := by rfl) (hpl : (backTo pos (starEach es X.env)).any (·.1) = false := by rfl) : QE X E θ (.Call (.Name x p) (e :: es) [] pos) (eCallS f dfl i ms) := by
  obtain ⟨g, fd, ps, dvs, dus, G, gx, kp, hb, hd, hl, rd⟩ := F.ex
  refine QE.mk (pe_call (E := E) G hr hg gx kp hb hd hx (pa_cons he0 ha he) hdb he hpl) fun σ H Z st Q bd l p => ?_
  unfold eCallS at p
  split at p
  · rename_i x0 c0 h0
    obtain ⟨q, hσ, nz, cn, _⟩ := l.at_own h0
    refine ⟨.ref q, hσ, Z, st, l, p.bind fun ds st1 e1 p vs H1 Z1 b1 x1 l1 rs => ?_⟩
    change Po X E (Own st σ) H (match st1[i]? with
      | some (some (.own x c)) => (match f (some c) (ds ++ dfl) with
        | .ok (r, some c') => (pure (r, st1.set i (some (.own x c'))) : R (RV × DS))
        | _ => .bad)
      | _ => .bad) _ at p
    split at p
    · rename_i x1' c1 h1
      obtain ⟨q', hσ', nz1, cn1, t1⟩ := l1.at_own h1
      rw [hσ] at hσ'; cases hσ'
      have hO : Own st1 σ q := ⟨i, _, _, h1, hσ⟩
      refine ⟨?_, Z1, some (q, c1), ds ++ dfl, l1.dom, .own nz1 cn1 (rs.append (rd Z1 H1)), ?_⟩
      · show ((V.ref q :: vs) ++ dvs).length = ps.length
        rw [List.length_append, List.length_cons, rs.length, eArgs_length e1, hn, hl, (rd Z1 H1).length]
      · cases hm : f (some c1) (ds ++ dfl) with
        | bad => rw [hm] at p; exact False.elim p
        | ex c => rw [hm] at p; exact False.elim p
        | ok rr =>
          obtain ⟨r, o⟩ := rr
          rw [hm] at p
          show CF _ _ _ _ _ _ _ (f (some c1) (ds ++ dfl))
          rw [hm]
          intro v H' Z' b' y dm out r0 b''
          cases o with
          | none => exact False.elim p
          | some c' =>
            have p : CE X.K θ (Own st σ) Z H σ Q r (st1.set i (some (.own x1' c'))) := p
            obtain ⟨cn', nz'⟩ : Cn X.K Z' H' q c' ∧ ¬ Z' q := out
            have opq : ∀ a, Op (some (q, c1)) a → a = q := fun a ⟨_, z⟩ => by cases z; rfl
            have y0 : Stp (Own st1 σ) Z1 H1 (Own st1 σ) Z' H' := ⟨fun a o ht h n => y.keep a o ht h (fun z => n (opq a z ▸ hO)), y.zz, fun a h n z => y.zo a h (fun w => n (opq a w ▸ hO)) z, fun _ h => .inl h, y.ow, y.tb⟩
            have y' := y0.own (O'' := Own (st1.set i (some (.own x1' c'))) σ) fun a h => .inl (own_wr h1 h)
            have k := y0.kp (K := X.K) l1.okO
            have l2 : Rl X.K θ Z' H' (st1.set i (some (.own x1' c'))) σ := by
              refine ⟨by rw [List.length_set]; exact l1.len, fun j b e => ?_, fun j k q ⟨y, e1, h1', h2⟩ ⟨z, e2, k1, k2⟩ => ?_, dm⟩
              · rcases set_get e with ⟨rfl, eb, _⟩ | ⟨nj, e'⟩
                · cases eb
                  exact .own hσ nz' cn' t1
                · cases l1.slot j b e' with
                  | val ev rv => exact .val ev (rv.kp k)
                  | @own xj dj pj ev nzj cj tj =>
                    have npq : pj ≠ q := fun z => by subst z; exact nj (l1.inj _ _ _ ⟨_, _, e', ev⟩ ⟨_, _, h1, hσ⟩)
                    have nop : ¬ Op (some (q, c1)) pj := fun w => npq (opq pj w)
                    obtain ⟨u, hu, cu⟩ := cj.ct
                    exact .own ev (fun z => nzj (y.zo pj (by rw [hu]; exact fun z => by cases z) nop z)) (cj.kp k fun u' cu' hu' => y.keep pj u' (ct_not_tbl cu') hu' nop) tj
              · have g1 : OwnAt st1 σ j q := by
                  rcases set_get h1' with ⟨rfl, eb, _⟩ | ⟨_, e'⟩
                  · exact ⟨x1', c1, h1, h2⟩
                  · exact ⟨y, e1, e', h2⟩
                have g2 : OwnAt st1 σ k q := by
                  rcases set_get k1 with ⟨rfl, eb, _⟩ | ⟨_, e'⟩
                  · exact ⟨x1', c1, h1, k2⟩
                  · exact ⟨z, e2, e', k2⟩
                exact l1.inj j k q g1 g2
            cases r0 with
            | val h => exact p _ _ _ b'' (x1.trans y') l2 (.val h) new_val
            | @fresh p0 d0 e nz0 hn0 c =>
              refine p _ _ _ b'' (x1.trans y') l2 (.fresh e nz0 (fun w => ?_) c) ?_
              · obtain ⟨_, u, hu, _⟩ := l1.okO _ (own_wr h1 w)
                rw [hn0] at hu; cases hu
              · have : RvNew (Own st1 σ) H1 v (.fresh d0) := fun q d e1 e2 => by
                  rw [e] at e2; cases e2
                  exact .inr hn0
                exact this.back x1
    · exact False.elim p
  · exact False.elim p
end
end QL

end
section
/-! QRule6: targets, simple statements, blocks. -/
namespace QL
open PySem PySem.Spec PyProof.Rows L2
theorem kp_refl {Z : Addr → Prop} {H : Hp} : Kp Z H Z H := ⟨fun _ h => h, fun _ _ _ _ h => h, fun _ _ h => h⟩
theorem Kp.trans {Z Z1 Z2 : Addr → Prop} {H H1 H2 : Hp} (a : Kp Z H Z1 H1) (b : Kp Z1 H1 Z2 H2) : Kp Z H Z2 H2 := ⟨fun x h => b.zz x (a.zz x h), fun x u c z h => b.fz x u c (a.zz x z) (a.fz x u c z h), fun x xs h => b.tp x xs (a.tp x xs h)⟩
/-- data stay, and what is locked stays so -/
structure Kq (Z : Addr → Prop) (H : Hp) (Z' : Addr → Prop) (H' : Hp) : Prop where
  k : Kp Z H Z' H'
  fr : ∀ a od u, Z a → H a = some (.frz od u) → H' a = some (.frz od u)
theorem kq_refl {Z : Addr → Prop} {H : Hp} : Kq Z H Z H := ⟨kp_refl, fun _ _ _ _ h => h⟩
theorem Kq.trans {Z Z1 Z2 : Addr → Prop} {H H1 H2 : Hp} (a : Kq Z H Z1 H1) (b : Kq Z1 H1 Z2 H2) : Kq Z H Z2 H2 := ⟨a.k.trans b.k, fun x od u z h => b.fr x od u (a.k.zz x z) (a.fr x od u z h)⟩
theorem Stp.kq {O Z O' Z' : Addr → Prop} {H H' : Hp} (x : Stp O Z H O' Z' H') {K : PySem.W.Frag} (ok : OkO O Z H) : Kq Z H Z' H' := ⟨x.kp (K := K) ok, fun a od u z h => x.keep a _ (fun ps e => by cases e) h fun q => (ok a q).1 z⟩
section
variable {X : Cx} {E : XK} {θ : Nat → Addr}
/-! ### targets -/
/-- what a target is handed: r, new since O0, H0; what follows, at the slots behind -/
def GIn (X : Cx) (E : XK) (θ : Nat → Addr) (g : DG) (v : V) (σ : St) (H : Hp) (Q : St → Hp → Prop) : Prop :=
  ∃ O0 Z0 H0 Z st r st', Stp O0 Z0 H0 (Own st σ) Z H ∧ Rl X.K θ Z H st σ ∧ RvOk X.K Z H st σ v r ∧ RvNew O0 H0 v r ∧ g r st = .ok st' ∧ ∀ σ' H' Z', Bd H' → Stp O0 Z0 H0 (Own st' σ') Z' H' → Kq Z H Z' H' → Rl X.K θ Z' H' st' σ' → Q σ' H'
def GsIn (X : Cx) (E : XK) (θ : Nat → Addr) (gs : List DG) (vs : List V) (σ : St) (H : Hp) (Q : St → Hp → Prop) : Prop :=
  ∃ O0 Z0 H0 Z st ds st', Stp O0 Z0 H0 (Own st σ) Z H ∧ Rl X.K θ Z H st σ ∧ RpL X.K Z H vs ds ∧ bEach gs ds st = .ok st' ∧ ∀ σ' H' Z', Bd H' → Stp O0 Z0 H0 (Own st' σ') Z' H' → Kq Z H Z' H' → Rl X.K θ Z' H' st' σ' → Q σ' H'
def QG (X : Cx) (E : XK) (θ : Nat → Addr) (tg : Expr) (g : DG) : Prop := PG X tg (GIn X E θ g)
def QGs (X : Cx) (E : XK) (θ : Nat → Addr) (tgs : List Expr) (gs : List DG) : Prop := PGs X tgs (GsIn X E θ gs)
theorem bName_ends {i : Nat} {v : V} {σ : St} {H : Hp} {Q : St → Hp → Prop} (bd : Bd H) (h : GIn X E θ (bName i) v σ H Q) : Q (σ.set i (some v)) H := by
  obtain ⟨O0, Z0, H0, Z, st, r, st', x, l, o, n, e, q⟩ := h
  unfold bName at e
  cases hd : r.asVal with
  | ok d =>
    rw [hd] at e
    cases e
    obtain ⟨Z', x', l', rp, k, _⟩ := o.asVal l x n hd
    exact q _ _ _ bd (x'.own fun a h => x'.oo a (own_setV h)) ⟨k, fun _ _ _ _ h => h⟩ (l'.setV rp)
  | ex c => rw [hd] at e; cases e
  | bad => rw [hd] at e; cases e
theorem bOwn_ends {i : Nat} {v : V} {σ : St} {H : Hp} {Q : St → Hp → Prop} (bd : Bd H) (h : GIn X E θ (bOwn i) v σ H Q) : Q (σ.set i (some v)) H := by
  obtain ⟨O0, Z0, H0, Z, st, r, st', x, l, o, n, e, q⟩ := h
  cases o with
  | val hr =>
    cases e
    exact q _ _ _ bd (x.own fun a h => x.oo a (own_setV h)) kq_refl (l.setV hr)
  | @fresh p d ev nz no c =>
    subst ev
    cases e
    refine q _ _ _ bd (x.own fun a h => ?_) kq_refl (l.setO nz c no)
    rcases own_setO h with z | rfl
    · exact x.oo a z
    · exact n _ _ rfl rfl
  | bor _ _ => cases e
theorem PG.bd {tg : Expr} {t t' : TG} (h : PG X tg t) (i : ∀ v σ H Q, Bd H → t' v σ H Q → t v σ H Q) : PG X tg t' := ⟨fun pins s σ H v u Q I r q => h.run pins s σ H v u Q I r (i v σ H Q (Inv.bd I) q)⟩
theorem qg_name {i : Nat} {x : Str} {pos : Pos} (hN : X.N.Nodup) (hi : X.N[i]? = some x) (hx : Loc X.env.scope x) (hf : X.fn x = true ∨ X.env.scope.names.lookup x = some .local := by first | exact .inl rfl | exact .inr rfl | assumption) : QG X E θ (.Name x pos) (bName i) :=
  PG.bd (pg_name hN hi hx hf) fun v σ H Q bd h => bName_ends bd h
theorem qg_own {i : Nat} {x : Str} {pos : Pos} (hN : X.N.Nodup) (hi : X.N[i]? = some x) (hx : Loc X.env.scope x) (hf : X.fn x = true ∨ X.env.scope.names.lookup x = some .local := by first | exact .inl rfl | exact .inr rfl | assumption) : QG X E θ (.Name x pos) (bOwn i) :=
  PG.bd (pg_name hN hi hx hf) fun v σ H Q bd h => bOwn_ends bd h
theorem PGs.bd {tg : List Expr} {t t' : TGs} (h : PGs X tg t) (i : ∀ v σ H Q, Bd H → t' v σ H Q → t v σ H Q) : PGs X tg t' := ⟨fun pins s σ H v u Q I r q => h.run pins s σ H v u Q I r (i v σ H Q (Inv.bd I) q)⟩
theorem qgs_nil : QGs X E θ [] [] := PGs.bd pgs_nil fun vs σ H Q bd ⟨O0, Z0, H0, Z, st, ds, st', x, l, rs, e, q⟩ => by
  cases rs with
  | nil =>
    cases e
    exact ⟨rfl, q _ _ _ bd x kq_refl l⟩
  | cons _ _ => cases e
theorem qgs_cons {e : Expr} {es : List Expr} {g : DG} {gs : List DG} (h1 : QG X E θ e g) (h2 : QGs X E θ es gs)
    (hs : (assignEach (e :: es) X.env).map (·.2) = assign e X.env :: (assignEach es X.env).map (·.2) := by rfl) : QGs X E θ (e :: es) (g :: gs) := PGs.bd (pgs_cons h1 h2 hs) fun vs σ H Q bd ⟨O0, Z0, H0, Z, st, ds, st', x, l, rs, e, q⟩ => by
  cases rs with
  | nil => cases e
  | @cons v vs d ds r rs =>
    unfold bEach at e
    cases e1 : g (.val d) st with
    | ok st1 =>
      rw [e1] at e
      refine ⟨v, vs, rfl, O0, Z0, H0, Z, st, .val d, st1, x, l, .val r, new_val, e1, fun σ1 H1 Z1 b1 x1 k1 l1 => ?_⟩
      exact ⟨O0, Z0, H0, Z1, st1, ds, st', x1, l1, rs.kp k1.k, e, fun σ' H' Z' b' x' k' l' => q _ _ _ b' x' (k1.trans k') l'⟩
    | ex c => rw [e1] at e; cases e
    | bad => rw [e1] at e; cases e
theorem qg_tup {es : List Expr} {k : Nat} {gs : List DG} {n : Nat} {pos : Pos} (hc : X.calm = true) (h : QGs X E θ es gs) (hgs : gs.length = n := by rfl)
    (hn : (assignEach es X.env).length = n := by rfl) (hst : (assignEach es X.env).findIdx? (·.1) = none := by rfl) : QG X E θ (.Tuple es k pos) (bTup gs) := PG.bd (pg_tup hc h hn hst) fun v σ H Q bd ⟨O0, Z0, H0, Z, st, r, st', x, l, o, n, e, q⟩ => by
  unfold bTup at e
  cases hd : r.asVal with
  | ok d =>
    rw [hd] at e
    obtain ⟨Z', x', l', rp, k, _⟩ := o.asVal l x n hd
    cases d with
    | tuple ds =>
      cases rp with
      | tup hp rs =>
        have hl : ∀ (gs : List DG) (ds : List D) (st st' : DS), bEach gs ds st = .ok st' → ds.length = gs.length := by
          intro gs
          induction gs with
          | nil =>
            intro ds st st' h
            cases ds with
            | nil => rfl
            | cons _ _ => cases h
          | cons g gs ih =>
            intro ds st st' h
            cases ds with
            | nil => cases h
            | cons d ds =>
              unfold bEach at h
              cases e1 : g (.val d) st with
              | ok st1 => rw [e1] at h; simp [ih ds st1 st' h]
              | ex c => rw [e1] at h; cases h
              | bad => rw [e1] at h; cases h
        refine ⟨_, _, rfl, SqT.of hp, by rw [rs.length, hl _ _ _ _ e, hgs], O0, Z0, H0, Z', st, ds, st', x', l', rs, e, fun σ1 H1 Z1 b1 x1 k1 l1 => q _ _ _ b1 x1 ((⟨k, fun _ _ _ _ h => h⟩ : Kq _ _ _ _).trans k1) l1⟩
    | _ => cases e
  | ex c => rw [hd] at e; cases e
  | bad => rw [hd] at e; cases e
/-! ### statements -/
theorem CS.back {O0 Z0 O1 Z1 : Addr → Prop} {H0 H1 : Hp} {W : Ends} {f : Fl} {st : DS} (h : CS X.K θ O0 Z0 H0 W f st) (x : Stp O0 Z0 H0 O1 Z1 H1) : CS X.K θ O1 Z1 H1 W f st := by
  cases f with
  | nx => exact fun σ H' Z' b y l => h σ H' Z' b (x.trans y) l
  | bk => exact fun σ H' Z' b y l => h σ H' Z' b (x.trans y) l
  | ct => exact fun σ H' Z' b y l => h σ H' Z' b (x.trans y) l
  | rt r => exact fun σ v H' Z' b y l o n => h σ v H' Z' b (x.trans y) l o (n.back x)
theorem po_cs {O0 Z0 O1 Z1 : Addr → Prop} {H0 H1 : Hp} {W : Ends} {m : R (Fl × DS)} (p : Po X E O0 H0 m (CS X.K θ O0 Z0 H0 W)) (x : Stp O0 Z0 H0 O1 Z1 H1) : Po X E O1 H1 m (CS X.K θ O1 Z1 H1 W) := by
  rcases po_match p with ⟨c, st2, e2, hc⟩ | ⟨c, e2, hc⟩
  · rw [e2]; exact hc.back x
  · rw [e2]; exact hc.adv x
theorem PSs.imp {s : List Stmt} {t t' : TS} (h : PSs X s t) (i : ∀ W σ H, t' W σ H → t W σ H) : PSs X s t' := ⟨fun pins s σ H W I q => h.run pins s σ H W I (i W σ H q)⟩
theorem qss_nil : QSs X E θ [] sNext := QSs.mk pss_nil fun W σ H Z st bd l p b' => p _ _ _ b' Stp.refl l
theorem qss_one {s : Stmt} {m : DM} (h : QS X E θ s m) : QSs X E θ [s] m := pss_one h
theorem qss_cons {s : Stmt} {r : List Stmt} {m n : DM} (h1 : QS X E θ s m) (h2 : QSs X E θ r n) : QSs X E θ (s :: r) (sSeq m n) := PSs.imp (pss_cons h1 h2) fun W σ H ⟨Z, st, l, p⟩ =>
  ⟨Z, st, l, by
    unfold sSeq at p
    refine p.bind fun f st1 _ p => ?_
    cases f with
    | nx => exact fun σ1 H1 Z1 b1 x l1 => ⟨Z1, st1, l1, po_cs (show Po X E _ _ (n st1) _ from p) x⟩
    | bk => exact p
    | ct => exact p
    | rt r => exact p⟩
theorem qs_expr {e : Expr} {m : DE} {pos : Pos} (he : QE X E θ e m) (hs : swapsWith e none pos.line X.env = pure false := by rfl) : QS X E θ (.Expr e pos) (sExpr m) := QS.mk (ps_expr he hs) fun W σ H Z st bd l p =>
  ⟨Z, st, l, p.bind fun r st1 _ p v H1 Z1 b1 x l1 o n b' => p _ _ _ b' x l1⟩
theorem qs_doc {x j pos pos'} : QS X E θ (.Expr (.Constant (.str x) j pos) pos') sNext := QS.mk ps_doc fun W σ H Z st bd l p b' => p _ _ _ b' Stp.refl l
theorem qs_pass {pos : Pos} : QS X E θ (.Pass pos) sNext := QS.mk ps_pass fun W σ H Z st bd l p b' => p _ _ _ b' Stp.refl l
theorem qs_break {pos : Pos} : QS X E θ (.Break pos) sBreak := QS.mk ps_break fun W σ H Z st bd l p b' => p _ _ _ b' Stp.refl l
theorem qs_cont {pos : Pos} : QS X E θ (.Continue pos) sCont := QS.mk ps_continue fun W σ H Z st bd l p b' => p _ _ _ b' Stp.refl l
theorem qs_ret {e : Expr} {m : DE} {pos : Pos} (he : QE X E θ e m) : QS X E θ (.Return (some e) pos) (sRet m) := QS.mk (ps_ret he) fun W σ H Z st bd l p =>
  ⟨Z, st, l, p.bind fun r st1 _ p v H1 Z1 b1 x l1 o n b' => p _ _ _ _ b' x l1 o n⟩
theorem qs_retN {pos : Pos} : QS X E θ (.Return none pos) sRetN := QS.mk ps_retN fun W σ H Z st bd l p b' => p σ .non _ _ b' Stp.refl l (.val .non) new_val
theorem qs_if {c : Expr} {a b : List Stmt} {t : DT} {m n : DM} {pos : Pos} (hc : QT X E θ c t) (ha : QSs X E θ a m) (hb : QSs X E θ b n) : QS X E θ (.If c a b pos) (sIf t m n) := QS.mk (ps_if hc ha hb) fun W σ H Z st bd l p =>
  ⟨Z, st, l, p.bind fun k st1 _ p H1 Z1 b1 x l1 => by
    have wb : ∀ m : DM, Po X E (Own st σ) H (m st1) (CS X.K θ (Own st σ) Z H W) → rdS X E θ m (Ends.bd W) σ H1 := fun m p => ⟨Z1, st1, l1, by
      rcases po_match (po_cs p x) with ⟨c, st2, e2, hc⟩ | ⟨c, e2, hc⟩
      · rw [e2]
        cases c with
        | nx => exact fun σ H' Z' b y l b' => hc σ H' Z' b y l
        | bk => exact fun σ H' Z' b y l b' => hc σ H' Z' b y l
        | ct => exact fun σ H' Z' b y l b' => hc σ H' Z' b y l
        | rt r => exact fun σ v H' Z' b y l o n b' => hc σ v H' Z' b y l o n
      · rw [e2]; exact hc⟩
    cases k with
    | true => exact iteT (wb m p)
    | false => exact iteF (wb n p)⟩
/-- this def's own wish about exceptions -/
abbrev Tx (X : Cx) (E : XK) : Prop := Takes X (fun cls d _ H => E cls d H)
theorem qs_raise {x m : Str} {C : Addr} {bmB : List Value} {B newId initId : String} {j : Nat} {p p2 pos pos' : Pos} (hc : X.calm = true) (tk : Tx X E) (F : ExcBaseFacts B newId initId bmB) (q : PySem.W.excIn X.K C bmB newId = true) (gC : X.mg x = some (.ref C)) (kC : PySem.W.keepIn X.K (.ref C) = true) (r : Raises X (.ref C)) (hg : Gl X x)
    (hdb : (x == ("__debug__" : Str)) = false := by decide) : QS X E θ (.Raise (some (.Call (.Name x p) [.Constant (.str m) j p2] [] pos)) none pos') (sRaise x) :=
  QS.mk (ps_raise hc tk (pmk_own F q gC kC r hg hdb)) fun W σ H Z st bd l ⟨a, ha, hE⟩ => by
    rw [gC] at ha
    cases ha
    exact hE H ⟨fun _ _ _ h _ => h, fun _ _ h => h⟩
/-- name = e -/
theorem qs_setN {s : Stmt} {e : Expr} {m : DE} {i : Nat} (hs : ∀ te, PE X e te → PS X s (tAsg te (L2.gName i))) (he : QE X E θ e m) : QS X E θ s (sSet (bName i) m) := QS.mk (hs _ he) fun W σ H Z st bd l p =>
  ⟨Z, st, l, by
    unfold sSet at p
    refine p.bind fun r st1 _ p v H1 Z1 b1 x l1 o n => ?_
    cases e2 : bName i r st1 with
    | ok st2 =>
      have p' : CS X.K θ (Own st σ) Z H W .nx st2 := by
        have p := p
        simp only [e2, R.ok_bind] at p
        exact p
      exact bName_ends (X := X) (E := E) (θ := θ) b1 ⟨_, _, _, Z1, st1, r, st2, x, l1, o, n, e2, fun σ' H' Z' b' x' _ l' b'' => p' _ _ _ b'' x' l'⟩
    | ex c =>
      exfalso
      unfold bName at e2
      cases hd : r.asVal with
      | ok d => rw [hd] at e2; cases e2
      | ex c => exact absurd hd (asVal_ne c)
      | bad => rw [hd] at e2; cases e2
    | bad => simp only [e2, R.bad_bind] at p; exact False.elim p⟩
theorem qs_setO {s : Stmt} {e : Expr} {m : DE} {i : Nat} (hs : ∀ te, PE X e te → PS X s (tAsg te (L2.gName i))) (he : QE X E θ e m) : QS X E θ s (sSet (bOwn i) m) := QS.mk (hs _ he) fun W σ H Z st bd l p =>
  ⟨Z, st, l, by
    unfold sSet at p
    refine p.bind fun r st1 _ p v H1 Z1 b1 x l1 o n => ?_
    cases e2 : bOwn i r st1 with
    | ok st2 =>
      have p' : CS X.K θ (Own st σ) Z H W .nx st2 := by
        have p := p
        simp only [e2, R.ok_bind] at p
        exact p
      exact bOwn_ends (X := X) (E := E) (θ := θ) b1 ⟨_, _, _, Z1, st1, r, st2, x, l1, o, n, e2, fun σ' H' Z' b' x' _ l' b'' => p' _ _ _ b'' x' l'⟩
    | ex c => exfalso; cases r <;> cases e2
    | bad => simp only [e2, R.bad_bind] at p; exact False.elim p⟩
/-- target = e -/
theorem qs_asg {tg e : Expr} {m : DE} {g : DG} {pos : Pos} (hne : ∀ r st c, g r st ≠ .ex c) (he : QE X E θ e m) (hg : QG X E θ tg g) (hs : swapsWithSole [tg] e pos.line X.env = pure false := by rfl) (hw : swappedStores [tg] e X.env = pure none := by rfl)
    (h1 : (assignEach [tg] X.env).map (·.2) = [assign tg X.env] := by rfl) : QS X E θ (.Assign [tg] e pos) (sSet g m) := QS.mk (ps_asg he hg hs hw h1) fun W σ H Z st bd l p =>
  ⟨Z, st, l, by
    unfold sSet at p
    refine p.bind fun r st1 _ p v H1 Z1 b1 x l1 o n => ?_
    cases e2 : g r st1 with
    | ok st2 =>
      have p' : CS X.K θ (Own st σ) Z H W .nx st2 := by
        have p := p
        simp only [e2, R.ok_bind] at p
        exact p
      exact ⟨_, _, _, Z1, st1, r, st2, x, l1, o, n, e2, fun σ' H' Z' b' x' _ l' b'' => p' _ _ _ b'' x' l'⟩
    | ex c => exact absurd e2 (hne _ _ _)
    | bad => simp only [e2, R.bad_bind] at p; exact False.elim p⟩
theorem bName_ne {i : Nat} (r : RV) (st : DS) (c : Str) : bName i r st ≠ .ex c := fun e => by
  unfold bName at e
  cases hd : r.asVal with
  | ok d => rw [hd] at e; cases e
  | ex c => exact absurd hd (asVal_ne c)
  | bad => rw [hd] at e; cases e
theorem bOwn_ne {i : Nat} (r : RV) (st : DS) (c : Str) : bOwn i r st ≠ .ex c := fun e => by cases r <;> cases e
theorem bEach_ne {gs : List DG} (h : ∀ g ∈ gs, ∀ r st c, g r st ≠ .ex c) : ∀ (ds : List D) (st : DS) (c : Str), bEach gs ds st ≠ .ex c := by
  induction gs with
  | nil =>
    intro ds st c e
    cases ds <;> cases e
  | cons g gs ih =>
    intro ds st c e
    cases ds with
    | nil => cases e
    | cons d ds =>
      unfold bEach at e
      cases e1 : g (.val d) st with
      | ok st1 => rw [e1] at e; exact ih (fun g hg => h g (List.mem_cons_of_mem _ hg)) ds st1 c e
      | ex c' => exact h g (by simp) _ _ _ e1
      | bad => rw [e1] at e; cases e
theorem bTup_ne {gs : List DG} (h : ∀ g ∈ gs, ∀ r st c, g r st ≠ .ex c) (r : RV) (st : DS) (c : Str) : bTup gs r st ≠ .ex c := fun e => by
  unfold bTup at e
  cases hd : r.asVal with
  | ok d =>
    rw [hd] at e
    cases d with
    | tuple ds => exact bEach_ne h ds st c e
    | _ => cases e
  | ex c => exact absurd hd (asVal_ne c)
  | bad => rw [hd] at e; cases e
end
end QL

end
section
/-! QRule7: what is walked, for, while. -/
namespace QL
open PySem PySem.Spec PyProof.Rows L2
/-- the iterator gives the data ds, one a turn, while data stay; its own tuples are new -/
structure WalkD (K : PySem.W.Frag) (J : L2.It) (ds : List D) (Z : Addr → Prop) (H : Hp) : Prop where
  goes : ∀ Z2 H2 i, Kq Z H Z2 H2 → i < ds.length → J.go i H2
  len : ds.length ≤ sizeLine
  stops : ∀ Z2 H2, Kq Z H Z2 H2 → J.stop ds.length H2
  yields : ∀ Z2 H2 i x H3, Kq Z H Z2 H2 → (∀ a, Z2 a → H2 a ≠ none) → i < ds.length → J.yld i H2 x H3 → ∃ d, ds[i]? = some d ∧ Res K Z2 H2 x (.val d) H3
def CI (K : PySem.W.Frag) (θ : Nat → Addr) (O Z : Addr → Prop) (H : Hp) (σ : St) (R : L2.It → Hp → Prop) (ds : List D) (st : DS) : Prop := ∀ J H' Z', Bd H' → Stp O Z H (Own st σ) Z' H' → Rl K θ Z' H' st σ → WalkD K J ds Z' H' → R J H'
def rdI (X : Cx) (E : XK) (θ : Nat → Addr) (m : DI) : TI := fun σ H R => ∃ Z st, Rl X.K θ Z H st σ ∧ Po X E (Own st σ) H (m st) (CI X.K θ (Own st σ) Z H σ R)
def QI (X : Cx) (E : XK) (θ : Nat → Addr) (tg it : Expr) (m : DI) : Prop := PI X tg it (rdI X E θ m)
section
variable {X : Cx} {E : XK} {θ : Nat → Addr} {tg : Expr}
theorem PI.bd {it : Expr} {t t' : TI} (h : PI X tg it t) (i : ∀ σ H R, Bd H → t' σ H R → t σ H fun J H' => Bd H' → R J H') : PI X tg it t' := ⟨fun pins s σ H R I q =>
  thn (h.run pins s σ H _ I (i σ H R (Inv.bd I) q)) fun v s1 h1 => thn h1 fun itv s2 ⟨it, fp, tn, J, H', e, I', T, t0, f, r⟩ => ⟨it, fp, tn, J, H', e, I', T, t0, f, r (Inv.bd I')⟩⟩
theorem walkD_list {K : PySem.W.Frag} {Z : Addr → Prop} {H : Hp} {a : Addr} {xs : List V} {ds : List D} (bd : Bd H) (h : LZ K Z H a xs) (r : RpL K Z H xs ds) : WalkD K (Itl K a) ds Z H where
  goes := fun Z2 H2 i k hi => by
    have hl := r.length
    exact ⟨xs, xs[i]'(by omega), (h.kp k.k).sq, by simp [show i < xs.length by omega]⟩
  len := by rw [← r.length]; exact bd.sqL h.sq
  stops := fun Z2 H2 k => ⟨xs, (h.kp k.k).sq, by rw [r.length]; exact Nat.le_refl _⟩
  yields := fun Z2 H2 i x H3 k _ hi y => by
    obtain ⟨e, y⟩ := y
    obtain ⟨d, h1, h2⟩ := r.getV (y xs ((h.kp k.k).sq))
    subst e
    exact ⟨d, h1, .same (h2.kp k.k)⟩
theorem walkD_tup {K : PySem.W.Frag} {Z : Addr → Prop} {H : Hp} {a : Addr} {xs : List V} {ds : List D} (bd : Bd H) (h : H a = some (.tup xs)) (r : RpL K Z H xs ds) : WalkD K (Itt K a) ds Z H where
  goes := fun Z2 H2 i k hi => by
    have hl := r.length
    exact ⟨xs, xs[i]'(by omega), SqT.of (k.k.tp _ _ h), by simp [show i < xs.length by omega]⟩
  len := by rw [← r.length]; exact bd _ _ (.inl h)
  stops := fun Z2 H2 k => ⟨xs, SqT.of (k.k.tp _ _ h), by rw [r.length]; exact Nat.le_refl _⟩
  yields := fun Z2 H2 i x H3 k _ hi y => by
    obtain ⟨e, y⟩ := y
    obtain ⟨d, h1, h2⟩ := r.getV (y xs (SqT.of (k.k.tp _ _ h)))
    subst e
    exact ⟨d, h1, .same (h2.kp k.k)⟩
theorem walkD_range {K : PySem.W.Frag} {Z : Addr → Prop} {H : Hp} {lo hi : Int} (hlen : (hi - lo).toNat ≤ sizeLine) : WalkD K (Itr lo (hi - lo).toNat) (rangeD lo hi) Z H := by
  have hl : (rangeD lo hi).length = (hi - lo).toNat := by unfold rangeD; rw [List.length_map, List.length_range]
  refine ⟨fun Z2 H2 i k h => by rw [hl] at h; exact h, by rw [hl]; exact hlen, fun Z2 H2 k => by rw [hl]; exact Nat.le_refl _, fun Z2 H2 i x H3 k _ h y => ?_⟩
  obtain ⟨e, y⟩ := y
  subst e y
  refine ⟨.int (lo + (i : Nat)), ?_, .same (.int _)⟩
  unfold rangeD
  rw [hl] at h
  rw [List.getElem?_map, List.getElem?_range h]
  rfl
theorem pi_or {it : Expr} {t u : TI} (h : PI X tg it t) (k : PI X tg it u) : PI X tg it fun σ H R => t σ H R ∨ u σ H R := ⟨fun pins s σ H R I q => q.elim (h.run pins s σ H R I) (k.run pins s σ H R I)⟩
/-- a list or a tuple, by what it turns out to be -/
theorem pi_seq {l : Expr} {tl : TE} (hl : PE X l tl) : PI X tg l fun σ H R => tl σ H fun x H1 => ∃ a, x = .ref a ∧ ((∃ xs, SqL X.K H1 a xs ∧ R (Itl X.K a) H1) ∨ (∃ xs, SqT X.K H1 a xs ∧ R (Itt X.K a) H1)) := by
  refine ⟨fun pins s σ H R I h => ?_⟩
  refine thn (hl.run pins s σ H _ I h) fun v s1 ⟨x, H1, I1, r1, q1⟩ => ?_
  obtain ⟨a, e, q⟩ := q1
  subst e
  cases r1
  -- a name that holds a: the two rules over it
  rcases q with ⟨xs, hq, q⟩ | ⟨xs, hq, q⟩
  · obtain ⟨its, rv, p, hz⟩ := I1.list hq
    refine wpAny_pyIter_list p.isList ?_
    refine ⟨s1.heap.objs.size, [s1.heap.objs.size], _, _, H1, rfl, I1.kept (t' := s1.toks) fun b o e => Heap.get?_push_of_some _ e, turn_list a _, ⟨_, Heap.get?_push_size _ rfl, rfl, rfl⟩, fun b hb => ?_, q⟩
    have e : b = s1.heap.objs.size := by simpa using hb
    subst e
    exact I1.fpOk (Nat.le_refl _) (I1.hok.fresh (Nat.le_refl _))
  · obtain ⟨its, rv, p, hz⟩ := I1.tuple hq
    refine wpAny_pyIter_tuple (show s1.heap.IsTuple a its.toArray from p) ?_
    refine ⟨s1.heap.objs.size, [s1.heap.objs.size], _, _, H1, rfl, I1.kept (t' := s1.toks) fun b o e => Heap.get?_push_of_some _ e, turn_tuple a _, ⟨_, Heap.get?_push_size _ rfl, rfl, rfl⟩, fun b hb => ?_, q⟩
    have e : b = s1.heap.objs.size := by simpa using hb
    subst e
    exact I1.fpOk (Nat.le_refl _) (I1.hok.fresh (Nat.le_refl _))
theorem rp_lst {K : PySem.W.Frag} {Z : Addr → Prop} {H : Hp} {v : V} {ds : List D} (h : Rp K Z H v (.list ds)) : ∃ a xs, v = .ref a ∧ LZ K Z H a xs ∧ RpL K Z H xs ds := by
  cases h with
  | lst h r => exact ⟨_, _, rfl, h, r⟩
theorem rp_tup {K : PySem.W.Frag} {Z : Addr → Prop} {H : Hp} {v : V} {ds : List D} (h : Rp K Z H v (.tuple ds)) : ∃ a xs, v = .ref a ∧ H a = some (.tup xs) ∧ RpL K Z H xs ds := by
  cases h with
  | tup h r => exact ⟨_, _, rfl, h, r⟩
theorem qi_seq {l : Expr} {m : DE} (hl : QE X E θ l m) : QI X E θ tg l (iSeq m) := PI.bd (pi_seq hl) fun σ H R bd ⟨Z, st, l, p⟩ => by
  unfold iSeq at p
  refine ⟨Z, st, l, p.bind fun ra st1 _ p v H1 Z1 b1 x l1 o n => p.bindR asVal_ne fun d hd p => ?_⟩
  obtain ⟨Z', x', l', rp, _, _⟩ := o.asVal l1 x n hd
  cases d with
  | list ds =>
    obtain ⟨a, xs, rfl, hr, rl⟩ := rp_lst rp
    exact ⟨a, rfl, .inl ⟨xs, hr.sq, fun b' => p _ _ _ b' x' l' (walkD_list b1 hr rl)⟩⟩
  | tuple ds =>
    obtain ⟨a, xs, rfl, hr, rl⟩ := rp_tup rp
    exact ⟨a, rfl, .inr ⟨xs, SqT.of hr, fun b' => p _ _ _ b' x' l' (walkD_tup b1 hr rl)⟩⟩
  | _ => exact False.elim p
theorem rgOk_ok {i : Int} (h : rgOk i = true) : -(2 ^ 62) ≤ i ∧ i < 2 ^ 62 := by
  unfold rgOk at h
  rw [Bool.and_eq_true] at h
  exact ⟨of_decide_eq_true h.1, of_decide_eq_true h.2⟩
theorem live_int {r : RV} {i : Int} (h : r.d = .int i) {K : PySem.W.Frag} {Z : Addr → Prop} {H : Hp} {st : DS} {σ : St} {v : V} (o : RvOk K Z H st σ v r) {θ : Nat → Addr} (l : Rl K θ Z H st σ) : v = .int i := by
  have hv := o.vw l
  rw [h] at hv
  cases hv; rfl
theorem qi_range1 {a : Expr} {m : DE} {p pos : Pos} (hg : Gl X "range") (hm : X.mg "range" = none) (ha : QE X E θ a m) (hs : starEach [a] X.env = (false, eval a X.env) :: starEach [] X.env := by rfl) (hs' : starEach [a] X.env = [(false, eval a X.env)] := by rfl) :
    QI X E θ tg (.Call (.Name "range" p) [a] [] pos) (iRng1 m) := PI.bd (pi_range1 hg hm (pa_cons ha pa_nil hs) hs') fun σ H R' bd ⟨Z, st, l, p⟩ => by
  unfold iRng1 at p
  refine ⟨Z, st, l, p.bind fun ra st1 _ p v H1 Z1 b1 x l1 o n => ?_⟩
  change Po X E (Own st σ) H (match ra.d with
    | .int i => if (rgOk i && decide (i ≤ 16777216)) = true then pure (rangeD 0 i, st1) else R.bad
    | _ => R.bad) _ at p
  split at p
  · rename_i i hi
    by_cases c : (rgOk i && decide (i ≤ 16777216)) = true
    · rw [if_pos c] at p
      rw [Bool.and_eq_true] at c
      obtain ⟨c1, c2⟩ := rgOk_ok c.1
      have c5 := of_decide_eq_true c.2
      refine ⟨i, by rw [live_int hi o l1], c1, c2, fun b' => p _ _ _ b' x l1 ?_⟩
      have := walkD_range (K := X.K) (Z := Z1) (H := H1) (lo := 0) (hi := i) (by rw [Int.sub_zero]; exact (by decide : sizeLine = 16777216) ▸ (by omega))
      rw [Int.sub_zero] at this
      exact this
    · rw [if_neg c] at p; exact False.elim p
  · exact False.elim p
theorem qi_range2 {a b : Expr} {m n : DE} {p pos : Pos} (hg : Gl X "range") (hm : X.mg "range" = none) (ha : QE X E θ a m) (hb : QE X E θ b n) (hs : starEach [a, b] X.env = (false, eval a X.env) :: starEach [b] X.env := by rfl) (hs2 : starEach [b] X.env = (false, eval b X.env) :: starEach [] X.env := by rfl)
    (hs' : starEach [a, b] X.env = [(false, eval a X.env), (false, eval b X.env)] := by rfl) (hs2' : starEach [b] X.env = [(false, eval b X.env)] := by rfl) :
    QI X E θ tg (.Call (.Name "range" p) [a, b] [] pos) (iRng2 m n) := PI.bd (pi_range2 hg hm (pa_cons ha (pa_cons hb pa_nil hs2) hs) hs' hs2') fun σ H R' bd ⟨Z, st, l, p⟩ => by
  unfold iRng2 at p
  refine ⟨Z, st, l, p.bind fun ra st1 _ p v H1 Z1 b1 x l1 o n => ⟨Z1, st1, l1, (p.adv x).bind fun rb st2 e2 _ u H2 Z2 b2 y l2 o2 n2 => ?_⟩⟩
  have p' := p
  simp only [e2] at p'
  change Po X E (Own st σ) H (match ra.d, rb.d with
    | .int i, .int j => if (rgOk i && rgOk j && decide (j - i ≤ 16777216)) = true then pure (rangeD i j, st2) else R.bad
    | _, _ => R.bad) _ at p'
  split at p'
  · rename_i i j hi hj
    by_cases c : (rgOk i && rgOk j && decide (j - i ≤ 16777216)) = true
    · rw [if_pos c] at p'
      rw [Bool.and_eq_true, Bool.and_eq_true] at c
      obtain ⟨c1, c2⟩ := rgOk_ok c.1.1
      obtain ⟨c3, c4⟩ := rgOk_ok c.1.2
      have c5 := of_decide_eq_true c.2
      have c6 : sizeLine = 16777216 := by decide
      refine ⟨i, j, by rw [live_int hi o l1, live_int hj o2 l2], ⟨c1, c2, c3, c4⟩, fun b' => p' _ _ _ b' (x.trans y) l2 (walkD_range (by omega))⟩
    · rw [if_neg c] at p'; exact False.elim p'
  · exact False.elim p'
/-! ### for -/
theorem cs_bd {O Z : Addr → Prop} {H : Hp} {W : Ends} {f : Fl} {st : DS} (c : CS X.K θ O Z H W f st) : CS X.K θ O Z H (Ends.bd W) f st := by
  cases f with
  | nx => exact fun σ H' Z' b y l b' => c σ H' Z' b y l
  | bk => exact fun σ H' Z' b y l b' => c σ H' Z' b y l
  | ct => exact fun σ H' Z' b y l b' => c σ H' Z' b y l
  | rt r => exact fun σ v H' Z' b y l o n b' => c σ v H' Z' b y l o n
theorem Po.mono {O : Addr → Prop} {H : Hp} {α : Type} {m : R (α × DS)} {C C' : α → DS → Prop} (p : Po X E O H m C) (h : ∀ a st, C a st → C' a st) : Po X E O H m C' := by
  cases m with
  | ok q => exact h _ _ p
  | ex c => exact p
  | bad => exact p
theorem for_core {g : DG} {mb : DM} (hgne : ∀ r st c, g r st ≠ .ex c) {W : Ends} {O0 Z0 : Addr → Prop} {H0 : Hp} {st1 : DS} {σ : St} {Z1 : Addr → Prop} {H1 : Hp} {J : L2.It} {ds : List D} (b1 : Bd H1) (x : Stp O0 Z0 H0 (Own st1 σ) Z1 H1) (l1 : Rl X.K θ Z1 H1 st1 σ) (w : WalkD X.K J ds Z1 H1)
    (p : Po X E O0 H0 (loopL g mb ds st1) (CS X.K θ O0 Z0 H0 W)) : ∃ P : Nat → Nat → St → Hp → Prop, (∃ m, P 0 m σ H1) ∧ ∀ (i m : Nat) (σ : St) (H : Hp), P i m σ H → J.stop i H ∧ W.nx σ H ∨ J.go i H ∧ ∃ N : St → Hp → Prop, (∀ (σ' : St) (H' : Hp), N σ' H' → ∃ m', m' < m ∧ P (i + 1) m' σ' H') ∧ ∀ (x : V) (H' : Hp), J.yld i H x H' → GIn X E θ g x σ H' fun σ2 H2 => rdS X E θ mb { nx := N, rt := W.rt, bk := W.nx, ct := N } σ2 H2 := by
  let P : Nat → Nat → St → Hp → Prop := fun i m σ' H' => m + i = ds.length ∧ Bd H' ∧ ∃ Z' st', Stp O0 Z0 H0 (Own st' σ') Z' H' ∧ Rl X.K θ Z' H' st' σ' ∧ Kq Z1 H1 Z' H' ∧ Po X E O0 H0 (loopL g mb (ds.drop i) st') (CS X.K θ O0 Z0 H0 W)
  refine ⟨P, ⟨ds.length, rfl, b1, Z1, st1, x, l1, kq_refl, p⟩, fun i m σ' H' ⟨hm, bd', Z', st', x', l', k', p'⟩ => ?_⟩
  by_cases hlt : i < ds.length
  · refine .inr ⟨w.goes Z' H' i k' hlt, fun σ2 H2 => Bd H2 ∧ ∃ Z2 st2, Stp O0 Z0 H0 (Own st2 σ2) Z2 H2 ∧ Rl X.K θ Z2 H2 st2 σ2 ∧ Kq Z1 H1 Z2 H2 ∧ Po X E O0 H0 (loopL g mb (ds.drop (i + 1)) st2) (CS X.K θ O0 Z0 H0 W), fun σ2 H2 ⟨b2, Z2, st2, x2, l2, k2, p2⟩ => ⟨m - 1, by omega, by omega, b2, Z2, st2, x2, l2, k2, p2⟩, fun v H2 hy => ?_⟩
    obtain ⟨d, hd, res⟩ := w.yields Z' H' i v H2 k' l'.dom hlt hy
    have hdrop : ds.drop i = d :: ds.drop (i + 1) := by
      obtain ⟨h1, h2⟩ := List.getElem?_eq_some_iff.mp hd
      rw [List.drop_eq_getElem_cons h1, h2]
    rw [hdrop] at p'
    obtain ⟨y, l2, o2, _⟩ := res.ends l'
    have o2' : RvOk X.K Z' H2 st' σ' v (.val d) := o2
    unfold loopL at p'
    cases e1 : g (.val d) st' with
    | bad => rw [e1] at p'; exact False.elim p'
    | ex c => exact absurd e1 (hgne _ _ _)
    | ok s1 =>
      simp only [e1, R.ok_bind] at p'
      refine ⟨O0, Z0, H0, Z', st', .val d, s1, x'.trans y, l2, o2', new_val, e1, fun σ3 H3 Z3 b3 x3 k3 l3 => ⟨Z3, s1, l3, ?_⟩⟩
      have kk : Kq Z1 H1 Z3 H3 := (k'.trans (y.kq (K := X.K) l'.okO)).trans k3
      refine (p'.adv x3).bind fun f s2 e2 p2 => ?_
      have p3 := p'
      simp only [e2, R.ok_bind] at p3
      have okO := l3.okO
      cases f with
      | nx => exact fun σ4 H4 Z4 b4 x4 l4 => ⟨b4, Z4, s2, x3.trans x4, l4, kk.trans (x4.kq (K := X.K) okO), p3⟩
      | ct => exact fun σ4 H4 Z4 b4 x4 l4 => ⟨b4, Z4, s2, x3.trans x4, l4, kk.trans (x4.kq (K := X.K) okO), p3⟩
      | bk => exact fun σ4 H4 Z4 b4 x4 l4 => p3 σ4 H4 Z4 b4 (x3.trans x4) l4
      | rt r => exact fun σ4 v4 H4 Z4 b4 x4 l4 o4 n4 => p3 σ4 v4 H4 Z4 b4 (x3.trans x4) l4 o4 (n4.back x3)
  · refine .inl ⟨?_, ?_⟩
    · have e : i = ds.length := by omega
      rw [e]
      exact w.stops Z' H' k'
    · rw [List.drop_of_length_le (by omega)] at p'
      exact p' _ _ _ bd' x' l'
theorem qs_for {it : Expr} {body : List Stmt} {mi : DI} {g : DG} {mb : DM} {pos : Pos} (hp : PassesOwn (model X.prog X.w) X.A X.env X.xe) (hc : X.calm = true) (hgne : ∀ r st c, g r st ≠ .ex c) (hi : QI X E θ tg it mi) (hg : QG X E θ tg g) (hb : QSs X E θ body mb)
    (hs : ∀ x, foldedSetIterable it X.env x = pure x := by intro _; rfl) : QS X E θ (.For tg it body [] pos) (sFor mi g mb) := QS.mk (ps_for hp hc hi hg hb hs) fun W σ H Z st bd l p => by
  unfold sFor at p
  refine ⟨Z, st, l, p.bind fun ds st1 _ p J H1 Z1 b1 x l1 w => for_core hgne b1 x l1 w (p.mono fun _ _ => cs_bd)⟩
theorem qs_while {c : Expr} {body : List Stmt} {t : DT} {mb : DM} {pos : Pos} (n : DS → Nat) (hp : PassesOwn (model X.prog X.w) X.A X.env X.xe) (hc : QT X E θ c t) (hb : QSs X E θ body mb) :
    QS X E θ (.While c body [] pos) (sWhile n t mb) := QS.mk (ps_while hp hc hb) fun W σ H Z st bd l p => by
  unfold sWhile at p
  let P : Nat → St → Hp → Prop := fun m σ' H' => Bd H' ∧ ∃ Z' st', Stp (Own st σ) Z H (Own st' σ') Z' H' ∧ Rl X.K θ Z' H' st' σ' ∧ Po X E (Own st σ) H (loopW t mb m st') (CS X.K θ (Own st σ) Z H W)
  refine ⟨P, ⟨n st, bd, Z, st, Stp.refl, l, p⟩, fun m σ' H' ⟨bd', Z', st', x', l', p'⟩ => ?_⟩
  cases m with
  | zero => exact False.elim p'
  | succ m =>
    unfold loopW at p'
    refine ⟨Z', st', l', (p'.adv x').bind fun k s1 e1 _ H2 Z2 b2 x2 l2 => ?_⟩
    have p2 := p'
    simp only [e1, R.ok_bind] at p2
    cases k with
    | false => exact iteF (fun b' => p2 σ' H2 Z2 b2 (x'.trans x2) l2)
    | true =>
      refine iteT ?_
      simp only [if_true] at p2
      have x3 := x'.trans x2
      refine ⟨fun σ3 H3 => Bd H3 ∧ ∃ Z3 st3, Stp (Own st σ) Z H (Own st3 σ3) Z3 H3 ∧ Rl X.K θ Z3 H3 st3 σ3 ∧ Po X E (Own st σ) H (loopW t mb m st3) (CS X.K θ (Own st σ) Z H W), fun σ3 H3 h3 => ⟨m, Nat.lt_succ_self _, h3⟩, Z2, s1, l2, ?_⟩
      refine (p2.adv x3).bind fun f s2 e2 _ => ?_
      have p3 := p2
      simp only [e2, R.ok_bind] at p3
      cases f with
      | nx => exact fun σ4 H4 Z4 b4 x4 l4 => ⟨b4, Z4, s2, x3.trans x4, l4, p3⟩
      | ct => exact fun σ4 H4 Z4 b4 x4 l4 => ⟨b4, Z4, s2, x3.trans x4, l4, p3⟩
      | bk => exact fun σ4 H4 Z4 b4 x4 l4 b5 => p3 σ4 H4 Z4 b4 (x3.trans x4) l4
      | rt r => exact fun σ4 v4 H4 Z4 b4 x4 l4 o4 n4 b5 => p3 σ4 v4 H4 Z4 b4 (x3.trans x4) l4 o4 (n4.back x3)
end
end QL

end
section
/-! QRule8: comprehensions. -/
namespace QL
open PySem PySem.Spec PyProof.Rows L2
theorem wipe_cons (σ : L2.St) (v : Nat) (vs : List Nat) : wipe σ (v :: vs) = (wipe σ vs).set v none := rfl
theorem wipe_len (σ : L2.St) : ∀ vs : List Nat, (wipe σ vs).length = σ.length
  | [] => rfl
  | v :: vs => by rw [wipe_cons, List.length_set, wipe_len σ vs]
theorem wipe_at (σ : L2.St) : ∀ (vs : List Nat) (j : Nat), j ∉ vs → (wipe σ vs)[j]? = σ[j]?
  | [], _, _ => rfl
  | v :: vs, j, h => by
    rw [wipe_cons, List.getElem?_set_ne (fun e => h (by rw [e]; exact List.mem_cons_self)), wipe_at σ vs j fun q => h (List.mem_cons_of_mem _ q)]
theorem wipeS_cons (st : DS) (v : Nat) (vs : List Nat) : wipeS (v :: vs) st = (wipeS vs st).set v none := rfl
theorem backS_cons (old st : DS) (v : Nat) (vs : List Nat) : backS (v :: vs) old st = (backS vs old st).set v (keptA old[v]?) := rfl
theorem wipeS_len (st : DS) : ∀ vs : List Nat, (wipeS vs st).length = st.length
  | [] => rfl
  | v :: vs => by rw [wipeS_cons, List.length_set, wipeS_len st vs]
theorem backS_len (old st : DS) : ∀ vs : List Nat, (backS vs old st).length = st.length
  | [] => rfl
  | v :: vs => by rw [backS_cons, List.length_set, backS_len old st vs]
theorem wipeS_get (st : DS) : ∀ (vs : List Nat) {j : Nat} {a : A}, (wipeS vs st)[j]? = some (some a) → j ∉ vs ∧ st[j]? = some (some a)
  | [], _, _, h => ⟨by simp, h⟩
  | v :: vs, j, a, h => by
    rw [wipeS_cons] at h
    rcases set_get h with ⟨_, e, _⟩ | ⟨n, e⟩
    · cases e
    · obtain ⟨h1, h2⟩ := wipeS_get st vs e
      exact ⟨fun q => by rcases List.mem_cons.mp q with q | q <;> first | exact n q | exact h1 q, h2⟩
theorem backS_get (old st : DS) : ∀ (vs : List Nat) {j : Nat} {a : A}, (backS vs old st)[j]? = some (some a) → (j ∉ vs ∧ st[j]? = some (some a)) ∨ ∃ d, a = .val d ∧ old[j]? = some (some (.val d))
  | [], _, _, h => .inl ⟨by simp, h⟩
  | v :: vs, j, a, h => by
    rw [backS_cons] at h
    rcases set_get h with ⟨e0, e, _⟩ | ⟨n, e⟩
    · subst e0
      unfold keptA at e
      split at e
      · rename_i d hd
        cases e
        exact .inr ⟨d, rfl, hd⟩
      · cases e
    · rcases backS_get old st vs e with ⟨h1, h2⟩ | h
      · exact .inl ⟨fun q => by rcases List.mem_cons.mp q with q | q <;> first | exact n q | exact h1 q, h2⟩
      · exact .inr h
section
variable {K : PySem.W.Frag} {θ : Nat → Addr} {Z Z' : Addr → Prop} {H H' : Hp} {st st' : DS} {σ σ' : St}
theorem own_wipe {vs : List Nat} {p : Addr} (h : Own (wipeS vs st) (wipe σ vs) p) : Own st σ p := by
  obtain ⟨j, x, d, h1, h2⟩ := h
  obtain ⟨n, e⟩ := wipeS_get st vs h1
  exact ⟨j, x, d, e, by rw [← wipe_at σ vs j n]; exact h2⟩
theorem Rl.wipe (l : Rl K θ Z H st σ) (vs : List Nat) : Rl K θ Z H (wipeS vs st) (L2.wipe σ vs) where
  len := by rw [wipeS_len, wipe_len]; exact l.len
  slot := fun j a h => by
    obtain ⟨n, e⟩ := wipeS_get st vs h
    have hw := wipe_at σ vs j n
    cases l.slot j a e with
    | val e1 r => exact .val (hw.trans e1) r
    | own e1 nz c t => exact .own (hw.trans e1) nz c t
  inj := fun j k p ⟨x, d, h1, h2⟩ ⟨y, e, k1, k2⟩ => by
    obtain ⟨n1, e1⟩ := wipeS_get st vs h1
    obtain ⟨n2, e2⟩ := wipeS_get st vs k1
    exact l.inj j k p ⟨x, d, e1, (wipe_at σ vs j n1).symm.trans h2⟩ ⟨y, e, e2, (wipe_at σ vs k n2).symm.trans k2⟩
  dom := l.dom
theorem at_wipe {vs : List Nat} (hw : L2.wipe σ' vs = L2.wipe σ vs) {j : Nat} (n : j ∉ vs) : σ[j]? = σ'[j]? := by rw [← wipe_at σ vs j n, ← wipe_at σ' vs j n, hw]
theorem own_back {vs : List Nat} (hw : L2.wipe σ' vs = L2.wipe σ vs) {old : DS} {p : Addr} (h : Own (backS vs old st') σ p) : Own st' σ' p := by
  obtain ⟨j, x, d, h1, h2⟩ := h
  rcases backS_get old st' vs h1 with ⟨n, e⟩ | ⟨_, e, _⟩
  · exact ⟨j, x, d, e, by rw [← at_wipe hw n]; exact h2⟩
  · cases e
/-- the frame as it was, own names back -/
theorem Rl.back (l : Rl K θ Z H st σ) (l' : Rl K θ Z' H' st' σ') {vs : List Nat} (hw : L2.wipe σ' vs = L2.wipe σ vs) (k : Kp Z H Z' H') : Rl K θ Z' H' (backS vs st st') σ where
  len := by rw [backS_len, l'.len, ← wipe_len σ' vs, hw, wipe_len]
  slot := fun j a h => by
    rcases backS_get st st' vs h with ⟨n, e⟩ | ⟨d, rfl, e⟩
    · have hj := at_wipe hw n
      cases l'.slot j a e with
      | val e1 r => exact .val (hj.trans e1) r
      | own e1 nz c t => exact .own (hj.trans e1) nz c t
    · obtain ⟨v, h1, h2⟩ := l.at_val e
      exact .val h1 (h2.kp k)
  inj := fun j k p ⟨x, d, h1, h2⟩ ⟨y, e, k1, k2⟩ => by
    rcases backS_get st st' vs h1 with ⟨n1, e1⟩ | ⟨_, q, _⟩
    · rcases backS_get st st' vs k1 with ⟨n2, e2⟩ | ⟨_, q, _⟩
      · exact l'.inj j k p ⟨x, d, e1, (at_wipe hw n1).symm.trans h2⟩ ⟨y, e, e2, (at_wipe hw n2).symm.trans k2⟩
      · cases q
    · cases q
  dom := l'.dom
end
/-- a new object, that nobody holds, is changed -/
theorem Stp.wrN {O Z O' Z' : Addr → Prop} {H H' : Hp} (x : Stp O Z H O' Z' H') {D : Addr} {o u : HO} (h0 : H D = none) (h1 : H' D = some u) (hc : Ct u) : Stp O Z H O' Z' (upd H' D o) where
  keep := fun a w ht h n => by rw [upd_ne (ne_of_none h h0)]; exact x.keep a w ht h n
  zz := x.zz
  zo := x.zo
  oo := x.oo
  ow := fun a h => by
    by_cases e : a = D
    · subst e; exact absurd h0 h
    · rw [upd_ne e]; exact x.ow a h
  tb := fun P q h => tabs_wr h1 hc (x.tb P q h)
theorem Kp.wrN {Z : Addr → Prop} {H : Hp} {D : Addr} {o u : HO} (h1 : H D = some u) (hc : Ct u) (nz : ¬ Z D) : Kp Z H Z (upd H D o) where
  zz := fun _ h => h
  fz := fun a w _ hz h => by
    have ne : a ≠ D := fun e => nz (e ▸ hz)
    rcases h with h | ⟨o', h⟩
    · exact .inl (by rw [upd_ne ne]; exact h)
    · exact .inr ⟨o', by rw [upd_ne ne]; exact h⟩
  tp := fun a xs h => by
    have ne : a ≠ D := fun e => by rw [e, h1] at h; cases h; exact hc
    rw [upd_ne ne]; exact h
theorem Kq.wrN {Z : Addr → Prop} {H : Hp} {D : Addr} {o u : HO} (h1 : H D = some u) (hc : Ct u) (nz : ¬ Z D) : Kq Z H Z (upd H D o) := ⟨Kp.wrN h1 hc nz, fun a od w z h => by
  have ne : a ≠ D := fun e => nz (e ▸ z)
  rw [upd_ne ne]; exact h⟩
theorem Rl.wrN {K : PySem.W.Frag} {θ : Nat → Addr} {Z : Addr → Prop} {H : Hp} {st : DS} {σ : St} (l : Rl K θ Z H st σ) {D : Addr} {o u : HO} (h1 : H D = some u) (hc : Ct u) (nz : ¬ Z D) (no : ¬ Own st σ D) : Rl K θ Z (upd H D o) st σ :=
  l.move (Kp.wrN h1 hc nz) (fun p w hp _ h => by
    have ne : p ≠ D := fun e => no (e ▸ hp)
    rw [upd_ne ne]; exact h) (fun p hp => (l.okO p hp).1) fun a hz => by
      have ne : a ≠ D := fun e => nz (e ▸ hz)
      rw [upd_ne ne]; exact l.dom a hz
/-- a new object that nobody holds stays new, and as it is -/
theorem Stp.away {O Z O' Z' : Addr → Prop} {H H' : Hp} (x : Stp O Z H O' Z' H') {D : Addr} {u : HO} (h : H D = some u) (hc : Ct u) (no : ¬ O D) (nz : ¬ Z D) : H' D = some u ∧ ¬ O' D ∧ ¬ Z' D :=
by
  refine ⟨x.keep D u (ct_not_tbl hc) h no, fun q => ?_, fun q => nz (x.zo D (by rw [h]; exact fun z => by cases z) no q)⟩
  rcases x.oo D q with z | z
  · exact no z
  · rw [h] at z; cases z
theorem noEx_ne {α : Type} {m : R α} (c : Str) : noEx m ≠ .ex c := by
  cases m <;> exact fun e => by cases e
theorem noEx_ok {α : Type} {m : R α} {a : α} (h : noEx m = .ok a) : m = .ok a := by
  cases m with
  | ok b => exact h
  | ex c => cases h
  | bad => cases h
/-- a step that doesn't raise, elsewhere -/
theorem Po.noex {X : Cx} {E : XK} {O : Addr → Prop} {H : Hp} {α β : Type} {m : R (α × DS)} {k : α × DS → R (β × DS)} {C : β → DS → Prop} {X' : Cx} {E' : XK} {O' : Addr → Prop} {H' : Hp} {C' : α → DS → Prop} (h : Po X E O H (noEx m >>= k) C) (hk : ∀ a st, m = .ok (a, st) → Po X E O H (k (a, st)) C → C' a st) : Po X' E' O' H' m C' := by
  cases m with
  | ok p => exact hk p.1 p.2 rfl h
  | ex c => exact False.elim h
  | bad => exact False.elim h
/-- what a comprehension's walk is over -/
structure WalkC (K : PySem.W.Frag) (θ : Nat → Addr) (σ : St) (J : L2.It) (ds : List D) (G : DS → Prop) (Z : Addr → Prop) (H : Hp) : Prop where
  len : ds.length ≤ sizeLine
  goes : ∀ Z2 H2 st2 i, Kq Z H Z2 H2 → Rl K θ Z2 H2 st2 σ → G st2 → i < ds.length → J.go i H2
  stops : ∀ Z2 H2 st2, Kq Z H Z2 H2 → Rl K θ Z2 H2 st2 σ → G st2 → J.stop ds.length H2
  yields : ∀ Z2 H2 st2 i x H3, Kq Z H Z2 H2 → Rl K θ Z2 H2 st2 σ → G st2 → i < ds.length → J.yld i H2 x H3 → ∃ d, ds[i]? = some d ∧ Res K Z2 H2 x (.val d) H3
theorem WalkD.toC {K : PySem.W.Frag} {θ : Nat → Addr} {σ : St} {J : L2.It} {ds : List D} {Z : Addr → Prop} {H : Hp} (w : WalkD K J ds Z H) : WalkC K θ σ J ds (fun _ => True) Z H where
  len := w.len
  goes := fun Z2 H2 _ i k _ _ h => w.goes Z2 H2 i k h
  stops := fun Z2 H2 _ k _ _ => w.stops Z2 H2 k
  yields := fun Z2 H2 _ i x H3 k l _ h y => w.yields Z2 H2 i x H3 k l.dom h y
section
variable {X : Cx} {E : XK} {θ : Nat → Addr}
/-- a target that stores at slots of vs alone -/
def GInV (X : Cx) (E : XK) (θ : Nat → Addr) (vs : List Nat) (g : DG) (v : V) (σ : St) (H : Hp) (Q : St → Hp → Prop) : Prop :=
  ∃ O0 Z0 H0 Z st r st', Stp O0 Z0 H0 (Own st σ) Z H ∧ Rl X.K θ Z H st σ ∧ RvOk X.K Z H st σ v r ∧ RvNew O0 H0 v r ∧ g r st = .ok st' ∧ ∀ σ' H' Z', Bd H' → wipe σ' vs = wipe σ vs → Stp O0 Z0 H0 (Own st' σ') Z' H' → Kq Z H Z' H' → Rl X.K θ Z' H' st' σ' → Q σ' H'
def GsInV (X : Cx) (E : XK) (θ : Nat → Addr) (vs : List Nat) (gs : List DG) (ws : List V) (σ : St) (H : Hp) (Q : St → Hp → Prop) : Prop :=
  ∃ O0 Z0 H0 Z st ds st', Stp O0 Z0 H0 (Own st σ) Z H ∧ Rl X.K θ Z H st σ ∧ RpL X.K Z H ws ds ∧ bEach gs ds st = .ok st' ∧ ∀ σ' H' Z', Bd H' → wipe σ' vs = wipe σ vs → Stp O0 Z0 H0 (Own st' σ') Z' H' → Kq Z H Z' H' → Rl X.K θ Z' H' st' σ' → Q σ' H'
def QGv (X : Cx) (E : XK) (θ : Nat → Addr) (vs : List Nat) (tg : Expr) (g : DG) : Prop := PG X tg (GInV X E θ vs g)
def QGsv (X : Cx) (E : XK) (θ : Nat → Addr) (vs : List Nat) (tgs : List Expr) (gs : List DG) : Prop := PGs X tgs (GsInV X E θ vs gs)
theorem wipe_in (σ : L2.St) : ∀ (vs : List Nat) (j : Nat), j ∈ vs → (wipe σ vs)[j]? = if j < σ.length then some none else none
  | [], _, h => by cases h
  | v :: vs, j, h => by
    rw [wipe_cons]
    by_cases e : v = j
    · subst e
      rw [List.getElem?_set, if_pos rfl, wipe_len]
    · rw [List.getElem?_set_ne e]
      exact wipe_in σ vs j ((List.mem_cons.mp h).resolve_left (Ne.symm e))
theorem wipe_set (σ : L2.St) (vs : List Nat) (i : Nat) (w : Option V) (h : i ∈ vs) : wipe (σ.set i w) vs = wipe σ vs := by
  apply List.ext_getElem?
  intro j
  by_cases hj : j ∈ vs
  · rw [wipe_in _ vs j hj, wipe_in _ vs j hj, List.length_set]
  · rw [wipe_at _ vs j hj, wipe_at _ vs j hj, List.getElem?_set_ne (fun e => hj (by rw [← e]; exact h))]
theorem wipe_wipe (σ : L2.St) (vs : List Nat) : wipe (wipe σ vs) vs = wipe σ vs := by
  apply List.ext_getElem?
  intro j
  by_cases hj : j ∈ vs
  · rw [wipe_in _ vs j hj, wipe_in _ vs j hj, wipe_len]
  · rw [wipe_at _ vs j hj]
theorem qgv_name {vs : List Nat} {i : Nat} {x : Str} {pos : Pos} (hv : i ∈ vs) (hN : X.N.Nodup) (hi : X.N[i]? = some x) (hx : Loc X.env.scope x) (hf : X.fn x = true ∨ X.env.scope.names.lookup x = some .local := by first | exact .inl rfl | exact .inr rfl | assumption) : QGv X E θ vs (.Name x pos) (bName i) :=
  PG.bd (pg_name hN hi hx hf) fun v σ H Q bd ⟨O0, Z0, H0, Z, st, r, st', x, l, o, n, e, q⟩ =>
    bName_ends (X := X) (E := E) (θ := θ) (Q := fun σ' H' => σ' = σ.set i (some v) → Q σ' H') bd ⟨O0, Z0, H0, Z, st, r, st', x, l, o, n, e, fun σ' H' Z' b y k l' e => q σ' H' Z' b (by rw [e]; exact wipe_set σ vs i _ hv) y k l'⟩ rfl
theorem qgsv_nil {vs : List Nat} : QGsv X E θ vs [] [] := PGs.bd pgs_nil fun ws σ H Q bd ⟨O0, Z0, H0, Z, st, ds, st', x, l, rs, e, q⟩ => by
  cases rs with
  | nil =>
    cases e
    exact ⟨rfl, q _ _ _ bd rfl x kq_refl l⟩
  | cons _ _ => cases e
theorem qgsv_cons {vs : List Nat} {e : Expr} {es : List Expr} {g : DG} {gs : List DG} (h1 : QGv X E θ vs e g) (h2 : QGsv X E θ vs es gs)
    (hs : (assignEach (e :: es) X.env).map (·.2) = assign e X.env :: (assignEach es X.env).map (·.2) := by rfl) : QGsv X E θ vs (e :: es) (g :: gs) := PGs.bd (pgs_cons h1 h2 hs) fun ws σ H Q bd ⟨O0, Z0, H0, Z, st, ds, st', x, l, rs, e, q⟩ => by
  cases rs with
  | nil => cases e
  | @cons v vs' d ds r rs =>
    unfold bEach at e
    cases e1 : g (.val d) st with
    | ok st1 =>
      rw [e1] at e
      refine ⟨v, vs', rfl, O0, Z0, H0, Z, st, .val d, st1, x, l, .val r, new_val, e1, fun σ1 H1 Z1 b1 w1 x1 k1 l1 => ?_⟩
      exact ⟨O0, Z0, H0, Z1, st1, ds, st', x1, l1, rs.kp k1.k, e, fun σ' H' Z' b' w' x' k' l' => q _ _ _ b' (w'.trans w1) x' (k1.trans k') l'⟩
    | ex c => rw [e1] at e; cases e
    | bad => rw [e1] at e; cases e
theorem bEach_len : ∀ (gs : List DG) (ds : List D) (st st' : DS), bEach gs ds st = .ok st' → ds.length = gs.length := by
  intro gs
  induction gs with
  | nil =>
    intro ds st st' h
    cases ds with
    | nil => rfl
    | cons _ _ => cases h
  | cons g gs ih =>
    intro ds st st' h
    cases ds with
    | nil => cases h
    | cons d ds =>
      unfold bEach at h
      cases e1 : g (.val d) st with
      | ok st1 => rw [e1] at h; simp [ih ds st1 st' h]
      | ex c => rw [e1] at h; cases h
      | bad => rw [e1] at h; cases h
theorem qgv_tup {vs : List Nat} {es : List Expr} {k : Nat} {gs : List DG} {n : Nat} {pos : Pos} (hc : X.calm = true) (h : QGsv X E θ vs es gs) (hgs : gs.length = n := by rfl)
    (hn : (assignEach es X.env).length = n := by rfl) (hst : (assignEach es X.env).findIdx? (·.1) = none := by rfl) : QGv X E θ vs (.Tuple es k pos) (bTup gs) := PG.bd (pg_tup hc h hn hst) fun v σ H Q bd ⟨O0, Z0, H0, Z, st, r, st', x, l, o, n, e, q⟩ => by
  unfold bTup at e
  cases hd : r.asVal with
  | ok d =>
    rw [hd] at e
    obtain ⟨Z', x', l', rp, k, _⟩ := o.asVal l x n hd
    cases d with
    | tuple ds =>
      cases rp with
      | tup hp rs =>
        refine ⟨_, _, rfl, SqT.of hp, by rw [rs.length, bEach_len _ _ _ _ e, hgs], O0, Z0, H0, Z', st, ds, st', x', l', rs, e, fun σ1 H1 Z1 b1 w1 x1 k1 l1 => q _ _ _ b1 w1 x1 ((⟨k, fun _ _ _ _ h => h⟩ : Kq _ _ _ _).trans k1) l1⟩
    | _ => cases e
  | ex c => rw [hd] at e; cases e
  | bad => rw [hd] at e; cases e
theorem R.bind_assoc {α β γ : Type} (m : R α) (f : α → R β) (g : β → R γ) : (m >>= f) >>= g = m >>= fun a => f a >>= g := by
  cases m <;> rfl
theorem Po.guardB {O : Addr → Prop} {H : Hp} {α β : Type} {p : Prop} {m : R α} {k : α → R (β × DS)} {C : β → DS → Prop} (h : Po X E O H (guardP p m >>= k) C) : p ∧ Po X E O H (m >>= k) C := by
  unfold guardP at h
  by_cases hp : p
  · rw [if_pos hp] at h; exact ⟨hp, h⟩
  · rw [if_neg hp] at h; exact False.elim h
theorem Bd.upd {H : Hp} (b : Bd H) {D : Addr} {xs : List V} (h : xs.length ≤ sizeLine) : Bd (L2.upd H D (.lst xs)) := fun a u r => by
  by_cases e : a = D
  · subst e
    rcases r with r | ⟨o, r⟩
    · rw [upd_same] at r; cases r; exact h
    · rw [upd_same] at r; cases r
  · refine b a u ?_
    rcases r with r | ⟨o, r⟩
    · rw [upd_ne e] at r; exact .inl r
    · rw [upd_ne e] at r; exact .inr ⟨o, r⟩
theorem ce_bd {O Z : Addr → Prop} {H : Hp} {σ : St} {Q : VK} {r : RV} {st : DS} (c : CE X.K θ O Z H σ Q r st) : CE X.K θ O Z H σ (fun v H' => Bd H' → Q v H') r st := fun v H' Z' b y l o n _ => c v H' Z' b y l o n
theorem comp_core {X' : Cx} (hK : X'.K = X.K) {g : DG} (hgne : ∀ r st c, g r st ≠ .ex c) {mt : DT} {me : DE} {vs : List Nat} {O0 Z0 : Addr → Prop} {H0 : Hp} {st1 : DS} {σ : St} {Z1 : Addr → Prop} {H1 : Hp} {J : L2.It} {ds : List D} {G : DS → Prop} {Q : VK} (b1 : Bd H1) (x : Stp O0 Z0 H0 (Own st1 σ) Z1 H1) (l1 : Rl X.K θ Z1 H1 st1 σ) (w : WalkC X.K θ σ J ds G Z1 H1)
    (p : Po X E O0 H0 (compL G vs g mt me ds st1 >>= fun q => pure (RV.fresh (.list q.1), q.2)) (CE X.K θ O0 Z0 H0 σ Q)) (D : Addr) (hD : H1 D = none) :
    ∃ W : Nat → Nat → Hp → Prop, (∃ m, W 0 m (upd H1 D (HO.lst []))) ∧ ∀ (i m : Nat) (H : Hp), W i m H → J.stop i H ∧ Q (V.ref D) H ∨ J.go i H ∧ ∃ Nx : Hp → Prop, (∀ H' : Hp, Nx H' → ∃ m', m' < m ∧ W (i + 1) m' H') ∧ ∀ (x : V) (H' : Hp), J.yld i H x H' → GInV X' E0 θ vs g x (wipe σ vs) H' fun σ2 H2 => wipe σ2 vs = wipe σ vs ∧ rdT X' E0 θ mt σ2 H2 fun b H3 => if b = true then rdE X' E0 θ me σ2 H3 fun y H4 => ∃ acc, H4 D = some (HO.lst acc) ∧ acc.length < sizeLine ∧ Nx (upd H4 D (HO.lst (acc ++ [y]))) else Nx H3 := by
  have h0D : H0 D = none := by
    cases q : H0 D with
    | none => rfl
    | some u => exact absurd hD (x.ow D (by rw [q]; exact fun z => by cases z))
  let P : Nat → Nat → Hp → Prop := fun i m H' => m + i = ds.length ∧ Bd H' ∧ ∃ Z' st' acc xs, Stp O0 Z0 H0 (Own st' σ) Z' H' ∧ Rl X.K θ Z' H' st' σ ∧ Kq Z1 H1 Z' H' ∧ H' D = some (.lst acc) ∧ ¬ Own st' σ D ∧ ¬ Z' D ∧ RpL X.K Z' H' acc xs ∧ acc.length ≤ i ∧ Po X E O0 H0 (compL G vs g mt me (ds.drop i) st' >>= fun q => pure (RV.fresh (.list (xs ++ q.1)), q.2)) (CE X.K θ O0 Z0 H0 σ Q)
  have hnz1 : ¬ Z1 D := fun z => l1.dom D z hD
  have hno1 : ¬ Own st1 σ D := fun z => by
    obtain ⟨_, u, hu, _⟩ := l1.okO D z
    rw [hD] at hu; cases hu
  refine ⟨P, ⟨ds.length, rfl, b1.upd (Nat.zero_le _), Z1, st1, [], [], x.trans (Stp.new hD), l1.new hD, (Stp.new (O := Own st1 σ) (Z := Z1) hD).kq (K := X.K) l1.okO, upd_same, hno1, hnz1, .nil, Nat.zero_le _, p⟩, fun i m H' ⟨hm, bd', Z', st', acc, xs, x', l', k', hD', no', nz', rl, hacc, p'⟩ => ?_⟩
  by_cases hlt : i < ds.length
  · have hdrop : ds.drop i = ds[i] :: ds.drop (i + 1) := List.drop_eq_getElem_cons hlt
    rw [hdrop] at p'
    unfold compL at p'
    obtain ⟨hG, p'⟩ := p'.guardB
    refine .inr ⟨w.goes Z' H' st' i k' l' hG hlt, fun H2 => Bd H2 ∧ ∃ Z2 st2 acc xs, Stp O0 Z0 H0 (Own st2 σ) Z2 H2 ∧ Rl X.K θ Z2 H2 st2 σ ∧ Kq Z1 H1 Z2 H2 ∧ H2 D = some (.lst acc) ∧ ¬ Own st2 σ D ∧ ¬ Z2 D ∧ RpL X.K Z2 H2 acc xs ∧ acc.length ≤ i + 1 ∧ Po X E O0 H0 (compL G vs g mt me (ds.drop (i + 1)) st2 >>= fun q => pure (RV.fresh (.list (xs ++ q.1)), q.2)) (CE X.K θ O0 Z0 H0 σ Q), fun H2 ⟨b2, h2⟩ => ⟨m - 1, by omega, by omega, b2, h2⟩, fun v H2 hy => ?_⟩
    obtain ⟨d, hd, res⟩ := w.yields Z' H' st' i v H2 k' l' hG hlt hy
    have hd' : ds[i] = d := by
      rw [List.getElem?_eq_getElem hlt] at hd
      exact Option.some.inj hd
    rw [hd'] at p'
    obtain ⟨y, l2, o2, _⟩ := res.ends l'
    have o2' : RvOk X.K Z' H2 st' σ v (.val d) := o2
    rw [R.bind_assoc] at p'
    cases e1 : g (.val d) (wipeS vs st') with
    | bad => rw [e1] at p'; exact False.elim p'
    | ex c => exact absurd e1 (hgne _ _ _)
    | ok s1 =>
      rw [e1] at p'
      simp only [R.ok_bind] at p'
      have rv : Rp X.K Z' H2 v d := by cases o2' with | val h => exact h
      refine ⟨Own st' σ, Z', H', Z', wipeS vs st', .val d, s1, y.own fun a h => .inl (own_wipe h), by rw [hK]; exact l2.wipe vs, .val (by rw [hK]; exact rv), new_val, e1, fun σ3 H3 Z3 b3 w3 x3 k3 l3 => ⟨?_, ?_⟩⟩
      · rw [w3, wipe_wipe]
      · have hw : wipe σ3 vs = wipe σ vs := by rw [w3, wipe_wipe]
        have l3' : Rl X.K θ Z3 H3 s1 σ3 := hK ▸ l3
        rw [R.bind_assoc] at p'
        refine ⟨Z3, s1, l3, p'.noex fun b s2 e2 p2 => ?_⟩
        intro H4 Z4 b4 x4 l4
        have l4' : Rl X.K θ Z4 H4 s2 σ3 := hK ▸ l4
        have x34 := x3.trans x4
        have kk : Kq Z' H' Z4 H4 := x34.kq (K := X.K) l'.okO
        obtain ⟨hD4, no4, nz4⟩ := x34.away hD' trivial no' nz'
        cases b with
        | false =>
          refine iteF ?_
          exact ⟨b4, Z4, backS vs st' s2, acc, xs, x'.trans (x34.own fun a h => x34.oo a (own_back hw h)), l'.back l4' hw kk.k, k'.trans kk, hD4, fun h => no4 (own_back hw h), nz4, rl.kp kk.k, by omega, p2⟩
        | true =>
          refine iteT ?_
          simp only [if_true] at p2
          rw [R.bind_assoc] at p2
          refine ⟨Z4, s2, l4, p2.noex fun r s3 e3 p3 => ?_⟩
          intro v5 H5 Z5 b5 x5 l5 o5 n5
          have l5' : Rl X.K θ Z5 H5 s3 σ3 := hK ▸ l5
          have o5' : RvOk X.K Z5 H5 s3 σ3 v5 r := hK ▸ o5
          cases hr : r.asVal with
          | bad => simp only [hr, R.bad_bind] at p3; exact False.elim p3
          | ex c => exact absurd hr (asVal_ne c)
          | ok dx =>
            simp only [hr, R.ok_bind] at p3
            rw [R.bind_assoc] at p3
            obtain ⟨Z6, x6, l6, rp6, k6, _⟩ := o5'.asVal l5' x5 n5 hr
            have x36 := x34.trans x6
            have kk6 : Kq Z' H' Z6 H5 := x36.kq (K := X.K) l'.okO
            obtain ⟨hD5, no5, nz5⟩ := x36.away hD' trivial no' nz'
            have kw : Kq Z6 H5 Z6 (L2.upd H5 D (.lst (acc ++ [v5]))) := Kq.wrN hD5 trivial nz5
            have hb : ¬ Own (backS vs st' s3) σ D := fun h => no5 (own_back hw h)
            have hwl := w.len
            refine ⟨acc, hD5, by omega, b5.upd (by rw [List.length_append, List.length_singleton]; omega), Z6, backS vs st' s3, acc ++ [v5], xs ++ [dx], ?_, ?_, (k'.trans kk6).trans kw, upd_same, hb, nz5, ((rl.kp kk6.k).append (.cons rp6 .nil)).kp kw.k, by rw [List.length_append, List.length_singleton]; omega, ?_⟩
            · exact (x'.trans (x36.own fun a h => x36.oo a (own_back hw h))).wrN h0D hD5 trivial
            · exact (l'.back l6 hw kk6.k).wrN hD5 trivial nz5 hb
            · have he : (fun (q : List PyData × DS) => (pure (RV.fresh (.list (xs ++ [dx] ++ q.1)), q.2) : R (RV × DS))) = fun q => pure (RV.fresh (.list (xs ++ (dx :: q.1))), q.2) := by
                funext q
                rw [List.append_assoc]; rfl
              rw [he]
              exact p3
  · refine .inl ?_
    rw [List.drop_of_length_le (by omega)] at p'
    unfold compL at p'
    obtain ⟨hG, p'⟩ := p'.guardB
    have e : i = ds.length := by omega
    refine ⟨by rw [e]; exact w.stops Z' H' st' k' l' hG, ?_⟩
    have p2 : CE X.K θ O0 Z0 H0 σ Q (RV.fresh (.list (xs ++ []))) st' := p'
    rw [List.append_nil] at p2
    exact p2 _ _ _ bd' x' l' (.fresh rfl nz' no' (.lst hD' rl)) fun q d e1 e2 => by
      cases e2
      exact .inr h0D
/-- the promises of a comprehension's own context -/
theorem px_blk {s : Shared} {H : Hp} {scope : Scope} {cenv : Env} {fp : List Addr} : Px (X.blk s H scope cenv fp) E0 := fun pins σ H' s' e s'' I h => by
  obtain ⟨a, B, H2, cls, d, _, _, _, _, _, _, _, z⟩ := h
  exact z.elim
theorem tx_blk {s : Shared} {H : Hp} {scope : Scope} {cenv : Env} {fp : List Addr} : Tx (X.blk s H scope cenv fp) E0 := fun u s' h => by
  obtain ⟨a, B, sI, pins, σ, H', cls, d, _, _, _, _, _, _, _, _, z⟩ := h
  exact z.elim
theorem qe_comp {elt tg iter : Expr} {ifs : List Expr} {scope : Scope} {own : List (Str × Nat)} {pos : Pos} {mi : DI} {g : DG} {mt : DT} {me : DE} (hc : X.calm = true) (hN : X.N.Nodup) (hgne : ∀ r st c, g r st ≠ .ex c) (hi : QI X E θ tg iter mi) (ok : BlkOk X.N X.env.scope scope own)
    (hg : ∀ (s : Shared) (H : Hp) (C : Addr) (cl : List (Str × Addr)) (fp : List Addr), QGv (X.blk s H scope (compEnvC scope cl C X.env) fp) E0 θ (own.map (·.2)) tg g)
    (ht : ∀ (s : Shared) (H : Hp) (C : Addr) (cl : List (Str × Addr)) (fp : List Addr), PTs (X.blk s H scope (compEnvC scope cl C X.env) fp) ifs (rdT (X.blk s H scope (compEnvC scope cl C X.env) fp) E0 θ mt))
    (he : ∀ (s : Shared) (H : Hp) (C : Addr) (cl : List (Str × Addr)) (fp : List Addr), QE (X.blk s H scope (compEnvC scope cl C X.env) fp) E0 θ elt me)
    (hs : ∀ x, foldedSetIterable iter X.env x = pure x := by intro _; rfl) : QE X E θ (.ListComp elt [⟨tg, iter, ifs, 0⟩] scope pos) (eComp (own.map (·.2)) mi g mt me) := by
  have hg' : ∀ (s : Shared) (H : Hp) (C : Addr) (cl : List (Str × Addr)) (fp : List Addr), PG (X.blk s H scope (compEnvC scope cl C X.env) fp) tg (GInV X E0 θ (own.map (·.2)) g) := fun s H C cl fp => hg s H C cl fp
  have ht' : ∀ (s : Shared) (H : Hp) (C : Addr) (cl : List (Str × Addr)) (fp : List Addr), PTs (X.blk s H scope (compEnvC scope cl C X.env) fp) ifs (rdT X E0 θ mt) := fun s H C cl fp => ht s H C cl fp
  have he' : ∀ (s : Shared) (H : Hp) (C : Addr) (cl : List (Str × Addr)) (fp : List Addr), PE (X.blk s H scope (compEnvC scope cl C X.env) fp) elt (rdE X E0 θ me) := fun s H C cl fp => he s H C cl fp
  refine QE.mk (pe_lc hc hN hi ok hg' ht' he' hs) fun σ H Z st Q bd l p => ?_
  unfold eComp at p
  exact ⟨Z, st, l, p.bind fun ds st1 e1 p J H1 Z1 b1 x l1 w D hD => comp_core (X' := X) rfl hgne b1 x l1 w.toC (p.mono fun _ _ => ce_bd) D hD⟩
/-- what a rule's reading wants of a denotation -/
def ImpE (X : Cx) (E : XK) (θ : Nat → Addr) (te : TE) (m : DE) : Prop := ∀ σ H Z st Q, Bd H → Rl X.K θ Z H st σ → Po X E (Own st σ) H (m st) (CE X.K θ (Own st σ) Z H σ Q) → te σ H fun v H' => Bd H' → Q v H'
theorem qs_setN2 {s : Stmt} {te : TE} {m : DE} {i : Nat} (h : PS X s (tAsg te (L2.gName i))) (hi : ImpE X E θ te m) : QS X E θ s (sSet (bName i) m) := QS.mk h fun W σ H Z st bd l p => by
  refine hi σ H Z st (fun v H1 => W.nx (σ.set i (some v)) H1) bd l ?_
  unfold sSet at p
  refine p.bind fun r st1 _ p v H1 Z1 b1 x l1 o n => ?_
  cases e2 : bName i r st1 with
  | ok st2 =>
    have p' : CS X.K θ (Own st σ) Z H W .nx st2 := by
      have p := p
      simp only [e2, R.ok_bind] at p
      exact p
    exact bName_ends (X := X) (E := E) (θ := θ) b1 ⟨_, _, _, Z1, st1, r, st2, x, l1, o, n, e2, fun σ' H' Z' b' x' _ l' => p' _ _ _ b' x' l'⟩
  | ex c => exact absurd e2 (bName_ne _ _ _)
  | bad => simp only [e2, R.bad_bind] at p; exact False.elim p
theorem qs_setO2 {s : Stmt} {te : TE} {m : DE} {i : Nat} (h : PS X s (tAsg te (L2.gName i))) (hi : ImpE X E θ te m) : QS X E θ s (sSet (bOwn i) m) := QS.mk h fun W σ H Z st bd l p => by
  refine hi σ H Z st (fun v H1 => W.nx (σ.set i (some v)) H1) bd l ?_
  unfold sSet at p
  refine p.bind fun r st1 _ p v H1 Z1 b1 x l1 o n => ?_
  cases e2 : bOwn i r st1 with
  | ok st2 =>
    have p' : CS X.K θ (Own st σ) Z H W .nx st2 := by
      have p := p
      simp only [e2, R.ok_bind] at p
      exact p
    exact bOwn_ends (X := X) (E := E) (θ := θ) b1 ⟨_, _, _, Z1, st1, r, st2, x, l1, o, n, e2, fun σ' H' Z' b' x' _ l' => p' _ _ _ b' x' l'⟩
  | ex c => exact absurd e2 (bOwn_ne _ _ _)
  | bad => simp only [e2, R.bad_bind] at p; exact False.elim p
theorem comp_imp {tg iter : Expr} {mi : DI} {g : DG} {mt : DT} {me : DE} {vs : List Nat} (hgne : ∀ r st c, g r st ≠ .ex c) : ImpE X E θ (tLc (rdI X E θ mi) (GInV X E0 θ vs g) (rdT X E0 θ mt) (rdE X E0 θ me) vs) (eComp vs mi g mt me) := fun σ H Z st Q bd l p => by
  unfold eComp at p
  exact ⟨Z, st, l, p.bind fun ds st1 e1 p J H1 Z1 b1 x l1 w D hD => comp_core (X' := X) rfl hgne b1 x l1 w.toC (p.mono fun _ _ => ce_bd) D hD⟩
section
variable {elt tg iter : Expr} {ifs : List Expr} {scope : Scope} {own : List (Str × Nat)} {pos spos py : Pos} {y : Str} {i : Nat} {mi : DI} {g : DG} {mt : DT} {me : DE}
theorem ps_comp (hc : X.calm = true) (hN : X.N.Nodup) (hy : X.N[i]? = some y) (hyl : X.env.scope.names.lookup y = some .local) (hsw : swapsWith (.ListComp elt [⟨tg, iter, ifs, 0⟩] scope pos) (some (.Name y py)) spos.line X.env = pure true) (hi : QI X E θ tg iter mi) (ok : BlkOk X.N X.env.scope scope own)
    (hg : ∀ (s : Shared) (H : Hp) (C : Addr) (cl : List (Str × Addr)) (fp : List Addr), QGv (X.blk s H scope (compEnvC scope cl C X.env) fp) E0 θ (own.map (·.2)) tg g)
    (ht : ∀ (s : Shared) (H : Hp) (C : Addr) (cl : List (Str × Addr)) (fp : List Addr), PTs (X.blk s H scope (compEnvC scope cl C X.env) fp) ifs (rdT (X.blk s H scope (compEnvC scope cl C X.env) fp) E0 θ mt))
    (he : ∀ (s : Shared) (H : Hp) (C : Addr) (cl : List (Str × Addr)) (fp : List Addr), QE (X.blk s H scope (compEnvC scope cl C X.env) fp) E0 θ elt me)
    (hs : ∀ x, foldedSetIterable iter X.env x = pure x := by intro _; rfl) : PS X (.Assign [.Name y py] (.ListComp elt [⟨tg, iter, ifs, 0⟩] scope pos) spos) (tAsg (tLc (rdI X E θ mi) (GInV X E0 θ (own.map (·.2)) g) (rdT X E0 θ mt) (rdE X E0 θ me) (own.map (·.2))) (L2.gName i)) := by
  have hg' : ∀ (s : Shared) (H : Hp) (C : Addr) (cl : List (Str × Addr)) (fp : List Addr), PG (X.blk s H scope (compEnvC scope cl C X.env) fp) tg (GInV X E0 θ (own.map (·.2)) g) := fun s H C cl fp => hg s H C cl fp
  have ht' : ∀ (s : Shared) (H : Hp) (C : Addr) (cl : List (Str × Addr)) (fp : List Addr), PTs (X.blk s H scope (compEnvC scope cl C X.env) fp) ifs (rdT X E0 θ mt) := fun s H C cl fp => ht s H C cl fp
  have he' : ∀ (s : Shared) (H : Hp) (C : Addr) (cl : List (Str × Addr)) (fp : List Addr), PE (X.blk s H scope (compEnvC scope cl C X.env) fp) elt (rdE X E0 θ me) := fun s H C cl fp => he s H C cl fp
  exact ps_setLc hc hN hy hyl hsw hi ok hg' ht' he' hs
/-- y = [.. for ..]: y stays as it is; y is an object of this def -/
theorem qs_setLcN (h : PS X (.Assign [.Name y py] (.ListComp elt [⟨tg, iter, ifs, 0⟩] scope pos) spos) (tAsg (tLc (rdI X E θ mi) (GInV X E0 θ (own.map (·.2)) g) (rdT X E0 θ mt) (rdE X E0 θ me) (own.map (·.2))) (L2.gName i))) (hgne : ∀ r st c, g r st ≠ .ex c) : QS X E θ (.Assign [.Name y py] (.ListComp elt [⟨tg, iter, ifs, 0⟩] scope pos) spos) (sSet (bName i) (eComp (own.map (·.2)) mi g mt me)) := qs_setN2 h (comp_imp (tg := tg) (iter := iter) hgne)
theorem qs_setLcO (h : PS X (.Assign [.Name y py] (.ListComp elt [⟨tg, iter, ifs, 0⟩] scope pos) spos) (tAsg (tLc (rdI X E θ mi) (GInV X E0 θ (own.map (·.2)) g) (rdT X E0 θ mt) (rdE X E0 θ me) (own.map (·.2))) (L2.gName i))) (hgne : ∀ r st c, g r st ≠ .ex c) : QS X E θ (.Assign [.Name y py] (.ListComp elt [⟨tg, iter, ifs, 0⟩] scope pos) spos) (sSet (bOwn i) (eComp (own.map (·.2)) mi g mt me)) := qs_setO2 h (comp_imp (tg := tg) (iter := iter) hgne)
end
/-- no test -/
theorem pts_yes {s : Shared} {H : Hp} {scope : Scope} {cenv : Env} {fp : List Addr} : PTs (X.blk s H scope cenv fp) [] (rdT (X.blk s H scope cenv fp) E0 θ QL.tYes) :=
  ⟨fun pins s' σ H' Q I ⟨Z, st, l, p⟩ => pts_nil.run pins s' σ H' Q I (p _ _ (Inv.bd I) Stp.refl l)⟩
theorem pts_if {s : Shared} {H : Hp} {scope : Scope} {cenv : Env} {fp : List Addr} {c : Expr} {t : DT} (h : QT (X.blk s H scope cenv fp) E0 θ c t) : PTs (X.blk s H scope cenv fp) [c] (rdT (X.blk s H scope cenv fp) E0 θ t) := pts_one h
/-- over a list that slot i owns -/
theorem qe_compB {elt tg iter : Expr} {ifs : List Expr} {scope : Scope} {own : List (Str × Nat)} {pos : Pos} {i : Nat} {g : DG} {mt : DT} {me : DE} (hc : X.calm = true) (hN : X.N.Nodup) (hgne : ∀ r st c, g r st ≠ .ex c) (hi : PE X iter (tVar i)) (ok : BlkOk X.N X.env.scope scope own)
    (hg : ∀ (s : Shared) (H : Hp) (C : Addr) (cl : List (Str × Addr)) (fp : List Addr), QGv (X.blk s H scope (compEnvC scope cl C X.env) fp) E0 θ (own.map (·.2)) tg g)
    (ht : ∀ (s : Shared) (H : Hp) (C : Addr) (cl : List (Str × Addr)) (fp : List Addr), PTs (X.blk s H scope (compEnvC scope cl C X.env) fp) ifs (rdT (X.blk s H scope (compEnvC scope cl C X.env) fp) E0 θ mt))
    (he : ∀ (s : Shared) (H : Hp) (C : Addr) (cl : List (Str × Addr)) (fp : List Addr), QE (X.blk s H scope (compEnvC scope cl C X.env) fp) E0 θ elt me)
    (hs : ∀ x, foldedSetIterable iter X.env x = pure x := by intro _; rfl) : QE X E θ (.ListComp elt [⟨tg, iter, ifs, 0⟩] scope pos) (eCompB (own.map (·.2)) i g mt me) := by
  have hg' : ∀ (s : Shared) (H : Hp) (C : Addr) (cl : List (Str × Addr)) (fp : List Addr), PG (X.blk s H scope (compEnvC scope cl C X.env) fp) tg (GInV X E0 θ (own.map (·.2)) g) := fun s H C cl fp => hg s H C cl fp
  have ht' : ∀ (s : Shared) (H : Hp) (C : Addr) (cl : List (Str × Addr)) (fp : List Addr), PTs (X.blk s H scope (compEnvC scope cl C X.env) fp) ifs (rdT X E0 θ mt) := fun s H C cl fp => ht s H C cl fp
  have he' : ∀ (s : Shared) (H : Hp) (C : Addr) (cl : List (Str × Addr)) (fp : List Addr), PE (X.blk s H scope (compEnvC scope cl C X.env) fp) elt (rdE X E0 θ me) := fun s H C cl fp => he s H C cl fp
  refine QE.mk (pe_lc hc hN (pi_list hi) ok hg' ht' he' hs) fun σ H Z st Q bd l p => ?_
  unfold eCompB at p
  split at p
  · rename_i x0 ds h0
    obtain ⟨q, hσ, nz, cn, _⟩ := l.at_own h0
    have cnl : ∀ {Z2 : Addr → Prop} {H2 : Hp} {st2 : DS}, Rl X.K θ Z2 H2 st2 σ → st2[i]? = some (some (.own x0 (.list ds))) → ∃ xs, H2 q = some (.lst xs) ∧ RpL X.K Z2 H2 xs ds := by
      intro Z2 H2 st2 l2 h2
      obtain ⟨q', hσ', _, cn', _⟩ := l2.at_own h2
      rw [hσ] at hσ'; cases hσ'
      cases cn' with
      | lst h r => exact ⟨_, h, r⟩
    obtain ⟨xs, hq, rl⟩ := cnl l h0
    refine ⟨.ref q, hσ, q, rfl, ⟨xs, .inl (.inl hq)⟩, fun D hD => ?_⟩
    have w : WalkC X.K θ σ (Itl X.K q) ds (fun s => s[i]? = some (some (.own x0 (.list ds)))) Z H :=
      { len := by rw [← rl.length]; exact bd _ _ (.inl hq)
        goes := fun Z2 H2 st2 j _ l2 h2 hj => by
          obtain ⟨ys, h, r⟩ := cnl l2 h2
          have hl := r.length
          exact ⟨ys, ys[j]'(by omega), .inl (.inl h), by simp [show j < ys.length by omega]⟩
        stops := fun Z2 H2 st2 _ l2 h2 => by
          obtain ⟨ys, h, r⟩ := cnl l2 h2
          exact ⟨ys, .inl (.inl h), by rw [r.length]; exact Nat.le_refl _⟩
        yields := fun Z2 H2 st2 j x H3 _ l2 h2 hj y => by
          obtain ⟨ys, h, r⟩ := cnl l2 h2
          obtain ⟨e, y⟩ := y
          obtain ⟨d, h1, h2⟩ := r.getV (y ys (.inl (.inl h)))
          subst e
          exact ⟨d, h1, .same h2⟩ }
    exact comp_core (X' := X) rfl hgne bd Stp.refl l w (p.mono fun _ _ => ce_bd) D hD
  · exact False.elim p
end
end QL

end
section
/-! QRule9: a def computes what its body computes. -/
namespace QL
open PySem PySem.Spec PyProof.Rows L2
section
variable {P : Program} {w : World} {K : PySem.W.Frag} {mg : Str → Option Value} {base : Heap} {N ps : List Str} {x qual : Str} {params : Arguments} {body : List Stmt} {scope : Scope} {dvs : List V} {kws : List (Str × V)} {f : Addr} {fd : FuncData} {k : Nat} {den : DM}
/-- the context of a def's body -/
abbrev cxq (P : Program) (w : World) (K : PySem.W.Frag) (mg : Str → Option Value) (base : Heap) (N : List Str) (qual : Str) (scope : Scope) (f : Addr) (cdv : Value) (A : Around) (outer : List Env) (s : Shared) (H : Hp) (E : XK) : Cx := cxOf (L2.CX P w) P w K mg base N qual scope f cdv A outer s H E
theorem slot_start {Z : Addr → Prop} {H : Hp} {θ : Nat → Addr} : ∀ {vs : List V} {ds : List D} (n : Nat), RpL K Z H vs ds → ∀ (i : Nat) (a : A), (ds.map (fun d => some (A.val d)) ++ List.replicate n none)[i]? = some (some a) → ∃ v d, vs[i]? = some v ∧ a = A.val d ∧ Rp K Z H v d
  | _, _, n, .nil, i, a, h => by
    simp only [List.map_nil, List.nil_append] at h
    rw [List.getElem?_replicate] at h
    split at h <;> cases h
  | _, _, n, .cons r t, 0, a, h => by
    simp only [List.map_cons, List.cons_append, List.getElem?_cons_zero, Option.some.injEq] at h
    subst h
    exact ⟨_, _, rfl, rfl, r⟩
  | _, _, n, .cons r t, i + 1, a, h => by
    simp only [List.map_cons, List.cons_append, List.getElem?_cons_succ] at h
    obtain ⟨v, d, h1, h2, h3⟩ := slot_start (θ := θ) n t i a h
    exact ⟨v, d, by simpa using h1, h2, h3⟩
theorem start_at {N : List Str} {vs : List V} {i : Nat} {v : V} (h : vs[i]? = some v) : (L2.start N vs)[i]? = some (some v) := by
  unfold L2.start
  obtain ⟨h1, h2⟩ := List.getElem?_eq_some_iff.mp h
  rw [List.getElem?_append_left (by rw [List.length_map]; exact h1), List.getElem?_map, h]
  rfl
/-- the slots at the start -/
theorem rl_start {Z : Addr → Prop} {H : Hp} {o : Option (Addr × D)} {vs : List V} {ds : List D} (dm : ∀ a, Z a → H a ≠ none) (h : InOk K Z H o vs ds) (hl : vs.length ≤ N.length) :
    ∃ θ : Nat → Addr, (∀ p c, o = some (p, c) → θ 0 = p) ∧ Rl K θ Z H (startD N.length (o.map (·.2)) ds) (L2.start N vs) ∧ (∀ a, Own (startD N.length (o.map (·.2)) ds) (L2.start N vs) a → Op o a) := by
  cases h with
  | val r =>
    have hn : ∀ (i : Nat) (a : A), (startD N.length none ds)[i]? = some (some a) → ∃ v d, vs[i]? = some v ∧ a = A.val d ∧ Rp K Z H v d := slot_start (θ := fun _ => 0) _ r
    refine ⟨fun _ => 0, fun _ _ e => (by cases e), ⟨?_, fun i a e => ?_, fun i j p ⟨x, d, h1, _⟩ => ?_, dm⟩, fun a ⟨i, x, d, h1, _⟩ => ?_⟩
    · show (ds.map (fun d => some (A.val d)) ++ List.replicate (N.length - ds.length) none).length = _
      unfold L2.start
      have := r.length
      simp only [List.length_append, List.length_map, List.length_replicate]
      omega
    · obtain ⟨v, d, h1, rfl, h3⟩ := hn i a e
      exact .val (start_at h1) h3
    · obtain ⟨v, d, _, e, _⟩ := hn i _ h1
      cases e
    · obtain ⟨v, d, _, e, _⟩ := hn i _ h1
      cases e
  | @own p c vs' ds nz cn r =>
    have hn : ∀ (i : Nat) (a : A), (startD N.length (some c) ds)[i]? = some (some a) → (i = 0 ∧ a = A.own true c) ∨ ∃ v d, (V.ref p :: vs')[i]? = some v ∧ a = A.val d ∧ Rp K Z H v d := fun i a e => by
      cases i with
      | zero =>
        have e : some (some (A.own true c)) = some (some a) := e
        cases e
        exact .inl ⟨rfl, rfl⟩
      | succ i =>
        obtain ⟨v, d, h1, h2, h3⟩ := slot_start (θ := fun _ => 0) _ r i a e
        exact .inr ⟨v, d, h1, h2, h3⟩
    have h0 : (L2.start N (V.ref p :: vs'))[(0 : Nat)]? = some (some (.ref p)) := start_at rfl
    refine ⟨fun _ => p, fun _ _ e => (by cases e; rfl), ⟨?_, fun i a e => ?_, fun i j q ⟨x, d, h1, _⟩ ⟨y, e, k1, _⟩ => ?_, dm⟩, fun a ⟨i, x, d, h1, h2⟩ => ?_⟩
    · show (some (A.own true c) :: (ds.map (fun d => some (A.val d)) ++ List.replicate (N.length - (ds.length + 1)) none) : DS).length = _
      unfold L2.start
      have := r.length
      simp only [List.length_append, List.length_map, List.length_replicate, List.length_cons] at hl ⊢
      omega
    · rcases hn i a e with ⟨rfl, rfl⟩ | ⟨v, d, h1, rfl, h3⟩
      · exact .own h0 nz cn fun _ => rfl
      · exact .val (start_at h1) h3
    · rcases hn i _ h1 with ⟨e1, _⟩ | ⟨v, d, _, e, _⟩
      · rcases hn j _ k1 with ⟨e2, _⟩ | ⟨v, d, _, e, _⟩
        · rw [e1, e2]
        · cases e
      · cases e
    · rcases hn i _ h1 with ⟨e1, _⟩ | ⟨v, d, _, e, _⟩
      · subst e1
        rw [h0] at h2
        cases h2
        exact ⟨c, rfl⟩
      · cases e
theorem outOf_end {θ : Nat → Addr} {Z' : Addr → Prop} {H' : Hp} {o : Option (Addr × D)} {st : DS} {σ : St} {c : Option D} (l : Rl K θ Z' H' st σ) (hθ : ∀ p c, o = some (p, c) → θ 0 = p) (h : outOf (o.map (·.2)) st = .ok c) : OutOk K Z' H' o c ∧ (∀ p d, o = some (p, d) → Own st σ p) := by
  cases o with
  | none => exact ⟨trivial, fun _ _ e => by cases e⟩
  | some pc =>
    obtain ⟨p, c0⟩ := pc
    unfold outOf at h
    simp only [Option.map_some] at h
    split at h
    · rename_i c1 h1
      cases h
      obtain ⟨q, hσ, nz, cn, t⟩ := l.at_own h1
      have : θ 0 = p := hθ p c0 rfl
      have e : q = p := by rw [← t rfl, this]
      subst e
      exact ⟨⟨cn, nz⟩, fun _ _ e => by cases e; exact ⟨0, _, _, h1, hσ⟩⟩
    · cases h
theorem fnQ_of (F : FunD K x qual params body scope dvs kws f fd) (S : FnScope N ps scope) (hn : ps.length ≤ N.length)
    (h : ∀ (θ : Nat → Addr) (cdv : Value) (A : Around) (outer : List Env) (s : Shared) (H : Hp) (E : XK), Room k (A.deeper (envOfC qual scope s.heap.objs.size f cdv)) → Tx (cxq P w K mg base N qual scope f cdv A outer s H E) E → Px (cxq P w K mg base N qual scope f cdv A outer s H E) E → PassesOwn (model P w) (A.deeper (envOfC qual scope s.heap.objs.size f cdv)) (envOfC qual scope s.heap.objs.size f cdv) (cxq P w K mg base N qual scope f cdv A outer s H E).xe →
      QSs (cxq P w K mg base N qual scope f cdv A outer s H E) E θ body den) : FnQ P w K mg base (k + 1) f fd ps (bodyF N.length den) := by
  refine F.ok S (fun vs H Q E h => h.1) fun cdv A outer s H vs Q E hr hsp => ?_
  obtain ⟨hl, Z, o, ds, dm, hin, hcf⟩ := hsp
  obtain ⟨θ, hθ, l, hop⟩ := rl_start (N := N) dm hin (by omega)
  have tk : Tx (cxq P w K mg base N qual scope f cdv A outer s H E) E := takes_of rfl rfl rfl rfl
  refine ⟨_, h θ cdv A outer s H E hr tk (passes_call tk fun _ _ _ _ e => e) (passes_of rfl), Z, _, l, ?_⟩
  have stp : ∀ {st1 : DS} {σ : St} {Z' : Addr → Prop} {H' : Hp}, Stp (Own (startD N.length (o.map (·.2)) ds) (L2.start N vs)) Z H (Own st1 σ) Z' H' → Stp (Op o) Z H (Op o) Z' H' := fun x => ⟨fun a u ht h n => x.keep a u ht h fun q => n (hop a q), x.zz, fun a h n q => x.zo a h (fun q => n (hop a q)) q, fun _ h => .inl h, x.ow, x.tb⟩
  unfold bodyF at hcf
  cases hd : den (startD N.length (o.map (·.2)) ds) with
  | bad => rw [hd] at hcf; exact False.elim hcf
  | ex c =>
    rw [hd] at hcf
    cases o with
    | none =>
      obtain ⟨_, a, h1, h2⟩ := hcf
      exact ⟨a, h1, fun H' y => h2 H' ⟨fun b u ht hb _ => y.keep b u ht hb fun q => op_none (hop b q), y.tb⟩⟩
    | some pc => exact False.elim hcf
  | ok r =>
    obtain ⟨fl, st1⟩ := r
    rw [hd] at hcf
    cases fl with
    | bk => exact False.elim hcf
    | ct => exact False.elim hcf
    | nx =>
      cases ho : outOf (o.map (·.2)) st1 with
      | bad => simp only [ho, R.bad_bind] at hcf; exact False.elim hcf
      | ex c =>
        exfalso
        cases o with
        | none => cases ho
        | some pc =>
          unfold outOf at ho
          simp only [Option.map_some] at ho
          split at ho <;> cases ho
      | ok c =>
        simp only [ho, R.ok_bind] at hcf
        exact fun σ H' Z' b x l' => hcf _ _ _ b (stp x) l'.dom (outOf_end l' hθ ho).1 (.val .non)
    | rt r =>
      cases r with
      | bor i d => exact False.elim hcf
      | val d =>
        cases ho : outOf (o.map (·.2)) st1 with
        | bad => simp only [RV.out, ho, R.bad_bind, R.ok_bind] at hcf; exact False.elim hcf
        | ex c =>
          exfalso
          cases o with
          | none => cases ho
          | some pc =>
            unfold outOf at ho
            simp only [Option.map_some] at ho
            split at ho <;> cases ho
        | ok c =>
          simp only [RV.out, ho, R.ok_bind] at hcf
          refine fun σ v H' Z' b x l' ov n => hcf _ _ _ b (stp x) l'.dom (outOf_end l' hθ ho).1 (.val ?_)
          cases ov with
          | val h => exact h
      | fresh d =>
        cases ho : outOf (o.map (·.2)) st1 with
        | bad => simp only [RV.out, ho, R.bad_bind, R.ok_bind] at hcf; exact False.elim hcf
        | ex c =>
          exfalso
          cases o with
          | none => cases ho
          | some pc =>
            unfold outOf at ho
            simp only [Option.map_some] at ho
            split at ho <;> cases ho
        | ok c =>
          simp only [RV.out, ho, R.ok_bind] at hcf
          intro σ v H' Z' b x l' ov n
          obtain ⟨oo, ow⟩ := outOf_end l' hθ ho
          refine hcf _ _ _ b (stp x) l'.dom oo ?_
          cases ov with
          | @fresh p d e nz no c =>
            refine .fresh e nz ?_ c
            rcases n p d rfl e with z | z
            · obtain ⟨d0, e0⟩ := hop p z
              exact absurd (ow p d0 e0) no
            · exact z
end
end QL

end
section
/-! QRule10: over a dict's keys. -/
namespace QL
open PySem PySem.Spec PyProof.Rows L2
theorem rp_key {K : PySem.W.Frag} {Z : Addr → Prop} {H : Hp} (k : Key) : Rp K Z H (kV k) (keyD k) := by
  cases k with
  | inl i => exact .int i
  | inr x => exact .str x
theorem rpl_keys {K : PySem.W.Frag} {Z : Addr → Prop} {H : Hp} : ∀ ks : List Key, RpL K Z H (ks.map kV) (ks.map keyD)
  | [] => .nil
  | k :: ks => .cons (rp_key k) (rpl_keys ks)
theorem RpK.keys {K : PySem.W.Frag} {Z : Addr → Prop} {H : Hp} : ∀ {ks : List (Key × V)} {ds : List (D × D)}, RpK K Z H ks ds → ds.map (·.1) = ks.map fun k => keyD k.1
  | _, _, .nil => rfl
  | _, _, .cons _ t => by rw [List.map_cons, List.map_cons, RpK.keys t]
theorem RpT.keys {K : PySem.W.Frag} {Z : Addr → Prop} {H : Hp} : ∀ {ks : List (List Key × V)} {ds : List (D × D)}, RpT K Z H ks ds → ds.map (·.1) = ks.map fun k => .tuple (k.1.map keyD)
  | _, _, .nil => rfl
  | _, _, .cons _ t => by rw [List.map_cons, List.map_cons, RpT.keys t]
theorem RpK.noMark {K : PySem.W.Frag} {Z : Addr → Prop} {H : Hp} {ks : List (Key × V)} {ds : List (D × D)} (h : RpK K Z H ks ds) : isMark ds = false := by
  cases h with
  | nil => rfl
  | @cons k v d ks ds r t => cases k <;> rfl
theorem keysD_K {K : PySem.W.Frag} {Z : Addr → Prop} {H : Hp} {ks : List (Key × V)} {ds : List (D × D)} (h : RpK K Z H ks ds) : keysD ds = ks.map fun k => keyD k.1 := by
  unfold keysD
  rw [h.noMark, if_neg (by decide), h.keys]
theorem keysD_T {K : PySem.W.Frag} {Z : Addr → Prop} {H : Hp} {ks : List (List Key × V)} {ds : List (D × D)} (h : RpM K Z H ks ds) : keysD ds = ks.map fun k => .tuple (k.1.map keyD) := by
  cases h with
  | @mk ks ds h =>
    have : keysD ((.none, .none) :: ds) = ds.map (·.1) := rfl
    rw [this]
    exact h.keys
/-- what stands locked at d -/
inductive DkAt (K : PySem.W.Frag) (Z : Addr → Prop) (H : Hp) (d : Addr) (od : Obj) (ds : List (D × D)) : L2.It → Prop
  | dk {ks : List (Key × V)} : H d = some (.frz od (.dK ks)) → RpK K Z H ks ds → DkAt K Z H d od ds (Itk d od ks)
  | dt {ks : List (List Key × V)} : H d = some (.frz od (.dT ks)) → RpM K Z H ks ds → DkAt K Z H d od ds (Itkt d od ks)
theorem DkAt.walk {K : PySem.W.Frag} {Z : Addr → Prop} {H : Hp} {d : Addr} {od : Obj} {ds : List (D × D)} {J : L2.It} (h : DkAt K Z H d od ds J) (bd : Bd H) (hz : Z d) : WalkD K J (keysD ds) Z H := by
  cases h with
  | @dk ks h r =>
    have hl : (keysD ds).length = ks.length := by rw [keysD_K r, List.length_map]
    refine ⟨fun Z2 H2 i k hi => ⟨k.fr _ _ _ hz h, by omega⟩, ?_, fun Z2 H2 k => ⟨k.fr _ _ _ hz h, by omega⟩, fun Z2 H2 i x H3 k _ hi y => ?_⟩
    · rw [hl]; exact bd d _ (.inr ⟨_, h⟩)
    · obtain ⟨e, kk, v, h1, h2⟩ := y
      subst e h2
      exact ⟨keyD kk, by rw [keysD_K r, List.getElem?_map, h1]; rfl, .same (rp_key kk)⟩
  | @dt ks h r =>
    have hl : (keysD ds).length = ks.length := by rw [keysD_T r, List.length_map]
    refine ⟨fun Z2 H2 i k hi => ⟨k.fr _ _ _ hz h, by omega⟩, ?_, fun Z2 H2 k => ⟨k.fr _ _ _ hz h, by omega⟩, fun Z2 H2 i x H3 k _ hi y => ?_⟩
    · rw [hl]; exact bd d _ (.inr ⟨_, h⟩)
    · obtain ⟨e, kk, v, q, h1, h2, h3⟩ := y
      subst e h2
      exact ⟨.tuple (kk.map keyD), by rw [keysD_T r, List.getElem?_map, h1]; rfl, .same (.tup h3 (rpl_keys kk))⟩
/-! ### locking -/
theorem Bd.frz {H : Hp} (b : Bd H) {d : Addr} {u : HO} {od : Obj} (h : H d = some u) : Bd (L2.upd H d (.frz od u)) := fun a w r => by
  by_cases e : a = d
  · subst e
    rcases r with r | ⟨o, r⟩
    · rw [upd_same] at r; cases r; exact Nat.zero_le _
    · rw [upd_same] at r; cases r; exact b a u (.inl h)
  · refine b a w ?_
    rcases r with r | ⟨o, r⟩
    · rw [upd_ne e] at r; exact .inl r
    · rw [upd_ne e] at r; exact .inr ⟨o, r⟩
theorem Bd.unfrz {H : Hp} (b : Bd H) {d : Addr} {u : HO} {od : Obj} (h : H d = some (.frz od u)) (hc : Ct u) : Bd (L2.upd H d u) := fun a w r => by
  by_cases e : a = d
  · subst e
    rcases r with r | ⟨o, r⟩
    · rw [upd_same] at r; cases r; exact b a u (.inr ⟨_, h⟩)
    · rw [upd_same] at r; cases r; exact False.elim hc
  · refine b a w ?_
    rcases r with r | ⟨o, r⟩
    · rw [upd_ne e] at r; exact .inl r
    · rw [upd_ne e] at r; exact .inr ⟨o, r⟩
theorem Kp.frz {Z : Addr → Prop} {H : Hp} {d : Addr} {u : HO} {od : Obj} (h : H d = some u) (hc : Ct u) : Kp Z H Z (upd H d (.frz od u)) where
  zz := fun _ h => h
  fz := fun a w cw hz r => by
    by_cases e : a = d
    · subst e
      rcases r with r | ⟨o, r⟩
      · rw [h] at r; cases r; exact .inr ⟨od, upd_same⟩
      · rw [h] at r; cases r; exact False.elim hc
    · rcases r with r | ⟨o, r⟩
      · exact .inl (by rw [upd_ne e]; exact r)
      · exact .inr ⟨o, by rw [upd_ne e]; exact r⟩
  tp := fun a xs r => by
    have e : a ≠ d := fun e => by subst e; rw [h] at r; cases r; exact hc
    rw [upd_ne e]; exact r
theorem Kp.unfrz {Z : Addr → Prop} {H : Hp} {d : Addr} {u : HO} {od : Obj} (h : H d = some (.frz od u)) (hc : Ct u) : Kp Z H Z (upd H d u) where
  zz := fun _ h => h
  fz := fun a w cw hz r => by
    by_cases e : a = d
    · subst e
      rcases r with r | ⟨o, r⟩
      · rw [h] at r; cases r; exact False.elim cw
      · rw [h] at r; cases r; exact .inl upd_same
    · rcases r with r | ⟨o, r⟩
      · exact .inl (by rw [upd_ne e]; exact r)
      · exact .inr ⟨o, by rw [upd_ne e]; exact r⟩
  tp := fun a xs r => by
    have e : a ≠ d := fun e => by subst e; rw [h] at r; cases r
    rw [upd_ne e]; exact r
section
variable {K : PySem.W.Frag} {θ : Nat → Addr} {Z Z' : Addr → Prop} {H H' : Hp} {st st' : DS} {σ σ' : St}
theorem Rl.upd (l : Rl K θ Z H st σ) {d : Addr} {w : HO} (k : Kp Z H Z (L2.upd H d w)) (no : ¬ Own st σ d) : Rl K θ Z (L2.upd H d w) st σ :=
  l.move k (fun p u hp _ h => by
    have ne : p ≠ d := fun e => no (by rw [← e]; exact hp)
    rw [upd_ne ne]; exact h) (fun p hp => (l.okO p hp).1) fun a hz => by
    by_cases e : a = d
    · subst e; rw [upd_same]; exact fun z => by cases z
    · rw [upd_ne e]; exact l.dom a hz
/-- from within a lock -/
theorem Stp.unlock {O Z O' Z' : Addr → Prop} {H H' : Hp} {d : Addr} {u : HO} {od : Obj} (h : H d = some u) (hc : Ct u) (hz : Z d) (no : ¬ O d) (x : Stp O Z (upd H d (.frz od u)) O' Z' H') : Stp O Z H O' Z' (upd H' d u) where
  keep := fun a o ht ha n => by
    by_cases e : a = d
    · subst e; rw [upd_same, ← ha, h]
    · rw [upd_ne e]; exact x.keep a o ht (by rw [upd_ne e]; exact ha) n
  zz := x.zz
  zo := fun a ha n z => by
    by_cases e : a = d
    · subst e; exact hz
    · exact x.zo a (by rw [upd_ne e]; exact ha) n z
  oo := fun a ha => by
    by_cases e : a = d
    · subst e
      rcases x.oo a ha with z | z
      · exact .inl z
      · rw [upd_same] at z; cases z
    · rcases x.oo a ha with z | z
      · exact .inl z
      · rw [upd_ne e] at z; exact .inr z
  ow := fun a ha => by
    by_cases e : a = d
    · subst e; rw [upd_same]; exact fun z => by cases z
    · rw [upd_ne e]; exact x.ow a (by rw [upd_ne e]; exact ha)
  tb := fun P q t => by
    have h1 : LamX.TabS (L2.upd H d (.frz od u)) P q := tabs_wr h hc t
    have h2 := x.tb P q h1
    have hd : H' d = some (.frz od u) := x.keep d _ (fun ps e => by cases e) upd_same no
    obtain ⟨ps, g1, g2, g3⟩ := h2
    have n1 : P ≠ d := fun e => by rw [e, hd] at g1; cases g1
    refine ⟨ps, by rw [upd_ne n1]; exact g1, g2, fun pos cv hcv => ?_⟩
    obtain ⟨c, e1, e2⟩ := g3 pos cv hcv
    refine ⟨c, e1, ?_⟩
    have n2 : c ≠ d := fun e => by
      rw [e, hd] at e2
      cases e2
    rw [upd_ne n2]; exact e2
theorem RvOk.upd {v : V} {r : RV} (h : RvOk K Z H st σ v r) {d : Addr} {w : HO} (k : Kp Z H Z (L2.upd H d w)) (hz : Z d) : RvOk K Z (L2.upd H d w) st σ v r := by
  cases h with
  | val h => exact .val (h.kp k)
  | @fresh p d' e nz no c =>
    refine .fresh e nz no (c.kp k fun u _ hu => ?_)
    have ne : p ≠ d := fun e => nz (e ▸ hz)
    rw [upd_ne ne]; exact hu
  | bor h1 h2 => exact .bor h1 h2
end
section
variable {X : Cx} {E : XK} {θ : Nat → Addr} {tg : Expr}
theorem PS.or {s : Stmt} {t u : TS} (h : PS X s t) (k : PS X s u) : PS X s fun W σ H => t W σ H ∨ u W σ H := ⟨fun pins s' σ H W I q => q.elim (h.run pins s' σ H W I) (k.run pins s' σ H W I)⟩
theorem PE.or {e : Expr} {t u : TE} (h : PE X e t) (k : PE X e u) : PE X e fun σ H Q => t σ H Q ∨ u σ H Q := ⟨fun pins s σ H Q I q => q.elim (h.run pins s σ H Q I) (k.run pins s σ H Q I)⟩
/-- what a frozen dict's slot shows -/
theorem lock_at {st s1 : DS} {σ : St} {Z : Addr → Prop} {H : Hp} {i : Nat} {ds : List D} (l : Rl X.K θ Z H st σ) (e : lockS i st = .ok (ds, s1)) :
    ∃ (p : Addr) (Z1 : Addr → Prop) (kvs : List (D × D)), σ[i]? = some (some (.ref p)) ∧ ds = keysD kvs ∧ Z1 p ∧ Stp (Own st σ) Z H (Own s1 σ) Z1 H ∧ Rl X.K θ Z1 H s1 σ ∧ ((∃ ks, Rd H p (.dK ks) ∧ RpK X.K Z1 H ks kvs) ∨ ∃ ks, Rd H p (.dT ks) ∧ RpM X.K Z1 H ks kvs) := by
  unfold lockS at e
  split at e
  · rename_i kvs h
    cases e
    obtain ⟨v, h1, h2⟩ := l.at_val h
    cases h2 with
    | dk hz hr r => exact ⟨_, Z, kvs, h1, rfl, hz, Stp.refl, l, .inl ⟨_, hr, r⟩⟩
    | dt hz hr r => exact ⟨_, Z, kvs, h1, rfl, hz, Stp.refl, l, .inr ⟨_, hr, r⟩⟩
  · rename_i kvs h
    cases e
    obtain ⟨p, h1, nz, cn, _⟩ := l.at_own h
    have hp : Own st σ p := ⟨i, _, _, h, h1⟩
    obtain ⟨u, hu, cu⟩ := cn.ct
    have hne : H p ≠ none := by rw [hu]; exact fun z => by cases z
    have k : Kp Z H (fun a => Z a ∨ a = p) H := ⟨fun _ h => .inl h, fun _ _ _ _ h => h, fun _ _ h => h⟩
    have l0 : Rl X.K θ Z H (st.set i none) σ := l.setD (fun _ _ e => by cases e) (fun _ e => by cases e)
    have no : ¬ Own (st.set i none) σ p := fun ⟨j, x, d, g1, g2⟩ => by
      rcases set_get g1 with ⟨_, e, _⟩ | ⟨n, e⟩
      · cases e
      · exact n (l.inj j i p ⟨x, d, e, g2⟩ ⟨_, _, h, h1⟩)
    have l1 := l0.freeze no hne
    have l2 : Rl X.K θ (fun a => Z a ∨ a = p) H ((st.set i none).set i (some (.val (.dict kvs)))) σ := l1.setD (fun _ _ e => by cases e) (fun d e => by
      cases e
      exact ⟨_, h1, (cn.kp k fun _ _ h => h).rp (.inr rfl)⟩)
    rw [List.set_set] at l2
    refine ⟨p, _, kvs, h1, rfl, .inr rfl, (Stp.refl.freeze (.inl hp)).own fun a q => .inl (own_set_le (fun _ _ e => by cases e) q), l2, ?_⟩
    cases cn with
    | dk hh r => exact .inl ⟨_, .inl hh, r.kp k⟩
    | dt hh r => exact .inr ⟨_, .inl hh, r.kp k⟩
  · cases e
theorem lock_ne {st : DS} {i : Nat} (c : Str) : lockS i st ≠ .ex c := fun e => by
  unfold lockS at e
  split at e <;> cases e
/-- the ends within a lock -/
def lkEnds (d : Addr) (od : Obj) (u : HO) (D : Ends) : Ends := ⟨fun σ' H' => H' d = some (.frz od u) ∧ D.nx σ' (upd H' d u), fun v H' => H' d = some (.frz od u) ∧ D.rt v (upd H' d u), fun σ' H' => H' d = some (.frz od u) ∧ D.bk σ' (upd H' d u), fun σ' H' => H' d = some (.frz od u) ∧ D.ct σ' (upd H' d u)⟩
theorem noex_po {O O' : Addr → Prop} {H H' : Hp} {α : Type} {E' : XK} {m : R (α × DS)} {C C' : α → DS → Prop} (h : Po X E O H (noEx m) C) (hk : ∀ a st, C a st → C' a st) : Po X E' O' H' m C' := by
  cases m with
  | ok p => exact hk _ _ h
  | ex c => exact False.elim h
  | bad => exact False.elim h
theorem cs_lock {O Z : Addr → Prop} {H : Hp} {d : Addr} {u : HO} {od : Obj} (h : H d = some u) (hc : Ct u) (hz : Z d) (no : ¬ O d) (bd : Bd H) {W : Ends} {f : Fl} {st : DS} (c : CS X.K θ O Z H W f st) : CS X.K θ O Z (upd H d (.frz od u)) (lkEnds d od u (Ends.bd W)) f st := by
  have hk : ∀ {st' : DS} {σ' : St} {Z' : Addr → Prop} {H' : Hp}, Stp O Z (upd H d (.frz od u)) (Own st' σ') Z' H' → H' d = some (.frz od u) := fun x => x.keep d _ (fun ps e => by cases e) upd_same no
  cases f with
  | nx => exact fun σ' H' Z' b x l => ⟨hk x, fun b' => c _ _ _ b' (Stp.unlock h hc hz no x) (l.upd (Kp.unfrz (hk x) hc) fun q => (l.okO d q).1 (x.zz d hz))⟩
  | bk => exact fun σ' H' Z' b x l => ⟨hk x, fun b' => c _ _ _ b' (Stp.unlock h hc hz no x) (l.upd (Kp.unfrz (hk x) hc) fun q => (l.okO d q).1 (x.zz d hz))⟩
  | ct => exact fun σ' H' Z' b x l => ⟨hk x, fun b' => c _ _ _ b' (Stp.unlock h hc hz no x) (l.upd (Kp.unfrz (hk x) hc) fun q => (l.okO d q).1 (x.zz d hz))⟩
  | rt r => exact fun σ' v H' Z' b x l o n => ⟨hk x, fun b' => c _ _ _ _ b' (Stp.unlock h hc hz no x) (l.upd (Kp.unfrz (hk x) hc) fun q => (l.okO d q).1 (x.zz d hz)) (o.upd (Kp.unfrz (hk x) hc) (x.zz d hz)) fun p d' e1 e2 => by
      rcases n p d' e1 e2 with z | z
      · exact .inl z
      · by_cases e : p = d
        · subst e; rw [upd_same] at z; cases z
        · rw [upd_ne e] at z; exact .inr z⟩
/-- the walk over a dict that stands at p -/
theorem dk_at {p : Addr} {Z : Addr → Prop} {H : Hp} {kvs : List (D × D)} (h : (∃ ks, Rd H p (.dK ks) ∧ RpK X.K Z H ks kvs) ∨ ∃ ks, Rd H p (.dT ks) ∧ RpM X.K Z H ks kvs) :
    (∃ od J, DkAt X.K Z H p od kvs J) ∨ ∃ u, H p = some u ∧ Ct u ∧ Mut (some u) ∧ ∀ od, ∃ J, DkAt X.K Z (upd H p (.frz od u)) p od kvs J := by
  rcases h with ⟨ks, h | ⟨od, h⟩, r⟩ | ⟨ks, h | ⟨od, h⟩, r⟩
  · exact .inr ⟨_, h, trivial, trivial, fun od => ⟨_, .dk upd_same (r.kp (Kp.frz h trivial))⟩⟩
  · exact .inl ⟨od, _, .dk h r⟩
  · exact .inr ⟨_, h, trivial, trivial, fun od => ⟨_, .dt upd_same (r.kp (Kp.frz h trivial))⟩⟩
  · exact .inl ⟨od, _, .dt h r⟩
theorem qs_forK {it : Expr} {body : List Stmt} {i : Nat} {g : DG} {mb : DM} {pos : Pos} (hp : PassesOwn (model X.prog X.w) X.A X.env X.xe) (hc : X.calm = true) (hgne : ∀ r st c, g r st ≠ .ex c) (hi : PE X it (tVar i)) (hg : QG X E θ tg g) (hb : QSs X E θ body mb)
    (hs : ∀ x, foldedSetIterable it X.env x = pure x := by intro _; rfl) : QS X E θ (.For tg it body [] pos) (sForK i g mb) := QS.mk (PS.or (ps_for hp hc (pi_keys hi) hg hb hs) (ps_lock (ps_for hp hc (pi_keys hi) hg hb hs))) fun W σ H Z st bd l p => by
  unfold sForK at p
  cases e : lockS i st with
  | bad => rw [e] at p; exact False.elim p
  | ex c => exact absurd e (lock_ne c)
  | ok q =>
    obtain ⟨ds, s1⟩ := q
    rw [e] at p
    simp only [R.ok_bind] at p
    obtain ⟨d, Z1, kvs, h1, rfl, hz, x, l1, hd⟩ := lock_at l e
    have p1 := po_cs p x
    have no : ¬ Own s1 σ d := fun q => (l1.okO d q).1 hz
    rcases dk_at hd with ⟨od, J, k⟩ | ⟨u, hu, hcu, hm, k⟩
    · refine .inl ⟨.ref d, h1, d, od, rfl, ?_⟩
      have q := for_core (E := E) hgne bd Stp.refl l1 (k.walk bd hz) (W := Ends.bd W) (noex_po p1 fun _ _ => cs_bd)
      cases k with
      | dk h r => exact .inl ⟨_, h, q⟩
      | dt h r => exact .inr ⟨_, h, q⟩
    · refine .inr ⟨d, u, hu, hm, fun od => ?_⟩
      obtain ⟨J, k⟩ := k od
      refine ⟨.ref d, h1, d, od, rfl, ?_⟩
      have q := for_core (E := E) hgne (bd.frz hu) Stp.refl (l1.upd (Kp.frz hu hcu) no) (k.walk (bd.frz hu) hz) (W := lkEnds d od u (Ends.bd W)) (noex_po p1 fun _ _ c => cs_lock hu hcu hz no bd c)
      cases k with
      | dk h r => exact .inl ⟨_, h, q⟩
      | dt h r => exact .inr ⟨_, h, q⟩
/-- a comprehension over a dict -/
theorem qe_compK {elt iter : Expr} {ifs : List Expr} {scope : Scope} {own : List (Str × Nat)} {pos : Pos} {i : Nat} {g : DG} {mt : DT} {me : DE} (hc : X.calm = true) (hN : X.N.Nodup) (hgne : ∀ r st c, g r st ≠ .ex c) (hi : PE X iter (tVar i)) (ok : BlkOk X.N X.env.scope scope own)
    (hg : ∀ (s : Shared) (H : Hp) (C : Addr) (cl : List (Str × Addr)) (fp : List Addr), QGv (X.blk s H scope (compEnvC scope cl C X.env) fp) E0 θ (own.map (·.2)) tg g)
    (ht : ∀ (s : Shared) (H : Hp) (C : Addr) (cl : List (Str × Addr)) (fp : List Addr), PTs (X.blk s H scope (compEnvC scope cl C X.env) fp) ifs (rdT (X.blk s H scope (compEnvC scope cl C X.env) fp) E0 θ mt))
    (he : ∀ (s : Shared) (H : Hp) (C : Addr) (cl : List (Str × Addr)) (fp : List Addr), QE (X.blk s H scope (compEnvC scope cl C X.env) fp) E0 θ elt me)
    (hs : ∀ x, foldedSetIterable iter X.env x = pure x := by intro _; rfl) : QE X E θ (.ListComp elt [⟨tg, iter, ifs, 0⟩] scope pos) (eCompK (own.map (·.2)) i g mt me) := by
  have hg' : ∀ (s : Shared) (H : Hp) (C : Addr) (cl : List (Str × Addr)) (fp : List Addr), PG (X.blk s H scope (compEnvC scope cl C X.env) fp) tg (GInV X E0 θ (own.map (·.2)) g) := fun s H C cl fp => hg s H C cl fp
  have ht' : ∀ (s : Shared) (H : Hp) (C : Addr) (cl : List (Str × Addr)) (fp : List Addr), PTs (X.blk s H scope (compEnvC scope cl C X.env) fp) ifs (rdT X E0 θ mt) := fun s H C cl fp => ht s H C cl fp
  have he' : ∀ (s : Shared) (H : Hp) (C : Addr) (cl : List (Str × Addr)) (fp : List Addr), PE (X.blk s H scope (compEnvC scope cl C X.env) fp) elt (rdE X E0 θ me) := fun s H C cl fp => he s H C cl fp
  have hr := pe_lc (pos := pos) hc hN (pi_keys hi) ok hg' ht' he' hs
  refine QE.mk (PE.or hr (pe_lock hr)) fun σ H Z st Q bd l p => ?_
  unfold eCompK at p
  cases e : lockS i st with
  | bad => rw [e] at p; exact False.elim p
  | ex c => exact absurd e (lock_ne c)
  | ok q =>
    obtain ⟨ds, s1⟩ := q
    rw [e] at p
    simp only [R.ok_bind] at p
    obtain ⟨d, Z1, kvs, h1, rfl, hz, x, l1, hd⟩ := lock_at l e
    have no : ¬ Own s1 σ d := fun q => (l1.okO d q).1 hz
    rcases dk_at hd with ⟨od, J, k⟩ | ⟨u, hu, hcu, hm, k⟩
    · refine .inl ⟨.ref d, h1, d, od, rfl, ?_⟩
      have w := k.walk bd hz
      have p1 : Po X E (Own st σ) H (compL (fun _ => True) (own.map (·.2)) g mt me (keysD kvs) s1 >>= fun q => pure (RV.fresh (.list q.1), q.2)) (CE X.K θ (Own st σ) Z H σ fun v H' => Bd H' → Q v H') := by
        cases hm : compL (fun _ => True) (own.map (·.2)) g mt me (keysD kvs) s1 with
        | ok r => rw [hm] at p; exact ce_bd p
        | ex c => rw [hm] at p; exact False.elim p
        | bad => rw [hm] at p; exact False.elim p
      have q := fun D hD => comp_core (X' := X) (E := E) rfl hgne bd x l1 w.toC p1 D hD
      cases k with
      | dk h r => exact .inl ⟨_, h, q⟩
      | dt h r => exact .inr ⟨_, h, q⟩
    · refine .inr ⟨d, u, hu, hm, fun od => ?_⟩
      obtain ⟨J, k⟩ := k od
      refine ⟨.ref d, h1, d, od, rfl, ?_⟩
      have w := k.walk (bd.frz hu) hz
      have p1 : Po X E (Own s1 σ) (upd H d (.frz od u)) (compL (fun _ => True) (own.map (·.2)) g mt me (keysD kvs) s1 >>= fun q => pure (RV.fresh (.list q.1), q.2)) (CE X.K θ (Own s1 σ) Z1 (upd H d (.frz od u)) σ fun v H' => H' d = some (.frz od u) ∧ (Bd (upd H' d u) → Q v (upd H' d u))) := by
        cases hm : compL (fun _ => True) (own.map (·.2)) g mt me (keysD kvs) s1 with
        | ex c => rw [hm] at p; exact False.elim p
        | bad => rw [hm] at p; exact False.elim p
        | ok r =>
          rw [hm] at p
          intro v H' Z' b' y l' o n
          have hk : H' d = some (.frz od u) := y.keep d _ (fun ps e => by cases e) upd_same no
          have p : CE X.K θ (Own st σ) Z H σ Q (.fresh (.list r.1)) r.2 := p
          refine ⟨hk, fun b'' => p _ _ _ b'' (x.trans (Stp.unlock hu hcu hz no y)) (l'.upd (Kp.unfrz hk hcu) fun q => (l'.okO d q).1 (y.zz d hz)) (o.upd (Kp.unfrz hk hcu) (y.zz d hz)) ?_⟩
          refine RvNew.back (fun q d' e1 e2 => ?_) x
          rcases n q d' e1 e2 with z | z
          · exact .inl z
          · by_cases e : q = d
            · subst e; rw [upd_same] at z; cases z
            · rw [upd_ne e] at z; exact .inr z
      have q := fun D hD => comp_core (X' := X) (E := E) rfl hgne (bd.frz hu) Stp.refl (l1.upd (Kp.frz hu hcu) no) w.toC p1 D hD
      cases k with
      | dk h r => exact .inl ⟨_, h, q⟩
      | dt h r => exact .inr ⟨_, h, q⟩
end
end QL

end
section
/-! QRule11: a new dict's keys, enumerate, zip. -/
namespace QL
open PySem PySem.Spec PyProof.Rows L2
/-- a new dict is locked for good -/
def tFrz (t : TE) : TE := fun σ H Q => t σ H fun x H1 => ∃ d u, x = .ref d ∧ H1 d = some u ∧ Mut (some u) ∧ ∀ od, Q x (upd H1 d (.frz od u))
section
variable {X : Cx} {E : XK} {θ : Nat → Addr} {tg : Expr}
theorem pe_frz {e : Expr} {t : TE} (h : PE X e t) : PE X e (tFrz t) := ⟨fun pins s σ H Q I q => thn (h.run pins s σ H _ I q) fun v s1 ⟨x, H1, I1, r, d, u, e1, hu, hm, q⟩ => by
  obtain ⟨od, I2⟩ := I1.lock hu hm
  exact ⟨x, _, I2, r, q od⟩⟩
theorem qi_keysF {e : Expr} {m : DE} (he : QE X E θ e m) : QI X E θ tg e (iKeysF m) := PI.bd (pi_keys (pe_frz he)) fun σ H R' bd ⟨Z, st, l, p⟩ => by
  unfold iKeysF at p
  refine ⟨Z, st, l, p.bind fun ra st1 _ p v H1 Z1 b1 x l1 o n => ?_⟩
  cases o with
  | val h => exact False.elim p
  | bor _ _ => exact False.elim p
  | @fresh d dd ev nz no cn =>
    subst ev
    have hn := n _ _ rfl rfl
    have main : ∀ (u : HO) (kvs : List (D × D)) (od : Obj), H1 d = some u → Ct u → (Po X E (Own st σ) H (pure (keysD kvs, st1) : R (List PyData × DS)) (CI X.K θ (Own st σ) Z H σ R')) → ∀ J, (∀ Z2, (∀ a, Z1 a → Z2 a) → Kp Z1 H1 Z2 (upd H1 d (.frz od u)) → DkAt X.K Z2 (upd H1 d (.frz od u)) d od kvs J) → Bd (upd H1 d (.frz od u)) → R' J (upd H1 d (.frz od u)) := by
      intro u kvs od hu hc p J hJ b'
      have k0 : Kp Z1 H1 (fun a => Z1 a ∨ a = d) (upd H1 d (.frz od u)) := kp_trans' (Kp.frz hu hc)
      have l2 : Rl X.K θ (fun a => Z1 a ∨ a = d) (upd H1 d (.frz od u)) st1 σ := (l1.upd (Kp.frz hu hc) no).freeze no (by rw [upd_same]; exact fun z => by cases z)
      have x2 : Stp (Own st σ) Z H (Own st1 σ) (fun a => Z1 a ∨ a = d) (upd H1 d (.frz od u)) := by
        refine Stp.freeze ⟨fun a w ht h hno => ?_, x.zz, x.zo, x.oo, fun a h => ?_, fun P q h => tabs_wr hu hc (x.tb P q h)⟩ hn
        · have ne : a ≠ d := fun e => by
            subst e
            rcases hn with z | z
            · exact hno z
            · rw [h] at z; cases z
          rw [upd_ne ne]; exact x.keep a w ht h hno
        · by_cases e : a = d
          · subst e; rw [upd_same]; exact fun z => by cases z
          · rw [upd_ne e]; exact x.ow a h
      exact p J _ _ b' x2 l2 ((hJ _ (fun _ h => .inl h) k0).walk b' (.inr rfl))
    cases cn with
    | lst _ _ => exact False.elim p
    | @dk ks ds h r =>
      exact ⟨d, _, rfl, h, trivial, fun od => ⟨d, od, rfl, .inl ⟨ks, upd_same, main _ ds od h trivial p _ fun Z2 _ k => .dk upd_same (r.kp k)⟩⟩⟩
    | @dt ks ds h r =>
      exact ⟨d, _, rfl, h, trivial, fun od => ⟨d, od, rfl, .inr ⟨ks, upd_same, main _ ds od h trivial p _ fun Z2 _ k => .dt upd_same (r.kp k)⟩⟩⟩
where
  kp_trans' {Z : Addr → Prop} {H H' : Hp} {d : Addr} (k : Kp Z H Z H') : Kp Z H (fun a => Z a ∨ a = d) H' := ⟨fun _ h => .inl h, k.fz, k.tp⟩
/-! ### enumerate, zip -/
theorem enumD_at {ds : List D} {i : Nat} : (enumD ds)[i]? = (ds[i]?).map fun d => .tuple [.int (i : Nat), d] := by
  unfold enumD
  rw [List.getElem?_map, List.getElem?_zipIdx, Option.map_map]
  simp [Function.comp_def]
theorem enumD_len {ds : List D} : (enumD ds).length = ds.length := by unfold enumD; simp
theorem zipD_len {as bs : List D} : (zipD as bs).length = min as.length bs.length := by unfold zipD; simp
theorem zipD_at {as bs : List D} {i : Nat} {a b : D} (h1 : as[i]? = some a) (h2 : bs[i]? = some b) : (zipD as bs)[i]? = some (.tuple [a, b]) := by
  unfold zipD
  rw [List.getElem?_map, List.getElem?_zip_eq_some (z := (a, b)) |>.mpr ⟨h1, h2⟩]
  rfl
theorem walkD_enum {K : PySem.W.Frag} {Z : Addr → Prop} {H : Hp} {a : Addr} {xs : List V} {ds : List D} (bd : Bd H) (h : LZ K Z H a xs) (r : RpL K Z H xs ds) : WalkD K (Ite K a) (enumD ds) Z H where
  goes := fun Z2 H2 i k hi => by
    have hl := r.length
    rw [enumD_len] at hi
    exact ⟨xs, xs[i]'(by omega), (h.kp k.k).sq, by simp [show i < xs.length by omega]⟩
  len := by rw [enumD_len, ← r.length]; exact bd.sqL h.sq
  stops := fun Z2 H2 k => ⟨xs, (h.kp k.k).sq, by rw [enumD_len, r.length]; exact Nat.le_refl _⟩
  yields := fun Z2 H2 i x H3 k _ hi y => by
    obtain ⟨T, x', e, hT, e2, y⟩ := y
    obtain ⟨d, h1, h2⟩ := r.getV (y xs ((h.kp k.k).sq))
    subst e e2
    refine ⟨_, by rw [enumD_at, h1]; rfl, .tup hT (.cons (.int _) (.cons (h2.kp k.k) .nil))⟩
theorem walkD_zipL {K : PySem.W.Frag} {Z : Addr → Prop} {H : Hp} {a b : Addr} {xs ys : List V} {ds es : List D} (bd : Bd H) (h : LZ K Z H a xs) (r : RpL K Z H xs ds) (h' : LZ K Z H b ys) (r' : RpL K Z H ys es) : WalkD K (Itz K a b) (zipD ds es) Z H where
  goes := fun Z2 H2 i k hi => by
    have hl := r.length
    have hl' := r'.length
    rw [zipD_len] at hi
    exact ⟨xs, ys, xs[i]'(by omega), ys[i]'(by omega), (h.kp k.k).sq, (h'.kp k.k).sq, by simp [show i < xs.length by omega], by simp [show i < ys.length by omega]⟩
  len := by
    have := bd.sqL h.sq
    have hl := r.length
    have : xs.length ≤ sizeLine := this
    rw [zipD_len]; omega
  stops := fun Z2 H2 k => ⟨xs, ys, (h.kp k.k).sq, (h'.kp k.k).sq, by
    have hl := r.length
    have hl' := r'.length
    rw [zipD_len]; omega⟩
  yields := fun Z2 H2 i x H3 k _ hi y => by
    obtain ⟨T, x', y', e, hT, e2, y1, y2⟩ := y
    obtain ⟨d, h1, h2⟩ := r.getV (y1 xs ((h.kp k.k).sq))
    obtain ⟨d', h1', h2'⟩ := r'.getV (y2 ys ((h'.kp k.k).sq))
    subst e e2
    exact ⟨_, zipD_at h1 h1', .tup hT (.cons (h2.kp k.k) (.cons (h2'.kp k.k) .nil))⟩
theorem walkD_zipT {K : PySem.W.Frag} {Z : Addr → Prop} {H : Hp} {a b : Addr} {xs ys : List V} {ds es : List D} (bd : Bd H) (h : H a = some (.tup xs)) (r : RpL K Z H xs ds) (h' : H b = some (.tup ys)) (r' : RpL K Z H ys es) : WalkD K (RZ.ItzT K a b) (zipD ds es) Z H where
  goes := fun Z2 H2 i k hi => by
    have hl := r.length
    have hl' := r'.length
    rw [zipD_len] at hi
    exact ⟨xs, ys, xs[i]'(by omega), ys[i]'(by omega), SqT.of (k.k.tp _ _ h), SqT.of (k.k.tp _ _ h'), by simp [show i < xs.length by omega], by simp [show i < ys.length by omega]⟩
  len := by
    have := bd _ _ (.inl h)
    have hl := r.length
    have : xs.length ≤ sizeLine := this
    rw [zipD_len]; omega
  stops := fun Z2 H2 k => ⟨xs, ys, SqT.of (k.k.tp _ _ h), SqT.of (k.k.tp _ _ h'), by
    have hl := r.length
    have hl' := r'.length
    rw [zipD_len]; omega⟩
  yields := fun Z2 H2 i x H3 k _ hi y => by
    obtain ⟨T, x', y', e, hT, e2, y1, y2⟩ := y
    obtain ⟨d, h1, h2⟩ := r.getV (y1 xs (SqT.of (k.k.tp _ _ h)))
    obtain ⟨d', h1', h2'⟩ := r'.getV (y2 ys (SqT.of (k.k.tp _ _ h')))
    subst e e2
    exact ⟨_, zipD_at h1 h1', .tup hT (.cons (h2.kp k.k) (.cons (h2'.kp k.k) .nil))⟩
theorem qi_zip {e e2 : Expr} {m n : DE} {p pos tpos : Pos} {elts : List Expr} {kk : Nat} (hg : Gl X "zip") (hm : X.mg "zip" = none) (ha : QA X E θ [e, e2] (eArgs [m, n])) (he : starEach [e, e2] X.env = (false, eval e X.env) :: starEach [e2] X.env := by rfl) (hp : (backTo pos (starEach [e2] X.env)).any (·.1) = false := by rfl) :
    QI X E θ (.Tuple elts kk tpos) (.Call (.Name "zip" p) [e, e2] [] pos) (QL.iZip m n) := PI.bd (RZ.pi_zipA hg hm ha he hp) fun σ H R' bd ⟨Z, st, l, p⟩ => by
  unfold QL.iZip at p
  refine ⟨Z, st, l, p.bind fun ds st1 _ p vs H1 Z1 b1 x l1 rs => ?_⟩
  have p : Po X E (Own st σ) H (match ds with
    | [.list as, .list bs] => pure (zipD as bs, st1)
    | [.tuple as, .tuple bs] => pure (zipD as bs, st1)
    | _ => R.bad) _ := p
  split at p
  · cases rs with
    | cons r t =>
      cases t with
      | cons r' t =>
        cases t
        obtain ⟨a, xs, rfl, hr, rl⟩ := rp_lst r
        obtain ⟨b, ys, rfl, hr', rl'⟩ := rp_lst r'
        exact ⟨a, b, xs, ys, rfl, .inl ⟨hr.sq, hr'.sq, fun b' => p _ _ _ b' x l1 (walkD_zipL b1 hr rl hr' rl')⟩⟩
  · cases rs with
    | cons r t =>
      cases t with
      | cons r' t =>
        cases t
        obtain ⟨a, xs, rfl, hr, rl⟩ := rp_tup r
        obtain ⟨b, ys, rfl, hr', rl'⟩ := rp_tup r'
        exact ⟨a, b, xs, ys, rfl, .inr ⟨SqT.of hr, SqT.of hr', fun b' => p _ _ _ b' x l1 (walkD_zipT b1 hr rl hr' rl')⟩⟩
  · exact False.elim p
end
end QL

end
section
/-! QRule12: stores. -/
namespace QL
open PySem PySem.Spec PyProof.Rows L2
/-! ### parallel assignment -/
/-- results at once: the new ones differ -/
inductive RvsOk (K : PySem.W.Frag) (Z : Addr → Prop) (H : Hp) (st : DS) (σ : St) : List V → List RV → Prop
  | nil : RvsOk K Z H st σ [] []
  | cons {v : V} {r : RV} {vs : List V} {rs : List RV} : RvOk K Z H st σ v r → (∀ i d, r ≠ RV.bor i d) → (∀ p d, r = RV.fresh d → v = V.ref p → ∀ (j : Nat) (d' : D), rs[j]? = some (RV.fresh d') → vs[j]? ≠ some (V.ref p)) → RvsOk K Z H st σ vs rs → RvsOk K Z H st σ (v :: vs) (r :: rs)
def RvsNew (O : Addr → Prop) (H : Hp) (vs : List V) (rs : List RV) : Prop := ∀ (j : Nat) (p : Addr) (d : D), rs[j]? = some (RV.fresh d) → vs[j]? = some (V.ref p) → O p ∨ H p = none
def CAR (K : PySem.W.Frag) (θ : Nat → Addr) (O Z : Addr → Prop) (H : Hp) (σ : St) (Q : List V → Hp → Prop) (rs : List RV) (st : DS) : Prop := ∀ vs H' Z', Bd H' → Stp O Z H (Own st σ) Z' H' → Rl K θ Z' H' st σ → RvsOk K Z' H' st σ vs rs → RvsNew O H vs rs → Q vs H'
def rdAR (X : Cx) (E : XK) (θ : Nat → Addr) (m : DS → R (List RV × DS)) : TA := fun σ H Q => ∃ Z st, Rl X.K θ Z H st σ ∧ Po X E (Own st σ) H (m st) (CAR X.K θ (Own st σ) Z H σ Q)
def QAR (X : Cx) (E : XK) (θ : Nat → Addr) (es : List Expr) (m : DS → R (List RV × DS)) : Prop := PA X es (rdAR X E θ m)
section
variable {X : Cx} {E : XK} {θ : Nat → Addr}
theorem QAR.mk {es : List Expr} {t : TA} {m : DS → R (List RV × DS)} (h : PA X es t) (hi : ∀ σ H Z st Q, Bd H → Rl X.K θ Z H st σ → Po X E (Own st σ) H (m st) (CAR X.K θ (Own st σ) Z H σ Q) → t σ H fun v H' => Bd H' → Q v H') : QAR X E θ es m :=
  ⟨fun pos pins s σ H Q I ⟨Z, st, l, p⟩ => thn (h.run pos pins s σ H _ I (hi σ H Z st Q (Inv.bd I) l p)) fun _ _ ⟨v, H', I', r, q⟩ => ⟨v, H', I', r, q (Inv.bd I')⟩⟩
theorem qar_nil : QAR X E θ [] (eArgsR []) := QAR.mk pa_nil fun σ H Z st Q bd l p => fun b' => p _ _ _ b' Stp.refl l .nil fun j p d h => by simp at h
theorem qar_cons {e : Expr} {es : List Expr} {m : DE} {ms : List DE} (he : QE X E θ e m) (hs : QAR X E θ es (eArgsR ms)) (hst : starEach (e :: es) X.env = (false, eval e X.env) :: starEach es X.env := by rfl) : QAR X E θ (e :: es) (eArgsR (m :: ms)) :=
  QAR.mk (pa_cons he hs hst) fun σ H Z st Q bd l p => ⟨Z, st, l, by
    unfold eArgsR at p
    refine p.bind fun r st1 e1 p v H1 Z1 b1 x l1 o n => ?_
    have nb : ∀ i d, r ≠ .bor i d := fun i d e => by subst e; exact False.elim p
    have p' : Po X E (Own st σ) H (eArgsR ms st1 >>= fun q => pure (r :: q.1, q.2)) (CAR X.K θ (Own st σ) Z H σ Q) := by
      cases r with
      | bor i d => exact absurd rfl (nb i d)
      | val d => exact p
      | fresh d => exact p
    refine ⟨Z1, st1, l1, (p'.adv x).bind fun rs st2 e2 p2 vs H2 Z2 b2 y l2 os ns b' => ?_⟩
    rw [e2] at p'
    have lv : r.live st2 := by
      cases r with
      | bor i d => exact absurd rfl (nb i d)
      | val d => trivial
      | fresh d => trivial
    have p' : CAR X.K θ (Own st σ) Z H σ Q (r :: rs) st2 := p'
    refine p' _ _ _ b' (x.trans y) l2 (.cons (o.later l1 y lv) nb (fun p d e1 e2 j d' h1 h2 => ?_) os) fun j p d h1 h2 => ?_
    · cases o with
      | val h => cases e1
      | bor _ _ => cases e1
      | @fresh q d0 ev nz no cn =>
        rw [ev] at e2; cases e2
        obtain ⟨u, hu, _⟩ := cn.ct
        rcases ns j _ d' h1 h2 with z | z
        · exact no z
        · rw [hu] at z; cases z
    · cases j with
      | zero => exact n p d (by simpa using h1) (by simpa using h2)
      | succ j =>
        have hh := ns j p d (by simpa using h1) (by simpa using h2)
        rcases hh with z | z
        · exact x.oo p z
        · refine .inr ?_
          cases q : H p with
          | none => rfl
          | some o' => exact absurd z (x.ow p (by rw [q]; exact fun z => by cases z))⟩
/-- one store -/
theorem store1 {o : Bool} {i : Nat} {v : V} {r : RV} {st st' : DS} {σ : St} {Z O0 Z0 : Addr → Prop} {H H0 : Hp} {vs : List V} {rs : List RV} (x : Stp O0 Z0 H0 (Own st σ) Z H) (l : Rl X.K θ Z H st σ) (os : RvsOk X.K Z H st σ (v :: vs) (r :: rs)) (n : RvsNew O0 H0 (v :: vs) (r :: rs)) (e : bKind o i r st = .ok st') :
    ∃ Z', Stp O0 Z0 H0 (Own st' (σ.set i (some v))) Z' H ∧ Rl X.K θ Z' H st' (σ.set i (some v)) ∧ RvsOk X.K Z' H st' (σ.set i (some v)) vs rs ∧ RvsNew O0 H0 vs rs := by
  cases os with
  | cons ok nb df os =>
    have n1 : RvNew O0 H0 v r := fun p d e1 e2 => n 0 p d (by simp [e1]) (by simp [e2])
    have ns : RvsNew O0 H0 vs rs := fun j p d h1 h2 => n (j + 1) p d (by simpa using h1) (by simpa using h2)
    have keep : ∀ (vs : List V) (rs : List RV) (Z' : Addr → Prop) (st' : DS) (σ' : St), (∀ a, Z a → Z' a) → (∀ (a : Addr), (∃ (j : Nat) (d : D), rs[j]? = some (RV.fresh d) ∧ vs[j]? = some (V.ref a)) → ¬ Z a → ¬ Own st σ a → ¬ Z' a ∧ ¬ Own st' σ' a) → RvsOk X.K Z H st σ vs rs → RvsOk X.K Z' H st' σ' vs rs := by
      intro vs rs Z' st' σ' hz hf h
      induction h with
      | nil => exact .nil
      | @cons v r vs rs h nb df _ ih =>
        refine .cons ?_ nb df (ih fun a ⟨j, d, h1, h2⟩ => hf a ⟨j + 1, d, by simpa using h1, by simpa using h2⟩)
        cases h with
        | val h => exact .val (h.kp ⟨hz, fun _ _ _ _ h => h, fun _ _ h => h⟩)
        | @fresh p d ev nz no c =>
          obtain ⟨q1, q2⟩ := hf p ⟨0, d, rfl, by simp [ev]⟩ nz no
          exact .fresh ev q1 q2 (c.kp ⟨hz, fun _ _ _ _ h => h, fun _ _ h => h⟩ fun _ _ h => h)
        | bor _ _ => exact absurd rfl (nb _ _)
    cases ok with
    | bor _ _ => exact absurd rfl (nb _ _)
    | @val d h =>
      have e' : st' = st.set i (some (.val d)) := by
        cases o <;> (cases e; rfl)
      subst e'
      exact ⟨Z, x.own fun a h => x.oo a (own_setV h), l.setV h, keep vs rs Z _ _ (fun _ h => h) (fun a _ nz no => ⟨nz, fun q => no (own_setV q)⟩) os, ns⟩
    | @fresh p d ev nz no c =>
      subst ev
      obtain ⟨u, hu, cu⟩ := c.ct
      have hne : H p ≠ none := by rw [hu]; exact fun z => by cases z
      have pd : ∀ a, (∃ (j : Nat) (d : D), rs[j]? = some (RV.fresh d) ∧ vs[j]? = some (V.ref a)) → a ≠ p := fun a ⟨j, d', h1, h2⟩ e => by
        subst e
        exact df _ _ rfl rfl j d' h1 h2
      cases o with
      | true =>
        cases e
        refine ⟨Z, x.own fun a h => ?_, l.setO nz c no, keep vs rs Z _ _ (fun _ h => h) (fun a ha nza noa => ⟨nza, fun q => ?_⟩) os, ns⟩
        · rcases own_setO h with z | rfl
          · exact x.oo a z
          · exact n1 _ _ rfl rfl
        · rcases own_setO q with z | z
          · exact noa z
          · exact pd a ha z
      | false =>
        cases e
        refine ⟨_, (x.freeze (n1 _ _ rfl rfl)).own fun a h => x.oo a (own_setV h), (l.freeze no hne).setV ((c.kp ⟨fun _ h => .inl h, fun _ _ _ _ h => h, fun _ _ h => h⟩ fun _ _ h => h).rp (.inr rfl)), keep vs rs _ _ _ (fun _ h => .inl h) (fun a ha nza noa => ⟨fun q => q.elim nza (pd a ha), fun q => noa (own_setV q)⟩) os, ns⟩
theorem storeR_len : ∀ {gs : List (Bool × Nat)} {rs : List RV} {st st' : DS}, storeR gs rs st = .ok st' → rs.length = gs.length
  | [], [], _, _, _ => rfl
  | [], _ :: _, _, _, h => by cases h
  | _ :: _, [], _, _, h => by cases h
  | (o, i) :: gs, r :: rs, st, st', h => by
    unfold storeR at h
    cases e : bKind o i r st with
    | ok s1 => rw [e] at h; simp [storeR_len (gs := gs) (rs := rs) h]
    | ex c => rw [e] at h; cases h
    | bad => rw [e] at h; cases h
theorem bKind_ne {o : Bool} {i : Nat} (r : RV) (st : DS) (c : Str) : bKind o i r st ≠ .ex c := by
  cases o
  · exact bName_ne r st c
  · exact bOwn_ne r st c
theorem storeR_ne : ∀ (gs : List (Bool × Nat)) (rs : List RV) (st : DS) (c : Str), storeR gs rs st ≠ .ex c
  | [], [], _, _, h => by cases h
  | [], _ :: _, _, _, h => by cases h
  | _ :: _, [], _, _, h => by cases h
  | (o, i) :: gs, r :: rs, st, c, h => by
    unfold storeR at h
    cases e : bKind o i r st with
    | ok s1 => rw [e] at h; exact storeR_ne gs rs s1 c h
    | ex c' => exact bKind_ne _ _ _ e
    | bad => rw [e] at h; cases h
def setAll : List (Bool × Nat) → List V → St → St
  | (_, i) :: gs, v :: vs, σ => setAll gs vs (σ.set i (some v))
  | _, _, σ => σ
theorem store_all : ∀ {gs : List (Bool × Nat)} {vs : List V} {rs : List RV} {st st' : DS} {σ : St} {Z O0 Z0 : Addr → Prop} {H H0 : Hp}, Stp O0 Z0 H0 (Own st σ) Z H → Rl X.K θ Z H st σ → RvsOk X.K Z H st σ vs rs → RvsNew O0 H0 vs rs → storeR gs rs st = .ok st' → ∃ Z', Stp O0 Z0 H0 (Own st' (setAll gs vs σ)) Z' H ∧ Rl X.K θ Z' H st' (setAll gs vs σ) ∧ vs.length = gs.length
  | [], _, [], st, st', σ, Z, _, _, _, _, x, l, os, n, e => by
    cases os
    cases e
    exact ⟨Z, x, l, rfl⟩
  | [], _, _ :: _, _, _, _, _, _, _, _, _, _, _, _, _, e => by cases e
  | _ :: _, _, [], _, _, _, _, _, _, _, _, _, _, _, _, e => by cases e
  | (o, i) :: gs, vs, r :: rs, st, st', σ, Z, _, _, _, _, x, l, os, n, e => by
    cases os with
    | @cons v _ vs _ h nb df os =>
      unfold storeR at e
      cases e1 : bKind o i r st with
      | ok s1 =>
        rw [e1] at e
        obtain ⟨Z1, x1, l1, os1, n1⟩ := store1 x l (.cons h nb df os) n e1
        obtain ⟨Z2, x2, l2, hl⟩ := store_all x1 l1 os1 n1 e
        exact ⟨Z2, x2, l2, by rw [List.length_cons, List.length_cons, hl]⟩
      | ex c => rw [e1] at e; cases e
      | bad => rw [e1] at e; cases e
theorem par_ends {gs : List (Bool × Nat)} {ms : List DE} {σ : St} {H : Hp} {Z : Addr → Prop} {st : DS} {W : Ends} (l : Rl X.K θ Z H st σ) (p : Po X E (Own st σ) H (sPar gs ms st) (CS X.K θ (Own st σ) Z H W)) :
    rdAR X E θ (eArgsR ms) σ H fun vs H1 => vs.length = gs.length ∧ (Bd H1 → W.nx (setAll gs vs σ) H1) := by
  unfold sPar at p
  refine ⟨Z, st, l, p.bind fun rs st1 e1 p vs H1 Z1 b1 x l1 os ns => ?_⟩
  cases e2 : storeR gs rs st1 with
  | bad => simp only [e2, R.bad_bind] at p; exact False.elim p
  | ex c => exact absurd e2 (storeR_ne _ _ _ _)
  | ok st2 =>
    simp only [e2, R.ok_bind] at p
    obtain ⟨Z2, x2, l2, hl⟩ := store_all x l1 os ns e2
    exact ⟨hl, fun b' => p _ _ _ b' x2 l2⟩
theorem qs_par2 {i j : Nat} {o1 o2 : Bool} {x y : Str} {a b : Expr} {ms : List DE} {px py pt : Pos} {kt k2 : Nat} {pt2 pos : Pos} (hc : X.calm = true) (hN : X.N.Nodup) (hi : X.N[i]? = some x) (hj : X.N[j]? = some y) (hij : i ≠ j) (hx : X.env.scope.names.lookup x = some .local) (hy : X.env.scope.names.lookup y = some .local) (ha : QAR X E θ [a, b] (eArgsR ms))
    (hsw : swappedStores [.Tuple [.Name x px, .Name y py] kt pt] (.Tuple [a, b] k2 pt2) X.env = pure (some [x, y])) (hs : swapsWithSole [.Tuple [.Name x px, .Name y py] kt pt] (.Tuple [a, b] k2 pt2) pos.line X.env = pure false := by rfl) :
    QS X E θ (.Assign [.Tuple [.Name x px, .Name y py] kt pt] (.Tuple [a, b] k2 pt2) pos) (sPar [(o1, i), (o2, j)] ms) := QS.mk (ps_par hc hN hi hj hij hx hy ha hsw hs) fun W σ H Z st bd l p => by
  obtain ⟨Z1, st1, l1, p1⟩ := par_ends l p
  refine ⟨Z1, st1, l1, p1.mono fun rs st2 h vs H' Z' b x l o n => ?_⟩
  obtain ⟨hl, q⟩ := h vs H' Z' b x l o n
  match vs, hl with
  | [v, w], _ => exact ⟨v, w, rfl, q⟩
theorem qs_par3 {i j k : Nat} {o1 o2 o3 : Bool} {x y z : Str} {a b c : Expr} {ms : List DE} {px py pz pt : Pos} {kt k2 : Nat} {pt2 pos : Pos} (hc : X.calm = true) (hN : X.N.Nodup) (hi : X.N[i]? = some x) (hj : X.N[j]? = some y) (hk : X.N[k]? = some z) (hij : i ≠ j) (hik : i ≠ k) (hjk : j ≠ k) (hx : X.env.scope.names.lookup x = some .local) (hy : X.env.scope.names.lookup y = some .local) (hz : X.env.scope.names.lookup z = some .local) (ha : QAR X E θ [a, b, c] (eArgsR ms))
    (hsw : swappedStores [.Tuple [.Name x px, .Name y py, .Name z pz] kt pt] (.Tuple [a, b, c] k2 pt2) X.env = pure (some [x, y, z])) (hs : swapsWithSole [.Tuple [.Name x px, .Name y py, .Name z pz] kt pt] (.Tuple [a, b, c] k2 pt2) pos.line X.env = pure false := by rfl) :
    QS X E θ (.Assign [.Tuple [.Name x px, .Name y py, .Name z pz] kt pt] (.Tuple [a, b, c] k2 pt2) pos) (sPar [(o1, i), (o2, j), (o3, k)] ms) := QS.mk (ps_par3 hc hN hi hj hk hij hik hjk hx hy hz ha hsw hs) fun W σ H Z st bd l p => by
  obtain ⟨Z1, st1, l1, p1⟩ := par_ends l p
  refine ⟨Z1, st1, l1, p1.mono fun rs st2 h vs H' Z' b x l o n => ?_⟩
  obtain ⟨hl, q⟩ := h vs H' Z' b x l o n
  match vs, hl with
  | [u, v, w], _ => exact ⟨u, v, w, rfl, q⟩
end
end QL

end
section
/-! QRule13: x op= e, x[k] = e, append, new dicts. -/
namespace QL
open PySem PySem.Spec PyProof.Rows L2
section
variable {X : Cx} {E : XK} {θ : Nat → Addr}
/-- whole numbers -/
def IpOk (X : Cx) (op : Operator) (f : Int → Int → Option Int) : Prop := ∀ (a b c : Int), f a b = some c → ∀ (ti : TIp), True → True
theorem qs_augI {i : Nat} {x : Str} {e : Expr} {m : DE} {op : Operator} {ti : TIp} {f : Int → Int → Option Int} {pos pos' : Pos} (hN : X.N.Nodup) (hi : X.N[i]? = some x) (hx : Loc X.env.scope x) (he : QE X E θ e m) (hop : PIp X op ti) (hf : ∀ a b c H Q, f a b = some c → Q (.int c) H → ti (.int a) (.int b) H Q)
    (hl : X.fn x = true ∨ X.env.scope.names.lookup x = some .local := by first | exact .inl rfl | exact .inr rfl) : QS X E θ (.AugAssign (.Name x pos') op e pos) (sAugI f i m) := QS.mk (ps_aug hN hi hx he hop hl) fun W σ H Z st bd l p => by
  unfold sAugI at p
  split at p
  · rename_i a h0
    obtain ⟨v, h1, h2⟩ := l.at_val h0
    cases h2
    refine ⟨_, h1, Z, st, l, p.bind fun r st1 e1 p v H1 Z1 b1 x l1 o n => ?_⟩
    have p : Po X E (Own st σ) H (match r.d with
      | .int b => (R.of (f a b) >>= fun c => pure (Fl.nx, st1.set i (some (A.val (.int c)))))
      | _ => R.bad) _ := p
    split at p
    · rename_i b hb
      have hv := live_int hb o l1
      subst hv
      cases hc : f a b with
      | none => rw [hc] at p; exact False.elim p
      | some c =>
        rw [hc] at p
        have p : CS X.K θ (Own st σ) Z H W .nx (st1.set i (some (A.val (.int c)))) := p
        exact hf a b c _ _ hc fun b' => p _ _ _ b' (x.own fun a h => x.oo a (own_setV h)) (l1.setV (.int c))
    · exact False.elim p
  · exact False.elim p
theorem qs_aadd {i : Nat} {x : Str} {e : Expr} {m : DE} {pos pos' : Pos} (hN : X.N.Nodup) (hi : X.N[i]? = some x) (hx : Loc X.env.scope x) (he : QE X E θ e m) (hl : X.fn x = true ∨ X.env.scope.names.lookup x = some .local := by first | exact .inl rfl | exact .inr rfl) : QS X E θ (.AugAssign (.Name x pos') .Add e pos) (sAugI fAdd i m) :=
  qs_augI hN hi hx he ip_add (fun a b c H Q h q => by cases h; exact ⟨a, b, rfl, rfl, q⟩) hl
theorem qs_asub {i : Nat} {x : Str} {e : Expr} {m : DE} {pos pos' : Pos} (hN : X.N.Nodup) (hi : X.N[i]? = some x) (hx : Loc X.env.scope x) (he : QE X E θ e m) (hl : X.fn x = true ∨ X.env.scope.names.lookup x = some .local := by first | exact .inl rfl | exact .inr rfl) : QS X E θ (.AugAssign (.Name x pos') .Sub e pos) (sAugI fSub i m) :=
  qs_augI hN hi hx he ip_sub (fun a b c H Q h q => by cases h; exact ⟨a, b, rfl, rfl, q⟩) hl
theorem smallI_C {i : Int} (h : smallI i = true) : -2 ^ 64 < i ∧ i < 2 ^ 64 := by
  unfold smallI at h
  rw [Bool.and_eq_true] at h
  exact ⟨of_decide_eq_true h.1, of_decide_eq_true h.2⟩
theorem qs_amul {i : Nat} {x : Str} {e : Expr} {m : DE} {pos pos' : Pos} (hN : X.N.Nodup) (hi : X.N[i]? = some x) (hx : Loc X.env.scope x) (he : QE X E θ e m) (hl : X.fn x = true ∨ X.env.scope.names.lookup x = some .local := by first | exact .inl rfl | exact .inr rfl) : QS X E θ (.AugAssign (.Name x pos') .Mult e pos) (sAugI fMul i m) :=
  qs_augI (ti := rI CMul fun i j => V.int (i * j)) hN hi hx he (fun pins s σ H x y v u Q I r1 r2 h => iop_mul pins s σ H x y v u Q I r1 r2 h) (fun a b c H Q h q => by
    unfold fMul at h
    by_cases hc : (smallI a || smallI b) = true
    · rw [if_pos hc] at h
      cases h
      rw [Bool.or_eq_true] at hc
      exact ⟨a, b, rfl, rfl, hc.imp smallI_C smallI_C, q⟩
    · rw [if_neg hc] at h; cases h) hl
/-- the object of a slot is changed -/
theorem wr_slot {i : Nat} {x : Bool} {d d' : D} {p : Addr} {o : HO} {st : DS} {σ : St} {Z O0 Z0 : Addr → Prop} {H H0 : Hp} (xx : Stp O0 Z0 H0 (Own st σ) Z H) (l : Rl X.K θ Z H st σ) (h : st[i]? = some (some (.own x d))) (hσ : σ[i]? = some (some (.ref p))) (hc : Cn X.K Z (upd H p o) p d') :
    Stp O0 Z0 H0 (Own (st.set i (some (.own x d'))) σ) Z (upd H p o) ∧ Rl X.K θ Z (upd H p o) (st.set i (some (.own x d'))) σ := by
  have hO : Own st σ p := ⟨i, x, d, h, hσ⟩
  obtain ⟨nz, u, hu, cu⟩ := l.okO p hO
  exact ⟨(xx.trans (Stp.wr hO hu cu)).own fun a q => xx.oo a (own_wr h q), l.wr h hσ hc⟩
theorem kp_wr {i : Nat} {x : Bool} {d : D} {p : Addr} {o : HO} {st : DS} {σ : St} {Z : Addr → Prop} {H : Hp} (l : Rl X.K θ Z H st σ) (h : st[i]? = some (some (.own x d))) (hσ : σ[i]? = some (some (.ref p))) : Kp Z H Z (upd H p o) := by
  have hO : Own st σ p := ⟨i, x, d, h, hσ⟩
  obtain ⟨nz, u, hu, cu⟩ := l.okO p hO
  exact (Stp.wr (Z := Z) (o := o) hO hu cu).kp (K := X.K) l.okO
theorem qe_append {o e : Expr} {i : Nat} {m : DE} {apos cpos pos : Pos} (ho : PE X o (tVar i)) (he : QE X E θ e m)
    (hb : attributeBase o "append" X.env (eval o X.env) = eval o X.env := by rfl)
    (hk : ((((backTo cpos (starEach [e] X.env)).all fun x => !x.fst) && (backToKw cpos (keywordEach [] X.env)).all fun x => x.fst.isSome) && decide (([e].length + ([] : List Keyword).length + if ([] : List Keyword).isEmpty = true then 0 else 1) < 30)) = true := by rfl)
    (hl : (apos.endLine == cpos.line) = true := by rfl) (hst : starEach [e] X.env = (false, eval e X.env) :: starEach [] X.env := by rfl) (hpl : (backTo cpos (starEach [] X.env)).any (·.1) = false := by rfl)
    (hs : swapsWith (.Call (.Attribute o "append" apos) [e] [] cpos) none pos.line X.env = pure false := by rfl) : QS X E θ (.Expr (.Call (.Attribute o "append" apos) [e] [] cpos) pos) (sAppend i m) :=
  QS.mk (ps_expr (pe_bm PySem.F.plainAttrs_list PySem.F.slot_list_append PySem.F.type_list_append mt_append ho (pa_cons he pa_nil hst) hb hk hl hst hpl) hs) fun W σ H Z st bd l p => by
  unfold sAppend at p
  split at p
  · rename_i x0 ds0 h0
    obtain ⟨q, hσ, nz, cn, _⟩ := l.at_own h0
    cases cn with
    | @lst xs0 _ hq rl0 =>
      refine ⟨.ref q, hσ, .inl ⟨rfl, xs0, .inl (.inl hq)⟩, Z, st, l, p.bind fun r st1 e1 p v H1 Z1 b1 x l1 o n => p.bindR asVal_ne fun d hd p => ?_⟩
      obtain ⟨Z1', x', l1', rp, _, _⟩ := o.asVal l1 x n hd
      have p : Po X E (Own st σ) H (match st1[i]? with
        | some (some (.own x (.list xs))) => if xs.length < lim then pure (Fl.nx, st1.set i (some (A.own x (.list (xs ++ [d]))))) else R.bad
        | _ => R.bad) _ := p
      split at p
      · rename_i x1 ds1 h1
        obtain ⟨q', hσ', nz1, cn1, _⟩ := l1'.at_own h1
        rw [hσ] at hσ'; cases hσ'
        by_cases hlim : ds1.length < lim
        · rw [if_pos hlim] at p
          cases cn1 with
          | @lst xs1 _ hq1 rl1 =>
            have hlen := rl1.length
            have hsz : sizeLine = lim := by decide
            refine ⟨q, xs1, v, rfl, rfl, hq1, by omega, fun b' => ?_⟩
            have k := kp_wr (o := .lst (xs1 ++ [v])) l1' h1 hσ
            obtain ⟨x2, l2⟩ := wr_slot x' l1' h1 hσ (d' := .list (ds1 ++ [d])) (o := .lst (xs1 ++ [v])) (.lst upd_same ((rl1.append (.cons rp .nil)).kp k))
            exact p _ _ _ b' x2 l2
        · rw [if_neg hlim] at p; exact False.elim p
      · exact False.elim p
  · exact False.elim p
theorem eqv_intD (i : Int) {d : D} : ∀ k : Key, PyData.eqv (keyD k) (.int i) = decide (k = .inl i) := fun k => eqv_key k (.inl i)
theorem RpK.any {K : PySem.W.Frag} {Z : Addr → Prop} {H : Hp} (k : Key) : ∀ {ks : List (Key × V)} {ds : List (D × D)}, RpK K Z H ks ds → (ds.any fun p => PyData.eqv p.1 (keyD k)) = ks.any fun kv => decide (kv.1 = k)
  | _, _, .nil => rfl
  | _, _, .cons r t => by rw [List.any_cons, List.any_cons, RpK.any k t, eqv_key]
theorem RpT.any {K : PySem.W.Frag} {Z : Addr → Prop} {H : Hp} (k : List Key) : ∀ {ks : List (List Key × V)} {ds : List (D × D)}, RpT K Z H ks ds → (ds.any fun p => PyData.eqv p.1 (.tuple (k.map keyD))) = ks.any fun kv => decide (kv.1 = k)
  | _, _, .nil => rfl
  | _, _, .cons r t => by rw [List.any_cons, List.any_cons, RpT.any k t, eqv_keyT]
theorem RpK.mapPut {K : PySem.W.Frag} {Z : Addr → Prop} {H : Hp} (k : Key) {v : V} {d : D} (r : Rp K Z H v d) : ∀ {ks : List (Key × V)} {ds : List (D × D)}, RpK K Z H ks ds → RpK K Z H (ks.map fun kv => if kv.1 = k then (kv.1, v) else kv) (ds.map fun p => if PyData.eqv p.1 (keyD k) = true then (p.1, d) else p)
  | _, _, .nil => .nil
  | _, _, .cons (k := j) q t => by
    rw [List.map_cons, List.map_cons, eqv_key]
    by_cases e : j = k
    · rw [if_pos e, if_pos (decide_eq_true e)]; exact .cons r (RpK.mapPut k r t)
    · rw [if_neg e, if_neg (by rw [decide_eq_false e]; decide)]; exact .cons q (RpK.mapPut k r t)
theorem RpT.mapPut {K : PySem.W.Frag} {Z : Addr → Prop} {H : Hp} (k : List Key) {v : V} {d : D} (r : Rp K Z H v d) : ∀ {ks : List (List Key × V)} {ds : List (D × D)}, RpT K Z H ks ds → RpT K Z H (ks.map fun kv => if kv.1 = k then (kv.1, v) else kv) (ds.map fun p => if PyData.eqv p.1 (.tuple (k.map keyD)) = true then (p.1, d) else p)
  | _, _, .nil => .nil
  | _, _, .cons (k := j) q t => by
    rw [List.map_cons, List.map_cons, eqv_keyT]
    by_cases e : j = k
    · rw [if_pos e, if_pos (decide_eq_true e)]; exact .cons r (RpT.mapPut k r t)
    · rw [if_neg e, if_neg (by rw [decide_eq_false e]; decide)]; exact .cons q (RpT.mapPut k r t)
theorem RpK.app {K : PySem.W.Frag} {Z : Addr → Prop} {H : Hp} {k : Key} {v : V} {d : D} (r : Rp K Z H v d) : ∀ {ks : List (Key × V)} {ds : List (D × D)}, RpK K Z H ks ds → RpK K Z H (ks ++ [(k, v)]) (ds ++ [(keyD k, d)])
  | _, _, .nil => .cons r .nil
  | _, _, .cons q t => .cons q (RpK.app r t)
theorem RpT.app {K : PySem.W.Frag} {Z : Addr → Prop} {H : Hp} {k : List Key} {v : V} {d : D} (r : Rp K Z H v d) : ∀ {ks : List (List Key × V)} {ds : List (D × D)}, RpT K Z H ks ds → RpT K Z H (ks ++ [(k, v)]) (ds ++ [(.tuple (k.map keyD), d)])
  | _, _, .nil => .cons r .nil
  | _, _, .cons q t => .cons q (RpT.app r t)
theorem RpK.put {K : PySem.W.Frag} {Z : Addr → Prop} {H : Hp} (k : Key) {v : V} {d : D} (r : Rp K Z H v d) {ks : List (Key × V)} {ds : List (D × D)} (h : RpK K Z H ks ds) : RpK K Z H (putK ks k v) (putD ds (keyD k) d) := by
  unfold putK putD
  rw [h.any k]
  by_cases e : (ks.any fun kv => decide (kv.1 = k)) = true
  · rw [if_pos e, if_pos e]; exact h.mapPut k r
  · rw [if_neg e, if_neg e]; exact h.app r
theorem RpT.put {K : PySem.W.Frag} {Z : Addr → Prop} {H : Hp} (k : List Key) {v : V} {d : D} (r : Rp K Z H v d) {ks : List (List Key × V)} {ds : List (D × D)} (h : RpT K Z H ks ds) : RpT K Z H (putK ks k v) (putD ds (.tuple (k.map keyD)) d) := by
  unfold putK putD
  rw [h.any k]
  by_cases e : (ks.any fun kv => decide (kv.1 = k)) = true
  · rw [if_pos e, if_pos e]; exact h.mapPut k r
  · rw [if_neg e, if_neg e]; exact h.app r
theorem putD_mark (ds : List (D × D)) (es : List D) (d : D) : putD ((.none, .none) :: ds) (.tuple es) d = (.none, .none) :: putD ds (.tuple es) d := by
  unfold putD
  have h0 : PyData.eqv (.none) (.tuple es) = false := rfl
  rw [List.any_cons, h0, Bool.false_or]
  by_cases e : (ds.any fun p => PyData.eqv p.1 (.tuple es)) = true
  · rw [if_pos e, if_pos e, List.map_cons]
    rw [if_neg (by rw [h0]; decide)]
  · rw [if_neg e, if_neg e]; rfl
/-- x[k] = e -/
theorem put_ends {Z : Addr → Prop} {H : Hp} {p : Addr} {c k v : D} {y w : V} {c' : D} (cn : Cn X.K Z H p c) (rk : Vw X.K H y k) (rw' : Rp X.K Z H w v) (h : putC c k v = some c') :
    ((∃ ds, c = .list ds) ∧ ∃ xs n j, y = .int n ∧ H p = some (.lst xs) ∧ ixN xs.length n = some j ∧ ∀ {Z' : Addr → Prop}, Kp Z H Z' (upd H p (.lst (xs.set j w))) → Cn X.K Z' (upd H p (.lst (xs.set j w))) p c') ∨ ((∃ ds, c = .dict ds) ∧ ∃ H', DPut H p y w H' ∧ ∃ o, H' = upd H p o ∧ ∀ {Z' : Addr → Prop}, Kp Z H Z' H' → Cn X.K Z' H' p c') := by
  cases cn with
  | @lst xs ds hp rl =>
    cases k with
    | int n =>
      cases rk
      have h : (ixD ds.length n).map (fun j => PyData.list (ds.set j v)) = some c' := h
      cases hj : ixD ds.length n with
      | none => rw [hj] at h; cases h
      | some j =>
        rw [hj] at h; cases h
        refine .inl ⟨⟨_, rfl⟩, xs, n, j, rfl, hp, ?_, fun k => .lst upd_same (((rl.kp k)).set (rw'.kp k) j)⟩
        rw [rl.length]
        exact hj
    | _ => cases h
  | @dk ks ds hp rl =>
    cases k with
    | int n =>
      cases rk
      have h : (if isMark ds = true ∨ lim ≤ ds.length then none else some (PyData.dict (putD ds (.int n) v))) = some c' := h
      rw [rl.mark] at h
      by_cases e : lim ≤ ds.length
      · rw [if_pos (.inr e)] at h; cases h
      · rw [if_neg (by simp [e])] at h
        cases h
        have hlen := rl.length
        have hsz : sizeLine = lim := by decide
        refine .inr ⟨⟨_, rfl⟩, _, .inl ⟨ks, .inl n, hp, rfl, by omega, rfl⟩, _, rfl, fun k => .dk upd_same ((rl.kp k).put (.inl n) (rw'.kp k))⟩
    | tuple es =>
      have h : (if isMark ds = true ∧ intsOnly es = true ∧ ds.length ≤ lim then some (PyData.dict (putD ds (.tuple es) v)) else none) = some c' := h
      rw [rl.mark] at h
      rw [if_neg (by simp)] at h
      cases h
    | _ => cases h
  | @dt ks ds hp rl =>
    cases rl with
    | @mk ks ds rl =>
      cases k with
      | int n =>
        have h : (if isMark ((PyData.none, PyData.none) :: ds) = true ∨ lim ≤ ((PyData.none, PyData.none) :: ds).length then none else some (PyData.dict (putD ((PyData.none, PyData.none) :: ds) (.int n) v))) = some c' := h
        rw [if_pos (.inl rfl)] at h; cases h
      | tuple es =>
        have h : (if isMark ((PyData.none, PyData.none) :: ds) = true ∧ intsOnly es = true ∧ ((PyData.none, PyData.none) :: ds).length ≤ lim then some (PyData.dict (putD ((PyData.none, PyData.none) :: ds) (.tuple es) v)) else none) = some c' := h
        by_cases e : isMark ((PyData.none, PyData.none) :: ds) = true ∧ intsOnly es = true ∧ ((PyData.none, PyData.none) :: ds).length ≤ lim
        · rw [if_pos e] at h
          cases h
          obtain ⟨kk, rfl⟩ := ints_key e.2.1
          cases rk with
          | @tup b ys _ hb rb =>
            have hy : ys = kk.map kV := vals_key rb
            have hlen := rl.length
            have hsz : sizeLine = lim := by decide
            have hl2 := e.2.2
            rw [List.length_cons] at hl2
            subst hy
            rw [putD_mark]
            refine .inr ⟨⟨_, rfl⟩, _, .inr ⟨ks, kk, b, hp, rfl, hb, by omega, rfl⟩, _, rfl, fun k => .dt upd_same (.mk ((rl.kp k).put kk (rw'.kp k)))⟩
        · rw [if_neg e] at h; cases h
      | _ => cases h
theorem qs_put {o kx e : Expr} {i : Nat} {mk me : DE} {pos pos' : Pos} (hu : X.A.units + 1 < cLine) (ho : PE X o (tVar i)) (hk : QE X E θ kx mk) (he : QE X E θ e me)
    (hs1 : swapsWithSole [.Subscript o kx pos'] e pos.line X.env = pure false := by rfl) (hw : swappedStores [.Subscript o kx pos'] e X.env = pure none := by rfl) (h1 : (assignEach [.Subscript o kx pos'] X.env).map (·.2) = [assign (.Subscript o kx pos') X.env] := by rfl)
    (hs : swapsWith e (some (.Subscript o kx pos')) pos.line X.env = pure false := by rfl)
    (hg : ∀ (v : Value), assign (Expr.Subscript o kx pos') X.env v = (do
      let ov ← holding [v] (eval o X.env)
      let iv ← holding [v, ov] (eval kx X.env)
      standAt pos'
      holding [v, ov, iv] (setItem ov iv v)
      release [v, ov, iv] []) := by intro _; rfl) : QS X E θ (.Assign [.Subscript o kx pos'] e pos) (sPut i mk me) :=
  QS.mk (PS.or (ps_asg he (pg_sub ho hk set_list hg) hs1 hw h1) (ps_dput hu ho hk he hs)) fun W σ H Z st bd l p => by
  unfold sPut at p
  by_cases hL : ∃ r s1 rk s2 x xs, me st = .ok (r, s1) ∧ mk s1 = .ok (rk, s2) ∧ s2[i]? = some (some (A.own x (.list xs)))
  · refine .inl ⟨Z, st, l, p.bind fun r s1 e1 p v H1 Z1 b1 x l1 o n => p.bindR asVal_ne fun dv hd p => ?_⟩
    obtain ⟨Z1', x', l1', rp, _, _⟩ := o.asVal l1 x n hd
    have p : Po X E (Own st σ) H (match s1[i]? with
      | some (some (.own _ _)) => (mk s1 >>= fun q => match q.2[i]? with
        | some (some (.own x c)) => (R.of (putC c q.1.d dv) >>= fun c' => pure (Fl.nx, q.2.set i (some (A.own x c'))))
        | _ => R.bad)
      | _ => R.bad) _ := p
    split at p
    · rename_i x0 c0 h0
      obtain ⟨q, hσ, _, _, _⟩ := l1'.at_own h0
      refine ⟨.ref q, hσ, Z1', s1, l1', (p.adv x').bind fun rk s2 e2 p2 y H2 Z2 b2 x2 l2 o2 n2 => ?_⟩
      rw [e2] at p
      have p : Po X E (Own st σ) H (match s2[i]? with
        | some (some (.own x c)) => (R.of (putC c rk.d dv) >>= fun c' => pure (Fl.nx, s2.set i (some (A.own x c'))))
        | _ => R.bad) _ := p
      obtain ⟨r', s1', rk', s2', x1, xs, g1, g2, g3⟩ := hL
      rw [e1] at g1; cases g1
      rw [e2] at g2; cases g2
      rw [g3] at p
      have p : Po X E (Own st σ) H (R.of (putC (.list xs) rk.d dv) >>= fun c' => pure (Fl.nx, s2.set i (some (A.own x1 c')))) _ := p
      obtain ⟨q', hσ', _, cn, _⟩ := l2.at_own g3
      rw [hσ] at hσ'; cases hσ'
      cases hc : putC (.list xs) rk.d dv with
      | none => rw [hc] at p; exact False.elim p
      | some c' =>
        rw [hc] at p
        have p : CS X.K θ (Own st σ) Z H W .nx (s2.set i (some (A.own x1 c'))) := p
        rcases put_ends cn (o2.vw l2) (rp.kp (x2.kp (K := X.K) l1'.okO)) hc with ⟨_, vs, m, j, rfl, hq, hj, hcn⟩ | ⟨⟨_, hh⟩, _⟩
        · refine ⟨q, vs, m, j, rfl, rfl, hq, hj, fun b' => ?_⟩
          obtain ⟨x3, l3⟩ := wr_slot (x'.trans x2) l2 g3 hσ (hcn (kp_wr l2 g3 hσ))
          exact p _ _ _ b' x3 l3
        · cases hh
    · exact False.elim p
  · refine .inr ⟨Z, st, l, p.bind fun r s1 e1 p v H1 Z1 b1 x l1 o n => p.bindR asVal_ne fun dv hd p => ?_⟩
    obtain ⟨Z1', x', l1', rp, _, _⟩ := o.asVal l1 x n hd
    have p : Po X E (Own st σ) H (match s1[i]? with
      | some (some (.own _ _)) => (mk s1 >>= fun q => match q.2[i]? with
        | some (some (.own x c)) => (R.of (putC c q.1.d dv) >>= fun c' => pure (Fl.nx, q.2.set i (some (A.own x c'))))
        | _ => R.bad)
      | _ => R.bad) _ := p
    split at p
    · rename_i x0 c0 h0
      obtain ⟨q, hσ, _, _, _⟩ := l1'.at_own h0
      refine ⟨.ref q, hσ, Z1', s1, l1', (p.adv x').bind fun rk s2 e2 p2 y H2 Z2 b2 x2 l2 o2 n2 => ?_⟩
      rw [e2] at p
      have p : Po X E (Own st σ) H (match s2[i]? with
        | some (some (.own x c)) => (R.of (putC c rk.d dv) >>= fun c' => pure (Fl.nx, s2.set i (some (A.own x c'))))
        | _ => R.bad) _ := p
      split at p
      · rename_i x1 c1 g3
        obtain ⟨q', hσ', _, cn, _⟩ := l2.at_own g3
        rw [hσ] at hσ'; cases hσ'
        cases hc : putC c1 rk.d dv with
        | none => rw [hc] at p; exact False.elim p
        | some c' =>
          rw [hc] at p
          have p : CS X.K θ (Own st σ) Z H W .nx (s2.set i (some (A.own x1 c'))) := p
          rcases put_ends cn (o2.vw l2) (rp.kp (x2.kp (K := X.K) l1'.okO)) hc with ⟨⟨ds, hh⟩, _⟩ | ⟨_, H', hput, u, rfl, hcn⟩
          · subst hh
            exact absurd ⟨r, s1, rk, s2, x1, ds, e1, e2, g3⟩ hL
          · refine ⟨q, _, rfl, hput, fun b' => ?_⟩
            obtain ⟨x3, l3⟩ := wr_slot (x'.trans x2) l2 g3 hσ (hcn (kp_wr l2 g3 hσ))
            exact p _ _ _ b' x3 l3
      · exact False.elim p
    · exact False.elim p
end
end QL

end
section
/-! QRule14: x += list, new dicts. -/
namespace QL
open PySem PySem.Spec PyProof.Rows L2
section
variable {X : Cx} {E : XK} {θ : Nat → Addr}
theorem qs_ext {i : Nat} {x : Str} {e : Expr} {m : DE} {pos pos' : Pos} (hN : X.N.Nodup) (hi : X.N[i]? = some x) (hx : Loc X.env.scope x) (he : QE X E θ e m) (hl : X.fn x = true ∨ X.env.scope.names.lookup x = some .local := by first | exact .inl rfl | exact .inr rfl) : QS X E θ (.AugAssign (.Name x pos') .Add e pos) (sExt i m) := QS.mk (ps_aug (ti := rExt2) hN hi hx he (fun pins s σ H x y v u Q I r1 r2 h => iop_ext pins s σ H x y v u Q I r1 r2 h) hl) fun W σ H Z st bd l p => by
  unfold sExt at p
  split at p
  · rename_i x0 d0 h0
    obtain ⟨q, hσ, nz, cn, _⟩ := l.at_own h0
    refine ⟨.ref q, hσ, Z, st, l, p.bind fun r st1 e1 p v H1 Z1 b1 x l1 o n => ?_⟩
    replace p : Po X E (Own st σ) H (match r, st1[i]? with
      | .fresh (.list ys), some (some (.own x (.list xs))) => if xs.length + ys.length ≤ lim then pure (Fl.nx, st1.set i (some (A.own x (.list (xs ++ ys))))) else R.bad
      | _, _ => R.bad) _ := p
    split at p
    · rename_i ys x1 xs h1
      obtain ⟨q', hσ', nz1, cn1, _⟩ := l1.at_own h1
      rw [hσ] at hσ'; cases hσ'
      by_cases hlim : xs.length + ys.length ≤ lim
      · rw [if_pos hlim] at p
        cases cn1 with
        | @lst vs _ hq rl =>
          cases o with
          | @fresh b _ ev nzb nob cb =>
            cases cb with
            | @lst ws _ hb rb =>
              have hlen := rl.length
              have hlen2 := rb.length
              have hsz : sizeLine = lim := by decide
              refine ⟨q, b, vs, ws, rfl, ev, hq, hb, by omega, ?_⟩
              have k := kp_wr (o := .lst (vs ++ ws)) l1 h1 hσ
              obtain ⟨x2, l2⟩ := wr_slot x l1 h1 hσ (d' := .list (xs ++ ys)) (o := .lst (vs ++ ws)) (.lst upd_same ((rl.append rb).kp k))
              have p : CS X.K θ (Own st σ) Z H W .nx (st1.set i (some (A.own x1 (.list (xs ++ ys))))) := p
              have e : σ.set i (some (V.ref q)) = σ := by
                apply List.ext_getElem?
                intro j
                by_cases hj : i = j
                · subst hj
                  rw [List.getElem?_set_self (List.getElem?_eq_some_iff.mp hσ).1, hσ]
                · rw [List.getElem?_set_ne hj]
              show (Ends.bd W).nx (σ.set i (some (V.ref q))) _
              rw [e]
              exact fun b' => p _ _ _ b' x2 l2
      · rw [if_neg hlim] at p; exact False.elim p
    · exact False.elim p
  · exact False.elim p
theorem qe_dictK {pos : Pos} : QE X E θ (.Dict [] [] pos) eDictK := QE.mk pe_dnewK fun σ H Z st Q bd l p q hq b' => by
  obtain ⟨x1, l1, o1, n1⟩ := (Res.dk (K := X.K) (Z := Z) hq .nil).ends l
  exact p _ _ _ b' x1 l1 o1 n1
theorem qe_dictT {pos : Pos} : QE X E θ (.Dict [] [] pos) eDictT := QE.mk pe_dnewT fun σ H Z st Q bd l p q hq b' => by
  obtain ⟨x1, l1, o1, n1⟩ := (Res.dt (K := X.K) (Z := Z) hq (.mk .nil)).ends l
  exact p _ _ _ b' x1 l1 o1 n1
theorem qe_dict1 {k v : Expr} {mk mv : DE} {pos : Pos} (hk : QE X E θ k mk) (hv : QE X E θ v mv) : QE X E θ (.Dict [some k] [v] pos) (eDict1 mk mv) := QE.mk (pe_disp (pps_cons hk hv pps_nil) (by rfl) (by rfl) (fun z => by cases z) (by show 1 ≤ 15; decide)) fun σ H Z st Q bd l p q hq => by
  unfold eDict1 at p
  have l0 : Rl X.K θ Z (upd H q (.dK [])) st σ := l.new hq
  have x0 : Stp (Own st σ) Z H (Own st σ) Z (upd H q (.dK [])) := Stp.new hq
  have no0 : ¬ Own st σ q := fun z => by
    obtain ⟨_, u, hu, _⟩ := l.okO q z
    rw [hq] at hu; cases hu
  have nz0 : ¬ Z q := fun z => l.dom q z hq
  refine ⟨Z, st, l0, (p.adv x0).bind fun rk s1 e1 _ y H1 Z1 b1 x1 l1 o1 n1 => ?_⟩
  have p1 := p
  rw [e1] at p1
  simp only [R.ok_bind] at p1
  refine ⟨Z1, s1, l1, (p1.adv (x0.trans x1)).bind fun rv s2 e2 _ w H2 Z2 b2 x2 l2 o2 n2 => ?_⟩
  rw [e2] at p1
  simp only [R.ok_bind] at p1
  have p1 : Po X E (Own st σ) H (rv.asVal >>= fun x => (match rk with
    | .val (.int i) => pure (RV.fresh (.dict [(.int i, x)]), s2)
    | _ => R.bad)) _ := p1
  refine p1.bindR asVal_ne fun dv hd p2 => ?_
  obtain ⟨Z3, x3, l3, rp, k3, _⟩ := o2.asVal l2 x2 n2 hd
  cases rk with
  | fresh _ => exact False.elim p2
  | bor _ _ => exact False.elim p2
  | val dk =>
    cases dk with
    | int i =>
      have p2 : CE X.K θ (Own st σ) Z H σ Q (RV.fresh (.dict [(.int i, dv)])) s2 := p2
      have hy : y = .int i := by
        cases o1 with
        | val h => cases h; rfl
      subst hy
      have xa := x1.trans x3
      have ha := xa.away upd_same trivial no0 nz0
      refine ⟨ha.1, [(.inl i, w)], rfl, by simp, fun b' => ?_⟩
      have e : mergeK [] [((Sum.inl i : Key), w)] = [(.inl i, w)] := rfl
      have xw := ((x0.trans xa).wrN hq ha.1 trivial (o := .dK (mergeK [] [(.inl i, w)])))
      have lw := l3.wrN (o := .dK (mergeK [] [((Sum.inl i : Key), w)])) ha.1 trivial ha.2.2 ha.2.1
      refine p2 _ _ _ b' xw lw (.fresh rfl ha.2.2 ha.2.1 (.dk upd_same ?_)) fun p' d' h1 h2 => by
        cases h2; exact .inr hq
      exact .cons (rp.kp (Kp.wrN ha.1 trivial ha.2.2)) .nil
    | _ => exact False.elim p2
/-- dict(d) -/
theorem cg_dict : CallR X (.type "dict") (rGc X.K gCopy) := by
  intro pins s σ H xs us Q I r h
  obtain ⟨x, rfl, Z, d, rv, hx, hr, q⟩ := h
  cases d with
  | dict ds =>
    have hr : (if isMark ds = true then none else some (RV.fresh (.dict ds))) = some rv := hr
    obtain ⟨u, rfl, rx⟩ := vals1 r
    rcases wv_dict hx with ⟨a, ks, rfl, hl, rl⟩ | ⟨a, ks, rfl, hl, rl⟩
    · obtain rfl : u = Value.ref a := rx
      rw [rl.mark, if_neg Bool.false_ne_true] at hr
      cases hr
      exact d_copyOf I hl fun p s' hp I' => ⟨.ref p, _, I', rfl, q _ _ (.dk hp rl)⟩
    · cases rl
      have hr : (none : Option RV) = some rv := hr
      cases hr
  | _ => cases hr
end
end QL

end
section
/-! QRule15: built-in calls. -/
namespace QL
open PySem PySem.Spec PyProof.Rows L2
theorem ints_of {K : PySem.W.Frag} {Z : Addr → Prop} {H : Hp} : ∀ {vs : List V} {ds : List D} {ns : List Int}, RpL K Z H vs ds → intsD ds = some ns → vs = ns.map V.int
  | _, _, _, .nil, h => by cases h; rfl
  | _, _, ns, .cons (d := d) (ds := ds) r t, h => by
    cases d with
    | int i =>
      have h : (intsD ds).map (i :: ·) = some ns := h
      cases e : intsD ds with
      | none => rw [e] at h; cases h
      | some ms =>
        rw [e] at h; cases h
        cases r
        rw [ints_of t e]; rfl
    | _ => cases h
theorem bools_of {K : PySem.W.Frag} {Z : Addr → Prop} {H : Hp} : ∀ {vs : List V} {ds : List D} {ns : List Bool}, RpL K Z H vs ds → boolsD ds = some ns → vs = ns.map V.bl
  | _, _, _, .nil, h => by cases h; rfl
  | _, _, ns, .cons (d := d) (ds := ds) r t, h => by
    cases d with
    | bool i =>
      have h : (boolsD ds).map (i :: ·) = some ns := h
      cases e : boolsD ds with
      | none => rw [e] at h; cases h
      | some ms =>
        rw [e] at h; cases h
        cases r
        rw [bools_of t e]; rfl
    | _ => cases h
theorem preSum_list (ns : List Int) (f : Nat → Int) (h : ∀ i, i < ns.length → ns[i]? = some (f i)) : PySem.preSum f ns.length = ns.sum := by
  have aux : ∀ k, k ≤ ns.length → PySem.preSum f k = (ns.take k).sum := by
    intro k
    induction k with
    | zero => intro _; simp [PySem.preSum]
    | succ k ih =>
      intro hk
      have h1 := h k (by omega)
      have : ns.take (k + 1) = ns.take k ++ [f k] := by rw [List.take_add_one, h1]; rfl
      rw [this, List.sum_append, ← ih (by omega)]
      simp [PySem.preSum]
  rw [aux _ (Nat.le_refl _), List.take_length]
section
variable {X : Cx} {E : XK} {θ : Nat → Addr}
theorem cg_sum {k : Nat} (hc : X.calm = true) (hr : Room k X.A) : CallR X (.builtin "sum") (rGc X.K gSum) := by
  intro pins s σ H xs us Q I r h
  obtain ⟨x, rfl, Z, d, rv, hx, hr', q⟩ := h
  cases d with
  | list ds =>
    have hr' : (intsD ds).bind (fun ns => vI ns.sum) = some rv := hr'
    cases e : intsD ds with
    | none => rw [e] at hr'; cases hr'
    | some ns =>
      rw [e] at hr'; cases hr'
      obtain ⟨a, vs, rfl, hl, rl⟩ := wv_lst hx
      rw [ints_of rl e] at hl
      exact cr_sum hc pins s σ H _ us Q I r ⟨a, ns, rfl, hl, q _ _ res_int⟩
  | tuple ds =>
    have hr' : (intsD ds).bind (fun ns => vI ns.sum) = some rv := hr'
    cases e : intsD ds with
    | none => rw [e] at hr'; cases hr'
    | some ns =>
      rw [e] at hr'; cases hr'
      obtain ⟨a, vs, rfl, hl, rl⟩ := wv_tup hx
      rw [ints_of rl e] at hl
      obtain ⟨u, rfl, rx⟩ := vals1 r
      obtain rfl : u = Value.ref a := rx
      obtain ⟨its, rv', p, hz⟩ := I.tuple (SqT.of hl)
      have hp : s.heap.IsTuple a its.toArray := p
      refine PySem.call_sum_walkG (wpAny_pyIter_tuple hp ?_)
      have hne : a ≠ s.heap.objs.size := by
        intro e
        obtain ⟨o, ho, _⟩ := hp
        have h := Heap.lt_size ho
        rw [e] at h
        exact Nat.lt_irrefl _ h
      have hlen : its.length = ns.length := by
        have := Vals.length rv'
        rw [List.length_map] at this
        exact this.symm
      have hat : ∀ (i : Nat) (v : Value), its[i]? = some v → ∃ t, v = Value.int (ns.getD i 0) t := by
        intro i v hv
        have hi : i < its.length := (List.getElem?_eq_some_iff.mp hv).1
        have hi' : i < ns.length := by omega
        have hw : (ns.map V.int)[i]? = some (.int ns[i]) := by rw [List.getElem?_map, List.getElem?_eq_getElem hi']; rfl
        obtain ⟨u, hu, ru⟩ := Vals.get rv' hw
        rw [hv] at hu
        cases hu
        obtain ⟨t, ht⟩ := ru
        exact ⟨t, by rw [ht, List.getD_eq_getElem?_getD, List.getElem?_eq_getElem hi']; rfl⟩
      have hin : (X.A.in1).handled = none := hr.hd
      refine ⟨_, _, _, _, _, _, fun i => ns.getD i 0, rfl, Walks.tuple hin s.heap.objs.size a hne its.toArray, ⟨⟨_, Heap.get?_push_size _ rfl, rfl, rfl⟩, ?_⟩, ?_, ?_, ?_⟩
      · obtain ⟨o, ho, h1, h2⟩ := hp
        exact ⟨o, Heap.get?_push_of_some _ ho, h1, h2⟩
      · intro b hb
        obtain ⟨o, ho, _⟩ := hp
        have := Heap.lt_size ho
        simp only [List.mem_cons, List.not_mem_nil, or_false] at hb
        rw [Heap.size_push]
        rcases hb with rfl | rfl
        · exact Nat.lt_succ_self _
        · exact Nat.lt_succ_of_lt this
      · intro i v hv
        exact hat i v (by simpa using hv)
      · intro h' tk t' hk
        have hps : PySem.preSum (fun i => ns.getD i 0) its.toArray.size = ns.sum := by
          have : its.toArray.size = ns.length := by simpa using hlen
          rw [this]
          exact preSum_list ns _ fun i hi => by rw [List.getD_eq_getElem?_getD, List.getElem?_eq_getElem hi]; rfl
        rw [hps]
        refine ⟨.int ns.sum, H, I.kept fun b u hb => hk b u ?_ (Heap.get?_push_of_some _ hb), ⟨_, rfl⟩, q _ _ res_int⟩
        have := Heap.lt_size hb
        simp only [List.mem_singleton]
        intro e
        rw [e] at this
        exact Nat.lt_irrefl _ this
  | _ => cases hr'
theorem cg_all (hc : X.calm = true) : CallR X (.builtin "all") (rGc X.K gAll) := by
  intro pins s σ H xs us Q I r h
  obtain ⟨x, rfl, Z, d, rv, hx, hr', q⟩ := h
  cases d with
  | list ds =>
    have hr' : (boolsD ds).bind (fun ns => vB (ns.all id)) = some rv := hr'
    cases e : boolsD ds with
    | none => rw [e] at hr'; cases hr'
    | some ns =>
      rw [e] at hr'; cases hr'
      obtain ⟨a, vs, rfl, hl, rl⟩ := wv_lst hx
      rw [bools_of rl e] at hl
      exact cr_all hc pins s σ H _ us Q I r ⟨a, ns, rfl, hl, q _ _ res_bool⟩
  | _ => cases hr'
theorem cg_tuple : CallR X (.type "tuple") (rGc X.K gTuple) := by
  intro pins s σ H xs us Q I r h
  obtain ⟨x, rfl, Z, d, rv, hx, hr', q⟩ := h
  cases d with
  | list ds =>
    cases hr'
    obtain ⟨a, vs, rfl, hl, rl⟩ := wv_lst hx
    exact call_tuple_of pins s σ H _ us Q I r ⟨a, vs, rfl, .inl ⟨hl, fun p hp => q _ _ (.tup hp rl)⟩⟩
  | tuple ds =>
    cases hr'
    obtain ⟨a, vs, rfl, hl, rl⟩ := wv_tup hx
    exact call_tuple_of pins s σ H _ us Q I r ⟨a, vs, rfl, .inr ⟨SqT.of hl, q _ _ (.same (.tup hl rl))⟩⟩
  | _ => cases hr'
theorem cg_list : CallR X (.type "list") (rGc X.K gList) := by
  intro pins s σ H xs us Q I r h
  obtain ⟨x, rfl, Z, d, rv, hx, hr', q⟩ := h
  cases d with
  | list ds =>
    cases hr'
    obtain ⟨a, vs, rfl, hl, rl⟩ := wv_lst hx
    exact call_list_of pins s σ H _ us Q I r ⟨a, vs, rfl, .inl hl, fun p hp => q _ _ (.lst hp rl)⟩
  | tuple ds =>
    cases hr'
    obtain ⟨a, vs, rfl, hl, rl⟩ := wv_tup hx
    exact call_list_of pins s σ H _ us Q I r ⟨a, vs, rfl, .inr (SqT.of hl), fun p hp => q _ _ (.lst hp rl)⟩
  | _ => cases hr'
theorem wv_int {Z : Addr → Prop} {H : Hp} {v : V} {i : Int} (h : Wv X.K Z H v (.int i)) : v = .int i := by
  have h := h.vw
  cases h; rfl
theorem cg_abs : CallR X (.builtin "abs") (rGc X.K gAbs) := by
  intro pins s σ H xs us Q I r h
  obtain ⟨x, rfl, Z, d, rv, hx, hr', q⟩ := h
  cases d with
  | int i =>
    cases hr'
    rw [wv_int hx] at r
    exact call_abs pins s σ H _ us Q I r ⟨i, rfl, q _ _ res_int⟩
  | _ => cases hr'
theorem cg_int : CallR X (.type "int") (rGc X.K gInt) := by
  intro pins s σ H xs us Q I r h
  obtain ⟨x, rfl, Z, d, rv, hx, hr', q⟩ := h
  cases d with
  | int i =>
    cases hr'
    rw [wv_int hx] at r
    exact call_int1 pins s σ H _ us Q I r (.inl ⟨i, rfl, q _ _ res_int⟩)
  | _ => cases hr'
theorem cg_strI : CallR X (.type "str") (rGc X.K gStrI) := by
  intro pins s σ H xs us Q I r h
  obtain ⟨x, rfl, Z, d, rv, hx, hr', q⟩ := h
  cases d with
  | int i =>
    have hr' : (if i.natAbs.log2 < 1920 then some (RV.val (.str (Str.ofString (toString i)))) else none) = some rv := hr'
    by_cases e : i.natAbs.log2 < 1920
    · rw [if_pos e] at hr'
      cases hr'
      rw [wv_int hx] at r
      exact call_str_int pins s σ H _ us Q I r ⟨i, rfl, e, q _ _ res_str⟩
    · rw [if_neg e] at hr'; cases hr'
  | _ => cases hr'
theorem cg_min2 (hc : X.calm = true) : CallR X (.builtin "min") (rGc2 X.K gMin2) := by
  intro pins s σ H xs us Q I r h
  obtain ⟨x, y, rfl, Z, d, e, rv, hx, hy, hr', q⟩ := h
  cases d with
  | int i =>
    cases e with
    | int j =>
      cases hr'
      rw [wv_int hx, wv_int hy] at r
      exact call_min2 hc pins s σ H _ us Q I r ⟨i, j, rfl, q _ _ res_int⟩
    | _ => cases hr'
  | _ => cases hr'
theorem cg_max2 (hc : X.calm = true) : CallR X (.builtin "max") (rGc2 X.K gMax2) := by
  intro pins s σ H xs us Q I r h
  obtain ⟨x, y, rfl, Z, d, e, rv, hx, hy, hr', q⟩ := h
  cases d with
  | int i =>
    cases e with
    | int j =>
      cases hr'
      rw [wv_int hx, wv_int hy] at r
      exact call_max2 hc pins s σ H _ us Q I r ⟨i, j, rfl, q _ _ res_int⟩
    | _ => cases hr'
  | _ => cases hr'
theorem cg_minL (hc : X.calm = true) : CallR X (.builtin "min") (rGc X.K gMinL) := by
  intro pins s σ H xs us Q I r h
  obtain ⟨x, rfl, Z, d, rv, hx, hr', q⟩ := h
  cases d with
  | list ds =>
    have hr' : (intsD ds).bind (fun ns => (minI ns).bind fun m => vI m) = some rv := hr'
    cases e : intsD ds with
    | none => rw [e] at hr'; cases hr'
    | some ns =>
      rw [e] at hr'
      cases ns with
      | nil => cases hr'
      | cons n ns =>
        cases hr'
        obtain ⟨a, vs, rfl, hl, rl⟩ := wv_lst hx
        rw [ints_of rl e] at hl
        obtain ⟨h1, h2⟩ := fold_min ns n
        refine cr_min hc pins s σ H _ us Q I r ⟨a, n :: ns, rfl, hl, by simp, fun m hm hle => ?_⟩
        have : m = ns.foldl (fun a b => if b < a then b else a) n := Int.le_antisymm (hle _ h1) (h2 _ hm)
        rw [this]
        exact q _ _ res_int
  | _ => cases hr'
theorem cg_maxL (hc : X.calm = true) : CallR X (.builtin "max") (rGc X.K gMaxL) := by
  intro pins s σ H xs us Q I r h
  obtain ⟨x, rfl, Z, d, rv, hx, hr', q⟩ := h
  cases d with
  | list ds =>
    have hr' : (intsD ds).bind (fun ns => (maxI ns).bind fun m => vI m) = some rv := hr'
    cases e : intsD ds with
    | none => rw [e] at hr'; cases hr'
    | some ns =>
      rw [e] at hr'
      cases ns with
      | nil => cases hr'
      | cons n ns =>
        cases hr'
        obtain ⟨a, vs, rfl, hl, rl⟩ := wv_lst hx
        rw [ints_of rl e] at hl
        obtain ⟨h1, h2⟩ := fold_max ns n
        refine cr_max hc pins s σ H _ us Q I r ⟨a, n :: ns, rfl, hl, by simp, fun m hm hle => ?_⟩
        have : m = ns.foldl (fun a b => if a < b then b else a) n := Int.le_antisymm (h2 _ hm) (hle _ h1)
        rw [this]
        exact q _ _ res_int
  | _ => cases hr'
/-! ### isinstance -/
def Ty.s : Ty → String
  | .int => "int"
  | .bool => "bool"
  | .str => "str"
  | .list => "list"
  | .tuple => "tuple"
theorem kit_n : ∀ ty : Ty, kitB "NoneType" ty.s = some (isTy ty .none) := fun ty => by cases ty <;> decide +kernel
theorem kit_b : ∀ ty : Ty, kitB "bool" ty.s = some (isTy ty (.bool true)) := fun ty => by cases ty <;> decide +kernel
theorem kit_i : ∀ ty : Ty, kitB "int" ty.s = some (isTy ty (.int 0)) := fun ty => by cases ty <;> decide +kernel
theorem kit_s : ∀ ty : Ty, kitB "str" ty.s = some (isTy ty (.str (Str.ofString ""))) := fun ty => by cases ty <;> decide +kernel
theorem kit_l : ∀ ty : Ty, kitB "list" ty.s = some (isTy ty (.list [])) := fun ty => by cases ty <;> decide +kernel
theorem kit_t : ∀ ty : Ty, kitB "tuple" ty.s = some (isTy ty (.tuple [])) := fun ty => by cases ty <;> decide +kernel
/-- the type of a datum -/
theorem tyx_of {Z : Addr → Prop} {H : Hp} {v : V} {d : D} (h : Wv X.K Z H v d) (hd : isDictB d = false) : ∃ t : String, TyX X.K H v (.type t) ∧ (∀ ty : Ty, kitB t ty.s = some (isTy ty d)) := by
  cases d with
  | none => have h := h.vw; cases h; exact ⟨_, .base .non, kit_n⟩
  | bool b => have h := h.vw; cases h; exact ⟨_, .base (.bl _), fun ty => (kit_b ty).trans (by cases ty <;> rfl)⟩
  | int b => have h := h.vw; cases h; exact ⟨_, .base (.int _), fun ty => (kit_i ty).trans (by cases ty <;> rfl)⟩
  | str b => have h := h.vw; cases h; exact ⟨_, .base (.str _), fun ty => (kit_s ty).trans (by cases ty <;> rfl)⟩
  | list b =>
    obtain ⟨a, xs, rfl, hl, _⟩ := wv_lst h
    rcases hl with (hl | ⟨o, hl⟩) | ⟨o, its, n, h1, h2, _⟩
    · exact ⟨_, .base (.lst hl), fun ty => (kit_l ty).trans (by cases ty <;> rfl)⟩
    · exact ⟨_, .base (.frz hl), fun ty => (kit_l ty).trans (by cases ty <;> rfl)⟩
    · exact ⟨_, .kList h1 h2, fun ty => (kit_l ty).trans (by cases ty <;> rfl)⟩
  | tuple b =>
    obtain ⟨a, xs, rfl, hl, _⟩ := wv_tup h
    exact ⟨_, .base (.tup hl), fun ty => (kit_t ty).trans (by cases ty <;> rfl)⟩
  | dict b => cases hd
theorem gIsi_of {ts : List Ty} {d : D} {r : RV} (h : gIsi ts d = some r) : isDictB d = false ∧ r = .val (.bool (ts.any fun t => isTy t d)) := by
  cases d <;> first | (cases h; done) | exact ⟨rfl, (Option.some.inj h).symm⟩
theorem qe_isi {a : Expr} {ma : DE} {x : Str} {p p2 pos : Pos} (ty : Ty) (hg : Gl X "isinstance") (hm : X.mg "isinstance" = none) (hv : bootBuiltins "isinstance" = some (.builtin "isinstance")) (hg2 : Gl X x) (hm2 : X.mg x = none) (hv2 : bootBuiltins x = some (.type ty.s)) (ha : QE X E θ a ma)
    (hn : x ≠ "__name__" := by decide) (hdb : (x == ("__debug__" : Str)) = false := by decide)
    (hst : starEach [a, .Name x p2] X.env = (false, eval a X.env) :: starEach [.Name x p2] X.env := by rfl) (hst2 : starEach [.Name x p2] X.env = (false, eval (.Name x p2) X.env) :: starEach [] X.env := by rfl) (hpl : (backTo pos (starEach [.Name x p2] X.env)).any (·.1) = false := by rfl) : QE X E θ (.Call (.Name "isinstance" p) [a, .Name x p2] [] pos) (eOp1 (gIsi [ty]) ma) :=
  QE.mk (pe_callB call_isi hg hm hv (pa_cons ha (pa_cons (pe_bltn (v := .ty ty.s) hg2 hm2 hv2 rfl hn hdb) pa_nil hst2) hst) (by decide) (by decide) hst hpl) fun σ H Z st Q bd l p => by
  unfold eOp1 at p
  refine ⟨Z, st, l, p.bind fun ra st1 _ p v H1 Z1 b1 x l1 o n => p.bindR of_ne fun r hr p => ?_⟩
  cases hg : gIsi [ty] ra.d with
  | none => rw [hg] at hr; cases hr
  | some r' =>
    rw [hg] at hr; cases hr
    obtain ⟨hd, rfl⟩ := gIsi_of hg
    obtain ⟨t, h1, h2⟩ := tyx_of (o.wv l1) hd
    refine ⟨v, _, _, _, _, rfl, .ty ty.s, h1, kit_ty (h2 ty), fun b' => ?_⟩
    have p : CE X.K θ (Own st σ) Z H σ Q (RV.val (.bool ([ty].any fun t => isTy t ra.d))) st1 := p
    have e : ([ty].any fun t => isTy t ra.d) = isTy ty ra.d := by simp
    rw [e] at p
    exact p _ _ _ b' x l1 (.val (.bl _)) new_val
theorem qe_isi2 {a : Expr} {ma : DE} {x y : Str} {kk : Nat} {p p2 p3 p4 pos : Pos} (t1 t2 : Ty) (hg : Gl X "isinstance") (hm : X.mg "isinstance" = none) (hv : bootBuiltins "isinstance" = some (.builtin "isinstance")) (hg2 : Gl X x) (hm2 : X.mg x = none) (hv2 : bootBuiltins x = some (.type t1.s)) (hg3 : Gl X y) (hm3 : X.mg y = none) (hv3 : bootBuiltins y = some (.type t2.s)) (ha : QE X E θ a ma)
    (hn : x ≠ "__name__" := by decide) (hdb : (x == ("__debug__" : Str)) = false := by decide) (hn3 : y ≠ "__name__" := by decide) (hdb3 : (y == ("__debug__" : Str)) = false := by decide)
    (hst : starEach [a, .Tuple [.Name x p2, .Name y p3] kk p4] X.env = (false, eval a X.env) :: starEach [.Tuple [.Name x p2, .Name y p3] kk p4] X.env := by rfl) (hst2 : starEach [.Tuple [.Name x p2, .Name y p3] kk p4] X.env = (false, eval (.Tuple [.Name x p2, .Name y p3] kk p4) X.env) :: starEach [] X.env := by rfl) (hpl : (backTo pos (starEach [.Tuple [.Name x p2, .Name y p3] kk p4] X.env)).any (·.1) = false := by rfl)
    (hs1 : starEach [.Name x p2, .Name y p3] X.env = (false, eval (.Name x p2) X.env) :: starEach [.Name y p3] X.env := by rfl) (hs2 : starEach [.Name y p3] X.env = (false, eval (.Name y p3) X.env) :: starEach [] X.env := by rfl) : QE X E θ (.Call (.Name "isinstance" p) [a, .Tuple [.Name x p2, .Name y p3] kk p4] [] pos) (eOp1 (gIsi [t1, t2]) ma) :=
  QE.mk (pe_callB call_isiT hg hm hv (pa_cons ha (pa_cons (pe_tup (pa_cons (pe_bltn (v := .ty t1.s) hg2 hm2 hv2 rfl hn hdb) (pa_cons (pe_bltn (v := .ty t2.s) hg3 hm3 hv3 rfl hn3 hdb3) pa_nil hs2) hs1)) pa_nil hst2) hst) (by decide) (by decide) hst hpl) fun σ H Z st Q bd l p => by
  unfold eOp1 at p
  refine ⟨Z, st, l, p.bind fun ra st1 _ p v H1 Z1 b1 x l1 o n => p.bindR of_ne fun r hr p => ?_⟩
  cases hg : gIsi [t1, t2] ra.d with
  | none => rw [hg] at hr; cases hr
  | some r' =>
    rw [hg] at hr; cases hr
    obtain ⟨hd, rfl⟩ := gIsi_of hg
    refine ⟨by show 2 ≤ sizeLine; decide, fun q hq => ?_⟩
    have x2 : Stp (Own st1 σ) Z1 H1 (Own st1 σ) Z1 (upd H1 q (.tup [.ty t1.s, .ty t2.s])) := Stp.new hq
    have l2 : Rl X.K θ Z1 (upd H1 q (.tup [.ty t1.s, .ty t2.s])) st1 σ := l1.new hq
    have lv : ra.live st1 := by
      cases o with
      | val h => trivial
      | fresh _ _ _ _ => trivial
      | bor h1 h2 => exact ⟨_, h1⟩
    obtain ⟨t, h1, h2⟩ := tyx_of ((o.later l1 x2 lv).wv l2) hd
    refine ⟨v, q, _, _, _, (isTy t1 ra.d || isTy t2 ra.d), rfl, upd_same, .cons (.ty t1.s) (.cons (.ty t2.s) .nil), h1, ?_, fun b' => ?_⟩
    · have e1 := kit_ty (K := X.K) (h2 t1)
      have e2 := kit_ty (K := X.K) (h2 t2)
      unfold PySem.W.kitAny
      rw [e1]
      cases isTy t1 ra.d with
      | true => rfl
      | false =>
        unfold PySem.W.kitAny
        rw [e2]
        cases isTy t2 ra.d with
        | true => rfl
        | false => rfl
    · have p : CE X.K θ (Own st σ) Z H σ Q (RV.val (.bool ([t1, t2].any fun t => isTy t ra.d))) st1 := p
      have e : ([t1, t2].any fun t => isTy t ra.d) = (isTy t1 ra.d || isTy t2 ra.d) := by simp
      rw [e] at p
      exact p _ _ _ b' (x.trans x2) l2 (.val (.bl _)) new_val
end
end QL

end
section
/-! QRule16: sorted. -/
namespace QL
open PySem PySem.Spec PyProof.Rows L2
mutual
theorem plain_noLst : ∀ d : D, noLst d = true → d.plain = true
  | .none, _ => rfl
  | .bool _, _ => rfl
  | .int _, _ => rfl
  | .str _, _ => rfl
  | .list _, h => by cases h
  | .dict _, h => by cases h
  | .tuple ds, h => by
    have h : noLstL ds = true := h
    have := plain_noLstL ds h
    simpa [PyData.plain] using this
theorem plain_noLstL : ∀ ds : List D, noLstL ds = true → PyData.plainAll ds = true
  | [], _ => rfl
  | d :: ds, h => by
    have h : (noLst d && noLstL ds) = true := h
    rw [Bool.and_eq_true] at h
    have h1 := plain_noLst d h.1
    have h2 := plain_noLstL ds h.2
    simp [PyData.plainAll, h1, h2]
end
mutual
theorem reads_nil : ∀ (d : D) {h : Heap} {u : Value} {as : List Addr}, noLst d = true → Reads h u d as → as = []
  | .none, _, _, _, _, r => by cases r; rfl
  | .bool _, _, _, _, _, r => by cases r; rfl
  | .int _, _, _, _, _, r => by cases r; rfl
  | .str _, _, _, _, _, r => by cases r; rfl
  | .list _, _, _, _, h, _ => by cases h
  | .dict _, _, _, _, h, _ => by cases h
  | .tuple ds, _, _, _, h, r => by
    have h : noLstL ds = true := h
    cases r with
    | tuple _ _ _ ra => exact readsAll_nil ds h ra
theorem readsAll_nil : ∀ (ds : List D) {h : Heap} {us : List Value} {as : List Addr}, noLstL ds = true → ReadsAll h us ds as → as = []
  | [], _, _, _, _, r => by cases r; rfl
  | d :: ds, _, _, _, h, r => by
    have h : (noLst d && noLstL ds) = true := h
    rw [Bool.and_eq_true] at h
    cases r with
    | cons r1 r2 => rw [reads_nil d h.1 r1, readsAll_nil ds h.2 r2]; rfl
end
theorem noLstL_mem : ∀ {ds : List D}, noLstL ds = true → ∀ d ∈ ds, noLst d = true
  | [], _, _, hm => by cases hm
  | e :: ds, h, d, hm => by
    have h : (noLst e && noLstL ds) = true := h
    rw [Bool.and_eq_true] at h
    rcases List.mem_cons.mp hm with rfl | hm
    · exact h.1
    · exact noLstL_mem h.2 d hm
theorem rpl_pairs {K : PySem.W.Frag} {Z : Addr → Prop} {H : Hp} : ∀ l : List (V × D), (∀ p ∈ l, Rp K Z H p.1 p.2) → RpL K Z H (l.map (·.1)) (l.map (·.2))
  | [], _ => .nil
  | p :: l, h => .cons (h p List.mem_cons_self) (rpl_pairs l fun q hq => h q (List.mem_cons_of_mem _ hq))
theorem rpl_zip {K : PySem.W.Frag} {Z : Addr → Prop} {H : Hp} : ∀ {vs : List V} {ds : List D}, RpL K Z H vs ds → ∀ p ∈ vs.zip ds, Rp K Z H p.1 p.2
  | _, _, .nil, p, hp => by cases hp
  | _, _, .cons r t, p, hp => by
    rw [List.zip_cons_cons] at hp
    rcases List.mem_cons.mp hp with rfl | hp
    · exact r
    · exact rpl_zip t p hp
theorem vals_each : ∀ {vs : List V} {us : List Value} {ds : List D}, Vals vs us → vs.length = ds.length → PySem.W.EachIs (fun u (b : V × D) => RelV b.1 u) us (vs.zip ds)
  | _, _, [], .nil, _ => .nil
  | _, _, _ :: _, .nil, h => by cases h
  | _, _, [], .cons _ _, h => by cases h
  | _, _, _ :: _, .cons r t, h => by
    rw [List.zip_cons_cons]
    exact .cons r (vals_each t (by simpa using h))
theorem each_vals : ∀ {us : List Value} {l : List (V × D)}, PySem.W.EachIs (fun u (b : V × D) => RelV b.1 u) us l → Vals (l.map (·.1)) us
  | _, _, .nil => .nil
  | _, _, .cons r t => .cons r (each_vals t)
section
variable {X : Cx} {pins : List (Addr × Obj)} {σ : St} {H : Hp} {s : Shared}
theorem each_reads {Z : Addr → Prop} {a : Addr} (I : Inv X pins σ H s) : ∀ {vs : List V} {us : List Value} {ds : List D}, Vals vs us → RpL X.K Z H vs ds → noLstL ds = true → PySem.W.EachIs (fun v (b : V × D) => ∃ as, Reads s.heap v b.2 as ∧ ¬ a ∈ as) us (vs.zip ds)
  | _, _, _, .nil, .nil, _ => .nil
  | _, _, _, .cons rv tv, .cons (d := d) (ds := ds) r t, h => by
    have h : (noLst d && noLstL ds) = true := h
    rw [Bool.and_eq_true] at h
    rw [List.zip_cons_cons]
    refine .cons ?_ (each_reads I tv t h.2)
    obtain ⟨as, q⟩ := Vw.reads I d _ _ (plain_noLst d h.1) r.vw rv
    refine ⟨as, q, ?_⟩
    rw [reads_nil d h.1 q]
    exact fun z => by cases z
theorem sortOk_parts {ds : List D} (h : sortOk ds = true) : noLstL ds = true ∧ PySem.W.AllAlike ds ∧ PySem.W.Sortable ds ∧ (∀ d ∈ ds, d.depth ≤ 60) ∧ ds.length ≤ lim := by
  unfold sortOk at h
  simp only [Bool.and_eq_true, Bool.or_eq_true, List.all_eq_true, decide_eq_true_eq] at h
  obtain ⟨⟨⟨⟨h1, h2⟩, h3⟩, h4⟩, h5⟩ := h
  refine ⟨h1, fun d hd d' hd' => ?_, ?_, h4, h5⟩
  · unfold alikeL at h2
    rw [List.all_eq_true] at h2
    have := h2 d hd
    rw [List.all_eq_true] at this
    exact this d' hd'
  · rcases h3 with h3 | h3
    · refine .inl fun d hd => ?_
      have := h3 d hd
      unfold isTupNe at this
      split at this
      · exact ⟨_, _, rfl⟩
      · cases this
    · refine .inr fun d hd => ?_
      have := h3 d hd
      unfold isFlat at this
      split at this
      · cases this
      · cases this
      · rename_i n1 n2
        exact ⟨n1, n2⟩
theorem entry_sorted : entryFor table "sorted" = some PySem.Builtin.sorted := by rfl
/-- sorted, by what is collected -/
theorem sorted_core {Z : Addr → Prop} {x : Value} {vs : List V} {ds : List D} {Q : VK} (hu : X.A.units + 128 < cLine) (I : Inv X pins σ H s) (r : RpL X.K Z H vs ds) (ok : sortOk ds = true)
    (hcol : ∀ (E : Value → Shared → Prop) (R' : List Value → Shared → Prop), (∀ (h' : Heap) (tk : Nat) (acc : List Value), (∀ (b : Addr) (o : Obj), s.heap.get? b = some o → h'.get? b = some o) → Vals vs acc → R' acc { heap := h', gens := s.gens, drawn := s.drawn, toks := tk, os := s.os }) → wpAny (model X.prog X.w) X.A.in1 (collect x) R' E s)
    (q : ∀ v H', Res X.K Z H v (.fresh (.list (sortD ds))) H' → Q v H') : wpAny (model X.prog X.w) X.A (call (.builtin "sorted") [x]) (EP X pins σ Q) X.xe s := by
  obtain ⟨h1, h2, h3, h4, h5⟩ := sortOk_parts ok
  have hlen := r.length
  have hsz : sizeLine = lim := by decide
  refine wpAny_call (codeAny_call_builtin (b := PySem.Builtin.sorted) (by decide +kernel) entry_sorted ?_)
  have hargs : checkBuiltinCall "sorted" { pos := [x] } = pure () := args_sorted1 x
  rw [hargs]
  refine wpAny_pure ?_
  unfold PySem.Builtin.sorted
  refine wpAny_bind ?_
  have hcc : checkCount "sorted" 1 1 ({ pos := [x] } : Args).pos.length = pure () := by rfl
  rw [hcc]
  refine wpAny_pure ?_
  refine wpAny_bind ?_
  refine hcol _ _ fun h' tk acc hk rv => ?_
  refine wpAny_bind ?_
  have hal := Vals.length rv
  refine wpAny_newList ?_ (by omega)
  have I1 : Inv X pins σ H { heap := h', gens := s.gens, drawn := s.drawn, toks := tk, os := s.os } := I.kept hk
  have I2 := I1.lnew (t' := tk) rv (by omega)
  have hp : H h'.objs.size = none := I1.hok.fresh (Nat.le_refl _)
  refine wpAny_bind (wpAny_holding ?_)
  have kk : Kp Z H Z (upd H h'.objs.size (.lst vs)) := ⟨fun _ h => h, fun a w _ _ h => by
    rcases h with h | ⟨o, h⟩
    · exact .inl (by rw [upd_ne (ne_of_none h hp)]; exact h)
    · exact .inr ⟨o, by rw [upd_ne (ne_of_none h hp)]; exact h⟩, fun a xs h => by rw [upd_ne (ne_of_none h hp)]; exact h⟩
  have e2 : (vs.zip ds).map (·.2) = ds := by
    rw [List.map_snd_zip (by omega)]
  refine PySem.W.list_sort_data (bs := vs.zip ds) (enc := fun (b : V × D) => b.2) (R := fun u (b : V × D) => RelV b.1 u) (vs := acc) (n := 0) (Heap.get?_push_size _ rfl) (vals_each rv hlen) (each_reads I2 rv (r.kp kk) h1) (by rw [e2]; exact h2) (by rw [e2]; exact h3) (by rw [List.length_zip]; omega) (fun b hb => ?_) fun out hol hout => ?_
  · have := h4 b.2 (by rw [← e2]; exact List.mem_map_of_mem hb)
    show X.A.units + 1 + 1 + b.2.depth < cLine
    omega
  · refine wpAny_pure ?_
    have hl : ((vs.zip ds).mergeSort (PySem.W.dataLe false fun (b : V × D) => b.2)).map (·.2) = sortD ds := by
      unfold sortD
      conv => rhs; rw [← e2]
      exact List.map_mergeSort fun _ _ _ _ => rfl
    have rl : RpL X.K Z H (((vs.zip ds).mergeSort (PySem.W.dataLe false fun (b : V × D) => b.2)).map (·.1)) (sortD ds) := by
      rw [← hl]
      exact rpl_pairs _ fun p hp => rpl_zip r p ((List.mergeSort_perm _ _).mem_iff.mp hp)
    have hlen2 : (((vs.zip ds).mergeSort (PySem.W.dataLe false fun (b : V × D) => b.2)).map (·.1)).length ≤ sizeLine := by
      rw [List.length_map, List.length_mergeSort, List.length_zip]; omega
    obtain ⟨e, he⟩ := sortedHeap_at (h := h'.push { cls := Value.type "list", data := Data.seq acc.toArray }) (a := h'.objs.size) (vs := acc) (n := 0) (out := out.toArray) (Heap.get?_push_size _ rfl)
    refine ⟨.ref h'.objs.size, _, I1.laid (o := .lst (((vs.zip ds).mergeSort (PySem.W.dataLe false fun (b : V × D) => b.2)).map (·.1))) (fun b u hb => ?_) (Nat.le_refl _) ⟨hlen2, out, e, each_vals hout, he⟩, rfl, q _ _ (.lst hp rl)⟩
    have hlt := Heap.lt_size hb
    have hne : b ≠ h'.objs.size := fun z => by rw [z] at hlt; exact Nat.lt_irrefl _ hlt
    rw [sortedHeap_old hne (by rw [Heap.size_push]; exact Nat.lt_succ_of_lt hlt)]
    exact Heap.get?_push_of_some _ hb
theorem pairs_vals {P : Program} {w : World} : ∀ {es : List DictEntry} {vs : List (Key × Value)} {ks : List (Key × V)}, PySem.Pairs (mixKind P w) es vs → KV ks vs → Vals (ks.map fun k => kV k.1) (es.map (·.key))
  | _, _, _, .nil, .nil => .nil
  | _, _, _, .cons h _ t, .cons r t' => .cons (by
      show RelV (kV _) _
      rw [r.1]; exact L2.keyIs_rel h) (pairs_vals t t')
theorem pairs_len {P : Program} {w : World} : ∀ {es : List DictEntry} {vs : List (Key × Value)}, PySem.Pairs (mixKind P w) es vs → es.length = vs.length
  | _, _, .nil => rfl
  | _, _, .cons _ _ t => by simp [pairs_len t]
theorem acc_keys {es : Array DictEntry} {acc : Array Value} (h : ItemsOf (fun i v => ∃ en, es[i]? = some en ∧ v = en.key) acc es.size) : acc.toList = es.toList.map (·.key) := by
  obtain ⟨h1, h2⟩ := h
  apply List.ext_getElem?
  intro i
  rw [List.getElem?_map, Array.getElem?_toList, Array.getElem?_toList]
  cases e : acc[i]? with
  | none =>
    have : es[i]? = none := by
      rw [Array.getElem?_eq_none_iff] at e ⊢
      omega
    rw [this]; rfl
  | some v =>
    obtain ⟨en, e1, e2⟩ := h2 i v e
    rw [e1, e2]; rfl
theorem kt_vals {P : Program} {w : World} {H : Hp} : ∀ {ks : List (List Key × V)} {xs : List (List Key × Addr × Value)}, KT H ks xs → Vals (xs.map fun x => V.ref x.2.1) ((xs.map (entryOfKey (tupleKind (mixKind P w)))).map (·.key))
  | _, _, .nil => .nil
  | _, _, .cons r t => .cons rfl (kt_vals t)
theorem kt_rpl {K : PySem.W.Frag} {Z : Addr → Prop} {H : Hp} : ∀ {ks : List (List Key × V)} {xs : List (List Key × Addr × Value)}, KT H ks xs → RpL K Z H (xs.map fun x => V.ref x.2.1) (ks.map fun k => .tuple (k.1.map keyD))
  | _, _, .nil => .nil
  | _, _, .cons r t => .cons (.tup r.2.1 (rpl_keys _)) (kt_rpl t)
theorem cg_sorted {k : Nat} (hr : Room k X.A) : CallR X (.builtin "sorted") (rGc X.K gSorted) := by
  intro pins s σ H xs us Q I r h
  obtain ⟨x, rfl, Z, d, rv, hx, hr', q⟩ := h
  have hu : X.A.units + 128 < cLine := by have := hr.un; omega
  obtain ⟨u, rfl, rx⟩ := vals1 r
  cases d with
  | list ds =>
    have hr' : (if sortOk ds then some (RV.fresh (.list (sortD ds))) else none) = some rv := hr'
    by_cases ok : sortOk ds = true
    · rw [if_pos ok] at hr'; cases hr'
      obtain ⟨a, vs, rfl, hl, rl⟩ := wv_lst hx
      obtain rfl : u = Value.ref a := rx
      obtain ⟨its, rv', ⟨o, n, ho, hc, _, hd⟩, hz⟩ := I.list hl
      have hlen := Vals.length rv'
      exact sorted_core hu I rl ok (fun E R' hR => wpAny_collect_seq a (.inl rfl) ho hc hd (fun h' hk => hR h' s.toks its hk rv') (by simp only [List.size_toArray]; omega)) q
    · rw [if_neg ok] at hr'; cases hr'
  | tuple ds =>
    have hr' : (if sortOk ds then some (RV.fresh (.list (sortD ds))) else none) = some rv := hr'
    by_cases ok : sortOk ds = true
    · rw [if_pos ok] at hr'; cases hr'
      obtain ⟨a, vs, rfl, hl, rl⟩ := wv_tup hx
      obtain rfl : u = Value.ref a := rx
      obtain ⟨its, rv', ⟨o, ho, hc, n, hd⟩, hz⟩ := I.tuple (SqT.of hl)
      have hlen := Vals.length rv'
      exact sorted_core hu I rl ok (fun E R' hR => wpAny_collect_seq a (.inr rfl) ho hc hd (fun h' hk => hR h' s.toks its hk rv') (by simp only [List.size_toArray]; omega)) q
    · rw [if_neg ok] at hr'; cases hr'
  | dict ds =>
    have hr' : (if sortOk (keysD ds) then some (RV.fresh (.list (sortD (keysD ds)))) else none) = some rv := hr'
    by_cases ok : sortOk (keysD ds) = true
    · rw [if_pos ok] at hr'; cases hr'
      rcases wv_dict hx with ⟨a, ks, rfl, hl, rl⟩ | ⟨a, ks, rfl, hl, rl⟩
      · obtain rfl : u = Value.ref a := rx
        obtain ⟨hz, hm, vs, hkv, o, es, ep, ho, hx', hd, hko, hpr, hnd⟩ := dk_rd I.hok hl
        have rk : RpL X.K Z H (ks.map fun k => kV k.1) (keysD ds) := by
          rw [keysD_K rl]
          have := rpl_keys (K := X.K) (Z := Z) (H := H) (ks.map (·.1))
          rw [List.map_map, List.map_map] at this
          exact this
        refine sorted_core hu I rk ok (fun E R' hR => ?_) q
        refine PySem.W.kdu_collect (kdl_raw hm hx' hd) hr.hd ho ?_ fun h' tk acc hk hit => hR h' tk acc.toList hk ?_
        · have h1 := Paired.length hkv
          have h2 := pairs_len hpr
          rw [Array.length_toList] at h2
          omega
        · rw [acc_keys hit]
          exact pairs_vals hpr hkv
      · obtain rfl : u = Value.ref a := rx
        obtain ⟨hz, hm, ys, hkt, o, es, ep, ho, hx', hd, hes, _, _⟩ := dt_rd I.hok hl
        have rk : RpL X.K Z H (ys.map fun x => V.ref x.2.1) (keysD ds) := by
          rw [keysD_T rl]
          exact kt_rpl hkt
        refine sorted_core hu I rk ok (fun E R' hR => ?_) q
        refine PySem.W.kdu_collect (kdl_raw hm hx' hd) hr.hd ho ?_ fun h' tk acc hk hit => hR h' tk acc.toList hk ?_
        · have h1 := Paired.length hkt
          have h2 : es.toList.length = ys.length := by rw [hes, List.length_map]
          rw [Array.length_toList] at h2
          omega
        · rw [acc_keys hit, hes]
          exact kt_vals hkt
    · rw [if_neg ok] at hr'; cases hr'
  | _ => cases hr'
end
end QL

end
section
/-! QRule17: list(range), defs by name and level. -/
namespace QL
open PySem PySem.Spec PyProof.Rows L2
theorem rgGood_ok {i j : Int} (h : rgGood i j = true) : RgOk i j := by
  unfold rgGood at h
  simp only [Bool.and_eq_true, decide_eq_true_eq] at h
  exact ⟨h.1.1.1.1, h.1.1.1.2, h.1.1.2, h.1.2, h.2⟩
theorem rg_rpl {K : PySem.W.Frag} {Z : Addr → Prop} {H : Hp} {i j : Int} : RpL K Z H (rgV i j) (rangeD i j) := by
  unfold rgV rangeD
  generalize List.range (j - i).toNat = l
  induction l with
  | nil => exact .nil
  | cons k l ih => exact .cons (.int _) ih
section
variable {X : Cx} {E : XK} {θ : Nat → Addr}
theorem rg_l {Z O0 Z0 : Addr → Prop} {H H0 : Hp} {st : DS} {σ : St} {i j : Int} {Q : VK} {r : RV} (x : Stp O0 Z0 H0 (Own st σ) Z H) (l : Rl X.K θ Z H st σ) (hr : gListRg i j = some r) (p : CE X.K θ O0 Z0 H0 σ Q r st) : RgOk i j ∧ ∀ (q : Addr), H q = none → (fun v H' => Bd H' → Q v H') (V.ref q) (upd H q (HO.lst (rgV i j))) := by
  unfold gListRg at hr
  by_cases h : rgGood i j = true
  · rw [if_pos h] at hr
    cases hr
    refine ⟨rgGood_ok h, fun q hq b' => ?_⟩
    obtain ⟨x1, l1, o1, n1⟩ := (Res.lst (K := X.K) (Z := Z) hq rg_rpl).ends l
    exact p _ _ _ b' (x.trans x1) l1 o1 (n1.back x)
  · rw [if_neg h] at hr; cases hr
theorem rg_t {Z O0 Z0 : Addr → Prop} {H H0 : Hp} {st : DS} {σ : St} {i j : Int} {Q : VK} {r : RV} (x : Stp O0 Z0 H0 (Own st σ) Z H) (l : Rl X.K θ Z H st σ) (hr : gTupleRg i j = some r) (p : CE X.K θ O0 Z0 H0 σ Q r st) : RgOk i j ∧ ∀ (q : Addr), H q = none → (fun v H' => Bd H' → Q v H') (V.ref q) (upd H q (HO.tup (rgV i j))) := by
  unfold gTupleRg at hr
  by_cases h : rgGood i j = true
  · rw [if_pos h] at hr
    cases hr
    refine ⟨rgGood_ok h, fun q hq b' => ?_⟩
    obtain ⟨x1, l1, o1, n1⟩ := (Res.tup (K := X.K) (Z := Z) hq rg_rpl).ends l
    exact p _ _ _ b' (x.trans x1) l1 o1 (n1.back x)
  · rw [if_neg h] at hr; cases hr
theorem intOf_ok {g : Int → Int → Option RV} {i : Int} {d : D} {r : RV} (h : intOf g i d = some r) : ∃ j, d = .int j ∧ g i j = some r := by
  cases d with
  | int j => exact ⟨j, rfl, h⟩
  | _ => cases h
theorem intOf2_ok {g : Int → Int → Option RV} {d e : D} {r : RV} (h : intOf2 g d e = some r) : ∃ i j, d = .int i ∧ e = .int j ∧ g i j = some r := by
  cases d with
  | int i =>
    cases e with
    | int j => exact ⟨i, j, rfl, rfl, h⟩
    | _ => cases h
  | _ => cases h
section
variable {a b : Expr} {m n : DE} {p p2 pos pos2 : Pos}
theorem qe_listRg1 (hc : X.calm = true) (hg : Gl X "list") (hm : X.mg "list" = none) (hg2 : Gl X "range") (hm2 : X.mg "range" = none) (ha : QE X E θ a m) (hs : starEach [a] X.env = (false, eval a X.env) :: starEach [] X.env := by rfl)
    (hs2 : starEach [.Call (.Name "range" p2) [a] [] pos2] X.env = (false, eval (.Call (.Name "range" p2) [a] [] pos2) X.env) :: starEach [] X.env := by rfl) : QE X E θ (.Call (.Name "list" p) [.Call (.Name "range" p2) [a] [] pos2] [] pos) (eListRg1 m) :=
  QE.mk (pe_listRg hc hg hm (prg_1 hg2 hm2 ha hs) hs2) fun σ H Z st Q bd l p => ⟨Z, st, l, by
    unfold eListRg1 eOp1 at p
    refine p.bind fun ra st1 _ p v H1 Z1 b1 x l1 o n => p.bindR of_ne fun r hr p => ?_
    cases hg : intOf gListRg 0 ra.d with
    | none => rw [hg] at hr; cases hr
    | some r' =>
      rw [hg] at hr; cases hr
      obtain ⟨j, hj, hg⟩ := intOf_ok hg
      exact ⟨j, live_int hj o l1, rg_l x l1 hg p⟩⟩
theorem qe_tupleRg1 (hc : X.calm = true) (hg : Gl X "tuple") (hm : X.mg "tuple" = none) (hg2 : Gl X "range") (hm2 : X.mg "range" = none) (ha : QE X E θ a m) (hs : starEach [a] X.env = (false, eval a X.env) :: starEach [] X.env := by rfl)
    (hs2 : starEach [.Call (.Name "range" p2) [a] [] pos2] X.env = (false, eval (.Call (.Name "range" p2) [a] [] pos2) X.env) :: starEach [] X.env := by rfl) : QE X E θ (.Call (.Name "tuple" p) [.Call (.Name "range" p2) [a] [] pos2] [] pos) (eTupleRg1 m) :=
  QE.mk (pe_tupRg hc hg hm (prg_1 hg2 hm2 ha hs) hs2) fun σ H Z st Q bd l p => ⟨Z, st, l, by
    unfold eTupleRg1 eOp1 at p
    refine p.bind fun ra st1 _ p v H1 Z1 b1 x l1 o n => p.bindR of_ne fun r hr p => ?_
    cases hg : intOf gTupleRg 0 ra.d with
    | none => rw [hg] at hr; cases hr
    | some r' =>
      rw [hg] at hr; cases hr
      obtain ⟨j, hj, hg⟩ := intOf_ok hg
      exact ⟨j, live_int hj o l1, rg_t x l1 hg p⟩⟩
end
end
/-! ### defs by name -/
section
variable {P : Program} {w : World} {K : PySem.W.Frag} {mg : Str → Option Value} {base : Heap} {N ps : List Str} {x : Str} {params : Arguments} {body : List Stmt} {scope : Scope} {dvs : List V} {kws : List (Str × V)} {f : Addr} {fd : FuncData} {k j m : Nat} {den : DF} {dfl : List D}
theorem Room.mono {A : Around} (h : Room k A) (hj : j ≤ k) : Room j A := ⟨h.hd, by have := h.dp; omega, by have := h.un; omega⟩
theorem FnQ.mono (h : FnQ P w K mg base j f fd ps den) (hj : j ≤ k) : FnQ P w K mg base k f fd ps den :=
  ⟨h.len, fun A outer s H args us vs Q E hr => h.run A outer s H args us vs Q E (Room.mono hr hj)⟩
theorem CallQ.mono (h : CallQ P w K mg base x j m dfl den) (hj : j ≤ k) : CallQ P w K mg base x k m dfl den := by
  obtain ⟨g, fd, ps, dvs, dus, G, r⟩ := h.ex
  exact ⟨⟨g, fd, ps, dvs, dus, FnQ.mono G hj, r⟩⟩
theorem hu64 {A : Around} (h : Room k A) : A.units + 64 < cLine := by have := h.un; omega
theorem callQ_of (F : FunD K x x params body scope dvs [] f fd) (gx : mg x = some (.ref f)) (G : FnQ P w K mg base k f fd ps den) (hb : Binds K fd ps []) : CallQ P w K mg base x k ps.length [] den :=
  ⟨⟨f, fd, ps, [], [], G, gx, F.kp, hb, .nil, by simp, fun _ _ => .nil⟩⟩
theorem callQ_dfl {i : Int} {dus : List Value} (F : FunD K x x params body scope dvs [] f fd) (gx : mg x = some (.ref f)) (G : FnQ P w K mg base k f fd ps den) (hv : Vals [.int i] dus) (hb : Binds K fd ps dus) (hm : ps.length = m + 1) : CallQ P w K mg base x k m [.int i] den :=
  ⟨⟨f, fd, ps, [.int i], dus, G, gx, F.kp, hb, hv, hm, fun _ _ => .cons (.int i) .nil⟩⟩
/-- a def that is known to do nothing yet -/
theorem callQ_bad (F : FunD K x x params body scope dvs [] f fd) (gx : mg x = some (.ref f)) (hb : Binds K fd ps []) : CallQ P w K mg base x k ps.length [] (fun _ _ => .bad) :=
  callQ_of F gx ⟨fun _ _ _ _ h => h.1, fun _ _ _ _ _ _ _ _ _ _ _ _ _ h => by
    obtain ⟨_, Z, o, ds, _, _, z⟩ := h
    exact False.elim z⟩ hb
end
end QL

end
section
/-! QRule18: what the law is asked. -/
namespace QL
open PySem PySem.Spec PyProof.Rows L2
theorem rpl_ints {K : PySem.W.Frag} {Z : Addr → Prop} {H : Hp} : ∀ ns : List Int, RpL K Z H (ns.map V.int) (ns.map PyData.int)
  | [] => .nil
  | n :: ns => .cons (.int n) (rpl_ints ns)
theorem law_sp {K : PySem.W.Frag} {mg : Str → Option Value} {f : DF} {n : Nat} (hf : ∀ ns : List Int, ns.length ≤ n → f none [.list (ns.map PyData.int)] = .ok (.val (.bool true), none)) (H : Hp) (a : Addr) (ns : List Int) (hl : ns.length ≤ n) (hS : SqL K H a (ns.map V.int)) :
    spQ K mg 1 f [.ref a] H (fun v _ => v = .bl true) (fun _ _ _ => False) := by
  have fin : ∀ Z : Addr → Prop, CF K mg Z H none (fun v _ => v = .bl true) (fun _ _ _ => False) (f none [.list (ns.map PyData.int)]) := fun Z => by
    rw [hf ns hl]
    intro v H' Z' _ _ _ _ r
    cases r with
    | val h => cases h; rfl
  rcases hS with h | h
  · refine ⟨rfl, fun b => b = a, none, _, fun b e => ?_, .val (.cons (.lst (.inl ⟨rfl, h⟩) (rpl_ints ns)) .nil), fin _⟩
    subst e
    rcases h with h | ⟨o, h⟩ <;> (rw [h]; exact fun z => by cases z)
  · exact ⟨rfl, fun _ => False, none, _, fun b e => e.elim, .val (.cons (.lst (.inr h) (rpl_ints ns)) .nil), fin _⟩
end QL

end
section
/-! QRule19: the law's end over a head by facts, exceptions of any world. -/
namespace QL
open PySem PySem.Spec PyProof.Rows L2
theorem walk_ofEW {l : PySem.W.OpenLaw} {n k : Nat} {q : Program} {loose : List Str} {XP : (Str → Option Value) → Heap → Prop} {YP : World → Heap → Prop} {d : DefRec} {x : Str} (hn : l.most = some n) (hn2 : n ≤ sizeLine) (hdf : d.params.defaults = []) (hr : Room k callerA)
    (F : ∀ (w : World) (mg : Str → Option Value) (fa : Addr) (h : Heap), YP w h → h.Ns mainGlobals mg → mg d.name = some (.ref fa) → ∃ (K : PySem.W.Frag) (fd : FuncData) (sp : Sp), K.In h ∧ (∀ (s : Shared) (u : Value), BindsTo s fd { pos := [u] } [(x, u)]) ∧ (∀ (H : Hp) (a : Addr) (ns : List Int), ns.length ≤ n → Only H → SqL K H a (ns.map V.int) → sp [V.ref a] H (fun v _ => v = V.bl true) fun _ _ _ => False) ∧ ∀ base : Heap, K.In base → base.Ns mainGlobals mg → FnOk l.prog w K mg base (L2.CX l.prog w) k fa fd [x] sp) :
    PySem.W.WalkO q loose XP YP l.row.toRowW d [] fun f vs => call f vs :=
  Att.attach_call hn hdf fun w s₀ s₁ mg mb fa o pm cd doc a vs ns G Y ho hd hcd hmg hobj hints hlen hg => by
    obtain ⟨K, fd, sp, KX, hb, hsp, hF⟩ := F w mg fa s₁.heap Y G.T.g hmg
    exact law_call KX G.T.g G.T.b G.T.builtins G.T.nolimit hg hobj hints (Nat.le_trans hlen hn2) hr hF hb (fun H hO hS => hsp H a ns hlen hO hS) fun H e s' z => by
      obtain ⟨a, B, H2, cls, d, _, _, _, _, _, _, _, q⟩ := z
      exact q
end QL

end
section
/-! QRule20: calls that only look at objects. -/
namespace QL
open PySem PySem.Spec PyProof.Rows L2
inductive RvbOk (K : PySem.W.Frag) (Z : Addr → Prop) (H : Hp) (st : DS) (σ : St) : List V → List RV → Prop
  | nil : RvbOk K Z H st σ [] []
  | cons {v : V} {r : RV} {vs : List V} {rs : List RV} : RvOk K Z H st σ v r → RvbOk K Z H st σ vs rs → RvbOk K Z H st σ (v :: vs) (r :: rs)
def CAB (K : PySem.W.Frag) (θ : Nat → Addr) (O Z : Addr → Prop) (H : Hp) (σ : St) (Q : List V → Hp → Prop) (rs : List RV) (st : DS) : Prop := ∀ vs H' Z', Bd H' → Stp O Z H (Own st σ) Z' H' → Rl K θ Z' H' st σ → RvbOk K Z' H' st σ vs rs → Q vs H'
def rdAB (X : Cx) (E : XK) (θ : Nat → Addr) (m : DS → R (List RV × DS)) : TA := fun σ H Q => ∃ Z st, Rl X.K θ Z H st σ ∧ Po X E (Own st σ) H (m st) (CAB X.K θ (Own st σ) Z H σ Q)
def QAB (X : Cx) (E : XK) (θ : Nat → Addr) (es : List Expr) (m : DS → R (List RV × DS)) : Prop := PA X es (rdAB X E θ m)
section
variable {X : Cx} {E : XK} {θ : Nat → Addr}
theorem QAB.mk {es : List Expr} {t : TA} {m : DS → R (List RV × DS)} (h : PA X es t) (hi : ∀ σ H Z st Q, Bd H → Rl X.K θ Z H st σ → Po X E (Own st σ) H (m st) (CAB X.K θ (Own st σ) Z H σ Q) → t σ H fun v H' => Bd H' → Q v H') : QAB X E θ es m :=
  ⟨fun pos pins s σ H Q I ⟨Z, st, l, p⟩ => thn (h.run pos pins s σ H _ I (hi σ H Z st Q (Inv.bd I) l p)) fun _ _ ⟨v, H', I', r, q⟩ => ⟨v, H', I', r, q (Inv.bd I')⟩⟩
theorem qab_nil : QAB X E θ [] (eArgsB []) := QAB.mk pa_nil fun σ H Z st Q bd l p => fun b' => p _ _ _ b' Stp.refl l .nil
theorem qab_cons {e : Expr} {es : List Expr} {m : DE} {ms : List DE} (he : QE X E θ e m) (hs : QAB X E θ es (eArgsB ms)) (hst : starEach (e :: es) X.env = (false, eval e X.env) :: starEach es X.env := by rfl) : QAB X E θ (e :: es) (eArgsB (m :: ms)) :=
  QAB.mk (pa_cons he hs hst) fun σ H Z st Q bd l p => ⟨Z, st, l, by
    unfold eArgsB at p
    refine p.bind fun r st1 e1 p v H1 Z1 b1 x l1 o n => ?_
    refine ⟨Z1, st1, l1, (p.adv x).bind fun rs st2 e2 p2 vs H2 Z2 b2 y l2 os b' => ?_⟩
    have p : Po X E (Own st σ) H (eArgsB ms st1 >>= fun q => guardP (r.live q.2) (pure (r :: q.1, q.2))) (CAB X.K θ (Own st σ) Z H σ Q) := p
    rw [e2] at p
    obtain ⟨lv, p⟩ := p.guard
    have p : CAB X.K θ (Own st σ) Z H σ Q (r :: rs) st2 := p
    exact p _ _ _ b' (x.trans y) l2 (.cons (o.later l1 y lv) os)⟩
theorem rp_scalar {K : PySem.W.Frag} {Z Z2 : Addr → Prop} {H H2 : Hp} {v : V} {d : D} (h : Rp K Z H v d) (hs : scalarB d = true) : Rp K Z2 H2 v d := by
  cases h with
  | non => exact .non
  | bl b => exact .bl b
  | int i => exact .int i
  | str x => exact .str x
  | lst _ _ => cases hs
  | tup _ _ => cases hs
  | dk _ _ _ => cases hs
  | dt _ _ _ => cases hs
theorem cn_scalar {K : PySem.W.Frag} {Z : Addr → Prop} {H : Hp} {p : Addr} {d : D} (h : Cn K Z H p d) : scalarB d = false := by
  cases h <;> rfl
/-- what is looked at: the objects among the arguments, too -/
def Zb (Z : Addr → Prop) (vs : List V) (rs : List RV) (a : Addr) : Prop := Z a ∨ ∃ (j : Nat), vs[j]? = some (.ref a) ∧ ((∃ d, rs[j]? = some (RV.fresh d)) ∨ ∃ i d, rs[j]? = some (RV.bor i d))
theorem rvb_at {K : PySem.W.Frag} {Z : Addr → Prop} {H : Hp} {st : DS} {σ : St} : ∀ {vs : List V} {rs : List RV} {j : Nat} {r : RV}, RvbOk K Z H st σ vs rs → rs[j]? = some r → ∃ v, vs[j]? = some v ∧ RvOk K Z H st σ v r
  | _, _, _, _, .nil, e => by simp at e
  | _, _, 0, _, .cons o _, e => by simp at e; subst e; exact ⟨_, rfl, o⟩
  | _, _, j + 1, r, .cons _ t, e => by
    obtain ⟨v, h1, h2⟩ := rvb_at (j := j) (r := r) t (by simpa using e)
    exact ⟨v, by simpa using h1, h2⟩
theorem rvb_cn {K : PySem.W.Frag} {θ : Nat → Addr} {Z : Addr → Prop} {H : Hp} {st : DS} {σ : St} {v : V} {r : RV} {a : Addr} (l : Rl K θ Z H st σ) (o : RvOk K Z H st σ v r) (e : v = .ref a) (h : (∃ d, r = .fresh d) ∨ ∃ i d, r = .bor i d) : Cn K Z H a r.d := by
  cases o with
  | val _ => rcases h with ⟨d, z⟩ | ⟨i, d, z⟩ <;> cases z
  | fresh ev _ _ c =>
    rw [ev] at e; cases e
    exact c
  | bor h1 h2 =>
    obtain ⟨q, e2, _, c, _⟩ := l.at_own h1
    rw [h2] at e2; cases e2
    cases e
    exact c
theorem rvb_rpl {K : PySem.W.Frag} {θ : Nat → Addr} {Z Z' : Addr → Prop} {H : Hp} {st : DS} {σ : St} (l : Rl K θ Z H st σ) (hz : ∀ a, Z a → Z' a) : ∀ {vs : List V} {rs : List RV}, RvbOk K Z H st σ vs rs → (∀ (j : Nat) (a : Addr), vs[j]? = some (.ref a) → ((∃ d, rs[j]? = some (RV.fresh d)) ∨ ∃ i d, rs[j]? = some (RV.bor i d)) → Z' a) → RpL K Z' H vs (rs.map RV.d)
  | _, _, .nil, _ => .nil
  | _, _, @RvbOk.cons _ _ _ _ _ v r vs rs o t, h => by
    refine .cons ?_ (rvb_rpl l hz t fun j a h1 h2 => h (j + 1) a (by simpa using h1) (by simpa using h2))
    have k : Kp Z H Z' H := ⟨hz, fun _ _ _ _ h => h, fun _ _ h => h⟩
    have fin : ∀ a, v = .ref a → ((∃ d, r = .fresh d) ∨ ∃ i d, r = .bor i d) → Rp K Z' H v r.d := fun a e hr => by
      have c := (rvb_cn l o e hr).kp k fun _ _ h => h
      rw [e]
      exact c.rp (h 0 a (by simp [e]) (by rcases hr with ⟨d, rfl⟩ | ⟨i, d, rfl⟩ <;> simp))
    cases o with
    | val r => exact r.kp k
    | fresh ev _ _ _ => exact fin _ ev (.inl ⟨_, rfl⟩)
    | bor h1 h2 =>
      obtain ⟨q, e2, _, _, _⟩ := l.at_own h1
      rw [h2] at e2; cases e2
      exact fin _ rfl (.inr ⟨_, _, rfl⟩)
theorem eArgsB_length : ∀ {ms : List DE} {st : DS} {rs : List RV} {st' : DS}, eArgsB ms st = .ok (rs, st') → rs.length = ms.length
  | [], _, _, _, h => by cases h; rfl
  | m :: ms, st, rs, st', h => by
    unfold eArgsB at h
    cases e1 : m st with
    | ok p =>
      simp only [e1, R.ok_bind] at h
      cases e2 : eArgsB ms p.2 with
      | ok q =>
        simp only [e2, R.ok_bind] at h
        obtain ⟨_, h⟩ := guardP_ok h
        cases h
        simp [eArgsB_length e2]
      | ex c => simp only [e2, R.ex_bind] at h; cases h
      | bad => simp only [e2, R.bad_bind] at h; cases h
    | ex c => simp only [e1, R.ex_bind] at h; cases h
    | bad => simp only [e1, R.bad_bind] at h; cases h
/-- f(e, ..), where f's answer is no object -/
theorem qe_callL {x : Str} {k n : Nat} {dfl : List D} {f : DF} {e : Expr} {es : List Expr} {m : DE} {ms : List DE} {p pos : Pos} (F : CallQ X.prog X.w X.K X.mg X.base x k n dfl f) (hr : Room k X.A) (hg : Gl X x) (hx : Px X E) (ha : QAB X E θ (e :: es) (eArgsB (m :: ms))) (hn : (m :: ms).length = n)
    (hdb : (x == ("__debug__" : Str)) = false := by decide) (he : starEach (e :: es) X.env = (false, eval e X.env) :: starEach es X.env := by rfl) (hpl : (backTo pos (starEach es X.env)).any (·.1) = false := by rfl) : QE X E θ (.Call (.Name x p) (e :: es) [] pos) (eCallB f dfl (m :: ms)) := by
  obtain ⟨g, fd, ps, dvs, dus, G, gx, kp, hb, hd, hl, rd⟩ := F.ex
  refine QE.mk (pe_call (E := E) G hr hg gx kp hb hd hx ha hdb he hpl) fun σ H Z st Q bd l p => ⟨Z, st, l, p.bind fun rs st1 e1 p vs H1 Z1 b1 x1 l1 os => ?_⟩
  have dm : ∀ a, Zb Z1 vs rs a → H1 a ≠ none := fun a h => by
    rcases h with h | ⟨j, h1, h2⟩
    · exact l1.dom a h
    · have : ∃ r, rs[j]? = some r ∧ ((∃ d, r = .fresh d) ∨ ∃ i d, r = .bor i d) := by
        rcases h2 with ⟨d, h2⟩ | ⟨i, d, h2⟩
        · exact ⟨_, h2, .inl ⟨d, rfl⟩⟩
        · exact ⟨_, h2, .inr ⟨i, d, rfl⟩⟩
      obtain ⟨r, hr, hk⟩ := this
      obtain ⟨v, hv, ov⟩ := rvb_at os hr
      rw [h1] at hv; cases hv
      obtain ⟨u, hu, _⟩ := (rvb_cn l1 ov rfl hk).ct
      rw [hu]; exact fun z => by cases z
  have rp := rvb_rpl l1 (Z' := Zb Z1 vs rs) (fun a h => .inl h) os fun j a h1 h2 => .inr ⟨j, h1, h2⟩
  have hlen : vs.length = rs.length := by rw [rp.length, List.length_map]
  refine ⟨?_, Zb Z1 vs rs, none, rs.map RV.d ++ dfl, dm, .val (rp.append (rd _ H1)), ?_⟩
  · rw [List.length_append, hlen, eArgsB_length e1, hn, hl, (rd Z1 H1).length]
  · show CF _ _ _ _ _ _ _ (f none (rs.map RV.d ++ dfl))
    have p : Po X E (Own st σ) H (f none (rs.map RV.d ++ dfl) >>= fun q => if scalarB q.1.d = true then pure (RV.val q.1.d, st1) else R.bad) (CE X.K θ (Own st σ) Z H σ Q) := p
    cases hf : f none (rs.map RV.d ++ dfl) with
    | bad => rw [hf] at p; exact False.elim p
    | ex c =>
      rw [hf] at p
      obtain ⟨a, h1, h2⟩ := (show ExOk X E (Own st σ) H c from p)
      exact ⟨rfl, a, h1, fun H' y => h2 H' (x1.sx ⟨fun a o ht h _ => y.keep a o ht h fun z => z, y.tb⟩)⟩
    | ok q =>
      obtain ⟨r, c⟩ := q
      rw [hf] at p
      have p : Po X E (Own st σ) H (if scalarB r.d = true then pure (RV.val r.d, st1) else R.bad) (CE X.K θ (Own st σ) Z H σ Q) := p
      by_cases hs : scalarB r.d = true
      · rw [if_pos hs] at p
        have p : CE X.K θ (Own st σ) Z H σ Q (.val r.d) st1 := p
        intro v H' Z' b' y _ _ ro b''
        have y' : Stp (Own st1 σ) Z1 H1 (Own st1 σ) Z1 H' := ⟨fun a o ht h _ => y.keep a o ht h op_none, fun _ h => h, fun _ _ _ h => h, fun _ h => .inl h, y.ow, y.tb⟩
        have l2 : Rl X.K θ Z1 H' st1 σ := l1.move (y'.kp (K := X.K) l1.okO) (fun a u _ c h => y.keep a u (ct_not_tbl c) h op_none) (fun a h => (l1.okO a h).1) fun a hz => y.ow a (l1.dom a hz)
        cases ro with
        | val h => exact p _ _ _ b'' (x1.trans y') l2 (.val (rp_scalar h hs)) new_val
        | @fresh p0 d0 _ _ _ c =>
          have hs : scalarB d0 = true := hs
          rw [cn_scalar c] at hs
          cases hs
      · rw [if_neg hs] at p
        exact False.elim p
end
end QL

end
section
/-! QRule21: a, b = x, y: the stores are swapped. -/
namespace QL
open PySem PySem.Spec PyProof.Rows L2
def noStar : Expr → Bool
  | .Starred .. => false
  | _ => true
theorem noStar_any {vs : List Expr} (h : vs.all noStar = true) (f : Expr → Bool) (hf : ∀ e, noStar e = true → f e = false) : vs.any f = false := by
  rw [List.any_eq_false]
  intro x hx
  have := hf x (List.all_eq_true.mp h x hx)
  simp [this]
theorem swap2 {env : Env} {x y : Str} {a b : Expr} {px py pt pt2 : Pos} {kt k2 : Nat} (hb : env.blockKind = .function) (hx : env.kindOf x = some .local) (hy : env.kindOf y = some .local) (hl : px.line = py.line) (hxy : ([x, y].eraseDups.length = 2)) (hst : [a, b].all noStar = true) (hf : [a, b].all (foldedForSure 8) = false) (hc : [a, b].all (constantsAlone 8) = false) :
    swappedStores [.Tuple [.Name x px, .Name y py] kt pt] (.Tuple [a, b] k2 pt2) env = pure (some [x, y]) := by
  unfold swappedStores
  simp only [hb, List.length_cons, List.length_nil, bne_self_eq_false, Bool.or_false, Bool.false_or, Nat.reduceAdd, beq_self_eq_true, Bool.true_or, Bool.not_true, Bool.false_eq_true, if_false, List.filterMap_cons, List.filterMap_nil, hx, hy, hl, Expr.pos, List.head?_cons, Option.map_some, Option.getD_some, Bool.and_self, if_true, hxy, hf, hc]
  rw [if_neg]
  rw [Bool.not_eq_true]
  exact noStar_any hst _ fun e he => by cases e <;> first | rfl | (cases he)
theorem swap3 {env : Env} {x y z : Str} {a b c : Expr} {px py pz pt pt2 : Pos} {kt k2 : Nat} (hb : env.blockKind = .function) (hx : env.kindOf x = some .local) (hy : env.kindOf y = some .local) (hz : env.kindOf z = some .local) (hl : px.line = py.line) (hl2 : px.line = pz.line) (hxy : ([x, y, z].eraseDups.length = 3)) (hst : [a, b, c].all noStar = true) (hf : [a, b, c].all (foldedForSure 8) = false) (hc : [a, b, c].all (constantsAlone 8) = false) :
    swappedStores [.Tuple [.Name x px, .Name y py, .Name z pz] kt pt] (.Tuple [a, b, c] k2 pt2) env = pure (some [x, y, z]) := by
  have e1 : py.line = pz.line := hl ▸ hl2
  unfold swappedStores
  simp only [hb, List.length_cons, List.length_nil, bne_self_eq_false, Bool.or_false, Bool.false_or, Nat.reduceAdd, beq_self_eq_true, Bool.true_or, Bool.or_true, Bool.not_true, Bool.false_eq_true, if_false, List.filterMap_cons, List.filterMap_nil, hx, hy, hz, hl, e1, Expr.pos, List.head?_cons, Option.map_some, Option.getD_some, Bool.and_self, if_true, hxy, hf, hc]
  rw [if_neg]
  rw [Bool.not_eq_true]
  exact noStar_any hst _ fun e he => by cases e <;> first | rfl | (cases he)
end QL

end
section
/-! QRule22: enumerate of a list or a tuple. -/
namespace QL
open PySem PySem.Spec PyProof.Rows L2
abbrev oTi (l : Addr) : Obj := { cls := .type "tuple_iterator", data := .fields #[.ref l, .int 0 0] }
abbrev oEn (it : Addr) : Obj := { cls := .type "enumerate", data := .fields #[.none, .bool false, .ref it, rawInt 0, .none, .none] }
theorem new_enumT (l : Addr) (its : Array Value) (n : Nat) (dc : Option Addr) (sl : Array (Option Value)) :
    Meets (Builtin.«enumerate.__new__» ⟨[.type "enumerate", .ref l], []⟩) (fun _ R s => s.heap.get? l = some { cls := .type "tuple", dict := dc, data := .seq its n, slots := sl } ∧
      R (.ok (.ret (.ref (s.heap.push (oTi l)).objs.size))) { s with heap := (s.heap.push (oTi l)).push (oEn s.heap.objs.size) }) :=
  .of_wp fun prog w A R s h => by
    obtain ⟨hp, g, d, tk, os⟩ := s
    obtain ⟨hl, h⟩ := h
    have hsub := sub_enumerate
    have hT : Heap.IsTuple (Shared.heap ⟨hp, g, d, tk, os⟩) l its := ⟨_, hl, rfl, n, rfl⟩
    wp_walk using AutoSeq1.wpAny_loadPart' hl
    refine wpAny_stack_any fun stk => wpAny_pure ?_; split
    · rename_i c _ _ _ _ _
      cases (c == Value.type "enumerate") <;> (wp_walk using AutoSeq1.wpAny_loadPart' hl, wpAny_pyIter_tuple hT; exact ⟨_, rfl, h⟩)
    · wp_walk using AutoSeq1.wpAny_loadPart' hl, wpAny_pyIter_tuple hT
      exact ⟨_, rfl, h⟩
section
variable {prog : Program} {w : World} {A : Around} {E : Value → Shared → Prop} {s : Shared}
theorem call_enumT {l : Addr} {its : Array Value} {Q : Value → Shared → Prop} (hT : s.heap.IsTuple l its)
    (h : ∀ h', IsEnum h' (s.heap.objs.size + 1) s.heap.objs.size 0 .none → h'.IsTupleIter s.heap.objs.size l 0 → (∀ b o, s.heap.get? b = some o → h'.get? b = some o) → Q (.ref (s.heap.objs.size + 1)) { s with heap := h' }) :
    wpAny (model prog w) A (call (.type "enumerate") [.ref l]) Q E s := by
  obtain ⟨⟨c, dc, dt, sl⟩, hl, hc, n, hd⟩ := hT
  have hc : c = .type "tuple" := hc
  have hd : dt = .seq its n := hd
  subst hc hd
  have hz : (s.heap.push (oTi l)).objs.size = s.heap.objs.size + 1 := Heap.size_push ..
  have he : IsEnum ((s.heap.push (oTi l)).push (oEn s.heap.objs.size)) (s.heap.objs.size + 1) s.heap.objs.size 0 .none := by
    have q := Heap.get?_push_size (s.heap.push (oTi l)) (o := oEn s.heap.objs.size) rfl
    rw [hz] at q; exact q
  refine callType_new F.called_enumerate (by decide) (F.typeCall_enumerate_1 _) (F.newCall_enumerate_1 _) (fun ob => F.args_object_init_2 ob _) F.entry_enumerate_new (new_enumT l its n dc sl) ⟨hl, ?_⟩
  show _ ∧ _
  rw [hz]
  exact ⟨⟨_, he, rfl⟩, h _ he ⟨_, Heap.get?_push_of_some _ (Heap.get?_push_size _ rfl), rfl, rfl⟩ fun b o q => Heap.get?_push_of_some _ (Heap.get?_push_of_some _ q)⟩
end
section
variable {prog : Program} {w : World} {A : Around} {E : Value → Shared → Prop} {s : Shared}
theorem enumT_end {e it t : Addr} {i : Nat} {its : Array Value} {old : Value} {k : Int} {Q : Option Value → Shared → Prop} (hh : A.handled = none) (he : IsEnum s.heap e it k old) (hit : s.heap.IsTupleIter it t i) (ht : s.heap.IsTuple t its) (hx : its[i]? = none)
    (hQ : ∀ h', Heap.ExtBut it s.heap h' → Q none { s with heap := h' }) : wpAny (model prog w) A (pyNext (.ref e)) Q E s := by
  have ty : s.TypeIs (.ref e) "enumerate" := ⟨_, he, rfl⟩
  unfold pyNext
  refine wpAny_bind (wpAny_attempt (wpAny_callSpecial?_slot (name := Str.ofString "__next__") ty F.slot_enumerate_next (wpAny_call_entry F.slot_enumerate_next ty F.entry_enumerate_next ?_ (F.args_enumerate_next_1 _))))
  show wpAny (model prog w) _ (field (.ref e) 2 >>= _) _ _ _
  refine wpAny_bind (wpAny_field he rfl (x := .ref it) rfl (wpAny_bind (wpAny_nextOf_tuple_end hh hit ht hx fun h' x eb ⟨o, ho, hc⟩ => wpAny_bind (wpAny_isInstance (T := "StopIteration") (b := true) ⟨o, ho, hc⟩ isSubtype_stop (wpAny_pure (hQ _ eb))))))
end
/-- the tuple at a, each item in a new pair -/
def IteT (K : PySem.W.Frag) (a : Addr) : It :=
  ⟨fun i H => ∃ (xs : List V) (x : V), SqT K H a xs ∧ xs[i]? = some x, fun i H v H' => ∃ T x, v = .ref T ∧ H T = none ∧ H' = upd H T (.tup [.int (i : Nat), x]) ∧ ∀ xs, SqT K H a xs → xs[i]? = some x, fun i H => ∃ xs : List V, SqT K H a xs ∧ xs.length ≤ i⟩
theorem turn_enumT {P : Program} {w : World} {K : PySem.W.Frag} {elts : List Expr} {kk : Nat} {tpos : Pos} (a e it : Addr) (hai : a ≠ it) (hae : a ≠ e) :
    Turn P w K (.Tuple elts kk tpos) (IteT K a) [e, it] e (fun i h => (∃ old, IsEnum h e it ((i : Nat) : Int) old) ∧ h.IsTupleIter it a i ∧ e ≠ it) where
  mem := by simp
  obj := fun i h st b hb => by
    obtain ⟨⟨old, he⟩, ⟨o, ho, _, hd⟩, _⟩ := st
    have z : b = e ∨ b = it := by simpa using hb
    rcases z with rfl | rfl
    · exact ⟨_, he, fun v q => nomatch q⟩
    · exact ⟨o, ho, fun v q => by rw [hd] at q; cases q⟩
  keep := fun i h h' st k => by
    obtain ⟨⟨old, he⟩, hi, hne⟩ := st
    exact ⟨⟨old, k e (by simp) _ he⟩, hi.at fun o q => k it (by simp) o q, hne⟩
  item := by
    intro X hP hw hK hc i pins s σ H E I hf st hg
    subst hP hw hK
    obtain ⟨⟨old, he⟩, hit, hne⟩ := st
    obtain ⟨xs, x, hq, hx⟩ := hg
    obtain ⟨its, rv, p, hz⟩ := I.tuple hq
    obtain ⟨u, hu, ru⟩ := rv.get hx
    have hel : e < s.heap.objs.size := Heap.lt_size he
    have hil : it < s.heap.objs.size := by
      obtain ⟨_, q, _⟩ := hit
      exact Heap.lt_size q
    have D := Draws.tuple (prog := X.prog) (w := X.w) (A := X.A.in1) (I.ok.hd hc) it a hai its.toArray
    have hlt : i < its.toArray.size := by
      have := (List.getElem?_eq_some_iff.mp hu).1
      simpa using this
    refine wpAny_pyNext_enum_itemD D he ⟨hit, p⟩ hlt hne (by simp; exact ⟨hne, Ne.symm hae⟩) fun y h' tk hy ho st' hT hsz hk => ?_
    have hyu : y = u := by
      have hy : its.toArray[i]? = some y := hy
      rw [← Array.getElem?_toList] at hy
      have hy : its[i]? = some y := hy
      rw [hu] at hy
      exact (Option.some.inj hy).symm
    subst hyu
    refine ⟨_, rfl, wpAny_letOwnedTupleGo_enum (s := { s with heap := h', toks := tk + 1 }) ho fun h'' he' sb => ?_⟩
    have hT2 : h''.get? s.heap.objs.size = some { cls := .type "tuple", data := .seq #[.int i tk, y] } := (sb.2 _ (Nat.ne_of_gt hel)).trans hT
    have new : ObjOk X.prog X.w (upd H s.heap.objs.size (.tup [.int (i : Nat), x])) h'' s.heap.objs.size (.tup [.int (i : Nat), x]) :=
      ⟨(by show 2 ≤ sizeLine; decide), [.int i tk, y], .cons ⟨_, rfl⟩ (.cons ru .nil), ⟨_, hT2, rfl, _, rfl⟩⟩
    have I1 : Inv X pins σ (upd H s.heap.objs.size (.tup [.int (i : Nat), x])) { s with heap := h'', toks := tk + 1 } :=
      I.turnedNew (ch := [e, it]) (fun b ob hb q => (sb.2 b fun z => hb (by simp [z])).trans (hk b ob (fun z => hb (by simp [z])) (fun z => hb (by simp [z])) q)) hf (Nat.le_refl _) new
    refine ⟨.ref s.heap.objs.size, _, I1, rfl, ⟨_, x, rfl, I.hok.fresh (Nat.le_refl _), rfl, fun ys hy => by rw [I.tuple_inj hy hq]; exact hx⟩, ⟨⟨y, ?_⟩, st'.1.at fun o q => (sb.2 it (Ne.symm hne)).trans q, hne⟩, fun b hb => ?_⟩
    · rw [show ((i + 1 : Nat) : Int) = (i : Int) + 1 by omega]
      exact he'
    · have hb' : b < s.heap.objs.size := by
        have z : b = e ∨ b = it := by simpa using hb
        rcases z with rfl | rfl
        · exact hel
        · exact hil
      rw [upd_ne (Nat.ne_of_lt hb')]
      exact (hf b hb).1
  done := by
    intro X hP hw hK hc i pins s σ H E I hf st hg
    subst hP hw hK
    obtain ⟨⟨old, he⟩, hit, hne⟩ := st
    obtain ⟨xs, hq, hx⟩ := hg
    obtain ⟨its, rv, p, hz⟩ := I.tuple hq
    have hnone : its.toArray[i]? = none := by
      have := rv.length
      simp
      omega
    refine enumT_end (I.ok.hd hc) he hit p hnone fun h' eb => ⟨rfl, ?_⟩
    obtain ⟨f0, f1, f2, f3, f4, f5⟩ := hf it (by simp)
    exact I.turned (t' := s.toks) (fun b o hb q => eb b o hb q) f0 f1 f3 f4 f5
  self := fun A i s Q E st h => by
    obtain ⟨⟨_, he⟩, _⟩ := st
    exact wpAny_pyIter_enum he h
def iEnA (K : PySem.W.Frag) (ta : TA) : TI := fun σ H R => ta σ H fun vs H1 => ∃ a xs, vs = [.ref a] ∧ ((SqL K H1 a xs ∧ R (Ite K a) H1) ∨ (SqT K H1 a xs ∧ R (IteT K a) H1))
theorem pi_enumA {X : Cx} {e : Expr} {ta : TA} {p pos tpos : Pos} {elts : List Expr} {kk : Nat} (hg : Gl X "enumerate") (hm : X.mg "enumerate" = none) (ha : PA X [e] ta) (hs : starEach [e] X.env = [(false, eval e X.env)] := by rfl) :
    PI X (.Tuple elts kk tpos) (.Call (.Name "enumerate" p) [e] [] pos) (iEnA X.K ta) := by
  refine ⟨fun pins s σ H R I h => ?_⟩
  refine Call_ (ld_blt I hg hm boot_enumerate (PyProof.Rows.callWith_type1 (thn (ha.run pos pins s σ H _ I h) fun us s1 ⟨vs, H1, I1, r1, a, xs, ex, q1⟩ => ?_) hs rfl))
  subst ex
  cases r1 with
  | cons r rr =>
    cases rr
    cases r
    have fresh2 : ∀ b, b ∈ [s1.heap.objs.size + 1, s1.heap.objs.size] → FpOk X pins H1 b := fun b hb => by
      have hle : s1.heap.objs.size ≤ b := by
        have z : b = s1.heap.objs.size + 1 ∨ b = s1.heap.objs.size := by simpa using hb
        omega
      exact I1.fpOk hle (I1.hok.fresh hle)
    rcases q1 with ⟨hq, q⟩ | ⟨hq, q⟩
    · obtain ⟨its, rv, pl, _⟩ := I1.list hq
      refine call_enumerate_list pl.isList fun h' he hit _ hk => wpAny_pyIter_enum he ?_
      exact ⟨s1.heap.objs.size + 1, [s1.heap.objs.size + 1, s1.heap.objs.size], _, _, H1, rfl, I1.kept (t' := s1.toks) hk, turn_enum a (s1.heap.objs.size + 1) s1.heap.objs.size, ⟨⟨.none, he⟩, hit, Nat.succ_ne_self _⟩, fresh2, q⟩
    · obtain ⟨its, rv, pl, _⟩ := I1.tuple hq
      obtain ⟨o1, ho1, _⟩ := id pl
      have hal : a < s1.heap.objs.size := Heap.lt_size ho1
      refine call_enumT (show s1.heap.IsTuple a its.toArray from pl) fun h' he hit hk => wpAny_pyIter_enum he ?_
      exact ⟨s1.heap.objs.size + 1, [s1.heap.objs.size + 1, s1.heap.objs.size], _, _, H1, rfl, I1.kept (t' := s1.toks) hk, turn_enumT a (s1.heap.objs.size + 1) s1.heap.objs.size (Nat.ne_of_lt hal) (Nat.ne_of_lt (Nat.lt_succ_of_lt hal)), ⟨⟨.none, he⟩, hit, Nat.succ_ne_self _⟩, fresh2, q⟩
theorem walkD_enumT {K : PySem.W.Frag} {Z : Addr → Prop} {H : Hp} {a : Addr} {xs : List V} {ds : List D} (bd : Bd H) (h : H a = some (.tup xs)) (r : RpL K Z H xs ds) : WalkD K (IteT K a) (enumD ds) Z H where
  goes := fun Z2 H2 i k hi => by
    rw [enumD_len] at hi
    have hl := r.length
    exact ⟨xs, xs[i]'(by omega), SqT.of (k.k.tp _ _ h), by simp [show i < xs.length by omega]⟩
  len := by
    have := bd _ _ (.inl h)
    have : xs.length ≤ sizeLine := this
    rw [enumD_len, ← r.length]
    exact this
  stops := fun Z2 H2 k => ⟨xs, SqT.of (k.k.tp _ _ h), by rw [enumD_len, r.length]; exact Nat.le_refl _⟩
  yields := fun Z2 H2 i x H3 k _ hi y => by
    obtain ⟨T, x', e, hT, e2, y1⟩ := y
    obtain ⟨d, h1, h2⟩ := r.getV (y1 xs (SqT.of (k.k.tp _ _ h)))
    subst e e2
    exact ⟨_, by rw [enumD_at, h1]; rfl, .tup hT (.cons (.int _) (.cons (h2.kp k.k) .nil))⟩
section
variable {X : Cx} {E : XK} {θ : Nat → Addr}
theorem qi_enumA {e : Expr} {m : DE} {p pos tpos : Pos} {elts : List Expr} {kk : Nat} (hg : Gl X "enumerate") (hm : X.mg "enumerate" = none) (ha : QA X E θ [e] (eArgs [m])) (hs : starEach [e] X.env = [(false, eval e X.env)] := by rfl) :
    QI X E θ (.Tuple elts kk tpos) (.Call (.Name "enumerate" p) [e] [] pos) (QL.iEnum m) := PI.bd (pi_enumA hg hm ha hs) fun σ H R' bd ⟨Z, st, l, p⟩ => by
  unfold QL.iEnum at p
  refine ⟨Z, st, l, p.bind fun ds st1 _ p vs H1 Z1 b1 x l1 rs => ?_⟩
  cases rs with
  | nil => exact False.elim p
  | @cons v vs d ds r t =>
    cases t with
    | cons _ _ => cases d <;> exact False.elim p
    | nil =>
      cases d with
      | list ds =>
        obtain ⟨a, xs, rfl, hr, rl⟩ := rp_lst r
        exact ⟨a, xs, rfl, .inl ⟨hr.sq, fun b' => p _ _ _ b' x l1 (walkD_enum b1 hr rl)⟩⟩
      | tuple ds =>
        obtain ⟨a, xs, rfl, hr, rl⟩ := rp_tup r
        exact ⟨a, xs, rfl, .inr ⟨SqT.of hr, fun b' => p _ _ _ b' x l1 (walkD_enumT b1 hr rl)⟩⟩
      | _ => exact False.elim p
end
end QL

end
section
/-! QRule23: list(range(a, b)), a comprehension in a comprehension. -/
namespace QL
open PySem PySem.Spec PyProof.Rows L2
section
variable {X : Cx} {E : XK} {θ : Nat → Addr}
variable {a b : Expr} {m n : DE} {p p2 pos pos2 : Pos}
theorem qe_listRg2 (hc : X.calm = true) (hg : Gl X "list") (hm : X.mg "list" = none) (hg2 : Gl X "range") (hm2 : X.mg "range" = none) (ha : QE X E θ a m) (hb : QE X E θ b n) (hs : starEach [a, b] X.env = (false, eval a X.env) :: starEach [b] X.env := by rfl) (hs1 : starEach [b] X.env = (false, eval b X.env) :: starEach [] X.env := by rfl) (hp : (backTo pos2 (starEach [b] X.env)).any (·.1) = false := by rfl)
    (hs2 : starEach [.Call (.Name "range" p2) [a, b] [] pos2] X.env = (false, eval (.Call (.Name "range" p2) [a, b] [] pos2) X.env) :: starEach [] X.env := by rfl) : QE X E θ (.Call (.Name "list" p) [.Call (.Name "range" p2) [a, b] [] pos2] [] pos) (eListRg2 m n) :=
  QE.mk (pe_listRg hc hg hm (prg_2 hg2 hm2 ha hb hs hs1 hp) hs2) fun σ H Z st Q bd l p => ⟨Z, st, l, p.bind fun ra st1 _ p v H1 Z1 b1 x l1 o n => ⟨Z1, st1, l1, (p.adv x).bind fun rb st2 e2 _ u H2 Z2 b2 y l2 o2 n2 => by
    have p' := p
    simp only [e2] at p'
    obtain ⟨lv, p'⟩ := p'.guard
    refine p'.bindR of_ne fun r hr p' => ?_
    cases hg : intOf2 gListRg ra.d rb.d with
    | none => rw [hg] at hr; cases hr
    | some r' =>
      rw [hg] at hr; cases hr
      obtain ⟨i, j, hi, hj, hg⟩ := intOf2_ok hg
      exact ⟨i, j, live_int hi o l1, live_int hj o2 l2, rg_l (x.trans y) l2 hg p'⟩⟩⟩
end
/-! ### a block in a block -/
theorem lookup_relabel {env : Env} : ∀ {names : List (Str × NameKind)} {x : Str}, (names.lookup x = some .cell ∨ names.lookup x = some .free) →
    (names.map fun (n, k) => if (k == NameKind.free && env.scope.kind == .function && env.kindOf n == some .cell) then (n, NameKind.cell) else (n, k)).lookup x = some .cell ∨ (names.map fun (n, k) => if (k == NameKind.free && env.scope.kind == .function && env.kindOf n == some .cell) then (n, NameKind.cell) else (n, k)).lookup x = some .free
  | [], _, h => by simp at h
  | (n, k) :: r, x, h => by
    have ih := @lookup_relabel env r x
    show List.lookup x ((if (k == NameKind.free && env.scope.kind == .function && env.kindOf n == some .cell) = true then (n, NameKind.cell) else (n, k)) :: _) = _ ∨ List.lookup x ((if (k == NameKind.free && env.scope.kind == .function && env.kindOf n == some .cell) = true then (n, NameKind.cell) else (n, k)) :: _) = _
    by_cases hc : (k == NameKind.free && env.scope.kind == .function && env.kindOf n == some .cell) = true
    · rw [if_pos hc]
      cases hx : x == n with
      | true => left; simp [List.lookup_cons, hx]
      | false =>
        simp only [List.lookup_cons, hx] at h ⊢
        exact ih h
    · rw [if_neg hc]
      cases hx : x == n with
      | true =>
        simp only [List.lookup_cons, hx] at h ⊢
        exact h
      | false =>
        simp only [List.lookup_cons, hx] at h ⊢
        exact ih h
theorem blkOk_nest {N : List Str} {sc scope : Scope} {env : Env} {own : List (Str × Nat)} (h : blkC N sc scope own = true) : BlkOk N (relabel sc env) scope own := by
  obtain ⟨a, b, c, d, e⟩ := blkOk_by h
  exact ⟨a, b, c, fun y hy hf => lookup_relabel (d y hy hf), e⟩
end QL

end
section
/-! QDen2: more constructs. -/
namespace QL
open PySem
def isListB : D → Bool
  | .list _ => true
  | _ => false
def gIndex : D → D → Option RV
  | .list xs, d => if d.plain && PyData.plainAll xs && decide (min (PyData.depthAll xs) d.depth ≤ 60) && decide (xs.length ≤ 16777216) then (xs.findIdx? fun x => PyData.eqv x d).map fun j => .val (.int (j : Nat)) else none
  | _, _ => none
/-- l.index(x), x in l -/
noncomputable def eIndex (a b : DE) : DE := fun st => do
  let (ra, s1) ← a st
  guardP (isListB ra.d = true) do
    let (rb, s2) ← b s1
    guardP (ra.live s2) do
      let r ← R.of (gIndex ra.d rb.d)
      pure (r, s2)
end QL

end
section
/-! QRule24: l.index(x). -/
namespace QL
open PySem PySem.Spec PyProof.Rows L2
section
variable {X : Cx} {E : XK} {θ : Nat → Addr}
def rGm (K : PySem.W.Frag) (g : D → D → Option RV) : V → List V → Hp → VK → Prop := fun x xs H Q => ∃ y, xs = [y] ∧ rG2 K g x y H Q
theorem mt_index (hu : X.A.units + 64 < cLine) : MtR X "list.index" (rGm X.K gIndex) := by
  intro pins s σ H x xs v us Q I rx rxs h
  obtain ⟨y, rfl, Z, d, e, r, hx, hy, hr, q⟩ := h
  cases rxs with
  | cons ry rt =>
    rename_i uy ut
    cases rt
    unfold gIndex at hr
    split at hr
    · rename_i ds
      obtain ⟨c, hr⟩ := ite_some hr
      simp only [Bool.and_eq_true, decide_eq_true_eq] at c
      obtain ⟨⟨⟨pd, px⟩, hd⟩, hl⟩ := c
      obtain ⟨bs, r1⟩ := Vw.reads I e y uy pd hy.vw ry
      obtain ⟨as, r2⟩ := Vw.reads I (.list ds) x v (by simpa [PyData.plain] using px) hx.vw rx
      rw [Option.map_eq_some_iff] at hr
      obtain ⟨j, hj, rfl⟩ := hr
      obtain ⟨hjl, hj1, hj2⟩ := List.findIdx?_eq_some_iff_getElem.mp hj
      cases r2 with
      | @list l obj vs n _ as' h1 h2 h3 h4 =>
        obtain ⟨cls, dd, data, sls⟩ := obj
        change cls = _ at h2
        change data = _ at h3
        subst h2 h3
        have hmap := SeqAt.readsAll_map_plain ds _ _ px h4
        have hn : vs.toList.length = ds.length := by rw [← hmap, List.length_map]
        have hjs : j < vs.size := by
          rw [Array.length_toList] at hn
          omega
        have at_ : ∀ (m : Nat) (hm : m < vs.size) (hm2 : m < ds.length), SeqAt.readOf s.heap vs[m] = ds[m] := by
          intro m hm hm2
          have e1 : ds[m]? = some ds[m] := List.getElem?_eq_getElem hm2
          have e2 : (vs.toList.map (SeqAt.readOf s.heap))[m]? = some (SeqAt.readOf s.heap vs[m]) := by
            rw [List.getElem?_map, List.getElem?_eq_getElem (by simpa using hm)]
            simp
          rw [hmap, e1] at e2
          exact (Option.some.inj e2).symm
        refine call_meets PySem.F.slot_list_index ⟨_, h1, rfl⟩ PySem.F.entry_list_index (PySem.F.args_list_index_2 _ _)
          (SeqAt.list_indexAt l vs n dd sls uy (fun u => PyData.eqv (SeqAt.readOf s.heap u) e) j hjs (by omega) ?_ ?_) ⟨h1, SeqAt.items_plain h4 r1 px pd (by omega), ?_⟩
        · show PyData.eqv (SeqAt.readOf s.heap vs[j]) e = true
          rw [at_ j hjs hjl]
          exact hj1
        · intro m hm hmj
          show PyData.eqv (SeqAt.readOf s.heap vs[m]) e = false
          rw [at_ m hm (by omega)]
          simpa using hj2 m hmj
        · exact ⟨.int (j : Nat), H, I.tok _, ⟨_, rfl⟩, q _ _ res_int⟩
    · cases hr
theorem qe_index {o e : Expr} {mo m : DE} {apos cpos : Pos} (hu : X.A.units + 64 < cLine) (ho : QE X E θ o mo) (he : QE X E θ e m)
    (hb : attributeBase o "index" X.env (eval o X.env) = eval o X.env := by rfl)
    (hk : ((((backTo cpos (starEach [e] X.env)).all fun x => !x.fst) && (backToKw cpos (keywordEach [] X.env)).all fun x => x.fst.isSome) && decide (([e].length + ([] : List Keyword).length + if ([] : List Keyword).isEmpty = true then 0 else 1) < 30)) = true := by rfl)
    (hl : (apos.endLine == cpos.line) = true := by rfl) (hst : starEach [e] X.env = (false, eval e X.env) :: starEach [] X.env := by rfl) (hpl : (backTo cpos (starEach [] X.env)).any (·.1) = false := by rfl) :
    QE X E θ (.Call (.Attribute o "index" apos) [e] [] cpos) (eIndex mo m) :=
  QE.mk (pe_bm PySem.F.plainAttrs_list PySem.F.slot_list_index PySem.F.type_list_index (mt_index hu) ho (pa_cons he pa_nil hst) hb hk hl hst hpl) fun σ H Z st Q bd l p => by
    unfold eIndex at p
    refine ⟨Z, st, l, p.bind fun ra st1 _ p v H1 Z1 b1 x l1 o n => ?_⟩
    obtain ⟨hd, p⟩ := p.guard
    have hty : tyV X.K "list" v H1 := by
      have w := o.wv l1
      cases hra : ra.d with
      | list ds =>
        rw [hra] at w
        cases w with
        | rp h => cases h with
          | lst h r => exact .inl ⟨rfl, _, h.sq⟩
        | cn e c => cases c with
          | lst h r => subst e; exact .inl ⟨rfl, _, .inl (.inl h)⟩
      | _ => rw [hra] at hd; cases hd
    refine ⟨hty, Z1, st1, l1, (p.adv x).bind fun rb st2 e2 _ u H2 Z2 b2 y l2 o2 n2 => ?_⟩
    simp only [e2, R.ok_bind] at p
    exact ⟨u, rfl, op2_end x l1 o y l2 o2 p⟩
end
end QL

end
section
/-! QDen3: {t: v}, t a tuple of whole numbers. -/
namespace QL
open PySem
noncomputable def eDictT1 (k v : DE) : DE := fun st => do
  let (rk, s1) ← k st
  let (rv, s2) ← v s1
  let x ← rv.asVal
  match rk with
  | .val (.tuple ds) => if intsOnly ds = true then pure (.fresh (dT [(.tuple ds, x)]), s2) else .bad
  | _ => .bad
end QL

end
section
/-! QRule25: {t: v}, t a tuple of whole numbers. -/
namespace QL
open PySem PySem.Spec PyProof.Rows L2
/-- one pair, its key a tracked tuple; the new dict stands empty meanwhile -/
def tOneT (trs : List (TE × TE)) : TE := fun σ H Q => ∀ p, H p = none → tPairs trs σ (upd H p (.dT [])) fun ps H2 => H2 p = some (.dT []) ∧ ∃ (b : Addr) (ks : List Key) (y : V), ps = [(.ref b, y)] ∧ H2 b = some (.tup (ks.map kV)) ∧ Q (.ref p) (upd H2 p (.dT [(ks, y)]))
theorem pe_oneT {X : Cx} {pos : Pos} {k v : Expr} {trs : List (TE × TE)} (hu : X.A.units + 1 < cLine) (h : PPs X pos [some k] [v] trs) : PE X (.Dict [some k] [v] pos) (tOneT trs) := by
  refine ⟨fun pins s σ H Q I q => ?_⟩
  have hn := I.hok.fresh (Nat.le_refl s.heap.objs.size)
  have I1 := I.laid (a := s.heap.objs.size) (o := .dT []) (h' := s.heap.push { cls := .type "dict", data := .dict #[] }) (t' := s.toks) (fun _ _ q => Heap.get?_push_of_some _ q) (Nat.le_refl _) (dt_empty s.heap I.big)
  have hz := zip_pairTrees [some k] [v] X.env pos rfl rfl
  have hlen : (pairTrees [some k] [v] X.env pos).length = 1 := rfl
  have hne : pairTrees [some k] [v] X.env pos ≠ [] := fun e => by rw [e] at hlen; cases hlen
  rw [arm_eval_Dict, hz, dictDisplay_pairs _ hne (by omega)]
  refine wpAny_bind (wpAny_standAt (wpAny_bind (wpAny_subDictH (knd := tupleKind (mixKind X.prog X.w)) (Q := fun d s' => wpAny (model X.prog X.w) X.A (pure (Value.ref d)) _ _ s') (by show X.A.units < cLine; omega) (by omega) (wpAny_mono (h.run pins _ σ _ _ I1 (q _ hn)) (fun ws s2 hh => ?_) fun _ _ e => e))))
  obtain ⟨ps, H2, I2, rel, e, b, ks, y, ep, hb, q2⟩ := hh
  subst ep
  cases rel with
  | @cons a c as cs hv ht =>
    cases ht
    obtain ⟨u1, u2⟩ := c
    obtain ⟨r1, r2⟩ := hv
    obtain rfl : u1 = Value.ref b := r1
    obtain ⟨z, hd, xs0, r0, dd⟩ := dt_of I2.hok e
    cases r0
    refine ⟨[(ks, b, u2)], ⟨rfl, rfl, key_of I2.hok hb, True.intro⟩, dd, fun h' tk dd' hs => wpAny_pure ⟨.ref s.heap.objs.size, _, ?_, rfl, q2⟩⟩
    obtain ⟨o, es, ep2, hq, h2, h3, h4, _, h5⟩ := dd'
    refine d_write I2 (by rw [e]; exact True.intro) hs ⟨o, hq⟩ ⟨by rw [sizeLine_eq, List.length_singleton]; omega, hd, [(ks, b, u2)], .cons ⟨rfl, ?_, r2⟩ .nil, o, es, ep2, hq, h2, h3, h4, h5⟩
    have hne2 : b ≠ s.heap.objs.size := fun z => by
      subst z
      rw [e] at hb
      cases hb
    rw [upd_ne hne2]
    exact hb
section
variable {X : Cx} {E : XK} {θ : Nat → Addr}
theorem qe_dictT1 {k v : Expr} {mk mv : DE} {pos : Pos} (hu : X.A.units + 1 < cLine) (hk : QE X E θ k mk) (hv : QE X E θ v mv) : QE X E θ (.Dict [some k] [v] pos) (eDictT1 mk mv) := QE.mk (pe_oneT hu (pps_cons hk hv pps_nil)) fun σ H Z st Q bd l p q hq => by
  unfold eDictT1 at p
  have l0 : Rl X.K θ Z (upd H q (.dT [])) st σ := l.new hq
  have x0 : Stp (Own st σ) Z H (Own st σ) Z (upd H q (.dT [])) := Stp.new hq
  have no0 : ¬ Own st σ q := fun z => by
    obtain ⟨_, u, hu, _⟩ := l.okO q z
    rw [hq] at hu; cases hu
  have nz0 : ¬ Z q := fun z => l.dom q z hq
  refine ⟨Z, st, l0, (p.adv x0).bind fun rk s1 e1 _ y H1 Z1 b1 x1 l1 o1 n1 => ?_⟩
  have p1 := p
  rw [e1] at p1
  simp only [R.ok_bind] at p1
  refine ⟨Z1, s1, l1, (p1.adv (x0.trans x1)).bind fun rv s2 e2 _ w H2 Z2 b2 x2 l2 o2 n2 => ?_⟩
  rw [e2] at p1
  simp only [R.ok_bind] at p1
  have p1 : Po X E (Own st σ) H (rv.asVal >>= fun x => (match rk with
    | .val (.tuple ds) => if intsOnly ds = true then pure (RV.fresh (dT [(.tuple ds, x)]), s2) else R.bad
    | _ => R.bad)) _ := p1
  refine p1.bindR asVal_ne fun dv hd p2 => ?_
  obtain ⟨Z3, x3, l3, rp, k3, _⟩ := o2.asVal l2 x2 n2 hd
  cases rk with
  | fresh _ => exact False.elim p2
  | bor _ _ => exact False.elim p2
  | val dk =>
    cases dk with
    | tuple es =>
      have p2 : Po X E (Own st σ) H (if intsOnly es = true then pure (RV.fresh (dT [(.tuple es, dv)]), s2) else R.bad) (fun r s' => CE X.K θ (Own st σ) Z H σ Q r s') := p2
      by_cases hi : intsOnly es = true
      · rw [if_pos hi] at p2
        have p2 : CE X.K θ (Own st σ) Z H σ Q (RV.fresh (dT [(.tuple es, dv)])) s2 := p2
        obtain ⟨kk, rfl⟩ := ints_key hi
        have w1 := (o1.later l1 x3 (by trivial)).wv l3
        cases w1 with
        | cn e c => cases c
        | rp h => cases h with
          | @tup b ys _ hb rb =>
            have hy : ys = kk.map kV := vals_key rb
            subst hy
            have xa := x1.trans x3
            have ha := xa.away upd_same trivial no0 nz0
            refine ⟨ha.1, b, kk, w, rfl, hb, fun b' => ?_⟩
            have xw := ((x0.trans xa).wrN hq ha.1 trivial (o := .dT [(kk, w)]))
            have lw := l3.wrN (o := .dT [(kk, w)]) ha.1 trivial ha.2.2 ha.2.1
            refine p2 _ _ _ b' xw lw (.fresh rfl ha.2.2 ha.2.1 (.dt upd_same (.mk ?_))) fun p' d' h1 h2 => by
              cases h2; exact .inr hq
            exact .cons (rp.kp (Kp.wrN ha.1 trivial ha.2.2)) .nil
      · rw [if_neg hi] at p2; exact False.elim p2
    | _ => exact False.elim p2
end
end QL

end
section
/-! QDen4: a dict compared with a new empty one. -/
namespace QL
open PySem
def sizeD (kvs : List (D × D)) : Nat := if isMark kvs = true then kvs.tail.length else kvs.length
/-- d == {} -/
def gEqE : D → D → Option RV
  | .dict kvs, .dict [] => some (.val (.bool (sizeD kvs == 0)))
  | _, _ => none
/-- d != {} -/
def gNeE : D → D → Option RV
  | .dict kvs, .dict [] => some (.val (.bool (!(sizeD kvs == 0))))
  | _, _ => none
end QL

end
section
/-! QRule26: a dict compared with a new empty one. -/
namespace QL
open PySem PySem.Spec PyProof.Rows L2
section
variable {prog : Program} {w : World} {A : Around} {E : Value → Shared → Prop} {s : Shared}
theorem pairs_empty {nm : String} {a b : Addr} {oa ob : Obj} {es : Array DictEntry} {ep ep' : Nat} {Q : Bool → Shared → Prop} (ha : (a == sysModules) = false) (hb : (b == sysModules) = false) (hoa : s.heap.get? a = some oa) (hda : oa.data = .dict es ep) (hob : s.heap.get? b = some ob) (hdb : ob.data = .dict #[] ep') (h : Q (es.size == 0) s) :
    wpAny (model prog w) A (Builtin.Dict.samePairs nm a b) Q E s := by
  unfold Builtin.Dict.samePairs Builtin.Dict.showsAll
  rw [if_neg (by rw [ha]; decide), if_neg (by rw [hb]; decide)]
  refine wpAny_bind (wpAny_pure (wpAny_bind (wpAny_pure (wpAny_bind (wpAny_dictEntries hoa hda ?_)))))
  dsimp only
  refine wpAny_bind (wpAny_dictEntries hob hdb ?_)
  by_cases hz : es.size = 0
  · have ht : Q true s := by simpa [hz] using h
    rw [if_neg (by simp [hz])]
    refine wpAny_bind (wpAny_dictEpoch hoa hda (wpAny_bind ?_))
    rw [hz, Std.Legacy.Range.forIn_eq_forIn_range']
    exact wpAny_pure (wpAny_pure ht)
  · have hf : Q false s := by
      have : (es.size == 0) = false := by simpa using hz
      rwa [this] at h
    rw [if_pos (by simpa using hz)]
    exact wpAny_bind (wpAny_rule (wpAny_pure hf))
theorem eq_empty {a b : Addr} {oa ob : Obj} {es : Array DictEntry} {ep ep' : Nat} {Q : Value → Shared → Prop} (ha : (a == sysModules) = false) (hb : (b == sysModules) = false) (ta : s.TypeIs (.ref a) "dict") (tb : s.TypeIs (.ref b) "dict") (hoa : s.heap.get? a = some oa) (hda : oa.data = .dict es ep) (hob : s.heap.get? b = some ob) (hdb : ob.data = .dict #[] ep') (hu : A.units < cLine) (h : Q (.bool (es.size == 0)) s) :
    wpAny (model prog w) A (compareOp .Eq (.ref a) (.ref b)) Q E s := by
  refine wpAny_richCompare_same_room (op := .Eq) ta tb PySem.F.slot_dict_eq (wpAny_call_entry PySem.F.slot_dict_eq ta PySem.F.entry_dict_eq ?_ (PySem.F.args_dict_eq_2 _ _)) hu
  change wpAny _ _ (Builtin.Dict.dictSlotArgs "__eq__" ⟨[.ref a, .ref b], []⟩ >>= _) _ _ s
  unfold Builtin.Dict.dictSlotArgs
  refine wpAny_bind (wpAny_bind (wpAny_notOrdered_dict ta ?_))
  change wpAny _ _ (pure (Value.ref a, Value.ref b)) _ _ s
  refine wpAny_pure (wpAny_bind (wpAny_isInstance (T := "dict") tb PySem.F.sub_dict_dict ?_))
  simp only [Bool.not_true, Bool.false_eq_true, if_false]
  refine wpAny_bind (wpAny_pure (wpAny_bind (wpAny_pure (wpAny_bind (pairs_empty ha hb hoa hda hob hdb ?_)))))
  exact wpAny_pure ⟨_, rfl, (fun x => by cases x), by simpa using h⟩
theorem ne_empty {a b : Addr} {oa ob : Obj} {es : Array DictEntry} {ep ep' : Nat} {Q : Value → Shared → Prop} (ha : (a == sysModules) = false) (hb : (b == sysModules) = false) (ta : s.TypeIs (.ref a) "dict") (tb : s.TypeIs (.ref b) "dict") (hoa : s.heap.get? a = some oa) (hda : oa.data = .dict es ep) (hob : s.heap.get? b = some ob) (hdb : ob.data = .dict #[] ep') (hu : A.units < cLine) (h : Q (.bool (!(es.size == 0))) s) :
    wpAny (model prog w) A (compareOp .NotEq (.ref a) (.ref b)) Q E s := by
  refine wpAny_richCompare_same_room (op := .NotEq) ta tb PySem.F.slot_dict_ne (wpAny_call_entry PySem.F.slot_dict_ne ta PySem.F.entry_dict_ne ?_ (PySem.F.args_dict_ne_2 _ _)) hu
  change wpAny _ _ (Builtin.Dict.dictSlotArgs "__ne__" ⟨[.ref a, .ref b], []⟩ >>= _) _ _ s
  unfold Builtin.Dict.dictSlotArgs
  refine wpAny_bind (wpAny_bind (wpAny_notOrdered_dict ta ?_))
  change wpAny _ _ (pure (Value.ref a, Value.ref b)) _ _ s
  refine wpAny_pure (wpAny_bind (wpAny_isInstance (T := "dict") tb PySem.F.sub_dict_dict ?_))
  simp only [Bool.not_true, Bool.false_eq_true, if_false]
  refine wpAny_bind (wpAny_pure (wpAny_bind (wpAny_pure (wpAny_bind (pairs_empty ha hb hoa hda hob hdb ?_)))))
  exact wpAny_pure ⟨_, rfl, (fun x => by cases x), by simpa using h⟩
end
section
variable {X : Cx} {E : XK} {θ : Nat → Addr}
/-- a dict's object, by either kind of keys -/
theorem dict_obj {pins : List (Addr × Obj)} {σ : St} {Z : Addr → Prop} {H : Hp} {s : Shared} {v : V} {kvs : List (D × D)} (I : Inv X pins σ H s) (hw : Wv X.K Z H v (.dict kvs)) : ∃ (a : Addr) (o : Obj) (es : Array DictEntry) (ep : Nat), v = .ref a ∧ (a == sysModules) = false ∧ s.TypeIs (.ref a) "dict" ∧ s.heap.get? a = some o ∧ o.data = .dict es ep ∧ es.size = sizeD kvs := by
  have kinds : (∃ a ks, v = .ref a ∧ Rd H a (.dK ks) ∧ RpK X.K Z H ks kvs) ∨ ∃ a ks, v = .ref a ∧ Rd H a (.dT ks) ∧ RpM X.K Z H ks kvs := by
    cases hw with
    | rp h => cases h with
      | dk _ h r => exact .inl ⟨_, _, rfl, h, r⟩
      | dt _ h r => exact .inr ⟨_, _, rfl, h, r⟩
    | cn e c => cases c with
      | dk h r => exact .inl ⟨_, _, e, .inl h, r⟩
      | dt h r => exact .inr ⟨_, _, e, .inl h, r⟩
  rcases kinds with ⟨a, ks, rfl, h, r⟩ | ⟨a, ks, rfl, h, r⟩
  · obtain ⟨_, hd, vs, rel, dd⟩ := dk_rd I.hok h
    obtain ⟨o, es, ep, ho, _, hdat, _, hp, _⟩ := id dd
    refine ⟨a, o, es, ep, rfl, hd, dd.typeIs, ho, hdat, ?_⟩
    have h1 : vs.length = es.size := by rw [← hp.length]; exact Array.length_toList
    have h2 := rel.length
    have h3 := r.length
    unfold sizeD
    rw [r.mark, if_neg (by decide)]
    omega
  · obtain ⟨_, hd, xs, rel, dd⟩ := dt_rd I.hok h
    obtain ⟨o, es, ep, ho, _, hdat, hes, _⟩ := id dd
    refine ⟨a, o, es, ep, rfl, hd, dd.typeIs, ho, hdat, ?_⟩
    have h1 : xs.length = es.size := by
      have := congrArg List.length hes
      rw [List.length_map, Array.length_toList] at this
      exact this.symm
    have h2 := Paired.length rel
    cases r with
    | mk r =>
      have h3 := r.length
      show es.size = (if isMark ((PyData.none, PyData.none) :: _) = true then _ else _)
      rw [show isMark ((PyData.none, PyData.none) :: _) = true from rfl]
      simp only [if_true, List.tail_cons]
      omega
theorem og_eqE (hu : X.A.units < cLine) : OpR X (compareOp .Eq) (rG2 X.K gEqE) := by
  intro pins s σ H x y v u Q I rx ry h
  obtain ⟨Z, d, e, r, hx, hy, hr, q⟩ := h
  unfold gEqE at hr
  split at hr
  · cases hr
    obtain ⟨a, oa, es, ep, rfl, ha, ta, hoa, hda, hsz⟩ := dict_obj I hx
    obtain ⟨b, ob, es', ep', rfl, hb, tb, hob, hdb, hsz'⟩ := dict_obj I hy
    obtain rfl : v = Value.ref a := rx
    obtain rfl : u = Value.ref b := ry
    have e0 : es' = #[] := Array.eq_empty_of_size_eq_zero hsz'
    subst e0
    exact eq_empty ha hb ta tb hoa hda hob hdb hu ⟨.bl _, H, I, rfl, by rw [hsz]; exact q _ _ res_bool⟩
  · cases hr
theorem og_neE (hu : X.A.units < cLine) : OpR X (compareOp .NotEq) (rG2 X.K gNeE) := by
  intro pins s σ H x y v u Q I rx ry h
  obtain ⟨Z, d, e, r, hx, hy, hr, q⟩ := h
  unfold gNeE at hr
  split at hr
  · cases hr
    obtain ⟨a, oa, es, ep, rfl, ha, ta, hoa, hda, hsz⟩ := dict_obj I hx
    obtain ⟨b, ob, es', ep', rfl, hb, tb, hob, hdb, hsz'⟩ := dict_obj I hy
    obtain rfl : v = Value.ref a := rx
    obtain rfl : u = Value.ref b := ry
    have e0 : es' = #[] := Array.eq_empty_of_size_eq_zero hsz'
    subst e0
    exact ne_empty ha hb ta tb hoa hda hob hdb hu ⟨.bl _, H, I, rfl, by rw [hsz]; exact q _ _ res_bool⟩
  · cases hr
end
theorem hu0 {k : Nat} {A : Around} (h : Room k A) : A.units < cLine := by have := h.un; omega
end QL

end
section
/-! M0: denotations by simp. -/
namespace QL
open PySem
@[simp] theorem guardP_T {α : Type} (r : R α) : guardP True r = r := guardP_true trivial
@[simp] theorem live_val (st : DS) (d : D) : RV.live st (.val d) = True := rfl
@[simp] theorem live_fresh (st : DS) (d : D) : RV.live st (.fresh d) = True := rfl
@[simp] theorem live_bor (st : DS) (i : Nat) (d : D) : RV.live st (.bor i d) = ∃ x, st[i]? = some (some (.own x d)) := rfl
@[simp] theorem startD_none (n : Nat) (ds : List D) : startD n none ds = ds.map (fun d => some (.val d)) ++ List.replicate (n - ds.length) none := rfl
@[simp] theorem startD_some (n : Nat) (c : D) (ds : List D) : startD n (some c) ds = some (.own true c) :: (ds.map (fun d => some (.val d)) ++ List.replicate (n - (ds.length + 1)) none) := rfl
@[simp] theorem intOf_int (g : Int → Int → Option RV) (i j : Int) : intOf g i (.int j) = g i j := rfl
@[simp] theorem intOf2_int (g : Int → Int → Option RV) (i j : Int) : intOf2 g (.int i) (.int j) = g i j := rfl
/-- a def by its body's outcome -/
theorem bodyF_rt {n : Nat} {m : DM} {ds : List D} {st : DS} {d : D} (h : m (startD n none ds) = .ok (.rt (.val d), st)) : bodyF n m none ds = .ok (.val d, none) := by
  unfold bodyF
  rw [h]; rfl
theorem bodyF_fresh {n : Nat} {m : DM} {ds : List D} {st : DS} {d : D} (h : m (startD n none ds) = .ok (.rt (.fresh d), st)) : bodyF n m none ds = .ok (.fresh d, none) := by
  unfold bodyF
  rw [h]; rfl
theorem bodyF_nx {n : Nat} {m : DM} {ds : List D} {st : DS} (h : m (startD n none ds) = .ok (.nx, st)) : bodyF n m none ds = .ok (.val .none, none) := by
  unfold bodyF
  rw [h]; rfl
theorem bodyF_ex {n : Nat} {m : DM} {ds : List D} {c : Str} (h : m (startD n none ds) = .ex c) : bodyF n m none ds = .ex c := by
  unfold bodyF
  rw [h]
theorem bodyF_srt {n : Nat} {m : DM} {ds : List D} {st : DS} {r : RV} {c c' : D} (h : m (startD n (some c) ds) = .ok (.rt r, st)) (hr : r.out = .ok r) (h0 : st[(0 : Nat)]? = some (some (.own true c'))) : bodyF n m (some c) ds = .ok (r, some c') := by
  unfold bodyF
  rw [h]
  show (r.out >>= fun r' => outOf (some c) st >>= fun c => pure (r', c)) = _
  rw [hr]
  simp [outOf, h0]
/-- one turn of a comprehension -/
noncomputable def stepC (vs : List Nat) (g : DG) (t : DT) (e : DE) (st : DS) (d : D) : R (Option D × DS) := do
  let s1 ← g (.val d) (wipeS vs st)
  let (b, s2) ← noEx (t s1)
  if b then do
    let (r, s3) ← noEx (e s2)
    let x ← r.asVal
    pure (some x, backS vs st s3)
  else pure (none, backS vs st s2)
theorem compL_nil {G : DS → Prop} {vs : List Nat} {g : DG} {t : DT} {e : DE} {st : DS} (h : G st) : compL G vs g t e [] st = .ok ([], st) := by
  unfold compL
  exact guardP_true h
theorem compL_cons {G : DS → Prop} {vs : List Nat} {g : DG} {t : DT} {e : DE} {st : DS} {d : D} {ds : List D} (h : G st) : compL G vs g t e (d :: ds) st = (stepC vs g t e st d >>= fun q => (compL G vs g t e ds q.2 >>= fun p => pure ((match q.1 with | some x => x :: p.1 | none => p.1), p.2))) := by
  conv => lhs; unfold compL
  rw [guardP_true h]
  unfold stepC
  cases h1 : g (.val d) (wipeS vs st) with
  | bad => rfl
  | ex c => rfl
  | ok s1 =>
    simp only [R.ok_bind]
    cases h2 : noEx (t s1) with
    | bad => rfl
    | ex c => rfl
    | ok q =>
      obtain ⟨b, s2⟩ := q
      simp only [R.ok_bind]
      cases b with
      | false =>
        simp only [Bool.false_eq_true, if_false, R.pure_eq, R.ok_bind]
        cases compL G vs g t e ds (backS vs st s2) <;> rfl
      | true =>
        simp only [if_true]
        cases h3 : noEx (e s2) with
        | bad => rfl
        | ex c => rfl
        | ok q =>
          obtain ⟨r, s3⟩ := q
          simp only [R.ok_bind]
          cases h4 : r.asVal with
          | bad => rfl
          | ex c => rfl
          | ok x => rfl
/-- no change of the slots -/
theorem compL_map {G : DS → Prop} {vs : List Nat} {g : DG} {t : DT} {e : DE} {st : DS} (hG : G st) (F : D → Option D) : ∀ {ds : List D}, (∀ d ∈ ds, stepC vs g t e st d = .ok (F d, st)) → compL G vs g t e ds st = .ok (ds.filterMap F, st)
  | [], _ => compL_nil hG
  | d :: ds, h => by
    rw [compL_cons hG, h d List.mem_cons_self]
    simp only [R.ok_bind]
    rw [compL_map hG F fun d' hd => h d' (List.mem_cons_of_mem _ hd)]
    cases hF : F d with
    | none => simp [List.filterMap_cons, hF]
    | some x => simp [List.filterMap_cons, hF]
/-- slots that change by an invariant; what is made meets C -/
theorem compL_inv {G : DS → Prop} {vs : List Nat} {g : DG} {t : DT} {e : DE} (P : Nat → DS → Prop) (C : D → D → Prop) (hG : ∀ n st, P n st → G st) : ∀ {ds : List D} {n : Nat} {st : DS}, P (n + ds.length) st → (∀ d ∈ ds, ∀ n st, P (n + 1) st → ∃ o st', stepC vs g t e st d = .ok (o, st') ∧ P n st' ∧ ∀ x, o = some x → C d x) →
    ∃ xs st', compL G vs g t e ds st = .ok (xs, st') ∧ P n st' ∧ ∃ os : List (Option D), os.length = ds.length ∧ xs = os.filterMap id ∧ ∀ (i : Nat) (d x : D), ds[i]? = some d → os[i]? = some (some x) → C d x
  | [], n, st, h, _ => ⟨[], st, compL_nil (hG _ _ h), h, [], rfl, rfl, fun i d x h => by simp at h⟩
  | d :: ds, n, st, h, hs => by
    obtain ⟨o, st1, e1, p1, c1⟩ := hs d List.mem_cons_self (n + ds.length) st h
    obtain ⟨xs, st2, e2, p2, os, hl, hx, hc⟩ := compL_inv P C hG (ds := ds) (n := n) (st := st1) p1 fun d' hd => hs d' (List.mem_cons_of_mem _ hd)
    rw [compL_cons (hG _ _ h), e1]
    simp only [R.ok_bind]
    rw [e2]
    cases o with
    | none => exact ⟨xs, st2, rfl, p2, none :: os, by simp [hl], by simp [hx], fun i d' x h1 h2 => by
        cases i with
        | zero => simp at h2
        | succ i => exact hc i d' x (by simpa using h1) (by simpa using h2)⟩
    | some y => exact ⟨y :: xs, st2, rfl, p2, some y :: os, by simp [hl], by simp [hx], fun i d' x h1 h2 => by
        cases i with
        | zero =>
          simp at h1 h2
          subst h1 h2
          exact c1 _ rfl
        | succ i => exact hc i d' x (by simpa using h1) (by simpa using h2)⟩
/-- a loop by an invariant, nothing left early -/
theorem loopL_inv {g : DG} {body : DM} (P : List D → DS → Prop) : ∀ {ds : List D} {st : DS}, P ds st → (∀ d r st, P (d :: r) st → ∃ s1 st', g (.val d) st = .ok s1 ∧ (body s1 = .ok (.nx, st') ∨ body s1 = .ok (.ct, st')) ∧ P r st') → ∃ st', loopL g body ds st = .ok (.nx, st') ∧ P [] st'
  | [], st, h, _ => ⟨st, rfl, h⟩
  | d :: ds, st, h, hs => by
    obtain ⟨s1, st1, e1, e2, p⟩ := hs d ds st h
    obtain ⟨st2, e3, p2⟩ := loopL_inv P p hs
    refine ⟨st2, ?_, p2⟩
    unfold loopL
    rcases e2 with e2 | e2 <;> simp [e1, e2, e3]
end QL

end
section
/-! W0: outcomes in continuation form: one rule a construct, so that a def is run by rewriting from the outside. -/
namespace QL
open PySem
def wR {α : Type} (m : R α) (Q : α → Prop) : Prop := match m with
  | .ok a => Q a
  | _ => False
theorem wR_bind {α β : Type} (m : R α) (f : α → R β) (Q : β → Prop) : wR (m >>= f) Q = wR m fun a => wR (f a) Q := by cases m <;> rfl
theorem wR_pure {α : Type} (a : α) (Q : α → Prop) : wR (pure a) Q = Q a := rfl
theorem wR_ok {α : Type} (a : α) (Q : α → Prop) : wR (.ok a) Q = Q a := rfl
theorem wR_noEx {α : Type} (m : R α) (Q : α → Prop) : wR (noEx m) Q = wR m Q := by cases m <;> rfl
theorem wR_of {α : Type} {m : R α} {a : α} {Q : α → Prop} (h : m = .ok a) : wR m Q = Q a := by rw [h]; rfl
theorem wR_elim {α : Type} {m : R α} {Q : α → Prop} (h : wR m Q) : ∃ a, m = .ok a ∧ Q a := by
  cases m with
  | ok a => exact ⟨a, rfl, h⟩
  | ex c => exact h.elim
  | bad => exact h.elim
theorem wR_mono {α : Type} {m : R α} {Q Q' : α → Prop} (h : wR m Q) (hq : ∀ a, Q a → Q' a) : wR m Q' := by
  cases m with
  | ok a => exact hq a h
  | ex c => exact h.elim
  | bad => exact h.elim
theorem wR_guard {α : Type} (p : Prop) (m : R α) (Q : α → Prop) : wR (guardP p m) Q = (p ∧ wR m Q) := by
  unfold guardP
  by_cases h : p
  · rw [if_pos h]; simp [h]
  · rw [if_neg h]; simp [h, wR]
@[irreducible] def wE (e : DE) (st : DS) (Q : RV → DS → Prop) : Prop := wR (e st) fun p => Q p.1 p.2
@[irreducible] def wT (t : DT) (st : DS) (Q : Bool → DS → Prop) : Prop := wR (t st) fun p => Q p.1 p.2
@[irreducible] def wA (es : List DE) (st : DS) (Q : List D → DS → Prop) : Prop := wR (eArgs es st) fun p => Q p.1 p.2
@[irreducible] def wAR (es : List DE) (st : DS) (Q : List RV → DS → Prop) : Prop := wR (eArgsR es st) fun p => Q p.1 p.2
@[irreducible] def wI (it : DI) (st : DS) (Q : List D → DS → Prop) : Prop := wR (it st) fun p => Q p.1 p.2
@[irreducible] def wP (it : DS → R (Option Int × DS)) (st : DS) (Q : Option Int → DS → Prop) : Prop := wR (it st) fun p => Q p.1 p.2
@[irreducible] def wG (g : DG) (r : RV) (st : DS) (Q : DS → Prop) : Prop := wR (g r st) Q
@[irreducible] def wGs (gs : List DG) (ds : List D) (st : DS) (Q : DS → Prop) : Prop := wR (bEach gs ds st) Q
@[irreducible] def wF (f : DF) (o : Option D) (ds : List D) (Q : RV → Option D → Prop) : Prop := wR (f o ds) fun p => Q p.1 p.2
def endS (N : DS → Prop) (E : Fl → DS → Prop) : Fl → DS → Prop
  | .nx, s => N s
  | f, s => E f s
@[irreducible] def wS (m : DM) (st : DS) (N : DS → Prop) (E : Fl → DS → Prop) : Prop := wR (m st) fun p => endS N E p.1 p.2
@[irreducible] def wL (g : DG) (body : DM) (ds : List D) (st : DS) (N : DS → Prop) (E : Fl → DS → Prop) : Prop := wR (loopL g body ds st) fun p => endS N E p.1 p.2
@[irreducible] def wW (t : DT) (body : DM) (n : Nat) (st : DS) (N : DS → Prop) (E : Fl → DS → Prop) : Prop := wR (loopW t body n st) fun p => endS N E p.1 p.2
@[irreducible] def wC (G : DS → Prop) (vs : List Nat) (g : DG) (t : DT) (e : DE) (ds : List D) (st : DS) (Q : List D → DS → Prop) : Prop := wR (compL G vs g t e ds st) fun p => Q p.1 p.2
theorem wG_mono {g : DG} {r : RV} {st : DS} {Q Q' : DS → Prop} (h : wG g r st Q) (hq : ∀ s, Q s → Q' s) : wG g r st Q' := by
  unfold wG at *
  exact wR_mono h hq
theorem wE_mono {e : DE} {st : DS} {Q Q' : RV → DS → Prop} (h : wE e st Q) (hq : ∀ r s, Q r s → Q' r s) : wE e st Q' := by
  unfold wE at *
  exact wR_mono h fun p => hq _ _
theorem wT_mono {e : DT} {st : DS} {Q Q' : Bool → DS → Prop} (h : wT e st Q) (hq : ∀ r s, Q r s → Q' r s) : wT e st Q' := by
  unfold wT at *
  exact wR_mono h fun p => hq _ _
theorem wS_monoF {m : DM} {st : DS} {N N' : DS → Prop} {E E' : Fl → DS → Prop} (h : wS m st N E) (hf : ∀ f s, endS N E f s → endS N' E' f s) : wS m st N' E' := by
  unfold wS at *
  exact wR_mono h fun p => hf _ _
theorem wS_mono {m : DM} {st : DS} {N N' : DS → Prop} {E E' : Fl → DS → Prop} (h : wS m st N E) (hn : ∀ s, N s → N' s) (he : ∀ f s, E f s → E' f s) : wS m st N' E' := wS_monoF h fun f s => by
  cases f with
  | nx => exact hn s
  | rt r => exact he _ s
  | bk => exact he _ s
  | ct => exact he _ s
/-! pieces -/
def oVar (a : Option (Option A)) (i : Nat) (st : DS) (Q : RV → DS → Prop) : Prop := match a with
  | some (some (.val d)) => Q (.val d) st
  | some (some (.own false d)) => Q (.val d) (st.set i (some (.val d)))
  | _ => False
-- W
theorem oVar_val (d : D) (i : Nat) (st : DS) (Q : RV → DS → Prop) : oVar (some (some (.val d))) i st Q = Q (.val d) st := id rfl
-- W
theorem oVar_own (d : D) (i : Nat) (st : DS) (Q : RV → DS → Prop) : oVar (some (some (.own false d))) i st Q = Q (.val d) (st.set i (some (.val d))) := id rfl
def oBor (a : Option (Option A)) (i : Nat) (st : DS) (Q : RV → DS → Prop) : Prop := match a with
  | some (some (.val d)) => Q (.val d) st
  | some (some (.own _ d)) => Q (.bor i d) st
  | _ => False
-- W
theorem oBor_val (d : D) (i : Nat) (st : DS) (Q : RV → DS → Prop) : oBor (some (some (.val d))) i st Q = Q (.val d) st := id rfl
-- W
theorem oBor_own (x : Bool) (d : D) (i : Nat) (st : DS) (Q : RV → DS → Prop) : oBor (some (some (.own x d))) i st Q = Q (.bor i d) st := id rfl
def oMove (a : Option (Option A)) (i : Nat) (st : DS) (Q : RV → DS → Prop) : Prop := match a with
  | some (some (.val d)) => Q (.val d) st
  | some (some (.own false d)) => Q (.fresh d) (st.set i none)
  | _ => False
-- W
theorem oMove_val (d : D) (i : Nat) (st : DS) (Q : RV → DS → Prop) : oMove (some (some (.val d))) i st Q = Q (.val d) st := id rfl
-- W
theorem oMove_own (d : D) (i : Nat) (st : DS) (Q : RV → DS → Prop) : oMove (some (some (.own false d))) i st Q = Q (.fresh d) (st.set i none) := id rfl
def oOwn (a : Option (Option A)) (Q : Bool → D → Prop) : Prop := match a with
  | some (some (.own x d)) => Q x d
  | _ => False
-- W
theorem oOwn_own (x : Bool) (d : D) (Q : Bool → D → Prop) : oOwn (some (some (.own x d))) Q = Q x d := id rfl
def oDict (a : Option (Option A)) (i : Nat) (st : DS) (Q : List (D × D) → DS → Prop) : Prop := match a with
  | some (some (.val (.dict kvs))) => Q kvs st
  | some (some (.own false (.dict kvs))) => Q kvs (st.set i (some (.val (.dict kvs))))
  | _ => False
-- W
theorem oDict_val (kvs : List (D × D)) (i : Nat) (st : DS) (Q : List (D × D) → DS → Prop) : oDict (some (some (.val (.dict kvs)))) i st Q = Q kvs st := id rfl
-- W
theorem oDict_own (kvs : List (D × D)) (i : Nat) (st : DS) (Q : List (D × D) → DS → Prop) : oDict (some (some (.own false (.dict kvs)))) i st Q = Q kvs (st.set i (some (.val (.dict kvs)))) := id rfl
def oI (d : D) (Q : Int → Prop) : Prop := match d with
  | .int i => Q i
  | _ => False
-- W
theorem oI_int (i : Int) (Q : Int → Prop) : oI (.int i) Q = Q i := id rfl
def oB (d : D) (Q : Bool → Prop) : Prop := match d with
  | .bool i => Q i
  | _ => False
-- W
theorem oB_bool (i : Bool) (Q : Bool → Prop) : oB (.bool i) Q = Q i := id rfl
def oSq (d : D) (Q : List D → Prop) : Prop := match d with
  | .list xs => Q xs
  | .tuple xs => Q xs
  | _ => False
-- W
theorem oSq_l (xs : List D) (Q : List D → Prop) : oSq (.list xs) Q = Q xs := id rfl
-- W
theorem oSq_t (xs : List D) (Q : List D → Prop) : oSq (.tuple xs) Q = Q xs := id rfl
def oTp (d : D) (Q : List D → Prop) : Prop := match d with
  | .tuple xs => Q xs
  | _ => False
-- W
theorem oTp_t (xs : List D) (Q : List D → Prop) : oTp (.tuple xs) Q = Q xs := id rfl
def oLs (d : D) (Q : List D → Prop) : Prop := match d with
  | .list xs => Q xs
  | _ => False
-- W
theorem oLs_t (xs : List D) (Q : List D → Prop) : oLs (.list xs) Q = Q xs := id rfl
def oDc (d : D) (Q : List (D × D) → Prop) : Prop := match d with
  | .dict xs => Q xs
  | _ => False
-- W
theorem oDc_t (xs : List (D × D)) (Q : List (D × D) → Prop) : oDc (.dict xs) Q = Q xs := id rfl
def oV (r : RV) (Q : D → Prop) : Prop := match r with
  | .val d => Q d
  | .fresh d => Q d
  | .bor _ _ => False
-- W
theorem oV_val (d : D) (Q : D → Prop) : oV (.val d) Q = Q d := id rfl
-- W
theorem oV_fresh (d : D) (Q : D → Prop) : oV (.fresh d) Q = Q d := id rfl
/-- a result that may be owned -/
def oN (r : RV) (Q : RV → Prop) : Prop := match r with
  | .val d => Q (.val d)
  | .fresh d => Q (.fresh d)
  | .bor _ _ => False
-- W
theorem oN_val (d : D) (Q : RV → Prop) : oN (.val d) Q = Q (.val d) := id rfl
-- W
theorem oN_fresh (d : D) (Q : RV → Prop) : oN (.fresh d) Q = Q (.fresh d) := id rfl
def oS {α : Type} (o : Option α) (Q : α → Prop) : Prop := match o with
  | some a => Q a
  | none => False
-- W
theorem oS_some {α : Type} (a : α) (Q : α → Prop) : oS (some a) Q = Q a := id rfl
theorem oS_of {α : Type} {o : Option α} {a : α} {Q : α → Prop} (h : o = some a) : oS o Q = Q a := by rw [h]; rfl
theorem wR_asVal (r : RV) (Q : D → Prop) : wR r.asVal Q = oV r Q := by cases r <;> rfl
theorem wR_of' {α : Type} (o : Option α) (Q : α → Prop) : wR (R.of o) Q = oS o Q := by cases o <;> rfl
/-- live -/
-- W
theorem lv_val (st : DS) (d : D) (P : Prop) : (RV.live st (.val d) ∧ P) = P := by simp
-- W
theorem lv_fresh (st : DS) (d : D) (P : Prop) : (RV.live st (.fresh d) ∧ P) = P := by simp
def oLv (a : Option (Option A)) (d : D) (P : Prop) : Prop := (∃ x, a = some (some (.own x d))) ∧ P
-- W
theorem lv_bor (st : DS) (i : Nat) (d : D) (P : Prop) : (RV.live st (.bor i d) ∧ P) = oLv (st[i]?) d P := id rfl
-- W
theorem oLv_own (x : Bool) (d : D) (P : Prop) : oLv (some (some (.own x d))) d P = P := by
  unfold oLv
  exact propext ⟨fun h => h.2, fun h => ⟨⟨x, rfl⟩, h⟩⟩
-- W
theorem rvd_val (d : D) : (RV.val d).d = d := id rfl
-- W
theorem rvd_fresh (d : D) : (RV.fresh d).d = d := id rfl
-- W
theorem rvd_bor (i : Nat) (d : D) : (RV.bor i d).d = d := id rfl
/-! ### slots -/
-- W
theorem sg0 {α : Type} (a0 : α) (r : List α) : (a0 :: r)[0]? = some a0 := id rfl
-- W
theorem ss0 {α : Type} (a0 x : α) (r : List α) : (a0 :: r).set 0 x = x :: r := id rfl
-- W
theorem sg1 {α : Type} (a0 a1 : α) (r : List α) : (a0 :: a1 :: r)[1]? = some a1 := id rfl
-- W
theorem ss1 {α : Type} (a0 a1 x : α) (r : List α) : (a0 :: a1 :: r).set 1 x = a0 :: x :: r := id rfl
-- W
theorem sg2 {α : Type} (a0 a1 a2 : α) (r : List α) : (a0 :: a1 :: a2 :: r)[2]? = some a2 := id rfl
-- W
theorem ss2 {α : Type} (a0 a1 a2 x : α) (r : List α) : (a0 :: a1 :: a2 :: r).set 2 x = a0 :: a1 :: x :: r := id rfl
-- W
theorem sg3 {α : Type} (a0 a1 a2 a3 : α) (r : List α) : (a0 :: a1 :: a2 :: a3 :: r)[3]? = some a3 := id rfl
-- W
theorem ss3 {α : Type} (a0 a1 a2 a3 x : α) (r : List α) : (a0 :: a1 :: a2 :: a3 :: r).set 3 x = a0 :: a1 :: a2 :: x :: r := id rfl
-- W
theorem sg4 {α : Type} (a0 a1 a2 a3 a4 : α) (r : List α) : (a0 :: a1 :: a2 :: a3 :: a4 :: r)[4]? = some a4 := id rfl
-- W
theorem ss4 {α : Type} (a0 a1 a2 a3 a4 x : α) (r : List α) : (a0 :: a1 :: a2 :: a3 :: a4 :: r).set 4 x = a0 :: a1 :: a2 :: a3 :: x :: r := id rfl
-- W
theorem sg5 {α : Type} (a0 a1 a2 a3 a4 a5 : α) (r : List α) : (a0 :: a1 :: a2 :: a3 :: a4 :: a5 :: r)[5]? = some a5 := id rfl
-- W
theorem ss5 {α : Type} (a0 a1 a2 a3 a4 a5 x : α) (r : List α) : (a0 :: a1 :: a2 :: a3 :: a4 :: a5 :: r).set 5 x = a0 :: a1 :: a2 :: a3 :: a4 :: x :: r := id rfl
-- W
theorem sg6 {α : Type} (a0 a1 a2 a3 a4 a5 a6 : α) (r : List α) : (a0 :: a1 :: a2 :: a3 :: a4 :: a5 :: a6 :: r)[6]? = some a6 := id rfl
-- W
theorem ss6 {α : Type} (a0 a1 a2 a3 a4 a5 a6 x : α) (r : List α) : (a0 :: a1 :: a2 :: a3 :: a4 :: a5 :: a6 :: r).set 6 x = a0 :: a1 :: a2 :: a3 :: a4 :: a5 :: x :: r := id rfl
-- W
theorem sg7 {α : Type} (a0 a1 a2 a3 a4 a5 a6 a7 : α) (r : List α) : (a0 :: a1 :: a2 :: a3 :: a4 :: a5 :: a6 :: a7 :: r)[7]? = some a7 := id rfl
-- W
theorem ss7 {α : Type} (a0 a1 a2 a3 a4 a5 a6 a7 x : α) (r : List α) : (a0 :: a1 :: a2 :: a3 :: a4 :: a5 :: a6 :: a7 :: r).set 7 x = a0 :: a1 :: a2 :: a3 :: a4 :: a5 :: a6 :: x :: r := id rfl
-- W
theorem sg8 {α : Type} (a0 a1 a2 a3 a4 a5 a6 a7 a8 : α) (r : List α) : (a0 :: a1 :: a2 :: a3 :: a4 :: a5 :: a6 :: a7 :: a8 :: r)[8]? = some a8 := id rfl
-- W
theorem ss8 {α : Type} (a0 a1 a2 a3 a4 a5 a6 a7 a8 x : α) (r : List α) : (a0 :: a1 :: a2 :: a3 :: a4 :: a5 :: a6 :: a7 :: a8 :: r).set 8 x = a0 :: a1 :: a2 :: a3 :: a4 :: a5 :: a6 :: a7 :: x :: r := id rfl
-- W
theorem sg9 {α : Type} (a0 a1 a2 a3 a4 a5 a6 a7 a8 a9 : α) (r : List α) : (a0 :: a1 :: a2 :: a3 :: a4 :: a5 :: a6 :: a7 :: a8 :: a9 :: r)[9]? = some a9 := id rfl
-- W
theorem ss9 {α : Type} (a0 a1 a2 a3 a4 a5 a6 a7 a8 a9 x : α) (r : List α) : (a0 :: a1 :: a2 :: a3 :: a4 :: a5 :: a6 :: a7 :: a8 :: a9 :: r).set 9 x = a0 :: a1 :: a2 :: a3 :: a4 :: a5 :: a6 :: a7 :: a8 :: x :: r := id rfl
-- W
theorem sg10 {α : Type} (a0 a1 a2 a3 a4 a5 a6 a7 a8 a9 a10 : α) (r : List α) : (a0 :: a1 :: a2 :: a3 :: a4 :: a5 :: a6 :: a7 :: a8 :: a9 :: a10 :: r)[10]? = some a10 := id rfl
-- W
theorem ss10 {α : Type} (a0 a1 a2 a3 a4 a5 a6 a7 a8 a9 a10 x : α) (r : List α) : (a0 :: a1 :: a2 :: a3 :: a4 :: a5 :: a6 :: a7 :: a8 :: a9 :: a10 :: r).set 10 x = a0 :: a1 :: a2 :: a3 :: a4 :: a5 :: a6 :: a7 :: a8 :: a9 :: x :: r := id rfl
-- W
theorem sg11 {α : Type} (a0 a1 a2 a3 a4 a5 a6 a7 a8 a9 a10 a11 : α) (r : List α) : (a0 :: a1 :: a2 :: a3 :: a4 :: a5 :: a6 :: a7 :: a8 :: a9 :: a10 :: a11 :: r)[11]? = some a11 := id rfl
-- W
theorem ss11 {α : Type} (a0 a1 a2 a3 a4 a5 a6 a7 a8 a9 a10 a11 x : α) (r : List α) : (a0 :: a1 :: a2 :: a3 :: a4 :: a5 :: a6 :: a7 :: a8 :: a9 :: a10 :: a11 :: r).set 11 x = a0 :: a1 :: a2 :: a3 :: a4 :: a5 :: a6 :: a7 :: a8 :: a9 :: a10 :: x :: r := id rfl
-- W
theorem sg12 {α : Type} (a0 a1 a2 a3 a4 a5 a6 a7 a8 a9 a10 a11 a12 : α) (r : List α) : (a0 :: a1 :: a2 :: a3 :: a4 :: a5 :: a6 :: a7 :: a8 :: a9 :: a10 :: a11 :: a12 :: r)[12]? = some a12 := id rfl
-- W
theorem ss12 {α : Type} (a0 a1 a2 a3 a4 a5 a6 a7 a8 a9 a10 a11 a12 x : α) (r : List α) : (a0 :: a1 :: a2 :: a3 :: a4 :: a5 :: a6 :: a7 :: a8 :: a9 :: a10 :: a11 :: a12 :: r).set 12 x = a0 :: a1 :: a2 :: a3 :: a4 :: a5 :: a6 :: a7 :: a8 :: a9 :: a10 :: a11 :: x :: r := id rfl
-- W
theorem sg13 {α : Type} (a0 a1 a2 a3 a4 a5 a6 a7 a8 a9 a10 a11 a12 a13 : α) (r : List α) : (a0 :: a1 :: a2 :: a3 :: a4 :: a5 :: a6 :: a7 :: a8 :: a9 :: a10 :: a11 :: a12 :: a13 :: r)[13]? = some a13 := id rfl
-- W
theorem ss13 {α : Type} (a0 a1 a2 a3 a4 a5 a6 a7 a8 a9 a10 a11 a12 a13 x : α) (r : List α) : (a0 :: a1 :: a2 :: a3 :: a4 :: a5 :: a6 :: a7 :: a8 :: a9 :: a10 :: a11 :: a12 :: a13 :: r).set 13 x = a0 :: a1 :: a2 :: a3 :: a4 :: a5 :: a6 :: a7 :: a8 :: a9 :: a10 :: a11 :: a12 :: x :: r := id rfl
-- W
theorem sg14 {α : Type} (a0 a1 a2 a3 a4 a5 a6 a7 a8 a9 a10 a11 a12 a13 a14 : α) (r : List α) : (a0 :: a1 :: a2 :: a3 :: a4 :: a5 :: a6 :: a7 :: a8 :: a9 :: a10 :: a11 :: a12 :: a13 :: a14 :: r)[14]? = some a14 := id rfl
-- W
theorem ss14 {α : Type} (a0 a1 a2 a3 a4 a5 a6 a7 a8 a9 a10 a11 a12 a13 a14 x : α) (r : List α) : (a0 :: a1 :: a2 :: a3 :: a4 :: a5 :: a6 :: a7 :: a8 :: a9 :: a10 :: a11 :: a12 :: a13 :: a14 :: r).set 14 x = a0 :: a1 :: a2 :: a3 :: a4 :: a5 :: a6 :: a7 :: a8 :: a9 :: a10 :: a11 :: a12 :: a13 :: x :: r := id rfl
-- W
theorem sg15 {α : Type} (a0 a1 a2 a3 a4 a5 a6 a7 a8 a9 a10 a11 a12 a13 a14 a15 : α) (r : List α) : (a0 :: a1 :: a2 :: a3 :: a4 :: a5 :: a6 :: a7 :: a8 :: a9 :: a10 :: a11 :: a12 :: a13 :: a14 :: a15 :: r)[15]? = some a15 := id rfl
-- W
theorem ss15 {α : Type} (a0 a1 a2 a3 a4 a5 a6 a7 a8 a9 a10 a11 a12 a13 a14 a15 x : α) (r : List α) : (a0 :: a1 :: a2 :: a3 :: a4 :: a5 :: a6 :: a7 :: a8 :: a9 :: a10 :: a11 :: a12 :: a13 :: a14 :: a15 :: r).set 15 x = a0 :: a1 :: a2 :: a3 :: a4 :: a5 :: a6 :: a7 :: a8 :: a9 :: a10 :: a11 :: a12 :: a13 :: a14 :: x :: r := id rfl
-- W
theorem sg16 {α : Type} (a0 a1 a2 a3 a4 a5 a6 a7 a8 a9 a10 a11 a12 a13 a14 a15 a16 : α) (r : List α) : (a0 :: a1 :: a2 :: a3 :: a4 :: a5 :: a6 :: a7 :: a8 :: a9 :: a10 :: a11 :: a12 :: a13 :: a14 :: a15 :: a16 :: r)[16]? = some a16 := id rfl
-- W
theorem ss16 {α : Type} (a0 a1 a2 a3 a4 a5 a6 a7 a8 a9 a10 a11 a12 a13 a14 a15 a16 x : α) (r : List α) : (a0 :: a1 :: a2 :: a3 :: a4 :: a5 :: a6 :: a7 :: a8 :: a9 :: a10 :: a11 :: a12 :: a13 :: a14 :: a15 :: a16 :: r).set 16 x = a0 :: a1 :: a2 :: a3 :: a4 :: a5 :: a6 :: a7 :: a8 :: a9 :: a10 :: a11 :: a12 :: a13 :: a14 :: a15 :: x :: r := id rfl
-- W
theorem sg17 {α : Type} (a0 a1 a2 a3 a4 a5 a6 a7 a8 a9 a10 a11 a12 a13 a14 a15 a16 a17 : α) (r : List α) : (a0 :: a1 :: a2 :: a3 :: a4 :: a5 :: a6 :: a7 :: a8 :: a9 :: a10 :: a11 :: a12 :: a13 :: a14 :: a15 :: a16 :: a17 :: r)[17]? = some a17 := id rfl
-- W
theorem ss17 {α : Type} (a0 a1 a2 a3 a4 a5 a6 a7 a8 a9 a10 a11 a12 a13 a14 a15 a16 a17 x : α) (r : List α) : (a0 :: a1 :: a2 :: a3 :: a4 :: a5 :: a6 :: a7 :: a8 :: a9 :: a10 :: a11 :: a12 :: a13 :: a14 :: a15 :: a16 :: a17 :: r).set 17 x = a0 :: a1 :: a2 :: a3 :: a4 :: a5 :: a6 :: a7 :: a8 :: a9 :: a10 :: a11 :: a12 :: a13 :: a14 :: a15 :: a16 :: x :: r := id rfl
-- W
theorem sg18 {α : Type} (a0 a1 a2 a3 a4 a5 a6 a7 a8 a9 a10 a11 a12 a13 a14 a15 a16 a17 a18 : α) (r : List α) : (a0 :: a1 :: a2 :: a3 :: a4 :: a5 :: a6 :: a7 :: a8 :: a9 :: a10 :: a11 :: a12 :: a13 :: a14 :: a15 :: a16 :: a17 :: a18 :: r)[18]? = some a18 := id rfl
-- W
theorem ss18 {α : Type} (a0 a1 a2 a3 a4 a5 a6 a7 a8 a9 a10 a11 a12 a13 a14 a15 a16 a17 a18 x : α) (r : List α) : (a0 :: a1 :: a2 :: a3 :: a4 :: a5 :: a6 :: a7 :: a8 :: a9 :: a10 :: a11 :: a12 :: a13 :: a14 :: a15 :: a16 :: a17 :: a18 :: r).set 18 x = a0 :: a1 :: a2 :: a3 :: a4 :: a5 :: a6 :: a7 :: a8 :: a9 :: a10 :: a11 :: a12 :: a13 :: a14 :: a15 :: a16 :: a17 :: x :: r := id rfl
-- W
theorem sg19 {α : Type} (a0 a1 a2 a3 a4 a5 a6 a7 a8 a9 a10 a11 a12 a13 a14 a15 a16 a17 a18 a19 : α) (r : List α) : (a0 :: a1 :: a2 :: a3 :: a4 :: a5 :: a6 :: a7 :: a8 :: a9 :: a10 :: a11 :: a12 :: a13 :: a14 :: a15 :: a16 :: a17 :: a18 :: a19 :: r)[19]? = some a19 := id rfl
-- W
theorem ss19 {α : Type} (a0 a1 a2 a3 a4 a5 a6 a7 a8 a9 a10 a11 a12 a13 a14 a15 a16 a17 a18 a19 x : α) (r : List α) : (a0 :: a1 :: a2 :: a3 :: a4 :: a5 :: a6 :: a7 :: a8 :: a9 :: a10 :: a11 :: a12 :: a13 :: a14 :: a15 :: a16 :: a17 :: a18 :: a19 :: r).set 19 x = a0 :: a1 :: a2 :: a3 :: a4 :: a5 :: a6 :: a7 :: a8 :: a9 :: a10 :: a11 :: a12 :: a13 :: a14 :: a15 :: a16 :: a17 :: a18 :: x :: r := id rfl
-- W
theorem sg20 {α : Type} (a0 a1 a2 a3 a4 a5 a6 a7 a8 a9 a10 a11 a12 a13 a14 a15 a16 a17 a18 a19 a20 : α) (r : List α) : (a0 :: a1 :: a2 :: a3 :: a4 :: a5 :: a6 :: a7 :: a8 :: a9 :: a10 :: a11 :: a12 :: a13 :: a14 :: a15 :: a16 :: a17 :: a18 :: a19 :: a20 :: r)[20]? = some a20 := id rfl
-- W
theorem ss20 {α : Type} (a0 a1 a2 a3 a4 a5 a6 a7 a8 a9 a10 a11 a12 a13 a14 a15 a16 a17 a18 a19 a20 x : α) (r : List α) : (a0 :: a1 :: a2 :: a3 :: a4 :: a5 :: a6 :: a7 :: a8 :: a9 :: a10 :: a11 :: a12 :: a13 :: a14 :: a15 :: a16 :: a17 :: a18 :: a19 :: a20 :: r).set 20 x = a0 :: a1 :: a2 :: a3 :: a4 :: a5 :: a6 :: a7 :: a8 :: a9 :: a10 :: a11 :: a12 :: a13 :: a14 :: a15 :: a16 :: a17 :: a18 :: a19 :: x :: r := id rfl
-- W
theorem sg21 {α : Type} (a0 a1 a2 a3 a4 a5 a6 a7 a8 a9 a10 a11 a12 a13 a14 a15 a16 a17 a18 a19 a20 a21 : α) (r : List α) : (a0 :: a1 :: a2 :: a3 :: a4 :: a5 :: a6 :: a7 :: a8 :: a9 :: a10 :: a11 :: a12 :: a13 :: a14 :: a15 :: a16 :: a17 :: a18 :: a19 :: a20 :: a21 :: r)[21]? = some a21 := id rfl
-- W
theorem ss21 {α : Type} (a0 a1 a2 a3 a4 a5 a6 a7 a8 a9 a10 a11 a12 a13 a14 a15 a16 a17 a18 a19 a20 a21 x : α) (r : List α) : (a0 :: a1 :: a2 :: a3 :: a4 :: a5 :: a6 :: a7 :: a8 :: a9 :: a10 :: a11 :: a12 :: a13 :: a14 :: a15 :: a16 :: a17 :: a18 :: a19 :: a20 :: a21 :: r).set 21 x = a0 :: a1 :: a2 :: a3 :: a4 :: a5 :: a6 :: a7 :: a8 :: a9 :: a10 :: a11 :: a12 :: a13 :: a14 :: a15 :: a16 :: a17 :: a18 :: a19 :: a20 :: x :: r := id rfl
-- W
theorem sg22 {α : Type} (a0 a1 a2 a3 a4 a5 a6 a7 a8 a9 a10 a11 a12 a13 a14 a15 a16 a17 a18 a19 a20 a21 a22 : α) (r : List α) : (a0 :: a1 :: a2 :: a3 :: a4 :: a5 :: a6 :: a7 :: a8 :: a9 :: a10 :: a11 :: a12 :: a13 :: a14 :: a15 :: a16 :: a17 :: a18 :: a19 :: a20 :: a21 :: a22 :: r)[22]? = some a22 := id rfl
-- W
theorem ss22 {α : Type} (a0 a1 a2 a3 a4 a5 a6 a7 a8 a9 a10 a11 a12 a13 a14 a15 a16 a17 a18 a19 a20 a21 a22 x : α) (r : List α) : (a0 :: a1 :: a2 :: a3 :: a4 :: a5 :: a6 :: a7 :: a8 :: a9 :: a10 :: a11 :: a12 :: a13 :: a14 :: a15 :: a16 :: a17 :: a18 :: a19 :: a20 :: a21 :: a22 :: r).set 22 x = a0 :: a1 :: a2 :: a3 :: a4 :: a5 :: a6 :: a7 :: a8 :: a9 :: a10 :: a11 :: a12 :: a13 :: a14 :: a15 :: a16 :: a17 :: a18 :: a19 :: a20 :: a21 :: x :: r := id rfl
-- W
theorem sg23 {α : Type} (a0 a1 a2 a3 a4 a5 a6 a7 a8 a9 a10 a11 a12 a13 a14 a15 a16 a17 a18 a19 a20 a21 a22 a23 : α) (r : List α) : (a0 :: a1 :: a2 :: a3 :: a4 :: a5 :: a6 :: a7 :: a8 :: a9 :: a10 :: a11 :: a12 :: a13 :: a14 :: a15 :: a16 :: a17 :: a18 :: a19 :: a20 :: a21 :: a22 :: a23 :: r)[23]? = some a23 := id rfl
-- W
theorem ss23 {α : Type} (a0 a1 a2 a3 a4 a5 a6 a7 a8 a9 a10 a11 a12 a13 a14 a15 a16 a17 a18 a19 a20 a21 a22 a23 x : α) (r : List α) : (a0 :: a1 :: a2 :: a3 :: a4 :: a5 :: a6 :: a7 :: a8 :: a9 :: a10 :: a11 :: a12 :: a13 :: a14 :: a15 :: a16 :: a17 :: a18 :: a19 :: a20 :: a21 :: a22 :: a23 :: r).set 23 x = a0 :: a1 :: a2 :: a3 :: a4 :: a5 :: a6 :: a7 :: a8 :: a9 :: a10 :: a11 :: a12 :: a13 :: a14 :: a15 :: a16 :: a17 :: a18 :: a19 :: a20 :: a21 :: a22 :: x :: r := id rfl
/-! ### expressions -/
theorem wR_match2 {α β γ : Type} (m : R (α × β)) (f : α → β → R γ) (Q : γ → Prop) : wR (m >>= fun p => match p with | (a, b) => f a b) Q = wR m fun p => wR (f p.1 p.2) Q := by
  rw [wR_bind]
-- W
theorem wE_C (d : D) (st : DS) (Q : RV → DS → Prop) : wE (eC d) st Q = Q (.val d) st := by with_unfolding_all exact id rfl
-- W
theorem wE_var (i : Nat) (st : DS) (Q : RV → DS → Prop) : wE (eVar i) st Q = oVar st[i]? i st Q := by
  unfold wE eVar oVar
  generalize st[i]? = a
  rcases a with _ | _ | (d | ⟨x, d⟩)
  · rfl
  · rfl
  · rfl
  · cases x <;> rfl
-- W
theorem wE_bor (i : Nat) (st : DS) (Q : RV → DS → Prop) : wE (eBor i) st Q = oBor st[i]? i st Q := by
  unfold wE eBor oBor
  generalize st[i]? = a
  rcases a with _ | _ | (d | ⟨x, d⟩)
  · rfl
  · rfl
  · rfl
  · cases x <;> rfl
-- W
theorem wE_move (i : Nat) (st : DS) (Q : RV → DS → Prop) : wE (eMove i) st Q = oMove st[i]? i st Q := by
  unfold wE eMove oMove
  generalize st[i]? = a
  rcases a with _ | _ | (d | ⟨x, d⟩)
  · rfl
  · rfl
  · rfl
  · cases x <;> rfl
-- W
theorem wE_op1 (g : D → Option RV) (a : DE) (st : DS) (Q : RV → DS → Prop) : wE (eOp1 g a) st Q = wE a st fun ra s1 => oS (g ra.d) fun r => Q r s1 := by
  unfold wE eOp1
  simp only [wR_bind, wR_of', wR_pure]
-- W
theorem wE_op2 (g : D → D → Option RV) (a b : DE) (st : DS) (Q : RV → DS → Prop) : wE (eOp2 g a b) st Q = wE a st fun ra s1 => wE b s1 fun rb s2 => ra.live s2 ∧ oS (g ra.d rb.d) fun r => Q r s2 := by
  unfold wE eOp2
  simp only [wR_bind, wR_of', wR_pure, wR_guard]
-- W
theorem wA_nil (st : DS) (Q : List D → DS → Prop) : wA [] st Q = Q [] st := by with_unfolding_all exact id rfl
-- W
theorem wA_cons (e : DE) (es : List DE) (st : DS) (Q : List D → DS → Prop) : wA (e :: es) st Q = wE e st fun r s1 => oV r fun d => wA es s1 fun ds s2 => Q (d :: ds) s2 := by
  unfold wA wE
  simp only [eArgs, wR_bind, wR_asVal, wR_pure]
-- W
theorem wE_tup (es : List DE) (st : DS) (Q : RV → DS → Prop) : wE (eTup es) st Q = wA es st fun ds s => Q (.val (.tuple ds)) s := by
  unfold wE wA eTup
  simp only [wR_bind, wR_pure]
-- W
theorem wE_lst (es : List DE) (st : DS) (Q : RV → DS → Prop) : wE (eLst es) st Q = wA es st fun ds s => Q (.fresh (.list ds)) s := by
  unfold wE wA eLst
  simp only [wR_bind, wR_pure]
-- W
theorem wT_of (e : DE) (st : DS) (Q : Bool → DS → Prop) : wT (tOf e) st Q = wE e st fun r s => oB r.d fun b => Q b s := by
  unfold wE wT tOf
  simp only [wR_bind]
  congr 1
  funext p
  cases p.1.d <;> rfl
-- W
theorem wT_not (t : DT) (st : DS) (Q : Bool → DS → Prop) : wT (tNot t) st Q = wT t st fun b s => Q (!b) s := by
  unfold wT tNot
  simp only [wR_bind, wR_pure]
/-- two ways -/
def wB (b : Bool) (P Q : Prop) : Prop := (b = true → P) ∧ (b = false → Q)
-- W
theorem wB_true (P Q : Prop) : wB true P Q = P := by simp [wB]
-- W
theorem wB_false (P Q : Prop) : wB false P Q = Q := by simp [wB]
-- W
theorem wB_not (b : Bool) (P Q : Prop) : wB (!b) P Q = wB b Q P := by cases b <;> simp [wB]
theorem wB_eq {b : Bool} {c : Bool} (h : b = c) {P Q : Prop} : wB b P Q = wB c P Q := by rw [h]
theorem wB_dec {p : Prop} [Decidable p] {P Q : Prop} : wB (decide p) P Q = ((p → P) ∧ (¬ p → Q)) := by simp [wB]
theorem wB_pos {p : Prop} [Decidable p] {P Q : Prop} (h : p) : wB (decide p) P Q = P := by simp [wB, h]
theorem wB_neg {p : Prop} [Decidable p] {P Q : Prop} (h : ¬ p) : wB (decide p) P Q = Q := by simp [wB, h]
theorem wR_if {α : Type} (b : Bool) (m n : R α) (Q : α → Prop) : wR (if b = true then m else n) Q = wB b (wR m Q) (wR n Q) := by cases b <;> simp [wB]
-- W
theorem wT_and (t u : DT) (st : DS) (Q : Bool → DS → Prop) : wT (tAnd t u) st Q = wT t st fun b s => wB b (wT u s Q) (Q false s) := by
  unfold wT tAnd
  simp only [wR_bind, wR_pure, wR_if]
-- W
theorem wT_or (t u : DT) (st : DS) (Q : Bool → DS → Prop) : wT (tOr t u) st Q = wT t st fun b s => wB b (Q true s) (wT u s Q) := by
  unfold wT tOr
  simp only [wR_bind, wR_pure, wR_if]
-- W
theorem wT_yes (st : DS) (Q : Bool → DS → Prop) : wT tYes st Q = Q true st := by with_unfolding_all exact id rfl
-- W
theorem wE_not (e : DE) (st : DS) (Q : RV → DS → Prop) : wE (eNot e) st Q = wT (tOf e) st fun b s => Q (.val (.bool !b)) s := by
  unfold wE wT eNot
  simp only [wR_bind, wR_pure]
-- W
theorem wE_and (e f : DE) (st : DS) (Q : RV → DS → Prop) : wE (eAnd e f) st Q = wT (tOf e) st fun b s => wB b (wE f s Q) (Q (.val (.bool false)) s) := by
  unfold wE wT eAnd
  simp only [wR_bind, wR_pure, wR_if]
-- W
theorem wE_or (e f : DE) (st : DS) (Q : RV → DS → Prop) : wE (eOr e f) st Q = wT (tOf e) st fun b s => wB b (Q (.val (.bool true)) s) (wE f s Q) := by
  unfold wE wT eOr
  simp only [wR_bind, wR_pure, wR_if]
-- W
theorem wE_if (t : DT) (a b : DE) (st : DS) (Q : RV → DS → Prop) : wE (eIf t a b) st Q = wT t st fun c s => wB c (wE a s Q) (wE b s Q) := by
  unfold wE wT eIf
  simp only [wR_bind, wR_if]
/-- the first of a chain -/
def oCh (o : Option RV) (P Q : Prop) : Prop := match o with
  | some (.val (.bool true)) => P
  | some (.val (.bool false)) => Q
  | _ => False
-- W
theorem oCh_b (b : Bool) (P Q : Prop) : oCh (some (.val (.bool b))) P Q = wB b P Q := by cases b <;> simp [wB, oCh]
-- W
theorem wE_chain (g g' : D → D → Option RV) (a b c : DE) (st : DS) (Q : RV → DS → Prop) : wE (eChain g g' a b c) st Q = wE a st fun ra s1 => wE b s1 fun rb s2 => ra.live s2 ∧ oCh (g ra.d rb.d) (wE c s2 fun rc s3 => rb.live s3 ∧ oS (g' rb.d rc.d) fun r => Q r s3) (Q (.val (.bool false)) s2) := by
  unfold wE eChain
  simp only [wR_bind, wR_guard]
  congr 1
  funext p
  congr 1
  funext q
  congr 1
  unfold oCh
  generalize g p.1.d q.1.d = o
  have hh : wR (c q.2 >>= fun x => guardP (q.1.live x.2) (R.of (g' q.1.d x.1.d) >>= fun r => pure (r, x.2))) (fun p => Q p.1 p.2) = wR (c q.2) fun p_1 => q.1.live p_1.2 ∧ oS (g' q.1.d p_1.1.d) fun r => Q r p_1.2 := by
    simp only [wR_bind, wR_guard, wR_of', wR_pure]
  rcases o with _ | r
  · rfl
  · cases r with
    | val d =>
      cases d with
      | bool b =>
        cases b
        · rfl
        · exact hh
      | _ => rfl
    | _ => rfl
-- W
theorem wP_some (e : DE) (st : DS) (Q : Option Int → DS → Prop) : wP (pPart e) st Q = wE e st fun r s => oI r.d fun i => Q (some i) s := by
  unfold wE wP pPart
  simp only [wR_bind]
  congr 1
  funext p
  cases p.1.d <;> rfl
-- W
theorem wP_none (st : DS) (Q : Option Int → DS → Prop) : wP pNone st Q = Q none st := by with_unfolding_all exact id rfl
-- W
theorem wE_sl (a : DE) (lo hi : DS → R (Option Int × DS)) (st : DS) (Q : RV → DS → Prop) : wE (eSl a lo hi) st Q = wE a st fun ra s1 => wP lo s1 fun l s2 => wP hi s2 fun h s3 => ra.live s3 ∧ oS (gSl ra.d l h) fun r => Q r s3 := by
  unfold wE wP eSl
  simp only [wR_bind, wR_of', wR_pure, wR_guard]
theorem wR_dict (d : D) (P : Prop) : ((isDictB d = true) ∧ P) = oDc d (fun _ => P) := by cases d <;> simp [oDc]
-- W
theorem wE_get (a b c : DE) (st : DS) (Q : RV → DS → Prop) : wE (eGet a b c) st Q = wE a st fun ra s1 => oDc ra.d fun _ => wE b s1 fun rb s2 => wE c s2 fun rc s3 => ra.live s3 ∧ rb.live s3 ∧ oV rc fun x => oS (pairsFor ra.d rb.d) fun kvs => Q (.val ((findD kvs rb.d).getD x)) s3 := by
  unfold wE eGet
  simp only [wR_bind, wR_of', wR_pure, wR_guard, wR_dict, wR_asVal, and_assoc]
-- W
theorem wE_call (f : DF) (dfl : List D) (args : List DE) (st : DS) (Q : RV → DS → Prop) : wE (eCall f dfl args) st Q = wA args st fun ds s => wF f none (ds ++ dfl) fun r _ => Q r s := by
  unfold wE wA wF eCall
  simp only [wR_bind, wR_pure]
-- W
theorem wE_callS (f : DF) (dfl : List D) (i : Nat) (args : List DE) (st : DS) (Q : RV → DS → Prop) : wE (eCallS f dfl i args) st Q = oOwn st[i]? fun _ _ => wA args st fun ds s1 => oOwn s1[i]? fun x c => wF f (some c) (ds ++ dfl) fun r o => oS o fun c' => Q r (s1.set i (some (.own x c'))) := by
  unfold wE wA wF eCallS oOwn
  generalize st[i]? = a
  rcases a with _ | _ | (d | ⟨x, d⟩)
  · rfl
  · rfl
  · rfl
  · simp only [wR_bind]
    congr 1
    funext p
    generalize p.2[i]? = b
    rcases b with _ | _ | (e | ⟨y, e⟩)
    · rfl
    · rfl
    · rfl
    · show wR (match f (some e) (p.1 ++ dfl) with | .ok (r, some c') => pure (r, p.2.set i (some (.own y c'))) | _ => .bad) _ = wR (f (some e) (p.1 ++ dfl)) _
      generalize f (some e) (p.1 ++ dfl) = z
      rcases z with ⟨r, _ | c'⟩ | c | _ <;> rfl
/-- arguments that are looked at -/
@[irreducible] def wAB (es : List DE) (st : DS) (Q : List RV → DS → Prop) : Prop := wR (eArgsB es st) fun p => Q p.1 p.2
-- W
theorem wAB_nil (st : DS) (Q : List RV → DS → Prop) : wAB [] st Q = Q [] st := by with_unfolding_all exact id rfl
-- W
theorem wAB_cons (e : DE) (es : List DE) (st : DS) (Q : List RV → DS → Prop) : wAB (e :: es) st Q = wE e st fun r s1 => wAB es s1 fun rs s2 => r.live s2 ∧ Q (r :: rs) s2 := by
  unfold wAB wE
  simp only [eArgsB, wR_bind, wR_guard, wR_pure]
/-- an answer that is no object -/
def oSc (r : RV) (Q : RV → Prop) : Prop := scalarB r.d = true ∧ Q (.val r.d)
-- W
theorem oSc_bool (b : Bool) (Q : RV → Prop) : oSc (.val (.bool b)) Q = Q (.val (.bool b)) := by
  unfold oSc
  exact propext ⟨fun h => h.2, fun h => ⟨rfl, h⟩⟩
-- W
theorem oSc_int (b : Int) (Q : RV → Prop) : oSc (.val (.int b)) Q = Q (.val (.int b)) := by
  unfold oSc
  exact propext ⟨fun h => h.2, fun h => ⟨rfl, h⟩⟩
-- W
theorem rl_nil : ([] : List RV).map RV.d = [] := id rfl
-- W
theorem rl_cons (r : RV) (rs : List RV) : (r :: rs).map RV.d = r.d :: rs.map RV.d := id rfl
-- W
theorem wE_callB (f : DF) (dfl : List D) (args : List DE) (st : DS) (Q : RV → DS → Prop) : wE (eCallB f dfl args) st Q = wAB args st fun rs s => wF f none (rs.map RV.d ++ dfl) fun r _ => oSc r fun r => Q r s := by
  unfold wE wAB wF eCallB
  simp only [wR_bind]
  congr 1
  funext p
  congr 1
  funext q
  unfold oSc
  by_cases h : scalarB q.1.d = true
  · rw [if_pos h]; simp only [h, true_and]; rfl
  · rw [if_neg h]; exact propext ⟨fun z => z.elim, fun z => absurd z.1 h⟩
-- W
theorem la_nil (xs : List D) : xs ++ ([] : List D) = xs := List.append_nil xs
-- W
theorem la_cons (x : D) (xs ys : List D) : (x :: xs) ++ ys = x :: (xs ++ ys) := id rfl
-- W
theorem la_nil2 (xs : List D) : ([] : List D) ++ xs = xs := id rfl
/-! ### statements -/
-- W
theorem wS_next (st : DS) (N : DS → Prop) (E : Fl → DS → Prop) : wS sNext st N E = N st := by with_unfolding_all exact id rfl
-- W
theorem wS_seq (a b : DM) (st : DS) (N : DS → Prop) (E : Fl → DS → Prop) : wS (sSeq a b) st N E = wS a st (fun s => wS b s N E) E := by
  unfold wS sSeq
  simp only [wR_bind]
  congr 1
  funext p
  obtain ⟨f, s⟩ := p
  cases f <;> rfl
-- W
theorem wS_expr (e : DE) (st : DS) (N : DS → Prop) (E : Fl → DS → Prop) : wS (sExpr e) st N E = wE e st fun _ s => N s := by
  unfold wS wE sExpr
  simp only [wR_bind, wR_pure, endS]
-- W
theorem wS_ret (e : DE) (st : DS) (N : DS → Prop) (E : Fl → DS → Prop) : wS (sRet e) st N E = wE e st fun r s => E (.rt r) s := by
  unfold wS wE sRet
  simp only [wR_bind, wR_pure, endS]
-- W
theorem wS_retN (st : DS) (N : DS → Prop) (E : Fl → DS → Prop) : wS sRetN st N E = E (.rt (.val .none)) st := by with_unfolding_all exact id rfl
-- W
theorem wS_brk (st : DS) (N : DS → Prop) (E : Fl → DS → Prop) : wS sBreak st N E = E .bk st := by with_unfolding_all exact id rfl
-- W
theorem wS_cnt (st : DS) (N : DS → Prop) (E : Fl → DS → Prop) : wS sCont st N E = E .ct st := by with_unfolding_all exact id rfl
-- W
theorem wS_if (t : DT) (a b : DM) (st : DS) (N : DS → Prop) (E : Fl → DS → Prop) : wS (sIf t a b) st N E = wT t st fun c s => wB c (wS a s N E) (wS b s N E) := by
  unfold wS wT sIf
  simp only [wR_bind, wR_if]
-- W
theorem wS_set (g : DG) (e : DE) (st : DS) (N : DS → Prop) (E : Fl → DS → Prop) : wS (sSet g e) st N E = wE e st fun r s => wG g r s N := by
  unfold wS wE wG sSet
  simp only [wR_bind, wR_pure, endS]
-- W
theorem wG_name (i : Nat) (r : RV) (st : DS) (Q : DS → Prop) : wG (bName i) r st Q = oV r fun d => Q (st.set i (some (.val d))) := by
  unfold wG bName
  simp only [wR_bind, wR_pure, wR_asVal]
-- W
theorem wG_own_v (i : Nat) (d : D) (st : DS) (Q : DS → Prop) : wG (bOwn i) (.val d) st Q = Q (st.set i (some (.val d))) := by with_unfolding_all exact id rfl
-- W
theorem wG_own_f (i : Nat) (d : D) (st : DS) (Q : DS → Prop) : wG (bOwn i) (.fresh d) st Q = Q (st.set i (some (.own false d))) := by with_unfolding_all exact id rfl
-- W
theorem wG_tup (gs : List DG) (r : RV) (st : DS) (Q : DS → Prop) : wG (bTup gs) r st Q = oV r fun d => oTp d fun ds => wGs gs ds st Q := by
  unfold wG bTup wGs
  simp only [wR_bind, wR_asVal]
  congr 1
  funext d
  cases d <;> rfl
-- W
theorem wGs_nil (st : DS) (Q : DS → Prop) : wGs [] [] st Q = Q st := by with_unfolding_all exact id rfl
-- W
theorem wGs_cons (g : DG) (gs : List DG) (d : D) (ds : List D) (st : DS) (Q : DS → Prop) : wGs (g :: gs) (d :: ds) st Q = wG g (.val d) st fun s => wGs gs ds s Q := by
  unfold wG wGs
  show wR (g (.val d) st >>= fun s1 => bEach gs ds s1) Q = _
  rw [wR_bind]
-- W
theorem wAR_nil (st : DS) (Q : List RV → DS → Prop) : wAR [] st Q = Q [] st := by with_unfolding_all exact id rfl
-- W
theorem wAR_cons (e : DE) (es : List DE) (st : DS) (Q : List RV → DS → Prop) : wAR (e :: es) st Q = wE e st fun r s1 => oN r fun r => wAR es s1 fun rs s2 => Q (r :: rs) s2 := by
  unfold wAR wE
  simp only [eArgsR, wR_bind]
  congr 1
  funext p
  obtain ⟨r, s⟩ := p
  cases r with
  | val d => exact wR_bind _ _ _
  | fresh d => exact wR_bind _ _ _
  | bor i d => rfl
@[irreducible] def wSt (gs : List (Bool × Nat)) (rs : List RV) (st : DS) (Q : DS → Prop) : Prop := wR (storeR gs rs st) Q
-- W
theorem wS_par (gs : List (Bool × Nat)) (es : List DE) (st : DS) (N : DS → Prop) (E : Fl → DS → Prop) : wS (sPar gs es) st N E = wAR es st fun rs s => wSt gs rs s N := by
  unfold wS wAR wSt sPar
  simp only [wR_bind, wR_pure, endS]
-- W
theorem wSt_nil (st : DS) (Q : DS → Prop) : wSt [] [] st Q = Q st := by with_unfolding_all exact id rfl
-- W
theorem wSt_cons_t (i : Nat) (gs : List (Bool × Nat)) (r : RV) (rs : List RV) (st : DS) (Q : DS → Prop) : wSt ((true, i) :: gs) (r :: rs) st Q = wG (bOwn i) r st fun s => wSt gs rs s Q := by
  unfold wSt wG
  simp only [storeR, wR_bind, bKind, if_true]
-- W
theorem wSt_cons_f (i : Nat) (gs : List (Bool × Nat)) (r : RV) (rs : List RV) (st : DS) (Q : DS → Prop) : wSt ((false, i) :: gs) (r :: rs) st Q = wG (bName i) r st fun s => wSt gs rs s Q := by
  unfold wSt wG
  simp only [storeR, wR_bind, bKind, Bool.false_eq_true, if_false]
def oVl (a : Option (Option A)) (Q : Int → Prop) : Prop := match a with
  | some (some (.val (.int a))) => Q a
  | _ => False
-- W
theorem oVl_int (i : Int) (Q : Int → Prop) : oVl (some (some (.val (.int i)))) Q = Q i := id rfl
-- W
theorem wS_augI (f : Int → Int → Option Int) (i : Nat) (e : DE) (st : DS) (N : DS → Prop) (E : Fl → DS → Prop) : wS (sAugI f i e) st N E = oVl st[i]? fun a => wE e st fun r s1 => oI r.d fun b => oS (f a b) fun c => N (s1.set i (some (.val (.int c)))) := by
  unfold wS wE sAugI oVl
  generalize st[i]? = a
  have hh : ∀ n : Int, wR (e st >>= fun p => match p.1.d with | .int b => (R.of (f n b) >>= fun c => pure (Fl.nx, p.2.set i (some (.val (.int c))))) | _ => .bad) (fun p => endS N E p.1 p.2) = wR (e st) fun p => oI p.1.d fun b => oS (f n b) fun c => N (p.2.set i (some (.val (.int c)))) := by
    intro n
    rw [wR_bind]
    congr 1
    funext p
    cases p.1.d <;> (try rfl)
    unfold oI
    simp only [wR_bind, wR_of', wR_pure, endS]
  rcases a with _ | _ | (d | ⟨x, d⟩)
  · rfl
  · rfl
  · cases d with
    | int n => exact hh n
    | _ => rfl
  · rfl
-- W
theorem fAdd_eq (a b : Int) : fAdd a b = some (a + b) := id rfl
-- W
theorem fSub_eq (a b : Int) : fSub a b = some (a - b) := id rfl
theorem fMul_eq {a b : Int} (h : smallI a = true ∨ smallI b = true) : fMul a b = some (a * b) := by
  unfold fMul
  rw [if_pos (by simpa using h)]
/-- a list that is made longer by a new one -/
def oExt (r : RV) (a : Option (Option A)) (Q : Bool → List D → List D → Prop) : Prop := match r, a with
  | .fresh (.list ys), some (some (.own x (.list xs))) => Q x xs ys
  | _, _ => False
-- W
theorem oExt_eq (ys xs : List D) (x : Bool) (Q : Bool → List D → List D → Prop) : oExt (.fresh (.list ys)) (some (some (.own x (.list xs)))) Q = Q x xs ys := id rfl
/-- room for more -/
def wLim (n : Nat) (P : Prop) : Prop := n ≤ lim ∧ P
theorem wLim_of {n : Nat} {P : Prop} (h : n ≤ 16777216) : wLim n P = P := by
  have : n ≤ lim := h
  simp [wLim, this]
-- W
theorem wS_ext (i : Nat) (e : DE) (st : DS) (N : DS → Prop) (E : Fl → DS → Prop) : wS (sExt i e) st N E = oOwn st[i]? fun _ _ => wE e st fun r s1 => oExt r s1[i]? fun x xs ys => wLim (xs.length + ys.length) (N (s1.set i (some (.own x (.list (xs ++ ys)))))) := by
  unfold wS wE sExt oOwn
  generalize st[i]? = a
  rcases a with _ | _ | (d | ⟨x, d⟩)
  · rfl
  · rfl
  · rfl
  · simp only [wR_bind]
    congr 1
    funext p
    obtain ⟨r, s⟩ := p
    show wR (match r, s[i]? with | .fresh (.list ys), some (some (.own x (.list xs))) => if xs.length + ys.length ≤ lim then pure (Fl.nx, s.set i (some (.own x (.list (xs ++ ys))))) else .bad | _, _ => .bad) _ = oExt r s[i]? _
    generalize s[i]? = b
    cases r with
    | fresh d =>
      cases d with
      | list ys =>
        rcases b with _ | _ | (d | ⟨y, d⟩)
        · rfl
        · rfl
        · rfl
        · cases d with
          | list xs =>
            show wR (if xs.length + ys.length ≤ lim then pure (Fl.nx, s.set i (some (.own y (.list (xs ++ ys))))) else .bad) _ = wLim _ _
            unfold wLim
            by_cases h : xs.length + ys.length ≤ lim
            · rw [if_pos h]
              simp only [wR_pure, endS, h, true_and]
            · rw [if_neg h]
              simp only [h, false_and]
              rfl
          | _ => rfl
      | _ => rfl
    | _ => rfl
-- W
theorem wS_put (i : Nat) (k e : DE) (st : DS) (N : DS → Prop) (E : Fl → DS → Prop) : wS (sPut i k e) st N E = wE e st fun r s1 => oV r fun v => oOwn s1[i]? fun _ _ => wE k s1 fun rk s2 => oOwn s2[i]? fun x c => oS (putC c rk.d v) fun c' => N (s2.set i (some (.own x c'))) := by
  unfold wS wE sPut
  simp only [wR_bind, wR_asVal]
  congr 1
  funext p
  congr 1
  funext v
  unfold oOwn
  generalize p.2[i]? = a
  rcases a with _ | _ | (d | ⟨x, d⟩)
  · rfl
  · rfl
  · rfl
  · simp only [wR_bind]
    congr 1
    funext q
    generalize q.2[i]? = b
    rcases b with _ | _ | (e | ⟨y, e⟩)
    · rfl
    · rfl
    · rfl
    · show wR (R.of (putC e q.1.d v) >>= fun c' => pure (Fl.nx, q.2.set i (some (.own y c')))) _ = oS (putC e q.1.d v) _
      simp only [wR_bind, wR_of', wR_pure, endS]
def oOwnL (a : Option (Option A)) (Q : Bool → List D → Prop) : Prop := match a with
  | some (some (.own x (.list xs))) => Q x xs
  | _ => False
-- W
theorem oOwnL_own (x : Bool) (xs : List D) (Q : Bool → List D → Prop) : oOwnL (some (some (.own x (.list xs)))) Q = Q x xs := id rfl
-- W
theorem wS_append (i : Nat) (e : DE) (st : DS) (N : DS → Prop) (E : Fl → DS → Prop) : wS (sAppend i e) st N E = oOwnL st[i]? fun _ _ => wE e st fun r s1 => oV r fun v => oOwnL s1[i]? fun x xs => wLim (xs.length + 1) (N (s1.set i (some (.own x (.list (xs ++ [v])))))) := by
  unfold wS wE sAppend oOwnL
  generalize st[i]? = a
  rcases a with _ | _ | (d | ⟨x, d⟩)
  · rfl
  · rfl
  · rfl
  · cases d with
    | list zs =>
      simp only [wR_bind, wR_asVal]
      congr 1
      funext p
      congr 1
      funext v
      generalize p.2[i]? = b
      rcases b with _ | _ | (e | ⟨y, e⟩)
      · rfl
      · rfl
      · rfl
      · cases e with
        | list xs =>
          show wR (if xs.length < lim then pure (Fl.nx, p.2.set i (some (.own y (.list (xs ++ [v]))))) else .bad) _ = wLim (xs.length + 1) _
          unfold wLim
          by_cases h : xs.length < lim
          · have h' : xs.length + 1 ≤ lim := h
            rw [if_pos h]
            simp only [wR_pure, endS, h', true_and]
          · have h' : ¬ xs.length + 1 ≤ lim := h
            rw [if_neg h]
            simp only [h', false_and]
            rfl
        | _ => rfl
    | _ => rfl
-- W
theorem wE_dictK (st : DS) (Q : RV → DS → Prop) : wE eDictK st Q = Q (.fresh (.dict [])) st := by with_unfolding_all exact id rfl
-- W
theorem wE_dictT (st : DS) (Q : RV → DS → Prop) : wE eDictT st Q = Q (.fresh (dT [])) st := by with_unfolding_all exact id rfl
def oKi (r : RV) (Q : Int → Prop) : Prop := match r with
  | .val (.int i) => Q i
  | _ => False
-- W
theorem oKi_int (i : Int) (Q : Int → Prop) : oKi (.val (.int i)) Q = Q i := id rfl
-- W
theorem wE_dict1 (k v : DE) (st : DS) (Q : RV → DS → Prop) : wE (eDict1 k v) st Q = wE k st fun rk s1 => wE v s1 fun rv s2 => oV rv fun x => oKi rk fun i => Q (.fresh (.dict [(.int i, x)])) s2 := by
  unfold wE eDict1
  simp only [wR_bind, wR_asVal]
  congr 1
  funext p
  congr 1
  funext q
  congr 1
  funext x
  unfold oKi
  generalize p.1 = a
  cases a with
  | val d => cases d <;> rfl
  | _ => rfl
/-! ### what is walked -/
-- W
theorem wI_seq (m : DE) (st : DS) (Q : List D → DS → Prop) : wI (iSeq m) st Q = wE m st fun r s => oV r fun d => oSq d fun ds => Q ds s := by
  unfold wI wE iSeq
  simp only [wR_bind, wR_asVal]
  congr 1
  funext p
  congr 1
  funext d
  cases d <;> rfl
def wRg (i j : Int) (Q : List D → Prop) : Prop := (rgOk i = true ∧ rgOk j = true ∧ j - i ≤ 16777216) ∧ Q (rangeD i j)
-- W
theorem wI_rng1 (m : DE) (st : DS) (Q : List D → DS → Prop) : wI (iRng1 m) st Q = wE m st fun r s => oI r.d fun i => wRg 0 i fun ds => Q ds s := by
  unfold wI wE iRng1
  simp only [wR_bind]
  congr 1
  funext p
  unfold oI
  cases p.1.d <;> (try rfl)
  · rename_i i
    show wR (if (rgOk i && decide (i ≤ 16777216)) = true then pure (rangeD 0 i, p.2) else R.bad) _ = wRg 0 i _
    unfold wRg
    have h0 : rgOk 0 = true := by decide
    by_cases h : (rgOk i && decide (i ≤ 16777216)) = true
    · rw [if_pos h]
      rw [Bool.and_eq_true, decide_eq_true_eq] at h
      have h2 : i - 0 ≤ 16777216 := by omega
      simp only [wR_pure, h0, h.1, h2, true_and]
    · rw [if_neg h]
      rw [Bool.and_eq_true, decide_eq_true_eq] at h
      apply propext
      refine ⟨fun q => q.elim, fun q => absurd ⟨q.1.2.1, ?_⟩ h⟩
      have := q.1.2.2
      omega
-- W
theorem wI_rng2 (m n : DE) (st : DS) (Q : List D → DS → Prop) : wI (iRng2 m n) st Q = wE m st fun r s => wE n s fun q s2 => oI r.d fun i => oI q.d fun j => wRg i j fun ds => Q ds s2 := by
  unfold wI wE iRng2
  simp only [wR_bind]
  congr 1
  funext p
  congr 1
  funext q
  cases p.1.d <;> (try rfl)
  cases q.1.d <;> (try rfl)
  rename_i i j
  show wR (if (rgOk i && rgOk j && decide (j - i ≤ 16777216)) = true then pure (rangeD i j, q.2) else R.bad) (fun p => Q p.1 p.2) = wRg i j fun ds => Q ds q.2
  unfold wRg
  by_cases h : (rgOk i && rgOk j && decide (j - i ≤ 16777216)) = true
  · rw [if_pos h]
    rw [Bool.and_eq_true, Bool.and_eq_true, decide_eq_true_eq] at h
    simp only [wR_pure, h.1.1, h.1.2, h.2, true_and]
  · rw [if_neg h]
    rw [Bool.and_eq_true, Bool.and_eq_true, decide_eq_true_eq] at h
    apply propext
    exact ⟨fun q => q.elim, fun q => absurd ⟨⟨q.1.1, q.1.2.1⟩, q.1.2.2⟩ h⟩
theorem rgOk_of {i : Int} (h : -1000000000 ≤ i) (h' : i ≤ 1000000000) : rgOk i = true := by
  unfold rgOk
  simp only [Bool.and_eq_true, decide_eq_true_eq]
  omega
theorem wRg_of {i j : Int} {Q : List D → Prop} (h : -1000000 ≤ i) (h1 : i ≤ 1000000) (h2 : -1000000 ≤ j) (h3 : j ≤ 1000000) : wRg i j Q = Q (rangeD i j) := by
  unfold wRg
  have a := rgOk_of (i := i) (by omega) (by omega)
  have b := rgOk_of (i := j) (by omega) (by omega)
  have c : j - i ≤ 16777216 := by omega
  simp only [a, b, c, true_and]
-- W
theorem wE_listRg1 (m : DE) (st : DS) (Q : RV → DS → Prop) : wE (eListRg1 m) st Q = wE m st fun r s => oS (intOf gListRg 0 r.d) fun r => Q r s := wE_op1 _ _ _ _
-- W
theorem wE_tupleRg1 (m : DE) (st : DS) (Q : RV → DS → Prop) : wE (eTupleRg1 m) st Q = wE m st fun r s => oS (intOf gTupleRg 0 r.d) fun r => Q r s := wE_op1 _ _ _ _
-- W
theorem wE_listRg2 (m n : DE) (st : DS) (Q : RV → DS → Prop) : wE (eListRg2 m n) st Q = wE m st fun ra s1 => wE n s1 fun rb s2 => ra.live s2 ∧ oS (intOf2 gListRg ra.d rb.d) fun r => Q r s2 := wE_op2 _ _ _ _ _
-- W
theorem wE_tupleRg2 (m n : DE) (st : DS) (Q : RV → DS → Prop) : wE (eTupleRg2 m n) st Q = wE m st fun ra s1 => wE n s1 fun rb s2 => ra.live s2 ∧ oS (intOf2 gTupleRg ra.d rb.d) fun r => Q r s2 := wE_op2 _ _ _ _ _
def oFd (r : RV) (Q : List (D × D) → Prop) : Prop := match r with
  | .fresh (.dict kvs) => Q kvs
  | _ => False
-- W
theorem oFd_eq (kvs : List (D × D)) (Q : List (D × D) → Prop) : oFd (.fresh (.dict kvs)) Q = Q kvs := id rfl
-- W
theorem wI_keysF (m : DE) (st : DS) (Q : List D → DS → Prop) : wI (iKeysF m) st Q = wE m st fun r s => oFd r fun kvs => Q (keysD kvs) s := by
  unfold wI wE iKeysF
  simp only [wR_bind]
  congr 1
  funext p
  unfold oFd
  generalize p.1 = a
  cases a with
  | fresh d => cases d <;> rfl
  | _ => rfl
def oL1 (xs : List D) (Q : List D → Prop) : Prop := match xs with
  | [.list ds] => Q ds
  | [.tuple ds] => Q ds
  | _ => False
-- W
theorem oL1_tup (ds : List D) (Q : List D → Prop) : oL1 [.tuple ds] Q = Q ds := id rfl
-- W
theorem oL1_eq (ds : List D) (Q : List D → Prop) : oL1 [.list ds] Q = Q ds := id rfl
-- W
theorem wI_enum (m : DE) (st : DS) (Q : List D → DS → Prop) : wI (iEnum m) st Q = wA [m] st fun xs s => oL1 xs fun ds => Q (enumD ds) s := by
  unfold wI wA iEnum
  simp only [wR_bind]
  congr 1
  funext p
  unfold oL1
  rcases p.1 with _ | ⟨a, _ | ⟨b, r⟩⟩
  · rfl
  · cases a <;> rfl
  · cases a <;> rfl
def oL2 (xs : List D) (Q : List D → List D → Prop) : Prop := match xs with
  | [.list as, .list bs] => Q as bs
  | [.tuple as, .tuple bs] => Q as bs
  | _ => False
-- W
theorem oL2_l (as bs : List D) (Q : List D → List D → Prop) : oL2 [.list as, .list bs] Q = Q as bs := id rfl
-- W
theorem oL2_t (as bs : List D) (Q : List D → List D → Prop) : oL2 [.tuple as, .tuple bs] Q = Q as bs := id rfl
-- W
theorem wI_zip (m n : DE) (st : DS) (Q : List D → DS → Prop) : wI (iZip m n) st Q = wA [m, n] st fun xs s => oL2 xs fun as bs => Q (zipD as bs) s := by
  unfold wI wA iZip
  simp only [wR_bind]
  congr 1
  funext p
  unfold oL2
  rcases p.1 with _ | ⟨a, _ | ⟨b, _ | ⟨c, r⟩⟩⟩
  · rfl
  · cases a <;> rfl
  · cases a <;> cases b <;> rfl
  · cases a <;> cases b <;> rfl
/-! ### loops -/
def loopE (C N : DS → Prop) (E : Fl → DS → Prop) : Fl → DS → Prop
  | .nx, s => C s
  | .ct, s => C s
  | .bk, s => N s
  | .rt r, s => E (.rt r) s
-- W
theorem loopE_ct (C N : DS → Prop) (E : Fl → DS → Prop) (s : DS) : loopE C N E .ct s = C s := id rfl
-- W
theorem loopE_bk (C N : DS → Prop) (E : Fl → DS → Prop) (s : DS) : loopE C N E .bk s = N s := id rfl
-- W
theorem loopE_rt (C N : DS → Prop) (E : Fl → DS → Prop) (r : RV) (s : DS) : loopE C N E (.rt r) s = E (.rt r) s := id rfl
-- W
theorem wS_for (it : DI) (g : DG) (body : DM) (st : DS) (N : DS → Prop) (E : Fl → DS → Prop) : wS (sFor it g body) st N E = wI it st fun ds s => wL g body ds s N E := by
  unfold wS wI wL sFor
  simp only [wR_bind]
-- W
theorem wS_forK (i : Nat) (g : DG) (body : DM) (st : DS) (N : DS → Prop) (E : Fl → DS → Prop) : wS (sForK i g body) st N E = oDict st[i]? i st fun kvs s => wL g body (keysD kvs) s N E := by
  unfold wS wL sForK lockS oDict
  generalize st[i]? = a
  rcases a with _ | _ | (d | ⟨x, d⟩)
  · rfl
  · rfl
  · cases d <;> (try rfl)
    simp only [wR_bind, wR_noEx, wR_ok]
  · cases x <;> cases d <;> (try rfl)
    simp only [wR_bind, wR_noEx, wR_ok]
-- W
theorem wL_nil (g : DG) (body : DM) (st : DS) (N : DS → Prop) (E : Fl → DS → Prop) : wL g body [] st N E = N st := by with_unfolding_all exact id rfl
theorem wL_cons (g : DG) (body : DM) (d : D) (ds : List D) (st : DS) (N : DS → Prop) (E : Fl → DS → Prop) : wL g body (d :: ds) st N E = wG g (.val d) st fun s1 => wS body s1 (fun s2 => wL g body ds s2 N E) (loopE (fun s2 => wL g body ds s2 N E) N E) := by
  unfold wL wG wS
  rw [loopL]
  simp only [wR_bind]
  congr 1
  funext s1
  congr 1
  funext p
  obtain ⟨f, s⟩ := p
  cases f <;> rfl
/-- a loop by an invariant over what is still to come -/
theorem wL_inv {α : Type} (enc : α → D) (P : List α → DS → Prop) {g : DG} {body : DM} {N : DS → Prop} {E : Fl → DS → Prop} (hn : ∀ s, P [] s → N s) : ∀ {xs : List α} {st : DS}, P xs st → (∀ x r s, x ∈ xs → P (x :: r) s → wG g (.val (enc x)) s fun s1 => wS body s1 (P r) (loopE (P r) N E)) → wL g body (xs.map enc) st N E
  | [], st, h, _ => by
    rw [List.map_nil, wL_nil]
    exact hn _ h
  | x :: xs, st, h, hs => by
    rw [List.map_cons, wL_cons]
    have h1 := hs x xs st List.mem_cons_self h
    refine wG_mono h1 fun s1 h2 => wS_monoF h2 fun f s h3 => ?_
    have go : ∀ s, P xs s → wL g body (xs.map enc) s N E := fun s hs' => wL_inv enc P hn hs' fun y r s hy => hs y r s (List.mem_cons_of_mem _ hy)
    cases f with
    | nx => exact go s h3
    | rt r => exact h3
    | bk => exact h3
    | ct => exact go s h3
/-- .. of data -/
theorem wL_invD (P : List D → DS → Prop) {g : DG} {body : DM} {N : DS → Prop} {E : Fl → DS → Prop} (hn : ∀ s, P [] s → N s) {xs : List D} {st : DS} (h0 : P xs st) (hs : ∀ x r s, x ∈ xs → P (x :: r) s → wG g (.val x) s fun s1 => wS body s1 (P r) (loopE (P r) N E)) : wL g body xs st N E := by
  have := wL_inv (fun d : D => d) P (g := g) (body := body) (N := N) (E := E) hn h0 hs
  rwa [List.map_id'] at this
/-- a loop that only folds -/
theorem wL_fold {α σ : Type} (enc : α → D) (S : σ → Option A → DS) (f : σ → α → σ) {g : DG} {body : DM} {N : DS → Prop} {E : Fl → DS → Prop} {xs : List α} {c : σ} {o : Option A} {st : DS} (h0 : st = S c o) (hs : ∀ x o c, x ∈ xs → ∃ o', wG g (.val (enc x)) (S c o) fun s1 => wS body s1 (fun s => s = S (f c x) o') (fun _ _ => False)) (hn : ∀ o, N (S (xs.foldl f c) o)) : wL g body (xs.map enc) st N E := by
  subst h0
  induction xs generalizing c o with
  | nil =>
    rw [List.map_nil, wL_nil]
    exact hn o
  | cons x xs ih =>
    rw [List.map_cons, wL_cons]
    obtain ⟨o', h1⟩ := hs x o c List.mem_cons_self
    refine wG_mono h1 fun s1 h2 => wS_monoF h2 fun fl s h3 => ?_
    cases fl with
    | nx =>
      have h3 : s = _ := h3
      subst h3
      exact ih (fun y o c hy => hs y o c (List.mem_cons_of_mem _ hy)) hn
    | rt r => exact h3.elim
    | bk => exact h3.elim
    | ct => exact h3.elim
-- W
theorem wS_while (n : DS → Nat) (t : DT) (body : DM) (st : DS) (N : DS → Prop) (E : Fl → DS → Prop) : wS (sWhile n t body) st N E = wW t body (n st) st N E := by with_unfolding_all exact id rfl
/-- a while by a measure -/
theorem wW_inv (P : Nat → DS → Prop) {t : DT} {body : DM} {N : DS → Prop} {E : Fl → DS → Prop} (hs : ∀ m s, P m s → wT t s fun b s1 => wB b (wS body s1 (fun s2 => ∃ k, k < m ∧ P k s2) (loopE (fun s2 => ∃ k, k < m ∧ P k s2) N E)) (N s1)) : ∀ {n m : Nat} {st : DS}, P m st → m < n → wW t body n st N E
  | 0, m, st, _, hl => absurd hl (Nat.not_lt_zero _)
  | n + 1, m, st, h, hl => by
    have h1 := hs m st h
    unfold wW
    unfold loopW
    rw [wR_bind]
    unfold wT at h1
    refine wR_mono h1 fun p h2 => ?_
    obtain ⟨b, s1⟩ := p
    cases b with
    | false => exact (show N s1 by simpa [wB] using h2)
    | true =>
      have h2 : wS body s1 (fun s2 => ∃ k, k < m ∧ P k s2) (loopE (fun s2 => ∃ k, k < m ∧ P k s2) N E) := by simpa [wB] using h2
      show wR (body s1 >>= _) _
      rw [wR_bind]
      unfold wS at h2
      refine wR_mono h2 fun q h3 => ?_
      obtain ⟨f, s2⟩ := q
      have go : ∀ s2, (∃ k, k < m ∧ P k s2) → wR (loopW t body n s2) fun p => endS N E p.1 p.2 := fun s2 ⟨k, hk, hp⟩ => by
        have := wW_inv (E := E) P hs hp (show k < n by omega)
        unfold wW at this
        exact this
      cases f with
      | nx => exact go s2 h3
      | rt r => exact h3
      | bk => exact h3
      | ct => exact go s2 h3
/-! ### comprehensions -/
-- W
theorem w_wipe_nil (st : DS) : wipeS [] st = st := id rfl
-- W
theorem w_wipe_cons (i : Nat) (vs : List Nat) (st : DS) : wipeS (i :: vs) st = (wipeS vs st).set i none := id rfl
-- W
theorem w_back_nil (old st : DS) : backS [] old st = st := id rfl
-- W
theorem w_back_cons (i : Nat) (vs : List Nat) (old st : DS) : backS (i :: vs) old st = (backS vs old st).set i (keptA old[i]?) := id rfl
-- W
theorem kept_val (d : D) : keptA (some (some (.val d))) = some (.val d) := id rfl
-- W
theorem kept_own (x : Bool) (d : D) : keptA (some (some (.own x d))) = none := id rfl
-- W
theorem kept_none : keptA (some none) = none := id rfl
-- W
theorem wE_comp (vs : List Nat) (it : DI) (g : DG) (t : DT) (e : DE) (st : DS) (Q : RV → DS → Prop) : wE (eComp vs it g t e) st Q = wI it st fun ds s => wC (fun _ => True) vs g t e ds s fun xs s => Q (.fresh (.list xs)) s := by
  unfold wE wI wC eComp
  simp only [wR_bind, wR_pure]
-- W
theorem wE_compK (vs : List Nat) (i : Nat) (g : DG) (t : DT) (e : DE) (st : DS) (Q : RV → DS → Prop) : wE (eCompK vs i g t e) st Q = oDict st[i]? i st fun kvs s => wC (fun _ => True) vs g t e (keysD kvs) s fun xs s => Q (.fresh (.list xs)) s := by
  unfold wE wC eCompK lockS oDict
  generalize st[i]? = a
  rcases a with _ | _ | (d | ⟨x, d⟩)
  · rfl
  · rfl
  · cases d <;> (try rfl)
    simp only [wR_bind, wR_noEx, wR_ok, wR_pure]
  · cases x <;> cases d <;> (try rfl)
    simp only [wR_bind, wR_noEx, wR_ok, wR_pure]
-- W
theorem wE_compB (vs : List Nat) (i : Nat) (g : DG) (t : DT) (e : DE) (st : DS) (Q : RV → DS → Prop) : wE (eCompB vs i g t e) st Q = oOwnL st[i]? fun x ds => wC (fun s => s[i]? = some (some (.own x (.list ds)))) vs g t e ds st fun xs s => Q (.fresh (.list xs)) s := by
  unfold wE wC eCompB oOwnL
  generalize st[i]? = a
  rcases a with _ | _ | (d | ⟨x, d⟩)
  · rfl
  · rfl
  · rfl
  · cases d with
    | list ds => exact wR_bind _ _ _
    | _ => rfl
/-- one turn -/
def wK (vs : List Nat) (g : DG) (t : DT) (e : DE) (st : DS) (d : D) (Q : Option D → DS → Prop) : Prop :=
  wG g (.val d) (wipeS vs st) fun s1 => wT t s1 fun b s2 => wB b (wE e s2 fun r s3 => oV r fun x => Q (some x) (backS vs st s3)) (Q none (backS vs st s2))
theorem wC_nil {G : DS → Prop} {vs : List Nat} {g : DG} {t : DT} {e : DE} {st : DS} {Q : List D → DS → Prop} (hG : G st) : wC G vs g t e [] st Q = Q [] st := by
  unfold wC
  rw [compL_nil hG]; rfl
theorem wC_cons {G : DS → Prop} {vs : List Nat} {g : DG} {t : DT} {e : DE} {st : DS} {d : D} {ds : List D} {Q : List D → DS → Prop} (hG : G st) : wC G vs g t e (d :: ds) st Q = wK vs g t e st d fun o s => wC G vs g t e ds s fun xs s2 => Q (match o with | some x => x :: xs | none => xs) s2 := by
  unfold wC
  rw [compL_cons hG]
  unfold stepC wK wG wT wE
  simp only [wR_bind]
  congr 1
  funext s1
  rw [wR_noEx]
  congr 1
  funext p
  obtain ⟨b, s2⟩ := p
  cases b
  · simp only [wB_false, Bool.false_eq_true, if_false, wR_pure]
  · simp only [wB_true, if_true, wR_bind, wR_noEx, wR_asVal, wR_pure]
/-- the slots stay; what is made is told item by item -/
theorem wC_map {α : Type} (enc : α → D) (F : α → Option D) {G : DS → Prop} {vs : List Nat} {g : DG} {t : DT} {e : DE} {st : DS} {Q : List D → DS → Prop} (hG : G st) : ∀ {xs : List α}, (∀ x ∈ xs, wK vs g t e st (enc x) fun o s => o = F x ∧ s = st) → Q (xs.filterMap F) st → wC G vs g t e (xs.map enc) st Q := by
  intro xs
  induction xs generalizing Q with
  | nil => intro _ hq; rw [List.map_nil, wC_nil hG]; exact hq
  | cons x xs ih =>
    intro hs hq
    rw [List.map_cons, wC_cons hG]
    have h1 := hs x List.mem_cons_self
    have mono : ∀ {P P' : Option D → DS → Prop}, wK vs g t e st (enc x) P → (∀ o s, P o s → P' o s) → wK vs g t e st (enc x) P' := by
      intro P P' h hp
      unfold wK wG wT wE at *
      refine wR_mono h fun s1 h => wR_mono h fun p h => ?_
      obtain ⟨b, s2⟩ := p
      cases b
      · simp only [wB_false] at *
        exact hp _ _ h
      · simp only [wB_true] at *
        refine wR_mono h fun q h => ?_
        obtain ⟨r, s3⟩ := q
        cases r with
        | val d => exact hp _ _ h
        | fresh d => exact hp _ _ h
        | bor i d => exact h
    refine mono h1 fun o s ⟨h2, h3⟩ => ?_
    subst h3
    refine ih (fun y hy => hs y (List.mem_cons_of_mem _ hy)) ?_
    subst h2
    rw [List.filterMap_cons] at hq
    cases hF : F x with
    | none => rw [hF] at hq; exact hq
    | some y => rw [hF] at hq; exact hq
theorem filterMap_some' {α β : Type} (F : α → β) (xs : List α) : xs.filterMap (fun x => some (F x)) = xs.map F := by
  rw [← List.filterMap_eq_map]; rfl
theorem wC_mapF {α : Type} (enc : α → D) (F : α → D) {G : DS → Prop} {vs : List Nat} {g : DG} {t : DT} {e : DE} {st : DS} {Q : List D → DS → Prop} (hG : G st) {xs : List α} (hs : ∀ x ∈ xs, wK vs g t e st (enc x) fun o s => o = some (F x) ∧ s = st) (hq : Q (xs.map F) st) : wC G vs g t e (xs.map enc) st Q :=
  wC_map enc (fun x => some (F x)) hG hs (by rw [filterMap_some']; exact hq)
theorem filterMap_if' {α β : Type} (p : α → Bool) (F : α → β) (xs : List α) : xs.filterMap (fun x => if p x = true then some (F x) else none) = (xs.filter p).map F := by
  induction xs with
  | nil => rfl
  | cons x xs ih =>
    rw [List.filterMap_cons, List.filter_cons]
    by_cases h : p x = true
    · simp only [h, if_true, List.map_cons, ih]
    · simp only [h, Bool.false_eq_true, if_false, ih]
theorem wC_filter {α : Type} (enc : α → D) (p : α → Bool) (F : α → D) {G : DS → Prop} {vs : List Nat} {g : DG} {t : DT} {e : DE} {st : DS} {Q : List D → DS → Prop} (hG : G st) {xs : List α} (hs : ∀ x ∈ xs, wK vs g t e st (enc x) fun o s => o = (if p x = true then some (F x) else none) ∧ s = st) (hq : Q ((xs.filter p).map F) st) : wC G vs g t e (xs.map enc) st Q :=
  wC_map enc (fun x => if p x = true then some (F x) else none) hG hs (by rw [filterMap_if']; exact hq)
/-- slots that change: an invariant of what is still to come and what has been made -/
theorem wC_inv {α : Type} (enc : α → D) (P : List α → List D → DS → Prop) {G : DS → Prop} {vs : List Nat} {g : DG} {t : DT} {e : DE} (hG : ∀ xs ys s, P xs ys s → G s) : ∀ {xs : List α} {ys : List D} {st : DS} {Q : List D → DS → Prop}, P xs ys st → (∀ x r ys s, x ∈ xs → P (x :: r) ys s → wK vs g t e s (enc x) fun o s2 => P r (match o with | some y => ys ++ [y] | none => ys) s2) → (∀ zs s, P [] (ys ++ zs) s → Q zs s) → wC G vs g t e (xs.map enc) st Q
  | [], ys, st, Q, h, _, hq => by
    rw [List.map_nil, wC_nil (hG _ _ _ h)]
    exact hq [] st (by rw [List.append_nil]; exact h)
  | x :: xs, ys, st, Q, h, hs, hq => by
    rw [List.map_cons, wC_cons (hG _ _ _ h)]
    have h1 := hs x xs ys st List.mem_cons_self h
    have mono : ∀ {P P' : Option D → DS → Prop}, wK vs g t e st (enc x) P → (∀ o s, P o s → P' o s) → wK vs g t e st (enc x) P' := by
      intro P P' h hp
      unfold wK wG wT wE at *
      refine wR_mono h fun s1 h => wR_mono h fun p h => ?_
      obtain ⟨b, s2⟩ := p
      cases b
      · simp only [wB_false] at *
        exact hp _ _ h
      · simp only [wB_true] at *
        refine wR_mono h fun q h => ?_
        obtain ⟨r, s3⟩ := q
        cases r with
        | val d => exact hp _ _ h
        | fresh d => exact hp _ _ h
        | bor i d => exact h
    refine mono h1 fun o s h2 => ?_
    refine wC_inv enc P hG h2 (fun y r ys s hy => hs y r ys s (List.mem_cons_of_mem _ hy)) fun zs s h3 => ?_
    cases o with
    | none => exact hq zs s h3
    | some y => exact hq (y :: zs) s (by simpa using h3)
/-! ### defs -/
def wRt (f : Fl) (Q : RV → Prop) : Prop := match f with
  | .rt (.val d) => Q (.val d)
  | .rt (.fresh d) => Q (.fresh d)
  | _ => False
-- W
theorem wRt_val (d : D) (Q : RV → Prop) : wRt (.rt (.val d)) Q = Q (.val d) := by with_unfolding_all exact id rfl
-- W
theorem wRt_fresh (d : D) (Q : RV → Prop) : wRt (.rt (.fresh d)) Q = Q (.fresh d) := by with_unfolding_all exact id rfl
def w0 (a : Option (Option A)) (Q : D → Prop) : Prop := match a with
  | some (some (.own true c)) => Q c
  | _ => False
-- W
theorem w0_own (c : D) (Q : D → Prop) : w0 (some (some (.own true c))) Q = Q c := id rfl
theorem wF_body {n : Nat} {m : DM} {ds : List D} {Q : RV → Option D → Prop} : wF (bodyF n m) none ds Q = wS m (startD n none ds) (fun _ => Q (.val .none) none) (fun f _ => wRt f fun r => Q r none) := by
  unfold wF wS bodyF
  cases m (startD n none ds) with
  | ok p =>
    obtain ⟨f, s⟩ := p
    cases f with
    | nx => rfl
    | rt r => cases r <;> rfl
    | bk => rfl
    | ct => rfl
  | ex c => rfl
  | bad => rfl
theorem wF_bodyS {n : Nat} {m : DM} {c : D} {ds : List D} {Q : RV → Option D → Prop} : wF (bodyF n m) (some c) ds Q = wS m (startD n (some c) ds) (fun s => w0 s[0]? fun c' => Q (.val .none) (some c')) (fun f s => wRt f fun r => w0 s[0]? fun c' => Q r (some c')) := by
  unfold wF wS bodyF
  cases m (startD n (some c) ds) with
  | ok p =>
    obtain ⟨f, s⟩ := p
    have hw : ∀ r : RV, wR (outOf (some c) s >>= fun c' => (pure (r, c') : R (RV × Option D))) (fun p => Q p.1 p.2) = w0 s[0]? fun c' => Q r (some c') := by
      intro r
      unfold outOf w0
      show wR ((match s[0]? with | some (some (A.own true c)) => R.ok (some c) | _ => R.bad) >>= fun c' => (pure (r, c') : R (RV × Option D))) (fun p => Q p.1 p.2) = _
      generalize s[0]? = a
      rcases a with _ | _ | (d | ⟨x, d⟩)
      · rfl
      · rfl
      · rfl
      · cases x <;> rfl
    cases f with
    | nx => exact hw _
    | rt r =>
      cases r with
      | val d => exact hw _
      | fresh d => exact hw _
      | bor i d => rfl
    | bk => rfl
    | ct => rfl
  | ex c => rfl
  | bad => rfl
theorem wF_of {f : DF} {o o' : Option D} {ds : List D} {r : RV} (h : f o ds = .ok (r, o')) (Q : RV → Option D → Prop) : wF f o ds Q = Q r o' := by
  unfold wF
  rw [h]; rfl
theorem wF_eq {f : DF} {o o' : Option D} {ds : List D} {r : RV} (h : wF f o ds fun r' o'' => r' = r ∧ o'' = o') : f o ds = .ok (r, o') := by
  unfold wF at h
  obtain ⟨⟨a, b⟩, h1, h2, h3⟩ := wR_elim h
  rw [h1]
  subst h2 h3; rfl
theorem wF_mono {f : DF} {o : Option D} {ds : List D} {Q Q' : RV → Option D → Prop} (h : wF f o ds Q) (hq : ∀ r o, Q r o → Q' r o) : wF f o ds Q' := by
  unfold wF at *
  exact wR_mono h fun p hp => hq _ _ hp
end QL

end
section
/-! what the defs compute: printed by gen.py -/
namespace KK
open PySem QL
def bigFuel : DS → Nat := fun _ => 100000
noncomputable def den_is_between : DM :=
  sRet (eAnd (eOp1 (gIsi [.int]) (eVar 0)) (eAnd (eNot (eOp1 (gIsi [.bool]) (eVar 0))) (eChain gLe gLe (eVar 1) (eVar 0) (eVar 2))))
noncomputable def f_is_between : DF := bodyF 3 den_is_between
theorem wd_is_between (p0 p1 p2 : D) (Q : RV → Option D → Prop) : wF f_is_between none [p0, p1, p2] Q = wS (sRet (eAnd (eOp1 (gIsi [.int]) (eVar 0)) (eAnd (eNot (eOp1 (gIsi [.bool]) (eVar 0))) (eChain gLe gLe (eVar 1) (eVar 0) (eVar 2))))) [some (.val p0), some (.val p1), some (.val p2)] (fun _ => Q (.val .none) none) (fun f _ => wRt f fun r => Q r none) := wF_body

noncomputable def den_are_coins : DM :=
  sSeq (sIf (tOr (tNot (tOf (eOp1 (gIsi [.tuple]) (eVar 0)))) (tNot (tOf (eChain gLe gLe (eC (.int 1)) (eOp1 gLen (eVar 0)) (eVar 1))))) (sRet (eC (.bool false))) sNext) (sRet (eOp1 gAll (eComp [2] (iSeq (eVar 0)) (bName 2) tYes (eCall f_is_between [] [eVar 2, eC (.int 1), eC (.int 1000)]))))
noncomputable def f_are_coins : DF := bodyF 3 den_are_coins
theorem wd_are_coins (p0 p1 : D) (Q : RV → Option D → Prop) : wF f_are_coins none [p0, p1] Q = wS (sSeq (sIf (tOr (tNot (tOf (eOp1 (gIsi [.tuple]) (eVar 0)))) (tNot (tOf (eChain gLe gLe (eC (.int 1)) (eOp1 gLen (eVar 0)) (eVar 1))))) (sRet (eC (.bool false))) sNext) (sRet (eOp1 gAll (eComp [2] (iSeq (eVar 0)) (bName 2) tYes (eCall f_is_between [] [eVar 2, eC (.int 1), eC (.int 1000)]))))) [some (.val p0), some (.val p1), none] (fun _ => Q (.val .none) none) (fun f _ => wRt f fun r => Q r none) := wF_body

noncomputable def den_is_set : DM :=
  sSeq (sIf (tOr (tNot (tOf (eOp1 (gIsi [.tuple]) (eVar 1)))) (tNot (tOf (eOp1 gAll (eComp [2] (iSeq (eVar 1)) (bName 2) tYes (eCall f_is_between [] [eVar 2, eC (.int 0), eOp2 gSub (eVar 0) (eC (.int 1))])))))) (sRet (eC (.bool false))) sNext) (sRet (eOp1 gAll (eComp [3, 4] (iZip (eVar 1) (eSl (eVar 1) (pPart (eC (.int 1))) pNone)) (bTup [bName 3, bName 4]) tYes (eOp2 gLt (eVar 3) (eVar 4)))))
noncomputable def f_is_set : DF := bodyF 5 den_is_set
theorem wd_is_set (p0 p1 : D) (Q : RV → Option D → Prop) : wF f_is_set none [p0, p1] Q = wS (sSeq (sIf (tOr (tNot (tOf (eOp1 (gIsi [.tuple]) (eVar 1)))) (tNot (tOf (eOp1 gAll (eComp [2] (iSeq (eVar 1)) (bName 2) tYes (eCall f_is_between [] [eVar 2, eC (.int 0), eOp2 gSub (eVar 0) (eC (.int 1))])))))) (sRet (eC (.bool false))) sNext) (sRet (eOp1 gAll (eComp [3, 4] (iZip (eVar 1) (eSl (eVar 1) (pPart (eC (.int 1))) pNone)) (bTup [bName 3, bName 4]) tYes (eOp2 gLt (eVar 3) (eVar 4)))))) [some (.val p0), some (.val p1), none, none, none] (fun _ => Q (.val .none) none) (fun f _ => wRt f fun r => Q r none) := wF_body

noncomputable def den_is_state : DM :=
  sSeq (sIf (tOr (tNot (tOf (eOp1 (gIsi [.tuple]) (eVar 0)))) (tOr (tOf (eOp2 gNe (eOp1 gLen (eVar 0)) (eC (.int 2)))) (tNot (tOf (eCall f_are_coins [.int 12] [eOp2 gIx (eVar 0) (eC (.int 0))]))))) (sRet (eC (.bool false))) sNext) (sRet (eCall f_is_set [] [eOp1 gLen (eOp2 gIx (eVar 0) (eC (.int 0))), eOp2 gIx (eVar 0) (eC (.int 1))]))
noncomputable def f_is_state : DF := bodyF 1 den_is_state
theorem wd_is_state (p0 : D) (Q : RV → Option D → Prop) : wF f_is_state none [p0] Q = wS (sSeq (sIf (tOr (tNot (tOf (eOp1 (gIsi [.tuple]) (eVar 0)))) (tOr (tOf (eOp2 gNe (eOp1 gLen (eVar 0)) (eC (.int 2)))) (tNot (tOf (eCall f_are_coins [.int 12] [eOp2 gIx (eVar 0) (eC (.int 0))]))))) (sRet (eC (.bool false))) sNext) (sRet (eCall f_is_set [] [eOp1 gLen (eOp2 gIx (eVar 0) (eC (.int 0))), eOp2 gIx (eVar 0) (eC (.int 1))]))) [some (.val p0)] (fun _ => Q (.val .none) none) (fun f _ => wRt f fun r => Q r none) := wF_body

noncomputable def den_check_state : DM :=
  sIf (tNot (tOf (eCall f_is_state [] [eVar 0]))) (sRaise "InvalidState") sNext
noncomputable def f_check_state : DF := bodyF 1 den_check_state
theorem wd_check_state (p0 : D) (Q : RV → Option D → Prop) : wF f_check_state none [p0] Q = wS (sIf (tNot (tOf (eCall f_is_state [] [eVar 0]))) (sRaise "InvalidState") sNext) [some (.val p0)] (fun _ => Q (.val .none) none) (fun f _ => wRt f fun r => Q r none) := wF_body

noncomputable def den_worth : DM :=
  sRet (eOp1 gSum (eComp [2] (iSeq (eVar 1)) (bName 2) tYes (eOp2 gIx (eVar 0) (eVar 2))))
noncomputable def f_worth : DF := bodyF 3 den_worth
theorem wd_worth (p0 p1 : D) (Q : RV → Option D → Prop) : wF f_worth none [p0, p1] Q = wS (sRet (eOp1 gSum (eComp [2] (iSeq (eVar 1)) (bName 2) tYes (eOp2 gIx (eVar 0) (eVar 2))))) [some (.val p0), some (.val p1), none] (fun _ => Q (.val .none) none) (fun f _ => wRt f fun r => Q r none) := wF_body

noncomputable def den_others_of : DM :=
  sRet (eOp1 gTuple (eComp [1] (iRng1 (eOp1 gLen (eOp2 gIx (eVar 0) (eC (.int 0))))) (bName 1) (tOf (eOp2 gNotIn (eVar 1) (eOp2 gIx (eVar 0) (eC (.int 1))))) (eVar 1)))
noncomputable def f_others_of : DF := bodyF 2 den_others_of
theorem wd_others_of (p0 : D) (Q : RV → Option D → Prop) : wF f_others_of none [p0] Q = wS (sRet (eOp1 gTuple (eComp [1] (iRng1 (eOp1 gLen (eOp2 gIx (eVar 0) (eC (.int 0))))) (bName 1) (tOf (eOp2 gNotIn (eVar 1) (eOp2 gIx (eVar 0) (eC (.int 1))))) (eVar 1)))) [some (.val p0), none] (fun _ => Q (.val .none) none) (fun f _ => wRt f fun r => Q r none) := wF_body

noncomputable def den_total_of_second : DM :=
  sRet (eCall f_worth [] [eOp2 gIx (eVar 0) (eC (.int 0)), eCall f_others_of [] [eVar 0]])
noncomputable def f_total_of_second : DF := bodyF 1 den_total_of_second
theorem wd_total_of_second (p0 : D) (Q : RV → Option D → Prop) : wF f_total_of_second none [p0] Q = wS (sRet (eCall f_worth [] [eOp2 gIx (eVar 0) (eC (.int 0)), eCall f_others_of [] [eVar 0]])) [some (.val p0)] (fun _ => Q (.val .none) none) (fun f _ => wRt f fun r => Q r none) := wF_body

noncomputable def den_totals : DM :=
  sSeq (sExpr (eCall f_check_state [] [eVar 0])) (sRet (eTup [eCall f_worth [] [eOp2 gIx (eVar 0) (eC (.int 0)), eOp2 gIx (eVar 0) (eC (.int 1))], eCall f_total_of_second [] [eVar 0]]))
noncomputable def f_totals : DF := bodyF 1 den_totals
theorem wd_totals (p0 : D) (Q : RV → Option D → Prop) : wF f_totals none [p0] Q = wS (sSeq (sExpr (eCall f_check_state [] [eVar 0])) (sRet (eTup [eCall f_worth [] [eOp2 gIx (eVar 0) (eC (.int 0)), eOp2 gIx (eVar 0) (eC (.int 1))], eCall f_total_of_second [] [eVar 0]]))) [some (.val p0)] (fun _ => Q (.val .none) none) (fun f _ => wRt f fun r => Q r none) := wF_body

noncomputable def den__law_source : DM :=
  sSeq (sIf (tOf (eOp2 gGe (eVar 0) (eOp2 gPow (eC (.int 10)) (eC (.int 18))))) (sRet (eLst [eOp2 gSub (eVar 0) (eOp2 gPow (eC (.int 10)) (eC (.int 18))), eOp2 gMod (eVar 0) (eC (.int 2147483579)), eVar 1])) sNext) (sRet (eLst [eC (.int 0), eOp2 gMod (eVar 0) (eC (.int 2147483579)), eVar 1]))
noncomputable def f__law_source : DF := bodyF 2 den__law_source
theorem wd__law_source (p0 p1 : D) (Q : RV → Option D → Prop) : wF f__law_source none [p0, p1] Q = wS (sSeq (sIf (tOf (eOp2 gGe (eVar 0) (eOp2 gPow (eC (.int 10)) (eC (.int 18))))) (sRet (eLst [eOp2 gSub (eVar 0) (eOp2 gPow (eC (.int 10)) (eC (.int 18))), eOp2 gMod (eVar 0) (eC (.int 2147483579)), eVar 1])) sNext) (sRet (eLst [eC (.int 0), eOp2 gMod (eVar 0) (eC (.int 2147483579)), eVar 1]))) [some (.val p0), some (.val p1)] (fun _ => Q (.val .none) none) (fun f _ => wRt f fun r => Q r none) := wF_body

noncomputable def den__law_draw : DM :=
  sSeq (sIf (tOf (eOp2 gGt (eOp2 gIx (eBor 0) (eC (.int 0))) (eC (.int 1)))) (sSeq (sSet (bName 2) (eOp2 gMod (eOp2 gIx (eBor 0) (eC (.int 0))) (eVar 1))) (sSeq (sPut 0 (eC (.int 0)) (eOp2 gFdiv (eOp2 gIx (eBor 0) (eC (.int 0))) (eVar 1))) (sRet (eVar 2)))) sNext) (sSeq (sPut 0 (eC (.int 2)) (eOp2 gAdd (eOp2 gIx (eBor 0) (eC (.int 2))) (eC (.int 1)))) (sSeq (sSet (bName 3) (eOp2 gMod (eOp2 gPow (eOp2 gAdd (eOp2 gIx (eBor 0) (eC (.int 1))) (eOp2 gMul (eC (.int 15485867)) (eOp2 gIx (eBor 0) (eC (.int 2))))) (eC (.int 5))) (eC (.int 2147483647)))) (sSeq (sSet (bName 2) (eOp2 gFdiv (eOp2 gMod (eOp2 gPow (eOp2 gAdd (eVar 3) (eOp2 gMul (eC (.int 7919)) (eOp2 gIx (eBor 0) (eC (.int 2))))) (eC (.int 3))) (eC (.int 2147483629))) (eC (.int 32)))) (sRet (eOp2 gMod (eVar 2) (eVar 1))))))
noncomputable def f__law_draw : DF := bodyF 4 den__law_draw
theorem wd__law_draw (p0 p1 : D) (Q : RV → Option D → Prop) : wF f__law_draw (some p0) [p1] Q = wS (sSeq (sIf (tOf (eOp2 gGt (eOp2 gIx (eBor 0) (eC (.int 0))) (eC (.int 1)))) (sSeq (sSet (bName 2) (eOp2 gMod (eOp2 gIx (eBor 0) (eC (.int 0))) (eVar 1))) (sSeq (sPut 0 (eC (.int 0)) (eOp2 gFdiv (eOp2 gIx (eBor 0) (eC (.int 0))) (eVar 1))) (sRet (eVar 2)))) sNext) (sSeq (sPut 0 (eC (.int 2)) (eOp2 gAdd (eOp2 gIx (eBor 0) (eC (.int 2))) (eC (.int 1)))) (sSeq (sSet (bName 3) (eOp2 gMod (eOp2 gPow (eOp2 gAdd (eOp2 gIx (eBor 0) (eC (.int 1))) (eOp2 gMul (eC (.int 15485867)) (eOp2 gIx (eBor 0) (eC (.int 2))))) (eC (.int 5))) (eC (.int 2147483647)))) (sSeq (sSet (bName 2) (eOp2 gFdiv (eOp2 gMod (eOp2 gPow (eOp2 gAdd (eVar 3) (eOp2 gMul (eC (.int 7919)) (eOp2 gIx (eBor 0) (eC (.int 2))))) (eC (.int 3))) (eC (.int 2147483629))) (eC (.int 32)))) (sRet (eOp2 gMod (eVar 2) (eVar 1))))))) [some (.own true p0), some (.val p1), none, none] (fun s => w0 s[0]? fun c => Q (.val .none) (some c)) (fun f s => wRt f fun r => w0 s[0]? fun c => Q r (some c)) := wF_bodyS

noncomputable def den__law_is_int : DM :=
  sRet (eAnd (eOp1 (gIsi [.int]) (eVar 0)) (eNot (eOp1 (gIsi [.bool]) (eVar 0))))
noncomputable def f__law_is_int : DF := bodyF 1 den__law_is_int
theorem wd__law_is_int (p0 : D) (Q : RV → Option D → Prop) : wF f__law_is_int none [p0] Q = wS (sRet (eAnd (eOp1 (gIsi [.int]) (eVar 0)) (eNot (eOp1 (gIsi [.bool]) (eVar 0))))) [some (.val p0)] (fun _ => Q (.val .none) none) (fun f _ => wRt f fun r => Q r none) := wF_body

noncomputable def den__law_choice : DM :=
  sRet (eOp2 gIx (eVar 1) (eCallS f__law_draw [] 0 [eOp1 gLen (eVar 1)]))
noncomputable def f__law_choice : DF := bodyF 2 den__law_choice
theorem wd__law_choice (p0 p1 : D) (Q : RV → Option D → Prop) : wF f__law_choice (some p0) [p1] Q = wS (sRet (eOp2 gIx (eVar 1) (eCallS f__law_draw [] 0 [eOp1 gLen (eVar 1)]))) [some (.own true p0), some (.val p1)] (fun s => w0 s[0]? fun c => Q (.val .none) (some c)) (fun f s => wRt f fun r => w0 s[0]? fun c => Q r (some c)) := wF_bodyS

noncomputable def den__law_kind : DM :=
  sSeq (sIf (tOf (eOp1 (gIsi [.bool]) (eVar 0))) (sRet (eC (.int 1))) sNext) (sSeq (sIf (tOf (eOp1 (gIsi [.int]) (eVar 0))) (sRet (eC (.int 2))) sNext) (sSeq (sIf (tOf (eOp1 (gIsi [.str]) (eVar 0))) (sRet (eC (.int 3))) sNext) (sSeq (sIf (tOf (eOp1 (gIsi [.list]) (eVar 0))) (sRet (eC (.int 4))) sNext) (sRet (eIf (tOf (eOp1 (gIsi [.tuple]) (eVar 0))) (eC (.int 5)) (eC (.int 6)))))))
noncomputable def f__law_kind : DF := bodyF 1 den__law_kind
theorem wd__law_kind (p0 : D) (Q : RV → Option D → Prop) : wF f__law_kind none [p0] Q = wS (sSeq (sIf (tOf (eOp1 (gIsi [.bool]) (eVar 0))) (sRet (eC (.int 1))) sNext) (sSeq (sIf (tOf (eOp1 (gIsi [.int]) (eVar 0))) (sRet (eC (.int 2))) sNext) (sSeq (sIf (tOf (eOp1 (gIsi [.str]) (eVar 0))) (sRet (eC (.int 3))) sNext) (sSeq (sIf (tOf (eOp1 (gIsi [.list]) (eVar 0))) (sRet (eC (.int 4))) sNext) (sRet (eIf (tOf (eOp1 (gIsi [.tuple]) (eVar 0))) (eC (.int 5)) (eC (.int 6)))))))) [some (.val p0)] (fun _ => Q (.val .none) none) (fun f _ => wRt f fun r => Q r none) := wF_body

noncomputable def den__law_equal (r : DF) : DM :=
  sSeq (sIf (tOf (eOp2 gNe (eCall f__law_kind [] [eVar 0]) (eCall f__law_kind [] [eVar 1]))) (sRet (eC (.bool false))) sNext) (sSeq (sIf (tAnd (tOf (eOp2 gGt (eCall f__law_kind [] [eVar 0]) (eC (.int 3)))) (tOf (eOp2 gLt (eCall f__law_kind [] [eVar 0]) (eC (.int 6))))) (sSeq (sIf (tOf (eOp2 gNe (eOp1 gLen (eVar 0)) (eOp1 gLen (eVar 1)))) (sRet (eC (.bool false))) sNext) (sRet (eOp2 gEq (eComp [2, 3] (iEnum (eVar 0)) (bTup [bName 2, bName 3]) (tNot (tOf (eCall r [] [eVar 3, eOp2 gIx (eVar 1) (eVar 2)]))) (eVar 2)) (eLst [])))) sNext) (sRet (eOp2 gEq (eVar 0) (eVar 1))))
noncomputable def f__law_equal : Nat → DF
  | 0 => fun _ _ => .bad
  | n + 1 => bodyF 4 (den__law_equal (f__law_equal n))
theorem wd__law_equal (n : Nat) (p0 p1 : D) (Q : RV → Option D → Prop) : wF (f__law_equal (n + 1)) none [p0, p1] Q = wS (sSeq (sIf (tOf (eOp2 gNe (eCall f__law_kind [] [eVar 0]) (eCall f__law_kind [] [eVar 1]))) (sRet (eC (.bool false))) sNext) (sSeq (sIf (tAnd (tOf (eOp2 gGt (eCall f__law_kind [] [eVar 0]) (eC (.int 3)))) (tOf (eOp2 gLt (eCall f__law_kind [] [eVar 0]) (eC (.int 6))))) (sSeq (sIf (tOf (eOp2 gNe (eOp1 gLen (eVar 0)) (eOp1 gLen (eVar 1)))) (sRet (eC (.bool false))) sNext) (sRet (eOp2 gEq (eComp [2, 3] (iEnum (eVar 0)) (bTup [bName 2, bName 3]) (tNot (tOf (eCall (f__law_equal n) [] [eVar 3, eOp2 gIx (eVar 1) (eVar 2)]))) (eVar 2)) (eLst [])))) sNext) (sRet (eOp2 gEq (eVar 0) (eVar 1))))) [some (.val p0), some (.val p1), none, none] (fun _ => Q (.val .none) none) (fun f _ => wRt f fun r => Q r none) := wF_body

noncomputable def den__law_any_value : DM :=
  sSeq (sSet (bName 1) (eLst [eC .none, eC (.bool true), eC (.str ""), eC (.str "x"), eTup [], eLst [], eTup [eTup []], eC (.int 7), eOp1 gNeg (eC (.int 1)), eOp2 gPow (eC (.int 10)) (eC (.int 30)), eTup [eC (.int 1), eC (.int 2)], eTup [eTup [eC (.int 0)], eTup []], eTup [eTup [eC (.int 1), eC (.int 2)], eTup [eC (.int 0)]], eTup [eC (.int 0), eC (.int 1)]])) (sRet (eCallS f__law_choice [] 0 [eVar 1]))
noncomputable def f__law_any_value : DF := bodyF 2 den__law_any_value
theorem wd__law_any_value (p0 : D) (Q : RV → Option D → Prop) : wF f__law_any_value (some p0) [] Q = wS (sSeq (sSet (bName 1) (eLst [eC .none, eC (.bool true), eC (.str ""), eC (.str "x"), eTup [], eLst [], eTup [eTup []], eC (.int 7), eOp1 gNeg (eC (.int 1)), eOp2 gPow (eC (.int 10)) (eC (.int 30)), eTup [eC (.int 1), eC (.int 2)], eTup [eTup [eC (.int 0)], eTup []], eTup [eTup [eC (.int 1), eC (.int 2)], eTup [eC (.int 0)]], eTup [eC (.int 0), eC (.int 1)]])) (sRet (eCallS f__law_choice [] 0 [eVar 1]))) [some (.own true p0), none] (fun s => w0 s[0]? fun c => Q (.val .none) (some c)) (fun f s => wRt f fun r => w0 s[0]? fun c => Q r (some c)) := wF_bodyS

noncomputable def den__law_coins : DM :=
  sSeq (sPar [(false, 2), (false, 3)] [eOp2 gAdd (eC (.int 1)) (eCallS f__law_draw [] 0 [eVar 1]), eCallS f__law_draw [] 0 [eC (.int 5)]]) (sSeq (sPar [(false, 4), (true, 5), (false, 6)] [eLst [eC (.int 1), eC (.int 2), eC (.int 5), eC (.int 10), eC (.int 20), eC (.int 50), eC (.int 100), eC (.int 200)], eLst [], eOp2 gAdd (eC (.int 1)) (eCallS f__law_draw [] 0 [eC (.int 3)])]) (sSeq (sFor (iRng1 (eVar 2)) (bName 7) (sIf (tOf (eOp2 gEq (eVar 3) (eC (.int 0)))) (sAppend 5 (eOp2 gAdd (eC (.int 1)) (eCallS f__law_draw [] 0 [eC (.int 4)]))) (sIf (tOf (eOp2 gEq (eVar 3) (eC (.int 1)))) (sAppend 5 (eCallS f__law_choice [] 0 [eLst [eVar 6, eVar 6, eC (.int 7)]])) (sIf (tOf (eOp2 gEq (eVar 3) (eC (.int 2)))) (sAppend 5 (eCallS f__law_choice [] 0 [eVar 4])) (sIf (tOf (eOp2 gEq (eVar 3) (eC (.int 3)))) (sSeq (sAppend 5 (eOp2 gMin2 (eC (.int 1000)) (eVar 6))) (sSet (bName 6) (eOp2 gMul (eC (.int 2)) (eVar 6)))) (sAppend 5 (eOp2 gAdd (eC (.int 1)) (eCallS f__law_draw [] 0 [eC (.int 1000)])))))))) (sRet (eOp1 gTuple (eBor 5)))))
noncomputable def f__law_coins : DF := bodyF 8 den__law_coins
theorem wd__law_coins (p0 p1 : D) (Q : RV → Option D → Prop) : wF f__law_coins (some p0) [p1] Q = wS (sSeq (sPar [(false, 2), (false, 3)] [eOp2 gAdd (eC (.int 1)) (eCallS f__law_draw [] 0 [eVar 1]), eCallS f__law_draw [] 0 [eC (.int 5)]]) (sSeq (sPar [(false, 4), (true, 5), (false, 6)] [eLst [eC (.int 1), eC (.int 2), eC (.int 5), eC (.int 10), eC (.int 20), eC (.int 50), eC (.int 100), eC (.int 200)], eLst [], eOp2 gAdd (eC (.int 1)) (eCallS f__law_draw [] 0 [eC (.int 3)])]) (sSeq (sFor (iRng1 (eVar 2)) (bName 7) (sIf (tOf (eOp2 gEq (eVar 3) (eC (.int 0)))) (sAppend 5 (eOp2 gAdd (eC (.int 1)) (eCallS f__law_draw [] 0 [eC (.int 4)]))) (sIf (tOf (eOp2 gEq (eVar 3) (eC (.int 1)))) (sAppend 5 (eCallS f__law_choice [] 0 [eLst [eVar 6, eVar 6, eC (.int 7)]])) (sIf (tOf (eOp2 gEq (eVar 3) (eC (.int 2)))) (sAppend 5 (eCallS f__law_choice [] 0 [eVar 4])) (sIf (tOf (eOp2 gEq (eVar 3) (eC (.int 3)))) (sSeq (sAppend 5 (eOp2 gMin2 (eC (.int 1000)) (eVar 6))) (sSet (bName 6) (eOp2 gMul (eC (.int 2)) (eVar 6)))) (sAppend 5 (eOp2 gAdd (eC (.int 1)) (eCallS f__law_draw [] 0 [eC (.int 1000)])))))))) (sRet (eOp1 gTuple (eBor 5)))))) [some (.own true p0), some (.val p1), none, none, none, none, none, none] (fun s => w0 s[0]? fun c => Q (.val .none) (some c)) (fun f s => wRt f fun r => w0 s[0]? fun c => Q r (some c)) := wF_bodyS

noncomputable def den__law_some : DM :=
  sRet (eOp1 gTuple (eComp [2] (iSeq (eVar 1)) (bName 2) (tOf (eOp2 gEq (eCallS f__law_draw [] 0 [eC (.int 2)]) (eC (.int 0)))) (eVar 2)))
noncomputable def f__law_some : DF := bodyF 3 den__law_some
theorem wd__law_some (p0 p1 : D) (Q : RV → Option D → Prop) : wF f__law_some (some p0) [p1] Q = wS (sRet (eOp1 gTuple (eComp [2] (iSeq (eVar 1)) (bName 2) (tOf (eOp2 gEq (eCallS f__law_draw [] 0 [eC (.int 2)]) (eC (.int 0)))) (eVar 2)))) [some (.own true p0), some (.val p1), none] (fun s => w0 s[0]? fun c => Q (.val .none) (some c)) (fun f s => wRt f fun r => w0 s[0]? fun c => Q r (some c)) := wF_bodyS

noncomputable def den__law_state : DM :=
  sSeq (sSet (bName 2) (eCallS f__law_coins [] 0 [eVar 1])) (sRet (eTup [eVar 2, eCallS f__law_some [] 0 [eListRg1 (eOp1 gLen (eVar 2))]]))
noncomputable def f__law_state : DF := bodyF 3 den__law_state
theorem wd__law_state (p0 p1 : D) (Q : RV → Option D → Prop) : wF f__law_state (some p0) [p1] Q = wS (sSeq (sSet (bName 2) (eCallS f__law_coins [] 0 [eVar 1])) (sRet (eTup [eVar 2, eCallS f__law_some [] 0 [eListRg1 (eOp1 gLen (eVar 2))]]))) [some (.own true p0), some (.val p1), none] (fun s => w0 s[0]? fun c => Q (.val .none) (some c)) (fun f s => wRt f fun r => w0 s[0]? fun c => Q r (some c)) := wF_bodyS

noncomputable def den__law_worth : DM :=
  sRet (eOp1 gSum (eComp [2] (iSeq (eVar 1)) (bName 2) tYes (eOp2 gIx (eVar 0) (eVar 2))))
noncomputable def f__law_worth : DF := bodyF 3 den__law_worth
theorem wd__law_worth (p0 p1 : D) (Q : RV → Option D → Prop) : wF f__law_worth none [p0, p1] Q = wS (sRet (eOp1 gSum (eComp [2] (iSeq (eVar 1)) (bName 2) tYes (eOp2 gIx (eVar 0) (eVar 2))))) [some (.val p0), some (.val p1), none] (fun _ => Q (.val .none) none) (fun f _ => wRt f fun r => Q r none) := wF_body

noncomputable def den__law_others : DM :=
  sRet (eOp1 gTuple (eComp [1] (iRng1 (eOp1 gLen (eOp2 gIx (eVar 0) (eC (.int 0))))) (bName 1) (tOf (eOp2 gNotIn (eVar 1) (eOp2 gIx (eVar 0) (eC (.int 1))))) (eVar 1)))
noncomputable def f__law_others : DF := bodyF 2 den__law_others
theorem wd__law_others (p0 : D) (Q : RV → Option D → Prop) : wF f__law_others none [p0] Q = wS (sRet (eOp1 gTuple (eComp [1] (iRng1 (eOp1 gLen (eOp2 gIx (eVar 0) (eC (.int 0))))) (bName 1) (tOf (eOp2 gNotIn (eVar 1) (eOp2 gIx (eVar 0) (eC (.int 1))))) (eVar 1)))) [some (.val p0), none] (fun _ => Q (.val .none) none) (fun f _ => wRt f fun r => Q r none) := wF_body

noncomputable def den_is_part : DM :=
  sSeq (sIf (tOr (tNot (tOf (eOp1 (gIsi [.tuple]) (eVar 0)))) (tNot (tOf (eOp1 gAll (eComp [2] (iSeq (eVar 0)) (bName 2) tYes (eCall f_is_between [] [eVar 2, eC (.int 0), eC (.int 12)])))))) (sRet (eC (.bool false))) sNext) (sSeq (sIf (tNot (tOf (eOp1 gAll (eComp [2] (iSeq (eVar 0)) (bName 2) tYes (eOp2 gIn (eVar 2) (eVar 1)))))) (sRet (eC (.bool false))) sNext) (sRet (eOp1 gAll (eComp [3, 4] (iZip (eVar 0) (eSl (eVar 0) (pPart (eC (.int 1))) pNone)) (bTup [bName 3, bName 4]) tYes (eOp2 gLt (eVar 3) (eVar 4))))))
noncomputable def f_is_part : DF := bodyF 5 den_is_part
theorem wd_is_part (p0 p1 : D) (Q : RV → Option D → Prop) : wF f_is_part none [p0, p1] Q = wS (sSeq (sIf (tOr (tNot (tOf (eOp1 (gIsi [.tuple]) (eVar 0)))) (tNot (tOf (eOp1 gAll (eComp [2] (iSeq (eVar 0)) (bName 2) tYes (eCall f_is_between [] [eVar 2, eC (.int 0), eC (.int 12)])))))) (sRet (eC (.bool false))) sNext) (sSeq (sIf (tNot (tOf (eOp1 gAll (eComp [2] (iSeq (eVar 0)) (bName 2) tYes (eOp2 gIn (eVar 2) (eVar 1)))))) (sRet (eC (.bool false))) sNext) (sRet (eOp1 gAll (eComp [3, 4] (iZip (eVar 0) (eSl (eVar 0) (pPart (eC (.int 1))) pNone)) (bTup [bName 3, bName 4]) tYes (eOp2 gLt (eVar 3) (eVar 4))))))) [some (.val p0), some (.val p1), none, none, none] (fun _ => Q (.val .none) none) (fun f _ => wRt f fun r => Q r none) := wF_body

noncomputable def den_fits : DM :=
  sSeq (sIf (tOr (tNot (tOf (eOp1 (gIsi [.tuple]) (eVar 1)))) (tOf (eOp2 gNe (eOp1 gLen (eVar 1)) (eC (.int 2))))) (sRet (eC (.bool false))) sNext) (sRet (eAnd (eCall f_is_part [] [eOp2 gIx (eVar 1) (eC (.int 0)), eOp2 gIx (eVar 0) (eC (.int 1))]) (eCall f_is_part [] [eOp2 gIx (eVar 1) (eC (.int 1)), eCall f_others_of [] [eVar 0]])))
noncomputable def f_fits : DF := bodyF 2 den_fits
theorem wd_fits (p0 p1 : D) (Q : RV → Option D → Prop) : wF f_fits none [p0, p1] Q = wS (sSeq (sIf (tOr (tNot (tOf (eOp1 (gIsi [.tuple]) (eVar 1)))) (tOf (eOp2 gNe (eOp1 gLen (eVar 1)) (eC (.int 2))))) (sRet (eC (.bool false))) sNext) (sRet (eAnd (eCall f_is_part [] [eOp2 gIx (eVar 1) (eC (.int 0)), eOp2 gIx (eVar 0) (eC (.int 1))]) (eCall f_is_part [] [eOp2 gIx (eVar 1) (eC (.int 1)), eCall f_others_of [] [eVar 0]])))) [some (.val p0), some (.val p1)] (fun _ => Q (.val .none) none) (fun f _ => wRt f fun r => Q r none) := wF_body

noncomputable def den_is_payment : DM :=
  sSeq (sExpr (eCall f_check_state [] [eVar 0])) (sRet (eCall f_fits [] [eVar 0, eVar 1]))
noncomputable def f_is_payment : DF := bodyF 2 den_is_payment
theorem wd_is_payment (p0 p1 : D) (Q : RV → Option D → Prop) : wF f_is_payment none [p0, p1] Q = wS (sSeq (sExpr (eCall f_check_state [] [eVar 0])) (sRet (eCall f_fits [] [eVar 0, eVar 1]))) [some (.val p0), some (.val p1)] (fun _ => Q (.val .none) none) (fun f _ => wRt f fun r => Q r none) := wF_body

noncomputable def den_check_payment : DM :=
  sSeq (sExpr (eCall f_check_state [] [eVar 0])) (sIf (tNot (tOf (eCall f_fits [] [eVar 0, eVar 1]))) (sRaise "InvalidPayment") sNext)
noncomputable def f_check_payment : DF := bodyF 2 den_check_payment
theorem wd_check_payment (p0 p1 : D) (Q : RV → Option D → Prop) : wF f_check_payment none [p0, p1] Q = wS (sSeq (sExpr (eCall f_check_state [] [eVar 0])) (sIf (tNot (tOf (eCall f_fits [] [eVar 0, eVar 1]))) (sRaise "InvalidPayment") sNext)) [some (.val p0), some (.val p1)] (fun _ => Q (.val .none) none) (fun f _ => wRt f fun r => Q r none) := wF_body

noncomputable def den_price_in : DM :=
  sRet (eOp2 gSub (eCall f_worth [] [eVar 0, eOp2 gIx (eVar 1) (eC (.int 0))]) (eCall f_worth [] [eVar 0, eOp2 gIx (eVar 1) (eC (.int 1))]))
noncomputable def f_price_in : DF := bodyF 2 den_price_in
theorem wd_price_in (p0 p1 : D) (Q : RV → Option D → Prop) : wF f_price_in none [p0, p1] Q = wS (sRet (eOp2 gSub (eCall f_worth [] [eVar 0, eOp2 gIx (eVar 1) (eC (.int 0))]) (eCall f_worth [] [eVar 0, eOp2 gIx (eVar 1) (eC (.int 1))]))) [some (.val p0), some (.val p1)] (fun _ => Q (.val .none) none) (fun f _ => wRt f fun r => Q r none) := wF_body

noncomputable def den_price_of : DM :=
  sSeq (sExpr (eCall f_check_payment [] [eVar 0, eVar 1])) (sRet (eCall f_price_in [] [eOp2 gIx (eVar 0) (eC (.int 0)), eVar 1]))
noncomputable def f_price_of : DF := bodyF 2 den_price_of
theorem wd_price_of (p0 p1 : D) (Q : RV → Option D → Prop) : wF f_price_of none [p0, p1] Q = wS (sSeq (sExpr (eCall f_check_payment [] [eVar 0, eVar 1])) (sRet (eCall f_price_in [] [eOp2 gIx (eVar 0) (eC (.int 0)), eVar 1]))) [some (.val p0), some (.val p1)] (fun _ => Q (.val .none) none) (fun f _ => wRt f fun r => Q r none) := wF_body

noncomputable def den_behind : DM :=
  sSeq (sSet (bName 2) (eComp [3] (iSeq (eOp2 gIx (eVar 0) (eC (.int 1)))) (bName 3) (tOf (eOp2 gNotIn (eVar 3) (eOp2 gIx (eVar 1) (eC (.int 0))))) (eVar 3))) (sRet (eTup [eOp2 gIx (eVar 0) (eC (.int 0)), eOp1 gTuple (eOp1 gSorted (eOp2 gAdd (eVar 2) (eOp1 gList (eOp2 gIx (eVar 1) (eC (.int 1))))))]))
noncomputable def f_behind : DF := bodyF 4 den_behind
theorem wd_behind (p0 p1 : D) (Q : RV → Option D → Prop) : wF f_behind none [p0, p1] Q = wS (sSeq (sSet (bName 2) (eComp [3] (iSeq (eOp2 gIx (eVar 0) (eC (.int 1)))) (bName 3) (tOf (eOp2 gNotIn (eVar 3) (eOp2 gIx (eVar 1) (eC (.int 0))))) (eVar 3))) (sRet (eTup [eOp2 gIx (eVar 0) (eC (.int 0)), eOp1 gTuple (eOp1 gSorted (eOp2 gAdd (eVar 2) (eOp1 gList (eOp2 gIx (eVar 1) (eC (.int 1))))))]))) [some (.val p0), some (.val p1), none, none] (fun _ => Q (.val .none) none) (fun f _ => wRt f fun r => Q r none) := wF_body

noncomputable def den_after : DM :=
  sSeq (sExpr (eCall f_check_payment [] [eVar 0, eVar 1])) (sRet (eCall f_behind [] [eVar 0, eVar 1]))
noncomputable def f_after : DF := bodyF 2 den_after
theorem wd_after (p0 p1 : D) (Q : RV → Option D → Prop) : wF f_after none [p0, p1] Q = wS (sSeq (sExpr (eCall f_check_payment [] [eVar 0, eVar 1])) (sRet (eCall f_behind [] [eVar 0, eVar 1]))) [some (.val p0), some (.val p1)] (fun _ => Q (.val .none) none) (fun f _ => wRt f fun r => Q r none) := wF_body

noncomputable def den__law_behind : DM :=
  sSeq (sSet (bName 2) (eComp [3] (iSeq (eOp2 gIx (eVar 0) (eC (.int 1)))) (bName 3) (tOf (eOp2 gNotIn (eVar 3) (eOp2 gIx (eVar 1) (eC (.int 0))))) (eVar 3))) (sRet (eTup [eOp2 gIx (eVar 0) (eC (.int 0)), eOp1 gTuple (eOp1 gSorted (eOp2 gAdd (eVar 2) (eOp1 gList (eOp2 gIx (eVar 1) (eC (.int 1))))))]))
noncomputable def f__law_behind : DF := bodyF 4 den__law_behind
theorem wd__law_behind (p0 p1 : D) (Q : RV → Option D → Prop) : wF f__law_behind none [p0, p1] Q = wS (sSeq (sSet (bName 2) (eComp [3] (iSeq (eOp2 gIx (eVar 0) (eC (.int 1)))) (bName 3) (tOf (eOp2 gNotIn (eVar 3) (eOp2 gIx (eVar 1) (eC (.int 0))))) (eVar 3))) (sRet (eTup [eOp2 gIx (eVar 0) (eC (.int 0)), eOp1 gTuple (eOp1 gSorted (eOp2 gAdd (eVar 2) (eOp1 gList (eOp2 gIx (eVar 1) (eC (.int 1))))))]))) [some (.val p0), some (.val p1), none, none] (fun _ => Q (.val .none) none) (fun f _ => wRt f fun r => Q r none) := wF_body

noncomputable def den__law_random_payment : DM :=
  sRet (eTup [eCallS f__law_some [] 0 [eOp2 gIx (eVar 1) (eC (.int 1))], eCallS f__law_some [] 0 [eCall f__law_others [] [eVar 1]]])
noncomputable def f__law_random_payment : DF := bodyF 2 den__law_random_payment
theorem wd__law_random_payment (p0 p1 : D) (Q : RV → Option D → Prop) : wF f__law_random_payment (some p0) [p1] Q = wS (sRet (eTup [eCallS f__law_some [] 0 [eOp2 gIx (eVar 1) (eC (.int 1))], eCallS f__law_some [] 0 [eCall f__law_others [] [eVar 1]]])) [some (.own true p0), some (.val p1)] (fun s => w0 s[0]? fun c => Q (.val .none) (some c)) (fun f s => wRt f fun r => w0 s[0]? fun c => Q r (some c)) := wF_bodyS

noncomputable def den_exchange : DM :=
  sSeq (sSet (bName 2) (eOp1 gTuple (eComp [3] (iSeq (eOp2 gIx (eVar 0) (eC (.int 1)))) (bName 3) (tOf (eOp2 gNotIn (eVar 3) (eVar 1))) (eVar 3)))) (sRet (eTup [eVar 2, eOp1 gTuple (eComp [3] (iSeq (eVar 1)) (bName 3) (tOf (eOp2 gNotIn (eVar 3) (eOp2 gIx (eVar 0) (eC (.int 1))))) (eVar 3))]))
noncomputable def f_exchange : DF := bodyF 4 den_exchange
theorem wd_exchange (p0 p1 : D) (Q : RV → Option D → Prop) : wF f_exchange none [p0, p1] Q = wS (sSeq (sSet (bName 2) (eOp1 gTuple (eComp [3] (iSeq (eOp2 gIx (eVar 0) (eC (.int 1)))) (bName 3) (tOf (eOp2 gNotIn (eVar 3) (eVar 1))) (eVar 3)))) (sRet (eTup [eVar 2, eOp1 gTuple (eComp [3] (iSeq (eVar 1)) (bName 3) (tOf (eOp2 gNotIn (eVar 3) (eOp2 gIx (eVar 0) (eC (.int 1))))) (eVar 3))]))) [some (.val p0), some (.val p1), none, none] (fun _ => Q (.val .none) none) (fun f _ => wRt f fun r => Q r none) := wF_body

noncomputable def den_check_price : DM :=
  sIf (tNot (tOf (eCall f_is_between [] [eVar 0, eOp1 gNeg (eC (.int 12000)), eC (.int 12000)]))) (sRaise "InvalidPrice") sNext
noncomputable def f_check_price : DF := bodyF 1 den_check_price
theorem wd_check_price (p0 : D) (Q : RV → Option D → Prop) : wF f_check_price none [p0] Q = wS (sIf (tNot (tOf (eCall f_is_between [] [eVar 0, eOp1 gNeg (eC (.int 12000)), eC (.int 12000)]))) (sRaise "InvalidPrice") sNext) [some (.val p0)] (fun _ => Q (.val .none) none) (fun f _ => wRt f fun r => Q r none) := wF_body

noncomputable def den_all_sets : DM :=
  sSeq (sSet (bOwn 1) (eLst [eTup []])) (sSeq (sFor (iRng1 (eVar 0)) (bName 2) (sExt 1 (eCompB [3] 1 (bName 3) tYes (eOp2 gAdd (eVar 3) (eTup [eVar 2]))))) (sRet (eMove 1)))
noncomputable def f_all_sets : DF := bodyF 4 den_all_sets
theorem wd_all_sets (p0 : D) (Q : RV → Option D → Prop) : wF f_all_sets none [p0] Q = wS (sSeq (sSet (bOwn 1) (eLst [eTup []])) (sSeq (sFor (iRng1 (eVar 0)) (bName 2) (sExt 1 (eCompB [3] 1 (bName 3) tYes (eOp2 gAdd (eVar 3) (eTup [eVar 2]))))) (sRet (eMove 1)))) [some (.val p0), none, none, none] (fun _ => Q (.val .none) none) (fun f _ => wRt f fun r => Q r none) := wF_body

noncomputable def den_counts_for : DM :=
  sSeq (sSet (bOwn 1) (eDict1 (eC (.int 0)) (eC (.int 1)))) (sSeq (sFor (iSeq (eVar 0)) (bName 2) (sSeq (sSet (bOwn 3) (eOp1 gCopy (eBor 1))) (sSeq (sForK 1 (bName 4) (sPut 3 (eOp2 gAdd (eVar 4) (eVar 2)) (eOp2 gAdd (eGet (eBor 3) (eOp2 gAdd (eVar 4) (eVar 2)) (eC (.int 0))) (eOp2 gIx (eBor 1) (eVar 4))))) (sSet (bOwn 1) (eMove 3))))) (sRet (eMove 1)))
noncomputable def f_counts_for : DF := bodyF 5 den_counts_for
theorem wd_counts_for (p0 : D) (Q : RV → Option D → Prop) : wF f_counts_for none [p0] Q = wS (sSeq (sSet (bOwn 1) (eDict1 (eC (.int 0)) (eC (.int 1)))) (sSeq (sFor (iSeq (eVar 0)) (bName 2) (sSeq (sSet (bOwn 3) (eOp1 gCopy (eBor 1))) (sSeq (sForK 1 (bName 4) (sPut 3 (eOp2 gAdd (eVar 4) (eVar 2)) (eOp2 gAdd (eGet (eBor 3) (eOp2 gAdd (eVar 4) (eVar 2)) (eC (.int 0))) (eOp2 gIx (eBor 1) (eVar 4))))) (sSet (bOwn 1) (eMove 3))))) (sRet (eMove 1)))) [some (.val p0), none, none, none, none] (fun _ => Q (.val .none) none) (fun f _ => wRt f fun r => Q r none) := wF_body

noncomputable def den_ways_to : DM :=
  sRet (eGet (eCall f_counts_for [] [eVar 0]) (eVar 1) (eC (.int 0)))
noncomputable def f_ways_to : DF := bodyF 2 den_ways_to
theorem wd_ways_to (p0 p1 : D) (Q : RV → Option D → Prop) : wF f_ways_to none [p0, p1] Q = wS (sRet (eGet (eCall f_counts_for [] [eVar 0]) (eVar 1) (eC (.int 0)))) [some (.val p0), some (.val p1)] (fun _ => Q (.val .none) none) (fun f _ => wRt f fun r => Q r none) := wF_body

noncomputable def den_can_pay : DM :=
  sSeq (sExpr (eCall f_check_state [] [eVar 0])) (sSeq (sExpr (eCall f_check_price [] [eVar 1])) (sRet (eOp2 gGt (eCall f_ways_to [] [eOp2 gIx (eVar 0) (eC (.int 0)), eOp2 gAdd (eVar 1) (eCall f_total_of_second [] [eVar 0])]) (eC (.int 0)))))
noncomputable def f_can_pay : DF := bodyF 2 den_can_pay
theorem wd_can_pay (p0 p1 : D) (Q : RV → Option D → Prop) : wF f_can_pay none [p0, p1] Q = wS (sSeq (sExpr (eCall f_check_state [] [eVar 0])) (sSeq (sExpr (eCall f_check_price [] [eVar 1])) (sRet (eOp2 gGt (eCall f_ways_to [] [eOp2 gIx (eVar 0) (eC (.int 0)), eOp2 gAdd (eVar 1) (eCall f_total_of_second [] [eVar 0])]) (eC (.int 0)))))) [some (.val p0), some (.val p1)] (fun _ => Q (.val .none) none) (fun f _ => wRt f fun r => Q r none) := wF_body

noncomputable def den_payments_for : DM :=
  sSeq (sSet (bName 2) (eOp2 gIx (eVar 0) (eC (.int 0)))) (sSeq (sSet (bName 3) (eOp2 gSub (eCall f_worth [] [eVar 2, eOp2 gIx (eVar 0) (eC (.int 1))]) (eVar 1))) (sRet (eOp1 gSorted (eComp [4] (iSeq (eCall f_all_sets [] [eOp1 gLen (eVar 2)])) (bName 4) (tOf (eOp2 gEq (eCall f_worth [] [eVar 2, eVar 4]) (eVar 3))) (eCall f_exchange [] [eVar 0, eVar 4])))))
noncomputable def f_payments_for : DF := bodyF 5 den_payments_for
theorem wd_payments_for (p0 p1 : D) (Q : RV → Option D → Prop) : wF f_payments_for none [p0, p1] Q = wS (sSeq (sSet (bName 2) (eOp2 gIx (eVar 0) (eC (.int 0)))) (sSeq (sSet (bName 3) (eOp2 gSub (eCall f_worth [] [eVar 2, eOp2 gIx (eVar 0) (eC (.int 1))]) (eVar 1))) (sRet (eOp1 gSorted (eComp [4] (iSeq (eCall f_all_sets [] [eOp1 gLen (eVar 2)])) (bName 4) (tOf (eOp2 gEq (eCall f_worth [] [eVar 2, eVar 4]) (eVar 3))) (eCall f_exchange [] [eVar 0, eVar 4])))))) [some (.val p0), some (.val p1), none, none, none] (fun _ => Q (.val .none) none) (fun f _ => wRt f fun r => Q r none) := wF_body

noncomputable def den_pay : DM :=
  sSeq (sExpr (eCall f_check_state [] [eVar 0])) (sSeq (sExpr (eCall f_check_price [] [eVar 1])) (sSeq (sSet (bName 2) (eCall f_payments_for [] [eVar 0, eVar 1])) (sRet (eIf (tOf (eOp2 gNe (eVar 2) (eLst []))) (eOp2 gIx (eVar 2) (eC (.int 0))) (eC .none)))))
noncomputable def f_pay : DF := bodyF 3 den_pay
theorem wd_pay (p0 p1 : D) (Q : RV → Option D → Prop) : wF f_pay none [p0, p1] Q = wS (sSeq (sExpr (eCall f_check_state [] [eVar 0])) (sSeq (sExpr (eCall f_check_price [] [eVar 1])) (sSeq (sSet (bName 2) (eCall f_payments_for [] [eVar 0, eVar 1])) (sRet (eIf (tOf (eOp2 gNe (eVar 2) (eLst []))) (eOp2 gIx (eVar 2) (eC (.int 0))) (eC .none)))))) [some (.val p0), some (.val p1), none] (fun _ => Q (.val .none) none) (fun f _ => wRt f fun r => Q r none) := wF_body

noncomputable def den_payable : DM :=
  sSeq (sExpr (eCall f_check_state [] [eVar 0])) (sSeq (sSet (bName 1) (eCall f_total_of_second [] [eVar 0])) (sRet (eComp [2] (iSeq (eOp1 gSorted (eCall f_counts_for [] [eOp2 gIx (eVar 0) (eC (.int 0))]))) (bName 2) tYes (eOp2 gSub (eVar 2) (eVar 1)))))
noncomputable def f_payable : DF := bodyF 3 den_payable
theorem wd_payable (p0 : D) (Q : RV → Option D → Prop) : wF f_payable none [p0] Q = wS (sSeq (sExpr (eCall f_check_state [] [eVar 0])) (sSeq (sSet (bName 1) (eCall f_total_of_second [] [eVar 0])) (sRet (eComp [2] (iSeq (eOp1 gSorted (eCall f_counts_for [] [eOp2 gIx (eVar 0) (eC (.int 0))]))) (bName 2) tYes (eOp2 gSub (eVar 2) (eVar 1)))))) [some (.val p0), none, none] (fun _ => Q (.val .none) none) (fun f _ => wRt f fun r => Q r none) := wF_body

noncomputable def den__law_sets : DM :=
  sSeq (sSet (bName 1) (eLst [eTup []])) (sSeq (sFor (iSeq (eVar 0)) (bName 2) (sSet (bName 1) (eOp2 gAdd (eVar 1) (eComp [3] (iSeq (eVar 1)) (bName 3) tYes (eOp2 gAdd (eVar 3) (eTup [eVar 2])))))) (sRet (eVar 1)))
noncomputable def f__law_sets : DF := bodyF 4 den__law_sets
theorem wd__law_sets (p0 : D) (Q : RV → Option D → Prop) : wF f__law_sets none [p0] Q = wS (sSeq (sSet (bName 1) (eLst [eTup []])) (sSeq (sFor (iSeq (eVar 0)) (bName 2) (sSet (bName 1) (eOp2 gAdd (eVar 1) (eComp [3] (iSeq (eVar 1)) (bName 3) tYes (eOp2 gAdd (eVar 3) (eTup [eVar 2])))))) (sRet (eVar 1)))) [some (.val p0), none, none, none] (fun _ => Q (.val .none) none) (fun f _ => wRt f fun r => Q r none) := wF_body

noncomputable def den__law_payments : DM :=
  sSeq (sPar [(false, 1), (true, 2)] [eOp2 gIx (eVar 0) (eC (.int 0)), eLst []]) (sSeq (sFor (iSeq (eCall f__law_sets [] [eOp2 gIx (eVar 0) (eC (.int 1))])) (bName 3) (sFor (iSeq (eCall f__law_sets [] [eCall f__law_others [] [eVar 0]])) (bName 4) (sAppend 2 (eTup [eOp2 gSub (eCall f__law_worth [] [eVar 1, eVar 3]) (eCall f__law_worth [] [eVar 1, eVar 4]), eTup [eVar 3, eVar 4]])))) (sRet (eMove 2)))
noncomputable def f__law_payments : DF := bodyF 5 den__law_payments
theorem wd__law_payments (p0 : D) (Q : RV → Option D → Prop) : wF f__law_payments none [p0] Q = wS (sSeq (sPar [(false, 1), (true, 2)] [eOp2 gIx (eVar 0) (eC (.int 0)), eLst []]) (sSeq (sFor (iSeq (eCall f__law_sets [] [eOp2 gIx (eVar 0) (eC (.int 1))])) (bName 3) (sFor (iSeq (eCall f__law_sets [] [eCall f__law_others [] [eVar 0]])) (bName 4) (sAppend 2 (eTup [eOp2 gSub (eCall f__law_worth [] [eVar 1, eVar 3]) (eCall f__law_worth [] [eVar 1, eVar 4]), eTup [eVar 3, eVar 4]])))) (sRet (eMove 2)))) [some (.val p0), none, none, none, none] (fun _ => Q (.val .none) none) (fun f _ => wRt f fun r => Q r none) := wF_body

noncomputable def den__law_sums : DM :=
  sSeq (sSet (bOwn 1) (eDict1 (eC (.int 0)) (eC (.int 1)))) (sSeq (sFor (iSeq (eVar 0)) (bName 2) (sSeq (sSet (bOwn 3) eDictK) (sSeq (sForK 1 (bName 4) (sSeq (sPut 3 (eVar 4) (eOp2 gAdd (eGet (eBor 3) (eVar 4) (eC (.int 0))) (eOp2 gIx (eBor 1) (eVar 4)))) (sPut 3 (eOp2 gAdd (eVar 4) (eVar 2)) (eOp2 gAdd (eGet (eBor 3) (eOp2 gAdd (eVar 4) (eVar 2)) (eC (.int 0))) (eOp2 gIx (eBor 1) (eVar 4)))))) (sSet (bOwn 1) (eMove 3))))) (sRet (eMove 1)))
noncomputable def f__law_sums : DF := bodyF 5 den__law_sums
theorem wd__law_sums (p0 : D) (Q : RV → Option D → Prop) : wF f__law_sums none [p0] Q = wS (sSeq (sSet (bOwn 1) (eDict1 (eC (.int 0)) (eC (.int 1)))) (sSeq (sFor (iSeq (eVar 0)) (bName 2) (sSeq (sSet (bOwn 3) eDictK) (sSeq (sForK 1 (bName 4) (sSeq (sPut 3 (eVar 4) (eOp2 gAdd (eGet (eBor 3) (eVar 4) (eC (.int 0))) (eOp2 gIx (eBor 1) (eVar 4)))) (sPut 3 (eOp2 gAdd (eVar 4) (eVar 2)) (eOp2 gAdd (eGet (eBor 3) (eOp2 gAdd (eVar 4) (eVar 2)) (eC (.int 0))) (eOp2 gIx (eBor 1) (eVar 4)))))) (sSet (bOwn 1) (eMove 3))))) (sRet (eMove 1)))) [some (.val p0), none, none, none, none] (fun _ => Q (.val .none) none) (fun f _ => wRt f fun r => Q r none) := wF_body

noncomputable def den__law_price : DM :=
  sSeq (sSet (bTup [bName 2, bName 3]) (eCallS f__law_random_payment [] 0 [eVar 1])) (sSeq (sSet (bName 4) (eOp2 gSub (eCall f__law_worth [] [eOp2 gIx (eVar 1) (eC (.int 0)), eVar 2]) (eCall f__law_worth [] [eOp2 gIx (eVar 1) (eC (.int 0)), eVar 3]))) (sSeq (sSet (bName 4) (eOp2 gAdd (eVar 4) (eCallS f__law_choice [] 0 [eLst [eC (.int 0), eC (.int 0), eC (.int 0), eC (.int 1), eOp1 gNeg (eC (.int 1)), eOp2 gSub (eCallS f__law_draw [] 0 [eC (.int 99)]) (eC (.int 49))]]))) (sRet (eOp2 gMax2 (eOp1 gNeg (eC (.int 12000))) (eOp2 gMin2 (eC (.int 12000)) (eVar 4))))))
noncomputable def f__law_price : DF := bodyF 5 den__law_price
theorem wd__law_price (p0 p1 : D) (Q : RV → Option D → Prop) : wF f__law_price (some p0) [p1] Q = wS (sSeq (sSet (bTup [bName 2, bName 3]) (eCallS f__law_random_payment [] 0 [eVar 1])) (sSeq (sSet (bName 4) (eOp2 gSub (eCall f__law_worth [] [eOp2 gIx (eVar 1) (eC (.int 0)), eVar 2]) (eCall f__law_worth [] [eOp2 gIx (eVar 1) (eC (.int 0)), eVar 3]))) (sSeq (sSet (bName 4) (eOp2 gAdd (eVar 4) (eCallS f__law_choice [] 0 [eLst [eC (.int 0), eC (.int 0), eC (.int 0), eC (.int 1), eOp1 gNeg (eC (.int 1)), eOp2 gSub (eCallS f__law_draw [] 0 [eC (.int 99)]) (eC (.int 49))]]))) (sRet (eOp2 gMax2 (eOp1 gNeg (eC (.int 12000))) (eOp2 gMin2 (eC (.int 12000)) (eVar 4))))))) [some (.own true p0), some (.val p1), none, none, none] (fun s => w0 s[0]? fun c => Q (.val .none) (some c)) (fun f s => wRt f fun r => w0 s[0]? fun c => Q r (some c)) := wF_bodyS

noncomputable def den_next_payable : DM :=
  sSeq (sExpr (eCall f_check_state [] [eVar 0])) (sSeq (sExpr (eCall f_check_price [] [eVar 1])) (sSeq (sSet (bName 2) (eComp [3] (iSeq (eCall f_payable [] [eVar 0])) (bName 3) (tOf (eOp2 gGe (eVar 3) (eVar 1))) (eVar 3))) (sRet (eIf (tOf (eOp2 gNe (eVar 2) (eLst []))) (eOp2 gIx (eVar 2) (eC (.int 0))) (eC .none)))))
noncomputable def f_next_payable : DF := bodyF 4 den_next_payable
theorem wd_next_payable (p0 p1 : D) (Q : RV → Option D → Prop) : wF f_next_payable none [p0, p1] Q = wS (sSeq (sExpr (eCall f_check_state [] [eVar 0])) (sSeq (sExpr (eCall f_check_price [] [eVar 1])) (sSeq (sSet (bName 2) (eComp [3] (iSeq (eCall f_payable [] [eVar 0])) (bName 3) (tOf (eOp2 gGe (eVar 3) (eVar 1))) (eVar 3))) (sRet (eIf (tOf (eOp2 gNe (eVar 2) (eLst []))) (eOp2 gIx (eVar 2) (eC (.int 0))) (eC .none)))))) [some (.val p0), some (.val p1), none, none] (fun _ => Q (.val .none) none) (fun f _ => wRt f fun r => Q r none) := wF_body

noncomputable def den__law_has_gap : DM :=
  sSeq (sSet (bName 1) (eC (.int 0))) (sSeq (sFor (iSeq (eOp1 gSorted (eVar 0))) (bName 2) (sSeq (sIf (tOf (eOp2 gGt (eVar 2) (eOp2 gAdd (eVar 1) (eC (.int 1))))) (sRet (eC (.bool true))) sNext) (sSet (bName 1) (eOp2 gAdd (eVar 1) (eVar 2))))) (sRet (eC (.bool false))))
noncomputable def f__law_has_gap : DF := bodyF 3 den__law_has_gap
theorem wd__law_has_gap (p0 : D) (Q : RV → Option D → Prop) : wF f__law_has_gap none [p0] Q = wS (sSeq (sSet (bName 1) (eC (.int 0))) (sSeq (sFor (iSeq (eOp1 gSorted (eVar 0))) (bName 2) (sSeq (sIf (tOf (eOp2 gGt (eVar 2) (eOp2 gAdd (eVar 1) (eC (.int 1))))) (sRet (eC (.bool true))) sNext) (sSet (bName 1) (eOp2 gAdd (eVar 1) (eVar 2))))) (sRet (eC (.bool false))))) [some (.val p0), none, none] (fun _ => Q (.val .none) none) (fun f _ => wRt f fun r => Q r none) := wF_body

noncomputable def den_can_give : DM :=
  sSeq (sExpr (eCall f_check_state [] [eVar 0])) (sSeq (sExpr (eCall f_check_price [] [eVar 1])) (sRet (eOp2 gGt (eCall f_ways_to [] [eComp [2] (iSeq (eOp2 gIx (eVar 0) (eC (.int 1)))) (bName 2) tYes (eOp2 gIx (eOp2 gIx (eVar 0) (eC (.int 0))) (eVar 2)), eVar 1]) (eC (.int 0)))))
noncomputable def f_can_give : DF := bodyF 3 den_can_give
theorem wd_can_give (p0 p1 : D) (Q : RV → Option D → Prop) : wF f_can_give none [p0, p1] Q = wS (sSeq (sExpr (eCall f_check_state [] [eVar 0])) (sSeq (sExpr (eCall f_check_price [] [eVar 1])) (sRet (eOp2 gGt (eCall f_ways_to [] [eComp [2] (iSeq (eOp2 gIx (eVar 0) (eC (.int 1)))) (bName 2) tYes (eOp2 gIx (eOp2 gIx (eVar 0) (eC (.int 0))) (eVar 2)), eVar 1]) (eC (.int 0)))))) [some (.val p0), some (.val p1), none] (fun _ => Q (.val .none) none) (fun f _ => wRt f fun r => Q r none) := wF_body

noncomputable def den_most_equal : DM :=
  sSeq (sExpr (eCall f_check_state [] [eVar 0])) (sSeq (sSet (bName 1) (eOp1 gSum (eOp2 gIx (eVar 0) (eC (.int 0))))) (sRet (eOp1 gMinL (eComp [2] (iKeysF (eCall f_counts_for [] [eOp2 gIx (eVar 0) (eC (.int 0))])) (bName 2) tYes (eOp1 gAbs (eOp2 gSub (eVar 1) (eOp2 gMul (eC (.int 2)) (eVar 2))))))))
noncomputable def f_most_equal : DF := bodyF 3 den_most_equal
theorem wd_most_equal (p0 : D) (Q : RV → Option D → Prop) : wF f_most_equal none [p0] Q = wS (sSeq (sExpr (eCall f_check_state [] [eVar 0])) (sSeq (sSet (bName 1) (eOp1 gSum (eOp2 gIx (eVar 0) (eC (.int 0))))) (sRet (eOp1 gMinL (eComp [2] (iKeysF (eCall f_counts_for [] [eOp2 gIx (eVar 0) (eC (.int 0))])) (bName 2) tYes (eOp1 gAbs (eOp2 gSub (eVar 1) (eOp2 gMul (eC (.int 2)) (eVar 2))))))))) [some (.val p0), none, none] (fun _ => Q (.val .none) none) (fun f _ => wRt f fun r => Q r none) := wF_body

noncomputable def den_count_ways : DM :=
  sSeq (sExpr (eCall f_check_state [] [eVar 0])) (sSeq (sExpr (eCall f_check_price [] [eVar 1])) (sRet (eCall f_ways_to [] [eOp2 gIx (eVar 0) (eC (.int 0)), eOp2 gAdd (eVar 1) (eCall f_total_of_second [] [eVar 0])])))
noncomputable def f_count_ways : DF := bodyF 2 den_count_ways
theorem wd_count_ways (p0 p1 : D) (Q : RV → Option D → Prop) : wF f_count_ways none [p0, p1] Q = wS (sSeq (sExpr (eCall f_check_state [] [eVar 0])) (sSeq (sExpr (eCall f_check_price [] [eVar 1])) (sRet (eCall f_ways_to [] [eOp2 gIx (eVar 0) (eC (.int 0)), eOp2 gAdd (eVar 1) (eCall f_total_of_second [] [eVar 0])])))) [some (.val p0), some (.val p1)] (fun _ => Q (.val .none) none) (fun f _ => wRt f fun r => Q r none) := wF_body

noncomputable def den_payment_at : DM :=
  sSeq (sExpr (eCall f_check_state [] [eVar 0])) (sSeq (sExpr (eCall f_check_price [] [eVar 1])) (sSeq (sSet (bName 3) (eCall f_payments_for [] [eVar 0, eVar 1])) (sSeq (sIf (tNot (tOf (eCall f_is_between [] [eVar 2, eC (.int 0), eOp2 gSub (eOp1 gLen (eVar 3)) (eC (.int 1))]))) (sRaise "InvalidNumber") sNext) (sRet (eOp2 gIx (eVar 3) (eVar 2))))))
noncomputable def f_payment_at : DF := bodyF 4 den_payment_at
theorem wd_payment_at (p0 p1 p2 : D) (Q : RV → Option D → Prop) : wF f_payment_at none [p0, p1, p2] Q = wS (sSeq (sExpr (eCall f_check_state [] [eVar 0])) (sSeq (sExpr (eCall f_check_price [] [eVar 1])) (sSeq (sSet (bName 3) (eCall f_payments_for [] [eVar 0, eVar 1])) (sSeq (sIf (tNot (tOf (eCall f_is_between [] [eVar 2, eC (.int 0), eOp2 gSub (eOp1 gLen (eVar 3)) (eC (.int 1))]))) (sRaise "InvalidNumber") sNext) (sRet (eOp2 gIx (eVar 3) (eVar 2))))))) [some (.val p0), some (.val p1), some (.val p2), none] (fun _ => Q (.val .none) none) (fun f _ => wRt f fun r => Q r none) := wF_body

noncomputable def den_payment_number : DM :=
  sSeq (sExpr (eCall f_check_payment [] [eVar 0, eVar 1])) (sRet (eIndex (eCall f_payments_for [] [eVar 0, eCall f_price_in [] [eOp2 gIx (eVar 0) (eC (.int 0)), eVar 1]]) (eVar 1)))
noncomputable def f_payment_number : DF := bodyF 2 den_payment_number
theorem wd_payment_number (p0 p1 : D) (Q : RV → Option D → Prop) : wF f_payment_number none [p0, p1] Q = wS (sSeq (sExpr (eCall f_check_payment [] [eVar 0, eVar 1])) (sRet (eIndex (eCall f_payments_for [] [eVar 0, eCall f_price_in [] [eOp2 gIx (eVar 0) (eC (.int 0)), eVar 1]]) (eVar 1)))) [some (.val p0), some (.val p1)] (fun _ => Q (.val .none) none) (fun f _ => wRt f fun r => Q r none) := wF_body

noncomputable def den_check_prices : DM :=
  sSeq (sExpr (eCall f_check_state [] [eVar 0])) (sSeq (sIf (tOr (tNot (tOf (eOp1 (gIsi [.tuple]) (eVar 1)))) (tOf (eOp2 gGt (eOp1 gLen (eVar 1)) (eC (.int 10))))) (sRaise "InvalidPrices") sNext) (sIf (tNot (tOf (eOp1 gAll (eComp [2] (iSeq (eVar 1)) (bName 2) tYes (eCall f_is_between [] [eVar 2, eOp1 gNeg (eC (.int 12000)), eC (.int 12000)]))))) (sRaise "InvalidPrices") sNext))
noncomputable def f_check_prices : DF := bodyF 3 den_check_prices
theorem wd_check_prices (p0 p1 : D) (Q : RV → Option D → Prop) : wF f_check_prices none [p0, p1] Q = wS (sSeq (sExpr (eCall f_check_state [] [eVar 0])) (sSeq (sIf (tOr (tNot (tOf (eOp1 (gIsi [.tuple]) (eVar 1)))) (tOf (eOp2 gGt (eOp1 gLen (eVar 1)) (eC (.int 10))))) (sRaise "InvalidPrices") sNext) (sIf (tNot (tOf (eOp1 gAll (eComp [2] (iSeq (eVar 1)) (bName 2) tYes (eCall f_is_between [] [eVar 2, eOp1 gNeg (eC (.int 12000)), eC (.int 12000)]))))) (sRaise "InvalidPrices") sNext))) [some (.val p0), some (.val p1), none] (fun _ => Q (.val .none) none) (fun f _ => wRt f fun r => Q r none) := wF_body

noncomputable def den_step_counts : DM :=
  sSeq (sPar [(false, 2), (false, 3), (true, 4)] [eCall f_counts_for [] [eOp2 gIx (eVar 0) (eC (.int 0))], eCall f_total_of_second [] [eVar 0], eLst []]) (sSeq (sFor (iSeq (eVar 1)) (bName 5) (sSeq (sAugI fAdd 3 (eVar 5)) (sAppend 4 (eGet (eVar 2) (eVar 3) (eC (.int 0)))))) (sRet (eMove 4)))
noncomputable def f_step_counts : DF := bodyF 6 den_step_counts
theorem wd_step_counts (p0 p1 : D) (Q : RV → Option D → Prop) : wF f_step_counts none [p0, p1] Q = wS (sSeq (sPar [(false, 2), (false, 3), (true, 4)] [eCall f_counts_for [] [eOp2 gIx (eVar 0) (eC (.int 0))], eCall f_total_of_second [] [eVar 0], eLst []]) (sSeq (sFor (iSeq (eVar 1)) (bName 5) (sSeq (sAugI fAdd 3 (eVar 5)) (sAppend 4 (eGet (eVar 2) (eVar 3) (eC (.int 0)))))) (sRet (eMove 4)))) [some (.val p0), some (.val p1), none, none, none, none] (fun _ => Q (.val .none) none) (fun f _ => wRt f fun r => Q r none) := wF_body

noncomputable def den_can_pay_row : DM :=
  sSeq (sExpr (eCall f_check_prices [] [eVar 0, eVar 1])) (sRet (eOp2 gNotIn (eC (.int 0)) (eCall f_step_counts [] [eVar 0, eVar 1])))
noncomputable def f_can_pay_row : DF := bodyF 2 den_can_pay_row
theorem wd_can_pay_row (p0 p1 : D) (Q : RV → Option D → Prop) : wF f_can_pay_row none [p0, p1] Q = wS (sSeq (sExpr (eCall f_check_prices [] [eVar 0, eVar 1])) (sRet (eOp2 gNotIn (eC (.int 0)) (eCall f_step_counts [] [eVar 0, eVar 1])))) [some (.val p0), some (.val p1)] (fun _ => Q (.val .none) none) (fun f _ => wRt f fun r => Q r none) := wF_body

noncomputable def den_first_unpayable : DM :=
  sSeq (sExpr (eCall f_check_prices [] [eVar 0, eVar 1])) (sSeq (sSet (bName 2) (eCall f_step_counts [] [eVar 0, eVar 1])) (sRet (eIf (tOf (eOp2 gIn (eC (.int 0)) (eVar 2))) (eIndex (eVar 2) (eC (.int 0))) (eC .none))))
noncomputable def f_first_unpayable : DF := bodyF 3 den_first_unpayable
theorem wd_first_unpayable (p0 p1 : D) (Q : RV → Option D → Prop) : wF f_first_unpayable none [p0, p1] Q = wS (sSeq (sExpr (eCall f_check_prices [] [eVar 0, eVar 1])) (sSeq (sSet (bName 2) (eCall f_step_counts [] [eVar 0, eVar 1])) (sRet (eIf (tOf (eOp2 gIn (eC (.int 0)) (eVar 2))) (eIndex (eVar 2) (eC (.int 0))) (eC .none))))) [some (.val p0), some (.val p1), none] (fun _ => Q (.val .none) none) (fun f _ => wRt f fun r => Q r none) := wF_body

noncomputable def den__law_random_way : DM :=
  sSeq (sSet (bOwn 3) (eLst [eVar 1])) (sSeq (sFor (iSeq (eVar 2)) (bName 4) (sSeq (sSet (bName 5) (eCall f_count_ways [] [eOp2 gIx (eBor 3) (eOp1 gNeg (eC (.int 1))), eVar 4])) (sSeq (sIf (tOf (eOp2 gEq (eVar 5) (eC (.int 0)))) (sRet (eMove 3)) sNext) (sSeq (sSet (bName 6) (eCall f_payment_at [] [eOp2 gIx (eBor 3) (eOp1 gNeg (eC (.int 1))), eVar 4, eCallS f__law_draw [] 0 [eVar 5]])) (sAppend 3 (eCall f__law_behind [] [eOp2 gIx (eBor 3) (eOp1 gNeg (eC (.int 1))), eVar 6])))))) (sRet (eMove 3)))
noncomputable def f__law_random_way : DF := bodyF 7 den__law_random_way
theorem wd__law_random_way (p0 p1 p2 : D) (Q : RV → Option D → Prop) : wF f__law_random_way (some p0) [p1, p2] Q = wS (sSeq (sSet (bOwn 3) (eLst [eVar 1])) (sSeq (sFor (iSeq (eVar 2)) (bName 4) (sSeq (sSet (bName 5) (eCall f_count_ways [] [eOp2 gIx (eBor 3) (eOp1 gNeg (eC (.int 1))), eVar 4])) (sSeq (sIf (tOf (eOp2 gEq (eVar 5) (eC (.int 0)))) (sRet (eMove 3)) sNext) (sSeq (sSet (bName 6) (eCall f_payment_at [] [eOp2 gIx (eBor 3) (eOp1 gNeg (eC (.int 1))), eVar 4, eCallS f__law_draw [] 0 [eVar 5]])) (sAppend 3 (eCall f__law_behind [] [eOp2 gIx (eBor 3) (eOp1 gNeg (eC (.int 1))), eVar 6])))))) (sRet (eMove 3)))) [some (.own true p0), some (.val p1), some (.val p2), none, none, none, none] (fun s => w0 s[0]? fun c => Q (.val .none) (some c)) (fun f s => wRt f fun r => w0 s[0]? fun c => Q r (some c)) := wF_bodyS

noncomputable def den_pay_row : DM :=
  sSeq (sExpr (eCall f_check_prices [] [eVar 0, eVar 1])) (sSeq (sIf (tOf (eOp2 gIn (eC (.int 0)) (eCall f_step_counts [] [eVar 0, eVar 1]))) (sRet (eC .none)) sNext) (sSeq (sSet (bOwn 2) (eLst [])) (sSeq (sFor (iSeq (eVar 1)) (bName 3) (sSeq (sSet (bName 4) (eOp2 gIx (eCall f_payments_for [] [eVar 0, eVar 3]) (eC (.int 0)))) (sSeq (sAppend 2 (eVar 4)) (sSet (bName 0) (eCall f_behind [] [eVar 0, eVar 4]))))) (sRet (eMove 2)))))
noncomputable def f_pay_row : DF := bodyF 5 den_pay_row
theorem wd_pay_row (p0 p1 : D) (Q : RV → Option D → Prop) : wF f_pay_row none [p0, p1] Q = wS (sSeq (sExpr (eCall f_check_prices [] [eVar 0, eVar 1])) (sSeq (sIf (tOf (eOp2 gIn (eC (.int 0)) (eCall f_step_counts [] [eVar 0, eVar 1]))) (sRet (eC .none)) sNext) (sSeq (sSet (bOwn 2) (eLst [])) (sSeq (sFor (iSeq (eVar 1)) (bName 3) (sSeq (sSet (bName 4) (eOp2 gIx (eCall f_payments_for [] [eVar 0, eVar 3]) (eC (.int 0)))) (sSeq (sAppend 2 (eVar 4)) (sSet (bName 0) (eCall f_behind [] [eVar 0, eVar 4]))))) (sRet (eMove 2)))))) [some (.val p0), some (.val p1), none, none, none] (fun _ => Q (.val .none) none) (fun f _ => wRt f fun r => Q r none) := wF_body

noncomputable def den_count_rows : DM :=
  sSeq (sExpr (eCall f_check_prices [] [eVar 0, eVar 1])) (sSeq (sSet (bName 2) (eC (.int 1))) (sSeq (sFor (iSeq (eCall f_step_counts [] [eVar 0, eVar 1])) (bName 3) (sAugI fMul 2 (eVar 3))) (sRet (eVar 2))))
noncomputable def f_count_rows : DF := bodyF 4 den_count_rows
theorem wd_count_rows (p0 p1 : D) (Q : RV → Option D → Prop) : wF f_count_rows none [p0, p1] Q = wS (sSeq (sExpr (eCall f_check_prices [] [eVar 0, eVar 1])) (sSeq (sSet (bName 2) (eC (.int 1))) (sSeq (sFor (iSeq (eCall f_step_counts [] [eVar 0, eVar 1])) (bName 3) (sAugI fMul 2 (eVar 3))) (sRet (eVar 2))))) [some (.val p0), some (.val p1), none, none] (fun _ => Q (.val .none) none) (fun f _ => wRt f fun r => Q r none) := wF_body

noncomputable def den_is_way : DM :=
  sSeq (sExpr (eCall f_check_prices [] [eVar 0, eVar 1])) (sSeq (sIf (tOr (tNot (tOf (eOp1 (gIsi [.list]) (eVar 2)))) (tOf (eOp2 gNe (eOp1 gLen (eVar 2)) (eOp1 gLen (eVar 1))))) (sRet (eC (.bool false))) sNext) (sSeq (sFor (iZip (eVar 1) (eVar 2)) (bTup [bName 3, bName 4]) (sSeq (sIf (tOr (tNot (tOf (eCall f_fits [] [eVar 0, eVar 4]))) (tOf (eOp2 gNe (eCall f_price_in [] [eOp2 gIx (eVar 0) (eC (.int 0)), eVar 4]) (eVar 3)))) (sRet (eC (.bool false))) sNext) (sSet (bName 0) (eCall f_behind [] [eVar 0, eVar 4])))) (sRet (eC (.bool true)))))
noncomputable def f_is_way : DF := bodyF 5 den_is_way
theorem wd_is_way (p0 p1 p2 : D) (Q : RV → Option D → Prop) : wF f_is_way none [p0, p1, p2] Q = wS (sSeq (sExpr (eCall f_check_prices [] [eVar 0, eVar 1])) (sSeq (sIf (tOr (tNot (tOf (eOp1 (gIsi [.list]) (eVar 2)))) (tOf (eOp2 gNe (eOp1 gLen (eVar 2)) (eOp1 gLen (eVar 1))))) (sRet (eC (.bool false))) sNext) (sSeq (sFor (iZip (eVar 1) (eVar 2)) (bTup [bName 3, bName 4]) (sSeq (sIf (tOr (tNot (tOf (eCall f_fits [] [eVar 0, eVar 4]))) (tOf (eOp2 gNe (eCall f_price_in [] [eOp2 gIx (eVar 0) (eC (.int 0)), eVar 4]) (eVar 3)))) (sRet (eC (.bool false))) sNext) (sSet (bName 0) (eCall f_behind [] [eVar 0, eVar 4])))) (sRet (eC (.bool true)))))) [some (.val p0), some (.val p1), some (.val p2), none, none] (fun _ => Q (.val .none) none) (fun f _ => wRt f fun r => Q r none) := wF_body

noncomputable def den__law_all_ways : DM :=
  sSeq (sSet (bName 2) (eLst [eTup [eLst [], eVar 0]])) (sSeq (sFor (iSeq (eVar 1)) (bName 3) (sSeq (sSet (bOwn 4) (eLst [])) (sSeq (sFor (iSeq (eVar 2)) (bTup [bName 5, bName 6]) (sFor (iSeq (eCall f__law_payments [] [eVar 6])) (bTup [bName 7, bName 8]) (sIf (tOf (eOp2 gEq (eVar 7) (eVar 3))) (sAppend 4 (eTup [eOp2 gAdd (eVar 5) (eLst [eVar 8]), eCall f__law_behind [] [eVar 6, eVar 8]])) sNext))) (sSet (bName 2) (eMove 4))))) (sRet (eVar 2)))
noncomputable def f__law_all_ways : DF := bodyF 9 den__law_all_ways
theorem wd__law_all_ways (p0 p1 : D) (Q : RV → Option D → Prop) : wF f__law_all_ways none [p0, p1] Q = wS (sSeq (sSet (bName 2) (eLst [eTup [eLst [], eVar 0]])) (sSeq (sFor (iSeq (eVar 1)) (bName 3) (sSeq (sSet (bOwn 4) (eLst [])) (sSeq (sFor (iSeq (eVar 2)) (bTup [bName 5, bName 6]) (sFor (iSeq (eCall f__law_payments [] [eVar 6])) (bTup [bName 7, bName 8]) (sIf (tOf (eOp2 gEq (eVar 7) (eVar 3))) (sAppend 4 (eTup [eOp2 gAdd (eVar 5) (eLst [eVar 8]), eCall f__law_behind [] [eVar 6, eVar 8]])) sNext))) (sSet (bName 2) (eMove 4))))) (sRet (eVar 2)))) [some (.val p0), some (.val p1), none, none, none, none, none, none, none] (fun _ => Q (.val .none) none) (fun f _ => wRt f fun r => Q r none) := wF_body

noncomputable def den__law_is_way : DM :=
  sSeq (sIf (tOr (tNot (tOf (eOp1 (gIsi [.list]) (eVar 2)))) (tOf (eOp2 gNe (eOp1 gLen (eVar 2)) (eOp1 gLen (eVar 1))))) (sRet (eC (.bool false))) sNext) (sSeq (sFor (iZip (eVar 1) (eVar 2)) (bTup [bName 3, bName 4]) (sSeq (sIf (tOf (eOp2 gNotIn (eVar 4) (eComp [5, 6] (iSeq (eCall f__law_payments [] [eVar 0])) (bTup [bName 5, bName 6]) (tOf (eOp2 gEq (eVar 5) (eVar 3))) (eVar 6)))) (sRet (eC (.bool false))) sNext) (sSeq (sIf (tNot (tOf (eCall (f__law_equal 8) [] [eCall f_is_payment [] [eVar 0, eVar 4], eC (.bool true)]))) (sRet (eC (.bool false))) sNext) (sSet (bName 0) (eCall f__law_behind [] [eVar 0, eVar 4]))))) (sRet (eC (.bool true))))
noncomputable def f__law_is_way : DF := bodyF 7 den__law_is_way
theorem wd__law_is_way (p0 p1 p2 : D) (Q : RV → Option D → Prop) : wF f__law_is_way none [p0, p1, p2] Q = wS (sSeq (sIf (tOr (tNot (tOf (eOp1 (gIsi [.list]) (eVar 2)))) (tOf (eOp2 gNe (eOp1 gLen (eVar 2)) (eOp1 gLen (eVar 1))))) (sRet (eC (.bool false))) sNext) (sSeq (sFor (iZip (eVar 1) (eVar 2)) (bTup [bName 3, bName 4]) (sSeq (sIf (tOf (eOp2 gNotIn (eVar 4) (eComp [5, 6] (iSeq (eCall f__law_payments [] [eVar 0])) (bTup [bName 5, bName 6]) (tOf (eOp2 gEq (eVar 5) (eVar 3))) (eVar 6)))) (sRet (eC (.bool false))) sNext) (sSeq (sIf (tNot (tOf (eCall (f__law_equal 8) [] [eCall f_is_payment [] [eVar 0, eVar 4], eC (.bool true)]))) (sRet (eC (.bool false))) sNext) (sSet (bName 0) (eCall f__law_behind [] [eVar 0, eVar 4]))))) (sRet (eC (.bool true))))) [some (.val p0), some (.val p1), some (.val p2), none, none, none, none] (fun _ => Q (.val .none) none) (fun f _ => wRt f fun r => Q r none) := wF_body

noncomputable def den_size_of : DM :=
  sRet (eOp2 gAdd (eOp1 gLen (eOp2 gIx (eVar 0) (eC (.int 0)))) (eOp1 gLen (eOp2 gIx (eVar 0) (eC (.int 1)))))
noncomputable def f_size_of : DF := bodyF 1 den_size_of
theorem wd_size_of (p0 : D) (Q : RV → Option D → Prop) : wF f_size_of none [p0] Q = wS (sRet (eOp2 gAdd (eOp1 gLen (eOp2 gIx (eVar 0) (eC (.int 0)))) (eOp1 gLen (eOp2 gIx (eVar 0) (eC (.int 1)))))) [some (.val p0)] (fun _ => Q (.val .none) none) (fun f _ => wRt f fun r => Q r none) := wF_body

noncomputable def den_fewest_coins : DM :=
  sSeq (sExpr (eCall f_check_state [] [eVar 0])) (sSeq (sExpr (eCall f_check_price [] [eVar 1])) (sSeq (sSet (bName 2) (eComp [3] (iSeq (eCall f_payments_for [] [eVar 0, eVar 1])) (bName 3) tYes (eCall f_size_of [] [eVar 3]))) (sRet (eIf (tOf (eOp2 gNe (eVar 2) (eLst []))) (eOp1 gMinL (eVar 2)) (eC .none)))))
noncomputable def f_fewest_coins : DF := bodyF 4 den_fewest_coins
theorem wd_fewest_coins (p0 p1 : D) (Q : RV → Option D → Prop) : wF f_fewest_coins none [p0, p1] Q = wS (sSeq (sExpr (eCall f_check_state [] [eVar 0])) (sSeq (sExpr (eCall f_check_price [] [eVar 1])) (sSeq (sSet (bName 2) (eComp [3] (iSeq (eCall f_payments_for [] [eVar 0, eVar 1])) (bName 3) tYes (eCall f_size_of [] [eVar 3]))) (sRet (eIf (tOf (eOp2 gNe (eVar 2) (eLst []))) (eOp1 gMinL (eVar 2)) (eC .none)))))) [some (.val p0), some (.val p1), none, none] (fun _ => Q (.val .none) none) (fun f _ => wRt f fun r => Q r none) := wF_body

noncomputable def den_best_way : DM :=
  sSeq (sSet (bName 2) (eOp2 gIx (eVar 0) (eC (.int 0)))) (sSeq (sSet (bTup [bName 3, bName 4]) (eTup [eDictT1 (eOp2 gIx (eVar 0) (eC (.int 1))) (eTup [eC (.int 0), eTup []]), eCall f_worth [] [eVar 2, eOp2 gIx (eVar 0) (eC (.int 1))]])) (sSeq (sFor (iSeq (eVar 1)) (bName 5) (sSeq (sAugI fSub 4 (eVar 5)) (sSeq (sSet (bOwn 6) eDictT) (sSeq (sFor (iSeq (eComp [11] (iSeq (eCall f_all_sets [] [eOp1 gLen (eVar 2)])) (bName 11) (tOf (eOp2 gEq (eCall f_worth [] [eVar 2, eVar 11]) (eVar 4))) (eVar 11))) (bName 7) (sSeq (sSet (bOwn 8) (eLst [])) (sSeq (sForK 3 (bName 9) (sSeq (sSet (bName 10) (eCall f_exchange [] [eTup [eVar 2, eVar 9], eVar 7])) (sAppend 8 (eTup [eOp2 gAdd (eOp2 gIx (eOp2 gIx (eVar 3) (eVar 9)) (eC (.int 0))) (eCall f_size_of [] [eVar 10]), eOp2 gAdd (eOp2 gIx (eOp2 gIx (eVar 3) (eVar 9)) (eC (.int 1))) (eTup [eVar 10])])))) (sPut 6 (eVar 7) (eOp1 gMinL (eBor 8)))))) (sSeq (sSet (bName 3) (eMove 6)) (sIf (tOf (eOp2 gEqE (eVar 3) eDictK)) (sRet (eC .none)) sNext)))))) (sRet (eOp1 gMinL (eCompK [7] 3 (bName 7) tYes (eOp2 gIx (eVar 3) (eVar 7)))))))
noncomputable def f_best_way : DF := bodyF 12 den_best_way
theorem wd_best_way (p0 p1 : D) (Q : RV → Option D → Prop) : wF f_best_way none [p0, p1] Q = wS (sSeq (sSet (bName 2) (eOp2 gIx (eVar 0) (eC (.int 0)))) (sSeq (sSet (bTup [bName 3, bName 4]) (eTup [eDictT1 (eOp2 gIx (eVar 0) (eC (.int 1))) (eTup [eC (.int 0), eTup []]), eCall f_worth [] [eVar 2, eOp2 gIx (eVar 0) (eC (.int 1))]])) (sSeq (sFor (iSeq (eVar 1)) (bName 5) (sSeq (sAugI fSub 4 (eVar 5)) (sSeq (sSet (bOwn 6) eDictT) (sSeq (sFor (iSeq (eComp [11] (iSeq (eCall f_all_sets [] [eOp1 gLen (eVar 2)])) (bName 11) (tOf (eOp2 gEq (eCall f_worth [] [eVar 2, eVar 11]) (eVar 4))) (eVar 11))) (bName 7) (sSeq (sSet (bOwn 8) (eLst [])) (sSeq (sForK 3 (bName 9) (sSeq (sSet (bName 10) (eCall f_exchange [] [eTup [eVar 2, eVar 9], eVar 7])) (sAppend 8 (eTup [eOp2 gAdd (eOp2 gIx (eOp2 gIx (eVar 3) (eVar 9)) (eC (.int 0))) (eCall f_size_of [] [eVar 10]), eOp2 gAdd (eOp2 gIx (eOp2 gIx (eVar 3) (eVar 9)) (eC (.int 1))) (eTup [eVar 10])])))) (sPut 6 (eVar 7) (eOp1 gMinL (eBor 8)))))) (sSeq (sSet (bName 3) (eMove 6)) (sIf (tOf (eOp2 gEqE (eVar 3) eDictK)) (sRet (eC .none)) sNext)))))) (sRet (eOp1 gMinL (eCompK [7] 3 (bName 7) tYes (eOp2 gIx (eVar 3) (eVar 7)))))))) [some (.val p0), some (.val p1), none, none, none, none, none, none, none, none, none, none] (fun _ => Q (.val .none) none) (fun f _ => wRt f fun r => Q r none) := wF_body

noncomputable def den_check_small : DM :=
  sSeq (sExpr (eCall f_check_prices [] [eVar 0, eVar 1])) (sIf (tOf (eOp2 gGt (eOp1 gLen (eOp2 gIx (eVar 0) (eC (.int 0)))) (eC (.int 8)))) (sRaise "TooMany") sNext)
noncomputable def f_check_small : DF := bodyF 2 den_check_small
theorem wd_check_small (p0 p1 : D) (Q : RV → Option D → Prop) : wF f_check_small none [p0, p1] Q = wS (sSeq (sExpr (eCall f_check_prices [] [eVar 0, eVar 1])) (sIf (tOf (eOp2 gGt (eOp1 gLen (eOp2 gIx (eVar 0) (eC (.int 0)))) (eC (.int 8)))) (sRaise "TooMany") sNext)) [some (.val p0), some (.val p1)] (fun _ => Q (.val .none) none) (fun f _ => wRt f fun r => Q r none) := wF_body

noncomputable def den_fewest_row : DM :=
  sSeq (sExpr (eCall f_check_small [] [eVar 0, eVar 1])) (sSeq (sSet (bName 2) (eCall f_best_way [] [eVar 0, eVar 1])) (sRet (eIf (tOf (eOp2 gIsNo (eVar 2) (eC .none))) (eC .none) (eOp2 gIx (eVar 2) (eC (.int 0))))))
noncomputable def f_fewest_row : DF := bodyF 3 den_fewest_row
theorem wd_fewest_row (p0 p1 : D) (Q : RV → Option D → Prop) : wF f_fewest_row none [p0, p1] Q = wS (sSeq (sExpr (eCall f_check_small [] [eVar 0, eVar 1])) (sSeq (sSet (bName 2) (eCall f_best_way [] [eVar 0, eVar 1])) (sRet (eIf (tOf (eOp2 gIsNo (eVar 2) (eC .none))) (eC .none) (eOp2 gIx (eVar 2) (eC (.int 0))))))) [some (.val p0), some (.val p1), none] (fun _ => Q (.val .none) none) (fun f _ => wRt f fun r => Q r none) := wF_body

noncomputable def den_best_row : DM :=
  sSeq (sExpr (eCall f_check_small [] [eVar 0, eVar 1])) (sSeq (sSet (bName 2) (eCall f_best_way [] [eVar 0, eVar 1])) (sRet (eIf (tOf (eOp2 gIsNo (eVar 2) (eC .none))) (eC .none) (eOp1 gList (eOp2 gIx (eVar 2) (eC (.int 1)))))))
noncomputable def f_best_row : DF := bodyF 3 den_best_row
theorem wd_best_row (p0 p1 : D) (Q : RV → Option D → Prop) : wF f_best_row none [p0, p1] Q = wS (sSeq (sExpr (eCall f_check_small [] [eVar 0, eVar 1])) (sSeq (sSet (bName 2) (eCall f_best_way [] [eVar 0, eVar 1])) (sRet (eIf (tOf (eOp2 gIsNo (eVar 2) (eC .none))) (eC .none) (eOp1 gList (eOp2 gIx (eVar 2) (eC (.int 1)))))))) [some (.val p0), some (.val p1), none] (fun _ => Q (.val .none) none) (fun f _ => wRt f fun r => Q r none) := wF_body

noncomputable def den__law_cost : DM :=
  sRet (eOp1 gSum (eComp [1] (iSeq (eVar 0)) (bName 1) tYes (eOp2 gAdd (eOp1 gLen (eOp2 gIx (eVar 1) (eC (.int 0)))) (eOp1 gLen (eOp2 gIx (eVar 1) (eC (.int 1)))))))
noncomputable def f__law_cost : DF := bodyF 2 den__law_cost
theorem wd__law_cost (p0 : D) (Q : RV → Option D → Prop) : wF f__law_cost none [p0] Q = wS (sRet (eOp1 gSum (eComp [1] (iSeq (eVar 0)) (bName 1) tYes (eOp2 gAdd (eOp1 gLen (eOp2 gIx (eVar 1) (eC (.int 0)))) (eOp1 gLen (eOp2 gIx (eVar 1) (eC (.int 1)))))))) [some (.val p0), none] (fun _ => Q (.val .none) none) (fun f _ => wRt f fun r => Q r none) := wF_body

noncomputable def den__law_small_right : DM :=
  sSeq (sSet (bName 2) (eLst [eTup [eLst [], eVar 0]])) (sSeq (sFor (iSeq (eVar 1)) (bName 3) (sSeq (sSet (bOwn 4) (eLst [])) (sSeq (sFor (iSeq (eVar 2)) (bTup [bName 5, bName 6]) (sFor (iSeq (eCall f__law_payments [] [eVar 6])) (bTup [bName 7, bName 8]) (sIf (tOf (eOp2 gEq (eVar 7) (eVar 3))) (sAppend 4 (eTup [eOp2 gAdd (eVar 5) (eLst [eVar 8]), eCall f__law_behind [] [eVar 6, eVar 8]])) sNext))) (sSet (bName 2) (eMove 4))))) (sSeq (sSet (bName 9) (eComp [5, 6] (iSeq (eVar 2)) (bTup [bName 5, bName 6]) tYes (eCall f__law_cost [] [eVar 5]))) (sRet (eCall (f__law_equal 8) [] [eCall f_fewest_row [] [eVar 0, eVar 1], eIf (tOf (eOp2 gNe (eVar 9) (eLst []))) (eOp1 gMinL (eVar 9)) (eC .none)]))))
noncomputable def f__law_small_right : DF := bodyF 10 den__law_small_right
theorem wd__law_small_right (p0 p1 : D) (Q : RV → Option D → Prop) : wF f__law_small_right none [p0, p1] Q = wS (sSeq (sSet (bName 2) (eLst [eTup [eLst [], eVar 0]])) (sSeq (sFor (iSeq (eVar 1)) (bName 3) (sSeq (sSet (bOwn 4) (eLst [])) (sSeq (sFor (iSeq (eVar 2)) (bTup [bName 5, bName 6]) (sFor (iSeq (eCall f__law_payments [] [eVar 6])) (bTup [bName 7, bName 8]) (sIf (tOf (eOp2 gEq (eVar 7) (eVar 3))) (sAppend 4 (eTup [eOp2 gAdd (eVar 5) (eLst [eVar 8]), eCall f__law_behind [] [eVar 6, eVar 8]])) sNext))) (sSet (bName 2) (eMove 4))))) (sSeq (sSet (bName 9) (eComp [5, 6] (iSeq (eVar 2)) (bTup [bName 5, bName 6]) tYes (eCall f__law_cost [] [eVar 5]))) (sRet (eCall (f__law_equal 8) [] [eCall f_fewest_row [] [eVar 0, eVar 1], eIf (tOf (eOp2 gNe (eVar 9) (eLst []))) (eOp1 gMinL (eVar 9)) (eC .none)]))))) [some (.val p0), some (.val p1), none, none, none, none, none, none, none, none] (fun _ => Q (.val .none) none) (fun f _ => wRt f fun r => Q r none) := wF_body

noncomputable def den_check_coins : DM :=
  sIf (tNot (tOf (eCall f_are_coins [.int 12] [eVar 0]))) (sRaise "InvalidCoins") sNext
noncomputable def f_check_coins : DF := bodyF 1 den_check_coins
theorem wd_check_coins (p0 : D) (Q : RV → Option D → Prop) : wF f_check_coins none [p0] Q = wS (sIf (tNot (tOf (eCall f_are_coins [.int 12] [eVar 0]))) (sRaise "InvalidCoins") sNext) [some (.val p0)] (fun _ => Q (.val .none) none) (fun f _ => wRt f fun r => Q r none) := wF_body

noncomputable def den_check_seen : DM :=
  sSeq (sSet (bName 1) (eAnd (eOp1 (gIsi [.tuple]) (eVar 0)) (eChain gLe gLe (eC (.int 1)) (eOp1 gLen (eVar 0)) (eC (.int 10))))) (sSeq (sIf (tOr (tNot (tOf (eVar 1))) (tNot (tOf (eOp1 gAll (eComp [2] (iSeq (eVar 0)) (bName 2) tYes (eAnd (eOp1 (gIsi [.tuple]) (eVar 2)) (eOp2 gEq (eOp1 gLen (eVar 2)) (eC (.int 2))))))))) (sRaise "InvalidSeen") sNext) (sIf (tNot (tOf (eOp1 gAll (eComp [2] (iSeq (eVar 0)) (bName 2) tYes (eAnd (eCall f_is_between [] [eOp2 gIx (eVar 2) (eC (.int 0)), eOp1 gNeg (eC (.int 12000)), eC (.int 12000)]) (eOp1 (gIsi [.bool]) (eOp2 gIx (eVar 2) (eC (.int 1))))))))) (sRaise "InvalidSeen") sNext))
noncomputable def f_check_seen : DF := bodyF 3 den_check_seen
theorem wd_check_seen (p0 : D) (Q : RV → Option D → Prop) : wF f_check_seen none [p0] Q = wS (sSeq (sSet (bName 1) (eAnd (eOp1 (gIsi [.tuple]) (eVar 0)) (eChain gLe gLe (eC (.int 1)) (eOp1 gLen (eVar 0)) (eC (.int 10))))) (sSeq (sIf (tOr (tNot (tOf (eVar 1))) (tNot (tOf (eOp1 gAll (eComp [2] (iSeq (eVar 0)) (bName 2) tYes (eAnd (eOp1 (gIsi [.tuple]) (eVar 2)) (eOp2 gEq (eOp1 gLen (eVar 2)) (eC (.int 2))))))))) (sRaise "InvalidSeen") sNext) (sIf (tNot (tOf (eOp1 gAll (eComp [2] (iSeq (eVar 0)) (bName 2) tYes (eAnd (eCall f_is_between [] [eOp2 gIx (eVar 2) (eC (.int 0)), eOp1 gNeg (eC (.int 12000)), eC (.int 12000)]) (eOp1 (gIsi [.bool]) (eOp2 gIx (eVar 2) (eC (.int 1))))))))) (sRaise "InvalidSeen") sNext))) [some (.val p0), none, none] (fun _ => Q (.val .none) none) (fun f _ => wRt f fun r => Q r none) := wF_body

noncomputable def den_agrees : DM :=
  sRet (eOp1 gAll (eComp [3, 4] (iSeq (eVar 2)) (bTup [bName 3, bName 4]) tYes (eOp2 gEq (eOp2 gIn (eOp2 gAdd (eVar 3) (eVar 1)) (eVar 0)) (eVar 4))))
noncomputable def f_agrees : DF := bodyF 5 den_agrees
theorem wd_agrees (p0 p1 p2 : D) (Q : RV → Option D → Prop) : wF f_agrees none [p0, p1, p2] Q = wS (sRet (eOp1 gAll (eComp [3, 4] (iSeq (eVar 2)) (bTup [bName 3, bName 4]) tYes (eOp2 gEq (eOp2 gIn (eOp2 gAdd (eVar 3) (eVar 1)) (eVar 0)) (eVar 4))))) [some (.val p0), some (.val p1), some (.val p2), none, none] (fun _ => Q (.val .none) none) (fun f _ => wRt f fun r => Q r none) := wF_body

noncomputable def den_possible_totals : DM :=
  sSeq (sExpr (eCall f_check_coins [] [eVar 0])) (sSeq (sExpr (eCall f_check_seen [] [eVar 1])) (sSeq (sSet (bName 2) (eCall f_counts_for [] [eVar 0])) (sRet (eComp [3] (iSeq (eOp1 gSorted (eVar 2))) (bName 3) (tOf (eCall f_agrees [] [eVar 2, eVar 3, eVar 1])) (eVar 3)))))
noncomputable def f_possible_totals : DF := bodyF 4 den_possible_totals
theorem wd_possible_totals (p0 p1 : D) (Q : RV → Option D → Prop) : wF f_possible_totals none [p0, p1] Q = wS (sSeq (sExpr (eCall f_check_coins [] [eVar 0])) (sSeq (sExpr (eCall f_check_seen [] [eVar 1])) (sSeq (sSet (bName 2) (eCall f_counts_for [] [eVar 0])) (sRet (eComp [3] (iSeq (eOp1 gSorted (eVar 2))) (bName 3) (tOf (eCall f_agrees [] [eVar 2, eVar 3, eVar 1])) (eVar 3)))))) [some (.val p0), some (.val p1), none, none] (fun _ => Q (.val .none) none) (fun f _ => wRt f fun r => Q r none) := wF_body

noncomputable def den__law_seen : DM :=
  sSeq (sSet (bName 2) (eCall f__law_sums [] [eOp2 gIx (eVar 1) (eC (.int 0))])) (sSeq (sPar [(false, 3), (false, 4), (false, 5)] [eCall f__law_worth [] [eOp2 gIx (eVar 1) (eC (.int 0)), eCall f__law_others [] [eVar 1]], eTup [], eC (.bool false)]) (sSeq (sFor (iRng1 (eOp2 gAdd (eC (.int 1)) (eCallS f__law_draw [] 0 [eC (.int 10)]))) (bName 6) (sSeq (sSet (bName 7) (eCallS f__law_price [] 0 [eVar 1])) (sSeq (sSet (bName 8) (eOp2 gIn (eOp2 gAdd (eVar 7) (eVar 3)) (eVar 2))) (sSeq (sIf (tOf (eOp2 gEq (eCallS f__law_draw [] 0 [eC (.int 12)]) (eC (.int 0)))) (sPar [(false, 8), (false, 5)] [eNot (eVar 8), eC (.bool true)]) sNext) (sSet (bName 4) (eOp2 gAdd (eVar 4) (eTup [eTup [eVar 7, eVar 8]]))))))) (sRet (eTup [eVar 4, eVar 5]))))
noncomputable def f__law_seen : DF := bodyF 9 den__law_seen
theorem wd__law_seen (p0 p1 : D) (Q : RV → Option D → Prop) : wF f__law_seen (some p0) [p1] Q = wS (sSeq (sSet (bName 2) (eCall f__law_sums [] [eOp2 gIx (eVar 1) (eC (.int 0))])) (sSeq (sPar [(false, 3), (false, 4), (false, 5)] [eCall f__law_worth [] [eOp2 gIx (eVar 1) (eC (.int 0)), eCall f__law_others [] [eVar 1]], eTup [], eC (.bool false)]) (sSeq (sFor (iRng1 (eOp2 gAdd (eC (.int 1)) (eCallS f__law_draw [] 0 [eC (.int 10)]))) (bName 6) (sSeq (sSet (bName 7) (eCallS f__law_price [] 0 [eVar 1])) (sSeq (sSet (bName 8) (eOp2 gIn (eOp2 gAdd (eVar 7) (eVar 3)) (eVar 2))) (sSeq (sIf (tOf (eOp2 gEq (eCallS f__law_draw [] 0 [eC (.int 12)]) (eC (.int 0)))) (sPar [(false, 8), (false, 5)] [eNot (eVar 8), eC (.bool true)]) sNext) (sSet (bName 4) (eOp2 gAdd (eVar 4) (eTup [eTup [eVar 7, eVar 8]]))))))) (sRet (eTup [eVar 4, eVar 5]))))) [some (.own true p0), some (.val p1), none, none, none, none, none, none, none] (fun s => w0 s[0]? fun c => Q (.val .none) (some c)) (fun f s => wRt f fun r => w0 s[0]? fun c => Q r (some c)) := wF_bodyS

noncomputable def den_possible_values : DM :=
  sSeq (sExpr (eCall f_check_state [] [eVar 0])) (sSeq (sIf (tNot (tOf (eCall f_is_between [] [eVar 1, eC (.int 0), eOp2 gSub (eOp1 gLen (eOp2 gIx (eVar 0) (eC (.int 0)))) (eC (.int 1))]))) (sRaise "InvalidIndex") sNext) (sSeq (sExpr (eCall f_check_seen [] [eVar 2])) (sSeq (sSet (bTup [bName 3, bName 4]) (eVar 0)) (sSeq (sSet (bName 5) (eCall f_counts_for [] [eOp2 gAdd (eSl (eVar 3) pNone (pPart (eVar 1))) (eSl (eVar 3) (pPart (eOp2 gAdd (eVar 1) (eC (.int 1)))) pNone)])) (sSeq (sSet (bName 6) (eOp2 gSub (eCall f_total_of_second [] [eVar 0]) (eIf (tOf (eOp2 gIn (eVar 1) (eVar 4))) (eC (.int 0)) (eOp2 gIx (eVar 3) (eVar 1))))) (sSeq (sSet (bOwn 7) (eLst [])) (sSeq (sFor (iRng2 (eC (.int 1)) (eOp2 gAdd (eC (.int 1000)) (eC (.int 1)))) (bName 8) (sSeq (sSet (bName 9) (eOp2 gAdd (eVar 6) (eIf (tOf (eOp2 gIn (eVar 1) (eVar 4))) (eC (.int 0)) (eVar 8)))) (sIf (tOf (eOp1 gAll (eComp [10, 11] (iSeq (eVar 2)) (bTup [bName 10, bName 11]) tYes (eOp2 gEq (eOr (eOp2 gIn (eOp2 gAdd (eVar 10) (eVar 9)) (eVar 5)) (eOp2 gIn (eOp2 gSub (eOp2 gAdd (eVar 10) (eVar 9)) (eVar 8)) (eVar 5))) (eVar 11))))) (sAppend 7 (eVar 8)) sNext))) (sRet (eMove 7)))))))))
noncomputable def f_possible_values : DF := bodyF 12 den_possible_values
theorem wd_possible_values (p0 p1 p2 : D) (Q : RV → Option D → Prop) : wF f_possible_values none [p0, p1, p2] Q = wS (sSeq (sExpr (eCall f_check_state [] [eVar 0])) (sSeq (sIf (tNot (tOf (eCall f_is_between [] [eVar 1, eC (.int 0), eOp2 gSub (eOp1 gLen (eOp2 gIx (eVar 0) (eC (.int 0)))) (eC (.int 1))]))) (sRaise "InvalidIndex") sNext) (sSeq (sExpr (eCall f_check_seen [] [eVar 2])) (sSeq (sSet (bTup [bName 3, bName 4]) (eVar 0)) (sSeq (sSet (bName 5) (eCall f_counts_for [] [eOp2 gAdd (eSl (eVar 3) pNone (pPart (eVar 1))) (eSl (eVar 3) (pPart (eOp2 gAdd (eVar 1) (eC (.int 1)))) pNone)])) (sSeq (sSet (bName 6) (eOp2 gSub (eCall f_total_of_second [] [eVar 0]) (eIf (tOf (eOp2 gIn (eVar 1) (eVar 4))) (eC (.int 0)) (eOp2 gIx (eVar 3) (eVar 1))))) (sSeq (sSet (bOwn 7) (eLst [])) (sSeq (sFor (iRng2 (eC (.int 1)) (eOp2 gAdd (eC (.int 1000)) (eC (.int 1)))) (bName 8) (sSeq (sSet (bName 9) (eOp2 gAdd (eVar 6) (eIf (tOf (eOp2 gIn (eVar 1) (eVar 4))) (eC (.int 0)) (eVar 8)))) (sIf (tOf (eOp1 gAll (eComp [10, 11] (iSeq (eVar 2)) (bTup [bName 10, bName 11]) tYes (eOp2 gEq (eOr (eOp2 gIn (eOp2 gAdd (eVar 10) (eVar 9)) (eVar 5)) (eOp2 gIn (eOp2 gSub (eOp2 gAdd (eVar 10) (eVar 9)) (eVar 8)) (eVar 5))) (eVar 11))))) (sAppend 7 (eVar 8)) sNext))) (sRet (eMove 7)))))))))) [some (.val p0), some (.val p1), some (.val p2), none, none, none, none, none, none, none, none, none] (fun _ => Q (.val .none) none) (fun f _ => wRt f fun r => Q r none) := wF_body

noncomputable def den_helpful_coins : DM :=
  sSeq (sExpr (eCall f_check_state [] [eVar 0])) (sSeq (sExpr (eCall f_check_price [] [eVar 1])) (sSeq (sIf (tOf (eOp2 gEq (eOp1 gLen (eOp2 gIx (eVar 0) (eC (.int 0)))) (eC (.int 12)))) (sRaise "TooMany") sNext) (sSeq (sSet (bTup [bName 2, bName 3]) (eTup [eCall f_counts_for [] [eOp2 gIx (eVar 0) (eC (.int 0))], eOp2 gAdd (eVar 1) (eCall f_total_of_second [] [eVar 0])])) (sRet (eComp [4] (iRng2 (eC (.int 1)) (eOp2 gAdd (eC (.int 1000)) (eC (.int 1)))) (bName 4) (tOr (tOf (eOp2 gIn (eVar 3) (eVar 2))) (tOf (eOp2 gIn (eOp2 gSub (eVar 3) (eVar 4)) (eVar 2)))) (eVar 4))))))
noncomputable def f_helpful_coins : DF := bodyF 5 den_helpful_coins
theorem wd_helpful_coins (p0 p1 : D) (Q : RV → Option D → Prop) : wF f_helpful_coins none [p0, p1] Q = wS (sSeq (sExpr (eCall f_check_state [] [eVar 0])) (sSeq (sExpr (eCall f_check_price [] [eVar 1])) (sSeq (sIf (tOf (eOp2 gEq (eOp1 gLen (eOp2 gIx (eVar 0) (eC (.int 0)))) (eC (.int 12)))) (sRaise "TooMany") sNext) (sSeq (sSet (bTup [bName 2, bName 3]) (eTup [eCall f_counts_for [] [eOp2 gIx (eVar 0) (eC (.int 0))], eOp2 gAdd (eVar 1) (eCall f_total_of_second [] [eVar 0])])) (sRet (eComp [4] (iRng2 (eC (.int 1)) (eOp2 gAdd (eC (.int 1000)) (eC (.int 1)))) (bName 4) (tOr (tOf (eOp2 gIn (eVar 3) (eVar 2))) (tOf (eOp2 gIn (eOp2 gSub (eVar 3) (eVar 4)) (eVar 2)))) (eVar 4))))))) [some (.val p0), some (.val p1), none, none, none] (fun _ => Q (.val .none) none) (fun f _ => wRt f fun r => Q r none) := wF_body

noncomputable def den__law_true : DM :=
  sSeq (sSet (bTup [bName 3, bName 4]) (eTup [eCall f__law_sums [] [eVar 0], eCall f__law_worth [] [eVar 0, eComp [5] (iRng1 (eOp1 gLen (eVar 0))) (bName 5) (tOf (eOp2 gNotIn (eVar 5) (eVar 1))) (eVar 5)]])) (sRet (eOp2 gEq (eComp [6, 7] (iSeq (eVar 2)) (bTup [bName 6, bName 7]) (tOf (eOp2 gNe (eOp2 gIn (eOp2 gAdd (eVar 6) (eVar 4)) (eVar 3)) (eVar 7))) (eC (.int 1))) (eLst [])))
noncomputable def f__law_true : DF := bodyF 8 den__law_true
theorem wd__law_true (p0 p1 p2 : D) (Q : RV → Option D → Prop) : wF f__law_true none [p0, p1, p2] Q = wS (sSeq (sSet (bTup [bName 3, bName 4]) (eTup [eCall f__law_sums [] [eVar 0], eCall f__law_worth [] [eVar 0, eComp [5] (iRng1 (eOp1 gLen (eVar 0))) (bName 5) (tOf (eOp2 gNotIn (eVar 5) (eVar 1))) (eVar 5)]])) (sRet (eOp2 gEq (eComp [6, 7] (iSeq (eVar 2)) (bTup [bName 6, bName 7]) (tOf (eOp2 gNe (eOp2 gIn (eOp2 gAdd (eVar 6) (eVar 4)) (eVar 3)) (eVar 7))) (eC (.int 1))) (eLst [])))) [some (.val p0), some (.val p1), some (.val p2), none, none, none, none, none] (fun _ => Q (.val .none) none) (fun f _ => wRt f fun r => Q r none) := wF_body

noncomputable def den__law_value_right : DM :=
  sSeq (sSet (bTup [bName 5, bName 6]) (eVar 1)) (sSeq (sSet (bName 7) (eOp2 gAdd (eOp2 gAdd (eSl (eVar 4) pNone (pPart (eC (.int 4)))) (eSl (eVar 4) (pPart (eOp1 gNeg (eC (.int 4)))) pNone)) (eLst [eC (.int 1), eC (.int 1000), eOp2 gIx (eVar 5) (eVar 2)]))) (sSeq (sSet (bName 7) (eOp2 gAdd (eOp2 gAdd (eVar 7) (eComp [8] (iSeq (eVar 7)) (bName 8) tYes (eOp2 gAdd (eVar 8) (eC (.int 1))))) (eComp [10] (iRng1 (eC (.int 6))) (bName 10) tYes (eOp2 gAdd (eC (.int 1)) (eCallS f__law_draw [] 0 [eC (.int 1000)]))))) (sSeq (sFor (iSeq (eComp [11] (iSeq (eVar 7)) (bName 11) (tOf (eChain gLe gLe (eC (.int 1)) (eVar 11) (eC (.int 1000)))) (eVar 11))) (bName 8) (sSeq (sSet (bName 9) (eOp2 gAdd (eOp2 gAdd (eSl (eVar 5) pNone (pPart (eVar 2))) (eTup [eVar 8])) (eSl (eVar 5) (pPart (eOp2 gAdd (eVar 2) (eC (.int 1)))) pNone))) (sIf (tOf (eOp2 gNe (eCall f__law_true [] [eVar 9, eVar 6, eVar 3]) (eOp2 gIn (eVar 8) (eVar 4)))) (sRet (eC (.bool false))) sNext))) (sRet (eC (.bool true))))))
noncomputable def f__law_value_right : DF := bodyF 12 den__law_value_right
theorem wd__law_value_right (p0 p1 p2 p3 p4 : D) (Q : RV → Option D → Prop) : wF f__law_value_right (some p0) [p1, p2, p3, p4] Q = wS (sSeq (sSet (bTup [bName 5, bName 6]) (eVar 1)) (sSeq (sSet (bName 7) (eOp2 gAdd (eOp2 gAdd (eSl (eVar 4) pNone (pPart (eC (.int 4)))) (eSl (eVar 4) (pPart (eOp1 gNeg (eC (.int 4)))) pNone)) (eLst [eC (.int 1), eC (.int 1000), eOp2 gIx (eVar 5) (eVar 2)]))) (sSeq (sSet (bName 7) (eOp2 gAdd (eOp2 gAdd (eVar 7) (eComp [8] (iSeq (eVar 7)) (bName 8) tYes (eOp2 gAdd (eVar 8) (eC (.int 1))))) (eComp [10] (iRng1 (eC (.int 6))) (bName 10) tYes (eOp2 gAdd (eC (.int 1)) (eCallS f__law_draw [] 0 [eC (.int 1000)]))))) (sSeq (sFor (iSeq (eComp [11] (iSeq (eVar 7)) (bName 11) (tOf (eChain gLe gLe (eC (.int 1)) (eVar 11) (eC (.int 1000)))) (eVar 11))) (bName 8) (sSeq (sSet (bName 9) (eOp2 gAdd (eOp2 gAdd (eSl (eVar 5) pNone (pPart (eVar 2))) (eTup [eVar 8])) (eSl (eVar 5) (pPart (eOp2 gAdd (eVar 2) (eC (.int 1)))) pNone))) (sIf (tOf (eOp2 gNe (eCall f__law_true [] [eVar 9, eVar 6, eVar 3]) (eOp2 gIn (eVar 8) (eVar 4)))) (sRet (eC (.bool false))) sNext))) (sRet (eC (.bool true))))))) [some (.own true p0), some (.val p1), some (.val p2), some (.val p3), some (.val p4), none, none, none, none, none, none, none] (fun s => w0 s[0]? fun c => Q (.val .none) (some c)) (fun f s => wRt f fun r => w0 s[0]? fun c => Q r (some c)) := wF_bodyS

noncomputable def den_is_trio : DM :=
  sSeq (sIf (tOr (tNot (tOf (eOp1 (gIsi [.tuple]) (eVar 0)))) (tOr (tOf (eOp2 gNe (eOp1 gLen (eVar 0)) (eC (.int 2)))) (tNot (tOf (eCall f_are_coins [] [eOp2 gIx (eVar 0) (eC (.int 0)), eC (.int 7)]))))) (sRet (eC (.bool false))) sNext) (sSeq (sIf (tOr (tNot (tOf (eOp1 (gIsi [.tuple]) (eOp2 gIx (eVar 0) (eC (.int 1)))))) (tOf (eOp2 gNe (eOp1 gLen (eOp2 gIx (eVar 0) (eC (.int 1)))) (eOp1 gLen (eOp2 gIx (eVar 0) (eC (.int 0))))))) (sRet (eC (.bool false))) sNext) (sRet (eOp1 gAll (eComp [1] (iSeq (eOp2 gIx (eVar 0) (eC (.int 1)))) (bName 1) tYes (eCall f_is_between [] [eVar 1, eC (.int 0), eC (.int 2)])))))
noncomputable def f_is_trio : DF := bodyF 2 den_is_trio
theorem wd_is_trio (p0 : D) (Q : RV → Option D → Prop) : wF f_is_trio none [p0] Q = wS (sSeq (sIf (tOr (tNot (tOf (eOp1 (gIsi [.tuple]) (eVar 0)))) (tOr (tOf (eOp2 gNe (eOp1 gLen (eVar 0)) (eC (.int 2)))) (tNot (tOf (eCall f_are_coins [] [eOp2 gIx (eVar 0) (eC (.int 0)), eC (.int 7)]))))) (sRet (eC (.bool false))) sNext) (sSeq (sIf (tOr (tNot (tOf (eOp1 (gIsi [.tuple]) (eOp2 gIx (eVar 0) (eC (.int 1)))))) (tOf (eOp2 gNe (eOp1 gLen (eOp2 gIx (eVar 0) (eC (.int 1)))) (eOp1 gLen (eOp2 gIx (eVar 0) (eC (.int 0))))))) (sRet (eC (.bool false))) sNext) (sRet (eOp1 gAll (eComp [1] (iSeq (eOp2 gIx (eVar 0) (eC (.int 1)))) (bName 1) tYes (eCall f_is_between [] [eVar 1, eC (.int 0), eC (.int 2)])))))) [some (.val p0), none] (fun _ => Q (.val .none) none) (fun f _ => wRt f fun r => Q r none) := wF_body

noncomputable def den_is_deal : DM :=
  sSeq (sIf (tOr (tNot (tOf (eOp1 (gIsi [.tuple]) (eVar 0)))) (tOr (tOf (eOp2 gNe (eOp1 gLen (eVar 0)) (eC (.int 3)))) (tNot (tOf (eCall f_is_between [] [eOp2 gIx (eVar 0) (eC (.int 2)), eC (.int 0), eC (.int 7000)]))))) (sRet (eC (.bool false))) sNext) (sRet (eAnd (eCall f_is_between [] [eOp2 gIx (eVar 0) (eC (.int 0)), eC (.int 0), eC (.int 2)]) (eAnd (eCall f_is_between [] [eOp2 gIx (eVar 0) (eC (.int 1)), eC (.int 0), eC (.int 2)]) (eOp2 gNe (eOp2 gIx (eVar 0) (eC (.int 0))) (eOp2 gIx (eVar 0) (eC (.int 1)))))))
noncomputable def f_is_deal : DF := bodyF 1 den_is_deal
theorem wd_is_deal (p0 : D) (Q : RV → Option D → Prop) : wF f_is_deal none [p0] Q = wS (sSeq (sIf (tOr (tNot (tOf (eOp1 (gIsi [.tuple]) (eVar 0)))) (tOr (tOf (eOp2 gNe (eOp1 gLen (eVar 0)) (eC (.int 3)))) (tNot (tOf (eCall f_is_between [] [eOp2 gIx (eVar 0) (eC (.int 2)), eC (.int 0), eC (.int 7000)]))))) (sRet (eC (.bool false))) sNext) (sRet (eAnd (eCall f_is_between [] [eOp2 gIx (eVar 0) (eC (.int 0)), eC (.int 0), eC (.int 2)]) (eAnd (eCall f_is_between [] [eOp2 gIx (eVar 0) (eC (.int 1)), eC (.int 0), eC (.int 2)]) (eOp2 gNe (eOp2 gIx (eVar 0) (eC (.int 0))) (eOp2 gIx (eVar 0) (eC (.int 1)))))))) [some (.val p0)] (fun _ => Q (.val .none) none) (fun f _ => wRt f fun r => Q r none) := wF_body

noncomputable def den_check_deals : DM :=
  sSeq (sIf (tNot (tOf (eCall f_is_trio [] [eVar 0]))) (sRaise "InvalidTrio") sNext) (sSeq (sSet (bName 2) (eAnd (eOp1 (gIsi [.tuple]) (eVar 1)) (eOp2 gLe (eOp1 gLen (eVar 1)) (eC (.int 5))))) (sIf (tOr (tNot (tOf (eVar 2))) (tNot (tOf (eOp1 gAll (eComp [3] (iSeq (eVar 1)) (bName 3) tYes (eCall f_is_deal [] [eVar 3])))))) (sRaise "InvalidDeals") sNext))
noncomputable def f_check_deals : DF := bodyF 4 den_check_deals
theorem wd_check_deals (p0 p1 : D) (Q : RV → Option D → Prop) : wF f_check_deals none [p0, p1] Q = wS (sSeq (sIf (tNot (tOf (eCall f_is_trio [] [eVar 0]))) (sRaise "InvalidTrio") sNext) (sSeq (sSet (bName 2) (eAnd (eOp1 (gIsi [.tuple]) (eVar 1)) (eOp2 gLe (eOp1 gLen (eVar 1)) (eC (.int 5))))) (sIf (tOr (tNot (tOf (eVar 2))) (tNot (tOf (eOp1 gAll (eComp [3] (iSeq (eVar 1)) (bName 3) tYes (eCall f_is_deal [] [eVar 3])))))) (sRaise "InvalidDeals") sNext))) [some (.val p0), some (.val p1), none, none] (fun _ => Q (.val .none) none) (fun f _ => wRt f fun r => Q r none) := wF_body

noncomputable def den_sets_of : DM :=
  sSeq (sSet (bOwn 1) (eLst [eTup []])) (sSeq (sFor (iSeq (eVar 0)) (bName 2) (sExt 1 (eCompB [3] 1 (bName 3) tYes (eOp2 gAdd (eVar 3) (eTup [eVar 2]))))) (sRet (eMove 1)))
noncomputable def f_sets_of : DF := bodyF 4 den_sets_of
theorem wd_sets_of (p0 : D) (Q : RV → Option D → Prop) : wF f_sets_of none [p0] Q = wS (sSeq (sSet (bOwn 1) (eLst [eTup []])) (sSeq (sFor (iSeq (eVar 0)) (bName 2) (sExt 1 (eCompB [3] 1 (bName 3) tYes (eOp2 gAdd (eVar 3) (eTup [eVar 2]))))) (sRet (eMove 1)))) [some (.val p0), none, none, none] (fun _ => Q (.val .none) none) (fun f _ => wRt f fun r => Q r none) := wF_body

noncomputable def den_owned : DM :=
  sRet (eComp [2, 3] (iEnum (eVar 0)) (bTup [bName 2, bName 3]) (tOf (eOp2 gEq (eVar 3) (eVar 1))) (eVar 2))
noncomputable def f_owned : DF := bodyF 4 den_owned
theorem wd_owned (p0 p1 : D) (Q : RV → Option D → Prop) : wF f_owned none [p0, p1] Q = wS (sRet (eComp [2, 3] (iEnum (eVar 0)) (bTup [bName 2, bName 3]) (tOf (eOp2 gEq (eVar 3) (eVar 1))) (eVar 2))) [some (.val p0), some (.val p1), none, none] (fun _ => Q (.val .none) none) (fun f _ => wRt f fun r => Q r none) := wF_body

noncomputable def den_steps : DM :=
  sSeq (sSet (bTup [bName 3, bName 4, bName 5]) (eVar 2)) (sSeq (sSet (bOwn 6) (eLst [])) (sSeq (sFor (iSeq (eCall f_sets_of [] [eCall f_owned [] [eVar 1, eVar 3]])) (bName 7) (sFor (iSeq (eCall f_sets_of [] [eCall f_owned [] [eVar 1, eVar 4]])) (bName 8) (sIf (tOf (eOp2 gEq (eOp2 gSub (eCall f_worth [] [eVar 0, eVar 7]) (eCall f_worth [] [eVar 0, eVar 8])) (eVar 5))) (sSeq (sSet (bOwn 9) (eOp1 gList (eVar 1))) (sSeq (sFor (iSeq (eVar 7)) (bName 10) (sPut 9 (eVar 10) (eVar 4))) (sSeq (sFor (iSeq (eVar 8)) (bName 10) (sPut 9 (eVar 10) (eVar 3))) (sAppend 6 (eTup [eTup [eVar 7, eVar 8], eOp1 gTuple (eBor 9)]))))) sNext))) (sRet (eMove 6))))
noncomputable def f_steps : DF := bodyF 11 den_steps
theorem wd_steps (p0 p1 p2 : D) (Q : RV → Option D → Prop) : wF f_steps none [p0, p1, p2] Q = wS (sSeq (sSet (bTup [bName 3, bName 4, bName 5]) (eVar 2)) (sSeq (sSet (bOwn 6) (eLst [])) (sSeq (sFor (iSeq (eCall f_sets_of [] [eCall f_owned [] [eVar 1, eVar 3]])) (bName 7) (sFor (iSeq (eCall f_sets_of [] [eCall f_owned [] [eVar 1, eVar 4]])) (bName 8) (sIf (tOf (eOp2 gEq (eOp2 gSub (eCall f_worth [] [eVar 0, eVar 7]) (eCall f_worth [] [eVar 0, eVar 8])) (eVar 5))) (sSeq (sSet (bOwn 9) (eOp1 gList (eVar 1))) (sSeq (sFor (iSeq (eVar 7)) (bName 10) (sPut 9 (eVar 10) (eVar 4))) (sSeq (sFor (iSeq (eVar 8)) (bName 10) (sPut 9 (eVar 10) (eVar 3))) (sAppend 6 (eTup [eTup [eVar 7, eVar 8], eOp1 gTuple (eBor 9)]))))) sNext))) (sRet (eMove 6))))) [some (.val p0), some (.val p1), some (.val p2), none, none, none, none, none, none, none, none] (fun _ => Q (.val .none) none) (fun f _ => wRt f fun r => Q r none) := wF_body

noncomputable def den_can_all : DM :=
  sSeq (sSet (bName 3) (eDictT1 (eVar 1) (eC (.bool true)))) (sSeq (sFor (iSeq (eVar 2)) (bName 4) (sSeq (sSet (bOwn 5) eDictT) (sSeq (sForK 3 (bName 6) (sFor (iSeq (eCall f_steps [] [eVar 0, eVar 6, eVar 4])) (bTup [bName 7, bName 8]) (sPut 5 (eVar 8) (eC (.bool true))))) (sSet (bName 3) (eMove 5))))) (sRet (eOp2 gNeE (eVar 3) eDictK)))
noncomputable def f_can_all : DF := bodyF 9 den_can_all
theorem wd_can_all (p0 p1 p2 : D) (Q : RV → Option D → Prop) : wF f_can_all none [p0, p1, p2] Q = wS (sSeq (sSet (bName 3) (eDictT1 (eVar 1) (eC (.bool true)))) (sSeq (sFor (iSeq (eVar 2)) (bName 4) (sSeq (sSet (bOwn 5) eDictT) (sSeq (sForK 3 (bName 6) (sFor (iSeq (eCall f_steps [] [eVar 0, eVar 6, eVar 4])) (bTup [bName 7, bName 8]) (sPut 5 (eVar 8) (eC (.bool true))))) (sSet (bName 3) (eMove 5))))) (sRet (eOp2 gNeE (eVar 3) eDictK)))) [some (.val p0), some (.val p1), some (.val p2), none, none, none, none, none, none] (fun _ => Q (.val .none) none) (fun f _ => wRt f fun r => Q r none) := wF_body

noncomputable def den_trio_possible : DM :=
  sSeq (sExpr (eCall f_check_deals [] [eVar 0, eVar 1])) (sRet (eCall f_can_all [] [eOp2 gIx (eVar 0) (eC (.int 0)), eOp2 gIx (eVar 0) (eC (.int 1)), eVar 1]))
noncomputable def f_trio_possible : DF := bodyF 2 den_trio_possible
theorem wd_trio_possible (p0 p1 : D) (Q : RV → Option D → Prop) : wF f_trio_possible none [p0, p1] Q = wS (sSeq (sExpr (eCall f_check_deals [] [eVar 0, eVar 1])) (sRet (eCall f_can_all [] [eOp2 gIx (eVar 0) (eC (.int 0)), eOp2 gIx (eVar 0) (eC (.int 1)), eVar 1]))) [some (.val p0), some (.val p1)] (fun _ => Q (.val .none) none) (fun f _ => wRt f fun r => Q r none) := wF_body

noncomputable def den_first_payments : DM :=
  sSeq (sExpr (eCall f_check_deals [] [eVar 0, eVar 1])) (sSeq (sIf (tOf (eOp2 gEq (eVar 1) (eTup []))) (sRet (eLst [])) sNext) (sSeq (sSet (bOwn 3) (eLst [])) (sSeq (sFor (iSeq (eCall f_steps [] [eOp2 gIx (eVar 0) (eC (.int 0)), eOp2 gIx (eVar 0) (eC (.int 1)), eOp2 gIx (eVar 1) (eC (.int 0))])) (bTup [bName 4, bName 5]) (sIf (tOf (eOp2 gEq (eCall f_can_all [] [eOp2 gIx (eVar 0) (eC (.int 0)), eVar 5, eSl (eVar 1) (pPart (eC (.int 1))) pNone]) (eVar 2))) (sAppend 3 (eVar 4)) sNext)) (sRet (eOp1 gSorted (eBor 3))))))
noncomputable def f_first_payments : DF := bodyF 6 den_first_payments
theorem wd_first_payments (p0 p1 p2 : D) (Q : RV → Option D → Prop) : wF f_first_payments none [p0, p1, p2] Q = wS (sSeq (sExpr (eCall f_check_deals [] [eVar 0, eVar 1])) (sSeq (sIf (tOf (eOp2 gEq (eVar 1) (eTup []))) (sRet (eLst [])) sNext) (sSeq (sSet (bOwn 3) (eLst [])) (sSeq (sFor (iSeq (eCall f_steps [] [eOp2 gIx (eVar 0) (eC (.int 0)), eOp2 gIx (eVar 0) (eC (.int 1)), eOp2 gIx (eVar 1) (eC (.int 0))])) (bTup [bName 4, bName 5]) (sIf (tOf (eOp2 gEq (eCall f_can_all [] [eOp2 gIx (eVar 0) (eC (.int 0)), eVar 5, eSl (eVar 1) (pPart (eC (.int 1))) pNone]) (eVar 2))) (sAppend 3 (eVar 4)) sNext)) (sRet (eOp1 gSorted (eBor 3))))))) [some (.val p0), some (.val p1), some (.val p2), none, none, none] (fun _ => Q (.val .none) none) (fun f _ => wRt f fun r => Q r none) := wF_body

noncomputable def den_good_payments : DM :=
  sRet (eCall f_first_payments [] [eVar 0, eVar 1, eC (.bool true)])
noncomputable def f_good_payments : DF := bodyF 2 den_good_payments
theorem wd_good_payments (p0 p1 : D) (Q : RV → Option D → Prop) : wF f_good_payments none [p0, p1] Q = wS (sRet (eCall f_first_payments [] [eVar 0, eVar 1, eC (.bool true)])) [some (.val p0), some (.val p1)] (fun _ => Q (.val .none) none) (fun f _ => wRt f fun r => Q r none) := wF_body

noncomputable def den_bad_payments : DM :=
  sRet (eCall f_first_payments [] [eVar 0, eVar 1, eC (.bool false)])
noncomputable def f_bad_payments : DF := bodyF 2 den_bad_payments
theorem wd_bad_payments (p0 p1 : D) (Q : RV → Option D → Prop) : wF f_bad_payments none [p0, p1] Q = wS (sRet (eCall f_first_payments [] [eVar 0, eVar 1, eC (.bool false)])) [some (.val p0), some (.val p1)] (fun _ => Q (.val .none) none) (fun f _ => wRt f fun r => Q r none) := wF_body

noncomputable def den__law_trio : DM :=
  sSeq (sSet (bName 2) (eCallS f__law_coins [] 0 [eVar 1])) (sRet (eTup [eVar 2, eOp1 gTuple (eComp [3] (iSeq (eVar 2)) (bName 3) tYes (eCallS f__law_draw [] 0 [eC (.int 3)]))]))
noncomputable def f__law_trio : DF := bodyF 4 den__law_trio
theorem wd__law_trio (p0 p1 : D) (Q : RV → Option D → Prop) : wF f__law_trio (some p0) [p1] Q = wS (sSeq (sSet (bName 2) (eCallS f__law_coins [] 0 [eVar 1])) (sRet (eTup [eVar 2, eOp1 gTuple (eComp [3] (iSeq (eVar 2)) (bName 3) tYes (eCallS f__law_draw [] 0 [eC (.int 3)]))]))) [some (.own true p0), some (.val p1), none, none] (fun s => w0 s[0]? fun c => Q (.val .none) (some c)) (fun f s => wRt f fun r => w0 s[0]? fun c => Q r (some c)) := wF_bodyS

noncomputable def den__law_steps : DM :=
  sSeq (sSet (bTup [bName 3, bName 4, bName 5]) (eVar 2)) (sSeq (sSet (bName 6) (eComp [12] (iRng1 (eOp1 gLen (eVar 0))) (bName 12) (tOf (eOp2 gIn (eOp2 gIx (eVar 1) (eVar 12)) (eTup [eVar 3, eVar 4]))) (eVar 12))) (sSeq (sSet (bOwn 7) (eLst [])) (sSeq (sFor (iSeq (eCall f__law_sets [] [eVar 6])) (bName 8) (sSeq (sSet (bName 9) (eOp1 gTuple (eComp [12] (iSeq (eVar 8)) (bName 12) (tOf (eOp2 gEq (eOp2 gIx (eVar 1) (eVar 12)) (eVar 3))) (eVar 12)))) (sSeq (sSet (bName 10) (eOp1 gTuple (eComp [12] (iSeq (eVar 8)) (bName 12) (tOf (eOp2 gEq (eOp2 gIx (eVar 1) (eVar 12)) (eVar 4))) (eVar 12)))) (sIf (tOf (eOp2 gEq (eOp2 gSub (eCall f__law_worth [] [eVar 0, eVar 9]) (eCall f__law_worth [] [eVar 0, eVar 10])) (eVar 5))) (sSeq (sSet (bOwn 11) (eOp1 gList (eVar 1))) (sSeq (sFor (iSeq (eVar 8)) (bName 12) (sPut 11 (eVar 12) (eIf (tOf (eOp2 gEq (eOp2 gIx (eVar 1) (eVar 12)) (eVar 3))) (eVar 4) (eVar 3)))) (sAppend 7 (eTup [eTup [eVar 9, eVar 10], eOp1 gTuple (eBor 11)])))) sNext)))) (sRet (eMove 7)))))
noncomputable def f__law_steps : DF := bodyF 13 den__law_steps
theorem wd__law_steps (p0 p1 p2 : D) (Q : RV → Option D → Prop) : wF f__law_steps none [p0, p1, p2] Q = wS (sSeq (sSet (bTup [bName 3, bName 4, bName 5]) (eVar 2)) (sSeq (sSet (bName 6) (eComp [12] (iRng1 (eOp1 gLen (eVar 0))) (bName 12) (tOf (eOp2 gIn (eOp2 gIx (eVar 1) (eVar 12)) (eTup [eVar 3, eVar 4]))) (eVar 12))) (sSeq (sSet (bOwn 7) (eLst [])) (sSeq (sFor (iSeq (eCall f__law_sets [] [eVar 6])) (bName 8) (sSeq (sSet (bName 9) (eOp1 gTuple (eComp [12] (iSeq (eVar 8)) (bName 12) (tOf (eOp2 gEq (eOp2 gIx (eVar 1) (eVar 12)) (eVar 3))) (eVar 12)))) (sSeq (sSet (bName 10) (eOp1 gTuple (eComp [12] (iSeq (eVar 8)) (bName 12) (tOf (eOp2 gEq (eOp2 gIx (eVar 1) (eVar 12)) (eVar 4))) (eVar 12)))) (sIf (tOf (eOp2 gEq (eOp2 gSub (eCall f__law_worth [] [eVar 0, eVar 9]) (eCall f__law_worth [] [eVar 0, eVar 10])) (eVar 5))) (sSeq (sSet (bOwn 11) (eOp1 gList (eVar 1))) (sSeq (sFor (iSeq (eVar 8)) (bName 12) (sPut 11 (eVar 12) (eIf (tOf (eOp2 gEq (eOp2 gIx (eVar 1) (eVar 12)) (eVar 3))) (eVar 4) (eVar 3)))) (sAppend 7 (eTup [eTup [eVar 9, eVar 10], eOp1 gTuple (eBor 11)])))) sNext)))) (sRet (eMove 7)))))) [some (.val p0), some (.val p1), some (.val p2), none, none, none, none, none, none, none, none, none, none] (fun _ => Q (.val .none) none) (fun f _ => wRt f fun r => Q r none) := wF_body

noncomputable def den__law_can (r : DF) : DM :=
  sSeq (sIf (tOf (eOp2 gEq (eVar 2) (eTup []))) (sRet (eC (.bool true))) sNext) (sSeq (sFor (iSeq (eCall f__law_steps [] [eVar 0, eVar 1, eOp2 gIx (eVar 2) (eC (.int 0))])) (bTup [bName 3, bName 4]) (sIf (tOf (eCall r [] [eVar 0, eVar 4, eSl (eVar 2) (pPart (eC (.int 1))) pNone])) (sRet (eC (.bool true))) sNext)) (sRet (eC (.bool false))))
noncomputable def f__law_can : Nat → DF
  | 0 => fun _ _ => .bad
  | n + 1 => bodyF 5 (den__law_can (f__law_can n))
theorem wd__law_can (n : Nat) (p0 p1 p2 : D) (Q : RV → Option D → Prop) : wF (f__law_can (n + 1)) none [p0, p1, p2] Q = wS (sSeq (sIf (tOf (eOp2 gEq (eVar 2) (eTup []))) (sRet (eC (.bool true))) sNext) (sSeq (sFor (iSeq (eCall f__law_steps [] [eVar 0, eVar 1, eOp2 gIx (eVar 2) (eC (.int 0))])) (bTup [bName 3, bName 4]) (sIf (tOf (eCall (f__law_can n) [] [eVar 0, eVar 4, eSl (eVar 2) (pPart (eC (.int 1))) pNone])) (sRet (eC (.bool true))) sNext)) (sRet (eC (.bool false))))) [some (.val p0), some (.val p1), some (.val p2), none, none] (fun _ => Q (.val .none) none) (fun f _ => wRt f fun r => Q r none) := wF_body

noncomputable def den__law_deals : DM :=
  sSeq (sSet (bName 3) (eTup [])) (sSeq (sFor (iRng1 (eCallS f__law_draw [] 0 [eOp2 gAdd (eVar 2) (eC (.int 1))])) (bName 4) (sSeq (sSet (bName 5) (eCallS f__law_draw [] 0 [eC (.int 3)])) (sSeq (sSet (bName 6) (eOp2 gMod (eOp2 gAdd (eOp2 gAdd (eVar 5) (eC (.int 1))) (eCallS f__law_draw [] 0 [eC (.int 2)])) (eC (.int 3)))) (sSeq (sSet (bName 7) (eCall f__law_worth [] [eOp2 gIx (eVar 1) (eC (.int 0)), eCallS f__law_some [] 0 [eListRg1 (eOp1 gLen (eOp2 gIx (eVar 1) (eC (.int 0))))]])) (sSet (bName 3) (eOp2 gAdd (eVar 3) (eTup [eTup [eVar 5, eVar 6, eCallS f__law_choice [] 0 [eLst [eVar 7, eOp2 gFdiv (eVar 7) (eC (.int 2)), eC (.int 0), eC (.int 1), eC (.int 2)]]]]))))))) (sRet (eVar 3)))
noncomputable def f__law_deals : DF := bodyF 8 den__law_deals
theorem wd__law_deals (p0 p1 p2 : D) (Q : RV → Option D → Prop) : wF f__law_deals (some p0) [p1, p2] Q = wS (sSeq (sSet (bName 3) (eTup [])) (sSeq (sFor (iRng1 (eCallS f__law_draw [] 0 [eOp2 gAdd (eVar 2) (eC (.int 1))])) (bName 4) (sSeq (sSet (bName 5) (eCallS f__law_draw [] 0 [eC (.int 3)])) (sSeq (sSet (bName 6) (eOp2 gMod (eOp2 gAdd (eOp2 gAdd (eVar 5) (eC (.int 1))) (eCallS f__law_draw [] 0 [eC (.int 2)])) (eC (.int 3)))) (sSeq (sSet (bName 7) (eCall f__law_worth [] [eOp2 gIx (eVar 1) (eC (.int 0)), eCallS f__law_some [] 0 [eListRg1 (eOp1 gLen (eOp2 gIx (eVar 1) (eC (.int 0))))]])) (sSet (bName 3) (eOp2 gAdd (eVar 3) (eTup [eTup [eVar 5, eVar 6, eCallS f__law_choice [] 0 [eLst [eVar 7, eOp2 gFdiv (eVar 7) (eC (.int 2)), eC (.int 0), eC (.int 1), eC (.int 2)]]]]))))))) (sRet (eVar 3)))) [some (.own true p0), some (.val p1), some (.val p2), none, none, none, none, none] (fun s => w0 s[0]? fun c => Q (.val .none) (some c)) (fun f s => wRt f fun r => w0 s[0]? fun c => Q r (some c)) := wF_bodyS

noncomputable def den_lead : DM :=
  sSeq (sExpr (eCall f_check_state [] [eVar 0])) (sSeq (sIf (tNot (tOf (eCall f_is_set [] [eOp1 gLen (eOp2 gIx (eVar 0) (eC (.int 0))), eVar 1]))) (sRaise "InvalidDivision") sNext) (sRet (eCall f_exchange [] [eVar 0, eVar 1])))
noncomputable def f_lead : DF := bodyF 2 den_lead
theorem wd_lead (p0 p1 : D) (Q : RV → Option D → Prop) : wF f_lead none [p0, p1] Q = wS (sSeq (sExpr (eCall f_check_state [] [eVar 0])) (sSeq (sIf (tNot (tOf (eCall f_is_set [] [eOp1 gLen (eOp2 gIx (eVar 0) (eC (.int 0))), eVar 1]))) (sRaise "InvalidDivision") sNext) (sRet (eCall f_exchange [] [eVar 0, eVar 1])))) [some (.val p0), some (.val p1)] (fun _ => Q (.val .none) none) (fun f _ => wRt f fun r => Q r none) := wF_body

noncomputable def den__law_numbers : DM :=
  sSeq (sSet (bName 3) (eOp1 gTuple (eComp [5] (iSeq (eVar 1)) (bName 5) tYes (eOp2 gMul (eVar 5) (eVar 2))))) (sSeq (sSet (bOwn 4) (eLst [eCall f_can_pay_row [] [eVar 0, eVar 3], eCall f_count_rows [] [eVar 0, eVar 3], eCall f_first_unpayable [] [eVar 0, eVar 3]])) (sSeq (sAppend 4 (eCall f_fewest_row [] [eVar 0, eVar 3])) (sSeq (sFor (iSeq (eVar 3)) (bName 5) (sSet (bOwn 4) (eOp2 gAdd (eBor 4) (eLst [eCall f_count_ways [] [eVar 0, eVar 5], eCall f_fewest_coins [] [eVar 0, eVar 5], eCall f_can_give [] [eVar 0, eVar 5]])))) (sRet (eMove 4)))))
noncomputable def f__law_numbers : DF := bodyF 6 den__law_numbers
theorem wd__law_numbers (p0 p1 p2 : D) (Q : RV → Option D → Prop) : wF f__law_numbers none [p0, p1, p2] Q = wS (sSeq (sSet (bName 3) (eOp1 gTuple (eComp [5] (iSeq (eVar 1)) (bName 5) tYes (eOp2 gMul (eVar 5) (eVar 2))))) (sSeq (sSet (bOwn 4) (eLst [eCall f_can_pay_row [] [eVar 0, eVar 3], eCall f_count_rows [] [eVar 0, eVar 3], eCall f_first_unpayable [] [eVar 0, eVar 3]])) (sSeq (sAppend 4 (eCall f_fewest_row [] [eVar 0, eVar 3])) (sSeq (sFor (iSeq (eVar 3)) (bName 5) (sSet (bOwn 4) (eOp2 gAdd (eBor 4) (eLst [eCall f_count_ways [] [eVar 0, eVar 5], eCall f_fewest_coins [] [eVar 0, eVar 5], eCall f_can_give [] [eVar 0, eVar 5]])))) (sRet (eMove 4)))))) [some (.val p0), some (.val p1), some (.val p2), none, none, none] (fun _ => Q (.val .none) none) (fun f _ => wRt f fun r => Q r none) := wF_body

noncomputable def den__law_first : DM :=
  sSeq (sSet (bName 2) (eComp [4, 5] (iSeq (eCall f__law_payments [] [eVar 0])) (bTup [bName 4, bName 5]) (tOf (eOp2 gEq (eVar 4) (eVar 1))) (eVar 5))) (sSeq (sSet (bName 3) (eOp1 gSorted (eComp [6] (iSeq (eVar 2)) (bName 6) tYes (eTup [eOp2 gAdd (eOp1 gLen (eOp2 gIx (eVar 6) (eC (.int 0)))) (eOp1 gLen (eOp2 gIx (eVar 6) (eC (.int 1)))), eVar 6])))) (sRet (eIf (tOf (eOp2 gNe (eVar 3) (eLst []))) (eOp2 gIx (eOp2 gIx (eVar 3) (eC (.int 0))) (eC (.int 1))) (eC .none))))
noncomputable def f__law_first : DF := bodyF 7 den__law_first
theorem wd__law_first (p0 p1 : D) (Q : RV → Option D → Prop) : wF f__law_first none [p0, p1] Q = wS (sSeq (sSet (bName 2) (eComp [4, 5] (iSeq (eCall f__law_payments [] [eVar 0])) (bTup [bName 4, bName 5]) (tOf (eOp2 gEq (eVar 4) (eVar 1))) (eVar 5))) (sSeq (sSet (bName 3) (eOp1 gSorted (eComp [6] (iSeq (eVar 2)) (bName 6) tYes (eTup [eOp2 gAdd (eOp1 gLen (eOp2 gIx (eVar 6) (eC (.int 0)))) (eOp1 gLen (eOp2 gIx (eVar 6) (eC (.int 1)))), eVar 6])))) (sRet (eIf (tOf (eOp2 gNe (eVar 3) (eLst []))) (eOp2 gIx (eOp2 gIx (eVar 3) (eC (.int 0))) (eC (.int 1))) (eC .none))))) [some (.val p0), some (.val p1), none, none, none, none, none] (fun _ => Q (.val .none) none) (fun f _ => wRt f fun r => Q r none) := wF_body

noncomputable def den__law_due : DM :=
  sSeq (sSet (bTup [bName 2, bName 3]) (eVar 1)) (sSeq (sSet (bName 4) (eOp2 gIx (eOp2 gIx (eVar 0) (eOp1 gNeg (eC (.int 1)))) (eC (.int 0)))) (sSeq (sIf (tOf (eOp2 gEq (eVar 2) (eC (.str "undo")))) (sRet (eTup [eIf (tOf (eOp2 gEq (eOp1 gLen (eVar 0)) (eC (.int 1)))) (eC (.str "NothingToUndo+")) (eC (.str "")), eC .none])) sNext) (sSeq (sIf (tOf (eOp2 gEq (eVar 2) (eC (.str "pay")))) (sSeq (sSet (bName 5) (eLst [eOp2 gIx (eVar 4) (eC (.int 1)), eCall f__law_others [] [eVar 4]])) (sSeq (sFor (iZip (eVar 3) (eVar 5)) (bTup [bName 6, bName 7]) (sIf (tOr (tNot (tOf (eOp1 (gIsi [.tuple]) (eVar 6)))) (tOf (eOp2 gNe (eComp [9] (iSeq (eVar 6)) (bName 9) (tOf (eOp2 gNotIn (eVar 9) (eVar 7))) (eVar 9)) (eLst [])))) (sRet (eTup [eC (.str "InvalidPayment+"), eC .none])) sNext)) (sRet (eTup [eC (.str ""), eVar 3])))) sNext) (sSeq (sIf (tOr (tNot (tOf (eCall f__law_is_int [] [eVar 3]))) (tNot (tOf (eChain gLe gLe (eOp1 gNeg (eC (.int 12000))) (eVar 3) (eC (.int 12000)))))) (sRet (eTup [eC (.str "InvalidPrice+"), eC .none])) sNext) (sSeq (sSet (bName 8) (eCall f__law_first [] [eVar 4, eVar 3])) (sRet (eTup [eIf (tOf (eOp2 gIsNo (eVar 8) (eC .none))) (eC (.str "NotPayable+")) (eC (.str "")), eVar 8])))))))
noncomputable def f__law_due : DF := bodyF 10 den__law_due
theorem wd__law_due (p0 p1 : D) (Q : RV → Option D → Prop) : wF f__law_due none [p0, p1] Q = wS (sSeq (sSet (bTup [bName 2, bName 3]) (eVar 1)) (sSeq (sSet (bName 4) (eOp2 gIx (eOp2 gIx (eVar 0) (eOp1 gNeg (eC (.int 1)))) (eC (.int 0)))) (sSeq (sIf (tOf (eOp2 gEq (eVar 2) (eC (.str "undo")))) (sRet (eTup [eIf (tOf (eOp2 gEq (eOp1 gLen (eVar 0)) (eC (.int 1)))) (eC (.str "NothingToUndo+")) (eC (.str "")), eC .none])) sNext) (sSeq (sIf (tOf (eOp2 gEq (eVar 2) (eC (.str "pay")))) (sSeq (sSet (bName 5) (eLst [eOp2 gIx (eVar 4) (eC (.int 1)), eCall f__law_others [] [eVar 4]])) (sSeq (sFor (iZip (eVar 3) (eVar 5)) (bTup [bName 6, bName 7]) (sIf (tOr (tNot (tOf (eOp1 (gIsi [.tuple]) (eVar 6)))) (tOf (eOp2 gNe (eComp [9] (iSeq (eVar 6)) (bName 9) (tOf (eOp2 gNotIn (eVar 9) (eVar 7))) (eVar 9)) (eLst [])))) (sRet (eTup [eC (.str "InvalidPayment+"), eC .none])) sNext)) (sRet (eTup [eC (.str ""), eVar 3])))) sNext) (sSeq (sIf (tOr (tNot (tOf (eCall f__law_is_int [] [eVar 3]))) (tNot (tOf (eChain gLe gLe (eOp1 gNeg (eC (.int 12000))) (eVar 3) (eC (.int 12000)))))) (sRet (eTup [eC (.str "InvalidPrice+"), eC .none])) sNext) (sSeq (sSet (bName 8) (eCall f__law_first [] [eVar 4, eVar 3])) (sRet (eTup [eIf (tOf (eOp2 gIsNo (eVar 8) (eC .none))) (eC (.str "NotPayable+")) (eC (.str "")), eVar 8])))))))) [some (.val p0), some (.val p1), none, none, none, none, none, none, none, none] (fun _ => Q (.val .none) none) (fun f _ => wRt f fun r => Q r none) := wF_body

noncomputable def den__law_next : DM :=
  sSeq (sIf (tOf (eOp2 gEq (eOp2 gIx (eVar 1) (eC (.int 0))) (eC (.str "undo")))) (sRet (eSl (eVar 0) pNone (pPart (eOp1 gNeg (eC (.int 1)))))) sNext) (sSeq (sSet (bTup [bName 3, bName 4]) (eOp2 gIx (eVar 0) (eOp1 gNeg (eC (.int 1))))) (sSeq (sSet (bName 5) (eOp2 gSub (eCall f__law_worth [] [eOp2 gIx (eVar 3) (eC (.int 0)), eOp2 gIx (eVar 2) (eC (.int 0))]) (eCall f__law_worth [] [eOp2 gIx (eVar 3) (eC (.int 0)), eOp2 gIx (eVar 2) (eC (.int 1))]))) (sRet (eOp2 gAdd (eVar 0) (eLst [eTup [eCall f__law_behind [] [eVar 3, eVar 2], eOp2 gAdd (eVar 4) (eLst [eVar 5])]])))))
noncomputable def f__law_next : DF := bodyF 6 den__law_next
theorem wd__law_next (p0 p1 p2 : D) (Q : RV → Option D → Prop) : wF f__law_next none [p0, p1, p2] Q = wS (sSeq (sIf (tOf (eOp2 gEq (eOp2 gIx (eVar 1) (eC (.int 0))) (eC (.str "undo")))) (sRet (eSl (eVar 0) pNone (pPart (eOp1 gNeg (eC (.int 1)))))) sNext) (sSeq (sSet (bTup [bName 3, bName 4]) (eOp2 gIx (eVar 0) (eOp1 gNeg (eC (.int 1))))) (sSeq (sSet (bName 5) (eOp2 gSub (eCall f__law_worth [] [eOp2 gIx (eVar 3) (eC (.int 0)), eOp2 gIx (eVar 2) (eC (.int 0))]) (eCall f__law_worth [] [eOp2 gIx (eVar 3) (eC (.int 0)), eOp2 gIx (eVar 2) (eC (.int 1))]))) (sRet (eOp2 gAdd (eVar 0) (eLst [eTup [eCall f__law_behind [] [eVar 3, eVar 2], eOp2 gAdd (eVar 4) (eLst [eVar 5])]])))))) [some (.val p0), some (.val p1), some (.val p2), none, none, none] (fun _ => Q (.val .none) none) (fun f _ => wRt f fun r => Q r none) := wF_body

noncomputable def den__wall : DM :=
  sWhile bigFuel (tOf (eC (.bool true))) sNext
noncomputable def f__wall : DF := bodyF 1 den__wall
theorem wd__wall (p0 : D) (Q : RV → Option D → Prop) : wF f__wall none [p0] Q = wS (sWhile bigFuel (tOf (eC (.bool true))) sNext) [some (.val p0)] (fun _ => Q (.val .none) none) (fun f _ => wRt f fun r => Q r none) := wF_body

noncomputable def den__law_choose : DM :=
  sSeq (sSet (bName 2) (eC (.int 1))) (sSeq (sFor (iRng1 (eVar 1)) (bName 3) (sSet (bName 2) (eOp2 gFdiv (eOp2 gMul (eVar 2) (eOp2 gSub (eVar 0) (eVar 3))) (eOp2 gAdd (eVar 3) (eC (.int 1)))))) (sRet (eVar 2)))
noncomputable def f__law_choose : DF := bodyF 4 den__law_choose
theorem wd__law_choose (p0 p1 : D) (Q : RV → Option D → Prop) : wF f__law_choose none [p0, p1] Q = wS (sSeq (sSet (bName 2) (eC (.int 1))) (sSeq (sFor (iRng1 (eVar 1)) (bName 3) (sSet (bName 2) (eOp2 gFdiv (eOp2 gMul (eVar 2) (eOp2 gSub (eVar 0) (eVar 3))) (eOp2 gAdd (eVar 3) (eC (.int 1)))))) (sRet (eVar 2)))) [some (.val p0), some (.val p1), none, none] (fun _ => Q (.val .none) none) (fun f _ => wRt f fun r => Q r none) := wF_body

noncomputable def den__law_doubled_right : DM :=
  sSeq (sSet (bTup [bName 2, bName 3]) (eTup [eTup [], eC (.int 1)])) (sSeq (sFor (iRng1 (eVar 0)) (bName 4) (sSet (bTup [bName 2, bName 3]) (eTup [eOp2 gAdd (eVar 2) (eTup [eVar 3]), eOp2 gMul (eC (.int 2)) (eVar 3)]))) (sSeq (sSet (bName 5) (eTup [eVar 2, eVar 1])) (sSeq (sSet (bName 6) (eOp1 gSum (eComp [7] (iSeq (eVar 1)) (bName 7) tYes (eOp2 gIx (eVar 2) (eVar 7))))) (sSeq (sIf (tOf (eOp2 gNe (eCall f_payable [] [eVar 5]) (eListRg2 (eOp2 gAdd (eOp2 gSub (eVar 6) (eVar 3)) (eC (.int 1))) (eOp2 gAdd (eVar 6) (eC (.int 1)))))) (sRet (eC (.bool false))) sNext) (sSeq (sIf (tOf (eOp2 gNe (eComp [8] (iSeq (eCall f_payable [] [eVar 5])) (bName 8) (tOf (eOp2 gNe (eCall f_count_ways [] [eVar 5, eVar 8]) (eC (.int 1)))) (eVar 8)) (eLst []))) (sRet (eC (.bool false))) sNext) (sRet (eIf (tAnd (tOf (eOp2 gLe (eVar 0) (eC (.int 8)))) (tOf (eOp2 gGt (eVar 6) (eC (.int 0))))) (eOp2 gEq (eCall f_fewest_row [] [eVar 5, eTup [eVar 6, eOp2 gSub (eC (.int 1)) (eVar 3)]]) (eOp2 gAdd (eOp1 gLen (eVar 1)) (eVar 0))) (eC (.bool true)))))))))
noncomputable def f__law_doubled_right : DF := bodyF 9 den__law_doubled_right
theorem wd__law_doubled_right (p0 p1 : D) (Q : RV → Option D → Prop) : wF f__law_doubled_right none [p0, p1] Q = wS (sSeq (sSet (bTup [bName 2, bName 3]) (eTup [eTup [], eC (.int 1)])) (sSeq (sFor (iRng1 (eVar 0)) (bName 4) (sSet (bTup [bName 2, bName 3]) (eTup [eOp2 gAdd (eVar 2) (eTup [eVar 3]), eOp2 gMul (eC (.int 2)) (eVar 3)]))) (sSeq (sSet (bName 5) (eTup [eVar 2, eVar 1])) (sSeq (sSet (bName 6) (eOp1 gSum (eComp [7] (iSeq (eVar 1)) (bName 7) tYes (eOp2 gIx (eVar 2) (eVar 7))))) (sSeq (sIf (tOf (eOp2 gNe (eCall f_payable [] [eVar 5]) (eListRg2 (eOp2 gAdd (eOp2 gSub (eVar 6) (eVar 3)) (eC (.int 1))) (eOp2 gAdd (eVar 6) (eC (.int 1)))))) (sRet (eC (.bool false))) sNext) (sSeq (sIf (tOf (eOp2 gNe (eComp [8] (iSeq (eCall f_payable [] [eVar 5])) (bName 8) (tOf (eOp2 gNe (eCall f_count_ways [] [eVar 5, eVar 8]) (eC (.int 1)))) (eVar 8)) (eLst []))) (sRet (eC (.bool false))) sNext) (sRet (eIf (tAnd (tOf (eOp2 gLe (eVar 0) (eC (.int 8)))) (tOf (eOp2 gGt (eVar 6) (eC (.int 0))))) (eOp2 gEq (eCall f_fewest_row [] [eVar 5, eTup [eVar 6, eOp2 gSub (eC (.int 1)) (eVar 3)]]) (eOp2 gAdd (eOp1 gLen (eVar 1)) (eVar 0))) (eC (.bool true)))))))))) [some (.val p0), some (.val p1), none, none, none, none, none, none, none] (fun _ => Q (.val .none) none) (fun f _ => wRt f fun r => Q r none) := wF_body

noncomputable def den_stretch : DM :=
  sSeq (sExpr (eCall f_check_state [] [eVar 0])) (sSeq (sPar [(false, 1), (false, 2)] [eCall f_counts_for [] [eOp2 gIx (eVar 0) (eC (.int 0))], eCall f_total_of_second [] [eVar 0]]) (sSeq (sPar [(false, 3), (false, 4)] [eVar 2, eVar 2]) (sSeq (sWhile bigFuel (tOf (eOp2 gIn (eOp2 gSub (eVar 3) (eC (.int 1))) (eVar 1))) (sAugI fSub 3 (eC (.int 1)))) (sSeq (sWhile bigFuel (tOf (eOp2 gIn (eOp2 gAdd (eVar 4) (eC (.int 1))) (eVar 1))) (sAugI fAdd 4 (eC (.int 1)))) (sRet (eTup [eOp2 gSub (eVar 3) (eVar 2), eOp2 gSub (eVar 4) (eVar 2)]))))))
noncomputable def f_stretch : DF := bodyF 5 den_stretch
theorem wd_stretch (p0 : D) (Q : RV → Option D → Prop) : wF f_stretch none [p0] Q = wS (sSeq (sExpr (eCall f_check_state [] [eVar 0])) (sSeq (sPar [(false, 1), (false, 2)] [eCall f_counts_for [] [eOp2 gIx (eVar 0) (eC (.int 0))], eCall f_total_of_second [] [eVar 0]]) (sSeq (sPar [(false, 3), (false, 4)] [eVar 2, eVar 2]) (sSeq (sWhile bigFuel (tOf (eOp2 gIn (eOp2 gSub (eVar 3) (eC (.int 1))) (eVar 1))) (sAugI fSub 3 (eC (.int 1)))) (sSeq (sWhile bigFuel (tOf (eOp2 gIn (eOp2 gAdd (eVar 4) (eC (.int 1))) (eVar 1))) (sAugI fAdd 4 (eC (.int 1)))) (sRet (eTup [eOp2 gSub (eVar 3) (eVar 2), eOp2 gSub (eVar 4) (eVar 2)]))))))) [some (.val p0), none, none, none, none] (fun _ => Q (.val .none) none) (fun f _ => wRt f fun r => Q r none) := wF_body

noncomputable def den_count_missing : DM :=
  sSeq (sExpr (eCall f_check_state [] [eVar 0])) (sRet (eOp2 gSub (eOp2 gAdd (eOp1 gSum (eOp2 gIx (eVar 0) (eC (.int 0)))) (eC (.int 1))) (eOp1 gLen (eCall f_counts_for [] [eOp2 gIx (eVar 0) (eC (.int 0))]))))
noncomputable def f_count_missing : DF := bodyF 1 den_count_missing
theorem wd_count_missing (p0 : D) (Q : RV → Option D → Prop) : wF f_count_missing none [p0] Q = wS (sSeq (sExpr (eCall f_check_state [] [eVar 0])) (sRet (eOp2 gSub (eOp2 gAdd (eOp1 gSum (eOp2 gIx (eVar 0) (eC (.int 0)))) (eC (.int 1))) (eOp1 gLen (eCall f_counts_for [] [eOp2 gIx (eVar 0) (eC (.int 0))]))))) [some (.val p0)] (fun _ => Q (.val .none) none) (fun f _ => wRt f fun r => Q r none) := wF_body

noncomputable def den__law_source_v2 : DM :=
  sSeq (sIf (tOf (eOp2 gGe (eVar 0) (eOp2 gPow (eC (.int 10)) (eC (.int 18))))) (sRet (eLst [eOp2 gSub (eVar 0) (eOp2 gPow (eC (.int 10)) (eC (.int 18))), eOp2 gMod (eOp1 gInt (eVar 0)) (eC (.int 2147483579)), eVar 1])) sNext) (sRet (eLst [eC (.int 0), eOp2 gMod (eOp1 gInt (eVar 0)) (eC (.int 2147483579)), eVar 1]))
noncomputable def f__law_source_v2 : DF := bodyF 2 den__law_source_v2
theorem wd__law_source_v2 (p0 p1 : D) (Q : RV → Option D → Prop) : wF f__law_source_v2 none [p0, p1] Q = wS (sSeq (sIf (tOf (eOp2 gGe (eVar 0) (eOp2 gPow (eC (.int 10)) (eC (.int 18))))) (sRet (eLst [eOp2 gSub (eVar 0) (eOp2 gPow (eC (.int 10)) (eC (.int 18))), eOp2 gMod (eOp1 gInt (eVar 0)) (eC (.int 2147483579)), eVar 1])) sNext) (sRet (eLst [eC (.int 0), eOp2 gMod (eOp1 gInt (eVar 0)) (eC (.int 2147483579)), eVar 1]))) [some (.val p0), some (.val p1)] (fun _ => Q (.val .none) none) (fun f _ => wRt f fun r => Q r none) := wF_body

noncomputable def den__law_draw_v2 : DM :=
  sSeq (sIf (tOf (eOp2 gGt (eOp2 gIx (eBor 0) (eC (.int 0))) (eC (.int 1)))) (sSeq (sSet (bName 2) (eOp2 gMod (eOp1 gInt (eOp2 gIx (eBor 0) (eC (.int 0)))) (eVar 1))) (sSeq (sPut 0 (eC (.int 0)) (eOp2 gFdiv (eOp2 gIx (eBor 0) (eC (.int 0))) (eVar 1))) (sRet (eVar 2)))) sNext) (sSeq (sPut 0 (eC (.int 2)) (eOp2 gAdd (eOp2 gIx (eBor 0) (eC (.int 2))) (eC (.int 1)))) (sSeq (sSet (bName 3) (eOp2 gMod (eOp1 gInt (eOp2 gPow (eOp2 gAdd (eOp2 gIx (eBor 0) (eC (.int 1))) (eOp2 gMul (eC (.int 15485867)) (eOp2 gIx (eBor 0) (eC (.int 2))))) (eC (.int 5)))) (eC (.int 2147483647)))) (sSeq (sSet (bName 2) (eOp2 gFdiv (eOp2 gMod (eOp1 gInt (eOp2 gPow (eOp2 gAdd (eVar 3) (eOp2 gMul (eC (.int 7919)) (eOp2 gIx (eBor 0) (eC (.int 2))))) (eC (.int 3)))) (eC (.int 2147483629))) (eC (.int 32)))) (sRet (eOp2 gMod (eOp1 gInt (eVar 2)) (eVar 1))))))
noncomputable def f__law_draw_v2 : DF := bodyF 4 den__law_draw_v2
theorem wd__law_draw_v2 (p0 p1 : D) (Q : RV → Option D → Prop) : wF f__law_draw_v2 (some p0) [p1] Q = wS (sSeq (sIf (tOf (eOp2 gGt (eOp2 gIx (eBor 0) (eC (.int 0))) (eC (.int 1)))) (sSeq (sSet (bName 2) (eOp2 gMod (eOp1 gInt (eOp2 gIx (eBor 0) (eC (.int 0)))) (eVar 1))) (sSeq (sPut 0 (eC (.int 0)) (eOp2 gFdiv (eOp2 gIx (eBor 0) (eC (.int 0))) (eVar 1))) (sRet (eVar 2)))) sNext) (sSeq (sPut 0 (eC (.int 2)) (eOp2 gAdd (eOp2 gIx (eBor 0) (eC (.int 2))) (eC (.int 1)))) (sSeq (sSet (bName 3) (eOp2 gMod (eOp1 gInt (eOp2 gPow (eOp2 gAdd (eOp2 gIx (eBor 0) (eC (.int 1))) (eOp2 gMul (eC (.int 15485867)) (eOp2 gIx (eBor 0) (eC (.int 2))))) (eC (.int 5)))) (eC (.int 2147483647)))) (sSeq (sSet (bName 2) (eOp2 gFdiv (eOp2 gMod (eOp1 gInt (eOp2 gPow (eOp2 gAdd (eVar 3) (eOp2 gMul (eC (.int 7919)) (eOp2 gIx (eBor 0) (eC (.int 2))))) (eC (.int 3)))) (eC (.int 2147483629))) (eC (.int 32)))) (sRet (eOp2 gMod (eOp1 gInt (eVar 2)) (eVar 1))))))) [some (.own true p0), some (.val p1), none, none] (fun s => w0 s[0]? fun c => Q (.val .none) (some c)) (fun f s => wRt f fun r => w0 s[0]? fun c => Q r (some c)) := wF_bodyS

noncomputable def den_patch_for : DM :=
  sSeq (sPar [(false, 2), (false, 3), (true, 4)] [eOp1 gSorted (eVar 0), eC (.int 0), eLst []]) (sSeq (sWhile bigFuel (tOf (eOp2 gLt (eVar 3) (eVar 1))) (sIf (tAnd (tOf (eOp2 gNe (eVar 2) (eLst []))) (tOf (eOp2 gLe (eOp2 gIx (eVar 2) (eC (.int 0))) (eOp2 gAdd (eVar 3) (eC (.int 1)))))) (sSeq (sAugI fAdd 3 (eOp2 gIx (eVar 2) (eC (.int 0)))) (sSet (bName 2) (eSl (eVar 2) (pPart (eC (.int 1))) pNone))) (sSeq (sAppend 4 (eOp2 gAdd (eVar 3) (eC (.int 1)))) (sSet (bName 3) (eOp2 gAdd (eOp2 gMul (eC (.int 2)) (eVar 3)) (eC (.int 1))))))) (sRet (eMove 4)))
noncomputable def f_patch_for : DF := bodyF 5 den_patch_for
theorem wd_patch_for (p0 p1 : D) (Q : RV → Option D → Prop) : wF f_patch_for none [p0, p1] Q = wS (sSeq (sPar [(false, 2), (false, 3), (true, 4)] [eOp1 gSorted (eVar 0), eC (.int 0), eLst []]) (sSeq (sWhile bigFuel (tOf (eOp2 gLt (eVar 3) (eVar 1))) (sIf (tAnd (tOf (eOp2 gNe (eVar 2) (eLst []))) (tOf (eOp2 gLe (eOp2 gIx (eVar 2) (eC (.int 0))) (eOp2 gAdd (eVar 3) (eC (.int 1)))))) (sSeq (sAugI fAdd 3 (eOp2 gIx (eVar 2) (eC (.int 0)))) (sSet (bName 2) (eSl (eVar 2) (pPart (eC (.int 1))) pNone))) (sSeq (sAppend 4 (eOp2 gAdd (eVar 3) (eC (.int 1)))) (sSet (bName 3) (eOp2 gAdd (eOp2 gMul (eC (.int 2)) (eVar 3)) (eC (.int 1))))))) (sRet (eMove 4)))) [some (.val p0), some (.val p1), none, none, none] (fun _ => Q (.val .none) none) (fun f _ => wRt f fun r => Q r none) := wF_body

noncomputable def den_check_top : DM :=
  sSeq (sExpr (eCall f_check_coins [] [eVar 0])) (sIf (tNot (tOf (eCall f_is_between [] [eVar 1, eC (.int 1), eC (.int 1000000000)]))) (sRaise "InvalidNumber") sNext)
noncomputable def f_check_top : DF := bodyF 2 den_check_top
theorem wd_check_top (p0 p1 : D) (Q : RV → Option D → Prop) : wF f_check_top none [p0, p1] Q = wS (sSeq (sExpr (eCall f_check_coins [] [eVar 0])) (sIf (tNot (tOf (eCall f_is_between [] [eVar 1, eC (.int 1), eC (.int 1000000000)]))) (sRaise "InvalidNumber") sNext)) [some (.val p0), some (.val p1)] (fun _ => Q (.val .none) none) (fun f _ => wRt f fun r => Q r none) := wF_body

noncomputable def den_fewest_patch : DM :=
  sSeq (sExpr (eCall f_check_top [] [eVar 0, eVar 1])) (sRet (eOp1 gLen (eCall f_patch_for [] [eVar 0, eVar 1])))
noncomputable def f_fewest_patch : DF := bodyF 2 den_fewest_patch
theorem wd_fewest_patch (p0 p1 : D) (Q : RV → Option D → Prop) : wF f_fewest_patch none [p0, p1] Q = wS (sSeq (sExpr (eCall f_check_top [] [eVar 0, eVar 1])) (sRet (eOp1 gLen (eCall f_patch_for [] [eVar 0, eVar 1])))) [some (.val p0), some (.val p1)] (fun _ => Q (.val .none) none) (fun f _ => wRt f fun r => Q r none) := wF_body

noncomputable def den_patch : DM :=
  sSeq (sExpr (eCall f_check_top [] [eVar 0, eVar 1])) (sRet (eCall f_patch_for [] [eVar 0, eVar 1]))
noncomputable def f_patch : DF := bodyF 2 den_patch
theorem wd_patch (p0 p1 : D) (Q : RV → Option D → Prop) : wF f_patch none [p0, p1] Q = wS (sSeq (sExpr (eCall f_check_top [] [eVar 0, eVar 1])) (sRet (eCall f_patch_for [] [eVar 0, eVar 1]))) [some (.val p0), some (.val p1)] (fun _ => Q (.val .none) none) (fun f _ => wRt f fun r => Q r none) := wF_body

noncomputable def den__law_reached : DM :=
  sSeq (sSet (bName 2) (eDict1 (eC (.int 0)) (eC (.bool true)))) (sSeq (sFor (iSeq (eVar 0)) (bName 3) (sSeq (sSet (bOwn 4) (eOp1 gCopy (eVar 2))) (sSeq (sForK 2 (bName 5) (sIf (tOf (eOp2 gLe (eOp2 gAdd (eVar 5) (eVar 3)) (eVar 1))) (sPut 4 (eOp2 gAdd (eVar 5) (eVar 3)) (eC (.bool true))) sNext)) (sSet (bName 2) (eMove 4))))) (sRet (eOp2 gEq (eOp1 gLen (eVar 2)) (eOp2 gAdd (eVar 1) (eC (.int 1))))))
noncomputable def f__law_reached : DF := bodyF 6 den__law_reached
theorem wd__law_reached (p0 p1 : D) (Q : RV → Option D → Prop) : wF f__law_reached none [p0, p1] Q = wS (sSeq (sSet (bName 2) (eDict1 (eC (.int 0)) (eC (.bool true)))) (sSeq (sFor (iSeq (eVar 0)) (bName 3) (sSeq (sSet (bOwn 4) (eOp1 gCopy (eVar 2))) (sSeq (sForK 2 (bName 5) (sIf (tOf (eOp2 gLe (eOp2 gAdd (eVar 5) (eVar 3)) (eVar 1))) (sPut 4 (eOp2 gAdd (eVar 5) (eVar 3)) (eC (.bool true))) sNext)) (sSet (bName 2) (eMove 4))))) (sRet (eOp2 gEq (eOp1 gLen (eVar 2)) (eOp2 gAdd (eVar 1) (eC (.int 1))))))) [some (.val p0), some (.val p1), none, none, none, none] (fun _ => Q (.val .none) none) (fun f _ => wRt f fun r => Q r none) := wF_body

noncomputable def den__law_fewer : DM :=
  sSeq (sSet (bName 3) (eLst [eTup []])) (sSeq (sFor (iRng1 (eVar 2)) (bName 4) (sSeq (sSet (bName 5) (eLst [])) (sSeq (sFor (iSeq (eVar 3)) (bName 6) (sSet (bName 5) (eOp2 gAdd (eVar 5) (eComp [7] (iRng2 (eIf (tOf (eOp2 gNe (eVar 6) (eTup []))) (eOp2 gIx (eVar 6) (eOp1 gNeg (eC (.int 1)))) (eC (.int 1))) (eOp2 gAdd (eVar 1) (eC (.int 1)))) (bName 7) tYes (eOp2 gAdd (eVar 6) (eTup [eVar 7])))))) (sSet (bName 3) (eVar 5))))) (sRet (eOp2 gNe (eComp [6] (iSeq (eVar 3)) (bName 6) (tOf (eCall f__law_reached [] [eOp2 gAdd (eVar 0) (eVar 6), eVar 1])) (eVar 6)) (eLst []))))
noncomputable def f__law_fewer : DF := bodyF 8 den__law_fewer
theorem wd__law_fewer (p0 p1 p2 : D) (Q : RV → Option D → Prop) : wF f__law_fewer none [p0, p1, p2] Q = wS (sSeq (sSet (bName 3) (eLst [eTup []])) (sSeq (sFor (iRng1 (eVar 2)) (bName 4) (sSeq (sSet (bName 5) (eLst [])) (sSeq (sFor (iSeq (eVar 3)) (bName 6) (sSet (bName 5) (eOp2 gAdd (eVar 5) (eComp [7] (iRng2 (eIf (tOf (eOp2 gNe (eVar 6) (eTup []))) (eOp2 gIx (eVar 6) (eOp1 gNeg (eC (.int 1)))) (eC (.int 1))) (eOp2 gAdd (eVar 1) (eC (.int 1)))) (bName 7) tYes (eOp2 gAdd (eVar 6) (eTup [eVar 7])))))) (sSet (bName 3) (eVar 5))))) (sRet (eOp2 gNe (eComp [6] (iSeq (eVar 3)) (bName 6) (tOf (eCall f__law_reached [] [eOp2 gAdd (eVar 0) (eVar 6), eVar 1])) (eVar 6)) (eLst []))))) [some (.val p0), some (.val p1), some (.val p2), none, none, none, none, none] (fun _ => Q (.val .none) none) (fun f _ => wRt f fun r => Q r none) := wF_body

noncomputable def den_can_without : DM :=
  sSeq (sSet (bName 3) (eComp [5] (iRng1 (eOp1 gLen (eOp2 gIx (eVar 0) (eC (.int 0))))) (bName 5) (tOf (eOp2 gNotIn (eVar 5) (eVar 2))) (eVar 5))) (sSeq (sSet (bName 4) (eOp1 gSum (eComp [5] (iSeq (eCall f_others_of [] [eVar 0])) (bName 5) (tOf (eOp2 gIn (eVar 5) (eVar 3))) (eOp2 gIx (eOp2 gIx (eVar 0) (eC (.int 0))) (eVar 5))))) (sRet (eOp2 gIn (eOp2 gAdd (eVar 1) (eVar 4)) (eCall f_counts_for [] [eComp [5] (iSeq (eVar 3)) (bName 5) tYes (eOp2 gIx (eOp2 gIx (eVar 0) (eC (.int 0))) (eVar 5))]))))
noncomputable def f_can_without : DF := bodyF 6 den_can_without
theorem wd_can_without (p0 p1 p2 : D) (Q : RV → Option D → Prop) : wF f_can_without none [p0, p1, p2] Q = wS (sSeq (sSet (bName 3) (eComp [5] (iRng1 (eOp1 gLen (eOp2 gIx (eVar 0) (eC (.int 0))))) (bName 5) (tOf (eOp2 gNotIn (eVar 5) (eVar 2))) (eVar 5))) (sSeq (sSet (bName 4) (eOp1 gSum (eComp [5] (iSeq (eCall f_others_of [] [eVar 0])) (bName 5) (tOf (eOp2 gIn (eVar 5) (eVar 3))) (eOp2 gIx (eOp2 gIx (eVar 0) (eC (.int 0))) (eVar 5))))) (sRet (eOp2 gIn (eOp2 gAdd (eVar 1) (eVar 4)) (eCall f_counts_for [] [eComp [5] (iSeq (eVar 3)) (bName 5) tYes (eOp2 gIx (eOp2 gIx (eVar 0) (eC (.int 0))) (eVar 5))]))))) [some (.val p0), some (.val p1), some (.val p2), none, none, none] (fun _ => Q (.val .none) none) (fun f _ => wRt f fun r => Q r none) := wF_body

noncomputable def den_smallest_break : DM :=
  sSeq (sFor (iSeq (eOp1 gSorted (eComp [4] (iSeq (eCall f_all_sets [] [eOp1 gLen (eOp2 gIx (eVar 0) (eC (.int 0)))])) (bName 4) tYes (eTup [eOp1 gLen (eVar 4), eVar 4])))) (bTup [bName 2, bName 3]) (sIf (tNot (tOf (eCall f_can_without [] [eVar 0, eVar 1, eVar 3]))) (sRet (eVar 3)) sNext)) (sRet (eC .none))
noncomputable def f_smallest_break : DF := bodyF 5 den_smallest_break
theorem wd_smallest_break (p0 p1 : D) (Q : RV → Option D → Prop) : wF f_smallest_break none [p0, p1] Q = wS (sSeq (sFor (iSeq (eOp1 gSorted (eComp [4] (iSeq (eCall f_all_sets [] [eOp1 gLen (eOp2 gIx (eVar 0) (eC (.int 0)))])) (bName 4) tYes (eTup [eOp1 gLen (eVar 4), eVar 4])))) (bTup [bName 2, bName 3]) (sIf (tNot (tOf (eCall f_can_without [] [eVar 0, eVar 1, eVar 3]))) (sRet (eVar 3)) sNext)) (sRet (eC .none))) [some (.val p0), some (.val p1), none, none, none] (fun _ => Q (.val .none) none) (fun f _ => wRt f fun r => Q r none) := wF_body

noncomputable def den_breaking_set : DM :=
  sSeq (sExpr (eCall f_check_state [] [eVar 0])) (sSeq (sExpr (eCall f_check_price [] [eVar 1])) (sRet (eIf (tOf (eOp2 gEq (eVar 1) (eC (.int 0)))) (eC .none) (eCall f_smallest_break [] [eVar 0, eVar 1]))))
noncomputable def f_breaking_set : DF := bodyF 2 den_breaking_set
theorem wd_breaking_set (p0 p1 : D) (Q : RV → Option D → Prop) : wF f_breaking_set none [p0, p1] Q = wS (sSeq (sExpr (eCall f_check_state [] [eVar 0])) (sSeq (sExpr (eCall f_check_price [] [eVar 1])) (sRet (eIf (tOf (eOp2 gEq (eVar 1) (eC (.int 0)))) (eC .none) (eCall f_smallest_break [] [eVar 0, eVar 1]))))) [some (.val p0), some (.val p1)] (fun _ => Q (.val .none) none) (fun f _ => wRt f fun r => Q r none) := wF_body

noncomputable def den__law_first_break : DM :=
  sSeq (sSet (bName 2) (eComp [5, 6, 7] (iSeq (eCall f__law_payments [] [eVar 0])) (bTup [bName 5, bTup [bName 6, bName 7]]) (tOf (eOp2 gEq (eVar 5) (eVar 1))) (eOp2 gAdd (eVar 6) (eVar 7)))) (sSeq (sFor (iSeq (eOp1 gSorted (eComp [8] (iSeq (eCall f__law_sets [] [eListRg1 (eOp1 gLen (eOp2 gIx (eVar 0) (eC (.int 0))))])) (bName 8) tYes (eTup [eOp1 gLen (eVar 8), eVar 8])))) (bTup [bName 3, bName 4]) (sIf (tOf (eOp2 gEq (eComp [9] (iSeq (eVar 2)) (bName 9) (tOf (eOp2 gEq (eComp [10] (iSeq (eVar 9)) (bName 10) (tOf (eOp2 gIn (eVar 10) (eVar 4))) (eVar 10)) (eLst []))) (eVar 9)) (eLst []))) (sRet (eVar 4)) sNext)) (sRet (eC .none)))
noncomputable def f__law_first_break : DF := bodyF 11 den__law_first_break
theorem wd__law_first_break (p0 p1 : D) (Q : RV → Option D → Prop) : wF f__law_first_break none [p0, p1] Q = wS (sSeq (sSet (bName 2) (eComp [5, 6, 7] (iSeq (eCall f__law_payments [] [eVar 0])) (bTup [bName 5, bTup [bName 6, bName 7]]) (tOf (eOp2 gEq (eVar 5) (eVar 1))) (eOp2 gAdd (eVar 6) (eVar 7)))) (sSeq (sFor (iSeq (eOp1 gSorted (eComp [8] (iSeq (eCall f__law_sets [] [eListRg1 (eOp1 gLen (eOp2 gIx (eVar 0) (eC (.int 0))))])) (bName 8) tYes (eTup [eOp1 gLen (eVar 8), eVar 8])))) (bTup [bName 3, bName 4]) (sIf (tOf (eOp2 gEq (eComp [9] (iSeq (eVar 2)) (bName 9) (tOf (eOp2 gEq (eComp [10] (iSeq (eVar 9)) (bName 10) (tOf (eOp2 gIn (eVar 10) (eVar 4))) (eVar 10)) (eLst []))) (eVar 9)) (eLst []))) (sRet (eVar 4)) sNext)) (sRet (eC .none)))) [some (.val p0), some (.val p1), none, none, none, none, none, none, none, none, none] (fun _ => Q (.val .none) none) (fun f _ => wRt f fun r => Q r none) := wF_body

noncomputable def den__law_left : DM :=
  sSeq (sSet (bName 2) (eComp [4] (iRng1 (eOp1 gLen (eOp2 gIx (eVar 0) (eC (.int 0))))) (bName 4) (tOf (eOp2 gNotIn (eVar 4) (eVar 1))) (eVar 4))) (sSeq (sSet (bName 3) (eOp1 gTuple (eComp [5, 4] (iEnum (eVar 2)) (bTup [bName 5, bName 4]) (tOf (eOp2 gIn (eVar 4) (eOp2 gIx (eVar 0) (eC (.int 1))))) (eVar 5)))) (sRet (eTup [eOp1 gTuple (eComp [4] (iSeq (eVar 2)) (bName 4) tYes (eOp2 gIx (eOp2 gIx (eVar 0) (eC (.int 0))) (eVar 4))), eVar 3])))
noncomputable def f__law_left : DF := bodyF 6 den__law_left
theorem wd__law_left (p0 p1 : D) (Q : RV → Option D → Prop) : wF f__law_left none [p0, p1] Q = wS (sSeq (sSet (bName 2) (eComp [4] (iRng1 (eOp1 gLen (eOp2 gIx (eVar 0) (eC (.int 0))))) (bName 4) (tOf (eOp2 gNotIn (eVar 4) (eVar 1))) (eVar 4))) (sSeq (sSet (bName 3) (eOp1 gTuple (eComp [5, 4] (iEnum (eVar 2)) (bTup [bName 5, bName 4]) (tOf (eOp2 gIn (eVar 4) (eOp2 gIx (eVar 0) (eC (.int 1))))) (eVar 5)))) (sRet (eTup [eOp1 gTuple (eComp [4] (iSeq (eVar 2)) (bName 4) tYes (eOp2 gIx (eOp2 gIx (eVar 0) (eC (.int 0))) (eVar 4))), eVar 3])))) [some (.val p0), some (.val p1), none, none, none, none] (fun _ => Q (.val .none) none) (fun f _ => wRt f fun r => Q r none) := wF_body

noncomputable def den_sure_with : DM :=
  sSeq (sExpr (eCall f_check_state [] [eVar 0])) (sSeq (sExpr (eCall f_check_price [] [eVar 1])) (sSeq (sIf (tNot (tOf (eCall f_is_between [] [eVar 2, eC (.int 0), eC (.int 12)]))) (sRaise "InvalidNumber") sNext) (sSeq (sIf (tOf (eOp2 gEq (eVar 1) (eC (.int 0)))) (sRet (eC (.bool true))) sNext) (sSeq (sSet (bName 3) (eCall f_smallest_break [] [eVar 0, eVar 1])) (sRet (eOr (eOp2 gIsNo (eVar 3) (eC .none)) (eOp2 gGt (eOp1 gLen (eVar 3)) (eVar 2))))))))
noncomputable def f_sure_with : DF := bodyF 4 den_sure_with
theorem wd_sure_with (p0 p1 p2 : D) (Q : RV → Option D → Prop) : wF f_sure_with none [p0, p1, p2] Q = wS (sSeq (sExpr (eCall f_check_state [] [eVar 0])) (sSeq (sExpr (eCall f_check_price [] [eVar 1])) (sSeq (sIf (tNot (tOf (eCall f_is_between [] [eVar 2, eC (.int 0), eC (.int 12)]))) (sRaise "InvalidNumber") sNext) (sSeq (sIf (tOf (eOp2 gEq (eVar 1) (eC (.int 0)))) (sRet (eC (.bool true))) sNext) (sSeq (sSet (bName 3) (eCall f_smallest_break [] [eVar 0, eVar 1])) (sRet (eOr (eOp2 gIsNo (eVar 3) (eC .none)) (eOp2 gGt (eOp1 gLen (eVar 3)) (eVar 2))))))))) [some (.val p0), some (.val p1), some (.val p2), none] (fun _ => Q (.val .none) none) (fun f _ => wRt f fun r => Q r none) := wF_body

noncomputable def den__law_all_pay : DM :=
  sSeq (sFor (iSeq (eCall f__law_sets [] [eListRg1 (eOp1 gLen (eOp2 gIx (eVar 0) (eC (.int 0))))])) (bName 3) (sIf (tAnd (tOf (eOp2 gLe (eOp1 gLen (eVar 3)) (eVar 2))) (tOf (eOp2 gLt (eOp1 gLen (eVar 3)) (eOp1 gLen (eOp2 gIx (eVar 0) (eC (.int 0))))))) (sIf (tNot (tOf (eCall f_can_pay [] [eCall f__law_left [] [eVar 0, eVar 3], eVar 1]))) (sRet (eC (.bool false))) sNext) sNext)) (sRet (eC (.bool true)))
noncomputable def f__law_all_pay : DF := bodyF 4 den__law_all_pay
theorem wd__law_all_pay (p0 p1 p2 : D) (Q : RV → Option D → Prop) : wF f__law_all_pay none [p0, p1, p2] Q = wS (sSeq (sFor (iSeq (eCall f__law_sets [] [eListRg1 (eOp1 gLen (eOp2 gIx (eVar 0) (eC (.int 0))))])) (bName 3) (sIf (tAnd (tOf (eOp2 gLe (eOp1 gLen (eVar 3)) (eVar 2))) (tOf (eOp2 gLt (eOp1 gLen (eVar 3)) (eOp1 gLen (eOp2 gIx (eVar 0) (eC (.int 0))))))) (sIf (tNot (tOf (eCall f_can_pay [] [eCall f__law_left [] [eVar 0, eVar 3], eVar 1]))) (sRet (eC (.bool false))) sNext) sNext)) (sRet (eC (.bool true)))) [some (.val p0), some (.val p1), some (.val p2), none] (fun _ => Q (.val .none) none) (fun f _ => wRt f fun r => Q r none) := wF_body

noncomputable def den__law_row_of : DM :=
  sSeq (sPar [(false, 3), (false, 4)] [eTup [], eVar 1]) (sSeq (sFor (iRng1 (eCallS f__law_draw [] 0 [eOp2 gAdd (eVar 2) (eC (.int 1))])) (bName 5) (sSeq (sSet (bTup [bName 6, bName 7]) (eCallS f__law_random_payment [] 0 [eVar 4])) (sSeq (sSet (bName 8) (eOp2 gSub (eCall f__law_worth [] [eOp2 gIx (eVar 4) (eC (.int 0)), eVar 6]) (eCall f__law_worth [] [eOp2 gIx (eVar 4) (eC (.int 0)), eVar 7]))) (sSeq (sSet (bName 4) (eCall f__law_behind [] [eVar 4, eTup [eVar 6, eVar 7]])) (sSeq (sIf (tOf (eOp2 gEq (eCallS f__law_draw [] 0 [eC (.int 9)]) (eC (.int 0)))) (sSet (bName 8) (eOp2 gAdd (eVar 8) (eCallS f__law_choice [] 0 [eLst [eC (.int 1), eOp1 gNeg (eC (.int 1)), eC (.int 5)]]))) sNext) (sSet (bName 3) (eOp2 gAdd (eVar 3) (eTup [eOp2 gMax2 (eOp1 gNeg (eC (.int 12000))) (eOp2 gMin2 (eC (.int 12000)) (eVar 8))])))))))) (sRet (eVar 3)))
noncomputable def f__law_row_of : DF := bodyF 9 den__law_row_of
theorem wd__law_row_of (p0 p1 p2 : D) (Q : RV → Option D → Prop) : wF f__law_row_of (some p0) [p1, p2] Q = wS (sSeq (sPar [(false, 3), (false, 4)] [eTup [], eVar 1]) (sSeq (sFor (iRng1 (eCallS f__law_draw [] 0 [eOp2 gAdd (eVar 2) (eC (.int 1))])) (bName 5) (sSeq (sSet (bTup [bName 6, bName 7]) (eCallS f__law_random_payment [] 0 [eVar 4])) (sSeq (sSet (bName 8) (eOp2 gSub (eCall f__law_worth [] [eOp2 gIx (eVar 4) (eC (.int 0)), eVar 6]) (eCall f__law_worth [] [eOp2 gIx (eVar 4) (eC (.int 0)), eVar 7]))) (sSeq (sSet (bName 4) (eCall f__law_behind [] [eVar 4, eTup [eVar 6, eVar 7]])) (sSeq (sIf (tOf (eOp2 gEq (eCallS f__law_draw [] 0 [eC (.int 9)]) (eC (.int 0)))) (sSet (bName 8) (eOp2 gAdd (eVar 8) (eCallS f__law_choice [] 0 [eLst [eC (.int 1), eOp1 gNeg (eC (.int 1)), eC (.int 5)]]))) sNext) (sSet (bName 3) (eOp2 gAdd (eVar 3) (eTup [eOp2 gMax2 (eOp1 gNeg (eC (.int 12000))) (eOp2 gMin2 (eC (.int 12000)) (eVar 8))])))))))) (sRet (eVar 3)))) [some (.own true p0), some (.val p1), some (.val p2), none, none, none, none, none, none] (fun s => w0 s[0]? fun c => Q (.val .none) (some c)) (fun f s => wRt f fun r => w0 s[0]? fun c => Q r (some c)) := wF_bodyS

noncomputable def den__law_orders : DM :=
  sSeq (sSet (bName 1) (eLst [eTup []])) (sSeq (sFor (iRng1 (eVar 0)) (bName 2) (sSeq (sSet (bName 3) (eLst [])) (sSeq (sFor (iSeq (eVar 1)) (bName 4) (sSet (bName 3) (eOp2 gAdd (eVar 3) (eComp [5] (iRng1 (eOp2 gAdd (eOp1 gLen (eVar 4)) (eC (.int 1)))) (bName 5) tYes (eOp2 gAdd (eOp2 gAdd (eSl (eVar 4) pNone (pPart (eVar 5))) (eTup [eVar 2])) (eSl (eVar 4) (pPart (eVar 5)) pNone)))))) (sSet (bName 1) (eVar 3))))) (sRet (eOp1 gSorted (eVar 1))))
noncomputable def f__law_orders : DF := bodyF 6 den__law_orders
theorem wd__law_orders (p0 : D) (Q : RV → Option D → Prop) : wF f__law_orders none [p0] Q = wS (sSeq (sSet (bName 1) (eLst [eTup []])) (sSeq (sFor (iRng1 (eVar 0)) (bName 2) (sSeq (sSet (bName 3) (eLst [])) (sSeq (sFor (iSeq (eVar 1)) (bName 4) (sSet (bName 3) (eOp2 gAdd (eVar 3) (eComp [5] (iRng1 (eOp2 gAdd (eOp1 gLen (eVar 4)) (eC (.int 1)))) (bName 5) tYes (eOp2 gAdd (eOp2 gAdd (eSl (eVar 4) pNone (pPart (eVar 5))) (eTup [eVar 2])) (eSl (eVar 4) (pPart (eVar 5)) pNone)))))) (sSet (bName 1) (eVar 3))))) (sRet (eOp1 gSorted (eVar 1))))) [some (.val p0), none, none, none, none, none] (fun _ => Q (.val .none) none) (fun f _ => wRt f fun r => Q r none) := wF_body

noncomputable def den__law_in_order : DM :=
  sSeq (sPar [(false, 3), (false, 4)] [eCall f__law_sums [] [eOp2 gIx (eVar 0) (eC (.int 0))], eCall f__law_worth [] [eOp2 gIx (eVar 0) (eC (.int 0)), eCall f__law_others [] [eVar 0]]]) (sSeq (sFor (iSeq (eVar 2)) (bName 5) (sSeq (sSet (bName 4) (eOp2 gAdd (eVar 4) (eOp2 gIx (eVar 1) (eVar 5)))) (sIf (tOf (eOp2 gNotIn (eVar 4) (eVar 3))) (sRet (eC (.bool false))) sNext))) (sRet (eC (.bool true))))
noncomputable def f__law_in_order : DF := bodyF 6 den__law_in_order
theorem wd__law_in_order (p0 p1 p2 : D) (Q : RV → Option D → Prop) : wF f__law_in_order none [p0, p1, p2] Q = wS (sSeq (sPar [(false, 3), (false, 4)] [eCall f__law_sums [] [eOp2 gIx (eVar 0) (eC (.int 0))], eCall f__law_worth [] [eOp2 gIx (eVar 0) (eC (.int 0)), eCall f__law_others [] [eVar 0]]]) (sSeq (sFor (iSeq (eVar 2)) (bName 5) (sSeq (sSet (bName 4) (eOp2 gAdd (eVar 4) (eOp2 gIx (eVar 1) (eVar 5)))) (sIf (tOf (eOp2 gNotIn (eVar 4) (eVar 3))) (sRet (eC (.bool false))) sNext))) (sRet (eC (.bool true))))) [some (.val p0), some (.val p1), some (.val p2), none, none, none] (fun _ => Q (.val .none) none) (fun f _ => wRt f fun r => Q r none) := wF_body

noncomputable def den_check_few : DM :=
  sSeq (sExpr (eCall f_check_prices [] [eVar 0, eVar 1])) (sIf (tOf (eOp2 gGt (eOp1 gLen (eOp2 gIx (eVar 0) (eC (.int 0)))) (eC (.int 8)))) (sRaise "TooMany") sNext)
noncomputable def f_check_few : DF := bodyF 2 den_check_few
theorem wd_check_few (p0 p1 : D) (Q : RV → Option D → Prop) : wF f_check_few none [p0, p1] Q = wS (sSeq (sExpr (eCall f_check_prices [] [eVar 0, eVar 1])) (sIf (tOf (eOp2 gGt (eOp1 gLen (eOp2 gIx (eVar 0) (eC (.int 0)))) (eC (.int 8)))) (sRaise "TooMany") sNext)) [some (.val p0), some (.val p1)] (fun _ => Q (.val .none) none) (fun f _ => wRt f fun r => Q r none) := wF_body

noncomputable def den_is_plain : DM :=
  sSeq (sSet (bTup [bName 2, bName 3]) (eCall f_exchange [] [eVar 0, eVar 1])) (sRet (eOr (eOp2 gEq (eVar 2) (eTup [])) (eOp2 gEq (eVar 3) (eTup []))))
noncomputable def f_is_plain : DF := bodyF 4 den_is_plain
theorem wd_is_plain (p0 p1 : D) (Q : RV → Option D → Prop) : wF f_is_plain none [p0, p1] Q = wS (sSeq (sSet (bTup [bName 2, bName 3]) (eCall f_exchange [] [eVar 0, eVar 1])) (sRet (eOr (eOp2 gEq (eVar 2) (eTup [])) (eOp2 gEq (eVar 3) (eTup []))))) [some (.val p0), some (.val p1), none, none] (fun _ => Q (.val .none) none) (fun f _ => wRt f fun r => Q r none) := wF_body

noncomputable def den_best_ways : DM :=
  sSeq (sSet (bName 2) (eOp2 gIx (eVar 0) (eC (.int 0)))) (sSeq (sSet (bOwn 3) (eDictT1 (eOp2 gIx (eVar 0) (eC (.int 1))) (eTup [eC (.int 0), eTup []]))) (sSeq (sSet (bName 4) (eComp [11] (iSeq (eCall f_all_sets [] [eOp1 gLen (eVar 2)])) (bName 11) tYes (eTup [eCall f_worth [] [eVar 2, eVar 11], eVar 11]))) (sSeq (sFor (iSeq (eVar 1)) (bName 5) (sSeq (sSet (bOwn 6) eDictT) (sSeq (sForK 3 (bName 7) (sSeq (sSet (bTup [bName 8, bName 9]) (eOp2 gIx (eBor 3) (eVar 7))) (sFor (iSeq (eVar 4)) (bTup [bName 10, bName 11]) (sIf (tOf (eOp2 gEq (eVar 10) (eOp2 gSub (eCall f_worth [] [eVar 2, eVar 7]) (eVar 5)))) (sSeq (sSet (bName 12) (eOp2 gAdd (eVar 8) (eIf (tOf (eCall f_is_plain [] [eTup [eVar 2, eVar 7], eVar 11])) (eC (.int 0)) (eC (.int 1))))) (sIf (tOr (tOf (eOp2 gNotIn (eVar 11) (eBor 6))) (tOf (eOp2 gLt (eVar 12) (eOp2 gIx (eOp2 gIx (eBor 6) (eVar 11)) (eC (.int 0)))))) (sPut 6 (eVar 11) (eTup [eVar 12, eOp2 gAdd (eVar 9) (eTup [eCall f_exchange [] [eTup [eVar 2, eVar 7], eVar 11]])])) sNext)) sNext)))) (sSet (bOwn 3) (eMove 6))))) (sRet (eMove 3)))))
noncomputable def f_best_ways : DF := bodyF 13 den_best_ways
theorem wd_best_ways (p0 p1 : D) (Q : RV → Option D → Prop) : wF f_best_ways none [p0, p1] Q = wS (sSeq (sSet (bName 2) (eOp2 gIx (eVar 0) (eC (.int 0)))) (sSeq (sSet (bOwn 3) (eDictT1 (eOp2 gIx (eVar 0) (eC (.int 1))) (eTup [eC (.int 0), eTup []]))) (sSeq (sSet (bName 4) (eComp [11] (iSeq (eCall f_all_sets [] [eOp1 gLen (eVar 2)])) (bName 11) tYes (eTup [eCall f_worth [] [eVar 2, eVar 11], eVar 11]))) (sSeq (sFor (iSeq (eVar 1)) (bName 5) (sSeq (sSet (bOwn 6) eDictT) (sSeq (sForK 3 (bName 7) (sSeq (sSet (bTup [bName 8, bName 9]) (eOp2 gIx (eBor 3) (eVar 7))) (sFor (iSeq (eVar 4)) (bTup [bName 10, bName 11]) (sIf (tOf (eOp2 gEq (eVar 10) (eOp2 gSub (eCall f_worth [] [eVar 2, eVar 7]) (eVar 5)))) (sSeq (sSet (bName 12) (eOp2 gAdd (eVar 8) (eIf (tOf (eCall f_is_plain [] [eTup [eVar 2, eVar 7], eVar 11])) (eC (.int 0)) (eC (.int 1))))) (sIf (tOr (tOf (eOp2 gNotIn (eVar 11) (eBor 6))) (tOf (eOp2 gLt (eVar 12) (eOp2 gIx (eOp2 gIx (eBor 6) (eVar 11)) (eC (.int 0)))))) (sPut 6 (eVar 11) (eTup [eVar 12, eOp2 gAdd (eVar 9) (eTup [eCall f_exchange [] [eTup [eVar 2, eVar 7], eVar 11]])])) sNext)) sNext)))) (sSet (bOwn 3) (eMove 6))))) (sRet (eMove 3)))))) [some (.val p0), some (.val p1), none, none, none, none, none, none, none, none, none, none, none] (fun _ => Q (.val .none) none) (fun f _ => wRt f fun r => Q r none) := wF_body

noncomputable def den_best_way_v2 : DM :=
  sSeq (sExpr (eCall f_check_few [] [eVar 0, eVar 1])) (sSeq (sSet (bName 2) (eCall f_best_ways [] [eVar 0, eVar 1])) (sRet (eIf (tOf (eOp2 gNeE (eVar 2) eDictK)) (eOp1 gMinL (eCompK [3] 2 (bName 3) tYes (eOp2 gIx (eVar 2) (eVar 3)))) (eC .none))))
noncomputable def f_best_way_v2 : DF := bodyF 4 den_best_way_v2
theorem wd_best_way_v2 (p0 p1 : D) (Q : RV → Option D → Prop) : wF f_best_way_v2 none [p0, p1] Q = wS (sSeq (sExpr (eCall f_check_few [] [eVar 0, eVar 1])) (sSeq (sSet (bName 2) (eCall f_best_ways [] [eVar 0, eVar 1])) (sRet (eIf (tOf (eOp2 gNeE (eVar 2) eDictK)) (eOp1 gMinL (eCompK [3] 2 (bName 3) tYes (eOp2 gIx (eVar 2) (eVar 3)))) (eC .none))))) [some (.val p0), some (.val p1), none, none] (fun _ => Q (.val .none) none) (fun f _ => wRt f fun r => Q r none) := wF_body

noncomputable def den_can_pay_plain : DM :=
  sSeq (sSet (bName 2) (eCall f_best_way_v2 [] [eVar 0, eVar 1])) (sRet (eAnd (eOp2 gNotNo (eVar 2) (eC .none)) (eOp2 gEq (eOp2 gIx (eVar 2) (eC (.int 0))) (eC (.int 0)))))
noncomputable def f_can_pay_plain : DF := bodyF 3 den_can_pay_plain
theorem wd_can_pay_plain (p0 p1 : D) (Q : RV → Option D → Prop) : wF f_can_pay_plain none [p0, p1] Q = wS (sSeq (sSet (bName 2) (eCall f_best_way_v2 [] [eVar 0, eVar 1])) (sRet (eAnd (eOp2 gNotNo (eVar 2) (eC .none)) (eOp2 gEq (eOp2 gIx (eVar 2) (eC (.int 0))) (eC (.int 0)))))) [some (.val p0), some (.val p1), none] (fun _ => Q (.val .none) none) (fun f _ => wRt f fun r => Q r none) := wF_body

noncomputable def den_fewest_changes : DM :=
  sSeq (sSet (bName 2) (eCall f_best_way_v2 [] [eVar 0, eVar 1])) (sRet (eIf (tOf (eOp2 gIsNo (eVar 2) (eC .none))) (eC .none) (eOp2 gIx (eVar 2) (eC (.int 0)))))
noncomputable def f_fewest_changes : DF := bodyF 3 den_fewest_changes
theorem wd_fewest_changes (p0 p1 : D) (Q : RV → Option D → Prop) : wF f_fewest_changes none [p0, p1] Q = wS (sSeq (sSet (bName 2) (eCall f_best_way_v2 [] [eVar 0, eVar 1])) (sRet (eIf (tOf (eOp2 gIsNo (eVar 2) (eC .none))) (eC .none) (eOp2 gIx (eVar 2) (eC (.int 0)))))) [some (.val p0), some (.val p1), none] (fun _ => Q (.val .none) none) (fun f _ => wRt f fun r => Q r none) := wF_body

noncomputable def den__law_plain_row : DM :=
  sSeq (sPar [(false, 3), (false, 4)] [eTup [], eVar 1]) (sSeq (sFor (iRng1 (eCallS f__law_draw [] 0 [eOp2 gAdd (eVar 2) (eC (.int 1))])) (bName 5) (sSeq (sSet (bTup [bName 6, bName 7]) (eCallS f__law_random_payment [] 0 [eVar 4])) (sSeq (sSet (bName 8) (eCallS f__law_choice [] 0 [eLst [eTup [eVar 6, eTup []], eTup [eTup [], eVar 7]]])) (sSeq (sSet (bName 3) (eOp2 gAdd (eVar 3) (eTup [eOp2 gSub (eCall f__law_worth [] [eOp2 gIx (eVar 4) (eC (.int 0)), eOp2 gIx (eVar 8) (eC (.int 0))]) (eCall f__law_worth [] [eOp2 gIx (eVar 4) (eC (.int 0)), eOp2 gIx (eVar 8) (eC (.int 1))])]))) (sSet (bName 4) (eCall f__law_behind [] [eVar 4, eVar 8])))))) (sRet (eVar 3)))
noncomputable def f__law_plain_row : DF := bodyF 9 den__law_plain_row
theorem wd__law_plain_row (p0 p1 p2 : D) (Q : RV → Option D → Prop) : wF f__law_plain_row (some p0) [p1, p2] Q = wS (sSeq (sPar [(false, 3), (false, 4)] [eTup [], eVar 1]) (sSeq (sFor (iRng1 (eCallS f__law_draw [] 0 [eOp2 gAdd (eVar 2) (eC (.int 1))])) (bName 5) (sSeq (sSet (bTup [bName 6, bName 7]) (eCallS f__law_random_payment [] 0 [eVar 4])) (sSeq (sSet (bName 8) (eCallS f__law_choice [] 0 [eLst [eTup [eVar 6, eTup []], eTup [eTup [], eVar 7]]])) (sSeq (sSet (bName 3) (eOp2 gAdd (eVar 3) (eTup [eOp2 gSub (eCall f__law_worth [] [eOp2 gIx (eVar 4) (eC (.int 0)), eOp2 gIx (eVar 8) (eC (.int 0))]) (eCall f__law_worth [] [eOp2 gIx (eVar 4) (eC (.int 0)), eOp2 gIx (eVar 8) (eC (.int 1))])]))) (sSet (bName 4) (eCall f__law_behind [] [eVar 4, eVar 8])))))) (sRet (eVar 3)))) [some (.own true p0), some (.val p1), some (.val p2), none, none, none, none, none, none] (fun s => w0 s[0]? fun c => Q (.val .none) (some c)) (fun f s => wRt f fun r => w0 s[0]? fun c => Q r (some c)) := wF_bodyS

noncomputable def den_plain_row : DM :=
  sSeq (sSet (bName 2) (eCall f_best_way_v2 [] [eVar 0, eVar 1])) (sRet (eIf (tOf (eOp2 gIsNo (eVar 2) (eC .none))) (eC .none) (eOp1 gList (eOp2 gIx (eVar 2) (eC (.int 1))))))
noncomputable def f_plain_row : DF := bodyF 3 den_plain_row
theorem wd_plain_row (p0 p1 : D) (Q : RV → Option D → Prop) : wF f_plain_row none [p0, p1] Q = wS (sSeq (sSet (bName 2) (eCall f_best_way_v2 [] [eVar 0, eVar 1])) (sRet (eIf (tOf (eOp2 gIsNo (eVar 2) (eC .none))) (eC .none) (eOp1 gList (eOp2 gIx (eVar 2) (eC (.int 1))))))) [some (.val p0), some (.val p1), none] (fun _ => Q (.val .none) none) (fun f _ => wRt f fun r => Q r none) := wF_body

noncomputable def den_totals_left : DM :=
  sSeq (sIf (tOf (eOp2 gNe (eVar 1) (eTup []))) (sExpr (eCall f_check_seen [] [eVar 1])) sNext) (sSeq (sSet (bName 2) (eCall f_counts_for [] [eVar 0])) (sRet (eComp [3] (iSeq (eOp1 gSorted (eVar 2))) (bName 3) (tOf (eCall f_agrees [] [eVar 2, eVar 3, eVar 1])) (eVar 3))))
noncomputable def f_totals_left : DF := bodyF 4 den_totals_left
theorem wd_totals_left (p0 p1 : D) (Q : RV → Option D → Prop) : wF f_totals_left none [p0, p1] Q = wS (sSeq (sIf (tOf (eOp2 gNe (eVar 1) (eTup []))) (sExpr (eCall f_check_seen [] [eVar 1])) sNext) (sSeq (sSet (bName 2) (eCall f_counts_for [] [eVar 0])) (sRet (eComp [3] (iSeq (eOp1 gSorted (eVar 2))) (bName 3) (tOf (eCall f_agrees [] [eVar 2, eVar 3, eVar 1])) (eVar 3))))) [some (.val p0), some (.val p1), none, none] (fun _ => Q (.val .none) none) (fun f _ => wRt f fun r => Q r none) := wF_body

noncomputable def den_larger_part : DM :=
  sSeq (sSet (bName 3) (eCall f_counts_for [] [eVar 0])) (sSeq (sSet (bName 4) (eOp1 gLen (eComp [5] (iSeq (eVar 1)) (bName 5) (tOf (eOp2 gIn (eOp2 gAdd (eVar 2) (eVar 5)) (eVar 3))) (eVar 5)))) (sRet (eOp2 gMax2 (eVar 4) (eOp2 gSub (eOp1 gLen (eVar 1)) (eVar 4)))))
noncomputable def f_larger_part : DF := bodyF 6 den_larger_part
theorem wd_larger_part (p0 p1 p2 : D) (Q : RV → Option D → Prop) : wF f_larger_part none [p0, p1, p2] Q = wS (sSeq (sSet (bName 3) (eCall f_counts_for [] [eVar 0])) (sSeq (sSet (bName 4) (eOp1 gLen (eComp [5] (iSeq (eVar 1)) (bName 5) (tOf (eOp2 gIn (eOp2 gAdd (eVar 2) (eVar 5)) (eVar 3))) (eVar 5)))) (sRet (eOp2 gMax2 (eVar 4) (eOp2 gSub (eOp1 gLen (eVar 1)) (eVar 4)))))) [some (.val p0), some (.val p1), some (.val p2), none, none, none] (fun _ => Q (.val .none) none) (fun f _ => wRt f fun r => Q r none) := wF_body

noncomputable def den_most_left : DM :=
  sSeq (sExpr (eCall f_check_coins [] [eVar 0])) (sSeq (sSet (bName 3) (eCall f_totals_left [] [eVar 0, eVar 1])) (sSeq (sExpr (eCall f_check_price [] [eVar 2])) (sRet (eCall f_larger_part [] [eVar 0, eVar 3, eVar 2]))))
noncomputable def f_most_left : DF := bodyF 4 den_most_left
theorem wd_most_left (p0 p1 p2 : D) (Q : RV → Option D → Prop) : wF f_most_left none [p0, p1, p2] Q = wS (sSeq (sExpr (eCall f_check_coins [] [eVar 0])) (sSeq (sSet (bName 3) (eCall f_totals_left [] [eVar 0, eVar 1])) (sSeq (sExpr (eCall f_check_price [] [eVar 2])) (sRet (eCall f_larger_part [] [eVar 0, eVar 3, eVar 2]))))) [some (.val p0), some (.val p1), some (.val p2), none] (fun _ => Q (.val .none) none) (fun f _ => wRt f fun r => Q r none) := wF_body

noncomputable def den__law_left_v2 : DM :=
  sSeq (sSet (bOwn 2) (eLst [])) (sSeq (sFor (iSeq (eOp1 gSorted (eVar 0))) (bName 3) (sIf (tOf (eOp2 gEq (eComp [4, 5] (iSeq (eVar 1)) (bTup [bName 4, bName 5]) (tOf (eOp2 gNe (eOp2 gIn (eOp2 gAdd (eVar 4) (eVar 3)) (eVar 0)) (eVar 5))) (eC (.int 1))) (eLst []))) (sAppend 2 (eVar 3)) sNext)) (sRet (eMove 2)))
noncomputable def f__law_left_v2 : DF := bodyF 6 den__law_left_v2
theorem wd__law_left_v2 (p0 p1 : D) (Q : RV → Option D → Prop) : wF f__law_left_v2 none [p0, p1] Q = wS (sSeq (sSet (bOwn 2) (eLst [])) (sSeq (sFor (iSeq (eOp1 gSorted (eVar 0))) (bName 3) (sIf (tOf (eOp2 gEq (eComp [4, 5] (iSeq (eVar 1)) (bTup [bName 4, bName 5]) (tOf (eOp2 gNe (eOp2 gIn (eOp2 gAdd (eVar 4) (eVar 3)) (eVar 0)) (eVar 5))) (eC (.int 1))) (eLst []))) (sAppend 2 (eVar 3)) sNext)) (sRet (eMove 2)))) [some (.val p0), some (.val p1), none, none, none, none] (fun _ => Q (.val .none) none) (fun f _ => wRt f fun r => Q r none) := wF_body

noncomputable def den__law_part : DM :=
  sSeq (sSet (bName 3) (eOp1 gLen (eComp [4] (iSeq (eVar 1)) (bName 4) (tOf (eOp2 gIn (eOp2 gAdd (eVar 2) (eVar 4)) (eVar 0))) (eVar 4)))) (sRet (eOp2 gMax2 (eVar 3) (eOp2 gSub (eOp1 gLen (eVar 1)) (eVar 3))))
noncomputable def f__law_part : DF := bodyF 5 den__law_part
theorem wd__law_part (p0 p1 p2 : D) (Q : RV → Option D → Prop) : wF f__law_part none [p0, p1, p2] Q = wS (sSeq (sSet (bName 3) (eOp1 gLen (eComp [4] (iSeq (eVar 1)) (bName 4) (tOf (eOp2 gIn (eOp2 gAdd (eVar 2) (eVar 4)) (eVar 0))) (eVar 4)))) (sRet (eOp2 gMax2 (eVar 3) (eOp2 gSub (eOp1 gLen (eVar 1)) (eVar 3))))) [some (.val p0), some (.val p1), some (.val p2), none, none] (fun _ => Q (.val .none) none) (fun f _ => wRt f fun r => Q r none) := wF_body

noncomputable def den__law_ways_right : DM :=
  sSeq (sSet (bName 2) (eC (.int 0))) (sSeq (sFor (iSeq (eVar 1)) (bName 3) (sSeq (sSet (bName 4) (eCall f_count_ways [] [eVar 0, eVar 3])) (sSeq (sSet (bName 2) (eOp2 gAdd (eVar 2) (eVar 4))) (sFor (iRng1 (eOp2 gMin2 (eVar 4) (eC (.int 4)))) (bName 5) (sSeq (sSet (bName 6) (eCall f_payment_at [] [eVar 0, eVar 3, eVar 5])) (sSeq (sIf (tOr (tOf (eOp2 gNe (eCall f_payment_number [] [eVar 0, eVar 6]) (eVar 5))) (tNot (tOf (eCall f_is_payment [] [eVar 0, eVar 6])))) (sRet (eC (.bool false))) sNext) (sSeq (sSet (bName 7) (eCall f_after [] [eVar 0, eVar 6])) (sSeq (sIf (tOr (tOf (eOp2 gNe (eCall f_lead [] [eVar 0, eOp2 gIx (eVar 7) (eC (.int 1))]) (eVar 6))) (tNot (tOf (eCall f_can_pay [] [eVar 7, eOp1 gNeg (eVar 3)])))) (sRet (eC (.bool false))) sNext) (sIf (tOf (eOp2 gNe (eOp2 gIx (eCall f_totals [] [eVar 7]) (eC (.int 0))) (eOp2 gSub (eOp2 gIx (eCall f_totals [] [eVar 0]) (eC (.int 0))) (eVar 3)))) (sRet (eC (.bool false))) sNext))))))))) (sSeq (sSet (bName 8) (eC (.int 1))) (sSeq (sFor (iSeq (eOp2 gIx (eVar 0) (eC (.int 0)))) (bName 9) (sSet (bName 8) (eOp2 gMul (eVar 8) (eC (.int 2))))) (sRet (eOp2 gEq (eVar 2) (eVar 8))))))
noncomputable def f__law_ways_right : DF := bodyF 10 den__law_ways_right
theorem wd__law_ways_right (p0 p1 : D) (Q : RV → Option D → Prop) : wF f__law_ways_right none [p0, p1] Q = wS (sSeq (sSet (bName 2) (eC (.int 0))) (sSeq (sFor (iSeq (eVar 1)) (bName 3) (sSeq (sSet (bName 4) (eCall f_count_ways [] [eVar 0, eVar 3])) (sSeq (sSet (bName 2) (eOp2 gAdd (eVar 2) (eVar 4))) (sFor (iRng1 (eOp2 gMin2 (eVar 4) (eC (.int 4)))) (bName 5) (sSeq (sSet (bName 6) (eCall f_payment_at [] [eVar 0, eVar 3, eVar 5])) (sSeq (sIf (tOr (tOf (eOp2 gNe (eCall f_payment_number [] [eVar 0, eVar 6]) (eVar 5))) (tNot (tOf (eCall f_is_payment [] [eVar 0, eVar 6])))) (sRet (eC (.bool false))) sNext) (sSeq (sSet (bName 7) (eCall f_after [] [eVar 0, eVar 6])) (sSeq (sIf (tOr (tOf (eOp2 gNe (eCall f_lead [] [eVar 0, eOp2 gIx (eVar 7) (eC (.int 1))]) (eVar 6))) (tNot (tOf (eCall f_can_pay [] [eVar 7, eOp1 gNeg (eVar 3)])))) (sRet (eC (.bool false))) sNext) (sIf (tOf (eOp2 gNe (eOp2 gIx (eCall f_totals [] [eVar 7]) (eC (.int 0))) (eOp2 gSub (eOp2 gIx (eCall f_totals [] [eVar 0]) (eC (.int 0))) (eVar 3)))) (sRet (eC (.bool false))) sNext))))))))) (sSeq (sSet (bName 8) (eC (.int 1))) (sSeq (sFor (iSeq (eOp2 gIx (eVar 0) (eC (.int 0)))) (bName 9) (sSet (bName 8) (eOp2 gMul (eVar 8) (eC (.int 2))))) (sRet (eOp2 gEq (eVar 2) (eVar 8))))))) [some (.val p0), some (.val p1), none, none, none, none, none, none, none, none] (fun _ => Q (.val .none) none) (fun f _ => wRt f fun r => Q r none) := wF_body

noncomputable def den__law_gaps_right : DM :=
  sSeq (sSet (bTup [bName 2, bName 3]) (eCall f_totals [] [eVar 0])) (sSeq (sSet (bTup [bName 4, bName 5]) (eCall f_stretch [] [eVar 0])) (sSeq (sIf (tOf (eOp2 gNe (eComp [6] (iRng2 (eVar 4) (eOp2 gAdd (eVar 5) (eC (.int 1)))) (bName 6) (tOf (eOp2 gNotIn (eVar 6) (eVar 1))) (eVar 6)) (eLst []))) (sRet (eC (.bool false))) sNext) (sSeq (sIf (tOr (tOf (eOp2 gIn (eOp2 gSub (eVar 4) (eC (.int 1))) (eVar 1))) (tOf (eOp2 gIn (eOp2 gAdd (eVar 5) (eC (.int 1))) (eVar 1)))) (sRet (eC (.bool false))) sNext) (sSeq (sIf (tOf (eOp2 gNe (eCall f_count_missing [] [eVar 0]) (eOp2 gSub (eOp2 gAdd (eOp2 gAdd (eVar 2) (eVar 3)) (eC (.int 1))) (eOp1 gLen (eVar 1))))) (sRet (eC (.bool false))) sNext) (sRet (eOp2 gEq (eCall f_most_equal [] [eVar 0]) (eOp1 gMinL (eComp [6] (iSeq (eVar 1)) (bName 6) tYes (eOp1 gAbs (eOp2 gSub (eOp2 gSub (eVar 2) (eVar 3)) (eOp2 gMul (eC (.int 2)) (eVar 6))))))))))))
noncomputable def f__law_gaps_right : DF := bodyF 7 den__law_gaps_right
theorem wd__law_gaps_right (p0 p1 : D) (Q : RV → Option D → Prop) : wF f__law_gaps_right none [p0, p1] Q = wS (sSeq (sSet (bTup [bName 2, bName 3]) (eCall f_totals [] [eVar 0])) (sSeq (sSet (bTup [bName 4, bName 5]) (eCall f_stretch [] [eVar 0])) (sSeq (sIf (tOf (eOp2 gNe (eComp [6] (iRng2 (eVar 4) (eOp2 gAdd (eVar 5) (eC (.int 1)))) (bName 6) (tOf (eOp2 gNotIn (eVar 6) (eVar 1))) (eVar 6)) (eLst []))) (sRet (eC (.bool false))) sNext) (sSeq (sIf (tOr (tOf (eOp2 gIn (eOp2 gSub (eVar 4) (eC (.int 1))) (eVar 1))) (tOf (eOp2 gIn (eOp2 gAdd (eVar 5) (eC (.int 1))) (eVar 1)))) (sRet (eC (.bool false))) sNext) (sSeq (sIf (tOf (eOp2 gNe (eCall f_count_missing [] [eVar 0]) (eOp2 gSub (eOp2 gAdd (eOp2 gAdd (eVar 2) (eVar 3)) (eC (.int 1))) (eOp1 gLen (eVar 1))))) (sRet (eC (.bool false))) sNext) (sRet (eOp2 gEq (eCall f_most_equal [] [eVar 0]) (eOp1 gMinL (eComp [6] (iSeq (eVar 1)) (bName 6) tYes (eOp1 gAbs (eOp2 gSub (eOp2 gSub (eVar 2) (eVar 3)) (eOp2 gMul (eC (.int 2)) (eVar 6))))))))))))) [some (.val p0), some (.val p1), none, none, none, none, none] (fun _ => Q (.val .none) none) (fun f _ => wRt f fun r => Q r none) := wF_body
end KK

end
section
/-! DV: two ways of writing the same. -/
namespace KK
open PySem QL
def VI (a : DE) : Prop := ∀ st r s, a st = .ok (r, s) → ∀ n : Int, r.d = .int n → r = .val (.int n)
def NX (a : DE) : Prop := ∀ st c, a st ≠ .ex c
theorem vi_var (i : Nat) : VI (eVar i) := by
  intro st r s h n hn
  unfold eVar at h
  generalize st[i]? = a at h
  rcases a with _ | _ | (d | ⟨x, d⟩)
  · cases h
  · cases h
  · cases h
    cases hn; rfl
  · cases x
    · cases h
      cases hn; rfl
    · cases h
theorem vi_op2 {g : D → D → Option RV} (hg : ∀ d e r, g d e = some r → ∀ n : Int, r.d = .int n → r = .val (.int n)) (a b : DE) : VI (eOp2 g a b) := by
  intro st r s h n hn
  unfold eOp2 at h
  cases ha : a st with
  | bad => rw [ha] at h; cases h
  | ex c => rw [ha] at h; cases h
  | ok p =>
    rw [ha] at h
    cases hb : b p.2 with
    | bad => simp only [R.ok_bind, hb] at h; cases h
    | ex c => simp only [R.ok_bind, hb] at h; cases h
    | ok q =>
      simp only [R.ok_bind, hb] at h
      obtain ⟨_, h⟩ := guardP_ok h
      cases hgg : g p.1.d q.1.d with
      | none => rw [hgg] at h; cases h
      | some r' =>
        rw [hgg] at h
        cases h
        exact hg _ _ _ hgg n hn
theorem nx_C (d : D) : NX (eC d) := fun st c h => by cases h
theorem nx_var (i : Nat) : NX (eVar i) := by
  intro st c h
  unfold eVar at h
  generalize st[i]? = a at h
  rcases a with _ | _ | (d | ⟨x, d⟩)
  · cases h
  · cases h
  · cases h
  · cases x <;> cases h
theorem guard_bad {α : Type} (p : Prop) : guardP p (R.bad : R α) = .bad := by
  unfold guardP
  split <;> rfl
theorem int_mod {a b : DE} (ha : VI a) (hb : NX b) : eOp2 gMod (eOp1 gInt a) b = eOp2 gMod a b := by
  funext st
  unfold eOp2 eOp1
  cases h : a st with
  | bad => rfl
  | ex c => rfl
  | ok p =>
    obtain ⟨r, s⟩ := p
    by_cases hn : ∃ n : Int, r.d = .int n
    · obtain ⟨n, hn⟩ := hn
      have := ha st r s h n hn
      subst this
      rfl
    · have h1 : gInt r.d = none := by
        cases hd : r.d with
        | int n => exact absurd ⟨n, hd⟩ hn
        | _ => rfl
      have h2 : ∀ e, gMod r.d e = none := by
        intro e
        cases hd : r.d with
        | int n => exact absurd ⟨n, hd⟩ hn
        | _ => rfl
      simp only [R.ok_bind, h1, R.of_none, R.bad_bind]
      cases hbs : b s with
      | bad => rfl
      | ex c => exact absurd hbs (hb s c)
      | ok q =>
        simp only [R.ok_bind, h2, R.of_none, R.bad_bind]
        rw [guard_bad]
theorem g_ix (d e : D) (r : RV) (h : gIx d e = some r) (n : Int) (hn : r.d = .int n) : r = .val (.int n) := by
  have : ∃ x, r = .val x := by
    unfold gIx at h
    split at h
    · rw [Option.map_eq_some_iff] at h; obtain ⟨x, _, rfl⟩ := h; exact ⟨x, rfl⟩
    · rw [Option.map_eq_some_iff] at h; obtain ⟨x, _, rfl⟩ := h; exact ⟨x, rfl⟩
    · rw [Option.bind_eq_some_iff] at h
      obtain ⟨k, _, h⟩ := h
      rw [Option.map_eq_some_iff] at h; obtain ⟨x, _, rfl⟩ := h; exact ⟨x, rfl⟩
  obtain ⟨x, rfl⟩ := this
  cases hn; rfl
theorem g_pow (d e : D) (r : RV) (h : gPow d e = some r) (n : Int) (hn : r.d = .int n) : r = .val (.int n) := by
  unfold gPow at h
  split at h
  · split at h
    · cases h; cases hn; rfl
    · cases h
  · cases h
theorem eqv__law_source_v2 : f__law_source_v2 = f__law_source := by
  unfold f__law_source_v2 f__law_source den__law_source_v2 den__law_source
  rw [int_mod (vi_var 0) (nx_C _)]
theorem eqv__law_draw_v2 : f__law_draw_v2 = f__law_draw := by
  unfold f__law_draw_v2 f__law_draw den__law_draw_v2 den__law_draw
  rw [int_mod (vi_op2 g_ix _ _) (nx_var _), int_mod (vi_op2 g_pow _ _) (nx_C _), int_mod (vi_op2 g_pow _ _) (nx_C _), int_mod (vi_var _) (nx_var _)]
end KK

end
section
/-! what the law computes: printed by gen.py -/
namespace KK
open PySem QL
noncomputable def den_law : DM :=
  sSeq (sFor (iSeq (eSl (eOp2 gAdd (eLst [eC (.int 0)]) (eVar 0)) pNone (pPart (eC (.int 8))))) (bName 1) (sSeq (sSet (bOwn 2) (eCall f__law_source [] [eVar 1, eC (.int 11)])) (sFor (iSeq (eTup [eC (.int 7), eC (.int 12)])) (bName 3) (sSeq (sSet (bName 4) (eCallS f__law_state [] 2 [eVar 3])) (sSeq (sSet (bName 5) (eOp2 gIx (eVar 4) (eC (.int 0)))) (sSeq (sSet (bTup [bName 6, bName 7]) (eCallS f__law_seen [] 2 [eVar 4])) (sSeq (sSet (bName 8) (eCall f__law_sums [] [eVar 5])) (sSeq (sSet (bOwn 9) (eLst [])) (sSeq (sFor (iSeq (eOp1 gSorted (eVar 8))) (bName 10) (sIf (tOf (eOp2 gEq (eComp [15, 16] (iSeq (eVar 6)) (bTup [bName 15, bName 16]) (tOf (eOp2 gNe (eOp2 gIn (eOp2 gAdd (eVar 15) (eVar 10)) (eVar 8)) (eVar 16))) (eC (.int 1))) (eLst []))) (sAppend 9 (eVar 10)) sNext)) (sSeq (sSet (bOwn 11) (eCall f_possible_totals [] [eVar 5, eVar 6])) (sSeq (sIf (tNot (tOf (eCallB (f__law_equal 8) [] [eBor 11, eBor 9]))) (sRet (eC (.bool false))) sNext) (sSeq (sIf (tAnd (tNot (tOf (eVar 7))) (tOf (eOp2 gNotIn (eCall f__law_worth [] [eVar 5, eCall f__law_others [] [eVar 4]]) (eBor 11)))) (sRet (eC (.bool false))) sNext) (sSeq (sIf (tOf (eOp2 gLt (eOp1 gLen (eVar 5)) (eC (.int 8)))) (sFor (iSeq (eSl (eCall f__law_sets [] [eListRg1 (eOp1 gLen (eVar 5))]) pNone (pPart (eC (.int 40))))) (bName 12) (sSeq (sSet (bName 13) (eTup [eVar 5, eVar 12])) (sSeq (sSet (bName 14) (eOp2 gEq (eComp [15, 16] (iSeq (eVar 6)) (bTup [bName 15, bName 16]) (tOf (eOp2 gNe (eCall f_can_pay [] [eVar 13, eVar 15]) (eVar 16))) (eC (.int 1))) (eLst []))) (sIf (tOf (eOp2 gNe (eVar 14) (eOp2 gIn (eCall f__law_worth [] [eVar 5, eCall f__law_others [] [eVar 13]]) (eBor 11)))) (sRet (eC (.bool false))) sNext)))) sNext) (sSeq (sAppend 11 (eC (.int 0))) (sIf (tOf (eOp2 gNe (eCall f_possible_totals [] [eVar 5, eVar 6]) (eBor 9))) (sRet (eC (.bool false))) sNext))))))))))))))) (sRet (eOp2 gEq (eCall f_possible_totals [] [eTup [eC (.int 5)], eTup [eTup [eC (.int 5), eC (.bool true)]]]) (eLst [eC (.int 0)])))
noncomputable def f_law : DF := bodyF 17 den_law
theorem wd_law (p0 : D) (Q : RV → Option D → Prop) : wF f_law none [p0] Q = wS (sSeq (sFor (iSeq (eSl (eOp2 gAdd (eLst [eC (.int 0)]) (eVar 0)) pNone (pPart (eC (.int 8))))) (bName 1) (sSeq (sSet (bOwn 2) (eCall f__law_source [] [eVar 1, eC (.int 11)])) (sFor (iSeq (eTup [eC (.int 7), eC (.int 12)])) (bName 3) (sSeq (sSet (bName 4) (eCallS f__law_state [] 2 [eVar 3])) (sSeq (sSet (bName 5) (eOp2 gIx (eVar 4) (eC (.int 0)))) (sSeq (sSet (bTup [bName 6, bName 7]) (eCallS f__law_seen [] 2 [eVar 4])) (sSeq (sSet (bName 8) (eCall f__law_sums [] [eVar 5])) (sSeq (sSet (bOwn 9) (eLst [])) (sSeq (sFor (iSeq (eOp1 gSorted (eVar 8))) (bName 10) (sIf (tOf (eOp2 gEq (eComp [15, 16] (iSeq (eVar 6)) (bTup [bName 15, bName 16]) (tOf (eOp2 gNe (eOp2 gIn (eOp2 gAdd (eVar 15) (eVar 10)) (eVar 8)) (eVar 16))) (eC (.int 1))) (eLst []))) (sAppend 9 (eVar 10)) sNext)) (sSeq (sSet (bOwn 11) (eCall f_possible_totals [] [eVar 5, eVar 6])) (sSeq (sIf (tNot (tOf (eCallB (f__law_equal 8) [] [eBor 11, eBor 9]))) (sRet (eC (.bool false))) sNext) (sSeq (sIf (tAnd (tNot (tOf (eVar 7))) (tOf (eOp2 gNotIn (eCall f__law_worth [] [eVar 5, eCall f__law_others [] [eVar 4]]) (eBor 11)))) (sRet (eC (.bool false))) sNext) (sSeq (sIf (tOf (eOp2 gLt (eOp1 gLen (eVar 5)) (eC (.int 8)))) (sFor (iSeq (eSl (eCall f__law_sets [] [eListRg1 (eOp1 gLen (eVar 5))]) pNone (pPart (eC (.int 40))))) (bName 12) (sSeq (sSet (bName 13) (eTup [eVar 5, eVar 12])) (sSeq (sSet (bName 14) (eOp2 gEq (eComp [15, 16] (iSeq (eVar 6)) (bTup [bName 15, bName 16]) (tOf (eOp2 gNe (eCall f_can_pay [] [eVar 13, eVar 15]) (eVar 16))) (eC (.int 1))) (eLst []))) (sIf (tOf (eOp2 gNe (eVar 14) (eOp2 gIn (eCall f__law_worth [] [eVar 5, eCall f__law_others [] [eVar 13]]) (eBor 11)))) (sRet (eC (.bool false))) sNext)))) sNext) (sSeq (sAppend 11 (eC (.int 0))) (sIf (tOf (eOp2 gNe (eCall f_possible_totals [] [eVar 5, eVar 6]) (eBor 9))) (sRet (eC (.bool false))) sNext))))))))))))))) (sRet (eOp2 gEq (eCall f_possible_totals [] [eTup [eC (.int 5)], eTup [eTup [eC (.int 5), eC (.bool true)]]]) (eLst [eC (.int 0)])))) [some (.val p0), none, none, none, none, none, none, none, none, none, none, none, none, none, none, none, none] (fun _ => Q (.val .none) none) (fun f _ => wRt f fun r => Q r none) := wF_body

end KK

end
section
/-! the walk -/
namespace KK
open PySem PySem.Spec PyProof.Rows L2 QL
def top (i : Nat) : Stmt := PySem.Challenge.pw_pooledcoins_k11_whole_possible_totals.main.body.getD i (.Pass ⟨0, 0, 0, 0⟩)
abbrev s_is_between : Stmt := top 9
def N_is_between : List Str := ["value", "low", "high"]
abbrev s_are_coins : Stmt := top 10
def N_are_coins : List Str := ["value", "most", "coin"]
abbrev s_is_set : Stmt := top 11
def N_is_set : List Str := ["count", "value", "index", "first", "second"]
abbrev s_is_state : Stmt := top 12
def N_is_state : List Str := ["value"]
abbrev s_check_state : Stmt := top 13
def N_check_state : List Str := ["state"]
abbrev s_check_coins : Stmt := top 14
def N_check_coins : List Str := ["coins"]
abbrev s_worth : Stmt := top 15
def N_worth : List Str := ["coins", "chosen", "index"]
abbrev s_others_of : Stmt := top 16
def N_others_of : List Str := ["state", "index"]
abbrev s_total_of_second : Stmt := top 17
def N_total_of_second : List Str := ["state"]
abbrev s_check_price : Stmt := top 20
def N_check_price : List Str := ["price"]
abbrev s_counts_for : Stmt := top 21
def N_counts_for : List Str := ["coins", "found", "coin", "later", "total"]
abbrev s_ways_to : Stmt := top 22
def N_ways_to : List Str := ["coins", "total"]
abbrev s_can_pay : Stmt := top 23
def N_can_pay : List Str := ["state", "price"]
abbrev s_check_seen : Stmt := top 25
def N_check_seen : List Str := ["seen", "good", "pair"]
abbrev s_agrees : Stmt := top 26
def N_agrees : List Str := ["sums", "total", "seen", "price", "could"]
abbrev s_possible_totals : Stmt := top 27
def N_possible_totals : List Str := ["coins", "seen", "sums", "total"]
abbrev s__law_source : Stmt := top 29
def N__law_source : List Str := ["cell", "turn"]
abbrev s__law_draw : Stmt := top 30
def N__law_draw : List Str := ["source", "size", "drawn", "number"]
abbrev s__law_choice : Stmt := top 31
def N__law_choice : List Str := ["source", "items"]
abbrev s__law_kind : Stmt := top 32
def N__law_kind : List Str := ["value"]
abbrev s__law_equal : Stmt := top 33
def N__law_equal : List Str := ["value", "expected", "k", "piece"]
abbrev s__law_coins : Stmt := top 34
def N__law_coins : List Str := ["source", "most", "count", "way", "usual", "found", "value", "turn"]
abbrev s__law_some : Stmt := top 35
def N__law_some : List Str := ["source", "items", "item"]
abbrev s__law_state : Stmt := top 36
def N__law_state : List Str := ["source", "most", "coins"]
abbrev s__law_worth : Stmt := top 37
def N__law_worth : List Str := ["coins", "chosen", "index"]
abbrev s__law_others : Stmt := top 38
def N__law_others : List Str := ["state", "index"]
abbrev s__law_sets : Stmt := top 39
def N__law_sets : List Str := ["items", "found", "item", "chosen"]
abbrev s__law_sums : Stmt := top 40
def N__law_sums : List Str := ["coins", "found", "coin", "later", "total"]
abbrev s__law_random_payment : Stmt := top 41
def N__law_random_payment : List Str := ["source", "state"]
abbrev s__law_price : Stmt := top 42
def N__law_price : List Str := ["source", "state", "given", "got", "price"]
abbrev s__law_seen : Stmt := top 43
def N__law_seen : List Str := ["source", "state", "sums", "second", "seen", "changed", "turn", "price", "could"]
abbrev s_law : Stmt := top 44
def N_law : List Str := ["script", "cell", "source", "most", "state", "coins", "seen", "changed", "sums", "expected", "total", "result", "mine", "here", "fits_", "price", "could"]
/-- what the top binds -/
structure Ev (K : PySem.W.Frag) (mg : Str → Option Value) : Prop where
  g_all : mg "all" = none
  g_bool : mg "bool" = none
  g_dict : mg "dict" = none
  g_enumerate : mg "enumerate" = none
  g_int : mg "int" = none
  g_isinstance : mg "isinstance" = none
  g_len : mg "len" = none
  g_list : mg "list" = none
  g_max : mg "max" = none
  g_min : mg "min" = none
  g_range : mg "range" = none
  g_sorted : mg "sorted" = none
  g_str : mg "str" = none
  g_sum : mg "sum" = none
  g_tuple : mg "tuple" = none
  g_zip : mg "zip" = none
  i_MAX_PRICE : ∃ t, mg "MAX_PRICE" = some (.int 12000 t)
  i_MAX_VALUE : ∃ t, mg "MAX_VALUE" = some (.int 1000 t)
  x_InvalidCoins : PySem.W.excIn K (He.ga K "InvalidCoins") He.veBase "ValueError.__new__" = true ∧ mg "InvalidCoins" = some (.ref (He.ga K "InvalidCoins")) ∧ PySem.W.keepIn K (.ref (He.ga K "InvalidCoins")) = true ∧ PySem.W.subIn K (.ref (He.ga K "InvalidCoins")) (.type "BaseException") = some true ∧ PySem.W.typeIn K (.ref (He.ga K "InvalidCoins")) = some (.type "type")
  x_InvalidPrice : PySem.W.excIn K (He.ga K "InvalidPrice") He.veBase "ValueError.__new__" = true ∧ mg "InvalidPrice" = some (.ref (He.ga K "InvalidPrice")) ∧ PySem.W.keepIn K (.ref (He.ga K "InvalidPrice")) = true ∧ PySem.W.subIn K (.ref (He.ga K "InvalidPrice")) (.type "BaseException") = some true ∧ PySem.W.typeIn K (.ref (He.ga K "InvalidPrice")) = some (.type "type")
  x_InvalidSeen : PySem.W.excIn K (He.ga K "InvalidSeen") He.veBase "ValueError.__new__" = true ∧ mg "InvalidSeen" = some (.ref (He.ga K "InvalidSeen")) ∧ PySem.W.keepIn K (.ref (He.ga K "InvalidSeen")) = true ∧ PySem.W.subIn K (.ref (He.ga K "InvalidSeen")) (.type "BaseException") = some true ∧ PySem.W.typeIn K (.ref (He.ga K "InvalidSeen")) = some (.type "type")
  x_InvalidState : PySem.W.excIn K (He.ga K "InvalidState") He.veBase "ValueError.__new__" = true ∧ mg "InvalidState" = some (.ref (He.ga K "InvalidState")) ∧ PySem.W.keepIn K (.ref (He.ga K "InvalidState")) = true ∧ PySem.W.subIn K (.ref (He.ga K "InvalidState")) (.type "BaseException") = some true ∧ PySem.W.typeIn K (.ref (He.ga K "InvalidState")) = some (.type "type")
  d_is_between : ∃ fd, FunD K "is_between" "is_between" (defArgs s_is_between) (defBody s_is_between) (defScope s_is_between) [] [] (He.ga K "is_between") fd
  m_is_between : mg "is_between" = some (.ref (He.ga K "is_between"))
  d_are_coins : ∃ fd, FunD K "are_coins" "are_coins" (defArgs s_are_coins) (defBody s_are_coins) (defScope s_are_coins) [.int 12] [] (He.ga K "are_coins") fd
  m_are_coins : mg "are_coins" = some (.ref (He.ga K "are_coins"))
  d_is_set : ∃ fd, FunD K "is_set" "is_set" (defArgs s_is_set) (defBody s_is_set) (defScope s_is_set) [] [] (He.ga K "is_set") fd
  m_is_set : mg "is_set" = some (.ref (He.ga K "is_set"))
  d_is_state : ∃ fd, FunD K "is_state" "is_state" (defArgs s_is_state) (defBody s_is_state) (defScope s_is_state) [] [] (He.ga K "is_state") fd
  m_is_state : mg "is_state" = some (.ref (He.ga K "is_state"))
  d_check_state : ∃ fd, FunD K "check_state" "check_state" (defArgs s_check_state) (defBody s_check_state) (defScope s_check_state) [] [] (He.ga K "check_state") fd
  m_check_state : mg "check_state" = some (.ref (He.ga K "check_state"))
  d_check_coins : ∃ fd, FunD K "check_coins" "check_coins" (defArgs s_check_coins) (defBody s_check_coins) (defScope s_check_coins) [] [] (He.ga K "check_coins") fd
  m_check_coins : mg "check_coins" = some (.ref (He.ga K "check_coins"))
  d_worth : ∃ fd, FunD K "worth" "worth" (defArgs s_worth) (defBody s_worth) (defScope s_worth) [] [] (He.ga K "worth") fd
  m_worth : mg "worth" = some (.ref (He.ga K "worth"))
  d_others_of : ∃ fd, FunD K "others_of" "others_of" (defArgs s_others_of) (defBody s_others_of) (defScope s_others_of) [] [] (He.ga K "others_of") fd
  m_others_of : mg "others_of" = some (.ref (He.ga K "others_of"))
  d_total_of_second : ∃ fd, FunD K "total_of_second" "total_of_second" (defArgs s_total_of_second) (defBody s_total_of_second) (defScope s_total_of_second) [] [] (He.ga K "total_of_second") fd
  m_total_of_second : mg "total_of_second" = some (.ref (He.ga K "total_of_second"))
  d_check_price : ∃ fd, FunD K "check_price" "check_price" (defArgs s_check_price) (defBody s_check_price) (defScope s_check_price) [] [] (He.ga K "check_price") fd
  m_check_price : mg "check_price" = some (.ref (He.ga K "check_price"))
  d_counts_for : ∃ fd, FunD K "counts_for" "counts_for" (defArgs s_counts_for) (defBody s_counts_for) (defScope s_counts_for) [] [] (He.ga K "counts_for") fd
  m_counts_for : mg "counts_for" = some (.ref (He.ga K "counts_for"))
  d_ways_to : ∃ fd, FunD K "ways_to" "ways_to" (defArgs s_ways_to) (defBody s_ways_to) (defScope s_ways_to) [] [] (He.ga K "ways_to") fd
  m_ways_to : mg "ways_to" = some (.ref (He.ga K "ways_to"))
  d_can_pay : ∃ fd, FunD K "can_pay" "can_pay" (defArgs s_can_pay) (defBody s_can_pay) (defScope s_can_pay) [] [] (He.ga K "can_pay") fd
  m_can_pay : mg "can_pay" = some (.ref (He.ga K "can_pay"))
  d_check_seen : ∃ fd, FunD K "check_seen" "check_seen" (defArgs s_check_seen) (defBody s_check_seen) (defScope s_check_seen) [] [] (He.ga K "check_seen") fd
  m_check_seen : mg "check_seen" = some (.ref (He.ga K "check_seen"))
  d_agrees : ∃ fd, FunD K "agrees" "agrees" (defArgs s_agrees) (defBody s_agrees) (defScope s_agrees) [] [] (He.ga K "agrees") fd
  m_agrees : mg "agrees" = some (.ref (He.ga K "agrees"))
  d_possible_totals : ∃ fd, FunD K "possible_totals" "possible_totals" (defArgs s_possible_totals) (defBody s_possible_totals) (defScope s_possible_totals) [] [] (He.ga K "possible_totals") fd
  m_possible_totals : mg "possible_totals" = some (.ref (He.ga K "possible_totals"))
  d__law_source : ∃ fd, FunD K "_law_source" "_law_source" (defArgs s__law_source) (defBody s__law_source) (defScope s__law_source) [] [] (He.ga K "_law_source") fd
  m__law_source : mg "_law_source" = some (.ref (He.ga K "_law_source"))
  d__law_draw : ∃ fd, FunD K "_law_draw" "_law_draw" (defArgs s__law_draw) (defBody s__law_draw) (defScope s__law_draw) [] [] (He.ga K "_law_draw") fd
  m__law_draw : mg "_law_draw" = some (.ref (He.ga K "_law_draw"))
  d__law_choice : ∃ fd, FunD K "_law_choice" "_law_choice" (defArgs s__law_choice) (defBody s__law_choice) (defScope s__law_choice) [] [] (He.ga K "_law_choice") fd
  m__law_choice : mg "_law_choice" = some (.ref (He.ga K "_law_choice"))
  d__law_kind : ∃ fd, FunD K "_law_kind" "_law_kind" (defArgs s__law_kind) (defBody s__law_kind) (defScope s__law_kind) [] [] (He.ga K "_law_kind") fd
  m__law_kind : mg "_law_kind" = some (.ref (He.ga K "_law_kind"))
  d__law_equal : ∃ fd, FunD K "_law_equal" "_law_equal" (defArgs s__law_equal) (defBody s__law_equal) (defScope s__law_equal) [] [] (He.ga K "_law_equal") fd
  m__law_equal : mg "_law_equal" = some (.ref (He.ga K "_law_equal"))
  d__law_coins : ∃ fd, FunD K "_law_coins" "_law_coins" (defArgs s__law_coins) (defBody s__law_coins) (defScope s__law_coins) [] [] (He.ga K "_law_coins") fd
  m__law_coins : mg "_law_coins" = some (.ref (He.ga K "_law_coins"))
  d__law_some : ∃ fd, FunD K "_law_some" "_law_some" (defArgs s__law_some) (defBody s__law_some) (defScope s__law_some) [] [] (He.ga K "_law_some") fd
  m__law_some : mg "_law_some" = some (.ref (He.ga K "_law_some"))
  d__law_state : ∃ fd, FunD K "_law_state" "_law_state" (defArgs s__law_state) (defBody s__law_state) (defScope s__law_state) [] [] (He.ga K "_law_state") fd
  m__law_state : mg "_law_state" = some (.ref (He.ga K "_law_state"))
  d__law_worth : ∃ fd, FunD K "_law_worth" "_law_worth" (defArgs s__law_worth) (defBody s__law_worth) (defScope s__law_worth) [] [] (He.ga K "_law_worth") fd
  m__law_worth : mg "_law_worth" = some (.ref (He.ga K "_law_worth"))
  d__law_others : ∃ fd, FunD K "_law_others" "_law_others" (defArgs s__law_others) (defBody s__law_others) (defScope s__law_others) [] [] (He.ga K "_law_others") fd
  m__law_others : mg "_law_others" = some (.ref (He.ga K "_law_others"))
  d__law_sets : ∃ fd, FunD K "_law_sets" "_law_sets" (defArgs s__law_sets) (defBody s__law_sets) (defScope s__law_sets) [] [] (He.ga K "_law_sets") fd
  m__law_sets : mg "_law_sets" = some (.ref (He.ga K "_law_sets"))
  d__law_sums : ∃ fd, FunD K "_law_sums" "_law_sums" (defArgs s__law_sums) (defBody s__law_sums) (defScope s__law_sums) [] [] (He.ga K "_law_sums") fd
  m__law_sums : mg "_law_sums" = some (.ref (He.ga K "_law_sums"))
  d__law_random_payment : ∃ fd, FunD K "_law_random_payment" "_law_random_payment" (defArgs s__law_random_payment) (defBody s__law_random_payment) (defScope s__law_random_payment) [] [] (He.ga K "_law_random_payment") fd
  m__law_random_payment : mg "_law_random_payment" = some (.ref (He.ga K "_law_random_payment"))
  d__law_price : ∃ fd, FunD K "_law_price" "_law_price" (defArgs s__law_price) (defBody s__law_price) (defScope s__law_price) [] [] (He.ga K "_law_price") fd
  m__law_price : mg "_law_price" = some (.ref (He.ga K "_law_price"))
  d__law_seen : ∃ fd, FunD K "_law_seen" "_law_seen" (defArgs s__law_seen) (defBody s__law_seen) (defScope s__law_seen) [] [] (He.ga K "_law_seen") fd
  m__law_seen : mg "_law_seen" = some (.ref (He.ga K "_law_seen"))
  d_law : ∃ fd, FunD K "law" "law" (defArgs s_law) (defBody s_law) (defScope s_law) [] [] (He.ga K "law") fd
  m_law : mg "law" = some (.ref (He.ga K "law"))
section
variable {P : Program} {w : World} {K : PySem.W.Frag} {mg : Str → Option Value} {base : Heap}
theorem sc_is_between : FnScope N_is_between ["value", "low", "high"] (defScope s_is_between) := ⟨rfl, rfl, rfl, by decide +kernel, rfl, by decide +kernel, by decide +kernel⟩
theorem w_is_between (e : Ev K mg) {fd : FuncData} (F : FunD K "is_between" "is_between" (defArgs s_is_between) (defBody s_is_between) (defScope s_is_between) [] [] (He.ga K "is_between") fd) : FnQ P w K mg base 1 (He.ga K "is_between") fd ["value", "low", "high"] f_is_between :=
  fnQ_of F sc_is_between (by decide) fun θ cdv A outer s H E hr tk px po => have sc := sc_is_between; qss_one (qs_ret (qe_and (qe_isi .int (by rfl) e.g_isinstance (by rfl) (by rfl) e.g_int (by rfl) (qe_var (pv 0))) (qe_and (qe_not (qe_isi .bool (by rfl) e.g_isinstance (by rfl) (by rfl) e.g_bool (by rfl) (qe_var (pv 0)))) (qe_one (qe_chain og_le og_le (qe_var (pv 1)) (qe_var (pv 0)) (qe_var (pv 2)))))))
theorem c_is_between (e : Ev K mg) : CallQ P w K mg base "is_between" 1 3 [] f_is_between := by
  obtain ⟨fd, F⟩ := e.d_is_between
  exact callQ_of F e.m_is_between (w_is_between e F) (F.bindsN (ps := ["value", "low", "high"]) fun _ _ _ _ _ _ us hl => match us, hl with | [_, _, _], _ => rfl)
theorem sc_are_coins : FnScope N_are_coins ["value", "most"] (defScope s_are_coins) := ⟨rfl, rfl, rfl, by decide +kernel, rfl, by decide +kernel, by decide +kernel⟩
theorem w_are_coins (e : Ev K mg) {fd : FuncData} (F : FunD K "are_coins" "are_coins" (defArgs s_are_coins) (defBody s_are_coins) (defScope s_are_coins) [.int 12] [] (He.ga K "are_coins") fd) : FnQ P w K mg base 2 (He.ga K "are_coins") fd ["value", "most"] f_are_coins :=
  fnQ_of F sc_are_coins (by decide) fun θ cdv A outer s H E hr tk px po => have sc := sc_are_coins; qss_cons (qs_if (QW.qt (qw_or (qt_not (qt_val (qe_isi .tuple (by rfl) e.g_isinstance (by rfl) (by rfl) e.g_tuple (by rfl) (qe_var (pv 0))))) (qw_or1 (qt_not (qt_chain og_le og_le qe_int (qe_callB cg_len (by rfl) e.g_len (by rfl) (qe_var (pv 0))) (qe_var (pv 1))))))) (qss_one (qs_ret qe_bl)) qss_nil) (qss_one (qs_ret (qe_callB (cg_all rfl) (by rfl) e.g_all (by rfl) (qe_comp (own := [("coin", 2)]) rfl sc.nd bName_ne (qi_seq (qe_var (pv 0))) (blkOk_by (own := [("coin", 2)]) (N := N_are_coins) (sc := defScope s_are_coins) (by decide +kernel)) (fun _ _ _ _ _ => qgv_name (i := 2) (by decide) sc.nd rfl (by first | exact .inl rfl | exact .inr rfl)) (fun _ _ _ _ _ => pts_yes) (fun _ _ _ _ _ => qe_call ((c_is_between (P := P) (w := w) (base := base) e).mono (by omega)) hr (by rfl) px_blk (qa_cons (qe_var (pv 2)) (qa_cons qe_int (qa_cons (qe_glob (by rfl) e.i_MAX_VALUE) qa_nil))) rfl)))))
theorem c_are_coins (e : Ev K mg) : CallQ P w K mg base "are_coins" 2 2 [] f_are_coins := by
  obtain ⟨fd, F⟩ := e.d_are_coins
  exact callQ_of F e.m_are_coins (w_are_coins e F) (by
    obtain ⟨ds, hv, hb⟩ := F.binds1 (ps := ["value", "most"]) 2 1 (by decide) (by decide) fun _ _ _ _ _ _ _ us its hu hi => match us, its, hu, hi with | [_, _], [_], _, _ => ⟨_, rfl, rfl⟩
    cases hv
    exact hb)
theorem c_are_coins_d (e : Ev K mg) : CallQ P w K mg base "are_coins" 2 1 [.int 12] f_are_coins := by
  obtain ⟨fd, F⟩ := e.d_are_coins
  obtain ⟨ds, hv, hb⟩ := F.binds1 (ps := ["value", "most"]) 1 0 (by decide) (by decide) fun _ _ _ _ _ _ _ us its hu hi => match us, its, hu, hi with | [_], [_], _, _ => ⟨_, rfl, rfl⟩
  exact callQ_dfl F e.m_are_coins (w_are_coins e F) hv hb rfl
theorem sc_is_set : FnScope N_is_set ["count", "value"] (defScope s_is_set) := ⟨rfl, rfl, rfl, by decide +kernel, rfl, by decide +kernel, by decide +kernel⟩
theorem w_is_set (e : Ev K mg) {fd : FuncData} (F : FunD K "is_set" "is_set" (defArgs s_is_set) (defBody s_is_set) (defScope s_is_set) [] [] (He.ga K "is_set") fd) : FnQ P w K mg base 2 (He.ga K "is_set") fd ["count", "value"] f_is_set :=
  fnQ_of F sc_is_set (by decide) fun θ cdv A outer s H E hr tk px po => have sc := sc_is_set; qss_cons (qs_if (QW.qt (qw_or (qt_not (qt_val (qe_isi .tuple (by rfl) e.g_isinstance (by rfl) (by rfl) e.g_tuple (by rfl) (qe_var (pv 1))))) (qw_or1 (qt_not (qt_val (qe_callB (cg_all rfl) (by rfl) e.g_all (by rfl) (qe_comp (own := [("index", 2)]) rfl sc.nd bName_ne (qi_seq (qe_var (pv 1))) (blkOk_by (own := [("index", 2)]) (N := N_is_set) (sc := defScope s_is_set) (by decide +kernel)) (fun _ _ _ _ _ => qgv_name (i := 2) (by decide) sc.nd rfl (by first | exact .inl rfl | exact .inr rfl)) (fun _ _ _ _ _ => pts_yes) (fun _ _ _ _ _ => qe_call ((c_is_between (P := P) (w := w) (base := base) e).mono (by omega)) hr (by rfl) px_blk (qa_cons (qe_var (pv 2)) (qa_cons qe_int (qa_cons (qe_bin og_sub (qe_var (pv 0)) qe_int) qa_nil))) rfl)))))))) (qss_one (qs_ret qe_bl)) qss_nil) (qss_one (qs_ret (qe_callB (cg_all rfl) (by rfl) e.g_all (by rfl) (qe_comp (own := [("first", 3), ("second", 4)]) rfl sc.nd (bTup_ne (by simp; exact ⟨bName_ne, bName_ne⟩)) (qi_zip (by rfl) e.g_zip (qa_cons (qe_var (pv 1)) (qa_cons (qe_sl (qe_var (pv 1)) (qp_some qe_int) qp_none) qa_nil))) (blkOk_by (own := [("first", 3), ("second", 4)]) (N := N_is_set) (sc := defScope s_is_set) (by decide +kernel)) (fun _ _ _ _ _ => qgv_tup rfl (qgsv_cons (qgv_name (i := 3) (by decide) sc.nd rfl (by first | exact .inl rfl | exact .inr rfl)) (qgsv_cons (qgv_name (i := 4) (by decide) sc.nd rfl (by first | exact .inl rfl | exact .inr rfl)) qgsv_nil))) (fun _ _ _ _ _ => pts_yes) (fun _ _ _ _ _ => qe_cmp og_lt (qe_var (pv 3)) (qe_var (pv 4)) (by rfl))))))
theorem c_is_set (e : Ev K mg) : CallQ P w K mg base "is_set" 2 2 [] f_is_set := by
  obtain ⟨fd, F⟩ := e.d_is_set
  exact callQ_of F e.m_is_set (w_is_set e F) (F.bindsN (ps := ["count", "value"]) fun _ _ _ _ _ _ us hl => match us, hl with | [_, _], _ => rfl)
theorem sc_is_state : FnScope N_is_state ["value"] (defScope s_is_state) := ⟨rfl, rfl, rfl, by decide +kernel, rfl, by decide +kernel, by decide +kernel⟩
theorem w_is_state (e : Ev K mg) {fd : FuncData} (F : FunD K "is_state" "is_state" (defArgs s_is_state) (defBody s_is_state) (defScope s_is_state) [] [] (He.ga K "is_state") fd) : FnQ P w K mg base 3 (He.ga K "is_state") fd ["value"] f_is_state :=
  fnQ_of F sc_is_state (by decide) fun θ cdv A outer s H E hr tk px po => have sc := sc_is_state; qss_cons (qs_if (QW.qt (qw_or (qt_not (qt_val (qe_isi .tuple (by rfl) e.g_isinstance (by rfl) (by rfl) e.g_tuple (by rfl) (qe_var (pv 0))))) (qw_or (qt_cmp (og_ne (hu64 hr)) (qe_callB cg_len (by rfl) e.g_len (by rfl) (qe_var (pv 0))) qe_int (by rfl)) (qw_or1 (qt_not (qt_val (qe_call ((c_are_coins_d (P := P) (w := w) (base := base) e).mono (by omega)) hr (by rfl) px (qa_cons (qe_ix (hu_of hr) (qe_var (pv 0)) qe_int (fun _ _ => by rfl)) qa_nil) rfl))))))) (qss_one (qs_ret qe_bl)) qss_nil) (qss_one (qs_ret (qe_call ((c_is_set (P := P) (w := w) (base := base) e).mono (by omega)) hr (by rfl) px (qa_cons (qe_callB cg_len (by rfl) e.g_len (by rfl) (qe_ix (hu_of hr) (qe_var (pv 0)) qe_int (fun _ _ => by rfl))) (qa_cons (qe_ix (hu_of hr) (qe_var (pv 0)) qe_int (fun _ _ => by rfl)) qa_nil)) rfl)))
theorem c_is_state (e : Ev K mg) : CallQ P w K mg base "is_state" 3 1 [] f_is_state := by
  obtain ⟨fd, F⟩ := e.d_is_state
  exact callQ_of F e.m_is_state (w_is_state e F) (F.bindsN (ps := ["value"]) fun _ _ _ _ _ _ us hl => match us, hl with | [_], _ => rfl)
theorem sc_check_state : FnScope N_check_state ["state"] (defScope s_check_state) := ⟨rfl, rfl, rfl, by decide +kernel, rfl, by decide +kernel, by decide +kernel⟩
theorem w_check_state (e : Ev K mg) {fd : FuncData} (F : FunD K "check_state" "check_state" (defArgs s_check_state) (defBody s_check_state) (defScope s_check_state) [] [] (He.ga K "check_state") fd) : FnQ P w K mg base 4 (He.ga K "check_state") fd ["state"] f_check_state :=
  fnQ_of F sc_check_state (by decide) fun θ cdv A outer s H E hr tk px po => have sc := sc_check_state; qss_one (qs_if (qt_not (qt_val (qe_call ((c_is_state (P := P) (w := w) (base := base) e).mono (by omega)) hr (by rfl) px (qa_cons (qe_var (pv 0)) qa_nil) rfl))) (qss_one (qs_raise rfl tk PySem.F.excBase_ValueError e.x_InvalidState.1 e.x_InvalidState.2.1 e.x_InvalidState.2.2.1 (raises_own e.x_InvalidState.2.2.2.1 e.x_InvalidState.2.2.2.2) (by rfl))) qss_nil)
theorem c_check_state (e : Ev K mg) : CallQ P w K mg base "check_state" 4 1 [] f_check_state := by
  obtain ⟨fd, F⟩ := e.d_check_state
  exact callQ_of F e.m_check_state (w_check_state e F) (F.bindsN (ps := ["state"]) fun _ _ _ _ _ _ us hl => match us, hl with | [_], _ => rfl)
theorem sc_check_coins : FnScope N_check_coins ["coins"] (defScope s_check_coins) := ⟨rfl, rfl, rfl, by decide +kernel, rfl, by decide +kernel, by decide +kernel⟩
theorem w_check_coins (e : Ev K mg) {fd : FuncData} (F : FunD K "check_coins" "check_coins" (defArgs s_check_coins) (defBody s_check_coins) (defScope s_check_coins) [] [] (He.ga K "check_coins") fd) : FnQ P w K mg base 3 (He.ga K "check_coins") fd ["coins"] f_check_coins :=
  fnQ_of F sc_check_coins (by decide) fun θ cdv A outer s H E hr tk px po => have sc := sc_check_coins; qss_one (qs_if (qt_not (qt_val (qe_call ((c_are_coins_d (P := P) (w := w) (base := base) e).mono (by omega)) hr (by rfl) px (qa_cons (qe_var (pv 0)) qa_nil) rfl))) (qss_one (qs_raise rfl tk PySem.F.excBase_ValueError e.x_InvalidCoins.1 e.x_InvalidCoins.2.1 e.x_InvalidCoins.2.2.1 (raises_own e.x_InvalidCoins.2.2.2.1 e.x_InvalidCoins.2.2.2.2) (by rfl))) qss_nil)
theorem c_check_coins (e : Ev K mg) : CallQ P w K mg base "check_coins" 3 1 [] f_check_coins := by
  obtain ⟨fd, F⟩ := e.d_check_coins
  exact callQ_of F e.m_check_coins (w_check_coins e F) (F.bindsN (ps := ["coins"]) fun _ _ _ _ _ _ us hl => match us, hl with | [_], _ => rfl)
theorem sc_worth : FnScope N_worth ["coins", "chosen"] (defScope s_worth) := ⟨rfl, rfl, rfl, by decide +kernel, rfl, by decide +kernel, by decide +kernel⟩
theorem w_worth (e : Ev K mg) {fd : FuncData} (F : FunD K "worth" "worth" (defArgs s_worth) (defBody s_worth) (defScope s_worth) [] [] (He.ga K "worth") fd) : FnQ P w K mg base 1 (He.ga K "worth") fd ["coins", "chosen"] f_worth :=
  fnQ_of F sc_worth (by decide) fun θ cdv A outer s H E hr tk px po => have sc := sc_worth; qss_one (qs_ret (qe_callB (cg_sum rfl hr) (by rfl) e.g_sum (by rfl) (qe_comp (own := [("index", 2)]) rfl sc.nd bName_ne (qi_seq (qe_var (pv 1))) (blkOk_by (own := [("index", 2)]) (N := N_worth) (sc := defScope s_worth) (by decide +kernel)) (fun _ _ _ _ _ => qgv_name (i := 2) (by decide) sc.nd rfl (by first | exact .inl rfl | exact .inr rfl)) (fun _ _ _ _ _ => pts_yes) (fun _ _ _ _ _ => qe_ix (hu_of hr) (qe_var (pv 0)) (qe_var (pv 2)) (fun _ _ => by rfl)))))
theorem c_worth (e : Ev K mg) : CallQ P w K mg base "worth" 1 2 [] f_worth := by
  obtain ⟨fd, F⟩ := e.d_worth
  exact callQ_of F e.m_worth (w_worth e F) (F.bindsN (ps := ["coins", "chosen"]) fun _ _ _ _ _ _ us hl => match us, hl with | [_, _], _ => rfl)
theorem sc_others_of : FnScope N_others_of ["state"] (defScope s_others_of) := ⟨rfl, rfl, rfl, by decide +kernel, rfl, by decide +kernel, by decide +kernel⟩
theorem w_others_of (e : Ev K mg) {fd : FuncData} (F : FunD K "others_of" "others_of" (defArgs s_others_of) (defBody s_others_of) (defScope s_others_of) [] [] (He.ga K "others_of") fd) : FnQ P w K mg base 1 (He.ga K "others_of") fd ["state"] f_others_of :=
  fnQ_of F sc_others_of (by decide) fun θ cdv A outer s H E hr tk px po => have sc := sc_others_of; qss_one (qs_ret (qe_callTy cg_tuple (by rfl) e.g_tuple (by rfl) (qe_comp (own := [("index", 1)]) rfl sc.nd bName_ne (qi_range1 (by rfl) e.g_range (qe_callB cg_len (by rfl) e.g_len (by rfl) (qe_ix (hu_of hr) (qe_var (pv 0)) qe_int (fun _ _ => by rfl)))) (blkOk_by (own := [("index", 1)]) (N := N_others_of) (sc := defScope s_others_of) (by decide +kernel)) (fun _ _ _ _ _ => qgv_name (i := 1) (by decide) sc.nd rfl (by first | exact .inl rfl | exact .inr rfl)) (fun _ _ _ _ _ => pts_if (qt_cmp (og_notIn (hu64 hr)) (qe_var (pv 1)) (qe_ix (hu_of hr) (qe_var (pv 0)) qe_int (fun _ _ => by rfl)) (by rfl))) (fun _ _ _ _ _ => qe_var (pv 1)))))
theorem c_others_of (e : Ev K mg) : CallQ P w K mg base "others_of" 1 1 [] f_others_of := by
  obtain ⟨fd, F⟩ := e.d_others_of
  exact callQ_of F e.m_others_of (w_others_of e F) (F.bindsN (ps := ["state"]) fun _ _ _ _ _ _ us hl => match us, hl with | [_], _ => rfl)
theorem sc_total_of_second : FnScope N_total_of_second ["state"] (defScope s_total_of_second) := ⟨rfl, rfl, rfl, by decide +kernel, rfl, by decide +kernel, by decide +kernel⟩
theorem w_total_of_second (e : Ev K mg) {fd : FuncData} (F : FunD K "total_of_second" "total_of_second" (defArgs s_total_of_second) (defBody s_total_of_second) (defScope s_total_of_second) [] [] (He.ga K "total_of_second") fd) : FnQ P w K mg base 2 (He.ga K "total_of_second") fd ["state"] f_total_of_second :=
  fnQ_of F sc_total_of_second (by decide) fun θ cdv A outer s H E hr tk px po => have sc := sc_total_of_second; qss_one (qs_ret (qe_call ((c_worth (P := P) (w := w) (base := base) e).mono (by omega)) hr (by rfl) px (qa_cons (qe_ix (hu_of hr) (qe_var (pv 0)) qe_int (fun _ _ => by rfl)) (qa_cons (qe_call ((c_others_of (P := P) (w := w) (base := base) e).mono (by omega)) hr (by rfl) px (qa_cons (qe_var (pv 0)) qa_nil) rfl) qa_nil)) rfl))
theorem c_total_of_second (e : Ev K mg) : CallQ P w K mg base "total_of_second" 2 1 [] f_total_of_second := by
  obtain ⟨fd, F⟩ := e.d_total_of_second
  exact callQ_of F e.m_total_of_second (w_total_of_second e F) (F.bindsN (ps := ["state"]) fun _ _ _ _ _ _ us hl => match us, hl with | [_], _ => rfl)
theorem sc_check_price : FnScope N_check_price ["price"] (defScope s_check_price) := ⟨rfl, rfl, rfl, by decide +kernel, rfl, by decide +kernel, by decide +kernel⟩
theorem w_check_price (e : Ev K mg) {fd : FuncData} (F : FunD K "check_price" "check_price" (defArgs s_check_price) (defBody s_check_price) (defScope s_check_price) [] [] (He.ga K "check_price") fd) : FnQ P w K mg base 2 (He.ga K "check_price") fd ["price"] f_check_price :=
  fnQ_of F sc_check_price (by decide) fun θ cdv A outer s H E hr tk px po => have sc := sc_check_price; qss_one (qs_if (qt_not (qt_val (qe_call ((c_is_between (P := P) (w := w) (base := base) e).mono (by omega)) hr (by rfl) px (qa_cons (qe_var (pv 0)) (qa_cons (qe_un og_neg (qe_glob (by rfl) e.i_MAX_PRICE)) (qa_cons (qe_glob (by rfl) e.i_MAX_PRICE) qa_nil))) rfl))) (qss_one (qs_raise rfl tk PySem.F.excBase_ValueError e.x_InvalidPrice.1 e.x_InvalidPrice.2.1 e.x_InvalidPrice.2.2.1 (raises_own e.x_InvalidPrice.2.2.2.1 e.x_InvalidPrice.2.2.2.2) (by rfl))) qss_nil)
theorem c_check_price (e : Ev K mg) : CallQ P w K mg base "check_price" 2 1 [] f_check_price := by
  obtain ⟨fd, F⟩ := e.d_check_price
  exact callQ_of F e.m_check_price (w_check_price e F) (F.bindsN (ps := ["price"]) fun _ _ _ _ _ _ us hl => match us, hl with | [_], _ => rfl)
theorem sc_counts_for : FnScope N_counts_for ["coins"] (defScope s_counts_for) := ⟨rfl, rfl, rfl, by decide +kernel, rfl, by decide +kernel, by decide +kernel⟩
theorem w_counts_for (e : Ev K mg) {fd : FuncData} (F : FunD K "counts_for" "counts_for" (defArgs s_counts_for) (defBody s_counts_for) (defScope s_counts_for) [] [] (He.ga K "counts_for") fd) : FnQ P w K mg base 1 (He.ga K "counts_for") fd ["coins"] f_counts_for :=
  fnQ_of F sc_counts_for (by decide) fun θ cdv A outer s H E hr tk px po => have sc := sc_counts_for; qss_cons (qs_setO (i := 1) (fun te h => ps_set sc.nd rfl (by first | exact .inl rfl | exact .inr rfl) h) (qe_dict1 qe_int qe_int)) (qss_cons (qs_for po rfl bName_ne (qi_seq (qe_var (pv 0))) (qg_name (i := 2) sc.nd rfl (by first | exact .inl rfl | exact .inr rfl)) (qss_cons (qs_setO (i := 3) (fun te h => ps_set sc.nd rfl (by first | exact .inl rfl | exact .inr rfl) h) (qe_callTy cg_dict (by rfl) e.g_dict (by rfl) (qe_bor (pv 1)))) (qss_cons (qs_forK po rfl bName_ne (pv 1) (qg_name (i := 4) sc.nd rfl (by first | exact .inl rfl | exact .inr rfl)) (qss_one (qs_put (hu_of hr) (pv 3) (qe_bin og_add (qe_var (pv 4)) (qe_var (pv 2))) (qe_bin og_add (qe_get (hu_of hr) (qe_bor (pv 3)) (qe_bin og_add (qe_var (pv 4)) (qe_var (pv 2))) qe_int ⟨by rfl, by rfl, by rfl, by rfl⟩) (qe_ix (hu_of hr) (qe_bor (pv 1)) (qe_var (pv 4)) (fun _ _ => by rfl)))))) (qss_one (qs_setO (i := 1) (fun te h => ps_set sc.nd rfl (by first | exact .inl rfl | exact .inr rfl) h) (qe_mv (pv 3))))))) (qss_one (qs_ret (qe_mv (pv 1)))))
theorem c_counts_for (e : Ev K mg) : CallQ P w K mg base "counts_for" 1 1 [] f_counts_for := by
  obtain ⟨fd, F⟩ := e.d_counts_for
  exact callQ_of F e.m_counts_for (w_counts_for e F) (F.bindsN (ps := ["coins"]) fun _ _ _ _ _ _ us hl => match us, hl with | [_], _ => rfl)
theorem sc_ways_to : FnScope N_ways_to ["coins", "total"] (defScope s_ways_to) := ⟨rfl, rfl, rfl, by decide +kernel, rfl, by decide +kernel, by decide +kernel⟩
theorem w_ways_to (e : Ev K mg) {fd : FuncData} (F : FunD K "ways_to" "ways_to" (defArgs s_ways_to) (defBody s_ways_to) (defScope s_ways_to) [] [] (He.ga K "ways_to") fd) : FnQ P w K mg base 2 (He.ga K "ways_to") fd ["coins", "total"] f_ways_to :=
  fnQ_of F sc_ways_to (by decide) fun θ cdv A outer s H E hr tk px po => have sc := sc_ways_to; qss_one (qs_ret (qe_get (hu_of hr) (qe_call ((c_counts_for (P := P) (w := w) (base := base) e).mono (by omega)) hr (by rfl) px (qa_cons (qe_var (pv 0)) qa_nil) rfl) (qe_var (pv 1)) qe_int ⟨by rfl, by rfl, by rfl, by rfl⟩))
theorem c_ways_to (e : Ev K mg) : CallQ P w K mg base "ways_to" 2 2 [] f_ways_to := by
  obtain ⟨fd, F⟩ := e.d_ways_to
  exact callQ_of F e.m_ways_to (w_ways_to e F) (F.bindsN (ps := ["coins", "total"]) fun _ _ _ _ _ _ us hl => match us, hl with | [_, _], _ => rfl)
theorem sc_can_pay : FnScope N_can_pay ["state", "price"] (defScope s_can_pay) := ⟨rfl, rfl, rfl, by decide +kernel, rfl, by decide +kernel, by decide +kernel⟩
theorem w_can_pay (e : Ev K mg) {fd : FuncData} (F : FunD K "can_pay" "can_pay" (defArgs s_can_pay) (defBody s_can_pay) (defScope s_can_pay) [] [] (He.ga K "can_pay") fd) : FnQ P w K mg base 5 (He.ga K "can_pay") fd ["state", "price"] f_can_pay :=
  fnQ_of F sc_can_pay (by decide) fun θ cdv A outer s H E hr tk px po => have sc := sc_can_pay; qss_cons (qs_expr (qe_call ((c_check_state (P := P) (w := w) (base := base) e).mono (by omega)) hr (by rfl) px (qa_cons (qe_var (pv 0)) qa_nil) rfl)) (qss_cons (qs_expr (qe_call ((c_check_price (P := P) (w := w) (base := base) e).mono (by omega)) hr (by rfl) px (qa_cons (qe_var (pv 1)) qa_nil) rfl)) (qss_one (qs_ret (qe_cmp og_gt (qe_call ((c_ways_to (P := P) (w := w) (base := base) e).mono (by omega)) hr (by rfl) px (qa_cons (qe_ix (hu_of hr) (qe_var (pv 0)) qe_int (fun _ _ => by rfl)) (qa_cons (qe_bin og_add (qe_var (pv 1)) (qe_call ((c_total_of_second (P := P) (w := w) (base := base) e).mono (by omega)) hr (by rfl) px (qa_cons (qe_var (pv 0)) qa_nil) rfl)) qa_nil)) rfl) qe_int (by rfl)))))
theorem c_can_pay (e : Ev K mg) : CallQ P w K mg base "can_pay" 5 2 [] f_can_pay := by
  obtain ⟨fd, F⟩ := e.d_can_pay
  exact callQ_of F e.m_can_pay (w_can_pay e F) (F.bindsN (ps := ["state", "price"]) fun _ _ _ _ _ _ us hl => match us, hl with | [_, _], _ => rfl)
theorem sc_check_seen : FnScope N_check_seen ["seen"] (defScope s_check_seen) := ⟨rfl, rfl, rfl, by decide +kernel, rfl, by decide +kernel, by decide +kernel⟩
theorem w_check_seen (e : Ev K mg) {fd : FuncData} (F : FunD K "check_seen" "check_seen" (defArgs s_check_seen) (defBody s_check_seen) (defScope s_check_seen) [] [] (He.ga K "check_seen") fd) : FnQ P w K mg base 2 (He.ga K "check_seen") fd ["seen"] f_check_seen :=
  fnQ_of F sc_check_seen (by decide) fun θ cdv A outer s H E hr tk px po => have sc := sc_check_seen; qss_cons (qs_setN (i := 1) (fun te h => ps_set sc.nd rfl (by first | exact .inl rfl | exact .inr rfl) h) (qe_and (qe_isi .tuple (by rfl) e.g_isinstance (by rfl) (by rfl) e.g_tuple (by rfl) (qe_var (pv 0))) (qe_one (qe_chain og_le og_le qe_int (qe_callB cg_len (by rfl) e.g_len (by rfl) (qe_var (pv 0))) qe_int)))) (qss_cons (qs_if (QW.qt (qw_or (qt_not (qt_val (qe_var (pv 1)))) (qw_or1 (qt_not (qt_val (qe_callB (cg_all rfl) (by rfl) e.g_all (by rfl) (qe_comp (own := [("pair", 2)]) rfl sc.nd bName_ne (qi_seq (qe_var (pv 0))) (blkOk_by (own := [("pair", 2)]) (N := N_check_seen) (sc := defScope s_check_seen) (by decide +kernel)) (fun _ _ _ _ _ => qgv_name (i := 2) (by decide) sc.nd rfl (by first | exact .inl rfl | exact .inr rfl)) (fun _ _ _ _ _ => pts_yes) (fun _ _ _ _ _ => qe_and (qe_isi .tuple (by rfl) e.g_isinstance (by rfl) (by rfl) e.g_tuple (by rfl) (qe_var (pv 2))) (qe_one (qe_cmp (og_eq (hu64 hr)) (qe_callB cg_len (by rfl) e.g_len (by rfl) (qe_var (pv 2))) qe_int (by rfl))))))))))) (qss_one (qs_raise rfl tk PySem.F.excBase_ValueError e.x_InvalidSeen.1 e.x_InvalidSeen.2.1 e.x_InvalidSeen.2.2.1 (raises_own e.x_InvalidSeen.2.2.2.1 e.x_InvalidSeen.2.2.2.2) (by rfl))) qss_nil) (qss_one (qs_if (qt_not (qt_val (qe_callB (cg_all rfl) (by rfl) e.g_all (by rfl) (qe_comp (own := [("pair", 2)]) rfl sc.nd bName_ne (qi_seq (qe_var (pv 0))) (blkOk_by (own := [("pair", 2)]) (N := N_check_seen) (sc := defScope s_check_seen) (by decide +kernel)) (fun _ _ _ _ _ => qgv_name (i := 2) (by decide) sc.nd rfl (by first | exact .inl rfl | exact .inr rfl)) (fun _ _ _ _ _ => pts_yes) (fun _ _ _ _ _ => qe_and (qe_call ((c_is_between (P := P) (w := w) (base := base) e).mono (by omega)) hr (by rfl) px_blk (qa_cons (qe_ix (hu_of hr) (qe_var (pv 2)) qe_int (fun _ _ => by rfl)) (qa_cons (qe_un og_neg (qe_glob (by rfl) e.i_MAX_PRICE)) (qa_cons (qe_glob (by rfl) e.i_MAX_PRICE) qa_nil))) rfl) (qe_one (qe_isi .bool (by rfl) e.g_isinstance (by rfl) (by rfl) e.g_bool (by rfl) (qe_ix (hu_of hr) (qe_var (pv 2)) qe_int (fun _ _ => by rfl))))))))) (qss_one (qs_raise rfl tk PySem.F.excBase_ValueError e.x_InvalidSeen.1 e.x_InvalidSeen.2.1 e.x_InvalidSeen.2.2.1 (raises_own e.x_InvalidSeen.2.2.2.1 e.x_InvalidSeen.2.2.2.2) (by rfl))) qss_nil)))
theorem c_check_seen (e : Ev K mg) : CallQ P w K mg base "check_seen" 2 1 [] f_check_seen := by
  obtain ⟨fd, F⟩ := e.d_check_seen
  exact callQ_of F e.m_check_seen (w_check_seen e F) (F.bindsN (ps := ["seen"]) fun _ _ _ _ _ _ us hl => match us, hl with | [_], _ => rfl)
theorem sc_agrees : FnScope N_agrees ["sums", "total", "seen"] (defScope s_agrees) := ⟨rfl, rfl, rfl, by decide +kernel, rfl, by decide +kernel, by decide +kernel⟩
theorem w_agrees (e : Ev K mg) {fd : FuncData} (F : FunD K "agrees" "agrees" (defArgs s_agrees) (defBody s_agrees) (defScope s_agrees) [] [] (He.ga K "agrees") fd) : FnQ P w K mg base 1 (He.ga K "agrees") fd ["sums", "total", "seen"] f_agrees :=
  fnQ_of F sc_agrees (by decide) fun θ cdv A outer s H E hr tk px po => have sc := sc_agrees; qss_one (qs_ret (qe_callB (cg_all rfl) (by rfl) e.g_all (by rfl) (qe_comp (own := [("price", 3), ("could", 4)]) rfl sc.nd (bTup_ne (by simp; exact ⟨bName_ne, bName_ne⟩)) (qi_seq (qe_var (pv 2))) (blkOk_by (own := [("price", 3), ("could", 4)]) (N := N_agrees) (sc := defScope s_agrees) (by decide +kernel)) (fun _ _ _ _ _ => qgv_tup rfl (qgsv_cons (qgv_name (i := 3) (by decide) sc.nd rfl (by first | exact .inl rfl | exact .inr rfl)) (qgsv_cons (qgv_name (i := 4) (by decide) sc.nd rfl (by first | exact .inl rfl | exact .inr rfl)) qgsv_nil))) (fun _ _ _ _ _ => pts_yes) (fun _ _ _ _ _ => qe_cmp (og_eq (hu64 hr)) (qe_cmp (og_in (hu64 hr)) (qe_bin og_add (qe_var (pv 3)) (qe_var (pv 1))) (qe_var (pv 0)) (by rfl)) (qe_var (pv 4)) (by rfl)))))
theorem c_agrees (e : Ev K mg) : CallQ P w K mg base "agrees" 1 3 [] f_agrees := by
  obtain ⟨fd, F⟩ := e.d_agrees
  exact callQ_of F e.m_agrees (w_agrees e F) (F.bindsN (ps := ["sums", "total", "seen"]) fun _ _ _ _ _ _ us hl => match us, hl with | [_, _, _], _ => rfl)
theorem sc_possible_totals : FnScope N_possible_totals ["coins", "seen"] (defScope s_possible_totals) := ⟨rfl, rfl, rfl, by decide +kernel, rfl, by decide +kernel, by decide +kernel⟩
theorem w_possible_totals (e : Ev K mg) {fd : FuncData} (F : FunD K "possible_totals" "possible_totals" (defArgs s_possible_totals) (defBody s_possible_totals) (defScope s_possible_totals) [] [] (He.ga K "possible_totals") fd) : FnQ P w K mg base 4 (He.ga K "possible_totals") fd ["coins", "seen"] f_possible_totals :=
  fnQ_of F sc_possible_totals (by decide) fun θ cdv A outer s H E hr tk px po => have sc := sc_possible_totals; qss_cons (qs_expr (qe_call ((c_check_coins (P := P) (w := w) (base := base) e).mono (by omega)) hr (by rfl) px (qa_cons (qe_var (pv 0)) qa_nil) rfl)) (qss_cons (qs_expr (qe_call ((c_check_seen (P := P) (w := w) (base := base) e).mono (by omega)) hr (by rfl) px (qa_cons (qe_var (pv 1)) qa_nil) rfl)) (qss_cons (qs_setN (i := 2) (fun te h => ps_set sc.nd rfl (by first | exact .inl rfl | exact .inr rfl) h) (qe_call ((c_counts_for (P := P) (w := w) (base := base) e).mono (by omega)) hr (by rfl) px (qa_cons (qe_var (pv 0)) qa_nil) rfl)) (qss_one (qs_ret (qe_comp (own := [("total", 3)]) rfl sc.nd bName_ne (qi_seq (qe_callB (cg_sorted hr) (by rfl) e.g_sorted (by rfl) (qe_var (pv 2)))) (blkOk_by (own := [("total", 3)]) (N := N_possible_totals) (sc := defScope s_possible_totals) (by decide +kernel)) (fun _ _ _ _ _ => qgv_name (i := 3) (by decide) sc.nd rfl (by first | exact .inl rfl | exact .inr rfl)) (fun _ _ _ _ _ => pts_if (qt_val (qe_call ((c_agrees (P := P) (w := w) (base := base) e).mono (by omega)) hr (by rfl) px_blk (qa_cons (qe_var (pv 2)) (qa_cons (qe_var (pv 3)) (qa_cons (qe_var (pv 1)) qa_nil))) rfl))) (fun _ _ _ _ _ => qe_var (pv 3)))))))
theorem c_possible_totals (e : Ev K mg) : CallQ P w K mg base "possible_totals" 4 2 [] f_possible_totals := by
  obtain ⟨fd, F⟩ := e.d_possible_totals
  exact callQ_of F e.m_possible_totals (w_possible_totals e F) (F.bindsN (ps := ["coins", "seen"]) fun _ _ _ _ _ _ us hl => match us, hl with | [_, _], _ => rfl)
theorem sc__law_source : FnScope N__law_source ["cell", "turn"] (defScope s__law_source) := ⟨rfl, rfl, rfl, by decide +kernel, rfl, by decide +kernel, by decide +kernel⟩
theorem w__law_source (e : Ev K mg) {fd : FuncData} (F : FunD K "_law_source" "_law_source" (defArgs s__law_source) (defBody s__law_source) (defScope s__law_source) [] [] (He.ga K "_law_source") fd) : FnQ P w K mg base 1 (He.ga K "_law_source") fd ["cell", "turn"] f__law_source :=
  fnQ_of F sc__law_source (by decide) fun θ cdv A outer s H E hr tk px po => have sc := sc__law_source; qss_cons (qs_if (qt_cmp og_ge (qe_var (pv 0)) (qe_bin og_pow qe_int qe_int) (by rfl)) (qss_one (qs_ret (qe_lst (qa_cons (qe_bin og_sub (qe_var (pv 0)) (qe_bin og_pow qe_int qe_int)) (qa_cons (qe_bin og_mod (qe_var (pv 0)) qe_int) (qa_cons (qe_var (pv 1)) qa_nil)))))) qss_nil) (qss_one (qs_ret (qe_lst (qa_cons qe_int (qa_cons (qe_bin og_mod (qe_var (pv 0)) qe_int) (qa_cons (qe_var (pv 1)) qa_nil))))))
theorem c__law_source (e : Ev K mg) : CallQ P w K mg base "_law_source" 1 2 [] f__law_source := by
  obtain ⟨fd, F⟩ := e.d__law_source
  exact callQ_of F e.m__law_source (w__law_source e F) (F.bindsN (ps := ["cell", "turn"]) fun _ _ _ _ _ _ us hl => match us, hl with | [_, _], _ => rfl)
theorem sc__law_draw : FnScope N__law_draw ["source", "size"] (defScope s__law_draw) := ⟨rfl, rfl, rfl, by decide +kernel, rfl, by decide +kernel, by decide +kernel⟩
theorem w__law_draw (e : Ev K mg) {fd : FuncData} (F : FunD K "_law_draw" "_law_draw" (defArgs s__law_draw) (defBody s__law_draw) (defScope s__law_draw) [] [] (He.ga K "_law_draw") fd) : FnQ P w K mg base 1 (He.ga K "_law_draw") fd ["source", "size"] f__law_draw :=
  fnQ_of F sc__law_draw (by decide) fun θ cdv A outer s H E hr tk px po => have sc := sc__law_draw; qss_cons (qs_if (qt_cmp og_gt (qe_ix (hu_of hr) (qe_bor (pv 0)) qe_int (fun _ _ => by rfl)) qe_int (by rfl)) (qss_cons (qs_setN (i := 2) (fun te h => ps_set sc.nd rfl (by first | exact .inl rfl | exact .inr rfl) h) (qe_bin og_mod (qe_ix (hu_of hr) (qe_bor (pv 0)) qe_int (fun _ _ => by rfl)) (qe_var (pv 1)))) (qss_cons (qs_put (hu_of hr) (pv 0) qe_int (qe_bin og_fdiv (qe_ix (hu_of hr) (qe_bor (pv 0)) qe_int (fun _ _ => by rfl)) (qe_var (pv 1)))) (qss_one (qs_ret (qe_var (pv 2)))))) qss_nil) (qss_cons (qs_put (hu_of hr) (pv 0) qe_int (qe_bin og_add (qe_ix (hu_of hr) (qe_bor (pv 0)) qe_int (fun _ _ => by rfl)) qe_int)) (qss_cons (qs_setN (i := 3) (fun te h => ps_set sc.nd rfl (by first | exact .inl rfl | exact .inr rfl) h) (qe_bin og_mod (qe_bin og_pow (qe_bin og_add (qe_ix (hu_of hr) (qe_bor (pv 0)) qe_int (fun _ _ => by rfl)) (qe_bin og_mulI qe_int (qe_ix (hu_of hr) (qe_bor (pv 0)) qe_int (fun _ _ => by rfl)))) qe_int) qe_int)) (qss_cons (qs_setN (i := 2) (fun te h => ps_set sc.nd rfl (by first | exact .inl rfl | exact .inr rfl) h) (qe_bin og_fdiv (qe_bin og_mod (qe_bin og_pow (qe_bin og_add (qe_var (pv 3)) (qe_bin og_mulI qe_int (qe_ix (hu_of hr) (qe_bor (pv 0)) qe_int (fun _ _ => by rfl)))) qe_int) qe_int) qe_int)) (qss_one (qs_ret (qe_bin og_mod (qe_var (pv 2)) (qe_var (pv 1))))))))
theorem c__law_draw (e : Ev K mg) : CallQ P w K mg base "_law_draw" 1 2 [] f__law_draw := by
  obtain ⟨fd, F⟩ := e.d__law_draw
  exact callQ_of F e.m__law_draw (w__law_draw e F) (F.bindsN (ps := ["source", "size"]) fun _ _ _ _ _ _ us hl => match us, hl with | [_, _], _ => rfl)
theorem sc__law_choice : FnScope N__law_choice ["source", "items"] (defScope s__law_choice) := ⟨rfl, rfl, rfl, by decide +kernel, rfl, by decide +kernel, by decide +kernel⟩
theorem w__law_choice (e : Ev K mg) {fd : FuncData} (F : FunD K "_law_choice" "_law_choice" (defArgs s__law_choice) (defBody s__law_choice) (defScope s__law_choice) [] [] (He.ga K "_law_choice") fd) : FnQ P w K mg base 2 (He.ga K "_law_choice") fd ["source", "items"] f__law_choice :=
  fnQ_of F sc__law_choice (by decide) fun θ cdv A outer s H E hr tk px po => have sc := sc__law_choice; qss_one (qs_ret (qe_ix (hu_of hr) (qe_var (pv 1)) (qe_callS ((c__law_draw (P := P) (w := w) (base := base) e).mono (by omega)) hr (by rfl) px (pv 0) (qa_cons (qe_callB cg_len (by rfl) e.g_len (by rfl) (qe_var (pv 1))) qa_nil) rfl) (fun _ _ => by rfl)))
theorem c__law_choice (e : Ev K mg) : CallQ P w K mg base "_law_choice" 2 2 [] f__law_choice := by
  obtain ⟨fd, F⟩ := e.d__law_choice
  exact callQ_of F e.m__law_choice (w__law_choice e F) (F.bindsN (ps := ["source", "items"]) fun _ _ _ _ _ _ us hl => match us, hl with | [_, _], _ => rfl)
theorem sc__law_kind : FnScope N__law_kind ["value"] (defScope s__law_kind) := ⟨rfl, rfl, rfl, by decide +kernel, rfl, by decide +kernel, by decide +kernel⟩
theorem w__law_kind (e : Ev K mg) {fd : FuncData} (F : FunD K "_law_kind" "_law_kind" (defArgs s__law_kind) (defBody s__law_kind) (defScope s__law_kind) [] [] (He.ga K "_law_kind") fd) : FnQ P w K mg base 1 (He.ga K "_law_kind") fd ["value"] f__law_kind :=
  fnQ_of F sc__law_kind (by decide) fun θ cdv A outer s H E hr tk px po => have sc := sc__law_kind; qss_cons (qs_if (qt_val (qe_isi .bool (by rfl) e.g_isinstance (by rfl) (by rfl) e.g_bool (by rfl) (qe_var (pv 0)))) (qss_one (qs_ret qe_int)) qss_nil) (qss_cons (qs_if (qt_val (qe_isi .int (by rfl) e.g_isinstance (by rfl) (by rfl) e.g_int (by rfl) (qe_var (pv 0)))) (qss_one (qs_ret qe_int)) qss_nil) (qss_cons (qs_if (qt_val (qe_isi .str (by rfl) e.g_isinstance (by rfl) (by rfl) e.g_str (by rfl) (qe_var (pv 0)))) (qss_one (qs_ret qe_int)) qss_nil) (qss_cons (qs_if (qt_val (qe_isi .list (by rfl) e.g_isinstance (by rfl) (by rfl) e.g_list (by rfl) (qe_var (pv 0)))) (qss_one (qs_ret qe_int)) qss_nil) (qss_one (qs_ret (qe_if (qt_val (qe_isi .tuple (by rfl) e.g_isinstance (by rfl) (by rfl) e.g_tuple (by rfl) (qe_var (pv 0)))) qe_int qe_int))))))
theorem c__law_kind (e : Ev K mg) : CallQ P w K mg base "_law_kind" 1 1 [] f__law_kind := by
  obtain ⟨fd, F⟩ := e.d__law_kind
  exact callQ_of F e.m__law_kind (w__law_kind e F) (F.bindsN (ps := ["value"]) fun _ _ _ _ _ _ us hl => match us, hl with | [_], _ => rfl)
theorem sc__law_equal : FnScope N__law_equal ["value", "expected"] (defScope s__law_equal) := ⟨rfl, rfl, rfl, by decide +kernel, rfl, by decide +kernel, by decide +kernel⟩
theorem c__law_equal (e : Ev K mg) : ∀ n, CallQ P w K mg base "_law_equal" (1 + n) 2 [] (f__law_equal n)
  | 0 => by
    obtain ⟨fd, F⟩ := e.d__law_equal
    exact callQ_bad F e.m__law_equal (F.bindsN (ps := ["value", "expected"]) fun _ _ _ _ _ _ us hl => match us, hl with | [_, _], _ => rfl)
  | n + 1 => by
    have R : CallQ P w K mg base "_law_equal" (1 + n) 2 [] (f__law_equal n) := c__law_equal e n
    obtain ⟨fd, F⟩ := e.d__law_equal
    refine callQ_of (k := 1 + n + 1) F e.m__law_equal ?_ (F.bindsN (ps := ["value", "expected"]) fun _ _ _ _ _ _ us hl => match us, hl with | [_, _], _ => rfl)
    exact fnQ_of F sc__law_equal (by decide) fun θ cdv A outer s H E hr tk px po => have sc := sc__law_equal; qss_cons (qs_if (qt_cmp (og_ne (hu64 hr)) (qe_call ((c__law_kind (P := P) (w := w) (base := base) e).mono (by omega)) hr (by rfl) px (qa_cons (qe_var (pv 0)) qa_nil) rfl) (qe_call ((c__law_kind (P := P) (w := w) (base := base) e).mono (by omega)) hr (by rfl) px (qa_cons (qe_var (pv 1)) qa_nil) rfl) (by rfl)) (qss_one (qs_ret qe_bl)) qss_nil) (qss_cons (qs_if (QW.qt (qw_and (qt_cmp og_gt (qe_call ((c__law_kind (P := P) (w := w) (base := base) e).mono (by omega)) hr (by rfl) px (qa_cons (qe_var (pv 0)) qa_nil) rfl) qe_int (by rfl)) (qw_and1 (qt_cmp og_lt (qe_call ((c__law_kind (P := P) (w := w) (base := base) e).mono (by omega)) hr (by rfl) px (qa_cons (qe_var (pv 0)) qa_nil) rfl) qe_int (by rfl))))) (qss_cons (qs_if (qt_cmp (og_ne (hu64 hr)) (qe_callB cg_len (by rfl) e.g_len (by rfl) (qe_var (pv 0))) (qe_callB cg_len (by rfl) e.g_len (by rfl) (qe_var (pv 1))) (by rfl)) (qss_one (qs_ret qe_bl)) qss_nil) (qss_one (qs_ret (qe_cmp (og_eq (hu64 hr)) (qe_comp (own := [("k", 2), ("piece", 3)]) rfl sc.nd (bTup_ne (by simp; exact ⟨bName_ne, bName_ne⟩)) (qi_enumA (by rfl) e.g_enumerate (qa_cons (qe_var (pv 0)) qa_nil)) (blkOk_by (own := [("k", 2), ("piece", 3)]) (N := N__law_equal) (sc := defScope s__law_equal) (by decide +kernel)) (fun _ _ _ _ _ => qgv_tup rfl (qgsv_cons (qgv_name (i := 2) (by decide) sc.nd rfl (by first | exact .inl rfl | exact .inr rfl)) (qgsv_cons (qgv_name (i := 3) (by decide) sc.nd rfl (by first | exact .inl rfl | exact .inr rfl)) qgsv_nil))) (fun _ _ _ _ _ => pts_if (qt_not (qt_val (qe_call R hr (by rfl) px_blk (qa_cons (qe_var (pv 3)) (qa_cons (qe_ix (hu_of hr) (qe_var (pv 1)) (qe_var (pv 2)) (fun _ _ => by rfl)) qa_nil)) rfl)))) (fun _ _ _ _ _ => qe_var (pv 2))) (qe_lst qa_nil) (by rfl))))) qss_nil) (qss_one (qs_ret (qe_cmp (og_eq (hu64 hr)) (qe_var (pv 0)) (qe_var (pv 1)) (by rfl)))))
theorem sc__law_coins : FnScope N__law_coins ["source", "most"] (defScope s__law_coins) := ⟨rfl, rfl, rfl, by decide +kernel, rfl, by decide +kernel, by decide +kernel⟩
theorem w__law_coins (e : Ev K mg) {fd : FuncData} (F : FunD K "_law_coins" "_law_coins" (defArgs s__law_coins) (defBody s__law_coins) (defScope s__law_coins) [] [] (He.ga K "_law_coins") fd) : FnQ P w K mg base 3 (He.ga K "_law_coins") fd ["source", "most"] f__law_coins :=
  fnQ_of F sc__law_coins (by decide) fun θ cdv A outer s H E hr tk px po => have sc := sc__law_coins; qss_cons (qs_par2 (i := 2) (j := 3) rfl sc.nd rfl rfl (by decide) rfl rfl (qar_cons (qe_bin og_add qe_int (qe_callS ((c__law_draw (P := P) (w := w) (base := base) e).mono (by omega)) hr (by rfl) px (pv 0) (qa_cons (qe_var (pv 1)) qa_nil) rfl)) (qar_cons (qe_callS ((c__law_draw (P := P) (w := w) (base := base) e).mono (by omega)) hr (by rfl) px (pv 0) (qa_cons qe_int qa_nil) rfl) qar_nil)) (swap2 (by rfl) (by rfl) (by rfl) (by rfl) (by rfl) (by rfl) (by rfl) (by rfl))) (qss_cons (qs_par3 (i := 4) (j := 5) (k := 6) rfl sc.nd rfl rfl rfl (by decide) (by decide) (by decide) rfl rfl rfl (qar_cons (qe_lst (qa_cons qe_int (qa_cons qe_int (qa_cons qe_int (qa_cons qe_int (qa_cons qe_int (qa_cons qe_int (qa_cons qe_int (qa_cons qe_int qa_nil))))))))) (qar_cons (qe_lst qa_nil) (qar_cons (qe_bin og_add qe_int (qe_callS ((c__law_draw (P := P) (w := w) (base := base) e).mono (by omega)) hr (by rfl) px (pv 0) (qa_cons qe_int qa_nil) rfl)) qar_nil))) (swap3 (by rfl) (by rfl) (by rfl) (by rfl) (by rfl) (by rfl) (by rfl) (by rfl) (by rfl) (by rfl))) (qss_cons (qs_for po rfl bName_ne (qi_range1 (by rfl) e.g_range (qe_var (pv 2))) (qg_name (i := 7) sc.nd rfl (by first | exact .inl rfl | exact .inr rfl)) (qss_one (qs_if (qt_cmp (og_eq (hu64 hr)) (qe_var (pv 3)) qe_int (by rfl)) (qss_one (qe_append (pv 5) (qe_bin og_add qe_int (qe_callS ((c__law_draw (P := P) (w := w) (base := base) e).mono (by omega)) hr (by rfl) px (pv 0) (qa_cons qe_int qa_nil) rfl)))) (qss_one (qs_if (qt_cmp (og_eq (hu64 hr)) (qe_var (pv 3)) qe_int (by rfl)) (qss_one (qe_append (pv 5) (qe_callS ((c__law_choice (P := P) (w := w) (base := base) e).mono (by omega)) hr (by rfl) px (pv 0) (qa_cons (qe_lst (qa_cons (qe_var (pv 6)) (qa_cons (qe_var (pv 6)) (qa_cons qe_int qa_nil)))) qa_nil) rfl))) (qss_one (qs_if (qt_cmp (og_eq (hu64 hr)) (qe_var (pv 3)) qe_int (by rfl)) (qss_one (qe_append (pv 5) (qe_callS ((c__law_choice (P := P) (w := w) (base := base) e).mono (by omega)) hr (by rfl) px (pv 0) (qa_cons (qe_var (pv 4)) qa_nil) rfl))) (qss_one (qs_if (qt_cmp (og_eq (hu64 hr)) (qe_var (pv 3)) qe_int (by rfl)) (qss_cons (qe_append (pv 5) (qe_callB2 (cg_min2 rfl) (by rfl) e.g_min (by rfl) qe_int (qe_var (pv 6)))) (qss_one (qs_setN (i := 6) (fun te h => ps_set sc.nd rfl (by first | exact .inl rfl | exact .inr rfl) h) (qe_bin og_mulI qe_int (qe_var (pv 6)))))) (qss_one (qe_append (pv 5) (qe_bin og_add qe_int (qe_callS ((c__law_draw (P := P) (w := w) (base := base) e).mono (by omega)) hr (by rfl) px (pv 0) (qa_cons qe_int qa_nil) rfl))))))))))))) (qss_one (qs_ret (qe_callTy cg_tuple (by rfl) e.g_tuple (by rfl) (qe_bor (pv 5)))))))
theorem c__law_coins (e : Ev K mg) : CallQ P w K mg base "_law_coins" 3 2 [] f__law_coins := by
  obtain ⟨fd, F⟩ := e.d__law_coins
  exact callQ_of F e.m__law_coins (w__law_coins e F) (F.bindsN (ps := ["source", "most"]) fun _ _ _ _ _ _ us hl => match us, hl with | [_, _], _ => rfl)
theorem sc__law_some : FnScope N__law_some ["source", "items"] (defScope s__law_some) := ⟨rfl, rfl, rfl, by decide +kernel, rfl, by decide +kernel, by decide +kernel⟩
theorem w__law_some (e : Ev K mg) {fd : FuncData} (F : FunD K "_law_some" "_law_some" (defArgs s__law_some) (defBody s__law_some) (defScope s__law_some) [] [] (He.ga K "_law_some") fd) : FnQ P w K mg base 2 (He.ga K "_law_some") fd ["source", "items"] f__law_some :=
  fnQ_of F sc__law_some (by decide) fun θ cdv A outer s H E hr tk px po => have sc := sc__law_some; qss_one (qs_ret (qe_callTy cg_tuple (by rfl) e.g_tuple (by rfl) (qe_comp (own := [("item", 2)]) rfl sc.nd bName_ne (qi_seq (qe_var (pv 1))) (blkOk_by (own := [("item", 2)]) (N := N__law_some) (sc := defScope s__law_some) (by decide +kernel)) (fun _ _ _ _ _ => qgv_name (i := 2) (by decide) sc.nd rfl (by first | exact .inl rfl | exact .inr rfl)) (fun _ _ _ _ _ => pts_if (qt_cmp (og_eq (hu64 hr)) (qe_callS ((c__law_draw (P := P) (w := w) (base := base) e).mono (by omega)) hr (by rfl) px_blk (pv 0) (qa_cons qe_int qa_nil) rfl) qe_int (by rfl))) (fun _ _ _ _ _ => qe_var (pv 2)))))
theorem c__law_some (e : Ev K mg) : CallQ P w K mg base "_law_some" 2 2 [] f__law_some := by
  obtain ⟨fd, F⟩ := e.d__law_some
  exact callQ_of F e.m__law_some (w__law_some e F) (F.bindsN (ps := ["source", "items"]) fun _ _ _ _ _ _ us hl => match us, hl with | [_, _], _ => rfl)
theorem sc__law_state : FnScope N__law_state ["source", "most"] (defScope s__law_state) := ⟨rfl, rfl, rfl, by decide +kernel, rfl, by decide +kernel, by decide +kernel⟩
theorem w__law_state (e : Ev K mg) {fd : FuncData} (F : FunD K "_law_state" "_law_state" (defArgs s__law_state) (defBody s__law_state) (defScope s__law_state) [] [] (He.ga K "_law_state") fd) : FnQ P w K mg base 4 (He.ga K "_law_state") fd ["source", "most"] f__law_state :=
  fnQ_of F sc__law_state (by decide) fun θ cdv A outer s H E hr tk px po => have sc := sc__law_state; qss_cons (qs_setN (i := 2) (fun te h => ps_set sc.nd rfl (by first | exact .inl rfl | exact .inr rfl) h) (qe_callS ((c__law_coins (P := P) (w := w) (base := base) e).mono (by omega)) hr (by rfl) px (pv 0) (qa_cons (qe_var (pv 1)) qa_nil) rfl)) (qss_one (qs_ret (qe_tup (qa_cons (qe_var (pv 2)) (qa_cons (qe_callS ((c__law_some (P := P) (w := w) (base := base) e).mono (by omega)) hr (by rfl) px (pv 0) (qa_cons (qe_listRg1 rfl (by rfl) e.g_list (by rfl) e.g_range (qe_callB cg_len (by rfl) e.g_len (by rfl) (qe_var (pv 2)))) qa_nil) rfl) qa_nil)))))
theorem c__law_state (e : Ev K mg) : CallQ P w K mg base "_law_state" 4 2 [] f__law_state := by
  obtain ⟨fd, F⟩ := e.d__law_state
  exact callQ_of F e.m__law_state (w__law_state e F) (F.bindsN (ps := ["source", "most"]) fun _ _ _ _ _ _ us hl => match us, hl with | [_, _], _ => rfl)
theorem sc__law_worth : FnScope N__law_worth ["coins", "chosen"] (defScope s__law_worth) := ⟨rfl, rfl, rfl, by decide +kernel, rfl, by decide +kernel, by decide +kernel⟩
theorem w__law_worth (e : Ev K mg) {fd : FuncData} (F : FunD K "_law_worth" "_law_worth" (defArgs s__law_worth) (defBody s__law_worth) (defScope s__law_worth) [] [] (He.ga K "_law_worth") fd) : FnQ P w K mg base 1 (He.ga K "_law_worth") fd ["coins", "chosen"] f__law_worth :=
  fnQ_of F sc__law_worth (by decide) fun θ cdv A outer s H E hr tk px po => have sc := sc__law_worth; qss_one (qs_ret (qe_callB (cg_sum rfl hr) (by rfl) e.g_sum (by rfl) (qe_comp (own := [("index", 2)]) rfl sc.nd bName_ne (qi_seq (qe_var (pv 1))) (blkOk_by (own := [("index", 2)]) (N := N__law_worth) (sc := defScope s__law_worth) (by decide +kernel)) (fun _ _ _ _ _ => qgv_name (i := 2) (by decide) sc.nd rfl (by first | exact .inl rfl | exact .inr rfl)) (fun _ _ _ _ _ => pts_yes) (fun _ _ _ _ _ => qe_ix (hu_of hr) (qe_var (pv 0)) (qe_var (pv 2)) (fun _ _ => by rfl)))))
theorem c__law_worth (e : Ev K mg) : CallQ P w K mg base "_law_worth" 1 2 [] f__law_worth := by
  obtain ⟨fd, F⟩ := e.d__law_worth
  exact callQ_of F e.m__law_worth (w__law_worth e F) (F.bindsN (ps := ["coins", "chosen"]) fun _ _ _ _ _ _ us hl => match us, hl with | [_, _], _ => rfl)
theorem sc__law_others : FnScope N__law_others ["state"] (defScope s__law_others) := ⟨rfl, rfl, rfl, by decide +kernel, rfl, by decide +kernel, by decide +kernel⟩
theorem w__law_others (e : Ev K mg) {fd : FuncData} (F : FunD K "_law_others" "_law_others" (defArgs s__law_others) (defBody s__law_others) (defScope s__law_others) [] [] (He.ga K "_law_others") fd) : FnQ P w K mg base 1 (He.ga K "_law_others") fd ["state"] f__law_others :=
  fnQ_of F sc__law_others (by decide) fun θ cdv A outer s H E hr tk px po => have sc := sc__law_others; qss_one (qs_ret (qe_callTy cg_tuple (by rfl) e.g_tuple (by rfl) (qe_comp (own := [("index", 1)]) rfl sc.nd bName_ne (qi_range1 (by rfl) e.g_range (qe_callB cg_len (by rfl) e.g_len (by rfl) (qe_ix (hu_of hr) (qe_var (pv 0)) qe_int (fun _ _ => by rfl)))) (blkOk_by (own := [("index", 1)]) (N := N__law_others) (sc := defScope s__law_others) (by decide +kernel)) (fun _ _ _ _ _ => qgv_name (i := 1) (by decide) sc.nd rfl (by first | exact .inl rfl | exact .inr rfl)) (fun _ _ _ _ _ => pts_if (qt_cmp (og_notIn (hu64 hr)) (qe_var (pv 1)) (qe_ix (hu_of hr) (qe_var (pv 0)) qe_int (fun _ _ => by rfl)) (by rfl))) (fun _ _ _ _ _ => qe_var (pv 1)))))
theorem c__law_others (e : Ev K mg) : CallQ P w K mg base "_law_others" 1 1 [] f__law_others := by
  obtain ⟨fd, F⟩ := e.d__law_others
  exact callQ_of F e.m__law_others (w__law_others e F) (F.bindsN (ps := ["state"]) fun _ _ _ _ _ _ us hl => match us, hl with | [_], _ => rfl)
theorem sc__law_sets : FnScope N__law_sets ["items"] (defScope s__law_sets) := ⟨rfl, rfl, rfl, by decide +kernel, rfl, by decide +kernel, by decide +kernel⟩
theorem w__law_sets (e : Ev K mg) {fd : FuncData} (F : FunD K "_law_sets" "_law_sets" (defArgs s__law_sets) (defBody s__law_sets) (defScope s__law_sets) [] [] (He.ga K "_law_sets") fd) : FnQ P w K mg base 1 (He.ga K "_law_sets") fd ["items"] f__law_sets :=
  fnQ_of F sc__law_sets (by decide) fun θ cdv A outer s H E hr tk px po => have sc := sc__law_sets; qss_cons (qs_setN (i := 1) (fun te h => ps_set sc.nd rfl (by first | exact .inl rfl | exact .inr rfl) h) (qe_lst (qa_cons (qe_tup qa_nil) qa_nil))) (qss_cons (qs_for po rfl bName_ne (qi_seq (qe_var (pv 0))) (qg_name (i := 2) sc.nd rfl (by first | exact .inl rfl | exact .inr rfl)) (qss_one (qs_setN (i := 1) (fun te h => ps_set sc.nd rfl (by first | exact .inl rfl | exact .inr rfl) h) (qe_bin og_add (qe_var (pv 1)) (qe_comp (own := [("chosen", 3)]) rfl sc.nd bName_ne (qi_seq (qe_var (pv 1))) (blkOk_by (own := [("chosen", 3)]) (N := N__law_sets) (sc := defScope s__law_sets) (by decide +kernel)) (fun _ _ _ _ _ => qgv_name (i := 3) (by decide) sc.nd rfl (by first | exact .inl rfl | exact .inr rfl)) (fun _ _ _ _ _ => pts_yes) (fun _ _ _ _ _ => qe_bin og_add (qe_var (pv 3)) (qe_tup (qa_cons (qe_var (pv 2)) qa_nil)))))))) (qss_one (qs_ret (qe_var (pv 1)))))
theorem c__law_sets (e : Ev K mg) : CallQ P w K mg base "_law_sets" 1 1 [] f__law_sets := by
  obtain ⟨fd, F⟩ := e.d__law_sets
  exact callQ_of F e.m__law_sets (w__law_sets e F) (F.bindsN (ps := ["items"]) fun _ _ _ _ _ _ us hl => match us, hl with | [_], _ => rfl)
theorem sc__law_sums : FnScope N__law_sums ["coins"] (defScope s__law_sums) := ⟨rfl, rfl, rfl, by decide +kernel, rfl, by decide +kernel, by decide +kernel⟩
theorem w__law_sums (e : Ev K mg) {fd : FuncData} (F : FunD K "_law_sums" "_law_sums" (defArgs s__law_sums) (defBody s__law_sums) (defScope s__law_sums) [] [] (He.ga K "_law_sums") fd) : FnQ P w K mg base 1 (He.ga K "_law_sums") fd ["coins"] f__law_sums :=
  fnQ_of F sc__law_sums (by decide) fun θ cdv A outer s H E hr tk px po => have sc := sc__law_sums; qss_cons (qs_setO (i := 1) (fun te h => ps_set sc.nd rfl (by first | exact .inl rfl | exact .inr rfl) h) (qe_dict1 qe_int qe_int)) (qss_cons (qs_for po rfl bName_ne (qi_seq (qe_var (pv 0))) (qg_name (i := 2) sc.nd rfl (by first | exact .inl rfl | exact .inr rfl)) (qss_cons (qs_setO (i := 3) (fun te h => ps_set sc.nd rfl (by first | exact .inl rfl | exact .inr rfl) h) qe_dictK) (qss_cons (qs_forK po rfl bName_ne (pv 1) (qg_name (i := 4) sc.nd rfl (by first | exact .inl rfl | exact .inr rfl)) (qss_cons (qs_put (hu_of hr) (pv 3) (qe_var (pv 4)) (qe_bin og_add (qe_get (hu_of hr) (qe_bor (pv 3)) (qe_var (pv 4)) qe_int ⟨by rfl, by rfl, by rfl, by rfl⟩) (qe_ix (hu_of hr) (qe_bor (pv 1)) (qe_var (pv 4)) (fun _ _ => by rfl)))) (qss_one (qs_put (hu_of hr) (pv 3) (qe_bin og_add (qe_var (pv 4)) (qe_var (pv 2))) (qe_bin og_add (qe_get (hu_of hr) (qe_bor (pv 3)) (qe_bin og_add (qe_var (pv 4)) (qe_var (pv 2))) qe_int ⟨by rfl, by rfl, by rfl, by rfl⟩) (qe_ix (hu_of hr) (qe_bor (pv 1)) (qe_var (pv 4)) (fun _ _ => by rfl))))))) (qss_one (qs_setO (i := 1) (fun te h => ps_set sc.nd rfl (by first | exact .inl rfl | exact .inr rfl) h) (qe_mv (pv 3))))))) (qss_one (qs_ret (qe_mv (pv 1)))))
theorem c__law_sums (e : Ev K mg) : CallQ P w K mg base "_law_sums" 1 1 [] f__law_sums := by
  obtain ⟨fd, F⟩ := e.d__law_sums
  exact callQ_of F e.m__law_sums (w__law_sums e F) (F.bindsN (ps := ["coins"]) fun _ _ _ _ _ _ us hl => match us, hl with | [_], _ => rfl)
theorem sc__law_random_payment : FnScope N__law_random_payment ["source", "state"] (defScope s__law_random_payment) := ⟨rfl, rfl, rfl, by decide +kernel, rfl, by decide +kernel, by decide +kernel⟩
theorem w__law_random_payment (e : Ev K mg) {fd : FuncData} (F : FunD K "_law_random_payment" "_law_random_payment" (defArgs s__law_random_payment) (defBody s__law_random_payment) (defScope s__law_random_payment) [] [] (He.ga K "_law_random_payment") fd) : FnQ P w K mg base 3 (He.ga K "_law_random_payment") fd ["source", "state"] f__law_random_payment :=
  fnQ_of F sc__law_random_payment (by decide) fun θ cdv A outer s H E hr tk px po => have sc := sc__law_random_payment; qss_one (qs_ret (qe_tup (qa_cons (qe_callS ((c__law_some (P := P) (w := w) (base := base) e).mono (by omega)) hr (by rfl) px (pv 0) (qa_cons (qe_ix (hu_of hr) (qe_var (pv 1)) qe_int (fun _ _ => by rfl)) qa_nil) rfl) (qa_cons (qe_callS ((c__law_some (P := P) (w := w) (base := base) e).mono (by omega)) hr (by rfl) px (pv 0) (qa_cons (qe_call ((c__law_others (P := P) (w := w) (base := base) e).mono (by omega)) hr (by rfl) px (qa_cons (qe_var (pv 1)) qa_nil) rfl) qa_nil) rfl) qa_nil))))
theorem c__law_random_payment (e : Ev K mg) : CallQ P w K mg base "_law_random_payment" 3 2 [] f__law_random_payment := by
  obtain ⟨fd, F⟩ := e.d__law_random_payment
  exact callQ_of F e.m__law_random_payment (w__law_random_payment e F) (F.bindsN (ps := ["source", "state"]) fun _ _ _ _ _ _ us hl => match us, hl with | [_, _], _ => rfl)
theorem sc__law_price : FnScope N__law_price ["source", "state"] (defScope s__law_price) := ⟨rfl, rfl, rfl, by decide +kernel, rfl, by decide +kernel, by decide +kernel⟩
theorem w__law_price (e : Ev K mg) {fd : FuncData} (F : FunD K "_law_price" "_law_price" (defArgs s__law_price) (defBody s__law_price) (defScope s__law_price) [] [] (He.ga K "_law_price") fd) : FnQ P w K mg base 4 (He.ga K "_law_price") fd ["source", "state"] f__law_price :=
  fnQ_of F sc__law_price (by decide) fun θ cdv A outer s H E hr tk px po => have sc := sc__law_price; qss_cons (qs_asg (bTup_ne (by simp; exact ⟨bName_ne, bName_ne⟩)) (qe_callS ((c__law_random_payment (P := P) (w := w) (base := base) e).mono (by omega)) hr (by rfl) px (pv 0) (qa_cons (qe_var (pv 1)) qa_nil) rfl) (qg_tup rfl (qgs_cons (qg_name (i := 2) sc.nd rfl (by first | exact .inl rfl | exact .inr rfl)) (qgs_cons (qg_name (i := 3) sc.nd rfl (by first | exact .inl rfl | exact .inr rfl)) qgs_nil)))) (qss_cons (qs_setN (i := 4) (fun te h => ps_set sc.nd rfl (by first | exact .inl rfl | exact .inr rfl) h) (qe_bin og_sub (qe_call ((c__law_worth (P := P) (w := w) (base := base) e).mono (by omega)) hr (by rfl) px (qa_cons (qe_ix (hu_of hr) (qe_var (pv 1)) qe_int (fun _ _ => by rfl)) (qa_cons (qe_var (pv 2)) qa_nil)) rfl) (qe_call ((c__law_worth (P := P) (w := w) (base := base) e).mono (by omega)) hr (by rfl) px (qa_cons (qe_ix (hu_of hr) (qe_var (pv 1)) qe_int (fun _ _ => by rfl)) (qa_cons (qe_var (pv 3)) qa_nil)) rfl))) (qss_cons (qs_setN (i := 4) (fun te h => ps_set sc.nd rfl (by first | exact .inl rfl | exact .inr rfl) h) (qe_bin og_add (qe_var (pv 4)) (qe_callS ((c__law_choice (P := P) (w := w) (base := base) e).mono (by omega)) hr (by rfl) px (pv 0) (qa_cons (qe_lst (qa_cons qe_int (qa_cons qe_int (qa_cons qe_int (qa_cons qe_int (qa_cons (qe_un og_neg qe_int) (qa_cons (qe_bin og_sub (qe_callS ((c__law_draw (P := P) (w := w) (base := base) e).mono (by omega)) hr (by rfl) px (pv 0) (qa_cons qe_int qa_nil) rfl) qe_int) qa_nil))))))) qa_nil) rfl))) (qss_one (qs_ret (qe_callB2 (cg_max2 rfl) (by rfl) e.g_max (by rfl) (qe_un og_neg qe_int) (qe_callB2 (cg_min2 rfl) (by rfl) e.g_min (by rfl) qe_int (qe_var (pv 4))))))))
theorem c__law_price (e : Ev K mg) : CallQ P w K mg base "_law_price" 4 2 [] f__law_price := by
  obtain ⟨fd, F⟩ := e.d__law_price
  exact callQ_of F e.m__law_price (w__law_price e F) (F.bindsN (ps := ["source", "state"]) fun _ _ _ _ _ _ us hl => match us, hl with | [_, _], _ => rfl)
theorem sc__law_seen : FnScope N__law_seen ["source", "state"] (defScope s__law_seen) := ⟨rfl, rfl, rfl, by decide +kernel, rfl, by decide +kernel, by decide +kernel⟩
theorem w__law_seen (e : Ev K mg) {fd : FuncData} (F : FunD K "_law_seen" "_law_seen" (defArgs s__law_seen) (defBody s__law_seen) (defScope s__law_seen) [] [] (He.ga K "_law_seen") fd) : FnQ P w K mg base 5 (He.ga K "_law_seen") fd ["source", "state"] f__law_seen :=
  fnQ_of F sc__law_seen (by decide) fun θ cdv A outer s H E hr tk px po => have sc := sc__law_seen; qss_cons (qs_setN (i := 2) (fun te h => ps_set sc.nd rfl (by first | exact .inl rfl | exact .inr rfl) h) (qe_call ((c__law_sums (P := P) (w := w) (base := base) e).mono (by omega)) hr (by rfl) px (qa_cons (qe_ix (hu_of hr) (qe_var (pv 1)) qe_int (fun _ _ => by rfl)) qa_nil) rfl)) (qss_cons (qs_par3 (i := 3) (j := 4) (k := 5) rfl sc.nd rfl rfl rfl (by decide) (by decide) (by decide) rfl rfl rfl (qar_cons (qe_call ((c__law_worth (P := P) (w := w) (base := base) e).mono (by omega)) hr (by rfl) px (qa_cons (qe_ix (hu_of hr) (qe_var (pv 1)) qe_int (fun _ _ => by rfl)) (qa_cons (qe_call ((c__law_others (P := P) (w := w) (base := base) e).mono (by omega)) hr (by rfl) px (qa_cons (qe_var (pv 1)) qa_nil) rfl) qa_nil)) rfl) (qar_cons (qe_tup qa_nil) (qar_cons qe_bl qar_nil))) (swap3 (by rfl) (by rfl) (by rfl) (by rfl) (by rfl) (by rfl) (by rfl) (by rfl) (by rfl) (by rfl))) (qss_cons (qs_for po rfl bName_ne (qi_range1 (by rfl) e.g_range (qe_bin og_add qe_int (qe_callS ((c__law_draw (P := P) (w := w) (base := base) e).mono (by omega)) hr (by rfl) px (pv 0) (qa_cons qe_int qa_nil) rfl))) (qg_name (i := 6) sc.nd rfl (by first | exact .inl rfl | exact .inr rfl)) (qss_cons (qs_setN (i := 7) (fun te h => ps_set sc.nd rfl (by first | exact .inl rfl | exact .inr rfl) h) (qe_callS ((c__law_price (P := P) (w := w) (base := base) e).mono (by omega)) hr (by rfl) px (pv 0) (qa_cons (qe_var (pv 1)) qa_nil) rfl)) (qss_cons (qs_setN (i := 8) (fun te h => ps_set sc.nd rfl (by first | exact .inl rfl | exact .inr rfl) h) (qe_cmp (og_in (hu64 hr)) (qe_bin og_add (qe_var (pv 7)) (qe_var (pv 3))) (qe_var (pv 2)) (by rfl))) (qss_cons (qs_if (qt_cmp (og_eq (hu64 hr)) (qe_callS ((c__law_draw (P := P) (w := w) (base := base) e).mono (by omega)) hr (by rfl) px (pv 0) (qa_cons qe_int qa_nil) rfl) qe_int (by rfl)) (qss_one (qs_par2 (i := 8) (j := 5) rfl sc.nd rfl rfl (by decide) rfl rfl (qar_cons (qe_not (qe_var (pv 8))) (qar_cons qe_bl qar_nil)) (swap2 (by rfl) (by rfl) (by rfl) (by rfl) (by rfl) (by rfl) (by rfl) (by rfl)))) qss_nil) (qss_one (qs_setN (i := 4) (fun te h => ps_set sc.nd rfl (by first | exact .inl rfl | exact .inr rfl) h) (qe_bin og_add (qe_var (pv 4)) (qe_tup (qa_cons (qe_tup (qa_cons (qe_var (pv 7)) (qa_cons (qe_var (pv 8)) qa_nil))) qa_nil))))))))) (qss_one (qs_ret (qe_tup (qa_cons (qe_var (pv 4)) (qa_cons (qe_var (pv 5)) qa_nil)))))))
theorem c__law_seen (e : Ev K mg) : CallQ P w K mg base "_law_seen" 5 2 [] f__law_seen := by
  obtain ⟨fd, F⟩ := e.d__law_seen
  exact callQ_of F e.m__law_seen (w__law_seen e F) (F.bindsN (ps := ["source", "state"]) fun _ _ _ _ _ _ us hl => match us, hl with | [_, _], _ => rfl)
theorem sc_law : FnScope N_law ["script"] (defScope s_law) := ⟨rfl, rfl, rfl, by decide +kernel, rfl, by decide +kernel, by decide +kernel⟩
theorem w_law (e : Ev K mg) {fd : FuncData} (F : FunD K "law" "law" (defArgs s_law) (defBody s_law) (defScope s_law) [] [] (He.ga K "law") fd) : FnQ P w K mg base 10 (He.ga K "law") fd ["script"] f_law :=
  fnQ_of F sc_law (by decide) fun θ cdv A outer s H E hr tk px po => have sc := sc_law; qss_cons (qs_for po rfl bName_ne (qi_seq (qe_sl (qe_bin og_add (qe_lst (qa_cons qe_int qa_nil)) (qe_var (pv 0))) qp_none (qp_some qe_int))) (qg_name (i := 1) sc.nd rfl (by first | exact .inl rfl | exact .inr rfl)) (qss_cons (qs_setO (i := 2) (fun te h => ps_set sc.nd rfl (by first | exact .inl rfl | exact .inr rfl) h) (qe_call ((c__law_source (P := P) (w := w) (base := base) e).mono (by omega)) hr (by rfl) px (qa_cons (qe_var (pv 1)) (qa_cons qe_int qa_nil)) rfl)) (qss_one (qs_for po rfl bName_ne (qi_seq (qe_tup (qa_cons qe_int (qa_cons qe_int qa_nil)))) (qg_name (i := 3) sc.nd rfl (by first | exact .inl rfl | exact .inr rfl)) (qss_cons (qs_setN (i := 4) (fun te h => ps_set sc.nd rfl (by first | exact .inl rfl | exact .inr rfl) h) (qe_callS ((c__law_state (P := P) (w := w) (base := base) e).mono (by omega)) hr (by rfl) px (pv 2) (qa_cons (qe_var (pv 3)) qa_nil) rfl)) (qss_cons (qs_setN (i := 5) (fun te h => ps_set sc.nd rfl (by first | exact .inl rfl | exact .inr rfl) h) (qe_ix (hu_of hr) (qe_var (pv 4)) qe_int (fun _ _ => by rfl))) (qss_cons (qs_asg (bTup_ne (by simp; exact ⟨bName_ne, bName_ne⟩)) (qe_callS ((c__law_seen (P := P) (w := w) (base := base) e).mono (by omega)) hr (by rfl) px (pv 2) (qa_cons (qe_var (pv 4)) qa_nil) rfl) (qg_tup rfl (qgs_cons (qg_name (i := 6) sc.nd rfl (by first | exact .inl rfl | exact .inr rfl)) (qgs_cons (qg_name (i := 7) sc.nd rfl (by first | exact .inl rfl | exact .inr rfl)) qgs_nil)))) (qss_cons (qs_setN (i := 8) (fun te h => ps_set sc.nd rfl (by first | exact .inl rfl | exact .inr rfl) h) (qe_call ((c__law_sums (P := P) (w := w) (base := base) e).mono (by omega)) hr (by rfl) px (qa_cons (qe_var (pv 5)) qa_nil) rfl)) (qss_cons (qs_setO (i := 9) (fun te h => ps_set sc.nd rfl (by first | exact .inl rfl | exact .inr rfl) h) (qe_lst qa_nil)) (qss_cons (qs_for po rfl bName_ne (qi_seq (qe_callB (cg_sorted hr) (by rfl) e.g_sorted (by rfl) (qe_var (pv 8)))) (qg_name (i := 10) sc.nd rfl (by first | exact .inl rfl | exact .inr rfl)) (qss_one (qs_if (qt_cmp (og_eq (hu64 hr)) (qe_comp (own := [("price", 15), ("could", 16)]) rfl sc.nd (bTup_ne (by simp; exact ⟨bName_ne, bName_ne⟩)) (qi_seq (qe_var (pv 6))) (blkOk_by (own := [("price", 15), ("could", 16)]) (N := N_law) (sc := defScope s_law) (by decide +kernel)) (fun _ _ _ _ _ => qgv_tup rfl (qgsv_cons (qgv_name (i := 15) (by decide) sc.nd rfl (by first | exact .inl rfl | exact .inr rfl)) (qgsv_cons (qgv_name (i := 16) (by decide) sc.nd rfl (by first | exact .inl rfl | exact .inr rfl)) qgsv_nil))) (fun _ _ _ _ _ => pts_if (qt_cmp (og_ne (hu64 hr)) (qe_cmp (og_in (hu64 hr)) (qe_bin og_add (qe_var (pv 15)) (qe_var (pv 10))) (qe_var (pv 8)) (by rfl)) (qe_var (pv 16)) (by rfl))) (fun _ _ _ _ _ => qe_int)) (qe_lst qa_nil) (by rfl)) (qss_one (qe_append (pv 9) (qe_var (pv 10)))) qss_nil))) (qss_cons (qs_setO (i := 11) (fun te h => ps_set sc.nd rfl (by first | exact .inl rfl | exact .inr rfl) h) (qe_call ((c_possible_totals (P := P) (w := w) (base := base) e).mono (by omega)) hr (by rfl) px (qa_cons (qe_var (pv 5)) (qa_cons (qe_var (pv 6)) qa_nil)) rfl)) (qss_cons (qs_if (qt_not (qt_val (qe_callL ((c__law_equal (P := P) (w := w) (base := base) e 8).mono (by omega)) hr (by rfl) px (qab_cons (qe_bor (pv 11)) (qab_cons (qe_bor (pv 9)) qab_nil)) rfl))) (qss_one (qs_ret qe_bl)) qss_nil) (qss_cons (qs_if (QW.qt (qw_and (qt_not (qt_val (qe_var (pv 7)))) (qw_and1 (qt_cmp (og_notIn (hu64 hr)) (qe_call ((c__law_worth (P := P) (w := w) (base := base) e).mono (by omega)) hr (by rfl) px (qa_cons (qe_var (pv 5)) (qa_cons (qe_call ((c__law_others (P := P) (w := w) (base := base) e).mono (by omega)) hr (by rfl) px (qa_cons (qe_var (pv 4)) qa_nil) rfl) qa_nil)) rfl) (qe_bor (pv 11)) (by rfl))))) (qss_one (qs_ret qe_bl)) qss_nil) (qss_cons (qs_if (qt_cmp og_lt (qe_callB cg_len (by rfl) e.g_len (by rfl) (qe_var (pv 5))) qe_int (by rfl)) (qss_one (qs_for po rfl bName_ne (qi_seq (qe_sl (qe_call ((c__law_sets (P := P) (w := w) (base := base) e).mono (by omega)) hr (by rfl) px (qa_cons (qe_listRg1 rfl (by rfl) e.g_list (by rfl) e.g_range (qe_callB cg_len (by rfl) e.g_len (by rfl) (qe_var (pv 5)))) qa_nil) rfl) qp_none (qp_some qe_int))) (qg_name (i := 12) sc.nd rfl (by first | exact .inl rfl | exact .inr rfl)) (qss_cons (qs_setN (i := 13) (fun te h => ps_set sc.nd rfl (by first | exact .inl rfl | exact .inr rfl) h) (qe_tup (qa_cons (qe_var (pv 5)) (qa_cons (qe_var (pv 12)) qa_nil)))) (qss_cons (qs_setN (i := 14) (fun te h => ps_set sc.nd rfl (by first | exact .inl rfl | exact .inr rfl) h) (qe_cmp (og_eq (hu64 hr)) (qe_comp (own := [("price", 15), ("could", 16)]) rfl sc.nd (bTup_ne (by simp; exact ⟨bName_ne, bName_ne⟩)) (qi_seq (qe_var (pv 6))) (blkOk_by (own := [("price", 15), ("could", 16)]) (N := N_law) (sc := defScope s_law) (by decide +kernel)) (fun _ _ _ _ _ => qgv_tup rfl (qgsv_cons (qgv_name (i := 15) (by decide) sc.nd rfl (by first | exact .inl rfl | exact .inr rfl)) (qgsv_cons (qgv_name (i := 16) (by decide) sc.nd rfl (by first | exact .inl rfl | exact .inr rfl)) qgsv_nil))) (fun _ _ _ _ _ => pts_if (qt_cmp (og_ne (hu64 hr)) (qe_call ((c_can_pay (P := P) (w := w) (base := base) e).mono (by omega)) hr (by rfl) px_blk (qa_cons (qe_var (pv 13)) (qa_cons (qe_var (pv 15)) qa_nil)) rfl) (qe_var (pv 16)) (by rfl))) (fun _ _ _ _ _ => qe_int)) (qe_lst qa_nil) (by rfl))) (qss_one (qs_if (qt_cmp (og_ne (hu64 hr)) (qe_var (pv 14)) (qe_cmp (og_in (hu64 hr)) (qe_call ((c__law_worth (P := P) (w := w) (base := base) e).mono (by omega)) hr (by rfl) px (qa_cons (qe_var (pv 5)) (qa_cons (qe_call ((c__law_others (P := P) (w := w) (base := base) e).mono (by omega)) hr (by rfl) px (qa_cons (qe_var (pv 13)) qa_nil) rfl) qa_nil)) rfl) (qe_bor (pv 11)) (by rfl)) (by rfl)) (qss_one (qs_ret qe_bl)) qss_nil)))))) qss_nil) (qss_cons (qe_append (pv 11) qe_int) (qss_one (qs_if (qt_cmp (og_ne (hu64 hr)) (qe_call ((c_possible_totals (P := P) (w := w) (base := base) e).mono (by omega)) hr (by rfl) px (qa_cons (qe_var (pv 5)) (qa_cons (qe_var (pv 6)) qa_nil)) rfl) (qe_bor (pv 9)) (by rfl)) (qss_one (qs_ret qe_bl)) qss_nil))))))))))))))))) (qss_one (qs_ret (qe_cmp (og_eq (hu64 hr)) (qe_call ((c_possible_totals (P := P) (w := w) (base := base) e).mono (by omega)) hr (by rfl) px (qa_cons (qe_tup (qa_cons qe_int qa_nil)) (qa_cons (qe_tup (qa_cons (qe_tup (qa_cons qe_int (qa_cons qe_bl qa_nil))) qa_nil)) qa_nil)) rfl) (qe_lst (qa_cons qe_int qa_nil)) (by rfl))))
theorem c_law (e : Ev K mg) : CallQ P w K mg base "law" 10 1 [] f_law := by
  obtain ⟨fd, F⟩ := e.d_law
  exact callQ_of F e.m_law (w_law e F) (F.bindsN (ps := ["script"]) fun _ _ _ _ _ _ us hl => match us, hl with | [_], _ => rfl)
end
end KK

end
section
/-! the head -/
namespace KK
open PySem PySem.Spec PyProof.Rows L2 QL
def q_is_between : He.DefD := ⟨("is_between", none), "is_between", "is_between", defArgs s_is_between, defBody s_is_between, defScope s_is_between, [], []⟩
def q_are_coins : He.DefD := ⟨("are_coins", none), "are_coins", "are_coins", defArgs s_are_coins, defBody s_are_coins, defScope s_are_coins, [.int 12], []⟩
def q_is_set : He.DefD := ⟨("is_set", none), "is_set", "is_set", defArgs s_is_set, defBody s_is_set, defScope s_is_set, [], []⟩
def q_is_state : He.DefD := ⟨("is_state", none), "is_state", "is_state", defArgs s_is_state, defBody s_is_state, defScope s_is_state, [], []⟩
def q_check_state : He.DefD := ⟨("check_state", none), "check_state", "check_state", defArgs s_check_state, defBody s_check_state, defScope s_check_state, [], []⟩
def q_check_coins : He.DefD := ⟨("check_coins", none), "check_coins", "check_coins", defArgs s_check_coins, defBody s_check_coins, defScope s_check_coins, [], []⟩
def q_worth : He.DefD := ⟨("worth", none), "worth", "worth", defArgs s_worth, defBody s_worth, defScope s_worth, [], []⟩
def q_others_of : He.DefD := ⟨("others_of", none), "others_of", "others_of", defArgs s_others_of, defBody s_others_of, defScope s_others_of, [], []⟩
def q_total_of_second : He.DefD := ⟨("total_of_second", none), "total_of_second", "total_of_second", defArgs s_total_of_second, defBody s_total_of_second, defScope s_total_of_second, [], []⟩
def q_check_price : He.DefD := ⟨("check_price", none), "check_price", "check_price", defArgs s_check_price, defBody s_check_price, defScope s_check_price, [], []⟩
def q_counts_for : He.DefD := ⟨("counts_for", none), "counts_for", "counts_for", defArgs s_counts_for, defBody s_counts_for, defScope s_counts_for, [], []⟩
def q_ways_to : He.DefD := ⟨("ways_to", none), "ways_to", "ways_to", defArgs s_ways_to, defBody s_ways_to, defScope s_ways_to, [], []⟩
def q_can_pay : He.DefD := ⟨("can_pay", none), "can_pay", "can_pay", defArgs s_can_pay, defBody s_can_pay, defScope s_can_pay, [], []⟩
def q_check_seen : He.DefD := ⟨("check_seen", none), "check_seen", "check_seen", defArgs s_check_seen, defBody s_check_seen, defScope s_check_seen, [], []⟩
def q_agrees : He.DefD := ⟨("agrees", none), "agrees", "agrees", defArgs s_agrees, defBody s_agrees, defScope s_agrees, [], []⟩
def q_possible_totals : He.DefD := ⟨("possible_totals", none), "possible_totals", "possible_totals", defArgs s_possible_totals, defBody s_possible_totals, defScope s_possible_totals, [], []⟩
def q__law_source : He.DefD := ⟨("_law_source", none), "_law_source", "_law_source", defArgs s__law_source, defBody s__law_source, defScope s__law_source, [], []⟩
def q__law_draw : He.DefD := ⟨("_law_draw", none), "_law_draw", "_law_draw", defArgs s__law_draw, defBody s__law_draw, defScope s__law_draw, [], []⟩
def q__law_choice : He.DefD := ⟨("_law_choice", none), "_law_choice", "_law_choice", defArgs s__law_choice, defBody s__law_choice, defScope s__law_choice, [], []⟩
def q__law_kind : He.DefD := ⟨("_law_kind", none), "_law_kind", "_law_kind", defArgs s__law_kind, defBody s__law_kind, defScope s__law_kind, [], []⟩
def q__law_equal : He.DefD := ⟨("_law_equal", none), "_law_equal", "_law_equal", defArgs s__law_equal, defBody s__law_equal, defScope s__law_equal, [], []⟩
def q__law_coins : He.DefD := ⟨("_law_coins", none), "_law_coins", "_law_coins", defArgs s__law_coins, defBody s__law_coins, defScope s__law_coins, [], []⟩
def q__law_some : He.DefD := ⟨("_law_some", none), "_law_some", "_law_some", defArgs s__law_some, defBody s__law_some, defScope s__law_some, [], []⟩
def q__law_state : He.DefD := ⟨("_law_state", none), "_law_state", "_law_state", defArgs s__law_state, defBody s__law_state, defScope s__law_state, [], []⟩
def q__law_worth : He.DefD := ⟨("_law_worth", none), "_law_worth", "_law_worth", defArgs s__law_worth, defBody s__law_worth, defScope s__law_worth, [], []⟩
def q__law_others : He.DefD := ⟨("_law_others", none), "_law_others", "_law_others", defArgs s__law_others, defBody s__law_others, defScope s__law_others, [], []⟩
def q__law_sets : He.DefD := ⟨("_law_sets", none), "_law_sets", "_law_sets", defArgs s__law_sets, defBody s__law_sets, defScope s__law_sets, [], []⟩
def q__law_sums : He.DefD := ⟨("_law_sums", none), "_law_sums", "_law_sums", defArgs s__law_sums, defBody s__law_sums, defScope s__law_sums, [], []⟩
def q__law_random_payment : He.DefD := ⟨("_law_random_payment", none), "_law_random_payment", "_law_random_payment", defArgs s__law_random_payment, defBody s__law_random_payment, defScope s__law_random_payment, [], []⟩
def q__law_price : He.DefD := ⟨("_law_price", none), "_law_price", "_law_price", defArgs s__law_price, defBody s__law_price, defScope s__law_price, [], []⟩
def q__law_seen : He.DefD := ⟨("_law_seen", none), "_law_seen", "_law_seen", defArgs s__law_seen, defBody s__law_seen, defScope s__law_seen, [], []⟩
def q_law : He.DefD := ⟨("law", none), "law", "law", defArgs s_law, defBody s_law, defScope s_law, [], []⟩
def fn : List He.DefD := [q_is_between, q_are_coins, q_is_set, q_is_state, q_check_state, q_check_coins, q_worth, q_others_of, q_total_of_second, q_check_price, q_counts_for, q_ways_to, q_can_pay, q_check_seen, q_agrees, q_possible_totals, q__law_source, q__law_draw, q__law_choice, q__law_kind, q__law_equal, q__law_coins, q__law_some, q__law_state, q__law_worth, q__law_others, q__law_sets, q__law_sums, q__law_random_payment, q__law_price, q__law_seen, q_law]
def fa : List He.Fa := [.free "all", .free "bool", .free "dict", .free "enumerate", .free "int", .free "isinstance", .free "len", .free "list", .free "max", .free "min", .free "range", .free "sorted", .free "str", .free "sum", .free "tuple", .free "zip", .int "MAX_PRICE" 12000, .int "MAX_VALUE" 1000, .exc "InvalidCoins", .glo "InvalidCoins", .exc "InvalidPrice", .glo "InvalidPrice", .exc "InvalidSeen", .glo "InvalidSeen", .exc "InvalidState", .glo "InvalidState", .glo "is_between", .glo "are_coins", .glo "is_set", .glo "is_state", .glo "check_state", .glo "check_coins", .glo "worth", .glo "others_of", .glo "total_of_second", .glo "check_price", .glo "counts_for", .glo "ways_to", .glo "can_pay", .glo "check_seen", .glo "agrees", .glo "possible_totals", .glo "_law_source", .glo "_law_draw", .glo "_law_choice", .glo "_law_kind", .glo "_law_equal", .glo "_law_coins", .glo "_law_some", .glo "_law_state", .glo "_law_worth", .glo "_law_others", .glo "_law_sets", .glo "_law_sums", .glo "_law_random_payment", .glo "_law_price", .glo "_law_seen", .glo "law"]
abbrev R0 : PySem.W.OpenRow := PySem.W.OpenLaw.row PySem.Challenge.rw_pooledcoins_k11_whole_possible_totals
abbrev hk : PySem.W.Hook := He.hookD 4 fa fn
def ob (s : PySem.W.SharedT) : He.AlD := He.obsDG 4 fa fn (HandSHeadRun.getT s)
theorem ob_eq (s : PySem.W.SharedT) : ob s = hk.obs s.abs := He.obsDG_eq (HandSHeadRun.getT_eq s)
theorem run (w : World) : HandSHeadRun.RunEq R0 (PySem.W.view R0.prog [44]) hk ob 4000 ((["CoinError", "InvalidState", "InvalidCoins", "InvalidPrice", "InvalidSeen", "MAX_COINS", "MAX_VALUE", "is_between", "are_coins", "is_set", "is_state", "check_state", "check_coins", "worth", "others_of", "total_of_second", "MAX_PRICE", "check_price", "counts_for", "ways_to", "can_pay", "check_seen", "agrees", "possible_totals", "_law_source", "_law_draw", "_law_choice", "_law_kind", "_law_equal", "_law_coins"] : List Str) ++ (["_law_some", "_law_state", "_law_worth", "_law_others", "_law_sets", "_law_sums", "_law_random_payment", "_law_price", "_law_seen"] : List Str)) w := by
  intro os
  kernel_rfl
theorem ev_of {K : PySem.W.Frag} {h : Heap} {mg : Str → Option Value} (X : K.In h) (G : h.Ns mainGlobals mg) (c : He.SaysD fa fn K) : Ev K mg where
  g_all := He.free_ok X G (c.fact 0 (f := .free "all") rfl)
  g_bool := He.free_ok X G (c.fact 1 (f := .free "bool") rfl)
  g_dict := He.free_ok X G (c.fact 2 (f := .free "dict") rfl)
  g_enumerate := He.free_ok X G (c.fact 3 (f := .free "enumerate") rfl)
  g_int := He.free_ok X G (c.fact 4 (f := .free "int") rfl)
  g_isinstance := He.free_ok X G (c.fact 5 (f := .free "isinstance") rfl)
  g_len := He.free_ok X G (c.fact 6 (f := .free "len") rfl)
  g_list := He.free_ok X G (c.fact 7 (f := .free "list") rfl)
  g_max := He.free_ok X G (c.fact 8 (f := .free "max") rfl)
  g_min := He.free_ok X G (c.fact 9 (f := .free "min") rfl)
  g_range := He.free_ok X G (c.fact 10 (f := .free "range") rfl)
  g_sorted := He.free_ok X G (c.fact 11 (f := .free "sorted") rfl)
  g_str := He.free_ok X G (c.fact 12 (f := .free "str") rfl)
  g_sum := He.free_ok X G (c.fact 13 (f := .free "sum") rfl)
  g_tuple := He.free_ok X G (c.fact 14 (f := .free "tuple") rfl)
  g_zip := He.free_ok X G (c.fact 15 (f := .free "zip") rfl)
  i_MAX_PRICE := He.int_ok X G (c.fact 16 (f := .int "MAX_PRICE" 12000) rfl)
  i_MAX_VALUE := He.int_ok X G (c.fact 17 (f := .int "MAX_VALUE" 1000) rfl)
  x_InvalidCoins := by
    obtain ⟨h1, h2, h3, h4⟩ := He.exc_ok (c.fact 18 (f := .exc "InvalidCoins") rfl)
    exact ⟨h1, He.glo_ok X G (c.fact 19 (f := .glo "InvalidCoins") rfl), h2, h3, h4⟩
  x_InvalidPrice := by
    obtain ⟨h1, h2, h3, h4⟩ := He.exc_ok (c.fact 20 (f := .exc "InvalidPrice") rfl)
    exact ⟨h1, He.glo_ok X G (c.fact 21 (f := .glo "InvalidPrice") rfl), h2, h3, h4⟩
  x_InvalidSeen := by
    obtain ⟨h1, h2, h3, h4⟩ := He.exc_ok (c.fact 22 (f := .exc "InvalidSeen") rfl)
    exact ⟨h1, He.glo_ok X G (c.fact 23 (f := .glo "InvalidSeen") rfl), h2, h3, h4⟩
  x_InvalidState := by
    obtain ⟨h1, h2, h3, h4⟩ := He.exc_ok (c.fact 24 (f := .exc "InvalidState") rfl)
    exact ⟨h1, He.glo_ok X G (c.fact 25 (f := .glo "InvalidState") rfl), h2, h3, h4⟩
  d_is_between := c.def_ 0 (d := q_is_between) rfl
  m_is_between := He.glo_ok X G (c.fact 26 (f := .glo "is_between") rfl)
  d_are_coins := c.def_ 1 (d := q_are_coins) rfl
  m_are_coins := He.glo_ok X G (c.fact 27 (f := .glo "are_coins") rfl)
  d_is_set := c.def_ 2 (d := q_is_set) rfl
  m_is_set := He.glo_ok X G (c.fact 28 (f := .glo "is_set") rfl)
  d_is_state := c.def_ 3 (d := q_is_state) rfl
  m_is_state := He.glo_ok X G (c.fact 29 (f := .glo "is_state") rfl)
  d_check_state := c.def_ 4 (d := q_check_state) rfl
  m_check_state := He.glo_ok X G (c.fact 30 (f := .glo "check_state") rfl)
  d_check_coins := c.def_ 5 (d := q_check_coins) rfl
  m_check_coins := He.glo_ok X G (c.fact 31 (f := .glo "check_coins") rfl)
  d_worth := c.def_ 6 (d := q_worth) rfl
  m_worth := He.glo_ok X G (c.fact 32 (f := .glo "worth") rfl)
  d_others_of := c.def_ 7 (d := q_others_of) rfl
  m_others_of := He.glo_ok X G (c.fact 33 (f := .glo "others_of") rfl)
  d_total_of_second := c.def_ 8 (d := q_total_of_second) rfl
  m_total_of_second := He.glo_ok X G (c.fact 34 (f := .glo "total_of_second") rfl)
  d_check_price := c.def_ 9 (d := q_check_price) rfl
  m_check_price := He.glo_ok X G (c.fact 35 (f := .glo "check_price") rfl)
  d_counts_for := c.def_ 10 (d := q_counts_for) rfl
  m_counts_for := He.glo_ok X G (c.fact 36 (f := .glo "counts_for") rfl)
  d_ways_to := c.def_ 11 (d := q_ways_to) rfl
  m_ways_to := He.glo_ok X G (c.fact 37 (f := .glo "ways_to") rfl)
  d_can_pay := c.def_ 12 (d := q_can_pay) rfl
  m_can_pay := He.glo_ok X G (c.fact 38 (f := .glo "can_pay") rfl)
  d_check_seen := c.def_ 13 (d := q_check_seen) rfl
  m_check_seen := He.glo_ok X G (c.fact 39 (f := .glo "check_seen") rfl)
  d_agrees := c.def_ 14 (d := q_agrees) rfl
  m_agrees := He.glo_ok X G (c.fact 40 (f := .glo "agrees") rfl)
  d_possible_totals := c.def_ 15 (d := q_possible_totals) rfl
  m_possible_totals := He.glo_ok X G (c.fact 41 (f := .glo "possible_totals") rfl)
  d__law_source := c.def_ 16 (d := q__law_source) rfl
  m__law_source := He.glo_ok X G (c.fact 42 (f := .glo "_law_source") rfl)
  d__law_draw := c.def_ 17 (d := q__law_draw) rfl
  m__law_draw := He.glo_ok X G (c.fact 43 (f := .glo "_law_draw") rfl)
  d__law_choice := c.def_ 18 (d := q__law_choice) rfl
  m__law_choice := He.glo_ok X G (c.fact 44 (f := .glo "_law_choice") rfl)
  d__law_kind := c.def_ 19 (d := q__law_kind) rfl
  m__law_kind := He.glo_ok X G (c.fact 45 (f := .glo "_law_kind") rfl)
  d__law_equal := c.def_ 20 (d := q__law_equal) rfl
  m__law_equal := He.glo_ok X G (c.fact 46 (f := .glo "_law_equal") rfl)
  d__law_coins := c.def_ 21 (d := q__law_coins) rfl
  m__law_coins := He.glo_ok X G (c.fact 47 (f := .glo "_law_coins") rfl)
  d__law_some := c.def_ 22 (d := q__law_some) rfl
  m__law_some := He.glo_ok X G (c.fact 48 (f := .glo "_law_some") rfl)
  d__law_state := c.def_ 23 (d := q__law_state) rfl
  m__law_state := He.glo_ok X G (c.fact 49 (f := .glo "_law_state") rfl)
  d__law_worth := c.def_ 24 (d := q__law_worth) rfl
  m__law_worth := He.glo_ok X G (c.fact 50 (f := .glo "_law_worth") rfl)
  d__law_others := c.def_ 25 (d := q__law_others) rfl
  m__law_others := He.glo_ok X G (c.fact 51 (f := .glo "_law_others") rfl)
  d__law_sets := c.def_ 26 (d := q__law_sets) rfl
  m__law_sets := He.glo_ok X G (c.fact 52 (f := .glo "_law_sets") rfl)
  d__law_sums := c.def_ 27 (d := q__law_sums) rfl
  m__law_sums := He.glo_ok X G (c.fact 53 (f := .glo "_law_sums") rfl)
  d__law_random_payment := c.def_ 28 (d := q__law_random_payment) rfl
  m__law_random_payment := He.glo_ok X G (c.fact 54 (f := .glo "_law_random_payment") rfl)
  d__law_price := c.def_ 29 (d := q__law_price) rfl
  m__law_price := He.glo_ok X G (c.fact 55 (f := .glo "_law_price") rfl)
  d__law_seen := c.def_ 30 (d := q__law_seen) rfl
  m__law_seen := He.glo_ok X G (c.fact 56 (f := .glo "_law_seen") rfl)
  d_law := c.def_ 31 (d := q_law) rfl
  m_law := He.glo_ok X G (c.fact 57 (f := .glo "law") rfl)
theorem facts {P : Program} {w : World} {K : PySem.W.Frag} {h : Heap} {mg : Str → Option Value} {f : Addr} (X : K.In h) (G : h.Ns mainGlobals mg) (hfa : mg ("law" : Str) = some (.ref f)) (c : He.SaysD fa fn K) :
    ∃ fd : FuncData, (∀ (s : Shared) (v : Value), BindsTo s fd ⟨[v], []⟩ [("script", v)]) ∧ ∀ base : Heap, K.In base → base.Ns mainGlobals mg → FnOk P w K mg base (L2.CX P w) 10 f fd ["script"] (spQ K mg 1 f_law) := by
  have e0 := ev_of X G c
  obtain ⟨fd, F⟩ := e0.d_law
  have e := hfa.symm.trans e0.m_law
  cases e
  have b := FunD.bindsA (ps := ["script"]) F fun _ _ _ _ _ _ us hl => match us, hl with | [_], _ => rfl
  exact ⟨fd, fun s v => b s [v] rfl, fun base _ _ => w_law e0 F⟩
theorem from_val (hval : ∀ ns : List Int, ns.length ≤ 63 → f_law none [.list (ns.map PyData.int)] = .ok (.val (.bool true), none)) : PySem.Challenge.rw_pooledcoins_k11_whole_possible_totals.Holds := by
  w_on; o_law
  refine HandSHeadRun.head_any (r := PySem.W.OpenLaw.row PySem.Challenge.rw_pooledcoins_k11_whole_possible_totals) (q := PySem.W.view (PySem.W.OpenLaw.row PySem.Challenge.rw_pooledcoins_k11_whole_possible_totals).prog [44]) (H := hk) (ob := ob) (M := 4000) (loose := (["CoinError", "InvalidState", "InvalidCoins", "InvalidPrice", "InvalidSeen", "MAX_COINS", "MAX_VALUE", "is_between", "are_coins", "is_set", "is_state", "check_state", "check_coins", "worth", "others_of", "total_of_second", "MAX_PRICE", "check_price", "counts_for", "ways_to", "can_pay", "check_seen", "agrees", "possible_totals", "_law_source", "_law_draw", "_law_choice", "_law_kind", "_law_equal", "_law_coins"] : List Str) ++ (["_law_some", "_law_state", "_law_worth", "_law_others", "_law_sets", "_law_sums", "_law_random_payment", "_law_price", "_law_seen"] : List Str)) (d := HandSHeadRun.topDef (PySem.W.OpenLaw.row PySem.Challenge.rw_pooledcoins_k11_whole_possible_totals).prog 44) (kwd := []) ob_eq
    (by kernel_rfl) (fun s => by kernel_rfl) run (by kernel_rfl) (by kernel_rfl) (by kernel_rfl) (by rfl) (by first | assumption | decide +kernel) (by decide +kernel) ⟨rfl, rfl, rfl, rfl, rfl, by decide +kernel⟩ ?hw ?hc
  case hw => w_witness2
  case hc =>
    refine QL.walk_ofEW (l := PySem.Challenge.rw_pooledcoins_k11_whole_possible_totals) (n := 63) (k := 10) (x := "script") rfl (by decide) (by kernel_rfl) ⟨rfl, by decide, by decide⟩ ?F
    intro w mg fa h Y G hmg0
    obtain ⟨K, KX, c⟩ := Y
    have hmg : mg ("law" : PySem.Str) = some (.ref fa) := by
      have e : (HandSHeadRun.topDef (PySem.W.OpenLaw.row PySem.Challenge.rw_pooledcoins_k11_whole_possible_totals).prog 44).name = ("law" : PySem.Str) := by kernel_rfl
      rw [← e]
      exact hmg0
    obtain ⟨fd, hb, hF⟩ := facts (P := (PySem.Challenge.rw_pooledcoins_k11_whole_possible_totals).prog) (w := w) KX G hmg c
    exact ⟨K, fd, _, KX, hb, fun H a ns hl _ hS => law_sp hval H a ns hl hS, hF⟩
end KK

end
section
/-! M1: whole numbers, states, sums, dicts of whole numbers. -/
namespace QL
open PySem
abbrev iL (ns : List Int) : List D := ns.map PyData.int
abbrev tI (ns : List Int) : D := .tuple (iL ns)
abbrev lI (ns : List Int) : D := .list (iL ns)
/-- a list or a tuple of whole numbers -/
def SeqI (d : D) (ns : List Int) : Prop := d = tI ns ∨ d = lI ns
@[simp] theorem intsD_iL : ∀ ns : List Int, intsD (iL ns) = some ns
  | [] => rfl
  | n :: ns => by simp [iL, intsD, intsD_iL ns]
@[simp] theorem intsD_map (ns : List Int) : intsD (ns.map PyData.int) = some ns := intsD_iL ns
@[simp] theorem boolsD_map : ∀ bs : List Bool, boolsD (bs.map PyData.bool) = some bs
  | [] => rfl
  | b :: bs => by simp [boolsD, boolsD_map bs]
theorem atD_iL {ns : List Int} {i : Int} (h0 : 0 ≤ i) (h1 : i < ns.length) : atD (iL ns) i = some (.int (ns.getD i.toNat 0)) := by
  unfold atD ixD
  have h2 : i.toNat < ns.length := by omega
  simp [iL, h0, h1, h2, List.getD_eq_getElem?_getD]
theorem atD_map {ns : List Int} {i : Int} (h0 : 0 ≤ i) (h1 : i < ns.length) : atD (ns.map PyData.int) i = some (.int (ns.getD i.toNat 0)) := atD_iL h0 h1
@[simp] theorem atD_0 {α : Type} (a : α) (r : List α) : atD (a :: r) 0 = some a := by
  unfold atD ixD
  simp
@[simp] theorem atD_1 {α : Type} (a b : α) (r : List α) : atD (a :: b :: r) 1 = some b := by
  unfold atD ixD
  have h : (1 : Int) < ((a :: b :: r).length : Int) := by simp only [List.length_cons]; omega
  rw [if_pos (by decide), if_pos h]; rfl
@[simp] theorem atD_2 {α : Type} (a b c : α) (r : List α) : atD (a :: b :: c :: r) 2 = some c := by
  unfold atD ixD
  have h : (2 : Int) < ((a :: b :: c :: r).length : Int) := by simp only [List.length_cons]; omega
  rw [if_pos (by decide), if_pos h]; rfl
@[simp] theorem eqv_int (i j : Int) : PyData.eqv (.int i) (.int j) = decide (i = j) := by
  show (i == j) = _
  rw [Bool.eq_iff_iff, beq_iff_eq, decide_eq_true_eq]
theorem any_eqv (ns : List Int) (k : Int) : ((iL ns).any fun x => PyData.eqv x (.int k)) = decide (k ∈ ns) := by
  induction ns with
  | nil => simp
  | cons n ns ih =>
    have h : ((iL (n :: ns)).any fun x => PyData.eqv x (.int k)) = (decide (n = k) || (iL ns).any fun x => PyData.eqv x (.int k)) := by
      show ((PyData.int n :: iL ns).any fun x => PyData.eqv x (.int k)) = _
      rw [List.any_cons, eqv_int]
    rw [h, ih, Bool.eq_iff_iff, Bool.or_eq_true, decide_eq_true_eq, decide_eq_true_eq, decide_eq_true_eq, List.mem_cons]
    exact or_congr_left eq_comm
theorem plainAll_iL : ∀ ns : List Int, PyData.plainAll (iL ns) = true
  | [] => rfl
  | n :: ns => by simp [iL, PyData.plainAll, PyData.plain]; exact plainAll_iL ns
theorem gIn_tI (k : Int) (ns : List Int) : gIn (.int k) (tI ns) = some (.val (.bool (decide (k ∈ ns)))) := by
  have h : (min (PyData.depthAll (iL ns)) (PyData.int k).depth ≤ 60) := by
    have : (PyData.int k).depth ≤ 60 := by simp [PyData.depth]
    omega
  have hp : (PyData.int k).plain = true := by simp [PyData.plain]
  show (if ((PyData.int k).plain && PyData.plainAll (iL ns) && decide (min (PyData.depthAll (iL ns)) (PyData.int k).depth ≤ 60)) = true then vB ((iL ns).any fun x => PyData.eqv x (.int k)) else none) = _
  rw [any_eqv, hp, plainAll_iL, decide_eq_true h]
  rfl
theorem gNotIn_tI (k : Int) (ns : List Int) : gNotIn (.int k) (tI ns) = some (.val (.bool (decide (k ∉ ns)))) := by
  unfold gNotIn
  rw [gIn_tI]
  simp [notV]
@[simp] theorem okEq_int (i j : Int) : okEq (.int i) (.int j) = true := rfl
@[simp] theorem okEq_bool (i j : Bool) : okEq (.bool i) (.bool j) = true := rfl
@[simp] theorem gEq_int (i j : Int) : gEq (.int i) (.int j) = some (.val (.bool (decide (i = j)))) := by simp [gEq]
@[simp] theorem gNe_int (i j : Int) : gNe (.int i) (.int j) = some (.val (.bool (decide (i ≠ j)))) := by simp [gNe]
@[simp] theorem gEq_bool (i j : Bool) : gEq (.bool i) (.bool j) = some (.val (.bool (decide (i = j)))) := by
  have : PyData.eqv (.bool i) (.bool j) = (i == j) := rfl
  cases i <;> cases j <;> simp [gEq, this]
/-! ### what can be paid -/
def Reach (cs : List Int) (k : Int) : Prop := ∃ s : List Int, s.Sublist cs ∧ s.sum = k
theorem reach_nil {k : Int} : Reach [] k ↔ k = 0 := by
  constructor
  · rintro ⟨s, h, rfl⟩
    rw [List.sublist_nil] at h
    subst h; rfl
  · rintro rfl
    exact ⟨[], List.Sublist.refl _, rfl⟩
theorem reach_snoc {cs : List Int} {c k : Int} : Reach (cs ++ [c]) k ↔ Reach cs k ∨ Reach cs (k - c) := by
  constructor
  · rintro ⟨s, h, rfl⟩
    obtain ⟨l1, l2, rfl, h1, h2⟩ := List.sublist_append_iff.mp h
    cases h2 with
    | cons _ h3 =>
      rw [List.sublist_nil] at h3
      subst h3
      exact .inl ⟨l1, h1, by simp⟩
    | cons_cons _ h3 =>
      rw [List.sublist_nil] at h3
      subst h3
      exact .inr ⟨l1, h1, by simp⟩
  · rintro (⟨s, h, rfl⟩ | ⟨s, h, e⟩)
    · exact ⟨s, h.trans (List.sublist_append_left _ _), rfl⟩
    · exact ⟨s ++ [c], h.append (List.Sublist.refl _), by simp [e]⟩
theorem sum_perm {s t : List Int} (h : s.Perm t) : s.sum = t.sum := by
  induction h with
  | nil => rfl
  | cons _ _ ih => simp [ih]
  | swap _ _ _ => simp; omega
  | trans _ _ h1 h2 => rw [h1, h2]
theorem reach_perm {cs ds : List Int} (p : cs.Perm ds) {k : Int} (h : Reach cs k) : Reach ds k := by
  obtain ⟨s, h, rfl⟩ := h
  obtain ⟨s', q, h'⟩ := List.exists_perm_sublist h p
  exact ⟨s', h', sum_perm q⟩
theorem reach_append {cs ds : List Int} {j k : Int} (h : Reach cs j) (h2 : Reach ds k) : Reach (cs ++ ds) (j + k) := by
  obtain ⟨s, h, rfl⟩ := h
  obtain ⟨t, h2, rfl⟩ := h2
  exact ⟨s ++ t, h.append h2, by simp⟩
theorem reach_all (cs : List Int) : Reach cs cs.sum := ⟨cs, List.Sublist.refl _, rfl⟩
theorem reach_zero (cs : List Int) : Reach cs 0 := ⟨[], List.nil_sublist _, rfl⟩
/-! ### dicts of whole numbers -/
abbrev ZD := List (Int × Int)
def getZ : ZD → Int → Option Int
  | [], _ => none
  | (j, v) :: r, k => if j = k then some v else getZ r k
def putZ (l : ZD) (k v : Int) : ZD := if l.any (fun p => decide (p.1 = k)) = true then l.map (fun p => if p.1 = k then (p.1, v) else p) else l ++ [(k, v)]
def encZ (l : ZD) : List (D × D) := l.map fun p => (.int p.1, .int p.2)
@[simp] theorem findD_encZ : ∀ (l : ZD) (k : Int), findD (encZ l) (.int k) = (getZ l k).map .int
  | [], _ => rfl
  | (j, v) :: r, k => by
    unfold encZ findD getZ
    simp only [List.map_cons, eqv_int]
    by_cases e : j = k
    · simp [e]
    · simp only [e, decide_false, Bool.false_eq_true, if_false]
      exact findD_encZ r k
@[simp] theorem putD_encZ (l : ZD) (k v : Int) : putD (encZ l) (.int k) (.int v) = encZ (putZ l k v) := by
  unfold putD putZ
  have e : ((encZ l).any fun p => PyData.eqv p.1 (.int k)) = l.any fun p => decide (p.1 = k) := by
    unfold encZ
    rw [List.any_map]
    simp [Function.comp_def]
  rw [e]
  by_cases h : (l.any fun p => decide (p.1 = k)) = true
  · rw [if_pos h, if_pos h]
    unfold encZ
    rw [List.map_map, List.map_map]
    apply List.map_congr_left
    intro p _
    by_cases hp : p.1 = k <;> simp [hp]
  · rw [if_neg h, if_neg h]
    unfold encZ
    simp
@[simp] theorem isMark_encZ : ∀ l : ZD, isMark (encZ l) = false
  | [] => rfl
  | _ :: _ => rfl
@[simp] theorem keysD_encZ (l : ZD) : keysD (encZ l) = iL (l.map (·.1)) := by
  unfold keysD
  rw [isMark_encZ, if_neg (by decide)]
  simp [encZ, iL]
@[simp] theorem len_encZ (l : ZD) : (encZ l).length = l.length := by simp [encZ]
@[simp] theorem pairsFor_encZ (l : ZD) (k : Int) : pairsFor (.dict (encZ l)) (.int k) = some (encZ l) := by simp [pairsFor]
theorem getZ_put (l : ZD) (k v j : Int) : getZ (putZ l k v) j = if j = k then some v else getZ l j := by
  unfold putZ
  by_cases h : (l.any fun p => decide (p.1 = k)) = true
  · rw [if_pos h]
    induction l with
    | nil => simp at h
    | cons p r ih =>
      obtain ⟨q, u⟩ := p
      rw [List.map_cons]
      by_cases e : q = k
      · subst e
        simp only [if_true, getZ]
        by_cases e2 : j = q
        · subst e2; simp
        · rw [if_neg (Ne.symm e2), if_neg e2, if_neg (Ne.symm e2)]
          by_cases h' : (r.any fun p => decide (p.1 = q)) = true
          · have := ih h'
            rw [if_neg e2] at this
            exact this
          · have : r.map (fun p => if p.1 = q then (p.1, v) else p) = r := by
              conv => rhs; rw [← List.map_id r]
              apply List.map_congr_left
              intro x hx
              rw [if_neg]
              · rfl
              · intro e3
                exact h' (List.any_eq_true.mpr ⟨x, hx, decide_eq_true e3⟩)
            rw [this]
      · simp only [e, if_false, getZ]
        by_cases e2 : q = j
        · subst e2; rw [if_pos rfl, if_neg e, if_pos rfl]
        · rw [if_neg e2, if_neg e2]
          have h' : (r.any fun p => decide (p.1 = k)) = true := by simpa [e] using h
          exact ih h'
  · rw [if_neg h]
    induction l with
    | nil =>
      simp only [List.nil_append, getZ]
      by_cases e : k = j
      · simp [e]
      · rw [if_neg e, if_neg (Ne.symm e)]
    | cons p r ih =>
      obtain ⟨q, u⟩ := p
      have hq : q ≠ k := fun e => h (by simp [e])
      have hr : ¬ (r.any fun p => decide (p.1 = k)) = true := fun e => h (by simp only [List.any_cons, e, Bool.or_true])
      rw [List.cons_append]
      simp only [getZ]
      by_cases e2 : q = j
      · subst e2; rw [if_pos rfl, if_neg hq, if_pos rfl]
      · rw [if_neg e2, if_neg e2]; exact ih hr
theorem keys_put (l : ZD) (k v j : Int) : j ∈ (putZ l k v).map (·.1) ↔ j = k ∨ j ∈ l.map (·.1) := by
  unfold putZ
  by_cases h : (l.any fun p => decide (p.1 = k)) = true
  · rw [if_pos h]
    have e : (l.map fun p => if p.1 = k then (p.1, v) else p).map (·.1) = l.map (·.1) := by
      rw [List.map_map]
      apply List.map_congr_left
      intro p _
      by_cases hp : p.1 = k <;> simp [hp]
    rw [e]
    constructor
    · exact .inr
    · rintro (rfl | h2)
      · obtain ⟨p, hp, e⟩ := List.any_eq_true.mp h
        exact List.mem_map.mpr ⟨p, hp, of_decide_eq_true e⟩
      · exact h2
  · rw [if_neg h]
    simp [or_comm]
theorem len_put (l : ZD) (k v : Int) : (putZ l k v).length ≤ l.length + 1 := by
  unfold putZ
  split
  · simp
  · simp
theorem getZ_mem {l : ZD} {k : Int} : (∃ v, getZ l k = some v) ↔ k ∈ l.map (·.1) := by
  induction l with
  | nil => simp [getZ]
  | cons p r ih =>
    obtain ⟨q, u⟩ := p
    simp only [getZ, List.map_cons, List.mem_cons]
    by_cases e : q = k
    · simp [e]
    · rw [if_neg e, ih]
      simp [Ne.symm e]
/-- all counts are positive -/
def PosZ (l : ZD) : Prop := ∀ k v, getZ l k = some v → 0 < v
/-! ### comprehensions over whole numbers -/
theorem compL_all {G : DS → Prop} {vs : List Nat} {g : DG} {t : DT} {e : DE} {st : DS} {ds : List D} (c : D) (hG : G st) (h : ∀ d ∈ ds, stepC vs g t e st d = .ok (some c, st)) : compL G vs g t e ds st = .ok (List.replicate ds.length c, st) := by
  rw [compL_map hG (fun _ => some c) h]
  congr 2
  clear h
  induction ds with
  | nil => rfl
  | cons d ds ih => rw [List.filterMap_cons, ih]; rfl
theorem compL_iL {G : DS → Prop} {vs : List Nat} {g : DG} {t : DT} {e : DE} {st : DS} {ns : List Int} (F : Int → Option D) (hG : G st) (h : ∀ n ∈ ns, stepC vs g t e st (.int n) = .ok (F n, st)) : compL G vs g t e (ns.map PyData.int) st = .ok (ns.filterMap F, st) := by
  induction ns with
  | nil => exact compL_nil hG
  | cons n ns ih =>
    rw [List.map_cons, compL_cons hG, h n List.mem_cons_self]
    simp only [R.ok_bind]
    rw [ih fun m hm => h m (List.mem_cons_of_mem _ hm)]
    cases hF : F n with
    | none => simp [List.filterMap_cons, hF]
    | some x => simp [List.filterMap_cons, hF]
theorem compL_iLm {G : DS → Prop} {vs : List Nat} {g : DG} {t : DT} {e : DE} {st : DS} {ns : List Int} (F : Int → D) (hG : G st) (h : ∀ n ∈ ns, stepC vs g t e st (.int n) = .ok (some (F n), st)) : compL G vs g t e (ns.map PyData.int) st = .ok (ns.map F, st) := by
  rw [compL_iL (fun n => some (F n)) hG h]
  have : ns.filterMap (fun n => some (F n)) = ns.map F := by rw [← List.filterMap_eq_map]; rfl
  rw [this]
@[simp] theorem intsD_comp {α : Type} (f : α → Int) (l : List α) : intsD (l.map (PyData.int ∘ f)) = some (l.map f) := by
  rw [← List.map_map]; exact intsD_iL _
@[simp] theorem intsD_fun {α : Type} (f : α → Int) (l : List α) : intsD (l.map fun a => PyData.int (f a)) = some (l.map f) := intsD_comp f l
@[simp] theorem boolsD_rep (n : Nat) (b : Bool) : boolsD (List.replicate n (.bool b)) = some (List.replicate n b) := by
  induction n with
  | zero => rfl
  | succ n ih => simp [List.replicate_succ, boolsD, ih]
@[simp] theorem all_rep (n : Nat) : (List.replicate n true).all id = true := by
  induction n with
  | zero => rfl
  | succ n ih => simp [List.replicate_succ]
theorem zipD_lt {ns : List Int} (hp : ns.Pairwise (· < ·)) : ∀ d ∈ zipD (ns.map PyData.int) ((ns.map PyData.int).drop 1), ∃ a b : Int, d = .tuple [.int a, .int b] ∧ a < b := by
  induction ns with
  | nil => simp [zipD]
  | cons x xs ih =>
    cases xs with
    | nil => simp [zipD]
    | cons y ys =>
      intro d hd
      have e : zipD ((x :: y :: ys).map PyData.int) (((x :: y :: ys).map PyData.int).drop 1) = .tuple [.int x, .int y] :: zipD ((y :: ys).map PyData.int) (((y :: ys).map PyData.int).drop 1) := by
        unfold zipD
        simp
      rw [e] at hd
      rcases List.mem_cons.mp hd with rfl | hd
      · exact ⟨x, y, rfl, (List.pairwise_cons.mp hp).1 y List.mem_cons_self⟩
      · exact ih (List.pairwise_cons.mp hp).2 d hd
theorem gSl_tail (ns : List Int) : gSl (.tuple (ns.map PyData.int)) (some 1) none = some (.val (.tuple ((ns.map PyData.int).drop 1))) := by
  have e1 : cutD (ns.map PyData.int) (min 1 (ns.map PyData.int).length) (ns.map PyData.int).length = (ns.map PyData.int).drop 1 := by
    unfold cutD
    cases ns with
    | nil => rfl
    | cons x xs =>
      rw [show min 1 ((x :: xs).map PyData.int).length = 1 by simp]
      rw [List.take_of_length_le]
      rw [List.length_drop]; omega
  show some (RV.val (.tuple (cutD (ns.map PyData.int) (min 1 (ns.map PyData.int).length) (ns.map PyData.int).length))) = _
  rw [e1]
/-! ### ranges, loops over keys -/
def zR (n : Nat) : List Int := (List.range n).map fun (i : Nat) => (i : Int)
@[simp] theorem rangeD_zR (n : Nat) : rangeD 0 (n : Int) = (zR n).map PyData.int := by
  unfold rangeD zR
  simp
@[simp] theorem zR_len (n : Nat) : (zR n).length = n := by simp [zR]
theorem mem_zR {n : Nat} {i : Int} : i ∈ zR n ↔ 0 ≤ i ∧ i < n := by
  unfold zR
  rw [List.mem_map]
  constructor
  · rintro ⟨k, hk, rfl⟩
    rw [List.mem_range] at hk
    omega
  · intro h
    exact ⟨i.toNat, by rw [List.mem_range]; omega, by omega⟩
theorem rgOk_nat {n : Nat} (h : n ≤ 1000000) : (rgOk (n : Int) && decide ((n : Int) ≤ 16777216)) = true := by
  unfold rgOk
  simp only [Bool.and_eq_true, decide_eq_true_eq]
  omega
theorem iRng1_nat {m : DE} {st s1 : DS} {r : RV} {n : Nat} (h : m st = .ok (r, s1)) (hr : r.d = .int (n : Int)) (hn : n ≤ 1000000) : iRng1 m st = .ok ((zR n).map PyData.int, s1) := by
  unfold iRng1
  rw [h]
  simp only [R.ok_bind, hr]
  rw [if_pos (rgOk_nat hn), rangeD_zR]
  rfl
/-- a loop that only goes on, by an invariant over the items to come -/
theorem loopL_go {g : DG} {body : DM} (P : List D → DS → Prop) {ds : List D} {st : DS} (h0 : P ds st) (hs : ∀ d r st, P (d :: r) st → ∃ s1 st', g (.val d) st = .ok s1 ∧ body s1 = .ok (.nx, st') ∧ P r st') : ∃ st', loopL g body ds st = .ok (.nx, st') ∧ P [] st' :=
  loopL_inv P h0 fun d r st h => by
    obtain ⟨s1, st', h1, h2, h3⟩ := hs d r st h
    exact ⟨s1, st', h1, .inl h2, h3⟩
theorem pw_len : ∀ (ms : List Int) (lo n : Int), ms.Pairwise (· < ·) → (∀ i ∈ ms, lo ≤ i ∧ i < n) → (ms.length : Int) ≤ max 0 (n - lo)
  | [], _, _, _, _ => by simp only [List.length_nil]; omega
  | m :: ms, lo, n, hp, h => by
    obtain ⟨h1, h2⟩ := List.pairwise_cons.mp hp
    have := pw_len ms (m + 1) n h2 fun i hi => ⟨by have := h1 i hi; omega, (h i (List.mem_cons_of_mem _ hi)).2⟩
    have h3 := h m List.mem_cons_self
    rw [List.length_cons]
    omega
theorem gListRg_nat {n : Nat} (h : n ≤ 1000000) : gListRg 0 (n : Int) = some (.fresh (.list ((zR n).map PyData.int))) := by
  unfold gListRg
  have : rgGood 0 (n : Int) = true := by
    unfold rgGood lim
    simp only [Bool.and_eq_true, decide_eq_true_eq]
    omega
  rw [if_pos this, rangeD_zR]
theorem gTupleRg_nat {n : Nat} (h : n ≤ 1000000) : gTupleRg 0 (n : Int) = some (.val (.tuple ((zR n).map PyData.int))) := by
  unfold gTupleRg
  have : rgGood 0 (n : Int) = true := by
    unfold rgGood lim
    simp only [Bool.and_eq_true, decide_eq_true_eq]
    omega
  rw [if_pos this, rangeD_zR]
theorem eOp1_of {g : D → Option RV} {m : DE} {st s1 : DS} {r rv : RV} {d : D} (h : m st = .ok (r, s1)) (hd : r.d = d) (hg : g d = some rv) : eOp1 g m st = .ok (rv, s1) := by
  unfold eOp1
  rw [h]
  simp only [R.ok_bind, hd, hg]
  rfl
theorem eListRg1_nat {m : DE} {st s1 : DS} {r : RV} {n : Nat} (h : m st = .ok (r, s1)) (hd : r.d = .int (n : Int)) (hn : n ≤ 1000000) : eListRg1 m st = .ok (.fresh (.list ((zR n).map PyData.int)), s1) :=
  eOp1_of h hd ((intOf_int gListRg 0 n).trans (gListRg_nat hn))
theorem eTupleRg1_nat {m : DE} {st s1 : DS} {r : RV} {n : Nat} (h : m st = .ok (r, s1)) (hd : r.d = .int (n : Int)) (hn : n ≤ 1000000) : eTupleRg1 m st = .ok (.val (.tuple ((zR n).map PyData.int)), s1) :=
  eOp1_of h hd ((intOf_int gTupleRg 0 n).trans (gTupleRg_nat hn))
end QL

end
section
namespace KK
open PySem QL
/-! ### is_between, are_coins, is_set, is_state, check_state -/
theorem is_between_int (n lo hi : Int) : f_is_between none [.int n, .int lo, .int hi] = .ok (.val (.bool (decide (lo ≤ n ∧ n ≤ hi))), none) := by
  apply bodyF_rt (st := [some (.val (.int n)), some (.val (.int lo)), some (.val (.int hi))])
  by_cases h1 : lo ≤ n <;> by_cases h2 : n ≤ hi <;> simp [den_is_between, gIsi, isTy, gLe, h1, h2]
theorem are_coins_ok (cs : List Int) (h0 : 1 ≤ cs.length) (h1 : cs.length ≤ 12) (hc : ∀ c ∈ cs, 1 ≤ c ∧ c ≤ 1000) : f_are_coins none [tI cs, .int 12] = .ok (.val (.bool true), none) := by
  apply bodyF_rt (st := [some (.val (tI cs)), some (.val (.int 12)), none])
  have e : compL (fun _ => True) [2] (bName 2) tYes (eCall f_is_between [] [eVar 2, eC (.int 1), eC (.int 1000)]) (cs.map .int) [some (.val (tI cs)), some (.val (.int 12)), none] = .ok (List.replicate (cs.map PyData.int).length (.bool true), [some (.val (tI cs)), some (.val (.int 12)), none]) := by
    apply compL_all _ trivial
    intro d hd
    obtain ⟨c, hc1, rfl⟩ := List.mem_map.mp hd
    have := hc c hc1
    simp [stepC, wipeS, backS, keptA, is_between_int, this]
  have h0' : (1 : Int) ≤ cs.length := by omega
  have h1' : (cs.length : Int) ≤ 12 := by omega
  simp [den_are_coins, gIsi, isTy, gLe, gLen, h0', h1', eComp, e, gAll]
theorem is_set_ok (n : Int) (mine : List Int) (hm : ∀ i ∈ mine, 0 ≤ i ∧ i < n) (hp : mine.Pairwise (· < ·)) : f_is_set none [.int n, tI mine] = .ok (.val (.bool true), none) := by
  apply bodyF_rt (st := [some (.val (.int n)), some (.val (tI mine)), none, none, none])
  have e : compL (fun _ => True) [2] (bName 2) tYes (eCall f_is_between [] [eVar 2, eC (.int 0), eOp2 gSub (eVar 0) (eC (.int 1))]) (mine.map .int) [some (.val (.int n)), some (.val (tI mine)), none, none, none] = .ok (List.replicate (mine.map PyData.int).length (.bool true), [some (.val (.int n)), some (.val (tI mine)), none, none, none]) := by
    apply compL_all _ trivial
    intro d hd
    obtain ⟨c, hc1, rfl⟩ := List.mem_map.mp hd
    have := hm c hc1
    have h2 : c ≤ n - 1 := by omega
    simp [stepC, wipeS, backS, keptA, is_between_int, gSub, this, h2]
  have e2 : compL (fun _ => True) [3, 4] (bTup [bName 3, bName 4]) tYes (eOp2 gLt (eVar 3) (eVar 4)) (zipD (mine.map .int) ((mine.map .int).drop 1)) [some (.val (.int n)), some (.val (tI mine)), none, none, none] = .ok (List.replicate (zipD (mine.map .int) ((mine.map .int).drop 1)).length (.bool true), [some (.val (.int n)), some (.val (tI mine)), none, none, none]) := by
    apply compL_all _ trivial
    intro d hd
    obtain ⟨a, b, rfl, hab⟩ := zipD_lt hp d hd
    simp [stepC, wipeS, backS, keptA, gLt, hab]
  have hs := gSl_tail mine
  rw [List.drop_one] at hs e2
  simp [den_is_set, gIsi, isTy, eComp, e, gAll, hs, e2]
/-- a state that is one -/
structure OkS (cs mine : List Int) : Prop where
  h0 : 1 ≤ cs.length
  h1 : cs.length ≤ 12
  hc : ∀ c ∈ cs, 1 ≤ c ∧ c ≤ 1000
  hm : ∀ i ∈ mine, 0 ≤ i ∧ i < cs.length
  hp : mine.Pairwise (· < ·)
abbrev stD (cs mine : List Int) : D := .tuple [tI cs, tI mine]
theorem is_state_ok {cs mine : List Int} (h : OkS cs mine) : f_is_state none [stD cs mine] = .ok (.val (.bool true), none) := by
  apply bodyF_rt (st := [some (.val (stD cs mine))])
  have e := are_coins_ok cs h.h0 h.h1 h.hc
  have e2 := is_set_ok cs.length mine h.hm h.hp
  simp only [tI, iL] at e e2
  simp [den_is_state, gIsi, isTy, gLen, gIx, e, e2]
theorem check_state_ok {cs mine : List Int} (h : OkS cs mine) : f_check_state none [stD cs mine] = .ok (.val .none, none) := by
  apply bodyF_nx (st := [some (.val (stD cs mine))])
  simp [den_check_state, is_state_ok h]
/-! ### worth, others_of, total_of_second -/
def atZ (cs : List Int) (i : Int) : Int := cs.getD i.toNat 0
def worthZ (cs mine : List Int) : Int := (mine.map (atZ cs)).sum
theorem gIx_seq {X : D} {cs : List Int} (h : SeqI X cs) {i : Int} (h0 : 0 ≤ i) (h1 : i < cs.length) : gIx X (.int i) = some (.val (.int (atZ cs i))) := by
  rcases h with rfl | rfl <;> simp [gIx, atD_map h0 h1, atZ]
theorem iSeq_seq {st : DS} {X : D} {cs : List Int} (h : SeqI X cs) : (match X with | .list ds => (pure (ds, st) : R (List D × DS)) | .tuple ds => pure (ds, st) | _ => .bad) = .ok (iL cs, st) := by
  rcases h with rfl | rfl <;> rfl
theorem worth_ok {X Y : D} {cs mine : List Int} (hX : SeqI X cs) (hY : SeqI Y mine) (hm : ∀ i ∈ mine, 0 ≤ i ∧ i < cs.length) : f_worth none [X, Y] = .ok (.val (.int (worthZ cs mine)), none) := by
  apply bodyF_rt (st := [some (.val X), some (.val Y), none])
  have e : compL (fun _ => True) [2] (bName 2) tYes (eOp2 gIx (eVar 0) (eVar 2)) (mine.map .int) [some (.val X), some (.val Y), none] = .ok (mine.map fun i => .int (atZ cs i), [some (.val X), some (.val Y), none]) := by
    apply compL_iLm _ trivial
    intro i hi
    obtain ⟨h0, h1⟩ := hm i hi
    simp [stepC, wipeS, backS, keptA, gIx_seq hX h0 h1]
  have e2 : (mine.map fun i => PyData.int (atZ cs i)) = (mine.map (atZ cs)).map PyData.int := by simp
  rw [e2] at e
  rcases hY with rfl | rfl <;> simp [den_worth, eComp, e, gSum, worthZ]
def othersZ (n : Nat) (mine : List Int) : List Int := (zR n).filter fun i => decide (i ∉ mine)
theorem others_comp {mine : List Int} {n : Nat} (X : D) : (zR n).filterMap (fun i => if i ∉ mine then some (PyData.int i) else none) = (othersZ n mine).map PyData.int := by
  unfold othersZ
  induction zR n with
  | nil => rfl
  | cons i r ih =>
    rw [List.filterMap_cons, List.filter_cons]
    by_cases h : i ∈ mine
    · simp [h]; simpa using ih
    · simp [h]; simpa using ih
theorem others_of_ok {cs mine : List Int} (h : OkS cs mine) : f_others_of none [stD cs mine] = .ok (.val (tI (othersZ cs.length mine)), none) := by
  apply bodyF_rt (st := [some (.val (stD cs mine)), none])
  have e : compL (fun _ => True) [1] (bName 1) (tOf (eOp2 gNotIn (eVar 1) (eOp2 gIx (eVar 0) (eC (.int 1))))) (eVar 1) ((zR cs.length).map .int) [some (.val (stD cs mine)), none] = .ok ((zR cs.length).filterMap (fun i => if i ∉ mine then some (PyData.int i) else none), [some (.val (stD cs mine)), none]) := by
    apply compL_iL _ trivial
    intro i hi
    have hn := gNotIn_tI i mine
    simp only [tI, iL] at hn
    by_cases hm : i ∈ mine <;> simp [stepC, wipeS, backS, keptA, gIx, hn, hm]
  rw [others_comp (tI [])] at e
  have hr : iRng1 (eOp1 gLen (eOp2 gIx (eVar 0) (eC (.int 0)))) [some (.val (stD cs mine)), none] = .ok ((zR cs.length).map PyData.int, [some (.val (stD cs mine)), none]) := iRng1_nat (r := .val (.int cs.length)) (by simp [gIx, gLen]) rfl (by have := h.h1; omega)
  have he : eComp [1] (iRng1 (eOp1 gLen (eOp2 gIx (eVar 0) (eC (.int 0))))) (bName 1) (tOf (eOp2 gNotIn (eVar 1) (eOp2 gIx (eVar 0) (eC (.int 1))))) (eVar 1) [some (.val (stD cs mine)), none] = .ok (.fresh (.list ((othersZ cs.length mine).map .int)), [some (.val (stD cs mine)), none]) := by
    unfold eComp
    rw [hr]
    simp only [R.ok_bind]
    rw [e]
    rfl
  simp [den_others_of, he, gTuple]
theorem others_range {n : Nat} {mine : List Int} : ∀ i ∈ othersZ n mine, 0 ≤ i ∧ i < n := fun i hi => mem_zR.mp (List.mem_filter.mp hi).1
theorem total_of_second_ok {cs mine : List Int} (h : OkS cs mine) : f_total_of_second none [stD cs mine] = .ok (.val (.int (worthZ cs (othersZ cs.length mine))), none) := by
  apply bodyF_rt (st := [some (.val (stD cs mine))])
  have e := worth_ok (X := tI cs) (Y := tI (othersZ cs.length mine)) (.inl rfl) (.inl rfl) others_range
  have e2 := others_of_ok h
  simp only [tI, iL] at e e2
  simp [den_total_of_second, gIx, e2, e]
theorem check_price_ok {p : Int} (h0 : -12000 ≤ p) (h1 : p ≤ 12000) : f_check_price none [.int p] = .ok (.val .none, none) := by
  apply bodyF_nx (st := [some (.val (.int p))])
  simp [den_check_price, gNeg, is_between_int, h0, h1]
/-! ### counts_for -/
def cntPut (c : Int) (l : ZD) (later : ZD) (t : Int) : ZD := putZ later (t + c) ((getZ later (t + c)).getD 0 + (getZ l t).getD 0)
def cntStep (l : ZD) (c : Int) : ZD := (l.map (·.1)).foldl (cntPut c l) l
def countsZ (cs : List Int) : ZD := cs.foldl cntStep [(0, 1)]
theorem cnt_len (c : Int) (l : ZD) : ∀ (ts : List Int) (later : ZD), (ts.foldl (cntPut c l) later).length ≤ later.length + ts.length
  | [], later => Nat.le_refl _
  | t :: ts, later => by
    rw [List.foldl_cons]
    have := cnt_len c l ts (cntPut c l later t)
    have h2 := len_put later (t + c) ((getZ later (t + c)).getD 0 + (getZ l t).getD 0)
    have h3 : (cntPut c l later t).length ≤ later.length + 1 := h2
    rw [List.length_cons]
    omega
theorem cntStep_len (l : ZD) (c : Int) : (cntStep l c).length ≤ 2 * l.length := by
  have := cnt_len c l (l.map (·.1)) l
  rw [List.length_map] at this
  unfold cntStep
  omega
theorem counts_len (cs : List Int) : ∀ l : ZD, (cs.foldl cntStep l).length ≤ 2 ^ cs.length * l.length := by
  induction cs with
  | nil => intro l; simp
  | cons c cs ih =>
    intro l
    rw [List.foldl_cons]
    have h1 := ih (cntStep l c)
    have h2 := cntStep_len l c
    rw [List.length_cons, Nat.pow_succ]
    calc _ ≤ 2 ^ cs.length * (cntStep l c).length := h1
      _ ≤ 2 ^ cs.length * (2 * l.length) := Nat.mul_le_mul_left _ h2
      _ = 2 ^ cs.length * 2 * l.length := by rw [Nat.mul_assoc]
noncomputable abbrev cntBody : DM := sPut 3 (eOp2 gAdd (eVar 4) (eVar 2)) (eOp2 gAdd (eGet (eBor 3) (eOp2 gAdd (eVar 4) (eVar 2)) (eC (.int 0))) (eOp2 gIx (eBor 1) (eVar 4)))
theorem counts_inner {X : D} (c : Int) (l : ZD) (hl : 2 * l.length < lim) (o : Option A) (s5 : DS) :
    ∃ s', loopL (bName 4) cntBody ((l.map (·.1)).map .int) [some (.val X), some (.val (.dict (encZ l))), some (.val (.int c)), some (.own false (.dict (encZ l))), o] = .ok (.nx, s') ∧ ∃ o', s' = [some (.val X), some (.val (.dict (encZ l))), some (.val (.int c)), some (.own false (.dict (encZ (cntStep l c)))), o'] := by
  let P : List D → DS → Prop := fun r st => ∃ (ts us : List Int) (o' : Option A), r = ts.map PyData.int ∧ us ++ ts = l.map (·.1) ∧ st = [some (.val X), some (.val (.dict (encZ l))), some (.val (.int c)), some (.own false (.dict (encZ (us.foldl (cntPut c l) l)))), o']
  obtain ⟨s', h1, ts, us, o', h2, h3, h4⟩ := loopL_go (g := bName 4) (body := cntBody) P (ds := (l.map (·.1)).map .int) (st := [some (.val X), some (.val (.dict (encZ l))), some (.val (.int c)), some (.own false (.dict (encZ l))), o]) ⟨_, [], o, rfl, rfl, rfl⟩ (fun d r st ⟨ts, us, o', e1, e2, e3⟩ => by
    cases ts with
    | nil => cases e1
    | cons t ts =>
      rw [List.map_cons] at e1
      cases e1
      subst e3
      have ht : t ∈ l.map (·.1) := by rw [← e2]; simp
      obtain ⟨v, hv⟩ := getZ_mem.mpr ht
      have hlen : (us.foldl (cntPut c l) l).length < lim := by
        have h1 := cnt_len c l us l
        have h2 : us.length ≤ l.length := by
          have := congrArg List.length e2
          simp only [List.length_append, List.length_cons, List.length_map] at this
          omega
        omega
      refine ⟨_, _, rfl, ?_, ts, us ++ [t], some (.val (.int t)), rfl, by simpa using e2, rfl⟩
      rw [List.foldl_append]
      simp [gAdd, gIx, pairsFor, hv, putC, Nat.not_le.mpr hlen, cntPut])
  refine ⟨s', h1, o', ?_⟩
  have : ts = [] := by cases ts with | nil => rfl | cons _ _ => cases h2
  subst this
  rw [List.append_nil] at h3
  rw [h4, h3]
  rfl
theorem counts_outer {X : D} (cs : List Int) (hn : cs.length ≤ 16) :
    ∃ s', loopL (bName 2) (sSeq (sSet (bOwn 3) (eOp1 gCopy (eBor 1))) (sSeq (sForK 1 (bName 4) cntBody) (sSet (bOwn 1) (eMove 3)))) (cs.map .int) [some (.val X), some (.own false (.dict (encZ [(0, 1)]))), none, none, none] = .ok (.nx, s') ∧ ∃ o2 o3 o4, s' = [some (.val X), some (.own false (.dict (encZ (countsZ cs)))), o2, o3, o4] := by
  let P : List D → DS → Prop := fun r st => ∃ (ts us : List Int) (o2 o3 o4 : Option A), r = ts.map PyData.int ∧ us ++ ts = cs ∧ st = [some (.val X), some (.own false (.dict (encZ (countsZ us)))), o2, o3, o4]
  obtain ⟨s', h1, ts, us, o2, o3, o4, h2, h3, h4⟩ := loopL_go (g := bName 2) (body := sSeq (sSet (bOwn 3) (eOp1 gCopy (eBor 1))) (sSeq (sForK 1 (bName 4) cntBody) (sSet (bOwn 1) (eMove 3)))) P (ds := cs.map .int) (st := [some (.val X), some (.own false (.dict (encZ [(0, 1)]))), none, none, none]) ⟨_, [], none, none, none, rfl, rfl, rfl⟩ (fun d r st ⟨ts, us, o2, o3, o4, e1, e2, e3⟩ => by
    cases ts with
    | nil => cases e1
    | cons t ts =>
      rw [List.map_cons] at e1
      cases e1
      subst e3
      have hl : 2 * (countsZ us).length < lim := by
        have h1 := counts_len us [(0, 1)]
        have h2 : us.length ≤ 16 := by
          have := congrArg List.length e2
          simp only [List.length_append, List.length_cons] at this
          omega
        have h3 : 2 ^ us.length ≤ 2 ^ 16 := Nat.pow_le_pow_right (by decide) h2
        have h4 : (countsZ us).length ≤ 2 ^ us.length * 1 := h1
        have h5 : lim = 16777216 := rfl
        omega
      obtain ⟨s2, g1, o', g2⟩ := counts_inner (X := X) t (countsZ us) hl o4 []
      refine ⟨_, [some (.val X), some (.own false (.dict (encZ (countsZ (us ++ [t]))))), some (.val (.int t)), none, o'], rfl, ?_, ts, us ++ [t], some (.val (.int t)), none, o', rfl, by simpa using e2, rfl⟩
      have hc : countsZ (us ++ [t]) = cntStep (countsZ us) t := by unfold countsZ; rw [List.foldl_append]; rfl
      rw [hc]
      rw [List.map_map] at g1
      simp [gCopy, sForK, lockS, g1, g2])
  refine ⟨s', h1, o2, o3, o4, ?_⟩
  have : ts = [] := by cases ts with | nil => rfl | cons _ _ => cases h2
  subst this
  rw [List.append_nil] at h3
  rw [h4, h3]
theorem counts_for_ok {X : D} {cs : List Int} (hX : SeqI X cs) (hn : cs.length ≤ 16) : f_counts_for none [X] = .ok (.fresh (.dict (encZ (countsZ cs))), none) := by
  obtain ⟨s', h1, o2, o3, o4, rfl⟩ := counts_outer (X := X) cs hn
  have h2 : encZ [(0, 1)] = [(PyData.int 0, PyData.int 1)] := rfl
  rw [h2] at h1
  apply bodyF_fresh (st := [some (.val X), none, o2, o3, o4])
  rcases hX with rfl | rfl <;> simp [den_counts_for, h1]
theorem ways_to_ok {X : D} {cs : List Int} (hX : SeqI X cs) (hn : cs.length ≤ 16) (k : Int) : f_ways_to none [X, .int k] = .ok (.val (.int ((getZ (countsZ cs) k).getD 0)), none) := by
  apply bodyF_rt (st := [some (.val X), some (.val (.int k))])
  have e := counts_for_ok hX hn
  simp [den_ways_to, e]
/-! what is counted -/
theorem cnt_keys (c : Int) (l : ZD) : ∀ (ts : List Int) (later : ZD) (k : Int), k ∈ (ts.foldl (cntPut c l) later).map (·.1) ↔ k ∈ later.map (·.1) ∨ ∃ t ∈ ts, k = t + c
  | [], later, k => by simp
  | t :: ts, later, k => by
    rw [List.foldl_cons, cnt_keys c l ts]
    unfold cntPut
    rw [keys_put]
    simp only [List.mem_cons]
    constructor
    · rintro ((h | h) | ⟨u, h1, h2⟩)
      · exact .inr ⟨t, .inl rfl, h⟩
      · exact .inl h
      · exact .inr ⟨u, .inr h1, h2⟩
    · rintro (h | ⟨u, rfl | h1, h2⟩)
      · exact .inl (.inr h)
      · exact .inl (.inl h2)
      · exact .inr ⟨u, h1, h2⟩
theorem cntStep_keys (l : ZD) (c k : Int) : k ∈ (cntStep l c).map (·.1) ↔ k ∈ l.map (·.1) ∨ k - c ∈ l.map (·.1) := by
  unfold cntStep
  rw [cnt_keys]
  constructor
  · rintro (h | ⟨t, h1, rfl⟩)
    · exact .inl h
    · right
      have : t + c - c = t := by omega
      rw [this]; exact h1
  · rintro (h | h)
    · exact .inl h
    · exact .inr ⟨k - c, h, by omega⟩
theorem cnt_pos (c : Int) (l : ZD) (hl : PosZ l) : ∀ (ts : List Int) (later : ZD), (∀ t ∈ ts, t ∈ l.map (·.1)) → PosZ later → PosZ (ts.foldl (cntPut c l) later)
  | [], later, _, h => h
  | t :: ts, later, ht, h => by
    rw [List.foldl_cons]
    refine cnt_pos c l hl ts _ (fun u hu => ht u (List.mem_cons_of_mem _ hu)) fun k v e => ?_
    unfold cntPut at e
    rw [getZ_put] at e
    by_cases ek : k = t + c
    · rw [if_pos ek] at e
      cases e
      obtain ⟨u, hu⟩ := getZ_mem.mpr (ht t List.mem_cons_self)
      have h1 := hl t u hu
      rw [hu]
      have h2 : 0 ≤ (getZ later (t + c)).getD 0 := by
        cases e2 : getZ later (t + c) with
        | none => exact Int.le_refl _
        | some w => exact Int.le_of_lt (h _ _ e2)
      show 0 < (getZ later (t + c)).getD 0 + u
      omega
    · rw [if_neg ek] at e
      exact h k v e
theorem counts_facts : ∀ (ds cs : List Int), (∀ k, k ∈ (countsZ cs).map (·.1) ↔ Reach cs k) → PosZ (countsZ cs) → (∀ k, k ∈ (countsZ (cs ++ ds)).map (·.1) ↔ Reach (cs ++ ds) k) ∧ PosZ (countsZ (cs ++ ds))
  | [], cs, h1, h2 => by rw [List.append_nil]; exact ⟨h1, h2⟩
  | d :: ds, cs, h1, h2 => by
    have e : cs ++ d :: ds = (cs ++ [d]) ++ ds := by simp
    rw [e]
    have hc : countsZ (cs ++ [d]) = cntStep (countsZ cs) d := by unfold countsZ; rw [List.foldl_append]; rfl
    refine counts_facts ds (cs ++ [d]) (fun k => ?_) ?_
    · rw [hc, cntStep_keys, h1, h1, reach_snoc]
    · rw [hc]
      exact cnt_pos d _ h2 _ _ (fun t h => h) h2
theorem counts_keys (cs : List Int) (k : Int) : k ∈ (countsZ cs).map (·.1) ↔ Reach cs k := by
  have := (counts_facts cs [] (fun k => by simp [countsZ, reach_nil]) (fun k v h => by
    simp only [countsZ, List.foldl_nil, getZ] at h
    split at h
    · cases h; decide
    · cases h)).1 k
  rw [List.nil_append] at this
  exact this
theorem counts_pos (cs : List Int) : PosZ (countsZ cs) := by
  have := (counts_facts cs [] (fun k => by simp [countsZ, reach_nil]) (fun k v h => by
    simp only [countsZ, List.foldl_nil, getZ] at h
    split at h
    · cases h; decide
    · cases h)).2
  rw [List.nil_append] at this
  exact this
theorem ways_pos (cs : List Int) (k : Int) : 0 < (getZ (countsZ cs) k).getD 0 ↔ Reach cs k := by
  rw [← counts_keys, ← getZ_mem]
  constructor
  · intro h
    cases e : getZ (countsZ cs) k with
    | none => rw [e] at h; exact absurd h (by decide)
    | some v => exact ⟨v, rfl⟩
  · rintro ⟨v, e⟩
    rw [e]
    exact counts_pos cs k v e
theorem can_pay_ok {cs mine : List Int} (h : OkS cs mine) {p : Int} (h0 : -12000 ≤ p) (h1 : p ≤ 12000) : ∃ b, f_can_pay none [stD cs mine, .int p] = .ok (.val (.bool b), none) ∧ (b = true ↔ Reach cs (p + worthZ cs (othersZ cs.length mine))) := by
  refine ⟨decide (0 < (getZ (countsZ cs) (p + worthZ cs (othersZ cs.length mine))).getD 0), ?_, ?_⟩
  · apply bodyF_rt (st := [some (.val (stD cs mine)), some (.val (.int p))])
    have e1 := check_state_ok h
    have e2 := check_price_ok h0 h1
    have e3 := total_of_second_ok h
    have e4 := ways_to_ok (X := tI cs) (.inl rfl) (by have := h.h1; omega) (p + worthZ cs (othersZ cs.length mine))
    simp only [tI, iL] at e1 e3 e4
    simp [den_can_pay, e1, e2, e3, gIx, gAdd, e4, gGt]
  · rw [decide_eq_true_eq]
    exact ways_pos _ _
theorem can_give_ok {cs mine : List Int} (h : OkS cs mine) {p : Int} (h0 : -12000 ≤ p) (h1 : p ≤ 12000) : ∃ b, f_can_give none [stD cs mine, .int p] = .ok (.val (.bool b), none) ∧ (b = true ↔ Reach (mine.map (atZ cs)) p) := by
  refine ⟨decide (0 < (getZ (countsZ (mine.map (atZ cs))) p).getD 0), ?_, ?_⟩
  · apply bodyF_rt (st := [some (.val (stD cs mine)), some (.val (.int p)), none])
    have e1 := check_state_ok h
    have e2 := check_price_ok h0 h1
    have hlen : (mine.map (atZ cs)).length ≤ 16 := by
      have h1 := pw_len mine 0 cs.length h.hp h.hm
      have h2 := h.h1
      rw [List.length_map]
      omega
    have e4 := ways_to_ok (X := lI (mine.map (atZ cs))) (.inr rfl) hlen p
    have e : compL (fun _ => True) [2] (bName 2) tYes (eOp2 gIx (eOp2 gIx (eVar 0) (eC (.int 0))) (eVar 2)) (mine.map .int) [some (.val (stD cs mine)), some (.val (.int p)), none] = .ok (mine.map fun i => .int (atZ cs i), [some (.val (stD cs mine)), some (.val (.int p)), none]) := by
      apply compL_iLm _ trivial
      intro i hi
      obtain ⟨h0, h1⟩ := h.hm i hi
      have := gIx_seq (X := tI cs) (.inl rfl) h0 h1
      simp only [tI, iL] at this
      simp [stepC, wipeS, backS, keptA, gIx, atD_map h0 h1, atZ]
    have e5 : (mine.map fun i => PyData.int (atZ cs i)) = (mine.map (atZ cs)).map PyData.int := by simp
    rw [e5] at e
    simp only [tI, iL, lI] at e1 e4 e
    rw [List.map_map] at e4 e
    simp [den_can_give, e1, e2, gIx, eComp, e, e4, gGt]
  · rw [decide_eq_true_eq]
    exact ways_pos _ _
end KK

end
section
namespace KK
open PySem QL
/-! ### the law's draws -/
/-- a source of at least m more draws -/
def Src (m : Nat) (d : D) : Prop := ∃ a b c : Int, d = .list [.int a, .int b, .int c] ∧ 0 ≤ b ∧ b < 2147483579 ∧ 0 ≤ c ∧ c + (m : Int) ≤ 1000000
theorem Src.mono {m n : Nat} {d : D} (h : Src m d) (hn : n ≤ m) : Src n d := by
  obtain ⟨a, b, c, h1, h2, h3, h4, h5⟩ := h
  exact ⟨a, b, c, h1, h2, h3, h4, by omega⟩
theorem law_source_ok (cell : Int) (turn : Int) (h0 : 0 ≤ turn) (h1 : turn ≤ 1000) : ∃ d, f__law_source none [.int cell, .int turn] = .ok (.fresh d, none) ∧ Src 900000 d := by
  have hm : 0 ≤ cell % 2147483579 := Int.emod_nonneg _ (by decide)
  have hm2 : cell % 2147483579 < 2147483579 := Int.emod_lt_of_pos _ (by decide)
  by_cases h : 10 ^ 18 ≤ cell
  · refine ⟨_, bodyF_fresh (d := .list [.int (cell - 10 ^ 18), .int (cell % 2147483579), .int turn]) (st := [some (.val (.int cell)), some (.val (.int turn))]) ?_, _, _, _, rfl, hm, hm2, h0, by omega⟩
    have h' : (1000000000000000000 : Int) ≤ cell := by simpa using h
    simp [den__law_source, gPow, gGe, gSub, gMod, h']
  · refine ⟨_, bodyF_fresh (d := .list [.int 0, .int (cell % 2147483579), .int turn]) (st := [some (.val (.int cell)), some (.val (.int turn))]) ?_, _, _, _, rfl, hm, hm2, h0, by omega⟩
    have h' : ¬ (1000000000000000000 : Int) ≤ cell := by simpa using h
    simp [den__law_source, gPow, gGe, gSub, gMod, h']
theorem law_draw_ok {m : Nat} {d : D} (hs : Src (m + 1) d) {size : Int} (h0 : 0 < size) (h1 : size < 1073741824) : ∃ r d', f__law_draw (some d) [.int size] = .ok (.val (.int r), some d') ∧ 0 ≤ r ∧ r < size ∧ Src m d' := by
  obtain ⟨a, b, c, rfl, hb, hb2, hc, hc2⟩ := hs
  by_cases ha : 1 < a
  · refine ⟨a % size, .list [.int (a / size), .int b, .int c], bodyF_srt (st := [some (.own true (.list [.int (a / size), .int b, .int c])), some (.val (.int size)), some (.val (.int (a % size))), none]) (r := .val (.int (a % size))) ?_ rfl rfl, Int.emod_nonneg _ (by omega), Int.emod_lt_of_pos _ h0, _, _, _, rfl, hb, hb2, hc, by omega⟩
    simp [den__law_draw, gIx, gGt, ha, gMod, h0, gFdiv, h1, putC, ixD]
  · let n := (b + 15485867 * (c + 1)) ^ 5 % 2147483647
    let x := (n + 7919 * (c + 1)) ^ 3 % 2147483629 / 32
    refine ⟨x % size, .list [.int a, .int b, .int (c + 1)], bodyF_srt (st := [some (.own true (.list [.int a, .int b, .int (c + 1)])), some (.val (.int size)), some (.val (.int x)), some (.val (.int n))]) (r := .val (.int (x % size))) ?_ rfl rfl, Int.emod_nonneg _ (by omega), Int.emod_lt_of_pos _ h0, _, _, _, rfl, hb, hb2, by omega, by omega⟩
    have hn0 : 0 ≤ n := Int.emod_nonneg _ (by decide)
    have hn1 : n < 2147483647 := Int.emod_lt_of_pos _ (by decide)
    have p1 : (b + 15485867 * (c + 1)).natAbs < 18446744073709551616 := by omega
    have p2 : (n + 7919 * (c + 1)).natAbs < 18446744073709551616 := by omega
    simp [den__law_draw, gIx, gGt, ha, putC, ixD, gAdd, gMul, smallI, gPow, p1, gMod]
    have p3 : ((b + 15485867 * (c + 1)) ^ 5 % 2147483647 + 7919 * (c + 1)).natAbs < 18446744073709551616 := p2
    simp [p3, gFdiv, h0, n, x]
theorem gIx_list {items : List D} {r : Int} (h0 : 0 ≤ r) (h1 : r < items.length) : ∃ x ∈ items, atD items r = some x := by
  have h2 : r.toNat < items.length := by omega
  refine ⟨items[r.toNat], List.getElem_mem h2, ?_⟩
  unfold atD ixD
  simp [h0, h1, h2]
theorem law_choice_ok {m : Nat} {d : D} (hs : Src (m + 1) d) {items : List D} (h0 : 0 < items.length) (h1 : items.length < 1073741824) : ∃ x ∈ items, ∃ d', f__law_choice (some d) [.list items] = .ok (.val x, some d') ∧ Src m d' := by
  obtain ⟨r, d', e, r0, r1, s1⟩ := law_draw_ok hs (size := items.length) (by omega) (by omega)
  obtain ⟨x, hx, e2⟩ := gIx_list r0 r1
  refine ⟨x, hx, d', bodyF_srt (st := [some (.own true d'), some (.val (.list items))]) (r := .val x) ?_ rfl rfl, s1⟩
  simp [den__law_choice, gLen, e, gIx, e2]
/-- sublists told one by one -/
theorem sub_of {ds : List D} : ∀ {os : List (Option D)}, os.length = ds.length → (∀ (i : Nat) (d x : D), ds[i]? = some d → os[i]? = some (some x) → x = d) → (os.filterMap id).Sublist ds := by
  induction ds with
  | nil =>
    intro os h _
    cases os with
    | nil => exact List.Sublist.refl _
    | cons _ _ => cases h
  | cons d ds ih =>
    intro os h hc
    cases os with
    | nil => cases h
    | cons o os =>
      have h2 := ih (os := os) (by simpa using h) fun i d' x h1 h2 => hc (i + 1) d' x (by simpa using h1) (by simpa using h2)
      cases o with
      | none => exact .cons _ h2
      | some x =>
        have := hc 0 d x rfl rfl
        subst this
        exact .cons_cons _ h2
theorem sub_iL {ns : List Int} : ∀ {xs : List D}, xs.Sublist (ns.map PyData.int) → ∃ ms : List Int, ms.Sublist ns ∧ xs = ms.map PyData.int := by
  intro xs h
  obtain ⟨ms, h1, h2⟩ := List.sublist_map_iff.mp h
  exact ⟨ms, h1, h2⟩
theorem law_some_ok {m : Nat} {d : D} {ns : List Int} {X : D} (hX : SeqI X ns) (hs : Src (m + ns.length) d) : ∃ ms d', f__law_some (some d) [X] = .ok (.val (tI ms), some d') ∧ ms.Sublist ns ∧ Src m d' := by
  obtain ⟨xs, st', e, ⟨d', rfl, s'⟩, os, hl, hx, hc⟩ := compL_inv (G := fun _ => True) (vs := [2]) (g := bName 2) (t := tOf (eOp2 gEq (eCallS f__law_draw [] 0 [eC (.int 2)]) (eC (.int 0)))) (e := eVar 2)
    (fun n st => ∃ d', st = [some (.own true d'), some (.val X), none] ∧ Src (m + n) d') (fun d x => x = d) (fun _ _ _ => trivial) (ds := ns.map PyData.int) (n := 0) (st := [some (.own true d), some (.val X), none]) ⟨d, rfl, by simpa using hs⟩ (fun y hy n st ⟨d1, e1, s1⟩ => by
      obtain ⟨r, d2, e2, r0, r1, s2⟩ := law_draw_ok (m := m + n) (size := 2) s1 (by decide) (by decide)
      subst e1
      by_cases h : r = 0
      · exact ⟨some y, [some (.own true d2), some (.val X), none], by simp [stepC, wipeS, backS, keptA, e2, h], ⟨d2, rfl, s2⟩, fun x hx => by cases hx; rfl⟩
      · exact ⟨none, [some (.own true d2), some (.val X), none], by simp [stepC, wipeS, backS, keptA, e2, h], ⟨d2, rfl, s2⟩, fun x hx => by cases hx⟩)
  have hsub := sub_of hl hc
  rw [← hx] at hsub
  obtain ⟨ms, h1, rfl⟩ := sub_iL hsub
  refine ⟨ms, d', bodyF_srt (st := [some (.own true d'), some (.val X), none]) (r := .val (tI ms)) ?_ rfl rfl, h1, s'⟩
  rcases hX with rfl | rfl <;> simp [den__law_some, eComp, e, gTuple]
/-! ### coins -/
def CoinOk (c : Int) : Prop := 1 ≤ c ∧ c ≤ 1000
noncomputable abbrev coinBody : DM := (sIf (tOf (eOp2 gEq (eVar 3) (eC (.int 0)))) (sAppend 5 (eOp2 gAdd (eC (.int 1)) (eCallS f__law_draw [] 0 [eC (.int 4)]))) (sIf (tOf (eOp2 gEq (eVar 3) (eC (.int 1)))) (sAppend 5 (eCallS f__law_choice [] 0 [eLst [eVar 6, eVar 6, eC (.int 7)]])) (sIf (tOf (eOp2 gEq (eVar 3) (eC (.int 2)))) (sAppend 5 (eCallS f__law_choice [] 0 [eVar 4])) (sIf (tOf (eOp2 gEq (eVar 3) (eC (.int 3)))) (sSeq (sAppend 5 (eOp2 gMin2 (eC (.int 1000)) (eVar 6))) (sSet (bName 6) (eOp2 gMul (eC (.int 2)) (eVar 6)))) (sAppend 5 (eOp2 gAdd (eC (.int 1)) (eCallS f__law_draw [] 0 [eC (.int 1000)])))))))
noncomputable def coinSt (d most : D) (count way : Int) (found : List Int) (value : Int) (o : Option A) : DS := [some (.own true d), some (.val most), some (.val (.int count)), some (.val (.int way)), some (.val (.list [.int 1, .int 2, .int 5, .int 10, .int 20, .int 50, .int 100, .int 200])), some (.own false (.list (found.map .int))), some (.val (.int value)), o]
theorem coin_step {m : Nat} {d most : D} {count way : Int} {found : List Int} {value : Int} {o : Option A} (hs : Src (m + 1) d) (hlen : found.length < 1000) (hv : 1 ≤ value) (hv3 : way = 1 → value ≤ 3) :
    ∃ d' c value', coinBody (coinSt d most count way found value o) = .ok (.nx, coinSt d' most count way (found ++ [c]) value' o) ∧ Src m d' ∧ CoinOk c ∧ 1 ≤ value' ∧ (way = 1 → value' ≤ 3) := by
  have hl : found.length < lim := by have : lim = 16777216 := rfl; omega
  by_cases h0 : way = 0
  · obtain ⟨r, d', e, r0, r1, s1⟩ := law_draw_ok hs (size := 4) (by decide) (by decide)
    exact ⟨d', 1 + r, value, by simp [coinSt, h0, e, gAdd, hl], s1, ⟨by omega, by omega⟩, hv, hv3⟩
  · by_cases h1 : way = 1
    · obtain ⟨x, hx, d', e, s1⟩ := law_choice_ok hs (items := [.int value, .int value, .int 7]) (by simp) (by simp)
      have : ∃ c, x = .int c ∧ CoinOk c := by
        have := hv3 h1
        simp at hx
        rcases hx with rfl | rfl
        · exact ⟨value, rfl, by omega, by omega⟩
        · exact ⟨7, rfl, by decide, by decide⟩
      obtain ⟨c, rfl, hc⟩ := this
      exact ⟨d', c, value, by simp [coinSt, h1, e, hl], s1, hc, hv, hv3⟩
    · by_cases h2 : way = 2
      · obtain ⟨x, hx, d', e, s1⟩ := law_choice_ok hs (items := [.int 1, .int 2, .int 5, .int 10, .int 20, .int 50, .int 100, .int 200]) (by simp) (by simp)
        have : ∃ c, x = .int c ∧ CoinOk c := by
          simp at hx
          rcases hx with rfl | rfl | rfl | rfl | rfl | rfl | rfl | rfl <;> exact ⟨_, rfl, by decide, by decide⟩
        obtain ⟨c, rfl, hc⟩ := this
        exact ⟨d', c, value, by simp [coinSt, h2, e, hl], s1, hc, hv, hv3⟩
      · by_cases h3 : way = 3
        · refine ⟨d, if value < 1000 then value else 1000, 2 * value, by simp [coinSt, h3, gMin2, gMul, smallI, hl], hs.mono (by omega), ⟨?_, ?_⟩, by omega, fun h => absurd h h1⟩
          · split <;> omega
          · split <;> omega
        · obtain ⟨r, d', e, r0, r1, s1⟩ := law_draw_ok hs (size := 1000) (by decide) (by decide)
          exact ⟨d', 1 + r, value, by simp [coinSt, h0, h1, h2, h3, e, gAdd, hl], s1, ⟨by omega, by omega⟩, hv, hv3⟩
theorem coin_loop {most : D} {count way : Int} : ∀ (ks : List Int) {m : Nat} {d : D} {found : List Int} {value : Int} {o : Option A}, Src (m + ks.length) d → found.length + ks.length < 1000 → 1 ≤ value → (way = 1 → value ≤ 3) → (∀ c ∈ found, CoinOk c) →
    ∃ d' found' value' o', loopL (bName 7) coinBody (ks.map .int) (coinSt d most count way found value o) = .ok (.nx, coinSt d' most count way found' value' o') ∧ Src m d' ∧ found'.length = found.length + ks.length ∧ ∀ c ∈ found', CoinOk c
  | [], m, d, found, value, o, hs, _, _, _, hf => ⟨d, found, value, o, rfl, by simpa using hs, by simp, hf⟩
  | k :: ks, m, d, found, value, o, hs, hl, hv, hv3, hf => by
    rw [List.length_cons] at hl
    obtain ⟨d1, c, v1, e1, s1, hc, hv1, hv31⟩ := coin_step (m := m + ks.length) (d := d) (most := most) (count := count) (way := way) (found := found) (value := value) (o := some (.val (.int k))) hs (by omega) hv hv3
    obtain ⟨d2, f2, v2, o2, e2, s2, hl2, hf2⟩ := coin_loop ks (m := m) (d := d1) (found := found ++ [c]) (value := v1) (o := some (.val (.int k))) s1 (by simp; omega) hv1 hv31 (fun c' h => by
      rcases List.mem_append.mp h with h | h
      · exact hf c' h
      · rw [List.mem_singleton] at h; subst h; exact hc)
    refine ⟨d2, f2, v2, o2, ?_, s2, by rw [hl2]; simp; omega, hf2⟩
    have hg : bName 7 (.val (.int k)) (coinSt d most count way found value o) = .ok (coinSt d most count way found value (some (.val (.int k)))) := by simp [coinSt]
    rw [List.map_cons]
    unfold loopL
    rw [hg]
    simp only [R.ok_bind]
    rw [e1]
    simp only [R.ok_bind]
    exact e2
theorem law_coins_ok {m : Nat} {d : D} (most : Nat) (h0 : 0 < most) (h1 : most ≤ 100) (hs : Src (m + most + 3) d) : ∃ cs d', f__law_coins (some d) [.int most] = .ok (.val (tI cs), some d') ∧ 1 ≤ cs.length ∧ cs.length ≤ most ∧ (∀ c ∈ cs, CoinOk c) ∧ Src m d' := by
  obtain ⟨r1, d1, e1, a1, b1, s1⟩ := law_draw_ok (m := m + most + 2) hs (size := most) (by omega) (by omega)
  obtain ⟨r2, d2, e2, a2, b2, s2⟩ := law_draw_ok (m := m + most + 1) s1 (size := 5) (by decide) (by decide)
  obtain ⟨r3, d3, e3, a3, b3, s3⟩ := law_draw_ok (m := m + most) s2 (size := 3) (by decide) (by decide)
  have hk : (1 + r1).toNat ≤ most := by omega
  have hk2 : ((1 + r1).toNat : Int) = 1 + r1 := by omega
  obtain ⟨d4, f4, v4, o4, e4, s4, l4, c4⟩ := coin_loop (most := .int most) (count := 1 + r1) (way := r2) (zR (1 + r1).toNat) (m := m) (d := d3) (found := []) (value := 1 + r3) (o := none) (s3.mono (by simp; omega)) (by simp; omega) (by omega) (fun _ => by omega) (fun _ h => by cases h)
  have hr : iRng1 (eVar 2) (coinSt d3 (.int most) (1 + r1) r2 [] (1 + r3) none) = .ok ((zR (1 + r1).toNat).map .int, coinSt d3 (.int most) (1 + r1) r2 [] (1 + r3) none) := iRng1_nat (r := .val (.int (1 + r1))) (by simp [coinSt]) (by show PyData.int _ = _; rw [hk2]) (by omega)
  have hf : sFor (iRng1 (eVar 2)) (bName 7) coinBody (coinSt d3 (.int most) (1 + r1) r2 [] (1 + r3) none) = .ok (.nx, coinSt d4 (.int most) (1 + r1) r2 f4 v4 o4) := by
    unfold sFor
    rw [hr]
    simp only [R.ok_bind]
    exact e4
  refine ⟨f4, d4, bodyF_srt (st := coinSt d4 (.int most) (1 + r1) r2 f4 v4 o4) (r := .val (tI f4)) ?_ rfl rfl, by rw [l4]; simp; omega, by rw [l4]; simp; omega, c4, s4⟩
  have hp : den__law_coins = sSeq (sPar [(false, 2), (false, 3)] [eOp2 gAdd (eC (.int 1)) (eCallS f__law_draw [] 0 [eVar 1]), eCallS f__law_draw [] 0 [eC (.int 5)]]) (sSeq (sPar [(false, 4), (true, 5), (false, 6)] [eLst [eC (.int 1), eC (.int 2), eC (.int 5), eC (.int 10), eC (.int 20), eC (.int 50), eC (.int 100), eC (.int 200)], eLst [], eOp2 gAdd (eC (.int 1)) (eCallS f__law_draw [] 0 [eC (.int 3)])]) (sSeq (sFor (iRng1 (eVar 2)) (bName 7) coinBody) (sRet (eOp1 gTuple (eBor 5))))) := rfl
  have p1 : sPar [(false, 2), (false, 3)] [eOp2 gAdd (eC (.int 1)) (eCallS f__law_draw [] 0 [eVar 1]), eCallS f__law_draw [] 0 [eC (.int 5)]] [some (.own true d), some (.val (.int most)), none, none, none, none, none, none] = .ok (.nx, [some (.own true d2), some (.val (.int most)), some (.val (.int (1 + r1))), some (.val (.int r2)), none, none, none, none]) := by
    simp [e1, e2, gAdd]
  have p2 : sPar [(false, 4), (true, 5), (false, 6)] [eLst [eC (.int 1), eC (.int 2), eC (.int 5), eC (.int 10), eC (.int 20), eC (.int 50), eC (.int 100), eC (.int 200)], eLst [], eOp2 gAdd (eC (.int 1)) (eCallS f__law_draw [] 0 [eC (.int 3)])] [some (.own true d2), some (.val (.int most)), some (.val (.int (1 + r1))), some (.val (.int r2)), none, none, none, none] = .ok (.nx, coinSt d3 (.int most) (1 + r1) r2 [] (1 + r3) none) := by
    simp [e3, gAdd, coinSt]
  have p3 : sRet (eOp1 gTuple (eBor 5)) (coinSt d4 (.int most) (1 + r1) r2 f4 v4 o4) = .ok (.rt (.val (tI f4)), coinSt d4 (.int most) (1 + r1) r2 f4 v4 o4) := by
    simp [coinSt, gTuple]
  rw [hp]
  show sSeq _ _ [some (.own true d), some (.val (.int most)), none, none, none, none, none, none] = _
  unfold sSeq
  rw [p1]
  simp only [R.ok_bind]
  rw [p2]
  simp only [R.ok_bind]
  rw [hf]
  simp only [R.ok_bind]
  exact p3
theorem pw_zR (n : Nat) : (zR n).Pairwise (· < ·) := by
  unfold zR
  rw [List.pairwise_map]
  exact List.pairwise_lt_range.imp fun h => by omega
end KK

end
section
namespace KK
open PySem QL
theorem seq2 {a b : DM} {st s1 : DS} {q : R (Fl × DS)} (h1 : a st = .ok (.nx, s1)) (h2 : b s1 = q) : sSeq a b st = q := by
  unfold sSeq
  rw [h1]
  exact h2
theorem ls_p1 {Z : DE} {d d1 : D} {most : Nat} {cs : List Int} (q1 : Z [some (.own true d), some (.val (.int most)), none] = .ok (.val (.tuple (cs.map .int)), [some (.own true d1), some (.val (.int most)), none])) : sSet (bName 2) Z [some (.own true d), some (.val (.int most)), none] = .ok (.nx, [some (.own true d1), some (.val (.int most)), some (.val (.tuple (cs.map .int)))]) := by
  simp [q1]
theorem ls_p2 {Y : DE} {d1 d2 : D} {most : Nat} {cs ms : List Int} (q2 : Y [some (.own true d1), some (.val (.int most)), some (.val (.tuple (cs.map .int)))] = .ok (.val (.tuple (ms.map .int)), [some (.own true d2), some (.val (.int most)), some (.val (.tuple (cs.map .int)))])) : sRet (eTup [eVar 2, Y]) [some (.own true d1), some (.val (.int most)), some (.val (.tuple (cs.map .int)))] = .ok (.rt (.val (stD cs ms)), [some (.own true d2), some (.val (.int most)), some (.val (.tuple (cs.map .int)))]) := by
  simp [q2]
theorem ls_hg {cs : List Int} (h : cs.length ≤ 12) {d1 : D} {most : Nat} : eListRg1 (eOp1 gLen (eVar 2)) [some (.own true d1), some (.val (.int most)), some (.val (.tuple (cs.map .int)))] = .ok (.fresh (.list ((zR cs.length).map .int)), [some (.own true d1), some (.val (.int most)), some (.val (.tuple (cs.map .int)))]) := eListRg1_nat (r := .val (.int cs.length)) (by simp [gLen]) rfl (by omega)
theorem ls_q1 {f : DF} {d d1 : D} {most : Nat} {cs : List Int} (e1 : f (some d) [.int most] = .ok (.val (tI cs), some d1)) : eCallS f [] 0 [eVar 1] [some (.own true d), some (.val (.int most)), none] = .ok (.val (.tuple (cs.map .int)), [some (.own true d1), some (.val (.int most)), none]) := by simp [e1]
theorem ls_q2 {f : DF} {X : DE} {L : D} {d1 d2 : D} {most : Nat} {cs ms : List Int} (hg : X [some (.own true d1), some (.val (.int most)), some (.val (.tuple (cs.map .int)))] = .ok (.fresh L, [some (.own true d1), some (.val (.int most)), some (.val (.tuple (cs.map .int)))])) (e2 : f (some d1) [L] = .ok (.val (tI ms), some d2)) : eCallS f [] 0 [X] [some (.own true d1), some (.val (.int most)), some (.val (.tuple (cs.map .int)))] = .ok (.val (.tuple (ms.map .int)), [some (.own true d2), some (.val (.int most)), some (.val (.tuple (cs.map .int)))]) := by simp [hg, e2]
theorem law_state_body {m : Nat} {d d1 d2 : D} {most : Nat} {cs ms : List Int} (hl : cs.length ≤ 12) (e1 : f__law_coins (some d) [.int most] = .ok (.val (tI cs), some d1)) (e2 : f__law_some (some d1) [lI (zR cs.length)] = .ok (.val (tI ms), some d2)) : den__law_state [some (.own true d), some (.val (.int most)), none] = .ok (.rt (.val (stD cs ms)), [some (.own true d2), some (.val (.int most)), some (.val (.tuple (cs.map .int)))]) :=
  seq2 (ls_p1 (ls_q1 e1)) (ls_p2 (ls_q2 (ls_hg hl) e2))
theorem law_state_ok {m : Nat} {d : D} (most : Nat) (h0 : 0 < most) (h1 : most ≤ 12) (hs : Src (m + 2 * most + 3) d) : ∃ cs mine d', f__law_state (some d) [.int most] = .ok (.val (stD cs mine), some d') ∧ OkS cs mine ∧ cs.length ≤ most ∧ Src m d' := by
  obtain ⟨cs, d1, e1, l0, l1, hc, s1⟩ := law_coins_ok (m := m + most) most h0 (by omega) (hs.mono (by omega))
  obtain ⟨ms, d2, e2, hsub, s2⟩ := law_some_ok (m := m) (ns := zR cs.length) (X := lI (zR cs.length)) (.inr rfl) (s1.mono (by simp; omega))
  have hb := law_state_body (m := m) (by omega) e1 e2
  exact ⟨cs, ms, d2, bodyF_srt (n := 3) (ds := [.int most]) hb rfl rfl, ⟨l0, by omega, hc, fun i hi => mem_zR.mp (hsub.subset hi), (pw_zR _).sublist hsub⟩, l1, s2⟩
theorem law_worth_eq : f__law_worth = f_worth := rfl
theorem law_others_eq : f__law_others = f_others_of := rfl
end KK

end
section
namespace KK
open PySem QL
/-! ### the law's sums -/
def smPut (c : Int) (l : ZD) (later : ZD) (t : Int) : ZD :=
  let l1 := putZ later t ((getZ later t).getD 0 + (getZ l t).getD 0)
  putZ l1 (t + c) ((getZ l1 (t + c)).getD 0 + (getZ l t).getD 0)
def smStep (l : ZD) (c : Int) : ZD := (l.map (·.1)).foldl (smPut c l) []
def sumsZ (cs : List Int) : ZD := cs.foldl smStep [(0, 1)]
theorem sm_len (c : Int) (l : ZD) : ∀ (ts : List Int) (later : ZD), (ts.foldl (smPut c l) later).length ≤ later.length + 2 * ts.length
  | [], later => Nat.le_refl _
  | t :: ts, later => by
    rw [List.foldl_cons]
    have := sm_len c l ts (smPut c l later t)
    have h3 : (smPut c l later t).length ≤ later.length + 2 := by
      unfold smPut
      have a := len_put later t ((getZ later t).getD 0 + (getZ l t).getD 0)
      have b := len_put (putZ later t ((getZ later t).getD 0 + (getZ l t).getD 0)) (t + c) ((getZ (putZ later t ((getZ later t).getD 0 + (getZ l t).getD 0)) (t + c)).getD 0 + (getZ l t).getD 0)
      exact Nat.le_trans b (by omega)
    rw [List.length_cons]
    omega
theorem smStep_len (l : ZD) (c : Int) : (smStep l c).length ≤ 2 * l.length := by
  have := sm_len c l (l.map (·.1)) []
  rw [List.length_map] at this
  simpa [smStep] using this
theorem sums_len (cs : List Int) : ∀ l : ZD, (cs.foldl smStep l).length ≤ 2 ^ cs.length * l.length := by
  induction cs with
  | nil => intro l; simp
  | cons c cs ih =>
    intro l
    rw [List.foldl_cons]
    have h1 := ih (smStep l c)
    have h2 := smStep_len l c
    rw [List.length_cons, Nat.pow_succ]
    calc _ ≤ 2 ^ cs.length * (smStep l c).length := h1
      _ ≤ 2 ^ cs.length * (2 * l.length) := Nat.mul_le_mul_left _ h2
      _ = 2 ^ cs.length * 2 * l.length := by rw [Nat.mul_assoc]
noncomputable abbrev smB1 : DM := sPut 3 (eVar 4) (eOp2 gAdd (eGet (eBor 3) (eVar 4) (eC (.int 0))) (eOp2 gIx (eBor 1) (eVar 4)))
noncomputable abbrev smB2 : DM := sPut 3 (eOp2 gAdd (eVar 4) (eVar 2)) (eOp2 gAdd (eGet (eBor 3) (eOp2 gAdd (eVar 4) (eVar 2)) (eC (.int 0))) (eOp2 gIx (eBor 1) (eVar 4)))
noncomputable abbrev smBody : DM := sSeq smB1 smB2
theorem sm_b1 {X : D} {l l3 : ZD} {c t v : Int} (hv : getZ l t = some v) (hl : l3.length < lim) : smB1 [some (.val X), some (.val (.dict (encZ l))), some (.val (.int c)), some (.own false (.dict (encZ l3))), some (.val (.int t))] = .ok (.nx, [some (.val X), some (.val (.dict (encZ l))), some (.val (.int c)), some (.own false (.dict (encZ (putZ l3 t ((getZ l3 t).getD 0 + v))))), some (.val (.int t))]) := by
  simp [gAdd, gIx, pairsFor, hv, putC, Nat.not_le.mpr hl]
theorem sm_b2 {X : D} {l l3 : ZD} {c t v : Int} (hv : getZ l t = some v) (hl : l3.length < lim) : smB2 [some (.val X), some (.val (.dict (encZ l))), some (.val (.int c)), some (.own false (.dict (encZ l3))), some (.val (.int t))] = .ok (.nx, [some (.val X), some (.val (.dict (encZ l))), some (.val (.int c)), some (.own false (.dict (encZ (putZ l3 (t + c) ((getZ l3 (t + c)).getD 0 + v))))), some (.val (.int t))]) := by
  simp [gAdd, gIx, pairsFor, hv, putC, Nat.not_le.mpr hl]
theorem sums_inner {X : D} (c : Int) (l : ZD) (hl : 2 * l.length + 2 < lim) (o : Option A) :
    ∃ o', loopL (bName 4) smBody ((l.map (·.1)).map .int) [some (.val X), some (.val (.dict (encZ l))), some (.val (.int c)), some (.own false (.dict (encZ []))), o] = .ok (.nx, [some (.val X), some (.val (.dict (encZ l))), some (.val (.int c)), some (.own false (.dict (encZ (smStep l c)))), o']) := by
  let P : List D → DS → Prop := fun r st => ∃ (ts us : List Int) (o' : Option A), r = ts.map PyData.int ∧ us ++ ts = l.map (·.1) ∧ st = [some (.val X), some (.val (.dict (encZ l))), some (.val (.int c)), some (.own false (.dict (encZ (us.foldl (smPut c l) [])))), o']
  obtain ⟨s', h1, ts, us, o', h2, h3, h4⟩ := loopL_go (g := bName 4) (body := smBody) P (ds := (l.map (·.1)).map .int) (st := [some (.val X), some (.val (.dict (encZ l))), some (.val (.int c)), some (.own false (.dict (encZ []))), o]) ⟨_, [], o, rfl, rfl, rfl⟩ (fun d r st ⟨ts, us, o', e1, e2, e3⟩ => by
    cases ts with
    | nil => cases e1
    | cons t ts =>
      rw [List.map_cons] at e1
      cases e1
      subst e3
      have ht : t ∈ l.map (·.1) := by rw [← e2]; simp
      obtain ⟨v, hv⟩ := getZ_mem.mpr ht
      have hlen : (us.foldl (smPut c l) []).length + 2 < lim := by
        have h1 := sm_len c l us []
        have h2 : us.length + 1 ≤ l.length := by
          have := congrArg List.length e2
          simp only [List.length_append, List.length_cons, List.length_map] at this
          omega
        simp only [List.length_nil] at h1
        omega
      have hl2 := len_put (us.foldl (smPut c l) []) t ((getZ (us.foldl (smPut c l) []) t).getD 0 + v)
      refine ⟨_, _, rfl, seq2 (sm_b1 hv (by omega)) (sm_b2 hv (by omega)), ts, us ++ [t], some (.val (.int t)), rfl, by simpa using e2, ?_⟩
      rw [List.foldl_append]
      simp [smPut, hv])
  refine ⟨o', ?_⟩
  have : ts = [] := by cases ts with | nil => rfl | cons _ _ => cases h2
  subst this
  rw [List.append_nil] at h3
  rw [h1, h4, h3]
  rfl
noncomputable abbrev smOuter : DM := sSeq (sSet (bOwn 3) eDictK) (sSeq (sForK 1 (bName 4) smBody) (sSet (bOwn 1) (eMove 3)))
theorem sm_a {X : D} {l : ZD} {c : Int} {o3 o4 : Option A} : sSet (bOwn 3) eDictK [some (.val X), some (.own false (.dict (encZ l))), some (.val (.int c)), o3, o4] = .ok (.nx, [some (.val X), some (.own false (.dict (encZ l))), some (.val (.int c)), some (.own false (.dict (encZ []))), o4]) := by
  simp [encZ]
theorem sm_b {X : D} {l l' : ZD} {c : Int} {o4 o' : Option A} {body : DM} (h : loopL (bName 4) body ((l.map (·.1)).map .int) [some (.val X), some (.val (.dict (encZ l))), some (.val (.int c)), some (.own false (.dict (encZ []))), o4] = .ok (.nx, [some (.val X), some (.val (.dict (encZ l))), some (.val (.int c)), some (.own false (.dict (encZ l'))), o'])) : sForK 1 (bName 4) body [some (.val X), some (.own false (.dict (encZ l))), some (.val (.int c)), some (.own false (.dict (encZ []))), o4] = .ok (.nx, [some (.val X), some (.val (.dict (encZ l))), some (.val (.int c)), some (.own false (.dict (encZ l'))), o']) := by
  rw [List.map_map] at h
  simp [sForK, lockS, h]
theorem sm_c {X : D} {l l' : ZD} {c : Int} {o' : Option A} : sSet (bOwn 1) (eMove 3) [some (.val X), some (.val (.dict (encZ l))), some (.val (.int c)), some (.own false (.dict (encZ l'))), o'] = .ok (.nx, [some (.val X), some (.own false (.dict (encZ l'))), some (.val (.int c)), none, o']) := by
  simp
theorem sums_outer {X : D} (cs : List Int) (hn : cs.length ≤ 16) :
    ∃ o2 o3 o4, loopL (bName 2) smOuter (cs.map .int) [some (.val X), some (.own false (.dict (encZ [(0, 1)]))), none, none, none] = .ok (.nx, [some (.val X), some (.own false (.dict (encZ (sumsZ cs)))), o2, o3, o4]) := by
  let P : List D → DS → Prop := fun r st => ∃ (ts us : List Int) (o2 o3 o4 : Option A), r = ts.map PyData.int ∧ us ++ ts = cs ∧ st = [some (.val X), some (.own false (.dict (encZ (sumsZ us)))), o2, o3, o4]
  obtain ⟨s', h1, ts, us, o2, o3, o4, h2, h3, h4⟩ := loopL_go (g := bName 2) (body := smOuter) P (ds := cs.map .int) (st := [some (.val X), some (.own false (.dict (encZ [(0, 1)]))), none, none, none]) ⟨_, [], none, none, none, rfl, rfl, rfl⟩ (fun d r st ⟨ts, us, o2, o3, o4, e1, e2, e3⟩ => by
    cases ts with
    | nil => cases e1
    | cons t ts =>
      rw [List.map_cons] at e1
      cases e1
      subst e3
      have hl : 2 * (sumsZ us).length + 2 < lim := by
        have h1 := sums_len us [(0, 1)]
        have h2 : us.length ≤ 16 := by
          have := congrArg List.length e2
          simp only [List.length_append, List.length_cons] at this
          omega
        have h3 : 2 ^ us.length ≤ 2 ^ 16 := Nat.pow_le_pow_right (by decide) h2
        have h4 : (sumsZ us).length ≤ 2 ^ us.length * 1 := h1
        have h5 : lim = 16777216 := rfl
        omega
      obtain ⟨o', g1⟩ := sums_inner (X := X) t (sumsZ us) hl o4
      have hc : sumsZ (us ++ [t]) = smStep (sumsZ us) t := by unfold sumsZ; rw [List.foldl_append]; rfl
      refine ⟨_, _, rfl, seq2 sm_a (seq2 (sm_b g1) sm_c), ts, us ++ [t], some (.val (.int t)), none, o', rfl, by simpa using e2, by rw [hc]⟩)
  refine ⟨o2, o3, o4, ?_⟩
  have : ts = [] := by cases ts with | nil => rfl | cons _ _ => cases h2
  subst this
  rw [List.append_nil] at h3
  rw [h1, h4, h3]
theorem law_sums_ok {X : D} {cs : List Int} (hX : SeqI X cs) (hn : cs.length ≤ 16) : f__law_sums none [X] = .ok (.fresh (.dict (encZ (sumsZ cs))), none) := by
  obtain ⟨o2, o3, o4, h1⟩ := sums_outer (X := X) cs hn
  have h2 : encZ [(0, 1)] = [(PyData.int 0, PyData.int 1)] := rfl
  rw [h2] at h1
  apply bodyF_fresh (st := [some (.val X), none, o2, o3, o4])
  have hd : den__law_sums = sSeq (sSet (bOwn 1) (eDict1 (eC (.int 0)) (eC (.int 1)))) (sSeq (sFor (iSeq (eVar 0)) (bName 2) smOuter) (sRet (eMove 1))) := rfl
  rw [hd]
  generalize smOuter = B at h1
  rcases hX with rfl | rfl <;> simp [h1]
theorem sm_keys (c : Int) (l : ZD) : ∀ (ts : List Int) (later : ZD) (k : Int), k ∈ (ts.foldl (smPut c l) later).map (·.1) ↔ k ∈ later.map (·.1) ∨ ∃ t ∈ ts, k = t ∨ k = t + c
  | [], later, k => by simp
  | t :: ts, later, k => by
    rw [List.foldl_cons, sm_keys c l ts]
    unfold smPut
    rw [keys_put, keys_put]
    simp only [List.mem_cons]
    constructor
    · rintro ((h | h | h) | ⟨u, h1, h2⟩)
      · exact .inr ⟨t, .inl rfl, .inr h⟩
      · exact .inr ⟨t, .inl rfl, .inl h⟩
      · exact .inl h
      · exact .inr ⟨u, .inr h1, h2⟩
    · rintro (h | ⟨u, rfl | h1, h2⟩)
      · exact .inl (.inr (.inr h))
      · rcases h2 with h2 | h2
        · exact .inl (.inr (.inl h2))
        · exact .inl (.inl h2)
      · exact .inr ⟨u, h1, h2⟩
theorem smStep_keys (l : ZD) (c k : Int) : k ∈ (smStep l c).map (·.1) ↔ k ∈ l.map (·.1) ∨ k - c ∈ l.map (·.1) := by
  unfold smStep
  rw [sm_keys]
  constructor
  · rintro (h | ⟨t, h1, rfl | rfl⟩)
    · cases h
    · exact .inl h1
    · right
      have : t + c - c = t := by omega
      rw [this]; exact h1
  · rintro (h | h)
    · exact .inr ⟨k, h, .inl rfl⟩
    · exact .inr ⟨k - c, h, .inr (by omega)⟩
theorem sums_facts : ∀ (ds cs : List Int), (∀ k, k ∈ (sumsZ cs).map (·.1) ↔ Reach cs k) → ∀ k, k ∈ (sumsZ (cs ++ ds)).map (·.1) ↔ Reach (cs ++ ds) k
  | [], cs, h1 => by rw [List.append_nil]; exact h1
  | d :: ds, cs, h1 => by
    have e : cs ++ d :: ds = (cs ++ [d]) ++ ds := by simp
    rw [e]
    have hc : sumsZ (cs ++ [d]) = smStep (sumsZ cs) d := by unfold sumsZ; rw [List.foldl_append]; rfl
    refine sums_facts ds (cs ++ [d]) fun k => ?_
    rw [hc, smStep_keys, h1, h1, reach_snoc]
theorem sums_keys (cs : List Int) (k : Int) : k ∈ (sumsZ cs).map (·.1) ↔ Reach cs k := by
  have := sums_facts cs [] (fun k => by simp [sumsZ, reach_nil]) k
  rw [List.nil_append] at this
  exact this
end KK

end
section
namespace KK
open PySem QL
theorem law_random_payment_ok {m : Nat} {d : D} {cs mine : List Int} (h : OkS cs mine) (hs : Src (m + 24) d) : ∃ given got d', f__law_random_payment (some d) [stD cs mine] = .ok (.val (.tuple [tI given, tI got]), some d') ∧ given.Sublist mine ∧ got.Sublist (othersZ cs.length mine) ∧ Src m d' := by
  have hl1 : mine.length ≤ 12 := by
    have h1 := pw_len mine 0 cs.length h.hp h.hm
    have h2 := h.h1
    omega
  have hl2 : (othersZ cs.length mine).length ≤ 12 := by
    have h1 := List.length_filter_le (fun i => decide (i ∉ mine)) (zR cs.length)
    rw [zR_len] at h1
    have h2 := h.h1
    unfold othersZ
    omega
  obtain ⟨g1, d1, e1, s1, q1⟩ := law_some_ok (m := m + (othersZ cs.length mine).length) (ns := mine) (X := tI mine) (.inl rfl) (hs.mono (by omega))
  obtain ⟨g2, d2, e2, s2, q2⟩ := law_some_ok (m := m) (ns := othersZ cs.length mine) (X := tI (othersZ cs.length mine)) (.inl rfl) q1
  have e3 := others_of_ok h
  refine ⟨g1, g2, d2, bodyF_srt (st := [some (.own true d2), some (.val (stD cs mine))]) (r := .val (.tuple [tI g1, tI g2])) ?_ rfl rfl, s1, s2, q2⟩
  have hd : den__law_random_payment = sRet (eTup [eCallS f__law_some [] 0 [eOp2 gIx (eVar 1) (eC (.int 1))], eCallS f__law_some [] 0 [eCall f_others_of [] [eVar 1]]]) := rfl
  rw [hd]
  simp only [tI, iL] at e1 e2 e3
  simp [gIx, e1, e2, e3]
theorem lp1 {f : DF} {d d' P T : D} {a b : D} (e : f (some d) [T] = .ok (.val (.tuple [a, b]), some d')) : sSet (bTup [bName 2, bName 3]) (eCallS f [] 0 [eVar 1]) [some (.own true d), some (.val T), none, none, none] = .ok (.nx, [some (.own true d'), some (.val T), some (.val a), some (.val b), none]) := by
  simp [e]
theorem lp2 {f : DF} {d C M a b : D} {u v : Int} (e : f none [C, a] = .ok (.val (.int u), none)) (e2 : f none [C, b] = .ok (.val (.int v), none)) : sSet (bName 4) (eOp2 gSub (eCall f [] [eOp2 gIx (eVar 1) (eC (.int 0)), eVar 2]) (eCall f [] [eOp2 gIx (eVar 1) (eC (.int 0)), eVar 3])) [some (.own true d), some (.val (.tuple [C, M])), some (.val a), some (.val b), none] = .ok (.nx, [some (.own true d), some (.val (.tuple [C, M])), some (.val a), some (.val b), some (.val (.int (u - v)))]) := by
  simp [gIx, e, e2, gSub]
theorem lp3 {f g : DF} {d d1 d2 T a b : D} {p r x : Int} (e : g (some d) [.int 99] = .ok (.val (.int r), some d1)) (e2 : f (some d1) [.list [.int 0, .int 0, .int 0, .int 1, .int (-1), .int (r - 49)]] = .ok (.val (.int x), some d2)) : sSet (bName 4) (eOp2 gAdd (eVar 4) (eCallS f [] 0 [eLst [eC (.int 0), eC (.int 0), eC (.int 0), eC (.int 1), eOp1 gNeg (eC (.int 1)), eOp2 gSub (eCallS g [] 0 [eC (.int 99)]) (eC (.int 49))]])) [some (.own true d), some (.val T), some (.val a), some (.val b), some (.val (.int p))] = .ok (.nx, [some (.own true d2), some (.val T), some (.val a), some (.val b), some (.val (.int (p + x)))]) := by
  simp [gNeg, e, gSub, e2, gAdd]
theorem lp4 {st : DS} {p : Int} (h : st[4]? = some (some (.val (.int p)))) : ∃ q, sRet (eOp2 gMax2 (eOp1 gNeg (eC (.int 12000))) (eOp2 gMin2 (eC (.int 12000)) (eVar 4))) st = .ok (.rt (.val (.int q)), st) ∧ -12000 ≤ q ∧ q ≤ 12000 := by
  refine ⟨if (if p < 12000 then p else 12000) > -12000 then (if p < 12000 then p else 12000) else -12000, ?_, ?_, ?_⟩
  · simp [gNeg, gMax2, gMin2, h]
  · split <;> (try split) <;> omega
  · split <;> (try split) <;> omega
theorem law_price_ok {m : Nat} {d : D} {cs mine : List Int} (h : OkS cs mine) (hs : Src (m + 26) d) : ∃ p d', f__law_price (some d) [stD cs mine] = .ok (.val (.int p), some d') ∧ -12000 ≤ p ∧ p ≤ 12000 ∧ Src m d' := by
  obtain ⟨g1, g2, d1, e1, s1, s2, q1⟩ := law_random_payment_ok (m := m + 2) h (hs.mono (by omega))
  have w1 := worth_ok (X := tI cs) (Y := tI g1) (cs := cs) (.inl rfl) (.inl rfl) (fun i hi => h.hm i (s1.subset hi))
  have w2 := worth_ok (X := tI cs) (Y := tI g2) (cs := cs) (.inl rfl) (.inl rfl) (fun i hi => others_range i (s2.subset hi))
  obtain ⟨r, d2, e2, r0, r1, q2⟩ := law_draw_ok (m := m + 1) q1 (size := 99) (by decide) (by decide)
  obtain ⟨x, hx, d3, e3, q3⟩ := law_choice_ok (m := m) q2 (items := [.int 0, .int 0, .int 0, .int 1, .int (-1), .int (r - 49)]) (by simp) (by simp)
  have : ∃ y, x = .int y := by
    simp at hx
    rcases hx with rfl | rfl | rfl | rfl <;> exact ⟨_, rfl⟩
  obtain ⟨y, rfl⟩ := this
  obtain ⟨p, e4, p0, p1⟩ := lp4 (st := [some (.own true d3), some (.val (stD cs mine)), some (.val (tI g1)), some (.val (tI g2)), some (.val (.int (worthZ cs g1 - worthZ cs g2 + y)))]) rfl
  have hd : den__law_price = sSeq (sSet (bTup [bName 2, bName 3]) (eCallS f__law_random_payment [] 0 [eVar 1])) (sSeq (sSet (bName 4) (eOp2 gSub (eCall f_worth [] [eOp2 gIx (eVar 1) (eC (.int 0)), eVar 2]) (eCall f_worth [] [eOp2 gIx (eVar 1) (eC (.int 0)), eVar 3]))) (sSeq (sSet (bName 4) (eOp2 gAdd (eVar 4) (eCallS f__law_choice [] 0 [eLst [eC (.int 0), eC (.int 0), eC (.int 0), eC (.int 1), eOp1 gNeg (eC (.int 1)), eOp2 gSub (eCallS f__law_draw [] 0 [eC (.int 99)]) (eC (.int 49))]]))) (sRet (eOp2 gMax2 (eOp1 gNeg (eC (.int 12000))) (eOp2 gMin2 (eC (.int 12000)) (eVar 4)))))) := rfl
  have hb : den__law_price [some (.own true d), some (.val (stD cs mine)), none, none, none] = .ok (.rt (.val (.int p)), [some (.own true d3), some (.val (stD cs mine)), some (.val (tI g1)), some (.val (tI g2)), some (.val (.int (worthZ cs g1 - worthZ cs g2 + y)))]) := by
    rw [hd]
    exact seq2 (lp1 (P := .none) e1) (seq2 (lp2 w1 w2) (seq2 (lp3 e2 e3) e4))
  exact ⟨p, d3, bodyF_srt (n := 5) (ds := [stD cs mine]) hb rfl rfl, p0, p1, q3⟩
/-! ### equal -/
theorem kind_bool (b : Bool) : f__law_kind none [.bool b] = .ok (.val (.int 1), none) := by
  apply bodyF_rt (st := [some (.val (.bool b))])
  simp [den__law_kind, gIsi, isTy]
theorem kind_int (i : Int) : f__law_kind none [.int i] = .ok (.val (.int 2), none) := by
  apply bodyF_rt (st := [some (.val (.int i))])
  simp [den__law_kind, gIsi, isTy]
theorem equal_bool (n : Nat) (a b : Bool) : f__law_equal (n + 1) none [.bool a, .bool b] = .ok (.val (.bool (decide (a = b))), none) := by
  apply bodyF_rt (st := [some (.val (.bool a)), some (.val (.bool b)), none, none])
  simp [den__law_equal, kind_bool, gGt, gLt]
theorem equal_int (n : Nat) (a b : Int) : f__law_equal (n + 1) none [.int a, .int b] = .ok (.val (.bool (decide (a = b))), none) := by
  apply bodyF_rt (st := [some (.val (.int a)), some (.val (.int b)), none, none])
  simp [den__law_equal, kind_int, gGt, gLt]
end KK

end
section
namespace KK
open PySem QL
def absZ (i : Int) : Int := if i < 0 then -i else i
theorem minI_spec {l : List Int} {m : Int} (h : minI l = some m) : m ∈ l ∧ ∀ y ∈ l, m ≤ y := by
  cases l with
  | nil => cases h
  | cons n ns =>
    cases h
    exact fold_min ns n
theorem minI_some {l : List Int} (h : l ≠ []) : ∃ m, minI l = some m := by
  cases l with
  | nil => exact absurd rfl h
  | cons n ns => exact ⟨_, rfl⟩
theorem minI_ext {l l' : List Int} (h : ∀ x, x ∈ l ↔ x ∈ l') : minI l = minI l' := by
  cases hl : minI l with
  | none =>
    cases l with
    | nil =>
      cases l' with
      | nil => rfl
      | cons n ns => exact absurd ((h n).mpr List.mem_cons_self) (by simp)
    | cons n ns => cases hl
  | some m =>
    obtain ⟨h1, h2⟩ := minI_spec hl
    obtain ⟨m', hm'⟩ := minI_some (l := l') (fun e => by
      have := (h m).mp h1
      rw [e] at this
      cases this)
    obtain ⟨g1, g2⟩ := minI_spec hm'
    have e : m = m' := Int.le_antisymm (h2 _ ((h _).mpr g1)) (g2 _ ((h _).mp h1))
    rw [hm', e]
def best (w : Int) (ks : List Int) : List Int := ks.map fun t => absZ (w - 2 * t)
theorem me_comp {w : Int} {ks : List Int} {S : D} : compL (fun _ => True) [2] (bName 2) tYes (eOp1 gAbs (eOp2 gSub (eVar 1) (eOp2 gMul (eC (.int 2)) (eVar 2)))) (ks.map .int) [some (.val S), some (.val (.int w)), none] = .ok (ks.map fun t => .int (absZ (w - 2 * t)), [some (.val S), some (.val (.int w)), none]) := by
  apply compL_iLm _ trivial
  intro t _
  simp [stepC, wipeS, backS, keptA, gMul, smallI, gSub, gAbs, absZ]
theorem me1 {f : DF} {S : D} (e : f none [S] = .ok (.val .none, none)) : sExpr (eCall f [] [eVar 0]) [some (.val S), none, none] = .ok (.nx, [some (.val S), none, none]) := by simp [e]
theorem me2 {cs : List Int} {M : D} : sSet (bName 1) (eOp1 gSum (eOp2 gIx (eVar 0) (eC (.int 0)))) [some (.val (.tuple [tI cs, M])), none, none] = .ok (.nx, [some (.val (.tuple [tI cs, M])), some (.val (.int cs.sum)), none]) := by
  simp [gIx, gSum]
theorem me3 {f : DF} {cs : List Int} {M : D} {l : ZD} {w m : Int} (e : f none [tI cs] = .ok (.fresh (.dict (encZ l)), none)) (hm : minI (best w (l.map (·.1))) = some m) : sRet (eOp1 gMinL (eComp [2] (iKeysF (eCall f [] [eOp2 gIx (eVar 0) (eC (.int 0))])) (bName 2) tYes (eOp1 gAbs (eOp2 gSub (eVar 1) (eOp2 gMul (eC (.int 2)) (eVar 2)))))) [some (.val (.tuple [tI cs, M])), some (.val (.int w)), none] = .ok (.rt (.val (.int m)), [some (.val (.tuple [tI cs, M])), some (.val (.int w)), none]) := by
  have hk : iKeysF (eCall f [] [eOp2 gIx (eVar 0) (eC (.int 0))]) [some (.val (.tuple [tI cs, M])), some (.val (.int w)), none] = .ok ((l.map (·.1)).map PyData.int, [some (.val (.tuple [tI cs, M])), some (.val (.int w)), none]) := by
    simp only [tI, iL] at e
    simp [gIx, e]
  have hc := me_comp (w := w) (ks := l.map (·.1)) (S := .tuple [tI cs, M])
  have he : eComp [2] (iKeysF (eCall f [] [eOp2 gIx (eVar 0) (eC (.int 0))])) (bName 2) tYes (eOp1 gAbs (eOp2 gSub (eVar 1) (eOp2 gMul (eC (.int 2)) (eVar 2)))) [some (.val (.tuple [tI cs, M])), some (.val (.int w)), none] = .ok (.fresh (.list ((best w (l.map (·.1))).map .int)), [some (.val (.tuple [tI cs, M])), some (.val (.int w)), none]) := by
    unfold eComp
    rw [hk]
    simp only [R.ok_bind]
    rw [hc]
    simp [best]
  generalize eComp [2] (iKeysF (eCall f [] [eOp2 gIx (eVar 0) (eC (.int 0))])) (bName 2) tYes (eOp1 gAbs (eOp2 gSub (eVar 1) (eOp2 gMul (eC (.int 2)) (eVar 2)))) = Y at he ⊢
  simp [he, gMinL, hm]
theorem most_equal_ok {cs mine : List Int} (h : OkS cs mine) {m : Int} (hm : minI (best cs.sum ((countsZ cs).map (·.1))) = some m) : f_most_equal none [stD cs mine] = .ok (.val (.int m), none) := by
  have hd : den_most_equal = sSeq (sExpr (eCall f_check_state [] [eVar 0])) (sSeq (sSet (bName 1) (eOp1 gSum (eOp2 gIx (eVar 0) (eC (.int 0))))) (sRet (eOp1 gMinL (eComp [2] (iKeysF (eCall f_counts_for [] [eOp2 gIx (eVar 0) (eC (.int 0))])) (bName 2) tYes (eOp1 gAbs (eOp2 gSub (eVar 1) (eOp2 gMul (eC (.int 2)) (eVar 2)))))))) := rfl
  have hb : den_most_equal [some (.val (stD cs mine)), none, none] = .ok (.rt (.val (.int m)), [some (.val (stD cs mine)), some (.val (.int cs.sum)), none]) := by
    rw [hd]
    exact seq2 (me1 (check_state_ok h)) (seq2 me2 (me3 (counts_for_ok (.inl rfl) (by have := h.h1; omega)) hm))
  exact bodyF_rt (n := 3) (ds := [stD cs mine]) hb
/-! ### sorted -/
theorem noLst_iL : ∀ ns : List Int, noLstL (ns.map PyData.int) = true
  | [] => rfl
  | n :: ns => by
    show (noLst (.int n) && noLstL (ns.map PyData.int)) = true
    rw [noLst_iL ns]; rfl
theorem alike_int (i j : Int) : PySem.W.alike (.int i) (.int j) = true := by rfl
theorem sortOk_iL (ns : List Int) (h : ns.length ≤ 1000000) : sortOk (ns.map PyData.int) = true := by
  unfold sortOk
  simp only [Bool.and_eq_true, Bool.or_eq_true, List.all_eq_true, decide_eq_true_eq]
  refine ⟨⟨⟨⟨noLst_iL ns, ?_⟩, .inr fun d hd => ?_⟩, fun d hd => ?_⟩, ?_⟩
  · unfold alikeL
    rw [List.all_eq_true]
    intro d hd
    rw [List.all_eq_true]
    intro e he
    obtain ⟨i, _, rfl⟩ := List.mem_map.mp hd
    obtain ⟨j, _, rfl⟩ := List.mem_map.mp he
    exact alike_int i j
  · obtain ⟨i, _, rfl⟩ := List.mem_map.mp hd
    rfl
  · obtain ⟨i, _, rfl⟩ := List.mem_map.mp hd
    simp [PyData.depth]
  · have : lim = 16777216 := rfl
    rw [List.length_map]; omega
theorem perm_ints {xs : List D} {ns : List Int} (p : xs.Perm (ns.map PyData.int)) : ∃ zs : List Int, xs = zs.map PyData.int ∧ ∀ z, z ∈ zs ↔ z ∈ ns := by
  have h1 : ∀ x ∈ xs, ∃ i, x = PyData.int i := fun x hx => by
    obtain ⟨i, _, rfl⟩ := List.mem_map.mp (p.mem_iff.mp hx)
    exact ⟨i, rfl⟩
  have h2 : ∀ ys : List D, (∀ x ∈ ys, ∃ i, x = PyData.int i) → ∃ zs : List Int, ys = zs.map PyData.int := by
    intro ys
    induction ys with
    | nil => exact fun _ => ⟨[], rfl⟩
    | cons y ys ih =>
      intro h
      obtain ⟨i, rfl⟩ := h y List.mem_cons_self
      obtain ⟨zs, rfl⟩ := ih fun x hx => h x (List.mem_cons_of_mem _ hx)
      exact ⟨i :: zs, rfl⟩
  obtain ⟨zs, rfl⟩ := h2 xs h1
  refine ⟨zs, rfl, fun z => ?_⟩
  have h3 : ∀ (l : List Int), PyData.int z ∈ l.map PyData.int ↔ z ∈ l := fun l => by
    rw [List.mem_map]
    exact ⟨fun ⟨w, h, e⟩ => by cases e; exact h, fun h => ⟨z, h, rfl⟩⟩
  rw [← h3 zs, ← h3 ns]
  exact p.mem_iff
theorem sorted_dict (l : ZD) (h : l.length ≤ 1000000) : ∃ zs : List Int, gSorted (.dict (encZ l)) = some (.fresh (.list (zs.map .int))) ∧ ∀ z, z ∈ zs ↔ z ∈ l.map (·.1) := by
  obtain ⟨zs, h1, h2⟩ := perm_ints (List.mergeSort_perm ((l.map (·.1)).map PyData.int) (PySem.W.dataLe false id))
  refine ⟨zs, ?_, h2⟩
  have ho := sortOk_iL (l.map (·.1)) (by rw [List.length_map]; exact h)
  show (if sortOk (keysD (encZ l)) then some (RV.fresh (.list (sortD (keysD (encZ l))))) else none) = _
  rw [keysD_encZ]
  rw [if_pos ho]
  unfold sortD
  rw [h1]
theorem gSl_take (ns : List Int) (k : Nat) : gSl (.list (ns.map PyData.int)) none (some (k : Int)) = some (.fresh (.list ((ns.take k).map PyData.int))) := by
  have h0 : ¬ ((k : Int) < 0) := by omega
  have hs : sliceIx (ns.map PyData.int).length (ns.map PyData.int).length (some (k : Int)) = min k (ns.map PyData.int).length := by
    unfold sliceIx
    simp only [if_neg h0, Int.toNat_natCast]
  show some (RV.fresh (.list (cutD (ns.map PyData.int) 0 (sliceIx (ns.map PyData.int).length (ns.map PyData.int).length (some (k : Int)))))) = _
  rw [hs]
  unfold cutD
  rw [List.drop_zero, Nat.sub_zero, List.map_take]
  congr 3
  rw [List.length_map]
  by_cases hk : k ≤ ns.length
  · rw [Nat.min_eq_left hk]
  · rw [Nat.min_eq_right (by omega), List.take_of_length_le (by simp), List.take_of_length_le (by simp; omega)]
/-! ### bounds -/
theorem reach_bounds {cs : List Int} (h : ∀ c ∈ cs, 1 ≤ c ∧ c ≤ 1000) {k : Int} (hk : Reach cs k) : 0 ≤ k ∧ k ≤ 1000 * cs.length := by
  obtain ⟨s, hs, rfl⟩ := hk
  have h1 : ∀ t : List Int, (∀ c ∈ t, 1 ≤ c ∧ c ≤ 1000) → 0 ≤ t.sum ∧ t.sum ≤ 1000 * t.length := by
    intro t
    induction t with
    | nil => simp
    | cons c t ih =>
      intro h
      have a := h c List.mem_cons_self
      have b := ih fun x hx => h x (List.mem_cons_of_mem _ hx)
      simp only [List.sum_cons, List.length_cons]
      omega
  have h2 := h1 s fun c hc => h c (hs.subset hc)
  have h3 := hs.length_le
  omega
theorem vals_ok {cs mine : List Int} (h : OkS cs mine) : ∀ c ∈ mine.map (atZ cs), 1 ≤ c ∧ c ≤ 1000 := fun c hc => by
  obtain ⟨i, hi, rfl⟩ := List.mem_map.mp hc
  obtain ⟨h0, h1⟩ := h.hm i hi
  have hl : i.toNat < cs.length := by omega
  refine h.hc _ ?_
  unfold atZ
  rw [List.getD_eq_getElem?_getD, List.getElem?_eq_getElem hl]
  exact List.getElem_mem hl
theorem vals_len {cs mine : List Int} (h : OkS cs mine) : (mine.map (atZ cs)).length ≤ 12 := by
  have h1 := pw_len mine 0 cs.length h.hp h.hm
  have h2 := h.h1
  rw [List.length_map]
  omega
theorem zR_at (cs : List Int) : (zR cs.length).map (atZ cs) = cs := by
  unfold zR
  rw [List.map_map]
  apply List.ext_getElem?
  intro i
  rw [List.getElem?_map]
  by_cases h : i < cs.length
  · rw [List.getElem?_range h, List.getElem?_eq_getElem h]
    simp [atZ, h]
  · rw [List.getElem?_eq_none (by simpa using h), List.getElem?_eq_none (by omega)]
    rfl
theorem split_perm {cs mine : List Int} (h : OkS cs mine) : (mine.map (atZ cs) ++ (othersZ cs.length mine).map (atZ cs)).Perm cs := by
  have p1 : ((zR cs.length).filter (fun i => decide (i ∈ mine)) ++ (zR cs.length).filter (fun i => !decide (i ∈ mine))).Perm (zR cs.length) := List.filter_append_perm _ _
  have nd : ∀ {l : List Int}, l.Pairwise (· < ·) → l.Nodup := fun h => h.imp fun h => by omega
  have p2 : ((zR cs.length).filter (fun i => decide (i ∈ mine))).Perm mine := by
    rw [List.perm_ext_iff_of_nodup (nd ((pw_zR _).filter _)) (nd h.hp)]
    intro i
    rw [List.mem_filter, decide_eq_true_eq]
    exact ⟨fun h => h.2, fun hi => ⟨mem_zR.mpr (h.hm i hi), hi⟩⟩
  have e : (zR cs.length).filter (fun i => !decide (i ∈ mine)) = othersZ cs.length mine := by
    unfold othersZ
    congr 1
    funext i
    simp
  rw [e] at p1
  have p3 := ((p2.symm.append_right (othersZ cs.length mine)).trans p1).map (atZ cs)
  rw [List.map_append, zR_at] at p3
  exact p3
theorem own_pay {cs mine : List Int} (h : OkS cs mine) {p : Int} (hp : Reach (mine.map (atZ cs)) p) : Reach cs (p + worthZ cs (othersZ cs.length mine)) :=
  reach_perm (split_perm h) (reach_append hp (reach_all _))
end KK

end
section
/-! W1: rules for data, as rewriting goes. -/
namespace QL
open PySem
-- W
theorem w_ixT (xs : List D) (i : Int) : gIx (.tuple xs) (.int i) = (atD xs i).map .val := id rfl
-- W
theorem w_ixL (xs : List D) (i : Int) : gIx (.list xs) (.int i) = (atD xs i).map .val := id rfl
-- W
theorem w_ixD (kvs : List (D × D)) (k : D) : gIx (.dict kvs) k = (pairsFor (.dict kvs) k).bind fun q => (findD q k).map .val := by cases k <;> rfl
-- W
theorem w_at0 {α : Type} (a : α) (r : List α) : atD (a :: r) 0 = some a := atD_0 a r
-- W
theorem w_at1 {α : Type} (a b : α) (r : List α) : atD (a :: b :: r) 1 = some b := atD_1 a b r
-- W
theorem w_at2 {α : Type} (a b c : α) (r : List α) : atD (a :: b :: c :: r) 2 = some c := atD_2 a b c r
-- W
theorem w_map {α β : Type} (f : α → β) (a : α) : (some a).map f = some (f a) := id rfl
-- W
theorem w_bind {α β : Type} (f : α → Option β) (a : α) : (some a).bind f = f a := id rfl
-- W
theorem w_gd {α : Type} (a b : α) : (some a).getD b = a := id rfl
-- W
theorem w_gdn {α : Type} (b : α) : (none : Option α).getD b = b := id rfl
-- W
theorem w_isS {α : Type} (a : α) : (some a).isSome = true := id rfl
-- W
theorem w_isN {α : Type} : (none : Option α).isSome = false := id rfl
-- W
theorem w_add (i j : Int) : gAdd (.int i) (.int j) = some (.val (.int (i + j))) := id rfl
-- W
theorem w_sub (i j : Int) : gSub (.int i) (.int j) = some (.val (.int (i - j))) := id rfl
theorem w_mulL {i j : Int} (h : smallI i = true) : gMul (.int i) (.int j) = some (.val (.int (i * j))) := by simp [gMul, h]
theorem w_mulR {i j : Int} (h : smallI j = true) : gMul (.int i) (.int j) = some (.val (.int (i * j))) := by simp [gMul, h]
-- W
theorem w_mul2 (j : Int) : gMul (.int 2) (.int j) = some (.val (.int (2 * j))) := w_mulL (by decide)
theorem w_fdiv {i j : Int} (h : 0 < j) (h1 : j < 1073741824) : gFdiv (.int i) (.int j) = some (.val (.int (i / j))) := by simp [gFdiv, h, h1]
theorem w_mod {i j : Int} (h : 0 < j) : gMod (.int i) (.int j) = some (.val (.int (i % j))) := by simp [gMod, h]
-- W
theorem w_neg (i : Int) : gNeg (.int i) = some (.val (.int (-i))) := id rfl
-- W
theorem w_lt (i j : Int) : gLt (.int i) (.int j) = some (.val (.bool (decide (i < j)))) := id rfl
-- W
theorem w_le (i j : Int) : gLe (.int i) (.int j) = some (.val (.bool (decide (i ≤ j)))) := id rfl
-- W
theorem w_gt (i j : Int) : gGt (.int i) (.int j) = some (.val (.bool (decide (j < i)))) := id rfl
-- W
theorem w_ge (i j : Int) : gGe (.int i) (.int j) = some (.val (.bool (decide (j ≤ i)))) := id rfl
-- W
theorem w_eqI (i j : Int) : gEq (.int i) (.int j) = some (.val (.bool (decide (i = j)))) := gEq_int i j
-- W
theorem w_neI (i j : Int) : gNe (.int i) (.int j) = some (.val (.bool (decide (i ≠ j)))) := gNe_int i j
-- W
theorem w_eqB (i j : Bool) : gEq (.bool i) (.bool j) = some (.val (.bool (decide (i = j)))) := gEq_bool i j
-- W
theorem w_neB (i j : Bool) : gNe (.bool i) (.bool j) = some (.val (.bool (decide (i ≠ j)))) := by
  have : PyData.eqv (.bool i) (.bool j) = (i == j) := rfl
  cases i <;> cases j <;> simp [gNe, this]
-- W
theorem w_isBt (a b : Bool) : gIsB (.bool a) (.bool b) = some (.val (.bool (decide (a = b)))) := id rfl
-- W
theorem w_notBt (a b : Bool) : gNotB (.bool a) (.bool b) = some (.val (.bool (!decide (a = b)))) := id rfl
-- W
theorem w_isNN : gIsNo .none .none = some (.val (.bool true)) := id rfl
-- W
theorem w_isNb (b : Bool) : gIsNo (.bool b) .none = some (.val (.bool false)) := id rfl
-- W
theorem w_isNi (b : Int) : gIsNo (.int b) .none = some (.val (.bool false)) := id rfl
-- W
theorem w_isNl (b : List D) : gIsNo (.list b) .none = some (.val (.bool false)) := id rfl
-- W
theorem w_isNt (b : List D) : gIsNo (.tuple b) .none = some (.val (.bool false)) := id rfl
-- W
theorem w_notNN : gNotNo .none .none = some (.val (.bool false)) := id rfl
-- W
theorem w_notNb (b : Bool) : gNotNo (.bool b) .none = some (.val (.bool true)) := id rfl
-- W
theorem w_notNi (b : Int) : gNotNo (.int b) .none = some (.val (.bool true)) := id rfl
-- W
theorem w_notNl (b : List D) : gNotNo (.list b) .none = some (.val (.bool true)) := id rfl
-- W
theorem w_notNt (b : List D) : gNotNo (.tuple b) .none = some (.val (.bool true)) := id rfl
-- W
theorem w_lenL (xs : List D) : gLen (.list xs) = some (.val (.int xs.length)) := id rfl
-- W
theorem w_lenT (xs : List D) : gLen (.tuple xs) = some (.val (.int xs.length)) := id rfl
-- W
theorem w_lenZ (l : ZD) : gLen (.dict (encZ l)) = some (.val (.int l.length)) := by
  show vI ((if isMark (encZ l) = true then (encZ l).tail else encZ l).length : Int) = _
  rw [isMark_encZ, if_neg (by decide), len_encZ]; rfl
-- W
theorem w_sumL (ns : List Int) : gSum (.list (ns.map .int)) = some (.val (.int ns.sum)) := by simp [gSum]
-- W
theorem w_sumT (ns : List Int) : gSum (.tuple (ns.map .int)) = some (.val (.int ns.sum)) := by simp [gSum]
-- W
theorem w_sumLf {α : Type} (f : α → Int) (ns : List α) : gSum (.list (ns.map fun x => .int (f x))) = some (.val (.int (ns.map f).sum)) := by
  have : (ns.map fun x => PyData.int (f x)) = (ns.map f).map .int := by rw [List.map_map]; rfl
  rw [this, w_sumL]
-- W
theorem w_allLf {α : Type} (f : α → Bool) (ns : List α) : gAll (.list (ns.map fun x => .bool (f x))) = some (.val (.bool (ns.all f))) := by
  have : (ns.map fun x => PyData.bool (f x)) = (ns.map f).map .bool := by rw [List.map_map]; rfl
  show ((boolsD (ns.map fun x => PyData.bool (f x))).bind fun bs => vB (bs.all id)) = _
  rw [this, boolsD_map]
  simp [List.all_map, Function.comp_def]
-- W
theorem w_tupL (xs : List D) : gTuple (.list xs) = some (.val (.tuple xs)) := id rfl
-- W
theorem w_tupT (xs : List D) : gTuple (.tuple xs) = some (.val (.tuple xs)) := id rfl
-- W
theorem w_lstL (xs : List D) : gList (.list xs) = some (.fresh (.list xs)) := id rfl
-- W
theorem w_lstT (xs : List D) : gList (.tuple xs) = some (.fresh (.list xs)) := id rfl
-- W
theorem w_int (i : Int) : gInt (.int i) = some (.val (.int i)) := id rfl
-- W
theorem w_min2 (i j : Int) : gMin2 (.int i) (.int j) = some (.val (.int (if j < i then j else i))) := id rfl
-- W
theorem w_max2 (i j : Int) : gMax2 (.int i) (.int j) = some (.val (.int (if j > i then j else i))) := id rfl
-- W
theorem w_copyZ (l : ZD) : gCopy (.dict (encZ l)) = some (.fresh (.dict (encZ l))) := by simp [gCopy]
-- W
theorem w_pairsZ (l : ZD) (k : Int) : pairsFor (.dict (encZ l)) (.int k) = some (encZ l) := pairsFor_encZ l k
-- W
theorem w_findZ (l : ZD) (k : Int) : findD (encZ l) (.int k) = (getZ l k).map .int := findD_encZ l k
-- W
theorem w_keysZ (l : ZD) : keysD (encZ l) = (l.map (·.1)).map .int := keysD_encZ l
theorem w_putZ {l : ZD} {k v : Int} (h : l.length < 16000000) : putC (.dict (encZ l)) (.int k) (.int v) = some (.dict (encZ (putZ l k v))) := by
  have : ¬ lim ≤ l.length := by have : lim = 16777216 := rfl; omega
  show (if isMark (encZ l) = true ∨ lim ≤ (encZ l).length then none else some (PyData.dict (putD (encZ l) (.int k) (.int v)))) = _
  rw [if_neg (by rw [isMark_encZ, len_encZ]; simp [this]), putD_encZ]
-- W
theorem w_inZ (l : ZD) (k : Int) : gIn (.int k) (.dict (encZ l)) = some (.val (.bool (getZ l k).isSome)) := by
  show ((pairsFor (.dict (encZ l)) (.int k)).bind fun kvs => vB (findD kvs (.int k)).isSome) = _
  rw [pairsFor_encZ]
  simp
-- W
theorem w_notInZ (l : ZD) (k : Int) : gNotIn (.int k) (.dict (encZ l)) = some (.val (.bool (!(getZ l k).isSome))) := by
  unfold gNotIn
  rw [w_inZ]; rfl
-- W
theorem w_inT (k : Int) (ns : List Int) : gIn (.int k) (.tuple (ns.map .int)) = some (.val (.bool (decide (k ∈ ns)))) := gIn_tI k ns
-- W
theorem w_notInT (k : Int) (ns : List Int) : gNotIn (.int k) (.tuple (ns.map .int)) = some (.val (.bool (decide (k ∉ ns)))) := gNotIn_tI k ns
-- W
theorem w_inL (k : Int) (ns : List Int) : gIn (.int k) (.list (ns.map .int)) = some (.val (.bool (decide (k ∈ ns)))) := by
  have h := gIn_tI k ns
  exact h
-- W
theorem w_notInL (k : Int) (ns : List Int) : gNotIn (.int k) (.list (ns.map .int)) = some (.val (.bool (decide (k ∉ ns)))) := by
  have h := gNotIn_tI k ns
  exact h
-- W
theorem w_intOf (g : Int → Int → Option RV) (i j : Int) : intOf g i (.int j) = g i j := id rfl
-- W
theorem w_intOf2 (g : Int → Int → Option RV) (i j : Int) : intOf2 g (.int i) (.int j) = g i j := id rfl
theorem w_listRg {i j : Int} (h : -1000000 ≤ i) (h1 : i ≤ 1000000) (h2 : -1000000 ≤ j) (h3 : j ≤ 1000000) : gListRg i j = some (.fresh (.list (rangeD i j))) := by
  unfold gListRg
  have : rgGood i j = true := by
    unfold rgGood lim
    simp only [Bool.and_eq_true, decide_eq_true_eq]
    omega
  rw [if_pos this]
theorem w_tupRg {i j : Int} (h : -1000000 ≤ i) (h1 : i ≤ 1000000) (h2 : -1000000 ≤ j) (h3 : j ≤ 1000000) : gTupleRg i j = some (.val (.tuple (rangeD i j))) := by
  unfold gTupleRg
  have : rgGood i j = true := by
    unfold rgGood lim
    simp only [Bool.and_eq_true, decide_eq_true_eq]
    omega
  rw [if_pos this]
-- W
theorem w_revL (xs : List D) : gRev (.list xs) = some (.fresh (.list xs.reverse)) := id rfl
-- W
theorem w_revT (xs : List D) : gRev (.tuple xs) = some (.val (.tuple xs.reverse)) := id rfl
-- W
theorem w_addL (xs ys : List D) : gAdd (.list xs) (.list ys) = if xs.length + ys.length ≤ lim then some (.fresh (.list (xs ++ ys))) else none := id rfl
-- W
theorem w_addT (xs ys : List D) : gAdd (.tuple xs) (.tuple ys) = if xs.length + ys.length ≤ lim then some (.val (.tuple (xs ++ ys))) else none := id rfl
-- W
theorem oS_lim {α : Type} (n : Nat) (o : α) (Q : α → Prop) : oS (if n ≤ lim then some o else none) Q = wLim n (Q o) := by
  unfold wLim
  by_cases h : n ≤ lim
  · rw [if_pos h]; simp only [h, true_and]; rfl
  · rw [if_neg h]; simp only [h, false_and]; rfl
-- W
theorem w_dT {d : Bool} : decide (d = true) = d := by cases d <;> rfl
-- W
theorem w_dF {d : Bool} : decide (d = false) = !d := by cases d <;> rfl
-- W
theorem w_nt : (!true) = false := id rfl
-- W
theorem w_nf : (!false) = true := id rfl
-- W
theorem w_nn (b : Bool) : (!!b) = b := by cases b <;> rfl
-- W
theorem w_andT (P : Prop) : (P ∧ True) = P := and_true P
-- W
theorem w_Tand (P : Prop) : (True ∧ P) = P := true_and P
-- W
theorem w_lenMap {α β : Type} (f : α → β) (l : List α) : (l.map f).length = l.length := List.length_map f
theorem w_mapmap {α β γ : Type} (g : β → γ) (f : α → β) (l : List α) : (l.map f).map g = l.map fun x => g (f x) := by rw [List.map_map]; rfl
-- W
theorem w_isi_int_int (i : Int) : gIsi [.int] (.int i) = some (.val (.bool true)) := id rfl
-- W
theorem w_isi_int_bool (b : Bool) : gIsi [.int] (.bool b) = some (.val (.bool true)) := id rfl
-- W
theorem w_isi_int_str (s : Str) : gIsi [.int] (.str s) = some (.val (.bool false)) := id rfl
-- W
theorem w_isi_int_list (l : List D) : gIsi [.int] (.list l) = some (.val (.bool false)) := id rfl
-- W
theorem w_isi_int_tuple (l : List D) : gIsi [.int] (.tuple l) = some (.val (.bool false)) := id rfl
-- W
theorem w_isi_int_none  : gIsi [.int] .none = some (.val (.bool false)) := id rfl
-- W
theorem w_isi_bool_int (i : Int) : gIsi [.bool] (.int i) = some (.val (.bool false)) := id rfl
-- W
theorem w_isi_bool_bool (b : Bool) : gIsi [.bool] (.bool b) = some (.val (.bool true)) := id rfl
-- W
theorem w_isi_bool_str (s : Str) : gIsi [.bool] (.str s) = some (.val (.bool false)) := id rfl
-- W
theorem w_isi_bool_list (l : List D) : gIsi [.bool] (.list l) = some (.val (.bool false)) := id rfl
-- W
theorem w_isi_bool_tuple (l : List D) : gIsi [.bool] (.tuple l) = some (.val (.bool false)) := id rfl
-- W
theorem w_isi_bool_none  : gIsi [.bool] .none = some (.val (.bool false)) := id rfl
-- W
theorem w_isi_str_int (i : Int) : gIsi [.str] (.int i) = some (.val (.bool false)) := id rfl
-- W
theorem w_isi_str_bool (b : Bool) : gIsi [.str] (.bool b) = some (.val (.bool false)) := id rfl
-- W
theorem w_isi_str_str (s : Str) : gIsi [.str] (.str s) = some (.val (.bool true)) := id rfl
-- W
theorem w_isi_str_list (l : List D) : gIsi [.str] (.list l) = some (.val (.bool false)) := id rfl
-- W
theorem w_isi_str_tuple (l : List D) : gIsi [.str] (.tuple l) = some (.val (.bool false)) := id rfl
-- W
theorem w_isi_str_none  : gIsi [.str] .none = some (.val (.bool false)) := id rfl
-- W
theorem w_isi_list_int (i : Int) : gIsi [.list] (.int i) = some (.val (.bool false)) := id rfl
-- W
theorem w_isi_list_bool (b : Bool) : gIsi [.list] (.bool b) = some (.val (.bool false)) := id rfl
-- W
theorem w_isi_list_str (s : Str) : gIsi [.list] (.str s) = some (.val (.bool false)) := id rfl
-- W
theorem w_isi_list_list (l : List D) : gIsi [.list] (.list l) = some (.val (.bool true)) := id rfl
-- W
theorem w_isi_list_tuple (l : List D) : gIsi [.list] (.tuple l) = some (.val (.bool false)) := id rfl
-- W
theorem w_isi_list_none  : gIsi [.list] .none = some (.val (.bool false)) := id rfl
-- W
theorem w_isi_tuple_int (i : Int) : gIsi [.tuple] (.int i) = some (.val (.bool false)) := id rfl
-- W
theorem w_isi_tuple_bool (b : Bool) : gIsi [.tuple] (.bool b) = some (.val (.bool false)) := id rfl
-- W
theorem w_isi_tuple_str (s : Str) : gIsi [.tuple] (.str s) = some (.val (.bool false)) := id rfl
-- W
theorem w_isi_tuple_list (l : List D) : gIsi [.tuple] (.list l) = some (.val (.bool false)) := id rfl
-- W
theorem w_isi_tuple_tuple (l : List D) : gIsi [.tuple] (.tuple l) = some (.val (.bool true)) := id rfl
-- W
theorem w_isi_tuple_none  : gIsi [.tuple] .none = some (.val (.bool false)) := id rfl
-- W
theorem w_isi2_int (i : Int) : gIsi [.tuple, .list] (.int i) = some (.val (.bool false)) := id rfl
-- W
theorem w_isi2_bool (b : Bool) : gIsi [.tuple, .list] (.bool b) = some (.val (.bool false)) := id rfl
-- W
theorem w_isi2_str (s : Str) : gIsi [.tuple, .list] (.str s) = some (.val (.bool false)) := id rfl
-- W
theorem w_isi2_list (l : List D) : gIsi [.tuple, .list] (.list l) = some (.val (.bool true)) := id rfl
-- W
theorem w_isi2_tuple (l : List D) : gIsi [.tuple, .list] (.tuple l) = some (.val (.bool true)) := id rfl
-- W
theorem w_isi2_none  : gIsi [.tuple, .list] .none = some (.val (.bool false)) := id rfl
end QL

end
section
/-! S8: sets of coins, payments. -/
namespace KK
open PySem QL
local macro_rules | `(tactic| simp! only [$xs,*]) => `(tactic| simp only [↓QL.oVar_val, ↓QL.oVar_own, ↓QL.oBor_val, ↓QL.oBor_own, ↓QL.oMove_val, ↓QL.oMove_own, ↓QL.oOwn_own, ↓QL.oDict_val, ↓QL.oDict_own, ↓QL.oI_int, ↓QL.oB_bool, ↓QL.oSq_l, ↓QL.oSq_t, ↓QL.oTp_t, ↓QL.oLs_t, ↓QL.oDc_t, ↓QL.oV_val, ↓QL.oV_fresh, ↓QL.oN_val, ↓QL.oN_fresh, ↓QL.oS_some, ↓QL.lv_val, ↓QL.lv_fresh, ↓QL.lv_bor, ↓QL.oLv_own, ↓QL.rvd_val, ↓QL.rvd_fresh, ↓QL.rvd_bor, ↓QL.sg0, ↓QL.ss0, ↓QL.sg1, ↓QL.ss1, ↓QL.sg2, ↓QL.ss2, ↓QL.sg3, ↓QL.ss3, ↓QL.sg4, ↓QL.ss4, ↓QL.sg5, ↓QL.ss5, ↓QL.sg6, ↓QL.ss6, ↓QL.sg7, ↓QL.ss7, ↓QL.sg8, ↓QL.ss8, ↓QL.sg9, ↓QL.ss9, ↓QL.sg10, ↓QL.ss10, ↓QL.sg11, ↓QL.ss11, ↓QL.sg12, ↓QL.ss12, ↓QL.sg13, ↓QL.ss13, ↓QL.sg14, ↓QL.ss14, ↓QL.sg15, ↓QL.ss15, ↓QL.sg16, ↓QL.ss16, ↓QL.sg17, ↓QL.ss17, ↓QL.sg18, ↓QL.ss18, ↓QL.sg19, ↓QL.ss19, ↓QL.sg20, ↓QL.ss20, ↓QL.sg21, ↓QL.ss21, ↓QL.sg22, ↓QL.ss22, ↓QL.sg23, ↓QL.ss23, ↓QL.wE_C, ↓QL.wE_var, ↓QL.wE_bor, ↓QL.wE_move, ↓QL.wE_op1, ↓QL.wE_op2, ↓QL.wA_nil, ↓QL.wA_cons, ↓QL.wE_tup, ↓QL.wE_lst, ↓QL.wT_of, ↓QL.wT_not, ↓QL.wB_true, ↓QL.wB_false, ↓QL.wB_not, ↓QL.wT_and, ↓QL.wT_or, ↓QL.wT_yes, ↓QL.wE_not, ↓QL.wE_and, ↓QL.wE_or, ↓QL.wE_if, ↓QL.oCh_b, ↓QL.wE_chain, ↓QL.wP_some, ↓QL.wP_none, ↓QL.wE_sl, ↓QL.wE_get, ↓QL.wE_call, ↓QL.wE_callS, ↓QL.wAB_nil, ↓QL.wAB_cons, ↓QL.oSc_bool, ↓QL.oSc_int, ↓QL.rl_nil, ↓QL.rl_cons, ↓QL.wE_callB, ↓QL.la_nil, ↓QL.la_cons, ↓QL.la_nil2, ↓QL.wS_next, ↓QL.wS_seq, ↓QL.wS_expr, ↓QL.wS_ret, ↓QL.wS_retN, ↓QL.wS_brk, ↓QL.wS_cnt, ↓QL.wS_if, ↓QL.wS_set, ↓QL.wG_name, ↓QL.wG_own_v, ↓QL.wG_own_f, ↓QL.wG_tup, ↓QL.wGs_nil, ↓QL.wGs_cons, ↓QL.wAR_nil, ↓QL.wAR_cons, ↓QL.wS_par, ↓QL.wSt_nil, ↓QL.wSt_cons_t, ↓QL.wSt_cons_f, ↓QL.oVl_int, ↓QL.wS_augI, ↓QL.fAdd_eq, ↓QL.fSub_eq, ↓QL.oExt_eq, ↓QL.wS_ext, ↓QL.wS_put, ↓QL.oOwnL_own, ↓QL.wS_append, ↓QL.wE_dictK, ↓QL.wE_dictT, ↓QL.oKi_int, ↓QL.wE_dict1, ↓QL.wI_seq, ↓QL.wI_rng1, ↓QL.wI_rng2, ↓QL.wE_listRg1, ↓QL.wE_tupleRg1, ↓QL.wE_listRg2, ↓QL.wE_tupleRg2, ↓QL.oFd_eq, ↓QL.wI_keysF, ↓QL.oL1_tup, ↓QL.oL1_eq, ↓QL.wI_enum, ↓QL.oL2_l, ↓QL.oL2_t, ↓QL.wI_zip, ↓QL.loopE_ct, ↓QL.loopE_bk, ↓QL.loopE_rt, ↓QL.wS_for, ↓QL.wS_forK, ↓QL.wL_nil, ↓QL.wS_while, ↓QL.w_wipe_nil, ↓QL.w_wipe_cons, ↓QL.w_back_nil, ↓QL.w_back_cons, ↓QL.kept_val, ↓QL.kept_own, ↓QL.kept_none, ↓QL.wE_comp, ↓QL.wE_compK, ↓QL.wE_compB, ↓QL.wRt_val, ↓QL.wRt_fresh, ↓QL.w0_own, ↓QL.w_ixT, ↓QL.w_ixL, ↓QL.w_ixD, ↓QL.w_at0, ↓QL.w_at1, ↓QL.w_at2, ↓QL.w_map, ↓QL.w_bind, ↓QL.w_gd, ↓QL.w_gdn, ↓QL.w_isS, ↓QL.w_isN, ↓QL.w_add, ↓QL.w_sub, ↓QL.w_mul2, ↓QL.w_neg, ↓QL.w_lt, ↓QL.w_le, ↓QL.w_gt, ↓QL.w_ge, ↓QL.w_eqI, ↓QL.w_neI, ↓QL.w_eqB, ↓QL.w_neB, ↓QL.w_isBt, ↓QL.w_notBt, ↓QL.w_isNN, ↓QL.w_isNb, ↓QL.w_isNi, ↓QL.w_isNl, ↓QL.w_isNt, ↓QL.w_notNN, ↓QL.w_notNb, ↓QL.w_notNi, ↓QL.w_notNl, ↓QL.w_notNt, ↓QL.w_lenL, ↓QL.w_lenT, ↓QL.w_lenZ, ↓QL.w_sumL, ↓QL.w_sumT, ↓QL.w_sumLf, ↓QL.w_allLf, ↓QL.w_tupL, ↓QL.w_tupT, ↓QL.w_lstL, ↓QL.w_lstT, ↓QL.w_int, ↓QL.w_min2, ↓QL.w_max2, ↓QL.w_copyZ, ↓QL.w_pairsZ, ↓QL.w_findZ, ↓QL.w_keysZ, ↓QL.w_inZ, ↓QL.w_notInZ, ↓QL.w_inT, ↓QL.w_notInT, ↓QL.w_inL, ↓QL.w_notInL, ↓QL.w_intOf, ↓QL.w_intOf2, ↓QL.w_revL, ↓QL.w_revT, ↓QL.w_addL, ↓QL.w_addT, ↓QL.oS_lim, ↓QL.w_dT, ↓QL.w_dF, ↓QL.w_nt, ↓QL.w_nf, ↓QL.w_nn, ↓QL.w_andT, ↓QL.w_Tand, ↓QL.w_lenMap, ↓QL.w_isi_int_int, ↓QL.w_isi_int_bool, ↓QL.w_isi_int_str, ↓QL.w_isi_int_list, ↓QL.w_isi_int_tuple, ↓QL.w_isi_int_none, ↓QL.w_isi_bool_int, ↓QL.w_isi_bool_bool, ↓QL.w_isi_bool_str, ↓QL.w_isi_bool_list, ↓QL.w_isi_bool_tuple, ↓QL.w_isi_bool_none, ↓QL.w_isi_str_int, ↓QL.w_isi_str_bool, ↓QL.w_isi_str_str, ↓QL.w_isi_str_list, ↓QL.w_isi_str_tuple, ↓QL.w_isi_str_none, ↓QL.w_isi_list_int, ↓QL.w_isi_list_bool, ↓QL.w_isi_list_str, ↓QL.w_isi_list_list, ↓QL.w_isi_list_tuple, ↓QL.w_isi_list_none, ↓QL.w_isi_tuple_int, ↓QL.w_isi_tuple_bool, ↓QL.w_isi_tuple_str, ↓QL.w_isi_tuple_list, ↓QL.w_isi_tuple_tuple, ↓QL.w_isi_tuple_none, ↓QL.w_isi2_int, ↓QL.w_isi2_bool, ↓QL.w_isi2_str, ↓QL.w_isi2_list, ↓QL.w_isi2_tuple, ↓QL.w_isi2_none, $xs,*])
/-- all sets of some items, as the loops make them -/
def setsOf (items : List Int) : List (List Int) := items.foldl (fun f i => f ++ f.map (· ++ [i])) [[]]
theorem setsOf_snoc (items : List Int) (i : Int) : setsOf (items ++ [i]) = setsOf items ++ (setsOf items).map (· ++ [i]) := by
  unfold setsOf
  rw [List.foldl_append]; rfl
theorem setsOf_len (items : List Int) : (setsOf items).length = 2 ^ items.length := by
  have h : ∀ (f : List (List Int)), (items.foldl (fun f i => f ++ f.map (· ++ [i])) f).length = 2 ^ items.length * f.length := by
    induction items with
    | nil => intro f; simp
    | cons i items ih =>
      intro f
      rw [List.foldl_cons, ih]
      simp only [List.length_append, List.length_map, List.length_cons, Nat.pow_succ]
      rw [← Nat.two_mul, Nat.mul_assoc]
  have := h [[]]
  rw [List.length_singleton, Nat.mul_one] at this
  exact this
theorem mem_setsOf_aux : ∀ (r items : List Int), (∀ s, s ∈ setsOf items ↔ s.Sublist items) → ∀ s, s ∈ setsOf (items ++ r) ↔ s.Sublist (items ++ r)
  | [], items, h, s => by rw [List.append_nil]; exact h s
  | i :: r, items, h, s => by
    have e : items ++ i :: r = (items ++ [i]) ++ r := by simp
    rw [e]
    refine mem_setsOf_aux r _ (fun s => ?_) s
    rw [setsOf_snoc, List.mem_append, List.mem_map, h]
    constructor
    · rintro (h1 | ⟨t, h1, rfl⟩)
      · exact h1.trans (List.sublist_append_left _ _)
      · exact ((h t).mp h1).append (List.Sublist.refl _)
    · intro h1
      obtain ⟨l1, l2, rfl, h2, h3⟩ := List.sublist_append_iff.mp h1
      cases h3 with
      | cons _ h4 =>
        rw [List.sublist_nil] at h4
        subst h4
        exact .inl (by simpa using h2)
      | cons_cons _ h4 =>
        rw [List.sublist_nil] at h4
        subst h4
        exact .inr ⟨l1, (h _).mpr h2, rfl⟩
theorem mem_setsOf {items s : List Int} : s ∈ setsOf items ↔ s.Sublist items := by
  have := mem_setsOf_aux items [] (fun s => by simp [setsOf]) s
  simpa using this
theorem tI_snoc (s : List Int) (i : Int) : PyData.tuple (s.map .int ++ [.int i]) = tI (s ++ [i]) := by simp
theorem pow16 {n : Nat} (h : n ≤ 16) : 2 ^ n ≤ 65536 := Nat.pow_le_pow_right (n := 2) (by decide) h
theorem all_sets_ok (n : Nat) (hn : n ≤ 16) : f_all_sets none [.int (n : Int)] = .ok (.fresh (.list ((setsOf (zR n)).map tI)), none) := by
  apply wF_eq
  rw [wd_all_sets]
  simp! only []
  rw [wRg_of (by omega) (by omega) (by omega) (by omega), rangeD_zR]
  refine wL_inv PyData.int (fun r s => ∃ us o, us ++ r = zR n ∧ s = [some (.val (.int n)), some (.own false (.list ((setsOf us).map tI))), o, none]) ?_ ⟨[], none, rfl, rfl⟩ ?_
  · rintro s ⟨us, o, hu, rfl⟩
    rw [List.append_nil] at hu
    subst hu
    simp! only [and_self]
  · rintro i r s hi ⟨us, o, hu, rfl⟩
    have hl : us.length + 1 ≤ n := by
      have := congrArg List.length hu
      rw [List.length_append, List.length_cons, zR_len] at this
      omega
    have hp := pow16 (n := us.length) (by omega)
    simp! only []
    refine wC_mapF tI (fun s => tI (s ++ [i])) (by rfl) (fun s hs => ?_) ?_
    · have hs' := (mem_setsOf.mp hs).length_le
      simp! only [wK]
      rw [wLim_of (by simp only [List.length_cons, List.length_nil]; omega), tI_snoc]
    · simp! only []
      rw [wLim_of (by rw [setsOf_len]; omega)]
      refine ⟨us ++ [i], some (.val (.int i)), by simpa using hu, ?_⟩
      rw [setsOf_snoc, List.map_append, List.map_map]
      rfl
theorem law_sets_ok {X : D} {items : List Int} (hX : SeqI X items) (hn : items.length ≤ 16) : f__law_sets none [X] = .ok (.val (.list ((setsOf items).map tI)), none) := by
  apply wF_eq
  rw [wd__law_sets]
  have hh : ∀ (N : DS → Prop) (E : Fl → DS → Prop), (∀ o, N [some (.val X), some (.val (.list ((setsOf items).map tI))), o, none]) → wL (bName 2) (sSet (bName 1) (eOp2 gAdd (eVar 1) (eComp [3] (iSeq (eVar 1)) (bName 3) tYes (eOp2 gAdd (eVar 3) (eTup [eVar 2]))))) (items.map .int) [some (.val X), some (.val (.list [.tuple []])), none, none] N E := by
    intro N E hN
    refine wL_inv PyData.int (fun r s => ∃ us o, us ++ r = items ∧ s = [some (.val X), some (.val (.list ((setsOf us).map tI))), o, none]) ?_ ⟨[], none, rfl, rfl⟩ ?_
    · rintro s ⟨us, o, hu, rfl⟩
      rw [List.append_nil] at hu
      subst hu
      exact hN o
    · rintro i r s hi ⟨us, o, hu, rfl⟩
      have hl : us.length + 1 ≤ items.length := by
        have := congrArg List.length hu
        rw [List.length_append, List.length_cons] at this
        omega
      have hp := pow16 (n := us.length) (by omega)
      simp! only []
      refine wC_mapF tI (fun s => tI (s ++ [i])) trivial (fun s hs => ?_) ?_
      · have hs' := (mem_setsOf.mp hs).length_le
        simp! only [wK]
        rw [wLim_of (by simp only [List.length_cons, List.length_nil]; omega), tI_snoc]
      · simp! only []
        rw [wLim_of (by rw [setsOf_len]; omega)]
        refine ⟨us ++ [i], some (.val (.int i)), by simpa using hu, ?_⟩
        rw [setsOf_snoc, List.map_append, List.map_map]
        rfl
  rcases hX with rfl | rfl <;> simp! only [] <;> refine hh _ _ fun o => ?_ <;> simp! only [and_self]
/-! ### exchange -/
def diffZ (a b : List Int) : List Int := a.filter fun i => decide (i ∉ b)
abbrev tP (p : List Int × List Int) : D := .tuple [tI p.1, tI p.2]
def exchZ (mine m : List Int) : List Int × List Int := (diffZ mine m, diffZ m mine)
theorem exchange_ok (C : D) (mine m : List Int) : f_exchange none [.tuple [C, tI mine], tI m] = .ok (.val (tP (exchZ mine m)), none) := by
  apply wF_eq
  rw [wd_exchange]
  simp! only []
  refine wC_filter PyData.int (fun i => decide (i ∉ m)) PyData.int trivial (fun i hi => ?_) ?_
  · simp! only [wK]
    by_cases h : i ∈ m <;> simp [wB, h]
  · simp! only []
    refine wC_filter PyData.int (fun i => decide (i ∉ mine)) PyData.int trivial (fun i hi => ?_) ?_
    · simp! only [wK]
      by_cases h : i ∈ mine <;> simp [wB, h]
    · rfl
end KK

end
section
/-! S9: equality of data, sorting, the law's own equality. -/
namespace KK
open PySem QL
local macro_rules | `(tactic| simp! only [$xs,*]) => `(tactic| simp only [↓QL.oVar_val, ↓QL.oVar_own, ↓QL.oBor_val, ↓QL.oBor_own, ↓QL.oMove_val, ↓QL.oMove_own, ↓QL.oOwn_own, ↓QL.oDict_val, ↓QL.oDict_own, ↓QL.oI_int, ↓QL.oB_bool, ↓QL.oSq_l, ↓QL.oSq_t, ↓QL.oTp_t, ↓QL.oLs_t, ↓QL.oDc_t, ↓QL.oV_val, ↓QL.oV_fresh, ↓QL.oN_val, ↓QL.oN_fresh, ↓QL.oS_some, ↓QL.lv_val, ↓QL.lv_fresh, ↓QL.lv_bor, ↓QL.oLv_own, ↓QL.rvd_val, ↓QL.rvd_fresh, ↓QL.rvd_bor, ↓QL.sg0, ↓QL.ss0, ↓QL.sg1, ↓QL.ss1, ↓QL.sg2, ↓QL.ss2, ↓QL.sg3, ↓QL.ss3, ↓QL.sg4, ↓QL.ss4, ↓QL.sg5, ↓QL.ss5, ↓QL.sg6, ↓QL.ss6, ↓QL.sg7, ↓QL.ss7, ↓QL.sg8, ↓QL.ss8, ↓QL.sg9, ↓QL.ss9, ↓QL.sg10, ↓QL.ss10, ↓QL.sg11, ↓QL.ss11, ↓QL.sg12, ↓QL.ss12, ↓QL.sg13, ↓QL.ss13, ↓QL.sg14, ↓QL.ss14, ↓QL.sg15, ↓QL.ss15, ↓QL.sg16, ↓QL.ss16, ↓QL.sg17, ↓QL.ss17, ↓QL.sg18, ↓QL.ss18, ↓QL.sg19, ↓QL.ss19, ↓QL.sg20, ↓QL.ss20, ↓QL.sg21, ↓QL.ss21, ↓QL.sg22, ↓QL.ss22, ↓QL.sg23, ↓QL.ss23, ↓QL.wE_C, ↓QL.wE_var, ↓QL.wE_bor, ↓QL.wE_move, ↓QL.wE_op1, ↓QL.wE_op2, ↓QL.wA_nil, ↓QL.wA_cons, ↓QL.wE_tup, ↓QL.wE_lst, ↓QL.wT_of, ↓QL.wT_not, ↓QL.wB_true, ↓QL.wB_false, ↓QL.wB_not, ↓QL.wT_and, ↓QL.wT_or, ↓QL.wT_yes, ↓QL.wE_not, ↓QL.wE_and, ↓QL.wE_or, ↓QL.wE_if, ↓QL.oCh_b, ↓QL.wE_chain, ↓QL.wP_some, ↓QL.wP_none, ↓QL.wE_sl, ↓QL.wE_get, ↓QL.wE_call, ↓QL.wE_callS, ↓QL.wAB_nil, ↓QL.wAB_cons, ↓QL.oSc_bool, ↓QL.oSc_int, ↓QL.rl_nil, ↓QL.rl_cons, ↓QL.wE_callB, ↓QL.la_nil, ↓QL.la_cons, ↓QL.la_nil2, ↓QL.wS_next, ↓QL.wS_seq, ↓QL.wS_expr, ↓QL.wS_ret, ↓QL.wS_retN, ↓QL.wS_brk, ↓QL.wS_cnt, ↓QL.wS_if, ↓QL.wS_set, ↓QL.wG_name, ↓QL.wG_own_v, ↓QL.wG_own_f, ↓QL.wG_tup, ↓QL.wGs_nil, ↓QL.wGs_cons, ↓QL.wAR_nil, ↓QL.wAR_cons, ↓QL.wS_par, ↓QL.wSt_nil, ↓QL.wSt_cons_t, ↓QL.wSt_cons_f, ↓QL.oVl_int, ↓QL.wS_augI, ↓QL.fAdd_eq, ↓QL.fSub_eq, ↓QL.oExt_eq, ↓QL.wS_ext, ↓QL.wS_put, ↓QL.oOwnL_own, ↓QL.wS_append, ↓QL.wE_dictK, ↓QL.wE_dictT, ↓QL.oKi_int, ↓QL.wE_dict1, ↓QL.wI_seq, ↓QL.wI_rng1, ↓QL.wI_rng2, ↓QL.wE_listRg1, ↓QL.wE_tupleRg1, ↓QL.wE_listRg2, ↓QL.wE_tupleRg2, ↓QL.oFd_eq, ↓QL.wI_keysF, ↓QL.oL1_tup, ↓QL.oL1_eq, ↓QL.wI_enum, ↓QL.oL2_l, ↓QL.oL2_t, ↓QL.wI_zip, ↓QL.loopE_ct, ↓QL.loopE_bk, ↓QL.loopE_rt, ↓QL.wS_for, ↓QL.wS_forK, ↓QL.wL_nil, ↓QL.wS_while, ↓QL.w_wipe_nil, ↓QL.w_wipe_cons, ↓QL.w_back_nil, ↓QL.w_back_cons, ↓QL.kept_val, ↓QL.kept_own, ↓QL.kept_none, ↓QL.wE_comp, ↓QL.wE_compK, ↓QL.wE_compB, ↓QL.wRt_val, ↓QL.wRt_fresh, ↓QL.w0_own, ↓QL.w_ixT, ↓QL.w_ixL, ↓QL.w_ixD, ↓QL.w_at0, ↓QL.w_at1, ↓QL.w_at2, ↓QL.w_map, ↓QL.w_bind, ↓QL.w_gd, ↓QL.w_gdn, ↓QL.w_isS, ↓QL.w_isN, ↓QL.w_add, ↓QL.w_sub, ↓QL.w_mul2, ↓QL.w_neg, ↓QL.w_lt, ↓QL.w_le, ↓QL.w_gt, ↓QL.w_ge, ↓QL.w_eqI, ↓QL.w_neI, ↓QL.w_eqB, ↓QL.w_neB, ↓QL.w_isBt, ↓QL.w_notBt, ↓QL.w_isNN, ↓QL.w_isNb, ↓QL.w_isNi, ↓QL.w_isNl, ↓QL.w_isNt, ↓QL.w_notNN, ↓QL.w_notNb, ↓QL.w_notNi, ↓QL.w_notNl, ↓QL.w_notNt, ↓QL.w_lenL, ↓QL.w_lenT, ↓QL.w_lenZ, ↓QL.w_sumL, ↓QL.w_sumT, ↓QL.w_sumLf, ↓QL.w_allLf, ↓QL.w_tupL, ↓QL.w_tupT, ↓QL.w_lstL, ↓QL.w_lstT, ↓QL.w_int, ↓QL.w_min2, ↓QL.w_max2, ↓QL.w_copyZ, ↓QL.w_pairsZ, ↓QL.w_findZ, ↓QL.w_keysZ, ↓QL.w_inZ, ↓QL.w_notInZ, ↓QL.w_inT, ↓QL.w_notInT, ↓QL.w_inL, ↓QL.w_notInL, ↓QL.w_intOf, ↓QL.w_intOf2, ↓QL.w_revL, ↓QL.w_revT, ↓QL.w_addL, ↓QL.w_addT, ↓QL.oS_lim, ↓QL.w_dT, ↓QL.w_dF, ↓QL.w_nt, ↓QL.w_nf, ↓QL.w_nn, ↓QL.w_andT, ↓QL.w_Tand, ↓QL.w_lenMap, ↓QL.w_isi_int_int, ↓QL.w_isi_int_bool, ↓QL.w_isi_int_str, ↓QL.w_isi_int_list, ↓QL.w_isi_int_tuple, ↓QL.w_isi_int_none, ↓QL.w_isi_bool_int, ↓QL.w_isi_bool_bool, ↓QL.w_isi_bool_str, ↓QL.w_isi_bool_list, ↓QL.w_isi_bool_tuple, ↓QL.w_isi_bool_none, ↓QL.w_isi_str_int, ↓QL.w_isi_str_bool, ↓QL.w_isi_str_str, ↓QL.w_isi_str_list, ↓QL.w_isi_str_tuple, ↓QL.w_isi_str_none, ↓QL.w_isi_list_int, ↓QL.w_isi_list_bool, ↓QL.w_isi_list_str, ↓QL.w_isi_list_list, ↓QL.w_isi_list_tuple, ↓QL.w_isi_list_none, ↓QL.w_isi_tuple_int, ↓QL.w_isi_tuple_bool, ↓QL.w_isi_tuple_str, ↓QL.w_isi_tuple_list, ↓QL.w_isi_tuple_tuple, ↓QL.w_isi_tuple_none, ↓QL.w_isi2_int, ↓QL.w_isi2_bool, ↓QL.w_isi2_str, ↓QL.w_isi2_list, ↓QL.w_isi2_tuple, ↓QL.w_isi2_none, $xs,*])
mutual
/-- data without truth values and dicts: equal as Python says just when equal -/
def nice : D → Bool
  | .none => true
  | .bool _ => false
  | .int _ => true
  | .str _ => true
  | .list ds => niceL ds
  | .tuple ds => niceL ds
  | .dict _ => false
def niceL : List D → Bool
  | [] => true
  | d :: ds => nice d && niceL ds
end
mutual
theorem eqv_nice : ∀ (a b : D), nice a = true → nice b = true → (PyData.eqv a b = true ↔ a = b)
  | .none, b, _, hb => by cases b <;> simp_all [PyData.eqv, nice]
  | .bool _, b, ha, _ => by simp [nice] at ha
  | .int i, b, _, hb => by cases b <;> simp_all [PyData.eqv, nice]
  | .str i, b, _, hb => by cases b <;> simp_all [PyData.eqv, nice]
  | .list xs, b, ha, hb => by
    cases b with
    | list ys =>
      have := eqv_niceL xs ys (by simpa [nice] using ha) (by simpa [nice] using hb)
      simpa [PyData.eqv] using this
    | _ => simp_all [PyData.eqv, nice]
  | .tuple xs, b, ha, hb => by
    cases b with
    | tuple ys =>
      have := eqv_niceL xs ys (by simpa [nice] using ha) (by simpa [nice] using hb)
      simpa [PyData.eqv] using this
    | _ => simp_all [PyData.eqv, nice]
  | .dict _, b, ha, _ => by simp [nice] at ha
theorem eqv_niceL : ∀ (a b : List D), niceL a = true → niceL b = true → (PyData.eqvAll a b = true ↔ a = b)
  | [], b, _, hb => by cases b <;> simp_all [PyData.eqvAll, niceL]
  | x :: xs, b, ha, hb => by
    cases b with
    | nil => simp [PyData.eqvAll]
    | cons y ys =>
      simp only [niceL, Bool.and_eq_true] at ha hb
      have h1 := eqv_nice x y ha.1 hb.1
      have h2 := eqv_niceL xs ys ha.2 hb.2
      simp only [PyData.eqvAll, Bool.and_eq_true, h1, h2, List.cons.injEq]
end
mutual
theorem plain_nice : ∀ (a : D), nice a = true → a.plain = true
  | .none, _ => rfl
  | .bool _, _ => rfl
  | .int i, _ => rfl
  | .str i, _ => rfl
  | .list xs, ha => by
    have := plain_niceL xs (by simpa [nice] using ha)
    simpa [PyData.plain] using this
  | .tuple xs, ha => by
    have := plain_niceL xs (by simpa [nice] using ha)
    simpa [PyData.plain] using this
  | .dict _, ha => by simp [nice] at ha
theorem plain_niceL : ∀ (a : List D), niceL a = true → PyData.plainAll a = true
  | [], _ => rfl
  | x :: xs, ha => by
    simp only [niceL, Bool.and_eq_true] at ha
    simp only [PyData.plainAll, Bool.and_eq_true]
    exact ⟨plain_nice x ha.1, plain_niceL xs ha.2⟩
end
theorem niceL_map {α : Type} {enc : α → D} {l : List α} (h : ∀ a ∈ l, nice (enc a) = true) : niceL (l.map enc) = true := by
  induction l with
  | nil => rfl
  | cons a l ih =>
    simp only [List.map_cons, niceL, Bool.and_eq_true]
    exact ⟨h a List.mem_cons_self, ih fun b hb => h b (List.mem_cons_of_mem _ hb)⟩
theorem nice_int (i : Int) : nice (.int i) = true := rfl
theorem nice_iL (ns : List Int) : niceL (iL ns) = true := niceL_map fun a _ => nice_int a
theorem nice_tI (ns : List Int) : nice (tI ns) = true := nice_iL ns
theorem nice_tP (p : List Int × List Int) : nice (tP p) = true := by
  simp only [tP, nice, niceL, nice_iL, Bool.and_self]
/-! depth -/
theorem depthAll_le {n : Nat} : ∀ {l : List D}, (∀ d ∈ l, d.depth ≤ n) → PyData.depthAll l ≤ n
  | [], _ => by simp [PyData.depthAll]
  | d :: l, h => by
    have h1 := h d List.mem_cons_self
    have h2 := depthAll_le (l := l) fun e he => h e (List.mem_cons_of_mem _ he)
    simp only [PyData.depthAll]
    omega
theorem depth_tuple {n : Nat} {l : List D} (h : ∀ d ∈ l, d.depth ≤ n) : (PyData.tuple l).depth ≤ n + 1 := by
  have := depthAll_le h
  simp only [PyData.depth]
  omega
theorem depth_list {n : Nat} {l : List D} (h : ∀ d ∈ l, d.depth ≤ n) : (PyData.list l).depth ≤ n + 1 := by
  have := depthAll_le h
  simp only [PyData.depth]
  omega
theorem depth_int (i : Int) : (PyData.int i).depth ≤ 1 := by simp [PyData.depth]
theorem depth_tI (ns : List Int) : (tI ns).depth ≤ 2 := depth_tuple fun d hd => by
  obtain ⟨i, _, rfl⟩ := List.mem_map.mp hd
  exact depth_int i
theorem depth_lI (ns : List Int) : (lI ns).depth ≤ 2 := depth_list fun d hd => by
  obtain ⟨i, _, rfl⟩ := List.mem_map.mp hd
  exact depth_int i
theorem depth_tP (p : List Int × List Int) : (tP p).depth ≤ 3 := depth_tuple fun d hd => by
  simp only [List.mem_cons, List.not_mem_nil, or_false] at hd
  rcases hd with rfl | rfl <;> exact depth_tI _
theorem okEq_nice {a b : D} (ha : nice a = true) (hb : nice b = true) (hd : a.depth ≤ 60 ∨ b.depth ≤ 60) : okEq a b = true := by
  unfold okEq
  rw [plain_nice a ha, plain_nice b hb]
  have : min a.depth b.depth ≤ 60 := by omega
  simp [this]
/-- == over typed data -/
theorem gEq_enc {α : Type} [DecidableEq α] (enc : α → D) {a b : α} (ha : nice (enc a) = true) (hb : nice (enc b) = true) (hd : (enc a).depth ≤ 60) (hi : enc a = enc b → a = b) : gEq (enc a) (enc b) = some (.val (.bool (decide (a = b)))) := by
  unfold gEq
  rw [if_pos (okEq_nice ha hb (.inl hd))]
  have : PyData.eqv (enc a) (enc b) = decide (a = b) := by
    rw [Bool.eq_iff_iff, eqv_nice _ _ ha hb, decide_eq_true_eq]
    exact ⟨hi, fun e => by rw [e]⟩
  rw [this]; rfl
theorem gNe_enc {α : Type} [DecidableEq α] (enc : α → D) {a b : α} (ha : nice (enc a) = true) (hb : nice (enc b) = true) (hd : (enc a).depth ≤ 60) (hi : enc a = enc b → a = b) : gNe (enc a) (enc b) = some (.val (.bool (decide (a ≠ b)))) := by
  unfold gNe
  rw [if_pos (okEq_nice ha hb (.inl hd))]
  have : PyData.eqv (enc a) (enc b) = decide (a = b) := by
    rw [Bool.eq_iff_iff, eqv_nice _ _ ha hb, decide_eq_true_eq]
    exact ⟨hi, fun e => by rw [e]⟩
  rw [this]; simp
theorem iL_inj {a b : List Int} (h : iL a = iL b) : a = b := by
  have := congrArg intsD h
  rw [intsD_iL, intsD_iL] at this
  exact Option.some.inj this
theorem tI_inj {a b : List Int} (h : tI a = tI b) : a = b := iL_inj (by injection h)
theorem lI_inj {a b : List Int} (h : lI a = lI b) : a = b := iL_inj (by injection h)
theorem tP_inj {a b : List Int × List Int} (h : tP a = tP b) : a = b := by
  simp only [tP, PyData.tuple.injEq, List.cons.injEq, and_true] at h
  exact Prod.ext (iL_inj h.1) (iL_inj h.2)
theorem map_inj' {α : Type} {enc : α → D} (hi : ∀ a b, enc a = enc b → a = b) : ∀ {l m : List α}, l.map enc = m.map enc → l = m
  | [], [], _ => rfl
  | [], _ :: _, h => by cases h
  | _ :: _, [], h => by cases h
  | a :: l, b :: m, h => by
    rw [List.map_cons, List.map_cons] at h
    injection h with h1 h2
    rw [hi _ _ h1, map_inj' hi h2]
-- W
theorem w_eqLI (a b : List Int) : gEq (.list (a.map .int)) (.list (b.map .int)) = some (.val (.bool (decide (a = b)))) := gEq_enc lI (nice_iL a) (nice_iL b) (Nat.le_trans (depth_lI a) (by decide)) lI_inj
-- W
theorem w_neLI (a b : List Int) : gNe (.list (a.map .int)) (.list (b.map .int)) = some (.val (.bool (decide (a ≠ b)))) := gNe_enc lI (nice_iL a) (nice_iL b) (Nat.le_trans (depth_lI a) (by decide)) lI_inj
-- W
theorem w_eqTI (a b : List Int) : gEq (.tuple (a.map .int)) (.tuple (b.map .int)) = some (.val (.bool (decide (a = b)))) := gEq_enc tI (nice_iL a) (nice_iL b) (Nat.le_trans (depth_tI a) (by decide)) tI_inj
-- W
theorem w_neTI (a b : List Int) : gNe (.tuple (a.map .int)) (.tuple (b.map .int)) = some (.val (.bool (decide (a ≠ b)))) := gNe_enc tI (nice_iL a) (nice_iL b) (Nat.le_trans (depth_tI a) (by decide)) tI_inj
theorem okEq_L0 {b : List D} (h : niceL b = true) : okEq (.list b) (.list []) = true := okEq_nice (a := .list b) (b := .list []) h rfl (.inr (by simp [PyData.depth, PyData.depthAll]))
theorem gEq_nil {b : List D} (h : niceL b = true) : gEq (.list b) (.list []) = some (.val (.bool (decide (b = [])))) := by
  unfold gEq
  rw [if_pos (okEq_L0 h)]
  cases b <;> simp [PyData.eqv, PyData.eqvAll]
theorem gNe_nil {b : List D} (h : niceL b = true) : gNe (.list b) (.list []) = some (.val (.bool (decide (b ≠ [])))) := by
  unfold gNe
  rw [if_pos (okEq_L0 h)]
  cases b <;> simp [PyData.eqv, PyData.eqvAll]
-- W
theorem w_eq00 : gEq (.list []) (.list []) = some (.val (.bool true)) := id rfl
-- W
theorem w_eqI0 (b : List Int) : gEq (.list (b.map .int)) (.list []) = some (.val (.bool (decide (b = [])))) := by
  rw [gEq_nil (nice_iL b)]
  cases b <;> rfl
-- W
theorem w_neI0 (b : List Int) : gNe (.list (b.map .int)) (.list []) = some (.val (.bool (decide (b ≠ [])))) := by
  rw [gNe_nil (nice_iL b)]
  cases b <;> rfl
local macro_rules | `(tactic| simp! only [$xs,*]) => `(tactic| simp only [↓QL.oVar_val, ↓QL.oVar_own, ↓QL.oBor_val, ↓QL.oBor_own, ↓QL.oMove_val, ↓QL.oMove_own, ↓QL.oOwn_own, ↓QL.oDict_val, ↓QL.oDict_own, ↓QL.oI_int, ↓QL.oB_bool, ↓QL.oSq_l, ↓QL.oSq_t, ↓QL.oTp_t, ↓QL.oLs_t, ↓QL.oDc_t, ↓QL.oV_val, ↓QL.oV_fresh, ↓QL.oN_val, ↓QL.oN_fresh, ↓QL.oS_some, ↓QL.lv_val, ↓QL.lv_fresh, ↓QL.lv_bor, ↓QL.oLv_own, ↓QL.rvd_val, ↓QL.rvd_fresh, ↓QL.rvd_bor, ↓QL.sg0, ↓QL.ss0, ↓QL.sg1, ↓QL.ss1, ↓QL.sg2, ↓QL.ss2, ↓QL.sg3, ↓QL.ss3, ↓QL.sg4, ↓QL.ss4, ↓QL.sg5, ↓QL.ss5, ↓QL.sg6, ↓QL.ss6, ↓QL.sg7, ↓QL.ss7, ↓QL.sg8, ↓QL.ss8, ↓QL.sg9, ↓QL.ss9, ↓QL.sg10, ↓QL.ss10, ↓QL.sg11, ↓QL.ss11, ↓QL.sg12, ↓QL.ss12, ↓QL.sg13, ↓QL.ss13, ↓QL.sg14, ↓QL.ss14, ↓QL.sg15, ↓QL.ss15, ↓QL.sg16, ↓QL.ss16, ↓QL.sg17, ↓QL.ss17, ↓QL.sg18, ↓QL.ss18, ↓QL.sg19, ↓QL.ss19, ↓QL.sg20, ↓QL.ss20, ↓QL.sg21, ↓QL.ss21, ↓QL.sg22, ↓QL.ss22, ↓QL.sg23, ↓QL.ss23, ↓QL.wE_C, ↓QL.wE_var, ↓QL.wE_bor, ↓QL.wE_move, ↓QL.wE_op1, ↓QL.wE_op2, ↓QL.wA_nil, ↓QL.wA_cons, ↓QL.wE_tup, ↓QL.wE_lst, ↓QL.wT_of, ↓QL.wT_not, ↓QL.wB_true, ↓QL.wB_false, ↓QL.wB_not, ↓QL.wT_and, ↓QL.wT_or, ↓QL.wT_yes, ↓QL.wE_not, ↓QL.wE_and, ↓QL.wE_or, ↓QL.wE_if, ↓QL.oCh_b, ↓QL.wE_chain, ↓QL.wP_some, ↓QL.wP_none, ↓QL.wE_sl, ↓QL.wE_get, ↓QL.wE_call, ↓QL.wE_callS, ↓QL.wAB_nil, ↓QL.wAB_cons, ↓QL.oSc_bool, ↓QL.oSc_int, ↓QL.rl_nil, ↓QL.rl_cons, ↓QL.wE_callB, ↓QL.la_nil, ↓QL.la_cons, ↓QL.la_nil2, ↓QL.wS_next, ↓QL.wS_seq, ↓QL.wS_expr, ↓QL.wS_ret, ↓QL.wS_retN, ↓QL.wS_brk, ↓QL.wS_cnt, ↓QL.wS_if, ↓QL.wS_set, ↓QL.wG_name, ↓QL.wG_own_v, ↓QL.wG_own_f, ↓QL.wG_tup, ↓QL.wGs_nil, ↓QL.wGs_cons, ↓QL.wAR_nil, ↓QL.wAR_cons, ↓QL.wS_par, ↓QL.wSt_nil, ↓QL.wSt_cons_t, ↓QL.wSt_cons_f, ↓QL.oVl_int, ↓QL.wS_augI, ↓QL.fAdd_eq, ↓QL.fSub_eq, ↓QL.oExt_eq, ↓QL.wS_ext, ↓QL.wS_put, ↓QL.oOwnL_own, ↓QL.wS_append, ↓QL.wE_dictK, ↓QL.wE_dictT, ↓QL.oKi_int, ↓QL.wE_dict1, ↓QL.wI_seq, ↓QL.wI_rng1, ↓QL.wI_rng2, ↓QL.wE_listRg1, ↓QL.wE_tupleRg1, ↓QL.wE_listRg2, ↓QL.wE_tupleRg2, ↓QL.oFd_eq, ↓QL.wI_keysF, ↓QL.oL1_tup, ↓QL.oL1_eq, ↓QL.wI_enum, ↓QL.oL2_l, ↓QL.oL2_t, ↓QL.wI_zip, ↓QL.loopE_ct, ↓QL.loopE_bk, ↓QL.loopE_rt, ↓QL.wS_for, ↓QL.wS_forK, ↓QL.wL_nil, ↓QL.wS_while, ↓QL.w_wipe_nil, ↓QL.w_wipe_cons, ↓QL.w_back_nil, ↓QL.w_back_cons, ↓QL.kept_val, ↓QL.kept_own, ↓QL.kept_none, ↓QL.wE_comp, ↓QL.wE_compK, ↓QL.wE_compB, ↓QL.wRt_val, ↓QL.wRt_fresh, ↓QL.w0_own, ↓QL.w_ixT, ↓QL.w_ixL, ↓QL.w_ixD, ↓QL.w_at0, ↓QL.w_at1, ↓QL.w_at2, ↓QL.w_map, ↓QL.w_bind, ↓QL.w_gd, ↓QL.w_gdn, ↓QL.w_isS, ↓QL.w_isN, ↓QL.w_add, ↓QL.w_sub, ↓QL.w_mul2, ↓QL.w_neg, ↓QL.w_lt, ↓QL.w_le, ↓QL.w_gt, ↓QL.w_ge, ↓QL.w_eqI, ↓QL.w_neI, ↓QL.w_eqB, ↓QL.w_neB, ↓QL.w_isBt, ↓QL.w_notBt, ↓QL.w_isNN, ↓QL.w_isNb, ↓QL.w_isNi, ↓QL.w_isNl, ↓QL.w_isNt, ↓QL.w_notNN, ↓QL.w_notNb, ↓QL.w_notNi, ↓QL.w_notNl, ↓QL.w_notNt, ↓QL.w_lenL, ↓QL.w_lenT, ↓QL.w_lenZ, ↓QL.w_sumL, ↓QL.w_sumT, ↓QL.w_sumLf, ↓QL.w_allLf, ↓QL.w_tupL, ↓QL.w_tupT, ↓QL.w_lstL, ↓QL.w_lstT, ↓QL.w_int, ↓QL.w_min2, ↓QL.w_max2, ↓QL.w_copyZ, ↓QL.w_pairsZ, ↓QL.w_findZ, ↓QL.w_keysZ, ↓QL.w_inZ, ↓QL.w_notInZ, ↓QL.w_inT, ↓QL.w_notInT, ↓QL.w_inL, ↓QL.w_notInL, ↓QL.w_intOf, ↓QL.w_intOf2, ↓QL.w_revL, ↓QL.w_revT, ↓QL.w_addL, ↓QL.w_addT, ↓QL.oS_lim, ↓QL.w_dT, ↓QL.w_dF, ↓QL.w_nt, ↓QL.w_nf, ↓QL.w_nn, ↓QL.w_andT, ↓QL.w_Tand, ↓QL.w_lenMap, ↓QL.w_isi_int_int, ↓QL.w_isi_int_bool, ↓QL.w_isi_int_str, ↓QL.w_isi_int_list, ↓QL.w_isi_int_tuple, ↓QL.w_isi_int_none, ↓QL.w_isi_bool_int, ↓QL.w_isi_bool_bool, ↓QL.w_isi_bool_str, ↓QL.w_isi_bool_list, ↓QL.w_isi_bool_tuple, ↓QL.w_isi_bool_none, ↓QL.w_isi_str_int, ↓QL.w_isi_str_bool, ↓QL.w_isi_str_str, ↓QL.w_isi_str_list, ↓QL.w_isi_str_tuple, ↓QL.w_isi_str_none, ↓QL.w_isi_list_int, ↓QL.w_isi_list_bool, ↓QL.w_isi_list_str, ↓QL.w_isi_list_list, ↓QL.w_isi_list_tuple, ↓QL.w_isi_list_none, ↓QL.w_isi_tuple_int, ↓QL.w_isi_tuple_bool, ↓QL.w_isi_tuple_str, ↓QL.w_isi_tuple_list, ↓QL.w_isi_tuple_tuple, ↓QL.w_isi_tuple_none, ↓QL.w_isi2_int, ↓QL.w_isi2_bool, ↓QL.w_isi2_str, ↓QL.w_isi2_list, ↓QL.w_isi2_tuple, ↓QL.w_isi2_none, ↓KK.w_eqLI, ↓KK.w_neLI, ↓KK.w_eqTI, ↓KK.w_neTI, ↓KK.w_eq00, ↓KK.w_eqI0, ↓KK.w_neI0, $xs,*])
/-! ### sorting -/
theorem dLe_int (a b : Int) : PySem.W.dataLe false id (PyData.int a) (PyData.int b) = decide (a ≤ b) := congrFun (congrFun (PySem.W.dataLe_int fun (z : Int) => z) a) b
def sortZ (l : List Int) : List Int := l.mergeSort (fun a b => decide (a ≤ b))
theorem sortD_iL (l : List Int) : sortD (l.map .int) = (sortZ l).map .int := by
  unfold sortD sortZ
  rw [List.map_mergeSort (s := PySem.W.dataLe false id)]
  intro a _ b _
  exact (dLe_int a b).symm
theorem sortZ_perm (l : List Int) : (sortZ l).Perm l := List.mergeSort_perm _ _
theorem sortZ_len (l : List Int) : (sortZ l).length = l.length := (sortZ_perm l).length_eq
theorem mem_sortZ {l : List Int} {x : Int} : x ∈ sortZ l ↔ x ∈ l := (sortZ_perm l).mem_iff
theorem sortZ_le (l : List Int) : (sortZ l).Pairwise (· ≤ ·) := by
  have := List.pairwise_mergeSort (le := fun a b : Int => decide (a ≤ b)) (fun a b c h1 h2 => by simp only [decide_eq_true_eq] at *; omega) (fun a b => by simp only [Bool.or_eq_true, decide_eq_true_eq]; omega) l
  exact this.imp fun h => by simpa using h
theorem sortZ_lt {l : List Int} (h : l.Nodup) : (sortZ l).Pairwise (· < ·) := by
  have h1 := sortZ_le l
  have h2 : (sortZ l).Nodup := (sortZ_perm l).nodup_iff.mpr h
  exact (h1.and h2).imp fun h => by omega
theorem le_uniq {l m : List Int} (h : l.Perm m) (hl : l.Pairwise (· ≤ ·)) (hm : m.Pairwise (· ≤ ·)) : l = m := List.Perm.eq_of_pairwise (fun a b _ _ h1 h2 => Int.le_antisymm h1 h2) hl hm h
theorem sortZ_congr {l m : List Int} (h : l.Perm m) : sortZ l = sortZ m := le_uniq ((sortZ_perm l).trans (h.trans (sortZ_perm m).symm)) (sortZ_le l) (sortZ_le m)
theorem sortZ_id {l : List Int} (h : l.Pairwise (· ≤ ·)) : sortZ l = l := le_uniq (sortZ_perm l) (sortZ_le l) h
theorem nodup_lt {l : List Int} (h : l.Pairwise (· < ·)) : l.Nodup := h.imp fun h => by omega
theorem lt_uniq {l m : List Int} (hl : l.Pairwise (· < ·)) (hm : m.Pairwise (· < ·)) (h : ∀ x, x ∈ l ↔ x ∈ m) : l = m :=
  le_uniq ((List.perm_ext_iff_of_nodup (nodup_lt hl) (nodup_lt hm)).mpr h) (hl.imp Int.le_of_lt) (hm.imp Int.le_of_lt)
theorem gSorted_iL {l : List Int} (h : l.length ≤ 1000000) : gSorted (.list (l.map .int)) = some (.fresh (.list ((sortZ l).map .int))) := by
  show (if sortOk (l.map .int) then some (RV.fresh (.list (sortD (l.map .int)))) else none) = _
  rw [if_pos (sortOk_iL l h), sortD_iL]
theorem gSorted_tI {l : List Int} (h : l.length ≤ 1000000) : gSorted (.tuple (l.map .int)) = some (.fresh (.list ((sortZ l).map .int))) := by
  show (if sortOk (l.map .int) then some (RV.fresh (.list (sortD (l.map .int)))) else none) = _
  rw [if_pos (sortOk_iL l h), sortD_iL]
theorem gSorted_Z {l : ZD} (h : l.length ≤ 1000000) : gSorted (.dict (encZ l)) = some (.fresh (.list ((sortZ (l.map (·.1))).map .int))) := by
  show (if sortOk (keysD (encZ l)) then some (RV.fresh (.list (sortD (keysD (encZ l))))) else none) = _
  rw [keysD_encZ, if_pos (sortOk_iL _ (by rw [List.length_map]; exact h)), sortD_iL]
/-- sorted by what stands for it -/
def sortBy {α : Type} (enc : α → D) (l : List α) : List α := l.mergeSort fun a b => PySem.W.dataLe false id (enc a) (enc b)
theorem sortD_map {α : Type} (enc : α → D) (l : List α) : sortD (l.map enc) = (sortBy enc l).map enc := by
  unfold sortD sortBy
  rw [List.map_mergeSort (s := PySem.W.dataLe false id)]
  intro a _ b _
  rfl
theorem sortBy_perm {α : Type} (enc : α → D) (l : List α) : (sortBy enc l).Perm l := List.mergeSort_perm _ _
theorem mem_sortBy {α : Type} {enc : α → D} {l : List α} {x : α} : x ∈ sortBy enc l ↔ x ∈ l := (sortBy_perm enc l).mem_iff
theorem alikeAll_iL : ∀ a b : List Int, PySem.W.alikeAll (iL a) (iL b) = true
  | [], _ => by simp [iL, PySem.W.alikeAll]
  | _ :: _, [] => by simp [iL, PySem.W.alikeAll]
  | x :: a, y :: b => by
    have := alikeAll_iL a b
    simp only [iL] at this
    simp [iL, PySem.W.alikeAll, PySem.W.alike, this]
theorem alike_tI (a b : List Int) : PySem.W.alike (tI a) (tI b) = true := by
  have := alikeAll_iL a b
  simpa [PySem.W.alike] using this
theorem alike_tP (a b : List Int × List Int) : PySem.W.alike (tP a) (tP b) = true := by
  simp only [tP, PySem.W.alike, PySem.W.alikeAll, Bool.and_true, Bool.and_eq_true]
  exact ⟨alikeAll_iL _ _, alikeAll_iL _ _⟩
theorem noLst_tI (a : List Int) : noLst (tI a) = true := noLst_iL a
theorem noLst_tP (a : List Int × List Int) : noLst (tP a) = true := by
  simp only [tP, noLst, noLstL, Bool.and_true, Bool.and_eq_true]
  exact ⟨noLst_iL _, noLst_iL _⟩
theorem noLstL_map {α : Type} {enc : α → D} : ∀ {l : List α}, (∀ a ∈ l, noLst (enc a) = true) → noLstL (l.map enc) = true
  | [], _ => rfl
  | a :: l, h => by
    simp only [List.map_cons, noLstL, Bool.and_eq_true]
    exact ⟨h a List.mem_cons_self, noLstL_map fun b hb => h b (List.mem_cons_of_mem _ hb)⟩
theorem sortOk_map {α : Type} {enc : α → D} {l : List α} (h1 : ∀ a ∈ l, noLst (enc a) = true) (h2 : ∀ a b, a ∈ l → b ∈ l → PySem.W.alike (enc a) (enc b) = true) (h3 : ∀ a ∈ l, isTupNe (enc a) = true) (h4 : ∀ a ∈ l, (enc a).depth ≤ 60) (h5 : l.length ≤ 1000000) : sortOk (l.map enc) = true := by
  unfold sortOk alikeL
  simp only [Bool.and_eq_true, Bool.or_eq_true, List.all_eq_true, decide_eq_true_eq]
  refine ⟨⟨⟨⟨noLstL_map h1, ?_⟩, .inl ?_⟩, ?_⟩, ?_⟩
  · intro x hx y hy
    obtain ⟨a, ha, rfl⟩ := List.mem_map.mp hx
    obtain ⟨b, hb, rfl⟩ := List.mem_map.mp hy
    exact h2 a b ha hb
  · intro x hx
    obtain ⟨a, ha, rfl⟩ := List.mem_map.mp hx
    exact h3 a ha
  · intro x hx
    obtain ⟨a, ha, rfl⟩ := List.mem_map.mp hx
    exact h4 a ha
  · have : lim = 16777216 := rfl
    rw [List.length_map]; omega
theorem gSorted_map {α : Type} {enc : α → D} {l : List α} (h : sortOk (l.map enc) = true) : gSorted (.list (l.map enc)) = some (.fresh (.list ((sortBy enc l).map enc))) := by
  show (if sortOk (l.map enc) then some (RV.fresh (.list (sortD (l.map enc)))) else none) = _
  rw [if_pos h, sortD_map]
theorem sortOk_tP {l : List (List Int × List Int)} (h : l.length ≤ 1000000) : sortOk (l.map tP) = true :=
  sortOk_map (fun a _ => noLst_tP a) (fun a b _ _ => alike_tP a b) (fun _ _ => rfl) (fun a _ => Nat.le_trans (depth_tP a) (by decide)) h
theorem gSorted_tP {l : List (List Int × List Int)} (h : l.length ≤ 1000000) : gSorted (.list (l.map tP)) = some (.fresh (.list ((sortBy tP l).map tP))) := gSorted_map (sortOk_tP h)
/-! ### the law's equality of a datum with itself -/
theorem kind_list (xs : List D) : f__law_kind none [.list xs] = .ok (.val (.int 4), none) := wF_eq (by rw [wd__law_kind]; simp! only [])
theorem kind_tuple (xs : List D) : f__law_kind none [.tuple xs] = .ok (.val (.int 5), none) := wF_eq (by rw [wd__law_kind]; simp! only [])
theorem kind_none : f__law_kind none [.none] = .ok (.val (.int 6), none) := wF_eq (by rw [wd__law_kind]; simp! only [])
theorem kind_str (s : Str) : f__law_kind none [.str s] = .ok (.val (.int 3), none) := wF_eq (by rw [wd__law_kind]; simp! only [])
theorem equal_none (n : Nat) : f__law_equal (n + 1) none [.none, .none] = .ok (.val (.bool true), none) := by
  apply wF_eq
  rw [wd__law_equal]
  have h : gEq .none .none = some (.val (.bool true)) := rfl
  simp! only [wF_of kind_none, ne_eq, not_true_eq_false, decide_false, decide_true, h, show (3 : Int) < 6 from by decide, show ¬ (6 : Int) < 6 from by decide]
theorem equal_list (n : Nat) {ds : List D} (h : ∀ d ∈ ds, f__law_equal n none [d, d] = .ok (.val (.bool true), none)) : f__law_equal (n + 1) none [.list ds, .list ds] = .ok (.val (.bool true), none) := by
  apply wF_eq
  rw [wd__law_equal]
  simp! only [wF_of (kind_list _), ne_eq, not_true_eq_false, decide_false, decide_true, show (3 : Int) < 4 from by decide, show (4 : Int) < 6 from by decide]
  unfold enumD
  refine wC_map (fun p : D × Nat => .tuple [.int (p.2 : Nat), p.1]) (fun _ => none) trivial (fun p hp => ?_) ?_
  · obtain ⟨d, i⟩ := p
    have hi := List.mk_mem_zipIdx_iff_getElem?.mp hp
    have ha : atD ds (i : Int) = some d := by
      unfold atD ixD
      have hl := (List.getElem?_eq_some_iff.mp hi).1
      rw [if_pos (by omega), if_pos (by omega)]
      simpa using hi
    have hd := h d (List.mem_of_getElem? hi)
    simp! only [wK, ha, wF_of hd]
  · have : (ds.zipIdx.filterMap fun _ => (none : Option D)) = [] := by
      rw [List.filterMap_eq_nil_iff]; intro a _; rfl
    rw [this]
    simp! only []
theorem equal_lI (n : Nat) (ns : List Int) : f__law_equal (n + 2) none [lI ns, lI ns] = .ok (.val (.bool true), none) := by
  refine equal_list (n + 1) fun d hd => ?_
  obtain ⟨i, _, rfl⟩ := List.mem_map.mp hd
  rw [equal_int n i i, decide_eq_true rfl]
/-! ### payments -/
def payU (cs mine : List Int) (p : Int) : List (List Int × List Int) := ((setsOf (zR cs.length)).filter fun m => decide (worthZ cs m = worthZ cs mine - p)).map (exchZ mine)
def payL (cs mine : List Int) (p : Int) : List (List Int × List Int) := sortBy tP (payU cs mine p)
theorem payU_len {cs mine : List Int} {p : Int} (h : cs.length ≤ 16) : (payU cs mine p).length ≤ 65536 := by
  unfold payU
  rw [List.length_map]
  have h1 := List.length_filter_le (fun m => decide (worthZ cs m = worthZ cs mine - p)) (setsOf (zR cs.length))
  rw [setsOf_len, zR_len] at h1
  exact Nat.le_trans h1 (pow16 h)
theorem set_range {n : Nat} {m : List Int} (h : m ∈ setsOf (zR n)) : ∀ i ∈ m, 0 ≤ i ∧ i < n := fun i hi => mem_zR.mp ((mem_setsOf.mp h).subset hi)
theorem payments_for_ok {cs mine : List Int} (h : OkS cs mine) (p : Int) : f_payments_for none [stD cs mine, .int p] = .ok (.fresh (.list ((payL cs mine p).map tP)), none) := by
  apply wF_eq
  rw [wd_payments_for]
  simp! only [wF_of (worth_ok (X := tI cs) (Y := tI mine) (cs := cs) (.inl rfl) (.inl rfl) h.hm), wF_of (all_sets_ok cs.length (by have := h.h1; omega))]
  refine wC_filter tI (fun m => decide (worthZ cs m = worthZ cs mine - p)) (fun m => tP (exchZ mine m)) trivial (fun m hm => ?_) ?_
  · simp! only [wK, wF_of (worth_ok (X := tI cs) (Y := tI m) (cs := cs) (.inl rfl) (.inl rfl) (set_range hm)), wF_of (exchange_ok _ _ _)]
    by_cases hw : worthZ cs m = worthZ cs mine - p <;> simp [wB, hw]
  · have e : (((setsOf (zR cs.length)).filter fun m => decide (worthZ cs m = worthZ cs mine - p)).map fun m => tP (exchZ mine m)) = (payU cs mine p).map tP := by
      unfold payU
      rw [List.map_map]; rfl
    rw [e]
    simp! only [gSorted_tP (Nat.le_trans (payU_len (cs := cs) (mine := mine) (p := p) (by have := h.h1; omega)) (by decide))]
    rfl
def sizeP (p : List Int × List Int) : Int := p.1.length + p.2.length
theorem size_of_ok (p : List Int × List Int) : f_size_of none [tP p] = .ok (.val (.int (sizeP p)), none) := by
  apply wF_eq
  rw [wd_size_of]
  simp! only []
  rfl
/-- the smallest of some numbers, if any -/
def minD (l : List Int) : D := match minI l with
  | some m => .int m
  | none => .none
theorem minI_none {l : List Int} : minI l = none ↔ l = [] := by cases l <;> simp [minI]
theorem gMinL_iL (l : List Int) : gMinL (.list (l.map .int)) = (minI l).map fun m => .val (.int m) := by
  show ((intsD (l.map .int)).bind fun ns => (minI ns).bind fun m => vI m) = _
  rw [intsD_map]
  cases h : minI l <;> simp [h]
theorem minI_cases (l : List Int) : (l = [] ∧ minI l = none) ∨ (l ≠ [] ∧ ∃ m, minI l = some m) := by
  cases l with
  | nil => exact .inl ⟨rfl, rfl⟩
  | cons a l => exact .inr ⟨by simp, _, rfl⟩
theorem fewest_coins_ok {cs mine : List Int} (h : OkS cs mine) {p : Int} (h0 : -12000 ≤ p) (h1 : p ≤ 12000) : f_fewest_coins none [stD cs mine, .int p] = .ok (.val (minD ((payU cs mine p).map sizeP)), none) := by
  apply wF_eq
  rw [wd_fewest_coins]
  simp! only [wF_of (check_state_ok h), wF_of (check_price_ok h0 h1), wF_of (payments_for_ok h p)]
  refine wC_mapF tP (fun q => .int (sizeP q)) trivial (fun q hq => ?_) ?_
  · simp! only [wK, wF_of (size_of_ok q)]
  · have e : minD ((payU cs mine p).map sizeP) = minD ((payL cs mine p).map sizeP) := by
      unfold minD
      have : minI ((payU cs mine p).map sizeP) = minI ((payL cs mine p).map sizeP) := minI_ext fun x => by
        simp only [List.mem_map, payL, mem_sortBy]
      rw [this]
    rw [e]
    have e2 : ((payL cs mine p).map fun q => PyData.int (sizeP q)) = ((payL cs mine p).map sizeP).map .int := by rw [List.map_map]; rfl
    rw [e2]
    simp! only [gMinL_iL]
    rcases minI_cases ((payL cs mine p).map sizeP) with ⟨hl, hm⟩ | ⟨hl, m, hm⟩
    · rw [hm, wB_neg (by simpa using hl)]
      simp! only [minD, hm]
    · rw [hm, wB_pos hl]
      simp! only [minD, hm]
end KK

end
section
/-! S10: payments and the sets behind them; the script's first cells. -/
namespace KK
open PySem QL
local macro_rules | `(tactic| simp! only [$xs,*]) => `(tactic| simp only [↓QL.oVar_val, ↓QL.oVar_own, ↓QL.oBor_val, ↓QL.oBor_own, ↓QL.oMove_val, ↓QL.oMove_own, ↓QL.oOwn_own, ↓QL.oDict_val, ↓QL.oDict_own, ↓QL.oI_int, ↓QL.oB_bool, ↓QL.oSq_l, ↓QL.oSq_t, ↓QL.oTp_t, ↓QL.oLs_t, ↓QL.oDc_t, ↓QL.oV_val, ↓QL.oV_fresh, ↓QL.oN_val, ↓QL.oN_fresh, ↓QL.oS_some, ↓QL.lv_val, ↓QL.lv_fresh, ↓QL.lv_bor, ↓QL.oLv_own, ↓QL.rvd_val, ↓QL.rvd_fresh, ↓QL.rvd_bor, ↓QL.sg0, ↓QL.ss0, ↓QL.sg1, ↓QL.ss1, ↓QL.sg2, ↓QL.ss2, ↓QL.sg3, ↓QL.ss3, ↓QL.sg4, ↓QL.ss4, ↓QL.sg5, ↓QL.ss5, ↓QL.sg6, ↓QL.ss6, ↓QL.sg7, ↓QL.ss7, ↓QL.sg8, ↓QL.ss8, ↓QL.sg9, ↓QL.ss9, ↓QL.sg10, ↓QL.ss10, ↓QL.sg11, ↓QL.ss11, ↓QL.sg12, ↓QL.ss12, ↓QL.sg13, ↓QL.ss13, ↓QL.sg14, ↓QL.ss14, ↓QL.sg15, ↓QL.ss15, ↓QL.sg16, ↓QL.ss16, ↓QL.sg17, ↓QL.ss17, ↓QL.sg18, ↓QL.ss18, ↓QL.sg19, ↓QL.ss19, ↓QL.sg20, ↓QL.ss20, ↓QL.sg21, ↓QL.ss21, ↓QL.sg22, ↓QL.ss22, ↓QL.sg23, ↓QL.ss23, ↓QL.wE_C, ↓QL.wE_var, ↓QL.wE_bor, ↓QL.wE_move, ↓QL.wE_op1, ↓QL.wE_op2, ↓QL.wA_nil, ↓QL.wA_cons, ↓QL.wE_tup, ↓QL.wE_lst, ↓QL.wT_of, ↓QL.wT_not, ↓QL.wB_true, ↓QL.wB_false, ↓QL.wB_not, ↓QL.wT_and, ↓QL.wT_or, ↓QL.wT_yes, ↓QL.wE_not, ↓QL.wE_and, ↓QL.wE_or, ↓QL.wE_if, ↓QL.oCh_b, ↓QL.wE_chain, ↓QL.wP_some, ↓QL.wP_none, ↓QL.wE_sl, ↓QL.wE_get, ↓QL.wE_call, ↓QL.wE_callS, ↓QL.wAB_nil, ↓QL.wAB_cons, ↓QL.oSc_bool, ↓QL.oSc_int, ↓QL.rl_nil, ↓QL.rl_cons, ↓QL.wE_callB, ↓QL.la_nil, ↓QL.la_cons, ↓QL.la_nil2, ↓QL.wS_next, ↓QL.wS_seq, ↓QL.wS_expr, ↓QL.wS_ret, ↓QL.wS_retN, ↓QL.wS_brk, ↓QL.wS_cnt, ↓QL.wS_if, ↓QL.wS_set, ↓QL.wG_name, ↓QL.wG_own_v, ↓QL.wG_own_f, ↓QL.wG_tup, ↓QL.wGs_nil, ↓QL.wGs_cons, ↓QL.wAR_nil, ↓QL.wAR_cons, ↓QL.wS_par, ↓QL.wSt_nil, ↓QL.wSt_cons_t, ↓QL.wSt_cons_f, ↓QL.oVl_int, ↓QL.wS_augI, ↓QL.fAdd_eq, ↓QL.fSub_eq, ↓QL.oExt_eq, ↓QL.wS_ext, ↓QL.wS_put, ↓QL.oOwnL_own, ↓QL.wS_append, ↓QL.wE_dictK, ↓QL.wE_dictT, ↓QL.oKi_int, ↓QL.wE_dict1, ↓QL.wI_seq, ↓QL.wI_rng1, ↓QL.wI_rng2, ↓QL.wE_listRg1, ↓QL.wE_tupleRg1, ↓QL.wE_listRg2, ↓QL.wE_tupleRg2, ↓QL.oFd_eq, ↓QL.wI_keysF, ↓QL.oL1_tup, ↓QL.oL1_eq, ↓QL.wI_enum, ↓QL.oL2_l, ↓QL.oL2_t, ↓QL.wI_zip, ↓QL.loopE_ct, ↓QL.loopE_bk, ↓QL.loopE_rt, ↓QL.wS_for, ↓QL.wS_forK, ↓QL.wL_nil, ↓QL.wS_while, ↓QL.w_wipe_nil, ↓QL.w_wipe_cons, ↓QL.w_back_nil, ↓QL.w_back_cons, ↓QL.kept_val, ↓QL.kept_own, ↓QL.kept_none, ↓QL.wE_comp, ↓QL.wE_compK, ↓QL.wE_compB, ↓QL.wRt_val, ↓QL.wRt_fresh, ↓QL.w0_own, ↓QL.w_ixT, ↓QL.w_ixL, ↓QL.w_ixD, ↓QL.w_at0, ↓QL.w_at1, ↓QL.w_at2, ↓QL.w_map, ↓QL.w_bind, ↓QL.w_gd, ↓QL.w_gdn, ↓QL.w_isS, ↓QL.w_isN, ↓QL.w_add, ↓QL.w_sub, ↓QL.w_mul2, ↓QL.w_neg, ↓QL.w_lt, ↓QL.w_le, ↓QL.w_gt, ↓QL.w_ge, ↓QL.w_eqI, ↓QL.w_neI, ↓QL.w_eqB, ↓QL.w_neB, ↓QL.w_isBt, ↓QL.w_notBt, ↓QL.w_isNN, ↓QL.w_isNb, ↓QL.w_isNi, ↓QL.w_isNl, ↓QL.w_isNt, ↓QL.w_notNN, ↓QL.w_notNb, ↓QL.w_notNi, ↓QL.w_notNl, ↓QL.w_notNt, ↓QL.w_lenL, ↓QL.w_lenT, ↓QL.w_lenZ, ↓QL.w_sumL, ↓QL.w_sumT, ↓QL.w_sumLf, ↓QL.w_allLf, ↓QL.w_tupL, ↓QL.w_tupT, ↓QL.w_lstL, ↓QL.w_lstT, ↓QL.w_int, ↓QL.w_min2, ↓QL.w_max2, ↓QL.w_copyZ, ↓QL.w_pairsZ, ↓QL.w_findZ, ↓QL.w_keysZ, ↓QL.w_inZ, ↓QL.w_notInZ, ↓QL.w_inT, ↓QL.w_notInT, ↓QL.w_inL, ↓QL.w_notInL, ↓QL.w_intOf, ↓QL.w_intOf2, ↓QL.w_revL, ↓QL.w_revT, ↓QL.w_addL, ↓QL.w_addT, ↓QL.oS_lim, ↓QL.w_dT, ↓QL.w_dF, ↓QL.w_nt, ↓QL.w_nf, ↓QL.w_nn, ↓QL.w_andT, ↓QL.w_Tand, ↓QL.w_lenMap, ↓QL.w_isi_int_int, ↓QL.w_isi_int_bool, ↓QL.w_isi_int_str, ↓QL.w_isi_int_list, ↓QL.w_isi_int_tuple, ↓QL.w_isi_int_none, ↓QL.w_isi_bool_int, ↓QL.w_isi_bool_bool, ↓QL.w_isi_bool_str, ↓QL.w_isi_bool_list, ↓QL.w_isi_bool_tuple, ↓QL.w_isi_bool_none, ↓QL.w_isi_str_int, ↓QL.w_isi_str_bool, ↓QL.w_isi_str_str, ↓QL.w_isi_str_list, ↓QL.w_isi_str_tuple, ↓QL.w_isi_str_none, ↓QL.w_isi_list_int, ↓QL.w_isi_list_bool, ↓QL.w_isi_list_str, ↓QL.w_isi_list_list, ↓QL.w_isi_list_tuple, ↓QL.w_isi_list_none, ↓QL.w_isi_tuple_int, ↓QL.w_isi_tuple_bool, ↓QL.w_isi_tuple_str, ↓QL.w_isi_tuple_list, ↓QL.w_isi_tuple_tuple, ↓QL.w_isi_tuple_none, ↓QL.w_isi2_int, ↓QL.w_isi2_bool, ↓QL.w_isi2_str, ↓QL.w_isi2_list, ↓QL.w_isi2_tuple, ↓QL.w_isi2_none, ↓KK.w_eqLI, ↓KK.w_neLI, ↓KK.w_eqTI, ↓KK.w_neTI, ↓KK.w_eq00, ↓KK.w_eqI0, ↓KK.w_neI0, $xs,*])
theorem worth_nil (cs : List Int) : worthZ cs [] = 0 := rfl
theorem worth_cons (cs : List Int) (i : Int) (l : List Int) : worthZ cs (i :: l) = atZ cs i + worthZ cs l := by simp [worthZ]
theorem worth_append (cs l m : List Int) : worthZ cs (l ++ m) = worthZ cs l + worthZ cs m := by simp [worthZ]
theorem worth_perm {cs l m : List Int} (h : l.Perm m) : worthZ cs l = worthZ cs m := sum_perm (h.map _)
theorem worth_split (cs : List Int) (p : Int → Bool) (l : List Int) : worthZ cs l = worthZ cs (l.filter p) + worthZ cs (l.filter fun i => !p i) := by
  have h := worth_perm (cs := cs) (List.filter_append_perm p l)
  rw [← h, worth_append]
theorem lt_sub {n : Nat} {m : List Int} (h : m.Sublist (zR n)) : m.Pairwise (· < ·) := (pw_zR n).sublist h
theorem diff_mem {a b : List Int} {i : Int} : i ∈ diffZ a b ↔ i ∈ a ∧ i ∉ b := by simp [diffZ]
theorem diff_lt {a b : List Int} (h : a.Pairwise (· < ·)) : (diffZ a b).Pairwise (· < ·) := h.filter _
theorem sub_of_lt {a b : List Int} (ha : a.Pairwise (· < ·)) (hb : b.Pairwise (· < ·)) (h : ∀ i ∈ a, i ∈ b) : a.Sublist b := by
  have e : a = b.filter fun i => decide (i ∈ a) := lt_uniq ha (hb.filter _) fun x => by
    simp only [List.mem_filter, decide_eq_true_eq]
    exact ⟨fun hx => ⟨h x hx, hx⟩, fun hx => hx.2⟩
  rw [e]
  exact List.filter_sublist
theorem diff_worth {cs a b : List Int} (ha : a.Pairwise (· < ·)) (hb : b.Pairwise (· < ·)) : worthZ cs (diffZ a b) - worthZ cs (diffZ b a) = worthZ cs a - worthZ cs b := by
  have h1 := worth_split cs (fun i => decide (i ∉ b)) a
  have h2 := worth_split cs (fun i => decide (i ∉ a)) b
  have h3 : (a.filter fun i => !decide (i ∉ b)) = b.filter fun i => !decide (i ∉ a) := lt_uniq (ha.filter _) (hb.filter _) fun x => by simp [and_comm]
  rw [h3] at h1
  unfold diffZ
  omega
theorem others_lt (n : Nat) (mine : List Int) : (othersZ n mine).Pairwise (· < ·) := (pw_zR n).filter _
theorem others_mem {n : Nat} {mine : List Int} {i : Int} : i ∈ othersZ n mine ↔ (0 ≤ i ∧ i < n) ∧ i ∉ mine := by
  unfold othersZ
  rw [List.mem_filter, decide_eq_true_eq, mem_zR]
/-- a payment leads to a set, and a set is led to by a payment -/
theorem exch_sub {cs mine m : List Int} (h : OkS cs mine) (hm : m.Sublist (zR cs.length)) : (exchZ mine m).1.Sublist mine ∧ (exchZ mine m).2.Sublist (othersZ cs.length mine) ∧ worthZ cs (exchZ mine m).1 - worthZ cs (exchZ mine m).2 = worthZ cs mine - worthZ cs m :=
  ⟨List.filter_sublist, sub_of_lt (diff_lt (lt_sub hm)) (others_lt _ _) fun i hi => by
    have := diff_mem.mp hi
    exact others_mem.mpr ⟨mem_zR.mp (hm.subset this.1), this.2⟩, diff_worth h.hp (lt_sub hm)⟩
def ledZ (n : Nat) (mine g t : List Int) : List Int := (zR n).filter fun i => decide ((i ∈ mine ∧ i ∉ g) ∨ i ∈ t)
theorem led_sub (n : Nat) (mine g t : List Int) : (ledZ n mine g t).Sublist (zR n) := List.filter_sublist
theorem led_exch {cs mine g t : List Int} (h : OkS cs mine) (hg : g.Sublist mine) (ht : t.Sublist (othersZ cs.length mine)) : exchZ mine (ledZ cs.length mine g t) = (g, t) := by
  have hl : ∀ i, i ∈ ledZ cs.length mine g t ↔ (0 ≤ i ∧ i < cs.length) ∧ ((i ∈ mine ∧ i ∉ g) ∨ i ∈ t) := fun i => by
    unfold ledZ
    rw [List.mem_filter, decide_eq_true_eq, mem_zR]
  have ht' : ∀ i ∈ t, (0 ≤ i ∧ i < cs.length) ∧ i ∉ mine := fun i hi => others_mem.mp (ht.subset hi)
  unfold exchZ
  congr 1
  · refine lt_uniq (diff_lt h.hp) (h.hp.sublist hg) fun i => ?_
    rw [diff_mem, hl]
    constructor
    · rintro ⟨h1, h2⟩
      by_cases hi : i ∈ g
      · exact hi
      · exact absurd ⟨h.hm i h1, .inl ⟨h1, hi⟩⟩ h2
    · intro hi
      refine ⟨hg.subset hi, fun ⟨_, h2⟩ => ?_⟩
      rcases h2 with h2 | h2
      · exact h2.2 hi
      · exact (ht' i h2).2 (hg.subset hi)
  · refine lt_uniq (diff_lt (lt_sub (led_sub _ _ _ _))) ((others_lt _ _).sublist ht) fun i => ?_
    rw [diff_mem, hl]
    constructor
    · rintro ⟨⟨_, h1 | h1⟩, h2⟩
      · exact absurd h1.1 h2
      · exact h1
    · intro hi
      exact ⟨⟨(ht' i hi).1, .inr hi⟩, (ht' i hi).2⟩
theorem mem_payU {cs mine : List Int} (h : OkS cs mine) {p : Int} {q : List Int × List Int} : q ∈ payU cs mine p ↔ q.1.Sublist mine ∧ q.2.Sublist (othersZ cs.length mine) ∧ worthZ cs q.1 - worthZ cs q.2 = p := by
  unfold payU
  simp only [List.mem_map, List.mem_filter, decide_eq_true_eq, mem_setsOf]
  constructor
  · rintro ⟨m, ⟨h1, h2⟩, rfl⟩
    obtain ⟨a, b, c⟩ := exch_sub h h1
    exact ⟨a, b, by omega⟩
  · rintro ⟨h1, h2, h3⟩
    have he := led_exch h h1 h2
    refine ⟨ledZ cs.length mine q.1 q.2, ⟨led_sub _ _ _ _, ?_⟩, he⟩
    have := (exch_sub h (led_sub cs.length mine q.1 q.2)).2.2
    rw [he] at this
    simp only at this
    omega
/-! ### the law's list of payments -/
abbrev Row := Int × List Int × List Int
abbrev tR (r : Row) : D := .tuple [.int r.1, tP r.2]
def rowsG (cs others : List Int) (g : List Int) : List Row := (setsOf others).map fun t => (worthZ cs g - worthZ cs t, (g, t))
def rowsZ (cs mine : List Int) : List Row := (setsOf mine).flatMap (rowsG cs (othersZ cs.length mine))
theorem mem_rowsZ {cs mine : List Int} {r : Row} : r ∈ rowsZ cs mine ↔ r.2.1.Sublist mine ∧ r.2.2.Sublist (othersZ cs.length mine) ∧ r.1 = worthZ cs r.2.1 - worthZ cs r.2.2 := by
  unfold rowsZ rowsG
  simp only [List.mem_flatMap, List.mem_map, mem_setsOf]
  constructor
  · rintro ⟨g, hg, t, ht, rfl⟩
    exact ⟨hg, ht, rfl⟩
  · rintro ⟨hg, ht, e⟩
    exact ⟨r.2.1, hg, r.2.2, ht, by rw [← e]⟩
theorem split_len {cs mine : List Int} (h : OkS cs mine) : mine.length + (othersZ cs.length mine).length = cs.length := by
  have := (split_perm h).length_eq
  simpa using this
theorem law_payments_ok {cs mine : List Int} (h : OkS cs mine) : f__law_payments none [stD cs mine] = .ok (.fresh (.list ((rowsZ cs mine).map tR)), none) := by
  have hl := split_len h
  have h12 := h.h1
  have ho := others_of_ok h
  rw [← law_others_eq] at ho
  have hw : ∀ {m : List Int}, (∀ i ∈ m, 0 ≤ i ∧ i < cs.length) → f__law_worth none [tI cs, tI m] = .ok (.val (.int (worthZ cs m)), none) := fun hm => by
    rw [law_worth_eq]
    exact worth_ok (.inl rfl) (.inl rfl) hm
  have len1 : ∀ us : List (List Int), (us.flatMap (rowsG cs (othersZ cs.length mine))).length = us.length * 2 ^ (othersZ cs.length mine).length := fun us => by
    induction us with
    | nil => simp
    | cons u us ih => rw [List.flatMap_cons, List.length_append, ih, List.length_cons, Nat.succ_mul]; simp [rowsG, setsOf_len]; omega
  have hp1 := pow16 (n := cs.length) (by omega)
  have hp2 : 2 ^ mine.length * 2 ^ (othersZ cs.length mine).length = 2 ^ cs.length := by rw [← Nat.pow_add, hl]
  apply wF_eq
  rw [wd__law_payments]
  simp! only [wF_of (law_sets_ok (X := tI mine) (.inl rfl) (show mine.length ≤ 16 by omega))]
  refine wL_inv tI (fun r s => ∃ us o3 o4, us ++ r = setsOf mine ∧ s = [some (.val (stD cs mine)), some (.val (tI cs)), some (.own false (.list ((us.flatMap (rowsG cs (othersZ cs.length mine))).map tR))), o3, o4]) ?_ ⟨[], none, none, rfl, rfl⟩ ?_
  · rintro s ⟨us, o3, o4, hu, rfl⟩
    rw [List.append_nil] at hu
    subst hu
    simp! only []
    rfl
  · rintro g r s hg ⟨us, o3, o4, hu, rfl⟩
    have hgs := mem_setsOf.mp hg
    have hul : us.length + 1 ≤ 2 ^ mine.length := by
      have := congrArg List.length hu
      rw [List.length_append, List.length_cons, setsOf_len] at this
      omega
    simp! only [wF_of ho, wF_of (law_sets_ok (X := tI (othersZ cs.length mine)) (.inl rfl) (show (othersZ cs.length mine).length ≤ 16 by omega))]
    refine wL_inv tI (fun r s => ∃ ts o4, ts ++ r = setsOf (othersZ cs.length mine) ∧ s = [some (.val (stD cs mine)), some (.val (tI cs)), some (.own false (.list ((us.flatMap (rowsG cs (othersZ cs.length mine)) ++ ts.map fun t => (worthZ cs g - worthZ cs t, (g, t))).map tR))), some (.val (tI g)), o4]) ?_ ⟨[], o4, rfl, by simp⟩ ?_
    · rintro s ⟨ts, o4, ht, rfl⟩
      rw [List.append_nil] at ht
      subst ht
      refine ⟨us ++ [g], some (.val (tI g)), o4, by simpa using hu, ?_⟩
      rw [List.flatMap_append]
      simp [rowsG]
    · rintro t r s ht ⟨ts, o4, hts, rfl⟩
      have hts' := mem_setsOf.mp ht
      have htl : ts.length + 1 ≤ 2 ^ (othersZ cs.length mine).length := by
        have := congrArg List.length hts
        rw [List.length_append, List.length_cons, setsOf_len] at this
        omega
      have hbig : us.length * 2 ^ (othersZ cs.length mine).length + ts.length + 1 ≤ 65536 := by
        have h1 : (us.length + 1) * 2 ^ (othersZ cs.length mine).length ≤ 2 ^ mine.length * 2 ^ (othersZ cs.length mine).length := Nat.mul_le_mul_right _ hul
        rw [Nat.succ_mul] at h1
        omega
      simp! only [wF_of (hw fun i hi => h.hm i (hgs.subset hi)), wF_of (hw fun i hi => others_range i (hts'.subset hi))]
      rw [wLim_of (by rw [List.length_append, len1, List.length_map]; omega)]
      refine ⟨ts ++ [t], some (.val (tI t)), by simpa using hts, ?_⟩
      simp
/-! ### the first cells of the script -/
theorem w_head {ns : List Int} (hn : ns.length ≤ 63) {k : Int} {n : Nat} {Q : RV → Prop} (hk : k = n) : wLim ([PyData.int 0].length + ns.length) (oS (gSl (.list (.int 0 :: ns.map .int)) none (some k)) Q) = Q (.fresh (.list (((0 :: ns).take n).map .int))) := by
  subst hk
  have hs : gSl (.list ((0 :: ns).map .int)) none (some (n : Int)) = some (.fresh (.list (((0 :: ns).take n).map .int))) := gSl_take (0 :: ns) n
  rw [List.map_cons] at hs
  rw [wLim_of (by simp only [List.length_cons, List.length_nil]; omega), hs]
  rfl
theorem range_lit {n : Nat} {k : Int} (hk : k = n) : rangeD 0 k = (zR n).map .int := by
  subst hk
  exact rangeD_zR n
/-! ### parts of a state -/
theorem OkS.sub {cs mine g : List Int} (h : OkS cs mine) (hg : g.Sublist mine) : OkS cs g := ⟨h.h0, h.h1, h.hc, fun i hi => h.hm i (hg.subset hi), h.hp.sublist hg⟩
theorem OkS.rest {cs mine : List Int} (h : OkS cs mine) : OkS cs (othersZ cs.length mine) := ⟨h.h0, h.h1, h.hc, fun i hi => others_range i hi, others_lt _ _⟩
theorem OkS.set {cs mine m : List Int} (h : OkS cs mine) (hm : m.Sublist (zR cs.length)) : OkS cs m := ⟨h.h0, h.h1, h.hc, fun i hi => mem_zR.mp (hm.subset hi), lt_sub hm⟩
theorem OkS.worth {cs mine : List Int} (h : OkS cs mine) : 0 ≤ worthZ cs mine ∧ worthZ cs mine ≤ 12000 := by
  have h1 := reach_bounds (vals_ok h) (reach_all (mine.map (atZ cs)))
  have h2 := vals_len h
  unfold worthZ
  omega
theorem pay_range {cs mine g t : List Int} (h : OkS cs mine) (hg : g.Sublist mine) (ht : t.Sublist (othersZ cs.length mine)) : -12000 ≤ worthZ cs g - worthZ cs t ∧ worthZ cs g - worthZ cs t ≤ 12000 := by
  have h1 := (h.sub hg).worth
  have h2 := (h.rest.sub ht).worth
  omega
/-! ### rows of prices, drawn -/
def okP (p : Int) : Prop := -12000 ≤ p ∧ p ≤ 12000
theorem kept_v (v : Option D) : keptA (some (v.map A.val)) = v.map A.val := by cases v <;> rfl
theorem w_prices {j i k n m : Nat} {st : DS} {src : D} {cs mine : List Int} {Q : List D → DS → Prop} (hk : OkS cs mine) (hs : Src (m + 26 * n) src) (hi : st[i]? = some (some (.own false src))) (hst : st[k]? = some (some (.val (stD cs mine)))) {v : Option D} (hj : st[j]? = some (v.map A.val)) (hjk : j ≠ k)
    (hQ : ∀ (ps : List Int) (src' : D), ps.length = n → (∀ p ∈ ps, okP p) → Src m src' → Q (ps.map .int) (st.set i (some (.own false src')))) : wC (fun _ => True) [j] (bName j) tYes (eCallS f__law_price [] i [eVar k]) ((zR n).map .int) st Q := by
  have hil := (List.getElem?_eq_some_iff.mp hi).1
  have hjl := (List.getElem?_eq_some_iff.mp hj).1
  have hkl := (List.getElem?_eq_some_iff.mp hst).1
  have hji : j ≠ i := fun e => by subst e; rw [hi] at hj; cases v <;> cases hj
  have hki : k ≠ i := fun e => by subst e; rw [hi] at hst; cases hst
  refine wC_inv PyData.int (fun r ys s => ∃ (ps : List Int) (src' : D), ys = ps.map .int ∧ ps.length + r.length = n ∧ (∀ p ∈ ps, okP p) ∧ Src (m + 26 * r.length) src' ∧ s = st.set i (some (.own false src'))) (fun _ _ _ _ => trivial) (ys := []) ⟨[], src, rfl, by simp, by simp, by simpa using hs, ?_⟩ ?_ ?_
  · apply List.ext_getElem?
    intro q
    by_cases e : q = i
    · subst e; rw [List.getElem?_set_self hil, hi]
    · rw [List.getElem?_set_ne (Ne.symm e)]
  · rintro x r ys s - ⟨ps, src', rfl, hl, hp, hsr, rfl⟩
    obtain ⟨p, src2, e2, p0, p1, s2⟩ := law_price_ok (m := m + 26 * r.length) hk (hsr.mono (by rw [List.length_cons]; omega))
    have g1 : ((((st.set i (some (A.own false src'))).set j none).set j (some (A.val (.int x)))))[i]? = some (some (A.own false src')) := by
      rw [List.getElem?_set_ne hji, List.getElem?_set_ne hji, List.getElem?_set_self hil]
    have g2 : ((((st.set i (some (A.own false src'))).set j none).set j (some (A.val (.int x)))))[k]? = some (some (A.val (stD cs mine))) := by
      rw [List.getElem?_set_ne hjk, List.getElem?_set_ne hjk, List.getElem?_set_ne (Ne.symm hki), hst]
    have g3 : (st.set i (some (A.own false src')))[j]? = some (v.map A.val) := by
      rw [List.getElem?_set_ne (Ne.symm hji), hj]
    simp! only [wK, g1, g2, wF_of e2, g3, kept_v]
    refine ⟨ps ++ [p], src2, by simp, by rw [List.length_append, List.length_cons, List.length_nil]; rw [List.length_cons] at hl; omega, ?_, s2, ?_⟩
    · intro q hq
      rcases List.mem_append.mp hq with hq | hq
      · exact hp q hq
      · rw [List.mem_singleton] at hq
        subst hq
        exact ⟨p0, p1⟩
    · apply List.ext_getElem?
      intro q
      by_cases e : q = j
      · subst e
        rw [List.getElem?_set_self (by simpa using hjl), List.getElem?_set_ne (Ne.symm hji), hj]
      · by_cases e2 : q = i
        · subst e2
          rw [List.getElem?_set_ne (Ne.symm e), List.getElem?_set_self (by simpa using hil), List.getElem?_set_self hil]
        · rw [List.getElem?_set_ne (Ne.symm e), List.getElem?_set_ne (Ne.symm e2), List.getElem?_set_ne (Ne.symm e), List.getElem?_set_ne (Ne.symm e), List.getElem?_set_ne (Ne.symm e2), List.getElem?_set_ne (Ne.symm e2)]
  · rintro zs s ⟨ps, src', e, hl, hp, hsr, rfl⟩
    rw [List.nil_append] at e
    subst e
    exact hQ ps src' (by simpa using hl) hp (hsr.mono (by simp))
theorem state_w {m n : Nat} {d : D} {most : Int} (hm : most = n) (h0 : 0 < n) (h1 : n ≤ 12) (hs : Src (m + 2 * n + 3) d) : ∃ cs mine d', f__law_state (some d) [.int most] = .ok (.val (stD cs mine), some d') ∧ OkS cs mine ∧ cs.length ≤ n ∧ Src m d' := by
  subst hm
  exact law_state_ok n h0 h1 hs
theorem eq_int (m : Int) : f__law_equal 8 none [.int m, .int m] = .ok (.val (.bool true), none) := by rw [equal_int 7 m m, decide_eq_true rfl]
theorem eq_bool (m : Bool) : f__law_equal 8 none [.bool m, .bool m] = .ok (.val (.bool true), none) := by rw [equal_bool 7 m m, decide_eq_true rfl]
theorem worthL {cs m : List Int} (h : OkS cs m) : f__law_worth none [tI cs, tI m] = .ok (.val (.int (worthZ cs m)), none) := by
  rw [law_worth_eq]
  exact worth_ok (.inl rfl) (.inl rfl) h.hm
theorem othersL {cs mine : List Int} (h : OkS cs mine) : f__law_others none [stD cs mine] = .ok (.val (tI (othersZ cs.length mine)), none) := by
  rw [law_others_eq]
  exact others_of_ok h
end KK

end
section
/-! S11: the prices that can be paid, in order. -/
namespace KK
open PySem QL
local macro_rules | `(tactic| simp! only [$xs,*]) => `(tactic| simp only [↓QL.oVar_val, ↓QL.oVar_own, ↓QL.oBor_val, ↓QL.oBor_own, ↓QL.oMove_val, ↓QL.oMove_own, ↓QL.oOwn_own, ↓QL.oDict_val, ↓QL.oDict_own, ↓QL.oI_int, ↓QL.oB_bool, ↓QL.oSq_l, ↓QL.oSq_t, ↓QL.oTp_t, ↓QL.oLs_t, ↓QL.oDc_t, ↓QL.oV_val, ↓QL.oV_fresh, ↓QL.oN_val, ↓QL.oN_fresh, ↓QL.oS_some, ↓QL.lv_val, ↓QL.lv_fresh, ↓QL.lv_bor, ↓QL.oLv_own, ↓QL.rvd_val, ↓QL.rvd_fresh, ↓QL.rvd_bor, ↓QL.sg0, ↓QL.ss0, ↓QL.sg1, ↓QL.ss1, ↓QL.sg2, ↓QL.ss2, ↓QL.sg3, ↓QL.ss3, ↓QL.sg4, ↓QL.ss4, ↓QL.sg5, ↓QL.ss5, ↓QL.sg6, ↓QL.ss6, ↓QL.sg7, ↓QL.ss7, ↓QL.sg8, ↓QL.ss8, ↓QL.sg9, ↓QL.ss9, ↓QL.sg10, ↓QL.ss10, ↓QL.sg11, ↓QL.ss11, ↓QL.sg12, ↓QL.ss12, ↓QL.sg13, ↓QL.ss13, ↓QL.sg14, ↓QL.ss14, ↓QL.sg15, ↓QL.ss15, ↓QL.sg16, ↓QL.ss16, ↓QL.sg17, ↓QL.ss17, ↓QL.sg18, ↓QL.ss18, ↓QL.sg19, ↓QL.ss19, ↓QL.sg20, ↓QL.ss20, ↓QL.sg21, ↓QL.ss21, ↓QL.sg22, ↓QL.ss22, ↓QL.sg23, ↓QL.ss23, ↓QL.wE_C, ↓QL.wE_var, ↓QL.wE_bor, ↓QL.wE_move, ↓QL.wE_op1, ↓QL.wE_op2, ↓QL.wA_nil, ↓QL.wA_cons, ↓QL.wE_tup, ↓QL.wE_lst, ↓QL.wT_of, ↓QL.wT_not, ↓QL.wB_true, ↓QL.wB_false, ↓QL.wB_not, ↓QL.wT_and, ↓QL.wT_or, ↓QL.wT_yes, ↓QL.wE_not, ↓QL.wE_and, ↓QL.wE_or, ↓QL.wE_if, ↓QL.oCh_b, ↓QL.wE_chain, ↓QL.wP_some, ↓QL.wP_none, ↓QL.wE_sl, ↓QL.wE_get, ↓QL.wE_call, ↓QL.wE_callS, ↓QL.wAB_nil, ↓QL.wAB_cons, ↓QL.oSc_bool, ↓QL.oSc_int, ↓QL.rl_nil, ↓QL.rl_cons, ↓QL.wE_callB, ↓QL.la_nil, ↓QL.la_cons, ↓QL.la_nil2, ↓QL.wS_next, ↓QL.wS_seq, ↓QL.wS_expr, ↓QL.wS_ret, ↓QL.wS_retN, ↓QL.wS_brk, ↓QL.wS_cnt, ↓QL.wS_if, ↓QL.wS_set, ↓QL.wG_name, ↓QL.wG_own_v, ↓QL.wG_own_f, ↓QL.wG_tup, ↓QL.wGs_nil, ↓QL.wGs_cons, ↓QL.wAR_nil, ↓QL.wAR_cons, ↓QL.wS_par, ↓QL.wSt_nil, ↓QL.wSt_cons_t, ↓QL.wSt_cons_f, ↓QL.oVl_int, ↓QL.wS_augI, ↓QL.fAdd_eq, ↓QL.fSub_eq, ↓QL.oExt_eq, ↓QL.wS_ext, ↓QL.wS_put, ↓QL.oOwnL_own, ↓QL.wS_append, ↓QL.wE_dictK, ↓QL.wE_dictT, ↓QL.oKi_int, ↓QL.wE_dict1, ↓QL.wI_seq, ↓QL.wI_rng1, ↓QL.wI_rng2, ↓QL.wE_listRg1, ↓QL.wE_tupleRg1, ↓QL.wE_listRg2, ↓QL.wE_tupleRg2, ↓QL.oFd_eq, ↓QL.wI_keysF, ↓QL.oL1_tup, ↓QL.oL1_eq, ↓QL.wI_enum, ↓QL.oL2_l, ↓QL.oL2_t, ↓QL.wI_zip, ↓QL.loopE_ct, ↓QL.loopE_bk, ↓QL.loopE_rt, ↓QL.wS_for, ↓QL.wS_forK, ↓QL.wL_nil, ↓QL.wS_while, ↓QL.w_wipe_nil, ↓QL.w_wipe_cons, ↓QL.w_back_nil, ↓QL.w_back_cons, ↓QL.kept_val, ↓QL.kept_own, ↓QL.kept_none, ↓QL.wE_comp, ↓QL.wE_compK, ↓QL.wE_compB, ↓QL.wRt_val, ↓QL.wRt_fresh, ↓QL.w0_own, ↓QL.w_ixT, ↓QL.w_ixL, ↓QL.w_ixD, ↓QL.w_at0, ↓QL.w_at1, ↓QL.w_at2, ↓QL.w_map, ↓QL.w_bind, ↓QL.w_gd, ↓QL.w_gdn, ↓QL.w_isS, ↓QL.w_isN, ↓QL.w_add, ↓QL.w_sub, ↓QL.w_mul2, ↓QL.w_neg, ↓QL.w_lt, ↓QL.w_le, ↓QL.w_gt, ↓QL.w_ge, ↓QL.w_eqI, ↓QL.w_neI, ↓QL.w_eqB, ↓QL.w_neB, ↓QL.w_isBt, ↓QL.w_notBt, ↓QL.w_isNN, ↓QL.w_isNb, ↓QL.w_isNi, ↓QL.w_isNl, ↓QL.w_isNt, ↓QL.w_notNN, ↓QL.w_notNb, ↓QL.w_notNi, ↓QL.w_notNl, ↓QL.w_notNt, ↓QL.w_lenL, ↓QL.w_lenT, ↓QL.w_lenZ, ↓QL.w_sumL, ↓QL.w_sumT, ↓QL.w_sumLf, ↓QL.w_allLf, ↓QL.w_tupL, ↓QL.w_tupT, ↓QL.w_lstL, ↓QL.w_lstT, ↓QL.w_int, ↓QL.w_min2, ↓QL.w_max2, ↓QL.w_copyZ, ↓QL.w_pairsZ, ↓QL.w_findZ, ↓QL.w_keysZ, ↓QL.w_inZ, ↓QL.w_notInZ, ↓QL.w_inT, ↓QL.w_notInT, ↓QL.w_inL, ↓QL.w_notInL, ↓QL.w_intOf, ↓QL.w_intOf2, ↓QL.w_revL, ↓QL.w_revT, ↓QL.w_addL, ↓QL.w_addT, ↓QL.oS_lim, ↓QL.w_dT, ↓QL.w_dF, ↓QL.w_nt, ↓QL.w_nf, ↓QL.w_nn, ↓QL.w_andT, ↓QL.w_Tand, ↓QL.w_lenMap, ↓QL.w_isi_int_int, ↓QL.w_isi_int_bool, ↓QL.w_isi_int_str, ↓QL.w_isi_int_list, ↓QL.w_isi_int_tuple, ↓QL.w_isi_int_none, ↓QL.w_isi_bool_int, ↓QL.w_isi_bool_bool, ↓QL.w_isi_bool_str, ↓QL.w_isi_bool_list, ↓QL.w_isi_bool_tuple, ↓QL.w_isi_bool_none, ↓QL.w_isi_str_int, ↓QL.w_isi_str_bool, ↓QL.w_isi_str_str, ↓QL.w_isi_str_list, ↓QL.w_isi_str_tuple, ↓QL.w_isi_str_none, ↓QL.w_isi_list_int, ↓QL.w_isi_list_bool, ↓QL.w_isi_list_str, ↓QL.w_isi_list_list, ↓QL.w_isi_list_tuple, ↓QL.w_isi_list_none, ↓QL.w_isi_tuple_int, ↓QL.w_isi_tuple_bool, ↓QL.w_isi_tuple_str, ↓QL.w_isi_tuple_list, ↓QL.w_isi_tuple_tuple, ↓QL.w_isi_tuple_none, ↓QL.w_isi2_int, ↓QL.w_isi2_bool, ↓QL.w_isi2_str, ↓QL.w_isi2_list, ↓QL.w_isi2_tuple, ↓QL.w_isi2_none, ↓KK.w_eqLI, ↓KK.w_neLI, ↓KK.w_eqTI, ↓KK.w_neTI, ↓KK.w_eq00, ↓KK.w_eqI0, ↓KK.w_neI0, $xs,*])
theorem map_int {α : Type} (f : α → Int) (l : List α) : (l.map fun x => PyData.int (f x)) = (l.map f).map .int := by rw [List.map_map]; rfl
theorem eq_lI (l : List Int) : f__law_equal 8 none [.list (l.map .int), .list (l.map .int)] = .ok (.val (.bool true), none) := equal_lI 6 l
theorem eq_none : f__law_equal 8 none [.none, .none] = .ok (.val (.bool true), none) := equal_none 7
/-! ### keys are told once -/
theorem keys_put_eq (l : ZD) (k v : Int) : (putZ l k v).map (·.1) = if (l.any fun p => decide (p.1 = k)) = true then l.map (·.1) else l.map (·.1) ++ [k] := by
  unfold putZ
  by_cases h : (l.any fun p => decide (p.1 = k)) = true
  · rw [if_pos h, if_pos h, List.map_map]
    apply List.map_congr_left
    intro p _
    by_cases hp : p.1 = k <;> simp [hp]
  · rw [if_neg h, if_neg h]
    simp
theorem nodup_put {l : ZD} (h : (l.map (·.1)).Nodup) (k v : Int) : ((putZ l k v).map (·.1)).Nodup := by
  rw [keys_put_eq]
  split
  · exact h
  · rename_i hk
    rw [List.nodup_append]
    refine ⟨h, by simp, fun a ha b hb => ?_⟩
    rw [List.mem_singleton] at hb
    subst hb
    intro e
    subst e
    obtain ⟨p, hp, e⟩ := List.mem_map.mp ha
    exact hk (List.any_eq_true.mpr ⟨p, hp, decide_eq_true e⟩)
theorem nodup_foldl {α : Type} (f : ZD → α → ZD) (hf : ∀ l a, (l.map (·.1)).Nodup → ((f l a).map (·.1)).Nodup) : ∀ (xs : List α) (l : ZD), (l.map (·.1)).Nodup → ((xs.foldl f l).map (·.1)).Nodup
  | [], l, h => h
  | x :: xs, l, h => nodup_foldl f hf xs (f l x) (hf l x h)
theorem nodup_cnt (cs : List Int) : ((countsZ cs).map (·.1)).Nodup :=
  nodup_foldl cntStep (fun l c h => nodup_foldl (cntPut c l) (fun m t hm => nodup_put hm _ _) _ _ h) cs _ (by simp)
theorem nodup_sums (cs : List Int) : ((sumsZ cs).map (·.1)).Nodup :=
  nodup_foldl smStep (fun l c h => nodup_foldl (smPut c l) (fun m t hm => nodup_put (nodup_put hm _ _) _ _) _ _ (by simp)) cs _ (by simp)
theorem counts_len' {cs : List Int} (h : cs.length ≤ 16) : (countsZ cs).length ≤ 65536 := by
  have h1 := counts_len cs [(0, 1)]
  have h2 := pow16 h
  have h4 : (countsZ cs).length ≤ 2 ^ cs.length * 1 := h1
  omega
theorem sums_len' {cs : List Int} (h : cs.length ≤ 16) : (sumsZ cs).length ≤ 65536 := by
  have h1 := sums_len cs [(0, 1)]
  have h2 := pow16 h
  have h4 : (sumsZ cs).length ≤ 2 ^ cs.length * 1 := h1
  omega
/-- the sums that can be reached, in order -/
def reachL (cs : List Int) : List Int := sortZ ((countsZ cs).map (·.1))
theorem mem_reachL {cs : List Int} {k : Int} : k ∈ reachL cs ↔ Reach cs k := by
  unfold reachL
  rw [mem_sortZ, counts_keys]
theorem reachL_lt (cs : List Int) : (reachL cs).Pairwise (· < ·) := sortZ_lt (nodup_cnt cs)
theorem reachL_sums (cs : List Int) : sortZ ((sumsZ cs).map (·.1)) = reachL cs := lt_uniq (sortZ_lt (nodup_sums cs)) (reachL_lt cs) fun x => by rw [mem_sortZ, sums_keys, mem_reachL]
theorem reachL_len {cs : List Int} (h : cs.length ≤ 16) : (reachL cs).length ≤ 65536 := by
  unfold reachL
  rw [sortZ_len, List.length_map]
  exact counts_len' h
abbrev secZ (cs mine : List Int) : Int := worthZ cs (othersZ cs.length mine)
def payZ (cs mine : List Int) : List Int := (reachL cs).map fun t => t - secZ cs mine
theorem sub_lt {l : List Int} (h : l.Pairwise (· < ·)) (s : Int) : (l.map fun t => t - s).Pairwise (· < ·) := by
  rw [List.pairwise_map]
  exact h.imp fun h => by omega
theorem payZ_lt (cs mine : List Int) : (payZ cs mine).Pairwise (· < ·) := sub_lt (reachL_lt cs) _
theorem mem_payZ {cs mine : List Int} {p : Int} : p ∈ payZ cs mine ↔ Reach cs (p + secZ cs mine) := by
  unfold payZ
  rw [List.mem_map]
  constructor
  · rintro ⟨t, ht, rfl⟩
    rw [mem_reachL] at ht
    have : t - secZ cs mine + secZ cs mine = t := by omega
    rw [this]; exact ht
  · intro h
    exact ⟨p + secZ cs mine, mem_reachL.mpr h, by omega⟩
theorem payZ_sums (cs mine : List Int) : sortZ (((sumsZ cs).map (·.1)).map fun t => t - secZ cs mine) = payZ cs mine := by
  have hn : (((sumsZ cs).map (·.1)).map fun t => t - secZ cs mine).Nodup := by
    have := (sortZ_perm ((sumsZ cs).map (·.1))).map fun t => t - secZ cs mine
    rw [← this.nodup_iff, reachL_sums]
    exact nodup_lt (payZ_lt cs mine)
  refine lt_uniq (sortZ_lt hn) (payZ_lt cs mine) fun x => ?_
  rw [mem_sortZ, List.mem_map, mem_payZ]
  constructor
  · rintro ⟨t, ht, rfl⟩
    rw [sums_keys] at ht
    have : t - secZ cs mine + secZ cs mine = t := by omega
    rw [this]; exact ht
  · intro h
    exact ⟨_, (sums_keys cs _).mpr h, by omega⟩
theorem payable_ok {cs mine : List Int} (h : OkS cs mine) : f_payable none [stD cs mine] = .ok (.fresh (.list ((payZ cs mine).map .int)), none) := by
  have h1 := h.h1
  apply wF_eq
  rw [wd_payable]
  simp! only [wF_of (check_state_ok h), wF_of (total_of_second_ok h), wF_of (counts_for_ok (X := tI cs) (.inl rfl) (show cs.length ≤ 16 by omega)), gSorted_Z (Nat.le_trans (counts_len' (show cs.length ≤ 16 by omega)) (by decide))]
  refine wC_mapF PyData.int (fun t => .int (t - secZ cs mine)) trivial (fun t ht => ?_) ?_
  · simp! only [wK]
  · unfold payZ
    rw [List.map_map]
    rfl
/-- the first one, if any -/
def firstD (l : List Int) : D := match l with
  | [] => .none
  | x :: _ => .int x
theorem w_first {l : List Int} {st : DS} {i : Nat} {Q : RV → DS → Prop} (hi : st[i]? = some (some (.val (.list (l.map .int))))) : wE (eIf (tOf (eOp2 gNe (eVar i) (eLst []))) (eOp2 gIx (eVar i) (eC (.int 0))) (eC .none)) st Q = Q (.val (firstD l)) st := by
  simp! only [hi]
  cases l with
  | nil =>
    rw [decide_eq_false (fun h => h rfl)]
    simp! only []
    rfl
  | cons x l =>
    rw [decide_eq_true (by simp), List.map_cons]
    simp! only []
    rfl
theorem eq_first (l : List Int) : f__law_equal 8 none [firstD l, firstD l] = .ok (.val (.bool true), none) := by
  cases l with
  | nil => exact eq_none
  | cons x l => exact eq_int x
theorem next_payable_ok {cs mine : List Int} (h : OkS cs mine) {p : Int} (h0 : -12000 ≤ p) (h1 : p ≤ 12000) : f_next_payable none [stD cs mine, .int p] = .ok (.val (firstD ((payZ cs mine).filter fun q => decide (p ≤ q))), none) := by
  apply wF_eq
  rw [wd_next_payable]
  simp! only [wF_of (check_state_ok h), wF_of (check_price_ok h0 h1), wF_of (payable_ok h)]
  refine wC_filter PyData.int (fun q => decide (p ≤ q)) PyData.int trivial (fun t ht => ?_) ?_
  · simp! only [wK]
    by_cases hq : p ≤ t <;> simp [wB, hq]
  · generalize (payZ cs mine).filter (fun q => decide (p ≤ q)) = l
    cases l with
    | nil => simp! only [decide_eq_false (show ¬ (([] : List Int) ≠ []) from fun h => h rfl), firstD]
    | cons x l =>
      simp! only [decide_eq_true (show x :: l ≠ [] by simp)]
      rw [List.map_cons]
      simp! only []
      rfl
/-! ### no gaps -/
def gapZ : Int → List Int → Bool
  | _, [] => false
  | r, c :: l => if r + 1 < c then true else gapZ (r + c) l
theorem has_gap_ok {cs : List Int} (h : cs.length ≤ 1000) : f__law_has_gap none [tI cs] = .ok (.val (.bool (gapZ 0 (sortZ cs))), none) := by
  apply wF_eq
  rw [wd__law_has_gap]
  simp! only [gSorted_tI (show cs.length ≤ 1000000 by omega)]
  refine wL_inv PyData.int (fun l s => ∃ r o, gapZ r l = gapZ 0 (sortZ cs) ∧ s = [some (.val (tI cs)), some (.val (.int r)), o]) ?_ ⟨0, none, rfl, rfl⟩ ?_
  · rintro s ⟨r, o, hg, rfl⟩
    rw [← hg]
    rfl
  · rintro c l s - ⟨r, o, hg, rfl⟩
    rw [gapZ] at hg
    by_cases hc : r + 1 < c
    · rw [if_pos hc] at hg
      simp! only [decide_eq_true hc]
      rw [hg]
    · rw [if_neg hc] at hg
      simp! only [decide_eq_false hc]
      exact ⟨r + c, some (.val (.int c)), hg, rfl⟩
theorem reach_cons {c : Int} {l : List Int} {k : Int} : Reach (c :: l) k ↔ Reach l k ∨ Reach l (k - c) := by
  constructor
  · rintro ⟨s, h, rfl⟩
    cases h with
    | cons _ h => exact .inl ⟨s, h, rfl⟩
    | cons_cons _ h => exact .inr ⟨_, h, by simp; omega⟩
  · rintro (⟨s, h, rfl⟩ | ⟨s, h, e⟩)
    · exact ⟨s, .cons _ h, rfl⟩
    · exact ⟨c :: s, .cons_cons _ h, by simp [e]; omega⟩
theorem gap_cover : ∀ (l : List Int) (r : Int), 0 ≤ r → (∀ c ∈ l, 1 ≤ c) → gapZ r l = false → ∀ k, 0 ≤ k → k ≤ r + l.sum → ∃ j, 0 ≤ j ∧ j ≤ r ∧ Reach l (k - j)
  | [], r, _, _, _, k, h0, h1 => ⟨k, h0, by simpa using h1, by rw [reach_nil]; omega⟩
  | c :: l, r, hr, hp, hg, k, h0, h1 => by
    rw [gapZ] at hg
    have hc1 := hp c List.mem_cons_self
    by_cases hc : r + 1 < c
    · rw [if_pos hc] at hg; cases hg
    · rw [if_neg hc] at hg
      rw [List.sum_cons] at h1
      obtain ⟨j, j0, j1, hj⟩ := gap_cover l (r + c) (by omega) (fun d hd => hp d (List.mem_cons_of_mem _ hd)) hg k h0 (by omega)
      by_cases hjr : j ≤ r
      · exact ⟨j, j0, hjr, reach_cons.mpr (.inl hj)⟩
      · refine ⟨j - c, by omega, by omega, reach_cons.mpr (.inr ?_)⟩
        have : k - (j - c) - c = k - j := by omega
        rw [this]; exact hj
theorem sum_pos_le : ∀ {s : List Int}, (∀ c ∈ s, 0 ≤ c) → 0 ≤ s.sum ∧ ∀ c ∈ s, c ≤ s.sum
  | [], _ => by simp
  | a :: s, h => by
    obtain ⟨h1, h2⟩ := sum_pos_le (s := s) fun c hc => h c (List.mem_cons_of_mem _ hc)
    have h3 := h a List.mem_cons_self
    rw [List.sum_cons]
    refine ⟨by omega, fun c hc => ?_⟩
    rcases List.mem_cons.mp hc with rfl | hc
    · omega
    · have := h2 c hc
      omega
theorem gap_hole : ∀ (l : List Int) (r : Int), 0 ≤ r → (∀ c ∈ l, 1 ≤ c) → l.Pairwise (· ≤ ·) → gapZ r l = true → ∃ k, 0 ≤ k ∧ k ≤ r + l.sum ∧ ∀ j, 0 ≤ j → j ≤ r → ¬ Reach l (k - j)
  | [], r, _, _, _, hg => by cases hg
  | c :: l, r, hr, hp, hs, hg => by
    rw [gapZ] at hg
    have hc1 := hp c List.mem_cons_self
    have hpl : ∀ d ∈ l, 1 ≤ d := fun d hd => hp d (List.mem_cons_of_mem _ hd)
    have hls := (sum_pos_le (s := l) fun d hd => by have := hpl d hd; omega).1
    rw [List.sum_cons]
    by_cases hc : r + 1 < c
    · refine ⟨r + 1, by omega, by omega, fun j j0 j1 ⟨s, h1, h2⟩ => ?_⟩
      have hge : ∀ d ∈ s, c ≤ d := fun d hd => by
        rcases List.mem_cons.mp (h1.subset hd) with rfl | hd
        · exact Int.le_refl _
        · exact (List.pairwise_cons.mp hs).1 d hd
      have h3 := sum_pos_le (s := s) fun d hd => by have := hge d hd; omega
      cases s with
      | nil => simp at h2; omega
      | cons a s =>
        have h4 := h3.2 a List.mem_cons_self
        have h5 := hge a List.mem_cons_self
        omega
    · rw [if_neg hc] at hg
      obtain ⟨k, k0, k1, hk⟩ := gap_hole l (r + c) (by omega) hpl (List.pairwise_cons.mp hs).2 hg
      refine ⟨k, k0, by omega, fun j j0 j1 hR => ?_⟩
      rcases reach_cons.mp hR with h | h
      · exact hk j j0 (by omega) h
      · refine hk (j + c) (by omega) (by omega) ?_
        have : k - (j + c) = k - j - c := by omega
        rw [this]; exact h
theorem reach_sub {cs : List Int} (h : ∀ c ∈ cs, 0 ≤ c) {k : Int} (hk : Reach cs k) : 0 ≤ k ∧ k ≤ cs.sum := by
  obtain ⟨s, hs, rfl⟩ := hk
  refine ⟨(sum_pos_le fun c hc => h c (hs.subset hc)).1, ?_⟩
  have hh : ∀ {s cs : List Int}, s.Sublist cs → (∀ c ∈ cs, 0 ≤ c) → s.sum ≤ cs.sum := by
    intro s cs hs
    induction hs with
    | slnil => intro _; exact Int.le_refl _
    | cons a _ ih =>
      intro h
      have h1 := ih fun c hc => h c (List.mem_cons_of_mem _ hc)
      have h2 := h a List.mem_cons_self
      rw [List.sum_cons]; omega
    | cons_cons a _ ih =>
      intro h
      have h1 := ih fun c hc => h c (List.mem_cons_of_mem _ hc)
      rw [List.sum_cons, List.sum_cons]; omega
  exact hh hs h
theorem reach_compl {cs : List Int} {k : Int} (h : Reach cs k) : Reach cs (cs.sum - k) := by
  obtain ⟨s, hs, rfl⟩ := h
  induction hs with
  | slnil => exact reach_zero _
  | @cons s cs a _ ih =>
    rw [List.sum_cons]
    refine reach_cons.mpr (.inr ?_)
    have : a + cs.sum - s.sum - a = cs.sum - s.sum := by omega
    rw [this]; exact ih
  | @cons_cons s cs a _ ih =>
    rw [List.sum_cons, List.sum_cons]
    refine reach_cons.mpr (.inl ?_)
    have : a + cs.sum - (a + s.sum) = cs.sum - s.sum := by omega
    rw [this]; exact ih
theorem gap_iff {cs : List Int} (h : ∀ c ∈ cs, 1 ≤ c) : gapZ 0 (sortZ cs) = false ↔ ∀ k, 0 ≤ k → k ≤ cs.sum → Reach cs k := by
  have hp := sortZ_perm cs
  have hs : (sortZ cs).sum = cs.sum := sum_perm hp
  have h' : ∀ c ∈ sortZ cs, 1 ≤ c := fun c hc => h c (mem_sortZ.mp hc)
  constructor
  · intro hg k k0 k1
    obtain ⟨j, j0, j1, hj⟩ := gap_cover (sortZ cs) 0 (by decide) h' hg k k0 (by omega)
    have : k - j = k := by omega
    rw [this] at hj
    exact reach_perm hp hj
  · intro hall
    cases hg : gapZ 0 (sortZ cs) with
    | false => rfl
    | true =>
      obtain ⟨k, k0, k1, hk⟩ := gap_hole (sortZ cs) 0 (by decide) h' (sortZ_le cs) hg
      refine absurd (reach_perm hp.symm (hall k k0 (by omega))) ?_
      have := hk 0 (by decide) (by decide)
      simpa using this
theorem mem_zR' {n : Nat} {i : Int} : i ∈ zR n ↔ 0 ≤ i ∧ i < n := mem_zR
/-- as many sums as numbers: no gap -/
theorem len_iff {cs : List Int} (h : ∀ c ∈ cs, 1 ≤ c) : ((reachL cs).length : Int) = cs.sum + 1 ↔ gapZ 0 (sortZ cs) = false := by
  have h0 : ∀ c ∈ cs, 0 ≤ c := fun c hc => by have := h c hc; omega
  have hs := (sum_pos_le h0).1
  have hsub : (reachL cs).Sublist (zR (cs.sum + 1).toNat) := sub_of_lt (reachL_lt cs) (pw_zR _) fun k hk => by
    have := reach_sub h0 (mem_reachL.mp hk)
    rw [mem_zR]; omega
  rw [gap_iff h]
  constructor
  · intro hl k k0 k1
    have he := hsub.eq_of_length (by rw [zR_len]; omega)
    rw [← mem_reachL, he, mem_zR]
    omega
  · intro hall
    have he : reachL cs = zR (cs.sum + 1).toNat := lt_uniq (reachL_lt cs) (pw_zR _) fun k => by
      rw [mem_reachL, mem_zR]
      constructor
      · intro hk
        have := reach_sub h0 hk
        omega
      · intro hk
        exact hall k hk.1 (by omega)
    rw [he, zR_len]
    omega
theorem tot_sum {cs mine : List Int} (h : OkS cs mine) : worthZ cs mine + secZ cs mine = cs.sum := by
  have := sum_perm (split_perm h)
  rw [List.sum_append] at this
  exact this
/-- the ends of an ascending list -/
theorem at_head {l : List Int} {a : Int} (hl : l.Pairwise (· < ·)) (ha : a ∈ l) (hm : ∀ x ∈ l, a ≤ x) : atD (l.map PyData.int) 0 = some (.int a) := by
  cases l with
  | nil => cases ha
  | cons x l =>
    have h1 := hm x List.mem_cons_self
    have : x = a := by
      rcases List.mem_cons.mp ha with rfl | ha
      · rfl
      · have := (List.pairwise_cons.mp hl).1 a ha
        omega
    subst this
    exact atD_0 _ _
theorem at_last {l : List Int} {a : Int} (hl : l.Pairwise (· < ·)) (ha : a ∈ l) (hm : ∀ x ∈ l, x ≤ a) : atD (l.map PyData.int) (-1) = some (.int a) := by
  have hne : l ≠ [] := fun e => by subst e; cases ha
  have hlen : 0 < l.length := List.length_pos_iff.mpr hne
  obtain ⟨i, hi, e⟩ := List.mem_iff_getElem.mp ha
  have hlast : l[l.length - 1] = a := by
    have h1 := hm _ (List.getElem_mem (show l.length - 1 < l.length by omega))
    by_cases hil : i = l.length - 1
    · subst hil; exact e
    · have := List.pairwise_iff_getElem.mp hl i (l.length - 1) hi (by omega) (by omega)
      omega
  unfold atD ixD
  rw [if_neg (by decide), List.length_map, if_pos (by omega)]
  have e2 : ((-1 : Int) + (l.length : Int)).toNat = l.length - 1 := by omega
  show (l.map PyData.int)[((-1 : Int) + (l.length : Int)).toNat]? = _
  rw [e2, List.getElem?_map, List.getElem?_eq_getElem (by omega), hlast]
  rfl
end KK

end
section
/-! S12: membership in the sums, ranges, stretch. -/
namespace KK
open PySem QL
local macro_rules | `(tactic| simp! only [$xs,*]) => `(tactic| simp only [↓QL.oVar_val, ↓QL.oVar_own, ↓QL.oBor_val, ↓QL.oBor_own, ↓QL.oMove_val, ↓QL.oMove_own, ↓QL.oOwn_own, ↓QL.oDict_val, ↓QL.oDict_own, ↓QL.oI_int, ↓QL.oB_bool, ↓QL.oSq_l, ↓QL.oSq_t, ↓QL.oTp_t, ↓QL.oLs_t, ↓QL.oDc_t, ↓QL.oV_val, ↓QL.oV_fresh, ↓QL.oN_val, ↓QL.oN_fresh, ↓QL.oS_some, ↓QL.lv_val, ↓QL.lv_fresh, ↓QL.lv_bor, ↓QL.oLv_own, ↓QL.rvd_val, ↓QL.rvd_fresh, ↓QL.rvd_bor, ↓QL.sg0, ↓QL.ss0, ↓QL.sg1, ↓QL.ss1, ↓QL.sg2, ↓QL.ss2, ↓QL.sg3, ↓QL.ss3, ↓QL.sg4, ↓QL.ss4, ↓QL.sg5, ↓QL.ss5, ↓QL.sg6, ↓QL.ss6, ↓QL.sg7, ↓QL.ss7, ↓QL.sg8, ↓QL.ss8, ↓QL.sg9, ↓QL.ss9, ↓QL.sg10, ↓QL.ss10, ↓QL.sg11, ↓QL.ss11, ↓QL.sg12, ↓QL.ss12, ↓QL.sg13, ↓QL.ss13, ↓QL.sg14, ↓QL.ss14, ↓QL.sg15, ↓QL.ss15, ↓QL.sg16, ↓QL.ss16, ↓QL.sg17, ↓QL.ss17, ↓QL.sg18, ↓QL.ss18, ↓QL.sg19, ↓QL.ss19, ↓QL.sg20, ↓QL.ss20, ↓QL.sg21, ↓QL.ss21, ↓QL.sg22, ↓QL.ss22, ↓QL.sg23, ↓QL.ss23, ↓QL.wE_C, ↓QL.wE_var, ↓QL.wE_bor, ↓QL.wE_move, ↓QL.wE_op1, ↓QL.wE_op2, ↓QL.wA_nil, ↓QL.wA_cons, ↓QL.wE_tup, ↓QL.wE_lst, ↓QL.wT_of, ↓QL.wT_not, ↓QL.wB_true, ↓QL.wB_false, ↓QL.wB_not, ↓QL.wT_and, ↓QL.wT_or, ↓QL.wT_yes, ↓QL.wE_not, ↓QL.wE_and, ↓QL.wE_or, ↓QL.wE_if, ↓QL.oCh_b, ↓QL.wE_chain, ↓QL.wP_some, ↓QL.wP_none, ↓QL.wE_sl, ↓QL.wE_get, ↓QL.wE_call, ↓QL.wE_callS, ↓QL.wAB_nil, ↓QL.wAB_cons, ↓QL.oSc_bool, ↓QL.oSc_int, ↓QL.rl_nil, ↓QL.rl_cons, ↓QL.wE_callB, ↓QL.la_nil, ↓QL.la_cons, ↓QL.la_nil2, ↓QL.wS_next, ↓QL.wS_seq, ↓QL.wS_expr, ↓QL.wS_ret, ↓QL.wS_retN, ↓QL.wS_brk, ↓QL.wS_cnt, ↓QL.wS_if, ↓QL.wS_set, ↓QL.wG_name, ↓QL.wG_own_v, ↓QL.wG_own_f, ↓QL.wG_tup, ↓QL.wGs_nil, ↓QL.wGs_cons, ↓QL.wAR_nil, ↓QL.wAR_cons, ↓QL.wS_par, ↓QL.wSt_nil, ↓QL.wSt_cons_t, ↓QL.wSt_cons_f, ↓QL.oVl_int, ↓QL.wS_augI, ↓QL.fAdd_eq, ↓QL.fSub_eq, ↓QL.oExt_eq, ↓QL.wS_ext, ↓QL.wS_put, ↓QL.oOwnL_own, ↓QL.wS_append, ↓QL.wE_dictK, ↓QL.wE_dictT, ↓QL.oKi_int, ↓QL.wE_dict1, ↓QL.wI_seq, ↓QL.wI_rng1, ↓QL.wI_rng2, ↓QL.wE_listRg1, ↓QL.wE_tupleRg1, ↓QL.wE_listRg2, ↓QL.wE_tupleRg2, ↓QL.oFd_eq, ↓QL.wI_keysF, ↓QL.oL1_tup, ↓QL.oL1_eq, ↓QL.wI_enum, ↓QL.oL2_l, ↓QL.oL2_t, ↓QL.wI_zip, ↓QL.loopE_ct, ↓QL.loopE_bk, ↓QL.loopE_rt, ↓QL.wS_for, ↓QL.wS_forK, ↓QL.wL_nil, ↓QL.wS_while, ↓QL.w_wipe_nil, ↓QL.w_wipe_cons, ↓QL.w_back_nil, ↓QL.w_back_cons, ↓QL.kept_val, ↓QL.kept_own, ↓QL.kept_none, ↓QL.wE_comp, ↓QL.wE_compK, ↓QL.wE_compB, ↓QL.wRt_val, ↓QL.wRt_fresh, ↓QL.w0_own, ↓QL.w_ixT, ↓QL.w_ixL, ↓QL.w_ixD, ↓QL.w_at0, ↓QL.w_at1, ↓QL.w_at2, ↓QL.w_map, ↓QL.w_bind, ↓QL.w_gd, ↓QL.w_gdn, ↓QL.w_isS, ↓QL.w_isN, ↓QL.w_add, ↓QL.w_sub, ↓QL.w_mul2, ↓QL.w_neg, ↓QL.w_lt, ↓QL.w_le, ↓QL.w_gt, ↓QL.w_ge, ↓QL.w_eqI, ↓QL.w_neI, ↓QL.w_eqB, ↓QL.w_neB, ↓QL.w_isBt, ↓QL.w_notBt, ↓QL.w_isNN, ↓QL.w_isNb, ↓QL.w_isNi, ↓QL.w_isNl, ↓QL.w_isNt, ↓QL.w_notNN, ↓QL.w_notNb, ↓QL.w_notNi, ↓QL.w_notNl, ↓QL.w_notNt, ↓QL.w_lenL, ↓QL.w_lenT, ↓QL.w_lenZ, ↓QL.w_sumL, ↓QL.w_sumT, ↓QL.w_sumLf, ↓QL.w_allLf, ↓QL.w_tupL, ↓QL.w_tupT, ↓QL.w_lstL, ↓QL.w_lstT, ↓QL.w_int, ↓QL.w_min2, ↓QL.w_max2, ↓QL.w_copyZ, ↓QL.w_pairsZ, ↓QL.w_findZ, ↓QL.w_keysZ, ↓QL.w_inZ, ↓QL.w_notInZ, ↓QL.w_inT, ↓QL.w_notInT, ↓QL.w_inL, ↓QL.w_notInL, ↓QL.w_intOf, ↓QL.w_intOf2, ↓QL.w_revL, ↓QL.w_revT, ↓QL.w_addL, ↓QL.w_addT, ↓QL.oS_lim, ↓QL.w_dT, ↓QL.w_dF, ↓QL.w_nt, ↓QL.w_nf, ↓QL.w_nn, ↓QL.w_andT, ↓QL.w_Tand, ↓QL.w_lenMap, ↓QL.w_isi_int_int, ↓QL.w_isi_int_bool, ↓QL.w_isi_int_str, ↓QL.w_isi_int_list, ↓QL.w_isi_int_tuple, ↓QL.w_isi_int_none, ↓QL.w_isi_bool_int, ↓QL.w_isi_bool_bool, ↓QL.w_isi_bool_str, ↓QL.w_isi_bool_list, ↓QL.w_isi_bool_tuple, ↓QL.w_isi_bool_none, ↓QL.w_isi_str_int, ↓QL.w_isi_str_bool, ↓QL.w_isi_str_str, ↓QL.w_isi_str_list, ↓QL.w_isi_str_tuple, ↓QL.w_isi_str_none, ↓QL.w_isi_list_int, ↓QL.w_isi_list_bool, ↓QL.w_isi_list_str, ↓QL.w_isi_list_list, ↓QL.w_isi_list_tuple, ↓QL.w_isi_list_none, ↓QL.w_isi_tuple_int, ↓QL.w_isi_tuple_bool, ↓QL.w_isi_tuple_str, ↓QL.w_isi_tuple_list, ↓QL.w_isi_tuple_tuple, ↓QL.w_isi_tuple_none, ↓QL.w_isi2_int, ↓QL.w_isi2_bool, ↓QL.w_isi2_str, ↓QL.w_isi2_list, ↓QL.w_isi2_tuple, ↓QL.w_isi2_none, ↓KK.w_eqLI, ↓KK.w_neLI, ↓KK.w_eqTI, ↓KK.w_neTI, ↓KK.w_eq00, ↓KK.w_eqI0, ↓KK.w_neI0, $xs,*])
/-- k is a sum of some coins, as the dict tells it -/
def inS (cs : List Int) (k : Int) : Bool := (getZ (countsZ cs) k).isSome
theorem inS_iff {cs : List Int} {k : Int} : inS cs k = true ↔ Reach cs k := by
  unfold inS
  rw [← counts_keys, ← getZ_mem, Option.isSome_iff_exists]
theorem inS_false {cs : List Int} {k : Int} : inS cs k = false ↔ ¬ Reach cs k := by
  rw [← inS_iff]; simp
-- W
theorem w_cnt (cs : List Int) (k : Int) : (getZ (countsZ cs) k).isSome = inS cs k := id rfl
-- W
theorem w_sum (cs : List Int) (k : Int) : (getZ (sumsZ cs) k).isSome = inS cs k := by
  rw [Bool.eq_iff_iff, inS_iff, ← sums_keys, ← getZ_mem, Option.isSome_iff_exists]
theorem reachL_length (cs : List Int) : (reachL cs).length = (countsZ cs).length := by
  unfold reachL
  rw [sortZ_len, List.length_map]
theorem sums_length (cs : List Int) : (sumsZ cs).length = (countsZ cs).length := by
  have h := congrArg List.length (reachL_sums cs)
  rw [sortZ_len, List.length_map, reachL_length] at h
  exact h
theorem payZ_length (cs mine : List Int) : (payZ cs mine).length = (countsZ cs).length := by
  unfold payZ
  rw [List.length_map, reachL_length]
theorem can_pay_inS {cs mine : List Int} (h : OkS cs mine) {p : Int} (h0 : -12000 ≤ p) (h1 : p ≤ 12000) : f_can_pay none [stD cs mine, .int p] = .ok (.val (.bool (inS cs (p + secZ cs mine))), none) := by
  obtain ⟨b, eb, hb⟩ := can_pay_ok h h0 h1
  have : b = inS cs (p + secZ cs mine) := by rw [Bool.eq_iff_iff, hb, inS_iff]
  rw [← this]
  exact eb
theorem wF_ex {f : DF} {o : Option D} {ds : List D} {Q : RV → Option D → Prop} (h : wF f o ds Q) : ∃ r o', f o ds = .ok (r, o') ∧ Q r o' := by
  unfold wF at h
  obtain ⟨⟨a, b⟩, h1, h2⟩ := wR_elim h
  exact ⟨a, b, h1, h2⟩
-- W
theorem w_len0 : ((([] : List D).length : Nat) : Int) = 0 := id rfl
-- W
theorem w_len1 (x : D) : ((([x] : List D).length : Nat) : Int) = 1 := id rfl
-- W
theorem w_len2 (x y : D) : ((([x, y] : List D).length : Nat) : Int) = 2 := id rfl
-- W
theorem w_len3 (x y z : D) : ((([x, y, z] : List D).length : Nat) : Int) = 3 := id rfl
theorem deF {p : Prop} [Decidable p] (h : ¬ p) : decide p = false := decide_eq_false h
theorem deT {p : Prop} [Decidable p] (h : p) : decide p = true := decide_eq_true h
/-! ### ranges -/
def zRg (i j : Int) : List Int := (List.range (j - i).toNat).map fun (k : Nat) => i + (k : Int)
theorem rangeD_zRg (i j : Int) : rangeD i j = (zRg i j).map .int := by
  unfold rangeD zRg
  rw [List.map_map]; rfl
theorem mem_zRg {i j k : Int} : k ∈ zRg i j ↔ i ≤ k ∧ k < j := by
  unfold zRg
  rw [List.mem_map]
  constructor
  · rintro ⟨n, hn, rfl⟩
    rw [List.mem_range] at hn
    omega
  · intro h
    exact ⟨(k - i).toNat, by rw [List.mem_range]; omega, by omega⟩
theorem zRg_lt (i j : Int) : (zRg i j).Pairwise (· < ·) := by
  unfold zRg
  rw [List.pairwise_map]
  exact List.pairwise_lt_range.imp fun h => by omega
theorem w_rng {i j : Int} {Q : List D → Prop} (h : -1000000 ≤ i) (h1 : i ≤ 1000000) (h2 : -1000000 ≤ j) (h3 : j ≤ 1000000) : wRg i j Q = Q ((zRg i j).map .int) := by rw [wRg_of h h1 h2 h3, rangeD_zRg]
/-! ### stretch, count_missing -/
theorem reach_bound {cs mine : List Int} (h : OkS cs mine) {k : Int} (hk : Reach cs k) : 0 ≤ k ∧ k ≤ 12000 := by
  have h1 := reach_sub (fun c hc => by have := (h.hc c hc).1; omega) hk
  have h2 := tot_sum h
  have h3 := h.worth
  have h4 : 0 ≤ secZ cs mine ∧ secZ cs mine ≤ 12000 := h.rest.worth
  have h5 := reach_bounds h.hc hk
  have h6 := h.h1
  omega
theorem stretch_ok {cs mine : List Int} (h : OkS cs mine) : ∃ lo hi : Int, f_stretch none [stD cs mine] = .ok (.val (.tuple [.int (lo - secZ cs mine), .int (hi - secZ cs mine)]), none) ∧ lo ≤ secZ cs mine ∧ secZ cs mine ≤ hi ∧ (∀ k, lo ≤ k → k ≤ hi → Reach cs k) ∧ ¬ Reach cs (lo - 1) ∧ ¬ Reach cs (hi + 1) := by
  have h12 := h.h1
  have hs : Reach cs (secZ cs mine) := reach_perm (split_perm h) (by
    have := reach_append (reach_zero (mine.map (atZ cs))) (reach_all ((othersZ cs.length mine).map (atZ cs)))
    rw [Int.zero_add] at this
    exact this)
  have hsing : ∀ k, secZ cs mine ≤ k → k ≤ secZ cs mine → Reach cs k := fun k a b => by
    have e : k = secZ cs mine := by omega
    rw [e]; exact hs
  have hg : ∃ r o', f_stretch none [stD cs mine] = .ok (r, o') ∧ ∃ lo hi : Int, lo ≤ secZ cs mine ∧ secZ cs mine ≤ hi ∧ (∀ k, lo ≤ k → k ≤ hi → Reach cs k) ∧ ¬ Reach cs (lo - 1) ∧ ¬ Reach cs (hi + 1) ∧ r = .val (.tuple [.int (lo - secZ cs mine), .int (hi - secZ cs mine)]) ∧ o' = none := by
    refine wF_ex ?_
    rw [wd_stretch]
    simp! only [wF_of (check_state_ok h), wF_of (counts_for_ok (X := tI cs) (.inl rfl) (show cs.length ≤ 16 by omega)), wF_of (total_of_second_ok h)]
    refine wW_inv (fun m s => ∃ lo : Int, lo ≤ secZ cs mine ∧ (∀ k, lo ≤ k → k ≤ secZ cs mine → Reach cs k) ∧ m = lo.toNat ∧ s = [some (.val (stD cs mine)), some (.val (.dict (encZ (countsZ cs)))), some (.val (.int (secZ cs mine))), some (.val (.int lo)), some (.val (.int (secZ cs mine)))]) ?_ (m := (secZ cs mine).toNat) ⟨_, Int.le_refl _, hsing, rfl, rfl⟩ ?_
    · rintro m s ⟨lo, hlo, hall, rfl, rfl⟩
      simp! only []
      constructor
      · intro hb
        have hr := inS_iff.mp hb
        have hr0 := reach_bound h hr
        refine ⟨(lo - 1).toNat, by omega, lo - 1, by omega, fun k a b => ?_, rfl, rfl⟩
        by_cases e : k = lo - 1
        · rw [e]; exact hr
        · exact hall k (by omega) b
      · intro hb
        have hnr := inS_false.mp hb
        refine wW_inv (fun m s => ∃ hi : Int, secZ cs mine ≤ hi ∧ hi ≤ 12000 ∧ (∀ k, secZ cs mine ≤ k → k ≤ hi → Reach cs k) ∧ m = (12000 - hi).toNat ∧ s = [some (.val (stD cs mine)), some (.val (.dict (encZ (countsZ cs)))), some (.val (.int (secZ cs mine))), some (.val (.int lo)), some (.val (.int hi))]) ?_ (m := (12000 - secZ cs mine).toNat) ⟨_, Int.le_refl _, (reach_bound h hs).2, hsing, rfl, rfl⟩ ?_
        · rintro m s ⟨hi, hhi, hhi2, hall2, rfl, rfl⟩
          simp! only []
          constructor
          · intro hb
            have hr := inS_iff.mp hb
            have hr0 := reach_bound h hr
            refine ⟨(12000 - (hi + 1)).toNat, by omega, hi + 1, by omega, by omega, fun k a b => ?_, rfl, rfl⟩
            by_cases e : k = hi + 1
            · rw [e]; exact hr
            · exact hall2 k a (by omega)
          · intro hb
            refine ⟨lo, hi, hlo, hhi, fun k a b => ?_, hnr, inS_false.mp hb, rfl⟩
            by_cases hk : k ≤ secZ cs mine
            · exact hall k a hk
            · exact hall2 k (by omega) b
        · have := (reach_bound h hs).1
          show _ < 100000
          omega
    · have := (reach_bound h hs).2
      show _ < 100000
      omega
  obtain ⟨r, o', he, lo, hi, a, b, c, d, e, rfl, rfl⟩ := hg
  exact ⟨lo, hi, he, a, b, c, d, e⟩
end KK

end
section
/-! S13: coins that are lost. -/
namespace KK
open PySem QL
local macro_rules | `(tactic| simp! only [$xs,*]) => `(tactic| simp only [↓QL.oVar_val, ↓QL.oVar_own, ↓QL.oBor_val, ↓QL.oBor_own, ↓QL.oMove_val, ↓QL.oMove_own, ↓QL.oOwn_own, ↓QL.oDict_val, ↓QL.oDict_own, ↓QL.oI_int, ↓QL.oB_bool, ↓QL.oSq_l, ↓QL.oSq_t, ↓QL.oTp_t, ↓QL.oLs_t, ↓QL.oDc_t, ↓QL.oV_val, ↓QL.oV_fresh, ↓QL.oN_val, ↓QL.oN_fresh, ↓QL.oS_some, ↓QL.lv_val, ↓QL.lv_fresh, ↓QL.lv_bor, ↓QL.oLv_own, ↓QL.rvd_val, ↓QL.rvd_fresh, ↓QL.rvd_bor, ↓QL.sg0, ↓QL.ss0, ↓QL.sg1, ↓QL.ss1, ↓QL.sg2, ↓QL.ss2, ↓QL.sg3, ↓QL.ss3, ↓QL.sg4, ↓QL.ss4, ↓QL.sg5, ↓QL.ss5, ↓QL.sg6, ↓QL.ss6, ↓QL.sg7, ↓QL.ss7, ↓QL.sg8, ↓QL.ss8, ↓QL.sg9, ↓QL.ss9, ↓QL.sg10, ↓QL.ss10, ↓QL.sg11, ↓QL.ss11, ↓QL.sg12, ↓QL.ss12, ↓QL.sg13, ↓QL.ss13, ↓QL.sg14, ↓QL.ss14, ↓QL.sg15, ↓QL.ss15, ↓QL.sg16, ↓QL.ss16, ↓QL.sg17, ↓QL.ss17, ↓QL.sg18, ↓QL.ss18, ↓QL.sg19, ↓QL.ss19, ↓QL.sg20, ↓QL.ss20, ↓QL.sg21, ↓QL.ss21, ↓QL.sg22, ↓QL.ss22, ↓QL.sg23, ↓QL.ss23, ↓QL.wE_C, ↓QL.wE_var, ↓QL.wE_bor, ↓QL.wE_move, ↓QL.wE_op1, ↓QL.wE_op2, ↓QL.wA_nil, ↓QL.wA_cons, ↓QL.wE_tup, ↓QL.wE_lst, ↓QL.wT_of, ↓QL.wT_not, ↓QL.wB_true, ↓QL.wB_false, ↓QL.wB_not, ↓QL.wT_and, ↓QL.wT_or, ↓QL.wT_yes, ↓QL.wE_not, ↓QL.wE_and, ↓QL.wE_or, ↓QL.wE_if, ↓QL.oCh_b, ↓QL.wE_chain, ↓QL.wP_some, ↓QL.wP_none, ↓QL.wE_sl, ↓QL.wE_get, ↓QL.wE_call, ↓QL.wE_callS, ↓QL.wAB_nil, ↓QL.wAB_cons, ↓QL.oSc_bool, ↓QL.oSc_int, ↓QL.rl_nil, ↓QL.rl_cons, ↓QL.wE_callB, ↓QL.la_nil, ↓QL.la_cons, ↓QL.la_nil2, ↓QL.wS_next, ↓QL.wS_seq, ↓QL.wS_expr, ↓QL.wS_ret, ↓QL.wS_retN, ↓QL.wS_brk, ↓QL.wS_cnt, ↓QL.wS_if, ↓QL.wS_set, ↓QL.wG_name, ↓QL.wG_own_v, ↓QL.wG_own_f, ↓QL.wG_tup, ↓QL.wGs_nil, ↓QL.wGs_cons, ↓QL.wAR_nil, ↓QL.wAR_cons, ↓QL.wS_par, ↓QL.wSt_nil, ↓QL.wSt_cons_t, ↓QL.wSt_cons_f, ↓QL.oVl_int, ↓QL.wS_augI, ↓QL.fAdd_eq, ↓QL.fSub_eq, ↓QL.oExt_eq, ↓QL.wS_ext, ↓QL.wS_put, ↓QL.oOwnL_own, ↓QL.wS_append, ↓QL.wE_dictK, ↓QL.wE_dictT, ↓QL.oKi_int, ↓QL.wE_dict1, ↓QL.wI_seq, ↓QL.wI_rng1, ↓QL.wI_rng2, ↓QL.wE_listRg1, ↓QL.wE_tupleRg1, ↓QL.wE_listRg2, ↓QL.wE_tupleRg2, ↓QL.oFd_eq, ↓QL.wI_keysF, ↓QL.oL1_tup, ↓QL.oL1_eq, ↓QL.wI_enum, ↓QL.oL2_l, ↓QL.oL2_t, ↓QL.wI_zip, ↓QL.loopE_ct, ↓QL.loopE_bk, ↓QL.loopE_rt, ↓QL.wS_for, ↓QL.wS_forK, ↓QL.wL_nil, ↓QL.wS_while, ↓QL.w_wipe_nil, ↓QL.w_wipe_cons, ↓QL.w_back_nil, ↓QL.w_back_cons, ↓QL.kept_val, ↓QL.kept_own, ↓QL.kept_none, ↓QL.wE_comp, ↓QL.wE_compK, ↓QL.wE_compB, ↓QL.wRt_val, ↓QL.wRt_fresh, ↓QL.w0_own, ↓QL.w_ixT, ↓QL.w_ixL, ↓QL.w_ixD, ↓QL.w_at0, ↓QL.w_at1, ↓QL.w_at2, ↓QL.w_map, ↓QL.w_bind, ↓QL.w_gd, ↓QL.w_gdn, ↓QL.w_isS, ↓QL.w_isN, ↓QL.w_add, ↓QL.w_sub, ↓QL.w_mul2, ↓QL.w_neg, ↓QL.w_lt, ↓QL.w_le, ↓QL.w_gt, ↓QL.w_ge, ↓QL.w_eqI, ↓QL.w_neI, ↓QL.w_eqB, ↓QL.w_neB, ↓QL.w_isBt, ↓QL.w_notBt, ↓QL.w_isNN, ↓QL.w_isNb, ↓QL.w_isNi, ↓QL.w_isNl, ↓QL.w_isNt, ↓QL.w_notNN, ↓QL.w_notNb, ↓QL.w_notNi, ↓QL.w_notNl, ↓QL.w_notNt, ↓QL.w_lenL, ↓QL.w_lenT, ↓QL.w_lenZ, ↓QL.w_sumL, ↓QL.w_sumT, ↓QL.w_sumLf, ↓QL.w_allLf, ↓QL.w_tupL, ↓QL.w_tupT, ↓QL.w_lstL, ↓QL.w_lstT, ↓QL.w_int, ↓QL.w_min2, ↓QL.w_max2, ↓QL.w_copyZ, ↓QL.w_pairsZ, ↓QL.w_findZ, ↓QL.w_keysZ, ↓QL.w_inZ, ↓QL.w_notInZ, ↓QL.w_inT, ↓QL.w_notInT, ↓QL.w_inL, ↓QL.w_notInL, ↓QL.w_intOf, ↓QL.w_intOf2, ↓QL.w_revL, ↓QL.w_revT, ↓QL.w_addL, ↓QL.w_addT, ↓QL.oS_lim, ↓QL.w_dT, ↓QL.w_dF, ↓QL.w_nt, ↓QL.w_nf, ↓QL.w_nn, ↓QL.w_andT, ↓QL.w_Tand, ↓QL.w_lenMap, ↓QL.w_isi_int_int, ↓QL.w_isi_int_bool, ↓QL.w_isi_int_str, ↓QL.w_isi_int_list, ↓QL.w_isi_int_tuple, ↓QL.w_isi_int_none, ↓QL.w_isi_bool_int, ↓QL.w_isi_bool_bool, ↓QL.w_isi_bool_str, ↓QL.w_isi_bool_list, ↓QL.w_isi_bool_tuple, ↓QL.w_isi_bool_none, ↓QL.w_isi_str_int, ↓QL.w_isi_str_bool, ↓QL.w_isi_str_str, ↓QL.w_isi_str_list, ↓QL.w_isi_str_tuple, ↓QL.w_isi_str_none, ↓QL.w_isi_list_int, ↓QL.w_isi_list_bool, ↓QL.w_isi_list_str, ↓QL.w_isi_list_list, ↓QL.w_isi_list_tuple, ↓QL.w_isi_list_none, ↓QL.w_isi_tuple_int, ↓QL.w_isi_tuple_bool, ↓QL.w_isi_tuple_str, ↓QL.w_isi_tuple_list, ↓QL.w_isi_tuple_tuple, ↓QL.w_isi_tuple_none, ↓QL.w_isi2_int, ↓QL.w_isi2_bool, ↓QL.w_isi2_str, ↓QL.w_isi2_list, ↓QL.w_isi2_tuple, ↓QL.w_isi2_none, ↓KK.w_eqLI, ↓KK.w_neLI, ↓KK.w_eqTI, ↓KK.w_neTI, ↓KK.w_eq00, ↓KK.w_eqI0, ↓KK.w_neI0, ↓KK.w_cnt, ↓KK.w_sum, ↓KK.w_len0, ↓KK.w_len1, ↓KK.w_len2, ↓KK.w_len3, $xs,*])
theorem atZ_get {cs : List Int} {i : Int} (h0 : 0 ≤ i) (h1 : i < cs.length) : atD (cs.map PyData.int) i = some (.int (atZ cs i)) := atD_map h0 h1
abbrev keptZ (n : Nat) (lost : List Int) : List Int := othersZ n lost
def keptC (cs lost : List Int) : List Int := (keptZ cs.length lost).map (atZ cs)
/-- the total of the second person without the lost coins -/
def secL (cs mine lost : List Int) : Int := worthZ cs ((othersZ cs.length mine).filter fun i => decide (i ∈ keptZ cs.length lost))
def withB (cs mine : List Int) (p : Int) (lost : List Int) : Bool := inS (keptC cs lost) (p + secL cs mine lost)
theorem keptC_len (cs lost : List Int) : (keptC cs lost).length ≤ cs.length := by
  unfold keptC keptZ othersZ
  rw [List.length_map]
  exact Nat.le_trans (List.length_filter_le _ _) (by rw [zR_len]; exact Nat.le_refl _)
theorem can_without_ok {cs mine : List Int} (h : OkS cs mine) (p : Int) (lost : List Int) : f_can_without none [stD cs mine, .int p, tI lost] = .ok (.val (.bool (withB cs mine p lost)), none) := by
  have h12 := h.h1
  apply wF_eq
  rw [wd_can_without]
  simp! only [wF_of (others_of_ok h)]
  rw [wRg_of (by omega) (by omega) (by omega) (by omega), rangeD_zR]
  refine wC_filter PyData.int (fun i => decide (i ∉ lost)) PyData.int trivial (fun i hi => ?_) ?_
  · simp! only [wK]
    by_cases hl : i ∈ lost <;> simp [wB, hl]
  · rw [show ((zR cs.length).filter fun i => decide (i ∉ lost)) = keptZ cs.length lost from rfl]
    simp! only [wF_of (others_of_ok h)]
    refine wC_filter PyData.int (fun i => decide (i ∈ keptZ cs.length lost)) (fun i => .int (atZ cs i)) trivial (fun i hi => ?_) ?_
    · have hr := others_range i hi
      simp! only [wK, atZ_get hr.1 hr.2]
      by_cases hl : i ∈ keptZ cs.length lost <;> simp [wB, hl]
    · rw [map_int]
      simp! only []
      refine wC_mapF PyData.int (fun i => .int (atZ cs i)) trivial (fun i hi => ?_) ?_
      · have hr := others_range i hi
        simp! only [wK, atZ_get hr.1 hr.2]
      · rw [map_int]
        have hc : f_counts_for none [.list (((keptZ cs.length lost).map (atZ cs)).map .int)] = .ok (.fresh (.dict (encZ (countsZ (keptC cs lost)))), none) := counts_for_ok (cs := keptC cs lost) (.inr rfl) (by have := keptC_len cs lost; omega)
        simp! only [wF_of hc]
        rfl
/-! ### all sets, the smaller ones first -/
abbrev tL (c : List Int) : D := .tuple [.int c.length, tI c]
theorem sortOk_tL {l : List (List Int)} (h : l.length ≤ 1000000) : sortOk (l.map tL) = true :=
  sortOk_map (fun a _ => by simp only [noLst, noLstL, Bool.and_true, Bool.true_and]; exact noLst_iL a) (fun a b _ _ => by simp only [PySem.W.alike, PySem.W.alikeAll, Bool.and_true, Bool.true_and]; exact alikeAll_iL a b) (fun _ _ => rfl) (fun a _ => by
    have : (tL a).depth ≤ 3 := depth_tuple fun d hd => by
      simp only [List.mem_cons, List.not_mem_nil, or_false] at hd
      rcases hd with rfl | rfl
      · exact Nat.le_trans (depth_int _) (by decide)
      · exact depth_tI _
    omega) h
theorem gSorted_tL {l : List (List Int)} (h : l.length ≤ 1000000) : gSorted (.list (l.map tL)) = some (.fresh (.list ((sortBy tL l).map tL))) := gSorted_map (sortOk_tL h)
def bySize (n : Nat) : List (List Int) := sortBy tL (setsOf (zR n))
theorem mem_bySize {n : Nat} {l : List Int} : l ∈ bySize n ↔ l.Sublist (zR n) := by
  unfold bySize
  rw [mem_sortBy, mem_setsOf]
/-- the first one in a list for which something fails -/
def firstBad (p : List Int → Bool) : List (List Int) → Option (List Int)
  | [] => none
  | l :: r => if p l = true then firstBad p r else some l
def optD : Option (List Int) → D
  | some l => tI l
  | none => .none
def breakZ (cs mine : List Int) (p : Int) : Option (List Int) := firstBad (withB cs mine p) (bySize cs.length)
theorem smallest_break_ok {cs mine : List Int} (h : OkS cs mine) (p : Int) : f_smallest_break none [stD cs mine, .int p] = .ok (.val (optD (breakZ cs mine p)), none) := by
  have h12 := h.h1
  have hp := pow16 (n := cs.length) (by omega)
  apply wF_eq
  rw [wd_smallest_break]
  simp! only [wF_of (all_sets_ok cs.length (by omega))]
  refine wC_mapF tI tL trivial (fun l hl => ?_) ?_
  · simp! only [wK]
  · simp! only [gSorted_tL (show (setsOf (zR cs.length)).length ≤ 1000000 by rw [setsOf_len, zR_len]; omega)]
    refine wL_inv tL (fun r s => ∃ o2 o3, breakZ cs mine p = firstBad (withB cs mine p) r ∧ s = [some (.val (stD cs mine)), some (.val (.int p)), o2, o3, none]) ?_ ⟨none, none, rfl, rfl⟩ ?_
    · rintro s ⟨o2, o3, hb, rfl⟩
      rw [hb]
      rfl
    · rintro l r s - ⟨o2, o3, hb, rfl⟩
      rw [firstBad] at hb
      simp! only [wF_of (can_without_ok h p l)]
      cases hw : withB cs mine p l with
      | true =>
        rw [hw, if_pos rfl] at hb
        simp! only []
        exact ⟨_, _, hb, rfl⟩
      | false =>
        rw [hw, if_neg (by decide)] at hb
        simp! only []
        rw [hb]
        rfl
def breakP (cs mine : List Int) (p : Int) : Option (List Int) := if p = 0 then none else breakZ cs mine p
theorem breaking_set_ok {cs mine : List Int} (h : OkS cs mine) {p : Int} (h0 : -12000 ≤ p) (h1 : p ≤ 12000) : f_breaking_set none [stD cs mine, .int p] = .ok (.val (optD (breakP cs mine p)), none) := by
  apply wF_eq
  rw [wd_breaking_set]
  simp! only [wF_of (check_state_ok h), wF_of (check_price_ok h0 h1), wF_of (smallest_break_ok h p)]
  unfold breakP
  by_cases hp : p = 0 <;> simp [wB, hp, optD]
/-- sure whichever coins, at most so many, are lost -/
def sureZ (o : Option (List Int)) (k : Int) : Bool := match o with
  | none => true
  | some l => decide (k < l.length)
theorem sure_with_ok {cs mine : List Int} (h : OkS cs mine) {p k : Int} (h0 : -12000 ≤ p) (h1 : p ≤ 12000) (k0 : 0 ≤ k) (k1 : k ≤ 12) : f_sure_with none [stD cs mine, .int p, .int k] = .ok (.val (.bool (sureZ (breakP cs mine p) k)), none) := by
  apply wF_eq
  rw [wd_sure_with]
  simp! only [wF_of (check_state_ok h), wF_of (check_price_ok h0 h1), wF_of (is_between_int k 0 12), deT (show 0 ≤ k ∧ k ≤ 12 from ⟨k0, k1⟩), wF_of (smallest_break_ok h p)]
  unfold breakP
  by_cases hp : p = 0
  · simp [wB, hp, sureZ]
  · rw [if_neg hp, deF hp]
    simp! only []
    cases breakZ cs mine p with
    | none => simp! only [optD, sureZ]
    | some l => simp! only [optD, sureZ]
/-! ### order of the sets -/
theorem size_le {a b : List Int} (h : PySem.W.dataLe false id (tL a) (tL b) = true) : a.length ≤ b.length := by
  have h1 : (!PySem.W.dataLt (tL b) (tL a)) = true := h
  rw [Bool.not_eq_true'] at h1
  by_cases hl : a.length ≤ b.length
  · exact hl
  · rw [PySem.W.dataLt_pair (show PySem.W.alike (.int b.length) (.int a.length) = true from rfl) (alike_tI b a)] at h1
    have h2 : PyData.eqv (.int b.length) (.int a.length) = false := by
      rw [eqv_int]
      exact decide_eq_false (by omega)
    rw [h2, if_neg (by decide), PySem.W.dataLt_int] at h1
    have := of_decide_eq_false h1
    omega
/-- Python's order of alike data is one, total -/
theorem sortBy_pw {α : Type} (enc : α → D) (l : List α) : (sortBy enc l).Pairwise fun a b => PySem.W.dataLe false id (enc a) (enc b) = true := by
  have ht := PySem.W.sortLe_total (PyProof.Rows.listOrd PyProof.Rows.itemOrd) false fun b : α => PySem.W.keyToks (enc b)
  exact List.pairwise_mergeSort (le := fun a b => PySem.W.dataLe false id (enc a) (enc b)) (fun a b c h1 h2 => ht.trans a b c h1 h2) (fun a b => by
    rw [Bool.or_eq_true]
    exact ht.total a b) l
theorem bySize_le (n : Nat) : (bySize n).Pairwise fun a b => a.length ≤ b.length := (sortBy_pw tL _).imp size_le
theorem firstBad_none {p : List Int → Bool} : ∀ {L : List (List Int)}, firstBad p L = none ↔ ∀ l ∈ L, p l = true
  | [] => by simp [firstBad]
  | l :: L => by
    rw [firstBad]
    by_cases h : p l = true
    · rw [if_pos h, firstBad_none]
      simp [h]
    · rw [if_neg h]
      simp [h]
theorem firstBad_some {p : List Int → Bool} : ∀ {L : List (List Int)} {l : List Int}, L.Pairwise (fun a b => a.length ≤ b.length) → firstBad p L = some l → l ∈ L ∧ p l = false ∧ ∀ m ∈ L, p m = false → l.length ≤ m.length
  | [], _, _, h => by cases h
  | x :: L, l, hw, h => by
    rw [firstBad] at h
    obtain ⟨h1, h2⟩ := List.pairwise_cons.mp hw
    by_cases hp : p x = true
    · rw [if_pos hp] at h
      obtain ⟨a, b, c⟩ := firstBad_some h2 h
      refine ⟨List.mem_cons_of_mem _ a, b, fun m hm hpm => ?_⟩
      rcases List.mem_cons.mp hm with rfl | hm
      · rw [hp] at hpm; cases hpm
      · exact c m hm hpm
    · rw [if_neg hp] at h
      cases h
      refine ⟨List.mem_cons_self, by simpa using hp, fun m hm _ => ?_⟩
      rcases List.mem_cons.mp hm with rfl | hm
      · exact Nat.le_refl _
      · exact h1 m hm
/-! ### what is left -/
theorem enumD_int (l : List Int) : enumD (l.map .int) = l.zipIdx.map fun p => PyData.tuple [.int (p.2 : Nat), .int p.1] := by
  unfold enumD
  rw [List.zipIdx_map, List.map_map]
  rfl
def mineL (cs mine lost : List Int) : List Int := ((keptZ cs.length lost).zipIdx.filter fun p => decide (p.1 ∈ mine)).map fun p => (p.2 : Int)
theorem law_left_ok {cs mine : List Int} (h : OkS cs mine) (lost : List Int) : f__law_left none [stD cs mine, tI lost] = .ok (.val (stD (keptC cs lost) (mineL cs mine lost)), none) := by
  have h12 := h.h1
  apply wF_eq
  rw [wd__law_left]
  simp! only []
  rw [wRg_of (by omega) (by omega) (by omega) (by omega), rangeD_zR]
  refine wC_filter PyData.int (fun i => decide (i ∉ lost)) PyData.int trivial (fun i hi => ?_) ?_
  · simp! only [wK]
    by_cases hl : i ∈ lost <;> simp [wB, hl]
  · rw [show ((zR cs.length).filter fun i => decide (i ∉ lost)) = keptZ cs.length lost from rfl]
    simp! only [enumD_int]
    refine wC_filter (fun p : Int × Nat => PyData.tuple [.int (p.2 : Nat), .int p.1]) (fun p => decide (p.1 ∈ mine)) (fun p => .int (p.2 : Nat)) trivial (fun p hp => ?_) ?_
    · simp! only [wK]
      by_cases hl : p.1 ∈ mine <;> simp [wB, hl]
    · simp! only []
      refine wC_mapF PyData.int (fun i => .int (atZ cs i)) trivial (fun i hi => ?_) ?_
      · have hr := others_range i hi
        simp! only [wK, atZ_get hr.1 hr.2]
      · simp! only []
        unfold keptC mineL
        simp only [stD, tI, iL, List.map_map]
        rfl
theorem mineL_at {cs mine lost : List Int} : (mineL cs mine lost).map (atZ (keptC cs lost)) = ((keptZ cs.length lost).filter fun i => decide (i ∈ mine)).map (atZ cs) := by
  unfold mineL
  rw [List.map_map]
  have h1 : ∀ p ∈ (keptZ cs.length lost).zipIdx.filter (fun p => decide (p.1 ∈ mine)), ((atZ (keptC cs lost)) ∘ fun p : Int × Nat => (p.2 : Int)) p = atZ cs p.1 := fun p hp => by
    have hi := List.mk_mem_zipIdx_iff_getElem?.mp (List.mem_filter.mp hp).1
    show (keptC cs lost).getD ((p.2 : Int).toNat) 0 = _
    rw [Int.toNat_natCast, List.getD_eq_getElem?_getD]
    unfold keptC
    rw [List.getElem?_map, hi]
    rfl
  rw [List.map_congr_left h1]
  have h2 : ∀ (l : List Int) (k : Nat), ((l.zipIdx k).filter fun p => decide (p.1 ∈ mine)).map (fun p => atZ cs p.1) = (l.filter fun i => decide (i ∈ mine)).map (atZ cs) := by
    intro l
    induction l with
    | nil => intro k; rfl
    | cons x l ih =>
      intro k
      rw [List.zipIdx_cons, List.filter_cons, List.filter_cons]
      by_cases hx : x ∈ mine
      · simp only [hx, decide_true, if_true, List.map_cons, ih]
      · simp only [hx, decide_false, Bool.false_eq_true, if_false, ih]
  exact h2 _ 0
theorem left_ok {cs mine lost : List Int} (h : OkS cs mine) (hl : lost.Sublist (zR cs.length)) (hn : lost.length < cs.length) : OkS (keptC cs lost) (mineL cs mine lost) where
  h0 := by
    have := split_len (h.set hl)
    unfold keptC keptZ
    rw [List.length_map]
    omega
  h1 := Nat.le_trans (keptC_len cs lost) h.h1
  hc := fun c hc => by
    unfold keptC at hc
    exact vals_ok (h.set hl).rest c hc
  hm := fun i hi => by
    unfold mineL at hi
    obtain ⟨p, hp, rfl⟩ := List.mem_map.mp hi
    have hi := List.mk_mem_zipIdx_iff_getElem?.mp (List.mem_filter.mp hp).1
    have := (List.getElem?_eq_some_iff.mp hi).1
    unfold keptC
    rw [List.length_map]
    omega
  hp := by
    unfold mineL
    rw [List.pairwise_map]
    refine List.Pairwise.filter _ ?_
    rw [List.pairwise_iff_getElem]
    intro i j hi hj hij
    simp
    omega
theorem secL_eq {cs mine lost : List Int} (h : OkS cs mine) (hl : lost.Sublist (zR cs.length)) (hn : lost.length < cs.length) : secZ (keptC cs lost) (mineL cs mine lost) = secL cs mine lost := by
  have h1 := tot_sum (left_ok h hl hn)
  have h2 : worthZ (keptC cs lost) (mineL cs mine lost) = worthZ cs ((keptZ cs.length lost).filter fun i => decide (i ∈ mine)) := by
    unfold worthZ
    rw [mineL_at]
  have h3 := worth_split cs (fun i => decide (i ∈ mine)) (keptZ cs.length lost)
  have h4 : (keptC cs lost).sum = worthZ cs (keptZ cs.length lost) := rfl
  have h5 : ((keptZ cs.length lost).filter fun i => !decide (i ∈ mine)) = (othersZ cs.length mine).filter fun i => decide (i ∈ keptZ cs.length lost) := lt_uniq ((others_lt _ _).filter _) ((others_lt _ _).filter _) fun x => by
    simp only [List.mem_filter, others_mem, Bool.not_eq_true', decide_eq_false_iff_not, decide_eq_true_eq]
    constructor
    · rintro ⟨⟨a, b⟩, c⟩
      exact ⟨⟨a, c⟩, a, b⟩
    · rintro ⟨⟨a, c⟩, _, b⟩
      exact ⟨⟨a, b⟩, c⟩
  rw [h5] at h3
  unfold secL
  omega
theorem left_pay {cs mine lost : List Int} (h : OkS cs mine) (hl : lost.Sublist (zR cs.length)) (hn : lost.length < cs.length) {p : Int} (h0 : -12000 ≤ p) (h1 : p ≤ 12000) : f_can_pay none [stD (keptC cs lost) (mineL cs mine lost), .int p] = .ok (.val (.bool (withB cs mine p lost)), none) := by
  have := can_pay_inS (left_ok h hl hn) h0 h1
  rw [secL_eq h hl hn] at this
  exact this
end KK

end
section
/-! S14: the law's equality of nested data. -/
namespace KK
open PySem QL
local macro_rules | `(tactic| simp! only [$xs,*]) => `(tactic| simp only [↓QL.oVar_val, ↓QL.oVar_own, ↓QL.oBor_val, ↓QL.oBor_own, ↓QL.oMove_val, ↓QL.oMove_own, ↓QL.oOwn_own, ↓QL.oDict_val, ↓QL.oDict_own, ↓QL.oI_int, ↓QL.oB_bool, ↓QL.oSq_l, ↓QL.oSq_t, ↓QL.oTp_t, ↓QL.oLs_t, ↓QL.oDc_t, ↓QL.oV_val, ↓QL.oV_fresh, ↓QL.oN_val, ↓QL.oN_fresh, ↓QL.oS_some, ↓QL.lv_val, ↓QL.lv_fresh, ↓QL.lv_bor, ↓QL.oLv_own, ↓QL.rvd_val, ↓QL.rvd_fresh, ↓QL.rvd_bor, ↓QL.sg0, ↓QL.ss0, ↓QL.sg1, ↓QL.ss1, ↓QL.sg2, ↓QL.ss2, ↓QL.sg3, ↓QL.ss3, ↓QL.sg4, ↓QL.ss4, ↓QL.sg5, ↓QL.ss5, ↓QL.sg6, ↓QL.ss6, ↓QL.sg7, ↓QL.ss7, ↓QL.sg8, ↓QL.ss8, ↓QL.sg9, ↓QL.ss9, ↓QL.sg10, ↓QL.ss10, ↓QL.sg11, ↓QL.ss11, ↓QL.sg12, ↓QL.ss12, ↓QL.sg13, ↓QL.ss13, ↓QL.sg14, ↓QL.ss14, ↓QL.sg15, ↓QL.ss15, ↓QL.sg16, ↓QL.ss16, ↓QL.sg17, ↓QL.ss17, ↓QL.sg18, ↓QL.ss18, ↓QL.sg19, ↓QL.ss19, ↓QL.sg20, ↓QL.ss20, ↓QL.sg21, ↓QL.ss21, ↓QL.sg22, ↓QL.ss22, ↓QL.sg23, ↓QL.ss23, ↓QL.wE_C, ↓QL.wE_var, ↓QL.wE_bor, ↓QL.wE_move, ↓QL.wE_op1, ↓QL.wE_op2, ↓QL.wA_nil, ↓QL.wA_cons, ↓QL.wE_tup, ↓QL.wE_lst, ↓QL.wT_of, ↓QL.wT_not, ↓QL.wB_true, ↓QL.wB_false, ↓QL.wB_not, ↓QL.wT_and, ↓QL.wT_or, ↓QL.wT_yes, ↓QL.wE_not, ↓QL.wE_and, ↓QL.wE_or, ↓QL.wE_if, ↓QL.oCh_b, ↓QL.wE_chain, ↓QL.wP_some, ↓QL.wP_none, ↓QL.wE_sl, ↓QL.wE_get, ↓QL.wE_call, ↓QL.wE_callS, ↓QL.wAB_nil, ↓QL.wAB_cons, ↓QL.oSc_bool, ↓QL.oSc_int, ↓QL.rl_nil, ↓QL.rl_cons, ↓QL.wE_callB, ↓QL.la_nil, ↓QL.la_cons, ↓QL.la_nil2, ↓QL.wS_next, ↓QL.wS_seq, ↓QL.wS_expr, ↓QL.wS_ret, ↓QL.wS_retN, ↓QL.wS_brk, ↓QL.wS_cnt, ↓QL.wS_if, ↓QL.wS_set, ↓QL.wG_name, ↓QL.wG_own_v, ↓QL.wG_own_f, ↓QL.wG_tup, ↓QL.wGs_nil, ↓QL.wGs_cons, ↓QL.wAR_nil, ↓QL.wAR_cons, ↓QL.wS_par, ↓QL.wSt_nil, ↓QL.wSt_cons_t, ↓QL.wSt_cons_f, ↓QL.oVl_int, ↓QL.wS_augI, ↓QL.fAdd_eq, ↓QL.fSub_eq, ↓QL.oExt_eq, ↓QL.wS_ext, ↓QL.wS_put, ↓QL.oOwnL_own, ↓QL.wS_append, ↓QL.wE_dictK, ↓QL.wE_dictT, ↓QL.oKi_int, ↓QL.wE_dict1, ↓QL.wI_seq, ↓QL.wI_rng1, ↓QL.wI_rng2, ↓QL.wE_listRg1, ↓QL.wE_tupleRg1, ↓QL.wE_listRg2, ↓QL.wE_tupleRg2, ↓QL.oFd_eq, ↓QL.wI_keysF, ↓QL.oL1_tup, ↓QL.oL1_eq, ↓QL.wI_enum, ↓QL.oL2_l, ↓QL.oL2_t, ↓QL.wI_zip, ↓QL.loopE_ct, ↓QL.loopE_bk, ↓QL.loopE_rt, ↓QL.wS_for, ↓QL.wS_forK, ↓QL.wL_nil, ↓QL.wS_while, ↓QL.w_wipe_nil, ↓QL.w_wipe_cons, ↓QL.w_back_nil, ↓QL.w_back_cons, ↓QL.kept_val, ↓QL.kept_own, ↓QL.kept_none, ↓QL.wE_comp, ↓QL.wE_compK, ↓QL.wE_compB, ↓QL.wRt_val, ↓QL.wRt_fresh, ↓QL.w0_own, ↓QL.w_ixT, ↓QL.w_ixL, ↓QL.w_ixD, ↓QL.w_at0, ↓QL.w_at1, ↓QL.w_at2, ↓QL.w_map, ↓QL.w_bind, ↓QL.w_gd, ↓QL.w_gdn, ↓QL.w_isS, ↓QL.w_isN, ↓QL.w_add, ↓QL.w_sub, ↓QL.w_mul2, ↓QL.w_neg, ↓QL.w_lt, ↓QL.w_le, ↓QL.w_gt, ↓QL.w_ge, ↓QL.w_eqI, ↓QL.w_neI, ↓QL.w_eqB, ↓QL.w_neB, ↓QL.w_isBt, ↓QL.w_notBt, ↓QL.w_isNN, ↓QL.w_isNb, ↓QL.w_isNi, ↓QL.w_isNl, ↓QL.w_isNt, ↓QL.w_notNN, ↓QL.w_notNb, ↓QL.w_notNi, ↓QL.w_notNl, ↓QL.w_notNt, ↓QL.w_lenL, ↓QL.w_lenT, ↓QL.w_lenZ, ↓QL.w_sumL, ↓QL.w_sumT, ↓QL.w_sumLf, ↓QL.w_allLf, ↓QL.w_tupL, ↓QL.w_tupT, ↓QL.w_lstL, ↓QL.w_lstT, ↓QL.w_int, ↓QL.w_min2, ↓QL.w_max2, ↓QL.w_copyZ, ↓QL.w_pairsZ, ↓QL.w_findZ, ↓QL.w_keysZ, ↓QL.w_inZ, ↓QL.w_notInZ, ↓QL.w_inT, ↓QL.w_notInT, ↓QL.w_inL, ↓QL.w_notInL, ↓QL.w_intOf, ↓QL.w_intOf2, ↓QL.w_revL, ↓QL.w_revT, ↓QL.w_addL, ↓QL.w_addT, ↓QL.oS_lim, ↓QL.w_dT, ↓QL.w_dF, ↓QL.w_nt, ↓QL.w_nf, ↓QL.w_nn, ↓QL.w_andT, ↓QL.w_Tand, ↓QL.w_lenMap, ↓QL.w_isi_int_int, ↓QL.w_isi_int_bool, ↓QL.w_isi_int_str, ↓QL.w_isi_int_list, ↓QL.w_isi_int_tuple, ↓QL.w_isi_int_none, ↓QL.w_isi_bool_int, ↓QL.w_isi_bool_bool, ↓QL.w_isi_bool_str, ↓QL.w_isi_bool_list, ↓QL.w_isi_bool_tuple, ↓QL.w_isi_bool_none, ↓QL.w_isi_str_int, ↓QL.w_isi_str_bool, ↓QL.w_isi_str_str, ↓QL.w_isi_str_list, ↓QL.w_isi_str_tuple, ↓QL.w_isi_str_none, ↓QL.w_isi_list_int, ↓QL.w_isi_list_bool, ↓QL.w_isi_list_str, ↓QL.w_isi_list_list, ↓QL.w_isi_list_tuple, ↓QL.w_isi_list_none, ↓QL.w_isi_tuple_int, ↓QL.w_isi_tuple_bool, ↓QL.w_isi_tuple_str, ↓QL.w_isi_tuple_list, ↓QL.w_isi_tuple_tuple, ↓QL.w_isi_tuple_none, ↓QL.w_isi2_int, ↓QL.w_isi2_bool, ↓QL.w_isi2_str, ↓QL.w_isi2_list, ↓QL.w_isi2_tuple, ↓QL.w_isi2_none, ↓KK.w_eqLI, ↓KK.w_neLI, ↓KK.w_eqTI, ↓KK.w_neTI, ↓KK.w_eq00, ↓KK.w_eqI0, ↓KK.w_neI0, ↓KK.w_cnt, ↓KK.w_sum, ↓KK.w_len0, ↓KK.w_len1, ↓KK.w_len2, ↓KK.w_len3, $xs,*])
theorem equal_tuple (n : Nat) {ds : List D} (h : ∀ d ∈ ds, f__law_equal n none [d, d] = .ok (.val (.bool true), none)) : f__law_equal (n + 1) none [.tuple ds, .tuple ds] = .ok (.val (.bool true), none) := by
  apply wF_eq
  rw [wd__law_equal]
  simp! only [wF_of (kind_tuple _), ne_eq, not_true_eq_false, decide_false, decide_true, show (3 : Int) < 5 from by decide, show (5 : Int) < 6 from by decide]
  unfold enumD
  refine wC_map (fun p : D × Nat => .tuple [.int (p.2 : Nat), p.1]) (fun _ => none) trivial (fun p hp => ?_) ?_
  · obtain ⟨d, i⟩ := p
    have hi := List.mk_mem_zipIdx_iff_getElem?.mp hp
    have ha : atD ds (i : Int) = some d := by
      unfold atD ixD
      have hl := (List.getElem?_eq_some_iff.mp hi).1
      rw [if_pos (by omega), if_pos (by omega)]
      simpa using hi
    have hd := h d (List.mem_of_getElem? hi)
    simp! only [wK, ha, wF_of hd]
  · have : (ds.zipIdx.filterMap fun _ => (none : Option D)) = [] := by
      rw [List.filterMap_eq_nil_iff]; intro a _; rfl
    rw [this]
    simp! only []
theorem equal_str (n : Nat) (s : Str) : f__law_equal (n + 1) none [.str s, .str s] = .ok (.val (.bool true), none) := by
  apply wF_eq
  rw [wd__law_equal]
  have h : gEq (.str s) (.str s) = some (.val (.bool true)) := by
    unfold gEq
    rw [if_pos (okEq_nice (a := .str s) (b := .str s) rfl rfl (.inl (by simp [PyData.depth])))]
    have : PyData.eqv (.str s) (.str s) = true := (eqv_nice (.str s) (.str s) rfl rfl).mpr rfl
    rw [this]; rfl
  simp! only [wF_of (kind_str s), ne_eq, not_true_eq_false, decide_false, decide_true, h, show ¬ (3 : Int) < 3 from by decide]
mutual
/-- data without dicts are equal to themselves, as the law asks -/
theorem equal_refl : ∀ (d : D) (n : Nat), d.plain = true → d.depth ≤ n → f__law_equal (n + 1) none [d, d] = .ok (.val (.bool true), none)
  | .none, n, _, _ => equal_none n
  | .bool b, n, _, _ => by rw [equal_bool n b b, decide_eq_true rfl]
  | .int i, n, _, _ => by rw [equal_int n i i, decide_eq_true rfl]
  | .str s, n, _, _ => equal_str n s
  | .list ds, n, hp, hd => by
    have hd : PyData.depthAll ds + 1 ≤ n := by simpa [PyData.depth] using hd
    cases n with
    | zero => omega
    | succ n => exact equal_list (n + 1) (equal_reflL ds n (by simpa [PyData.plain] using hp) (by omega))
  | .tuple ds, n, hp, hd => by
    have hd : PyData.depthAll ds + 1 ≤ n := by simpa [PyData.depth] using hd
    cases n with
    | zero => omega
    | succ n => exact equal_tuple (n + 1) (equal_reflL ds n (by simpa [PyData.plain] using hp) (by omega))
  | .dict _, n, hp, _ => by simp [PyData.plain] at hp
theorem equal_reflL : ∀ (ds : List D) (n : Nat), PyData.plainAll ds = true → PyData.depthAll ds ≤ n → ∀ d ∈ ds, f__law_equal (n + 1) none [d, d] = .ok (.val (.bool true), none)
  | [], _, _, _ => by simp
  | x :: xs, n, hp, hd => fun d h => by
    simp only [PyData.plainAll, Bool.and_eq_true] at hp
    simp only [PyData.depthAll] at hd
    rcases List.mem_cons.mp h with h | h
    · rw [h]
      exact equal_refl x n hp.1 (by omega)
    · exact equal_reflL xs n hp.2 (by omega) d h
end
theorem eq_self {d : D} (hp : d.plain = true) (hd : d.depth ≤ 7) : f__law_equal 8 none [d, d] = .ok (.val (.bool true), none) := equal_refl d 7 hp hd
theorem eq_tI (l : List Int) : f__law_equal 8 none [tI l, tI l] = .ok (.val (.bool true), none) := eq_self (plain_nice _ (nice_tI l)) (Nat.le_trans (depth_tI l) (by decide))
theorem eq_tP (p : List Int × List Int) : f__law_equal 8 none [tP p, tP p] = .ok (.val (.bool true), none) := eq_self (plain_nice _ (nice_tP p)) (Nat.le_trans (depth_tP p) (by decide))
theorem eq_optD (o : Option (List Int)) : f__law_equal 8 none [optD o, optD o] = .ok (.val (.bool true), none) := by
  cases o with
  | none => exact eq_none
  | some l => exact eq_tI l
end KK

end
section
namespace KK
open PySem QL
local macro_rules | `(tactic| simp! only [$xs,*]) => `(tactic| simp only [↓QL.oVar_val, ↓QL.oVar_own, ↓QL.oBor_val, ↓QL.oBor_own, ↓QL.oMove_val, ↓QL.oMove_own, ↓QL.oOwn_own, ↓QL.oDict_val, ↓QL.oDict_own, ↓QL.oI_int, ↓QL.oB_bool, ↓QL.oSq_l, ↓QL.oSq_t, ↓QL.oTp_t, ↓QL.oLs_t, ↓QL.oDc_t, ↓QL.oV_val, ↓QL.oV_fresh, ↓QL.oN_val, ↓QL.oN_fresh, ↓QL.oS_some, ↓QL.lv_val, ↓QL.lv_fresh, ↓QL.lv_bor, ↓QL.oLv_own, ↓QL.rvd_val, ↓QL.rvd_fresh, ↓QL.rvd_bor, ↓QL.sg0, ↓QL.ss0, ↓QL.sg1, ↓QL.ss1, ↓QL.sg2, ↓QL.ss2, ↓QL.sg3, ↓QL.ss3, ↓QL.sg4, ↓QL.ss4, ↓QL.sg5, ↓QL.ss5, ↓QL.sg6, ↓QL.ss6, ↓QL.sg7, ↓QL.ss7, ↓QL.sg8, ↓QL.ss8, ↓QL.sg9, ↓QL.ss9, ↓QL.sg10, ↓QL.ss10, ↓QL.sg11, ↓QL.ss11, ↓QL.sg12, ↓QL.ss12, ↓QL.sg13, ↓QL.ss13, ↓QL.sg14, ↓QL.ss14, ↓QL.sg15, ↓QL.ss15, ↓QL.sg16, ↓QL.ss16, ↓QL.sg17, ↓QL.ss17, ↓QL.sg18, ↓QL.ss18, ↓QL.sg19, ↓QL.ss19, ↓QL.sg20, ↓QL.ss20, ↓QL.sg21, ↓QL.ss21, ↓QL.sg22, ↓QL.ss22, ↓QL.sg23, ↓QL.ss23, ↓QL.wE_C, ↓QL.wE_var, ↓QL.wE_bor, ↓QL.wE_move, ↓QL.wE_op1, ↓QL.wE_op2, ↓QL.wA_nil, ↓QL.wA_cons, ↓QL.wE_tup, ↓QL.wE_lst, ↓QL.wT_of, ↓QL.wT_not, ↓QL.wB_true, ↓QL.wB_false, ↓QL.wB_not, ↓QL.wT_and, ↓QL.wT_or, ↓QL.wT_yes, ↓QL.wE_not, ↓QL.wE_and, ↓QL.wE_or, ↓QL.wE_if, ↓QL.oCh_b, ↓QL.wE_chain, ↓QL.wP_some, ↓QL.wP_none, ↓QL.wE_sl, ↓QL.wE_get, ↓QL.wE_call, ↓QL.wE_callS, ↓QL.wAB_nil, ↓QL.wAB_cons, ↓QL.oSc_bool, ↓QL.oSc_int, ↓QL.rl_nil, ↓QL.rl_cons, ↓QL.wE_callB, ↓QL.la_nil, ↓QL.la_cons, ↓QL.la_nil2, ↓QL.wS_next, ↓QL.wS_seq, ↓QL.wS_expr, ↓QL.wS_ret, ↓QL.wS_retN, ↓QL.wS_brk, ↓QL.wS_cnt, ↓QL.wS_if, ↓QL.wS_set, ↓QL.wG_name, ↓QL.wG_own_v, ↓QL.wG_own_f, ↓QL.wG_tup, ↓QL.wGs_nil, ↓QL.wGs_cons, ↓QL.wAR_nil, ↓QL.wAR_cons, ↓QL.wS_par, ↓QL.wSt_nil, ↓QL.wSt_cons_t, ↓QL.wSt_cons_f, ↓QL.oVl_int, ↓QL.wS_augI, ↓QL.fAdd_eq, ↓QL.fSub_eq, ↓QL.oExt_eq, ↓QL.wS_ext, ↓QL.wS_put, ↓QL.oOwnL_own, ↓QL.wS_append, ↓QL.wE_dictK, ↓QL.wE_dictT, ↓QL.oKi_int, ↓QL.wE_dict1, ↓QL.wI_seq, ↓QL.wI_rng1, ↓QL.wI_rng2, ↓QL.wE_listRg1, ↓QL.wE_tupleRg1, ↓QL.wE_listRg2, ↓QL.wE_tupleRg2, ↓QL.oFd_eq, ↓QL.wI_keysF, ↓QL.oL1_tup, ↓QL.oL1_eq, ↓QL.wI_enum, ↓QL.oL2_l, ↓QL.oL2_t, ↓QL.wI_zip, ↓QL.loopE_ct, ↓QL.loopE_bk, ↓QL.loopE_rt, ↓QL.wS_for, ↓QL.wS_forK, ↓QL.wL_nil, ↓QL.wS_while, ↓QL.w_wipe_nil, ↓QL.w_wipe_cons, ↓QL.w_back_nil, ↓QL.w_back_cons, ↓QL.kept_val, ↓QL.kept_own, ↓QL.kept_none, ↓QL.wE_comp, ↓QL.wE_compK, ↓QL.wE_compB, ↓QL.wRt_val, ↓QL.wRt_fresh, ↓QL.w0_own, ↓QL.w_ixT, ↓QL.w_ixL, ↓QL.w_ixD, ↓QL.w_at0, ↓QL.w_at1, ↓QL.w_at2, ↓QL.w_map, ↓QL.w_bind, ↓QL.w_gd, ↓QL.w_gdn, ↓QL.w_isS, ↓QL.w_isN, ↓QL.w_add, ↓QL.w_sub, ↓QL.w_mul2, ↓QL.w_neg, ↓QL.w_lt, ↓QL.w_le, ↓QL.w_gt, ↓QL.w_ge, ↓QL.w_eqI, ↓QL.w_neI, ↓QL.w_eqB, ↓QL.w_neB, ↓QL.w_isBt, ↓QL.w_notBt, ↓QL.w_isNN, ↓QL.w_isNb, ↓QL.w_isNi, ↓QL.w_isNl, ↓QL.w_isNt, ↓QL.w_notNN, ↓QL.w_notNb, ↓QL.w_notNi, ↓QL.w_notNl, ↓QL.w_notNt, ↓QL.w_lenL, ↓QL.w_lenT, ↓QL.w_lenZ, ↓QL.w_sumL, ↓QL.w_sumT, ↓QL.w_sumLf, ↓QL.w_allLf, ↓QL.w_tupL, ↓QL.w_tupT, ↓QL.w_lstL, ↓QL.w_lstT, ↓QL.w_int, ↓QL.w_min2, ↓QL.w_max2, ↓QL.w_copyZ, ↓QL.w_pairsZ, ↓QL.w_findZ, ↓QL.w_keysZ, ↓QL.w_inZ, ↓QL.w_notInZ, ↓QL.w_inT, ↓QL.w_notInT, ↓QL.w_inL, ↓QL.w_notInL, ↓QL.w_intOf, ↓QL.w_intOf2, ↓QL.w_revL, ↓QL.w_revT, ↓QL.w_addL, ↓QL.w_addT, ↓QL.oS_lim, ↓QL.w_dT, ↓QL.w_dF, ↓QL.w_nt, ↓QL.w_nf, ↓QL.w_nn, ↓QL.w_andT, ↓QL.w_Tand, ↓QL.w_lenMap, ↓QL.w_isi_int_int, ↓QL.w_isi_int_bool, ↓QL.w_isi_int_str, ↓QL.w_isi_int_list, ↓QL.w_isi_int_tuple, ↓QL.w_isi_int_none, ↓QL.w_isi_bool_int, ↓QL.w_isi_bool_bool, ↓QL.w_isi_bool_str, ↓QL.w_isi_bool_list, ↓QL.w_isi_bool_tuple, ↓QL.w_isi_bool_none, ↓QL.w_isi_str_int, ↓QL.w_isi_str_bool, ↓QL.w_isi_str_str, ↓QL.w_isi_str_list, ↓QL.w_isi_str_tuple, ↓QL.w_isi_str_none, ↓QL.w_isi_list_int, ↓QL.w_isi_list_bool, ↓QL.w_isi_list_str, ↓QL.w_isi_list_list, ↓QL.w_isi_list_tuple, ↓QL.w_isi_list_none, ↓QL.w_isi_tuple_int, ↓QL.w_isi_tuple_bool, ↓QL.w_isi_tuple_str, ↓QL.w_isi_tuple_list, ↓QL.w_isi_tuple_tuple, ↓QL.w_isi_tuple_none, ↓QL.w_isi2_int, ↓QL.w_isi2_bool, ↓QL.w_isi2_str, ↓QL.w_isi2_list, ↓QL.w_isi2_tuple, ↓QL.w_isi2_none, ↓KK.w_eqLI, ↓KK.w_neLI, ↓KK.w_eqTI, ↓KK.w_neTI, ↓KK.w_eq00, ↓KK.w_eqI0, ↓KK.w_neI0, ↓KK.w_cnt, ↓KK.w_sum, ↓KK.w_len0, ↓KK.w_len1, ↓KK.w_len2, ↓KK.w_len3, $xs,*])
/-- a price and whether it could be paid -/
abbrev tS (q : Int × Bool) : D := .tuple [.int q.1, .bool q.2]
structure OkSeen (seen : List (Int × Bool)) : Prop where
  h0 : 1 ≤ seen.length
  h1 : seen.length ≤ 10
  hp : ∀ q ∈ seen, okP q.1
def agreesZ (cs : List Int) (k : Int) (seen : List (Int × Bool)) : Bool := seen.all fun q => decide (inS cs (q.1 + k) = q.2)
def possibleZ (cs : List Int) (seen : List (Int × Bool)) : List Int := (reachL cs).filter fun k => agreesZ cs k seen
theorem check_coins_ok {cs mine : List Int} (h : OkS cs mine) : f_check_coins none [tI cs] = .ok (.val .none, none) := by
  apply wF_eq
  rw [wd_check_coins]
  simp! only [wF_of (are_coins_ok cs h.h0 h.h1 h.hc)]
theorem check_seen_ok {seen : List (Int × Bool)} (h : OkSeen seen) : f_check_seen none [.tuple (seen.map tS)] = .ok (.val .none, none) := by
  have h0 : (1 : Int) ≤ seen.length := by have := h.h0; omega
  have h1 : (seen.length : Int) ≤ 10 := by have := h.h1; omega
  apply wF_eq
  rw [wd_check_seen]
  simp! only [List.length_map, deT h0, deT h1]
  refine wC_mapF tS (fun _ => .bool ((fun _ => true) ())) trivial (fun q hq => ?_) ?_
  · simp! only [wK, decide_true]
  · have e : (seen.all fun _ => true) = true := by simp
    simp! only [e]
    refine wC_mapF tS (fun _ => .bool ((fun _ => true) ())) trivial (fun q hq => ?_) ?_
    · obtain ⟨a, b⟩ := h.hp q hq
      simp! only [wK, wF_of (is_between_int q.1 (-12000) 12000), deT (show -12000 ≤ q.1 ∧ q.1 ≤ 12000 from ⟨a, b⟩)]
    · simp! only [e]
theorem agrees_ok {cs : List Int} (k : Int) (seen : List (Int × Bool)) : f_agrees none [.dict (encZ (countsZ cs)), .int k, .tuple (seen.map tS)] = .ok (.val (.bool (agreesZ cs k seen)), none) := by
  apply wF_eq
  rw [wd_agrees]
  simp! only []
  refine wC_mapF tS (fun q => .bool (decide (inS cs (q.1 + k) = q.2))) trivial (fun q hq => ?_) ?_
  · simp! only [wK]
  · simp! only [w_allLf]
    rfl
theorem possible_totals_ok {cs mine : List Int} (h : OkS cs mine) {seen : List (Int × Bool)} (hs : OkSeen seen) : f_possible_totals none [tI cs, .tuple (seen.map tS)] = .ok (.fresh (.list ((possibleZ cs seen).map .int)), none) := by
  have h12 := h.h1
  have hl := reachL_len (cs := cs) (by omega)
  rw [reachL_length] at hl
  apply wF_eq
  rw [wd_possible_totals]
  simp! only [wF_of (check_coins_ok h), wF_of (check_seen_ok hs), wF_of (counts_for_ok (X := tI cs) (.inl rfl) (show cs.length ≤ 16 by omega)), gSorted_Z (show (countsZ cs).length ≤ 1000000 by omega)]
  rw [show sortZ ((countsZ cs).map (·.1)) = reachL cs from rfl]
  refine wC_filter PyData.int (fun k => agreesZ cs k seen) PyData.int trivial (fun k hk => ?_) ?_
  · simp! only [wK, wF_of (agrees_ok k seen)]
    cases ha : agreesZ cs k seen <;> simp [wB]
  · rfl
theorem law_seen_ok {m : Nat} {d : D} {cs mine : List Int} (h : OkS cs mine) (hs : Src (m + 300) d) : ∃ (seen : List (Int × Bool)) (wrong : Bool) (d' : D), f__law_seen (some d) [stD cs mine] = .ok (.val (.tuple [.tuple (seen.map tS), .bool wrong]), some d') ∧ OkSeen seen ∧ (wrong = false → agreesZ cs (secZ cs mine) seen = true) ∧ Src m d' := by
  have h12 := h.h1
  have hg : ∃ r o', f__law_seen (some d) [stD cs mine] = .ok (r, o') ∧ ∃ (seen : List (Int × Bool)) (wrong : Bool) (d' : D), r = .val (.tuple [.tuple (seen.map tS), .bool wrong]) ∧ o' = some d' ∧ OkSeen seen ∧ (wrong = false → agreesZ cs (secZ cs mine) seen = true) ∧ Src m d' := by
    obtain ⟨n, d2, e1, n0, n1, s1⟩ := law_draw_ok (m := m + 299) (size := 10) (hs.mono (by omega)) (by decide) (by decide)
    refine wF_ex ?_
    rw [wd__law_seen]
    simp! only [wF_of (law_sums_ok (X := tI cs) (.inl rfl) (show cs.length ≤ 16 by omega)), wF_of (othersL h), wF_of (worthL h.rest), wF_of e1]
    rw [w_rng (by decide) (by decide) (by omega) (by omega)]
    refine wL_inv PyData.int (fun r s => ∃ (src' : D) (seen : List (Int × Bool)) (wrong : Bool) (o6 o7 o8 : Option A), seen.length + r.length = (1 + n).toNat ∧ (∀ q ∈ seen, okP q.1) ∧ (wrong = false → agreesZ cs (secZ cs mine) seen = true) ∧ Src (m + 28 * r.length) src' ∧ s = [some (.own true src'), some (.val (stD cs mine)), some (.val (.dict (encZ (sumsZ cs)))), some (.val (.int (secZ cs mine))), some (.val (.tuple (seen.map tS))), some (.val (.bool wrong)), o6, o7, o8]) ?_ ⟨d2, [], false, none, none, none, ?_, by simp, fun _ => rfl, s1.mono ?_, rfl⟩ ?_
    · rintro s ⟨src', seen, wrong, o6, o7, o8, hl, hp, hw, hsr, rfl⟩
      simp! only []
      simp only [List.length_nil, Nat.add_zero] at hl
      exact ⟨seen, wrong, src', rfl, rfl, ⟨by omega, by omega, hp⟩, hw, hsr⟩
    · unfold zRg
      simp
    · unfold zRg
      rw [List.length_map, List.length_range]
      omega
    · rintro t r s - ⟨src', seen, wrong, o6, o7, o8, hl, hp, hw, hsr, rfl⟩
      rw [List.length_cons] at hl hsr
      obtain ⟨p, src2, e2, p0, p1, s2⟩ := law_price_ok (m := m + 28 * r.length + 2) h (hsr.mono (by omega))
      obtain ⟨k, src3, e3, k0, k1, s3⟩ := law_draw_ok (m := m + 28 * r.length + 1) (size := 12) (s2.mono (by omega)) (by decide) (by decide)
      have hs3 : Src (m + 28 * r.length) src3 := s3.mono (by omega)
      have hp2 : ∀ b : Bool, ∀ q ∈ seen ++ [(p, b)], okP q.1 := fun b q hq => by
        rcases List.mem_append.mp hq with hq | hq
        · exact hp q hq
        · rw [List.mem_singleton] at hq
          subst hq
          exact ⟨p0, p1⟩
      have happ : ∀ b : Bool, PyData.tuple (seen.map tS ++ [.tuple [.int p, .bool b]]) = .tuple ((seen ++ [(p, b)]).map tS) := fun b => by simp
      simp! only [wF_of e2, wF_of e3]
      by_cases hk : k = 0
      · simp! only [deT hk]
        rw [wLim_of (by simp only [List.length_map, List.length_cons, List.length_nil]; omega), happ]
        exact ⟨src3, _, true, _, _, _, by rw [List.length_append, List.length_cons, List.length_nil]; omega, hp2 _, (fun e => by cases e), hs3, rfl⟩
      · simp! only [deF hk]
        rw [wLim_of (by simp only [List.length_map, List.length_cons, List.length_nil]; omega), happ]
        refine ⟨src3, _, wrong, _, _, _, by rw [List.length_append, List.length_cons, List.length_nil]; omega, hp2 _, (fun e => ?_), hs3, rfl⟩
        unfold agreesZ at *
        rw [List.all_append, hw e]
        simp
  obtain ⟨r, o', he, seen, wrong, d', rfl, rfl, a, b, c⟩ := hg
  exact ⟨seen, wrong, d', he, a, b, c⟩
theorem sec_reach {cs mine : List Int} (h : OkS cs mine) : Reach cs (secZ cs mine) := reach_perm (split_perm h) (by
    have := reach_append (reach_zero (mine.map (atZ cs))) (reach_all ((othersZ cs.length mine).map (atZ cs)))
    rw [Int.zero_add] at this
    exact this)
theorem mem_possible {cs mine : List Int} (h : OkS cs mine) (seen : List (Int × Bool)) : secZ cs mine ∈ possibleZ cs seen ↔ agreesZ cs (secZ cs mine) seen = true := by
  unfold possibleZ
  rw [List.mem_filter, mem_reachL]
  exact ⟨fun h => h.2, fun hh => ⟨sec_reach h, hh⟩⟩
theorem agrees_nil (cs : List Int) (k : Int) (seen : List (Int × Bool)) : decide ((seen.filter fun q => decide (inS cs (q.1 + k) ≠ q.2)).map (fun _ => PyData.int 1) = []) = agreesZ cs k seen := by
  unfold agreesZ
  rw [Bool.eq_iff_iff, decide_eq_true_eq, List.map_eq_nil_iff, List.filter_eq_nil_iff, List.all_eq_true]
  simp
theorem gSl_tI (l : List (List Int)) (k : Nat) : gSl (.list (l.map tI)) none (some (k : Int)) = some (.fresh (.list ((l.take k).map tI))) := by
  have h0 : ¬ ((k : Int) < 0) := by omega
  have hs : sliceIx (l.map tI).length (l.map tI).length (some (k : Int)) = min k (l.map tI).length := by
    unfold sliceIx
    simp only [if_neg h0, Int.toNat_natCast]
  show some (RV.fresh (.list (cutD (l.map tI) 0 (sliceIx (l.map tI).length (l.map tI).length (some (k : Int)))))) = _
  rw [hs]
  unfold cutD
  rw [List.drop_zero, Nat.sub_zero, List.map_take]
  congr 3
  rw [List.length_map]
  by_cases hk : k ≤ l.length
  · rw [Nat.min_eq_left hk]
  · rw [Nat.min_eq_right (by omega), List.take_of_length_le (by simp), List.take_of_length_le (by simp; omega)]
theorem gSl_40 (l : List (List Int)) : gSl (.list (l.map tI)) none (some 40) = some (.fresh (.list ((l.take 40).map tI))) := gSl_tI l 40
theorem hval (ns : List Int) (hn : ns.length ≤ 63) : f_law none [.list (ns.map PyData.int)] = .ok (.val (.bool true), none) := by
  have f1 : f_possible_totals none [.tuple [.int 5], .tuple [.tuple [.int 5, .bool true]]] = .ok (.fresh (.list [.int 0]), none) := by
    have h := possible_totals_ok (cs := [5]) (mine := []) ⟨by decide, by decide, by decide, by decide, by decide⟩ (seen := [(5, true)]) ⟨by decide, by decide, fun q hq => by rw [List.mem_singleton] at hq; subst hq; exact ⟨by decide, by decide⟩⟩
    have e : possibleZ [5] [(5, true)] = [0] := lt_uniq ((reachL_lt _).filter _) (by decide) fun x => by
      have hc : (countsZ [5]).map (·.1) = [0, 5] := by decide
      have hin : ∀ k, inS [5] k = true ↔ k = 0 ∨ k = 5 := fun k => by
        rw [inS_iff, ← mem_reachL]
        unfold reachL
        rw [mem_sortZ, hc]
        simp
      unfold possibleZ agreesZ
      rw [List.mem_filter, mem_reachL, ← inS_iff, hin]
      simp only [List.all_cons, List.all_nil, Bool.and_true, decide_eq_true_eq, hin, List.mem_singleton]
      omega
    rw [e] at h
    exact h
  have fin : gEq (.list [.int 0]) (.list [.int 0]) = some (.val (.bool true)) := id rfl
  apply wF_eq
  rw [wd_law]
  simp! only []
  rw [w_head hn (k := 8) (n := 8) rfl]
  simp! only []
  refine wL_inv PyData.int (fun _ s => ∃ o1 o2 o3 o4 o5 o6 o7 o8 o9 o10 o11 o12 o13 o14, s = [some (.val (.list (ns.map .int))), o1, o2, o3, o4, o5, o6, o7, o8, o9, o10, o11, o12, o13, o14, none, none]) ?_ ⟨_, _, _, _, _, _, _, _, _, _, _, _, _, _, rfl⟩ ?_
  · rintro s ⟨o1, o2, o3, o4, o5, o6, o7, o8, o9, o10, o11, o12, o13, o14, rfl⟩
    simp! only [wF_of f1, fin]
  · rintro c r s - ⟨o1, o2, o3, o4, o5, o6, o7, o8, o9, o10, o11, o12, o13, o14, rfl⟩
    obtain ⟨src, e1, s1⟩ := law_source_ok c 11 (by decide) (by decide)
    simp! only [wF_of e1]
    refine wL_inv (xs := [7, 12]) PyData.int (fun r s => ∃ (src' : D) (o3 o4 o5 o6 o7 o8 o9 o10 o11 o12 o13 o14 : Option A), Src (2000 + 2000 * r.length) src' ∧ s = [some (.val (.list (ns.map .int))), some (.val (.int c)), some (.own false src'), o3, o4, o5, o6, o7, o8, o9, o10, o11, o12, o13, o14, none, none]) ?_ ⟨src, _, _, _, _, _, _, _, _, _, _, _, _, s1.mono (by decide), rfl⟩ ?_
    · rintro s ⟨src', o3, o4, o5, o6, o7, o8, o9, o10, o11, o12, o13, o14, -, rfl⟩
      exact ⟨_, _, _, _, _, _, _, _, _, _, _, _, _, _, rfl⟩
    · rintro most r2 s hmost ⟨src', o3, o4, o5, o6, o7, o8, o9, o10, o11, o12, o13, o14, hsr, rfl⟩
      have hst : ∃ cs mine d', f__law_state (some src') [.int most] = .ok (.val (stD cs mine), some d') ∧ OkS cs mine ∧ Src (2000 + 2000 * r2.length + 300) d' := by
        simp only [List.mem_cons, List.not_mem_nil, or_false] at hmost
        rw [List.length_cons] at hsr
        rcases hmost with rfl | rfl
        · obtain ⟨cs, mine, d', a, b, _, q⟩ := state_w (m := 2000 + 2000 * r2.length + 300) (n := 7) (most := 7) rfl (by decide) (by decide) (hsr.mono (by omega))
          exact ⟨cs, mine, d', a, b, q⟩
        · obtain ⟨cs, mine, d', a, b, _, q⟩ := state_w (m := 2000 + 2000 * r2.length + 300) (n := 12) (most := 12) rfl (by decide) (by decide) (hsr.mono (by omega))
          exact ⟨cs, mine, d', a, b, q⟩
      obtain ⟨cs, mine, src2, e2, hk, s2⟩ := hst
      obtain ⟨seen, wrong, src3, e3, hse, hwr, s3⟩ := law_seen_ok hk s2
      have h12 := hk.h1
      have hl := reachL_len (cs := cs) (by omega)
      have hsl := sums_len' (cs := cs) (by omega)
      simp! only [wF_of e2, wF_of e3, wF_of (law_sums_ok (X := tI cs) (.inl rfl) (show cs.length ≤ 16 by omega)), gSorted_Z (show (sumsZ cs).length ≤ 1000000 by omega)]
      rw [reachL_sums]
      refine wL_inv PyData.int (fun r s => ∃ (us : List Int) (o10 : Option A), us ++ r = reachL cs ∧ s = [some (.val (.list (ns.map .int))), some (.val (.int c)), some (.own false src3), some (.val (.int most)), some (.val (stD cs mine)), some (.val (tI cs)), some (.val (.tuple (seen.map tS))), some (.val (.bool wrong)), some (.val (.dict (encZ (sumsZ cs)))), some (.own false (.list ((us.filter fun k => agreesZ cs k seen).map .int))), o10, o11, o12, o13, o14, none, none]) ?_ ⟨[], o10, rfl, rfl⟩ ?_
      · rintro s ⟨us, o10, hu, rfl⟩
        rw [List.append_nil] at hu
        subst hu
        rw [show ((reachL cs).filter fun k => agreesZ cs k seen) = possibleZ cs seen from rfl]
        have hpl : (possibleZ cs seen).length ≤ 65536 := Nat.le_trans (List.length_filter_le _ _) hl
        simp! only [wF_of (possible_totals_ok hk hse), wF_of (eq_lI (possibleZ cs seen))]
        have hb : wrong = false → secZ cs mine ∈ possibleZ cs seen := fun e => (mem_possible hk seen).mpr (hwr e)
        have hd : wrong = false → decide (secZ cs mine ∉ possibleZ cs seen) = false := fun e => decide_eq_false fun h => h (hb e)
        by_cases h8 : (cs.length : Int) < 8
        · cases wrong with
          | true =>
            simp! only [wF_of (othersL hk), wF_of (worthL hk.rest), deT h8, w_listRg (i := 0) (j := (cs.length : Int)) (by omega) (by omega) (by omega) (by omega), rangeD_zR, wF_of (law_sets_ok (X := lI (zR cs.length)) (.inr rfl) (by rw [zR_len]; omega)), gSl_40]
            refine wL_inv tI (fun r s => ∃ o12 o13 o14, s = [some (.val (.list (ns.map .int))), some (.val (.int c)), some (.own false src3), some (.val (.int most)), some (.val (stD cs mine)), some (.val (tI cs)), some (.val (.tuple (seen.map tS))), some (.val (.bool true)), some (.val (.dict (encZ (sumsZ cs)))), some (.own false (.list ((possibleZ cs seen).map .int))), o10, some (.own false (.list ((possibleZ cs seen).map .int))), o12, o13, o14, none, none]) ?_ ⟨_, _, _, rfl⟩ ?_
            · rintro s ⟨o12, o13, o14, rfl⟩
              simp! only []
              rw [wLim_of (by omega)]
              simp! only [wF_of (possible_totals_ok hk hse), ne_eq, not_true_eq_false, decide_false]
              exact ⟨src3, _, _, _, _, _, _, _, _, _, _, _, _, s3, rfl⟩
            · rintro l r4 s hl4 ⟨o12, o13, o14, rfl⟩
              have hkl := hk.set (mem_setsOf.mp (List.mem_of_mem_take hl4))
              simp! only []
              refine wC_filter tS (fun q => decide (inS cs (q.1 + secZ cs l) ≠ q.2)) (fun _ => .int 1) trivial (fun q hq => ?_) ?_
              · obtain ⟨q0, q1⟩ := hse.hp q hq
                simp! only [wK, wF_of (can_pay_inS hkl q0 q1)]
                by_cases hh : inS cs (q.1 + secZ cs l) = q.2 <;> simp [wB, hh]
              · have hnl : niceL ((seen.filter fun q => decide (inS cs (q.1 + secZ cs l) ≠ q.2)).map fun _ => PyData.int 1) = true := niceL_map fun _ _ => rfl
                have hda : decide (agreesZ cs (secZ cs l) seen ≠ decide (secZ cs l ∈ possibleZ cs seen)) = false := decide_eq_false fun h => h (by rw [Bool.eq_iff_iff, decide_eq_true_eq, mem_possible hkl])
                simp! only [gEq_nil hnl, agrees_nil, wF_of (othersL hkl), wF_of (worthL hkl.rest), hda]
                exact ⟨_, _, _, rfl⟩
          | false =>
            simp! only [wF_of (othersL hk), wF_of (worthL hk.rest), hd rfl, deT h8, w_listRg (i := 0) (j := (cs.length : Int)) (by omega) (by omega) (by omega) (by omega), rangeD_zR, wF_of (law_sets_ok (X := lI (zR cs.length)) (.inr rfl) (by rw [zR_len]; omega)), gSl_40]
            refine wL_inv tI (fun r s => ∃ o12 o13 o14, s = [some (.val (.list (ns.map .int))), some (.val (.int c)), some (.own false src3), some (.val (.int most)), some (.val (stD cs mine)), some (.val (tI cs)), some (.val (.tuple (seen.map tS))), some (.val (.bool false)), some (.val (.dict (encZ (sumsZ cs)))), some (.own false (.list ((possibleZ cs seen).map .int))), o10, some (.own false (.list ((possibleZ cs seen).map .int))), o12, o13, o14, none, none]) ?_ ⟨_, _, _, rfl⟩ ?_
            · rintro s ⟨o12, o13, o14, rfl⟩
              simp! only []
              rw [wLim_of (by omega)]
              simp! only [wF_of (possible_totals_ok hk hse), ne_eq, not_true_eq_false, decide_false]
              exact ⟨src3, _, _, _, _, _, _, _, _, _, _, _, _, s3, rfl⟩
            · rintro l r4 s hl4 ⟨o12, o13, o14, rfl⟩
              have hkl := hk.set (mem_setsOf.mp (List.mem_of_mem_take hl4))
              simp! only []
              refine wC_filter tS (fun q => decide (inS cs (q.1 + secZ cs l) ≠ q.2)) (fun _ => .int 1) trivial (fun q hq => ?_) ?_
              · obtain ⟨q0, q1⟩ := hse.hp q hq
                simp! only [wK, wF_of (can_pay_inS hkl q0 q1)]
                by_cases hh : inS cs (q.1 + secZ cs l) = q.2 <;> simp [wB, hh]
              · have hnl : niceL ((seen.filter fun q => decide (inS cs (q.1 + secZ cs l) ≠ q.2)).map fun _ => PyData.int 1) = true := niceL_map fun _ _ => rfl
                have hda : decide (agreesZ cs (secZ cs l) seen ≠ decide (secZ cs l ∈ possibleZ cs seen)) = false := decide_eq_false fun h => h (by rw [Bool.eq_iff_iff, decide_eq_true_eq, mem_possible hkl])
                simp! only [gEq_nil hnl, agrees_nil, wF_of (othersL hkl), wF_of (worthL hkl.rest), hda]
                exact ⟨_, _, _, rfl⟩
        · cases wrong with
          | true =>
            simp! only [wF_of (othersL hk), wF_of (worthL hk.rest), deF h8]
            rw [wLim_of (by omega)]
            simp! only [wF_of (possible_totals_ok hk hse), ne_eq, not_true_eq_false, decide_false]
            exact ⟨src3, _, _, _, _, _, _, _, _, _, _, _, _, s3, rfl⟩
          | false =>
            simp! only [wF_of (othersL hk), wF_of (worthL hk.rest), hd rfl, deF h8]
            rw [wLim_of (by omega)]
            simp! only [wF_of (possible_totals_ok hk hse), ne_eq, not_true_eq_false, decide_false]
            exact ⟨src3, _, _, _, _, _, _, _, _, _, _, _, _, s3, rfl⟩
      · rintro k r3 s - ⟨us, o10, hu, rfl⟩
        have hul : us.length + 1 ≤ (reachL cs).length := by
          have := congrArg List.length hu
          rw [List.length_append, List.length_cons] at this
          omega
        simp! only []
        refine wC_filter tS (fun q => decide (inS cs (q.1 + k) ≠ q.2)) (fun _ => .int 1) trivial (fun q hq => ?_) ?_
        · simp! only [wK]
          by_cases hh : inS cs (q.1 + k) = q.2 <;> simp [wB, hh]
        · have hnl : niceL ((seen.filter fun q => decide (inS cs (q.1 + k) ≠ q.2)).map fun _ => PyData.int 1) = true := niceL_map fun _ _ => rfl
          simp! only [gEq_nil hnl, agrees_nil]
          cases ha : agreesZ cs k seen with
          | true =>
            simp! only []
            rw [wLim_of (by have := List.length_filter_le (fun k => agreesZ cs k seen) us; omega)]
            refine ⟨us ++ [k], some (.val (.int k)), by simpa using hu, ?_⟩
            simp [ha]
          | false =>
            simp! only []
            refine ⟨us ++ [k], some (.val (.int k)), by simpa using hu, ?_⟩
            simp [ha]
end KK

end
theorem PySem.Challenge.cw_pooledcoins_k11_whole_possible_totals_holds : PySem.Challenge.rw_pooledcoins_k11_whole_possible_totals.Holds :=
  KK.from_val KK.hval
